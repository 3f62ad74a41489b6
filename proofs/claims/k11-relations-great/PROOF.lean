import PyProof.Rows.All
import Wide.All
import OpenK.AllK
import Wide.FinOn
import HandS.ForMost
import HandS.WordsExc
import HandS.Zip
import HandS.Style
import HandS.TupAny
import HandS.TupMul
import HandS.IsInst
import HandS.WideBits
import HandS.Strs
import KE.GoesMore
import KE.GoesEnum
import HandS.FStr
import HandS.Text
import HandS.RaiseMore
import HandS.Conv
import HandS.SetFor
import KE.KExcSuper
import HandS.ExcInit
import HandS.TryMany
import HandS.ClsMeth
import HandS.OwnEq
import HandS.ExcOwn
import KE.KOpsOwn
import HandS.ExcIs
import HandS.Ends
import PySem.Challenge.RW_waysbyviews_k11_relations_great
section
set_option Elab.async false
set_option linter.all false
set_option maxRecDepth 100000
/-! Data over the hand layer: what stands in the slots is told as data, lists of the def's own are told as owned. -/
namespace Wv
open PySem PySem.Spec PyProof.Rows L2

inductive Da where
  | non | bl (b : Bool) | int (i : Int) | str (x : Str) | lst (xs : List Da) | tup (xs : List Da) | ins (C : Addr) (fs : List (Str × Da)) | cls (C : Addr)

mutual
inductive Dv (K : PySem.W.Frag) (H : Hp) : V → Da → Prop
  | non : Dv K H .non .non
  | bl (b : Bool) : Dv K H (.bl b) (.bl b)
  | int (i : Int) : Dv K H (.int i) (.int i)
  | str (x : Str) : Dv K H (.str x) (.str x)
  | lst {a : Addr} {xs : List V} {ds : List Da} : H a = some (.lst xs) → Dvs K H xs ds → Dv K H (.ref a) (.lst ds)
  | tup {a : Addr} {xs : List V} {ds : List Da} : SqT K H a xs → Dvs K H xs ds → Dv K H (.ref a) (.tup ds)
  | cls (C : Addr) : Dv K H (.ref C) (.cls C)
  | ins {a C dx : Addr} {fs : List (Str × V)} {gs : List (Str × Da)} : H a = some (.ins C dx fs) → Dvf K H fs gs → Dv K H (.ref a) (.ins C gs)
inductive Dvs (K : PySem.W.Frag) (H : Hp) : List V → List Da → Prop
  | nil : Dvs K H [] []
  | cons {v : V} {vs : List V} {d : Da} {ds : List Da} : Dv K H v d → Dvs K H vs ds → Dvs K H (v :: vs) (d :: ds)
inductive Dvf (K : PySem.W.Frag) (H : Hp) : List (Str × V) → List (Str × Da) → Prop
  | nil : Dvf K H [] []
  | cons {f : Str} {v : V} {fs : List (Str × V)} {d : Da} {gs : List (Str × Da)} : Dv K H v d → Dvf K H fs gs → Dvf K H ((f, v) :: fs) ((f, d) :: gs)
end

theorem sqT_same {K : PySem.W.Frag} {H H' : Hp} {a : Addr} {xs : List V} (e : Same H H') (h : SqT K H a xs) : SqT K H' a xs := by
  rcases h with (h | ⟨o, h⟩) | h
  · exact .inl (.inl (e _ _ h))
  · exact .inl (.inr ⟨o, e _ _ h⟩)
  · exact .inr h

section
variable {K : PySem.W.Frag} {H H' : Hp}
mutual
theorem Dv.mono (e : Same H H') : ∀ {v : V} {d : Da}, Dv K H v d → Dv K H' v d
  | _, _, .non => .non
  | _, _, .bl b => .bl b
  | _, _, .int i => .int i
  | _, _, .str x => .str x
  | _, _, .lst h t => .lst (e _ _ h) (Dvs.mono e t)
  | _, _, .tup h t => .tup (sqT_same e h) (Dvs.mono e t)
  | _, _, .cls C => .cls C
  | _, _, .ins h t => .ins (e _ _ h) (Dvf.mono e t)
theorem Dvs.mono (e : Same H H') : ∀ {v : List V} {d : List Da}, Dvs K H v d → Dvs K H' v d
  | _, _, .nil => .nil
  | _, _, .cons h t => .cons (Dv.mono e h) (Dvs.mono e t)
theorem Dvf.mono (e : Same H H') : ∀ {v : List (Str × V)} {d : List (Str × Da)}, Dvf K H v d → Dvf K H' v d
  | _, _, .nil => .nil
  | _, _, .cons h t => .cons (Dv.mono e h) (Dvf.mono e t)
end
theorem Dvs.length : ∀ {vs : List V} {ds : List Da}, Dvs K H vs ds → vs.length = ds.length
  | _, _, .nil => rfl
  | _, _, .cons _ t => congrArg Nat.succ (Dvs.length t)
theorem Dvs.get : ∀ {vs : List V} {ds : List Da} {i : Nat} {d : Da}, Dvs K H vs ds → ds[i]? = some d → ∃ v, vs[i]? = some v ∧ Dv K H v d
  | _, _, 0, _, .cons h _, e => ⟨_, rfl, by cases e; exact h⟩
  | _, _, i + 1, _, .cons _ t, e => Dvs.get (i := i) t e
theorem Dvs.getV : ∀ {vs : List V} {ds : List Da} {i : Nat} {v : V}, Dvs K H vs ds → vs[i]? = some v → ∃ d, ds[i]? = some d ∧ Dv K H v d
  | _, _, 0, _, .cons h _, e => ⟨_, rfl, by cases e; exact h⟩
  | _, _, i + 1, _, .cons _ t, e => Dvs.getV (i := i) t e
theorem Dvs.append : ∀ {vs ws : List V} {ds es : List Da}, Dvs K H vs ds → Dvs K H ws es → Dvs K H (vs ++ ws) (ds ++ es)
  | _, _, _, _, .nil, t => t
  | _, _, _, _, .cons h r, t => .cons h (Dvs.append r t)
theorem Dvs.set {v : V} {d : Da} (h : Dv K H v d) : ∀ {vs : List V} {ds : List Da} (i : Nat), Dvs K H vs ds → Dvs K H (vs.set i v) (ds.set i d)
  | _, _, _, .nil => .nil
  | _, _, 0, .cons _ t => .cons h t
  | _, _, i + 1, .cons q t => .cons q (Dvs.set h i t)
theorem Dvs.drop : ∀ {vs : List V} {ds : List Da} (n : Nat), Dvs K H vs ds → Dvs K H (vs.drop n) (ds.drop n)
  | _, _, 0, t => t
  | _, _, _ + 1, .nil => .nil
  | _, _, n + 1, .cons _ t => Dvs.drop n t
theorem Dvs.take : ∀ {vs : List V} {ds : List Da} (n : Nat), Dvs K H vs ds → Dvs K H (vs.take n) (ds.take n)
  | _, _, 0, _ => .nil
  | _, _, _ + 1, .nil => .nil
  | _, _, n + 1, .cons h t => .cons h (Dvs.take n t)
theorem Dvs.reverse : ∀ {vs : List V} {ds : List Da}, Dvs K H vs ds → Dvs K H vs.reverse ds.reverse
  | _, _, .nil => .nil
  | _, _, .cons h t => by
    rw [List.reverse_cons, List.reverse_cons]
    exact (Dvs.reverse t).append (.cons h .nil)
theorem Dvs.rep {vs : List V} {ds : List Da} (h : Dvs K H vs ds) : ∀ n : Nat, Dvs K H (List.replicate n vs).flatten (List.replicate n ds).flatten
  | 0 => .nil
  | n + 1 => by
    rw [List.replicate_succ, List.replicate_succ, List.flatten_cons, List.flatten_cons]
    exact h.append (Dvs.rep h n)
theorem Dvs.ints : ∀ {vs : List V} {ns : List Int}, Dvs K H vs (ns.map Da.int) → vs = ns.map V.int
  | _, [], .nil => rfl
  | _, n :: ns, .cons h t => by
    cases h
    rw [Dvs.ints t]
    rfl
theorem Dvs.ofInts : ∀ ns : List Int, Dvs K H (ns.map V.int) (ns.map Da.int)
  | [] => .nil
  | n :: ns => .cons (.int n) (Dvs.ofInts ns)
theorem Dvf.look {f : Str} {d : Da} : ∀ {fs : List (Str × V)} {gs : List (Str × Da)}, Dvf K H fs gs → gs.lookup f = some d → ∃ v, fs.lookup f = some v ∧ Dv K H v d
  | _, _, .nil, e => by cases e
  | _, _, .cons (f := g) (v := v) (d := d2) h t, e => by
    rw [List.lookup_cons] at e ⊢
    cases q : (f == g) with
    | true =>
      rw [q] at e
      cases e
      exact ⟨v, rfl, h⟩
    | false =>
      rw [q] at e
      exact Dvf.look t e
end

/-- an object of one's own, that may change: a list, an instance -/
inductive Ob where
  | l (ds : List Da) | o (C dx : Addr) (gs : List (Str × Da))
inductive ObR (K : PySem.W.Frag) (S : Hp) : HO → Ob → Prop
  | l {xs : List V} {ds : List Da} : Dvs K S xs ds → ObR K S (.lst xs) (.l ds)
  | o {C dx : Addr} {fs : List (Str × V)} {gs : List (Str × Da)} : Dvf K S fs gs → ObR K S (.ins C dx fs) (.o C dx gs)
theorem ObR.mono {K : PySem.W.Frag} {S S' : Hp} (e : Same S S') {h : HO} {o : Ob} (r : ObR K S h o) : ObR K S' h o := by
  cases r with
  | l t => exact .l (t.mono e)
  | o t => exact .o (t.mono e)

/-- what stands in a slot -/
inductive SV where
  | any | d (x : Da) | own (o : Ob) | scr (ns : List Int)
def SV.isOwn : SV → Bool
  | .own _ => true
  | _ => false
def nown (ρ : List SV) (i : Nat) : Bool := match ρ[i]? with
  | some s => !s.isOwn
  | none => true
theorem nown_no {ρ : List SV} {i : Nat} {ds : Ob} (h : nown ρ i = true) (e : ρ[i]? = some (.own ds)) : False := by
  unfold nown at h
  rw [e] at h
  cases h

/-- the def's entry: the heap, the shared part of it, the owned lists that were handed in by slot -/
structure En where
  H0 : Hp
  S0 : Hp
  P : Nat → Addr → Prop

structure Rp (K : PySem.W.Frag) (e : En) (S H : Hp) (σ : L2.St) (ρ : List SV) : Prop where
  sub : Same S H
  keep : ∀ b o, e.H0 b = some o → (∀ i, ¬ e.P i b) → H b = some o
  keepS : Same e.S0 S
  new : ∀ b, S b ≠ none → e.S0 b = none → e.H0 b = none
  pas : ∀ i a, e.P i a → H a ≠ none
  par : ∀ (i : Nat) (a : Addr), e.P i a → σ[i]? = some (some (.ref a))
  parO : ∀ (i : Nat) (a : Addr), e.P i a → ∃ ds : Ob, ρ[i]? = some (.own ds)
  dat : ∀ (i : Nat) (x : Da), ρ[i]? = some (.d x) → ∃ v, σ[i]? = some (some v) ∧ Dv K S v x
  own : ∀ (i : Nat) (ds : Ob), ρ[i]? = some (.own ds) → ∃ (l : Addr) (xs : HO), σ[i]? = some (some (.ref l)) ∧ S l = none ∧ H l = some xs ∧ ObR K S xs ds ∧ ((∃ j, e.P j l) ∨ e.H0 l = none)
  inj : ∀ (i j : Nat) (ds es : Ob) (l : Addr), ρ[i]? = some (.own ds) → ρ[j]? = some (.own es) → σ[i]? = some (some (.ref l)) → σ[j]? = some (some (.ref l)) → i = j
  scr : ∀ (i : Nat) (ns : List Int), ρ[i]? = some (.scr ns) → ∃ a : Addr, σ[i]? = some (some (.ref a)) ∧ SqL K S a (ns.map V.int)
  len : σ.length = ρ.length

section
variable {K : PySem.W.Frag} {e : En} {S H : Hp} {σ : L2.St} {ρ : List SV}
theorem Rp.h0 (R : Rp K e S H σ ρ) {p : Addr} (h : H p = none) : e.H0 p = none := by
  cases q : e.H0 p with
  | none => rfl
  | some o =>
    by_cases m : ∃ i, e.P i p
    · obtain ⟨i, m⟩ := m
      exact absurd h (R.pas i p m)
    · have := R.keep p o q (fun i z => m ⟨i, z⟩)
      rw [h] at this
      cases this
theorem Rp.s0 (R : Rp K e S H σ ρ) {p : Addr} (h : H p = none) : S p = none := by
  cases q : S p with
  | none => rfl
  | some o =>
    rw [R.sub p o q] at h
    cases h
theorem same_new {H : Hp} {p : Addr} {o : HO} (h : H p = none) : Same H (upd H p o) := fun b u q => by
  rw [upd_ne (ne_of_none q h)]
  exact q
theorem same_upd2 {S H : Hp} {p : Addr} {o : HO} (h : Same S H) : Same (upd S p o) (upd H p o) := fun b u q => by
  by_cases hb : b = p
  · subst hb
    rw [upd_same] at q ⊢
    exact q
  · rw [upd_ne hb] at q ⊢
    exact h b u q
/-- a new object, shared at once -/
theorem Rp.alloc (R : Rp K e S H σ ρ) {p : Addr} {o : HO} (h : H p = none) : Rp K e (upd S p o) (upd H p o) σ ρ where
  sub := same_upd2 R.sub
  keep := fun b u q m => by
    have := R.keep b u q m
    rw [upd_ne (ne_of_none this h)]
    exact this
  keepS := R.keepS.trans (same_new (R.s0 h))
  new := fun b q z => by
    by_cases hb : b = p
    · rw [hb]
      exact R.h0 h
    · rw [upd_ne hb] at q
      exact R.new b q z
  pas := fun i a m q => by
    by_cases ha : a = p
    · rw [ha, upd_same] at q
      cases q
    · rw [upd_ne ha] at q
      exact R.pas i a m q
  par := R.par
  parO := R.parO
  dat := fun i x q => by
    obtain ⟨v, e1, d⟩ := R.dat i x q
    exact ⟨v, e1, d.mono (same_new (R.s0 h))⟩
  own := fun i ds q => by
    obtain ⟨l, xs, e1, e2, e3, e4, e5⟩ := R.own i ds q
    have ne : l ≠ p := ne_of_none e3 h
    exact ⟨l, xs, e1, by rw [upd_ne ne]; exact e2, by rw [upd_ne ne]; exact e3, e4.mono (same_new (R.s0 h)), e5⟩
  inj := R.inj
  scr := fun i ns q => by
    obtain ⟨a, e1, e2⟩ := R.scr i ns q
    exact ⟨a, e1, (same_new (R.s0 h)).seq e2⟩
  len := R.len
/-- a new object, not shared -/
theorem Rp.allocO (R : Rp K e S H σ ρ) {p : Addr} {o : HO} (h : H p = none) : Rp K e S (upd H p o) σ ρ where
  sub := R.sub.trans (same_new h)
  keep := fun b u q m => by
    have := R.keep b u q m
    rw [upd_ne (ne_of_none this h)]
    exact this
  keepS := R.keepS
  new := R.new
  pas := fun i a m q => by
    by_cases ha : a = p
    · rw [ha, upd_same] at q
      cases q
    · rw [upd_ne ha] at q
      exact R.pas i a m q
  par := R.par
  parO := R.parO
  dat := R.dat
  own := fun i ds q => by
    obtain ⟨l, xs, e1, e2, e3, e4, e5⟩ := R.own i ds q
    have ne : l ≠ p := ne_of_none e3 h
    exact ⟨l, xs, e1, e2, by rw [upd_ne ne]; exact e3, e4, e5⟩
  inj := R.inj
  scr := R.scr
  len := R.len
/-- an unshared list changes -/
theorem Rp.mutFree (R : Rp K e S H σ ρ) {p : Addr} {o : HO} (hs : S p = none) (h0 : e.H0 p = none) (hn : ∀ (i : Nat) (ds : Ob), ρ[i]? = some (.own ds) → σ[i]? ≠ some (some (.ref p))) : Rp K e S (upd H p o) σ ρ where
  sub := fun b u q => by
    rw [upd_ne (ne_of_none q hs)]
    exact R.sub b u q
  keep := fun b u q m => by
    rw [upd_ne (ne_of_none q h0)]
    exact R.keep b u q m
  keepS := R.keepS
  new := R.new
  pas := fun i a m q => by
    by_cases ha : a = p
    · rw [ha, upd_same] at q
      cases q
    · rw [upd_ne ha] at q
      exact R.pas i a m q
  par := R.par
  parO := R.parO
  dat := R.dat
  own := fun i ds q => by
    obtain ⟨l, xs, e1, e2, e3, e4, e5⟩ := R.own i ds q
    have ne : l ≠ p := fun z => hn i ds q (by rw [← z]; exact e1)
    exact ⟨l, xs, e1, e2, by rw [upd_ne ne]; exact e3, e4, e5⟩
  inj := R.inj
  scr := R.scr
  len := R.len
/-- an unshared list is shared from now on -/
theorem Rp.share (R : Rp K e S H σ ρ) {p : Addr} {ob : HO} (hh : H p = some ob) (hs : S p = none) (h0 : e.H0 p = none) (hn : ∀ (i : Nat) (ds : Ob), ρ[i]? = some (.own ds) → σ[i]? ≠ some (some (.ref p))) : Rp K e (upd S p ob) H σ ρ where
  sub := fun b u q => by
    by_cases hb : b = p
    · rw [hb, upd_same] at q
      rw [hb, ← q]
      exact hh
    · rw [upd_ne hb] at q
      exact R.sub b u q
  keep := R.keep
  keepS := R.keepS.trans (same_new hs)
  new := fun b q z => by
    by_cases hb : b = p
    · rw [hb]
      exact h0
    · rw [upd_ne hb] at q
      exact R.new b q z
  pas := R.pas
  par := R.par
  parO := R.parO
  dat := fun i x q => by
    obtain ⟨v, e1, d⟩ := R.dat i x q
    exact ⟨v, e1, d.mono (same_new hs)⟩
  own := fun i ds q => by
    obtain ⟨l, ys, e1, e2, e3, e4, e5⟩ := R.own i ds q
    have ne : l ≠ p := fun z => hn i ds q (by rw [← z]; exact e1)
    exact ⟨l, ys, e1, by rw [upd_ne ne]; exact e2, e3, e4.mono (same_new hs), e5⟩
  inj := R.inj
  scr := fun i ns q => by
    obtain ⟨a, e1, e2⟩ := R.scr i ns q
    exact ⟨a, e1, (same_new hs).seq e2⟩
  len := R.len
theorem Rp.lst (R : Rp K e S H σ ρ) {i : Nat} {ds : List Da} (h : ρ[i]? = some (.own (.l ds))) : ∃ (l : Addr) (xs : List V), σ[i]? = some (some (.ref l)) ∧ S l = none ∧ H l = some (.lst xs) ∧ Dvs K S xs ds ∧ ((∃ j, e.P j l) ∨ e.H0 l = none) := by
  obtain ⟨l, ho, e1, e2, e3, e4, e5⟩ := R.own i _ h
  cases e4 with
  | l e4 => exact ⟨l, _, e1, e2, e3, e4, e5⟩
theorem Rp.obj (R : Rp K e S H σ ρ) {i : Nat} {C dx : Addr} {gs : List (Str × Da)} (h : ρ[i]? = some (.own (.o C dx gs))) : ∃ (l : Addr) (fs : List (Str × V)), σ[i]? = some (some (.ref l)) ∧ S l = none ∧ H l = some (.ins C dx fs) ∧ Dvf K S fs gs ∧ ((∃ j, e.P j l) ∨ e.H0 l = none) := by
  obtain ⟨l, ho, e1, e2, e3, e4, e5⟩ := R.own i _ h
  cases e4 with
  | o e4 => exact ⟨l, _, e1, e2, e3, e4, e5⟩
theorem get_set {α : Type} {l : List α} {i j : Nat} {a b : α} (h : (l.set i a)[j]? = some b) : (j = i ∧ b = a) ∨ (j ≠ i ∧ l[j]? = some b) := by
  by_cases e : j = i
  · subst e
    rw [List.getElem?_set] at h
    split at h
    · split at h
      · cases h
        exact .inl ⟨rfl, rfl⟩
      · cases h
    · rename_i q
      exact absurd rfl q
  · rw [List.getElem?_set_ne (Ne.symm e)] at h
    exact .inr ⟨e, h⟩
theorem set_self {α : Type} {l : List α} {i : Nat} {a b : α} (h : l[i]? = some b) : (l.set i a)[i]? = some a := List.getElem?_set_self (List.getElem?_eq_some_iff.mp h).1
theorem set_other {α : Type} {l : List α} {i j : Nat} {a : α} (h : j ≠ i) : (l.set i a)[j]? = l[j]? := List.getElem?_set_ne (Ne.symm h)
theorem Rp.at (R : Rp K e S H σ ρ) {i : Nat} {w : Option V} {s t : SV} (h : (ρ.set i s)[i]? = some t) : (σ.set i w)[i]? = some w := by
  have hi : i < (ρ.set i s).length := (List.getElem?_eq_some_iff.mp h).1
  rw [List.length_set] at hi
  exact List.getElem?_set_self (by rw [R.len]; exact hi)
/-- a slot is filled with data -/
theorem Rp.set (R : Rp K e S H σ ρ) {i : Nat} {v : V} {x : Da} (hn : nown ρ i = true) (hv : Dv K S v x) : Rp K e S H (σ.set i (some v)) (ρ.set i (.d x)) where
  sub := R.sub
  keep := R.keep
  keepS := R.keepS
  new := R.new
  pas := R.pas
  par := fun j a m => by
    obtain ⟨ds, q⟩ := R.parO j a m
    have ne : j ≠ i := fun z => nown_no hn (z ▸ q)
    rw [set_other ne]
    exact R.par j a m
  parO := fun j a m => by
    obtain ⟨ds, q⟩ := R.parO j a m
    have ne : j ≠ i := fun z => nown_no hn (z ▸ q)
    exact ⟨ds, by rw [set_other ne]; exact q⟩
  dat := fun j y q => by
    rcases get_set q with ⟨rfl, z⟩ | ⟨ne, z⟩
    · cases z
      exact ⟨v, R.at q, hv⟩
    · obtain ⟨u, e1, d⟩ := R.dat j y z
      exact ⟨u, by rw [set_other ne]; exact e1, d⟩
  own := fun j ds q => by
    rcases get_set q with ⟨rfl, z⟩ | ⟨ne, z⟩
    · cases z
    · obtain ⟨l, xs, e1, r⟩ := R.own j ds z
      exact ⟨l, xs, by rw [set_other ne]; exact e1, r⟩
  inj := fun j k ds es l h1 h2 h3 h4 => by
    rcases get_set h1 with ⟨_, z⟩ | ⟨n1, z1⟩
    · cases z
    rcases get_set h2 with ⟨_, z⟩ | ⟨n2, z2⟩
    · cases z
    rw [set_other n1] at h3
    rw [set_other n2] at h4
    exact R.inj j k ds es l z1 z2 h3 h4
  scr := fun j ns q => by
    rcases get_set q with ⟨rfl, z⟩ | ⟨ne, z⟩
    · cases z
    · obtain ⟨a, e1, r⟩ := R.scr j ns z
      exact ⟨a, by rw [set_other ne]; exact e1, r⟩
  len := by rw [List.length_set, List.length_set]; exact R.len
/-- a slot is filled with a list of one's own -/
theorem Rp.setO (R : Rp K e S H σ ρ) {i : Nat} {l : Addr} {xs : HO} {ds : Ob} (hn : nown ρ i = true) (hs : S l = none) (hh : H l = some xs) (hd : ObR K S xs ds) (h0 : e.H0 l = none)
    (hf : ∀ (j : Nat) (es : Ob), ρ[j]? = some (.own es) → σ[j]? ≠ some (some (.ref l))) : Rp K e S H (σ.set i (some (.ref l))) (ρ.set i (.own ds)) where
  sub := R.sub
  keep := R.keep
  keepS := R.keepS
  new := R.new
  pas := R.pas
  par := fun j a m => by
    obtain ⟨es, q⟩ := R.parO j a m
    have ne : j ≠ i := fun z => nown_no hn (z ▸ q)
    rw [set_other ne]
    exact R.par j a m
  parO := fun j a m => by
    obtain ⟨es, q⟩ := R.parO j a m
    have ne : j ≠ i := fun z => nown_no hn (z ▸ q)
    exact ⟨es, by rw [set_other ne]; exact q⟩
  dat := fun j y q => by
    rcases get_set q with ⟨rfl, z⟩ | ⟨ne, z⟩
    · cases z
    · obtain ⟨u, e1, d⟩ := R.dat j y z
      exact ⟨u, by rw [set_other ne]; exact e1, d⟩
  own := fun j es q => by
    rcases get_set q with ⟨rfl, z⟩ | ⟨ne, z⟩
    · cases z
      exact ⟨l, xs, R.at q, hs, hh, hd, .inr h0⟩
    · obtain ⟨l2, ys, e1, r⟩ := R.own j es z
      exact ⟨l2, ys, by rw [set_other ne]; exact e1, r⟩
  inj := fun j k es fs m h1 h2 h3 h4 => by
    rcases get_set h1 with ⟨rfl, z⟩ | ⟨n1, z1⟩
    · rcases get_set h2 with ⟨rfl, _⟩ | ⟨n2, z2⟩
      · rfl
      · rw [R.at h1] at h3
        rw [set_other n2] at h4
        cases h3
        exact absurd h4 (hf k fs z2)
    · rcases get_set h2 with ⟨rfl, _⟩ | ⟨n2, z2⟩
      · rw [R.at h2] at h4
        rw [set_other n1] at h3
        cases h4
        exact absurd h3 (hf j es z1)
      · rw [set_other n1] at h3
        rw [set_other n2] at h4
        exact R.inj j k es fs m z1 z2 h3 h4
  scr := fun j ns q => by
    rcases get_set q with ⟨rfl, z⟩ | ⟨ne, z⟩
    · cases z
    · obtain ⟨a, e1, r⟩ := R.scr j ns z
      exact ⟨a, by rw [set_other ne]; exact e1, r⟩
  len := by rw [List.length_set, List.length_set]; exact R.len
/-- an owned list of slot i changes -/
theorem Rp.mutOwn (R : Rp K e S H σ ρ) {i : Nat} {l : Addr} {ys : HO} {ds es : Ob} (hi : ρ[i]? = some (.own ds)) (hl : σ[i]? = some (some (.ref l))) (hd : ObR K S ys es) : Rp K e S (upd H l ys) σ (ρ.set i (.own es)) := by
  obtain ⟨l', zs, e1, e2, e3, e4, e5⟩ := R.own i ds hi
  rw [hl] at e1
  cases e1
  have hlt : i < ρ.length := (List.getElem?_eq_some_iff.mp hi).1
  have pr : ∀ b u, e.H0 b = some u → (∀ j, ¬ e.P j b) → b ≠ l := fun b u q m z => by
    subst z
    rcases e5 with ⟨j, q5⟩ | q5
    · exact m j q5
    · rw [q5] at q
      cases q
  exact {
    sub := fun b u q => by
      rw [upd_ne (ne_of_none q e2)]
      exact R.sub b u q
    keep := fun b u q m => by
      rw [upd_ne (pr b u q m)]
      exact R.keep b u q m
    keepS := R.keepS
    new := R.new
    pas := fun j a m q => by
      by_cases ha : a = l
      · rw [ha, upd_same] at q
        cases q
      · rw [upd_ne ha] at q
        exact R.pas j a m q
    par := R.par
    parO := fun j a m => by
      by_cases hj : j = i
      · exact ⟨es, by rw [hj]; exact List.getElem?_set_self hlt⟩
      · obtain ⟨fs, q⟩ := R.parO j a m
        exact ⟨fs, by rw [set_other hj]; exact q⟩
    dat := fun j x q => by
      rcases get_set q with ⟨rfl, z⟩ | ⟨ne, z⟩
      · cases z
      · exact R.dat j x z
    own := fun j fs q => by
      rcases get_set q with ⟨rfl, z⟩ | ⟨ne, z⟩
      · cases z
        exact ⟨l, ys, hl, e2, upd_same, hd, e5⟩
      · obtain ⟨m, ws, f1, f2, f3, f4, f5⟩ := R.own j fs z
        have nm : m ≠ l := fun y => ne (R.inj j i fs ds l z hi (by rw [← y]; exact f1) hl)
        exact ⟨m, ws, f1, f2, by rw [upd_ne nm]; exact f3, f4, f5⟩
    inj := fun j k fs gs m h1 h2 h3 h4 => by
      have w : ∀ {j : Nat} {fs : Ob}, (ρ.set i (.own es))[j]? = some (.own fs) → ∃ gs, ρ[j]? = some (.own gs) := fun {j fs} h => by
        rcases get_set h with ⟨rfl, z⟩ | ⟨ne, z⟩
        · exact ⟨_, hi⟩
        · exact ⟨_, z⟩
      obtain ⟨a1, b1⟩ := w h1
      obtain ⟨a2, b2⟩ := w h2
      exact R.inj j k a1 a2 m b1 b2 h3 h4
    scr := fun j ns q => by
      rcases get_set q with ⟨rfl, z⟩ | ⟨ne, z⟩
      · cases z
      · exact R.scr j ns z
    len := by rw [List.length_set]; exact R.len }
/-- the owned list of slot i is shared from now on -/
theorem Rp.pub (R : Rp K e S H σ ρ) {i : Nat} {ds : List Da} (hi : ρ[i]? = some (.own (.l ds))) (hp : ∀ a, ¬ e.P i a) : ∃ S', Rp K e S' H σ (ρ.set i (.d (.lst ds))) ∧ Same S S' := by
  obtain ⟨l, ho, e1, e2, e3, e4, e5⟩ := R.own i _ hi
  cases e4 with
  | @l xs _ e4 =>
  have h0 : e.H0 l = none := by
    rcases e5 with ⟨j, q⟩ | q
    · obtain ⟨fs, qj⟩ := R.parO j l q
      have := R.inj j i fs _ l qj hi (R.par j l q) e1
      subst this
      exact absurd q (hp l)
    · exact q
  have hlt : i < ρ.length := (List.getElem?_eq_some_iff.mp hi).1
  refine ⟨upd S l (.lst xs), ?_, same_new e2⟩
  exact {
    sub := fun b u q => by
      by_cases hb : b = l
      · rw [hb, upd_same] at q
        rw [hb, ← q]
        exact e3
      · rw [upd_ne hb] at q
        exact R.sub b u q
    keep := R.keep
    keepS := R.keepS.trans (same_new e2)
    new := fun b q z => by
      by_cases hb : b = l
      · rw [hb]
        exact h0
      · rw [upd_ne hb] at q
        exact R.new b q z
    pas := R.pas
    par := R.par
    parO := fun j a m => by
      have hj : j ≠ i := fun z => hp a (z ▸ m)
      obtain ⟨fs, q⟩ := R.parO j a m
      exact ⟨fs, by rw [set_other hj]; exact q⟩
    dat := fun j x q => by
      rcases get_set q with ⟨rfl, z⟩ | ⟨ne, z⟩
      · cases z
        exact ⟨_, e1, .lst upd_same (e4.mono (same_new e2))⟩
      · obtain ⟨v, f1, d⟩ := R.dat j x z
        exact ⟨v, f1, d.mono (same_new e2)⟩
    own := fun j fs q => by
      rcases get_set q with ⟨rfl, z⟩ | ⟨ne, z⟩
      · cases z
      · obtain ⟨m, ws, f1, f2, f3, f4, f5⟩ := R.own j fs z
        have nm : m ≠ l := fun y => ne (R.inj j i fs _ l z hi (by rw [← y]; exact f1) e1)
        exact ⟨m, ws, f1, by rw [upd_ne nm]; exact f2, f3, f4.mono (same_new e2), f5⟩
    inj := fun j k fs gs m h1 h2 h3 h4 => by
      rcases get_set h1 with ⟨_, z⟩ | ⟨n1, z1⟩
      · cases z
      rcases get_set h2 with ⟨_, z⟩ | ⟨n2, z2⟩
      · cases z
      exact R.inj j k fs gs m z1 z2 h3 h4
    scr := fun j ns q => by
      rcases get_set q with ⟨rfl, z⟩ | ⟨ne, z⟩
      · cases z
      · obtain ⟨a, f1, r⟩ := R.scr j ns z
        exact ⟨a, f1, (same_new e2).seq r⟩
    len := by rw [List.length_set]; exact R.len }
/-- a slot is forgotten -/
theorem Rp.forget (R : Rp K e S H σ ρ) {i : Nat} {w : Option V} (hp : ∀ a, ¬ e.P i a) : Rp K e S H (σ.set i w) (ρ.set i .any) where
  sub := R.sub
  keep := R.keep
  keepS := R.keepS
  new := R.new
  pas := R.pas
  par := fun j a m => by
    have ne : j ≠ i := fun z => hp a (z ▸ m)
    rw [set_other ne]
    exact R.par j a m
  parO := fun j a m => by
    have ne : j ≠ i := fun z => hp a (z ▸ m)
    obtain ⟨ds, q⟩ := R.parO j a m
    exact ⟨ds, by rw [set_other ne]; exact q⟩
  dat := fun j y q => by
    rcases get_set q with ⟨rfl, z⟩ | ⟨ne, z⟩
    · cases z
    · obtain ⟨u, e1, d⟩ := R.dat j y z
      exact ⟨u, by rw [set_other ne]; exact e1, d⟩
  own := fun j ds q => by
    rcases get_set q with ⟨rfl, z⟩ | ⟨ne, z⟩
    · cases z
    · obtain ⟨l, xs, e1, r⟩ := R.own j ds z
      exact ⟨l, xs, by rw [set_other ne]; exact e1, r⟩
  inj := fun j k ds es l h1 h2 h3 h4 => by
    rcases get_set h1 with ⟨_, z⟩ | ⟨n1, z1⟩
    · cases z
    rcases get_set h2 with ⟨_, z⟩ | ⟨n2, z2⟩
    · cases z
    rw [set_other n1] at h3
    rw [set_other n2] at h4
    exact R.inj j k ds es l z1 z2 h3 h4
  scr := fun j ns q => by
    rcases get_set q with ⟨rfl, z⟩ | ⟨ne, z⟩
    · cases z
    · obtain ⟨a, e1, r⟩ := R.scr j ns z
      exact ⟨a, by rw [set_other ne]; exact e1, r⟩
  len := by rw [List.length_set, List.length_set]; exact R.len

/-! ### another entry -/
/-- the owned lists of a state, by slot -/
def owns (σ : L2.St) (ρ : List SV) : Nat → Addr → Prop := fun i a => ∃ ds, ρ[i]? = some (.own ds) ∧ σ[i]? = some (some (.ref a))
def enOf (H S : Hp) (σ : L2.St) (ρ : List SV) : En := ⟨H, S, owns σ ρ⟩
theorem Rp.enter (R : Rp K e S H σ ρ) : Rp K (enOf H S σ ρ) S H σ ρ where
  sub := R.sub
  keep := fun _ _ q _ => q
  keepS := .refl S
  new := fun b q z => absurd z q
  pas := fun i a m q => by
    obtain ⟨ds, h1, h2⟩ := m
    obtain ⟨l, xs, e1, e2, e3, e4, e5⟩ := R.own i ds h1
    rw [h2] at e1
    cases e1
    rw [q] at e3
    cases e3
  par := fun i a m => by
    obtain ⟨ds, h1, h2⟩ := m
    exact h2
  parO := fun i a m => by
    obtain ⟨ds, h1, h2⟩ := m
    exact ⟨ds, h1⟩
  dat := R.dat
  own := fun i ds q => by
    obtain ⟨l, xs, e1, e2, e3, e4, e5⟩ := R.own i ds q
    exact ⟨l, xs, e1, e2, e3, e4, .inl ⟨i, ds, q, e1⟩⟩
  inj := R.inj
  scr := R.scr
  len := R.len
theorem Rp.leave {S' H' : Hp} {σ' : L2.St} {ρ' : List SV} (R : Rp K e S H σ ρ) (T : Rp K (enOf H S σ ρ) S' H' σ' ρ') : Rp K e S' H' σ' ρ' where
  sub := T.sub
  keep := fun b o q m => by
    refine T.keep b o (R.keep b o q m) fun i z => ?_
    obtain ⟨ds, h1, h2⟩ := z
    obtain ⟨l, xs, e1, e2, e3, e4, e5⟩ := R.own i ds h1
    rw [h2] at e1
    cases e1
    rcases e5 with ⟨j, y⟩ | y
    · exact m j y
    · rw [y] at q
      cases q
  keepS := R.keepS.trans T.keepS
  new := fun b q z => by
    cases y : S b with
    | some o => exact R.new b (by rw [y]; exact fun h => nomatch h) z
    | none => exact R.h0 (T.new b q y)
  pas := fun i a m => T.pas i a (by
    obtain ⟨ds, h1⟩ := R.parO i a m
    exact ⟨ds, h1, R.par i a m⟩)
  par := fun i a m => T.par i a (by
    obtain ⟨ds, h1⟩ := R.parO i a m
    exact ⟨ds, h1, R.par i a m⟩)
  parO := fun i a m => T.parO i a (by
    obtain ⟨ds, h1⟩ := R.parO i a m
    exact ⟨ds, h1, R.par i a m⟩)
  dat := T.dat
  own := fun i ds q => by
    obtain ⟨l, xs, e1, e2, e3, e4, e5⟩ := T.own i ds q
    refine ⟨l, xs, e1, e2, e3, e4, ?_⟩
    rcases e5 with ⟨j, fs, h1, h2⟩ | h
    · obtain ⟨m, ys, f1, f2, f3, f4, f5⟩ := R.own j fs h1
      rw [h2] at f1
      cases f1
      exact f5
    · exact .inr (R.h0 h)
  inj := T.inj
  scr := T.scr
  len := T.len
/-- the same entry, the shared part as it is now -/
theorem Rp.enterS (R : Rp K e S H σ ρ) : Rp K ⟨e.H0, S, e.P⟩ S H σ ρ where
  sub := R.sub
  keep := R.keep
  keepS := .refl S
  new := fun b q z => absurd z q
  pas := R.pas
  par := R.par
  parO := R.parO
  dat := R.dat
  own := R.own
  inj := R.inj
  scr := R.scr
  len := R.len
theorem Rp.leaveS {S' H' : Hp} {σ' : L2.St} {ρ' : List SV} (R : Rp K e S H σ ρ) (T : Rp K ⟨e.H0, S, e.P⟩ S' H' σ' ρ') : Rp K e S' H' σ' ρ' where
  sub := T.sub
  keep := T.keep
  keepS := R.keepS.trans T.keepS
  new := fun b q z => by
    cases y : S b with
    | some o => exact R.new b (by rw [y]; exact fun h => nomatch h) z
    | none => exact T.new b q y
  pas := T.pas
  par := T.par
  parO := T.parO
  dat := T.dat
  own := T.own
  inj := T.inj
  scr := T.scr
  len := T.len
/-- back from a block whose own slots were wiped -/
theorem Rp.back {S' H' : Hp} {σ' : L2.St} {ρ' : List SV} (R : Rp K e S H σ ρ) (T : Rp K e S' H' σ' ρ') (q : Same S S') (h : ∀ (i : Nat) (ds : Ob), ρ[i]? = some (.own ds) → ρ'[i]? = some (.own ds) ∧ σ'[i]? = σ[i]?) : Rp K e S' H' σ ρ where
  sub := T.sub
  keep := T.keep
  keepS := T.keepS
  new := T.new
  pas := T.pas
  par := R.par
  parO := R.parO
  dat := fun i x z => by
    obtain ⟨v, e1, d⟩ := R.dat i x z
    exact ⟨v, e1, d.mono q⟩
  own := fun i ds z => by
    obtain ⟨h1, h2⟩ := h i ds z
    obtain ⟨l, xs, e1, r⟩ := T.own i ds h1
    exact ⟨l, xs, by rw [← h2]; exact e1, r⟩
  inj := R.inj
  scr := fun i ns z => by
    obtain ⟨a, e1, e2⟩ := R.scr i ns z
    exact ⟨a, e1, q.seq e2⟩
  len := R.len
end
end Wv
end
section
set_option Elab.async false
set_option linter.all false
set_option maxRecDepth 100000
namespace Wv
open PySem PySem.Spec PyProof.Rows L2

/-! ### judgements over data -/
def tD (K : PySem.W.Frag) (ρ ρ' : List SV) (x : Da) : TE := fun σ H Q => ∃ e S, Rp K e S H σ ρ ∧ ∀ v S' H', Rp K e S' H' σ ρ' → Same S S' → Dv K S' v x → Q v H'
def tT (K : PySem.W.Frag) (ρ ρ' : List SV) (b : Bool) : TT := fun σ H Q => ∃ e S, Rp K e S H σ ρ ∧ ∀ S' H', Rp K e S' H' σ ρ' → Same S S' → Q b H'
def tAs (K : PySem.W.Frag) (ρ ρ' : List SV) (xs : List Da) : TA := fun σ H Q => ∃ e S, Rp K e S H σ ρ ∧ ∀ vs S' H', Rp K e S' H' σ ρ' → Same S S' → Dvs K S' vs xs → Q vs H'
/-- a list just made, not shared -/
def Fresh (K : PySem.W.Frag) (e : En) (S H : Hp) (σ : L2.St) (ρ : List SV) (l : Addr) (ds : List Da) : Prop :=
  ∃ xs, S l = none ∧ H l = some (.lst xs) ∧ Dvs K S xs ds ∧ e.H0 l = none ∧ ∀ (j : Nat) (es : Ob), ρ[j]? = some (.own es) → σ[j]? ≠ some (some (.ref l))
def tF (K : PySem.W.Frag) (ρ ρ' : List SV) (ds : List Da) : TE := fun σ H Q => ∃ e S, Rp K e S H σ ρ ∧ ∀ l S' H', Rp K e S' H' σ ρ' → Same S S' → Fresh K e S' H' σ ρ' l ds → Q (.ref l) H'
abbrev ED (X : Cx) (e : Expr) (ρ ρ' : List SV) (x : Da) : Prop := PE X e (tD X.K ρ ρ' x)
abbrev FD (X : Cx) (e : Expr) (ρ ρ' : List SV) (ds : List Da) : Prop := PE X e (tF X.K ρ ρ' ds)
abbrev TD (X : Cx) (e : Expr) (ρ ρ' : List SV) (b : Bool) : Prop := PT X e (tT X.K ρ ρ' b)
abbrev AD (X : Cx) (es : List Expr) (ρ ρ' : List SV) (xs : List Da) : Prop := PA X es (tAs X.K ρ ρ' xs)

structure De where
  nx : List SV → Prop
  rt : Da → List SV → Prop
  bk : List SV → Prop := fun _ => False
  ct : List SV → Prop := fun _ => False
  ex : List SV → Value → Prop := fun _ _ => False
  W : WX := fun _ _ _ _ => False
structure Gd (K : PySem.W.Frag) (e : En) (D : De) (Dn : Ends) : Prop where
  nx : ∀ ρ σ S H, D.nx ρ → Rp K e S H σ ρ → Dn.nx σ H
  rt : ∀ x ρ v σ S H, D.rt x ρ → Rp K e S H σ ρ → Dv K S v x → Dn.rt v H
  bk : ∀ ρ σ S H, D.bk ρ → Rp K e S H σ ρ → Dn.bk σ H
  ct : ∀ ρ σ S H, D.ct ρ → Rp K e S H σ ρ → Dn.ct σ H
  p0 : ∀ i a, e.P i a → i = 0
  ex : ∀ ρ c σ S H, D.ex ρ c → Rp K e S H σ ρ → D.W c none σ H
def tS (K : PySem.W.Frag) (ρ : List SV) (D : De) : TS := fun Dn σ H => ∃ e S, Rp K e S H σ ρ ∧ Gd K e D Dn
abbrev SD (X : Cx) (sts : List Stmt) (ρ : List SV) (D : De) : Prop := PSs X sts (tS X.K ρ D)
abbrev S1 (X : Cx) (st : Stmt) (ρ : List SV) (D : De) : Prop := PS X st (tS X.K ρ D)

/-- the context -/
structure Sco (X : Cx) (N : List Str) (sc : Scope) (top : Bool) : Prop where
  n : X.N = N
  s : X.env.scope = sc
  nd : N.Nodup
  calm : X.calm = true
  kind : sc.kind = .function
  po : PassesOwn (model X.prog X.w) X.A X.env X.xe
  fn : top = true → ∀ x, X.fn x = true
theorem Sco.ndX {X : Cx} {N : List Str} {sc : Scope} {b : Bool} (S : Sco X N sc b) : X.N.Nodup := by
  rw [S.n]
  exact S.nd

section
variable {X : Cx} {e : Expr} {te te' : TE}
theorem pe_imp (h : PE X e te) (k : ∀ σ H Q, te' σ H Q → te σ H Q) : PE X e te' := ⟨fun pins s σ H Q I z => h.run pins s σ H Q I (k σ H Q z)⟩
theorem pt_imp {t t' : TT} (h : PT X e t) (k : ∀ σ H Q, t' σ H Q → t σ H Q) : PT X e t' := ⟨fun pins s σ H Q I z => h.run pins s σ H Q I (k σ H Q z)⟩
theorem pa_imp {es : List Expr} {t t' : TA} (h : PA X es t) (k : ∀ σ H Q, t' σ H Q → t σ H Q) : PA X es t' := ⟨fun pos pins s σ H Q I z => h.run pos pins s σ H Q I (k σ H Q z)⟩
theorem ps_imp {st : Stmt} {t t' : TS} (h : PS X st t) (k : ∀ D σ H, t' D σ H → t D σ H) : PS X st t' := ⟨fun pins s σ H D I z => h.run pins s σ H D I (k D σ H z)⟩
theorem pss_imp {st : List Stmt} {t t' : TS} (h : PSs X st t) (k : ∀ D σ H, t' D σ H → t D σ H) : PSs X st t' := ⟨fun pins s σ H D I z => h.run pins s σ H D I (k D σ H z)⟩
theorem pg_imp {t t' : TG} (h : PG X e t) (k : ∀ v σ H Q, t' v σ H Q → t v σ H Q) : PG X e t' := ⟨fun pins s σ H v u Q I r z => h.run pins s σ H v u Q I r (k v σ H Q z)⟩
def aE (X : Cx) (e : Expr) : TE := fun σ H Q => ∃ t, PE X e t ∧ t σ H Q
def aT (X : Cx) (e : Expr) : TT := fun σ H Q => ∃ t, PT X e t ∧ t σ H Q
def aG (X : Cx) (e : Expr) : TG := fun v σ H Q => ∃ t, PG X e t ∧ t v σ H Q
def aS (X : Cx) (sts : List Stmt) : TS := fun D σ H => ∃ t, PSs X sts t ∧ t D σ H
theorem pe_any : PE X e (aE X e) := ⟨fun pins s σ H Q I h => by
  obtain ⟨t, p, q⟩ := h
  exact p.run pins s σ H Q I q⟩
theorem pt_any : PT X e (aT X e) := ⟨fun pins s σ H Q I h => by
  obtain ⟨t, p, q⟩ := h
  exact p.run pins s σ H Q I q⟩
theorem pg_any : PG X e (aG X e) := ⟨fun pins s σ H v u Q I r h => by
  obtain ⟨t, p, q⟩ := h
  exact p.run pins s σ H v u Q I r q⟩
theorem pss_any {sts : List Stmt} : PSs X sts (aS X sts) := ⟨fun pins s σ H D I h => by
  obtain ⟨t, p, q⟩ := h
  exact p.run pins s σ H D I q⟩
end

section
variable {X : Cx} {N : List Str} {sc : Scope} {tp : Bool} {ρ ρ1 ρ2 ρ3 : List SV} {a b c : Expr} {pos : Pos} {x y z : Da}
/-! ### names, constants -/
theorem d_nm (S : Sco X N sc tp) (i : Nat) {n : Str} (hi : ρ[i]? = some (.d x)) (hN : N[i]? = some n := by rfl) (hv : Vis sc n := by first | exact Or.inl rfl | exact Or.inr (Or.inl rfl) | exact Or.inr (Or.inr rfl))
    (hd : (n == ("__debug__" : Str)) = false := by decide) (hcd : (n == ("__classdict__" : Str)) = false := by decide) : ED X (.Name n pos) ρ ρ x :=
  pe_imp (pe_var (i := i) (by rw [S.n]; exact hN) (by rw [S.s]; exact hv) hd hcd) fun σ H Q ⟨e, Sh, R, k⟩ => by
    obtain ⟨v, h1, h2⟩ := R.dat i x hi
    exact ⟨v, h1, k v Sh H R (.refl Sh) h2⟩
theorem tD_c {v : V} {σ : L2.St} {H : Hp} {Q : VK} (h : tD X.K ρ ρ x σ H Q) (d : ∀ S, Dv X.K S v x) : tC v σ H Q := by
  obtain ⟨e, Sh, R, k⟩ := h
  exact k v Sh H R (.refl Sh) (d Sh)
theorem d_int {i : Int} {k : Nat} : ED X (.Constant (.int i) k pos) ρ ρ (.int i) := pe_imp pe_int fun _ _ _ h => tD_c h fun _ => .int i
theorem d_bl {i : Bool} {k : Nat} : ED X (.Constant (.bool i) k pos) ρ ρ (.bl i) := pe_imp pe_bl fun _ _ _ h => tD_c h fun _ => .bl i
theorem d_non {k : Nat} : ED X (.Constant .none k pos) ρ ρ .non := pe_imp pe_non fun _ _ _ h => tD_c h fun _ => .non
theorem d_str {s : Str} {k : Nat} : ED X (.Constant (.str s) k pos) ρ ρ (.str s) := pe_imp pe_str fun _ _ _ h => tD_c h fun _ => .str s
/-- a module's int -/
theorem d_glob {n : Str} {i : Int} {u : Value} (hg : Gl X n) (hm : X.mg n = some u) (r : RelV (.int i) u) (hd : (n == ("__debug__" : Str)) = false := by decide) : ED X (.Name n pos) ρ ρ (.int i) := pe_imp (pe_glob hg hm r hd) fun _ _ _ h => tD_c h fun _ => .int i
theorem d_is (h : ED X a ρ ρ1 x) (e : x = y) : ED X a ρ ρ1 y := by
  rw [← e]
  exact h

/-! ### operators on values -/
/-- what a two-place operation gives on data -/
def RD (K : PySem.W.Frag) (r : R2) (ρ : List SV) (x y z : Da) : Prop := ∀ (e : En) (S H : Hp) (σ : L2.St) (v w : V) (Q : VK), Rp K e S H σ ρ → Dv K S v x → Dv K S w y → (∀ u S' H', Rp K e S' H' σ ρ → Same S S' → Dv K S' u z → Q u H') → r v w H Q
theorem d_op {op : Operator} {r : R2} (ho : OpR X (binaryOp op) r) (hr : RD X.K r ρ2 x y z) (ha : ED X a ρ ρ1 x) (hb : ED X b ρ1 ρ2 y) : ED X (.BinOp a op b pos) ρ ρ2 z :=
  pe_imp (pe_op ho ha hb) fun σ H Q ⟨e, S, R, k⟩ => ⟨e, S, R, fun v S1 H1 R1 q1 d1 => ⟨e, S1, R1, fun w S2 H2 R2 q2 d2 => hr e S2 H2 σ v w Q R2 (d1.mono q2) d2 fun u S3 H3 R3 q3 d3 => k u S3 H3 R3 ((q1.trans q2).trans q3) d3⟩⟩
theorem d_cmp {op : CmpOp} {r : R2} (ho : OpR X (compareOp op) r) (hm : behindInMarks op b = false) (hr : RD X.K r ρ2 x y z) (ha : ED X a ρ ρ1 x) (hb : ED X b ρ1 ρ2 y) : ED X (.Compare a [op] [b] pos) ρ ρ2 z :=
  pe_imp (pe_cmpR ho ha hb hm) fun σ H Q ⟨e, S, R, k⟩ => ⟨e, S, R, fun v S1 H1 R1 q1 d1 => ⟨e, S1, R1, fun w S2 H2 R2 q2 d2 => hr e S2 H2 σ v w Q R2 (d1.mono q2) d2 fun u S3 H3 R3 q3 d3 => k u S3 H3 R3 ((q1.trans q2).trans q3) d3⟩⟩
theorem rd_I0 {g : Int → Int → V} {i j : Int} (h : ∀ S, Dv X.K S (g i j) z) : RD X.K (rI0 g) ρ (.int i) (.int j) z := fun e S H σ v w Q R d1 d2 k => by
  cases d1
  cases d2
  exact ⟨i, j, rfl, rfl, k _ S H R (.refl S) (h S)⟩
theorem rd_I {C : Int → Int → Prop} {g : Int → Int → V} {i j : Int} (hc : C i j) (h : ∀ S, Dv X.K S (g i j) z) : RD X.K (rI C g) ρ (.int i) (.int j) z := fun e S H σ v w Q R d1 d2 k => by
  cases d1
  cases d2
  exact ⟨i, j, rfl, rfl, hc, k _ S H R (.refl S) (h S)⟩
theorem d_add {i j : Int} (ha : ED X a ρ ρ1 (.int i)) (hb : ED X b ρ1 ρ2 (.int j)) : ED X (.BinOp a .Add b pos) ρ ρ2 (.int (i + j)) := d_op op_add (rd_I0 fun _ => .int _) ha hb
theorem d_sub {i j : Int} (ha : ED X a ρ ρ1 (.int i)) (hb : ED X b ρ1 ρ2 (.int j)) : ED X (.BinOp a .Sub b pos) ρ ρ2 (.int (i - j)) := d_op op_sub (rd_I0 fun _ => .int _) ha hb
theorem d_mul {i j : Int} (hc : CMul i j) (ha : ED X a ρ ρ1 (.int i)) (hb : ED X b ρ1 ρ2 (.int j)) : ED X (.BinOp a .Mult b pos) ρ ρ2 (.int (i * j)) := d_op op_mul (rd_I hc fun _ => .int _) ha hb
theorem d_mod {i j : Int} (hc : 0 < j) (ha : ED X a ρ ρ1 (.int i)) (hb : ED X b ρ1 ρ2 (.int j)) : ED X (.BinOp a .Mod b pos) ρ ρ2 (.int (i % j)) := d_op op_mod (rd_I hc fun _ => .int _) ha hb
theorem d_fdiv {i j : Int} (hc : CDiv i j) (ha : ED X a ρ ρ1 (.int i)) (hb : ED X b ρ1 ρ2 (.int j)) : ED X (.BinOp a .FloorDiv b pos) ρ ρ2 (.int (i / j)) := d_op op_fdiv (rd_I hc fun _ => .int _) ha hb
theorem d_shl {i j : Int} (hc : CPow i j) (ha : ED X a ρ ρ1 (.int i)) (hb : ED X b ρ1 ρ2 (.int j)) : ED X (.BinOp a .LShift b pos) ρ ρ2 (.int (i * 2 ^ j.toNat)) := d_op op_shl (rd_I hc fun _ => .int _) ha hb
theorem d_shr {i j : Int} (hc : 0 ≤ j) (ha : ED X a ρ ρ1 (.int i)) (hb : ED X b ρ1 ρ2 (.int j)) : ED X (.BinOp a .RShift b pos) ρ ρ2 (.int (i / 2 ^ j.toNat)) := d_op op_shr (rd_I hc fun _ => .int _) ha hb
theorem d_band {i j : Int} (ha : ED X a ρ ρ1 (.int i)) (hb : ED X b ρ1 ρ2 (.int j)) : ED X (.BinOp a .BitAnd b pos) ρ ρ2 (.int (Builtin.bitAnd i j)) := d_op op_and (rd_I0 fun _ => .int _) ha hb
theorem d_bor {i j : Int} (ha : ED X a ρ ρ1 (.int i)) (hb : ED X b ρ1 ρ2 (.int j)) : ED X (.BinOp a .BitOr b pos) ρ ρ2 (.int (Builtin.bitOr i j)) := d_op op_or (rd_I0 fun _ => .int _) ha hb
theorem d_bxor {i j : Int} (ha : ED X a ρ ρ1 (.int i)) (hb : ED X b ρ1 ρ2 (.int j)) : ED X (.BinOp a .BitXor b pos) ρ ρ2 (.int (Builtin.bitXor i j)) := d_op op_xor (rd_I0 fun _ => .int _) ha hb
/-! comparisons of ints -/
theorem d_lt {i j : Int} (ha : ED X a ρ ρ1 (.int i)) (hb : ED X b ρ1 ρ2 (.int j)) : ED X (.Compare a [.Lt] [b] pos) ρ ρ2 (.bl (decide (i < j))) := d_cmp op_lt (nomark _) (rd_I0 fun _ => .bl _) ha hb
theorem d_le {i j : Int} (ha : ED X a ρ ρ1 (.int i)) (hb : ED X b ρ1 ρ2 (.int j)) : ED X (.Compare a [.LtE] [b] pos) ρ ρ2 (.bl (decide (i ≤ j))) := d_cmp op_le (nomark _) (rd_I0 fun _ => .bl _) ha hb
theorem d_gt {i j : Int} (ha : ED X a ρ ρ1 (.int i)) (hb : ED X b ρ1 ρ2 (.int j)) : ED X (.Compare a [.Gt] [b] pos) ρ ρ2 (.bl (decide (j < i))) := d_cmp op_gt (nomark _) (rd_I0 fun _ => .bl _) ha hb
theorem d_ge {i j : Int} (ha : ED X a ρ ρ1 (.int i)) (hb : ED X b ρ1 ρ2 (.int j)) : ED X (.Compare a [.GtE] [b] pos) ρ ρ2 (.bl (decide (j ≤ i))) := d_cmp op_ge (nomark _) (rd_I0 fun _ => .bl _) ha hb
theorem rd_eqI {i j : Int} : RD X.K rEq ρ (.int i) (.int j) (.bl (decide (i = j))) := fun e S H σ v w Q R d1 d2 k => by
  cases d1
  cases d2
  refine ⟨rfl, ?_⟩
  have h : decide (V.int i = V.int j) = decide (i = j) := by simp
  rw [h]
  exact k _ S H R (.refl S) (.bl _)
theorem rd_neI {i j : Int} : RD X.K rNe ρ (.int i) (.int j) (.bl (!decide (i = j))) := fun e S H σ v w Q R d1 d2 k => by
  cases d1
  cases d2
  refine ⟨rfl, ?_⟩
  have h : decide (V.int i = V.int j) = decide (i = j) := by simp
  rw [h]
  exact k _ S H R (.refl S) (.bl _)
theorem rd_eqS {i j : Str} : RD X.K rEq ρ (.str i) (.str j) (.bl (decide (i = j))) := fun e S H σ v w Q R d1 d2 k => by
  cases d1
  cases d2
  refine ⟨rfl, ?_⟩
  have h : decide (V.str i = V.str j) = decide (i = j) := by simp
  rw [h]
  exact k _ S H R (.refl S) (.bl _)
theorem rd_neS {i j : Str} : RD X.K rNe ρ (.str i) (.str j) (.bl (!decide (i = j))) := fun e S H σ v w Q R d1 d2 k => by
  cases d1
  cases d2
  refine ⟨rfl, ?_⟩
  have h : decide (V.str i = V.str j) = decide (i = j) := by simp
  rw [h]
  exact k _ S H R (.refl S) (.bl _)
theorem d_eqI {i j : Int} (ha : ED X a ρ ρ1 (.int i)) (hb : ED X b ρ1 ρ2 (.int j)) : ED X (.Compare a [.Eq] [b] pos) ρ ρ2 (.bl (decide (i = j))) := d_cmp op_eq (nomark _) rd_eqI ha hb
theorem d_neI {i j : Int} (ha : ED X a ρ ρ1 (.int i)) (hb : ED X b ρ1 ρ2 (.int j)) : ED X (.Compare a [.NotEq] [b] pos) ρ ρ2 (.bl (!decide (i = j))) := d_cmp op_ne (nomark _) rd_neI ha hb
theorem d_eqS {i j : Str} (ha : ED X a ρ ρ1 (.str i)) (hb : ED X b ρ1 ρ2 (.str j)) : ED X (.Compare a [.Eq] [b] pos) ρ ρ2 (.bl (decide (i = j))) := d_cmp op_eq (nomark _) rd_eqS ha hb
theorem d_neS {i j : Str} (ha : ED X a ρ ρ1 (.str i)) (hb : ED X b ρ1 ρ2 (.str j)) : ED X (.Compare a [.NotEq] [b] pos) ρ ρ2 (.bl (!decide (i = j))) := d_cmp op_ne (nomark _) rd_neS ha hb
/-- one-place operators -/
theorem d_un {op : UnaryOp} {r : V → Hp → VK → Prop} (ho : UnR X (unaryOp op) r) (hr : ∀ (e : En) (S H : Hp) (σ : L2.St) (v : V) (Q : VK), Rp X.K e S H σ ρ1 → Dv X.K S v x → (∀ u S' H', Rp X.K e S' H' σ ρ1 → Same S S' → Dv X.K S' u z → Q u H') → r v H Q) (ha : ED X a ρ ρ1 x) : ED X (.UnaryOp op a pos) ρ ρ1 z :=
  pe_imp (pe_un ho ha) fun σ H Q ⟨e, S, R, k⟩ => ⟨e, S, R, fun v S1 H1 R1 q1 d1 => hr e S1 H1 σ v Q R1 d1 fun u S3 H3 R3 q3 d3 => k u S3 H3 R3 (q1.trans q3) d3⟩
theorem d_neg {i : Int} (ha : ED X a ρ ρ1 (.int i)) : ED X (.UnaryOp .USub a pos) ρ ρ1 (.int (-i)) := d_un un_neg (fun e S H σ v Q R d k => by
  cases d
  exact ⟨i, rfl, k _ S H R (.refl S) (.int _)⟩) ha
theorem d_not {i : Bool} (ha : ED X a ρ ρ1 (.bl i)) : ED X (.UnaryOp .Not a pos) ρ ρ1 (.bl (!i)) := pe_imp (pe_not ha) fun σ H Q ⟨e, S, R, k⟩ => ⟨e, S, R, fun v S1 H1 R1 q1 d1 => by
  cases d1
  exact ⟨i, rfl, k _ S1 H1 R1 q1 (.bl _)⟩⟩
/-! ### tests -/
theorem t_val {i : Bool} (ha : ED X a ρ ρ1 (.bl i)) (he : ∀ whole, isTrue a X.env whole = (do let v ← whole; standAt a.pos; holding [v] (truthy v)) := by intro _; rfl) : TD X a ρ ρ1 i := pt_imp (pt_val ha he) fun σ H Q ⟨e, S, R, k⟩ => ⟨e, S, R, fun v S1 H1 R1 q1 d1 => by
  cases d1
  exact ⟨i, rfl, k S1 H1 R1 q1⟩⟩
theorem t_is {i j : Bool} (h : TD X a ρ ρ1 i) (e : i = j) : TD X a ρ ρ1 j := by
  rw [← e]
  exact h
theorem t_not {i : Bool} (h : TD X a ρ ρ1 i) : TD X (.UnaryOp .Not a pos) ρ ρ1 (!i) := pt_imp (pt_not h) fun σ H Q ⟨e, S, R, k⟩ => ⟨e, S, R, fun S1 H1 R1 q1 => k S1 H1 R1 q1⟩
/-- chains of and, or whose parts change nothing -/
abbrev WD (X : Cx) (e : Expr) (ρ : List SV) (b : Bool) : Prop := PW X e (tT X.K ρ ρ b)
theorem pw_imp {e : Expr} {t t' : TT} (h : PW X e t) (k : ∀ σ H Q, t' σ H Q → t σ H Q) : PW X e t' := ⟨fun w pins s σ H Q I z => h.run w pins s σ H Q I (k σ H Q z)⟩
theorem w_and1 {i : Bool} (h : TD X a ρ ρ i) : WD X (.BoolOp .And [a] pos) ρ i := pw_and1 h
theorem w_or1 {i : Bool} (h : TD X a ρ ρ i) : WD X (.BoolOp .Or [a] pos) ρ i := pw_or1 h
theorem w_and {i j : Bool} {r : List Expr} (h : TD X a ρ ρ i) (h2 : i = true → WD X (.BoolOp .And (b :: r) pos) ρ j) : WD X (.BoolOp .And (a :: b :: r) pos) ρ (i && j) := by
  cases i with
  | true => exact pw_imp (pw_and h (h2 rfl)) fun σ H Q ⟨e, S, R, k⟩ => ⟨e, S, R, fun S1 H1 R1 q1 => iteT ⟨e, S1, R1, fun S2 H2 R2 q2 => k S2 H2 R2 (q1.trans q2)⟩⟩
  | false =>
    have hany : PW X (.BoolOp .And (b :: r) pos) (fun _ _ _ => False) := ⟨fun _ _ _ _ _ _ _ z => z.elim⟩
    exact pw_imp (pw_and h hany) fun σ H Q ⟨e, S, R, k⟩ => ⟨e, S, R, fun S1 H1 R1 q1 => iteF (k S1 H1 R1 q1)⟩
theorem w_or {i j : Bool} {r : List Expr} (h : TD X a ρ ρ i) (h2 : i = false → WD X (.BoolOp .Or (b :: r) pos) ρ j) : WD X (.BoolOp .Or (a :: b :: r) pos) ρ (i || j) := by
  cases i with
  | false => exact pw_imp (pw_or h (h2 rfl)) fun σ H Q ⟨e, S, R, k⟩ => ⟨e, S, R, fun S1 H1 R1 q1 => iteF ⟨e, S1, R1, fun S2 H2 R2 q2 => k S2 H2 R2 (q1.trans q2)⟩⟩
  | true =>
    have hany : PW X (.BoolOp .Or (b :: r) pos) (fun _ _ _ => False) := ⟨fun _ _ _ _ _ _ _ z => z.elim⟩
    exact pw_imp (pw_or h hany) fun σ H Q ⟨e, S, R, k⟩ => ⟨e, S, R, fun S1 H1 R1 q1 => iteT (k S1 H1 R1 q1)⟩
/-- and, or as values of truth -/
theorem d_one {i : Bool} {op : BoolOp} (h : ED X a ρ ρ1 (.bl i)) : ED X (.BoolOp op [a] pos) ρ ρ1 (.bl i) := pe_one h
theorem d_and {i j : Bool} {r : List Expr} (h : ED X a ρ ρ (.bl i)) (h2 : i = true → ED X (.BoolOp .And (b :: r) pos) ρ ρ (.bl j)) : ED X (.BoolOp .And (a :: b :: r) pos) ρ ρ (.bl (i && j)) := by
  cases i with
  | true => exact pe_imp (pe_and h (h2 rfl)) fun σ H Q ⟨e, S, R, k⟩ => ⟨e, S, R, fun v S1 H1 R1 q1 d1 => by
      cases d1
      exact ⟨true, rfl, iteT ⟨e, S1, R1, fun u S2 H2 R2 q2 d2 => k u S2 H2 R2 (q1.trans q2) d2⟩⟩⟩
  | false =>
    have hany : PE X (.BoolOp .And (b :: r) pos) (fun _ _ _ => False) := ⟨fun _ _ _ _ _ _ z => z.elim⟩
    exact pe_imp (pe_and h hany) fun σ H Q ⟨e, S, R, k⟩ => ⟨e, S, R, fun v S1 H1 R1 q1 d1 => by
      cases d1
      exact ⟨false, rfl, iteF (k _ S1 H1 R1 q1 (.bl _))⟩⟩
theorem d_or {i j : Bool} {r : List Expr} (h : ED X a ρ ρ (.bl i)) (h2 : i = false → ED X (.BoolOp .Or (b :: r) pos) ρ ρ (.bl j)) : ED X (.BoolOp .Or (a :: b :: r) pos) ρ ρ (.bl (i || j)) := by
  cases i with
  | false => exact pe_imp (pe_or h (h2 rfl)) fun σ H Q ⟨e, S, R, k⟩ => ⟨e, S, R, fun v S1 H1 R1 q1 d1 => by
      cases d1
      exact ⟨false, rfl, iteF ⟨e, S1, R1, fun u S2 H2 R2 q2 d2 => k u S2 H2 R2 (q1.trans q2) d2⟩⟩⟩
  | true =>
    have hany : PE X (.BoolOp .Or (b :: r) pos) (fun _ _ _ => False) := ⟨fun _ _ _ _ _ _ z => z.elim⟩
    exact pe_imp (pe_or h hany) fun σ H Q ⟨e, S, R, k⟩ => ⟨e, S, R, fun v S1 H1 R1 q1 d1 => by
      cases d1
      exact ⟨true, rfl, iteT (k _ S1 H1 R1 q1 (.bl _))⟩⟩

/-! ### arguments, displays -/
theorem a_nil : AD X [] ρ ρ [] := pa_imp pa_nil fun σ H Q ⟨e, S, R, k⟩ => k [] S H R (.refl S) .nil
theorem a_cons {es : List Expr} {xs : List Da} (h : ED X a ρ ρ1 x) (t : AD X es ρ1 ρ2 xs) (hs : starEach (a :: es) X.env = (false, eval a X.env) :: starEach es X.env := by rfl) : AD X (a :: es) ρ ρ2 (x :: xs) :=
  pa_imp (pa_cons h t hs) fun σ H Q ⟨e, S, R, k⟩ => ⟨e, S, R, fun v S1 H1 R1 q1 d1 => ⟨e, S1, R1, fun vs S2 H2 R2 q2 d2 => k _ S2 H2 R2 (q1.trans q2) (.cons (d1.mono q2) d2)⟩⟩
theorem fresh_of {e : En} {S H : Hp} {σ : L2.St} {xs : List V} {ds : List Da} {l : Addr} (R : Rp X.K e S H σ ρ) (hl : H l = none) (d : Dvs X.K S xs ds) : Rp X.K e S (upd H l (.lst xs)) σ ρ ∧ Fresh X.K e S (upd H l (.lst xs)) σ ρ l ds := by
  refine ⟨R.allocO hl, xs, R.s0 hl, upd_same, d, R.h0 hl, fun j es h1 h2 => ?_⟩
  obtain ⟨m, ys, e1, e2, e3, e4, e5⟩ := R.own j es h1
  rw [h2] at e1
  cases e1
  rw [hl] at e3
  cases e3
theorem d_tup {es : List Expr} {xs : List Da} {k : Nat} (h : AD X es ρ ρ1 xs) (hz : xs.length ≤ 1000) : ED X (.Tuple es k pos) ρ ρ1 (.tup xs) :=
  pe_imp (pe_tup h) fun σ H Q ⟨e, S, R, k⟩ => ⟨e, S, R, fun vs S1 H1 R1 q1 d1 => ⟨by rw [d1.length]; exact Nat.le_of_lt (small1000 hz), fun p hp => k _ _ _ (R1.alloc hp) (q1.trans (same_new (R1.s0 hp))) (.tup (.of upd_same) (d1.mono (same_new (R1.s0 hp))))⟩⟩
theorem f_lst {es : List Expr} {xs : List Da} (h : AD X es ρ ρ1 xs) (hz : xs.length ≤ 1000) : FD X (.List es pos) ρ ρ1 xs :=
  pe_imp (pe_lst h) fun σ H Q ⟨e, S, R, k⟩ => ⟨e, S, R, fun vs S1 H1 R1 q1 d1 => ⟨by rw [d1.length]; exact Nat.le_of_lt (small1000 hz), fun p hp => by
    obtain ⟨R2, f⟩ := fresh_of R1 hp d1
    exact k _ _ _ R2 q1 f⟩⟩
/-- a list just made is shared -/
theorem f_d {ds : List Da} (h : FD X a ρ ρ1 ds) : ED X a ρ ρ1 (.lst ds) := pe_imp h fun σ H Q ⟨e, S, R, k⟩ => ⟨e, S, R, fun l S1 H1 R1 q1 f => by
  obtain ⟨xs, f1, f2, f3, f4, f5⟩ := f
  exact k _ _ _ (R1.share f2 f1 f4 f5) (q1.trans (same_new f1)) (.lst upd_same (f3.mono (same_new f1)))⟩
end

/-! ### built-ins, types, by values -/
def RCD (K : PySem.W.Frag) (r : List V → Hp → VK → Prop) (ρ : List SV) (xs : List Da) (z : Da) : Prop := ∀ (e : En) (S H : Hp) (σ : L2.St) (vs : List V) (Q : VK), Rp K e S H σ ρ → Dvs K S vs xs → (∀ u S' H', Rp K e S' H' σ ρ → Same S S' → Dv K S' u z → Q u H') → r vs H Q
def RCF (K : PySem.W.Frag) (r : List V → Hp → VK → Prop) (ρ : List SV) (xs : List Da) (ds : List Da) : Prop := ∀ (e : En) (S H : Hp) (σ : L2.St) (vs : List V) (Q : VK), Rp K e S H σ ρ → Dvs K S vs xs → (∀ l S' H', Rp K e S' H' σ ρ → Same S S' → Fresh K e S' H' σ ρ l ds → Q (.ref l) H') → r vs H Q
section
variable {X : Cx} {N : List Str} {sc : Scope} {tp : Bool} {ρ ρ1 ρ2 ρ3 : List SV} {a b c : Expr} {p pos : Pos} {x y z : Da} {n : Str} {es : List Expr} {xs ds : List Da} {r : List V → Hp → VK → Prop} {id T : String}
theorem d_cb (hc : CallR X (.builtin id) r) (hr : RCD X.K r ρ1 xs z) (hg : Gl X n) (hm : X.mg n = none) (hv : bootBuiltins n = some (.builtin id)) (ha : AD X (a :: es) ρ ρ1 xs) (hn : n ≠ "__name__" := by decide) (hdb : (n == ("__debug__" : Str)) = false := by decide)
    (he : starEach (a :: es) X.env = (false, eval a X.env) :: starEach es X.env := by rfl) (hpl : (backTo pos (starEach es X.env)).any (·.1) = false := by rfl) : ED X (.Call (.Name n p) (a :: es) [] pos) ρ ρ1 z :=
  pe_imp (pe_callB hc hg hm hv ha hn hdb he hpl) fun σ H Q ⟨e, S, R, k⟩ => ⟨e, S, R, fun vs S1 H1 R1 q1 d1 => hr e S1 H1 σ vs Q R1 d1 fun u S2 H2 R2 q2 d2 => k u S2 H2 R2 (q1.trans q2) d2⟩
theorem f_cb (hc : CallR X (.builtin id) r) (hr : RCF X.K r ρ1 xs ds) (hg : Gl X n) (hm : X.mg n = none) (hv : bootBuiltins n = some (.builtin id)) (ha : AD X (a :: es) ρ ρ1 xs) (hn : n ≠ "__name__" := by decide) (hdb : (n == ("__debug__" : Str)) = false := by decide)
    (he : starEach (a :: es) X.env = (false, eval a X.env) :: starEach es X.env := by rfl) (hpl : (backTo pos (starEach es X.env)).any (·.1) = false := by rfl) : FD X (.Call (.Name n p) (a :: es) [] pos) ρ ρ1 ds :=
  pe_imp (pe_callB hc hg hm hv ha hn hdb he hpl) fun σ H Q ⟨e, S, R, k⟩ => ⟨e, S, R, fun vs S1 H1 R1 q1 d1 => hr e S1 H1 σ vs Q R1 d1 fun u S2 H2 R2 q2 d2 => k u S2 H2 R2 (q1.trans q2) d2⟩
theorem d_ct (hc : CallR X (.type T) r) (hr : RCD X.K r ρ1 xs z) (hg : Gl X n) (hm : X.mg n = none) (hv : bootBuiltins n = some (.type T)) (ha : AD X (a :: es) ρ ρ1 xs) (hn : n ≠ "__name__" := by decide) (hdb : (n == ("__debug__" : Str)) = false := by decide)
    (he : starEach (a :: es) X.env = (false, eval a X.env) :: starEach es X.env := by rfl) (hpl : (backTo pos (starEach es X.env)).any (·.1) = false := by rfl) : ED X (.Call (.Name n p) (a :: es) [] pos) ρ ρ1 z :=
  pe_imp (pe_callTy hc hg hm hv ha hn hdb he hpl) fun σ H Q ⟨e, S, R, k⟩ => ⟨e, S, R, fun vs S1 H1 R1 q1 d1 => hr e S1 H1 σ vs Q R1 d1 fun u S2 H2 R2 q2 d2 => k u S2 H2 R2 (q1.trans q2) d2⟩
theorem f_ct (hc : CallR X (.type T) r) (hr : RCF X.K r ρ1 xs ds) (hg : Gl X n) (hm : X.mg n = none) (hv : bootBuiltins n = some (.type T)) (ha : AD X (a :: es) ρ ρ1 xs) (hn : n ≠ "__name__" := by decide) (hdb : (n == ("__debug__" : Str)) = false := by decide)
    (he : starEach (a :: es) X.env = (false, eval a X.env) :: starEach es X.env := by rfl) (hpl : (backTo pos (starEach es X.env)).any (·.1) = false := by rfl) : FD X (.Call (.Name n p) (a :: es) [] pos) ρ ρ1 ds :=
  pe_imp (pe_callTy hc hg hm hv ha hn hdb he hpl) fun σ H Q ⟨e, S, R, k⟩ => ⟨e, S, R, fun vs S1 H1 R1 q1 d1 => hr e S1 H1 σ vs Q R1 d1 fun u S2 H2 R2 q2 d2 => k u S2 H2 R2 (q1.trans q2) d2⟩
/-- len of a list, a tuple -/
theorem rcd_lenL : RCD X.K (fun xs H Q => ∃ p ys, xs = [.ref p] ∧ (SqL X.K H p ys ∨ SqT X.K H p ys) ∧ Q (.int ys.length) H) ρ [.lst ds] (.int (ds.length : Int)) := fun e S H σ vs Q R d k => by
  cases d with
  | cons d t =>
    cases t
    cases d with
    | lst h t =>
      refine ⟨_, _, rfl, .inl (.of (R.sub _ _ h)), ?_⟩
      rw [t.length]
      exact k _ S H R (.refl S) (.int _)
theorem rcd_lenT : RCD X.K (fun xs H Q => ∃ p ys, xs = [.ref p] ∧ (SqL X.K H p ys ∨ SqT X.K H p ys) ∧ Q (.int ys.length) H) ρ [.tup ds] (.int (ds.length : Int)) := fun e S H σ vs Q R d k => by
  cases d with
  | cons d t =>
    cases t
    cases d with
    | tup h t =>
      refine ⟨_, _, rfl, .inr (sqT_same R.sub h), ?_⟩
      rw [t.length]
      exact k _ S H R (.refl S) (.int _)
theorem d_lenL (hg : Gl X "len") (hm : X.mg "len" = none) (h : ED X a ρ ρ1 (.lst ds)) (h1 : starEach [a] X.env = (false, eval a X.env) :: starEach [] X.env := by rfl) : ED X (.Call (.Name "len" p) [a] [] pos) ρ ρ1 (.int (ds.length : Int)) := d_cb call_len_seq rcd_lenL hg hm PySem.boot_len (a_cons h a_nil h1) (he := h1)
theorem d_lenT (hg : Gl X "len") (hm : X.mg "len" = none) (h : ED X a ρ ρ1 (.tup ds)) (h1 : starEach [a] X.env = (false, eval a X.env) :: starEach [] X.env := by rfl) : ED X (.Call (.Name "len" p) [a] [] pos) ρ ρ1 (.int (ds.length : Int)) := d_cb call_len_seq rcd_lenT hg hm PySem.boot_len (a_cons h a_nil h1) (he := h1)
/-- int(n), abs(n), min(m, n) -/
theorem d_toInt {i : Int} (hg : Gl X "int") (hm : X.mg "int" = none) (h : ED X a ρ ρ1 (.int i)) (h1 : starEach [a] X.env = (false, eval a X.env) :: starEach [] X.env := by rfl) : ED X (.Call (.Name "int" p) [a] [] pos) ρ ρ1 (.int i) := d_ct call_int1 (fun e S H σ vs Q R d k => by
  cases d with
  | cons d t =>
    cases t
    cases d
    exact .inl ⟨i, rfl, k _ S H R (.refl S) (.int _)⟩) hg hm (by decide +kernel) (a_cons h a_nil h1) (he := h1)
theorem d_abs {i : Int} (hg : Gl X "abs") (hm : X.mg "abs" = none) (h : ED X a ρ ρ1 (.int i)) (h1 : starEach [a] X.env = (false, eval a X.env) :: starEach [] X.env := by rfl) : ED X (.Call (.Name "abs" p) [a] [] pos) ρ ρ1 (.int (if i < 0 then -i else i)) := d_cb call_abs (fun e S H σ vs Q R d k => by
  cases d with
  | cons d t =>
    cases t
    cases d
    exact ⟨i, rfl, k _ S H R (.refl S) (.int _)⟩) hg hm (by decide +kernel) (a_cons h a_nil h1) (he := h1)
theorem d_min2 {i j : Int} (hg : Gl X "min") (hm : X.mg "min" = none) (hc : X.calm = true) (h : ED X a ρ ρ1 (.int i)) (h2 : ED X b ρ1 ρ2 (.int j)) (h11 : starEach [a, b] X.env = (false, eval a X.env) :: starEach [b] X.env := by rfl) (h12 : starEach [b] X.env = (false, eval b X.env) :: starEach [] X.env := by rfl) : ED X (.Call (.Name "min" p) [a, b] [] pos) ρ ρ2 (.int (if j < i then j else i)) := d_cb (call_min2 hc) (fun e S H σ vs Q R d k => by
  cases d with
  | cons d t =>
    cases t with
    | cons d2 t =>
      cases t
      cases d
      cases d2
      exact ⟨i, j, rfl, k _ S H R (.refl S) (.int _)⟩) hg hm (by decide +kernel) (a_cons h (a_cons h2 a_nil h12) h11) (he := h11) (hpl := by rw [h12]; rfl)
/-- tuple(list just made), tuple(shared list), list(..) -/
theorem rcd_tup : RCD X.K (fun xs H Q => ∃ p ys, xs = [.ref p] ∧ ((SqL X.K H p ys ∧ ∀ l, H l = none → Q (.ref l) (upd H l (.tup ys))) ∨ (SqT X.K H p ys ∧ Q (.ref p) H))) ρ [.lst ds] (.tup ds) := fun e S H σ vs Q R d k => by
  cases d with
  | cons d t =>
    cases t
    cases d with
    | @lst a0 ys ds h t =>
      refine ⟨_, _, rfl, .inl ⟨.of (R.sub _ _ h), fun l hl => ?_⟩⟩
      have q := same_new (o := .tup ys) (R.s0 hl)
      exact k _ _ _ (R.alloc hl) q (.tup (.of upd_same) (t.mono q))
theorem d_tuple (hg : Gl X "tuple") (hm : X.mg "tuple" = none) (h : ED X a ρ ρ1 (.lst ds)) (h1 : starEach [a] X.env = (false, eval a X.env) :: starEach [] X.env := by rfl) : ED X (.Call (.Name "tuple" p) [a] [] pos) ρ ρ1 (.tup ds) := d_ct call_tuple_of rcd_tup hg hm (by decide +kernel) (a_cons h a_nil h1) (he := h1)
theorem rcf_list : RCF X.K (fun xs H Q => ∃ p ys, xs = [.ref p] ∧ (SqL X.K H p ys ∨ SqT X.K H p ys) ∧ ∀ l, H l = none → Q (.ref l) (upd H l (.lst ys))) ρ [.lst ds] ds := fun e S H σ vs Q R d k => by
  cases d with
  | cons d t =>
    cases t
    cases d with
    | lst h t =>
      refine ⟨_, _, rfl, .inl (.of (R.sub _ _ h)), fun l hl => ?_⟩
      obtain ⟨R2, f⟩ := fresh_of R hl t
      exact k _ _ _ R2 (.refl S) f
theorem rcf_listT : RCF X.K (fun xs H Q => ∃ p ys, xs = [.ref p] ∧ (SqL X.K H p ys ∨ SqT X.K H p ys) ∧ ∀ l, H l = none → Q (.ref l) (upd H l (.lst ys))) ρ [.tup ds] ds := fun e S H σ vs Q R d k => by
  cases d with
  | cons d t =>
    cases t
    cases d with
    | tup h t =>
      refine ⟨_, _, rfl, .inr (sqT_same R.sub h), fun l hl => ?_⟩
      obtain ⟨R2, f⟩ := fresh_of R hl t
      exact k _ _ _ R2 (.refl S) f
theorem f_list (hg : Gl X "list") (hm : X.mg "list" = none) (h : ED X a ρ ρ1 (.lst ds)) (h1 : starEach [a] X.env = (false, eval a X.env) :: starEach [] X.env := by rfl) : FD X (.Call (.Name "list" p) [a] [] pos) ρ ρ1 ds := f_ct call_list_of rcf_list hg hm (by decide +kernel) (a_cons h a_nil h1) (he := h1)
theorem f_listT (hg : Gl X "list") (hm : X.mg "list" = none) (h : ED X a ρ ρ1 (.tup ds)) (h1 : starEach [a] X.env = (false, eval a X.env) :: starEach [] X.env := by rfl) : FD X (.Call (.Name "list" p) [a] [] pos) ρ ρ1 ds := f_ct call_list_of rcf_listT hg hm (by decide +kernel) (a_cons h a_nil h1) (he := h1)
end
end Wv
end
section
set_option Elab.async false
set_option linter.all false
set_option maxRecDepth 100000
namespace Wv
open PySem PySem.Spec PyProof.Rows L2

/-! ### promises over data -/
structure Rets (S H S' H' : Hp) : Prop where
  ss : Same S S'
  sub : Same S' H'
  hh : Same H H'
  new : ∀ b, S' b ≠ none → S b = none → H b = none
/-- data in, data out; nothing that stood is changed -/
def spD (K : PySem.W.Frag) (R : List Da → Da → Prop) : Sp := fun vs H Q _ => ∃ S ds d, Same S H ∧ Dvs K S vs ds ∧ R ds d ∧ ∀ v S' H', Rets S H S' H' → Dv K S' v d → Q v H'
/-- the first argument is a list of the caller's own, which is changed -/
def spM (K : PySem.W.Frag) (R : List Da → List Da → Da → List Da → Prop) : Sp := fun vs H Q _ => ∃ S l ws xs ms ds d ms', vs = .ref l :: ws ∧ Same S H ∧ S l = none ∧ H l = some (.lst xs) ∧ Dvs K S xs ms ∧ Dvs K S ws ds ∧ R ms ds d ms' ∧
  ∀ v S' H' ys, Same S S' → Same S' H' → S' l = none → H' l = some (.lst ys) → Dvs K S' ys ms' → (∀ b o, b ≠ l → H b = some o → H' b = some o) → (∀ b, S' b ≠ none → S b = none → H b = none) → Dv K S' v d → Q v H'

section
variable {K : PySem.W.Frag} {e : En} {S H S' H' : Hp} {σ : L2.St} {ρ : List SV}
theorem Rp.called (R : Rp K e S H σ ρ) (r : Rets S H S' H') : Rp K e S' H' σ ρ where
  sub := r.sub
  keep := fun b o q m => r.hh b o (R.keep b o q m)
  keepS := R.keepS.trans r.ss
  new := fun b q z => by
    cases y : S b with
    | some o => exact R.new b (by rw [y]; exact fun h => nomatch h) z
    | none => exact R.h0 (r.new b q y)
  pas := fun i a m q => by
    cases y : H a with
    | none => exact R.pas i a m y
    | some o =>
      rw [r.hh a o y] at q
      cases q
  par := R.par
  parO := R.parO
  dat := fun i x z => by
    obtain ⟨v, e1, d⟩ := R.dat i x z
    exact ⟨v, e1, d.mono r.ss⟩
  own := fun i ds z => by
    obtain ⟨l, xs, e1, e2, e3, e4, e5⟩ := R.own i ds z
    refine ⟨l, xs, e1, ?_, r.hh _ _ e3, e4.mono r.ss, e5⟩
    cases y : S' l with
    | none => rfl
    | some o =>
      have := r.new l (by rw [y]; exact fun h => nomatch h) e2
      rw [e3] at this
      cases this
  inj := R.inj
  scr := fun i ns z => by
    obtain ⟨a, e1, e2⟩ := R.scr i ns z
    exact ⟨a, e1, r.ss.seq e2⟩
  len := R.len
/-- behind a call that changed the owned list of slot i -/
theorem Rp.calledM (R : Rp K e S H σ ρ) {i : Nat} {l : Addr} {ms ms' : Ob} {ys : HO} (hi : ρ[i]? = some (.own ms)) (hl : σ[i]? = some (some (.ref l))) (ss : Same S S') (sub : Same S' H') (sl : S' l = none) (hy : H' l = some ys)
    (hd : ObR K S' ys ms') (hh : ∀ b o, b ≠ l → H b = some o → H' b = some o) (new : ∀ b, S' b ≠ none → S b = none → H b = none) : Rp K e S' H' σ (ρ.set i (.own ms')) := by
  obtain ⟨l', zs, e1, e2, e3, e4, e5⟩ := R.own i ms hi
  rw [hl] at e1
  cases e1
  have hlt : i < ρ.length := (List.getElem?_eq_some_iff.mp hi).1
  exact {
    sub := sub
    keep := fun b o q m => by
      refine hh b o (fun z => ?_) (R.keep b o q m)
      subst z
      rcases e5 with ⟨j, q5⟩ | q5
      · exact m j q5
      · rw [q5] at q
        cases q
    keepS := R.keepS.trans ss
    new := fun b q z => by
      cases y : S b with
      | some o => exact R.new b (by rw [y]; exact fun h => nomatch h) z
      | none => exact R.h0 (new b q y)
    pas := fun j a m q => by
      by_cases ha : a = l
      · rw [ha, hy] at q
        cases q
      · cases y : H a with
        | none => exact R.pas j a m y
        | some o =>
          rw [hh a o ha y] at q
          cases q
    par := R.par
    parO := fun j a m => by
      by_cases hj : j = i
      · exact ⟨_, by rw [hj]; exact List.getElem?_set_self hlt⟩
      · obtain ⟨fs, q⟩ := R.parO j a m
        exact ⟨fs, by rw [set_other hj]; exact q⟩
    dat := fun j x q => by
      rcases get_set q with ⟨rfl, z⟩ | ⟨ne, z⟩
      · cases z
      · obtain ⟨v, f1, d⟩ := R.dat j x z
        exact ⟨v, f1, d.mono ss⟩
    own := fun j fs q => by
      rcases get_set q with ⟨rfl, z⟩ | ⟨ne, z⟩
      · cases z
        exact ⟨l, ys, hl, sl, hy, hd, e5⟩
      · obtain ⟨m, ws, f1, f2, f3, f4, f5⟩ := R.own j fs z
        have nm : m ≠ l := fun y => ne (R.inj j i fs _ l z hi (by rw [← y]; exact f1) hl)
        refine ⟨m, ws, f1, ?_, hh _ _ nm f3, f4.mono ss, f5⟩
        cases y : S' m with
        | none => rfl
        | some o =>
          have := new m (by rw [y]; exact fun h => nomatch h) f2
          rw [f3] at this
          cases this
    inj := fun j k fs gs m h1 h2 h3 h4 => by
      have w : ∀ {j : Nat} {fs : Ob}, (ρ.set i (.own ms'))[j]? = some (.own fs) → ∃ gs, ρ[j]? = some (.own gs) := fun {j fs} h => by
        rcases get_set h with ⟨rfl, z⟩ | ⟨ne, z⟩
        · exact ⟨_, hi⟩
        · exact ⟨_, z⟩
      obtain ⟨a1, b1⟩ := w h1
      obtain ⟨a2, b2⟩ := w h2
      exact R.inj j k a1 a2 m b1 b2 h3 h4
    scr := fun j ns q => by
      rcases get_set q with ⟨rfl, z⟩ | ⟨ne, z⟩
      · cases z
      · obtain ⟨a, f1, f2⟩ := R.scr j ns z
        exact ⟨a, f1, ss.seq f2⟩
    len := by rw [List.length_set]; exact R.len }
end

/-! ### a def with the guards told: for repr -/
structure FnG (P : Program) (w : World) (K : PySem.W.Frag) (mg : Str → Option Value) (base : Heap) (CX : CXT) (k : Nat) (f : Addr) (fd : FuncData) (ps : List Str) (sp : Sp) : Prop where
  len : ∀ vs H Q E, sp vs H Q E → vs.length = ps.length
  run : ∀ (A : Around) (outer : List Env) (s : Shared) (H : Hp) (args : Args) (us : List Value) (vs : List V) (Q : VK) (E : XK), Room k A → A.guards = some [] → Env0 P w K mg base A outer s H → BindsTo s fd args (ps.zip us) → Vals vs us →
    sp vs H Q E → codeAny (model P w) A (.call (.ref f) args) (CR CX outer P w H s Q E) s
theorem toG {P : Program} {w : World} {K : PySem.W.Frag} {mg : Str → Option Value} {base : Heap} {CX : CXT} {k : Nat} {f : Addr} {fd : FuncData} {ps : List Str} {sp : Sp} (F : FnOk P w K mg base CX k f fd ps sp) : FnG P w K mg base CX k f fd ps sp :=
  ⟨F.len, fun A outer s H args us vs Q E hr _ e0 hb r h => F.run A outer s H args us vs Q E hr e0 hb r h⟩
theorem FnG.mono {P : Program} {w : World} {K : PySem.W.Frag} {mg : Str → Option Value} {base : Heap} {CX : CXT} {j k : Nat} {f : Addr} {fd : FuncData} {ps : List Str} {sp : Sp} (F : FnG P w K mg base CX j f fd ps sp) (h : j ≤ k) : FnG P w K mg base CX k f fd ps sp :=
  ⟨F.len, fun A outer s H args us vs Q E hr hg => F.run A outer s H args us vs Q E (hr.mono h) hg⟩
section
variable {X : Cx} {CX : CXT} {k : Nat} {f : Addr} {fd : FuncData} {ps : List Str} {sp : Sp} {E : XK} {n : Str} {p pos : Pos} {a : Expr} {es : List Expr} {t : TA}
theorem peG_call (F : FnG X.prog X.w X.K X.mg X.base CX k f fd ps sp) (hr : Room k X.A) (hgd : X.A.guards = some []) (hg : Gl X n) (hm : X.mg n = some (.ref f)) (hk : PySem.W.keepIn X.K (.ref f) = true) (hb : Binds X.K fd ps []) (hx : Passes CX X E)
    (ha : PA X (a :: es) t) (hdb : (n == ("__debug__" : Str)) = false := by decide) (he : starEach (a :: es) X.env = (false, eval a X.env) :: starEach es X.env := by rfl) (hpl : (backTo pos (starEach es X.env)).any (·.1) = false := by rfl) :
    PE X (.Call (.Name n p) (a :: es) [] pos) (fun σ H Q => t σ H fun vs H1 => sp vs H1 Q E) := by
  refine ⟨fun pins s σ H Q I h => ?_⟩
  refine wpAny_Call_Name_kw (ld_glob I hg hm ?_ hdb)
  refine PySem.W.callWith_K (h₀ := X.base) I.ok.mod.kin hk (thn (ha.run pos pins s σ H _ I h) fun us s1 q1 => ?_) he hpl
  obtain ⟨vs, H1, I1, r, q⟩ := q1
  refine ⟨I1.kIn, ?_⟩
  have hl : us.length = ps.length := by
    rw [← Paired.length r]
    exact F.len _ _ _ _ q
  have hbb : BindsTo s1 fd ⟨us, []⟩ (ps.zip us) := by
    have := hb s1 us I1.kIn (by rw [List.append_nil]; exact hl)
    rwa [List.append_nil] at this
  refine wpAny_call (codeAny_mono (F.run X.A X.stack s1 H1 ⟨us, []⟩ us vs Q E hr hgd I1.env0 hbb r q) fun rs s' hq => ?_)
  cases rs with
  | error er => exact hx pins σ H1 s1 er s' I1 hq
  | ok fl =>
    cases fl with
    | ret u => exact I1.after hq
    | next => cases hq
    | brk => cases hq
    | cont => cases hq
end
section
variable {P : Program} {w : World} {K : PySem.W.Frag} {mg : Str → Option Value} {base : Heap}
/-- a def by its body, the guards told -/
theorem okG {x qual : Str} {st : Stmt} {f : Addr} {fd : FuncData} {N ps : List Str} {k : Nat} {sp : Sp} (F : Fun K x qual st f fd) (S : FnScope N ps (defScope st)) (len : ∀ vs H Q E, sp vs H Q E → vs.length = ps.length)
    (hbody : ∀ (cdv : Value) (A : Around) (outer : List Env) (s : Shared) (H : Hp) (vs : List V) (Q : VK) (E : XK), Room k (A.deeper (envOfC qual (defScope st) s.heap.objs.size f cdv)) → (A.deeper (envOfC qual (defScope st) s.heap.objs.size f cdv)).guards = some [] → sp vs H Q E →
      ∃ t, PSs (cxOf CX0 P w K mg base N qual (defScope st) f cdv A outer s H E).nox (defBody st) t ∧ t { nx := fun _ H' => Q .non H', rt := Q } (start N vs) H) : FnG P w K mg base CX0 (k + 1) f fd ps sp := by
  obtain ⟨oc, od, kV, doc, pm, an, cdv, ct, osl, rfl, lk, hcd⟩ := F.ex
  refine ⟨len, fun A outer s H args us vs Q E hr hgd e0 hb r hsp => ?_⟩
  have KX : K.In s.heap := e0.mod.kin.keeps fun b o q => (e0.bs b o q).1
  have lim : s.heap.NoLimit := e0.mod.nolimit.keeps fun b o q => (e0.bs b o q).1
  have hkind : ∀ y ∈ ps.zip us, (defScope st).names.lookup y.1 = some .local ∨ ((defScope st).names.lookup y.1 = some .cell ∧ ((cellsFrom (s.heap.objs.size + 1) (defScope st).names []).lookup y.1).isSome = true) := fun y hy => by
    rcases S.par y.1 (List.of_mem_zip hy).1 with q | q
    · exact .inl q
    · exact .inr ⟨q, PySem.W.cellsFrom_some _ _ _ (.inl q)⟩
  refine codeAny_call_function hr.depth (KX _ _ lk) rfl S.co S.gen rfl (PySem.W.codeRec_of KX hcd) (hb _ _ _ _ ?_)
  refine wpAny_newFunctionEnv_cells S.kind hkind fun env he s1 hx => ?_
  subst he
  refine ⟨lim.keeps hx.toInCall.keep, codeAny_func ?_⟩
  obtain ⟨t, ht, hq⟩ := hbody cdv A outer s H vs Q E (hr.deeper _) hgd hsp
  have I := inv_start (CX := CX0) (E := E) S hr.hd e0 (len _ _ _ _ hsp) r hx
  refine wpAny_mono (ht.nox.run [] s1 (start N vs) H _ I hq) (fun fl s' hs => ?_) fun _ _ q => q
  cases fl with
  | ret u =>
    obtain ⟨v, σ', H', J, rv, q⟩ := hs
    exact ⟨v, H', J.os, J.bare, J.base, J.hok, rv, q⟩
  | next =>
    obtain ⟨σ', H', J, q⟩ := hs
    exact ⟨.non, H', J.os, J.bare, J.base, J.hok, rfl, q⟩
  | brk =>
    obtain ⟨_, _, _, q⟩ := hs
    cases q
  | cont =>
    obtain ⟨_, _, _, q⟩ := hs
    cases q

/-! ### a def by its body over data -/
def startD (n : Nat) (ds : List Da) : List SV := ds.map SV.d ++ List.replicate (n - ds.length) .any
theorem startD_get {n : Nat} {ds : List Da} {i : Nat} {s : SV} (h : (startD n ds)[i]? = some s) : (∃ d, s = .d d ∧ ds[i]? = some d) ∨ s = .any := by
  unfold startD at h
  by_cases hi : i < ds.length
  · rw [List.getElem?_append_left (by simpa using hi), List.getElem?_map] at h
    obtain ⟨d, h1, h2⟩ := Option.map_eq_some_iff.mp h
    exact .inl ⟨d, h2.symm, h1⟩
  · rw [List.getElem?_append_right (by simpa using hi), List.getElem?_replicate] at h
    split at h
    · cases h
      exact .inr rfl
    · cases h
theorem start_get {N : List Str} {vs : List V} {i : Nat} {v : V} (h : vs[i]? = some v) : (start N vs)[i]? = some (some v) := by
  unfold L2.start
  rw [List.getElem?_append_left (by rw [List.length_map]; exact (List.getElem?_eq_some_iff.mp h).1), List.getElem?_map, h]
  rfl
theorem start_len (N : List Str) (vs : List V) : (start N vs).length = vs.length + (N.length - vs.length) := by
  unfold L2.start
  rw [List.length_append, List.length_map, List.length_replicate]
theorem startD_len (n : Nat) (ds : List Da) : (startD n ds).length = ds.length + (n - ds.length) := by
  unfold startD
  rw [List.length_append, List.length_map, List.length_replicate]
theorem rp_start {N : List Str} {vs : List V} {ds : List Da} {S H : Hp} (h : Same S H) (d : Dvs K S vs ds) : Rp K ⟨H, S, fun _ _ => False⟩ S H (start N vs) (startD N.length ds) where
  sub := h
  keep := fun _ _ q _ => q
  keepS := .refl S
  new := fun b q z => absurd z q
  pas := fun _ _ m => m.elim
  par := fun _ _ m => m.elim
  parO := fun _ _ m => m.elim
  dat := fun i x q => by
    rcases startD_get q with ⟨y, h1, h2⟩ | h1
    · cases h1
      obtain ⟨v, e1, e2⟩ := d.get h2
      exact ⟨v, start_get e1, e2⟩
    · cases h1
  own := fun i es q => by
    rcases startD_get q with ⟨y, h1, h2⟩ | h1
    · cases h1
    · cases h1
  inj := fun i j es fs l q => by
    rcases startD_get q with ⟨y, h1, h2⟩ | h1
    · cases h1
    · cases h1
  scr := fun i ns q => by
    rcases startD_get q with ⟨y, h1, h2⟩ | h1
    · cases h1
    · cases h1
  len := by rw [start_len, startD_len, d.length]
/-- how a def of data ends -/
def DeR (d : Da) : De := { nx := fun _ => d = .non, rt := fun x _ => x = d }
theorem gd_ret {S H : Hp} {d : Da} {Q : VK} (q : ∀ v S' H', Rets S H S' H' → Dv K S' v d → Q v H') : Gd K ⟨H, S, fun _ _ => False⟩ (DeR d) { nx := fun _ H' => Q .non H', rt := Q } := by
  have rr : ∀ {ρ : List SV} {σ : L2.St} {S' H' : Hp}, Rp K ⟨H, S, fun _ _ => False⟩ S' H' σ ρ → Rets S H S' H' := fun {ρ σ S' H'} R => ⟨R.keepS, R.sub, fun b o h => R.keep b o h fun _ z => z, R.new⟩
  refine ⟨fun ρ σ S' H' h R => ?_, fun x ρ v σ S' H' h R dv => ?_, fun _ _ _ _ h => h.elim, fun _ _ _ _ h => h.elim, fun _ _ z => z.elim, fun _ _ _ _ _ h => h.elim⟩
  · have h : d = .non := h
    subst h
    exact q _ S' H' (rr R) .non
  · have h : x = d := h
    subst h
    exact q v S' H' (rr R) dv
/-- the context at a def's entry, for its body -/
structure Top (P : Program) (w : World) (K : PySem.W.Frag) (mg : Str → Option Value) (base : Heap) (X : Cx) : Prop where
  prog : X.prog = P
  w : X.w = w
  K : X.K = K
  mg : X.mg = mg
  base : X.base = base
theorem sco_top {N ps : List Str} {qual : Str} {st : Stmt} {f : Addr} {cdv : Value} {A : Around} {outer : List Env} {s : Shared} {H : Hp} {E : XK} (S : FnScope N ps (defScope st)) :
    Sco (cxOf CX0 P w K mg base N qual (defScope st) f cdv A outer s H E).nox N (defScope st) true := ⟨rfl, rfl, S.nd, rfl, S.kind, PassesOwn.never, fun _ _ => rfl⟩
theorem fn_d {x qual : Str} {st : Stmt} {f : Addr} {fd : FuncData} {N ps : List Str} {k : Nat} {R : List Da → Da → Prop} (F : Fun K x qual st f fd) (S : FnScope N ps (defScope st)) (hR : ∀ ds d, R ds d → ds.length = ps.length)
    (body : ∀ X : Cx, Top P w K mg base X → Sco X N (defScope st) true → Room k X.A → ∀ ds d, R ds d → SD X (defBody st) (startD N.length ds) (DeR d)) : FnOk P w K mg base CX0 (k + 1) f fd ps (spD K R) := by
  refine F.ok S (fun vs H Q E h => ?_) (fun cdv A outer s H vs Q E hr h => ?_)
  · obtain ⟨Sh, ds, d, _, hd, r, _⟩ := h
    rw [hd.length]
    exact hR ds d r
  · obtain ⟨Sh, ds, d, h1, hd, r, q⟩ := h
    refine ⟨_, body (cxOf CX0 P w K mg base N qual (defScope st) f cdv A outer s H E).nox ⟨rfl, rfl, rfl, rfl, rfl⟩ (sco_top S) hr ds d r, ?_⟩
    exact ⟨_, Sh, rp_start h1 hd, gd_ret q⟩
theorem fn_g {x qual : Str} {st : Stmt} {f : Addr} {fd : FuncData} {N ps : List Str} {k : Nat} {R : List Da → Da → Prop} (F : Fun K x qual st f fd) (S : FnScope N ps (defScope st)) (hR : ∀ ds d, R ds d → ds.length = ps.length)
    (body : ∀ X : Cx, Top P w K mg base X → Sco X N (defScope st) true → Room k X.A → X.A.guards = some [] → ∀ ds d, R ds d → SD X (defBody st) (startD N.length ds) (DeR d)) : FnG P w K mg base CX0 (k + 1) f fd ps (spD K R) := by
  refine okG F S (fun vs H Q E h => ?_) (fun cdv A outer s H vs Q E hr hg h => ?_)
  · obtain ⟨Sh, ds, d, _, hd, r, _⟩ := h
    rw [hd.length]
    exact hR ds d r
  · obtain ⟨Sh, ds, d, h1, hd, r, q⟩ := h
    refine ⟨_, body (cxOf CX0 P w K mg base N qual (defScope st) f cdv A outer s H E).nox ⟨rfl, rfl, rfl, rfl, rfl⟩ (sco_top S) hr hg ds d r, ?_⟩
    exact ⟨_, Sh, rp_start h1 hd, gd_ret q⟩
/-- a def whose first argument is a list that it changes -/
def startM (n : Nat) (ms ds : List Da) : List SV := .own (.l ms) :: (ds.map SV.d ++ List.replicate (n - (ds.length + 1)) .any)
theorem startM_get {n : Nat} {ms ds : List Da} {i : Nat} {s : SV} (h : (startM n ms ds)[i + 1]? = some s) : (∃ d, s = .d d ∧ ds[i]? = some d) ∨ s = .any := by
  have h : (ds.map SV.d ++ List.replicate (n - (ds.length + 1)) .any)[i]? = some s := h
  by_cases hi : i < ds.length
  · rw [List.getElem?_append_left (by simpa using hi), List.getElem?_map] at h
    obtain ⟨d, h1, h2⟩ := Option.map_eq_some_iff.mp h
    exact .inl ⟨d, h2.symm, h1⟩
  · rw [List.getElem?_append_right (by simpa using hi), List.getElem?_replicate] at h
    split at h
    · cases h
      exact .inr rfl
    · cases h
def enM (H S : Hp) (l : Addr) : En := ⟨H, S, fun i a => i = 0 ∧ a = l⟩
theorem rp_startM {N : List Str} {l : Addr} {ws xs : List V} {ms ds : List Da} {S H : Hp} (h : Same S H) (sl : S l = none) (hl : H l = some (.lst xs)) (dm : Dvs K S xs ms) (d : Dvs K S ws ds) :
    Rp K (enM H S l) S H (start N (.ref l :: ws)) (startM N.length ms ds) where
  sub := h
  keep := fun _ _ q _ => q
  keepS := .refl S
  new := fun b q z => absurd z q
  pas := fun i a m q => by
    obtain ⟨_, rfl⟩ := m
    rw [hl] at q
    cases q
  par := fun i a m => by
    obtain ⟨rfl, rfl⟩ := m
    exact start_get rfl
  parO := fun i a m => by
    obtain ⟨rfl, rfl⟩ := m
    exact ⟨_, rfl⟩
  dat := fun i x q => by
    cases i with
    | zero => cases q
    | succ i =>
      rcases startM_get q with ⟨y, h1, h2⟩ | h1
      · cases h1
        obtain ⟨v, e1, e2⟩ := d.get h2
        exact ⟨v, start_get e1, e2⟩
      · cases h1
  own := fun i es q => by
    cases i with
    | zero =>
      cases q
      exact ⟨l, _, start_get rfl, sl, hl, .l dm, .inl ⟨0, rfl, rfl⟩⟩
    | succ i =>
      rcases startM_get q with ⟨y, h1, h2⟩ | h1
      · cases h1
      · cases h1
  inj := fun i j es fs m h1 h2 _ _ => by
    cases i with
    | succ i =>
      rcases startM_get h1 with ⟨y, q, _⟩ | q
      · cases q
      · cases q
    | zero =>
      cases j with
      | zero => rfl
      | succ j =>
        rcases startM_get h2 with ⟨y, q, _⟩ | q
        · cases q
        · cases q
  scr := fun i ns q => by
    cases i with
    | zero => cases q
    | succ i =>
      rcases startM_get q with ⟨y, h1, h2⟩ | h1
      · cases h1
      · cases h1
  len := by
    rw [start_len]
    show (ws.length + 1) + (N.length - (ws.length + 1)) = (ds.map SV.d ++ List.replicate (N.length - (ds.length + 1)) SV.any).length + 1
    rw [List.length_append, List.length_map, List.length_replicate, d.length]
    omega
def DeM (d : Da) (ms' : List Da) : De := { nx := fun ρ => d = .non ∧ ρ[0]? = some (.own (.l ms')), rt := fun x ρ => x = d ∧ ρ[0]? = some (.own (.l ms')) }
theorem gd_retM {S H : Hp} {l : Addr} {d : Da} {ms' : List Da} {Q : VK}
    (q : ∀ v S' H' ys, Same S S' → Same S' H' → S' l = none → H' l = some (.lst ys) → Dvs K S' ys ms' → (∀ b o, b ≠ l → H b = some o → H' b = some o) → (∀ b, S' b ≠ none → S b = none → H b = none) → Dv K S' v d → Q v H') :
    Gd K (enM H S l) (DeM d ms') { nx := fun _ H' => Q .non H', rt := Q } := by
  have rr : ∀ {ρ : List SV} {σ : L2.St} {S' H' : Hp} {v : V}, Rp K (enM H S l) S' H' σ ρ → ρ[0]? = some (.own (.l ms')) → Dv K S' v d → Q v H' := fun {ρ σ S' H' v} R h0 dv => by
    obtain ⟨m, ys, e1, e2, e3, e4, _⟩ := R.lst h0
    have e := R.par 0 l ⟨rfl, rfl⟩
    rw [e] at e1
    cases e1
    exact q v S' H' ys R.keepS R.sub e2 e3 e4 (fun b o hb h => R.keep b o h fun i z => hb z.2) R.new dv
  refine ⟨fun ρ σ S' H' h R => ?_, fun x ρ v σ S' H' h R dv => ?_, fun _ _ _ _ h => h.elim, fun _ _ _ _ h => h.elim, fun _ _ z => z.1, fun _ _ _ _ _ h => h.elim⟩
  · obtain ⟨h1, h2⟩ := h
    subst h1
    exact rr R h2 .non
  · obtain ⟨h1, h2⟩ := h
    subst h1
    exact rr R h2 dv
theorem fn_m {x qual : Str} {st : Stmt} {f : Addr} {fd : FuncData} {N ps : List Str} {k : Nat} {R : List Da → List Da → Da → List Da → Prop} (F : Fun K x qual st f fd) (S : FnScope N ps (defScope st)) (hR : ∀ ms ds d ms', R ms ds d ms' → ds.length + 1 = ps.length)
    (body : ∀ X : Cx, Top P w K mg base X → Sco X N (defScope st) true → Room k X.A → ∀ ms ds d ms', R ms ds d ms' → SD X (defBody st) (startM N.length ms ds) (DeM d ms')) : FnOk P w K mg base CX0 (k + 1) f fd ps (spM K R) := by
  refine F.ok S (fun vs H Q E h => ?_) (fun cdv A outer s H vs Q E hr h => ?_)
  · obtain ⟨Sh, l, ws, xs, ms, ds, d, ms', rfl, _, _, _, _, hd, r, _⟩ := h
    rw [List.length_cons, hd.length]
    exact hR ms ds d ms' r
  · obtain ⟨Sh, l, ws, xs, ms, ds, d, ms', rfl, h1, h2, h3, h4, hd, r, q⟩ := h
    refine ⟨_, body (cxOf CX0 P w K mg base N qual (defScope st) f cdv A outer s H E).nox ⟨rfl, rfl, rfl, rfl, rfl⟩ (sco_top S) hr ms ds d ms' r, ?_⟩
    exact ⟨_, Sh, rp_startM h1 h2 h3 h4 hd, gd_retM q⟩
theorem fn_mg {x qual : Str} {st : Stmt} {f : Addr} {fd : FuncData} {N ps : List Str} {k : Nat} {R : List Da → List Da → Da → List Da → Prop} (F : Fun K x qual st f fd) (S : FnScope N ps (defScope st)) (hR : ∀ ms ds d ms', R ms ds d ms' → ds.length + 1 = ps.length)
    (body : ∀ X : Cx, Top P w K mg base X → Sco X N (defScope st) true → Room k X.A → X.A.guards = some [] → ∀ ms ds d ms', R ms ds d ms' → SD X (defBody st) (startM N.length ms ds) (DeM d ms')) : FnG P w K mg base CX0 (k + 1) f fd ps (spM K R) := by
  refine okG F S (fun vs H Q E h => ?_) (fun cdv A outer s H vs Q E hr hg h => ?_)
  · obtain ⟨Sh, l, ws, xs, ms, ds, d, ms', rfl, _, _, _, _, hd, r, _⟩ := h
    rw [List.length_cons, hd.length]
    exact hR ms ds d ms' r
  · obtain ⟨Sh, l, ws, xs, ms, ds, d, ms', rfl, h1, h2, h3, h4, hd, r, q⟩ := h
    refine ⟨_, body (cxOf CX0 P w K mg base N qual (defScope st) f cdv A outer s H E).nox ⟨rfl, rfl, rfl, rfl, rfl⟩ (sco_top S) hr hg ms ds d ms' r, ?_⟩
    exact ⟨_, Sh, rp_startM h1 h2 h3 h4 hd, gd_retM q⟩
end

/-! ### the calls -/
section
variable {X : Cx} {N : List Str} {sc : Scope} {tp : Bool} {k : Nat} {f : Addr} {fd : FuncData} {ps : List Str} {E : XK} {n n0 : Str} {p p0 pos : Pos} {a : Expr} {es : List Expr} {ρ ρ1 : List SV} {ds : List Da} {d : Da} {R : List Da → Da → Prop}
/-- f(..) of one's own -/
theorem d_call {CX : CXT} (F : FnOk X.prog X.w X.K X.mg X.base CX k f fd ps (spD X.K R)) (hx : Passes CX X E) (hr : Room k X.A) (hg : Gl X n) (hm : X.mg n = some (.ref f)) (hk : PySem.W.keepIn X.K (.ref f) = true) (hb : Binds X.K fd ps []) (ha : AD X (a :: es) ρ ρ1 ds) (h : R ds d)
    (hdb : (n == ("__debug__" : Str)) = false := by decide) (he : starEach (a :: es) X.env = (false, eval a X.env) :: starEach es X.env := by rfl) (hpl : (backTo pos (starEach es X.env)).any (·.1) = false := by rfl) : ED X (.Call (.Name n p) (a :: es) [] pos) ρ ρ1 d :=
  pe_imp (pe_call F hr hg hm hk hb .nil hx ha hdb he hpl) fun σ H Q ⟨e, S, R0, q⟩ => ⟨e, S, R0, fun vs S1 H1 R1 q1 d1 => by
    show spD X.K R (vs ++ []) H1 Q E
    rw [List.append_nil]
    exact ⟨S1, ds, d, R1.sub, d1, h, fun v S2 H2 r dv => q v S2 H2 (R1.called r) (q1.trans r.ss) dv⟩⟩
theorem d_callG (F : FnG X.prog X.w X.K X.mg X.base CX0 k f fd ps (spD X.K R)) (hr : Room k X.A) (hgd : X.A.guards = some []) (hg : Gl X n) (hm : X.mg n = some (.ref f)) (hk : PySem.W.keepIn X.K (.ref f) = true) (hb : Binds X.K fd ps []) (ha : AD X (a :: es) ρ ρ1 ds) (h : R ds d)
    (hdb : (n == ("__debug__" : Str)) = false := by decide) (he : starEach (a :: es) X.env = (false, eval a X.env) :: starEach es X.env := by rfl) (hpl : (backTo pos (starEach es X.env)).any (·.1) = false := by rfl) : ED X (.Call (.Name n p) (a :: es) [] pos) ρ ρ1 d :=
  pe_imp (peG_call F hr hgd hg hm hk hb pass0 ha hdb he hpl) fun σ H Q ⟨e, S, R0, q⟩ => ⟨e, S, R0, fun vs S1 H1 R1 q1 d1 =>
    ⟨S1, ds, d, R1.sub, d1, h, fun v S2 H2 r dv => q v S2 H2 (R1.called r) (q1.trans r.ss) dv⟩⟩
variable {M : List Da → List Da → Da → List Da → Prop} {ms ms' : List Da}
/-- f(x, ..), x the name of an owned list that f changes -/
theorem tM_of {i : Nat} (hi : ρ[i]? = some (.own (.l ms))) (h1 : ρ1[i]? = some (.own (.l ms))) {σ : L2.St} {H : Hp} {Q : VK} (hq : tD X.K ρ (ρ1.set i (.own (.l ms'))) d σ H Q) (h : M ms ds d ms') {E : XK} :
    tCons (tVar i) (tAs X.K ρ ρ1 ds) σ H fun vs H1 => spM X.K M vs H1 Q E := by
  obtain ⟨e, S, R0, q⟩ := hq
  obtain ⟨l, xs, e1, _⟩ := R0.lst hi
  refine ⟨.ref l, e1, e, S, R0, fun ws S1 H1 R1 q1 d1 => ?_⟩
  obtain ⟨l', ys, f1, f2, f3, f4, _⟩ := R1.lst h1
  rw [e1] at f1
  cases f1
  exact ⟨S1, l, ws, ys, ms, ds, d, ms', rfl, R1.sub, f2, f3, f4, d1, h, fun v S2 H2 zs ss sub sl hz hd hh new dv => q v S2 H2 (R1.calledM h1 e1 ss sub sl hz (.l hd) hh new) (q1.trans ss) dv⟩
theorem d_callM (S : Sco X N sc tp) (i : Nat) (F : FnOk X.prog X.w X.K X.mg X.base CX0 k f fd ps (spM X.K M)) (hr : Room k X.A) (hg : Gl X n) (hm : X.mg n = some (.ref f)) (hk : PySem.W.keepIn X.K (.ref f) = true) (hb : Binds X.K fd ps [])
    (hi : ρ[i]? = some (.own (.l ms))) (ha : AD X es ρ ρ1 ds) (h1 : ρ1[i]? = some (.own (.l ms))) (h : M ms ds d ms') (hN : N[i]? = some n0 := by rfl) (hv : Vis sc n0 := by first | exact Or.inl rfl | exact Or.inr (Or.inl rfl) | exact Or.inr (Or.inr rfl))
    (hd0 : (n0 == ("__debug__" : Str)) = false := by decide) (hcd0 : (n0 == ("__classdict__" : Str)) = false := by decide) (hdb : (n == ("__debug__" : Str)) = false := by decide)
    (he : starEach (.Name n0 p0 :: es) X.env = (false, eval (.Name n0 p0) X.env) :: starEach es X.env := by rfl) (hpl : (backTo pos (starEach es X.env)).any (·.1) = false := by rfl) : ED X (.Call (.Name n p) (.Name n0 p0 :: es) [] pos) ρ (ρ1.set i (.own (.l ms'))) d :=
  pe_imp (pe_call F hr hg hm hk hb .nil pass0 (pa_cons (pe_var (i := i) (by rw [S.n]; exact hN) (by rw [S.s]; exact hv) hd0 hcd0) ha he) hdb he hpl) fun σ H Q hq => by
    have := tM_of (M := M) (E := E0) hi h1 hq h
    show tCons (tVar i) (tAs X.K ρ ρ1 ds) σ H fun vs H1 => spM X.K M (vs ++ []) H1 Q E0
    simp only [List.append_nil]
    exact this
theorem d_callMG (S : Sco X N sc tp) (i : Nat) (F : FnG X.prog X.w X.K X.mg X.base CX0 k f fd ps (spM X.K M)) (hr : Room k X.A) (hgd : X.A.guards = some []) (hg : Gl X n) (hm : X.mg n = some (.ref f)) (hk : PySem.W.keepIn X.K (.ref f) = true) (hb : Binds X.K fd ps [])
    (hi : ρ[i]? = some (.own (.l ms))) (ha : AD X es ρ ρ1 ds) (h1 : ρ1[i]? = some (.own (.l ms))) (h : M ms ds d ms') (hN : N[i]? = some n0 := by rfl) (hv : Vis sc n0 := by first | exact Or.inl rfl | exact Or.inr (Or.inl rfl) | exact Or.inr (Or.inr rfl))
    (hd0 : (n0 == ("__debug__" : Str)) = false := by decide) (hcd0 : (n0 == ("__classdict__" : Str)) = false := by decide) (hdb : (n == ("__debug__" : Str)) = false := by decide)
    (he : starEach (.Name n0 p0 :: es) X.env = (false, eval (.Name n0 p0) X.env) :: starEach es X.env := by rfl) (hpl : (backTo pos (starEach es X.env)).any (·.1) = false := by rfl) : ED X (.Call (.Name n p) (.Name n0 p0 :: es) [] pos) ρ (ρ1.set i (.own (.l ms'))) d :=
  pe_imp (peG_call F hr hgd hg hm hk hb pass0 (pa_cons (pe_var (i := i) (by rw [S.n]; exact hN) (by rw [S.s]; exact hv) hd0 hcd0) ha he) hdb he hpl) fun σ H Q hq => tM_of (M := M) (E := E0) hi h1 hq h
end
end Wv
end
section
set_option Elab.async false
set_option linter.all false
set_option maxRecDepth 100000
namespace Wv
open PySem PySem.Spec PyProof.Rows L2

section
variable {X : Cx} {N : List Str} {sc : Scope} {tp : Bool} {ρ ρ1 ρ2 ρ3 : List SV} {a b c : Expr} {p p0 pos pos' : Pos} {x y z : Da} {n n0 : Str} {rest body orelse : List Stmt} {st : Stmt} {D : De} {ds : List Da}
/-! ### statements -/
theorem sd_nil (h : D.nx ρ) : SD X [] ρ D := pss_imp pss_nil fun Dn σ H ⟨e, S, R, G⟩ => G.nx ρ σ S H h R
theorem gd_rest {e : En} {Dn : Ends} (G : Gd X.K e D Dn) : Gd X.K e { D with nx := fun ρ2 => SD X rest ρ2 D } { Dn with nx := aS X rest Dn } :=
  ⟨fun ρ2 σ2 S2 H2 sd R2 => ⟨_, sd, e, S2, R2, G⟩, G.rt, G.bk, G.ct, G.p0, G.ex⟩
theorem sd_cons (h : S1 X st ρ { D with nx := fun ρ2 => SD X rest ρ2 D }) : SD X (st :: rest) ρ D :=
  pss_imp (pss_cons h pss_any) fun Dn σ H ⟨e, S, R, G⟩ => ⟨e, S, R, gd_rest G⟩
/-- where a name may be stored -/
def Sto (sc : Scope) (tp : Bool) (n : Str) : Prop := sc.names.lookup n = some .local ∨ (tp = true ∧ sc.names.lookup n = some .cell)
theorem Sco.sto (S : Sco X N sc tp) (h : Sto sc tp n) : Loc X.env.scope n ∧ (X.fn n = true ∨ X.env.scope.names.lookup n = some .local) := by
  rw [S.s]
  rcases h with h | ⟨h1, h2⟩
  · exact ⟨.inl h, .inr h⟩
  · exact ⟨.inr h2, .inl (S.fn h1 n)⟩
/-- name = data -/
theorem q_asg (S : Sco X N sc tp) (i : Nat) (h : ED X a ρ ρ1 x) (k : SD X rest (ρ1.set i (.d x)) D) (hn : nown ρ1 i = true := by rfl) (hN : N[i]? = some n := by rfl) (hs : Sto sc tp n := by first | exact Or.inl rfl | exact Or.inr ⟨rfl, rfl⟩)
    (hw : swapsWith a (some (.Name n pos')) pos.line X.env = pure false := by rfl) : SD X (.Assign [.Name n pos'] a pos :: rest) ρ D :=
  sd_cons (ps_imp (ps_set (i := i) S.ndX (by rw [S.n]; exact hN) (S.sto hs).1 h hw (S.sto hs).2) fun Dn σ H ⟨e, Sh, R, G⟩ => ⟨e, Sh, R, fun v S1 H1 R1 q1 d1 => G.nx _ _ S1 H1 k (R1.set hn d1)⟩)
/-- name = a list of one's own -/
theorem q_asgO (S : Sco X N sc tp) (i : Nat) (h : FD X a ρ ρ1 ds) (k : SD X rest (ρ1.set i (.own (.l ds))) D) (hn : nown ρ1 i = true := by rfl) (hN : N[i]? = some n := by rfl) (hs : Sto sc tp n := by first | exact Or.inl rfl | exact Or.inr ⟨rfl, rfl⟩)
    (hw : swapsWith a (some (.Name n pos')) pos.line X.env = pure false := by rfl) : SD X (.Assign [.Name n pos'] a pos :: rest) ρ D :=
  sd_cons (ps_imp (ps_set (i := i) S.ndX (by rw [S.n]; exact hN) (S.sto hs).1 h hw (S.sto hs).2) fun Dn σ H ⟨e, Sh, R, G⟩ => ⟨e, Sh, R, fun l S1 H1 R1 q1 f => by
    obtain ⟨xs, f1, f2, f3, f4, f5⟩ := f
    exact G.nx _ _ S1 H1 k (R1.setO hn f1 f2 (.l f3) f4 f5)⟩)
/-- a value that is dropped -/
theorem q_drop (h : ED X a ρ ρ1 x) (k : SD X rest ρ1 D) (hw : swapsWith a none pos.line X.env = pure false := by rfl) : SD X (.Expr a pos :: rest) ρ D :=
  sd_cons (ps_imp (ps_expr h hw) fun Dn σ H ⟨e, Sh, R, G⟩ => ⟨e, Sh, R, fun v S1 H1 R1 q1 d1 => G.nx _ _ S1 H1 k R1⟩)
theorem q_ret (h : ED X a ρ ρ1 x) (k : D.rt x ρ1) : SD X (.Return (some a) pos :: rest) ρ D :=
  sd_cons (ps_imp (ps_ret h) fun Dn σ H ⟨e, Sh, R, G⟩ => ⟨e, Sh, R, fun v S1 H1 R1 q1 d1 => G.rt x ρ1 v σ S1 H1 k R1 d1⟩)
theorem q_brk (k : D.bk ρ) : SD X (.Break pos :: rest) ρ D := sd_cons (ps_imp ps_break fun Dn σ H ⟨e, Sh, R, G⟩ => G.bk ρ σ Sh H k R)
theorem q_cont (k : D.ct ρ) : SD X (.Continue pos :: rest) ρ D := sd_cons (ps_imp ps_continue fun Dn σ H ⟨e, Sh, R, G⟩ => G.ct ρ σ Sh H k R)
theorem q_pass (k : SD X rest ρ D) : SD X (.Pass pos :: rest) ρ D := sd_cons (ps_imp ps_pass fun Dn σ H ⟨e, Sh, R, G⟩ => G.nx ρ σ Sh H k R)
/-- if: each way goes on by itself -/
theorem q_if {t : Bool} (h : TD X a ρ ρ1 t) (h1 : t = true → SD X body ρ1 { D with nx := fun ρ2 => SD X rest ρ2 D }) (h2 : t = false → SD X orelse ρ1 { D with nx := fun ρ2 => SD X rest ρ2 D }) : SD X (.If a body orelse pos :: rest) ρ D :=
  sd_cons (ps_imp (ps_if h pss_any pss_any) fun Dn σ H ⟨e, Sh, R, G⟩ => ⟨e, Sh, R, fun S1 H1 R1 q1 => by
    cases t with
    | true => exact iteT ⟨_, h1 rfl, e, S1, R1, G⟩
    | false => exact iteF ⟨_, h2 rfl, e, S1, R1, G⟩⟩)
/-- if, then one way -/
theorem q_ifc {t : Bool} (M : List SV → Prop) (h : TD X a ρ ρ1 t) (h1 : t = true → SD X body ρ1 { D with nx := M }) (h2 : t = false → SD X orelse ρ1 { D with nx := M }) (k : ∀ ρ2, M ρ2 → SD X rest ρ2 D) : SD X (.If a body orelse pos :: rest) ρ D :=
  q_if h (fun e => pss_imp (h1 e) fun Dn σ H ⟨e, Sh, R, G⟩ => ⟨e, Sh, R, ⟨fun ρ2 σ2 S2 H2 m R2 => G.nx ρ2 σ2 S2 H2 (k ρ2 m) R2, G.rt, G.bk, G.ct, G.p0, G.ex⟩⟩)
    (fun e => pss_imp (h2 e) fun Dn σ H ⟨e, Sh, R, G⟩ => ⟨e, Sh, R, ⟨fun ρ2 σ2 S2 H2 m R2 => G.nx ρ2 σ2 S2 H2 (k ρ2 m) R2, G.rt, G.bk, G.ct, G.p0, G.ex⟩⟩)
/-! the owned lists -/
/-- where a slot that is owned was handed in it is not given away: the entry's own -/
theorem q_pub {i : Nat} (hi : ρ[i]? = some (.own (.l ds))) (k : SD X rest (ρ.set i (.d (.lst ds))) D) (hp : i ≠ 0 := by decide) : SD X rest ρ D :=
  pss_imp k fun Dn σ H ⟨e, Sh, R, G⟩ => by
    obtain ⟨S', R', q⟩ := R.pub hi fun a z => hp (G.p0 i a z)
    exact ⟨e, S', R', G⟩
/-- xs[i] = e -/
theorem q_setL (S : Sco X N sc tp) (i : Nat) {j : Nat} {p2 : Pos} (h : ED X a ρ ρ1 x) (hb : ED X b ρ1 ρ2 (.int (j : Int))) (hi1 : ρ1[i]? = some (.own (.l ds))) (hi : ρ2[i]? = some (.own (.l ds))) (hj : j < ds.length) (k : SD X rest (ρ2.set i (.own (.l (ds.set j x)))) D) (hN : N[i]? = some n := by rfl)
    (hv : Vis sc n := by first | exact Or.inl rfl | exact Or.inr (Or.inl rfl) | exact Or.inr (Or.inr rfl)) (hd : (n == ("__debug__" : Str)) = false := by decide) (hcd : (n == ("__classdict__" : Str)) = false := by decide)
    (hs : swapsWithSole [.Subscript (.Name n p0) b p2] a pos.line X.env = pure false := by rfl) (hw : swappedStores [.Subscript (.Name n p0) b p2] a X.env = pure none := by rfl)
    (h1 : (assignEach [.Subscript (.Name n p0) b p2] X.env).map (·.2) = [assign (.Subscript (.Name n p0) b p2) X.env] := by rfl)
    (ha : ∀ v, assign (.Subscript (.Name n p0) b p2) X.env v = (do
      let ov ← holding [v] (eval (.Name n p0) X.env)
      let iv ← holding [v, ov] (eval b X.env)
      standAt p2
      holding [v, ov, iv] (setItem ov iv v)
      release [v, ov, iv] []) := by intro _; rfl) : SD X (.Assign [.Subscript (.Name n p0) b p2] a pos :: rest) ρ D :=
  sd_cons (ps_imp (ps_asg h (pg_sub (pe_var (i := i) (by rw [S.n]; exact hN) (by rw [S.s]; exact hv) hd hcd) hb set_list ha) hs hw h1) fun Dn σ H ⟨e, Sh, R, G⟩ => ⟨e, Sh, R, fun v S1 H1 R1 q1 d1 => by
    obtain ⟨l, xs, e1, _⟩ := R1.lst hi1
    refine ⟨.ref l, e1, e, S1, R1, fun w S2 H2 R2 q2 d2 => ?_⟩
    obtain ⟨l', ys, f1, f2, f3, f4, f5⟩ := R2.lst hi
    rw [e1] at f1
    cases f1
    cases d2
    have hj2 : j < ys.length := by rw [f4.length]; exact hj
    refine ⟨l, ys, (j : Int), j, rfl, rfl, f3, ?_, ?_⟩
    · unfold ixN
      rw [if_pos (by omega), if_pos (by omega)]
      simp
    · exact G.nx _ _ _ _ k (R2.mutOwn hi e1 (.l (f4.set (d1.mono q2) j)))⟩)
/-- xs.append(e) -/
theorem q_app (S : Sco X N sc tp) (i : Nat) {p2 : Pos} (h : ED X a ρ ρ1 x) (hi0 : ρ[i]? = some (.own (.l ds))) (hi : ρ1[i]? = some (.own (.l ds))) (hz : ds.length < 1000000) (k : SD X rest (ρ1.set i (.own (.l (ds ++ [x])))) D) (hN : N[i]? = some n := by rfl)
    (hv : Vis sc n := by first | exact Or.inl rfl | exact Or.inr (Or.inl rfl) | exact Or.inr (Or.inr rfl)) (hd : (n == ("__debug__" : Str)) = false := by decide) (hcd : (n == ("__classdict__" : Str)) = false := by decide)
    (he : PE X (.Call (.Attribute (.Name n p0) "append" p2) [a] [] p) (tBM X.K "list" rAppend (tVar i) (tCons (tD X.K ρ ρ1 x) tNil))) : SD X (.Expr (.Call (.Attribute (.Name n p0) "append" p2) [a] [] p) pos :: rest) ρ D :=
  sd_cons (ps_imp (ps_expr he) fun Dn σ H ⟨e, Sh, R, G⟩ => by
    obtain ⟨l, xs, e1, e2, e3, _⟩ := R.lst hi0
    refine ⟨.ref l, e1, .inl ⟨rfl, _, .inl (.inl e3)⟩, e, Sh, R, fun v S1 H1 R1 q1 d1 => ?_⟩
    obtain ⟨l', ys, f1, f2, f3, f4, f5⟩ := R1.lst hi
    rw [e1] at f1
    cases f1
    refine ⟨l, ys, v, rfl, rfl, f3, ?_, ?_⟩
    · rw [f4.length, sizeLine_eq]
      omega
    · exact G.nx _ _ _ _ k (R1.mutOwn hi e1 (.l (f4.append (.cons d1 .nil)))))
end

/-! ### what is walked -/
structure Tn (K : PySem.W.Frag) (J : It) (n : Nat) (item : Nat → Da) (S1 : Hp) : Prop where
  go : ∀ i S' H', i < n → Same S1 S' → Same S' H' → J.go i H'
  stop : ∀ S' H', Same S1 S' → Same S' H' → J.stop n H'
  yld : ∀ i S' H' x H2, i < n → Same S1 S' → Same S' H' → J.yld i H' x H2 → (H2 = H' ∧ Dv K S' x (item i)) ∨ (∃ T xs ds, H' T = none ∧ H2 = upd H' T (.tup xs) ∧ x = .ref T ∧ item i = .tup ds ∧ Dvs K S' xs ds)
def tI (K : PySem.W.Frag) (ρ ρ1 : List SV) (n : Nat) (item : Nat → Da) : TI := fun σ H R => ∃ e S, Rp K e S H σ ρ ∧ ∀ J S1 H1, Rp K e S1 H1 σ ρ1 → Same S S1 → Tn K J n item S1 → R J H1
abbrev ID (X : Cx) (tg iter : Expr) (ρ ρ1 : List SV) (n : Nat) (item : Nat → Da) : Prop := PI X tg iter (tI X.K ρ ρ1 n item)
def tG (K : PySem.W.Frag) (d : Da) (ρ ρ' : List SV) : TG := fun v σ H Q => ∃ e S, Rp K e S H σ ρ ∧ Dv K S v d ∧ ∀ σ' S' H', Rp K e S' H' σ' ρ' → Same S S' → Q σ' H'
abbrev GD (X : Cx) (tg : Expr) (d : Da) (ρ ρ' : List SV) : Prop := PG X tg (tG X.K d ρ ρ')
section
variable {X : Cx} {N : List Str} {sc : Scope} {tp : Bool} {ρ ρ1 ρ2 ρ3 : List SV} {a b c tg iter : Expr} {p p0 pos pos' : Pos} {x y z : Da} {n n0 : Str} {rest body : List Stmt} {D : De} {ds : List Da}
theorem pi_imp {t t' : TI} (h : PI X tg iter t) (k : ∀ σ H R, t' σ H R → t σ H R) : PI X tg iter t' := ⟨fun pins s σ H R I z => h.run pins s σ H R I (k σ H R z)⟩
theorem g_nm (S : Sco X N sc tp) (i : Nat) (hn : nown ρ i = true := by rfl) (hN : N[i]? = some n := by rfl) (hs : Sto sc tp n := by first | exact Or.inl rfl | exact Or.inr ⟨rfl, rfl⟩) : GD X (.Name n pos) x ρ (ρ.set i (.d x)) :=
  pg_imp (pg_name (i := i) S.ndX (by rw [S.n]; exact hN) (S.sto hs).1 (S.sto hs).2) fun v σ H Q ⟨e, Sh, R, d, k⟩ => k _ Sh H (R.set hn d) (.refl Sh)
theorem g_tup2 (S : Sco X N sc tp) {k : Nat} {t1 t2 : Expr} (h1 : GD X t1 x ρ ρ1) (h2 : GD X t2 y ρ1 ρ2)
    (hs1 : (assignEach [t1, t2] X.env).map (·.2) = assign t1 X.env :: (assignEach [t2] X.env).map (·.2) := by rfl) (hs2 : (assignEach [t2] X.env).map (·.2) = assign t2 X.env :: (assignEach [] X.env).map (·.2) := by rfl)
    (hl : (assignEach [t1, t2] X.env).length = 2 := by rfl) (hst : (assignEach [t1, t2] X.env).findIdx? (·.1) = none := by rfl) : GD X (.Tuple [t1, t2] k pos) (.tup [x, y]) ρ ρ2 :=
  pg_imp (pg_tup S.calm (pgs_cons h1 (pgs_cons h2 pgs_nil hs2) hs1) hl hst) fun v σ H Q ⟨e, Sh, R, d, q⟩ => by
    cases d with
    | tup h t =>
      refine ⟨_, _, rfl, sqT_same R.sub h, t.length, ?_⟩
      cases t with
      | cons d1 t =>
        cases t with
        | cons d2 t =>
          cases t
          exact ⟨_, _, rfl, e, Sh, R, d1, fun σ1 S1 H1 R1 q1 => ⟨_, _, rfl, e, S1, R1, d2.mono q1, fun σ2 S2 H2 R2 q2 => ⟨rfl, q σ2 S2 H2 R2 (q1.trans q2)⟩⟩⟩
theorem g_tup3 (S : Sco X N sc tp) {k : Nat} {t1 t2 t3 : Expr} (h1 : GD X t1 x ρ ρ1) (h2 : GD X t2 y ρ1 ρ2) (h3 : GD X t3 z ρ2 ρ3)
    (hs1 : (assignEach [t1, t2, t3] X.env).map (·.2) = assign t1 X.env :: (assignEach [t2, t3] X.env).map (·.2) := by rfl) (hs2 : (assignEach [t2, t3] X.env).map (·.2) = assign t2 X.env :: (assignEach [t3] X.env).map (·.2) := by rfl) (hs3 : (assignEach [t3] X.env).map (·.2) = assign t3 X.env :: (assignEach [] X.env).map (·.2) := by rfl)
    (hl : (assignEach [t1, t2, t3] X.env).length = 3 := by rfl) (hst : (assignEach [t1, t2, t3] X.env).findIdx? (·.1) = none := by rfl) : GD X (.Tuple [t1, t2, t3] k pos) (.tup [x, y, z]) ρ ρ3 :=
  pg_imp (pg_tup S.calm (pgs_cons h1 (pgs_cons h2 (pgs_cons h3 pgs_nil hs3) hs2) hs1) hl hst) fun v σ H Q ⟨e, Sh, R, d, q⟩ => by
    cases d with
    | tup h t =>
      refine ⟨_, _, rfl, sqT_same R.sub h, t.length, ?_⟩
      cases t with
      | cons d1 t =>
        cases t with
        | cons d2 t =>
          cases t with
          | cons d3 t =>
            cases t
            exact ⟨_, _, rfl, e, Sh, R, d1, fun σ1 S1 H1 R1 q1 => ⟨_, _, rfl, e, S1, R1, d2.mono q1, fun σ2 S2 H2 R2 q2 => ⟨_, _, rfl, e, S2, R2, d3.mono (q1.trans q2), fun σ3 S3 H3 R3 q3 => ⟨rfl, q σ3 S3 H3 R3 ((q1.trans q2).trans q3)⟩⟩⟩⟩
/-- x, y = a tuple -/
theorem q_asgT {tg : Expr} (h : ED X a ρ ρ1 x) (hg : GD X tg x ρ1 ρ2) (k : SD X rest ρ2 D) (hs : swapsWithSole [tg] a pos.line X.env = pure false := by rfl) (hw : swappedStores [tg] a X.env = pure none := by rfl)
    (h1 : (assignEach [tg] X.env).map (·.2) = [assign tg X.env] := by rfl) : SD X (.Assign [tg] a pos :: rest) ρ D :=
  sd_cons (ps_imp (ps_asg h hg hs hw h1) fun Dn σ H ⟨e, Sh, R, G⟩ => ⟨e, Sh, R, fun v S1 H1 R1 q1 d1 => ⟨e, S1, R1, d1, fun σ2 S2 H2 R2 q2 => G.nx _ _ S2 H2 k R2⟩⟩)
/-! sources -/
theorem tn_range {K : PySem.W.Frag} {lo : Int} {n : Nat} {S1 : Hp} : Tn K (Itr lo n) n (fun i => .int (lo + (i : Nat))) S1 :=
  ⟨fun i _ _ hi _ _ => hi, fun _ _ _ _ => Nat.le_refl n, fun i S' H' x H2 hi _ _ y => .inl ⟨y.1, by
    obtain ⟨_, rfl⟩ := y
    exact .int _⟩⟩
theorem i_range1 {m : Int} (hg : Gl X "range") (hm : X.mg "range" = none) (h : ED X a ρ ρ1 (.int m)) (hz : -1000000 ≤ m ∧ m ≤ 1000000) (hs : starEach [a] X.env = (false, eval a X.env) :: starEach [] X.env := by rfl) : ID X tg (.Call (.Name "range" p) [a] [] pos) ρ ρ1 m.toNat (fun i => .int ((i : Nat) : Int)) :=
  pi_imp (pi_range1 hg hm (a_cons h a_nil hs) (by rw [hs]; rfl)) fun σ H Rk ⟨e, Sh, R, k⟩ => ⟨e, Sh, R, fun vs S1 H1 R1 q1 d1 => by
    cases d1 with
    | cons d t =>
      cases t
      cases d
      refine ⟨m, rfl, by omega, by omega, k _ S1 H1 R1 q1 ?_⟩
      have := tn_range (K := X.K) (lo := 0) (n := m.toNat) (S1 := S1)
      simp only [Int.zero_add] at this
      exact this⟩
theorem i_range2 {lo m : Int} (hg : Gl X "range") (hm : X.mg "range" = none) (h : ED X a ρ ρ1 (.int lo)) (h2 : ED X b ρ1 ρ2 (.int m)) (hz : (-1000000 ≤ lo ∧ lo ≤ 1000000) ∧ -1000000 ≤ m ∧ m ≤ 1000000)
    (hs : starEach [a, b] X.env = (false, eval a X.env) :: starEach [b] X.env := by rfl) (hs2 : starEach [b] X.env = (false, eval b X.env) :: starEach [] X.env := by rfl) : ID X tg (.Call (.Name "range" p) [a, b] [] pos) ρ ρ2 (m - lo).toNat (fun i => .int (lo + ((i : Nat) : Int))) :=
  pi_imp (pi_range2 hg hm (a_cons h (a_cons h2 a_nil hs2) hs) (by rw [hs, hs2]; rfl) (by rw [hs2]; rfl)) fun σ H Rk ⟨e, Sh, R, k⟩ => ⟨e, Sh, R, fun vs S1 H1 R1 q1 d1 => by
    cases d1 with
    | cons d t =>
      cases t with
      | cons d2 t =>
        cases t
        cases d
        cases d2
        exact ⟨lo, m, rfl, ⟨by omega, by omega, by omega, by omega⟩, k _ S1 H1 R1 q1 tn_range⟩⟩
theorem i_range3 {lo m c0 : Int} {k0 : Nat} (hg : Gl X "range") (hm : X.mg "range" = none) (h : ED X a ρ ρ1 (.int lo)) (h2 : ED X b ρ1 ρ2 (.int m)) (h3 : ED X c ρ2 ρ3 (.int c0)) (hz : RgC lo m c0 k0)
    (hs : starEach [a, b, c] X.env = (false, eval a X.env) :: starEach [b, c] X.env := by rfl) (hs2 : starEach [b, c] X.env = (false, eval b X.env) :: starEach [c] X.env := by rfl) (hs3 : starEach [c] X.env = (false, eval c X.env) :: starEach [] X.env := by rfl)
    (hq : PI X tg (.Call (.Name "range" p) [a, b, c] [] pos) (iRng3 (tAs X.K ρ ρ3 [.int lo, .int m, .int c0]))) : ID X tg (.Call (.Name "range" p) [a, b, c] [] pos) ρ ρ3 k0 (fun i => .int (lo + ((i : Nat) : Int) * c0)) :=
  pi_imp hq fun σ H Rk ⟨e, Sh, R, k⟩ => ⟨e, Sh, R, fun vs S1 H1 R1 q1 d1 => by
    cases d1 with
    | cons d t =>
      cases t with
      | cons d2 t =>
        cases t with
        | cons d3 t =>
          cases t
          cases d
          cases d2
          cases d3
          exact ⟨lo, m, c0, k0, rfl, hz, k _ S1 H1 R1 q1 ⟨fun i _ _ hi _ _ => hi, fun _ _ _ _ => Nat.le_refl k0, fun i S' H' x H2 hi _ _ y => .inl ⟨y.1, by
            obtain ⟨_, rfl⟩ := y
            exact .int _⟩⟩⟩⟩
theorem getD_of {ds : List Da} {i : Nat} {d : Da} (h : ds[i]? = some d) : ds.getD i .non = d := by
  rw [List.getD_eq_getElem?_getD, h]
  rfl
theorem i_list (h : ED X a ρ ρ1 (.lst ds)) : ID X tg a ρ ρ1 ds.length (fun i => ds.getD i .non) :=
  pi_imp (pi_list h) fun σ H Rk ⟨e, Sh, R, k⟩ => ⟨e, Sh, R, fun v S1 H1 R1 q1 d1 => by
    cases d1 with
    | @lst l xs ds h t =>
      refine ⟨l, rfl, ⟨xs, .of (R1.sub _ _ h)⟩, k _ S1 H1 R1 q1 ⟨fun i S' H' hi s1 s2 => ?_, fun S' H' s1 s2 => ?_, fun i S' H' x H2 hi s1 s2 y => .inl ⟨y.1, ?_⟩⟩⟩
      · have hi2 : i < xs.length := by rw [t.length]; exact hi
        exact ⟨xs, xs[i], .of (s2 _ _ (s1 _ _ h)), by simp [hi2]⟩
      · exact ⟨xs, .of (s2 _ _ (s1 _ _ h)), by rw [t.length]; exact Nat.le_refl _⟩
      · have hx := y.2 xs (.of (s2 _ _ (s1 _ _ h)))
        obtain ⟨d, f1, f2⟩ := (t.mono s1).getV hx
        rw [getD_of f1]
        exact f2⟩
theorem i_tup (h : ED X a ρ ρ1 (.tup ds)) : ID X tg a ρ ρ1 ds.length (fun i => ds.getD i .non) :=
  pi_imp (pi_tup h) fun σ H Rk ⟨e, Sh, R, k⟩ => ⟨e, Sh, R, fun v S1 H1 R1 q1 d1 => by
    cases d1 with
    | @tup l xs ds h t =>
      have sq : ∀ {S' H' : Hp}, Same S1 S' → Same S' H' → SqT X.K H' l xs := fun {S' H'} s1 s2 => sqT_same s2 (sqT_same s1 h)
      refine ⟨l, rfl, ⟨xs, sqT_same R1.sub h⟩, k _ S1 H1 R1 q1 ⟨fun i S' H' hi s1 s2 => ?_, fun S' H' s1 s2 => ?_, fun i S' H' x H2 hi s1 s2 y => .inl ⟨y.1, ?_⟩⟩⟩
      · have hi2 : i < xs.length := by rw [t.length]; exact hi
        exact ⟨xs, xs[i], sq s1 s2, by simp [hi2]⟩
      · exact ⟨xs, sq s1 s2, by rw [t.length]; exact Nat.le_refl _⟩
      · have hx := y.2 xs (sq s1 s2)
        obtain ⟨d, f1, f2⟩ := (t.mono s1).getV hx
        rw [getD_of f1]
        exact f2⟩
/-! ### for -/
theorem q_for (S : Sco X N sc tp) {m : Nat} {item : Nat → Da} (hI : ID X tg iter ρ ρ1 m item) (I : Nat → List SV → Prop) (h0 : I 0 ρ1)
    (step : ∀ i ρ', i < m → I i ρ' → ∃ ρ2, GD X tg (item i) ρ' ρ2 ∧ SD X body ρ2 { nx := I (i + 1), ct := I (i + 1), bk := fun ρ3 => SD X rest ρ3 D, rt := D.rt, ex := D.ex, W := D.W }) (done : ∀ ρ', I m ρ' → SD X rest ρ' D)
    (hs : ∀ x, foldedSetIterable iter X.env x = pure x := by intro _; rfl) : SD X (.For tg iter body [] pos :: rest) ρ D :=
  sd_cons (ps_imp (ps_for S.po S.calm hI pg_any pss_any hs) fun Dn σ H ⟨e, Sh, R, G⟩ => ⟨e, Sh, R, fun J S1 H1 R1 q1 T => by
    have R1' := R1.enterS
    refine ⟨fun i k σ' H' => k = m - i ∧ i ≤ m ∧ ∃ ρ' S', I i ρ' ∧ Rp X.K ⟨e.H0, S1, e.P⟩ S' H' σ' ρ', ⟨m, by omega, Nat.zero_le _, ρ1, S1, h0, R1'⟩, fun i k σ' H' hW => ?_⟩
    obtain ⟨rfl, him, ρ', S', hi, R'⟩ := hW
    by_cases hlt : i < m
    · obtain ⟨ρ2, hg, hb⟩ := step i ρ' hlt hi
      refine .inr ⟨T.go i S' H' hlt R'.keepS R'.sub, fun σ'' H'' => ∃ ρ'' S'', I (i + 1) ρ'' ∧ Rp X.K ⟨e.H0, S1, e.P⟩ S'' H'' σ'' ρ'', fun σ'' H'' hN => ⟨m - (i + 1), by omega, rfl, hlt, hN⟩, fun x H2 hy => ?_⟩
      have G' : Gd X.K ⟨e.H0, S1, e.P⟩ { nx := I (i + 1), ct := I (i + 1), bk := fun ρ3 => SD X rest ρ3 D, rt := D.rt, ex := D.ex, W := D.W }
          { Dn with nx := fun σ'' H'' => ∃ ρ'' S'', I (i + 1) ρ'' ∧ Rp X.K ⟨e.H0, S1, e.P⟩ S'' H'' σ'' ρ'', ct := fun σ'' H'' => ∃ ρ'' S'', I (i + 1) ρ'' ∧ Rp X.K ⟨e.H0, S1, e.P⟩ S'' H'' σ'' ρ'', bk := Dn.nx } :=
        ⟨fun ρ3 σ3 S3 H3 h3 R3 => ⟨ρ3, S3, h3, R3⟩, fun d ρ3 v σ3 S3 H3 h3 R3 dv => G.rt d ρ3 v σ3 S3 H3 h3 (R1.leaveS R3) dv, fun ρ3 σ3 S3 H3 h3 R3 => G.nx ρ3 σ3 S3 H3 h3 (R1.leaveS R3), fun ρ3 σ3 S3 H3 h3 R3 => ⟨ρ3, S3, h3, R3⟩, G.p0, fun ρ3 c σ3 S3 H3 h3 R3 => G.ex ρ3 c σ3 S3 H3 h3 (R1.leaveS R3)⟩
      rcases T.yld i S' H' x H2 hlt R'.keepS R'.sub hy with ⟨rfl, dv⟩ | ⟨T0, xs, dd, n0, rfl, rfl, e0, dvs⟩
      · exact ⟨_, hg, _, S', R', dv, fun σ3 S3 H3 R3 q3 => ⟨_, hb, _, S3, R3, G'⟩⟩
      · have s0 := R'.s0 n0
        refine ⟨_, hg, _, _, R'.alloc n0, ?_, fun σ3 S3 H3 R3 q3 => ⟨_, hb, _, S3, R3, G'⟩⟩
        rw [e0]
        exact .tup (.of upd_same) (dvs.mono (same_new s0))
    · have : i = m := by omega
      subst this
      exact .inl ⟨T.stop S' H' R'.keepS R'.sub, G.nx ρ' σ' S' H' (done ρ' hi) (R1.leaveS R')⟩⟩)
end
end Wv
end
section
set_option Elab.async false
set_option linter.all false
set_option maxRecDepth 100000
namespace Wv
open PySem PySem.Spec PyProof.Rows L2

section
variable {X : Cx} {N : List Str} {sc : Scope} {tp : Bool} {ρ ρ1 ρ2 ρ3 : List SV} {a b c tg iter : Expr} {p p0 pos pos' : Pos} {x y z : Da} {n n0 : Str} {rest body : List Stmt} {D : De} {ds : List Da}
/-! ### while -/
theorem q_while (S : Sco X N sc tp) (I : Nat → List SV → Prop) (m0 : Nat) (h0 : I m0 ρ)
    (step : ∀ m ρ', I m ρ' → ∃ ρ2 b, TD X a ρ' ρ2 b ∧ (b = true → SD X body ρ2 { nx := fun ρ3 => ∃ m', m' < m ∧ I m' ρ3, ct := fun ρ3 => ∃ m', m' < m ∧ I m' ρ3, bk := fun ρ3 => SD X rest ρ3 D, rt := D.rt, ex := D.ex, W := D.W }) ∧ (b = false → SD X rest ρ2 D)) :
    SD X (.While a body [] pos :: rest) ρ D :=
  sd_cons (ps_imp (ps_while S.po pt_any pss_any) fun Dn σ H ⟨e, Sh, R, G⟩ => by
    refine ⟨fun m σ' H' => ∃ ρ' S', I m ρ' ∧ Rp X.K e S' H' σ' ρ', ⟨m0, ρ, Sh, h0, R⟩, fun m σ' H' hW => ?_⟩
    obtain ⟨ρ', S', hi, R'⟩ := hW
    obtain ⟨ρ2, b, ht, h1, h2⟩ := step m ρ' hi
    refine ⟨_, ht, e, S', R', fun S2 H2 R2 q2 => ?_⟩
    cases b with
    | true =>
      refine iteT ⟨fun σ'' H'' => ∃ ρ'' S'' m', m' < m ∧ I m' ρ'' ∧ Rp X.K e S'' H'' σ'' ρ'', fun σ'' H'' hN => ?_, _, h1 rfl, e, S2, R2, ?_⟩
      · obtain ⟨ρ'', S'', m', hm, hI, R''⟩ := hN
        exact ⟨m', hm, ρ'', S'', hI, R''⟩
      · exact ⟨fun ρ3 σ3 S3 H3 h3 R3 => by
          obtain ⟨m', hm, hI⟩ := h3
          exact ⟨ρ3, S3, m', hm, hI, R3⟩, G.rt, fun ρ3 σ3 S3 H3 h3 R3 => G.nx ρ3 σ3 S3 H3 h3 R3, fun ρ3 σ3 S3 H3 h3 R3 => by
          obtain ⟨m', hm, hI⟩ := h3
          exact ⟨ρ3, S3, m', hm, hI, R3⟩, G.p0, G.ex⟩
    | false => exact iteF (G.nx ρ2 σ' S2 H2 (h2 rfl) R2))
end

/-! ### comprehensions -/
def wipeD (ρ : List SV) : List Nat → List SV
  | [] => ρ
  | v :: vs => (wipeD ρ vs).set v .any
theorem wipe_get {σ : L2.St} {i : Nat} : ∀ {vs : List Nat}, (wipe σ vs)[i]? = if i ∈ vs then σ[i]?.map (fun _ => none) else σ[i]?
  | [] => by rw [if_neg (by simp)]; rfl
  | v :: vs => by
    show ((wipe σ vs).set v none)[i]? = _
    by_cases h : i = v
    · subst h
      rw [if_pos List.mem_cons_self, List.getElem?_set, if_pos rfl]
      by_cases hl : i < σ.length
      · rw [if_pos (by rw [wipe_length]; exact hl), List.getElem?_eq_getElem hl]
        rfl
      · rw [if_neg (by rw [wipe_length]; exact hl), List.getElem?_eq_none (by omega)]
        rfl
    · rw [set_other h, wipe_get (vs := vs)]
      by_cases hm : i ∈ vs
      · rw [if_pos hm, if_pos (List.mem_cons_of_mem _ hm)]
      · rw [if_neg hm, if_neg (by simp [h, hm])]
theorem wipe_set {σ : L2.St} {j : Nat} {w : Option V} {vs : List Nat} (h : j ∈ vs) : wipe (σ.set j w) vs = wipe σ vs := by
  apply List.ext_getElem?
  intro i
  rw [wipe_get, wipe_get]
  by_cases hm : i ∈ vs
  · rw [if_pos hm, if_pos hm, List.getElem?_set]
    by_cases e : j = i
    · subst e
      rw [if_pos rfl]
      by_cases hl : j < σ.length
      · rw [if_pos hl, List.getElem?_eq_getElem hl]
        rfl
      · rw [if_neg hl, List.getElem?_eq_none (by omega)]
    · rw [if_neg e]
  · rw [if_neg hm, if_neg hm]
    exact set_other fun e => hm (e ▸ h)
theorem wipe_wipe {σ : L2.St} {vs : List Nat} : wipe (wipe σ vs) vs = wipe σ vs := by
  apply List.ext_getElem?
  intro i
  rw [wipe_get, wipe_get]
  by_cases hm : i ∈ vs
  · rw [if_pos hm, if_pos hm]
    cases σ[i]? <;> rfl
  · rw [if_neg hm, if_neg hm]
theorem nown_P {K : PySem.W.Frag} {e : En} {S H : Hp} {σ : L2.St} {ρ : List SV} (R : Rp K e S H σ ρ) {i : Nat} (h : nown ρ i = true) (a : Addr) : ¬ e.P i a := fun z => by
  obtain ⟨ds, q⟩ := R.parO i a z
  exact nown_no h q
theorem Rp.wipe {K : PySem.W.Frag} {e : En} {S H : Hp} {σ : L2.St} {ρ : List SV} (R : Rp K e S H σ ρ) : ∀ {vs : List Nat}, (∀ v ∈ vs, nown ρ v = true) → Rp K e S H (L2.wipe σ vs) (wipeD ρ vs)
  | [], _ => R
  | v :: vs, h => (Rp.wipe R fun w hw => h w (List.mem_cons_of_mem _ hw)).forget fun a => nown_P R (h v List.mem_cons_self) a
theorem wipeD_own {ρ : List SV} {i : Nat} {ds : Ob} : ∀ {vs : List Nat}, (wipeD ρ vs)[i]? = some (.own ds) → ρ[i]? = some (.own ds) ∧ i ∉ vs
  | [], h => ⟨h, by simp⟩
  | v :: vs, h => by
    rcases get_set (show ((wipeD ρ vs).set v .any)[i]? = some (.own ds) from h) with ⟨_, z⟩ | ⟨ne, z⟩
    · cases z
    · obtain ⟨h1, h2⟩ := wipeD_own z
      exact ⟨h1, by simp [ne, h2]⟩
theorem wipeD_keep {ρ : List SV} {i : Nat} : ∀ {vs : List Nat}, i ∉ vs → (wipeD ρ vs)[i]? = ρ[i]?
  | [], _ => rfl
  | v :: vs, h => by
    show ((wipeD ρ vs).set v .any)[i]? = _
    rw [set_other (fun e => h (by rw [e]; exact List.mem_cons_self))]
    exact wipeD_keep fun e => h (List.mem_cons_of_mem _ e)

/-- a target whose names are the block's own -/
def Stays (vs : List Nat) (σ σ' : L2.St) (ρ ρ' : List SV) : Prop := L2.wipe σ' vs = L2.wipe σ vs ∧ (∀ (i : Nat) (ds : Ob), ρ[i]? = some (.own ds) → ρ'[i]? = some (.own ds) ∧ σ'[i]? = σ[i]?) ∧ ∀ (i : Nat) (ds : Ob), ρ'[i]? = some (.own ds) → ρ[i]? = some (.own ds)
def tGc (K : PySem.W.Frag) (vs : List Nat) (d : Da) (ρ ρ' : List SV) : TG := fun v σ H Q => ∃ e S, Rp K e S H σ ρ ∧ Dv K S v d ∧ ∀ σ' S' H', Rp K e S' H' σ' ρ' → Same S S' → Stays vs σ σ' ρ ρ' → Q σ' H'
abbrev GC (X : Cx) (vs : List Nat) (tg : Expr) (d : Da) (ρ ρ' : List SV) : Prop := PG X tg (tGc X.K vs d ρ ρ')
section
variable {X : Cx} {N : List Str} {sc : Scope} {tp : Bool} {ρ ρ1 ρ2 ρ3 : List SV} {a b c tg iter : Expr} {p p0 pos pos' : Pos} {x y z : Da} {n n0 : Str} {vs : List Nat}
theorem gc_nm (S : Sco X N sc tp) (j : Nat) (hv : j ∈ vs := by decide) (hn : nown ρ j = true := by rfl) (hN : N[j]? = some n := by rfl) (hs : Sto sc tp n := by first | exact Or.inl rfl | exact Or.inr ⟨rfl, rfl⟩) : GC X vs (.Name n pos) x ρ (ρ.set j (.d x)) :=
  pg_imp (pg_name (i := j) S.ndX (by rw [S.n]; exact hN) (S.sto hs).1 (S.sto hs).2) fun v σ H Q ⟨e, Sh, R, d, k⟩ => k _ Sh H (R.set hn d) (.refl Sh) ⟨wipe_set hv, fun i ds q => by
    have ne : i ≠ j := fun z => nown_no hn (z ▸ q)
    exact ⟨by rw [set_other ne]; exact q, set_other ne⟩, fun i ds q => by
    rcases get_set q with ⟨_, z⟩ | ⟨_, z⟩
    · cases z
    · exact z⟩
theorem gc_tup2 (S : Sco X N sc tp) {k : Nat} {t1 t2 : Expr} (h1 : GC X vs t1 x ρ ρ1) (h2 : GC X vs t2 y ρ1 ρ2)
    (hs1 : (assignEach [t1, t2] X.env).map (·.2) = assign t1 X.env :: (assignEach [t2] X.env).map (·.2) := by rfl) (hs2 : (assignEach [t2] X.env).map (·.2) = assign t2 X.env :: (assignEach [] X.env).map (·.2) := by rfl)
    (hl : (assignEach [t1, t2] X.env).length = 2 := by rfl) (hst : (assignEach [t1, t2] X.env).findIdx? (·.1) = none := by rfl) : GC X vs (.Tuple [t1, t2] k pos) (.tup [x, y]) ρ ρ2 :=
  pg_imp (pg_tup S.calm (pgs_cons h1 (pgs_cons h2 pgs_nil hs2) hs1) hl hst) fun v σ H Q ⟨e, Sh, R, d, q⟩ => by
    cases d with
    | tup h t =>
      refine ⟨_, _, rfl, sqT_same R.sub h, t.length, ?_⟩
      cases t with
      | cons d1 t =>
        cases t with
        | cons d2 t =>
          cases t
          exact ⟨_, _, rfl, e, Sh, R, d1, fun σ1 S1 H1 R1 q1 w1 => ⟨_, _, rfl, e, S1, R1, d2.mono q1, fun σ2 S2 H2 R2 q2 w2 => ⟨rfl, q σ2 S2 H2 R2 (q1.trans q2) ⟨w2.1.trans w1.1, fun i ds z => by
            obtain ⟨z1, z2⟩ := w1.2.1 i ds z
            obtain ⟨z3, z4⟩ := w2.2.1 i ds z1
            exact ⟨z3, z4.trans z2⟩, fun i ds z => w1.2.2 i ds (w2.2.2 i ds z)⟩⟩⟩⟩
theorem sco_blk (S : Sco X N sc tp) {scope : Scope} (hk : scope.kind = .function) (s : Shared) (H : Hp) (C : Addr) (cl : List (Str × Addr)) (fp : List Addr) : Sco (X.blk s H scope (compEnvC scope cl C X.env) fp) N (relS scope sc) false where
  n := S.n
  s := by
    show relS scope X.env.scope = relS scope sc
    rw [S.s]
  nd := S.nd
  calm := S.calm
  kind := hk
  po := PassesOwn.never
  fn := fun h => nomatch h

theorem allN {ρ : List SV} {l : List Nat} (h : l.all (nown ρ) = true) : ∀ v ∈ l, nown ρ v = true := List.all_eq_true.mp h
/-- the reading of a comprehension of one clause -/
theorem lc_read {m : Nat} {item : Nat → Da} {elt : Expr} {ifs : List Expr} {scope : Scope} (f : Nat → Option Da) (τ : Nat → List SV) (hno : ∀ v ∈ vs, nown ρ1 v = true)
    (hm : m ≤ 1000000)
    (turn : ∀ i, i < m → (∀ s H C cl fp, GC (X.blk s H scope (compEnvC scope cl C X.env) fp) vs tg (item i) (wipeD ρ1 vs) (τ i)) ∧ (∀ s H C cl fp, PTs (X.blk s H scope (compEnvC scope cl C X.env) fp) ifs (tT X.K (τ i) (τ i) (f i).isSome)) ∧
      ∀ d, f i = some d → ∀ s H C cl fp, ED (X.blk s H scope (compEnvC scope cl C X.env) fp) elt (τ i) (τ i) d) {σ : L2.St} {H : Hp} {Q : VK} (h : tF X.K ρ ρ1 ((List.range m).filterMap f) σ H Q) :
    tLc (tI X.K ρ ρ1 m item) (fun v σ H Q => ∃ t, (∀ s H C cl fp, PG (X.blk s H scope (compEnvC scope cl C X.env) fp) tg t) ∧ t v σ H Q) (fun σ H Q => ∃ t, (∀ s H C cl fp, PTs (X.blk s H scope (compEnvC scope cl C X.env) fp) ifs t) ∧ t σ H Q)
      (fun σ H Q => ∃ t, (∀ s H C cl fp, PE (X.blk s H scope (compEnvC scope cl C X.env) fp) elt t) ∧ t σ H Q) vs σ H Q := by
  obtain ⟨e, Sh, R, k⟩ := h
  refine ⟨e, Sh, R, fun J S1 H1 R1 q1 T Dl hD => ?_⟩
  have Rw := R1.wipe hno
  have Re := Rw.enter
  have s1D : S1 Dl = none := R1.s0 hD
  let acc : Nat → List Da := fun i => (List.range i).filterMap f
  have accL : ∀ i, (acc i).length ≤ i := fun i => by
    have := List.length_filterMap_le f (List.range i)
    rw [List.length_range] at this
    exact this
  refine ⟨fun i k H' => k = m - i ∧ i ≤ m ∧ ∃ S' ys, Rp X.K (enOf H1 S1 (L2.wipe σ vs) (wipeD ρ1 vs)) S' H' (L2.wipe σ vs) (wipeD ρ1 vs) ∧ S' Dl = none ∧ H' Dl = some (.lst ys) ∧ Dvs X.K S' ys (acc i), ⟨m, by omega, Nat.zero_le _, S1, [], Re.allocO hD, s1D, upd_same, .nil⟩, fun i k' H' hW => ?_⟩
  obtain ⟨rfl, him, S', ys, R', hS, hH, hd⟩ := hW
  by_cases hlt : i < m
  · obtain ⟨hg, ht, he⟩ := turn i hlt
    refine .inr ⟨T.go i S' H' hlt R'.keepS R'.sub, fun H'' => ∃ S'' ys, Rp X.K (enOf H1 S1 (L2.wipe σ vs) (wipeD ρ1 vs)) S'' H'' (L2.wipe σ vs) (wipeD ρ1 vs) ∧ S'' Dl = none ∧ H'' Dl = some (.lst ys) ∧ Dvs X.K S'' ys (acc (i + 1)), fun H'' hN => ⟨m - (i + 1), by omega, rfl, hlt, hN⟩, fun x H2 hy => ?_⟩
    -- the item
    have item_ : ∃ S2, Rp X.K (enOf H1 S1 (L2.wipe σ vs) (wipeD ρ1 vs)) S2 H2 (L2.wipe σ vs) (wipeD ρ1 vs) ∧ Same S' S2 ∧ Dv X.K S2 x (item i) ∧ S2 Dl = none ∧ H2 Dl = some (.lst ys) := by
      rcases T.yld i S' H' x H2 hlt R'.keepS R'.sub hy with ⟨rfl, dv⟩ | ⟨T0, xs, dd, n0, rfl, rfl, e0, dvs⟩
      · exact ⟨S', R', .refl S', dv, hS, hH⟩
      · have s0 := R'.s0 n0
        have ne : Dl ≠ T0 := ne_of_none hH n0
        refine ⟨_, R'.alloc n0, same_new s0, ?_, by rw [upd_ne ne]; exact hS, by rw [upd_ne ne]; exact hH⟩
        rw [e0]
        exact .tup (.of upd_same) (dvs.mono (same_new s0))
    obtain ⟨S2, R2, q2, dv, hS2, hH2⟩ := item_
    -- the target, at an entry of its own
    have R2e := R2.enter
    have nD : ∀ {σ' : L2.St} {ρ' : List SV} {S3 H3 : Hp}, Rp X.K (enOf H2 S2 (L2.wipe σ vs) (wipeD ρ1 vs)) S3 H3 σ' ρ' → S3 Dl = none ∧ H3 Dl = some (.lst ys) := fun {σ' ρ' S3 H3} R3 => by
      have nP : ∀ j, ¬ owns (L2.wipe σ vs) (wipeD ρ1 vs) j Dl := fun j z => by
        obtain ⟨es, h1, h2⟩ := z
        obtain ⟨h3, h4⟩ := wipeD_own h1
        obtain ⟨l, zs, e1, e2, e3, _⟩ := R1.own j es h3
        rw [wipe_get, if_neg h4, e1] at h2
        cases h2
        rw [hD] at e3
        cases e3
      refine ⟨?_, R3.keep Dl _ hH2 nP⟩
      cases y : S3 Dl with
      | none => rfl
      | some o =>
        have z : H2 Dl = none := R3.new Dl (by rw [y]; exact fun h => nomatch h) hS2
        rw [hH2] at z
        cases z
    refine ⟨tGc X.K vs (item i) (wipeD ρ1 vs) (τ i), hg, ?_⟩
    refine ⟨_, S2, R2e, dv, fun σ3 S3 H3 R3 q3 st => ⟨by rw [st.1, wipe_wipe], tT X.K (τ i) (τ i) (f i).isSome, ht, _, S3, R3, fun S4 H4 R4 q4 => ?_⟩⟩
    have back : ∀ {S5 H5 : Hp}, Rp X.K (enOf H2 S2 (L2.wipe σ vs) (wipeD ρ1 vs)) S5 H5 σ3 (τ i) → Rp X.K (enOf H1 S1 (L2.wipe σ vs) (wipeD ρ1 vs)) S5 H5 (L2.wipe σ vs) (wipeD ρ1 vs) := fun {S5 H5} R5 =>
      R2.back (R2.leave R5) R5.keepS st.2.1
    cases hf : f i with
    | none =>
      have hacc : acc (i + 1) = acc i := by
        show (List.range (i + 1)).filterMap f = _
        rw [List.range_succ, List.filterMap_append, List.filterMap_cons, hf]
        exact List.append_nil _
      refine iteF ?_
      obtain ⟨d1, d2⟩ := nD R4
      refine ⟨S4, ys, back R4, d1, d2, ?_⟩
      rw [hacc]
      exact hd.mono (q2.trans (q3.trans q4))
    | some d =>
      have hacc : acc (i + 1) = acc i ++ [d] := by
        show (List.range (i + 1)).filterMap f = _
        rw [List.range_succ, List.filterMap_append, List.filterMap_cons, hf]
        rfl
      refine iteT ⟨tD X.K (τ i) (τ i) d, he d hf, _, S4, R4, fun y S5 H5 R5 q5 d5 => ?_⟩
      obtain ⟨d1, d2⟩ := nD R5
      refine ⟨ys, d2, ?_, S5, ys ++ [y], ?_, d1, upd_same, ?_⟩
      · rw [hd.length, sizeLine_eq]
        have := accL i
        omega
      · refine (back R5).mutFree d1 hD fun j es h1 h2 => ?_
        obtain ⟨h3, h4⟩ := wipeD_own h1
        obtain ⟨l, zs, e1, e2, e3, _⟩ := R1.own j es h3
        rw [wipe_get, if_neg h4, e1] at h2
        cases h2
        rw [hD] at e3
        cases e3
      · rw [hacc]
        exact (hd.mono (q2.trans (q3.trans (q4.trans q5)))).append (.cons d5 .nil)
  · have : i = m := by omega
    subst this
    have Rf : Rp X.K e S' H' σ ρ1 := R1.back (Rw.leave R') R'.keepS fun j es q => by
      have hj : j ∉ vs := fun z => nown_no (hno j z) q
      exact ⟨by rw [wipeD_keep hj]; exact q, by rw [wipe_get, if_neg hj]⟩
    refine .inl ⟨T.stop S' H' R'.keepS R'.sub, k Dl S' H' Rf (q1.trans R'.keepS) ⟨ys, hS, hH, hd, R1.h0 hD, fun j es h1 h2 => ?_⟩⟩
    obtain ⟨l, zs, e1, e2, e3, _⟩ := R1.own j es h1
    rw [h2] at e1
    cases e1
    rw [hD] at e3
    cases e3
theorem pgB_any {scope : Scope} (s : Shared) (H : Hp) (C : Addr) (cl : List (Str × Addr)) (fp : List Addr) : PG (X.blk s H scope (compEnvC scope cl C X.env) fp) tg (fun v σ H Q => ∃ t, (∀ s H C cl fp, PG (X.blk s H scope (compEnvC scope cl C X.env) fp) tg t) ∧ t v σ H Q) := ⟨fun pins s' σ H' v u Q I r h => by
  obtain ⟨t, p, q⟩ := h
  exact (p s H C cl fp).run pins s' σ H' v u Q I r q⟩
theorem ptsB_any {ifs : List Expr} {scope : Scope} (s : Shared) (H : Hp) (C : Addr) (cl : List (Str × Addr)) (fp : List Addr) : PTs (X.blk s H scope (compEnvC scope cl C X.env) fp) ifs (fun σ H Q => ∃ t, (∀ s H C cl fp, PTs (X.blk s H scope (compEnvC scope cl C X.env) fp) ifs t) ∧ t σ H Q) := ⟨fun pins s' σ H' Q I h => by
  obtain ⟨t, p, q⟩ := h
  exact (p s H C cl fp).run pins s' σ H' Q I q⟩
theorem peB_any {elt : Expr} {scope : Scope} (s : Shared) (H : Hp) (C : Addr) (cl : List (Str × Addr)) (fp : List Addr) : PE (X.blk s H scope (compEnvC scope cl C X.env) fp) elt (fun σ H Q => ∃ t, (∀ s H C cl fp, PE (X.blk s H scope (compEnvC scope cl C X.env) fp) elt t) ∧ t σ H Q) := ⟨fun pins s' σ H' Q I h => by
  obtain ⟨t, p, q⟩ := h
  exact (p s H C cl fp).run pins s' σ H' Q I q⟩
theorem blk_ok (S : Sco X N sc tp) {scope : Scope} {own : List (Str × Nat)} (h : blkC N sc scope own = true) : BlkOk X.N X.env.scope scope own := by
  rw [S.n, S.s]
  exact blkOk_by h
theorem f_lc (S : Sco X N sc tp) {m : Nat} {item : Nat → Da} {elt : Expr} {ifs : List Expr} {scope : Scope} {own : List (Str × Nat)} (hI : ID X tg iter ρ ρ1 m item) (hb : blkC N sc scope own = true) (f : Nat → Option Da) (τ : Nat → List SV) (hm : m ≤ 1000000)
    (turn : ∀ i, i < m → (∀ s H C cl fp, GC (X.blk s H scope (compEnvC scope cl C X.env) fp) (own.map (·.2)) tg (item i) (wipeD ρ1 (own.map (·.2))) (τ i)) ∧ (∀ s H C cl fp, PTs (X.blk s H scope (compEnvC scope cl C X.env) fp) ifs (tT X.K (τ i) (τ i) (f i).isSome)) ∧
      ∀ d, f i = some d → ∀ s H C cl fp, ED (X.blk s H scope (compEnvC scope cl C X.env) fp) elt (τ i) (τ i) d)
    (hno : (own.map (·.2)).all (nown ρ1) = true := by rfl) (hs : ∀ x, foldedSetIterable iter X.env x = pure x := by intro _; rfl) : FD X (.ListComp elt [⟨tg, iter, ifs, 0⟩] scope pos) ρ ρ1 ((List.range m).filterMap f) :=
  pe_imp (pe_lc S.calm S.ndX hI (blk_ok S hb) pgB_any ptsB_any peB_any hs) fun σ H Q h => lc_read f τ (allN hno) hm turn h
/-- y = [..] -/
theorem q_setLc (S : Sco X N sc tp) (i : Nat) {rest : List Stmt} {D : De} {m : Nat} {item : Nat → Da} {elt : Expr} {ifs : List Expr} {scope : Scope} {own : List (Str × Nat)} (hI : ID X tg iter ρ ρ1 m item) (hb : blkC N sc scope own = true) (f : Nat → Option Da) (τ : Nat → List SV) (hm : m ≤ 1000000)
    (turn : ∀ i, i < m → (∀ s H C cl fp, GC (X.blk s H scope (compEnvC scope cl C X.env) fp) (own.map (·.2)) tg (item i) (wipeD ρ1 (own.map (·.2))) (τ i)) ∧ (∀ s H C cl fp, PTs (X.blk s H scope (compEnvC scope cl C X.env) fp) ifs (tT X.K (τ i) (τ i) (f i).isSome)) ∧
      ∀ d, f i = some d → ∀ s H C cl fp, ED (X.blk s H scope (compEnvC scope cl C X.env) fp) elt (τ i) (τ i) d)
    (k : SD X rest (ρ1.set i (.own (.l ((List.range m).filterMap f)))) D) (hn : nown ρ1 i = true := by rfl) (hN : N[i]? = some n := by rfl) (hl : sc.names.lookup n = some .local := by rfl) (hp : (pos'.line == pos.line) = true := by rfl)
    (ha : (scope.names.any fun (n', k) => n' == n && (k == .local || k == .cell)) = false := by decide +kernel)
    (hno : (own.map (·.2)).all (nown ρ1) = true := by rfl) (hs : ∀ x, foldedSetIterable iter X.env x = pure x := by intro _; rfl) : SD X (.Assign [.Name n pos'] (.ListComp elt [⟨tg, iter, ifs, 0⟩] scope pos) p :: rest) ρ D :=
  sd_cons (ps_imp (ps_setLc (i := i) S.calm S.ndX (by rw [S.n]; exact hN) (by rw [S.s]; exact hl) (sw_true (by rw [S.s]; exact S.kind) (by rw [S.s]; exact hl) hp ha) hI (blk_ok S hb) pgB_any ptsB_any peB_any hs) fun Dn σ H ⟨e, Sh, R, G⟩ =>
    lc_read f τ (allN hno) hm turn ⟨e, Sh, R, fun l S1 H1 R1 q1 fr => by
      obtain ⟨xs, f1, f2, f3, f4, f5⟩ := fr
      exact G.nx _ _ S1 H1 k (R1.setO hn f1 f2 (.l f3) f4 f5)⟩)
theorem pts_y {ρ : List SV} : PTs X [] (tT X.K ρ ρ true) := ⟨fun _ _ _ H _ I h => by
  obtain ⟨e, S, R, k⟩ := h
  exact wpAny_tests_nil ⟨H, I, k S H R (.refl S)⟩⟩
theorem pts_1 {c : Expr} {ρ : List SV} {b : Bool} (h : TD X c ρ ρ b) : PTs X [c] (tT X.K ρ ρ b) := pts_one h
end
end Wv
end
section
set_option Elab.async false
set_option linter.all false
set_option maxRecDepth 100000
namespace Wv
open PySem PySem.Spec PyProof.Rows L2

/-! ### enumerate of a tuple, of a text -/
set_option maxHeartbeats 1000000 in
theorem meets_enumerate_newB1 {v : Value} {o : Obj} {H : Heap → Prop} (B : Begins v o H) :
    Meets (Builtin.«enumerate.__new__» ⟨[.type "enumerate", v], []⟩) (fun _ R s => H s.heap ∧
      R (.ok (.ret (.ref (s.heap.push o).objs.size))) { s with heap := (s.heap.push o).push { cls := .type "enumerate", data := .fields #[.none, .bool false, .ref s.heap.objs.size, rawInt 0, .none, .none] } }) :=
  .of_wp fun prog w A R s h => by
    obtain ⟨hp, g, d, tk, os⟩ := s; obtain ⟨h1, h⟩ := h
    have hsub := sub_enumerate
    have q1 : ∀ {A' : Around} {E : Value → Shared → Prop} {Q : Value → Shared → Prop}, Q (.ref hp.objs.size) ⟨hp.push o, g, d, tk, os⟩ → wpAny (model prog w) A' (pyIter v) Q E ⟨hp, g, d, tk, os⟩ :=
      fun q => B.iter prog w _ _ ⟨hp, g, d, tk, os⟩ _ h1 q
    wp_walk using q1
    refine wpAny_stack_any fun st => wpAny_pure ?_
    split
    · rename_i c _ _ _ _ _
      cases (c == Value.type "enumerate")
      · wp_walk using q1
        exact ⟨_, rfl, h⟩
      · wp_walk using q1
        exact ⟨_, rfl, h⟩
    · wp_walk using q1
      exact ⟨_, rfl, h⟩
theorem wpAny_call_enumerateB {prog : Program} {w : World} {A : Around} {E : Value → Shared → Prop} {s : Shared} {v : Value} {o : Obj} {H : Heap → Prop} {Q : Value → Shared → Prop} (B : Begins v o H) (h1 : H s.heap)
    (h : ∀ h', IsEnum h' (s.heap.objs.size + 1) s.heap.objs.size 0 .none → h'.get? s.heap.objs.size = some o → h'.objs.size = s.heap.objs.size + 2 →
      (∀ b o, s.heap.get? b = some o → h'.get? b = some o) → Q (.ref (s.heap.objs.size + 1)) { s with heap := h' }) :
    wpAny (model prog w) A (call (.type "enumerate") [v]) Q E s := by
  refine callType_new F.called_enumerate (by decide) (F.typeCall_enumerate_1 _) (F.newCall_enumerate_1 _) (fun obj => F.args_object_init_2 obj _) F.entry_enumerate_new
    (meets_enumerate_newB1 B) ⟨h1, ?_⟩
  have hz : (s.heap.push o).objs.size = s.heap.objs.size + 1 := Heap.size_push ..
  show _ ∧ _
  rw [hz]
  have he : IsEnum ((s.heap.push o).push { cls := .type "enumerate", data := .fields #[.none, .bool false, .ref s.heap.objs.size, rawInt 0, .none, .none] }) (s.heap.objs.size + 1) s.heap.objs.size 0 .none := by
    have := Heap.get?_push_size (s.heap.push o) (o := { cls := .type "enumerate", data := .fields #[.none, .bool false, .ref s.heap.objs.size, rawInt 0, .none, .none] }) rfl
    rw [hz] at this; exact this
  refine ⟨⟨_, he, rfl⟩, h _ he (Heap.get?_push_of_some _ (Heap.get?_push_size _ B.free)) (by rw [Heap.size_push, hz]) fun b o x => Heap.get?_push_of_some _ (Heap.get?_push_of_some _ x)⟩

def IteT (K : PySem.W.Frag) (a : Addr) : It :=
  ⟨fun i H => ∃ (xs : List V) (x : V), SqT K H a xs ∧ xs[i]? = some x, fun i H v H' => ∃ T x, v = .ref T ∧ H T = none ∧ H' = upd H T (.tup [.int (i : Nat), x]) ∧ ∀ xs, SqT K H a xs → xs[i]? = some x, fun i H => ∃ xs : List V, SqT K H a xs ∧ xs.length ≤ i⟩
theorem turn_enumT {P : Program} {w : World} {K : PySem.W.Frag} {elts : List Expr} {kk : Nat} {tpos : Pos} (a e it : Addr) (hei : e ≠ it) (hae : a ≠ e) (hai : a ≠ it) :
    Turn P w K (.Tuple elts kk tpos) (IteT K a) [e, it] e (fun i h => (∃ old, IsEnum h e it ((i : Nat) : Int) old) ∧ h.IsTupleIter it a i) where
  mem := by simp
  obj := fun i h st b hb => by
    obtain ⟨⟨old, he⟩, ⟨o, ho, hc, hd⟩⟩ := st
    have e' : b = e ∨ b = it := by simpa using hb
    rcases e' with z | z
    · rw [z]; exact ⟨_, he, fun v q => nomatch q⟩
    · rw [z]; exact ⟨o, ho, fun v q => by rw [hd] at q; cases q⟩
  keep := fun i h h' st k => let ⟨⟨old, he⟩, hi⟩ := st; ⟨⟨old, k e (by simp) _ he⟩, hi.at fun o q => k it (by simp) o q⟩
  item := by
    intro X hP hw hK hc i pins s σ H E I hf st hg
    subst hP hw hK
    obtain ⟨⟨old, he⟩, hit⟩ := st
    obtain ⟨xs, x, hq, hx⟩ := hg
    obtain ⟨its, rv, p, hz⟩ := I.tuple hq
    obtain ⟨u, hu, ru⟩ := rv.get hx
    have hel : e < s.heap.objs.size := Heap.lt_size he
    have hil : it < s.heap.objs.size := by obtain ⟨_, q, _⟩ := hit; exact Heap.lt_size q
    have D := Draws.tuple (prog := X.prog) (w := X.w) (A := X.A.in1) (show X.A.in1.handled = none from I.ok.hd hc) it a hai its.toArray
    have hlt : i < its.toArray.size := by
      have := (List.getElem?_eq_some_iff.mp hu).1
      simpa using this
    refine wpAny_pyNext_enum_itemD D he ⟨hit, p⟩ hlt hei (by simp; exact ⟨hei, fun z => hae z.symm⟩) fun y h' tk hP ho st' hT hsz hk => ?_
    have ey : y = u := by
      have q : its.toArray[i]? = some y := hP
      have q2 : its.toArray[i]? = some u := by simpa using hu
      rw [q] at q2
      exact Option.some.inj q2
    subst ey
    refine ⟨_, rfl, wpAny_letOwnedTupleGo_enum (s := { s with heap := h', toks := tk + 1 }) ho fun h'' he' sb => ?_⟩
    have hT2 : h''.get? s.heap.objs.size = some { cls := .type "tuple", data := .seq #[.int i tk, y] } := (sb.2 _ (Nat.ne_of_gt hel)).trans hT
    have new : ObjOk X.prog X.w (upd H s.heap.objs.size (.tup [.int (i : Nat), x])) h'' s.heap.objs.size (.tup [.int (i : Nat), x]) :=
      ⟨by show 2 ≤ sizeLine; decide, [.int i tk, y], .cons ⟨_, rfl⟩ (.cons ru .nil), ⟨_, hT2, rfl, _, rfl⟩⟩
    have I1 : Inv X pins σ (upd H s.heap.objs.size (.tup [.int (i : Nat), x])) { s with heap := h'', toks := tk + 1 } :=
      I.turnedNew (ch := [e, it]) (fun b ob hb q => (sb.2 b (fun z => hb (by simp [z]))).trans (hk b ob (fun z => hb (by simp [z])) (fun z => hb (by simp [z])) q)) hf (Nat.le_refl _) new
    refine ⟨.ref s.heap.objs.size, _, I1, rfl, ⟨_, x, rfl, I.hok.fresh (Nat.le_refl _), rfl, fun ys hy => by rw [I.tuple_inj hy hq]; exact hx⟩, ⟨⟨y, ?_⟩, st'.1.at fun o q => (sb.2 it (Ne.symm hei)).trans q⟩, fun b hb => ?_⟩
    · have e1 : ((i + 1 : Nat) : Int) = (i : Int) + 1 := by omega
      rw [e1]; exact he'
    · have hb' : b < s.heap.objs.size := by
        have e' : b = e ∨ b = it := by simpa using hb
        rcases e' with z | z
        · rw [z]; exact hel
        · rw [z]; exact hil
      rw [upd_ne (Nat.ne_of_lt hb')]
      exact (hf b hb).1
  done := by
    intro X hP hw hK hc i pins s σ H E I hf st hg
    subst hP hw hK
    obtain ⟨⟨old, he⟩, hit⟩ := st
    obtain ⟨xs, hq, hx⟩ := hg
    obtain ⟨its, rv, p, hz⟩ := I.tuple hq
    obtain ⟨f0, f1, f2, f3, f4, f5⟩ := hf it (by simp)
    have hl := rv.length
    have hT : s.TypeIs (.ref e) "enumerate" := ⟨_, he, rfl⟩
    have hno : its.toArray[i]? = none := by
      simp
      omega
    unfold pyNext
    refine wpAny_bind (wpAny_attempt (wpAny_callSpecial?_slot (name := Str.ofString "__next__") hT F.slot_enumerate_next
      (wpAny_call_entry F.slot_enumerate_next hT F.entry_enumerate_next ?_ (F.args_enumerate_next_1 _))))
    show wpAny _ _ (field (.ref e) 2 >>= _) _ _ _
    refine wpAny_bind (wpAny_field he rfl (x := .ref it) rfl ?_)
    refine wpAny_bind (wpAny_nextOf_tuple_end (show X.A.in1.in1.handled = none from I.ok.hd hc) hit p hno fun h' ex he' hx' => ?_)
    obtain ⟨o, ho, hc2⟩ := hx'
    refine wpAny_bind (wpAny_isInstance (T := "StopIteration") (b := true) ⟨o, ho, hc2⟩ isSubtype_stop ?_)
    exact wpAny_pure ⟨rfl, I.turned (t' := s.toks) (fun b o hb q => he' b o hb q) f0 f1 f3 f4 f5⟩
  self := fun A i s Q E st h => let ⟨⟨_, he⟩, _⟩ := st; wpAny_pyIter_enum he h
theorem turn_enumS {P : Program} {w : World} {K : PySem.W.Frag} {elts : List Expr} {kk : Nat} {tpos : Pos} (x : Str) (t : Tok) (e it : Addr) (hei : e ≠ it) :
    Turn P w K (.Tuple elts kk tpos) ⟨fun i H => i < x.cps.size, fun i H v H' => ∃ T c, v = .ref T ∧ H T = none ∧ x.cps[i]? = some c ∧ H' = upd H T (.tup [.int (i : Nat), .str ⟨#[c]⟩]), fun i H => i = x.cps.size⟩ [e, it] e (fun i h => (∃ old, IsEnum h e it ((i : Nat) : Int) old) ∧ h.IsStrIter it (strIterType x) x t i) where
  mem := by simp
  obj := fun i h st b hb => by
    obtain ⟨⟨old, he⟩, ⟨o, ho, hc, hd⟩⟩ := st
    have e' : b = e ∨ b = it := by simpa using hb
    rcases e' with z | z
    · rw [z]; exact ⟨_, he, fun v q => nomatch q⟩
    · rw [z]; exact ⟨o, ho, fun v q => by rw [hd] at q; cases q⟩
  keep := fun i h h' st k => let ⟨⟨old, he⟩, ⟨o, ho, r⟩⟩ := st; ⟨⟨old, k e (by simp) _ he⟩, ⟨o, k it (by simp) o ho, r⟩⟩
  item := by
    intro X hP hw hK hc i pins s σ H E I hf st hg
    subst hP hw hK
    obtain ⟨⟨old, he⟩, hit⟩ := st
    have hel : e < s.heap.objs.size := Heap.lt_size he
    have hil : it < s.heap.objs.size := by obtain ⟨_, q, _⟩ := hit; exact Heap.lt_size q
    have D := Draws.text (prog := X.prog) (w := X.w) (A := X.A.in1) (show X.A.in1.handled = none from I.ok.hd hc) it x t
    refine wpAny_pyNext_enum_itemD D he hit hg hei (by simp; exact hei) fun y h' tk hP ho st' hT hsz hk => ?_
    obtain ⟨c, u, hcx, rfl⟩ := hP
    refine ⟨_, rfl, wpAny_letOwnedTupleGo_enum (s := { s with heap := h', toks := tk + 1 }) ho fun h'' he' sb => ?_⟩
    have hT2 : h''.get? s.heap.objs.size = some { cls := .type "tuple", data := .seq #[.int i tk, .str ⟨#[c]⟩ u] } := (sb.2 _ (Nat.ne_of_gt hel)).trans hT
    have new : ObjOk X.prog X.w (upd H s.heap.objs.size (.tup [.int (i : Nat), .str ⟨#[c]⟩])) h'' s.heap.objs.size (.tup [.int (i : Nat), .str ⟨#[c]⟩]) :=
      ⟨by show 2 ≤ sizeLine; decide, [.int i tk, .str ⟨#[c]⟩ u], .cons ⟨_, rfl⟩ (.cons ⟨_, rfl⟩ .nil), ⟨_, hT2, rfl, _, rfl⟩⟩
    have I1 : Inv X pins σ (upd H s.heap.objs.size (.tup [.int (i : Nat), .str ⟨#[c]⟩])) { s with heap := h'', toks := tk + 1 } :=
      I.turnedNew (ch := [e, it]) (fun b ob hb q => (sb.2 b (fun z => hb (by simp [z]))).trans (hk b ob (fun z => hb (by simp [z])) (fun z => hb (by simp [z])) q)) hf (Nat.le_refl _) new
    refine ⟨.ref s.heap.objs.size, _, I1, rfl, ⟨_, c, rfl, I.hok.fresh (Nat.le_refl _), hcx, rfl⟩, ⟨⟨.str ⟨#[c]⟩ u, ?_⟩, ?_⟩, fun b hb => ?_⟩
    · have e1 : ((i + 1 : Nat) : Int) = (i : Int) + 1 := by omega
      rw [e1]; exact he'
    · obtain ⟨o, ho2, r⟩ := st'
      exact ⟨o, (sb.2 it (Ne.symm hei)).trans ho2, r⟩
    · have hb' : b < s.heap.objs.size := by
        have e' : b = e ∨ b = it := by simpa using hb
        rcases e' with z | z
        · rw [z]; exact hel
        · rw [z]; exact hil
      rw [upd_ne (Nat.ne_of_lt hb')]
      exact (hf b hb).1
  done := by
    intro X hP hw hK hc i pins s σ H E I hf st hg
    subst hP hw hK
    obtain ⟨⟨old, he⟩, hit⟩ := st
    obtain ⟨f0, f1, f2, f3, f4, f5⟩ := hf it (by simp)
    have D := Draws.text (prog := X.prog) (w := X.w) (A := X.A.in1) (show X.A.in1.handled = none from I.ok.hd hc) it x t
    have hi : i = x.cps.size := hg
    subst hi
    exact wpAny_pyNext_enum_endD D he hit fun h' he' => ⟨rfl, I.turned (t' := s.toks) (fun b o hb q => he' b o hb q) f0 f1 f3 f4 f5⟩
  self := fun A i s Q E st h => let ⟨⟨_, he⟩, _⟩ := st; wpAny_pyIter_enum he h
section
variable {X : Cx} {N : List Str} {sc : Scope} {tp : Bool} {ρ ρ1 ρ2 ρ3 : List SV} {a b c tg iter : Expr} {p p0 pos tpos : Pos} {ds es : List Da} {elts : List Expr} {kk : Nat}
def iEnumT (K : PySem.W.Frag) (ta : TA) : TI := fun σ H R => ta σ H fun vs H1 => ∃ a xs, vs = [.ref a] ∧ SqT K H1 a xs ∧ R (IteT K a) H1
theorem pi_enumT {e : Expr} {ta : TA} (hg : Gl X "enumerate") (hm : X.mg "enumerate" = none) (ha : PA X [e] ta) (hs : starEach [e] X.env = [(false, eval e X.env)] := by rfl) :
    PI X (.Tuple elts kk tpos) (.Call (.Name "enumerate" p) [e] [] pos) (iEnumT X.K ta) := by
  refine ⟨fun pins s σ H R I h => ?_⟩
  refine Call_ (ld_blt I hg hm boot_enumerate (PyProof.Rows.callWith_type1 (thn (ha.run pos pins s σ H _ I h) fun us s1 ⟨vs, H1, I1, r1, q1⟩ => ?_) hs rfl))
  obtain ⟨a, xs, ex, hq, q⟩ := q1
  subst ex
  cases r1 with
  | cons r rr =>
    cases rr
    cases r
    obtain ⟨its, rv, p', hz⟩ := I1.tuple hq
    have alt : a < s1.heap.objs.size := by obtain ⟨_, z, _⟩ := p'; exact Heap.lt_size z
    refine wpAny_call_enumerateB (begins_tuple a its.toArray) p' fun h' he hit hsz hk => wpAny_pyIter_enum he ?_
    have I2 : Inv X pins σ H1 { s1 with heap := h' } := I1.kept (t' := s1.toks) hk
    refine ⟨s1.heap.objs.size + 1, [s1.heap.objs.size + 1, s1.heap.objs.size], _, _, H1, rfl, I2, turn_enumT a (s1.heap.objs.size + 1) s1.heap.objs.size (Nat.succ_ne_self _) (Nat.ne_of_lt (Nat.lt_succ_of_lt alt)) (Nat.ne_of_lt alt), ⟨⟨.none, he⟩, ⟨_, hit, rfl, rfl⟩⟩, fun b hb => ?_, q⟩
    have e' : b = s1.heap.objs.size + 1 ∨ b = s1.heap.objs.size := by simpa using hb
    have hle : s1.heap.objs.size ≤ b := by
      rcases e' with z | z
      · rw [z]; exact Nat.le_add_right _ _
      · rw [z]; exact Nat.le_refl _
    exact I1.fpOk hle (I1.hok.fresh hle)
def ItS (x : Str) : It := ⟨fun i H => i < x.cps.size, fun i H v H' => ∃ T c, v = .ref T ∧ H T = none ∧ x.cps[i]? = some c ∧ H' = upd H T (.tup [.int (i : Nat), .str ⟨#[c]⟩]), fun i H => i = x.cps.size⟩
def iEnumS (ta : TA) : TI := fun σ H R => ta σ H fun vs H1 => ∃ x, vs = [.str x] ∧ R (ItS x) H1
theorem pi_enumS {e : Expr} {ta : TA} (hg : Gl X "enumerate") (hm : X.mg "enumerate" = none) (ha : PA X [e] ta) (hs : starEach [e] X.env = [(false, eval e X.env)] := by rfl) :
    PI X (.Tuple elts kk tpos) (.Call (.Name "enumerate" p) [e] [] pos) (iEnumS ta) := by
  refine ⟨fun pins s σ H R I h => ?_⟩
  refine Call_ (ld_blt I hg hm boot_enumerate (PyProof.Rows.callWith_type1 (thn (ha.run pos pins s σ H _ I h) fun us s1 ⟨vs, H1, I1, r1, q1⟩ => ?_) hs rfl))
  obtain ⟨x, ex, q⟩ := q1
  subst ex
  cases r1 with
  | cons r rr =>
    cases rr
    obtain ⟨t, rfl⟩ := r
    refine call_enumerate_str fun h' he hit hsz hk => wpAny_pyIter_enum he ?_
    have I2 : Inv X pins σ H1 { s1 with heap := h' } := I1.kept (t' := s1.toks) hk
    refine ⟨s1.heap.objs.size + 1, [s1.heap.objs.size + 1, s1.heap.objs.size], _, _, H1, rfl, I2, turn_enumS x t (s1.heap.objs.size + 1) s1.heap.objs.size (Nat.succ_ne_self _), ⟨⟨.none, he⟩, hit⟩, fun b hb => ?_, q⟩
    have e' : b = s1.heap.objs.size + 1 ∨ b = s1.heap.objs.size := by simpa using hb
    have hle : s1.heap.objs.size ≤ b := by
      rcases e' with z | z
      · rw [z]; exact Nat.le_add_right _ _
      · rw [z]; exact Nat.le_refl _
    exact I1.fpOk hle (I1.hok.fresh hle)
end
end Wv
end
section
set_option Elab.async false
set_option linter.all false
set_option maxRecDepth 100000
namespace Wv
open PySem PySem.Spec PyProof.Rows L2

section
variable {X : Cx} {N : List Str} {sc : Scope} {tp : Bool} {ρ ρ1 ρ2 ρ3 : List SV} {a b c tg iter lo hi : Expr} {p p0 p2 p3 pos pos' tpos : Pos} {x y z : Da} {n n0 : Str} {ds es : List Da} {elts : List Expr} {kk : Nat}
/-! ### sources -/
theorem i_enumT (hg : Gl X "enumerate") (hm : X.mg "enumerate" = none) (h : ED X a ρ ρ1 (.tup ds)) (hs : starEach [a] X.env = (false, eval a X.env) :: starEach [] X.env := by rfl) :
    ID X (.Tuple elts kk tpos) (.Call (.Name "enumerate" p) [a] [] pos) ρ ρ1 ds.length (fun i => .tup [.int ((i : Nat) : Int), ds.getD i .non]) :=
  pi_imp (pi_enumT hg hm (a_cons h a_nil hs) hs) fun σ H Rk ⟨e, Sh, R, k⟩ => ⟨e, Sh, R, fun vs S1 H1 R1 q1 d1 => by
    cases d1 with
    | cons d t =>
      cases t
      cases d with
      | @tup l xs ds h t =>
        have sq : ∀ {S' H' : Hp}, Same S1 S' → Same S' H' → SqT X.K H' l xs := fun {S' H'} s1 s2 => sqT_same s2 (sqT_same s1 h)
        refine ⟨l, xs, rfl, sqT_same R1.sub h, k _ S1 H1 R1 q1 ⟨fun i S' H' hi s1 s2 => ?_, fun S' H' s1 s2 => ?_, fun i S' H' x H2 hi s1 s2 y => .inr ?_⟩⟩
        · have hi2 : i < xs.length := by rw [t.length]; exact hi
          exact ⟨xs, xs[i], sq s1 s2, by simp [hi2]⟩
        · exact ⟨xs, sq s1 s2, by rw [t.length]; exact Nat.le_refl _⟩
        · obtain ⟨T0, u, e1, e2, e3, e4⟩ := y
          obtain ⟨d, f1, f2⟩ := (t.mono s1).getV (e4 xs (sq s1 s2))
          refine ⟨T0, _, _, e2, e3, e1, rfl, .cons (.int _) (.cons ?_ .nil)⟩
          rw [getD_of f1]
          exact f2⟩
theorem i_enumS {s : Str} (hg : Gl X "enumerate") (hm : X.mg "enumerate" = none) (h : ED X a ρ ρ1 (.str s)) (hs : starEach [a] X.env = (false, eval a X.env) :: starEach [] X.env := by rfl) :
    ID X (.Tuple elts kk tpos) (.Call (.Name "enumerate" p) [a] [] pos) ρ ρ1 s.cps.size (fun i => .tup [.int ((i : Nat) : Int), .str ⟨#[s.cps.getD i 0]⟩]) :=
  pi_imp (pi_enumS hg hm (a_cons h a_nil hs) hs) fun σ H Rk ⟨e, Sh, R, k⟩ => ⟨e, Sh, R, fun vs S1 H1 R1 q1 d1 => by
    cases d1 with
    | cons d t =>
      cases t
      cases d
      refine ⟨s, rfl, k _ S1 H1 R1 q1 ⟨fun i S' H' hi s1 s2 => hi, fun S' H' s1 s2 => rfl, fun i S' H' x H2 hi s1 s2 y => .inr ?_⟩⟩
      obtain ⟨T0, c0, e1, e2, e3, e4⟩ := y
      refine ⟨T0, _, _, e2, e4, e1, rfl, .cons (.int _) (.cons ?_ .nil)⟩
      have : s.cps.getD i 0 = c0 := by rw [Array.getD_eq_getD_getElem?, e3]; rfl
      rw [this]
      exact .str _⟩
theorem i_zipT (hl : ds.length = es.length) (hg : Gl X "zip") (hm : X.mg "zip" = none) (h : ED X a ρ ρ1 (.tup ds)) (h2 : ED X b ρ1 ρ2 (.tup es)) (hs : starEach [a, b] X.env = (false, eval a X.env) :: starEach [b] X.env := by rfl) (hs2 : starEach [b] X.env = (false, eval b X.env) :: starEach [] X.env := by rfl) :
    ID X (.Tuple elts kk tpos) (.Call (.Name "zip" p) [a, b] [] pos) ρ ρ2 ds.length (fun i => .tup [ds.getD i .non, es.getD i .non]) :=
  pi_imp (RZ.pi_zipA hg hm (a_cons h (a_cons h2 a_nil hs2) hs) hs (by rw [hs2]; rfl)) fun σ H Rk ⟨e, Sh, R, k⟩ => ⟨e, Sh, R, fun vs S1 H1 R1 q1 d1 => by
    cases d1 with
    | cons d t =>
      cases t with
      | cons d2 t =>
        cases t
        cases d with
        | @tup l xs ds h t =>
          cases d2 with
          | @tup l2 ys es h2 t2 =>
            have sq : ∀ {S' H' : Hp}, Same S1 S' → Same S' H' → SqT X.K H' l xs := fun {S' H'} s1 s2 => sqT_same s2 (sqT_same s1 h)
            have sq2 : ∀ {S' H' : Hp}, Same S1 S' → Same S' H' → SqT X.K H' l2 ys := fun {S' H'} s1 s2 => sqT_same s2 (sqT_same s1 h2)
            refine ⟨l, l2, xs, ys, rfl, .inr ⟨sqT_same R1.sub h, sqT_same R1.sub h2, k _ S1 H1 R1 q1 ⟨fun i S' H' hi s1 s2 => ?_, fun S' H' s1 s2 => ?_, fun i S' H' x H2 hi s1 s2 y => .inr ?_⟩⟩⟩
            · have hi2 : i < xs.length := by rw [t.length]; exact hi
              have hi3 : i < ys.length := by rw [t2.length, ← hl]; exact hi
              exact ⟨xs, ys, xs[i], ys[i], sq s1 s2, sq2 s1 s2, by simp [hi2], by simp [hi3]⟩
            · exact ⟨xs, ys, sq s1 s2, sq2 s1 s2, .inl (by rw [t.length]; exact Nat.le_refl _)⟩
            · obtain ⟨T0, u, u2, e1, e2, e3, e4, e5⟩ := y
              obtain ⟨d, f1, f2⟩ := (t.mono s1).getV (e4 xs (sq s1 s2))
              obtain ⟨d2, g1, g2⟩ := (t2.mono s1).getV (e5 ys (sq2 s1 s2))
              refine ⟨T0, _, _, e2, e3, e1, rfl, .cons ?_ (.cons ?_ .nil)⟩
              · rw [getD_of f1]
                exact f2
              · rw [getD_of g1]
                exact g2⟩
/-! ### subscripts -/
theorem atI_nat {α : Type} {xs : List α} {j : Nat} {v : α} (h : xs[j]? = some v) : atI xs (j : Int) = some v := by
  have hj := (List.getElem?_eq_some_iff.mp h).1
  unfold atI ixN
  rw [if_pos (by omega), if_pos (by omega)]
  simpa using h
theorem d_ix {r : R2} (hr : IxR X r) (hq : RD X.K r ρ2 x y z) (ha : ED X a ρ ρ1 x) (hb : ED X b ρ1 ρ2 y) (hs : PlainIx b) : ED X (.Subscript a b pos) ρ ρ2 z :=
  pe_imp (pe_ix hr ha hb hs) fun σ H Q ⟨e, S, R, k⟩ => ⟨e, S, R, fun v S1 H1 R1 q1 d1 => ⟨e, S1, R1, fun w S2 H2 R2 q2 d2 => hq e S2 H2 σ v w Q R2 (d1.mono q2) d2 fun u S3 H3 R3 q3 d3 => k u S3 H3 R3 ((q1.trans q2).trans q3) d3⟩⟩
theorem rd_ixL {j : Nat} (h : ds[j]? = some x) : RD X.K (rIxL X.K) ρ (.lst ds) (.int (j : Int)) x := fun e S H σ v w Q R d1 d2 k => by
  cases d2
  cases d1 with
  | lst hh t =>
    obtain ⟨v, h1, h2⟩ := t.get h
    exact ⟨_, _, _, v, rfl, rfl, .of (R.sub _ _ hh), atI_nat h1, k v S H R (.refl S) h2⟩
theorem rd_ixT {j : Nat} (h : ds[j]? = some x) : RD X.K (rIxT X.K) ρ (.tup ds) (.int (j : Int)) x := fun e S H σ v w Q R d1 d2 k => by
  cases d2
  cases d1 with
  | tup hh t =>
    obtain ⟨v, h1, h2⟩ := t.get h
    exact ⟨_, _, _, v, rfl, rfl, sqT_same R.sub hh, atI_nat h1, k v S H R (.refl S) h2⟩
theorem d_ixL {j : Nat} (h : ds[j]? = some x) (ha : ED X a ρ ρ1 (.lst ds)) (hb : ED X b ρ1 ρ2 (.int (j : Int))) (hs : PlainIx b := by intro _ _; rfl) : ED X (.Subscript a b pos) ρ ρ2 x := d_ix ix_list (rd_ixL h) ha hb hs
theorem d_ixT {j : Nat} (h : ds[j]? = some x) (ha : ED X a ρ ρ1 (.tup ds)) (hb : ED X b ρ1 ρ2 (.int (j : Int))) (hs : PlainIx b := by intro _ _; rfl) : ED X (.Subscript a b pos) ρ ρ2 x := d_ix ix_tup (rd_ixT h) ha hb hs
/-- xs[j] of an owned list -/
theorem d_ixO (S : Sco X N sc tp) (i : Nat) {j : Nat} (hi : ρ[i]? = some (.own (.l ds))) (h : ds[j]? = some x) (hb : ED X b ρ ρ (.int (j : Int))) (hN : N[i]? = some n := by rfl) (hv : Vis sc n := by first | exact Or.inl rfl | exact Or.inr (Or.inl rfl) | exact Or.inr (Or.inr rfl))
    (hd : (n == ("__debug__" : Str)) = false := by decide) (hcd : (n == ("__classdict__" : Str)) = false := by decide) (hs : PlainIx b := by intro _ _; rfl) : ED X (.Subscript (.Name n p) b pos) ρ ρ x :=
  pe_imp (pe_ix ix_list (pe_var (i := i) (by rw [S.n]; exact hN) (by rw [S.s]; exact hv) hd hcd) hb hs) fun σ H Q ⟨e, Sh, R, k⟩ => by
    obtain ⟨l, xs, e1, _⟩ := R.lst hi
    refine ⟨.ref l, e1, e, Sh, R, fun w S1 H1 R1 q1 d1 => ?_⟩
    cases d1
    obtain ⟨l2, ys, f1, f2, f3, f4, f5⟩ := R1.lst hi
    rw [e1] at f1
    cases f1
    obtain ⟨v, h1, h2⟩ := f4.get h
    exact ⟨l, ys, _, v, rfl, rfl, .of f3, atI_nat h1, k v S1 H1 R1 q1 h2⟩
theorem d_lenO (S : Sco X N sc tp) (i : Nat) (hg : Gl X "len") (hm : X.mg "len" = none) (hi : ρ[i]? = some (.own (.l ds))) (hN : N[i]? = some n := by rfl) (hv : Vis sc n := by first | exact Or.inl rfl | exact Or.inr (Or.inl rfl) | exact Or.inr (Or.inr rfl))
    (hd : (n == ("__debug__" : Str)) = false := by decide) (hcd : (n == ("__classdict__" : Str)) = false := by decide) (h1 : starEach [.Name n p2] X.env = (false, eval (.Name n p2) X.env) :: starEach [] X.env := by rfl) : ED X (.Call (.Name "len" p) [.Name n p2] [] pos) ρ ρ (.int (ds.length : Int)) :=
  pe_imp (pe_callB call_len_seq hg hm PySem.boot_len (pa_cons (pe_var (i := i) (by rw [S.n]; exact hN) (by rw [S.s]; exact hv) hd hcd) pa_nil h1) (by decide) (by decide) h1 (by rfl)) fun σ H Q ⟨e, Sh, R, k⟩ => by
    obtain ⟨l, xs, e1, e2, e3, e4, e5⟩ := R.lst hi
    refine ⟨.ref l, e1, l, xs, rfl, .inl (.of e3), ?_⟩
    rw [e4.length]
    exact k _ Sh H R (.refl Sh) (.int _)
/-! ### slices -/
abbrev OD (X : Cx) (e : Option Expr) (ρ ρ' : List SV) (o : Option Int) : Prop := PO X e (fun σ H Q => ∃ en S, Rp X.K en S H σ ρ ∧ ∀ S' H', Rp X.K en S' H' σ ρ' → Same S S' → Q o H')
theorem po_imp {e : Option Expr} {t t' : TO} (h : PO X e t) (k : ∀ σ H Q, t' σ H Q → t σ H Q) : PO X e t' := ⟨fun pins s σ H Q I z => h.run pins s σ H Q I (k σ H Q z)⟩
theorem o_none : OD X none ρ ρ none := po_imp po_none fun σ H Q ⟨e, S, R, k⟩ => k S H R (.refl S)
theorem o_some {i : Int} (h : ED X a ρ ρ1 (.int i)) : OD X (some a) ρ ρ1 (some i) := po_imp (po_some h) fun σ H Q ⟨e, S, R, k⟩ => ⟨e, S, R, fun v S1 H1 R1 q1 d1 => by
  cases d1
  exact ⟨i, rfl, k S1 H1 R1 q1⟩⟩
def cutD (ds : List Da) (lo hi : Option Int) : List Da := (ds.drop (HT.sIx ds.length 0 lo)).take (HT.sIx ds.length ds.length hi - HT.sIx ds.length 0 lo)
theorem cut_dvs {K : PySem.W.Frag} {H : Hp} {xs : List V} (t : Dvs K H xs ds) (l u : Option Int) : Dvs K H (cutV xs l u) (cutD ds l u) := by
  unfold cutV cutD
  rw [t.length]
  exact (t.drop _).take _
variable {ol oh : Option Expr} {l u : Option Int}
theorem f_slL (h : ED X a ρ ρ1 (.lst ds)) (hl : OD X ol ρ1 ρ2 l) (hu : OD X oh ρ2 ρ3 u) : FD X (.Subscript a (.Slice ol oh none p2) pos) ρ ρ3 (cutD ds l u) :=
  pe_imp (pe_slice sl_list h hl hu) fun σ H Q ⟨e, S, R, k⟩ => ⟨e, S, R, fun v S1 H1 R1 q1 d1 => ⟨e, S1, R1, fun S2 H2 R2 q2 => ⟨e, S2, R2, fun S3 H3 R3 q3 => by
    cases d1.mono (q2.trans q3) with
    | lst h t =>
      refine ⟨_, _, rfl, .of (R3.sub _ _ h), fun p hp => ?_⟩
      obtain ⟨R4, f⟩ := fresh_of R3 hp (cut_dvs t l u)
      exact k _ _ _ R4 (q1.trans (q2.trans q3)) f⟩⟩⟩
theorem d_slT (h : ED X a ρ ρ1 (.tup ds)) (hl : OD X ol ρ1 ρ2 l) (hu : OD X oh ρ2 ρ3 u) : ED X (.Subscript a (.Slice ol oh none p2) pos) ρ ρ3 (.tup (cutD ds l u)) :=
  pe_imp (pe_slice sl_tupA h hl hu) fun σ H Q ⟨e, S, R, k⟩ => ⟨e, S, R, fun v S1 H1 R1 q1 d1 => ⟨e, S1, R1, fun S2 H2 R2 q2 => ⟨e, S2, R2, fun S3 H3 R3 q3 => by
    cases d1.mono (q2.trans q3) with
    | @tup a0 xs _ h t =>
      refine ⟨a0, xs, rfl, sqT_same R3.sub h, fun hw => ?_, fun _ p hp => ?_⟩
      · have e1 : cutD ds l u = ds := by
          unfold cutD
          rw [← t.length, hw.1, hw.2, t.length]
          simp
        exact k _ S3 H3 R3 (q1.trans (q2.trans q3)) (by rw [e1]; exact .tup h t)
      · have q := same_new (o := .tup (cutV xs l u)) (R3.s0 hp)
        exact k _ _ _ (R3.alloc hp) ((q1.trans (q2.trans q3)).trans q) (.tup (.of upd_same) ((cut_dvs t l u).mono q))⟩⟩⟩
theorem cutD_to (ds : List Da) (k : Nat) : cutD ds none (some (k : Int)) = ds.take k := by
  unfold cutD
  rw [HT.sIx_none, HT.sIx_nat, List.drop_zero, Nat.sub_zero]
  by_cases h : k ≤ ds.length
  · rw [Nat.min_eq_left h]
  · rw [Nat.min_eq_right (by omega), List.take_of_length_le (Nat.le_refl _), List.take_of_length_le (by omega)]
theorem cutD_from (ds : List Da) (k : Nat) : cutD ds (some (k : Int)) none = ds.drop k := by
  unfold cutD
  rw [HT.sIx_none, HT.sIx_nat]
  by_cases h : k ≤ ds.length
  · rw [Nat.min_eq_left h, List.take_of_length_le (by simp)]
  · rw [Nat.min_eq_right (by omega)]
    simp
    omega
theorem cutD_last (ds : List Da) : cutD ds none (some (-1)) = ds.take (ds.length - 1) := by
  unfold cutD
  have : HT.sIx ds.length ds.length (some (-1)) = ds.length - 1 := by
    show (if (-1 : Int) < 0 then ((-1 : Int) + (ds.length : Int)).toNat else min (-1 : Int).toNat ds.length) = _
    rw [if_pos (by omega)]
    omega
  rw [this, HT.sIx_none, List.drop_zero, Nat.sub_zero]
/-- xs[::-1] -/
theorem f_revL {k : Nat} {p1 : Pos} (h : ED X a ρ ρ1 (.lst ds)) : FD X (.Subscript a (.Slice none none (some (.UnaryOp .USub (.Constant (.int 1) k p1) p2)) p3) pos) ρ ρ1 ds.reverse :=
  pe_imp (pe_revL h) fun σ H Q ⟨e, S, R, q⟩ => ⟨e, S, R, fun v S1 H1 R1 q1 d1 => by
    cases d1 with
    | lst h t =>
      refine ⟨_, _, rfl, .of (R1.sub _ _ h), fun p hp => ?_⟩
      obtain ⟨R4, f⟩ := fresh_of R1 hp t.reverse
      exact q _ _ _ R4 q1 f⟩
/-! ### + and * of lists and tuples -/
theorem f_op {op : Operator} {r : R2} (ho : OpR X (binaryOp op) r)
    (hr : ∀ (e : En) (S H : Hp) (σ : L2.St) (v w : V) (Q : VK), Rp X.K e S H σ ρ2 → Dv X.K S v x → Dv X.K S w y → (∀ l S' H', Rp X.K e S' H' σ ρ2 → Same S S' → Fresh X.K e S' H' σ ρ2 l ds → Q (.ref l) H') → r v w H Q)
    (ha : ED X a ρ ρ1 x) (hb : ED X b ρ1 ρ2 y) : FD X (.BinOp a op b pos) ρ ρ2 ds :=
  pe_imp (pe_op ho ha hb) fun σ H Q ⟨e, S, R, k⟩ => ⟨e, S, R, fun v S1 H1 R1 q1 d1 => ⟨e, S1, R1, fun w S2 H2 R2 q2 d2 => hr e S2 H2 σ v w Q R2 (d1.mono q2) d2 fun u S3 H3 R3 q3 d3 => k u S3 H3 R3 ((q1.trans q2).trans q3) d3⟩⟩
theorem f_cat (hz : ds.length + es.length ≤ 1000000) (ha : ED X a ρ ρ1 (.lst ds)) (hb : ED X b ρ1 ρ2 (.lst es)) : FD X (.BinOp a .Add b pos) ρ ρ2 (ds ++ es) :=
  f_op op_cat (fun e S H σ v w Q R d1 d2 k => by
    cases d1 with
    | lst h t =>
      cases d2 with
      | lst h2 t2 =>
        refine ⟨_, _, _, _, rfl, rfl, R.sub _ _ h, R.sub _ _ h2, by rw [t.length, t2.length, sizeLine_eq]; omega, fun p hp => ?_⟩
        obtain ⟨R4, f⟩ := fresh_of R hp (t.append t2)
        exact k _ _ _ R4 (.refl S) f) ha hb
theorem f_rep {m : Nat} (hz : ds.length * m ≤ 1000000) (hm : m ≤ 1000000) (ha : ED X a ρ ρ1 (.lst ds)) (hb : ED X b ρ1 ρ2 (.int (m : Int))) : FD X (.BinOp a .Mult b pos) ρ ρ2 (List.replicate m ds).flatten :=
  f_op op_rep (fun e S H σ v w Q R d1 d2 k => by
    cases d2
    cases d1 with
    | lst h t =>
      refine ⟨_, _, _, rfl, rfl, R.sub _ _ h, by omega, by omega, by rw [t.length, Int.toNat_natCast, sizeLine_eq]; omega, fun p hp => ?_⟩
      rw [Int.toNat_natCast]
      obtain ⟨R4, f⟩ := fresh_of R hp (t.rep m)
      exact k _ _ _ R4 (.refl S) f) ha hb
theorem rd_catT (hz : ds.length + es.length ≤ 1000000) : RD X.K (rCatA X.K) ρ (.tup ds) (.tup es) (.tup (ds ++ es)) := fun e S H σ v w Q R d1 d2 k => by
  cases d1 with
  | @tup a0 xs _ h t =>
    cases d2 with
    | @tup b0 ys _ h2 t2 =>
      refine ⟨a0, b0, xs, ys, rfl, rfl, sqT_same R.sub h, sqT_same R.sub h2, by rw [t.length, t2.length, sizeLine_eq]; omega, fun e1 => ?_, fun _ e2 => ?_, fun _ _ p hp => ?_⟩
      · subst e1
        cases t
        exact k _ S H R (.refl S) (.tup h2 t2)
      · subst e2
        cases t2
        exact k _ S H R (.refl S) (by rw [List.append_nil]; exact .tup h t)
      · have q := same_new (o := .tup (xs ++ ys)) (R.s0 hp)
        exact k _ _ _ (R.alloc hp) q (.tup (.of upd_same) ((t.append t2).mono q))
theorem d_catT (hz : ds.length + es.length ≤ 1000000) (ha : ED X a ρ ρ1 (.tup ds)) (hb : ED X b ρ1 ρ2 (.tup es)) : ED X (.BinOp a .Add b pos) ρ ρ2 (.tup (ds ++ es)) := d_op op_catA (rd_catT hz) ha hb
theorem rd_repT {m : Nat} (h0 : ds ≠ []) (h1 : 2 ≤ m) (h2 : m ≤ 1000) (hz : ds.length ≤ 1000) : RD X.K (rRepT X.K) ρ (.tup ds) (.int (m : Int)) (.tup (List.replicate m ds).flatten) := fun e S H σ v w Q R d1 d2 k => by
  cases d2
  cases d1 with
  | @tup a0 xs _ h t =>
    refine ⟨a0, _, xs, rfl, rfl, sqT_same R.sub h, fun e1 => ?_, by omega, by omega, by rw [t.length]; exact hz, fun p hp => ?_⟩
    · subst e1
      cases t
      exact h0 rfl
    · rw [Int.toNat_natCast]
      have q := same_new (o := .tup (List.replicate m xs).flatten) (R.s0 hp)
      exact k _ _ _ (R.alloc hp) q (.tup (.of upd_same) ((t.rep m).mono q))
theorem d_repT {m : Nat} (h0 : ds ≠ []) (h1 : 2 ≤ m) (h2 : m ≤ 1000) (hz : ds.length ≤ 1000) (ha : ED X a ρ ρ1 (.tup ds)) (hb : ED X b ρ1 ρ2 (.int (m : Int))) : ED X (.BinOp a .Mult b pos) ρ ρ2 (.tup (List.replicate m ds).flatten) := d_op op_repT (rd_repT h0 h1 h2 hz) ha hb
theorem rd_isB {i j : Bool} : RD X.K rIsB ρ (.bl i) (.bl j) (.bl (decide (i = j))) := fun e S H σ v w Q R d1 d2 k => by
  cases d1
  cases d2
  exact ⟨i, j, rfl, rfl, k _ S H R (.refl S) (.bl _)⟩
theorem rd_notB {i j : Bool} : RD X.K rNotB ρ (.bl i) (.bl j) (.bl (!decide (i = j))) := fun e S H σ v w Q R d1 d2 k => by
  cases d1
  cases d2
  exact ⟨i, j, rfl, rfl, k _ S H R (.refl S) (.bl _)⟩
theorem d_isB {i j : Bool} (ha : ED X a ρ ρ1 (.bl i)) (hb : ED X b ρ1 ρ2 (.bl j)) : ED X (.Compare a [.Is] [b] pos) ρ ρ2 (.bl (decide (i = j))) := d_cmp op_isBl (nomark _) rd_isB ha hb
theorem d_notB {i j : Bool} (ha : ED X a ρ ρ1 (.bl i)) (hb : ED X b ρ1 ρ2 (.bl j)) : ED X (.Compare a [.IsNot] [b] pos) ρ ρ2 (.bl (!decide (i = j))) := d_cmp op_notBl (nomark _) rd_notB ha hb
/-- n.bit_length() -/
theorem d_bits {i : Int} {apos : Pos} (ho : ED X a ρ ρ1 (.int i)) (hbase : attributeBase a "bit_length" X.env (eval a X.env) = eval a X.env := by rfl) (hline : (apos.endLine == pos.line) = true := by rfl) : ED X (.Call (.Attribute a "bit_length" apos) [] [] pos) ρ ρ1 (.int (Builtin.Int.intBits i : Nat)) :=
  pe_imp (pe_bits ho hbase hline) fun σ H Q ⟨e, S, R, k⟩ => ⟨e, S, R, fun v S1 H1 R1 q1 d1 => by
    cases d1
    exact ⟨i, rfl, k _ S1 H1 R1 q1 (.int _)⟩⟩
end
end Wv
end
section
set_option Elab.async false
set_option linter.all false
set_option maxRecDepth 100000
namespace Wv
open PySem PySem.Spec PyProof.Rows L2
section
open Builtin Float
/-! ### f'{n:b}' -/
def binS (n : Nat) : Str := ⟨((Nat.toDigits 2 n).map Char.toNat).toArray⟩
def fB : FormatSpec := { align := 62, type := some 98 }
theorem parse_b : parseFormatSpec (Str.ofString "b").cps.toList "int" 62 = .ok fB := by rfl
section
variable {prog : Program} {w : World} {A : Around} {E : Value → Shared → Prop} {s : Shared}
theorem binS_len {n : Nat} (hz : (Nat.toDigits 2 n).length ≤ 1000000) : (binS n).length ≤ sizeLine := by
  show ((Nat.toDigits 2 n).map Char.toNat).toArray.size ≤ sizeLine
  rw [List.size_toArray, List.length_map, sizeLine_eq]
  omega
theorem formatField_b {n : Nat} {t : Tok} {spec : Str} {f : FormatSpec} {Q : Value → Shared → Prop} (hz : (Nat.toDigits 2 n).length ≤ 1000000) (hp : parseFormatSpec spec.cps.toList "int" 62 = .ok f) (hne : (spec.length == 0) = false)
    (hasc : ((spec.cps.toList.drop 1).any (· ≥ 128) || (spec.cps.getD 0 0 ≥ 128 && !([60, 62, 61, 94] : List Nat).contains (spec.cps.getD 1 0))) = false) (hsz : spec.length ≤ sizeLine)
    (hty : f.type.getD (if spec.cps.back? == some 0 then 0 else 100) = 98) (hpr : f.precision = none) (h0 : f.noNeg0 = false) (hal : f.alt = false) (hw : f.width = none) (hgr : f.grouping = none) (hsg : f.sign = none) (hfi : f.fill = 32) (han : f.align = 62)
    (h : ∀ tk u, Q (.str (binS n) u) { s with toks := tk }) : wpAny (model prog w) A (formatField (.int (n : Int) t) spec) Q E s := by
  show wpAny _ _ (holding [Value.int (n : Int) t] (pyFormat (.int (n : Int) t) spec)) Q E s
  refine wpAny_holding ?_
  unfold pyFormat
  refine wpAny_bind (wpAny_mkStr ?_ hsz)
  refine wpAny_bind (m := callSpecial? (Value.int (n : Int) t) (Str.ofString "__format__") [.str spec s.toks]) (wpAny_callSpecial?_slot (name := Str.ofString "__format__") (typeIs_int _ (n : Int) t) slot_int_format ?_)
  refine wpAny_call (codeAny_call_builtin slot_int_format.plain entry_int_format (slot_int_format.check _ _ _ _ _ _ _ _ (typeIs_int _ (n : Int) t) (args_int_format _ _) ?_))
  unfold Builtin.«int.__format__»
  simp only [selfAndOne, noKeywords, Int.intOfSelf, asInt?, asStr?, List.isEmpty_nil, if_true, pure_bind, bind_pure, bind_assoc, hne, hasc, Bool.false_eq_true, if_false, show (Value.str spec s.toks == Value.none) = false from rfl]
  refine wpAny_bind (wpAny_typeNameOf (T := "str") (typeIs_str _ _ _) (by decide) fun _ => ?_)
  refine wpAny_bind (wpAny_typeNameOfCut_int ?_)
  simp only [hp, hty]
  rw [if_pos (by decide)]
  show wpAny _ _ (if _ then _ else _) _ _ _
  rw [if_neg (by simp [hpr])]
  show wpAny _ _ (if _ then _ else _) _ _ _
  rw [if_neg (by simp [h0])]
  show wpAny _ _ (if _ then _ else _) _ _ _
  rw [if_neg (by decide)]
  show wpAny _ _ (if _ then _ else _) _ _ _
  rw [if_neg (by decide)]
  show wpAny _ _ (if _ then _ else _) _ _ _
  rw [if_neg (by simp [hw])]
  show wpAny _ _ (retStr _) _ _ _
  unfold retStr
  have hlen := binS_len hz
  have hd : ((Nat.toDigits 2 n).map Char.toNat).isEmpty = false := by
    have := tDigits_len_ge 2 n
    cases q : Nat.toDigits 2 n with
    | nil => rw [q] at this; simp at this
    | cons _ _ => rfl
  refine wpAny_bind (wpAny_mkStr (wpAny_pure ?_) ?hs2)
  case hs2 =>
    simp only [hal, Bool.false_eq_true, if_false, show ((98 : Nat) == 88) = false by decide, Int.natAbs_natCast]
    conv => lhs; arg 1; whnf
    simp only [hw, hgr, hsg, hfi, han, show decide ((n : Int) < 0) = false from decide_eq_false (by omega), hd, Bool.false_eq_true, if_false, if_true]
    simp [Str.length]
    rw [sizeLine_eq]
    cases instDecidableEqBool (f.align == 60) true <;> simp <;> omega
  dsimp only
  refine wpAny_bind (wpAny_isInstance (typeIs_str _ _ _) isSubtype_str_str (wpAny_pure ?_))
  simp only [hal, Bool.false_eq_true, if_false, show ((98 : Nat) == 88) = false by decide, Int.natAbs_natCast]
  conv => arg 1; arg 1; whnf
  simp only [hw, hgr, hsg, hfi, han, show decide ((n : Int) < 0) = false from decide_eq_false (by omega), hd, Bool.false_eq_true, if_false, if_true]
  refine Eq.mpr (congrArg (fun z => Q (Value.str z _) _) (?_ : _ = binS n)) (h _ _)
  simp [binS]
  cases instDecidableEqBool (f.align == 60) true <;> simp
end
end
section
variable {X : Cx} {N : List Str} {sc : Scope} {tp : Bool} {ρ ρ1 ρ2 ρ3 : List SV} {a b c tg iter lo hi : Expr} {p p0 p1 p2 p3 p4 p5 pos pos' tpos : Pos} {x y z : Da} {n n0 : Str} {ds es : List Da} {elts : List Expr} {kk : Nat}
theorem pe_fmtB {te : TE} (he : PE X a te) : PE X (.FormattedValue a (-1) (some (.JoinedStr [.Constant (.str "b") kk p1] p2)) p3) (fun σ H Q => te σ H fun x H1 => ∃ m : Nat, x = .int (m : Int) ∧ (Nat.toDigits 2 m).length ≤ 1000000 ∧ Q (.str (binS m)) H1) := by
  refine ⟨fun pins s σ H Q I h => ?_⟩
  refine wpAny_FormattedValue_spec (thn (he.run pins s σ H _ I h) fun v s1 ⟨x, H1, I1, r1, m, ex, hz, q⟩ => ?_)
  subst ex
  obtain ⟨t, rfl⟩ := r1
  refine wpAny_JoinedStr_one (thn (pe_str.run pins s1 σ H1 (fun u H2 => u = .str (Str.ofString "b") ∧ H2 = H1) I1 ⟨rfl, rfl⟩) fun u s2 ⟨y, H2, I2, r2, e2, e3⟩ => ?_)
  subst e2 e3
  obtain ⟨t2, rfl⟩ := r2
  refine ⟨_, t2, rfl, formatField_b hz parse_b rfl rfl (by rw [sizeLine_eq]; decide) rfl rfl rfl rfl rfl rfl rfl rfl rfl fun tk u => ?_⟩
  exact ⟨.str (binS m), H2, I2.tok _, ⟨_, rfl⟩, q⟩
theorem d_fmtB {m : Nat} (hz : (Nat.toDigits 2 m).length ≤ 1000000) (h : ED X a ρ ρ1 (.int (m : Int))) : ED X (.JoinedStr [.FormattedValue a (-1) (some (.JoinedStr [.Constant (.str "b") kk p1] p2)) p3] pos) ρ ρ1 (.str (binS m)) :=
  pe_imp (pe_joined1 (pe_fmtB h)) fun σ H Q ⟨e, S, R, k⟩ => ⟨e, S, R, fun v S1 H1 R1 q1 d1 => by
    cases d1
    exact ⟨m, rfl, hz, k _ S1 H1 R1 q1 (.str _)⟩⟩
/-- text[::-1] -/
def tRevS (te : TE) : TE := fun σ H Q => te σ H fun x H1 => ∃ s : Str, x = .str s ∧ s.length ≤ sizeLine ∧ Q (.str ⟨s.cps.toList.reverse.toArray⟩) H1
theorem pe_revS {e : Expr} {te : TE} {k : Nat} (he : PE X e te) : PE X (.Subscript e (.Slice none none (some (.UnaryOp .USub (.Constant (.int 1) k p1) p2)) p3) pos) (tRevS te) := by
  refine ⟨fun pins s σ H Q I h => ?_⟩
  refine Subscript_ (thn (he.run pins s σ H _ I h) fun v s1 ⟨x, H1, I1, r1, q1⟩ => ?_)
  obtain ⟨z, ex, hz, q⟩ := q1
  subst ex
  obtain ⟨t, rfl⟩ := r1
  have hst : PO X (some (.UnaryOp .USub (.Constant (.int 1) k p1) p2)) (tPart (tUn (rU fun i => .int (-i)) (tC (.int 1)))) := po_some (pe_un un_neg pe_int)
  refine wpAny_Slice (thn (po_none.run pins s1 σ H1 (fun o H2 => o = none ∧ H2 = H1) I1 ⟨rfl, rfl⟩) fun vl s2 ⟨l, H2, I2, pl, el, e2⟩ => ?_)
  subst el e2
  refine thn (po_none.run pins s2 σ H2 (fun o H3 => o = none ∧ H3 = H2) I2 ⟨rfl, rfl⟩) fun vu s3 ⟨u, H3, I3, pu, eu, e3⟩ => ?_
  subst eu e3
  refine thn (hst.run pins s3 σ H3 (fun o H4 => o = some (-1) ∧ H4 = H3) I3 ⟨1, rfl, -1, rfl, rfl, rfl⟩) fun vs s4 ⟨o, H4, I4, ps, eo, e4⟩ => ?_
  subst eo e4
  have I5 : Inv X pins σ H4 { s4 with heap := s4.heap.push { cls := .type "slice", data := .fields #[vl, vu, vs] } } := I4.kept (t' := s4.toks) fun b ob q => Heap.get?_push_of_some _ q
  obtain ⟨lo, rfl, hlo⟩ := IsPart.raw pl
  obtain ⟨up, rfl, hup⟩ := IsPart.raw pu
  obtain ⟨st, rfl, hst2⟩ := IsPart.raw ps
  show wpAny (model X.prog X.w) X.A (subscriptTail e (.Slice none none (some (.UnaryOp .USub (.Constant (.int 1) k p1) p2)) p3) (.str z t) (.ref s4.heap.objs.size)) (EP X pins σ Q) X.xe { s4 with heap := s4.heap.push { cls := .type "slice", data := .fields #[_, _, _] } }
  refine tail_any (ops := [.str z t, .ref s4.heap.objs.size]) (typeIs_str _ _ _) (F.slot_str_getitem.lookup) ?_ (by with_unfolding_all rfl)
  refine wpAny_getItem_str_slice (l := lo) (u := up) (st := st) ⟨_, Heap.get?_push_size _ rfl, rfl, rfl⟩ (by rw [hst2]; rfl) ?_
  have ep : slicePicked z lo up st = (List.range z.length).map fun k => z.length - 1 - k := by
    unfold slicePicked
    rw [hlo, hup, hst2]
    exact PySem.W.krv_sliceRange z.length
  unfold sliceMade
  rw [hst2, ep, if_neg (by simp)]
  have er : (((List.range z.length).map fun k => z.length - 1 - k).filterMap (z.cps[·]?)) = z.cps.toList.reverse := by
    rw [PySem.W.krv_range, List.filterMap_reverse]
    exact congrArg List.reverse (PySem.W.krv_all z.cps)
  rw [er]
  exact ⟨by show (z.cps.toList.reverse.toArray).size ≤ sizeLine; rw [List.size_toArray, List.length_reverse, Array.length_toList]; exact hz, .str _, H4, I5.tok _, ⟨_, rfl⟩, q⟩
theorem d_revS {s : Str} {k : Nat} (hz : s.length ≤ 1000000) (h : ED X a ρ ρ1 (.str s)) : ED X (.Subscript a (.Slice none none (some (.UnaryOp .USub (.Constant (.int 1) k p1) p2)) p3) pos) ρ ρ1 (.str ⟨s.cps.toList.reverse.toArray⟩) :=
  pe_imp (pe_revS h) fun σ H Q ⟨e, S, R, k⟩ => ⟨e, S, R, fun v S1 H1 R1 q1 d1 => by
    cases d1
    exact ⟨s, rfl, by rw [sizeLine_eq]; omega, k _ S1 H1 R1 q1 (.str _)⟩⟩
end
end Wv
end
section
set_option Elab.async false
set_option linter.all false
set_option maxRecDepth 100000
namespace Wv
open PySem PySem.Spec PyProof.Rows L2

/-! ### data as the library's plain data -/
mutual
def toP : Da → PyData
  | .non => .none
  | .bl b => .bool b
  | .int i => .int i
  | .str x => .str x
  | .lst xs => .list (toPs xs)
  | .tup xs => .tuple (toPs xs)
  | .ins _ _ => .none
  | .cls _ => .none
def toPs : List Da → List PyData
  | [] => []
  | x :: xs => toP x :: toPs xs
end
mutual
def noIns : Da → Bool
  | .non | .bl _ | .int _ | .str _ => true
  | .lst xs | .tup xs => noInss xs
  | .ins _ _ => false
  | .cls _ => false
def noInss : List Da → Bool
  | [] => true
  | x :: xs => noIns x && noInss xs
end
section
variable {K : PySem.W.Frag} {H : Hp}
mutual
theorem Dv.dp : ∀ {v : V} {d : Da}, Dv K H v d → noIns d = true → Dp K H v (toP d)
  | _, _, .non, _ => by rw [toP]; exact .non
  | _, _, .bl b, _ => by rw [toP]; exact .bl b
  | _, _, .int i, _ => by rw [toP]; exact .int i
  | _, _, .str x, _ => by rw [toP]; exact .str x
  | _, _, .lst h t, e => by rw [toP]; exact .lst (.of h) (Dvs.dp t (by rw [noIns] at e; exact e))
  | _, _, .tup h t, e => by rw [toP]; exact .tup h (Dvs.dp t (by rw [noIns] at e; exact e))
  | _, _, .cls _, e => by rw [noIns] at e; cases e
  | _, _, .ins h t, e => by rw [noIns] at e; cases e
theorem Dvs.dp : ∀ {v : List V} {d : List Da}, Dvs K H v d → noInss d = true → DpAll K H v (toPs d)
  | _, _, .nil, _ => by rw [toPs]; exact .nil
  | _, _, .cons h t, e => by
    rw [noInss, Bool.and_eq_true] at e
    rw [toPs]
    exact .cons (Dv.dp h e.1) (Dvs.dp t e.2)
end
end
/-- small data: of depth k, of weight w at most -/
structure Sm (k w : Nat) (d : Da) : Prop where
  pl : noIns d = true
  sh : (toP d).showable = true
  lv : (toP d).leavesShort 100 = true
  cl : (toP d).canLay0 = true
  dp : (toP d).depth ≤ k
  wt : (toP d).weight ≤ w
structure Sms (k w : Nat) (ds : List Da) : Prop where
  pl : noInss ds = true
  sh : PyData.showableAll (toPs ds) = true
  lv : PyData.leavesShortAll 100 (toPs ds) = true
  cl : PyData.canLayAll0 (toPs ds) = true
  dp : PyData.depthAll (toPs ds) ≤ k
  wt : PyData.weightAll (toPs ds) ≤ w
theorem Sms.nil {k : Nat} : Sms k 0 [] := ⟨by simp [noInss], by simp [toPs, PyData.showableAll], by simp [toPs, PyData.leavesShortAll], by simp [toPs, PyData.canLayAll0], by simp [toPs, PyData.depthAll], by simp [toPs, PyData.weightAll]⟩
theorem Sms.cons {k w u : Nat} {d : Da} {ds : List Da} (h : Sm k w d) (t : Sms k u ds) : Sms k (w + 1 + u) (d :: ds) :=
  ⟨by simp [noInss, h.pl, t.pl], by simp [toPs, PyData.showableAll, h.sh, t.sh], by simp [toPs, PyData.leavesShortAll, h.lv, t.lv], by simp [toPs, PyData.canLayAll0, h.cl, t.cl],
    by simp only [toPs, PyData.depthAll]; have := h.dp; have := t.dp; omega, by simp only [toPs, PyData.weightAll]; have := h.wt; have := t.wt; omega⟩
theorem Sms.all {k w : Nat} : ∀ {ds : List Da}, (∀ d ∈ ds, Sm k w d) → Sms k (ds.length * (w + 1)) ds
  | [], _ => by
    have : Sms k 0 [] := .nil
    simpa using this
  | d :: ds, h => by
    have := Sms.cons (h d List.mem_cons_self) (Sms.all fun e he => h e (List.mem_cons_of_mem _ he))
    have e : (d :: ds).length * (w + 1) = w + 1 + ds.length * (w + 1) := by
      rw [List.length_cons, Nat.add_mul, Nat.one_mul]
      omega
    rw [e]
    exact this
theorem Sms.le {k w k' w' : Nat} {ds : List Da} (h : Sms k w ds) (h1 : k ≤ k') (h2 : w ≤ w') : Sms k' w' ds := ⟨h.pl, h.sh, h.lv, h.cl, Nat.le_trans h.dp h1, Nat.le_trans h.wt h2⟩
theorem Sm.le {k w k' w' : Nat} {d : Da} (h : Sm k w d) (h1 : k ≤ k') (h2 : w ≤ w') : Sm k' w' d := ⟨h.pl, h.sh, h.lv, h.cl, Nat.le_trans h.dp h1, Nat.le_trans h.wt h2⟩
theorem Sm.lst {k w : Nat} {ds : List Da} (h : Sms k w ds) : Sm (k + 1) w (.lst ds) :=
  ⟨by simp [noIns, h.pl], by simp [toP, PyData.showable, h.sh], by simp [toP, PyData.leavesShort, h.lv], by simp [toP, PyData.canLay0, h.cl], by simp only [toP, PyData.depth]; have := h.dp; omega, by simp only [toP, PyData.weight]; exact h.wt⟩
theorem Sm.tup {k w : Nat} {ds : List Da} (h : Sms k w ds) : Sm (k + 1) w (.tup ds) :=
  ⟨by simp [noIns, h.pl], by simp [toP, PyData.showable, h.sh], by simp [toP, PyData.leavesShort, h.lv], by simp [toP, PyData.canLay0, h.cl], by simp only [toP, PyData.depth]; have := h.dp; omega, by simp only [toP, PyData.weight]; exact h.wt⟩
theorem log2_lt {n k : Nat} (hk : 0 < k) (h : n < 2 ^ k) : n.log2 < k := by
  by_cases h0 : n = 0
  · subst h0
    simpa using hk
  · exact (Nat.log2_lt h0).mpr h
theorem sm_int {k w : Nat} {i : Int} (hw : 0 < w) (hw2 : w ≤ 300) (h : i.natAbs < 2 ^ w) : Sm k w (.int i) := by
  have hl : i.natAbs.log2 < w := log2_lt hw h
  refine ⟨by simp [noIns], ?_, ?_, by simp [toP, PyData.canLay0], by simp [toP, PyData.depth], ?_⟩
  · simp only [toP, PyData.showable, decide_eq_true_eq]
    omega
  · simp only [toP, PyData.leavesShort, PyData.shown]
    have h2 : i.natAbs < 10 ^ 99 := Nat.lt_of_lt_of_le h (Nat.le_trans (Nat.pow_le_pow_right (by decide) hw2) (by decide +kernel))
    have := int_text_length_le10 (a := i) (k := 99) (by decide) h2
    have e : (Str.ofString (toString i)).length ≤ 100 := by
      rw [PySem.ofString_length]
      exact this
    exact decide_eq_true e
  · simp only [toP, PyData.weight]
    split <;> omega
theorem sm_bl {k : Nat} {b : Bool} : Sm k 0 (.bl b) := ⟨by simp [noIns], by simp [toP, PyData.showable], by simp [toP, PyData.leavesShort], by simp [toP, PyData.canLay0], by simp [toP, PyData.depth], by simp [toP, PyData.weight]⟩
theorem Sm.shaped {k w : Nat} {d : Da} (h : Sm k w d) (hk : k ≤ 64) : SeqAt.shaped (toP d) = true := by
  unfold SeqAt.shaped
  rw [h.cl, Bool.true_and]
  exact decide_eq_true (Nat.le_trans h.dp hk)
theorem Sm.len {k w : Nat} {d : Da} (h : Sm k w d) (hw : w ≤ 160000) : (toP d).shown.length ≤ sizeLine := by
  have h1 := PyData.shown_le 100 (by decide) (toP d) h.lv
  have h2 := h.wt
  have h3 : (100 + 2) * (toP d).weight ≤ 102 * 160000 := Nat.mul_le_mul (by decide) (by omega)
  rw [sizeLine_eq]
  omega
def rRepr (K : PySem.W.Frag) : List V → Hp → VK → Prop := fun vs H Q => ∃ (v : V) (d : Da), vs = [v] ∧ Dv K H v d ∧ (∃ k w, Sm k w d ∧ k ≤ 40 ∧ w ≤ 160000) ∧ ((∃ i, d = .int i) ∨ (∃ xs, d = .lst xs) ∨ ∃ xs, d = .tup xs) ∧ Q (.str (toP d).shown) H
section
variable {X : Cx}
theorem call_repr_da (hg : X.A.guards = some []) (hu : X.A.units + 64 < cLine) : CallR X (.builtin "repr") (rRepr X.K) := by
  intro pins s σ H vs us Q I r h
  obtain ⟨v, d, rfl, dv, ⟨k, w, sm, hk, hw⟩, kd, q⟩ := h
  obtain ⟨u, rfl, rv⟩ := vals1 r
  obtain ⟨as, rd⟩ := Dp.reads I (toP d) v u (dv.dp sm.pl) rv
  have lenz := sm.len hw
  have nd : (toP d).hasDict = true → sysModules ∉ as := PyData.noDict_hsm (PyData.hasDict_of_canLay _ sm.cl)
  have dep : X.A.units + ((toP d).depth + 1) < cLine := by
    have := sm.dp
    omega
  rcases kd with ⟨i, rfl⟩ | ⟨xs, rfl⟩ | ⟨xs, rfl⟩
  · cases dv
    obtain ⟨t, rfl⟩ := rv
    have hsh := sm.sh
    simp only [toP, PyData.showable, decide_eq_true_eq] at hsh
    exact PySem.P.repr_of_int hsh ⟨.str _, H, I.tok _, ⟨_, rfl⟩, q⟩
  · cases dv
    cases rv
    exact repr_of_reads' rd sm.sh nd hg dep (fun _ _ e => e) (fun h' u tk hk2 => ⟨.str _, H, I.kept (t' := tk) hk2, ⟨_, rfl⟩, q⟩) lenz
  · cases dv
    cases rv
    exact repr_of_reads' rd sm.sh nd hg dep (fun _ _ e => e) (fun h' u tk hk2 => ⟨.str _, H, I.kept (t' := tk) hk2, ⟨_, rfl⟩, q⟩) lenz
variable {N : List Str} {sc : Scope} {tp : Bool} {ρ ρ1 ρ2 ρ3 : List SV} {a b c : Expr} {p p0 p1 p2 p3 pos : Pos} {x y z : Da} {n n0 : Str} {ds es : List Da} {k w k2 w2 : Nat}
theorem d_repr (kd : (∃ i, x = .int i) ∨ (∃ xs, x = .lst xs) ∨ ∃ xs, x = .tup xs) (sm : Sm k w x) (hk : k ≤ 40) (hw : w ≤ 160000) (hgd : X.A.guards = some []) {j : Nat} (hr : Room j X.A) (hg : Gl X "repr") (hm : X.mg "repr" = none) (h : ED X a ρ ρ1 x)
    (h1 : starEach [a] X.env = (false, eval a X.env) :: starEach [] X.env := by rfl) : ED X (.Call (.Name "repr" p) [a] [] pos) ρ ρ1 (.str (toP x).shown) :=
  d_cb (call_repr_da hgd (by have := hr.un; omega)) (fun e S H σ vs Q R d q => by
    cases d with
    | cons d t =>
      cases t
      exact ⟨_, x, rfl, d.mono R.sub, ⟨k, w, sm, hk, hw⟩, kd, q _ S H R (.refl S) (.str _)⟩) hg hm (by decide +kernel) (a_cons h a_nil h1) (he := h1)
/-- == of data -/
theorem rd_eqD (sx : Sm k w x) (sy : Sm k2 w2 y) (h1 : k ≤ 64) (h2 : k2 ≤ 64) : RD X.K (rEqD X.K) ρ x y (.bl (PyData.eqv (toP x) (toP y))) := fun e S H σ v u Q R d1 d2 q =>
  ⟨toP x, toP y, (d1.mono R.sub).dp sx.pl, (d2.mono R.sub).dp sy.pl, sx.shaped h1, sy.shaped h2, q _ S H R (.refl S) (.bl _)⟩
theorem d_eqD (sx : Sm k w x) (sy : Sm k2 w2 y) (h1 : k ≤ 64) (h2 : k2 ≤ 64) {j : Nat} (hr : Room j X.A) (ha : ED X a ρ ρ1 x) (hb : ED X b ρ1 ρ2 y) : ED X (.Compare a [.Eq] [b] pos) ρ ρ2 (.bl (PyData.eqv (toP x) (toP y))) :=
  d_cmp (op_eqD (by have := hr.un; omega)) (nomark _) (rd_eqD sx sy h1 h2) ha hb
/-- tuples of ints -/
theorem eqvAll_ints : ∀ (xs ys : List Int), PyData.eqvAll (toPs (xs.map Da.int)) (toPs (ys.map Da.int)) = decide (xs = ys)
  | [], [] => by simp [toPs, PyData.eqvAll]
  | [], y :: ys => by simp [toPs, PyData.eqvAll]
  | x :: xs, [] => by simp [toPs, PyData.eqvAll]
  | x :: xs, y :: ys => by
    simp only [List.map_cons, toPs, toP, PyData.eqvAll, PyData.eqv, eqvAll_ints xs ys]
    by_cases h : x = y
    · subst h
      simp
    · simp [h]
theorem eqv_ints (xs ys : List Int) : PyData.eqv (toP (.tup (xs.map Da.int))) (toP (.tup (ys.map Da.int))) = decide (xs = ys) := by
  simp only [toP, PyData.eqv]
  exact eqvAll_ints xs ys
/-- isinstance(a tuple, tuple) -/
theorem d_isTup {nt : Str} (hg : Gl X "isinstance") (hm : X.mg "isinstance" = none) (hgt : Gl X "tuple") (hmt : X.mg "tuple" = none) (ha : ED X a ρ ρ1 (.tup ds))
    (hb : PE X (.Name "tuple" p2) (tC (.ty "tuple")))
    (h1 : starEach [a, .Name "tuple" p2] X.env = (false, eval a X.env) :: starEach [.Name "tuple" p2] X.env := by rfl) (h2 : starEach [.Name "tuple" p2] X.env = (false, eval (.Name "tuple" p2) X.env) :: starEach [] X.env := by rfl) :
    ED X (.Call (.Name "isinstance" p) [a, .Name "tuple" p2] [] pos) ρ ρ1 (.bl true) :=
  pe_imp (pe_callB call_isi hg hm (by decide +kernel) (pa_cons ha (pa_cons hb pa_nil h2) h1) (by decide) (by decide) h1 (by rw [h2]; rfl)) fun σ H Q ⟨e, S, R, q⟩ => ⟨e, S, R, fun v S1 H1 R1 q1 d1 => by
    cases d1 with
    | @tup a0 xs _ h t =>
      refine ⟨.ref a0, .ty "tuple", .type "tuple", .type "tuple", true, rfl, .ty "tuple", ?_, if_pos (beq_self_eq_true _), q _ S1 H1 R1 q1 (.bl _)⟩
      rcases sqT_same R1.sub h with (hh | ⟨o, hh⟩) | hh
      · exact .base (.tup hh)
      · exact .fTuple hh
      · obtain ⟨o, its, m, hl, hc, _⟩ := hh
        exact .kTuple hl hc⟩
end
end Wv
end
section
set_option Elab.async false
set_option linter.all false
set_option maxRecDepth 100000
namespace Wv
open PySem PySem.Spec PyProof.Rows L2

section
variable {X : Cx} {N : List Str} {sc : Scope} {tp : Bool} {ρ ρ1 ρ2 ρ3 : List SV} {a b c tg iter tg1 iter1 elt : Expr} {p p0 pos pos' : Pos} {x y z : Da} {n n0 : Str} {vs vs1 : List Nat} {scope : Scope}
theorem piB_any (s : Shared) (H : Hp) (C : Addr) (cl : List (Str × Addr)) (fp : List Addr) : PI (X.blk s H scope (compEnvC scope cl C X.env) fp) tg1 iter1 (fun σ H R => ∃ t, (∀ s H C cl fp, PI (X.blk s H scope (compEnvC scope cl C X.env) fp) tg1 iter1 t) ∧ t σ H R) := ⟨fun pins s' σ H' R I h => by
  obtain ⟨t, p, q⟩ := h
  exact (p s H C cl fp).run pins s' σ H' R I q⟩
theorem lc2_read {m : Nat} {item : Nat → Da} (m1 : Nat → Nat) (item1 : Nat → Nat → Da) (d : Nat → Nat → Da) (τ : Nat → List SV) (τ2 : Nat → Nat → List SV) {B : Nat} (hno : ∀ v ∈ vs, nown ρ1 v = true) (hB : ∀ i, i < m → m1 i ≤ B) (hm : m * B ≤ 1000000)
    (turn : ∀ i, i < m → (∀ s H C cl fp, GC (X.blk s H scope (compEnvC scope cl C X.env) fp) vs tg (item i) (wipeD ρ1 vs) (τ i)) ∧ (∀ s H C cl fp, ID (X.blk s H scope (compEnvC scope cl C X.env) fp) tg1 iter1 (τ i) (τ i) (m1 i) (item1 i)) ∧ (∀ v ∈ vs1, nown (τ i) v = true) ∧
      ∀ j, j < m1 i → (∀ s H C cl fp, GC (X.blk s H scope (compEnvC scope cl C X.env) fp) vs1 tg1 (item1 i j) (wipeD (τ i) vs1) (τ2 i j)) ∧ ∀ s H C cl fp, ED (X.blk s H scope (compEnvC scope cl C X.env) fp) elt (τ2 i j) (τ2 i j) (d i j))
    {σ : L2.St} {H : Hp} {Q : VK} (h : tF X.K ρ ρ1 ((List.range m).flatMap fun i => (List.range (m1 i)).map (d i)) σ H Q) :
    tLc2 (tI X.K ρ ρ1 m item) (fun v σ H Q => ∃ t, (∀ s H C cl fp, PG (X.blk s H scope (compEnvC scope cl C X.env) fp) tg t) ∧ t v σ H Q) (fun σ H Q => ∃ t, (∀ s H C cl fp, PTs (X.blk s H scope (compEnvC scope cl C X.env) fp) [] t) ∧ t σ H Q)
      (fun σ H R => ∃ t, (∀ s H C cl fp, PI (X.blk s H scope (compEnvC scope cl C X.env) fp) tg1 iter1 t) ∧ t σ H R)
      (fun v σ H Q => ∃ t, (∀ s H C cl fp, PG (X.blk s H scope (compEnvC scope cl C X.env) fp) tg1 t) ∧ t v σ H Q) (fun σ H Q => ∃ t, (∀ s H C cl fp, PTs (X.blk s H scope (compEnvC scope cl C X.env) fp) [] t) ∧ t σ H Q)
      (fun σ H Q => ∃ t, (∀ s H C cl fp, PE (X.blk s H scope (compEnvC scope cl C X.env) fp) elt t) ∧ t σ H Q) vs vs1 σ H Q := by
  obtain ⟨e, Sh, R, k⟩ := h
  refine ⟨e, Sh, R, fun J S1 H1 R1 q1 T Dl hD => ?_⟩
  have Rw := R1.wipe hno
  have Re := Rw.enter
  have s1D : S1 Dl = none := R1.s0 hD
  let acc : Nat → List Da := fun i => (List.range i).flatMap fun i => (List.range (m1 i)).map (d i)
  have accS : ∀ i, acc (i + 1) = acc i ++ (List.range (m1 i)).map (d i) := fun i => by
    show (List.range (i + 1)).flatMap _ = _
    rw [List.range_succ, List.flatMap_append]
    simp [acc]
  have accL : ∀ i, i ≤ m → (acc i).length ≤ i * B := fun i => by
    induction i with
    | zero => intro _; simp [acc]
    | succ i ih =>
      intro hi
      rw [accS, List.length_append, List.length_map, List.length_range, Nat.add_mul, Nat.one_mul]
      have := ih (by omega)
      have := hB i (by omega)
      omega
  have Hfree : ∀ {ρ' : List SV} {σ' : L2.St}, (∀ (i : Nat) (ds : Ob), ρ'[i]? = some (.own ds) → (wipeD ρ1 vs)[i]? = some (.own ds) ∧ σ'[i]? = (L2.wipe σ vs)[i]?) → ∀ (j : Nat) (es : Ob), ρ'[j]? = some (.own es) → σ'[j]? ≠ some (some (.ref Dl)) := fun {ρ' σ'} hh j es h1 h2 => by
    obtain ⟨w1, w2⟩ := hh j es h1
    rw [w2] at h2
    obtain ⟨h3, h4⟩ := wipeD_own w1
    obtain ⟨l, zs, e1, e2, e3, _⟩ := R1.own j es h3
    rw [wipe_get, if_neg h4, e1] at h2
    cases h2
    rw [hD] at e3
    cases e3
  refine ⟨fun i k H' => k = m - i ∧ i ≤ m ∧ ∃ S' ys, Rp X.K (enOf H1 S1 (L2.wipe σ vs) (wipeD ρ1 vs)) S' H' (L2.wipe σ vs) (wipeD ρ1 vs) ∧ S' Dl = none ∧ H' Dl = some (.lst ys) ∧ Dvs X.K S' ys (acc i), ⟨m, by omega, Nat.zero_le _, S1, [], Re.allocO hD, s1D, upd_same, .nil⟩, fun i k' H' hW => ?_⟩
  obtain ⟨rfl, him, S', ys, R', hS, hH, hd⟩ := hW
  by_cases hlt : i < m
  · obtain ⟨hg, hi1, hno1, hj⟩ := turn i hlt
    refine .inr ⟨T.go i S' H' hlt R'.keepS R'.sub, fun H'' => ∃ S'' ys, Rp X.K (enOf H1 S1 (L2.wipe σ vs) (wipeD ρ1 vs)) S'' H'' (L2.wipe σ vs) (wipeD ρ1 vs) ∧ S'' Dl = none ∧ H'' Dl = some (.lst ys) ∧ Dvs X.K S'' ys (acc (i + 1)), fun H'' hN => ⟨m - (i + 1), by omega, rfl, hlt, hN⟩, fun x H2 hy => ?_⟩
    have item_ : ∃ S2, Rp X.K (enOf H1 S1 (L2.wipe σ vs) (wipeD ρ1 vs)) S2 H2 (L2.wipe σ vs) (wipeD ρ1 vs) ∧ Same S' S2 ∧ Dv X.K S2 x (item i) ∧ S2 Dl = none ∧ H2 Dl = some (.lst ys) := by
      rcases T.yld i S' H' x H2 hlt R'.keepS R'.sub hy with ⟨rfl, dv⟩ | ⟨T0, xs, dd, n0, rfl, rfl, e0, dvs⟩
      · exact ⟨S', R', .refl S', dv, hS, hH⟩
      · have s0 := R'.s0 n0
        have ne : Dl ≠ T0 := ne_of_none hH n0
        refine ⟨_, R'.alloc n0, same_new s0, ?_, by rw [upd_ne ne]; exact hS, by rw [upd_ne ne]; exact hH⟩
        rw [e0]
        exact .tup (.of upd_same) (dvs.mono (same_new s0))
    obtain ⟨S2, R2, q2, dv, hS2, hH2⟩ := item_
    have R2e := R2.enter
    have nD0 : ∀ {E0 : En} {S0 H0 : Hp} {zs : List V}, E0.H0 = H0 → E0.S0 = S0 → S0 Dl = none → H0 Dl = some (.lst zs) → (∀ j, ¬ E0.P j Dl) → ∀ {σ' : L2.St} {ρ' : List SV} {S3 H3 : Hp}, Rp X.K E0 S3 H3 σ' ρ' → S3 Dl = none ∧ H3 Dl = some (.lst zs) := fun {E0 S0 H0 zs} g1 g2 hs0 hh0 np {σ' ρ' S3 H3} R3 => by
      subst g1 g2
      refine ⟨?_, R3.keep Dl _ hh0 np⟩
      cases y : S3 Dl with
      | none => rfl
      | some o =>
        have z : E0.H0 Dl = none := R3.new Dl (by rw [y]; exact fun h => nomatch h) hs0
        rw [hh0] at z
        cases z
    have npW : ∀ j, ¬ owns (L2.wipe σ vs) (wipeD ρ1 vs) j Dl := fun j z => by
      obtain ⟨es, h1, h2⟩ := z
      exact Hfree (fun i ds q => ⟨q, rfl⟩) j es h1 h2
    refine ⟨tGc X.K vs (item i) (wipeD ρ1 vs) (τ i), hg, ?_⟩
    refine ⟨_, S2, R2e, dv, fun σ3 S3 H3 R3 q3 st => ⟨by rw [st.1, wipe_wipe], tT X.K (τ i) (τ i) true, fun s H C cl fp => pts_y, _, S3, R3, fun S4 H4 R4 q4 => iteT ?_⟩⟩
    have R4' : Rp X.K (enOf H1 S1 (L2.wipe σ vs) (wipeD ρ1 vs)) S4 H4 σ3 (τ i) := R2.leave R4
    have onW : ∀ (i' : Nat) (ds : Ob), (τ i)[i']? = some (.own ds) → (wipeD ρ1 vs)[i']? = some (.own ds) ∧ σ3[i']? = (L2.wipe σ vs)[i']? := fun i' ds q => by
      have w := st.2.2 i' ds q
      exact ⟨w, (st.2.1 i' ds w).2⟩
    obtain ⟨d4, d4'⟩ := nD0 (E0 := enOf H2 S2 (L2.wipe σ vs) (wipeD ρ1 vs)) rfl rfl hS2 hH2 npW R4
    have npT : ∀ j, ¬ owns σ3 (τ i) j Dl := fun j z => by
      obtain ⟨es, h1, h2⟩ := z
      exact Hfree onW j es h1 h2
    -- the inner walk, at an entry of its own
    refine ⟨tI X.K (τ i) (τ i) (m1 i) (item1 i), hi1, _, S4, R4'.enter, fun J1 S5 H5 R5 q5 T1 => ?_⟩
    have R5' := R4'.leave R5
    have R5s := R5'.enterS
    obtain ⟨d5, d5'⟩ := nD0 (E0 := enOf H4 S4 σ3 (τ i)) rfl rfl d4 d4' npT R5
    refine ⟨fun j k H' => k = m1 i - j ∧ j ≤ m1 i ∧ ∃ S' ys, Rp X.K ⟨H1, S5, owns (L2.wipe σ vs) (wipeD ρ1 vs)⟩ S' H' σ3 (τ i) ∧ S' Dl = none ∧ H' Dl = some (.lst ys) ∧ Dvs X.K S' ys (acc i ++ (List.range j).map (d i)), ⟨m1 i, by omega, Nat.zero_le _, S5, ys, R5s, d5, d5', ?_⟩, fun j k'' H6 hW1 => ?_⟩
    · simp only [List.range_zero, List.map_nil, List.append_nil]
      exact hd.mono (q2.trans (q3.trans (q4.trans q5)))
    obtain ⟨rfl, hjm, S6, ys6, R6, hS6, hH6, hd6⟩ := hW1
    have q6 : Same S5 S6 := R6.keepS
    by_cases hjl : j < m1 i
    · obtain ⟨hg1, he1⟩ := hj j hjl
      refine .inr ⟨T1.go j S6 H6 hjl q6 R6.sub, fun H'' => ∃ S'' ys, Rp X.K ⟨H1, S5, owns (L2.wipe σ vs) (wipeD ρ1 vs)⟩ S'' H'' σ3 (τ i) ∧ S'' Dl = none ∧ H'' Dl = some (.lst ys) ∧ Dvs X.K S'' ys (acc i ++ (List.range (j + 1)).map (d i)), fun H'' hN => ⟨m1 i - (j + 1), by omega, rfl, hjl, hN⟩, fun x1 H7 hy1 => ?_⟩
      have item1_ : ∃ S7, Rp X.K ⟨H1, S5, owns (L2.wipe σ vs) (wipeD ρ1 vs)⟩ S7 H7 σ3 (τ i) ∧ Same S6 S7 ∧ Dv X.K S7 x1 (item1 i j) ∧ S7 Dl = none ∧ H7 Dl = some (.lst ys6) := by
        rcases T1.yld j S6 H6 x1 H7 hjl q6 R6.sub hy1 with ⟨rfl, dv⟩ | ⟨T0, xs, dd, n0, rfl, rfl, e0, dvs⟩
        · exact ⟨S6, R6, .refl S6, dv, hS6, hH6⟩
        · have s0 := R6.s0 n0
          have ne : Dl ≠ T0 := ne_of_none hH6 n0
          refine ⟨_, R6.alloc n0, same_new s0, ?_, by rw [upd_ne ne]; exact hS6, by rw [upd_ne ne]; exact hH6⟩
          rw [e0]
          exact .tup (.of upd_same) (dvs.mono (same_new s0))
      obtain ⟨S7, R7, q7, dv7, hS7, hH7⟩ := item1_
      have R7w := R7.wipe hno1
      have R7e := R7w.enter
      have npT1 : ∀ j, ¬ owns (L2.wipe σ3 vs1) (wipeD (τ i) vs1) j Dl := fun j z => by
        obtain ⟨es, h1, h2⟩ := z
        obtain ⟨h3, h4⟩ := wipeD_own h1
        rw [wipe_get, if_neg h4] at h2
        exact Hfree onW j es h3 h2
      refine ⟨tGc X.K vs1 (item1 i j) (wipeD (τ i) vs1) (τ2 i j), hg1, ?_⟩
      refine ⟨_, S7, R7e, dv7, fun σ8 S8 H8 R8 q8 st8 => ⟨by rw [st8.1, wipe_wipe], tT X.K (τ2 i j) (τ2 i j) true, fun s H C cl fp => pts_y, _, S8, R8, fun S9 H9 R9 q9 => iteT ⟨tD X.K (τ2 i j) (τ2 i j) (d i j), he1, _, S9, R9, fun y S10 H10 R10 q10 d10 => ?_⟩⟩⟩
      obtain ⟨d1, d2⟩ := nD0 (E0 := enOf H7 S7 (L2.wipe σ3 vs1) (wipeD (τ i) vs1)) rfl rfl hS7 hH7 npT1 R10
      have Rb : Rp X.K ⟨H1, S5, owns (L2.wipe σ vs) (wipeD ρ1 vs)⟩ S10 H10 σ3 (τ i) := R7.back (R7w.leave R10) R10.keepS fun i' ds q => by
        have hv : i' ∉ vs1 := fun z => nown_no (hno1 i' z) q
        obtain ⟨w1, w2⟩ := st8.2.1 i' ds (by rw [wipeD_keep hv]; exact q)
        exact ⟨w1, by rw [w2, wipe_get, if_neg hv]⟩
      refine ⟨ys6, d2, ?_, S10, ys6 ++ [y], Rb.mutFree d1 hD (Hfree onW), d1, upd_same, ?_⟩
      · rw [hd6.length, sizeLine_eq, List.length_append, List.length_map, List.length_range]
        have h1 := accL i (by omega)
        have h2 := hB i hlt
        have h3 : (i + 1) * B ≤ m * B := Nat.mul_le_mul_right B hlt
        rw [Nat.add_mul, Nat.one_mul] at h3
        omega
      · rw [List.range_succ, List.map_append, ← List.append_assoc]
        exact (hd6.mono (q7.trans (q8.trans (q9.trans q10)))).append (.cons d10 .nil)
    · have : j = m1 i := by omega
      subst this
      refine .inl ⟨T1.stop S6 H6 q6 R6.sub, S6, ys6, ?_, hS6, hH6, by rw [accS]; exact hd6⟩
      have R6' : Rp X.K (enOf H1 S1 (L2.wipe σ vs) (wipeD ρ1 vs)) S6 H6 σ3 (τ i) := R5'.leaveS R6
      exact R2.back R6' (q3.trans (q4.trans (q5.trans q6))) st.2.1
  · have : i = m := by omega
    subst this
    have Rf : Rp X.K e S' H' σ ρ1 := R1.back (Rw.leave R') R'.keepS fun j es q => by
      have hj : j ∉ vs := fun z => nown_no (hno j z) q
      exact ⟨by rw [wipeD_keep hj]; exact q, by rw [wipe_get, if_neg hj]⟩
    refine .inl ⟨T.stop S' H' R'.keepS R'.sub, k Dl S' H' Rf (q1.trans R'.keepS) ⟨ys, hS, hH, hd, R1.h0 hD, fun j es h1 h2 => ?_⟩⟩
    obtain ⟨l, zs, e1, e2, e3, _⟩ := R1.own j es h1
    rw [h2] at e1
    cases e1
    rw [hD] at e3
    cases e3
theorem f_lc2 (S : Sco X N sc tp) {m : Nat} {item : Nat → Da} {own : List (Str × Nat)} (vs1 : List Nat) (hI : ID X tg iter ρ ρ1 m item) (hb : blkC N sc scope own = true) (hvs : ∀ i ∈ vs1, i ∈ own.map (·.2)) (m1 : Nat → Nat) (item1 : Nat → Nat → Da) (d : Nat → Nat → Da) (τ : Nat → List SV) (τ2 : Nat → Nat → List SV) {B : Nat} (hB : ∀ i, i < m → m1 i ≤ B) (hm : m * B ≤ 1000000)
    (turn : ∀ i, i < m → (∀ s H C cl fp, GC (X.blk s H scope (compEnvC scope cl C X.env) fp) (own.map (·.2)) tg (item i) (wipeD ρ1 (own.map (·.2))) (τ i)) ∧ (∀ s H C cl fp, ID (X.blk s H scope (compEnvC scope cl C X.env) fp) tg1 iter1 (τ i) (τ i) (m1 i) (item1 i)) ∧ (∀ v ∈ vs1, nown (τ i) v = true) ∧
      ∀ j, j < m1 i → (∀ s H C cl fp, GC (X.blk s H scope (compEnvC scope cl C X.env) fp) vs1 tg1 (item1 i j) (wipeD (τ i) vs1) (τ2 i j)) ∧ ∀ s H C cl fp, ED (X.blk s H scope (compEnvC scope cl C X.env) fp) elt (τ2 i j) (τ2 i j) (d i j))
    (hno : (own.map (·.2)).all (nown ρ1) = true := by rfl) (hs : ∀ x, foldedSetIterable iter X.env x = pure x := by intro _; rfl) (hs1 : ∀ env x, foldedSetIterable iter1 env x = pure x := by intro _ _; rfl) : FD X (.ListComp elt [⟨tg, iter, [], 0⟩, ⟨tg1, iter1, [], 0⟩] scope pos) ρ ρ1 ((List.range m).flatMap fun i => (List.range (m1 i)).map (d i)) :=
  pe_imp (pe_lc2 S.calm S.ndX hI (blk_ok S hb) hvs pgB_any ptsB_any piB_any pgB_any ptsB_any peB_any hs hs1) fun σ H Q h => lc2_read m1 item1 d τ τ2 (allN hno) hB hm turn h
end
end Wv
end
section
set_option Elab.async false
set_option linter.all false
set_option maxRecDepth 100000
namespace L2
open PySem PySem.Spec PyProof.Rows
section
variable {P : Program} {w : World} {A : Around} {E : Value → Shared → Prop} {s : Shared}
set_option maxHeartbeats 3200000 in
theorem set_listI {l : Addr} {items : Array Value} (ns : List Int) {Q : Value → Shared → Prop} (hh : A.handled = none) (hli0 : s.heap.IsList l items) (hins : IntsAre items.toList ns) (hb : ns.length + 1 < scanBound)
    (h : ∀ (g9 : Heap) (tk c : Nat), SetR w g9 s.heap.objs.size (fun j => decide (j ∈ ns)) c → c ≤ ns.length → (∀ b o, s.heap.get? b = some o → g9.get? b = some o) → Q (.ref s.heap.objs.size) { s with heap := g9, toks := tk }) :
    wpAny (model P w) A (call (.type "set") [.ref l]) Q E s := by
  have hsz0 : items.size = ns.length := by
    have q := IntsAre.length hins
    rw [Array.length_toList] at q
    exact q
  obtain ⟨c, tl, hmr⟩ := F.called_set.mro
  have hmd := F.called_set.made
  have hsb := F.called_set.sub
  refine wpAny_call (codeAny_of_tree ?_)
  show wpAny _ _ (callAny (.type "set") _) _ _ _
  refine wpAny_pure ⟨Code.quiet_builtin _ (by decide +kernel), codeAny_builtin F.entry_type_call ?_⟩
  rw [Around.under_plain (weight_type_call_type "set" [.ref l] []) rfl]
  have h1 := F.called_set.notType
  have h2 := F.called_set.canCreate
  have hcl0 := F.typeCall_set_1 (.ref l)
  repeat (any_goals (first | assumption | wp_step))

  refine codeAny_mono (code_set_led1 (.ref l) (E := E) (Q₁ := fun obj s8 => obj = .ref s.heap.objs.size ∧ s8 = { s with heap := s.heap.push { cls := .type "set", dict := none, data := .set #[] 0 (.fresh 0 0 (!w.params.followText "set-order")) } }) ⟨rfl, rfl⟩) fun r s8 hr8 => ?_
  cases r with
  | error e => exact hr8
  | ok fl8 =>
    cases fl8 with
    | ret obj =>
      obtain ⟨rfl, rfl⟩ := hr8
      have hSe : (s.heap.push { cls := .type "set", dict := none, data := .set #[] 0 (.fresh 0 0 (!w.params.followText "set-order")) }).get? s.heap.objs.size = some { cls := .type "set", dict := none, data := .set #[] 0 (.fresh 0 0 (!w.params.followText "set-order")) } := Heap.get?_push_size _ rfl
      have hTy : Shared.TypeIs { s with heap := s.heap.push { cls := .type "set", dict := none, data := .set #[] 0 (.fresh 0 0 (!w.params.followText "set-order")) } } (.ref s.heap.objs.size) "set" := ⟨_, hSe, rfl⟩
      have hlk := F.called_set.init.lookup
      have hbn := F.called_set.init.bind (.ref s.heap.objs.size)
      repeat (any_goals (first | assumption | wp_step))

      refine codeAny_mono (codeAny_call_builtin (R := wants (fun r s9 => r = .none ∧ ∃ g9 tk c, s9 = { s with heap := g9, toks := tk } ∧ SetR w g9 s.heap.objs.size (fun j => decide (j ∈ ns)) c ∧ c ≤ ns.length ∧
          (∀ b o, s.heap.get? b = some o → g9.get? b = some o)) E) F.called_set.init.plain F.entry_set_init (check_set_init_1 hTy ?_)) fun r9 s9 hr9 => ?_
      · obtain ⟨ol, hob, hcs, nn, hda⟩ := hli0
        obtain ⟨ocls, od, oa, oz⟩ := ol
        simp only at hcs hda
        subst hcs; subst hda
        have hob' : (s.heap.push { cls := .type "set", dict := none, data := .set #[] 0 (.fresh 0 0 (!w.params.followText "set-order")) }).get? l = some { cls := .type "list", dict := od, data := .seq items nn, slots := oz } := Heap.get?_push_of_some _ hob
        have hsl1 := F.sub_list_set
        have hsl2 := F.sub_list_frozenset
        have hnq : (Value.type "list" == Value.type "dict") = false := by decide
        have hl9 : (s.heap.push { cls := .type "set", dict := none, data := .set #[] 0 (.fresh 0 0 (!w.params.followText "set-order")) }).IsList l items := ⟨_, hob', rfl, nn, rfl⟩
        unfold Builtin.«set.__init__» noKeywords Builtin.Frozenset.updateFrom
        generalize hPI : pyIter = PI
        wp_walk
        subst hPI

        refine wpAny_pyIter_list hl9 ?_
        refine wpAny_bind (wpAny_runValue ?_)
        have hlt9 : l < s.heap.objs.size := Heap.lt_size hob
        have hh9 : A.in1.in1.in1.handled = none := by simp [hh]
        have hz9 : (s.heap.push { cls := .type "set", dict := none, data := .set #[] 0 (.fresh 0 0 (!w.params.followText "set-order")) }).objs.size = s.heap.objs.size + 1 := Heap.size_push ..
        have hnI : l ≠ (s.heap.push { cls := .type "set", dict := none, data := .set #[] 0 (.fresh 0 0 (!w.params.followText "set-order")) }).objs.size := by
          rw [Heap.size_push]; exact Nat.ne_of_lt (Nat.lt_succ_of_lt hlt9)
        have hSF : s.heap.objs.size ∉ [(s.heap.push { cls := .type "set", dict := none, data := .set #[] 0 (.fresh 0 0 (!w.params.followText "set-order")) }).objs.size, l] := by
          rw [Heap.size_push]; simp only [List.mem_cons, List.mem_singleton, List.not_mem_nil, or_false, not_or]
          exact ⟨Nat.ne_of_lt (Nat.lt_succ_self _), Nat.ne_of_gt hlt9⟩
        have hvl : ∀ (i : Nat) (v : Value), items[i]? = some v → ∃ k t, ns[i]? = some k ∧ v = .int k t := fun i v hv => by
          have hi : i < ns.length := by rw [← hsz0]; exact (Array.getElem?_eq_some_iff.mp hv).1
          obtain ⟨t, e⟩ := PyProof.Rows.IntsAre.int_at hins i v (by rw [Array.getElem?_toList]; exact hv)
          refine ⟨ns[i], t, List.getElem?_eq_getElem hi, ?_⟩
          rw [e, List.getD_eq_getElem?_getD, List.getElem?_eq_getElem hi] <;> rfl
        refine set_update_ints ((Walks.list hh9 _ l hnI items).toS) s.heap.objs.size
          hSF ns hsz0 hb hvl (items.size - 0) 0 _ (by omega) (Nat.zero_le _)
          ⟨⟨_, Heap.get?_push_size _ rfl, rfl, rfl⟩, (hl9.push _)⟩ ?hS0 ?hR
        case hS0 =>
          have hgt : ((s.heap.push { cls := .type "set", dict := none, data := .set #[] 0 (.fresh 0 0 (!w.params.followText "set-order")) }).push { cls := .type "list_iterator", data := .fields #[.ref l, .int 0 0] }).get? s.heap.objs.size
              = some { cls := .type "set", dict := none, data := .set #[] 0 (.fresh 0 0 (!w.params.followText "set-order")) } := Heap.get?_push_of_some _ hSe
          exact ⟨0, Nat.le_refl 0, setR_new_at hgt⟩
        case hR =>
          intro z9 c9 hmv hc9 hS9
          obtain ⟨h', g2, d', tk9, os'⟩ := z9
          have eg1 : g2 = s.gens := hmv.gens
          have ed1 : d' = s.drawn := hmv.drawn
          have eo1 : os' = s.os := hmv.os
          subst eg1; subst ed1; subst eo1
          show wpAny _ _ _ _ _ _
          refine wpAny_pure ?_
          show wpAny _ _ (ret Value.none) _ _ _
          rw [hsz0] at hc9
          refine wpAny_pure ⟨rfl, h', tk9, c9, rfl, hS9, hc9, fun b o e => ?_⟩
          have hx0 : b < s.heap.objs.size := Heap.lt_size e
          have hx1 : b ≠ s.heap.objs.size := Nat.ne_of_lt hx0
          have hx2 : b ≠ (s.heap.push { cls := .type "set", dict := none, data := .set #[] 0 (.fresh 0 0 (!w.params.followText "set-order")) }).objs.size := by
            rw [Heap.size_push]; exact Nat.ne_of_lt (Nat.lt_succ_of_lt hx0)
          exact hmv.heap b o (by simp only [List.mem_cons, List.mem_singleton, List.not_mem_nil, or_false, not_or]; exact ⟨hx1, hx2⟩) (Heap.get?_push_of_some _ (Heap.get?_push_of_some _ e))

      · cases r9 with
        | error e => exact hr9
        | ok fl9 =>
          cases fl9 with
          | ret r =>
            obtain ⟨rfl, g9, tk, c9, rfl, hS9, hc9, hk9⟩ := hr9
            repeat (any_goals (first | assumption | wp_step))
            exact h _ _ _ hS9 hc9 hk9
          | _ => exact hr9.elim
    | _ => exact hr8.elim
end
end L2
namespace Wv
open PySem PySem.Spec PyProof.Rows L2
theorem ints_vals : ∀ {ns : List Int} {us : List Value}, Vals (ns.map V.int) us → PyProof.Rows.IntsAre us ns
  | [], _, .nil => .nil
  | n :: ns, _, .cons r t => by
    obtain ⟨k, rfl⟩ := r
    exact .cons n k (ints_vals t)
/-- set of a list of ints -/
def rSetLI (K : PySem.W.Frag) (w : World) : List V → Hp → VK → Prop := fun vs H Q => ∃ (l : Addr) (ns : List Int), vs = [.ref l] ∧ SqL K H l (ns.map V.int) ∧ ns.length ≤ 4000 ∧ ∀ p m, H p = none → m ≤ ns.length → (∀ ms : List Int, ms.Nodup → (∀ k, k ∈ ms ↔ k ∈ ns) → m = ms.length) → Q (.ref p) (upd H p (SetO w p (fun j => decide (j ∈ ns)) m))
theorem setR_count {w : World} {h : Heap} {a : Addr} {S : Int → Bool} {n : Nat} (R : SetR w h a S n) {ms : List Int} (hn : ms.Nodup) (hm : ∀ k, k ∈ ms ↔ S k = true) : n = ms.length := by
  obtain ⟨o, es, ep, t, ho, hex, hd, g, nd, hm2, hb, hf, e, hr, hl⟩ := R
  have pm : (es.toList.map keyOf).Perm ms := (List.perm_ext_iff_of_nodup nd hn).mpr fun k => by rw [← hm2 k, hm k]
  rw [← e, ← pm.length_eq, List.length_map, Array.length_toList]
section
variable {X : Cx} {N : List Str} {sc : Scope} {tp : Bool} {ρ ρ1 ρ2 ρ3 : List SV} {a b c : Expr} {p p2 pos pos2 : Pos}
theorem call_setLI (hc : X.calm = true) : CallR X (.type "set") (rSetLI X.K X.w) := by
  intro pins s σ H vs us Q I r h
  obtain ⟨l, ns, rfl, hq, hl, q⟩ := h
  rw [Vals.ref1 r]
  obtain ⟨its, rv, pl, hz⟩ := I.list hq
  have hi : IntsAre its.toArray.toList ns := by simpa using ints_vals rv
  refine set_listI ns (I.ok.hd hc) pl.isList hi (by unfold scanBound; omega) fun h' tk c hS hle hk => ?_
  refine ⟨.ref s.heap.objs.size, upd H s.heap.objs.size (SetO X.w s.heap.objs.size (fun j => decide (j ∈ ns)) c), I.laid (t' := tk) hk (Nat.le_refl _) (setO_new hS), rfl, q _ c (I.hok.fresh (Nat.le_refl _)) hle fun ms hn hm => setR_count hS hn fun k => by rw [hm k, decide_eq_true_eq]⟩
/-- sorted(set(xs)) of ints, fewer than 64 of them -/
theorem f_sortedSet {ns ms : List Int} (hl : ms.length < 64) (hl4 : ns.length ≤ 4000) (hms : ms.Pairwise (· < ·)) (hmem : ∀ k, k ∈ ms ↔ k ∈ ns) (hc : X.calm = true) (hg : Gl X "sorted") (hm : X.mg "sorted" = none) (hg2 : Gl X "set") (hm2 : X.mg "set" = none) (h : ED X a ρ ρ1 (.lst (ns.map Da.int)))
    (h1 : starEach [a] X.env = (false, eval a X.env) :: starEach [] X.env := by rfl) (h2 : starEach [.Call (.Name "set" p2) [a] [] pos2] X.env = (false, eval (.Call (.Name "set" p2) [a] [] pos2) X.env) :: starEach [] X.env := by rfl) :
    FD X (.Call (.Name "sorted" p) [.Call (.Name "set" p2) [a] [] pos2] [] pos) ρ ρ1 (ms.map Da.int) :=
  pe_imp (pe_callB (cr_sortedSet hc) hg hm (by decide +kernel) (pa_cons (pe_callTy (call_setLI hc) hg2 hm2 (by decide +kernel) (a_cons h a_nil h1) (by decide) (by decide) h1 (by rfl)) pa_nil h2) (by decide) (by decide) h2 (by rfl)) fun σ H Q ⟨e, S, R, k⟩ => ⟨e, S, R, fun vs S1 H1 R1 q1 d1 => by
    cases d1 with
    | cons d t =>
      cases t
      cases d with
      | @lst l xs _ hh t =>
        have ex : xs = ns.map V.int := t.ints
        subst ex
        refine ⟨l, ns, rfl, .of (R1.sub _ _ hh), hl4, fun p0 m hp hle hcnt => ?_⟩
        have hp0 := R1.s0 hp
        refine ⟨p0, _, m, rfl, upd_same, by rw [hcnt ms (hms.imp fun h => by omega) hmem]; exact hl, fun ns' p1 hpw hin hln hp1 => ?_⟩
        have en : ns' = ms := by
          refine (List.Perm.eq_of_pairwise (le := fun a b : Int => a < b) (fun a b _ _ h1 h2 => ?_) hpw hms ?_)
          · exact absurd h1 (by omega)
          · refine (List.perm_ext_iff_of_nodup ?_ ?_).mpr fun k => ?_
            · exact hpw.imp fun h => by omega
            · exact hms.imp fun h => by omega
            · rw [hin k, hmem k]
              simp
        subst en
        have R2 := R1.allocO (o := SetO X.w p0 (fun j => decide (j ∈ ns)) m) hp
        obtain ⟨R3, f⟩ := fresh_of R2 hp1 (Dvs.ofInts ns')
        exact k _ _ _ R3 q1 f⟩
/-- list(range(a, b, c)) -/
theorem f_listRg3 {i j c0 : Int} {m : Nat} (hz : RgC i j c0 m) (hz2 : m ≤ 1000000) (hc : X.calm = true) (hg : Gl X "list") (hm : X.mg "list" = none) (hg2 : Gl X "range") (hm2 : X.mg "range" = none) (h : ED X a ρ ρ1 (.int i)) (h' : ED X b ρ1 ρ2 (.int j)) (h'' : ED X c ρ2 ρ3 (.int c0))
    (hs : starEach [a, b, c] X.env = (false, eval a X.env) :: starEach [b, c] X.env := by rfl) (hs2 : starEach [b, c] X.env = (false, eval b X.env) :: starEach [c] X.env := by rfl) (hs3 : starEach [c] X.env = (false, eval c X.env) :: starEach [] X.env := by rfl)
    (h2 : starEach [.Call (.Name "range" p2) [a, b, c] [] pos2] X.env = (false, eval (.Call (.Name "range" p2) [a, b, c] [] pos2) X.env) :: starEach [] X.env := by rfl) :
    FD X (.Call (.Name "list" p) [.Call (.Name "range" p2) [a, b, c] [] pos2] [] pos) ρ ρ3 ((List.range m).map fun t : Nat => Da.int (i + (t : Int) * c0)) := by
  refine ⟨fun pins s σ H Q I ⟨e, S, R, k⟩ => ?_⟩
  have ha := a_cons h (a_cons h' (a_cons h'' a_nil hs3) hs2) hs
  refine Call_ (ld_blt I hg hm boot_list (PyProof.Rows.callWith_type1 (args_cons ?_ h2) h2 (by rfl)))
  refine Call_ (ld_blt I hg2 hm2 boot_range (PyProof.Rows.callWith_type1 (thn (ha.run pos2 pins s σ H _ I ⟨e, S, R, fun vs S1 H1 R1 q1 d1 => (⟨S1, R1, q1, d1⟩ : ∃ S1, Rp X.K e S1 H1 σ ρ3 ∧ Same S S1 ∧ Dvs X.K S1 vs [.int i, .int j, .int c0])⟩) fun us s1 ⟨vs, H1, I1, r1, q1⟩ => ?_) hs (by rw [hs2, hs3]; rfl)))
  obtain ⟨S1, R1, q1, d1⟩ := q1
  cases d1 with
  | cons d1 t =>
    cases t with
    | cons d2 t =>
      cases t with
      | cons d3 t =>
        cases t
        cases d1
        cases d2
        cases d3
        cases r1 with
        | cons r rr =>
          cases rr with
          | cons r' rr =>
            cases rr with
            | cons r'' rr =>
              cases rr
              obtain ⟨t1, rfl⟩ := r
              obtain ⟨t2, rfl⟩ := r'
              obtain ⟨t3, rfl⟩ := r''
              obtain ⟨z0, z1, z2, z3⟩ := hz
              refine call_range_3 z0 ?_ (.inl (PyProof.noPylong_small z1))
              refine args_nil ?_
              have I2 : Inv X pins σ H1 { s1 with heap := s1.heap.push { cls := .type "range", data := .fields #[.int i t1, .int j t2, .int c0 t3] } } := I1.kept (t' := s1.toks) fun b o e => Heap.get?_push_of_some _ e
              refine call_list_range (n := m) (I2.ok.hd hc) (IsRange.new _ _ _ _ _ _ _) z2 z3 (by omega) fun h' tk acc c' hk e' hi => ?_
              have hv : Vals ((List.range m).map fun t : Nat => V.int (i + (t : Int) * c0)) acc.toList := by
                have el : acc.toList.length = m := by rw [Array.length_toList]; exact hi.1
                rw [← el]
                refine vals_of_get acc.toList _ fun j u hj => ?_
                obtain ⟨t, rfl⟩ := hi.2 j u (by rw [← hj, Array.getElem?_toList])
                exact ⟨t, rfl⟩
              have hp := I2.hok.fresh (Nat.le_refl _)
              have dd : Dvs X.K S1 ((List.range m).map fun t : Nat => V.int (i + (t : Int) * c0)) ((List.range m).map fun t : Nat => Da.int (i + (t : Int) * c0)) := by
                have := Dvs.ofInts (K := X.K) (H := S1) ((List.range m).map fun t : Nat => i + (t : Int) * c0)
                simp only [List.map_map] at this
                exact this
              obtain ⟨R2, f⟩ := fresh_of R1 hp dd
              refine ⟨.ref _, upd H1 _ (.lst ((List.range m).map fun t : Nat => V.int (i + (t : Int) * c0))), I2.laid hk (Nat.le_refl _) ⟨?_, acc.toList, c', hv, ?_⟩, rfl, k _ _ _ R2 q1 f⟩
              · rw [List.length_map, List.length_range, sizeLine_eq]; omega
              · rw [Array.toArray_toList]; exact e'
end
end Wv
end
section
set_option Elab.async false
set_option linter.all false
set_option maxRecDepth 100000
namespace Wv
open PySem PySem.Spec PyProof.Rows L2

abbrev veB : List Value := [.type "ValueError", .type "Exception", .type "BaseException", .type "object"]
/-- the body of an __init__ that only calls ValueError's -/
abbrev supBody (msg : Str) (kk : Nat) (p0 p1 p2 p3 p4 p5 : Pos) : List Stmt := [.Expr (.Call (.Attribute (.Call (.Name "super" p0) [] [] p1) "__init__" p2) [.Constant (.str msg) kk p3] [] p4) p5]
def supArgs (pa : Pos) : Arguments := { posonlyargs := [], args := [{ arg := "self", annotation := none, pos := pa }], vararg := none, kwonlyargs := [], kw_defaults := [], kwarg := none, defaults := [] }
abbrev supScope (nms : List (Str × NameKind)) (mr : List (Str × Const)) : Scope := { kind := .function, names := nms, isGenerator := false, isCoroutine := false, more := mr }
/-- what the written part says of an own exception class whose __init__ only calls that of ValueError -/
structure SupX (P : Program) (K : PySem.W.Frag) (mg : Str → Option Value) (C fI : Addr) : Prop where
  fn : ∃ (nm qual msg : Str) (kk : Nat) (pa p0 p1 p2 p3 p4 p5 : Pos) (nms : List (Str × NameKind)) (mr : List (Str × Const)) (oc doc pm ct cl ccl : Value) (od an cdd cld : Option Addr) (cda cc : Addr) (osl ccs csl : Array (Option Value)) (vs : Array Value) (file : Str) (tf : Tok) (cdD : ClassData),
    K.lookup fI = some ⟨oc, od, .func (PySem.W.ksFn nm qual (supArgs pa) (supBody msg kk p0 p1 p2 p3 p4 p5) (supScope nms mr) .none .none doc pm an (.ref cda) ct cc), osl⟩ ∧ PySem.W.codeIn K (.ref cda) qual = true ∧
    K.lookup cda = some ⟨ccl, cdd, .fields vs, ccs⟩ ∧ vs[2]? = some (.str file tf) ∧ ((P.main.file : Str) == file) = true ∧ K.lookup cc = some ⟨cl, cld, .cell (some (.ref C)), csl⟩ ∧ PySem.W.clsIn K C = some cdD ∧
    (∀ x ∈ nms, x.2 ≠ .cell) ∧ nms.lookup ("super" : Str) = some .globalImplicit ∧ nms.lookup ("__class__" : Str) = some .free ∧ nms.lookup ("self" : Str) = some .local ∧ msg.length ≤ 1000 ∧
    ∀ L : Addr, ∃ pl : Sem Bool, eval (.Call (.Attribute (.Call (.Name "super" p0) [] [] p1) "__init__" p2) [.Constant (.str msg) kk p3] [] p4) (callEnv (PySem.W.ksFn nm qual (supArgs pa) (supBody msg kk p0 p1 p2 p3 p4 p5) (supScope nms mr) .none .none doc pm an (.ref cda) ct cc) L fI) = (do
      let ov ← attributeBase (.Call (.Name "super" p0) [] [] p1) "__init__" (callEnv (PySem.W.ksFn nm qual (supArgs pa) (supBody msg kk p0 p1 p2 p3 p4 p5) (supScope nms mr) .none .none doc pm an (.ref cda) ct cc) L fI) (eval (.Call (.Name "super" p0) [] [] p1) (callEnv (PySem.W.ksFn nm qual (supArgs pa) (supBody msg kk p0 p1 p2 p3 p4 p5) (supScope nms mr) .none .none doc pm an (.ref cda) ct cc) L fI))
      standAt p2.atName
      let (f, first) ← holding [ov] (getMethod ov "__init__" pl)
      callWith p4 f first (backTo p4 (starEach [.Constant (.str msg) kk p3] (callEnv (PySem.W.ksFn nm qual (supArgs pa) (supBody msg kk p0 p1 p2 p3 p4 p5) (supScope nms mr) .none .none doc pm an (.ref cda) ct cc) L fI))) [])
  ini : PySem.W.excInitIn K C veB "ValueError.__new__" = true
  fnd : PySem.W.findIn K (.ref C) "__init__" = some (some (.ref fI))
  ty : PySem.W.typeIn K (.ref fI) = some (.type "function")
  sub : PySem.W.mroIn K C (.ref C) = some true
  sup : PySem.W.ks_superIn K C C "__init__" = some (some (.builtin "ValueError.__init__"))
  ve : PySem.W.subIn K (.ref C) (.type "ValueError") = some true
  noSup : mg "super" = none
  top : (P.main.scope.names.lookup ("super" : Str)).isSome = false
  opq : PySem.W.nsIn K cStatics "thirdparty.any" = some none
  exC : PySem.W.subIn K (.ref C) (.type "BaseException") = some true
  tyC : PySem.W.typeIn K (.ref C) = some (.type "type")
  kC : PySem.W.keepIn K (.ref C) = true
theorem boot_super : bootBuiltins "super" = some (.type "super") := by first | rfl | kernel_rfl | decide +kernel
section
variable {X : Cx} {C fI : Addr} {x : Str} {p pos : Pos}
theorem pmk_sup {k : Nat} (T : SupX X.prog X.K X.mg C fI) (hr : Room (k + 1) X.A) (hg : Gl X x) (hm : X.mg x = some (.ref C)) (hdb : (x == ("__debug__" : Str)) = false := by decide) :
    PMk X (.Call (.Name x p) [] [] pos) (fun σ H Q => Q (.ref C) none H) := by
  intro pins s σ H Q I hq
  obtain ⟨nm, qual, msg, kk, pa, p0, p1, p2, p3, p4, p5, nms, mr, oc, doc, pm, ct, cl, ccl, od, an, cdd, cld, cda, cc, osl, ccs, csl, vs, file, tf, cdD, hf, hcd, hcode, hvs, hfile, hcell, hD, hnc, hks, hkc, hka, hml, hev⟩ := T.fn
  obtain ⟨nmC, NC, qnC, bs, bm, hdct, sn, sub, ab, col, dd, k0, k1, k2, k3, k5, hC, hbm⟩ := PySem.W.excInit_of I.kIn T.ini
  refine wpAny_Call_Name_kw (ld_glob I hg hm ?_ hdb)
  refine PySem.W.callWith_K0 I.kIn T.kC ?_
  show wpAny _ _ (call (.ref C) []) _ _ _
  have XK : X.K.In s.heap := I.kIn
  have hlim : s.heap.NoLimit := I.nolimit
  obtain ⟨mb, hb1, hb2⟩ := I.mod.blt
  have hgl : s.heap.Ns mainGlobals X.mg := I.mod.glob.keeps I.bk
  have hbl := hb1.keeps I.bk
  obtain ⟨hp, g, d, t, os⟩ := s
  refine wpAny_call (PySem.HandSPX.call_own F.excBase_ValueError hbm hC (PySem.W.looks_findIn XK T.fnd) (fun self => PySem.W.bind_fn XK self T.ty) (Nat.zero_le _) ?_)
  have kk2 : ∀ b o, hp.get? b = some o → ((hp.push (PySem.W.kdv_tup [])).push (PySem.HandSPX.excO C hp.objs.size)).get? b = some o := fun b o e => Heap.get?_push_of_some _ (Heap.get?_push_of_some _ e)
  have hget : ((hp.push (PySem.W.kdv_tup [])).push (PySem.HandSPX.excO C hp.objs.size)).get? (hp.objs.size + 1) = some (PySem.HandSPX.excO C hp.objs.size) := by heap_get
  have hz2 : ((hp.push (PySem.W.kdv_tup [])).push (PySem.HandSPX.excO C hp.objs.size)).objs.size = hp.objs.size + 2 := by rw [Heap.size_push, Heap.size_push]
  refine ks_codeAny_call_defAt (fd := PySem.W.ksFn nm qual (supArgs pa) (supBody msg kk p0 p1 p2 p3 p4 p5) (supScope nms mr) .none .none doc pm an (.ref cda) ct cc) (body := supBody msg kk p0 p1 p2 p3 p4 p5) (binds := [("self", .ref (hp.objs.size + 1))])
    ?room (kk2 _ _ (XK _ _ hf)) rfl (hlim.keeps kk2) (PySem.W.codeRec_of (XK.keeps kk2) hcd) rfl (BindsTo.of_eq rfl) hnc (fun y hy => ?_) (fun h1 hns hk1 => ?_) rfl rfl rfl
  case room =>
    have := hr.dp
    first
      | (rw [make_depth]; omega)
      | (show _ < _; simp [Around.under, Code.weight, Code.isCreation, Code.isGuard, Code.isCaller, Code.frames, Code.isFrame, guardIds]; omega)
  · have e : y = (("self" : Str), Value.ref (hp.objs.size + 1)) := by simpa using hy
    subst e
    exact hka
  -- within the def
  have Fr1 : Fr hp ((hp.push (PySem.W.kdv_tup [])).push (PySem.HandSPX.excO C hp.objs.size)).objs.size h1 (fun x => [((("self" : Str)), Value.ref (hp.objs.size + 1))].reverse.lookup x) := ⟨hns, fun b o e => hk1 b o (kk2 b o e), by rw [hz2]; omega⟩
  have N1 : News hp ((hp.push (PySem.W.kdv_tup [])).push (PySem.HandSPX.excO C hp.objs.size)).objs.size h1 [(hp.objs.size + 1, PySem.W.excObj C hp.objs.size none .none)] := fun q hq2 => by
    have e : q = (hp.objs.size + 1, PySem.W.excObj C hp.objs.size none .none) := by simpa using hq2
    subst e
    refine ⟨hk1 _ _ hget, ?_, ?_⟩
    · rw [hz2]
      show hp.objs.size + 1 ≠ hp.objs.size + 2
      omega
    · cases z : hp.get? (hp.objs.size + 1) with
      | none => rfl
      | some o =>
        have := Heap.lt_size z
        exact absurd (show hp.objs.size + 1 < hp.objs.size from this) (by omega)
  have X1 : X.K.In h1 := XK.keeps Fr1.keep
  refine ks_wpAt_execs_cons ?_
  refine ks_wpAt_Expr_any ?_
  obtain ⟨pl, hev2⟩ := hev ((hp.push (PySem.W.kdv_tup [])).push (PySem.HandSPX.excO C hp.objs.size)).objs.size
  refine ks_wpAt_MethodCall (pl := pl) ?_ hev2
  obtain ⟨oD, hD1, hD2⟩ : ∃ oD, h1.get? C = some oD ∧ oD.data = .cls cdD := by
    unfold PySem.W.clsIn at hD
    split at hD
    · rename_i c d cd' sl ho
      cases hD
      exact ⟨_, X1 _ _ ho, rfl⟩
    · cases hD
  have hx : h1.get? (hp.objs.size + 1) = some (PySem.W.excObj C hp.objs.size none .none) := hk1 _ _ hget
  refine ks_wpAt_super_base hks hkc (by decide) rfl (X1 _ _ hf) rfl rfl rfl (X1 _ _ hcode) rfl hvs hfile T.top ?_
  refine PySem.W.ks_loadName_global rfl hks (Calls.loadGlobal_builtin (hgl.keeps Fr1.keep) T.noSup (hbl.keeps Fr1.keep) ((hb2 _ (by decide)).trans boot_super) ⟨rfl, ?_⟩)
  refine wpAny_loadName_free rfl hkc rfl ⟨_, X1 _ _ hcell, rfl⟩ ?_
  refine wpAny_loadName_local (v := .ref (hp.objs.size + 1)) rfl hka Fr1.ns rfl ?_
  refine ks_wpAny_isType_cls hD1 hD2 ⟨rfl, ?_⟩
  refine ks_wpAny_call_super (C := C) hD1 hD2 hx rfl (fun c e => nomatch e) (PySem.W.looks_mroIn X1 T.sub) (fun h2 e2 k2 => ?_)
  obtain ⟨Fr2, N2, l2⟩ := PySem.W.ks_newsPush (s := ⟨h1, g, d, t + 1, os⟩) (h' := h2) (o := PySem.W.ks_superObj C (hp.objs.size + 1) C) Fr1 N1 rfl e2 k2
  have in2 : PySem.W.InstAt h2 (hp.objs.size + 1) (PySem.W.excObj C hp.objs.size none .none) C none := PySem.W.InstAt.of_exc0 N2 (by simp)
  refine PySem.W.kxs_method (s := ⟨h2, g, d, t + 1, os⟩) PySem.W.kxs_ValueError Fr2 XK N2 (by simp) in2 T.opq T.sup T.ve (by decide) (fun q h3 Fr3 N3 l3 => ?_)
  refine PySem.W.kxs_callWith1 (i := "ValueError.__init__") (x := hp.objs.size + 1) N3 (by simp) ?_
  refine Calls.spliced_cons ?_
  show wpAny _ _ (eval (.Constant (.str msg) kk p3) _) _ _ _
  refine Calls.Constant_str ?_
  refine Calls.spliced_nil ?_
  refine ⟨PySem.W.kxs_at N3 (by simp), ?_⟩
  refine PySem.W.kxs_call (u := q) (x := hp.objs.size + 1) (i := "ValueError.__init__") (t := hp.objs.size) (dv := none) (c2 := .none) (nw := fun o => [(q, PySem.W.kxs_mw "ValueError.__init__" (hp.objs.size + 1)), (h1.objs.size, PySem.W.ks_superObj C (hp.objs.size + 1) C), (hp.objs.size + 1, o)]) Fr3 XK N3 F.excBase_ValueError T.ini (by simp) ?_ (by show 1 ≤ sizeLine; rw [sizeLine_eq]; omega) (fun t4 h4 Fr4 N4 l4 => ?_)
  · have q1 : hp.objs.size + 1 < q := l3 (hp.objs.size + 1, PySem.W.excObj C hp.objs.size none .none) (by simp)
    have q2 : hp.objs.size + 1 < h1.objs.size := l2 (hp.objs.size + 1, PySem.W.excObj C hp.objs.size none .none) (by simp)
    exact .tail (Nat.ne_of_gt q1) (.tail (Nat.ne_of_gt q2) (.head (by simp)))
  refine wpAt_of_wpAny (wpAny_execs_nil ⟨rfl, ?_⟩)
  have hn : hp.get? (hp.objs.size + 1) = none := by
    cases z : hp.get? (hp.objs.size + 1) with
    | none => rfl
    | some o =>
      have := Heap.lt_size z
      exact absurd (show hp.objs.size + 1 < hp.objs.size from this) (by omega)
  exact ⟨hp.objs.size + 1, PySem.W.excObj C t4 none .none, _, ⟨hp, g, d, t, os⟩, H, .ref C, none, rfl, I, Fr4.keep, hn, (N4 (hp.objs.size + 1, PySem.W.excObj C t4 none .none) (by simp)).1, ⟨rfl, rfl⟩, rfl, rfl, I.hok.fresh (by show hp.objs.size ≤ hp.objs.size + 1; omega), rfl, I.bare, raises_own T.exC T.tyC, hq⟩
end
end Wv
end
section
set_option Elab.async false
set_option linter.all false
set_option maxRecDepth 100000
namespace Wv
open PySem PySem.Spec PyProof.Rows L2

/-! ### fields -/
def putD (f : Str) (v : Da) : List (Str × Da) → List (Str × Da)
  | [] => [(f, v)]
  | (g, x) :: r => if g = f then (g, v) :: r else (g, x) :: putD f v r
theorem Dvf.put {K : PySem.W.Frag} {H : Hp} {f : Str} {v : V} {d : Da} (h : Dv K H v d) : ∀ {fs : List (Str × V)} {gs : List (Str × Da)}, Dvf K H fs gs → Dvf K H (L2.putF f v fs) (putD f d gs)
  | _, _, .nil => .cons h .nil
  | _, _, .cons (f := g) h2 t => by
    unfold L2.putF putD
    by_cases e : g = f
    · rw [if_pos e, if_pos e]
      exact .cons h t
    · rw [if_neg e, if_neg e]
      exact .cons h2 (Dvf.put h t)
theorem Dvf.length {K : PySem.W.Frag} {H : Hp} : ∀ {fs : List (Str × V)} {gs : List (Str × Da)}, Dvf K H fs gs → fs.length = gs.length
  | _, _, .nil => rfl
  | _, _, .cons _ t => congrArg Nat.succ (Dvf.length t)
theorem Dvf.lookNone {K : PySem.W.Frag} {H : Hp} {f : Str} : ∀ {fs : List (Str × V)} {gs : List (Str × Da)}, Dvf K H fs gs → gs.lookup f = none → fs.lookup f = none
  | _, _, .nil, _ => rfl
  | _, _, .cons (f := g) h t, e => by
    rw [List.lookup_cons] at e ⊢
    cases q : (f == g) with
    | true => rw [q] at e; cases e
    | false => rw [q] at e; exact Dvf.lookNone t e

/-! ### promises with an exception -/
def spX (K : PySem.W.Frag) (c : Value) (R : List Da → Option Da → Prop) : Sp := fun vs H Q E => ∃ S ds o, Same S H ∧ Dvs K S vs ds ∧ R ds o ∧
  (∀ d, o = some d → ∀ v S' H', Rets S H S' H' → Dv K S' v d → Q v H') ∧ (o = none → ∀ S' H', Rets S H S' H' → E c none H')
def DeX (c : Value) (o : Option Da) (W : WX) : De := { nx := fun _ => o = some .non, rt := fun x _ => o = some x, ex := fun _ c' => o = none ∧ c' = c, W := W }
section
variable {P : Program} {w : World} {K : PySem.W.Frag} {mg : Str → Option Value} {base : Heap}
theorem sco_topX {N ps : List Str} {qual : Str} {st : Stmt} {f : Addr} {cdv : Value} {A : Around} {outer : List Env} {s : Shared} {H : Hp} {E : XK} (S : FnScope N ps (defScope st)) :
    Sco (cxOf (L2.CX P w) P w K mg base N qual (defScope st) f cdv A outer s H E) N (defScope st) true := ⟨rfl, rfl, S.nd, rfl, S.kind, passes_of rfl, fun _ _ => rfl⟩
/-- a def over data that may let an exception of the class c out -/
theorem fn_x {x qual : Str} {st : Stmt} {f : Addr} {fd : FuncData} {N ps : List Str} {k : Nat} {c : Value} {R : List Da → Option Da → Prop} (F : Fun K x qual st f fd) (S : FnScope N ps (defScope st)) (hR : ∀ ds o, R ds o → ds.length = ps.length)
    (body : ∀ X : Cx, Top P w K mg base X → Sco X N (defScope st) true → Room k X.A → ∀ (E : XK), Takes X (fun cls d _ H => E cls d H) → ∀ ds o, R ds o → SD X (defBody st) (startD N.length ds) (DeX c o (fun cls d _ H => E cls d H))) : FnOk P w K mg base (L2.CX P w) (k + 1) f fd ps (spX K c R) := by
  refine F.okX S (fun vs H Q E h => ?_) (fun cdv A outer s H vs Q E hr h => ?_)
  · obtain ⟨Sh, ds, o, _, hd, r, _⟩ := h
    rw [hd.length]
    exact hR ds o r
  · obtain ⟨Sh, ds, o, h1, hd, r, q1, q2⟩ := h
    refine ⟨_, body (cxOf (L2.CX P w) P w K mg base N qual (defScope st) f cdv A outer s H E) ⟨rfl, rfl, rfl, rfl, rfl⟩ (sco_topX S) hr E (takes_of rfl rfl rfl rfl) ds o r, ?_⟩
    have rr : ∀ {ρ : List SV} {σ : L2.St} {S' H' : Hp}, Rp K ⟨H, Sh, fun _ _ => False⟩ S' H' σ ρ → Rets Sh H S' H' := fun {ρ σ S' H'} R => ⟨R.keepS, R.sub, fun b o h => R.keep b o h fun _ z => z, R.new⟩
    refine ⟨_, Sh, rp_start h1 hd, ⟨fun ρ σ S' H' h R => ?_, fun x ρ v σ S' H' h R dv => ?_, fun _ _ _ _ h => h.elim, fun _ _ _ _ h => h.elim, fun _ _ z => z.elim, fun ρ c' σ S' H' h R => ?_⟩⟩
    · exact q1 _ h _ S' H' (rr R) .non
    · exact q1 _ h v S' H' (rr R) dv
    · obtain ⟨h1, rfl⟩ := h
      exact q2 h1 S' H' (rr R)
theorem fnR_of {CX : CXT} {k : Nat} {f : Addr} {fd : FuncData} {ps : List Str} {sp : Sp} (F : FnOk P w K mg base CX k f fd ps sp) (hb : Binds K fd ps []) : FnR P w K mg base CX k f sp := fun A outer s H us vs Q E hr e0 r h => by
  have hl : us.length = ps.length := by
    rw [← Paired.length r]
    exact F.len _ _ _ _ h
  have hk : K.In s.heap := e0.mod.kin.keeps fun b o q => (e0.bs b o q).1
  have := hb s us hk (by rw [List.append_nil]; exact hl)
  rw [List.append_nil] at this
  exact F.run A outer s H ⟨us, []⟩ us vs Q E hr e0 this r h
end
/-- the expression lets an exception out -/
def tN (K : PySem.W.Frag) (W : WX) (c : Value) (ρ ρ' : List SV) : TE := fun σ H _ => ∃ e S, Rp K e S H σ ρ ∧ ∀ S' H', Rp K e S' H' σ ρ' → Same S S' → W c none σ H'
abbrev XN (X : Cx) (W : WX) (c : Value) (e : Expr) (ρ ρ' : List SV) : Prop := PE X e (tN X.K W c ρ ρ')
section
variable {X : Cx} {N : List Str} {sc : Scope} {tp : Bool} {ρ ρ1 ρ2 ρ3 : List SV} {a b e0 : Expr} {p p0 p2 p3 pos pos' : Pos} {x y z d : Da} {n n0 : Str} {ds ds2 : List Da} {rest : List Stmt} {D : De} {c : Value} {W : WX} {es : List Expr}
theorem q_exprN (h : XN X D.W c a ρ ρ1) (k : D.ex ρ1 c) (hw : swapsWith a none pos.line X.env = pure false := by rfl) : SD X (.Expr a pos :: rest) ρ D :=
  sd_cons (ps_imp (ps_expr h hw) fun Dn σ H ⟨e, Sh, R, G⟩ => ⟨e, Sh, R, fun S1 H1 R1 q1 => G.ex _ _ σ S1 H1 k R1⟩)
theorem q_retN (h : XN X D.W c a ρ ρ1) (k : D.ex ρ1 c) : SD X (.Return (some a) pos :: rest) ρ D :=
  sd_cons (ps_imp (ps_ret h) fun Dn σ H ⟨e, Sh, R, G⟩ => ⟨e, Sh, R, fun S1 H1 R1 q1 => G.ex _ _ σ S1 H1 k R1⟩)
theorem q_raise {C : Addr} (S : Sco X N sc tp) (tk : Takes X D.W) {t : L2.St → Hp → XK → Prop} (h : PMk X a t) (ht : ∀ σ H Q, Q (.ref C) none H → t σ H Q) (k : D.ex ρ (.ref C)) : SD X (.Raise (some a) none pos :: rest) ρ D :=
  sd_cons (ps_imp (ps_raise S.calm tk h) fun Dn σ H ⟨e, Sh, R, G⟩ => ht σ H _ (G.ex _ _ σ Sh H k R))
/-! calls that may raise -/
variable {CX : CXT} {k : Nat} {f : Addr} {fd : FuncData} {ps : List Str} {R : List Da → Option Da → Prop} {E : XK}
theorem spX_some {vs : List V} {H : Hp} {Q : VK} {e : En} {S : Hp} {σ : L2.St} (R1 : Rp X.K e S H σ ρ) (hv : Dvs X.K S vs ds) (h : R ds (some d)) (q : ∀ v S' H', Rp X.K e S' H' σ ρ → Same S S' → Dv X.K S' v d → Q v H') : spX X.K c R vs H Q E :=
  ⟨S, ds, some d, R1.sub, hv, h, fun d' e1 v S2 H2 r dv => by
    cases e1
    exact q v S2 H2 (R1.called r) r.ss dv, fun e1 => (nomatch e1)⟩
theorem spX_none {vs : List V} {H : Hp} {Q : VK} {e : En} {S : Hp} {σ : L2.St} (R1 : Rp X.K e S H σ ρ) (hv : Dvs X.K S vs ds) (h : R ds none) (q : ∀ S' H', Rp X.K e S' H' σ ρ → Same S S' → E c none H') : spX X.K c R vs H Q E :=
  ⟨S, ds, none, R1.sub, hv, h, fun d' e1 => (nomatch e1), fun _ S2 H2 r => q S2 H2 (R1.called r) r.ss⟩
theorem d_callX (F : FnOk X.prog X.w X.K X.mg X.base CX k f fd ps (spX X.K c R)) (hx : Passes CX X E) (hr : Room k X.A) (hg : Gl X n) (hm : X.mg n = some (.ref f)) (hk : PySem.W.keepIn X.K (.ref f) = true) (hb : Binds X.K fd ps []) (ha : AD X (a :: es) ρ ρ1 ds) (h : R ds (some d))
    (hdb : (n == ("__debug__" : Str)) = false := by decide) (he : starEach (a :: es) X.env = (false, eval a X.env) :: starEach es X.env := by rfl) (hpl : (backTo pos (starEach es X.env)).any (·.1) = false := by rfl) : ED X (.Call (.Name n p) (a :: es) [] pos) ρ ρ1 d :=
  pe_imp (pe_call F hr hg hm hk hb .nil hx ha hdb he hpl) fun σ H Q ⟨e, S, R0, q⟩ => ⟨e, S, R0, fun vs S1 H1 R1 q1 d1 => by
    show spX X.K c R (vs ++ []) H1 Q E
    rw [List.append_nil]
    exact spX_some R1 d1 h fun v S2 H2 R2 q2 dv => q v S2 H2 R2 (q1.trans q2) dv⟩
theorem passW (tk : Takes X (fun cls d _ H => E cls d H)) : Passes (L2.CX X.prog X.w) X E := passes_call (E := E) tk fun _ _ _ _ h => h
theorem n_callX (F : FnOk X.prog X.w X.K X.mg X.base (L2.CX X.prog X.w) k f fd ps (spX X.K c R)) (tk : Takes X W) (hr : Room k X.A) (hg : Gl X n) (hm : X.mg n = some (.ref f)) (hk : PySem.W.keepIn X.K (.ref f) = true) (hb : Binds X.K fd ps []) (ha : AD X (a :: es) ρ ρ1 ds) (h : R ds none)
    (hdb : (n == ("__debug__" : Str)) = false := by decide) (he : starEach (a :: es) X.env = (false, eval a X.env) :: starEach es X.env := by rfl) (hpl : (backTo pos (starEach es X.env)).any (·.1) = false := by rfl) : XN X W c (.Call (.Name n p) (a :: es) [] pos) ρ ρ1 :=
  pe_imp (pe_callS (E := WE W) F hr hg hm hk hb (fun σ => passAt tk σ) ha hdb he hpl) fun σ H Q ⟨e, S, R0, q⟩ => ⟨e, S, R0, fun vs S1 H1 R1 q1 d1 => spX_none R1 d1 h fun S2 H2 R2 q2 => q S2 H2 R2 (q1.trans q2)⟩
/-! ### instances -/
/-- e.f -/
theorem d_fld {C : Addr} {gs : List (Str × Da)} {fl : Str} (hC : Cls X.K C) (hn : NoAttr X.K C fl) (hl : gs.lookup fl = some d) (h : ED X a ρ ρ1 (.ins C gs)) (hb : attributeBase a fl X.env (eval a X.env) = eval a X.env := by rfl) : ED X (.Attribute a fl pos) ρ ρ1 d :=
  pe_imp (pe_fld h hb) fun σ H Q ⟨e, S, R, k⟩ => ⟨e, S, R, fun v S1 H1 R1 q1 d1 => by
    cases d1 with
    | @ins a0 _ dx fs _ hh t =>
      obtain ⟨w, e1, e2⟩ := t.look hl
      exact ⟨a0, C, dx, fs, w, rfl, R1.sub _ _ hh, hC, hn, e1, k w S1 H1 R1 q1 e2⟩⟩
/-- self.f = e, self of one's own -/
theorem q_setF (S : Sco X N sc tp) (i : Nat) {C dx : Addr} {gs : List (Str × Da)} {fl : Str} (hC : Cls X.K C) (hn : NoAttr X.K C fl) (hz : gs.length < 1000) (h : ED X a ρ ρ1 x) (hi : ρ1[i]? = some (.own (.o C dx gs))) (k : SD X rest (ρ1.set i (.own (.o C dx (putD fl x gs)))) D) (hN : N[i]? = some n := by rfl)
    (hv : Vis sc n := by first | exact Or.inl rfl | exact Or.inr (Or.inl rfl) | exact Or.inr (Or.inr rfl)) (hd : (n == ("__debug__" : Str)) = false := by decide) (hcd : (n == ("__classdict__" : Str)) = false := by decide) (hs : swapsWith a (some (.Attribute (.Name n p0) fl pos')) pos.line X.env = pure false := by rfl) :
    SD X (.Assign [.Attribute (.Name n p0) fl pos'] a pos :: rest) ρ D :=
  sd_cons (ps_imp (ps_fld (pe_var (i := i) (by rw [S.n]; exact hN) (by rw [S.s]; exact hv) hd hcd) h hs) fun Dn σ H ⟨e, Sh, R, G⟩ => ⟨e, Sh, R, fun v S1 H1 R1 q1 d1 => by
    obtain ⟨l, fs, e1, e2, e3, e4, e5⟩ := R1.obj hi
    refine ⟨.ref l, e1, l, C, dx, fs, rfl, e3, hC, hn, by rw [e4.length]; exact hz, ?_⟩
    exact G.nx _ _ S1 _ k (R1.mutOwn hi e1 (.o (e4.put d1)))⟩)
/-- self.f read within __init__ -/
theorem d_fldO (S : Sco X N sc tp) (i : Nat) {C dx : Addr} {gs : List (Str × Da)} {fl : Str} (hC : Cls X.K C) (hn : NoAttr X.K C fl) (hl : gs.lookup fl = some d) (hi : ρ[i]? = some (.own (.o C dx gs))) (hN : N[i]? = some n := by rfl)
    (hv : Vis sc n := by first | exact Or.inl rfl | exact Or.inr (Or.inl rfl) | exact Or.inr (Or.inr rfl)) (hd : (n == ("__debug__" : Str)) = false := by decide) (hcd : (n == ("__classdict__" : Str)) = false := by decide) (hb : attributeBase (.Name n p0) fl X.env (eval (.Name n p0) X.env) = eval (.Name n p0) X.env := by rfl) :
    ED X (.Attribute (.Name n p0) fl pos) ρ ρ d :=
  pe_imp (pe_fld (pe_var (i := i) (by rw [S.n]; exact hN) (by rw [S.s]; exact hv) hd hcd) hb) fun σ H Q ⟨e, Sh, R, k⟩ => by
    obtain ⟨l, fs, e1, e2, e3, e4, e5⟩ := R.obj hi
    obtain ⟨w, f1, f2⟩ := e4.look hl
    exact ⟨.ref l, e1, l, C, dx, fs, w, rfl, e3, hC, hn, f1, k w Sh H R (.refl Sh) f2⟩
end
/-! ### __init__ -/
/-- self is new; the attributes are told -/
def spI (K : PySem.W.Frag) (c : Value) (C : Addr) (R : List Da → Option (List (Str × Da)) → Prop) : Sp := fun vs H Q E => ∃ S x dx ws ds o, vs = .ref x :: ws ∧ Same S H ∧ S x = none ∧ H x = some (.ins C dx []) ∧ Dvs K S ws ds ∧ R ds o ∧
  (∀ gs, o = some gs → ∀ S' H' fs, Same S S' → Same S' H' → S' x = none → H' x = some (.ins C dx fs) → Dvf K S' fs gs → (∀ b o, b ≠ x → H b = some o → H' b = some o) → (∀ b, S' b ≠ none → S b = none → H b = none) → Q .non H') ∧
  (o = none → ∀ S' H', Same S S' → Same S' H' → S' x = none → (∀ b o, b ≠ x → H b = some o → H' b = some o) → (∀ b, S' b ≠ none → S b = none → H b = none) → E c none H')
def startI (n : Nat) (C dx : Addr) (ds : List Da) : List SV := .own (.o C dx []) :: (ds.map SV.d ++ List.replicate (n - (ds.length + 1)) .any)
theorem startI_get {n : Nat} {C dx : Addr} {ds : List Da} {i : Nat} {s : SV} (h : (startI n C dx ds)[i + 1]? = some s) : (∃ d, s = .d d ∧ ds[i]? = some d) ∨ s = .any := startM_get (ms := []) (n := n) h
theorem rp_startI {K : PySem.W.Frag} {N : List Str} {l C dx : Addr} {ws : List V} {ds : List Da} {S H : Hp} (h : Same S H) (sl : S l = none) (hl : H l = some (.ins C dx [])) (d : Dvs K S ws ds) :
    Rp K (enM H S l) S H (L2.start N (.ref l :: ws)) (startI N.length C dx ds) where
  sub := h
  keep := fun _ _ q _ => q
  keepS := .refl S
  new := fun b q z => absurd z q
  pas := fun i a m q => by
    obtain ⟨_, rfl⟩ := m
    rw [hl] at q
    cases q
  par := fun i a m => by
    obtain ⟨rfl, rfl⟩ := m
    exact start_get rfl
  parO := fun i a m => by
    obtain ⟨rfl, rfl⟩ := m
    exact ⟨_, rfl⟩
  dat := fun i x q => by
    cases i with
    | zero => cases q
    | succ i =>
      rcases startI_get q with ⟨y, h1, h2⟩ | h1
      · cases h1
        obtain ⟨v, e1, e2⟩ := d.get h2
        exact ⟨v, start_get e1, e2⟩
      · cases h1
  own := fun i es q => by
    cases i with
    | zero =>
      cases q
      exact ⟨l, _, start_get rfl, sl, hl, .o .nil, .inl ⟨0, rfl, rfl⟩⟩
    | succ i =>
      rcases startI_get q with ⟨y, h1, h2⟩ | h1
      · cases h1
      · cases h1
  inj := fun i j es fs m h1 h2 _ _ => by
    cases i with
    | succ i =>
      rcases startI_get h1 with ⟨y, q, _⟩ | q
      · cases q
      · cases q
    | zero =>
      cases j with
      | zero => rfl
      | succ j =>
        rcases startI_get h2 with ⟨y, q, _⟩ | q
        · cases q
        · cases q
  scr := fun i ns q => by
    cases i with
    | zero => cases q
    | succ i =>
      rcases startI_get q with ⟨y, h1, h2⟩ | h1
      · cases h1
      · cases h1
  len := by
    rw [start_len]
    show (ws.length + 1) + (N.length - (ws.length + 1)) = (ds.map SV.d ++ List.replicate (N.length - (ds.length + 1)) SV.any).length + 1
    rw [List.length_append, List.length_map, List.length_replicate, d.length]
    omega
def DeI (c : Value) (C dx : Addr) (o : Option (List (Str × Da))) (W : WX) : De := { nx := fun ρ => ∃ gs, o = some gs ∧ ρ[0]? = some (.own (.o C dx gs)), rt := fun _ _ => False, ex := fun ρ c' => o = none ∧ c' = c ∧ ∃ ob, ρ[0]? = some (.own ob), W := W }
section
variable {P : Program} {w : World} {K : PySem.W.Frag} {mg : Str → Option Value} {base : Heap}
theorem fn_i {x qual : Str} {st : Stmt} {f C : Addr} {fd : FuncData} {N ps : List Str} {k : Nat} {c : Value} {R : List Da → Option (List (Str × Da)) → Prop} (F : Fun K x qual st f fd) (S : FnScope N ps (defScope st)) (hR : ∀ ds o, R ds o → ds.length + 1 = ps.length)
    (body : ∀ X : Cx, Top P w K mg base X → Sco X N (defScope st) true → Room k X.A → ∀ (E : XK), Takes X (fun cls d _ H => E cls d H) → ∀ dx ds o, R ds o → SD X (defBody st) (startI N.length C dx ds) (DeI c C dx o (fun cls d _ H => E cls d H))) : FnOk P w K mg base (L2.CX P w) (k + 1) f fd ps (spI K c C R) := by
  refine F.okX S (fun vs H Q E h => ?_) (fun cdv A outer s H vs Q E hr h => ?_)
  · obtain ⟨Sh, l, dx, ws, ds, o, rfl, _, _, _, hd, r, _⟩ := h
    rw [List.length_cons, hd.length]
    exact hR ds o r
  · obtain ⟨Sh, l, dx, ws, ds, o, rfl, h1, h2, h3, hd, r, q1, q2⟩ := h
    refine ⟨_, body (cxOf (L2.CX P w) P w K mg base N qual (defScope st) f cdv A outer s H E) ⟨rfl, rfl, rfl, rfl, rfl⟩ (sco_topX S) hr E (takes_of rfl rfl rfl rfl) dx ds o r, ?_⟩
    refine ⟨_, Sh, rp_startI h1 h2 h3 hd, ⟨fun ρ σ S' H' h R => ?_, fun x ρ v σ S' H' h R dv => h.elim, fun _ _ _ _ h => h.elim, fun _ _ _ _ h => h.elim, fun _ _ z => z.1, fun ρ c' σ S' H' h R => ?_⟩⟩
    · obtain ⟨gs, e1, e2⟩ := h
      obtain ⟨m, fs, f1, f2, f3, f4, _⟩ := R.obj e2
      have e := R.par 0 l ⟨rfl, rfl⟩
      rw [e] at f1
      cases f1
      exact q1 gs e1 S' H' fs R.keepS R.sub f2 f3 f4 (fun b o hb h => R.keep b o h fun i z => hb z.2) R.new
    · obtain ⟨e1, rfl, ob, e2⟩ := h
      obtain ⟨m, ho, f1, f2, f3, f4, _⟩ := R.own 0 ob e2
      have e := R.par 0 l ⟨rfl, rfl⟩
      rw [e] at f1
      cases f1
      exact q2 e1 S' H' R.keepS R.sub f2 (fun b o hb h => R.keep b o h fun i z => hb z.2) R.new
end
end Wv
end
section
set_option Elab.async false
set_option linter.all false
set_option maxRecDepth 100000
namespace Wv
open PySem PySem.Spec PyProof.Rows L2

section
variable {X : Cx} {N : List Str} {sc : Scope} {tp : Bool} {ρ ρ1 ρ2 ρ3 : List SV} {a b e0 : Expr} {p p0 p2 p3 pos pos' apos : Pos} {x y z d : Da} {n n0 m : Str} {ds ds2 : List Da} {rest : List Stmt} {D : De} {c : Value} {W : WX} {es : List Expr}
  {CX : CXT} {k : Nat} {f C : Addr} {fd : FuncData} {ps : List Str} {R : List Da → Option Da → Prop} {E : XK} {RI : List Da → Option (List (Str × Da)) → Prop} {gs gs2 : List (Str × Da)} {RD : List Da → Da → Prop}
/-! ### an instance is made -/
theorem make_some {vs : List V} {H : Hp} {Q : VK} {e : En} {S : Hp} {σ : L2.St} (R1 : Rp X.K e S H σ ρ) (hv : Dvs X.K S vs ds) (h : RI ds (some gs)) (q : ∀ v S' H', Rp X.K e S' H' σ ρ → Same S S' → Dv X.K S' v (.ins C gs) → Q v H') :
    ∀ x dx, H x = none → H dx = none → dx ≠ x → spI X.K c C RI (.ref x :: vs) (upd (upd H dx (.own x)) x (.ins C dx [])) (fun v H2 => v = .non ∧ Q (.ref x) H2) E := fun x dx hx hdx ne => by
  have R2 := R1.allocO (o := .own x) hdx
  have hx2 : upd H dx (.own x) x = none := by rw [upd_ne (Ne.symm ne)]; exact hx
  have R3 := R2.allocO (o := .ins C dx []) hx2
  refine ⟨S, x, dx, vs, ds, some gs, rfl, R3.sub, R1.s0 hx, upd_same, hv, h, fun gs' e1 S' H' fs ss sub sx hh hf keep new => ?_, fun e1 => (nomatch e1)⟩
  cases e1
  refine ⟨rfl, ?_⟩
  have RT : Rets S (upd H dx (.own x)) S' H' := ⟨ss, sub, fun b o hb => by
    have nb : b ≠ x := fun z => by
      rw [z, hx2] at hb
      cases hb
    exact keep b o nb (by rw [upd_ne nb]; exact hb), fun b h1 h2 => by
    have := new b h1 h2
    have nb : b ≠ x := fun z => by
      rw [z, upd_same] at this
      cases this
    rw [upd_ne nb] at this
    exact this⟩
  have R4 := R2.called RT
  have R5 := R4.share hh sx (R1.h0 hx) fun j es h1 h2 => by
    obtain ⟨l, ho, f1, f2, f3, _⟩ := R1.own j es h1
    rw [h2] at f1
    cases f1
    rw [hx] at f3
    cases f3
  exact q _ _ _ R5 (ss.trans (same_new sx)) (.ins upd_same (hf.mono (same_new sx)))
theorem make_none {vs : List V} {H : Hp} {Q : VK} {e : En} {S : Hp} {σ : L2.St} (R1 : Rp X.K e S H σ ρ) (hv : Dvs X.K S vs ds) (h : RI ds none) (q : ∀ S' H', Rp X.K e S' H' σ ρ → Same S S' → E c none H') :
    ∀ x dx, H x = none → H dx = none → dx ≠ x → spI X.K c C RI (.ref x :: vs) (upd (upd H dx (.own x)) x (.ins C dx [])) (fun v H2 => v = .non ∧ Q (.ref x) H2) E := fun x dx hx hdx ne => by
  have R2 := R1.allocO (o := .own x) hdx
  have hx2 : upd H dx (.own x) x = none := by rw [upd_ne (Ne.symm ne)]; exact hx
  have R3 := R2.allocO (o := .ins C dx []) hx2
  refine ⟨S, x, dx, vs, ds, none, rfl, R3.sub, R1.s0 hx, upd_same, hv, h, fun gs' e1 => (nomatch e1), fun _ S' H' ss sub sx keep new => ?_⟩
  have RT : Rets S (upd H dx (.own x)) S' H' := ⟨ss, sub, fun b o hb => by
    have nb : b ≠ x := fun z => by
      rw [z, hx2] at hb
      cases hb
    exact keep b o nb (by rw [upd_ne nb]; exact hb), fun b h1 h2 => by
    have := new b h1 h2
    have nb : b ≠ x := fun z => by
      rw [z, upd_same] at this
      cases this
    rw [upd_ne nb] at this
    exact this⟩
  exact q _ _ (R2.called RT) ss
theorem d_make (M : Mk X.K C f) (F : FnOk X.prog X.w X.K X.mg X.base CX k f fd ps (spI X.K c C RI)) (hx : Passes CX X E) (hr : Room (k + 1) X.A) (hg : Gl X n) (hm : X.mg n = some (.ref C)) (hb : Binds X.K fd ps []) (ha : AD X (a :: es) ρ ρ1 ds) (h : RI ds (some gs))
    (hdb : (n == ("__debug__" : Str)) = false := by decide) (he : starEach (a :: es) X.env = (false, eval a X.env) :: starEach es X.env := by rfl) (hpl : (backTo pos (starEach es X.env)).any (·.1) = false := by rfl) : ED X (.Call (.Name n p) (a :: es) [] pos) ρ ρ1 (.ins C gs) :=
  pe_imp (pe_make M F hr hg hm hb .nil hx ha hdb he hpl) fun σ H Q ⟨e, S, R0, q⟩ => ⟨e, S, R0, fun vs S1 H1 R1 q1 d1 => by
    simp only [List.append_nil]
    exact make_some R1 d1 h fun v S2 H2 R2 q2 dv => q v S2 H2 R2 (q1.trans q2) dv⟩
theorem n_make (M : Mk X.K C f) (F : FnOk X.prog X.w X.K X.mg X.base (L2.CX X.prog X.w) k f fd ps (spI X.K c C RI)) (tk : Takes X (fun cls d _ H => E cls d H)) (hr : Room (k + 1) X.A) (hg : Gl X n) (hm : X.mg n = some (.ref C)) (hb : Binds X.K fd ps []) (ha : AD X (a :: es) ρ ρ1 ds) (h : RI ds none)
    (hdb : (n == ("__debug__" : Str)) = false := by decide) (he : starEach (a :: es) X.env = (false, eval a X.env) :: starEach es X.env := by rfl) (hpl : (backTo pos (starEach es X.env)).any (·.1) = false := by rfl) : XN X (fun cls d _ H => E cls d H) c (.Call (.Name n p) (a :: es) [] pos) ρ ρ1 :=
  pe_imp (pe_make M F hr hg hm hb .nil (passW tk) ha hdb he hpl) fun σ H Q ⟨e, S, R0, q⟩ => ⟨e, S, R0, fun vs S1 H1 R1 q1 d1 => by
    simp only [List.append_nil]
    exact make_none R1 d1 h fun S2 H2 R2 q2 => q S2 H2 R2 (q1.trans q2)⟩
/-- cls(..), cls a name of the def -/
theorem d_makeL (S : Sco X N sc tp) (i : Nat) (M : Mk X.K C f) (F : FnOk X.prog X.w X.K X.mg X.base CX k f fd ps (spI X.K c C RI)) (hx : Passes CX X E) (hr : Room (k + 1) X.A) (hi : ρ[i]? = some (.d (.cls C))) (hb : Binds X.K fd ps []) (ha : AD X (a :: es) ρ ρ1 ds) (h : RI ds (some gs)) (hN : N[i]? = some n := by rfl)
    (hv : Vis sc n := by first | exact Or.inl rfl | exact Or.inr (Or.inl rfl) | exact Or.inr (Or.inr rfl)) (hd : (n == ("__debug__" : Str)) = false := by decide) (hcd : (n == ("__classdict__" : Str)) = false := by decide)
    (he : starEach (a :: es) X.env = (false, eval a X.env) :: starEach es X.env := by rfl) (hpl : (backTo pos (starEach es X.env)).any (·.1) = false := by rfl) : ED X (.Call (.Name n p) (a :: es) [] pos) ρ ρ1 (.ins C gs) := by
  refine ⟨fun pins s σ H Q I ⟨e, Sh, R0, q⟩ => ?_⟩
  refine wpAny_Call_Name_kw (thn ((d_nm S i hi hN hv hd hcd).run pins s σ H (fun v H' => ∃ S', Rp X.K e S' H' σ ρ ∧ Same Sh S' ∧ v = .ref C) I ⟨e, Sh, R0, fun v S1 H1 R1 q1 d1 => by
    cases d1
    exact ⟨S1, R1, q1, rfl⟩⟩) fun u s1 ⟨v, H1, I1, rv, S1, R1, q1, ev⟩ => ?_)
  subst ev
  obtain rfl : u = Value.ref C := rv
  refine PySem.W.callWith_K (h₀ := X.base) I.ok.mod.kin M.kp (thn (ha.run pos pins s1 σ H1 _ I1 ⟨e, S1, R1, fun vs S2 H2 R2 q2 d2 => (⟨S2, R2, q1.trans q2, d2⟩ : ∃ S2, Rp X.K e S2 H2 σ ρ1 ∧ Same Sh S2 ∧ Dvs X.K S2 vs ds)⟩) fun us s2 ⟨vs, H2, I2, r, S2, R2, q2, d2⟩ => ⟨I2.kIn, ?_⟩) he hpl
  refine run_make M F hr hb .nil hx I2 r ?_
  rw [List.append_nil]
  exact make_some R2 d2 h fun v S3 H3 R3 q3 dv => q v S3 H3 R3 (q2.trans q3) dv
/-! ### methods -/
theorem spD_of {vs : List V} {H : Hp} {Q : VK} {e : En} {S : Hp} {σ : L2.St} (R1 : Rp X.K e S H σ ρ) (hv : Dvs X.K S vs ds) (h : RD ds d) (q : ∀ v S' H', Rp X.K e S' H' σ ρ → Same S S' → Dv X.K S' v d → Q v H') : spD X.K RD vs H Q E :=
  ⟨S, ds, d, R1.sub, hv, h, fun v S2 H2 r dv => q v S2 H2 (R1.called r) r.ss dv⟩
theorem d_meth {pl : Sem Bool} (hC : Cls X.K C) (hM : Meth X.K C m f) (F : FnOk X.prog X.w X.K X.mg X.base CX k f fd ps (spD X.K RD)) (hx : Passes CX X E) (hr : Room k X.A) (hb : Binds X.K fd ps []) (hn : gs.lookup m = none) (ho : ED X e0 ρ ρ1 (.ins C gs)) (ha : AD X (a :: es) ρ1 ρ2 ds) (h : RD (.ins C gs :: ds) d)
    (hst : starEach (a :: es) X.env = (false, eval a X.env) :: starEach es X.env := by rfl) (hpl : (backTo pos (starEach es X.env)).any (·.1) = false := by rfl)
    (ht : eval (.Call (.Attribute e0 m apos) (a :: es) [] pos) X.env = (do
      let ov ← eval e0 X.env
      standAt apos.atName
      let (f, first) ← holding [ov] (getMethod ov m pl)
      callWith pos f first (backTo pos (starEach (a :: es) X.env)) (backToKw pos (keywordEach [] X.env))) := by rfl) : ED X (.Call (.Attribute e0 m apos) (a :: es) [] pos) ρ ρ2 d :=
  pe_imp (pe_meth ho hC hM F hr hb .nil hx ha hst hpl ht) fun σ H Q ⟨e, S, R0, q⟩ => ⟨e, S, R0, fun v S1 H1 R1 q1 d1 => by
    cases d1 with
    | @ins a0 _ dx fs _ hh t =>
      refine ⟨a0, dx, fs, rfl, R1.sub _ _ hh, t.lookNone hn, e, S1, R1, fun vs S2 H2 R2 q2 d2 => ?_⟩
      show spD X.K RD (.ref a0 :: (vs ++ [])) H2 Q E
      rw [List.append_nil]
      exact spD_of R2 (.cons (.ins (q2 _ _ hh) (t.mono q2)) d2) h fun v S3 H3 R3 q3 dv => q v S3 H3 R3 ((q1.trans q2).trans q3) dv⟩
theorem d_meth0 {pl : Sem Bool} (hC : Cls X.K C) (hM : Meth X.K C m f) (F : FnOk X.prog X.w X.K X.mg X.base CX k f fd ps (spD X.K RD)) (hx : Passes CX X E) (hr : Room k X.A) (hb : Binds X.K fd ps []) (hn : gs.lookup m = none) (ho : ED X e0 ρ ρ1 (.ins C gs)) (h : RD [.ins C gs] d)
    (ht : eval (.Call (.Attribute e0 m apos) [] [] pos) X.env = (do
      let ov ← eval e0 X.env
      standAt apos.atName
      let (f, first) ← holding [ov] (getMethod ov m pl)
      callWith pos f first (backTo pos (starEach [] X.env)) (backToKw pos (keywordEach [] X.env))) := by rfl) : ED X (.Call (.Attribute e0 m apos) [] [] pos) ρ ρ1 d :=
  pe_imp (pe_meth0 ho hC hM F hr hb .nil hx ht) fun σ H Q ⟨e, S, R0, q⟩ => ⟨e, S, R0, fun v S1 H1 R1 q1 d1 => by
    cases d1 with
    | @ins a0 _ dx fs _ hh t =>
      refine ⟨a0, dx, fs, rfl, R1.sub _ _ hh, t.lookNone hn, ?_⟩
      exact spD_of (E := E) R1 (.cons (.ins hh t) .nil) h fun v S3 H3 R3 q3 dv => q v S3 H3 R3 (q1.trans q3) dv⟩
/-- C.m(..), m a classmethod -/
theorem d_cmeth {mc : Value} {pm : Addr} {pl : Sem Bool} (rC : ClX.CRead X.K C mc) (cM : ClX.CMet X.K C mc m pm f) (F : FnOk X.prog X.w X.K X.mg X.base CX k f fd ps (spD X.K RD)) (hx : Passes CX X E) (hr : Room k X.A) (hb : Binds X.K fd ps []) (hg : Gl X n) (hm : X.mg n = some (.ref C)) (ha : AD X (a :: es) ρ ρ1 ds) (h : RD (.cls C :: ds) d)
    (hdb : (n == ("__debug__" : Str)) = false := by decide) (hst : starEach (a :: es) X.env = (false, eval a X.env) :: starEach es X.env := by rfl) (hpl : (backTo pos (starEach es X.env)).any (·.1) = false := by rfl)
    (ht : eval (.Call (.Attribute (.Name n p) m apos) (a :: es) [] pos) X.env = (do
      let ov ← eval (.Name n p) X.env
      standAt apos.atName
      let (f, first) ← holding [ov] (getMethod ov m pl)
      callWith pos f first (backTo pos (starEach (a :: es) X.env)) (backToKw pos (keywordEach [] X.env))) := by rfl) : ED X (.Call (.Attribute (.Name n p) m apos) (a :: es) [] pos) ρ ρ1 d :=
  pe_imp (ClX.pe_cmeth (pe_glob (v := .ref C) hg hm rfl hdb) rC cM (fnR_of F hb) hr hx ha hst hpl ht) fun σ H Q ⟨e, S, R0, q⟩ => ⟨rfl, e, S, R0, fun vs S2 H2 R2 q2 d2 => spD_of R2 (.cons (.cls C) d2) h fun v S3 H3 R3 q3 dv => q v S3 H3 R3 (q2.trans q3) dv⟩
/-! ### operators of one's own -/
def rOwn2 (C : Addr) (sp : Sp) (E : XK) (ok : V → Prop) : R2 := fun x y H Q => ∃ a b dx dy fs gs, x = .ref a ∧ y = .ref b ∧ H a = some (.ins C dx fs) ∧ H b = some (.ins C dy gs) ∧ sp [.ref a, .ref b] H (fun v H' => ok v ∧ Q v H') E
theorem op_own {op : Operator} {sp : Sp} (F : FnOk X.prog X.w X.K X.mg X.base CX k f fd ps sp) (hx : Passes CX X E) (hr : Room k X.A) (hb : Binds X.K fd ps []) (hs : PySem.W.findIn X.K (.ref C) (PySem.dunder op.info.2) = some (some (.ref f))) (hf : PySem.W.isFn X.K (.ref f) = true) (hc : PySem.W.selfFirst X.K C = true) :
    OpR X (binaryOp op) (rOwn2 C sp E fun v => ∃ c, v = .ref c) := by
  intro pins s σ H x y v u Q I rx ry d
  obtain ⟨a, b, dx, dy, fs, gs, rfl, rfl, ha, hb', hq⟩ := d
  cases rx
  cases ry
  obtain ⟨mA, J, _⟩ := ins_get I.hok ha
  obtain ⟨mB, J', _⟩ := ins_get I.hok hb'
  obtain ⟨od, J, _⟩ := J.look
  obtain ⟨od', J', _⟩ := J'.look
  obtain ⟨m, hF⟩ := I.fr
  refine PySem.W.binop_K (op := op) hF I.ok.mod.kin J J'.type hc hs hf ?_
  refine thn (run_fn (us := [.ref a, .ref b]) (vs := [.ref a, .ref b]) (dvs := []) (ds := []) F hr hb .nil hx I (.cons rfl (.cons rfl .nil)) hq) fun w s' ⟨v, H', I', rv, ⟨c, ec⟩, q⟩ => ?_
  subst ec
  obtain rfl : w = Value.ref c := rv
  exact ⟨.ref c, H', I', rfl, q⟩
theorem op_ownEq {sp : Sp} (F : FnOk X.prog X.w X.K X.mg X.base CX k f fd ps sp) (hx : Passes CX X E) (hr : Room k X.A) (hb : Binds X.K fd ps []) (hs : PySem.W.findIn X.K (.ref C) "__eq__" = some (some (.ref f))) (hf : PySem.W.isFn X.K (.ref f) = true) :
    OpR X (compareOp .Eq) (rOwn2 C sp E fun v => ∃ t, v = .bl t) := by
  intro pins s σ H x y v u Q I rx ry d
  obtain ⟨a, b, dx, dy, fs, gs, rfl, rfl, ha, hb', hq⟩ := d
  cases rx
  cases ry
  obtain ⟨mA, J, _⟩ := ins_get I.hok ha
  obtain ⟨mB, J', _⟩ := ins_get I.hok hb'
  obtain ⟨od, J, _⟩ := J.look
  obtain ⟨od', J', _⟩ := J'.look
  obtain ⟨m, hF⟩ := I.fr
  show wpAny (model X.prog X.w) X.A (richCompare .Eq (.ref a) (.ref b)) (EP X pins σ Q) X.xe s
  refine PySem.W.cmp_K (op := .Eq) (tb := .ref C) hr.units0 hF I.ok.mod.kin J J'.type (by simp [PySem.W.notFirst]) hs hf ?_
  refine thn (run_fn (us := [.ref a, .ref b]) (vs := [.ref a, .ref b]) (dvs := []) (ds := []) F hr hb .nil hx I (.cons rfl (.cons rfl .nil)) hq) fun w s' ⟨v, H', I', rv, ⟨t, ec⟩, q⟩ => ?_
  subst ec
  obtain rfl : w = Value.bool t := rv
  exact ⟨.bl t, H', I', rfl, q⟩
theorem un_own {sp : Sp} (F : FnOk X.prog X.w X.K X.mg X.base CX k f fd ps sp) (hx : Passes CX X E) (hr : Room k X.A) (hb : Binds X.K fd ps []) (hs : PySem.W.findIn X.K (.ref C) "__invert__" = some (some (.ref f))) (hf : PySem.W.isFn X.K (.ref f) = true) :
    UnR X (unaryOp .Invert) (fun x H Q => ∃ a dx fs, x = .ref a ∧ H a = some (.ins C dx fs) ∧ sp [.ref a] H Q E) := by
  intro pins s σ H x v Q I rx d
  obtain ⟨a, dx, fs, rfl, ha, hq⟩ := d
  cases rx
  obtain ⟨mA, J, _⟩ := ins_get I.hok ha
  obtain ⟨od, J, _⟩ := J.look
  obtain ⟨m, hF⟩ := I.fr
  exact PySem.W.ksp_inv hF I.ok.mod.kin J hs hf (run_fn (us := [.ref a]) (vs := [.ref a]) (dvs := []) (ds := []) F hr hb .nil hx I (.cons rfl .nil) hq)
theorem d_opOwn {op : Operator} (F : FnOk X.prog X.w X.K X.mg X.base CX k f fd ps (spD X.K RD)) (hx : Passes CX X E) (hr : Room k X.A) (hb : Binds X.K fd ps []) (hs : PySem.W.findIn X.K (.ref C) (PySem.dunder op.info.2) = some (some (.ref f))) (hf : PySem.W.isFn X.K (.ref f) = true) (hc : PySem.W.selfFirst X.K C = true) {C' : Addr} {gs' : List (Str × Da)}
    (ha : ED X a ρ ρ1 (.ins C gs)) (hb2 : ED X b ρ1 ρ2 (.ins C gs2)) (h : RD [.ins C gs, .ins C gs2] (.ins C' gs')) : ED X (.BinOp a op b pos) ρ ρ2 (.ins C' gs') :=
  d_op (op_own F hx hr hb hs hf hc) (fun e S H σ v w Q R0 d1 d2 k => by
    cases d1 with
    | @ins a0 _ dx fs _ hh t =>
      cases d2 with
      | @ins b0 _ dy gs3 _ hh2 t2 =>
        refine ⟨a0, b0, dx, dy, fs, gs3, rfl, rfl, R0.sub _ _ hh, R0.sub _ _ hh2, ?_⟩
        refine spD_of R0 (.cons (.ins hh t) (.cons (.ins hh2 t2) .nil)) h fun v S' H' R' q' dv => ?_
        have hv : ∃ c, v = .ref c := by cases dv; exact ⟨_, rfl⟩
        exact ⟨hv, k v S' H' R' q' dv⟩) ha hb2
theorem d_eqOwn {t : Bool} (F : FnOk X.prog X.w X.K X.mg X.base CX k f fd ps (spD X.K RD)) (hx : Passes CX X E) (hr : Room k X.A) (hb : Binds X.K fd ps []) (hs : PySem.W.findIn X.K (.ref C) "__eq__" = some (some (.ref f))) (hf : PySem.W.isFn X.K (.ref f) = true)
    (ha : ED X a ρ ρ1 (.ins C gs)) (hb2 : ED X b ρ1 ρ2 (.ins C gs2)) (h : RD [.ins C gs, .ins C gs2] (.bl t)) : ED X (.Compare a [.Eq] [b] pos) ρ ρ2 (.bl t) :=
  d_cmp (op_ownEq F hx hr hb hs hf) (nomark _) (fun e S H σ v w Q R0 d1 d2 k => by
    cases d1 with
    | @ins a0 _ dx fs _ hh t =>
      cases d2 with
      | @ins b0 _ dy gs3 _ hh2 t2 =>
        refine ⟨a0, b0, dx, dy, fs, gs3, rfl, rfl, R0.sub _ _ hh, R0.sub _ _ hh2, ?_⟩
        refine spD_of R0 (.cons (.ins hh t) (.cons (.ins hh2 t2) .nil)) h fun v S' H' R' q' dv => ?_
        have hv : ∃ c, v = .bl c := by cases dv; exact ⟨_, rfl⟩
        exact ⟨hv, k v S' H' R' q' dv⟩) ha hb2
theorem d_inv {C' : Addr} {gs' : List (Str × Da)} (F : FnOk X.prog X.w X.K X.mg X.base CX k f fd ps (spD X.K RD)) (hx : Passes CX X E) (hr : Room k X.A) (hb : Binds X.K fd ps []) (hs : PySem.W.findIn X.K (.ref C) "__invert__" = some (some (.ref f))) (hf : PySem.W.isFn X.K (.ref f) = true)
    (ha : ED X a ρ ρ1 (.ins C gs)) (h : RD [.ins C gs] (.ins C' gs')) : ED X (.UnaryOp .Invert a pos) ρ ρ1 (.ins C' gs') :=
  d_un (un_own F hx hr hb hs hf) (fun e S H σ v Q R0 d1 k => by
    cases d1 with
    | @ins a0 _ dx fs _ hh t => exact ⟨a0, dx, fs, rfl, R0.sub _ _ hh, spD_of R0 (.cons (.ins hh t) .nil) h fun v S' H' R' q' dv => k v S' H' R' q' dv⟩) ha
end
end Wv
end
section
set_option Elab.async false
set_option linter.all false
set_option maxRecDepth 100000
set_option maxHeartbeats 1000000
namespace L2
open PySem PySem.Spec PyProof.Rows
/-- the first clause, by its name, is the one -/
def wAs1 (K : PySem.W.Frag) (c : Value) (i : Nat) (ts : Addr → Value → Option Addr → TS) (D : Ends) : WX := fun cls d σ H => PySem.W.exmOne K cls c = some true ∧
  ∀ a, H a = none → ts a cls d { nx := fun σ' H' => D.nx (σ'.set i none) H', rt := D.rt, bk := fun σ' H' => D.bk (σ'.set i none) H', ct := fun σ' H' => D.ct (σ'.set i none) H' } (σ.set i (some (.ref a))) H
section
variable {X : Cx} {x n : Str} {c : Value} {i : Nat} {body suite : List Stmt} {b₀ : Stmt} {np pos pos' : Pos} {tb : WX → TS} {ts : Addr → Value → Option Addr → TS} {hds : List ExceptHandler}
theorem ps_try_as1 (hs : X.stack = X.env :: X.outer) (hf : X.env.frame = some X.env.locals) (hN : X.N.Nodup) (hi : X.N[i]? = some n) (hln : X.env.kindOf n = some .local) (hc : Names X x c)
    (hb : ∀ (W : WX) (pn : List (Addr × Obj)) (xe : Value → Shared → Prop), Takes (X.tr pn xe) W → PassesOwn (model X.prog X.w) X.A X.env xe → PSs (X.tr pn xe) body (tb W))
    (hsu : ∀ (a : Addr) (oe : Obj) (cls : Value) (d : Option Addr) (pn : List (Addr × Obj)), Zc cls d oe → (∃ vs, oe.data = .fields vs) → PSs (X.suite a ((a, oe) :: pn)) (b₀ :: suite) (ts a cls d)) :
    PS X (.Try body (.ExceptHandler (some (.Name x np)) (some n) (b₀ :: suite) pos' :: hds) [] [] pos) (fun D σ H => tb (wAs1 X.K c i ts D) D σ H) := by
  refine ⟨fun pins s σ H D I h => ?_⟩
  have okq := I.ok
  have hfq : X.A.frames = some (X.env :: X.outer) := by rw [okq.frames, hs]
  have hlq : Loc X.env.scope n := .inl hln
  refine wpAny_Try_except ?_
  refine wpAny_mono ((hb (wAs1 X.K c i ts D) (X.pn ++ pins) (fun e s₁ => wpAny (model X.prog X.w) X.A (noteFrame e X.env) (fun _ s₂ => wpAny (model X.prog X.w) X.A (setFlight e none) (fun _ s₃ =>
    wpAny (model X.prog X.w) X.A (handleBy e X.env (.ExceptHandler (some (.Name x np)) (some n) (b₀ :: suite) pos' :: hds)) (SP X pins D) X.xe s₃) X.xe s₂) X.xe s₁) (fun u s' xx => ?_) PassesOwn.looking).run [] s σ H D (I.toTry _) h) (fun f s1 hsq => ?_) (fun e s1 he => he)
  · -- the catch
    obtain ⟨a, B, sI, pins', σ', H', cls, d, rfl, Jq, nb, up, sky, na, os, ag, hbx, hyq⟩ := xx
    have J : Inv X pins σ' H' sI := Jq.ofTry okq
    have skq : Sky B (X.env :: X.outer) a (Zc cls d) X.env.locals s'.heap := by rw [← hs]; exact sky
    show wpAny (model X.prog X.w) X.A (noteFrame (.ref a) X.env) _ _ _
    refine Sky.land Zc.steady hfq hf skq fun h3 f3q u3q => ?_
    have J3q : Inv X pins σ' H' { s' with heap := h3 } := J.landed nb f3q.1 (up.trans u3q) os ag
    obtain ⟨o3q, v3q, h3q, z3q, d3q⟩ := f3q.there
    have nofr : ∀ {h : Heap} {o : Obj} {vs : Array Value}, h.FunFrames B (X.env :: X.outer) → h.get? a = some o → o.data = .fields vs → a ∉ frs (X.env :: X.outer) := fun {h o vs} ff e dd hmq => by
      obtain ⟨_, o', e', hnf⟩ := ff.mem hmq
      rw [e] at e'; cases e'
      exact hnf _ dd
    have nfq := nofr f3q.2.2.1 h3q d3q
    have nLq : a ≠ X.env.locals := fun z => nfq (List.mem_filterMap.mpr ⟨X.env, List.mem_cons_self, by rw [hf, z]⟩)
    have nFq : a ∉ X.fs := fun hmq => by
      obtain ⟨e, he, q⟩ := List.mem_filterMap.mp hmq
      exact nfq (List.mem_filterMap.mpr ⟨e, List.mem_cons_of_mem _ he, q⟩)
    have S3q := J3q.suite h3q d3q na nLq nFq
    refine wpAny_handleBy_cons (codeAny_handlers_test ?_) (by intro q; cases q)
    have LTq : PySem.W.Looks (model X.prog X.w) h3 (typeOf (.ref a)) cls := fun A Q E s k q => wpAny_typeOf_ref (k _ _ h3q) (by rw [z3q.1]; exact q)
    have LMq := PySem.W.exm_one (M := model X.prog X.w) (J3q.kIn) LTq hbx
    have tstq : ∀ {Q : Value → Shared → Prop} {E : Value → Shared → Prop}, Q c { s' with heap := h3 } → wpAny (model X.prog X.w) (X.A.mark (some (.ref a))) (eval (.Name x np) X.env) Q E { s' with heap := h3 } := fun {Q E} q => by
      obtain ⟨hgq, hdq, hmq | ⟨hmq, hvq, hnq⟩⟩ := hc
      · exact ld_glob (X := X.suite a ((a, o3q) :: (X.pn ++ pins))) S3q hgq hmq q hdq
      · exact ld_blt (X := X.suite a ((a, o3q) :: (X.pn ++ pins))) S3q hgq hmq hvq q hnq hdq
    refine tstq (LMq.here ?_)
    refine codeAny_handlers_suite_as ?_
    refine HandSPX.lands_againZ f3q fun h4 f4q u4q => ?_
    have J4q : Inv X pins σ' H' { s' with heap := h4 } := J.landed nb f4q.1 ((up.trans u3q).trans u4q) os ag
    obtain ⟨o4q, vs4, h4q, z4q, d4q⟩ := f4q.there
    have S4q := J4q.suite h4q d4q na nLq nFq
    refine store_ok (X := X.suite a ((a, o4q) :: (X.pn ++ pins))) (v := .ref a) S4q hN hi hlq rfl (fun s5 S5q => ?_) (.inr hln)
    refine wpAny_mono ((hsu a o4q cls d (X.pn ++ pins) z4q ⟨_, d4q⟩).run [] s5 _ H' _ S5q (hyq a na)) (fun f sx hsq => ?_) (fun _ _ z => False.elim z)
    have endq : ∀ {σx : St} {Hx : Hp} {Q : Shared → Prop}, Inv (X.suite a ((a, o4q) :: (X.pn ++ pins))) [] σx Hx sx → (∀ sy, Inv X pins (σx.set i none) Hx sy → Q sy) →
        wpAny (model X.prog X.w) X.A (do bindName X.env n .none; unbindBehindTheSuite X.env n pos') (fun _ sy => Q sy) X.xe sx := fun {σx Hx Q} S6q hq => gone_ok (S6q.unsuite okq) hN hi hln hq
    cases f with
    | next =>
      obtain ⟨σx, Hx, S6q, q6x⟩ := hsq
      exact endq S6q fun sy Jy => ⟨_, _, Jy, q6x⟩
    | brk =>
      obtain ⟨σx, Hx, S6q, q6x⟩ := hsq
      exact endq S6q fun sy Jy => ⟨_, _, Jy, q6x⟩
    | cont =>
      obtain ⟨σx, Hx, S6q, q6x⟩ := hsq
      exact endq S6q fun sy Jy => ⟨_, _, Jy, q6x⟩
    | ret u =>
      obtain ⟨v6, σx, Hx, S6q, rx, q6x⟩ := hsq
      exact endq S6q fun sy Jy => ⟨_, _, _, Jy, rx, q6x⟩
  · cases f with
    | next =>
      obtain ⟨σ', H', Jq, q⟩ := hsq
      exact wpAny_execs_nil ⟨σ', H', Jq.ofTry okq, q⟩
    | brk =>
      obtain ⟨σ', H', Jq, q⟩ := hsq
      exact ⟨σ', H', Jq.ofTry okq, q⟩
    | cont =>
      obtain ⟨σ', H', Jq, q⟩ := hsq
      exact ⟨σ', H', Jq.ofTry okq, q⟩
    | ret u =>
      obtain ⟨v, σ', H', Jq, r, q⟩ := hsq
      exact ⟨v, σ', H', Jq.ofTry okq, r, q⟩
end
end L2
namespace Wv
open PySem PySem.Spec PyProof.Rows L2
/-- isinstance(e, a tuple of classes), e the exception that the suite holds -/
def rIsET (K : PySem.W.Frag) (D a : Addr) : List V → Hp → VK → Prop := fun xs H Q => ∃ (tp : Addr) (cs : List V) (us : List Value) (b : Bool), xs = [.ref a, .ref tp] ∧ H tp = some (.tup cs) ∧ Paired ClsV cs us ∧ PySem.W.kitAny K (.ref D) us = some b ∧ Q (.bl b) H
theorem call_isET {X : Cx} {a D : Addr} {oe : Obj} {pn : List (Addr × Obj)} (C : ExcC X.K D) (hz : Zc (.ref D) none oe) (hf : ∃ vs, oe.data = .fields vs) : CallR (X.suite a ((a, oe) :: pn)) (.builtin "isinstance") (rIsET X.K D a) := by
  intro pins s σ H xs us Q I r h
  obtain ⟨tp, cs, ws, b, rfl, hT, k, e, q⟩ := h
  obtain ⟨u1, u2, rfl, r1, r2⟩ := vals2 r
  cases (show u1 = Value.ref a from r1)
  cases (show u2 = Value.ref tp from r2)
  obtain ⟨hget, _⟩ := I.pin (a, oe) (List.mem_append.mpr (.inl List.mem_cons_self))
  obtain ⟨vs, hv⟩ := hf
  have J : PySem.W.InstAt s.heap a oe D none := by
    obtain ⟨oc, od, oda, osl⟩ := oe
    obtain ⟨h1, h2⟩ := hz
    dsimp only at h1 h2 hv
    subst h1 h2 hv
    exact ⟨hget, rfl, rfl, trivial⟩
  obtain ⟨_, its, rv, o, h1, h2, n, h3⟩ := (show ObjOk X.prog X.w H s.heap tp (.tup cs) from I.hok tp _ hT)
  have e3 := ClsV.all k rv
  subst e3
  obtain ⟨oc, od, dt, sl⟩ := o
  simp only at h2 h3
  subst h2 h3
  exact PySem.W.kia_tup (PySem.W.handS_kitx_exc C.hg C.hk C.hs C.hd C.ha C.hn C.ht C.hm) I.kIn J h1 e (fun z => nomatch z) fun tk => ⟨.bl b, H, I.kept (t' := tk) fun _ _ z => z, rfl, q⟩
section
variable {X : Cx} {N : List Str} {sc : Scope} {tp : Bool} {ρ ρ1 ρ2 ρ3 : List SV} {p p0 p2 p3 pos pos' np : Pos} {x n : Str} {ds : List Da} {rest body suite : List Stmt} {b₀ : Stmt} {D : De} {C : Addr} {hds : List ExceptHandler}
/-- the suite returns a value that is plain; it may make a tuple of classes -/
def tSuR (a : Addr) (i : Nat) (v : V) (cs : List V) : TS := fun Dn σ H => σ[i]? = some (some (.ref a)) ∧ ∀ q, H q = none → Dn.rt v (upd H q (.tup cs))
/-- try: body, the first clause names the class of whatever the body lets out, and returns -/
theorem q_tryX (S : Sco X N sc tp) (i : Nat) (hs : X.stack = X.env :: X.outer) (hf : X.env.frame = some X.env.locals) {v : V} {d : Da} {cs : List V} (hd : ∀ S, Dv X.K S v d) (hln : X.env.kindOf n = some .local) (hc : Names X x (.ref C)) (hm : PySem.W.exmOne X.K (.ref C) (.ref C) = some true)
    (hsu : ∀ (a : Addr) (oe : Obj) (pn : List (Addr × Obj)), Zc (.ref C) none oe → (∃ vs, oe.data = .fields vs) → PSs (X.suite a ((a, oe) :: pn)) (b₀ :: suite) (tSuR a i v cs))
    (hb : ∀ (W : WX) (pn : List (Addr × Obj)) (xe : Value → Shared → Prop), Takes (X.tr pn xe) W → Sco (X.tr pn xe) N sc tp → SD (X.tr pn xe) body ρ { nx := fun ρ2 => SD X rest ρ2 D, rt := D.rt, ex := fun ρ2 c' => c' = .ref C ∧ i < ρ2.length ∧ D.rt d ρ2, W := W })
    (hN : N[i]? = some n := by rfl) : SD X (.Try body (.ExceptHandler (some (.Name x np)) (some n) (b₀ :: suite) pos' :: hds) [] [] pos :: rest) ρ D :=
  sd_cons (ps_imp (ps_try_as1 (i := i) (tb := fun W => tS X.K ρ { nx := fun ρ2 => SD X rest ρ2 D, rt := D.rt, ex := fun ρ2 c' => c' = .ref C ∧ i < ρ2.length ∧ D.rt d ρ2, W := W })
      (ts := fun a cls dd Dn σ H => cls = .ref C ∧ dd = none ∧ tSuR a i v cs Dn σ H) hs hf S.ndX (by rw [S.n]; exact hN) hln hc
      (fun W pn xe tk po => hb W pn xe tk ⟨S.n, S.s, S.nd, S.calm, S.kind, po, S.fn⟩)
      (fun a oe cls dd pn hz hv => ⟨fun pins s σ H Dn I h => by
        obtain ⟨rfl, rfl, h⟩ := h
        exact (hsu a oe pn hz hv).run pins s σ H Dn I h⟩)) fun Dn σ H ⟨e, Sh, R, G⟩ => ⟨e, Sh, R, ⟨G.nx, G.rt, fun _ _ _ _ h => h.elim, fun _ _ _ _ h => h.elim, G.p0, fun ρ2 c' σ2 S2 H2 h R2 => by
    obtain ⟨rfl, hlt, hrt⟩ := h
    refine ⟨hm, fun a ha => ⟨rfl, rfl, ?_, fun q hq => ?_⟩⟩
    · exact List.getElem?_set_self (by rw [R2.len]; exact hlt)
    · exact G.rt d ρ2 v σ2 _ _ hrt (R2.alloc hq) (hd _)⟩⟩)
end
end Wv
end
section
set_option Elab.async false
set_option linter.all false
set_option maxRecDepth 100000
namespace Wv
open PySem PySem.Spec PyProof.Rows L2
theorem Sco.gl {X : Cx} {N : List Str} {sc : Scope} {tp : Bool} {x : Str} (S : Sco X N sc tp) (h : sc.names.lookup x = some .globalImplicit) : Gl X x := by
  unfold Gl Env.kindOf
  rw [S.s]
  exact h
/-- a def that stands in the written part -/
structure Def (K : PySem.W.Frag) (mg : Str → Option Value) (n qual : Str) (st : Stmt) (ps : List Str) : Prop where
  ex : ∃ f fd, Fun K n qual st f fd ∧ mg n = some (.ref f) ∧ PySem.W.keepIn K (.ref f) = true ∧ Binds K fd ps []
/-- a def that keeps its promise -/
def Fnc (P : Program) (w : World) (K : PySem.W.Frag) (mg : Str → Option Value) (base : Heap) (CX : CXT) (k : Nat) (n : Str) (ps : List Str) (sp : Sp) : Prop :=
  ∃ f fd, FnOk P w K mg base CX k f fd ps sp ∧ mg n = some (.ref f) ∧ PySem.W.keepIn K (.ref f) = true ∧ Binds K fd ps []
def FncG (P : Program) (w : World) (K : PySem.W.Frag) (mg : Str → Option Value) (base : Heap) (k : Nat) (n : Str) (ps : List Str) (sp : Sp) : Prop :=
  ∃ f fd, FnG P w K mg base CX0 k f fd ps sp ∧ mg n = some (.ref f) ∧ PySem.W.keepIn K (.ref f) = true ∧ Binds K fd ps []
section
variable {P : Program} {w : World} {K : PySem.W.Frag} {mg : Str → Option Value} {base : Heap} {n qual : Str} {st : Stmt} {ps N : List Str} {k : Nat} {R : List Da → Da → Prop} {M : List Da → List Da → Da → List Da → Prop} {RX : List Da → Option Da → Prop} {c : Value}
theorem fnc_d (D : Def K mg n qual st ps) (S : FnScope N ps (defScope st)) (hR : ∀ ds d, R ds d → ds.length = ps.length)
    (body : ∀ X : Cx, Top P w K mg base X → Sco X N (defScope st) true → Room k X.A → ∀ ds d, R ds d → SD X (defBody st) (startD N.length ds) (DeR d)) : Fnc P w K mg base CX0 (k + 1) n ps (spD K R) := by
  obtain ⟨f, fd, F, h1, h2, h3⟩ := D.ex
  exact ⟨f, fd, fn_d F S hR body, h1, h2, h3⟩
theorem fnc_g (D : Def K mg n qual st ps) (S : FnScope N ps (defScope st)) (hR : ∀ ds d, R ds d → ds.length = ps.length)
    (body : ∀ X : Cx, Top P w K mg base X → Sco X N (defScope st) true → Room k X.A → X.A.guards = some [] → ∀ ds d, R ds d → SD X (defBody st) (startD N.length ds) (DeR d)) : FncG P w K mg base (k + 1) n ps (spD K R) := by
  obtain ⟨f, fd, F, h1, h2, h3⟩ := D.ex
  exact ⟨f, fd, fn_g F S hR body, h1, h2, h3⟩
theorem fnc_m (D : Def K mg n qual st ps) (S : FnScope N ps (defScope st)) (hR : ∀ ms ds d ms', M ms ds d ms' → ds.length + 1 = ps.length)
    (body : ∀ X : Cx, Top P w K mg base X → Sco X N (defScope st) true → Room k X.A → ∀ ms ds d ms', M ms ds d ms' → SD X (defBody st) (startM N.length ms ds) (DeM d ms')) : Fnc P w K mg base CX0 (k + 1) n ps (spM K M) := by
  obtain ⟨f, fd, F, h1, h2, h3⟩ := D.ex
  exact ⟨f, fd, fn_m F S hR body, h1, h2, h3⟩
theorem fnc_mg (D : Def K mg n qual st ps) (S : FnScope N ps (defScope st)) (hR : ∀ ms ds d ms', M ms ds d ms' → ds.length + 1 = ps.length)
    (body : ∀ X : Cx, Top P w K mg base X → Sco X N (defScope st) true → Room k X.A → X.A.guards = some [] → ∀ ms ds d ms', M ms ds d ms' → SD X (defBody st) (startM N.length ms ds) (DeM d ms')) : FncG P w K mg base (k + 1) n ps (spM K M) := by
  obtain ⟨f, fd, F, h1, h2, h3⟩ := D.ex
  exact ⟨f, fd, fn_mg F S hR body, h1, h2, h3⟩
theorem fnc_x (D : Def K mg n qual st ps) (S : FnScope N ps (defScope st)) (hR : ∀ ds o, RX ds o → ds.length = ps.length)
    (body : ∀ X : Cx, Top P w K mg base X → Sco X N (defScope st) true → Room k X.A → ∀ (E : XK), Takes X (fun cls d _ H => E cls d H) → ∀ ds o, RX ds o → SD X (defBody st) (startD N.length ds) (DeX c o (fun cls d _ H => E cls d H))) : Fnc P w K mg base (L2.CX P w) (k + 1) n ps (spX K c RX) := by
  obtain ⟨f, fd, F, h1, h2, h3⟩ := D.ex
  exact ⟨f, fd, fn_x F S hR body, h1, h2, h3⟩
/-- a def whose context may hold a try -/
theorem fnc_t (D : Def K mg n qual st ps) (S : FnScope N ps (defScope st)) (hR : ∀ ds d, R ds d → ds.length = ps.length)
    (body : ∀ X : Cx, Top P w K mg base X → Sco X N (defScope st) true → Room k X.A → X.stack = X.env :: X.outer → X.env.frame = some X.env.locals → ∀ ds d, R ds d → SD X (defBody st) (startD N.length ds) (DeR d)) : Fnc P w K mg base CX0 (k + 1) n ps (spD K R) := by
  obtain ⟨f, fd, F, h1, h2, h3⟩ := D.ex
  refine ⟨f, fd, F.ok S (fun vs H Q E h => ?_) (fun cdv A outer s H vs Q E hr h => ?_), h1, h2, h3⟩
  · obtain ⟨Sh, ds, d, _, hd, r, _⟩ := h
    rw [hd.length]
    exact hR ds d r
  · obtain ⟨Sh, ds, d, h1, hd, r, q⟩ := h
    refine ⟨_, body (cxOf CX0 P w K mg base N qual (defScope st) f cdv A outer s H E).nox ⟨rfl, rfl, rfl, rfl, rfl⟩ (sco_top S) hr rfl rfl ds d r, ?_⟩
    exact ⟨_, Sh, rp_start h1 hd, gd_ret q⟩
theorem Fnc.g {sp : Sp} (C : Fnc P w K mg base CX0 k n ps sp) : FncG P w K mg base k n ps sp := by
  obtain ⟨f, fd, F, r⟩ := C
  exact ⟨f, fd, toG F, r⟩
end
section
variable {X : Cx} {N : List Str} {sc : Scope} {tp : Bool} {k j : Nat} {ps : List Str} {E : XK} {n n0 : Str} {p p0 pos : Pos} {a : Expr} {es : List Expr} {ρ ρ1 : List SV} {ds ms ms' : List Da} {d : Da} {R : List Da → Da → Prop} {M : List Da → List Da → Da → List Da → Prop} {RX : List Da → Option Da → Prop} {c : Value} {W : WX}
theorem d_fn (C : Fnc X.prog X.w X.K X.mg X.base CX0 j n ps (spD X.K R)) (hr : Room k X.A) (ha : AD X (a :: es) ρ ρ1 ds) (h : R ds d) (hg : Gl X n) (hj : j ≤ k := by decide)
    (hdb : (n == ("__debug__" : Str)) = false := by decide) (he : starEach (a :: es) X.env = (false, eval a X.env) :: starEach es X.env := by rfl) (hpl : (backTo pos (starEach es X.env)).any (·.1) = false := by rfl) : ED X (.Call (.Name n p) (a :: es) [] pos) ρ ρ1 d := by
  obtain ⟨f, fd, F, h1, h2, h3⟩ := C
  exact d_call (E := E0) F pass0 (hr.mono hj) hg h1 h2 h3 ha h hdb he hpl
theorem d_fnG (C : FncG X.prog X.w X.K X.mg X.base j n ps (spD X.K R)) (hr : Room k X.A) (hgd : X.A.guards = some []) (ha : AD X (a :: es) ρ ρ1 ds) (h : R ds d) (hg : Gl X n) (hj : j ≤ k := by decide)
    (hdb : (n == ("__debug__" : Str)) = false := by decide) (he : starEach (a :: es) X.env = (false, eval a X.env) :: starEach es X.env := by rfl) (hpl : (backTo pos (starEach es X.env)).any (·.1) = false := by rfl) : ED X (.Call (.Name n p) (a :: es) [] pos) ρ ρ1 d := by
  obtain ⟨f, fd, F, h1, h2, h3⟩ := C
  exact d_callG F (hr.mono hj) hgd hg h1 h2 h3 ha h hdb he hpl
theorem d_fnX (C : Fnc X.prog X.w X.K X.mg X.base (L2.CX X.prog X.w) j n ps (spX X.K c RX)) (hr : Room k X.A) (ha : AD X (a :: es) ρ ρ1 ds) (h : RX ds (some d)) (hg : Gl X n) (hj : j ≤ k := by decide)
    (hdb : (n == ("__debug__" : Str)) = false := by decide) (he : starEach (a :: es) X.env = (false, eval a X.env) :: starEach es X.env := by rfl) (hpl : (backTo pos (starEach es X.env)).any (·.1) = false := by rfl) : ED X (.Call (.Name n p) (a :: es) [] pos) ρ ρ1 d := by
  obtain ⟨f, fd, F, h1, h2, h3⟩ := C
  exact d_callX (E := E0) F passL (hr.mono hj) hg h1 h2 h3 ha h hdb he hpl
theorem n_fnX (C : Fnc X.prog X.w X.K X.mg X.base (L2.CX X.prog X.w) j n ps (spX X.K c RX)) (tk : Takes X W) (hr : Room k X.A) (ha : AD X (a :: es) ρ ρ1 ds) (h : RX ds none) (hg : Gl X n) (hj : j ≤ k := by decide)
    (hdb : (n == ("__debug__" : Str)) = false := by decide) (he : starEach (a :: es) X.env = (false, eval a X.env) :: starEach es X.env := by rfl) (hpl : (backTo pos (starEach es X.env)).any (·.1) = false := by rfl) : XN X W c (.Call (.Name n p) (a :: es) [] pos) ρ ρ1 := by
  obtain ⟨f, fd, F, h1, h2, h3⟩ := C
  exact n_callX F tk (hr.mono hj) hg h1 h2 h3 ha h hdb he hpl
theorem d_fnM (S : Sco X N sc tp) (i : Nat) (C : Fnc X.prog X.w X.K X.mg X.base CX0 j n ps (spM X.K M)) (hr : Room k X.A) (hi : ρ[i]? = some (.own (.l ms))) (ha : AD X es ρ ρ1 ds) (hi1 : ρ1[i]? = some (.own (.l ms))) (h : M ms ds d ms') (hg : Gl X n) (hN : N[i]? = some n0 := by rfl)
    (hv : Vis sc n0 := by first | exact Or.inl rfl | exact Or.inr (Or.inl rfl) | exact Or.inr (Or.inr rfl)) (hj : j ≤ k := by decide)
    (hd0 : (n0 == ("__debug__" : Str)) = false := by decide) (hcd0 : (n0 == ("__classdict__" : Str)) = false := by decide) (hdb : (n == ("__debug__" : Str)) = false := by decide)
    (he : starEach (.Name n0 p0 :: es) X.env = (false, eval (.Name n0 p0) X.env) :: starEach es X.env := by rfl) (hpl : (backTo pos (starEach es X.env)).any (·.1) = false := by rfl) : ED X (.Call (.Name n p) (.Name n0 p0 :: es) [] pos) ρ (ρ1.set i (.own (.l ms'))) d := by
  obtain ⟨f, fd, F, h1, h2, h3⟩ := C
  exact d_callM S i F (hr.mono hj) hg h1 h2 h3 hi ha hi1 h hN hv hd0 hcd0 hdb he hpl
theorem d_fnMG (S : Sco X N sc tp) (i : Nat) (C : FncG X.prog X.w X.K X.mg X.base j n ps (spM X.K M)) (hr : Room k X.A) (hgd : X.A.guards = some []) (hi : ρ[i]? = some (.own (.l ms))) (ha : AD X es ρ ρ1 ds) (hi1 : ρ1[i]? = some (.own (.l ms))) (h : M ms ds d ms') (hg : Gl X n) (hN : N[i]? = some n0 := by rfl)
    (hv : Vis sc n0 := by first | exact Or.inl rfl | exact Or.inr (Or.inl rfl) | exact Or.inr (Or.inr rfl)) (hj : j ≤ k := by decide)
    (hd0 : (n0 == ("__debug__" : Str)) = false := by decide) (hcd0 : (n0 == ("__classdict__" : Str)) = false := by decide) (hdb : (n == ("__debug__" : Str)) = false := by decide)
    (he : starEach (.Name n0 p0 :: es) X.env = (false, eval (.Name n0 p0) X.env) :: starEach es X.env := by rfl) (hpl : (backTo pos (starEach es X.env)).any (·.1) = false := by rfl) : ED X (.Call (.Name n p) (.Name n0 p0 :: es) [] pos) ρ (ρ1.set i (.own (.l ms'))) d := by
  obtain ⟨f, fd, F, h1, h2, h3⟩ := C
  exact d_callMG S i F (hr.mono hj) hgd hg h1 h2 h3 hi ha hi1 h hN hv hd0 hcd0 hdb he hpl
end
/-- rows of numbers -/
def ns (l : List Nat) : List Da := l.map fun n => .int ((n : Nat) : Int)
theorem ns_len (l : List Nat) : (ns l).length = l.length := by simp [ns]
theorem ns_get {l : List Nat} {i n : Nat} (h : l[i]? = some n) : (ns l)[i]? = some (.int (n : Int)) := by simp [ns, h]
theorem ns_getD {l : List Nat} {i : Nat} (h : i < l.length) : (ns l).getD i .non = .int ((l.getD i 0 : Nat) : Int) := by
  simp [ns, List.getD_eq_getElem?_getD, h]
end Wv
end
section
set_option Elab.async false
set_option linter.all false
set_option maxRecDepth 100000
namespace Wv
open PySem PySem.Spec PyProof.Rows L2
section
variable {X : Cx} {N : List Str} {sc : Scope} {tp : Bool} {ρ ρ1 ρ2 ρ3 : List SV} {a b : Expr} {p p0 pos : Pos} {x y z : Da} {m n : Nat}
/-! natural numbers -/
theorem d_intN {k : Nat} (h : ED X a ρ ρ1 (.int i)) (e : i = (k : Int)) : ED X a ρ ρ1 (.int (k : Int)) := by
  rw [← e]
  exact h
theorem d_n0 {k : Nat} : ED X (.Constant (.int 0) k pos) ρ ρ (.int ((0 : Nat) : Int)) := d_int
theorem d_n1 {k : Nat} : ED X (.Constant (.int 1) k pos) ρ ρ (.int ((1 : Nat) : Int)) := d_int
theorem d_orN (ha : ED X a ρ ρ1 (.int (m : Int))) (hb : ED X b ρ1 ρ2 (.int (n : Int))) : ED X (.BinOp a .BitOr b pos) ρ ρ2 (.int ((m ||| n : Nat) : Int)) := d_is (d_bor ha hb) (by rw [bitOr_nn (Int.natCast_nonneg _) (Int.natCast_nonneg _)]; rfl)
theorem d_andN (ha : ED X a ρ ρ1 (.int (m : Int))) (hb : ED X b ρ1 ρ2 (.int (n : Int))) : ED X (.BinOp a .BitAnd b pos) ρ ρ2 (.int ((m &&& n : Nat) : Int)) := d_is (d_band ha hb) (by rfl)
theorem d_shlN (hm : m < 2 ^ 64) (hn : n ≤ 1000000) (ha : ED X a ρ ρ1 (.int (m : Int))) (hb : ED X b ρ1 ρ2 (.int (n : Int))) : ED X (.BinOp a .LShift b pos) ρ ρ2 (.int ((m * 2 ^ n : Nat) : Int)) :=
  d_is (d_shl ⟨by omega, by omega, by rw [Int.natAbs_natCast]; exact hm⟩ ha hb) (by rw [Int.toNat_natCast]; congr 1)
theorem d_oneN {k : Nat} {p : Pos} (hn : n ≤ 1000000) (hb : ED X b ρ ρ1 (.int (n : Int))) : ED X (.BinOp (.Constant (.int 1) k p) .LShift b pos) ρ ρ1 (.int ((2 ^ n : Nat) : Int)) := d_is (d_shlN (m := 1) (by decide) hn d_n1 hb) (by rw [Nat.one_mul])
theorem d_shrN (ha : ED X a ρ ρ1 (.int (m : Int))) (hb : ED X b ρ1 ρ2 (.int (n : Int))) : ED X (.BinOp a .RShift b pos) ρ ρ2 (.int ((m / 2 ^ n : Nat) : Int)) :=
  d_is (d_shr (Int.natCast_nonneg _) ha hb) (by rw [Int.toNat_natCast]; congr 1)
theorem d_addN (ha : ED X a ρ ρ1 (.int (m : Int))) (hb : ED X b ρ1 ρ2 (.int (n : Int))) : ED X (.BinOp a .Add b pos) ρ ρ2 (.int ((m + n : Nat) : Int)) := d_is (d_add ha hb) (by push_cast; rfl)
theorem d_subN (h : n ≤ m) (ha : ED X a ρ ρ1 (.int (m : Int))) (hb : ED X b ρ1 ρ2 (.int (n : Int))) : ED X (.BinOp a .Sub b pos) ρ ρ2 (.int ((m - n : Nat) : Int)) := d_is (d_sub ha hb) (by congr 1; omega)
theorem d_mulN (h : m < 2 ^ 60) (ha : ED X a ρ ρ1 (.int (m : Int))) (hb : ED X b ρ1 ρ2 (.int (n : Int))) : ED X (.BinOp a .Mult b pos) ρ ρ2 (.int ((m * n : Nat) : Int)) := d_is (d_mul (.inl ⟨by omega, by omega⟩) ha hb) (by push_cast; rfl)
theorem d_modN (h : 0 < n) (ha : ED X a ρ ρ1 (.int (m : Int))) (hb : ED X b ρ1 ρ2 (.int (n : Int))) : ED X (.BinOp a .Mod b pos) ρ ρ2 (.int ((m % n : Nat) : Int)) := d_is (d_mod (by omega) ha hb) (by push_cast; rfl)
theorem d_fdivN (h : 0 < n) (h2 : n < 1000000000) (ha : ED X a ρ ρ1 (.int (m : Int))) (hb : ED X b ρ1 ρ2 (.int (n : Int))) : ED X (.BinOp a .FloorDiv b pos) ρ ρ2 (.int ((m / n : Nat) : Int)) := d_is (d_fdiv ⟨by omega, by omega⟩ ha hb) (by push_cast; rfl)
theorem d_ltN (ha : ED X a ρ ρ1 (.int (m : Int))) (hb : ED X b ρ1 ρ2 (.int (n : Int))) : ED X (.Compare a [.Lt] [b] pos) ρ ρ2 (.bl (decide (m < n))) := d_is (d_lt ha hb) (by simp)
theorem d_gtN (ha : ED X a ρ ρ1 (.int (m : Int))) (hb : ED X b ρ1 ρ2 (.int (n : Int))) : ED X (.Compare a [.Gt] [b] pos) ρ ρ2 (.bl (decide (n < m))) := d_is (d_gt ha hb) (by simp)
theorem d_eqN (ha : ED X a ρ ρ1 (.int (m : Int))) (hb : ED X b ρ1 ρ2 (.int (n : Int))) : ED X (.Compare a [.Eq] [b] pos) ρ ρ2 (.bl (decide (m = n))) := d_is (d_eqI ha hb) (by congr 1; exact decide_eq_decide.mpr Int.ofNat_inj)
theorem d_neN (ha : ED X a ρ ρ1 (.int (m : Int))) (hb : ED X b ρ1 ρ2 (.int (n : Int))) : ED X (.Compare a [.NotEq] [b] pos) ρ ρ2 (.bl (!decide (m = n))) := d_is (d_neI ha hb) (by congr 2; exact decide_eq_decide.mpr Int.ofNat_inj)
/-! comparisons as tests -/
theorem t_cmp {op : CmpOp} {r : R2} {t : Bool} (ho : OpR X (compareOp op) r) (hm : behindInMarks op b = false) (hr : RD X.K r ρ2 x y (.bl t)) (ha : ED X a ρ ρ1 x) (hb : ED X b ρ1 ρ2 y) : TD X (.Compare a [op] [b] pos) ρ ρ2 t :=
  pt_imp (pt_cmpR ho ha hb hm) fun σ H Q ⟨e, S, R, k⟩ => ⟨e, S, R, fun v S1 H1 R1 q1 d1 => ⟨e, S1, R1, fun w S2 H2 R2 q2 d2 => hr e S2 H2 σ v w _ R2 (d1.mono q2) d2 fun u S3 H3 R3 q3 d3 => by
    cases d3
    exact ⟨t, rfl, k S3 H3 R3 ((q1.trans q2).trans q3)⟩⟩⟩
theorem t_lt {i j : Int} (ha : ED X a ρ ρ1 (.int i)) (hb : ED X b ρ1 ρ2 (.int j)) : TD X (.Compare a [.Lt] [b] pos) ρ ρ2 (decide (i < j)) := t_cmp op_lt (nomark _) (rd_I0 fun _ => .bl _) ha hb
theorem t_gt {i j : Int} (ha : ED X a ρ ρ1 (.int i)) (hb : ED X b ρ1 ρ2 (.int j)) : TD X (.Compare a [.Gt] [b] pos) ρ ρ2 (decide (j < i)) := t_cmp op_gt (nomark _) (rd_I0 fun _ => .bl _) ha hb
theorem t_eqI {i j : Int} (ha : ED X a ρ ρ1 (.int i)) (hb : ED X b ρ1 ρ2 (.int j)) : TD X (.Compare a [.Eq] [b] pos) ρ ρ2 (decide (i = j)) := t_cmp op_eq (nomark _) rd_eqI ha hb
theorem t_neI {i j : Int} (ha : ED X a ρ ρ1 (.int i)) (hb : ED X b ρ1 ρ2 (.int j)) : TD X (.Compare a [.NotEq] [b] pos) ρ ρ2 (!decide (i = j)) := t_cmp op_ne (nomark _) rd_neI ha hb
theorem t_eqS {i j : Str} (ha : ED X a ρ ρ1 (.str i)) (hb : ED X b ρ1 ρ2 (.str j)) : TD X (.Compare a [.Eq] [b] pos) ρ ρ2 (decide (i = j)) := t_cmp op_eq (nomark _) rd_eqS ha hb
theorem t_neS {i j : Str} (ha : ED X a ρ ρ1 (.str i)) (hb : ED X b ρ1 ρ2 (.str j)) : TD X (.Compare a [.NotEq] [b] pos) ρ ρ2 (!decide (i = j)) := t_cmp op_ne (nomark _) rd_neS ha hb
theorem t_ltN (ha : ED X a ρ ρ1 (.int (m : Int))) (hb : ED X b ρ1 ρ2 (.int (n : Int))) : TD X (.Compare a [.Lt] [b] pos) ρ ρ2 (decide (m < n)) := t_is (t_lt ha hb) (by simp)
theorem t_gtN (ha : ED X a ρ ρ1 (.int (m : Int))) (hb : ED X b ρ1 ρ2 (.int (n : Int))) : TD X (.Compare a [.Gt] [b] pos) ρ ρ2 (decide (n < m)) := t_is (t_gt ha hb) (by simp)
theorem t_eqN (ha : ED X a ρ ρ1 (.int (m : Int))) (hb : ED X b ρ1 ρ2 (.int (n : Int))) : TD X (.Compare a [.Eq] [b] pos) ρ ρ2 (decide (m = n)) := t_is (t_eqI ha hb) (decide_eq_decide.mpr Int.ofNat_inj)
theorem t_neN (ha : ED X a ρ ρ1 (.int (m : Int))) (hb : ED X b ρ1 ρ2 (.int (n : Int))) : TD X (.Compare a [.NotEq] [b] pos) ρ ρ2 (!decide (m = n)) := t_is (t_neI ha hb) (congrArg _ (decide_eq_decide.mpr Int.ofNat_inj))
theorem t_isB {i j : Bool} (ha : ED X a ρ ρ1 (.bl i)) (hb : ED X b ρ1 ρ2 (.bl j)) : TD X (.Compare a [.Is] [b] pos) ρ ρ2 (decide (i = j)) := t_cmp op_isBl (nomark _) rd_isB ha hb
theorem t_notB {i j : Bool} (ha : ED X a ρ ρ1 (.bl i)) (hb : ED X b ρ1 ρ2 (.bl j)) : TD X (.Compare a [.IsNot] [b] pos) ρ ρ2 (!decide (i = j)) := t_cmp op_notBl (nomark _) rd_notB ha hb
/-- rest & -rest -/
theorem d_low (hm : 0 < m) (ha : ED X a ρ ρ1 (.int (m : Int))) (hb : ED X b ρ1 ρ2 (.int (-(m : Int)))) : ED X (.BinOp a .BitAnd b pos) ρ ρ2 (.int ((m - (m &&& (m - 1)) : Nat) : Int)) := d_is (d_band ha hb) (by
  unfold Builtin.bitAnd Builtin.bitNot
  rw [decide_eq_true (show (0 : Int) ≤ (m : Int) by omega), decide_eq_false (show ¬ (0 : Int) ≤ -(m : Int) by omega)]
  show Da.int ((m : Int) - (((m : Int).toNat &&& (- -(m : Int) - 1).toNat : Nat) : Int)) = _
  have e : (- -(m : Int) - 1).toNat = m - 1 := by omega
  rw [e, Int.toNat_natCast]
  have : m &&& (m - 1) ≤ m := Nat.and_le_left
  congr 1
  omega)
theorem d_range (hg : Gl X "range") (hm : X.mg "range" = none) {tg : Expr} (h : ED X a ρ ρ1 (.int (m : Int))) (hz : m ≤ 1000000) (hs : starEach [a] X.env = (false, eval a X.env) :: starEach [] X.env := by rfl) : ID X tg (.Call (.Name "range" p) [a] [] pos) ρ ρ1 m (fun i => .int ((i : Nat) : Int)) := by
  have := i_range1 (tg := tg) (p := p) (pos := pos) hg hm h ⟨by omega, by omega⟩ hs
  rw [Int.toNat_natCast] at this
  exact this
end
end Wv
end
section
set_option Elab.async false
set_option linter.all false
set_option maxRecDepth 100000
namespace Wv
open PySem PySem.Spec PyProof.Rows L2
section
variable {X : Cx} {N : List Str} {sc : Scope} {tp : Bool} {ρ ρ1 : List SV} {a : Expr} {p p0 pos : Pos} {x : Da} {ds : List Da} {rest : List Stmt} {D : De} {n : Str}
/-- xs.append(a), xs a list of one's own -/
theorem q_push (S : Sco X N sc tp) (i : Nat) {p2 : Pos} (h : ED X a ρ ρ1 x) (hi0 : ρ[i]? = some (.own (.l ds))) (hi : ρ1[i]? = some (.own (.l ds))) (hz : ds.length < 1000000) (k : SD X rest (ρ1.set i (.own (.l (ds ++ [x])))) D) (hN : N[i]? = some n := by rfl)
    (hv : Vis sc n := by first | exact Or.inl rfl | exact Or.inr (Or.inl rfl) | exact Or.inr (Or.inr rfl)) (hd : (n == ("__debug__" : Str)) = false := by decide) (hcd : (n == ("__classdict__" : Str)) = false := by decide)
    (hbase : attributeBase (.Name n p0) "append" X.env (eval (.Name n p0) X.env) = eval (.Name n p0) X.env := by rfl) (hline : (p2.endLine == p.line) = true := by rfl) (hs : starEach [a] X.env = (false, eval a X.env) :: starEach [] X.env := by rfl) :
    SD X (.Expr (.Call (.Attribute (.Name n p0) "append" p2) [a] [] p) pos :: rest) ρ D :=
  q_app S i h hi0 hi hz k hN hv hd hcd (pe_bm PySem.F.plainAttrs_list PySem.F.slot_list_append PySem.F.type_list_append mt_append (pe_var (i := i) (by rw [S.n]; exact hN) (by rw [S.s]; exact hv) hd hcd) (pa_cons h pa_nil hs) hbase (by rw [hs]; rfl) hline hs (by rfl))
theorem nz {z : SV} (h : z.isOwn = false) : (!z.isOwn) = true := by rw [h]; rfl
theorem nz1 {ρ : List SV} {i : Nat} {z : SV} (h : ρ[i]? = some z) (hz : z.isOwn = false) : nown ρ i = true := by
  unfold nown
  rw [h]
  exact nz hz
end
end Wv
end
section
set_option Elab.async false
set_option linter.all false
set_option maxRecDepth 100000
set_option maxHeartbeats 4000000
namespace L2
open PySem PySem.Spec PyProof.Rows
theorem tuple_mul1 (l : Addr) (items : Array Value) (n : Nat) (dd : Option Addr) (sl : Array (Option Value)) (u : Tok) :
    Meets (Builtin.«tuple.__mul__» ⟨[.ref l, .int 1 u], []⟩) (fun _ R s => s.heap.get? l = some { cls := .type "tuple", dict := dd, data := .seq items n, slots := sl } ∧
      R (.ok (.ret (Value.ref l))) s) :=
  .of_wp fun prog w A R s h => by
    obtain ⟨hp, g, d, tk, os⟩ := s
    obtain ⟨hl, h⟩ := h
    have f1 := AutoSeq1.idx_int
    have c0 : (decide ((1 : Int) < -(2 ^ 63)) || decide ((1 : Int) ≥ 2 ^ 63)) = false := by decide
    have c1 : (items.isEmpty || (1 : Int) == 1) = true := by simp
    wp_walk using wpAny_loadPart' hl
    repeat (first
      | (refine wpAny_ite_false (decide_eq_false (by rw [c0]; exact Bool.false_ne_true)) ?_; wp_walk using wpAny_loadPart' hl)
      | (refine wpAny_ite_true (decide_eq_true (by rw [c1])) ?_; wp_walk using wpAny_loadPart' hl))
    exact ⟨_, rfl, h⟩
/-- tuple * 1 is the tuple itself -/
def rRepT1 (K : PySem.W.Frag) : R2 := fun x y H Q => ∃ l xs, x = .ref l ∧ y = .int 1 ∧ SqT K H l xs ∧ Q (.ref l) H
theorem op_repT1 {X : Cx} : OpR X (binaryOp .Mult) (rRepT1 X.K) := by
  intro pins s σ H x y v u Q I rx ry h
  obtain ⟨l, xs, rfl, rfl, hT, q⟩ := h
  cases rx
  obtain ⟨t, rfl⟩ := ry
  obtain ⟨its, r, ⟨⟨cls, dd, data, sl⟩, ho, hc, n, hd⟩, hs⟩ := I.tuple hT
  simp only at hc hd
  subst hc hd
  refine wpAny_binaryOp_repeat_ref (T := "tuple") (U := "int") (by decide) ⟨_, ho, rfl⟩ (fun s' => typeIs_int s' 1 t) noFill_tuple_mul F.fills_int_mul F.slot_int_rmul repeat_tuple F.slot_int_index.lookup
    (call_meets F.slot_int_rmul (typeIs_int s 1 t) F.entry_int_rmul (F.args_int_rmul_2 _ _) (int_rmul_tuple 1 t l its.toArray n dd sl)
      ⟨ho, rfl, ⟨_, ho, rfl⟩, call_meets F.slot_tuple_mul ⟨_, ho, rfl⟩ F.entry_tuple_mul (F.args_tuple_mul_2 _ _) (tuple_mul1 l its.toArray n dd sl t) ⟨ho, ?_⟩⟩)
  exact ⟨.ref l, H, I, rfl, q⟩
end L2
namespace Wv
open PySem PySem.Spec PyProof.Rows L2
theorem or_sum : ∀ m n : Nat, (m ||| n) = (m ^^^ n) + (m &&& n) := fun m => by
  induction m using Nat.strongRecOn with
  | _ m ih =>
    intro n
    rcases Nat.eq_zero_or_pos m with h | h
    · subst h
      simp
    · have q := ih (m / 2) (by omega) (n / 2)
      have e1 : (m ||| n) / 2 = (m / 2) ||| (n / 2) := Nat.or_div_two
      have e2 : (m ^^^ n) / 2 = (m / 2) ^^^ (n / 2) := Nat.xor_div_two
      have e3 : (m &&& n) / 2 = (m / 2) &&& (n / 2) := Nat.and_div_two
      have f1 : (m ||| n) % 2 = (m % 2) ||| (n % 2) := Nat.or_mod_two_pow (n := 1)
      have f2 : (m ^^^ n) % 2 = (m % 2) ^^^ (n % 2) := Nat.xor_mod_two_pow (n := 1)
      have f3 : (m &&& n) % 2 = (m % 2) &&& (n % 2) := Nat.and_mod_two_pow (n := 1)
      have g : ((m % 2) ||| (n % 2)) = ((m % 2) ^^^ (n % 2)) + ((m % 2) &&& (n % 2)) := by
        have h1 : m % 2 = 0 ∨ m % 2 = 1 := by omega
        have h2 : n % 2 = 0 ∨ n % 2 = 1 := by omega
        rcases h1 with h1 | h1 <;> rcases h2 with h2 | h2 <;> rw [h1, h2] <;> decide
      omega
section
variable {X : Cx} {ρ ρ1 ρ2 : List SV} {a b : Expr} {pos : Pos} {ds : List Da}
theorem d_repT1 (ha : ED X a ρ ρ1 (.tup ds)) (hb : ED X b ρ1 ρ2 (.int 1)) : ED X (.BinOp a .Mult b pos) ρ ρ2 (.tup ds) := d_op op_repT1 (fun e S H σ v w Q R d1 d2 k => by
  cases d2
  cases d1 with
  | tup h t => exact ⟨_, _, rfl, rfl, sqT_same R.sub h, k _ S H R (.refl S) (.tup h t)⟩) ha hb
theorem d_xorN {m n : Nat} (ha : ED X a ρ ρ1 (.int (m : Int))) (hb : ED X b ρ1 ρ2 (.int (n : Int))) : ED X (.BinOp a .BitXor b pos) ρ ρ2 (.int ((m ^^^ n : Nat) : Int)) := d_is (d_bxor ha hb) (by
  unfold Builtin.bitXor
  rw [bitOr_nn (Int.natCast_nonneg _) (Int.natCast_nonneg _)]
  show Da.int (((m ||| n : Nat) : Int) - ((m &&& n : Nat) : Int)) = _
  congr 1
  have := or_sum m n
  omega)
end
end Wv
end
section
set_option Elab.async false
set_option linter.all false
set_option maxRecDepth 100000
namespace Wv
open PySem PySem.Spec PyProof.Rows L2
section
variable {X : Cx} {N : List Str} {sc : Scope} {tp : Bool} {ρ ρ1 ρ2 ρ3 : List SV} {a b : Expr} {ol oh : Option Expr} {p p2 pos : Pos} {n : Str} {zs : List Int} {l u : Option Int}
/-- script[..] -/
theorem f_slS (S : Sco X N sc tp) (i : Nat) (hi : ρ[i]? = some (.scr zs)) (hl : OD X ol ρ ρ l) (hu : OD X oh ρ ρ u) (hN : N[i]? = some n := by rfl) (hv : Vis sc n := by first | exact Or.inl rfl | exact Or.inr (Or.inl rfl) | exact Or.inr (Or.inr rfl))
    (hd : (n == ("__debug__" : Str)) = false := by decide) (hcd : (n == ("__classdict__" : Str)) = false := by decide) : FD X (.Subscript (.Name n p) (.Slice ol oh none p2) pos) ρ ρ (cutD (zs.map Da.int) l u) :=
  pe_imp (pe_slice sl_list (pe_var (i := i) (by rw [S.n]; exact hN) (by rw [S.s]; exact hv) hd hcd) hl hu) fun σ H Q ⟨e, Sh, R, k⟩ => by
    obtain ⟨x, e1, _⟩ := R.scr i zs hi
    refine ⟨.ref x, e1, e, Sh, R, fun S2 H2 R2 q2 => ⟨e, S2, R2, fun S3 H3 R3 q3 => ?_⟩⟩
    obtain ⟨y, f1, f2⟩ := R3.scr i zs hi
    rw [e1] at f1
    cases f1
    refine ⟨x, _, rfl, R3.sub.seq f2, fun p0 hp => ?_⟩
    obtain ⟨R4, f⟩ := fresh_of R3 hp (cut_dvs (Dvs.ofInts zs) l u)
    exact k _ _ _ R4 (q2.trans q3) f
theorem t_orF (h : TD X a ρ ρ1 false) (h2 : TD X b ρ1 ρ2 false) : TD X (.BoolOp .Or [a, b] pos) ρ ρ2 false :=
  PW.pt (pw_imp (pw_or h (pw_or1 h2)) fun σ H Q ⟨e, S, R, k⟩ => ⟨e, S, R, fun S1 H1 R1 q1 => iteF ⟨e, S1, R1, fun S2 H2 R2 q2 => k S2 H2 R2 (q1.trans q2)⟩⟩)
end
/-- the law: the script in, True out -/
def spS (K : PySem.W.Frag) (m : Nat) : Sp := fun vs H Q _ => ∃ (x : Addr) (zs : List Int), vs = [.ref x] ∧ SqL K H x (zs.map V.int) ∧ zs.length ≤ m ∧ ∀ H', Q (.bl true) H'
def startS (n : Nat) (zs : List Int) : List SV := .scr zs :: List.replicate (n - 1) .any
theorem rep_get {n i : Nat} {s t : SV} (h : (List.replicate n s)[i]? = some t) : t = s := by
  rw [List.getElem?_replicate] at h
  split at h
  · cases h; rfl
  · cases h
theorem rp_startS {K : PySem.W.Frag} {N : List Str} {x : Addr} {zs : List Int} {H : Hp} (h : SqL K H x (zs.map V.int)) : Rp K ⟨H, H, fun _ _ => False⟩ H H (start N [.ref x]) (startS N.length zs) where
  sub := .refl H
  keep := fun _ _ q _ => q
  keepS := .refl H
  new := fun b q z => absurd z q
  pas := fun _ _ m => m.elim
  par := fun _ _ m => m.elim
  parO := fun _ _ m => m.elim
  dat := fun i y q => by
    cases i with
    | zero => cases q
    | succ i =>
      have := rep_get (show (List.replicate (N.length - 1) SV.any)[i]? = some (.d y) from q)
      cases this
  own := fun i y q => by
    cases i with
    | zero => cases q
    | succ i =>
      have := rep_get (show (List.replicate (N.length - 1) SV.any)[i]? = some (.own y) from q)
      cases this
  inj := fun i j y z l q => by
    cases i with
    | zero => cases q
    | succ i =>
      have := rep_get (show (List.replicate (N.length - 1) SV.any)[i]? = some (.own y) from q)
      cases this
  scr := fun i ns q => by
    cases i with
    | zero =>
      cases q
      exact ⟨x, start_get rfl, h⟩
    | succ i =>
      have := rep_get (show (List.replicate (N.length - 1) SV.any)[i]? = some (.scr ns) from q)
      cases this
  len := by
    rw [start_len]
    show 1 + (N.length - 1) = (List.replicate (N.length - 1) SV.any).length + 1
    rw [List.length_replicate]
    omega
def DeS : De := { nx := fun _ => False, rt := fun x _ => x = .bl true }
section
variable {P : Program} {w : World} {K : PySem.W.Frag} {mg : Str → Option Value} {base : Heap} {n qual x : Str} {st : Stmt} {N : List Str} {k m : Nat}
/-- the def of the law keeps its promise -/
theorem fn_s {f : Addr} {fd : FuncData} (F : Fun K n qual st f fd) (S : FnScope N [x] (defScope st)) (body : ∀ X : Cx, Top P w K mg base X → Sco X N (defScope st) true → Room k X.A → X.A.guards = some [] → ∀ zs : List Int, zs.length ≤ m → SD X (defBody st) (startS N.length zs) DeS) : FnG P w K mg base CX0 (k + 1) f fd [x] (spS K m) := by
  refine okG F S (fun vs H Q E h => ?_) (fun cdv A outer s H vs Q E hr hgd h => ?_)
  · obtain ⟨y, zs, rfl, _⟩ := h
    rfl
  · obtain ⟨y, zs, rfl, hq, hm, q⟩ := h
    refine ⟨_, body (cxOf CX0 P w K mg base N qual (defScope st) f cdv A outer s H E).nox ⟨rfl, rfl, rfl, rfl, rfl⟩ (sco_top S) hr hgd zs hm, ?_⟩
    exact ⟨_, H, rp_startS hq, ⟨fun _ _ _ _ h => h.elim, fun d ρ v σ S2 H2 hd _ dv => by
      have hd : d = .bl true := hd
      subst hd
      cases dv
      exact q H2, fun _ _ _ _ h => h.elim, fun _ _ _ _ h => h.elim, fun _ _ h => h.elim, fun _ _ _ _ _ h => h.elim⟩⟩
end
end Wv
end
section
set_option Elab.async false
set_option linter.all false
set_option maxRecDepth 100000
namespace Wv
open PySem PySem.Spec PyProof.Rows L2
/-- the heap in which only the script is known -/
def oneH (a : Addr) (o : HO) : Hp := fun b => if b = a then some o else none
theorem oneH_at (a : Addr) (o : HO) : oneH a o a = some o := if_pos rfl
theorem oneH_only {a b : Addr} {o : HO} (h : oneH a o b ≠ none) : b = a := by
  by_cases e : b = a
  · exact e
  · exact absurd (if_neg e) h
section
variable {P : Program} {w : World} {K : PySem.W.Frag} {mg mb : Str → Option Value} {k m : Nat} {fa a : Addr} {fd : FuncData} {x : Str} {s : Shared} {vs : List Value} {zs : List Int}
/-- a call of the law, from a heap H that may know the script and nothing else -/
theorem call_from {H : Hp} (KX : K.In s.heap) (hns : s.heap.Ns mainGlobals mg) (hb : s.heap.Ns builtinsNs mb) (hbb : ∀ y : Str, y ≠ "__name__" → mb y = bootBuiltins y) (hlim : s.heap.NoLimit) (hg : s.gens = #[])
    (hobj : s.heap.get? a = some { cls := .type "list", data := .seq vs.toArray }) (hr : Room k callerA) (F : ∀ base : Heap, K.In base → base.Ns mainGlobals mg → FnG P w K mg base CX0 k fa fd [x] (spS K m)) (hbind : ∀ (t : Shared) (u : Value), BindsTo t fd ⟨[u], []⟩ [(x, u)])
    (hS : SqL K H a (zs.map V.int)) (hm : zs.length ≤ m) (hok : HOk P w H s.heap) (hA : ∀ b, H b ≠ none → b = a) (hz : ∀ u, H a = some u → ∃ o ys, u = .frz o (.lst ys)) (hK : H a ≠ none → K.lookup a = none) :
    codeAny (model P w) callerA (.call (.ref fa) ⟨[.ref a], []⟩) (fun r t => r = .ok (.ret (.bool true)) ∧ OldK s.heap t.heap ∧ t.os = s.os ∧ AllBare t.gens) s := by
  have free : ∀ {b : Addr} {o : Obj}, s.heap.get? b = some o → (∀ (q : Array Value) n, o.data ≠ .seq q n) → H b = none := fun {b o} e d => Classical.byContradiction fun q => by
    obtain rfl := hA b q
    rw [hobj] at e
    cases e
    exact d _ _ rfl
  have keepNs : ∀ {b : Addr} {f : Str → Option Value}, s.heap.Ns b f → (hidT s.heap H).Ns b f := fun {b f} ⟨o, es, ep, e, d, r⟩ => ⟨o, es, ep, hidT_get e (free e fun q n z => by rw [d] at z; cases z), d, r⟩
  have hKb : K.In (hidT s.heap H) := fun b o e => hidT_get (KX b o e) (Classical.byContradiction fun q => by
    obtain rfl := hA b q
    rw [hK q] at e
    cases e)
  have md : Mod K mg (hidT s.heap H) := ⟨hKb, keepNs hns, ⟨mb, keepNs hb, hbb⟩, let ⟨mc, h1, h2⟩ := hlim; ⟨mc, keepNs h1, h2⟩⟩
  have none_in : ∀ {b : Addr}, b ∈ ([] : List Addr) → False := fun {b} h => nomatch h
  have env : Env0 P w K mg (hidT s.heap H) callerA [] s H := ⟨rfl, md, fun b o e => of_hidT e, Nat.le_of_eq (hidT_size _ _), trivial, fun b hb => (none_in (show b ∈ ([] : List Addr) from hb)).elim, hok, .of_eq hg⟩
  have run := (F _ hKb (keepNs hns)).run callerA [] s H ⟨[.ref a], []⟩ [.ref a] [.ref a] (fun v _ => v = .bl true) (fun _ _ _ => False) hr rfl env (hbind s (.ref a)) (.cons rfl .nil) ⟨a, zs, rfl, hS, hm, fun _ => rfl⟩
  refine codeAny_mono run fun r t h => ?_
  match r, h with
  | .error e, h => exact (show False from h).elim
  | .ok .next, h => exact (show False from h).elim
  | .ok .brk, h => exact (show False from h).elim
  | .ok .cont, h => exact (show False from h).elim
  | .ok (.ret u), h =>
    obtain ⟨v, H2, os, bare, un, hok2, rv, q⟩ := h
    obtain rfl : v = .bl true := q
    obtain rfl : u = Value.bool true := rv
    refine ⟨rfl, OldK.of_keep fun b o e => ?_, os, bare⟩
    cases q : H b with
    | none => exact un.keep b o e q (fun z => none_in (show b ∈ ([] : List Addr) from z)) (by simp)
    | some u =>
      obtain rfl := hA b (by rw [q]; simp)
      obtain ⟨ob, ys, rfl⟩ := hz u q
      obtain ⟨e1, _⟩ := hok b _ q
      obtain ⟨e2, _⟩ := hok2 b _ (un.frzs b ob _ q)
      rw [e] at e1
      cases e1
      exact e2
end
/-- the goal that the head leaves, from the promise of the law's def -/
theorem walk_G {l : PySem.W.OpenLaw} {m k : Nat} {q : Program} {loose : List Str} {XP : (Str → Option Value) → Heap → Prop} {YP : World → Heap → Prop} {d : DefRec} {K : Params → PySem.W.Frag} {x : Str}
    (hn : l.most = some m) (hm : m ≤ sizeLine) (hdf : d.params.defaults = []) (hr : Room k callerA) (hY : ∀ (w : World) (h : Heap), YP w h → (K w.params).In h)
    (F : ∀ (w : World) (mg : Str → Option Value) (fa : Addr) (h : Heap), (K w.params).In h → h.Ns mainGlobals mg → mg d.name = some (.ref fa) →
      ∃ fd : FuncData, (∀ (s : Shared) (u : Value), BindsTo s fd ⟨[u], []⟩ [(x, u)]) ∧ ∀ base : Heap, (K w.params).In base → base.Ns mainGlobals mg → FnG l.prog w (K w.params) mg base CX0 k fa fd [x] (spS (K w.params) m)) :
    PySem.W.WalkO q loose XP YP l.row.toRowW d [] (fun f vs => PySem.call f vs) := by
  refine Att.attach_call hn hdf fun w s₀ s mg mb fa o pm cd doc a vs zs G Y ho hd hcd hmg hobj hints hlen hg => ?_
  have KX := hY w _ Y
  obtain ⟨fd, hb, hF⟩ := F w mg fa _ KX G.T.g hmg
  have rv := vals_ints hints
  have lenV := hints.length
  cases hk : (K w.params).lookup a with
  | some o =>
    have e := KX a o hk
    rw [hobj] at e
    cases e
    exact call_from (H := fun _ => none) KX G.T.g G.T.b G.T.builtins G.T.nolimit hg hobj hr hF hb (.inr ⟨_, vs.toArray, _, hk, rfl, rfl, rfl, by rw [List.size_toArray, lenV]; exact Nat.le_trans hlen hm, by simpa using rv⟩) hlen
      (fun b u z => by cases (show (none : Option HO) = some u from z)) (fun b z => absurd rfl z) (fun u z => by cases (show (none : Option HO) = some u from z)) fun z => absurd rfl z
  | none =>
    refine call_from (H := oneH a (.frz { cls := .type "list", data := .seq vs.toArray } (.lst (zs.map V.int)))) KX G.T.g G.T.b G.T.builtins G.T.nolimit hg hobj hr hF hb (.inl (.inr ⟨_, oneH_at _ _⟩)) hlen (fun b u z => ?_) (fun b z => oneH_only z) (fun u z => ?_) fun _ => hk
    · obtain rfl := oneH_only (b := b) (by rw [z]; simp)
      rw [oneH_at] at z
      cases z
      exact ⟨hobj, by rw [List.length_map]; exact Nat.le_trans hlen hm, vs, _, rv, hobj⟩
    · rw [oneH_at] at z
      cases z
      exact ⟨_, _, rfl⟩
end Wv
end
section
set_option linter.all false
namespace Km
/-! ### the digits of a number to the base two -/
theorem range_succ_map {α : Type} (f : Nat → α) (n : Nat) : (List.range (n + 1)).map f = f 0 :: (List.range n).map fun i => f (i + 1) := by
  rw [List.range_succ_eq_map, List.map_cons, List.map_map]
  rfl
theorem digits_rev : ∀ m : Nat, ((Nat.toDigits 2 m).map Char.toNat).reverse = (List.range (Nat.toDigits 2 m).length).map (fun i => if m.testBit i then 49 else 48) := by
  intro m
  induction m using Nat.strongRecOn with
  | ind m ih =>
    by_cases h : m < 2
    · rw [Nat.toDigits_of_lt_base h]
      have : m = 0 ∨ m = 1 := by omega
      rcases this with rfl | rfl
      · rfl
      · rfl
    · rw [Nat.toDigits_of_base_le (by decide) (by omega), List.map_append, List.reverse_append, List.length_append, ih (m / 2) (by omega)]
      show _ = (List.range ((Nat.toDigits 2 (m / 2)).length + 1)).map _
      rw [range_succ_map]
      have e : ((List.map Char.toNat [(m % 2).digitChar]).reverse : List Nat) = [if m.testBit 0 then 49 else 48] := by
        have : m % 2 = 0 ∨ m % 2 = 1 := by omega
        rcases this with h2 | h2
        · rw [h2]
          have : m.testBit 0 = false := by simp [Nat.testBit_zero, h2]
          rw [this]
          rfl
        · rw [h2]
          have : m.testBit 0 = true := by simp [Nat.testBit_zero, h2]
          rw [this]
          rfl
      rw [e]
      simp only [List.singleton_append, Nat.testBit_succ]
theorem digits_lt : ∀ m : Nat, m < 2 ^ (Nat.toDigits 2 m).length := by
  intro m
  induction m using Nat.strongRecOn with
  | ind m ih =>
    by_cases h : m < 2
    · rw [Nat.toDigits_of_lt_base h]
      exact h
    · rw [Nat.toDigits_of_base_le (by decide) (by omega), List.length_append]
      have := ih (m / 2) (by omega)
      show m < 2 ^ ((Nat.toDigits 2 (m / 2)).length + 1)
      rw [Nat.pow_succ]
      omega
theorem digits_le : ∀ (k m : Nat), 1 ≤ k → m < 2 ^ k → (Nat.toDigits 2 m).length ≤ k
  | 0, m, h, _ => by omega
  | k + 1, m, _, h => by
    by_cases h2 : m < 2
    · rw [Nat.toDigits_of_lt_base h2]
      simp
    · rw [Nat.toDigits_of_base_le (by decide) (by omega), List.length_append]
      have hk : 1 ≤ k := by
        cases k with
        | zero => simp at h; omega
        | succ k => omega
      have := digits_le k (m / 2) hk (by rw [Nat.pow_succ] at h; omega)
      simp
      omega
/-- the places of the ones, upwards -/
def bitsN (m : Nat) : List Nat := (List.range (Nat.toDigits 2 m).length).filter m.testBit
theorem mem_bits {m j : Nat} : j ∈ bitsN m ↔ m.testBit j = true := by
  unfold bitsN
  rw [List.mem_filter, List.mem_range]
  refine ⟨fun h => h.2, fun h => ⟨?_, h⟩⟩
  refine Decidable.byContradiction fun q => ?_
  have := Nat.testBit_lt_two_pow (Nat.lt_of_lt_of_le (digits_lt m) (Nat.pow_le_pow_right (by decide) (Nat.le_of_not_lt q)))
  rw [h] at this
  cases this
theorem bits_sorted (m : Nat) : (bitsN m).Pairwise (· < ·) := by
  unfold bitsN
  exact List.pairwise_lt_range.sublist List.filter_sublist
theorem bits_lt {m n j : Nat} (h : m < 2 ^ n) (hj : j ∈ bitsN m) : j < n := by
  refine Decidable.byContradiction fun q => ?_
  have := Nat.testBit_lt_two_pow (Nat.lt_of_lt_of_le h (Nat.pow_le_pow_right (by decide) (Nat.le_of_not_lt q)))
  rw [mem_bits.mp hj] at this
  cases this
/-! ### the lowest one -/
theorem low_one : ∀ m : Nat, 0 < m → ∃ t, m - (m &&& (m - 1)) = 2 ^ t ∧ m.testBit t = true ∧ 2 ^ t ≤ m ∧ ∀ j, (m - 2 ^ t).testBit j = (m.testBit j && !decide (j = t)) := by
  intro m
  induction m using Nat.strongRecOn with
  | ind m ih =>
    intro hm
    by_cases h : m % 2 = 1
    · refine ⟨0, ?_, by simp [Nat.testBit_zero, h], by simp; omega, fun j => ?_⟩
      · have e : m &&& (m - 1) = m - 1 := by
          apply Nat.eq_of_testBit_eq
          intro i
          rw [Nat.testBit_and]
          cases i with
          | zero =>
            have : (m - 1).testBit 0 = false := by simp [Nat.testBit_zero]; omega
            rw [this, Bool.and_false]
          | succ i =>
            rw [Nat.testBit_succ, Nat.testBit_succ]
            have : (m - 1) / 2 = m / 2 := by omega
            rw [this, Bool.and_self]
        rw [e]
        simp
        omega
      · cases j with
        | zero =>
          have : (m - 2 ^ 0).testBit 0 = false := by simp [Nat.testBit_zero]; omega
          rw [this]
          simp
        | succ j =>
          rw [Nat.testBit_succ, Nat.testBit_succ]
          have : (m - 2 ^ 0) / 2 = m / 2 := by simp; omega
          rw [this]
          simp
    · obtain ⟨t, h1, h2, h3, h4⟩ := ih (m / 2) (by omega) (by omega)
      refine ⟨t + 1, ?_, by rw [Nat.testBit_succ]; exact h2, by rw [Nat.pow_succ]; omega, fun j => ?_⟩
      · have e : m &&& (m - 1) = 2 * ((m / 2) &&& (m / 2 - 1)) := by
          apply Nat.eq_of_testBit_eq
          intro i
          cases i with
          | zero =>
            rw [Nat.testBit_and]
            have : m.testBit 0 = false := by simp [Nat.testBit_zero]; omega
            rw [this]
            simp [Nat.testBit_zero]
          | succ i =>
            rw [Nat.testBit_and, Nat.testBit_succ, Nat.testBit_succ, Nat.testBit_succ]
            have e1 : (m - 1) / 2 = m / 2 - 1 := by omega
            have e2 : 2 * (m / 2 &&& (m / 2 - 1)) / 2 = (m / 2 &&& (m / 2 - 1)) := by omega
            rw [e1, e2, Nat.testBit_and]
        rw [e, Nat.pow_succ]
        have : m / 2 &&& (m / 2 - 1) ≤ m / 2 := Nat.and_le_left
        omega
      · cases j with
        | zero =>
          have e1 : (m - 2 ^ (t + 1)).testBit 0 = false := by
            simp [Nat.testBit_zero]
            rw [Nat.pow_succ]
            omega
          have e2 : m.testBit 0 = false := by simp [Nat.testBit_zero]; omega
          rw [e1, e2]
          rfl
        | succ j =>
          rw [Nat.testBit_succ, Nat.testBit_succ]
          have e1 : (m - 2 ^ (t + 1)) / 2 = m / 2 - 2 ^ t := by rw [Nat.pow_succ]; omega
          rw [e1, h4 j]
          congr 1
          simp
/-! ### relations: rows of masks -/
def imageN (r : List Nat) (m : Nat) : Nat := ((List.range r.length).filter m.testBit).foldl (fun a i => a ||| r.getD i 0) 0
theorem fold_or (f : Nat → Nat) : ∀ (l : List Nat) (a j : Nat), (l.foldl (fun a i => a ||| f i) a).testBit j = true ↔ a.testBit j = true ∨ ∃ i ∈ l, (f i).testBit j = true
  | [], a, j => by simp
  | i :: l, a, j => by
    rw [List.foldl_cons, fold_or f l, Nat.testBit_or, Bool.or_eq_true]
    simp only [List.mem_cons, exists_eq_or_imp]
    exact or_assoc
theorem image_bit {r : List Nat} {m j : Nat} : (imageN r m).testBit j = true ↔ ∃ i, i < r.length ∧ m.testBit i = true ∧ (r.getD i 0).testBit j = true := by
  unfold imageN
  rw [fold_or (fun i => r.getD i 0)]
  simp only [Nat.zero_testBit, Bool.false_eq_true, false_or, List.mem_filter, List.mem_range]
  constructor
  · rintro ⟨i, ⟨h1, h2⟩, h3⟩
    exact ⟨i, h1, h2, h3⟩
  · rintro ⟨i, h1, h2, h3⟩
    exact ⟨i, ⟨h1, h2⟩, h3⟩
theorem bit_ext {x y : Nat} (h : ∀ j, x.testBit j = true ↔ y.testBit j = true) : x = y := Nat.eq_of_testBit_eq fun j => Bool.eq_iff_iff.mpr (h j)
theorem image_zero (r : List Nat) : imageN r 0 = 0 := bit_ext fun j => by
  rw [image_bit]
  simp
/-- one turn of image's loop -/
theorem image_step {r : List Nat} {m t : Nat} (ht : t < r.length) (hb : m.testBit t = true) (hs : ∀ j, (m - 2 ^ t).testBit j = (m.testBit j && !decide (j = t))) : r.getD t 0 ||| imageN r (m - 2 ^ t) = imageN r m := bit_ext fun j => by
  rw [Nat.testBit_or, Bool.or_eq_true, image_bit, image_bit]
  constructor
  · rintro (h | ⟨i, h1, h2, h3⟩)
    · exact ⟨t, ht, hb, h⟩
    · rw [hs, Bool.and_eq_true] at h2
      exact ⟨i, h1, h2.1, h3⟩
  · rintro ⟨i, h1, h2, h3⟩
    by_cases e : i = t
    · subst e
      exact .inl h3
    · exact .inr ⟨i, h1, by rw [hs, h2]; simp [e], h3⟩
/-- a relation of n states -/
structure Rl (n : Nat) (r : List Nat) : Prop where
  len : r.length = n
  lt : ∀ i, i < n → r.getD i 0 < 2 ^ n
theorem bit_lt {m n j : Nat} (h : m < 2 ^ n) (hj : m.testBit j = true) : j < n := bits_lt h (mem_bits.mpr hj)
theorem lt_of_bits {m n : Nat} (h : ∀ j, m.testBit j = true → j < n) : m < 2 ^ n := Nat.lt_pow_two_of_testBit m fun j hj => by
  cases q : m.testBit j with
  | false => rfl
  | true => exact absurd (h j q) (by omega)
theorem Rl.bit {n : Nat} {r : List Nat} (h : Rl n r) {i j : Nat} (hb : (r.getD i 0).testBit j = true) : i < n ∧ j < n := by
  by_cases hi : i < n
  · exact ⟨hi, bit_lt (h.lt i hi) hb⟩
  · rw [List.getD_eq_getElem?_getD, List.getElem?_eq_none (by rw [h.len]; omega)] at hb
    simp at hb
theorem rl_ext {n : Nat} {r s : List Nat} (hr : r.length = n) (hs : s.length = n) (h : ∀ i j, i < n → ((r.getD i 0).testBit j = true ↔ (s.getD i 0).testBit j = true)) : r = s := by
  apply List.ext_getElem
  · rw [hr, hs]
  · intro i h1 h2
    have := bit_ext fun j => h i j (by omega)
    simpa [List.getD_eq_getElem?_getD, h1, h2] using this
theorem image_lt {n : Nat} {r : List Nat} (h : Rl n r) (m : Nat) : imageN r m < 2 ^ n := lt_of_bits fun j hj => by
  obtain ⟨i, h1, h2, h3⟩ := image_bit.mp hj
  exact (h.bit h3).2
def idN (n : Nat) : List Nat := (List.range n).map fun i => 2 ^ i
def unionN (r s : List Nat) : List Nat := (List.range r.length).map fun i => r.getD i 0 ||| s.getD i 0
def afterN (r s : List Nat) : List Nat := (List.range r.length).map fun i => imageN s (r.getD i 0)
theorem getD_map {α : Type} (f : Nat → α) {n i : Nat} (d : α) (h : i < n) : ((List.range n).map f).getD i d = f i := by
  simp [List.getD_eq_getElem?_getD, h]
theorem union_len (r s : List Nat) : (unionN r s).length = r.length := by simp [unionN]
theorem after_len (r s : List Nat) : (afterN r s).length = r.length := by simp [afterN]
theorem id_len (n : Nat) : (idN n).length = n := by simp [idN]
theorem union_bit {r s : List Nat} {i j : Nat} (hi : i < r.length) : ((unionN r s).getD i 0).testBit j = true ↔ (r.getD i 0).testBit j = true ∨ (s.getD i 0).testBit j = true := by
  unfold unionN
  rw [getD_map _ _ hi, Nat.testBit_or, Bool.or_eq_true]
theorem after_bit {r s : List Nat} {i j : Nat} (hi : i < r.length) : ((afterN r s).getD i 0).testBit j = true ↔ ∃ k, k < s.length ∧ (r.getD i 0).testBit k = true ∧ (s.getD k 0).testBit j = true := by
  unfold afterN
  rw [getD_map _ _ hi, image_bit]
theorem id_rl (n : Nat) : Rl n (idN n) := ⟨id_len n, fun i hi => by
  unfold idN
  rw [getD_map _ _ hi]
  exact Nat.pow_lt_pow_right (by decide) hi⟩
theorem union_rl {n : Nat} {r s : List Nat} (hr : Rl n r) (hs : Rl n s) : Rl n (unionN r s) := ⟨by rw [union_len, hr.len], fun i hi => lt_of_bits fun j hj => by
  rcases (union_bit (by rw [hr.len]; exact hi)).mp hj with h | h
  · exact (hr.bit h).2
  · exact (hs.bit h).2⟩
theorem after_rl {n : Nat} {r s : List Nat} (hr : Rl n r) (hs : Rl n s) : Rl n (afterN r s) := ⟨by rw [after_len, hr.len], fun i hi => by
  unfold afterN
  rw [getD_map _ _ (by rw [hr.len]; exact hi)]
  exact image_lt hs _⟩
theorem rl_cons {n m : Nat} {r : List Nat} (h : ∀ x ∈ m :: r, x < 2 ^ n) : m < 2 ^ n ∧ ∀ x ∈ r, x < 2 ^ n := ⟨h m List.mem_cons_self, fun x hx => h x (List.mem_cons_of_mem _ hx)⟩
theorem rl_mem {n : Nat} {r : List Nat} (h : Rl n r) {x : Nat} (hx : x ∈ r) : x < 2 ^ n := by
  obtain ⟨i, hi, e⟩ := List.mem_iff_getElem.mp hx
  have := h.lt i (by rw [← h.len]; exact hi)
  rw [List.getD_eq_getElem?_getD, List.getElem?_eq_getElem hi] at this
  rw [← e]
  exact this
theorem rl_of {n : Nat} {r : List Nat} (h1 : r.length = n) (h2 : ∀ x ∈ r, x < 2 ^ n) : Rl n r := ⟨h1, fun i hi => by
  rw [List.getD_eq_getElem?_getD, List.getElem?_eq_getElem (by rw [h1]; exact hi)]
  exact h2 _ (List.getElem_mem _)⟩
end Km
end
section
set_option linter.all false
namespace Km
/-! ### flipped -/
def orAt (l : List Nat) (j b : Nat) : List Nat := l.set j (l.getD j 0 ||| b)
theorem orAt_len (l : List Nat) (j b : Nat) : (orAt l j b).length = l.length := by simp [orAt]
theorem orAt_bit {l : List Nat} {j b i k : Nat} (hj : j < l.length) : ((orAt l j b).getD i 0).testBit k = true ↔ (l.getD i 0).testBit k = true ∨ (i = j ∧ b.testBit k = true) := by
  unfold orAt
  by_cases e : i = j
  · subst e
    rw [List.getD_eq_getElem?_getD, List.getElem?_set_self hj]
    simp [Nat.testBit_or]
  · rw [List.getD_eq_getElem?_getD, List.getElem?_set_ne (Ne.symm e), ← List.getD_eq_getElem?_getD]
    simp [e]
def flipRow (l : List Nat) (i : Nat) (js : List Nat) : List Nat := js.foldl (fun l j => orAt l j (2 ^ i)) l
theorem flipRow_len (i : Nat) : ∀ (js l : List Nat), (flipRow l i js).length = l.length
  | [], l => rfl
  | j :: js, l => by
    show (flipRow (orAt l j (2 ^ i)) i js).length = _
    rw [flipRow_len i js, orAt_len]
theorem flipRow_bit {i a k : Nat} : ∀ (js l : List Nat), (∀ j ∈ js, j < l.length) → (((flipRow l i js).getD a 0).testBit k = true ↔ (l.getD a 0).testBit k = true ∨ (a ∈ js ∧ k = i))
  | [], l, _ => by simp [flipRow]
  | j :: js, l, h => by
    show ((flipRow (orAt l j (2 ^ i)) i js).getD a 0).testBit k = true ↔ _
    rw [flipRow_bit js _ (fun x hx => by rw [orAt_len]; exact h x (List.mem_cons_of_mem _ hx)), orAt_bit (h j List.mem_cons_self), Nat.testBit_two_pow]
    simp only [decide_eq_true_eq, List.mem_cons]
    constructor
    · rintro ((h | ⟨h1, h2⟩) | ⟨h1, h2⟩)
      · exact .inl h
      · exact .inr ⟨.inl h1, h2.symm⟩
      · exact .inr ⟨.inr h1, h2⟩
    · rintro (h | ⟨h1 | h1, h2⟩)
      · exact .inl (.inl h)
      · exact .inl (.inr ⟨h1, h2.symm⟩)
      · exact .inr ⟨h1, h2⟩
def flipTo (r : List Nat) : Nat → List Nat
  | 0 => List.replicate r.length 0
  | i + 1 => flipRow (flipTo r i) i (bitsN (r.getD i 0))
def flippedN (r : List Nat) : List Nat := flipTo r r.length
theorem flipTo_len (r : List Nat) : ∀ i, (flipTo r i).length = r.length
  | 0 => by simp [flipTo]
  | i + 1 => by
    show (flipRow _ _ _).length = _
    rw [flipRow_len, flipTo_len r i]
theorem flipTo_bit {n : Nat} {r : List Nat} (hr : Rl n r) {a k : Nat} : ∀ i, i ≤ n → (((flipTo r i).getD a 0).testBit k = true ↔ k < i ∧ (r.getD k 0).testBit a = true)
  | 0, _ => by
    show ((List.replicate r.length 0).getD a 0).testBit k = true ↔ _
    have : (List.replicate r.length 0).getD a 0 = 0 := by
      rw [List.getD_eq_getElem?_getD, List.getElem?_replicate]
      split <;> rfl
    rw [this]
    simp
  | i + 1, hi => by
    show ((flipRow (flipTo r i) i (bitsN (r.getD i 0))).getD a 0).testBit k = true ↔ _
    rw [flipRow_bit _ _ (fun j hj => by rw [flipTo_len, hr.len]; exact (hr.bit (mem_bits.mp hj)).2), flipTo_bit hr i (by omega), mem_bits]
    constructor
    · rintro (⟨h1, h2⟩ | ⟨h1, rfl⟩)
      · exact ⟨by omega, h2⟩
      · exact ⟨by omega, h1⟩
    · rintro ⟨h1, h2⟩
      by_cases e : k = i
      · subst e
        exact .inr ⟨h2, rfl⟩
      · exact .inl ⟨by omega, h2⟩
theorem flipped_len (r : List Nat) : (flippedN r).length = r.length := flipTo_len r _
theorem flipped_bit {n : Nat} {r : List Nat} (hr : Rl n r) {i j : Nat} : ((flippedN r).getD i 0).testBit j = true ↔ (r.getD j 0).testBit i = true := by
  unfold flippedN
  rw [hr.len, flipTo_bit hr n (Nat.le_refl n)]
  exact ⟨fun h => h.2, fun h => ⟨(hr.bit h).1, h⟩⟩
theorem flipped_rl {n : Nat} {r : List Nat} (hr : Rl n r) : Rl n (flippedN r) := ⟨by rw [flipped_len, hr.len], fun i hi => lt_of_bits fun j hj => (hr.bit ((flipped_bit hr).mp hj)).1⟩
theorem flipped_twice {n : Nat} {r : List Nat} (hr : Rl n r) : flippedN (flippedN r) = r := rl_ext (n := n) (by rw [flipped_len, flipped_len, hr.len]) hr.len fun i j _ => by rw [flipped_bit (flipped_rl hr), flipped_bit hr]
/-! ### closed: Warshall -/
def stepC (m a : Nat) (l : List Nat) (s : Nat) : List Nat := if (l.getD s 0).testBit m then l.set s (l.getD s 0 ||| a) else l
def innC (m a : Nat) (l : List Nat) : Nat → List Nat
  | 0 => l
  | s + 1 => stepC m a (innC m a l s) s
def outC (l : List Nat) : Nat → List Nat
  | 0 => l
  | m + 1 => innC m ((outC l m).getD m 0) (outC l m) (outC l m).length
def startC (r : List Nat) : List Nat := (List.range r.length).map fun i => r.getD i 0 ||| 2 ^ i
def closedN (r : List Nat) : List Nat := outC (startC r) (startC r).length
theorem stepC_len (m a : Nat) (l : List Nat) (s : Nat) : (stepC m a l s).length = l.length := by
  unfold stepC
  split <;> simp
theorem innC_len (m a : Nat) (l : List Nat) : ∀ s, (innC m a l s).length = l.length
  | 0 => rfl
  | s + 1 => by
    show (stepC m a _ s).length = _
    rw [stepC_len, innC_len m a l s]
theorem outC_len (l : List Nat) : ∀ m, (outC l m).length = l.length
  | 0 => rfl
  | m + 1 => by
    show (innC _ _ _ _).length = _
    rw [innC_len, outC_len l m]
theorem startC_len (r : List Nat) : (startC r).length = r.length := by simp [startC]
theorem closed_len (r : List Nat) : (closedN r).length = r.length := by
  unfold closedN
  rw [outC_len, startC_len]
theorem getD_set {l : List Nat} {s i v : Nat} (hs : s < l.length) : (l.set s v).getD i 0 = if i = s then v else l.getD i 0 := by
  by_cases e : i = s
  · subst e
    rw [if_pos rfl, List.getD_eq_getElem?_getD, List.getElem?_set_self hs]
    rfl
  · rw [if_neg e, List.getD_eq_getElem?_getD, List.getElem?_set_ne (Ne.symm e), ← List.getD_eq_getElem?_getD]
theorem innC_get (m a : Nat) (l : List Nat) (i : Nat) : ∀ s, s ≤ l.length → (innC m a l s).getD i 0 = if i < s ∧ (l.getD i 0).testBit m = true then l.getD i 0 ||| a else l.getD i 0
  | 0, _ => by simp [innC]
  | s + 1, h => by
    show (stepC m a (innC m a l s) s).getD i 0 = _
    have es := innC_get m a l s s (by omega)
    rw [if_neg (by omega)] at es
    have ei := innC_get m a l i s (by omega)
    unfold stepC
    rw [es]
    by_cases hb : (l.getD s 0).testBit m = true
    · rw [if_pos hb, getD_set (by rw [innC_len]; omega), ei]
      by_cases e : i = s
      · subst e
        rw [if_pos rfl, if_pos ⟨by omega, hb⟩]
      · rw [if_neg e]
        by_cases q : i < s
        · simp [q, show i < s + 1 by omega]
        · simp [q, show ¬ i < s + 1 by omega]
    · rw [if_neg hb, ei]
      by_cases e : i = s
      · subst e
        rw [if_neg (by omega), if_neg (fun q => hb q.2)]
      · by_cases q : i < s
        · simp [q, show i < s + 1 by omega]
        · simp [q, show ¬ i < s + 1 by omega]
/-- reached by a path -/
inductive Rch (r : List Nat) : Nat → Nat → Prop
  | refl (i : Nat) : Rch r i i
  | step {i j k : Nat} : (r.getD i 0).testBit j = true → Rch r j k → Rch r i k
theorem Rch.trans {r : List Nat} {i j k : Nat} (h : Rch r i j) (g : Rch r j k) : Rch r i k := by
  induction h with
  | refl i => exact g
  | step a _ ih => exact .step a (ih g)
theorem Rch.one {r : List Nat} {i j : Nat} (h : (r.getD i 0).testBit j = true) : Rch r i j := .step h (.refl j)
theorem startC_bit {r : List Nat} {i j : Nat} (hi : i < r.length) : ((startC r).getD i 0).testBit j = true ↔ (r.getD i 0).testBit j = true ∨ i = j := by
  unfold startC
  rw [getD_map _ _ hi, Nat.testBit_or, Bool.or_eq_true, Nat.testBit_two_pow]
  simp
theorem getD_none {l : List Nat} {i : Nat} (h : l.length ≤ i) : l.getD i 0 = 0 := by
  rw [List.getD_eq_getElem?_getD, List.getElem?_eq_none h]
  rfl
/-- all that stands is reached -/
theorem outC_sound {r : List Nat} : ∀ m i j, ((outC (startC r) m).getD i 0).testBit j = true → Rch r i j
  | 0, i, j, h => by
    by_cases hi : i < r.length
    · rcases (startC_bit hi).mp h with h | h
      · exact .one h
      · subst h
        exact .refl i
    · have : (outC (startC r) 0).getD i 0 = 0 := getD_none (by show (startC r).length ≤ i; rw [startC_len]; omega)
      rw [this] at h
      simp at h
  | m + 1, i, j, h => by
    have e := innC_get m ((outC (startC r) m).getD m 0) (outC (startC r) m) i (outC (startC r) m).length (Nat.le_refl _)
    have h : ((innC m ((outC (startC r) m).getD m 0) (outC (startC r) m) (outC (startC r) m).length).getD i 0).testBit j = true := h
    rw [e] at h
    split at h
    · rename_i q
      rw [Nat.testBit_or, Bool.or_eq_true] at h
      rcases h with h | h
      · exact outC_sound m i j h
      · exact (outC_sound m i m q.2).trans (outC_sound m m j h)
    · exact outC_sound m i j h
theorem outC_mono {l : List Nat} {i j : Nat} (h : (l.getD i 0).testBit j = true) : ∀ m, ((outC l m).getD i 0).testBit j = true
  | 0 => h
  | m + 1 => by
    show ((innC _ _ _ _).getD i 0).testBit j = true
    rw [innC_get _ _ _ _ _ (Nat.le_refl _)]
    split
    · rw [Nat.testBit_or, outC_mono h m]
      rfl
    · exact outC_mono h m
theorem outC_next {l : List Nat} {m i j : Nat} (hi : i < l.length) : ((outC l (m + 1)).getD i 0).testBit j = true ↔ ((outC l m).getD i 0).testBit j = true ∨ (((outC l m).getD i 0).testBit m = true ∧ ((outC l m).getD m 0).testBit j = true) := by
  show ((innC m ((outC l m).getD m 0) (outC l m) (outC l m).length).getD i 0).testBit j = true ↔ _
  rw [innC_get _ _ _ _ _ (Nat.le_refl _)]
  by_cases hb : ((outC l m).getD i 0).testBit m = true
  · rw [if_pos ⟨by rw [outC_len]; exact hi, hb⟩, Nat.testBit_or, Bool.or_eq_true]
    exact ⟨fun h => h.imp id fun h => ⟨hb, h⟩, fun h => h.imp id fun h => h.2⟩
  · rw [if_neg fun q => hb q.2]
    exact ⟨.inl, fun h => h.elim id fun h => absurd h.1 hb⟩
theorem outC_trans {l : List Nat} : ∀ (m i j k : Nat), m ≤ l.length → i < l.length → k < m → ((outC l m).getD i 0).testBit k = true → ((outC l m).getD k 0).testBit j = true → ((outC l m).getD i 0).testBit j = true
  | 0, _, _, _, _, _, h, _, _ => by omega
  | m + 1, i, j, k, hm, hi, hk, h1, h2 => by
    have ih := fun (i j k : Nat) (hi : i < l.length) (hk : k < m) => outC_trans (l := l) m i j k (by omega) hi hk
    rw [outC_next (by omega)] at h1 h2 ⊢
    by_cases e : k = m
    · subst e
      have g1 : ((outC l k).getD i 0).testBit k = true := h1.elim id fun h => h.1
      have g2 : ((outC l k).getD k 0).testBit j = true := h2.elim id fun h => h.2
      exact .inr ⟨g1, g2⟩
    · have hk2 : k < m := by omega
      rcases h1 with h1 | ⟨h1, h3⟩
      · rcases h2 with h2 | ⟨h2, h4⟩
        · exact .inl (ih i j k hi hk2 h1 h2)
        · exact .inr ⟨ih i m k hi hk2 h1 h2, h4⟩
      · rcases h2 with h2 | ⟨h2, h4⟩
        · exact .inr ⟨h1, ih m j k (by omega) hk2 h3 h2⟩
        · exact .inr ⟨h1, h4⟩
theorem closed_bit {n : Nat} {r : List Nat} (hr : Rl n r) {i j : Nat} : ((closedN r).getD i 0).testBit j = true ↔ i < n ∧ Rch r i j := by
  have hl : (startC r).length = n := by rw [startC_len, hr.len]
  constructor
  · intro h
    refine ⟨Decidable.byContradiction fun q => ?_, outC_sound _ i j h⟩
    rw [getD_none (by rw [closed_len, hr.len]; omega)] at h
    simp at h
  · rintro ⟨hi, h⟩
    unfold closedN
    induction h with
    | refl i => exact outC_mono ((startC_bit (by rw [hr.len]; exact hi)).mpr (.inr rfl)) _
    | @step i j k a _ ih =>
      have hj := (hr.bit a).2
      exact outC_trans _ i k j (Nat.le_refl _) (by rw [hl]; exact hi) (by rw [hl]; exact hj) (outC_mono ((startC_bit (by rw [hr.len]; exact hi)).mpr (.inl a)) _) (ih hj)
theorem Rch.lt {n : Nat} {r : List Nat} (hr : Rl n r) {i j : Nat} (h : Rch r i j) (hi : i < n) : j < n := by
  induction h with
  | refl i => exact hi
  | step a _ ih => exact ih (hr.bit a).2
theorem closed_rl {n : Nat} {r : List Nat} (hr : Rl n r) : Rl n (closedN r) := ⟨by rw [closed_len, hr.len], fun i hi => lt_of_bits fun j hj => ((closed_bit hr).mp hj).2.lt hr hi⟩
/-- a relation that is reflexive, transitive, and made of paths is the closed one -/
theorem closed_is {n : Nat} {r c : List Nat} (hr : Rl n r) (hc : Rl n c) (h0 : ∀ i, i < n → (c.getD i 0).testBit i = true) (ht : ∀ i j k, (r.getD i 0).testBit j = true → (c.getD j 0).testBit k = true → (c.getD i 0).testBit k = true)
    (hp : ∀ i j, (c.getD i 0).testBit j = true → Rch r i j) : closedN r = c := rl_ext (n := n) (closed_rl hr).len hc.len fun i j hi => by
  rw [closed_bit hr]
  constructor
  · rintro ⟨h1, h2⟩
    induction h2 with
    | refl i => exact h0 i h1
    | @step i j k a _ ih => exact ht i j k a (ih (hr.bit a).2 (hr.bit a).2)
  · intro h
    exact ⟨hi, hp i j h⟩
theorem closed_self {n : Nat} {c : List Nat} (hc : Rl n c) (h0 : ∀ i, i < n → (c.getD i 0).testBit i = true) (ht : ∀ i j k, (c.getD i 0).testBit j = true → (c.getD j 0).testBit k = true → (c.getD i 0).testBit k = true) : closedN c = c :=
  closed_is hc hc h0 ht fun i j h => .one h
end Km
end
section
set_option Elab.async false
set_option linter.all false
set_option maxRecDepth 100000
namespace K11
open PySem PySem.Spec PyProof.Rows L2 Wv Km
def top (i : Nat) : Stmt := PySem.Challenge.pw_waysbyviews_k11_relations_great.main.body.getD i (.Pass ⟨0, 0, 0, 0⟩)
/-- the built-ins that nothing of the program hides -/
structure Bl (mg : Str → Option Value) : Prop where
  tuple : mg "tuple" = none
  range : mg "range" = none
  len : mg "len" = none
  enumerate : mg "enumerate" = none
  zip : mg "zip" = none
  int : mg "int" = none
  abs : mg "abs" = none
  min : mg "min" = none
  list : mg "list" = none
  repr : mg "repr" = none
  set : mg "set" = none
  sorted : mg "sorted" = none
  isinstance : mg "isinstance" = none
section
variable {P : Program} {w : World} {K : PySem.W.Frag} {mg : Str → Option Value} {base : Heap}
/-! ### identity, nowhere -/
def RIdent (ds : List Da) (d : Da) : Prop := ∃ n : Nat, n ≤ 1000 ∧ ds = [.int n] ∧ d = .tup (ns (idN n))
theorem sc_ident : FnScope ["states", "state"] ["states"] (defScope (top 1)) := ⟨rfl, rfl, rfl, by decide +kernel, rfl, by decide +kernel, by decide +kernel⟩
theorem ok_ident (B : Bl mg) (D : Def K mg "identity" "identity" (top 1) ["states"]) : Fnc P w K mg base CX0 2 "identity" ["states"] (spD K RIdent) := by
  refine fnc_d D sc_ident (fun ds d ⟨n, _, h, _⟩ => by rw [h]; rfl) fun X T S hr ds d ⟨n, hn, h1, h2⟩ => ?_
  obtain ⟨rfl, rfl, rfl, rfl, rfl⟩ := T
  subst h1 h2
  refine q_ret (d_tuple (S.gl rfl) B.tuple (f_d (f_lc S (own := [("state", 1)]) (d_range (S.gl rfl) B.range (d_nm S 0 rfl) (by omega)) (by decide +kernel) (fun i => some (.int ((2 ^ i : Nat) : Int))) (fun i => [.d (.int n), .d (.int (i : Nat))]) (by omega) (fun i hi => ⟨fun s H C cl fp => ?_, fun s H C cl fp => pts_y, fun d hd s H C cl fp => ?_⟩)))) ?_
  · exact gc_nm (sco_blk S rfl s H C cl fp) 1
  · cases hd
    exact d_oneN (by omega) (d_nm (sco_blk S rfl s H C cl fp) 1 rfl)
  · show Da.tup _ = Da.tup _
    congr 1
    simp [ns, idN, List.filterMap_eq_map, Function.comp_def]
def RNo (ds : List Da) (d : Da) : Prop := ∃ n : Nat, n ≤ 1000 ∧ ds = [.int n] ∧ d = .tup (ns (List.replicate n 0))
theorem sc_no : FnScope ["states", "_"] ["states"] (defScope (top 2)) := ⟨rfl, rfl, rfl, by decide +kernel, rfl, by decide +kernel, by decide +kernel⟩
theorem fm_const {α : Type} (x : α) : ∀ m : Nat, (List.range m).filterMap (fun _ => some x) = List.replicate m x := fun m => by
  rw [List.filterMap_eq_map', List.map_const', List.length_range]
theorem ok_no (B : Bl mg) (D : Def K mg "nowhere" "nowhere" (top 2) ["states"]) : Fnc P w K mg base CX0 2 "nowhere" ["states"] (spD K RNo) := by
  refine fnc_d D sc_no (fun ds d ⟨n, _, h, _⟩ => by rw [h]; rfl) fun X T S hr ds d ⟨n, hn, h1, h2⟩ => ?_
  obtain ⟨rfl, rfl, rfl, rfl, rfl⟩ := T
  subst h1 h2
  refine q_ret (d_tuple (S.gl rfl) B.tuple (f_d (f_lc S (own := [("_", 1)]) (d_range (S.gl rfl) B.range (d_nm S 0 rfl) (by omega)) (by decide +kernel) (fun i => some (.int 0)) (fun i => [.d (.int n), .d (.int (i : Nat))]) (by omega) (fun i hi => ⟨fun s H C cl fp => ?_, fun s H C cl fp => pts_y, fun d hd s H C cl fp => ?_⟩)))) ?_
  · exact gc_nm (sco_blk S rfl s H C cl fp) 1
  · cases hd
    exact d_int
  · show Da.tup _ = Da.tup _
    congr 1
    rw [fm_const]
    simp [ns]
/-! ### members, mask_of -/
def RMem (ds : List Da) (d : Da) : Prop := ∃ m : Nat, m < 2 ^ 300 ∧ ds = [.int m] ∧ d = .lst (ns (bitsN m))
theorem sc_mem : FnScope ["mask", "digits", "at", "digit"] ["mask"] (defScope (top 3)) := ⟨rfl, rfl, rfl, by decide +kernel, rfl, by decide +kernel, by decide +kernel⟩
theorem rev_size (m : Nat) : (⟨(binS m).cps.toList.reverse.toArray⟩ : Str).cps.size = (Nat.toDigits 2 m).length := by
  show (((Nat.toDigits 2 m).map Char.toNat).toArray.toList.reverse.toArray).size = _
  simp
theorem rev_get (m i : Nat) (h : i < (Nat.toDigits 2 m).length) : (⟨(binS m).cps.toList.reverse.toArray⟩ : Str).cps.getD i 0 = if m.testBit i then 49 else 48 := by
  show (((Nat.toDigits 2 m).map Char.toNat).toArray.toList.reverse.toArray).getD i 0 = _
  have : ((Nat.toDigits 2 m).map Char.toNat).toArray.toList.reverse = (List.range (Nat.toDigits 2 m).length).map (fun i => if m.testBit i then 49 else 48) := by
    rw [← digits_rev]
  rw [this]
  simp [h]
theorem fm_filter (p : Nat → Bool) : ∀ l : List Nat, l.filterMap (fun i => if p i then some (Da.int ((i : Nat) : Int)) else none) = ns (l.filter p)
  | [] => rfl
  | i :: l => by
    rw [List.filterMap_cons, List.filter_cons]
    cases p i
    · simp only [Bool.false_eq_true, if_false]
      exact fm_filter p l
    · simp only [if_true]
      rw [fm_filter p l]
      rfl
theorem ok_mem (B : Bl mg) (D : Def K mg "members" "members" (top 3) ["mask"]) : Fnc P w K mg base CX0 2 "members" ["mask"] (spD K RMem) := by
  refine fnc_d D sc_mem (fun ds d ⟨n, _, h, _⟩ => by rw [h]; rfl) fun X T S hr ds d ⟨m, hm, h1, h2⟩ => ?_
  obtain ⟨rfl, rfl, rfl, rfl, rfl⟩ := T
  subst h1 h2
  have hL : (Nat.toDigits 2 m).length ≤ 300 := digits_le 300 m (by decide) hm
  have hbl : (binS m).length = (Nat.toDigits 2 m).length := by
    show ((Nat.toDigits 2 m).map Char.toNat).toArray.size = _
    simp
  refine q_asg S 1 (d_fmtB (by omega) (d_nm S 0 rfl)) ?_
  refine q_ret (f_d (f_lc S (own := [("at", 2), ("digit", 3)]) (i_enumS (S.gl rfl) B.enumerate (d_revS (by omega) (d_nm S 1 rfl))) (by decide +kernel) (fun i => if m.testBit i then some (.int ((i : Nat) : Int)) else none)
    (fun i => [.d (.int m), .d (.str (binS m)), .d (.int (i : Nat)), .d (.str ⟨#[if m.testBit i then 49 else 48]⟩)]) (by rw [rev_size]; omega) (fun i hi => ⟨fun s H C cl fp => ?_, fun s H C cl fp => pts_1 ?_, fun d hd s H C cl fp => ?_⟩))) ?_
  · rw [rev_get m i (by rw [rev_size] at hi; exact hi)]
    exact gc_tup2 (sco_blk S rfl s H C cl fp) (gc_nm (sco_blk S rfl s H C cl fp) 2) (gc_nm (sco_blk S rfl s H C cl fp) 3)
  · refine t_is (t_eqS (d_nm (sco_blk S rfl s H C cl fp) 3 rfl) d_str) ?_
    cases m.testBit i
    · exact (by decide : decide ((⟨#[48]⟩ : Str) = Str.ofString "1") = false)
    · exact (by decide : decide ((⟨#[49]⟩ : Str) = Str.ofString "1") = true)
  · have e : m.testBit i = true := by
      cases q : m.testBit i with
      | true => rfl
      | false => rw [q] at hd; cases hd
    rw [e] at hd ⊢
    cases hd
    exact d_nm (sco_blk S rfl s H C cl fp) 2 rfl
  · show Da.lst _ = Da.lst _
    congr 1
    rw [rev_size, fm_filter]
    rfl
/-! ### mask_of, image -/
def maskOf (l : List Nat) : Nat := l.foldl (fun m x => m ||| 2 ^ x) 0
theorem take_next {α : Type} {l : List α} {i : Nat} {x : α} (h : l[i]? = some x) : l.take (i + 1) = l.take i ++ [x] := by
  rw [List.take_add_one, h]
  rfl
theorem getD_some {l : List Nat} {i : Nat} (h : i < l.length) : l[i]? = some (l.getD i 0) := by
  rw [List.getD_eq_getElem?_getD, List.getElem?_eq_getElem h]
  rfl
def RMask (ds : List Da) (d : Da) : Prop := ∃ l : List Nat, (∀ x ∈ l, x ≤ 1000) ∧ ds = [.lst (ns l)] ∧ d = .int ((maskOf l : Nat) : Int)
theorem sc_mask : FnScope ["numbers", "mask", "number"] ["numbers"] (defScope (top 4)) := ⟨rfl, rfl, rfl, by decide +kernel, rfl, by decide +kernel, by decide +kernel⟩
theorem ok_mask (D : Def K mg "mask_of" "mask_of" (top 4) ["numbers"]) : Fnc P w K mg base CX0 2 "mask_of" ["numbers"] (spD K RMask) := by
  refine fnc_d D sc_mask (fun ds d ⟨n, _, h, _⟩ => by rw [h]; rfl) fun X T S hr ds d ⟨l, hl, h1, h2⟩ => ?_
  obtain ⟨rfl, rfl, rfl, rfl, rfl⟩ := T
  subst h1 h2
  refine q_asg S 1 d_n0 ?_
  refine q_for S (i_list (d_nm S 0 rfl)) (fun i ρ => ∃ z, ρ = [.d (.lst (ns l)), .d (.int ((maskOf (l.take i) : Nat) : Int)), z] ∧ z.isOwn = false) ⟨_, rfl, rfl⟩ (fun i ρ hi ⟨z, hρ, hz⟩ => ?_) (fun ρ ⟨z, hρ, hz⟩ => ?_)
  · subst hρ
    rw [ns_len] at hi
    rw [ns_getD hi]
    have hx := hl (l.getD i 0) (List.mem_of_getElem? (getD_some hi))
    refine ⟨_, g_nm S 2 (by show (!z.isOwn) = true; rw [hz]; rfl), ?_⟩
    refine q_asg S 1 (d_orN (d_nm S 1 rfl) (d_oneN (by omega) (d_nm S 2 rfl))) (sd_nil ⟨.d (.int ((l.getD i 0 : Nat) : Int)), ?_, rfl⟩)
    rw [take_next (getD_some hi)]
    show _ = [SV.d (.lst (ns l)), .d (.int (((List.foldl (fun m x => m ||| 2 ^ x) 0 (l.take i ++ [l.getD i 0])) : Nat) : Int)), .d _]
    rw [List.foldl_append]
    rfl
  · subst hρ
    rw [ns_len, List.take_length]
    exact q_ret (d_nm S 1 rfl) rfl
def RImg (ds : List Da) (d : Da) : Prop := ∃ (r : List Nat) (m : Nat), r.length ≤ 100 ∧ m < 2 ^ r.length ∧ ds = [.tup (ns r), .int m] ∧ d = .int ((imageN r m : Nat) : Int)
theorem sc_img : FnScope ["relation", "mask", "reached", "rest", "lowest"] ["relation", "mask"] (defScope (top 5)) := ⟨rfl, rfl, rfl, by decide +kernel, rfl, by decide +kernel, by decide +kernel⟩
theorem bits_pow (t : Nat) : Builtin.Int.intBits ((2 ^ t : Nat) : Int) = t + 1 := by
  unfold Builtin.Int.intBits
  have h : ¬ (((2 ^ t : Nat) : Int) == 0) = true := by
    intro q
    have q2 : (2 ^ t : Nat) = 0 := Int.ofNat_inj.mp (beq_iff_eq.mp q)
    have := Nat.two_pow_pos t
    omega
  rw [if_neg h, Int.natAbs_natCast, Nat.log2_two_pow]
theorem ok_img (D : Def K mg "image" "image" (top 5) ["relation", "mask"]) : Fnc P w K mg base CX0 2 "image" ["relation", "mask"] (spD K RImg) := by
  refine fnc_d D sc_img (fun ds d ⟨r, m, _, _, h, _⟩ => by rw [h]; rfl) fun X T S hr ds d ⟨r, m, hl, hm, h1, h2⟩ => ?_
  obtain ⟨rfl, rfl, rfl, rfl, rfl⟩ := T
  subst h1 h2
  refine q_asg S 2 d_n0 (q_asg S 3 (d_nm S 1 rfl) ?_)
  refine q_while S (fun q ρ => ∃ (a : Nat) (z : SV), ρ = [.d (.tup (ns r)), .d (.int m), .d (.int (a : Int)), .d (.int (q : Int)), z] ∧ z.isOwn = false ∧ q < 2 ^ r.length ∧ a ||| imageN r q = imageN r m) m ⟨0, _, rfl, rfl, hm, Nat.zero_or _⟩ fun q ρ ⟨a, z, hρ, hz, hq, he⟩ => ?_
  subst hρ
  refine ⟨_, _, t_neN (d_nm S 3 rfl) d_n0, fun hb => ?_, fun hb => ?_⟩
  · have h0 : 0 < q := by
      have : q ≠ 0 := by simpa using hb
      omega
    obtain ⟨t, g1, g2, g3, g4⟩ := low_one q h0
    have ht : t < r.length := bit_lt hq g2
    refine q_asg S 4 (d_low h0 (d_nm S 3 rfl) (d_neg (d_nm S 3 rfl))) (hn := by show (!z.isOwn) = true; rw [hz]; rfl) ?_
    rw [g1]
    have rt : (ns r)[t]? = some (.int ((r.getD t 0 : Nat) : Int)) := ns_get (getD_some ht)
    refine q_asg S 2 (d_orN (d_nm S 2 rfl) (d_ixT rt (d_nm S 0 rfl) (d_is (d_sub (d_bits (d_nm S 4 rfl)) d_int) (by rw [bits_pow]; congr 1; omega)))) ?_
    refine q_asg S 3 (d_subN g3 (d_nm S 3 rfl) (d_nm S 4 rfl)) (sd_nil ⟨q - 2 ^ t, by have := Nat.two_pow_pos t; omega, _, _, rfl, rfl, by omega, ?_⟩)
    rw [Nat.or_assoc, image_step ht g2 g4]
    exact he
  · have : q = 0 := by simpa using hb
    subst this
    rw [image_zero, Nat.or_zero] at he
    subst he
    exact q_ret (d_nm S 2 rfl) rfl
end
end K11
end
section
set_option Elab.async false
set_option linter.all false
set_option maxRecDepth 100000
namespace K11
open PySem PySem.Spec PyProof.Rows L2 Wv Km
section
variable {P : Program} {w : World} {K : PySem.W.Frag} {mg : Str → Option Value} {base : Heap}
def prD (l : List (Nat × Nat)) : List Da := l.map fun p => .tup [.int ((p.1 : Nat) : Int), .int ((p.2 : Nat) : Int)]
def pairsN (r : List Nat) : List (Nat × Nat) := (List.range r.length).flatMap fun i => (bitsN (r.getD i 0)).map fun j => (i, j)
def RPairs (ds : List Da) (d : Da) : Prop := ∃ (n : Nat) (r : List Nat), n ≤ 100 ∧ Rl n r ∧ ds = [.tup (ns r)] ∧ d = .lst (prD (pairsN r))
theorem sc_prs : FnScope ["relation", "state", "mask", "other"] ["relation"] (defScope (top 6)) := ⟨rfl, rfl, rfl, by decide +kernel, rfl, by decide +kernel, by decide +kernel⟩
set_option exponentiation.threshold 400 in
theorem pow_300 {n x : Nat} (hn : n ≤ 300) (h : x < 2 ^ n) : x < 2 ^ 300 := Nat.lt_of_lt_of_le h (Nat.pow_le_pow_right (by decide) hn)
theorem bits_len {n m : Nat} (hn : 1 ≤ n) (h : m < 2 ^ n) : (bitsN m).length ≤ n := by
  unfold bitsN
  refine Nat.le_trans (List.length_filter_le _ _) ?_
  rw [List.length_range]
  exact digits_le n m hn h
theorem map_getD (l : List Nat) (f : Nat → Da) : (List.range l.length).map (fun j => f (l.getD j 0)) = l.map f := by
  apply List.ext_getElem
  · simp
  · intro i h1 h2
    simp at h1
    simp [List.getD_eq_getElem?_getD, h1]
theorem ok_prs (B : Bl mg) (D : Def K mg "pairs_of" "pairs_of" (top 6) ["relation"]) (CM : Fnc P w K mg base CX0 2 "members" ["mask"] (spD K RMem)) : Fnc P w K mg base CX0 4 "pairs_of" ["relation"] (spD K RPairs) := by
  refine fnc_d D sc_prs (fun ds d ⟨_, n, _, _, h, _⟩ => by rw [h]; rfl) fun X T S hr ds d ⟨n, r, hn, hl, h1, h2⟩ => ?_
  obtain ⟨rfl, rfl, rfl, rfl, rfl⟩ := T
  subst h1 h2
  have dr : ∀ {i : Nat}, i < (ns r).length → i < r.length := fun {i} h => by rw [ns_len] at h; exact h
  refine q_ret (f_d (f_lc2 S (own := [("state", 1), ("mask", 2), ("other", 3)]) [3] (i_enumT (S.gl rfl) B.enumerate (d_nm S 0 rfl)) (by decide +kernel) (by decide)
    (fun i => (ns (bitsN (r.getD i 0))).length) (fun i j => (ns (bitsN (r.getD i 0))).getD j .non) (fun i j => .tup [.int ((i : Nat) : Int), .int (((bitsN (r.getD i 0)).getD j 0 : Nat) : Int)])
    (fun i => [.d (.tup (ns r)), .d (.int ((i : Nat) : Int)), .d (.int ((r.getD i 0 : Nat) : Int)), .any]) (fun i j => [.d (.tup (ns r)), .d (.int ((i : Nat) : Int)), .d (.int ((r.getD i 0 : Nat) : Int)), .d ((ns (bitsN (r.getD i 0))).getD j .non)]) (B := 100)
    (fun i hi => ?_) (by rw [ns_len, hl.len]; omega) (fun i hi => ⟨fun s H C cl fp => ?_, fun s H C cl fp => ?_, allN rfl, fun j hj => ⟨fun s H C cl fp => ?_, fun s H C cl fp => ?_⟩⟩))) ?_
  · have := dr hi
    have h1 := hl.lt i (by rw [← hl.len]; exact this)
    rw [ns_len]
    exact Nat.le_trans (bits_len (by rw [hl.len] at this; omega) h1) hn
  · have := dr hi
    rw [ns_getD this]
    exact gc_tup2 (sco_blk S rfl s H C cl fp) (gc_nm (sco_blk S rfl s H C cl fp) 1) (gc_nm (sco_blk S rfl s H C cl fp) 2)
  · have hi2 := dr hi
    refine i_list (d_fn CM (k := 3) hr (a_cons (d_nm (sco_blk S rfl s H C cl fp) 2 rfl) a_nil) ⟨r.getD i 0, pow_300 (by omega) (hl.lt i (by rw [← hl.len]; exact hi2)), rfl, rfl⟩ ((sco_blk S rfl s H C cl fp).gl rfl))
  · exact gc_nm (sco_blk S rfl s H C cl fp) 3
  · rw [ns_len] at hj
    rw [ns_getD hj]
    exact d_tup (a_cons (d_nm (sco_blk S rfl s H C cl fp) 1 rfl) (a_cons (d_nm (sco_blk S rfl s H C cl fp) 3 rfl) a_nil)) (by simp)
  · show Da.lst _ = Da.lst _
    congr 1
    unfold prD pairsN
    rw [ns_len, List.map_flatMap]
    congr 1
    funext i
    rw [ns_len, List.map_map]
    exact map_getD (bitsN (r.getD i 0)) fun x => .tup [.int ((i : Nat) : Int), .int ((x : Nat) : Int)]
/-! ### union, after -/
def RUn (ds : List Da) (d : Da) : Prop := ∃ r s : List Nat, r.length ≤ 1000 ∧ r.length = s.length ∧ ds = [.tup (ns r), .tup (ns s)] ∧ d = .tup (ns (unionN r s))
theorem sc_un : FnScope ["first", "second", "one", "other"] ["first", "second"] (defScope (top 7)) := ⟨rfl, rfl, rfl, by decide +kernel, rfl, by decide +kernel, by decide +kernel⟩
theorem fm_ns (f : Nat → Nat) (m : Nat) : (List.range m).filterMap (fun i => some (Da.int ((f i : Nat) : Int))) = ns ((List.range m).map f) := by
  rw [List.filterMap_eq_map']
  simp [ns]
theorem ok_un (B : Bl mg) (D : Def K mg "union" "union" (top 7) ["first", "second"]) : Fnc P w K mg base CX0 2 "union" ["first", "second"] (spD K RUn) := by
  refine fnc_d D sc_un (fun ds d ⟨_, _, _, _, h, _⟩ => by rw [h]; rfl) fun X T S hr ds d ⟨r, s0, hn, hl, h1, h2⟩ => ?_
  obtain ⟨rfl, rfl, rfl, rfl, rfl⟩ := T
  subst h1 h2
  refine q_ret (d_tuple (S.gl rfl) B.tuple (f_d (f_lc S (own := [("one", 2), ("other", 3)]) (i_zipT (by rw [ns_len, ns_len, hl]) (S.gl rfl) B.zip (d_nm S 0 rfl) (d_nm S 1 rfl)) (by decide +kernel) (fun i => some (.int ((r.getD i 0 ||| s0.getD i 0 : Nat) : Int)))
    (fun i => [.d (.tup (ns r)), .d (.tup (ns s0)), .d (.int ((r.getD i 0 : Nat) : Int)), .d (.int ((s0.getD i 0 : Nat) : Int))]) (by rw [ns_len]; omega) (fun i hi => ⟨fun s H C cl fp => ?_, fun s H C cl fp => pts_y, fun d hd s H C cl fp => ?_⟩)))) ?_
  · rw [ns_len] at hi
    rw [ns_getD hi, ns_getD (by rw [← hl]; exact hi)]
    exact gc_tup2 (sco_blk S rfl s H C cl fp) (gc_nm (sco_blk S rfl s H C cl fp) 2) (gc_nm (sco_blk S rfl s H C cl fp) 3)
  · cases hd
    exact d_orN (d_nm (sco_blk S rfl s H C cl fp) 2 rfl) (d_nm (sco_blk S rfl s H C cl fp) 3 rfl)
  · show Da.tup _ = Da.tup _
    congr 1
    rw [ns_len, fm_ns fun i => r.getD i 0 ||| s0.getD i 0]
    rfl
def RAf (ds : List Da) (d : Da) : Prop := ∃ r s : List Nat, r.length ≤ 1000 ∧ s.length ≤ 100 ∧ (∀ x ∈ r, x < 2 ^ s.length) ∧ ds = [.tup (ns r), .tup (ns s)] ∧ d = .tup (ns (afterN r s))
theorem sc_af : FnScope ["first", "second", "mask"] ["first", "second"] (defScope (top 8)) := ⟨rfl, rfl, rfl, by decide +kernel, rfl, by decide +kernel, by decide +kernel⟩
theorem ok_af (B : Bl mg) (D : Def K mg "after" "after" (top 8) ["first", "second"]) (CI : Fnc P w K mg base CX0 2 "image" ["relation", "mask"] (spD K RImg)) : Fnc P w K mg base CX0 4 "after" ["first", "second"] (spD K RAf) := by
  refine fnc_d D sc_af (fun ds d ⟨_, _, _, _, _, h, _⟩ => by rw [h]; rfl) fun X T S hr ds d ⟨r, s0, hn, hl, hx, h1, h2⟩ => ?_
  obtain ⟨rfl, rfl, rfl, rfl, rfl⟩ := T
  subst h1 h2
  refine q_ret (d_tuple (S.gl rfl) B.tuple (f_d (f_lc S (own := [("mask", 2)]) (i_tup (d_nm S 0 rfl)) (by decide +kernel) (fun i => some (.int ((imageN s0 (r.getD i 0) : Nat) : Int)))
    (fun i => [.d (.tup (ns r)), .d (.tup (ns s0)), .d (.int ((r.getD i 0 : Nat) : Int))]) (by rw [ns_len]; omega) (fun i hi => ⟨fun s H C cl fp => ?_, fun s H C cl fp => pts_y, fun d hd s H C cl fp => ?_⟩)))) ?_
  · rw [ns_len] at hi
    rw [ns_getD hi]
    exact gc_nm (sco_blk S rfl s H C cl fp) 2
  · rw [ns_len] at hi
    cases hd
    exact d_fn CI (k := 3) hr (a_cons (d_nm (sco_blk S rfl s H C cl fp) 1 rfl) (a_cons (d_nm (sco_blk S rfl s H C cl fp) 2 rfl) a_nil)) ⟨s0, r.getD i 0, hl, hx _ (List.mem_of_getElem? (getD_some hi)), rfl, rfl⟩ ((sco_blk S rfl s H C cl fp).gl rfl)
  · show Da.tup _ = Da.tup _
    congr 1
    rw [ns_len, fm_ns fun i => imageN s0 (r.getD i 0)]
    rfl
/-! ### flipped, closed, lies_in -/
theorem ns_set (l : List Nat) (i x : Nat) : (ns l).set i (.int ((x : Nat) : Int)) = ns (l.set i x) := by
  simp [ns, List.map_set]
def RFl (ds : List Da) (d : Da) : Prop := ∃ (n : Nat) (r : List Nat), n ≤ 100 ∧ Rl n r ∧ ds = [.tup (ns r)] ∧ d = .tup (ns (flippedN r))
theorem sc_fl : FnScope ["relation", "rows", "_", "state", "mask", "other"] ["relation"] (defScope (top 9)) := ⟨rfl, rfl, rfl, by decide +kernel, rfl, by decide +kernel, by decide +kernel⟩
theorem flipRow_next (l : List Nat) (i : Nat) {js : List Nat} {t j : Nat} (h : js[t]? = some j) : flipRow l i (js.take (t + 1)) = orAt (flipRow l i (js.take t)) j (2 ^ i) := by
  rw [take_next h]
  unfold flipRow
  rw [List.foldl_append]
  rfl
theorem ok_fl (B : Bl mg) (D : Def K mg "flipped" "flipped" (top 9) ["relation"]) (CM : Fnc P w K mg base CX0 2 "members" ["mask"] (spD K RMem)) : Fnc P w K mg base CX0 4 "flipped" ["relation"] (spD K RFl) := by
  refine fnc_d D sc_fl (fun ds d ⟨_, _, _, _, h, _⟩ => by rw [h]; rfl) fun X T S hr ds d ⟨n, r, hn, hl, h1, h2⟩ => ?_
  obtain ⟨rfl, rfl, rfl, rfl, rfl⟩ := T
  subst h1 h2
  refine q_setLc S 1 (own := [("_", 2)]) (i_tup (d_nm S 0 rfl)) (by decide +kernel) (fun i => some (.int ((0 : Nat) : Int))) (fun i => [.d (.tup (ns r)), .any, .d ((ns r).getD i .non), .any, .any, .any]) (by rw [ns_len, hl.len]; omega) (fun i hi => ⟨fun s H C cl fp => ?_, fun s H C cl fp => pts_y, fun d hd s H C cl fp => ?_⟩) ?_
  · exact gc_nm (sco_blk S rfl s H C cl fp) 2
  · cases hd
    exact d_n0
  have e0 : (List.range (ns r).length).filterMap (fun i => some (Da.int ((0 : Nat) : Int))) = ns (List.replicate r.length 0) := by
    rw [fm_const, ns_len]
    simp [ns]
  rw [e0]
  refine q_for S (i_enumT (S.gl rfl) B.enumerate (d_nm S 0 rfl)) (fun i ρ => ∃ z1 z2 z3, ρ = [.d (.tup (ns r)), .own (.l (ns (flipTo r i))), .any, z1, z2, z3] ∧ z1.isOwn = false ∧ z2.isOwn = false ∧ z3.isOwn = false) ⟨_, _, _, rfl, rfl, rfl, rfl⟩ (fun i ρ hi ⟨z1, z2, z3, hρ, hz1, hz2, hz3⟩ => ?_) (fun ρ ⟨z1, z2, z3, hρ, _⟩ => ?_)
  · subst hρ
    rw [ns_len] at hi
    rw [ns_getD hi]
    refine ⟨_, g_tup2 S (g_nm S 3 (by show (!z1.isOwn) = true; rw [hz1]; rfl)) (g_nm S 4 (by show (!z2.isOwn) = true; rw [hz2]; rfl)), ?_⟩
    have hm : r.getD i 0 < 2 ^ n := hl.lt i (by rw [← hl.len]; exact hi)
    refine q_for S (i_list (d_fn CM hr (a_cons (d_nm S 4 rfl) a_nil) ⟨r.getD i 0, pow_300 (by omega) hm, rfl, rfl⟩ (S.gl rfl)))
      (fun t ρ => ∃ z, ρ = [.d (.tup (ns r)), .own (.l (ns (flipRow (flipTo r i) i ((bitsN (r.getD i 0)).take t)))), .any, .d (.int ((i : Nat) : Int)), .d (.int ((r.getD i 0 : Nat) : Int)), z] ∧ z.isOwn = false) ⟨z3, rfl, hz3⟩ (fun t ρ ht ⟨z, hρ, hz⟩ => ?_) (fun ρ ⟨z, hρ, hz⟩ => ?_)
    · subst hρ
      rw [ns_len] at ht
      rw [ns_getD ht]
      have hj : (bitsN (r.getD i 0)).getD t 0 < n := bits_lt hm (List.mem_of_getElem? (getD_some ht))
      have hjl : (bitsN (r.getD i 0)).getD t 0 < (flipRow (flipTo r i) i ((bitsN (r.getD i 0)).take t)).length := by rw [flipRow_len, flipTo_len, hl.len]; exact hj
      refine ⟨_, g_nm S 5 (by show (!z.isOwn) = true; rw [hz]; rfl), ?_⟩
      have hi1 : i ≤ 1000000 := by rw [hl.len] at hi; omega
      refine q_setL S 1 (d_orN (d_ixO S 1 rfl (ns_get (getD_some hjl)) (d_nm S 5 rfl)) (d_oneN hi1 (d_nm S 3 rfl))) (d_nm S 5 rfl) rfl rfl (by rw [ns_len]; exact hjl) (sd_nil ⟨.d (.int (((bitsN (r.getD i 0)).getD t 0 : Nat) : Int)), ?_, rfl⟩)
      rw [flipRow_next _ _ (getD_some ht), ns_set]
      rfl
    · subst hρ
      rw [ns_len, List.take_length]
      exact sd_nil ⟨_, _, _, rfl, rfl, rfl, hz⟩
  · subst hρ
    rw [ns_len]
    refine q_pub (i := 1) rfl ?_
    exact q_ret (d_tuple (S.gl rfl) B.tuple (d_nm S 1 rfl)) rfl
def RCl (ds : List Da) (d : Da) : Prop := ∃ (n : Nat) (r : List Nat), n ≤ 100 ∧ Rl n r ∧ ds = [.tup (ns r)] ∧ d = .tup (ns (closedN r))
theorem sc_cl : FnScope ["relation", "rows", "middle", "reached", "state", "mask"] ["relation"] (defScope (top 10)) := ⟨rfl, rfl, rfl, by decide +kernel, rfl, by decide +kernel, by decide +kernel⟩
theorem and_one (x m : Nat) : x / 2 ^ m &&& 1 = if x.testBit m then 1 else 0 := by
  rw [Nat.and_one_is_mod, Nat.testBit_eq_decide_div_mod_eq]
  have : x / 2 ^ m % 2 = 0 ∨ x / 2 ^ m % 2 = 1 := by omega
  rcases this with h | h <;> simp [h]
theorem ok_cl (B : Bl mg) (D : Def K mg "closed" "closed" (top 10) ["relation"]) : Fnc P w K mg base CX0 2 "closed" ["relation"] (spD K RCl) := by
  refine fnc_d D sc_cl (fun ds d ⟨_, _, _, _, h, _⟩ => by rw [h]; rfl) fun X T S hr ds d ⟨n, r, hn, hl, h1, h2⟩ => ?_
  obtain ⟨rfl, rfl, rfl, rfl, rfl⟩ := T
  subst h1 h2
  have lenr := hl.len
  refine q_setLc S 1 (own := [("state", 4), ("mask", 5)]) (i_enumT (S.gl rfl) B.enumerate (d_nm S 0 rfl)) (by decide +kernel) (fun i => some (.int ((r.getD i 0 ||| 2 ^ i : Nat) : Int))) (fun i => [.d (.tup (ns r)), .any, .any, .any, .d (.int ((i : Nat) : Int)), .d (.int ((r.getD i 0 : Nat) : Int))]) (by rw [ns_len, hl.len]; omega) (fun i hi => ⟨fun s H C cl fp => ?_, fun s H C cl fp => pts_y, fun d hd s H C cl fp => ?_⟩) ?_
  · rw [ns_len] at hi
    rw [ns_getD hi]
    exact gc_tup2 (sco_blk S rfl s H C cl fp) (gc_nm (sco_blk S rfl s H C cl fp) 4) (gc_nm (sco_blk S rfl s H C cl fp) 5)
  · rw [ns_len] at hi
    cases hd
    exact d_orN (d_nm (sco_blk S rfl s H C cl fp) 5 rfl) (d_oneN (by omega) (d_nm (sco_blk S rfl s H C cl fp) 4 rfl))
  have e0 : (List.range (ns r).length).filterMap (fun i => some (Da.int ((r.getD i 0 ||| 2 ^ i : Nat) : Int))) = ns (startC r) := by
    rw [ns_len, fm_ns fun i => r.getD i 0 ||| 2 ^ i]
    rfl
  rw [e0]
  have ls : (startC r).length = n := by rw [startC_len, lenr]
  refine q_for S (d_range (S.gl rfl) B.range (d_lenO S 1 (S.gl rfl) B.len rfl) (by rw [ns_len, ls]; omega)) (fun m ρ => ∃ z2 z3 z4, ρ = [.d (.tup (ns r)), .own (.l (ns (outC (startC r) m))), z2, z3, z4, .any] ∧ z2.isOwn = false ∧ z3.isOwn = false ∧ z4.isOwn = false) ⟨_, _, _, rfl, rfl, rfl, rfl⟩ (fun m ρ hm ⟨z2, z3, z4, hρ, hz2, hz3, hz4⟩ => ?_) (fun ρ ⟨z1, z2, z3, hρ, _⟩ => ?_)
  · subst hρ
    rw [ns_len] at hm
    have lo : (outC (startC r) m).length = n := by rw [outC_len, ls]
    refine ⟨_, g_nm S 2 (by show (!z2.isOwn) = true; rw [hz2]; rfl), ?_⟩
    refine q_asg S 3 (d_ixO S 1 rfl (ns_get (getD_some (i := m) (by rw [lo]; omega))) (d_nm S 2 rfl)) (hn := by show (!z3.isOwn) = true; rw [hz3]; rfl) ?_
    refine q_for S (d_range (S.gl rfl) B.range (d_lenO S 1 (S.gl rfl) B.len rfl) (by rw [ns_len, lo]; omega))
      (fun s ρ => ∃ z, ρ = [.d (.tup (ns r)), .own (.l (ns (innC m ((outC (startC r) m).getD m 0) (outC (startC r) m) s))), .d (.int ((m : Nat) : Int)), .d (.int (((outC (startC r) m).getD m 0 : Nat) : Int)), z, .any] ∧ z.isOwn = false) ⟨z4, rfl, hz4⟩ (fun s ρ hs ⟨z, hρ, hz⟩ => ?_) (fun ρ ⟨z, hρ, hz⟩ => ?_)
    · subst hρ
      rw [ns_len, lo] at hs
      refine ⟨_, g_nm S 4 (by show (!z.isOwn) = true; rw [hz]; rfl), ?_⟩
      have hsl : s < (innC m ((outC (startC r) m).getD m 0) (outC (startC r) m) s).length := by rw [innC_len, lo]; exact hs
      have gx := ns_get (getD_some hsl)
      refine q_ifc (fun ρ => ρ = [.d (.tup (ns r)), .own (.l (ns (innC m ((outC (startC r) m).getD m 0) (outC (startC r) m) (s + 1)))), .d (.int ((m : Nat) : Int)), .d (.int (((outC (startC r) m).getD m 0 : Nat) : Int)), .d (.int ((s : Nat) : Int)), .any])
        (t_eqN (d_andN (d_shrN (d_ixO S 1 rfl gx (d_nm S 4 rfl)) (d_nm S 2 rfl)) d_n1) d_n1) (fun hb => ?_) (fun hb => sd_nil ?_) (fun ρ hρ => sd_nil ⟨_, hρ, rfl⟩)
      · rw [and_one] at hb
        have hb2 : ((innC m ((outC (startC r) m).getD m 0) (outC (startC r) m) s).getD s 0).testBit m = true := by
          cases q : ((innC m ((outC (startC r) m).getD m 0) (outC (startC r) m) s).getD s 0).testBit m with
          | true => rfl
          | false => rw [q] at hb; simp at hb
        refine q_setL S 1 (d_orN (d_ixO S 1 rfl gx (d_nm S 4 rfl)) (d_nm S 3 rfl)) (d_nm S 4 rfl) rfl rfl (by rw [ns_len]; exact hsl) (sd_nil ?_)
        rw [ns_set]
        show _ = [_, SV.own (.l (ns (stepC m ((outC (startC r) m).getD m 0) _ s))), _, _, _, _]
        unfold stepC
        rw [if_pos hb2]
        rfl
      · rw [and_one] at hb
        have hb2 : ¬ ((innC m ((outC (startC r) m).getD m 0) (outC (startC r) m) s).getD s 0).testBit m = true := fun q => by
          rw [q] at hb
          simp at hb
        show _ = [_, SV.own (.l (ns (stepC m ((outC (startC r) m).getD m 0) _ s))), _, _, _, _]
        unfold stepC
        rw [if_neg hb2]
        rfl
    · subst hρ
      refine sd_nil ⟨.d (.int ((m : Nat) : Int)), .d (.int (((outC (startC r) m).getD m 0 : Nat) : Int)), z, ?_, rfl, rfl, hz⟩
      rw [ns_len]
      rfl
  · subst hρ
    rw [ns_len]
    refine q_pub (i := 1) rfl ?_
    exact q_ret (d_tuple (S.gl rfl) B.tuple (d_nm S 1 rfl)) rfl
def liesN (r s : List Nat) : Bool := (List.range r.length).all fun i => decide (r.getD i 0 ||| s.getD i 0 = s.getD i 0)
def RLie (ds : List Da) (d : Da) : Prop := ∃ r s : List Nat, r.length ≤ 1000 ∧ r.length = s.length ∧ ds = [.tup (ns r), .tup (ns s)] ∧ d = .bl (liesN r s)
theorem sc_lie : FnScope ["first", "second", "one", "other"] ["first", "second"] (defScope (top 11)) := ⟨rfl, rfl, rfl, by decide +kernel, rfl, by decide +kernel, by decide +kernel⟩
theorem body_lie (B : Bl mg) {X : Cx} (T : Top P w K mg base X) (S : Sco X ["first", "second", "one", "other"] (defScope (top 11)) true) {r s0 : List Nat} (hn : r.length ≤ 1000) (hl : r.length = s0.length) : SD X (defBody (top 11)) (startD 4 [.tup (ns r), .tup (ns s0)]) (DeR (.bl (liesN r s0))) := by
  obtain ⟨rfl, rfl, rfl, rfl, rfl⟩ := T
  refine q_for S (i_zipT (by rw [ns_len, ns_len, hl]) (S.gl rfl) B.zip (d_nm S 0 rfl) (d_nm S 1 rfl)) (fun i ρ => ∃ z1 z2, ρ = [.d (.tup (ns r)), .d (.tup (ns s0)), z1, z2] ∧ z1.isOwn = false ∧ z2.isOwn = false ∧ ∀ j, j < i → r.getD j 0 ||| s0.getD j 0 = s0.getD j 0) ⟨_, _, rfl, rfl, rfl, fun j hj => absurd hj (Nat.not_lt_zero j)⟩ (fun i ρ hi ⟨z1, z2, hρ, hz1, hz2, hall⟩ => ?_) (fun ρ ⟨z1, z2, hρ, hz1, hz2, hall⟩ => ?_)
  · subst hρ
    rw [ns_len] at hi
    rw [ns_getD hi, ns_getD (by rw [← hl]; exact hi)]
    refine ⟨_, g_tup2 S (g_nm S 2 (by show (!z1.isOwn) = true; rw [hz1]; rfl)) (g_nm S 3 (by show (!z2.isOwn) = true; rw [hz2]; rfl)), ?_⟩
    refine q_if (t_neN (d_orN (d_nm S 2 rfl) (d_nm S 3 rfl)) (d_nm S 3 rfl)) (fun hb => q_ret d_bl ?_) (fun hb => sd_nil (sd_nil ⟨_, _, rfl, rfl, rfl, fun j hj => ?_⟩))
    · have hne : ¬ (r.getD i 0 ||| s0.getD i 0 = s0.getD i 0) := by simpa using hb
      show Da.bl false = Da.bl (liesN r s0)
      congr 1
      symm
      unfold liesN
      rw [List.all_eq_false]
      exact ⟨i, List.mem_range.mpr hi, by simpa using hne⟩
    · by_cases e : j = i
      · subst e
        simpa using hb
      · exact hall j (by omega)
  · subst hρ
    rw [ns_len] at hall
    refine q_ret d_bl ?_
    show Da.bl true = Da.bl (liesN r s0)
    congr 1
    symm
    unfold liesN
    rw [List.all_eq_true]
    intro j hj
    exact decide_eq_true (hall j (List.mem_range.mp hj))
theorem ok_lie (B : Bl mg) (D : Def K mg "lies_in" "lies_in" (top 11) ["first", "second"]) : Fnc P w K mg base CX0 2 "lies_in" ["first", "second"] (spD K RLie) := by
  refine fnc_d D sc_lie (fun ds d ⟨_, _, _, _, h, _⟩ => by rw [h]; rfl) fun X T S hr ds d ⟨r, s0, hn, hl, h1, h2⟩ => ?_
  subst h1 h2
  exact body_lie B T S hn hl
/-- the same def under its other name -/
theorem ok_lie2 {n : Str} (C : Fnc P w K mg base CX0 2 "lies_in" ["first", "second"] (spD K RLie)) (h : mg n = mg "lies_in") : Fnc P w K mg base CX0 2 n ["first", "second"] (spD K RLie) := by
  obtain ⟨f, fd, F, h1, h2, h3⟩ := C
  exact ⟨f, fd, F, h.trans h1, h2, h3⟩
end
end K11
end
section
set_option Elab.async false
set_option linter.all false
set_option maxRecDepth 100000
namespace K11
open PySem PySem.Spec PyProof.Rows L2 Wv Km
def clsBody : Stmt → List Stmt
  | .ClassDef (body := b) .. => b
  | _ => []
def cb (i : Nat) : Stmt := (clsBody (top 22)).getD i (.Pass ⟨0, 0, 0, 0⟩)
structure Adr where
  C : Addr
  Cb : Addr
  fb : Addr
  ini : Addr
  uni : Addr
  unp : Addr
  mul : Addr
  inv : Addr
  eq : Addr
  lie : Addr
  fla : Addr
  mc : Value
structure DefM (K : PySem.W.Frag) (n qual : Str) (st : Stmt) (ps : List Str) (f : Addr) : Prop where
  ex : ∃ fd, Fun K n qual st f fd ∧ Binds K fd ps []
def FncM (P : Program) (w : World) (K : PySem.W.Frag) (mg : Str → Option Value) (base : Heap) (CX : CXT) (k : Nat) (f : Addr) (ps : List Str) (sp : Sp) : Prop := ∃ fd, FnOk P w K mg base CX k f fd ps sp ∧ Binds K fd ps []
/-- the class Table -/
structure TF (P : Program) (K : PySem.W.Frag) (mg : Str → Option Value) (a : Adr) : Prop where
  gC : mg "Table" = some (.ref a.C)
  mkC : Mk K a.C a.ini
  cls : Cls K a.C
  nll : NoAttr K a.C "ll"
  nlr : NoAttr K a.C "lr"
  nrl : NoAttr K a.C "rl"
  nrr : NoAttr K a.C "rr"
  nst : NoAttr K a.C "states"
  cc : PySem.W.findIn K (.ref a.C) "__class__" = some (some (.builtin "object.__class__"))
  cn : PySem.W.specialIn K (.builtin "object.__class__") "__get__" = some (some (.builtin "getset_descriptor.__get__"))
  ct : PySem.W.takesIn K (.builtin "object.__class__") = some true
  cm : PySem.W.mroIn K a.C (.type "object") = some true
  gB : mg "BadTable" = some (.ref a.Cb)
  bad : SupX P K mg a.Cb a.fb
  most : ∃ t, mg "MOST_TABLE_STATES" = some (.int 60 t)
  dI : DefM K "__init__" "Table.__init__" (cb 0) ["self", "ll", "lr", "rl", "rr"] a.ini
  dU : DefM K "unit" "Table.unit" (cb 1) ["cls", "states"] a.uni
  dM : DefM K "__mul__" "Table.__mul__" (cb 2) ["self", "other"] a.mul
  dV : DefM K "__invert__" "Table.__invert__" (cb 3) ["self"] a.inv
  dE : DefM K "__eq__" "Table.__eq__" (cb 4) ["self", "other"] a.eq
  dL : DefM K "lies_in" "Table.lies_in" (cb 5) ["self", "other"] a.lie
  dF : DefM K "flat" "Table.flat" (cb 6) ["self"] a.fla
  rC : ClX.CRead K a.C a.mc
  cU : ClX.CMet K a.C a.mc "unit" a.unp a.uni
  sM : PySem.W.findIn K (.ref a.C) "__mul__" = some (some (.ref a.mul))
  fM : PySem.W.isFn K (.ref a.mul) = true
  sf : PySem.W.selfFirst K a.C = true
  sV : PySem.W.findIn K (.ref a.C) "__invert__" = some (some (.ref a.inv))
  fV : PySem.W.isFn K (.ref a.inv) = true
  sE : PySem.W.findIn K (.ref a.C) "__eq__" = some (some (.ref a.eq))
  fE : PySem.W.isFn K (.ref a.eq) = true
  mL : Meth K a.C "lies_in" a.lie
  mF : Meth K a.C "flat" a.fla
section
variable {P : Program} {w : World} {K : PySem.W.Frag} {mg : Str → Option Value} {base : Heap} {a : Adr}
def is (l : List Int) : List Da := l.map Da.int
theorem is_len (l : List Int) : (is l).length = l.length := by simp [is]
theorem ns_is (l : List Nat) : ns l = is (l.map fun n => ((n : Nat) : Int)) := by simp [ns, is]
theorem is_getD {l : List Int} {i : Nat} (h : i < l.length) : (is l).getD i .non = .int (l.getD i 0) := by simp [is, List.getD_eq_getElem?_getD, h]
def goodX (n : Nat) (x : Int) : Bool := decide (0 ≤ x) && decide (x / 2 ^ n = 0)
def goodB (l : List Int) (n : Nat) : Bool := decide (l.length = n) && l.all (goodX n)
def RChk (ds : List Da) (o : Option Da) : Prop := ∃ (l : List Int) (n : Nat), l.length ≤ 1000 ∧ n ≤ 1000 ∧ ds = [.tup (is l), .int n] ∧ o = if goodB l n then some .non else none
theorem sc_chk : FnScope ["relation", "states", "mask"] ["relation", "states"] (defScope (top 21)) := ⟨rfl, rfl, rfl, by decide +kernel, rfl, by decide +kernel, by decide +kernel⟩
theorem getDI {l : List Int} {i : Nat} (h : i < l.length) : l[i]? = some (l.getD i 0) := by
  rw [List.getD_eq_getElem?_getD, List.getElem?_eq_getElem h]
  rfl
theorem ok_chk (B : Bl mg) (T0 : TF P K mg a) (D : Def K mg "_check_relation" "_check_relation" (top 21) ["relation", "states"]) : Fnc P w K mg base (L2.CX P w) 3 "_check_relation" ["relation", "states"] (spX K (.ref a.Cb) RChk) := by
  refine fnc_x D sc_chk (fun ds d ⟨_, _, _, _, h, _⟩ => by rw [h]; rfl) fun X T S hr E tk ds o ⟨l, n, hl, hn, h1, h2⟩ => ?_
  obtain ⟨rfl, rfl, rfl, rfl, rfl⟩ := T
  subst h1 h2
  have bad : ∀ {ρ : List SV} {D : De} {rest : List Stmt} {pos p pos2 : Pos}, D.W = (fun cls d _ H => E cls d H) → D.ex ρ (.ref a.Cb) → SD X (.Raise (some (.Call (.Name "BadTable" p) [] [] pos)) none pos2 :: rest) ρ D := fun {ρ D rest pos p pos2} hW hx =>
    q_raise (C := a.Cb) S (by rw [hW]; exact tk) (pmk_sup T0.bad hr (S.gl rfl) T0.gB) (fun _ _ _ h => h) hx
  refine q_if (t_neN (d_lenT (S.gl rfl) B.len (d_nm S 0 rfl)) (d_nm S 1 rfl)) (fun hb => ?_) (fun hb => sd_nil ?_)
  · rw [is_len] at hb
    refine bad rfl ⟨?_, rfl⟩
    rw [if_neg]
    unfold goodB
    have : ¬ l.length = n := by simpa using hb
    simp [this]
  rw [is_len] at hb
  have hln : l.length = n := by simpa using hb
  refine q_for S (i_tup (d_nm S 0 rfl)) (fun i ρ => ∃ z, ρ = [.d (.tup (is l)), .d (.int (n : Int)), z] ∧ z.isOwn = false ∧ ∀ j, j < i → goodX n (l.getD j 0) = true) ⟨_, rfl, rfl, fun j hj => absurd hj (Nat.not_lt_zero j)⟩ (fun i ρ hi ⟨z, hρ, hz, hall⟩ => ?_) (fun ρ ⟨z, hρ, hz, hall⟩ => ?_)
  · subst hρ
    rw [is_len] at hi
    rw [is_getD hi]
    refine ⟨_, g_nm S 2 (by show (!z.isOwn) = true; rw [hz]; rfl), ?_⟩
    refine q_if (PW.pt (w_or (t_lt (d_nm S 2 rfl) d_int) fun _ => w_or1 (t_neI (d_shr (Int.natCast_nonneg n) (d_nm S 2 rfl) (d_nm S 1 rfl)) d_int))) (fun hb2 => ?_) (fun hb2 => sd_nil (sd_nil ⟨.d (.int (l.getD i 0)), rfl, rfl, fun j hj => ?_⟩))
    · refine bad rfl ⟨?_, rfl⟩
      rw [if_neg]
      unfold goodB
      have : goodX n (l.getD i 0) = false := by
        unfold goodX
        rw [Int.toNat_natCast] at hb2
        simp at hb2 ⊢
        omega
      have e2 : l.all (goodX n) = false := List.all_eq_false.mpr ⟨_, List.mem_of_getElem? (getDI hi), by rw [this]; exact Bool.false_ne_true⟩
      rw [e2, Bool.and_false]
      exact Bool.false_ne_true
    · by_cases e : j = i
      · subst e
        unfold goodX
        rw [Int.toNat_natCast] at hb2
        simp at hb2 ⊢
        omega
      · exact hall j (by omega)
  · subst hρ
    rw [is_len] at hall
    refine sd_nil ?_
    show (if goodB l n then some Da.non else none) = some Da.non
    rw [if_pos]
    unfold goodB
    rw [decide_eq_true hln, Bool.true_and, List.all_eq_true]
    intro x hx
    obtain ⟨j, hj, e⟩ := List.mem_iff_getElem.mp hx
    have := hall j hj
    rw [List.getD_eq_getElem?_getD, List.getElem?_eq_getElem hj] at this
    rw [← e]
    exact this
/-! ### Table.__init__ -/
def okI (a b c d : List Int) : Bool := decide (1 ≤ a.length) && decide (a.length ≤ 60) && goodB a a.length && goodB b a.length && goodB c a.length && goodB d a.length
def tflds (a b c d : List Int) : List (Str × Da) := [("ll", .tup (is a)), ("lr", .tup (is b)), ("rl", .tup (is c)), ("rr", .tup (is d)), ("states", .int ((a.length : Nat) : Int))]
def RIni (ds : List Da) (o : Option (List (Str × Da))) : Prop := ∃ a b c d : List Int, a.length ≤ 1000 ∧ b.length ≤ 1000 ∧ c.length ≤ 1000 ∧ d.length ≤ 1000 ∧ ds = [.tup (is a), .tup (is b), .tup (is c), .tup (is d)] ∧ o = if okI a b c d then some (tflds a b c d) else none
theorem sc_ini : FnScope ["self", "ll", "lr", "rl", "rr", "states"] ["self", "ll", "lr", "rl", "rr"] (defScope (cb 0)) := ⟨rfl, rfl, rfl, by decide +kernel, rfl, by decide +kernel, by decide +kernel⟩
theorem ok_ini (B : Bl mg) (T0 : TF P K mg a) (CC : Fnc P w K mg base (L2.CX P w) 3 "_check_relation" ["relation", "states"] (spX K (.ref a.Cb) RChk)) : FncM P w K mg base (L2.CX P w) 5 a.ini ["self", "ll", "lr", "rl", "rr"] (spI K (.ref a.Cb) a.C RIni) := by
  obtain ⟨fd, F, hb0⟩ := T0.dI.ex
  refine ⟨fd, fn_i (k := 4) F sc_ini (fun ds o ⟨_, _, _, _, _, _, _, _, h, _⟩ => by rw [h]; rfl) fun X T S hr E tk dx ds o ⟨l1, l2, l3, l4, n1, n2, n3, n4, h1, h2⟩ => ?_, hb0⟩
  obtain ⟨rfl, rfl, rfl, rfl, rfl⟩ := T
  subst h1 h2
  obtain ⟨tm, hmost⟩ := T0.most
  refine q_asg S 5 (d_is (d_lenT (S.gl rfl) B.len (d_nm S 1 rfl)) (by rw [is_len])) ?_
  have chk : ∀ {l : List Int} {i : Nat} {nm : Str} {D : De} {rest : List Stmt} {p p1 p2 pos pos2 : Pos}, l.length ≤ 1000 → [SV.own (.o a.C dx []), .d (.tup (is l1)), .d (.tup (is l2)), .d (.tup (is l3)), .d (.tup (is l4)), .d (.int ((l1.length : Nat) : Int))][i]? = some (.d (.tup (is l))) →
      (["self", "ll", "lr", "rl", "rr", "states"] : List Str)[i]? = some nm → Vis (defScope (cb 0)) nm → (nm == ("__debug__" : Str)) = false → (nm == ("__classdict__" : Str)) = false → D.W = (fun cls d _ H => E cls d H) →
      (goodB l l1.length = true → SD X rest [SV.own (.o a.C dx []), .d (.tup (is l1)), .d (.tup (is l2)), .d (.tup (is l3)), .d (.tup (is l4)), .d (.int ((l1.length : Nat) : Int))] D) →
      (goodB l l1.length = false → D.ex [SV.own (.o a.C dx []), .d (.tup (is l1)), .d (.tup (is l2)), .d (.tup (is l3)), .d (.tup (is l4)), .d (.int ((l1.length : Nat) : Int))] (.ref a.Cb)) →
      SD X (.Expr (.Call (.Name "_check_relation" p) [.Name nm p1, .Name "states" p2] [] pos) pos2 :: rest) [SV.own (.o a.C dx []), .d (.tup (is l1)), .d (.tup (is l2)), .d (.tup (is l3)), .d (.tup (is l4)), .d (.int ((l1.length : Nat) : Int))] D := by
    intro l i nm D rest p p1 p2 pos pos2 hl hi hN hv hd1 hd2 hW kg kb
    cases hgd : goodB l l1.length with
    | true => exact q_drop (d_fnX CC hr (a_cons (d_nm S i hi hN hv hd1 hd2) (a_cons (d_nm S 5 rfl) a_nil)) ⟨l, l1.length, hl, n1, rfl, by rw [if_pos hgd]⟩ (S.gl rfl)) (kg hgd)
    | false =>
      refine q_exprN ?_ (kb hgd)
      rw [hW]
      exact n_fnX CC tk hr (a_cons (d_nm S i hi hN hv hd1 hd2) (a_cons (d_nm S 5 rfl) a_nil)) ⟨l, l1.length, hl, n1, rfl, by rw [if_neg (by rw [hgd]; exact Bool.false_ne_true)]⟩ (S.gl rfl)
  have exx : ∀ {o : Option (List (Str × Da))}, o = none → (DeI (.ref a.Cb) a.C dx o (fun cls d _ H => E cls d H)).ex [SV.own (.o a.C dx []), .d (.tup (is l1)), .d (.tup (is l2)), .d (.tup (is l3)), .d (.tup (is l4)), .d (.int ((l1.length : Nat) : Int))] (.ref a.Cb) := fun {o} h => ⟨h, rfl, _, rfl⟩
  refine q_if (PW.pt (w_or (t_ltN (d_nm S 5 rfl) d_n1) fun _ => w_or1 (t_gtN (d_nm S 5 rfl) (d_is (y := .int ((60 : Nat) : Int)) (d_glob (S.gl rfl) hmost ⟨tm, rfl⟩) rfl)))) (fun hb => ?_) (fun hb => sd_nil ?_)
  · refine q_raise (C := a.Cb) S tk (pmk_sup T0.bad (hr.mono (by decide : 4 ≤ 4)) (S.gl rfl) T0.gB) (fun _ _ _ h => h) (exx ?_)
    rw [Bool.or_eq_true, decide_eq_true_eq, decide_eq_true_eq] at hb
    have : (decide (1 ≤ l1.length) && decide (l1.length ≤ 60)) = false := by
      rcases hb with hb | hb
      · rw [decide_eq_false (by omega), Bool.false_and]
      · rw [decide_eq_false (show ¬ l1.length ≤ 60 by omega), Bool.and_false]
    rw [if_neg]
    unfold okI
    rw [this]
    simp
  have hst : (decide (1 ≤ l1.length) && decide (l1.length ≤ 60)) = true := by
    rw [Bool.or_eq_false_iff, decide_eq_false_iff_not, decide_eq_false_iff_not] at hb
    rw [decide_eq_true (by omega), decide_eq_true (by omega)]
    rfl
  refine chk n1 (i := 1) rfl rfl (by exact Or.inl rfl) (by decide) (by decide) rfl (fun g1 => ?_) (fun g1 => exx (by rw [if_neg]; unfold okI; simp [g1]))
  refine chk n2 (i := 2) rfl rfl (by exact Or.inl rfl) (by decide) (by decide) rfl (fun g2 => ?_) (fun g2 => exx (by rw [if_neg]; unfold okI; simp [g2]))
  refine chk n3 (i := 3) rfl rfl (by exact Or.inl rfl) (by decide) (by decide) rfl (fun g3 => ?_) (fun g3 => exx (by rw [if_neg]; unfold okI; simp [g3]))
  refine chk n4 (i := 4) rfl rfl (by exact Or.inl rfl) (by decide) (by decide) rfl (fun g4 => ?_) (fun g4 => exx (by rw [if_neg]; unfold okI; simp [g4]))
  have hok : okI l1 l2 l3 l4 = true := by
    unfold okI
    rw [hst, g1, g2, g3, g4]
    rfl
  rw [if_pos hok]
  refine q_setF S 0 T0.cls T0.nll (by show (0 : Nat) < 1000; decide) (d_nm S 1 rfl) rfl ?_
  refine q_setF S 0 T0.cls T0.nlr (by show (1 : Nat) < 1000; decide) (d_nm S 2 rfl) rfl ?_
  refine q_setF S 0 T0.cls T0.nrl (by show (2 : Nat) < 1000; decide) (d_nm S 3 rfl) rfl ?_
  refine q_setF S 0 T0.cls T0.nrr (by show (3 : Nat) < 1000; decide) (d_nm S 4 rfl) rfl ?_
  refine q_setF S 0 T0.cls T0.nst (by show (4 : Nat) < 1000; decide) (d_nm S 5 rfl) rfl ?_
  exact sd_nil ⟨_, rfl, rfl⟩
end
end K11
end
section
set_option Elab.async false
set_option linter.all false
set_option maxRecDepth 100000
namespace K11
open PySem PySem.Spec PyProof.Rows L2 Wv Km
structure Tb where
  ll : List Nat
  lr : List Nat
  rl : List Nat
  rr : List Nat
structure TbOk (n : Nat) (t : Tb) : Prop where
  n1 : 1 ≤ n
  n2 : n ≤ 60
  ll : Rl n t.ll
  lr : Rl n t.lr
  rl : Rl n t.rl
  rr : Rl n t.rr
def tn (C : Addr) (t : Tb) : Da := .ins C [("ll", .tup (ns t.ll)), ("lr", .tup (ns t.lr)), ("rl", .tup (ns t.rl)), ("rr", .tup (ns t.rr)), ("states", .int ((t.ll.length : Nat) : Int))]
def tgs (t : Tb) : List (Str × Da) := [("ll", .tup (ns t.ll)), ("lr", .tup (ns t.lr)), ("rl", .tup (ns t.rl)), ("rr", .tup (ns t.rr)), ("states", .int ((t.ll.length : Nat) : Int))]
def mulT (x y : Tb) : Tb :=
  let m := closedN (unionN x.rr y.ll)
  let ah := afterN x.lr m
  let be := afterN y.rl m
  ⟨unionN x.ll (afterN ah x.rl), afterN ah y.lr, afterN be x.rl, unionN y.rr (afterN be y.lr)⟩
def invT (x : Tb) : Tb := ⟨x.rr, x.rl, x.lr, x.ll⟩
theorem mulT_ok {n : Nat} {x y : Tb} (hx : TbOk n x) (hy : TbOk n y) : TbOk n (mulT x y) :=
  have m := closed_rl (union_rl hx.rr hy.ll)
  have ah := after_rl hx.lr m
  have be := after_rl hy.rl m
  ⟨hx.n1, hx.n2, union_rl hx.ll (after_rl ah hx.rl), after_rl ah hy.lr, after_rl be hx.rl, union_rl hy.rr (after_rl be hy.lr)⟩
theorem invT_ok {n : Nat} {x : Tb} (hx : TbOk n x) : TbOk n (invT x) := ⟨hx.n1, hx.n2, hx.rr, hx.rl, hx.lr, hx.ll⟩
def zs (l : List Nat) : List Int := l.map fun n => ((n : Nat) : Int)
theorem ns_zs (l : List Nat) : ns l = is (zs l) := ns_is l
theorem zs_len (l : List Nat) : (zs l).length = l.length := by simp [zs]
theorem good_zs {n : Nat} {l : List Nat} (h : Rl n l) : goodB (zs l) n = true := by
  unfold goodB
  rw [zs_len, decide_eq_true h.len, Bool.true_and, List.all_eq_true]
  intro x hx
  obtain ⟨y, hy, rfl⟩ := List.mem_map.mp hx
  have := rl_mem h hy
  unfold goodX
  rw [decide_eq_true (Int.natCast_nonneg y), Bool.true_and]
  refine decide_eq_true ?_
  have e : ((y : Int) / 2 ^ n) = ((y / 2 ^ n : Nat) : Int) := by push_cast; rfl
  rw [e, Nat.div_eq_of_lt this]
  rfl
theorem ok_zs {n : Nat} {t : Tb} (h : TbOk n t) : okI (zs t.ll) (zs t.lr) (zs t.rl) (zs t.rr) = true := by
  unfold okI
  have := h.n1
  have := h.n2
  rw [zs_len, h.ll.len, good_zs h.ll, good_zs h.lr, good_zs h.rl, good_zs h.rr, decide_eq_true h.n1, decide_eq_true h.n2]
  rfl
theorem tflds_zs (t : Tb) : tflds (zs t.ll) (zs t.lr) (zs t.rl) (zs t.rr) = tgs t := by
  unfold tflds tgs
  rw [← ns_zs, ← ns_zs, ← ns_zs, ← ns_zs, zs_len]
section
variable {P : Program} {w : World} {K : PySem.W.Frag} {mg : Str → Option Value} {base : Heap} {a : Adr}
theorem ini_ok {n : Nat} {t : Tb} (h : TbOk n t) : RIni [.tup (ns t.ll), .tup (ns t.lr), .tup (ns t.rl), .tup (ns t.rr)] (some (tgs t)) := by
  have := h.n2
  refine ⟨zs t.ll, zs t.lr, zs t.rl, zs t.rr, ?_, ?_, ?_, ?_, ?_, ?_⟩
  · rw [zs_len, h.ll.len]; omega
  · rw [zs_len, h.lr.len]; omega
  · rw [zs_len, h.rl.len]; omega
  · rw [zs_len, h.rr.len]; omega
  · rw [← ns_zs, ← ns_zs, ← ns_zs, ← ns_zs]
  · rw [if_pos (ok_zs h), tflds_zs]
/-- the class Table, its __init__ walked -/
structure TI (P : Program) (w : World) (K : PySem.W.Frag) (mg : Str → Option Value) (base : Heap) (a : Adr) : Prop where
  T : TF P K mg a
  ini : FncM P w K mg base (L2.CX P w) 5 a.ini ["self", "ll", "lr", "rl", "rr"] (spI K (.ref a.Cb) a.C RIni)
theorem d_mkT {X : Cx} {N : List Str} {sc : Scope} {tp : Bool} {ρ ρ1 ρ2 ρ3 ρ4 : List SV} {e1 e2 e3 e4 : Expr} {p pos : Pos} {n k : Nat} {t : Tb} (I : TI X.prog X.w X.K X.mg X.base a) (S : Sco X N sc tp) (hr : Room k X.A) (h : TbOk n t) (h1 : ED X e1 ρ ρ1 (.tup (ns t.ll))) (h2 : ED X e2 ρ1 ρ2 (.tup (ns t.lr))) (h3 : ED X e3 ρ2 ρ3 (.tup (ns t.rl))) (h4 : ED X e4 ρ3 ρ4 (.tup (ns t.rr))) (hg : Gl X "Table") (hk : 6 ≤ k := by decide)
    (s1 : starEach [e1, e2, e3, e4] X.env = (false, eval e1 X.env) :: starEach [e2, e3, e4] X.env := by rfl) (s2 : starEach [e2, e3, e4] X.env = (false, eval e2 X.env) :: starEach [e3, e4] X.env := by rfl) (s3 : starEach [e3, e4] X.env = (false, eval e3 X.env) :: starEach [e4] X.env := by rfl) (s4 : starEach [e4] X.env = (false, eval e4 X.env) :: starEach [] X.env := by rfl) :
    ED X (.Call (.Name "Table" p) [e1, e2, e3, e4] [] pos) ρ ρ4 (tn a.C t) := by
  obtain ⟨fd, F, hb⟩ := I.ini
  exact d_make (E := E0) I.T.mkC F passL (hr.mono hk) hg I.T.gC hb (a_cons h1 (a_cons h2 (a_cons h3 (a_cons h4 a_nil s4) s3) s2) s1) (ini_ok h) (he := s1) (hpl := by rw [s2, s3, s4]; rfl)
/-! fields -/
section
variable {X : Cx} {ρ ρ1 : List SV} {e : Expr} {pos : Pos} {t : Tb} {P : Program}
theorem d_ll (T : TF P X.K X.mg a) (h : ED X e ρ ρ1 (tn a.C t)) (hb : attributeBase e "ll" X.env (eval e X.env) = eval e X.env := by rfl) : ED X (.Attribute e "ll" pos) ρ ρ1 (.tup (ns t.ll)) := d_fld T.cls T.nll rfl h hb
theorem d_lr (T : TF P X.K X.mg a) (h : ED X e ρ ρ1 (tn a.C t)) (hb : attributeBase e "lr" X.env (eval e X.env) = eval e X.env := by rfl) : ED X (.Attribute e "lr" pos) ρ ρ1 (.tup (ns t.lr)) := d_fld T.cls T.nlr rfl h hb
theorem d_rl (T : TF P X.K X.mg a) (h : ED X e ρ ρ1 (tn a.C t)) (hb : attributeBase e "rl" X.env (eval e X.env) = eval e X.env := by rfl) : ED X (.Attribute e "rl" pos) ρ ρ1 (.tup (ns t.rl)) := d_fld T.cls T.nrl rfl h hb
theorem d_rr (T : TF P X.K X.mg a) (h : ED X e ρ ρ1 (tn a.C t)) (hb : attributeBase e "rr" X.env (eval e X.env) = eval e X.env := by rfl) : ED X (.Attribute e "rr" pos) ρ ρ1 (.tup (ns t.rr)) := d_fld T.cls T.nrr rfl h hb
theorem d_sts (T : TF P X.K X.mg a) (h : ED X e ρ ρ1 (tn a.C t)) (hb : attributeBase e "states" X.env (eval e X.env) = eval e X.env := by rfl) : ED X (.Attribute e "states" pos) ρ ρ1 (.int ((t.ll.length : Nat) : Int)) := d_fld T.cls T.nst rfl h hb
end
/-! ### the methods -/
def RUni (C : Addr) (ds : List Da) (d : Da) : Prop := ∃ n : Nat, 1 ≤ n ∧ n ≤ 60 ∧ ds = [.cls C, .int n] ∧ d = tn C ⟨idN n, idN n, idN n, idN n⟩
theorem sc_uni : FnScope ["cls", "states", "same"] ["cls", "states"] (defScope (cb 1)) := ⟨rfl, rfl, rfl, by decide +kernel, rfl, by decide +kernel, by decide +kernel⟩
theorem id_ok {n : Nat} (h1 : 1 ≤ n) (h2 : n ≤ 60) : TbOk n ⟨idN n, idN n, idN n, idN n⟩ := ⟨h1, h2, id_rl n, id_rl n, id_rl n, id_rl n⟩
theorem ok_uni (I : TI P w K mg base a) (CI : Fnc P w K mg base CX0 2 "identity" ["states"] (spD K RIdent)) : FncM P w K mg base CX0 8 a.uni ["cls", "states"] (spD K (RUni a.C)) := by
  obtain ⟨fd, F, hb0⟩ := I.T.dU.ex
  refine ⟨fd, fn_d F sc_uni (fun ds d ⟨_, _, _, h, _⟩ => by rw [h]; rfl) fun X T S hr ds d ⟨n, h0, h00, h1, h2⟩ => ?_, hb0⟩
  obtain ⟨rfl, rfl, rfl, rfl, rfl⟩ := T
  subst h1 h2
  refine q_asg S 2 (d_fn CI hr (a_cons (d_nm S 1 rfl) a_nil) ⟨n, by omega, rfl, rfl⟩ (S.gl rfl)) ?_
  obtain ⟨fdi, Fi, hbi⟩ := I.ini
  exact q_ret (d_makeL (E := E0) S 0 I.T.mkC Fi passL (hr.mono (by decide)) rfl hbi (a_cons (d_nm S 2 rfl) (a_cons (d_nm S 2 rfl) (a_cons (d_nm S 2 rfl) (a_cons (d_nm S 2 rfl) a_nil)))) (ini_ok (id_ok h0 h00))) rfl
def RMul (C : Addr) (ds : List Da) (d : Da) : Prop := ∃ (n : Nat) (x y : Tb), TbOk n x ∧ TbOk n y ∧ ds = [tn C x, tn C y] ∧ d = tn C (mulT x y)
theorem sc_mul : FnScope ["self", "other", "middle", "ahead", "behind", "ll", "rr"] ["self", "other"] (defScope (cb 2)) := ⟨rfl, rfl, rfl, by decide +kernel, rfl, by decide +kernel, by decide +kernel⟩
structure RelFs (P : Program) (w : World) (K : PySem.W.Frag) (mg : Str → Option Value) (base : Heap) : Prop where
  un : Fnc P w K mg base CX0 2 "union" ["first", "second"] (spD K RUn)
  af : Fnc P w K mg base CX0 4 "after" ["first", "second"] (spD K RAf)
  cl : Fnc P w K mg base CX0 2 "closed" ["relation"] (spD K RCl)
  li : Fnc P w K mg base CX0 2 "lies_in_relations" ["first", "second"] (spD K RLie)
theorem mul_af {n : Nat} {r s : List Nat} (h2 : n ≤ 60) (hr : Rl n r) (hs : Rl n s) : RAf [.tup (ns r), .tup (ns s)] (.tup (ns (afterN r s))) := ⟨r, s, by rw [hr.len]; omega, by rw [hs.len]; omega, fun x hx => by rw [hs.len]; exact rl_mem hr hx, rfl, rfl⟩
theorem mul_un {n : Nat} {r s : List Nat} (h2 : n ≤ 60) (hr : Rl n r) (hs : Rl n s) : RUn [.tup (ns r), .tup (ns s)] (.tup (ns (unionN r s))) := ⟨r, s, by rw [hr.len]; omega, by rw [hr.len, hs.len], rfl, rfl⟩
theorem ok_mul (I : TI P w K mg base a) (C : RelFs P w K mg base) : FncM P w K mg base CX0 8 a.mul ["self", "other"] (spD K (RMul a.C)) := by
  obtain ⟨fd, F, hb0⟩ := I.T.dM.ex
  refine ⟨fd, fn_d F sc_mul (fun ds d ⟨_, _, _, _, _, h, _⟩ => by rw [h]; rfl) fun X T S hr ds d ⟨n, x, y, hx, hy, h1, h2⟩ => ?_, hb0⟩
  obtain ⟨rfl, rfl, rfl, rfl, rfl⟩ := T
  subst h1 h2
  have h60 := hx.n2
  have m := closed_rl (union_rl hx.rr hy.ll)
  have ah := after_rl hx.lr m
  have be := after_rl hy.rl m
  refine q_asg S 2 (d_fn C.cl hr (a_cons (d_fn C.un hr (a_cons (d_rr I.T (d_nm S 0 rfl)) (a_cons (d_ll I.T (d_nm S 1 rfl)) a_nil)) (mul_un h60 hx.rr hy.ll) (S.gl rfl)) a_nil) ⟨n, _, by omega, union_rl hx.rr hy.ll, rfl, rfl⟩ (S.gl rfl)) ?_
  refine q_asg S 3 (d_fn C.af hr (a_cons (d_lr I.T (d_nm S 0 rfl)) (a_cons (d_nm S 2 rfl) a_nil)) (mul_af h60 hx.lr m) (S.gl rfl)) ?_
  refine q_asg S 4 (d_fn C.af hr (a_cons (d_rl I.T (d_nm S 1 rfl)) (a_cons (d_nm S 2 rfl) a_nil)) (mul_af h60 hy.rl m) (S.gl rfl)) ?_
  refine q_asg S 5 (d_fn C.un hr (a_cons (d_ll I.T (d_nm S 0 rfl)) (a_cons (d_fn C.af hr (a_cons (d_nm S 3 rfl) (a_cons (d_rl I.T (d_nm S 0 rfl)) a_nil)) (mul_af h60 ah hx.rl) (S.gl rfl)) a_nil)) (mul_un h60 hx.ll (after_rl ah hx.rl)) (S.gl rfl)) ?_
  refine q_asg S 6 (d_fn C.un hr (a_cons (d_rr I.T (d_nm S 1 rfl)) (a_cons (d_fn C.af hr (a_cons (d_nm S 4 rfl) (a_cons (d_lr I.T (d_nm S 1 rfl)) a_nil)) (mul_af h60 be hy.lr) (S.gl rfl)) a_nil)) (mul_un h60 hy.rr (after_rl be hy.lr)) (S.gl rfl)) ?_
  exact q_ret (d_mkT (t := mulT x y) I S hr (mulT_ok hx hy) (d_nm S 5 rfl) (d_fn C.af hr (a_cons (d_nm S 3 rfl) (a_cons (d_lr I.T (d_nm S 1 rfl)) a_nil)) (mul_af h60 ah hy.lr) (S.gl rfl)) (d_fn C.af hr (a_cons (d_nm S 4 rfl) (a_cons (d_rl I.T (d_nm S 0 rfl)) a_nil)) (mul_af h60 be hx.rl) (S.gl rfl)) (d_nm S 6 rfl) (S.gl rfl)) rfl
def RInv (C : Addr) (ds : List Da) (d : Da) : Prop := ∃ (n : Nat) (x : Tb), TbOk n x ∧ ds = [tn C x] ∧ d = tn C (invT x)
theorem sc_inv : FnScope ["self"] ["self"] (defScope (cb 3)) := ⟨rfl, rfl, rfl, by decide +kernel, rfl, by decide +kernel, by decide +kernel⟩
theorem ok_inv (I : TI P w K mg base a) : FncM P w K mg base CX0 8 a.inv ["self"] (spD K (RInv a.C)) := by
  obtain ⟨fd, F, hb0⟩ := I.T.dV.ex
  refine ⟨fd, fn_d F sc_inv (fun ds d ⟨_, _, _, h, _⟩ => by rw [h]; rfl) fun X T S hr ds d ⟨n, x, hx, h1, h2⟩ => ?_, hb0⟩
  obtain ⟨rfl, rfl, rfl, rfl, rfl⟩ := T
  subst h1 h2
  exact q_ret (d_mkT (t := invT x) I S hr (invT_ok hx) (d_rr I.T (d_nm S 0 rfl)) (d_rl I.T (d_nm S 0 rfl)) (d_lr I.T (d_nm S 0 rfl)) (d_ll I.T (d_nm S 0 rfl)) (S.gl rfl)) rfl
theorem sms_ns {k b : Nat} (hb : 0 < b) (hb2 : b ≤ 300) {l : List Nat} (h : ∀ x ∈ l, x < 2 ^ b) : Sms k (l.length * (b + 1)) (ns l) := by
  have := Sms.all (k := k) (w := b) (ds := ns l) fun d hd => by
    obtain ⟨x, hx, rfl⟩ := List.mem_map.mp hd
    exact sm_int hb hb2 (by rw [Int.natAbs_natCast]; exact h x hx)
  rw [ns_len] at this
  exact this
theorem sm_nsT {b : Nat} (hb : 0 < b) (hb2 : b ≤ 300) {l : List Nat} (h : ∀ x ∈ l, x < 2 ^ b) : Sm 1 (l.length * (b + 1)) (.tup (ns l)) := Sm.tup (sms_ns hb hb2 h)
theorem sm_rl {n : Nat} {l : List Nat} (h1 : 1 ≤ n) (h2 : n ≤ 60) (h : Rl n l) : Sm 1 3660 (.tup (ns l)) := (sm_nsT (b := n) (by omega) (by omega) fun x hx => rl_mem h hx).le (Nat.le_refl _) (by
  rw [h.len]
  exact Nat.le_trans (Nat.mul_le_mul h2 (show n + 1 ≤ 61 by omega)) (by decide))
theorem zs_inj {l m : List Nat} : zs l = zs m ↔ l = m := by
  unfold zs
  constructor
  · intro h
    have : Function.Injective fun n : Nat => ((n : Nat) : Int) := fun a b q => Int.ofNat_inj.mp q
    exact (List.map_inj_right (fun a b q => Int.ofNat_inj.mp q)).mp h
  · rintro rfl
    rfl
theorem eqv_ns (l m : List Nat) : PyData.eqv (toP (.tup (ns l))) (toP (.tup (ns m))) = decide (l = m) := by
  rw [ns_zs, ns_zs]
  unfold is
  rw [eqv_ints]
  exact decide_eq_decide.mpr zs_inj
def eqT (x y : Tb) : Bool := decide (x.ll = y.ll) && (decide (x.lr = y.lr) && (decide (x.rl = y.rl) && decide (x.rr = y.rr)))
def REq (C : Addr) (ds : List Da) (d : Da) : Prop := ∃ (n m : Nat) (x y : Tb), TbOk n x ∧ TbOk m y ∧ ds = [tn C x, tn C y] ∧ d = .bl (eqT x y)
theorem sc_eq : FnScope ["self", "other"] ["self", "other"] (defScope (cb 4)) := ⟨rfl, rfl, rfl, by decide +kernel, rfl, by decide +kernel, by decide +kernel⟩
theorem d_isIns {X : Cx} {ρ ρ1 : List SV} {e : Expr} {p p2 pos : Pos} {P : Program} {gs : List (Str × Da)} (B : Bl X.mg) (T : TF P X.K X.mg a) (hg : Gl X "isinstance") (hg2 : Gl X "Table") (h : ED X e ρ ρ1 (.ins a.C gs))
    (h1 : starEach [e, .Name "Table" p2] X.env = (false, eval e X.env) :: starEach [.Name "Table" p2] X.env := by rfl) (h2 : starEach [.Name "Table" p2] X.env = (false, eval (.Name "Table" p2) X.env) :: starEach [] X.env := by rfl) :
    ED X (.Call (.Name "isinstance" p) [e, .Name "Table" p2] [] pos) ρ ρ1 (.bl true) :=
  pe_imp (pe_callB call_isi hg B.isinstance (by decide +kernel) (pa_cons h (pa_cons (pe_glob (v := .ref a.C) hg2 T.gC rfl) pa_nil h2) h1) (by decide) (by decide) h1 (by rw [h2]; rfl)) fun σ H Q ⟨e, S, R, q⟩ => ⟨e, S, R, fun v S1 H1 R1 q1 d1 => by
    cases d1 with
    | @ins a0 _ dx fs _ hh t => exact ⟨.ref a0, .ref a.C, .ref a.C, .ref a.C, true, rfl, .own a.C, .base (.ins (R1.sub _ _ hh) T.cls T.cc T.cn T.ct T.cm), if_pos (beq_self_eq_true _), q _ S1 H1 R1 q1 (.bl _)⟩⟩
theorem d_eqR {X : Cx} {ρ ρ1 ρ2 : List SV} {e1 e2 : Expr} {pos : Pos} {l m : List Nat} {n1 n2 k : Nat} (a1 : 1 ≤ n1) (b1 : n1 ≤ 60) (h1 : Rl n1 l) (a2 : 1 ≤ n2) (b2 : n2 ≤ 60) (h2 : Rl n2 m) (hr : Room k X.A) (g1 : ED X e1 ρ ρ1 (.tup (ns l))) (g2 : ED X e2 ρ1 ρ2 (.tup (ns m))) : ED X (.Compare e1 [.Eq] [e2] pos) ρ ρ2 (.bl (decide (l = m))) :=
  d_is (d_eqD (sm_rl a1 b1 h1) (sm_rl a2 b2 h2) (by decide) (by decide) hr g1 g2) (by rw [eqv_ns])
theorem ok_eq (B : Bl mg) (I : TI P w K mg base a) : FncM P w K mg base CX0 8 a.eq ["self", "other"] (spD K (REq a.C)) := by
  obtain ⟨fd, F, hb0⟩ := I.T.dE.ex
  refine ⟨fd, fn_d F sc_eq (fun ds d ⟨_, _, _, _, _, _, h, _⟩ => by rw [h]; rfl) fun X T S hr ds d ⟨n, m, x, y, hx, hy, h1, h2⟩ => ?_, hb0⟩
  obtain ⟨rfl, rfl, rfl, rfl, rfl⟩ := T
  subst h1 h2
  refine q_if (t_not (t_val (d_isIns B I.T (S.gl rfl) (S.gl rfl) (d_nm S 1 rfl)))) (fun hb => nomatch hb) (fun _ => sd_nil ?_)
  exact q_ret (d_and (d_eqR hx.n1 hx.n2 hx.ll hy.n1 hy.n2 hy.ll hr (d_ll I.T (d_nm S 0 rfl)) (d_ll I.T (d_nm S 1 rfl))) fun _ => d_and (d_eqR hx.n1 hx.n2 hx.lr hy.n1 hy.n2 hy.lr hr (d_lr I.T (d_nm S 0 rfl)) (d_lr I.T (d_nm S 1 rfl))) fun _ =>
    d_and (d_eqR hx.n1 hx.n2 hx.rl hy.n1 hy.n2 hy.rl hr (d_rl I.T (d_nm S 0 rfl)) (d_rl I.T (d_nm S 1 rfl))) fun _ => d_one (d_eqR hx.n1 hx.n2 hx.rr hy.n1 hy.n2 hy.rr hr (d_rr I.T (d_nm S 0 rfl)) (d_rr I.T (d_nm S 1 rfl)))) rfl
def lieT (x y : Tb) : Bool := liesN x.ll y.ll && (liesN x.lr y.lr && (liesN x.rl y.rl && liesN x.rr y.rr))
def RLieT (C : Addr) (ds : List Da) (d : Da) : Prop := ∃ (n : Nat) (x y : Tb), TbOk n x ∧ TbOk n y ∧ ds = [tn C x, tn C y] ∧ d = .bl (lieT x y)
theorem sc_lieT : FnScope ["self", "other"] ["self", "other"] (defScope (cb 5)) := ⟨rfl, rfl, rfl, by decide +kernel, rfl, by decide +kernel, by decide +kernel⟩
theorem lie_in {n : Nat} {r s : List Nat} (h2 : n ≤ 60) (hr : Rl n r) (hs : Rl n s) : RLie [.tup (ns r), .tup (ns s)] (.bl (liesN r s)) := ⟨r, s, by rw [hr.len]; omega, by rw [hr.len, hs.len], rfl, rfl⟩
theorem ok_lieT (I : TI P w K mg base a) (C : RelFs P w K mg base) : FncM P w K mg base CX0 8 a.lie ["self", "other"] (spD K (RLieT a.C)) := by
  obtain ⟨fd, F, hb0⟩ := I.T.dL.ex
  refine ⟨fd, fn_d F sc_lieT (fun ds d ⟨_, _, _, _, _, h, _⟩ => by rw [h]; rfl) fun X T S hr ds d ⟨n, x, y, hx, hy, h1, h2⟩ => ?_, hb0⟩
  obtain ⟨rfl, rfl, rfl, rfl, rfl⟩ := T
  subst h1 h2
  have h60 := hx.n2
  refine q_if (PW.pt (w_or (t_not (t_val (d_fn C.li hr (a_cons (d_ll I.T (d_nm S 0 rfl)) (a_cons (d_ll I.T (d_nm S 1 rfl)) a_nil)) (lie_in h60 hx.ll hy.ll) (S.gl rfl)))) fun _ => w_or1 (t_not (t_val (d_fn C.li hr (a_cons (d_lr I.T (d_nm S 0 rfl)) (a_cons (d_lr I.T (d_nm S 1 rfl)) a_nil)) (lie_in h60 hx.lr hy.lr) (S.gl rfl))))))
    (fun hb => q_ret d_bl ?_) (fun hb => sd_nil (q_ret (d_and (d_fn C.li hr (a_cons (d_rl I.T (d_nm S 0 rfl)) (a_cons (d_rl I.T (d_nm S 1 rfl)) a_nil)) (lie_in h60 hx.rl hy.rl) (S.gl rfl)) fun _ => d_one (d_fn C.li hr (a_cons (d_rr I.T (d_nm S 0 rfl)) (a_cons (d_rr I.T (d_nm S 1 rfl)) a_nil)) (lie_in h60 hx.rr hy.rr) (S.gl rfl))) ?_))
  · show Da.bl false = Da.bl (lieT x y)
    unfold lieT
    congr 1
    generalize liesN x.ll y.ll = u1 at *
    generalize liesN x.lr y.lr = u2 at *
    generalize liesN x.rl y.rl = u3 at *
    generalize liesN x.rr y.rr = u4 at *
    revert hb
    cases u1 <;> cases u2 <;> cases u3 <;> cases u4 <;> decide
  · show Da.bl _ = Da.bl (lieT x y)
    unfold lieT
    congr 1
    generalize liesN x.ll y.ll = u1 at *
    generalize liesN x.lr y.lr = u2 at *
    generalize liesN x.rl y.rl = u3 at *
    generalize liesN x.rr y.rr = u4 at *
    revert hb
    cases u1 <;> cases u2 <;> cases u3 <;> cases u4 <;> decide
def flatT (x : Tb) : List Nat := x.ll ++ x.lr ++ x.rl ++ x.rr
def RFla (C : Addr) (ds : List Da) (d : Da) : Prop := ∃ (n : Nat) (x : Tb), TbOk n x ∧ ds = [tn C x] ∧ d = .tup (ns (flatT x))
theorem sc_fla : FnScope ["self"] ["self"] (defScope (cb 6)) := ⟨rfl, rfl, rfl, by decide +kernel, rfl, by decide +kernel, by decide +kernel⟩
theorem ns_app (l m : List Nat) : ns (l ++ m) = ns l ++ ns m := by simp [ns]
theorem ok_fla (I : TI P w K mg base a) : FncM P w K mg base CX0 8 a.fla ["self"] (spD K (RFla a.C)) := by
  obtain ⟨fd, F, hb0⟩ := I.T.dF.ex
  refine ⟨fd, fn_d F sc_fla (fun ds d ⟨_, _, _, h, _⟩ => by rw [h]; rfl) fun X T S hr ds d ⟨n, x, hx, h1, h2⟩ => ?_, hb0⟩
  obtain ⟨rfl, rfl, rfl, rfl, rfl⟩ := T
  subst h1 h2
  have h60 := hx.n2
  have l1 := hx.ll.len
  have l2 := hx.lr.len
  have l3 := hx.rl.len
  have l4 := hx.rr.len
  refine q_ret (d_catT (by simp only [List.length_append, ns_len]; omega) (d_catT (by simp only [List.length_append, ns_len]; omega) (d_catT (by simp only [ns_len]; omega) (d_ll I.T (d_nm S 0 rfl)) (d_lr I.T (d_nm S 0 rfl))) (d_rl I.T (d_nm S 0 rfl))) (d_rr I.T (d_nm S 0 rfl))) ?_
  show Da.tup _ = Da.tup _
  congr 1
  unfold flatT
  rw [ns_app, ns_app, ns_app]
end
end K11
end
section
set_option Elab.async false
set_option linter.all false
set_option maxRecDepth 100000
namespace K11
open PySem PySem.Spec PyProof.Rows L2 Wv Km
section
variable {P : Program} {w : World} {K : PySem.W.Frag} {mg : Str → Option Value} {base : Heap} {a : Adr}
/-! ### _law_take -/
structure Stt where
  l : List Int
  p : Nat
  r : Nat
def fill (s : Stt) : Stt := if s.r < 1 ∧ s.p < s.l.length then ⟨s.l, s.p + 1, (s.l.getD s.p 0).natAbs⟩ else s
def dig (s : Stt) (m : Nat) : Nat := (fill s).r % m
def nxt (s : Stt) (m : Nat) : Stt := ⟨(fill s).l, (fill s).p, (fill s).r / m⟩
def stD (s : Stt) : List Da := [.lst (is s.l), .int ((s.p : Nat) : Int), .int ((s.r : Nat) : Int)]
theorem dig_lt (s : Stt) {m : Nat} (h : 0 < m) : dig s m < m := Nat.mod_lt _ h
def RTake (ms ds : List Da) (d : Da) (ms' : List Da) : Prop := ∃ (s : Stt) (m : Nat), 0 < m ∧ m < 1000 ∧ ms = stD s ∧ ds = [.int m] ∧ d = .int ((dig s m : Nat) : Int) ∧ ms' = stD (nxt s m)
theorem sc_take : FnScope ["state", "m", "digit"] ["state", "m"] (defScope (top 24)) := ⟨rfl, rfl, rfl, by decide +kernel, rfl, by decide +kernel, by decide +kernel⟩
theorem abs_nat (i : Int) : (if i < 0 then -i else i) = ((i.natAbs : Nat) : Int) := by
  split <;> omega
theorem ok_take (B : Bl mg) (D : Def K mg "_law_take" "_law_take" (top 24) ["state", "m"]) : Fnc P w K mg base CX0 2 "_law_take" ["state", "m"] (spM K RTake) := by
  refine fnc_m D sc_take (fun ms ds d ms' ⟨_, _, _, _, _, h, _⟩ => by rw [h]; rfl) fun X T S hr ms ds d ms' ⟨s, m, hm, hm2, h1, h2, h3, h4⟩ => ?_
  obtain ⟨rfl, rfl, rfl, rfl, rfl⟩ := T
  subst h1 h2 h3 h4
  refine q_ifc (fun ρ => ρ = [.own (.l (stD (fill s))), .d (.int m), .any])
    (PW.pt (w_and (t_ltN (d_ixO S 0 (j := 2) rfl rfl d_int) d_n1) fun _ => w_and1 (t_ltN (d_ixO S 0 (j := 1) rfl rfl d_int) (d_is (d_lenL (S.gl rfl) B.len (d_ixO S 0 (j := 0) rfl rfl d_int)) (by rw [is_len]))))) (fun hb => ?_) (fun hb => sd_nil ?_) fun ρ hρ => ?_
  · rw [Bool.and_eq_true, decide_eq_true_eq, decide_eq_true_eq] at hb
    have ef : fill s = ⟨s.l, s.p + 1, (s.l.getD s.p 0).natAbs⟩ := if_pos hb
    have hx : (is s.l)[s.p]? = some (.int (s.l.getD s.p 0)) := by
      unfold is
      rw [List.getElem?_map, getDI hb.2]
      rfl
    refine q_setL S 0 (j := 2) (d_is (d_abs (S.gl rfl) B.abs (d_toInt (S.gl rfl) B.int (d_ixL hx (d_ixO S 0 (j := 0) rfl rfl d_int) (d_ixO S 0 (j := 1) rfl rfl d_int)))) (congrArg Da.int (abs_nat _))) d_int rfl rfl (by show 2 < 3; decide) ?_
    refine q_setL S 0 (j := 1) (d_addN (d_ixO S 0 (j := 1) rfl rfl d_int) d_n1) d_int rfl rfl (by show 1 < 3; decide) (sd_nil ?_)
    rw [ef]
    rfl
  · rw [Bool.and_eq_false_iff, decide_eq_false_iff_not, decide_eq_false_iff_not] at hb
    have ef : fill s = s := if_neg fun q => by rcases hb with h | h <;> omega
    rw [ef]
    rfl
  · subst hρ
    refine q_asg S 2 (d_modN hm (d_toInt (S.gl rfl) B.int (d_ixO S 0 (j := 2) rfl rfl d_int)) (d_nm S 1 rfl)) ?_
    refine q_setL S 0 (j := 2) (d_fdivN hm (by omega) (d_toInt (S.gl rfl) B.int (d_ixO S 0 (j := 2) rfl rfl d_int)) (d_nm S 1 rfl)) d_int rfl rfl (by show 2 < 3; decide) ?_
    exact q_ret (d_nm S 2 rfl) ⟨rfl, rfl⟩
/-! ### _law_shifted -/
def shTo (n i : Nat) (S : List Nat) : Nat := S.foldl (fun m s => m ||| 2 ^ ((i + s) % n)) 0
def shN (n : Nat) (S : List Nat) : List Nat := (List.range n).map fun i => shTo n i S
theorem shTo_next {n i : Nat} {S : List Nat} {t x : Nat} (h : S[t]? = some x) : shTo n i (S.take (t + 1)) = shTo n i (S.take t) ||| 2 ^ ((i + x) % n) := by
  unfold shTo
  rw [take_next h, List.foldl_append]
  rfl
def RSh (ds : List Da) (d : Da) : Prop := ∃ (n : Nat) (S : List Nat), 1 ≤ n ∧ n ≤ 100 ∧ ds = [.int n, .lst (ns S)] ∧ d = .tup (ns (shN n S))
theorem sc_sh : FnScope ["n", "shifts", "rows", "i", "mask", "shift"] ["n", "shifts"] (defScope (top 25)) := ⟨rfl, rfl, rfl, by decide +kernel, rfl, by decide +kernel, by decide +kernel⟩
theorem ns_map_next (f : Nat → Nat) (i : Nat) : ns ((List.range i).map f) ++ [.int ((f i : Nat) : Int)] = ns ((List.range (i + 1)).map f) := by
  rw [List.range_succ, List.map_append, ns_app]
  rfl
theorem ok_sh (B : Bl mg) (D : Def K mg "_law_shifted" "_law_shifted" (top 25) ["n", "shifts"]) : Fnc P w K mg base CX0 2 "_law_shifted" ["n", "shifts"] (spD K RSh) := by
  refine fnc_d D sc_sh (fun ds d ⟨_, _, _, _, h, _⟩ => by rw [h]; rfl) fun X T S hr ds d ⟨n, l, hn, hn2, h1, h2⟩ => ?_
  obtain ⟨rfl, rfl, rfl, rfl, rfl⟩ := T
  subst h1 h2
  refine q_asgO S 2 (f_lst a_nil (by decide)) ?_
  refine q_for S (d_range (S.gl rfl) B.range (d_nm S 0 rfl) (by omega)) (fun i ρ => ∃ z1 z2 z3, ρ = [.d (.int n), .d (.lst (ns l)), .own (.l (ns ((List.range i).map fun i => shTo n i l))), z1, z2, z3] ∧ z1.isOwn = false ∧ z2.isOwn = false ∧ z3.isOwn = false) ⟨_, _, _, rfl, rfl, rfl, rfl⟩ (fun i ρ hi ⟨z1, z2, z3, hρ, hz1, hz2, hz3⟩ => ?_) (fun ρ ⟨z1, z2, z3, hρ, _⟩ => ?_)
  · subst hρ
    refine ⟨_, g_nm S 3 (nz1 rfl hz1), ?_⟩
    refine q_asg S 4 d_n0 (hn := nz1 rfl hz2) ?_
    refine q_for S (i_list (d_nm S 1 rfl)) (fun t ρ => ∃ z, ρ = [.d (.int n), .d (.lst (ns l)), .own (.l (ns ((List.range i).map fun i => shTo n i l))), .d (.int ((i : Nat) : Int)), .d (.int ((shTo n i (l.take t) : Nat) : Int)), z] ∧ z.isOwn = false) ⟨_, rfl, hz3⟩ (fun t ρ ht ⟨z, hρ, hz⟩ => ?_) (fun ρ ⟨z, hρ, hz⟩ => ?_)
    · subst hρ
      rw [ns_len] at ht
      rw [ns_getD ht]
      have hlt := Nat.mod_lt (i + l.getD t 0) (show 0 < n by omega)
      refine ⟨_, g_nm S 5 (nz1 rfl hz), q_asg S 4 (d_orN (d_nm S 4 rfl) (d_oneN (by omega) (d_modN (by omega) (d_toInt (S.gl rfl) B.int (d_addN (d_nm S 3 rfl) (d_nm S 5 rfl))) (d_nm S 0 rfl)))) (sd_nil ⟨.d (.int ((l.getD t 0 : Nat) : Int)), ?_, rfl⟩)⟩
      rw [shTo_next (getD_some ht)]
      rfl
    · subst hρ
      rw [ns_len, List.take_length]
      refine q_push S 2 (d_nm S 4 rfl) rfl rfl (by rw [ns_len, List.length_map, List.length_range]; omega) (sd_nil ⟨.d (.int ((i : Nat) : Int)), .d (.int ((shTo n i l : Nat) : Int)), z, ?_, rfl, rfl, hz⟩)
      rw [← ns_map_next]
      rfl
  · subst hρ
    refine q_pub (i := 2) rfl ?_
    exact q_ret (d_tuple (S.gl rfl) B.tuple (d_nm S 2 rfl)) rfl
end
end K11
end
section
set_option Elab.async false
set_option linter.all false
set_option maxRecDepth 100000
namespace K11
open PySem PySem.Spec PyProof.Rows L2 Wv Km
section
variable {P : Program} {w : World} {K : PySem.W.Frag} {mg : Str → Option Value} {base : Heap} {a : Adr}
/-! ### _law_multiples -/
def gcdN (n : Nat) (S : List Nat) : Nat := S.foldl Nat.gcd n
def muls (n g : Nat) : List Nat := (List.range (n / g)).map fun t => t * g
def mulN (n : Nat) (S : List Nat) : List Nat := muls n (gcdN n S)
theorem gcdN_dvd : ∀ (S : List Nat) (n : Nat), gcdN n S ∣ n ∧ ∀ s ∈ S, gcdN n S ∣ s
  | [], n => ⟨Nat.dvd_refl n, fun s h => nomatch h⟩
  | x :: S, n => by
    obtain ⟨h1, h2⟩ := gcdN_dvd S (Nat.gcd n x)
    show gcdN (Nat.gcd n x) S ∣ n ∧ ∀ s ∈ x :: S, gcdN (Nat.gcd n x) S ∣ s
    refine ⟨Nat.dvd_trans h1 (Nat.gcd_dvd_left n x), fun s h => ?_⟩
    rcases List.mem_cons.mp h with e | e
    · rw [e]
      exact Nat.dvd_trans h1 (Nat.gcd_dvd_right n x)
    · exact h2 s e
theorem gcdN_pos {n : Nat} (h : 0 < n) (S : List Nat) : 0 < gcdN n S := Nat.pos_of_dvd_of_pos (gcdN_dvd S n).1 h
theorem rgc_mul {n g : Nat} (hn : 1 ≤ n) (hn2 : n ≤ 100) (hg : g ∣ n) : RgC 0 (n : Int) (g : Int) (n / g) := by
  have hp : 0 < g := Nat.pos_of_dvd_of_pos hg hn
  have hle : g ≤ n := Nat.le_of_dvd hn hg
  obtain ⟨q, hq⟩ := hg
  have hq0 : 0 < q := by
    rcases Nat.eq_zero_or_pos q with e | e
    · rw [e] at hq; omega
    · exact e
  have hqn : q ≤ n := by
    rw [hq]
    exact Nat.le_mul_of_pos_left q hp
  have e1 : n / g = q := by rw [hq, Nat.mul_div_cancel_left _ hp]
  have es : Builtin.Range.rangeSize 0 (n : Int) (g : Int) = (q : Int) := by
    rw [rangeSize_pos (by omega) (by omega)]
    have e2 : ((n : Int) + g - 1) = (g - 1) + q * g := by
      rw [hq]
      push_cast
      rw [Int.mul_comm (g : Int) q]
      omega
    rw [e2, Int.add_mul_ediv_right _ _ (by omega), Int.ediv_eq_zero_of_lt (by omega) (by omega)]
    omega
  refine ⟨by omega, by omega, ?_, by rw [es, e1]⟩
  unfold Builtin.Range.small
  rw [es]
  have b1 : (q : Int) * (g : Int) = n := by rw [hq]; push_cast; exact Int.mul_comm _ _
  have b2 : (0 : Int) + (q : Int) * (g : Int) = n := by rw [b1]; omega
  have b3 : (0 : Int) + ((q : Int) - 1) * (g : Int) = n - g := by rw [Int.sub_mul, b1]; omega
  rw [if_pos (show (g : Int) > 0 by omega)]
  simp only [Builtin.Range.rangeFitsLong, Bool.and_eq_true, Bool.or_eq_true, decide_eq_true_eq, beq_iff_eq]
  omega
def RMuls (ds : List Da) (d : Da) : Prop := ∃ (n : Nat) (S : List Nat), 1 ≤ n ∧ n ≤ 100 ∧ ds = [.int n, .lst (ns S)] ∧ d = .lst (ns (mulN n S))
theorem sc_muls : FnScope ["n", "shifts", "step", "shift", "other", "rest"] ["n", "shifts"] (defScope (top 26)) := ⟨rfl, rfl, rfl, by decide +kernel, rfl, by decide +kernel, by decide +kernel⟩
theorem gcd_take {n : Nat} {S : List Nat} {t x : Nat} (h : S[t]? = some x) : gcdN n (S.take (t + 1)) = Nat.gcd (gcdN n (S.take t)) x := by
  unfold gcdN
  rw [take_next h, List.foldl_append]
  rfl
theorem ok_muls (B : Bl mg) (D : Def K mg "_law_multiples" "_law_multiples" (top 26) ["n", "shifts"]) : Fnc P w K mg base CX0 2 "_law_multiples" ["n", "shifts"] (spD K RMuls) := by
  refine fnc_d D sc_muls (fun ds d ⟨_, _, _, _, h, _⟩ => by rw [h]; rfl) fun X T S hr ds d ⟨n, l, hn, hn2, h1, h2⟩ => ?_
  obtain ⟨rfl, rfl, rfl, rfl, rfl⟩ := T
  subst h1 h2
  refine q_asg S 2 (d_nm S 0 rfl) ?_
  refine q_for S (i_list (d_nm S 1 rfl)) (fun t ρ => ∃ z1 z2 z3, ρ = [.d (.int n), .d (.lst (ns l)), .d (.int ((gcdN n (l.take t) : Nat) : Int)), z1, z2, z3] ∧ z1.isOwn = false ∧ z2.isOwn = false ∧ z3.isOwn = false) ⟨_, _, _, rfl, rfl, rfl, rfl⟩ (fun t ρ ht ⟨z1, z2, z3, hρ, hz1, hz2, hz3⟩ => ?_) (fun ρ ⟨z1, z2, z3, hρ, _⟩ => ?_)
  · subst hρ
    rw [ns_len] at ht
    rw [ns_getD ht]
    refine ⟨_, g_nm S 3 (nz1 rfl hz1), q_asg S 4 (d_nm S 3 rfl) (hn := nz1 rfl hz2) ?_⟩
    refine q_while S (fun q ρ => ∃ (st : Nat) (z : SV), ρ = [.d (.int n), .d (.lst (ns l)), .d (.int ((st : Nat) : Int)), .d (.int ((l.getD t 0 : Nat) : Int)), .d (.int ((q : Nat) : Int)), z] ∧ z.isOwn = false ∧ Nat.gcd st q = gcdN n (l.take (t + 1))) (l.getD t 0) ⟨_, _, rfl, hz3, (gcd_take (getD_some ht)).symm⟩ fun q ρ ⟨st, z, hρ, hz, he⟩ => ?_
    subst hρ
    refine ⟨_, _, t_gtN (d_nm S 4 rfl) d_n0, fun hb => ?_, fun hb => ?_⟩
    · have hq : 0 < q := of_decide_eq_true hb
      refine q_asg S 5 (d_modN hq (d_toInt (S.gl rfl) B.int (d_nm S 2 rfl)) (d_nm S 4 rfl)) (hn := nz1 rfl hz) ?_
      refine q_asg S 2 (d_nm S 4 rfl) (q_asg S 4 (d_nm S 5 rfl) (sd_nil ⟨st % q, Nat.mod_lt _ hq, q, _, rfl, rfl, ?_⟩))
      rw [← he, Nat.gcd_comm st q, Nat.gcd_rec q st, Nat.gcd_comm]
    · have hq : q = 0 := by
        have := of_decide_eq_false hb
        omega
      subst hq
      rw [Nat.gcd_zero_right] at he
      subst he
      exact sd_nil ⟨_, _, z, rfl, rfl, rfl, hz⟩
  · subst hρ
    rw [ns_len, List.take_length]
    have hd := (gcdN_dvd l n).1
    have hp := gcdN_pos (show 0 < n by omega) l
    have hdl := Nat.div_le_self n (gcdN n l)
    refine q_ret (f_d (f_listRg3 (i := 0) (rgc_mul hn hn2 hd) (by omega) S.calm (S.gl rfl) B.list (S.gl rfl) B.range d_int (d_nm S 0 rfl) (d_nm S 2 rfl))) ?_
    show Da.lst _ = Da.lst _
    congr 1
    unfold mulN muls ns
    rw [List.map_map]
    refine List.map_congr_left fun t _ => ?_
    show Da.int (0 + (t : Int) * _) = Da.int _
    congr 1
    push_cast
    omega
/-! ### _law_ring -/
def RRing (ds : List Da) (d : Da) : Prop := ∃ (n k : Nat), 1 ≤ n ∧ n ≤ 100 ∧ k < n ∧ ds = [.int n, .int k] ∧ d = .tup [.tup (ns (shN n [k])), .tup (ns (shN n (mulN n [k]))), .tup (ns (shN n [n - k]))]
theorem sc_ring : FnScope ["n", "step", "whole"] ["n", "step"] (defScope (top 28)) := ⟨rfl, rfl, rfl, by decide +kernel, rfl, by decide +kernel, by decide +kernel⟩
theorem ok_ring (D : Def K mg "_law_ring" "_law_ring" (top 28) ["n", "step"]) (C1 : Fnc P w K mg base CX0 2 "_law_shifted" ["n", "shifts"] (spD K RSh)) (C2 : Fnc P w K mg base CX0 2 "_law_multiples" ["n", "shifts"] (spD K RMuls)) : Fnc P w K mg base CX0 4 "_law_ring" ["n", "step"] (spD K RRing) := by
  refine fnc_d D sc_ring (fun ds d ⟨_, _, _, _, _, h, _⟩ => by rw [h]; rfl) fun X T S hr ds d ⟨n, k, hn, hn2, hk, h1, h2⟩ => ?_
  obtain ⟨rfl, rfl, rfl, rfl, rfl⟩ := T
  subst h1 h2
  refine q_asg S 2 (d_fn C1 hr (a_cons (d_nm S 0 rfl) (a_cons (d_fn C2 hr (a_cons (d_nm S 0 rfl) (a_cons (f_d (f_lst (a_cons (d_nm S 1 rfl) a_nil) (by decide : 1 ≤ 1000))) a_nil)) ⟨n, [k], hn, hn2, rfl, rfl⟩ (S.gl rfl)) a_nil)) ⟨n, _, hn, hn2, rfl, rfl⟩ (S.gl rfl)) ?_
  refine q_ret (d_tup (a_cons (d_fn C1 hr (a_cons (d_nm S 0 rfl) (a_cons (f_d (f_lst (a_cons (d_nm S 1 rfl) a_nil) (by decide : 1 ≤ 1000))) a_nil)) ⟨n, [k], hn, hn2, rfl, rfl⟩ (S.gl rfl)) (a_cons (d_nm S 2 rfl) (a_cons (d_fn C1 hr (a_cons (d_nm S 0 rfl) (a_cons (f_d (f_lst (a_cons (d_subN (by omega) (d_nm S 0 rfl) (d_nm S 1 rfl)) a_nil) (by decide : 1 ≤ 1000))) a_nil)) ⟨n, [n - k], hn, hn2, rfl, rfl⟩ (S.gl rfl)) a_nil))) (by show 3 ≤ 1000; decide)) rfl
end
end K11
end
section
set_option Elab.async false
set_option linter.all false
set_option maxRecDepth 100000
namespace Wv
open PySem PySem.Spec PyProof.Rows L2
section
variable {X : Cx} {N : List Str} {sc : Scope} {tp : Bool} {ρ ρ1 ρ2 ρ3 : List SV} {a b : Expr} {p p2 pos : Pos} {tg iter : Expr} {m : Nat} {item item' : Nat → Da} {ds es : List Da}
theorem i_as (h : ID X tg iter ρ ρ1 m item) (e : ∀ i, i < m → item i = item' i) : ID X tg iter ρ ρ1 m item' := pi_imp h fun σ H R ⟨en, S, Rr, k⟩ => ⟨en, S, Rr, fun J S1 H1 R1 q1 t => k J S1 H1 R1 q1 ⟨t.go, t.stop, fun i S' H' x H2 hi a b c => by rw [← e i hi]; exact t.yld i S' H' x H2 hi a b c⟩⟩
theorem f_is (h : FD X a ρ ρ1 ds) (e : ds = es) : FD X a ρ ρ1 es := by
  rw [← e]
  exact h
theorem rep_one {α : Type} (x : α) : ∀ n : Nat, (List.replicate n [x]).flatten = List.replicate n x
  | 0 => rfl
  | n + 1 => by
    rw [List.replicate_succ, List.replicate_succ, List.flatten_cons, rep_one x n]
    rfl
/-- [0] * n -/
theorem f_zeros {n k : Nat} (hn : n ≤ 1000) (h : ED X b ρ ρ1 (.int (n : Int))) : FD X (.BinOp (.List [.Constant (.int 0) k p] p2) .Mult b pos) ρ ρ1 (ns (List.replicate n 0)) :=
  f_is (f_rep (m := n) (by show 1 * n ≤ 1000000; omega) (by omega) (f_d (f_lst (a_cons d_n0 a_nil) (by decide : 1 ≤ 1000))) h) (by rw [rep_one]; simp [ns])
end
end Wv
namespace K11
open PySem PySem.Spec PyProof.Rows L2 Wv Km
section
variable {P : Program} {w : World} {K : PySem.W.Frag} {mg : Str → Option Value} {base : Heap} {a : Adr}
/-! ### _law_chain -/
def pN (n at_ : Nat) (way : Int) (t : Nat) : Nat := (((at_ : Int) + way * (t : Int)) % (n : Int)).toNat
theorem pN_cast {n : Nat} (hn : 0 < n) (at_ : Nat) (way : Int) (t : Nat) : ((at_ : Int) + way * (t : Int)) % (n : Int) = ((pN n at_ way t : Nat) : Int) := (Int.toNat_of_nonneg (Int.emod_nonneg _ (by omega))).symm
theorem pN_lt {n : Nat} (hn : 0 < n) (at_ : Nat) (way : Int) (t : Nat) : pN n at_ way t < n := by
  have := pN_cast hn at_ way t
  have := Int.emod_lt_of_pos ((at_ : Int) + way * (t : Int)) (show (0 : Int) < n by omega)
  omega
structure Ch where
  rows : List Nat
  whole : List Nat
  back : List Nat
  up : Nat
def chN (n : Nat) (p : Nat → Nat) (t : Nat) (c : Ch) : Ch := ⟨if t + 1 < n then c.rows.set (p t) (2 ^ p (t + 1)) else c.rows, c.whole.set (p t) (c.up ||| 2 ^ p t), if 0 < t then c.back.set (p t) (2 ^ p (t - 1)) else c.back, c.up ||| 2 ^ p t⟩
def chS (n : Nat) (p : Nat → Nat) : Nat → Ch
  | 0 => ⟨List.replicate n 0, List.replicate n 0, List.replicate n 0, 0⟩
  | s + 1 => chN n p (n - 1 - s) (chS n p s)
theorem chS_len (n : Nat) (p : Nat → Nat) : ∀ s, (chS n p s).rows.length = n ∧ (chS n p s).whole.length = n ∧ (chS n p s).back.length = n
  | 0 => by simp [chS]
  | s + 1 => by
    obtain ⟨h1, h2, h3⟩ := chS_len n p s
    refine ⟨?_, ?_, ?_⟩
    · show (if n - 1 - s + 1 < n then _ else _ : List Nat).length = n
      split
      · rw [List.length_set, h1]
      · exact h1
    · show (List.set _ _ _).length = n
      rw [List.length_set, h2]
    · show (if 0 < n - 1 - s then _ else _ : List Nat).length = n
      split
      · rw [List.length_set, h3]
      · exact h3
def triD (r w b : List Nat) : Da := .tup [.tup (ns r), .tup (ns w), .tup (ns b)]
def RChain (ds : List Da) (d : Da) : Prop := ∃ (n at_ : Nat) (way : Int), 1 ≤ n ∧ n ≤ 100 ∧ (way = 1 ∨ way = -1) ∧ ds = [.int n, .int at_, .int way] ∧ d = triD (chS n (pN n at_ way) n).rows (chS n (pN n at_ way) n).whole (chS n (pN n at_ way) n).back
theorem sc_chain : FnScope ["n", "at", "way", "t", "places", "rows", "whole", "back", "upward", "here"] ["n", "at", "way"] (defScope (top 27)) := ⟨rfl, rfl, rfl, by decide +kernel, rfl, by decide +kernel, by decide +kernel⟩
theorem pl_get {n t : Nat} (p : Nat → Nat) (h : t < n) : (ns ((List.range n).map p))[t]? = some (.int ((p t : Nat) : Int)) := ns_get (by simp [h])
theorem ok_chain (B : Bl mg) (D : Def K mg "_law_chain" "_law_chain" (top 27) ["n", "at", "way"]) : Fnc P w K mg base CX0 2 "_law_chain" ["n", "at", "way"] (spD K RChain) := by
  refine fnc_d D sc_chain (fun ds d ⟨_, _, _, _, _, _, h, _⟩ => by rw [h]; rfl) fun X T S hr ds d ⟨n, at_, way, hn, hn2, hw, h1, h2⟩ => ?_
  obtain ⟨rfl, rfl, rfl, rfl, rfl⟩ := T
  subst h1 h2
  have hpc := fun t => pN_cast (n := n) (by omega) at_ way t
  have hpl := fun t => pN_lt (n := n) (by omega) at_ way t
  generalize pN n at_ way = p at hpc hpl ⊢
  refine q_setLc S 4 (own := [("t", 3)]) (d_range (S.gl rfl) B.range (d_nm S 0 rfl) (by omega)) (by decide +kernel) (fun i => some (.int ((p i : Nat) : Int))) (fun i => [.d (.int n), .d (.int at_), .d (.int way), .d (.int (i : Nat)), .any, .any, .any, .any, .any, .any]) (by omega) (fun i hi => ⟨fun s H C cl fp => ?_, fun s H C cl fp => pts_y, fun d hd s H C cl fp => ?_⟩) ?_
  · exact gc_nm (sco_blk S rfl s H C cl fp) 3
  · cases hd
    exact d_is (d_mod (by omega) (d_toInt ((sco_blk S rfl s H C cl fp).gl rfl) B.int (d_add (d_nm (sco_blk S rfl s H C cl fp) 1 rfl) (d_mul (.inl (by omega)) (d_nm (sco_blk S rfl s H C cl fp) 2 rfl) (d_nm (sco_blk S rfl s H C cl fp) 3 rfl)))) (d_nm (sco_blk S rfl s H C cl fp) 0 rfl)) (congrArg Da.int (hpc i))
  rw [fm_ns p]
  refine q_asgO S 5 (f_zeros (by omega) (d_nm S 0 rfl)) ?_
  refine q_asgO S 6 (f_zeros (by omega) (d_nm S 0 rfl)) ?_
  refine q_asgO S 7 (f_zeros (by omega) (d_nm S 0 rfl)) ?_
  refine q_asg S 8 d_n0 ?_
  have hrg : RgC ((n : Int) - 1) (-1) (-1) n := by
    have := RgC.neg (i := (n : Int) - 1) (j := -1) (by omega) (by omega) (by omega) (by omega)
    have e : ((n : Int) - 1 - -1).toNat = n := by omega
    rw [e] at this
    exact this
  refine q_for S (item := fun s => .int ((n - 1 - s : Nat) : Int)) (i_as (i_range3 (S.gl rfl) B.range (d_sub (d_nm S 0 rfl) d_int) (d_neg d_int) (d_neg d_int) hrg (hq := pi_range3 (S.gl rfl) B.range (a_cons (d_sub (d_nm S 0 rfl) d_int) (a_cons (d_neg d_int) (a_cons (d_neg d_int) a_nil))))) fun i hi => congrArg Da.int (by omega))
    (fun s ρ => ∃ z1 z2, ρ = [.d (.int n), .d (.int at_), .d (.int way), z1, .own (.l (ns ((List.range n).map p))), .own (.l (ns (chS n p s).rows)), .own (.l (ns (chS n p s).whole)), .own (.l (ns (chS n p s).back)), .d (.int (((chS n p s).up : Nat) : Int)), z2] ∧ z1.isOwn = false ∧ z2.isOwn = false) ⟨_, _, rfl, rfl, rfl⟩ (fun s ρ hs ⟨z1, z2, hρ, hz1, hz2⟩ => ?_) (fun ρ ⟨z1, z2, hρ, _⟩ => ?_)
  · subst hρ
    obtain ⟨l1, l2, l3⟩ := chS_len n p s
    have ht : n - 1 - s < n := by omega
    have ec : chS n p (s + 1) = chN n p (n - 1 - s) (chS n p s) := rfl
    generalize n - 1 - s = t at ht ec ⊢
    generalize chS n p s = c at l1 l2 l3 ec ⊢
    refine ⟨_, g_nm S 3 (nz1 rfl hz1), ?_⟩
    refine q_asg S 9 (d_ixO S 4 rfl (pl_get p ht) (d_nm S 3 rfl)) (hn := nz1 rfl hz2) ?_
    have hp1 := hpl t
    refine q_asg S 8 (d_orN (d_nm S 8 rfl) (d_oneN (by omega) (d_nm S 9 rfl))) ?_
    refine q_setL S 6 (d_nm S 8 rfl) (d_nm S 9 rfl) rfl rfl (by rw [ns_len, l2]; exact hp1) ?_
    rw [ns_set]
    refine q_ifc (fun ρ => ρ = [.d (.int n), .d (.int at_), .d (.int way), .d (.int ((t : Nat) : Int)), .own (.l (ns ((List.range n).map p))), .own (.l (ns (chN n p t c).rows)), .own (.l (ns (c.whole.set (p t) (c.up ||| 2 ^ p t)))), .own (.l (ns c.back)), .d (.int ((c.up ||| 2 ^ p t : Nat) : Int)), .d (.int ((p t : Nat) : Int))])
      (t_ltN (d_addN (d_nm S 3 rfl) d_n1) (d_nm S 0 rfl)) (fun hb => ?_) (fun hb => sd_nil ?_) fun ρ hρ => ?_
    · have hb2 : t + 1 < n := of_decide_eq_true hb
      have hp2 := hpl (t + 1)
      refine q_setL S 5 (d_oneN (by omega) (d_ixO S 4 rfl (pl_get p hb2) (d_addN (d_nm S 3 rfl) d_n1))) (d_nm S 9 rfl) rfl rfl (by rw [ns_len, l1]; exact hp1) (sd_nil ?_)
      rw [ns_set]
      show _ = [_, _, _, _, _, SV.own (.l (ns (if t + 1 < n then c.rows.set (p t) (2 ^ p (t + 1)) else c.rows))), _, _, _, _]
      rw [if_pos hb2]
      rfl
    · have hb2 : ¬ t + 1 < n := of_decide_eq_false hb
      show _ = [_, _, _, _, _, SV.own (.l (ns (if t + 1 < n then c.rows.set (p t) (2 ^ p (t + 1)) else c.rows))), _, _, _, _]
      rw [if_neg hb2]
      rfl
    · subst hρ
      refine q_ifc (fun ρ => ρ = [.d (.int n), .d (.int at_), .d (.int way), .d (.int ((t : Nat) : Int)), .own (.l (ns ((List.range n).map p))), .own (.l (ns (chN n p t c).rows)), .own (.l (ns (c.whole.set (p t) (c.up ||| 2 ^ p t)))), .own (.l (ns (chN n p t c).back)), .d (.int ((c.up ||| 2 ^ p t : Nat) : Int)), .d (.int ((p t : Nat) : Int))])
        (t_gtN (d_nm S 3 rfl) d_n0) (fun hb => ?_) (fun hb => sd_nil ?_) fun ρ hρ => sd_nil ⟨.d (.int ((t : Nat) : Int)), .d (.int ((p t : Nat) : Int)), ?_, rfl, rfl⟩
      · have hb2 : 0 < t := of_decide_eq_true hb
        have hp2 := hpl (t - 1)
        refine q_setL S 7 (d_oneN (by omega) (d_ixO S 4 rfl (pl_get p (show t - 1 < n by omega)) (d_subN hb2 (d_nm S 3 rfl) d_n1))) (d_nm S 9 rfl) rfl rfl (by rw [ns_len, l3]; exact hp1) (sd_nil ?_)
        rw [ns_set]
        show _ = [_, _, _, _, _, _, _, SV.own (.l (ns (if 0 < t then c.back.set (p t) (2 ^ p (t - 1)) else c.back))), _, _]
        rw [if_pos hb2]
        rfl
      · have hb2 : ¬ 0 < t := of_decide_eq_false hb
        show _ = [_, _, _, _, _, _, _, SV.own (.l (ns (if 0 < t then c.back.set (p t) (2 ^ p (t - 1)) else c.back))), _, _]
        rw [if_neg hb2]
      · rw [hρ, ec]
        rfl
  · subst hρ
    refine q_pub (i := 5) rfl (q_pub (i := 6) rfl (q_pub (i := 7) rfl ?_))
    exact q_ret (d_tup (a_cons (d_tuple (S.gl rfl) B.tuple (d_nm S 5 rfl)) (a_cons (d_tuple (S.gl rfl) B.tuple (d_nm S 6 rfl)) (a_cons (d_tuple (S.gl rfl) B.tuple (d_nm S 7 rfl)) a_nil))) (by show 3 ≤ 1000; decide)) rfl
end
end K11
end
section
set_option Elab.async false
set_option linter.all false
set_option maxRecDepth 100000
namespace K11
open PySem PySem.Spec PyProof.Rows L2 Wv Km
section
variable {P : Program} {w : World} {K : PySem.W.Frag} {mg : Str → Option Value} {base : Heap} {a : Adr}
/-! ### _law_blocks -/
def lo (k i : Nat) : Nat := i - i % k
def hi (n k i : Nat) : Nat := if n < lo k i + k then n else lo k i + k
def blR (n k i : Nat) : Nat := 2 ^ (if i + 1 = hi n k i then lo k i else i + 1)
def blB (n k i : Nat) : Nat := 2 ^ (if i = lo k i then hi n k i - 1 else i - 1)
def blW (n k i : Nat) : Nat := 2 ^ hi n k i - 2 ^ lo k i
theorem lo_le (k i : Nat) : lo k i ≤ i := Nat.sub_le _ _
theorem lo_lt {k : Nat} (hk : 0 < k) (i : Nat) : i < lo k i + k := by
  have := Nat.mod_lt i hk
  have := Nat.mod_le i k
  unfold lo
  omega
theorem hi_le (n k i : Nat) (h : i < n) : hi n k i ≤ n := by
  unfold hi
  split <;> omega
theorem lt_hi {n k i : Nat} (hk : 0 < k) (h : i < n) : i < hi n k i := by
  have := lo_lt hk i
  unfold hi
  split <;> omega
def RBlocks (ds : List Da) (d : Da) : Prop := ∃ (n k : Nat), 1 ≤ n ∧ n ≤ 100 ∧ 1 ≤ k ∧ k ≤ 100 ∧ ds = [.int n, .int k] ∧ d = triD ((List.range n).map (blR n k)) ((List.range n).map (blW n k)) ((List.range n).map (blB n k))
theorem sc_blocks : FnScope ["n", "size", "rows", "whole", "back", "i", "low", "high"] ["n", "size"] (defScope (top 29)) := ⟨rfl, rfl, rfl, by decide +kernel, rfl, by decide +kernel, by decide +kernel⟩
theorem map_len (f : Nat → Nat) (n : Nat) : (ns ((List.range n).map f)).length = n := by rw [ns_len, List.length_map, List.length_range]
theorem ok_blocks (B : Bl mg) (D : Def K mg "_law_blocks" "_law_blocks" (top 29) ["n", "size"]) : Fnc P w K mg base CX0 2 "_law_blocks" ["n", "size"] (spD K RBlocks) := by
  refine fnc_d D sc_blocks (fun ds d ⟨_, _, _, _, _, _, h, _⟩ => by rw [h]; rfl) fun X T S hr ds d ⟨n, k, hn, hn2, hk, hk2, h1, h2⟩ => ?_
  obtain ⟨rfl, rfl, rfl, rfl, rfl⟩ := T
  subst h1 h2
  refine q_asgO S 2 (f_lst a_nil (by decide)) (q_asgO S 3 (f_lst a_nil (by decide)) (q_asgO S 4 (f_lst a_nil (by decide)) ?_))
  refine q_for S (d_range (S.gl rfl) B.range (d_nm S 0 rfl) (by omega)) (fun i ρ => ∃ z1 z2 z3, ρ = [.d (.int n), .d (.int k), .own (.l (ns ((List.range i).map (blR n k)))), .own (.l (ns ((List.range i).map (blW n k)))), .own (.l (ns ((List.range i).map (blB n k)))), z1, z2, z3] ∧ z1.isOwn = false ∧ z2.isOwn = false ∧ z3.isOwn = false) ⟨_, _, _, rfl, rfl, rfl, rfl⟩ (fun i ρ hi_ ⟨z1, z2, z3, hρ, hz1, hz2, hz3⟩ => ?_) (fun ρ ⟨z1, z2, z3, hρ, _⟩ => ?_)
  · subst hρ
    have a1 := lo_le k i
    have a2 := lo_lt (show 0 < k by omega) i
    have a3 := hi_le n k i hi_
    have a4 := lt_hi (show 0 < k by omega) hi_
    refine ⟨_, g_nm S 5 (nz1 rfl hz1), ?_⟩
    refine q_asg S 6 (d_subN (Nat.mod_le _ _) (d_nm S 5 rfl) (d_modN (by omega) (d_toInt (S.gl rfl) B.int (d_nm S 5 rfl)) (d_nm S 1 rfl))) (hn := nz1 rfl hz2) ?_
    show SD _ _ [.d (.int n), .d (.int k), .own (.l (ns ((List.range i).map (blR n k)))), .own (.l (ns ((List.range i).map (blW n k)))), .own (.l (ns ((List.range i).map (blB n k)))), .d (.int ((i : Nat) : Int)), .d (.int ((lo k i : Nat) : Int)), z3] _
    refine q_asg S 7 (d_is (y := .int ((hi n k i : Nat) : Int)) (d_min2 (S.gl rfl) B.min S.calm (d_addN (d_nm S 6 rfl) (d_nm S 1 rfl)) (d_nm S 0 rfl)) (by
      congr 1
      unfold hi
      split <;> split <;> omega)) (hn := nz1 rfl hz3) ?_
    have eR : ((i + 1 - lo k i) % (hi n k i - lo k i)) = (if i + 1 = hi n k i then lo k i else i + 1) - lo k i := by
      split
      · have : i + 1 - lo k i = hi n k i - lo k i := by omega
        rw [this, Nat.mod_self]
        omega
      · rw [Nat.mod_eq_of_lt (by omega)]
    have eB : (((i : Int) - 1 - (lo k i : Nat)) % ((hi n k i : Nat) - (lo k i : Nat) : Int)) = (((if i = lo k i then hi n k i - 1 else i - 1) - lo k i : Nat) : Int) := by
      split
      · rename_i e
        have e2 : ((i : Int) - 1 - (lo k i : Nat)) = ((hi n k i : Nat) - (lo k i : Nat) - 1 : Int) + ((hi n k i : Nat) - (lo k i : Nat) : Int) * (-1) := by omega
        rw [e2, Int.add_mul_emod_self_left, Int.emod_eq_of_lt (by omega) (by omega)]
        omega
      · rw [Int.emod_eq_of_lt (by omega) (by omega)]
        omega
    refine q_push S 2 (d_is (d_oneN (n := lo k i + (i + 1 - lo k i) % (hi n k i - lo k i)) (by rw [eR]; split <;> omega) (d_addN (d_nm S 6 rfl) (d_modN (by omega) (d_toInt (S.gl rfl) B.int (d_subN (by omega) (d_addN (d_nm S 5 rfl) d_n1) (d_nm S 6 rfl))) (d_subN (by omega) (d_nm S 7 rfl) (d_nm S 6 rfl))))) (show _ = Da.int ((blR n k i : Nat) : Int) by
      rw [eR]
      unfold blR
      congr 3
      split <;> omega)) rfl rfl (by rw [map_len]; omega) ?_
    refine q_push S 4 (d_oneN (n := if i = lo k i then hi n k i - 1 else i - 1) (by split <;> omega) (d_is (d_add (d_nm S 6 rfl) (d_mod (by omega) (d_toInt (S.gl rfl) B.int (d_sub (d_sub (d_nm S 5 rfl) d_int) (d_nm S 6 rfl))) (d_sub (d_nm S 7 rfl) (d_nm S 6 rfl)))) (by
      rw [eB]
      congr 1
      split <;> omega))) rfl rfl (by show (ns ((List.range i).map (blB n k))).length < 1000000; rw [map_len]; omega) ?_
    refine q_push S 3 (d_subN (Nat.pow_le_pow_right (by decide) (by omega)) (d_oneN (by omega) (d_nm S 7 rfl)) (d_oneN (by omega) (d_nm S 6 rfl))) rfl rfl (by show (ns ((List.range i).map (blW n k))).length < 1000000; rw [map_len]; omega) (sd_nil ⟨.d (.int ((i : Nat) : Int)), .d (.int ((lo k i : Nat) : Int)), .d (.int ((hi n k i : Nat) : Int)), ?_, rfl, rfl, rfl⟩)
    rw [← ns_map_next, ← ns_map_next, ← ns_map_next]
    rfl
  · subst hρ
    refine q_pub (i := 2) rfl (q_pub (i := 3) rfl (q_pub (i := 4) rfl ?_))
    exact q_ret (d_tup (a_cons (d_tuple (S.gl rfl) B.tuple (d_nm S 2 rfl)) (a_cons (d_tuple (S.gl rfl) B.tuple (d_nm S 3 rfl)) (a_cons (d_tuple (S.gl rfl) B.tuple (d_nm S 4 rfl)) a_nil))) (by show 3 ≤ 1000; decide)) rfl
/-! ### _law_function -/
def fnT (n tm mo i : Nat) : Nat := (i * tm + mo) % n
structure Fn2 where
  rows : List Nat
  back : List Nat
def fnS (n tm mo out : Nat) : Nat → Fn2
  | 0 => ⟨List.replicate n 0, List.replicate n 0⟩
  | i + 1 => if i % out = 0 then fnS n tm mo out i else ⟨(fnS n tm mo out i).rows.set i (2 ^ fnT n tm mo i), orAt (fnS n tm mo out i).back (fnT n tm mo i) (2 ^ i)⟩
theorem fnS_len (n tm mo out : Nat) : ∀ i, (fnS n tm mo out i).rows.length = n ∧ (fnS n tm mo out i).back.length = n
  | 0 => by simp [fnS]
  | i + 1 => by
    have := fnS_len n tm mo out i
    unfold fnS
    split
    · exact this
    · exact ⟨by rw [List.length_set]; exact this.1, by rw [orAt_len]; exact this.2⟩
def walkM (n tm mo out : Nat) : Nat → Nat → Nat → Nat
  | 0, _, acc => acc
  | k + 1, h, acc => if h % out = 0 then acc ||| 2 ^ h else walkM n tm mo out k (fnT n tm mo h) (acc ||| 2 ^ h)
def pathM (n tm mo out i : Nat) : Nat := walkM n tm mo out (n + 1) i 0
def wl (n : Nat) (f : Nat → Nat) (i x : Nat) : List Nat := (List.range n).map fun j => if j < i then f j else if j = i then x else 0
theorem wl_len (n : Nat) (f : Nat → Nat) (i x : Nat) : (wl n f i x).length = n := by simp [wl]
theorem wl_get {n i : Nat} (f : Nat → Nat) (x : Nat) (h : i < n) : (wl n f i x).getD i 0 = x := by
  unfold wl
  rw [getD_map _ _ h, if_neg (by omega), if_pos rfl]
theorem wl_set {n i : Nat} (f : Nat → Nat) (x y : Nat) : (wl n f i x).set i y = wl n f i y := by
  apply List.ext_getElem
  · simp [wl]
  · intro j h1 h2
    rw [List.getElem_set]
    simp only [wl, List.getElem_map, List.getElem_range]
    by_cases e : i = j
    · subst e
      simp
    · rw [if_neg e, if_neg (Ne.symm e), if_neg (Ne.symm e)]
theorem wl_next (n i : Nat) (f : Nat → Nat) : wl n f i (f i) = wl n f (i + 1) 0 := by
  unfold wl
  refine List.map_congr_left fun j _ => ?_
  by_cases e : j < i
  · rw [if_pos e, if_pos (by omega)]
  · by_cases e2 : j = i
    · subst e2
      rw [if_neg (by omega), if_pos rfl, if_pos (by omega)]
    · rw [if_neg e, if_neg e2, if_neg (by omega)]
      split <;> rfl
theorem wl_zero (n : Nat) (f : Nat → Nat) : wl n f 0 0 = List.replicate n 0 := by
  unfold wl
  have : (fun j : Nat => if j < 0 then f j else if j = 0 then 0 else 0) = fun _ => 0 := by
    funext j
    rw [if_neg (by omega)]
    split <;> rfl
  rw [this, List.map_const', List.length_range]
theorem wl_all (n : Nat) (f : Nat → Nat) : wl n f n 0 = (List.range n).map f := by
  unfold wl
  refine List.map_congr_left fun j hj => ?_
  rw [if_pos (List.mem_range.mp hj)]
def RFunc (ds : List Da) (d : Da) : Prop := ∃ (n tm mo out : Nat), 1 ≤ n ∧ n ≤ 100 ∧ 1 ≤ out ∧ ds = [.int n, .int tm, .int mo, .int out] ∧ d = triD (fnS n tm mo out n).rows ((List.range n).map (pathM n tm mo out)) (fnS n tm mo out n).back
theorem sc_func : FnScope ["n", "times", "more", "out", "rows", "whole", "back", "i", "there", "here", "k"] ["n", "times", "more", "out"] (defScope (top 30)) := ⟨rfl, rfl, rfl, by decide +kernel, rfl, by decide +kernel, by decide +kernel⟩
theorem fnT_lt {n : Nat} (h : 1 ≤ n) (tm mo i : Nat) : fnT n tm mo i < n := Nat.mod_lt _ (by omega)
theorem ok_func (B : Bl mg) (D : Def K mg "_law_function" "_law_function" (top 30) ["n", "times", "more", "out"]) : Fnc P w K mg base CX0 2 "_law_function" ["n", "times", "more", "out"] (spD K RFunc) := by
  refine fnc_d D sc_func (fun ds d ⟨_, _, _, _, _, _, _, h, _⟩ => by rw [h]; rfl) fun X T S hr ds d ⟨n, tm, mo, out, hn, hn2, ho, h1, h2⟩ => ?_
  obtain ⟨rfl, rfl, rfl, rfl, rfl⟩ := T
  subst h1 h2
  refine q_asgO S 4 (f_zeros (by omega) (d_nm S 0 rfl)) (q_asgO S 5 (f_zeros (by omega) (d_nm S 0 rfl)) (q_asgO S 6 (f_zeros (by omega) (d_nm S 0 rfl)) ?_))
  refine q_for S (d_range (S.gl rfl) B.range (d_nm S 0 rfl) (by omega)) (fun i ρ => ∃ z1 z2, ρ = [.d (.int n), .d (.int tm), .d (.int mo), .d (.int out), .own (.l (ns (fnS n tm mo out i).rows)), .own (.l (ns (List.replicate n 0))), .own (.l (ns (fnS n tm mo out i).back)), z1, z2, .any, .any] ∧ z1.isOwn = false ∧ z2.isOwn = false) ⟨_, _, rfl, rfl, rfl⟩ (fun i ρ hi ⟨z1, z2, hρ, hz1, hz2⟩ => ?_) (fun ρ ⟨z1, z2, hρ, hz1, hz2⟩ => ?_)
  · subst hρ
    obtain ⟨l1, l2⟩ := fnS_len n tm mo out i
    refine ⟨_, g_nm S 7 (nz1 rfl hz1), ?_⟩
    have ht := fnT_lt hn tm mo i
    refine q_if (t_neN (d_modN (by omega) (d_toInt (S.gl rfl) B.int (d_nm S 7 rfl)) (d_nm S 3 rfl)) d_n0) (fun hb => ?_) (fun hb => sd_nil (sd_nil ⟨.d (.int ((i : Nat) : Int)), z2, ?_, rfl, hz2⟩))
    · have hb2 : ¬ i % out = 0 := by simpa using hb
      refine q_asg S 8 (d_is (y := .int ((fnT n tm mo i : Nat) : Int)) (d_modN (by omega) (d_toInt (S.gl rfl) B.int (d_addN (d_mulN (by omega) (d_nm S 7 rfl) (d_nm S 1 rfl)) (d_nm S 2 rfl))) (d_nm S 0 rfl)) rfl) (hn := nz1 rfl hz2) ?_
      refine q_setL S 4 (d_oneN (by omega) (d_nm S 8 rfl)) (d_nm S 7 rfl) rfl rfl (by rw [ns_len, l1]; exact hi) ?_
      refine q_setL S 6 (d_orN (d_ixO S 6 rfl (ns_get (getD_some (by rw [l2]; exact ht))) (d_nm S 8 rfl)) (d_oneN (by omega) (d_nm S 7 rfl))) (d_nm S 8 rfl) rfl rfl (by rw [ns_len, l2]; exact ht) (sd_nil (sd_nil ⟨.d (.int ((i : Nat) : Int)), .d (.int ((fnT n tm mo i : Nat) : Int)), ?_, rfl, rfl⟩))
      rw [ns_set, ns_set]
      have e : fnS n tm mo out (i + 1) = ⟨(fnS n tm mo out i).rows.set i (2 ^ fnT n tm mo i), orAt (fnS n tm mo out i).back (fnT n tm mo i) (2 ^ i)⟩ := if_neg hb2
      rw [e]
      rfl
    · have hb2 : i % out = 0 := by simpa using hb
      have e : fnS n tm mo out (i + 1) = fnS n tm mo out i := if_pos hb2
      rw [e]
      rfl
  · subst hρ
    rw [← wl_zero n (pathM n tm mo out)]
    refine q_for S (d_range (S.gl rfl) B.range (d_nm S 0 rfl) (by omega)) (fun i ρ => ∃ z1 z3 z4, ρ = [.d (.int n), .d (.int tm), .d (.int mo), .d (.int out), .own (.l (ns (fnS n tm mo out n).rows)), .own (.l (ns (wl n (pathM n tm mo out) i 0))), .own (.l (ns (fnS n tm mo out n).back)), z1, z2, z3, z4] ∧ z1.isOwn = false ∧ z3.isOwn = false ∧ z4.isOwn = false) ⟨_, _, _, rfl, hz1, rfl, rfl⟩ (fun i ρ hi ⟨z1, z3, z4, hρ, hz1, hz3, hz4⟩ => ?_) (fun ρ ⟨z1, z3, z4, hρ, hz1, hz3, hz4⟩ => ?_)
    · subst hρ
      refine ⟨_, g_nm S 7 (nz1 rfl hz1), q_asg S 9 (d_nm S 7 rfl) (hn := nz1 rfl hz3) ?_⟩
      have fin : ∀ (x h : Nat) (z : SV), x = pathM n tm mo out i → z.isOwn = false → ∃ z1 z3 z4, [SV.d (.int n), .d (.int tm), .d (.int mo), .d (.int out), .own (.l (ns (fnS n tm mo out n).rows)), .own (.l (ns (wl n (pathM n tm mo out) i x))), .own (.l (ns (fnS n tm mo out n).back)), .d (.int ((i : Nat) : Int)), z2, .d (.int ((h : Nat) : Int)), z] = [SV.d (.int n), .d (.int tm), .d (.int mo), .d (.int out), .own (.l (ns (fnS n tm mo out n).rows)), .own (.l (ns (wl n (pathM n tm mo out) (i + 1) 0))), .own (.l (ns (fnS n tm mo out n).back)), z1, z2, z3, z4] ∧ z1.isOwn = false ∧ z3.isOwn = false ∧ z4.isOwn = false := fun x h z e hz => ⟨.d (.int ((i : Nat) : Int)), .d (.int ((h : Nat) : Int)), z, by rw [e, wl_next], rfl, rfl, hz⟩
      refine q_for S (d_range (S.gl rfl) B.range (m := n + 1) (d_addN (d_nm S 0 rfl) d_n1) (by omega)) (fun k ρ => ∃ (h x : Nat) (z : SV), ρ = [.d (.int n), .d (.int tm), .d (.int mo), .d (.int out), .own (.l (ns (fnS n tm mo out n).rows)), .own (.l (ns (wl n (pathM n tm mo out) i x))), .own (.l (ns (fnS n tm mo out n).back)), .d (.int ((i : Nat) : Int)), z2, .d (.int ((h : Nat) : Int)), z] ∧ z.isOwn = false ∧ h < n ∧ walkM n tm mo out (n + 1 - k) h x = pathM n tm mo out i) ⟨i, 0, z4, rfl, hz4, hi, rfl⟩ (fun k ρ hk ⟨h, x, z, hρ, hz, hh, he⟩ => ?_) (fun ρ ⟨h, x, z, hρ, hz, hh, he⟩ => ?_)
      · subst hρ
        have en : n + 1 - k = (n + 1 - (k + 1)) + 1 := by omega
        rw [en] at he
        unfold walkM at he
        refine ⟨_, g_nm S 10 (nz1 rfl hz), ?_⟩
        refine q_setL S 5 (d_orN (d_ixO S 5 rfl (ns_get (by rw [getD_some (by rw [wl_len]; exact hi), wl_get _ _ hi])) (d_nm S 7 rfl)) (d_oneN (by omega) (d_nm S 9 rfl))) (d_nm S 7 rfl) rfl rfl (by rw [ns_len, wl_len]; exact hi) ?_
        rw [ns_set, wl_set]
        refine q_if (t_eqN (d_modN (by omega) (d_toInt (S.gl rfl) B.int (d_nm S 9 rfl)) (d_nm S 3 rfl)) d_n0) (fun hb => ?_) (fun hb => sd_nil ?_)
        · have hb2 : h % out = 0 := of_decide_eq_true hb
          rw [if_pos hb2] at he
          exact q_brk (sd_nil (fin _ h (.d (.int ((k : Nat) : Int))) he rfl))
        · have hb2 : ¬ h % out = 0 := of_decide_eq_false hb
          rw [if_neg hb2] at he
          refine q_asg S 9 (d_is (y := .int ((fnT n tm mo h : Nat) : Int)) (d_modN (by omega) (d_toInt (S.gl rfl) B.int (d_addN (d_mulN (by omega) (d_nm S 9 rfl) (d_nm S 1 rfl)) (d_nm S 2 rfl))) (d_nm S 0 rfl)) rfl) (sd_nil ⟨_, _, .d (.int ((k : Nat) : Int)), rfl, rfl, fnT_lt hn tm mo h, he⟩)
      · subst hρ
        rw [Nat.sub_self] at he
        exact sd_nil (fin _ h z he hz)
    · subst hρ
      rw [wl_all]
      refine q_pub (i := 4) rfl (q_pub (i := 5) rfl (q_pub (i := 6) rfl ?_))
      exact q_ret (d_tup (a_cons (d_tuple (S.gl rfl) B.tuple (d_nm S 4 rfl)) (a_cons (d_tuple (S.gl rfl) B.tuple (d_nm S 5 rfl)) (a_cons (d_tuple (S.gl rfl) B.tuple (d_nm S 6 rfl)) a_nil))) (by show 3 ≤ 1000; decide)) rfl
end
end K11
end
section
set_option Elab.async false
set_option linter.all false
set_option maxRecDepth 100000
namespace K11
open PySem PySem.Spec PyProof.Rows L2 Wv Km
/-! ### pairs and what is built of them -/
theorem bits_range {n m : Nat} (h : m < 2 ^ n) : (List.range n).filter m.testBit = bitsN m := by
  refine List.Perm.eq_of_pairwise (le := fun a b : Nat => a < b) (fun a b _ _ h1 h2 => absurd h1 (by omega)) (List.Pairwise.filter _ List.pairwise_lt_range) (bits_sorted m) ?_
  refine (List.perm_ext_iff_of_nodup ?_ ?_).mpr fun k => ?_
  · exact (List.Pairwise.filter _ List.pairwise_lt_range).imp fun (h : _ < _) => by omega
  · exact (bits_sorted m).imp fun h => by omega
  · rw [List.mem_filter, List.mem_range, mem_bits]
    exact ⟨fun q => q.2, fun q => ⟨bit_lt h q, q⟩⟩
theorem mem_pairs {n : Nat} {r : List Nat} (h : Rl n r) {p : Nat × Nat} : p ∈ pairsN r ↔ (r.getD p.1 0).testBit p.2 = true := by
  unfold pairsN
  rw [List.mem_flatMap]
  constructor
  · rintro ⟨i, _, h2⟩
    obtain ⟨j, h3, rfl⟩ := List.mem_map.mp h2
    exact mem_bits.mp h3
  · intro q
    have := h.bit q
    exact ⟨p.1, List.mem_range.mpr (by rw [h.len]; exact this.1), List.mem_map.mpr ⟨p.2, mem_bits.mpr q, rfl⟩⟩
def prTo (r : List Nat) (i : Nat) : List (Nat × Nat) := (List.range i).flatMap fun i => (bitsN (r.getD i 0)).map fun j => (i, j)
def prIn (r : List Nat) (i j : Nat) : List (Nat × Nat) := prTo r i ++ ((List.range j).filter (r.getD i 0).testBit).map fun j => (i, j)
theorem prTo_next {n : Nat} {r : List Nat} (h : Rl n r) {i : Nat} (hi : i < n) : prTo r (i + 1) = prIn r i n := by
  unfold prTo prIn prTo
  rw [List.range_succ, List.flatMap_append, bits_range (h.lt i hi)]
  simp
theorem prIn_next (r : List Nat) (i j : Nat) : prIn r i (j + 1) = if (r.getD i 0).testBit j then prIn r i j ++ [(i, j)] else prIn r i j := by
  unfold prIn
  rw [List.range_succ, List.filter_append, List.map_append, ← List.append_assoc]
  cases q : (r.getD i 0).testBit j with
  | true => rw [if_pos rfl, List.filter_cons, if_pos q]; rfl
  | false => rw [if_neg Bool.false_ne_true, List.filter_cons, if_neg (by rw [q]; exact Bool.false_ne_true)]; simp
theorem prD_app (l m : List (Nat × Nat)) : prD (l ++ m) = prD l ++ prD m := by simp [prD]
theorem prD_len (l : List (Nat × Nat)) : (prD l).length = l.length := by simp [prD]
theorem flat_len {α : Type} (f : Nat → List α) (b : Nat) : ∀ i, (∀ j, j < i → (f j).length ≤ b) → ((List.range i).flatMap f).length ≤ i * b
  | 0, _ => by simp
  | i + 1, h => by
    rw [List.range_succ, List.flatMap_append, List.length_append]
    have := flat_len f b i fun j hj => h j (by omega)
    have h2 := h i (by omega)
    simp only [List.flatMap_cons, List.flatMap_nil, List.append_nil]
    rw [Nat.succ_mul]
    omega
theorem prTo_len {n : Nat} {r : List Nat} (h : Rl n r) {i : Nat} (hi : i ≤ n) : (prTo r i).length ≤ i * n := flat_len _ _ _ fun j hj => by
  rw [List.length_map]
  exact bits_len (by omega) (h.lt j (by omega))
theorem prIn_len {n : Nat} {r : List Nat} (h : Rl n r) {i j : Nat} (hi : i < n) (hj : j ≤ n) : (prIn r i j).length ≤ n * n := by
  unfold prIn
  rw [List.length_append, List.length_map]
  have h1 := prTo_len h (i := i) (by omega)
  have h2 := List.length_filter_le (r.getD i 0).testBit (List.range j)
  rw [List.length_range] at h2
  have h3 : (i + 1) * n ≤ n * n := Nat.mul_le_mul_right n (by omega)
  rw [Nat.succ_mul] at h3
  omega
theorem pairs_to {n : Nat} {r : List Nat} (h : Rl n r) : prTo r n = pairsN r := by
  unfold prTo pairsN
  rw [h.len]
theorem prD_getD {l : List (Nat × Nat)} {t : Nat} {p : Nat × Nat} (h : l[t]? = some p) : (prD l).getD t .non = .tup [.int ((p.1 : Nat) : Int), .int ((p.2 : Nat) : Int)] := by
  unfold prD
  rw [List.getD_eq_getElem?_getD, List.getElem?_map, h]
  rfl
/-- rows[p0] |= other[p1] -/
def behT (s : List Nat) (l : List (Nat × Nat)) (rows : List Nat) : List Nat := l.foldl (fun rows p => orAt rows p.1 (s.getD p.2 0)) rows
theorem behT_len (s : List Nat) : ∀ (l : List (Nat × Nat)) (rows : List Nat), (behT s l rows).length = rows.length
  | [], _ => rfl
  | p :: l, rows => by
    show (behT s l (orAt rows p.1 (s.getD p.2 0))).length = _
    rw [behT_len s l, orAt_len]
theorem behT_bit {s : List Nat} {i j : Nat} : ∀ (l : List (Nat × Nat)) (rows : List Nat), (∀ p ∈ l, p.1 < rows.length) → (((behT s l rows).getD i 0).testBit j = true ↔ (rows.getD i 0).testBit j = true ∨ ∃ p ∈ l, p.1 = i ∧ (s.getD p.2 0).testBit j = true)
  | [], rows, _ => by simp [behT]
  | p :: l, rows, h => by
    show ((behT s l (orAt rows p.1 (s.getD p.2 0))).getD i 0).testBit j = true ↔ _
    rw [behT_bit l _ (fun q hq => by rw [orAt_len]; exact h q (List.mem_cons_of_mem _ hq)), orAt_bit (h p List.mem_cons_self)]
    simp only [List.mem_cons, exists_eq_or_imp]
    constructor
    · rintro ((h | ⟨h1, h2⟩) | h)
      · exact .inl h
      · exact .inr (.inl ⟨h1.symm, h2⟩)
      · exact .inr (.inr h)
    · rintro (h | ⟨h1, h2⟩ | h)
      · exact .inl (.inl h)
      · exact .inl (.inr ⟨h1.symm, h2⟩)
      · exact .inr h
theorem beh_is {n : Nat} {r s : List Nat} (hr : Rl n r) (hs : Rl n s) : behT s (pairsN r) (List.replicate n 0) = afterN r s := by
  refine rl_ext (n := n) (by rw [behT_len]; simp) (by rw [after_len, hr.len]) fun i j hi => ?_
  rw [behT_bit _ _ fun p hp => by rw [List.length_replicate]; exact (hr.bit ((mem_pairs hr).mp hp)).1, after_bit (by rw [hr.len]; exact hi)]
  have e : (List.replicate n 0).getD i 0 = 0 := by
    rw [List.getD_eq_getElem?_getD, List.getElem?_replicate]
    split <;> rfl
  rw [e]
  simp only [Nat.zero_testBit, Bool.false_eq_true, false_or]
  constructor
  · rintro ⟨p, h1, rfl, h3⟩
    have := (mem_pairs hr).mp h1
    exact ⟨p.2, by rw [hs.len]; exact (hr.bit this).2, this, h3⟩
  · rintro ⟨k, _, h2, h3⟩
    exact ⟨(i, k), (mem_pairs hr).mpr h2, rfl, h3⟩
/-- due | (mask >> p0 & 1) << p1 -/
def imgT (m : Nat) (l : List (Nat × Nat)) : Nat := l.foldl (fun d p => d ||| (m / 2 ^ p.1 &&& 1) * 2 ^ p.2) 0
theorem one_bit (m i k : Nat) : (m / 2 ^ i &&& 1) * 2 ^ k = if m.testBit i then 2 ^ k else 0 := by
  rw [and_one]
  split <;> simp
theorem imgT_bit {m j : Nat} : ∀ (l : List (Nat × Nat)) (d : Nat), ((l.foldl (fun d p => d ||| (m / 2 ^ p.1 &&& 1) * 2 ^ p.2) d).testBit j = true ↔ d.testBit j = true ∨ ∃ p ∈ l, m.testBit p.1 = true ∧ p.2 = j)
  | [], d => by simp
  | p :: l, d => by
    rw [List.foldl_cons, imgT_bit l, Nat.testBit_or, Bool.or_eq_true, one_bit]
    simp only [List.mem_cons, exists_eq_or_imp]
    have : (if m.testBit p.1 then 2 ^ p.2 else 0).testBit j = true ↔ m.testBit p.1 = true ∧ p.2 = j := by
      cases q : m.testBit p.1 with
      | true => simp [Nat.testBit_two_pow]
      | false => simp
    rw [this]
    exact or_assoc
theorem img_is {n m : Nat} {r : List Nat} (hr : Rl n r) : imgT m (pairsN r) = imageN r m := bit_ext fun j => by
  unfold imgT
  rw [imgT_bit, image_bit]
  simp only [Nat.zero_testBit, Bool.false_eq_true, false_or]
  constructor
  · rintro ⟨p, h1, h2, rfl⟩
    have := (mem_pairs hr).mp h1
    exact ⟨p.1, by rw [hr.len]; exact (hr.bit this).1, h2, this⟩
  · rintro ⟨i, _, h2, h3⟩
    exact ⟨(i, j), (mem_pairs hr).mpr h3, h2, rfl⟩
theorem lies_iff {n : Nat} {r s : List Nat} (hr : Rl n r) : liesN r s = true ↔ ∀ i j, (r.getD i 0).testBit j = true → (s.getD i 0).testBit j = true := by
  unfold liesN
  rw [List.all_eq_true]
  constructor
  · intro h i j q
    have := of_decide_eq_true (h i (List.mem_range.mpr (by rw [hr.len]; exact (hr.bit q).1)))
    rw [← this, Nat.testBit_or, q]
    rfl
  · intro h i _
    refine decide_eq_true (bit_ext fun j => ?_)
    rw [Nat.testBit_or, Bool.or_eq_true]
    exact ⟨fun q => q.elim (h i j) id, .inr⟩
theorem lies_back {n : Nat} {r s : List Nat} (hr : Rl n r) (hs : Rl n s) (h : liesN r s = true) : liesN s r = decide (s = r) := by
  rw [Bool.eq_iff_iff, lies_iff hs, decide_eq_true_eq]
  constructor
  · intro q
    exact rl_ext hs.len hr.len fun i j _ => ⟨q i j, (lies_iff hr).mp h i j⟩
  · rintro rfl
    exact fun _ _ q => q
theorem lies_union {n : Nat} {r s : List Nat} (hr : Rl n r) : liesN r (unionN r s) = true := (lies_iff hr).mpr fun i j q => (union_bit (by rw [hr.len]; exact (hr.bit q).1)).mpr (.inl q)
theorem lies_closed {n : Nat} {r : List Nat} (hr : Rl n r) : liesN r (closedN r) = true := (lies_iff hr).mpr fun i j q => (closed_bit hr).mpr ⟨(hr.bit q).1, .one q⟩
section
variable {P : Program} {w : World} {K : PySem.W.Frag} {mg : Str → Option Value} {base : Heap} {a : Adr}
theorem sc_lpr : FnScope ["rows", "pairs", "i", "j"] ["rows"] (defScope (top 31)) := ⟨rfl, rfl, rfl, by decide +kernel, rfl, by decide +kernel, by decide +kernel⟩
theorem ok_lpr (B : Bl mg) (D : Def K mg "_law_pairs" "_law_pairs" (top 31) ["rows"]) : Fnc P w K mg base CX0 2 "_law_pairs" ["rows"] (spD K RPairs) := by
  refine fnc_d D sc_lpr (fun ds d ⟨_, _, _, _, h, _⟩ => by rw [h]; rfl) fun X T S hr ds d ⟨n, r, hn, hl, h1, h2⟩ => ?_
  obtain ⟨rfl, rfl, rfl, rfl, rfl⟩ := T
  subst h1 h2
  have lenr := hl.len
  have nn : n * n ≤ 10000 := Nat.mul_le_mul hn hn
  refine q_asgO S 1 (f_lst a_nil (by decide)) ?_
  refine q_for S (d_range (S.gl rfl) B.range (d_lenT (S.gl rfl) B.len (d_nm S 0 rfl)) (by rw [ns_len]; omega)) (fun i ρ => ∃ z1 z2, ρ = [.d (.tup (ns r)), .own (.l (prD (prTo r i))), z1, z2] ∧ z1.isOwn = false ∧ z2.isOwn = false) ⟨_, _, rfl, rfl, rfl⟩ (fun i ρ hi ⟨z1, z2, hρ, hz1, hz2⟩ => ?_) (fun ρ ⟨z1, z2, hρ, _⟩ => ?_)
  · subst hρ
    rw [ns_len, lenr] at hi
    refine ⟨_, g_nm S 2 (nz1 rfl hz1), ?_⟩
    refine q_for S (d_range (S.gl rfl) B.range (d_lenT (S.gl rfl) B.len (d_nm S 0 rfl)) (by rw [ns_len]; omega)) (fun j ρ => ∃ z, ρ = [.d (.tup (ns r)), .own (.l (prD (prIn r i j))), .d (.int ((i : Nat) : Int)), z] ∧ z.isOwn = false) ⟨z2, by unfold prIn; simp, hz2⟩ (fun j ρ hj ⟨z, hρ, hz⟩ => ?_) (fun ρ ⟨z, hρ, hz⟩ => ?_)
    · subst hρ
      rw [ns_len, lenr] at hj
      have hlen := prIn_len hl hi (j := j) (by omega)
      refine ⟨_, g_nm S 3 (nz1 rfl hz), ?_⟩
      refine q_if (t_eqN (d_andN (d_shrN (d_ixT (ns_get (getD_some (by rw [lenr]; exact hi))) (d_nm S 0 rfl) (d_nm S 2 rfl)) (d_nm S 3 rfl)) d_n1) d_n1) (fun hb => ?_) (fun hb => sd_nil (sd_nil ⟨.d (.int ((j : Nat) : Int)), ?_, rfl⟩))
      · rw [and_one] at hb
        have hb2 : (r.getD i 0).testBit j = true := by
          cases q : (r.getD i 0).testBit j with
          | true => rfl
          | false => rw [q] at hb; simp at hb
        refine q_push S 1 (d_tup (a_cons (d_nm S 2 rfl) (a_cons (d_nm S 3 rfl) a_nil)) (by show 2 ≤ 1000; decide)) rfl rfl (by rw [prD_len]; omega) (sd_nil (sd_nil ⟨.d (.int ((j : Nat) : Int)), ?_, rfl⟩))
        rw [prIn_next, if_pos hb2, prD_app]
        rfl
      · rw [and_one] at hb
        have hb2 : ¬ (r.getD i 0).testBit j = true := fun q => by
          rw [q] at hb
          simp at hb
        rw [prIn_next, if_neg hb2]
        rfl
    · subst hρ
      rw [ns_len, lenr]
      exact sd_nil ⟨.d (.int ((i : Nat) : Int)), z, by rw [prTo_next hl hi], rfl, hz⟩
  · subst hρ
    rw [ns_len, lenr, pairs_to hl]
    exact q_pub (i := 1) rfl (q_ret (d_nm S 1 rfl) rfl)
def RBeh (ds : List Da) (d : Da) : Prop := ∃ (n : Nat) (r s : List Nat), n ≤ 100 ∧ Rl n r ∧ Rl n s ∧ ds = [.lst (prD (pairsN r)), .tup (ns s)] ∧ d = .tup (ns (afterN r s))
theorem sc_beh : FnScope ["pairs", "other", "rows", "pair"] ["pairs", "other"] (defScope (top 32)) := ⟨rfl, rfl, rfl, by decide +kernel, rfl, by decide +kernel, by decide +kernel⟩
theorem ok_beh (B : Bl mg) (D : Def K mg "_law_behind" "_law_behind" (top 32) ["pairs", "other"]) : Fnc P w K mg base CX0 2 "_law_behind" ["pairs", "other"] (spD K RBeh) := by
  refine fnc_d D sc_beh (fun ds d ⟨_, _, _, _, _, _, h, _⟩ => by rw [h]; rfl) fun X T S hr ds d ⟨n, r, s0, hn, hl, hs, h1, h2⟩ => ?_
  obtain ⟨rfl, rfl, rfl, rfl, rfl⟩ := T
  subst h1 h2
  refine q_asgO S 2 (f_zeros (n := n) (by omega) (d_is (d_lenT (S.gl rfl) B.len (d_nm S 1 rfl)) (by rw [ns_len, hs.len]))) ?_
  refine q_for S (i_list (d_nm S 0 rfl)) (fun t ρ => ∃ z, ρ = [.d (.lst (prD (pairsN r))), .d (.tup (ns s0)), .own (.l (ns (behT s0 ((pairsN r).take t) (List.replicate n 0)))), z] ∧ z.isOwn = false) ⟨_, rfl, rfl⟩ (fun t ρ ht ⟨z, hρ, hz⟩ => ?_) (fun ρ ⟨z, hρ, _⟩ => ?_)
  · subst hρ
    rw [prD_len] at ht
    obtain ⟨p, hp⟩ : ∃ p, (pairsN r)[t]? = some p := ⟨_, List.getElem?_eq_getElem ht⟩
    rw [prD_getD hp]
    have hb := (mem_pairs hl).mp (List.mem_of_getElem? hp)
    obtain ⟨b1, b2⟩ := hl.bit hb
    have hlen : (behT s0 ((pairsN r).take t) (List.replicate n 0)).length = n := by rw [behT_len, List.length_replicate]
    refine ⟨_, g_nm S 3 (nz1 rfl hz), ?_⟩
    refine q_setL S 2 (j := p.1) (d_orN (d_ixO S 2 (j := p.1) rfl (ns_get (getD_some (by rw [hlen]; exact b1))) (d_ixT (j := 0) rfl (d_nm S 3 rfl) d_int)) (d_ixT (j := p.2) (ns_get (getD_some (by rw [hs.len]; exact b2))) (d_nm S 1 rfl) (d_ixT (j := 1) rfl (d_nm S 3 rfl) d_int))) (d_ixT (j := 0) rfl (d_nm S 3 rfl) d_int) rfl rfl (by rw [ns_len, hlen]; exact b1) (sd_nil ⟨.d (.tup [.int ((p.1 : Nat) : Int), .int ((p.2 : Nat) : Int)]), ?_, rfl⟩)
    rw [ns_set, take_next hp]
    unfold behT
    rw [List.foldl_append]
    rfl
  · subst hρ
    rw [prD_len, List.take_length, beh_is hl hs]
    exact q_pub (i := 2) rfl (q_ret (d_tuple (S.gl rfl) B.tuple (d_nm S 2 rfl)) rfl)
def RSame (ds : List Da) (d : Da) : Prop := ∃ (n : Nat) (l : List Nat), 1 ≤ n ∧ n ≤ 60 ∧ Rl n l ∧ ds = [.tup (ns l), .tup (ns l)] ∧ d = .bl true
theorem sc_same : FnScope ["told", "due"] ["told", "due"] (defScope (top 33)) := ⟨rfl, rfl, rfl, by decide +kernel, rfl, by decide +kernel, by decide +kernel⟩
theorem ok_same (B : Bl mg) (D : Def K mg "_law_same" "_law_same" (top 33) ["told", "due"]) : FncG P w K mg base 2 "_law_same" ["told", "due"] (spD K RSame) := by
  refine fnc_g D sc_same (fun ds d ⟨_, _, _, _, _, h, _⟩ => by rw [h]; rfl) fun X T S hr hgd ds d ⟨n, l, hn, hn2, hl, h1, h2⟩ => ?_
  obtain ⟨rfl, rfl, rfl, rfl, rfl⟩ := T
  subst h1 h2
  have sm := sm_rl hn hn2 hl
  have kd : (∃ i, Da.tup (ns l) = .int i) ∨ (∃ xs, Da.tup (ns l) = .lst xs) ∨ ∃ xs, Da.tup (ns l) = .tup xs := .inr (.inr ⟨_, rfl⟩)
  refine q_ret (d_and (d_isTup (nt := "") (S.gl rfl) B.isinstance (S.gl rfl) B.tuple (d_nm S 0 rfl) (pe_bltn (S.gl rfl) B.tuple (by decide +kernel) rfl)) fun _ => d_one (d_eqS (d_repr kd sm (by decide) (by decide) hgd hr (S.gl rfl) B.repr (d_nm S 0 rfl)) (d_repr kd sm (by decide) (by decide) hgd hr (S.gl rfl) B.repr (d_nm S 1 rfl)))) ?_
  show Da.bl (true && decide _) = Da.bl true
  rw [decide_eq_true rfl]
  rfl
end
end K11
end
section
set_option Elab.async false
set_option linter.all false
set_option maxRecDepth 100000
namespace K11
open PySem PySem.Spec PyProof.Rows L2 Wv Km
/-- a relation, what it closes to, what it is turned round -/
structure RelOk (n : Nat) (r wh bk : List Nat) : Prop where
  n1 : 1 ≤ n
  n2 : n ≤ 60
  R : Rl n r
  W : Rl n wh
  V : Rl n bk
  c1 : closedN r = wh
  c2 : closedN wh = wh
  f1 : flippedN r = bk
  f2 : flippedN bk = r
theorem sm_prD {n : Nat} {r : List Nat} (h1 : 1 ≤ n) (h2 : n ≤ 60) (hr : Rl n r) : Sm 2 54000 (.lst (prD (pairsN r))) := by
  have hl : (pairsN r).length ≤ 3600 := by
    rw [← pairs_to hr]
    exact Nat.le_trans (prTo_len hr (Nat.le_refl n)) (Nat.mul_le_mul h2 h2)
  have hs : Sms 1 ((prD (pairsN r)).length * (14 + 1)) (prD (pairsN r)) := Sms.all fun d hd => by
    obtain ⟨p, hp, rfl⟩ := List.mem_map.mp hd
    obtain ⟨b1, b2⟩ := hr.bit ((mem_pairs hr).mp hp)
    have h : ∀ x : Nat, x < n → Sm 0 6 (.int ((x : Nat) : Int)) := fun x hx => sm_int (by decide) (by decide) (by rw [Int.natAbs_natCast]; exact Nat.lt_of_lt_of_le (show x < 64 by omega) (by decide))
    exact Sm.tup ((Sms.cons (h _ b1) (Sms.cons (h _ b2) Sms.nil)).le (Nat.le_refl _) (by decide))
  refine (Sm.lst hs).le (by decide) ?_
  rw [prD_len]
  omega
theorem sm_nat {b x : Nat} (hb : 0 < b) (hb2 : b ≤ 300) (h : x < 2 ^ b) {k : Nat} : Sm k b (.int ((x : Nat) : Int)) := sm_int hb hb2 (by rw [Int.natAbs_natCast]; exact h)
section
variable {P : Program} {w : World} {K : PySem.W.Frag} {mg : Str → Option Value} {base : Heap} {a : Adr}
structure RelG (P : Program) (w : World) (K : PySem.W.Frag) (mg : Str → Option Value) (base : Heap) : Prop extends RelFs P w K mg base where
  fl : Fnc P w K mg base CX0 4 "flipped" ["relation"] (spD K RFl)
  img : Fnc P w K mg base CX0 2 "image" ["relation", "mask"] (spD K RImg)
  prs : Fnc P w K mg base CX0 4 "pairs_of" ["relation"] (spD K RPairs)
  lpr : Fnc P w K mg base CX0 2 "_law_pairs" ["rows"] (spD K RPairs)
  beh : Fnc P w K mg base CX0 2 "_law_behind" ["pairs", "other"] (spD K RBeh)
  same : FncG P w K mg base 2 "_law_same" ["told", "due"] (spD K RSame)
def RRel (ds : List Da) (d : Da) : Prop := ∃ (n : Nat) (r wh bk o : List Nat) (m : Nat), RelOk n r wh bk ∧ Rl n o ∧ m < 2 ^ n ∧ ds = [triD r wh bk, .tup (ns o), .int m] ∧ d = .bl true
theorem sc_rel : FnScope ["found", "other", "mask", "rows", "pairs", "told", "dues", "k", "i", "both", "due", "pair"] ["found", "other", "mask"] (defScope (top 34)) := ⟨rfl, rfl, rfl, by decide +kernel, rfl, by decide +kernel, by decide +kernel⟩
theorem ok_rel (B : Bl mg) (C : RelG P w K mg base) (D : Def K mg "_law_relation" "_law_relation" (top 34) ["found", "other", "mask"]) : FncG P w K mg base 6 "_law_relation" ["found", "other", "mask"] (spD K RRel) := by
  refine fnc_g D sc_rel (fun ds d ⟨_, _, _, _, _, _, _, _, _, h, _⟩ => by rw [h]; rfl) fun X T S hr hgd ds d ⟨n, r, wh, bk, o, m, ok, ho, hm, h1, h2⟩ => ?_
  obtain ⟨rfl, rfl, rfl, rfl, rfl⟩ := T
  subst h1 h2
  have n1 := ok.n1
  have n2 := ok.n2
  have lr := ok.R.len
  have lo := ho.len
  have af := after_rl ok.R ho
  have fa := after_rl ho ok.R
  have un := union_rl ok.R ho
  have c1 : RCl [.tup (ns r)] (.tup (ns wh)) := ⟨n, r, by omega, ok.R, rfl, by rw [ok.c1]⟩
  have c2 : RCl [.tup (ns wh)] (.tup (ns wh)) := ⟨n, wh, by omega, ok.W, rfl, by rw [ok.c2]⟩
  have f1 : RFl [.tup (ns r)] (.tup (ns bk)) := ⟨n, r, by omega, ok.R, rfl, by rw [ok.f1]⟩
  have f2 : RFl [.tup (ns bk)] (.tup (ns r)) := ⟨n, bk, by omega, ok.V, rfl, by rw [ok.f2]⟩
  refine q_asg S 3 (d_ixT (j := 0) (x := .tup (ns r)) rfl (d_nm S 0 rfl) d_int) ?_
  refine q_asg S 4 (d_fn C.lpr hr (a_cons (d_nm S 3 rfl) a_nil) ⟨n, r, by omega, ok.R, rfl, rfl⟩ (S.gl rfl)) ?_
  refine q_asgO S 5 (f_lst (a_cons (d_fn C.cl hr (a_cons (d_nm S 3 rfl) a_nil) c1 (S.gl rfl)) (a_cons (d_fn C.cl hr (a_cons (d_ixT (j := 1) (x := .tup (ns wh)) rfl (d_nm S 0 rfl) d_int) a_nil) c2 (S.gl rfl)) (a_cons (d_fn C.fl hr (a_cons (d_nm S 3 rfl) a_nil) f1 (S.gl rfl)) (a_cons (d_fn C.fl hr (a_cons (d_ixT (j := 2) (x := .tup (ns bk)) rfl (d_nm S 0 rfl) d_int) a_nil) f2 (S.gl rfl)) a_nil)))) (by show 4 ≤ 1000; decide)) ?_
  refine q_asgO S 6 (f_lst (a_cons (d_ixT (j := 1) (x := .tup (ns wh)) rfl (d_nm S 0 rfl) d_int) (a_cons (d_ixT (j := 1) (x := .tup (ns wh)) rfl (d_nm S 0 rfl) d_int) (a_cons (d_ixT (j := 2) (x := .tup (ns bk)) rfl (d_nm S 0 rfl) d_int) (a_cons (d_nm S 3 rfl) a_nil)))) (by show 4 ≤ 1000; decide)) ?_
  refine q_pub (i := 5) rfl ?_
  refine q_asgO S 5 (f_cat (by show 4 + 2 ≤ 1000000; decide) (d_nm S 5 rfl) (f_d (f_lst (a_cons (d_fn C.af hr (a_cons (d_nm S 3 rfl) (a_cons (d_nm S 1 rfl) a_nil)) (mul_af n2 ok.R ho) (S.gl rfl)) (a_cons (d_fn C.af hr (a_cons (d_nm S 1 rfl) (a_cons (d_nm S 3 rfl) a_nil)) (mul_af n2 ho ok.R) (S.gl rfl)) a_nil)) (by show 2 ≤ 1000; decide)))) ?_
  refine q_push S 6 (d_fn C.beh hr (a_cons (d_nm S 4 rfl) (a_cons (d_nm S 1 rfl) a_nil)) ⟨n, r, o, by omega, ok.R, ho, rfl, rfl⟩ (S.gl rfl)) rfl rfl (by show 4 < 1000000; decide) ?_
  refine q_push S 6 (d_fn C.beh hr (a_cons (d_fn C.lpr hr (a_cons (d_nm S 1 rfl) a_nil) ⟨n, o, by omega, ho, rfl, rfl⟩ (S.gl rfl)) (a_cons (d_nm S 3 rfl) a_nil)) ⟨n, o, r, by omega, ho, ok.R, rfl, rfl⟩ (S.gl rfl)) rfl rfl (by show 5 < 1000000; decide) ?_
  have hall : ∀ l ∈ [wh, wh, bk, r, afterN r o, afterN o r], Rl n l := by
    intro l hl
    simp only [List.mem_cons, List.not_mem_nil, or_false] at hl
    rcases hl with rfl | rfl | rfl | rfl | rfl | rfl
    · exact ok.W
    · exact ok.W
    · exact ok.V
    · exact ok.R
    · exact af
    · exact fa
  refine q_for S (d_range (m := 6) (S.gl rfl) B.range d_int (by decide)) (fun k ρ => ∃ z, ρ = [.d (triD r wh bk), .d (.tup (ns o)), .d (.int m), .d (.tup (ns r)), .d (.lst (prD (pairsN r))), .own (.l ([wh, wh, bk, r, afterN r o, afterN o r].map fun l => Da.tup (ns l))), .own (.l ([wh, wh, bk, r, afterN r o, afterN o r].map fun l => Da.tup (ns l))), z, .any, .any, .any, .any] ∧ z.isOwn = false) ⟨_, rfl, rfl⟩ (fun k ρ hk ⟨z, hρ, hz⟩ => ?_) (fun ρ ⟨z, hρ, hz⟩ => ?_)
  · subst hρ
    refine ⟨_, g_nm S 7 (nz1 rfl hz), ?_⟩
    obtain ⟨l, hl⟩ : ∃ l, [wh, wh, bk, r, afterN r o, afterN o r][k]? = some l := ⟨_, List.getElem?_eq_getElem hk⟩
    have hl2 : ([wh, wh, bk, r, afterN r o, afterN o r].map fun l => Da.tup (ns l))[k]? = some (.tup (ns l)) := by
      rw [List.getElem?_map, hl]
      rfl
    have hl3 := hall l (List.mem_of_getElem? hl)
    exact q_if (t_not (t_val (d_fnG C.same hr hgd (a_cons (d_ixO S 5 rfl hl2 (d_nm S 7 rfl)) (a_cons (d_ixO S 6 rfl hl2 (d_nm S 7 rfl)) a_nil)) ⟨n, l, n1, n2, hl3, rfl, rfl⟩ (S.gl rfl)))) (fun hb => nomatch hb) (fun _ => sd_nil (sd_nil ⟨.d (.int ((k : Nat) : Int)), rfl, rfl⟩))
  subst hρ
  refine q_pub (i := 5) rfl (q_pub (i := 6) rfl ?_)
  refine q_asg S 9 (d_is (y := .tup (ns (unionN r o))) (d_tuple (S.gl rfl) B.tuple (f_d (f_lc S (own := [("i", 8)]) (d_range (S.gl rfl) B.range (d_lenT (S.gl rfl) B.len (d_nm S 3 rfl)) (by rw [ns_len]; omega)) (by decide +kernel) (fun i => some (.int ((r.getD i 0 ||| o.getD i 0 : Nat) : Int)))
    (fun i => [.d (triD r wh bk), .d (.tup (ns o)), .d (.int m), .d (.tup (ns r)), .d (.lst (prD (pairsN r))), .d (.lst ([wh, wh, bk, r, afterN r o, afterN o r].map fun l => Da.tup (ns l))), .d (.lst ([wh, wh, bk, r, afterN r o, afterN o r].map fun l => Da.tup (ns l))), z, .d (.int (i : Nat)), .any, .any, .any]) (by rw [ns_len]; omega) (fun i hi => ⟨fun s H C cl fp => ?_, fun s H C cl fp => pts_y, fun d hd s H C cl fp => ?_⟩)))) (by
      rw [ns_len, fm_ns fun i => r.getD i 0 ||| o.getD i 0]
      rfl)) ?_
  · exact gc_nm (sco_blk S rfl s H C cl fp) 8
  · rw [ns_len, lr] at hi
    cases hd
    exact d_orN (d_ixT (ns_get (getD_some (by rw [lr]; exact hi))) (d_nm (sco_blk S rfl s H C cl fp) 3 rfl) (d_nm (sco_blk S rfl s H C cl fp) 8 rfl)) (d_ixT (ns_get (getD_some (by rw [lo]; exact hi))) (d_nm (sco_blk S rfl s H C cl fp) 1 rfl) (d_nm (sco_blk S rfl s H C cl fp) 8 rfl))
  refine q_if (t_not (t_val (d_fnG C.same hr hgd (a_cons (d_fn C.un hr (a_cons (d_nm S 3 rfl) (a_cons (d_nm S 1 rfl) a_nil)) (mul_un n2 ok.R ho) (S.gl rfl)) (a_cons (d_nm S 9 rfl) a_nil)) ⟨n, _, n1, n2, un, rfl, rfl⟩ (S.gl rfl)))) (fun hb => nomatch hb) (fun _ => sd_nil ?_)
  refine q_asg S 10 d_n0 ?_
  refine q_for S (i_list (d_nm S 4 rfl)) (fun t ρ => ∃ z2, ρ = [.d (triD r wh bk), .d (.tup (ns o)), .d (.int m), .d (.tup (ns r)), .d (.lst (prD (pairsN r))), .d (.lst ([wh, wh, bk, r, afterN r o, afterN o r].map fun l => Da.tup (ns l))), .d (.lst ([wh, wh, bk, r, afterN r o, afterN o r].map fun l => Da.tup (ns l))), z, .any, .d (.tup (ns (unionN r o))), .d (.int ((imgT m ((pairsN r).take t) : Nat) : Int)), z2] ∧ z2.isOwn = false) ⟨_, rfl, rfl⟩ (fun t ρ ht ⟨z2, hρ, hz2⟩ => ?_) (fun ρ ⟨z2, hρ, hz2⟩ => ?_)
  · subst hρ
    rw [prD_len] at ht
    obtain ⟨p, hp⟩ : ∃ p, (pairsN r)[t]? = some p := ⟨_, List.getElem?_eq_getElem ht⟩
    rw [prD_getD hp]
    obtain ⟨b1, b2⟩ := ok.R.bit ((mem_pairs ok.R).mp (List.mem_of_getElem? hp))
    refine ⟨_, g_nm S 11 (nz1 rfl hz2), ?_⟩
    refine q_asg S 10 (d_orN (d_nm S 10 rfl) (d_shlN (m := m / 2 ^ p.1 &&& 1) (n := p.2) (by rw [and_one]; split <;> decide) (by omega) (d_andN (d_shrN (d_nm S 2 rfl) (d_ixT (j := 0) rfl (d_nm S 11 rfl) d_int)) d_n1) (d_ixT (j := 1) rfl (d_nm S 11 rfl) d_int))) (sd_nil ⟨.d (.tup [.int ((p.1 : Nat) : Int), .int ((p.2 : Nat) : Int)]), ?_, rfl⟩)
    rw [take_next hp]
    unfold imgT
    rw [List.foldl_append]
    rfl
  subst hρ
  rw [prD_len, List.take_length, img_is ok.R]
  have kdI : ∀ i : Int, (∃ j, Da.int i = .int j) ∨ (∃ xs, Da.int i = .lst xs) ∨ ∃ xs, Da.int i = .tup xs := fun i => .inl ⟨_, rfl⟩
  have kdL : ∀ l : List Da, (∃ j, Da.lst l = .int j) ∨ (∃ xs, Da.lst l = .lst xs) ∨ ∃ xs, Da.lst l = .tup xs := fun i => .inr (.inl ⟨_, rfl⟩)
  have smI : Sm 0 60 (.int ((imageN r m : Nat) : Int)) := sm_nat (by decide) (by decide) (Nat.lt_of_lt_of_le (image_lt ok.R m) (Nat.pow_le_pow_right (by decide) n2))
  refine q_if (t_neS (d_repr (kdI _) smI (by decide) (by decide) hgd hr (S.gl rfl) B.repr (d_fn C.img hr (a_cons (d_nm S 3 rfl) (a_cons (d_nm S 2 rfl) a_nil)) ⟨r, m, by omega, by rw [lr]; exact hm, rfl, rfl⟩ (S.gl rfl))) (d_repr (kdI _) smI (by decide) (by decide) hgd hr (S.gl rfl) B.repr (d_nm S 10 rfl))) (fun hb => by rw [decide_eq_true rfl] at hb; cases hb) (fun _ => sd_nil ?_)
  have smP := sm_prD n1 n2 ok.R
  refine q_if (t_neS (d_repr (kdL _) smP (by decide) (by decide) hgd hr (S.gl rfl) B.repr (d_fn C.prs hr (a_cons (d_nm S 3 rfl) a_nil) ⟨n, r, by omega, ok.R, rfl, rfl⟩ (S.gl rfl))) (d_repr (kdL _) smP (by decide) (by decide) hgd hr (S.gl rfl) B.repr (d_nm S 4 rfl))) (fun hb => by rw [decide_eq_true rfl] at hb; cases hb) (fun _ => sd_nil ?_)
  have l1 : liesN r wh = true := by rw [← ok.c1]; exact lies_closed ok.R
  have l2 : liesN wh r = decide (wh = r) := lies_back ok.R ok.W l1
  have l3 : liesN r (unionN r o) = true := lies_union ok.R
  have l4 : liesN (unionN r o) r = decide (unionN r o = r) := lies_back ok.R un l3
  refine q_asgO S 5 (f_lst (a_cons (d_is (y := .bl true) (d_fn C.li hr (a_cons (d_nm S 3 rfl) (a_cons (d_ixT (j := 1) (x := .tup (ns wh)) rfl (d_nm S 0 rfl) d_int) a_nil)) (lie_in n2 ok.R ok.W) (S.gl rfl)) (by rw [l1])) (a_cons (d_is (d_fn C.li hr (a_cons (d_ixT (j := 1) (x := .tup (ns wh)) rfl (d_nm S 0 rfl) d_int) (a_cons (d_nm S 3 rfl) a_nil)) (lie_in n2 ok.W ok.R) (S.gl rfl)) (congrArg Da.bl l2)) a_nil)) (by show 2 ≤ 1000; decide)) ?_
  refine q_pub (i := 5) rfl ?_
  refine q_asgO S 5 (f_cat (by show 2 + 2 ≤ 1000000; decide) (d_nm S 5 rfl) (f_d (f_lst (a_cons (d_is (y := .bl true) (d_fn C.li hr (a_cons (d_nm S 3 rfl) (a_cons (d_nm S 9 rfl) a_nil)) (lie_in n2 ok.R un) (S.gl rfl)) (by rw [l3])) (a_cons (d_is (d_fn C.li hr (a_cons (d_nm S 9 rfl) (a_cons (d_nm S 3 rfl) a_nil)) (lie_in n2 un ok.R) (S.gl rfl)) (congrArg Da.bl l4)) a_nil)) (by show 2 ≤ 1000; decide)))) ?_
  refine q_pub (i := 5) rfl ?_
  have smB : ∀ b1 b2 b3 b4 : Bool, Sm 2 40 (.lst [.bl b1, .bl b2, .bl b3, .bl b4]) := fun b1 b2 b3 b4 => Sm.lst ((Sms.cons (k := 1) (sm_bl) (Sms.cons sm_bl (Sms.cons sm_bl (Sms.cons sm_bl Sms.nil)))).le (Nat.le_refl _) (by decide))
  refine q_ret (d_eqS (d_repr (kdL _) (smB true (decide (wh = r)) true (decide (unionN r o = r))) (by decide) (by decide) hgd hr (S.gl rfl) B.repr (d_nm S 5 rfl)) (d_repr (kdL _) (smB true (decide (wh = r)) true (decide (unionN r o = r))) (by decide) (by decide) hgd hr (S.gl rfl) B.repr (f_d (f_lst (a_cons d_bl (a_cons (d_eqR n1 n2 ok.W n1 n2 ok.R hr (d_ixT (j := 1) (x := .tup (ns wh)) rfl (d_nm S 0 rfl) d_int) (d_nm S 3 rfl)) (a_cons d_bl (a_cons (d_eqR n1 n2 un n1 n2 ok.R hr (d_nm S 9 rfl) (d_nm S 3 rfl)) a_nil)))) (by show 4 ≤ 1000; decide))))) ?_
  show Da.bl (decide _) = Da.bl true
  rw [decide_eq_true rfl]
end
end K11
end
section
set_option Elab.async false
set_option linter.all false
set_option maxRecDepth 100000
namespace K11
open PySem PySem.Spec PyProof.Rows L2 Wv Km
/-! ### relations that lead by shifts -/
theorem shTo_bit (n i j : Nat) : ∀ (S : List Nat) (m : Nat), ((S.foldl (fun m s => m ||| 2 ^ ((i + s) % n)) m).testBit j = true ↔ m.testBit j = true ∨ ∃ s ∈ S, (i + s) % n = j)
  | [], m => by simp
  | s :: S, m => by
    rw [List.foldl_cons, shTo_bit n i j S, Nat.testBit_or, Bool.or_eq_true, Nat.testBit_two_pow, decide_eq_true_eq]
    simp only [List.mem_cons, exists_eq_or_imp]
    exact or_assoc
theorem sh_bit {n i j : Nat} {S : List Nat} : ((shN n S).getD i 0).testBit j = true ↔ i < n ∧ ∃ s ∈ S, (i + s) % n = j := by
  unfold shN
  by_cases hi : i < n
  · rw [getD_map _ _ hi]
    unfold shTo
    rw [shTo_bit]
    simp [hi]
  · have e : ((List.range n).map fun i => shTo n i S).getD i 0 = 0 := getD_none (by simp; omega)
    rw [e]
    simp [hi]
theorem sh_len (n : Nat) (S : List Nat) : (shN n S).length = n := by simp [shN]
theorem sh_rl {n : Nat} (hn : 0 < n) (S : List Nat) : Rl n (shN n S) := ⟨sh_len n S, fun i hi => lt_of_bits fun j hj => by
  obtain ⟨_, s, _, e⟩ := sh_bit.mp hj
  rw [← e]
  exact Nat.mod_lt _ hn⟩
theorem sh_congr {n : Nat} {S T : List Nat} (h : ∀ x, (∃ s ∈ S, s % n = x) ↔ ∃ t ∈ T, t % n = x) : shN n S = shN n T := rl_ext (n := n) (sh_len n S) (sh_len n T) fun i j hi => by
  rw [sh_bit, sh_bit]
  have key : ∀ {A B : List Nat}, (∀ x, (∃ s ∈ A, s % n = x) → ∃ t ∈ B, t % n = x) → (∃ s ∈ A, (i + s) % n = j) → ∃ s ∈ B, (i + s) % n = j := fun {A B} q ⟨s, h1, h2⟩ => by
    obtain ⟨t, h3, h4⟩ := q (s % n) ⟨s, h1, rfl⟩
    exact ⟨t, h3, by rw [← h2, ← Nat.add_mod_mod i t, h4, Nat.add_mod_mod]⟩
  exact ⟨fun q => ⟨q.1, key (fun x => (h x).mp) q.2⟩, fun q => ⟨q.1, key (fun x => (h x).mpr) q.2⟩⟩
theorem sh_union {n : Nat} (hn : 0 < n) (S T : List Nat) : unionN (shN n S) (shN n T) = shN n (S ++ T) := rl_ext (n := n) (by rw [union_len, sh_len]) (sh_len n _) fun i j hi => by
  rw [union_bit (by rw [sh_len]; exact hi), sh_bit, sh_bit, sh_bit]
  simp only [List.mem_append, hi, true_and]
  constructor
  · rintro (⟨s, h1, h2⟩ | ⟨s, h1, h2⟩)
    · exact ⟨s, .inl h1, h2⟩
    · exact ⟨s, .inr h1, h2⟩
  · rintro ⟨s, h1 | h1, h2⟩
    · exact .inl ⟨s, h1, h2⟩
    · exact .inr ⟨s, h1, h2⟩
/-- the sums modulo n, in order -/
def rawS (n : Nat) (A B : List Nat) : List Nat := A.flatMap fun a => B.map fun b => (a + b) % n
def sumN (n : Nat) (A B : List Nat) : List Nat := (List.range n).filter fun x => decide (x ∈ rawS n A B)
theorem mem_raw {n : Nat} {A B : List Nat} {x : Nat} : x ∈ rawS n A B ↔ ∃ a ∈ A, ∃ b ∈ B, (a + b) % n = x := by
  simp [rawS]
theorem mem_sum {n : Nat} (hn : 0 < n) {A B : List Nat} {x : Nat} : x ∈ sumN n A B ↔ ∃ a ∈ A, ∃ b ∈ B, (a + b) % n = x := by
  unfold sumN
  rw [List.mem_filter, List.mem_range, decide_eq_true_eq, mem_raw]
  constructor
  · exact fun h => h.2
  · intro h
    refine ⟨?_, h⟩
    obtain ⟨a, _, b, _, e⟩ := h
    rw [← e]
    exact Nat.mod_lt _ hn
theorem sum_len (n : Nat) (A B : List Nat) : (sumN n A B).length ≤ n := by
  unfold sumN
  refine Nat.le_trans (List.length_filter_le _ _) ?_
  rw [List.length_range]
  exact Nat.le_refl n
theorem sh_after {n : Nat} (hn : 0 < n) (A B : List Nat) : afterN (shN n A) (shN n B) = shN n (sumN n A B) := rl_ext (n := n) (by rw [after_len, sh_len]) (sh_len n _) fun i j hi => by
  rw [after_bit (by rw [sh_len]; exact hi), sh_bit, sh_len]
  simp only [sh_bit, hi, true_and]
  constructor
  · rintro ⟨k, hk, ⟨a, h1, h2⟩, _, b, h3, h4⟩
    refine ⟨(a + b) % n, (mem_sum hn).mpr ⟨a, h1, b, h3, rfl⟩, ?_⟩
    rw [← h4, ← h2, Nat.mod_add_mod, Nat.add_mod_mod, Nat.add_assoc]
  · rintro ⟨s, h1, h2⟩
    obtain ⟨a, h3, b, h4, e⟩ := (mem_sum hn).mp h1
    refine ⟨(i + a) % n, Nat.mod_lt _ hn, ⟨a, h3, rfl⟩, Nat.mod_lt _ hn, b, h4, ?_⟩
    rw [← h2, ← e, Nat.mod_add_mod, Nat.add_mod_mod, Nat.add_assoc]
/-- what can be reached by adding -/
def Gd_ (n : Nat) (S : List Nat) (d : Nat) : Prop := ∀ i, i < n → Rch (shN n S) i ((i + d) % n)
section
variable {n : Nat} {S : List Nat}
theorem gd_cong (hn : 0 < n) {d e : Nat} (h : Gd_ n S d) (q : d % n = e % n) : Gd_ n S e := fun i hi => by
  have := h i hi
  rw [← Nat.add_mod_mod, q, Nat.add_mod_mod] at this
  exact this
theorem gd_zero : Gd_ n S 0 := fun i hi => by
  rw [Nat.add_zero, Nat.mod_eq_of_lt hi]
  exact .refl i
theorem gd_add (hn : 0 < n) {d e : Nat} (h : Gd_ n S d) (g : Gd_ n S e) : Gd_ n S (d + e) := fun i hi => by
  have := (h i hi).trans (g _ (Nat.mod_lt _ hn))
  rw [Nat.mod_add_mod, Nat.add_assoc] at this
  exact this
theorem gd_mul (hn : 0 < n) {d : Nat} (h : Gd_ n S d) : ∀ k, Gd_ n S (k * d)
  | 0 => by rw [Nat.zero_mul]; exact gd_zero
  | k + 1 => by
    rw [Nat.succ_mul]
    exact gd_add hn (gd_mul hn h k) h
theorem gd_mem {s : Nat} (h : s ∈ S) : Gd_ n S s := fun i hi => .one (sh_bit.mpr ⟨hi, s, h, rfl⟩)
theorem gd_mod (hn : 0 < n) {a b : Nat} (ha : Gd_ n S a) (hb : Gd_ n S b) : Gd_ n S (b % a) := by
  have h := gd_add hn (gd_mul hn ha ((b / a) * (n - 1))) hb
  refine gd_cong hn h ?_
  have e : b / a * (n - 1) * a + b = b % a + n * (b / a * a) := by
    have h1 := Nat.mod_add_div b a
    have h2 : n = (n - 1) + 1 := by omega
    have h3 : b / a * (n - 1) * a = (n - 1) * (b / a * a) := by
      rw [Nat.mul_comm (b / a) (n - 1), Nat.mul_assoc]
    have h4 : n * (b / a * a) = (n - 1) * (b / a * a) + b / a * a := by
      conv => lhs; rw [h2, Nat.succ_mul]
    have h5 : a * (b / a) = b / a * a := Nat.mul_comm _ _
    rw [h3, h4]
    omega
  rw [e, Nat.add_mul_mod_self_left]
theorem gd_gcd (hn : 0 < n) (a b : Nat) : Gd_ n S a → Gd_ n S b → Gd_ n S (Nat.gcd a b) := by
  induction a, b using Nat.gcd.induction with
  | H0 b =>
    intro _ h
    rw [Nat.gcd_zero_left]
    exact h
  | H1 a b _ ih =>
    intro h g
    rw [Nat.gcd_rec]
    exact ih (gd_mod hn h g) h
theorem gd_fold (hn : 0 < n) : ∀ (T : List Nat) (x : Nat), (∀ t ∈ T, Gd_ n S t) → Gd_ n S x → Gd_ n S (T.foldl Nat.gcd x)
  | [], _, _, h => h
  | t :: T, x, q, h => gd_fold hn T _ (fun s hs => q s (List.mem_cons_of_mem _ hs)) (gd_gcd hn x t h (q t List.mem_cons_self))
theorem mem_muls {g x : Nat} (hg : g ∣ n) (hn : 0 < n) : x ∈ muls n g ↔ x < n ∧ g ∣ x := by
  have hp : 0 < g := Nat.pos_of_dvd_of_pos hg hn
  unfold muls
  rw [List.mem_map]
  constructor
  · rintro ⟨t, h, rfl⟩
    refine ⟨?_, Nat.dvd_mul_left g t⟩
    have h2 := List.mem_range.mp h
    have h3 : (t + 1) * g ≤ n / g * g := Nat.mul_le_mul_right g h2
    rw [Nat.div_mul_cancel hg, Nat.succ_mul] at h3
    omega
  · rintro ⟨h, t, rfl⟩
    refine ⟨t, List.mem_range.mpr ?_, Nat.mul_comm _ _⟩
    obtain ⟨q, rfl⟩ := hg
    rw [Nat.mul_div_cancel_left _ hp]
    exact Nat.lt_of_mul_lt_mul_left h
theorem sh_closed (hn : 0 < n) (S : List Nat) : closedN (shN n S) = shN n (mulN n S) := by
  have hg := (gcdN_dvd S n).1
  have hs := (gcdN_dvd S n).2
  have gg : Gd_ n S (gcdN n S) := gd_fold hn S n (fun t ht => gd_mem ht) (gd_cong hn gd_zero (by simp))
  have bit : ∀ {i j : Nat}, ((shN n (mulN n S)).getD i 0).testBit j = true ↔ i < n ∧ ∃ x, gcdN n S ∣ x ∧ (i + x) % n = j := fun {i j} => by
    rw [sh_bit]
    refine and_congr_right fun hi => ⟨?_, ?_⟩
    · rintro ⟨s, h1, h2⟩
      exact ⟨s, ((mem_muls hg hn).mp h1).2, h2⟩
    · rintro ⟨x, h1, h2⟩
      exact ⟨x % n, (mem_muls hg hn).mpr ⟨Nat.mod_lt _ hn, (Nat.dvd_mod_iff hg).mpr h1⟩, by rw [Nat.add_mod_mod]; exact h2⟩
  refine closed_is (n := n) (sh_rl hn S) (sh_rl hn _) (fun i hi => ?_) (fun i j k h1 h2 => ?_) fun i j h => ?_
  · exact bit.mpr ⟨hi, 0, Nat.dvd_zero _, by rw [Nat.add_zero, Nat.mod_eq_of_lt hi]⟩
  · obtain ⟨hi, s, h3, h4⟩ := sh_bit.mp h1
    obtain ⟨hj, x, h5, h6⟩ := bit.mp h2
    exact bit.mpr ⟨hi, s + x, Nat.dvd_add (hs s h3) h5, by rw [← h6, ← h4, Nat.mod_add_mod, Nat.add_assoc]⟩
  · obtain ⟨hi, x, ⟨q, e⟩, h6⟩ := bit.mp h
    have := gd_mul hn gg q i hi
    rw [Nat.mul_comm, ← e, h6] at this
    exact this
end
/-! ### tables that lead by shifts -/
structure Q4 where
  p : List Nat
  q : List Nat
  r : List Nat
  s : List Nat
def tq (n : Nat) (x : Q4) : Tb := ⟨shN n x.p, shN n x.q, shN n x.r, shN n x.s⟩
theorem tq_ok {n : Nat} (h1 : 1 ≤ n) (h2 : n ≤ 60) (x : Q4) : TbOk n (tq n x) := ⟨h1, h2, sh_rl h1 _, sh_rl h1 _, sh_rl h1 _, sh_rl h1 _⟩
def mdl (n : Nat) (x y : Q4) : List Nat := mulN n (x.s ++ y.p)
def prodQ (n : Nat) (x y : Q4) : Q4 := ⟨x.p ++ sumN n (sumN n x.q (mdl n x y)) x.r, sumN n (sumN n x.q (mdl n x y)) y.q, sumN n (sumN n y.r (mdl n x y)) x.r, y.s ++ sumN n (sumN n y.r (mdl n x y)) y.q⟩
def revQ (x : Q4) : Q4 := ⟨x.s, x.r, x.q, x.p⟩
theorem tq_mul {n : Nat} (hn : 0 < n) (x y : Q4) : mulT (tq n x) (tq n y) = tq n (prodQ n x y) := by
  unfold mulT tq prodQ mdl
  simp only [sh_union hn, sh_closed hn, sh_after hn]
theorem tq_inv (n : Nat) (x : Q4) : invT (tq n x) = tq n (revQ x) := rfl
theorem union_comm {n : Nat} {r s : List Nat} (hr : r.length = n) (hs : s.length = n) : unionN r s = unionN s r := by
  unfold unionN
  rw [hr, hs]
  refine List.map_congr_left fun i _ => Nat.or_comm _ _
theorem inv_mul {n : Nat} {x y : Tb} (hx : TbOk n x) (hy : TbOk n y) : invT (mulT x y) = mulT (invT y) (invT x) := by
  unfold invT mulT
  simp only [union_comm hy.ll.len hx.rr.len]
theorem eqT_self (x : Tb) : eqT x x = true := by
  unfold eqT
  simp
end K11
end
section
set_option Elab.async false
set_option linter.all false
set_option maxRecDepth 100000
namespace K11
open PySem PySem.Spec PyProof.Rows L2 Wv Km
section
variable {P : Program} {w : World} {K : PySem.W.Frag} {mg : Str → Option Value} {base : Heap} {a : Adr}
/-! ### _law_sum -/
def RSum (ds : List Da) (d : Da) : Prop := ∃ (n : Nat) (A B : List Nat), 1 ≤ n ∧ n ≤ 60 ∧ A.length ≤ 60 ∧ B.length ≤ 60 ∧ ds = [.int n, .lst (ns A), .lst (ns B)] ∧ d = .lst (ns (sumN n A B))
theorem sc_sum : FnScope ["n", "one", "two", "rows", "left", "right"] ["n", "one", "two"] (defScope (top 35)) := ⟨rfl, rfl, rfl, by decide +kernel, rfl, by decide +kernel, by decide +kernel⟩
def rawTo (n : Nat) (A B : List Nat) (i : Nat) : List Nat := rawS n (A.take i) B
theorem rawTo_next {n i x : Nat} {A B : List Nat} (h : A[i]? = some x) : rawTo n A B (i + 1) = rawTo n A B i ++ B.map fun b => (x + b) % n := by
  unfold rawTo rawS
  rw [take_next h, List.flatMap_append]
  simp
theorem raw_len (n : Nat) (B : List Nat) : ∀ A : List Nat, (rawS n A B).length = A.length * B.length
  | [] => by simp [rawS]
  | a :: A => by
    have := raw_len n B A
    unfold rawS at this ⊢
    rw [List.flatMap_cons, List.length_append, this, List.length_map, List.length_cons, Nat.succ_mul]
    omega
theorem ok_sum (B : Bl mg) (D : Def K mg "_law_sum" "_law_sum" (top 35) ["n", "one", "two"]) : Fnc P w K mg base CX0 2 "_law_sum" ["n", "one", "two"] (spD K RSum) := by
  refine fnc_d D sc_sum (fun ds d ⟨_, _, _, _, _, _, _, h, _⟩ => by rw [h]; rfl) fun X T S hr ds d ⟨n, A, C, hn, hn2, hA, hC, h1, h2⟩ => ?_
  obtain ⟨rfl, rfl, rfl, rfl, rfl⟩ := T
  subst h1 h2
  have hAC : A.length * C.length ≤ 3600 := Nat.mul_le_mul hA hC
  refine q_asgO S 3 (f_lst a_nil (by decide)) ?_
  refine q_for S (i_list (d_nm S 1 rfl)) (fun i ρ => ∃ z1 z2, ρ = [.d (.int n), .d (.lst (ns A)), .d (.lst (ns C)), .own (.l (ns (rawTo n A C i))), z1, z2] ∧ z1.isOwn = false ∧ z2.isOwn = false) ⟨_, _, rfl, rfl, rfl⟩ (fun i ρ hi ⟨z1, z2, hρ, hz1, hz2⟩ => ?_) (fun ρ ⟨z1, z2, hρ, _⟩ => ?_)
  · subst hρ
    rw [ns_len] at hi
    rw [ns_getD hi]
    refine ⟨_, g_nm S 4 (nz1 rfl hz1), ?_⟩
    have hx := getD_some hi
    generalize A.getD i 0 = x at hx ⊢
    have hlen : (rawTo n A C i).length + C.length ≤ 3600 := by
      unfold rawTo
      rw [raw_len, List.length_take]
      have h1 : (min i A.length + 1) * C.length ≤ A.length * C.length := Nat.mul_le_mul_right _ (by omega)
      rw [Nat.succ_mul] at h1
      omega
    refine q_for S (i_list (d_nm S 2 rfl)) (fun t ρ => ∃ z, ρ = [.d (.int n), .d (.lst (ns A)), .d (.lst (ns C)), .own (.l (ns (rawTo n A C i ++ (C.take t).map fun b => (x + b) % n))), .d (.int ((x : Nat) : Int)), z] ∧ z.isOwn = false) ⟨z2, by simp, hz2⟩ (fun t ρ ht ⟨z, hρ, hz⟩ => ?_) (fun ρ ⟨z, hρ, hz⟩ => ?_)
    · subst hρ
      rw [ns_len] at ht
      rw [ns_getD ht]
      refine ⟨_, g_nm S 5 (nz1 rfl hz), q_push S 3 (d_modN (by omega) (d_toInt (S.gl rfl) B.int (d_addN (d_nm S 4 rfl) (d_nm S 5 rfl))) (d_nm S 0 rfl)) rfl rfl (by rw [ns_len, List.length_append, List.length_map, List.length_take]; omega) (sd_nil ⟨.d (.int ((C.getD t 0 : Nat) : Int)), ?_, rfl⟩)⟩
      rw [take_next (getD_some ht), List.map_append, ← List.append_assoc, ns_app (rawTo n A C i ++ _)]
      rfl
    · subst hρ
      rw [ns_len, List.take_length]
      exact sd_nil ⟨.d (.int ((x : Nat) : Int)), z, by rw [rawTo_next hx], rfl, hz⟩
  · subst hρ
    rw [ns_len]
    have e0 : rawTo n A C A.length = rawS n A C := by
      unfold rawTo
      rw [List.take_length]
    rw [e0]
    refine q_pub (i := 3) rfl ?_
    have hz : ∀ l : List Nat, ns l = (zs l).map Da.int := fun l => ns_zs l
    refine q_ret (f_d (f_sortedSet (ns := zs (rawS n A C)) (ms := zs (sumN n A C)) (by rw [zs_len]; have := sum_len n A C; omega) (by rw [zs_len, raw_len]; omega) ?_ (fun k => ?_) S.calm (S.gl rfl) B.sorted (S.gl rfl) B.set (d_is (d_nm S 3 rfl) (by rw [← hz])))) (by rw [← hz]; rfl)
    · unfold zs
      rw [List.pairwise_map]
      exact (List.Pairwise.filter _ List.pairwise_lt_range).imp fun h => by omega
    · unfold zs
      rw [List.mem_map, List.mem_map]
      exact exists_congr fun x => and_congr_left fun _ => by rw [mem_sum (by omega), mem_raw]
/-! ### _law_product, _law_rows -/
def Q4.l (x : Q4) : List (List Nat) := [x.p, x.q, x.r, x.s]
def q4D (x : Q4) : Da := .lst (x.l.map fun l => .lst (ns l))
structure Q4s (x : Q4) : Prop where
  p : x.p.length ≤ 60
  q : x.q.length ≤ 60
  r : x.r.length ≤ 60
  s : x.s.length ≤ 60
def RProd (ds : List Da) (d : Da) : Prop := ∃ (n : Nat) (x y : Q4), 1 ≤ n ∧ n ≤ 60 ∧ Q4s x ∧ Q4s y ∧ ds = [.int n, q4D x, q4D y] ∧ d = q4D (prodQ n x y)
theorem sc_prod : FnScope ["n", "one", "two", "middle", "ahead", "behind", "rows"] ["n", "one", "two"] (defScope (top 36)) := ⟨rfl, rfl, rfl, by decide +kernel, rfl, by decide +kernel, by decide +kernel⟩
theorem muls_len {n : Nat} (hn : 0 < n) (S : List Nat) : (mulN n S).length ≤ n := by
  unfold mulN muls
  rw [List.length_map, List.length_range]
  exact Nat.div_le_self _ _
theorem ok_prod (B : Bl mg) (D : Def K mg "_law_product" "_law_product" (top 36) ["n", "one", "two"]) (C1 : Fnc P w K mg base CX0 2 "_law_multiples" ["n", "shifts"] (spD K RMuls)) (C2 : Fnc P w K mg base CX0 2 "_law_sum" ["n", "one", "two"] (spD K RSum)) : Fnc P w K mg base CX0 4 "_law_product" ["n", "one", "two"] (spD K RProd) := by
  refine fnc_d D sc_prod (fun ds d ⟨_, _, _, _, _, _, _, h, _⟩ => by rw [h]; rfl) fun X T S hr ds d ⟨n, x, y, hn, hn2, hx, hy, h1, h2⟩ => ?_
  obtain ⟨rfl, rfl, rfl, rfl, rfl⟩ := T
  subst h1 h2
  have lm := muls_len (n := n) (by omega) (x.s ++ y.p)
  have s1 := sum_len n x.q (mdl n x y)
  have s2 := sum_len n y.r (mdl n x y)
  have t1 := sum_len n (sumN n x.q (mdl n x y)) x.r
  have t2 := sum_len n (sumN n y.r (mdl n x y)) y.q
  have := hx.p
  have := hy.s
  have hcat : ∀ {l m : List Nat}, l.length ≤ 60 → m.length ≤ 60 → (ns l).length + (ns m).length ≤ 1000000 := fun {l m} h g => by
    rw [ns_len, ns_len]
    omega
  refine q_asg S 3 (d_is (y := .lst (ns (mdl n x y))) (d_fn C1 hr (a_cons (d_nm S 0 rfl) (a_cons (d_is (y := .lst (ns (x.s ++ y.p))) (f_d (f_cat (hcat hx.s hy.p) (d_ixL (j := 3) (x := .lst (ns x.s)) rfl (d_nm S 1 rfl) d_int) (d_ixL (j := 0) (x := .lst (ns y.p)) rfl (d_nm S 2 rfl) d_int))) (by rw [ns_app])) a_nil)) ⟨n, x.s ++ y.p, hn, by omega, rfl, rfl⟩ (S.gl rfl)) rfl) ?_
  refine q_asg S 4 (d_fn C2 hr (a_cons (d_nm S 0 rfl) (a_cons (d_ixL (j := 1) (x := .lst (ns x.q)) rfl (d_nm S 1 rfl) d_int) (a_cons (d_nm S 3 rfl) a_nil))) ⟨n, x.q, mdl n x y, hn, hn2, hx.q, by unfold mdl; omega, rfl, rfl⟩ (S.gl rfl)) ?_
  refine q_asg S 5 (d_fn C2 hr (a_cons (d_nm S 0 rfl) (a_cons (d_ixL (j := 2) (x := .lst (ns y.r)) rfl (d_nm S 2 rfl) d_int) (a_cons (d_nm S 3 rfl) a_nil))) ⟨n, y.r, mdl n x y, hn, hn2, hy.r, by unfold mdl; omega, rfl, rfl⟩ (S.gl rfl)) ?_
  refine q_asgO S 6 (f_lst (a_cons (d_is (y := .lst (ns (prodQ n x y).p)) (f_d (f_cat (hcat hx.p (by omega)) (d_ixL (j := 0) (x := .lst (ns x.p)) rfl (d_nm S 1 rfl) d_int) (d_fn C2 hr (a_cons (d_nm S 0 rfl) (a_cons (d_nm S 4 rfl) (a_cons (d_ixL (j := 2) (x := .lst (ns x.r)) rfl (d_nm S 1 rfl) d_int) a_nil))) ⟨n, _, x.r, hn, hn2, by omega, hx.r, rfl, rfl⟩ (S.gl rfl)))) (by unfold prodQ; rw [ns_app])) a_nil) (by show 1 ≤ 1000; decide)) ?_
  refine q_push S 6 (d_fn C2 hr (a_cons (d_nm S 0 rfl) (a_cons (d_nm S 4 rfl) (a_cons (d_ixL (j := 1) (x := .lst (ns y.q)) rfl (d_nm S 2 rfl) d_int) a_nil))) ⟨n, _, y.q, hn, hn2, by omega, hy.q, rfl, rfl⟩ (S.gl rfl)) rfl rfl (by show 1 < 1000000; decide) ?_
  refine q_push S 6 (d_fn C2 hr (a_cons (d_nm S 0 rfl) (a_cons (d_nm S 5 rfl) (a_cons (d_ixL (j := 2) (x := .lst (ns x.r)) rfl (d_nm S 1 rfl) d_int) a_nil))) ⟨n, _, x.r, hn, hn2, by omega, hx.r, rfl, rfl⟩ (S.gl rfl)) rfl rfl (by show 2 < 1000000; decide) ?_
  refine q_push S 6 (d_is (y := .lst (ns (prodQ n x y).s)) (f_d (f_cat (hcat hy.s (by omega)) (d_ixL (j := 3) (x := .lst (ns y.s)) rfl (d_nm S 2 rfl) d_int) (d_fn C2 hr (a_cons (d_nm S 0 rfl) (a_cons (d_nm S 5 rfl) (a_cons (d_ixL (j := 1) (x := .lst (ns y.q)) rfl (d_nm S 2 rfl) d_int) a_nil))) ⟨n, _, y.q, hn, hn2, by omega, hy.q, rfl, rfl⟩ (S.gl rfl)))) (by unfold prodQ; rw [ns_app])) rfl rfl (by show 3 < 1000000; decide) ?_
  exact q_pub (i := 6) rfl (q_ret (d_nm S 6 rfl) rfl)
def RRows (ds : List Da) (d : Da) : Prop := ∃ (n : Nat) (L : List (List Nat)), 1 ≤ n ∧ n ≤ 60 ∧ L.length ≤ 1000 ∧ ds = [.int n, .lst (L.map fun l => .lst (ns l))] ∧ d = .lst (L.map fun l => .tup (ns (shN n l)))
theorem sc_rows : FnScope ["n", "shifts", "one"] ["n", "shifts"] (defScope (top 37)) := ⟨rfl, rfl, rfl, by decide +kernel, rfl, by decide +kernel, by decide +kernel⟩
theorem fm_list {α β : Type} (f : α → β) (x0 : α) : ∀ L : List α, (List.range L.length).filterMap (fun i => some (f (L.getD i x0))) = L.map f := fun L => by
  rw [List.filterMap_eq_map']
  apply List.ext_getElem
  · simp
  · intro i h1 h2
    simp at h1
    simp [List.getD_eq_getElem?_getD, h1]
theorem ok_rows (D : Def K mg "_law_rows" "_law_rows" (top 37) ["n", "shifts"]) (C1 : Fnc P w K mg base CX0 2 "_law_shifted" ["n", "shifts"] (spD K RSh)) : Fnc P w K mg base CX0 4 "_law_rows" ["n", "shifts"] (spD K RRows) := by
  refine fnc_d D sc_rows (fun ds d ⟨_, _, _, _, _, h, _⟩ => by rw [h]; rfl) fun X T S hr ds d ⟨n, L, hn, hn2, hL, h1, h2⟩ => ?_
  obtain ⟨rfl, rfl, rfl, rfl, rfl⟩ := T
  subst h1 h2
  refine q_ret (f_d (f_lc S (own := [("one", 2)]) (i_list (d_nm S 1 rfl)) (by decide +kernel) (fun i => some (.tup (ns (shN n (L.getD i []))))) (fun i => [.d (.int n), .d (.lst (L.map fun l => .lst (ns l))), .d (.lst (ns (L.getD i [])))]) (by rw [List.length_map]; omega) (fun i hi => ⟨fun s H C cl fp => ?_, fun s H C cl fp => pts_y, fun d hd s H C cl fp => ?_⟩))) ?_
  · rw [List.length_map] at hi
    have e : (L.map fun l => Da.lst (ns l)).getD i .non = .lst (ns (L.getD i [])) := by
      simp [List.getD_eq_getElem?_getD, hi]
    rw [e]
    exact gc_nm (sco_blk S rfl s H C cl fp) 2
  · cases hd
    exact d_fn C1 (k := 3) hr (a_cons (d_nm (sco_blk S rfl s H C cl fp) 0 rfl) (a_cons (d_nm (sco_blk S rfl s H C cl fp) 2 rfl) a_nil)) ⟨n, _, hn, by omega, rfl, rfl⟩ ((sco_blk S rfl s H C cl fp).gl rfl)
  · show Da.lst _ = Da.lst _
    congr 1
    rw [List.length_map]
    exact fm_list (fun l => Da.tup (ns (shN n l))) [] L
/-! ### _law_table -/
def RTab (C : Addr) (ds : List Da) (o : Option Da) : Prop := ∃ a b c d : List Int, a.length ≤ 1000 ∧ b.length ≤ 1000 ∧ c.length ≤ 1000 ∧ d.length ≤ 1000 ∧ ds = [.lst [.tup (is a), .tup (is b), .tup (is c), .tup (is d)]] ∧ o = if okI a b c d then some (.ins C (tflds a b c d)) else none
theorem sc_tab : FnScope ["rows"] ["rows"] (defScope (top 38)) := ⟨rfl, rfl, rfl, by decide +kernel, rfl, by decide +kernel, by decide +kernel⟩
theorem ok_tab (I : TI P w K mg base a) (D : Def K mg "_law_table" "_law_table" (top 38) ["rows"]) : Fnc P w K mg base (L2.CX P w) 7 "_law_table" ["rows"] (spX K (.ref a.Cb) (RTab a.C)) := by
  refine fnc_x D sc_tab (fun ds o ⟨_, _, _, _, _, _, _, _, h, _⟩ => by rw [h]; rfl) fun X T S hr E tk ds o ⟨l1, l2, l3, l4, n1, n2, n3, n4, h1, h2⟩ => ?_
  obtain ⟨rfl, rfl, rfl, rfl, rfl⟩ := T
  subst h1 h2
  obtain ⟨fd, F, hb⟩ := I.ini
  cases hok : okI l1 l2 l3 l4 with
  | true => exact q_ret (d_make (E := E0) I.T.mkC F passL (hr.mono (by decide : 6 ≤ 6)) (S.gl rfl) I.T.gC hb (a_cons (d_ixL (j := 0) (x := .tup (is l1)) rfl (d_nm S 0 rfl) d_int) (a_cons (d_ixL (j := 1) (x := .tup (is l2)) rfl (d_nm S 0 rfl) d_int) (a_cons (d_ixL (j := 2) (x := .tup (is l3)) rfl (d_nm S 0 rfl) d_int) (a_cons (d_ixL (j := 3) (x := .tup (is l4)) rfl (d_nm S 0 rfl) d_int) a_nil)))) ⟨l1, l2, l3, l4, n1, n2, n3, n4, rfl, by rw [if_pos hok]⟩) rfl
  | false => exact q_retN (n_make I.T.mkC F tk (hr.mono (by decide : 6 ≤ 6)) (S.gl rfl) I.T.gC hb (a_cons (d_ixL (j := 0) (x := .tup (is l1)) rfl (d_nm S 0 rfl) d_int) (a_cons (d_ixL (j := 1) (x := .tup (is l2)) rfl (d_nm S 0 rfl) d_int) (a_cons (d_ixL (j := 2) (x := .tup (is l3)) rfl (d_nm S 0 rfl) d_int) (a_cons (d_ixL (j := 3) (x := .tup (is l4)) rfl (d_nm S 0 rfl) d_int) a_nil)))) ⟨l1, l2, l3, l4, n1, n2, n3, n4, rfl, by rw [if_neg (by rw [hok]; exact Bool.false_ne_true)]⟩) ⟨rfl, rfl⟩
/-- of four good relations -/
theorem tab_in {n : Nat} {t : Tb} (h : TbOk n t) : RTab a.C [.lst [.tup (ns t.ll), .tup (ns t.lr), .tup (ns t.rl), .tup (ns t.rr)]] (some (tn a.C t)) := by
  have := h.n2
  refine ⟨zs t.ll, zs t.lr, zs t.rl, zs t.rr, ?_, ?_, ?_, ?_, ?_, ?_⟩
  · rw [zs_len, h.ll.len]; omega
  · rw [zs_len, h.lr.len]; omega
  · rw [zs_len, h.rl.len]; omega
  · rw [zs_len, h.rr.len]; omega
  · rw [← ns_zs, ← ns_zs, ← ns_zs, ← ns_zs]
  · rw [if_pos (ok_zs h), tflds_zs]
    rfl
end
end K11
end
section
set_option Elab.async false
set_option linter.all false
set_option maxRecDepth 100000
namespace K11
open PySem PySem.Spec PyProof.Rows L2 Wv Km
section
variable {P : Program} {w : World} {K : PySem.W.Frag} {mg : Str → Option Value} {base : Heap} {a : Adr}
structure TabG (P : Program) (w : World) (K : PySem.W.Frag) (mg : Str → Option Value) (base : Heap) (a : Adr) : Prop where
  I : TI P w K mg base a
  uni : FncM P w K mg base CX0 8 a.uni ["cls", "states"] (spD K (RUni a.C))
  mul : FncM P w K mg base CX0 8 a.mul ["self", "other"] (spD K (RMul a.C))
  inv : FncM P w K mg base CX0 8 a.inv ["self"] (spD K (RInv a.C))
  eq : FncM P w K mg base CX0 8 a.eq ["self", "other"] (spD K (REq a.C))
  lie : FncM P w K mg base CX0 8 a.lie ["self", "other"] (spD K (RLieT a.C))
  fla : FncM P w K mg base CX0 8 a.fla ["self"] (spD K (RFla a.C))
  rows : Fnc P w K mg base CX0 4 "_law_rows" ["n", "shifts"] (spD K RRows)
  tab : Fnc P w K mg base (L2.CX P w) 7 "_law_table" ["rows"] (spX K (.ref a.Cb) (RTab a.C))
section
variable {X : Cx} {ρ ρ1 ρ2 : List SV} {e1 e2 : Expr} {pos : Pos} {k n m : Nat} {x y : Tb}
theorem d_tmul (G : TabG X.prog X.w X.K X.mg X.base a) (hr : Room k X.A) (hx : TbOk n x) (hy : TbOk n y) (h1 : ED X e1 ρ ρ1 (tn a.C x)) (h2 : ED X e2 ρ1 ρ2 (tn a.C y)) (hk : 8 ≤ k := by decide) : ED X (.BinOp e1 .Mult e2 pos) ρ ρ2 (tn a.C (mulT x y)) := by
  obtain ⟨fd, F, hb⟩ := G.mul
  exact d_opOwn (E := E0) F pass0 (hr.mono hk) hb G.I.T.sM G.I.T.fM G.I.T.sf h1 h2 ⟨n, x, y, hx, hy, rfl, rfl⟩
theorem d_tinv (G : TabG X.prog X.w X.K X.mg X.base a) (hr : Room k X.A) (hx : TbOk n x) (h1 : ED X e1 ρ ρ1 (tn a.C x)) (hk : 8 ≤ k := by decide) : ED X (.UnaryOp .Invert e1 pos) ρ ρ1 (tn a.C (invT x)) := by
  obtain ⟨fd, F, hb⟩ := G.inv
  exact d_inv (E := E0) F pass0 (hr.mono hk) hb G.I.T.sV G.I.T.fV h1 ⟨n, x, hx, rfl, rfl⟩
theorem d_teq (G : TabG X.prog X.w X.K X.mg X.base a) (hr : Room k X.A) (hx : TbOk n x) (hy : TbOk m y) (h1 : ED X e1 ρ ρ1 (tn a.C x)) (h2 : ED X e2 ρ1 ρ2 (tn a.C y)) (hk : 8 ≤ k := by decide) : ED X (.Compare e1 [.Eq] [e2] pos) ρ ρ2 (.bl (eqT x y)) := by
  obtain ⟨fd, F, hb⟩ := G.eq
  exact d_eqOwn (E := E0) F pass0 (hr.mono hk) hb G.I.T.sE G.I.T.fE h1 h2 ⟨n, m, x, y, hx, hy, rfl, rfl⟩
theorem kdI (i : Int) : (∃ j, Da.int i = .int j) ∨ (∃ xs, Da.int i = .lst xs) ∨ ∃ xs, Da.int i = .tup xs := .inl ⟨_, rfl⟩
theorem kdL (l : List Da) : (∃ j, Da.lst l = .int j) ∨ (∃ xs, Da.lst l = .lst xs) ∨ ∃ xs, Da.lst l = .tup xs := .inr (.inl ⟨_, rfl⟩)
theorem kdT (l : List Da) : (∃ j, Da.tup l = .int j) ∨ (∃ xs, Da.tup l = .lst xs) ∨ ∃ xs, Da.tup l = .tup xs := .inr (.inr ⟨_, rfl⟩)
end
/-! ### _law_alike -/
def RAlike (C : Addr) (ds : List Da) (d : Da) : Prop := ∃ (n : Nat) (x : Q4), 1 ≤ n ∧ n ≤ 60 ∧ ds = [tn C (tq n x), .int n, q4D x] ∧ d = .bl true
theorem sc_alike : FnScope ["table", "n", "shifts", "rows", "told", "flat", "one"] ["table", "n", "shifts"] (defScope (top 39)) := ⟨rfl, rfl, rfl, by decide +kernel, rfl, by decide +kernel, by decide +kernel⟩
theorem sm_four {n : Nat} {l1 l2 l3 l4 : List Nat} (h1 : 1 ≤ n) (h2 : n ≤ 60) (g1 : Rl n l1) (g2 : Rl n l2) (g3 : Rl n l3) (g4 : Rl n l4) : Sm 2 15000 (.lst [.tup (ns l1), .tup (ns l2), .tup (ns l3), .tup (ns l4)]) :=
  Sm.lst ((Sms.cons (sm_rl h1 h2 g1) (Sms.cons (sm_rl h1 h2 g2) (Sms.cons (sm_rl h1 h2 g3) (Sms.cons (sm_rl h1 h2 g4) Sms.nil)))).le (Nat.le_refl _) (by decide))
theorem sm_small {x : Nat} (h : x ≤ 60) : Sm 0 6 (.int ((x : Nat) : Int)) := sm_nat (by decide) (by decide) (Nat.lt_of_lt_of_le (show x < 64 by omega) (by decide))
def rowsT (n : Nat) (x : Q4) : Da := .lst [.tup (ns (shN n x.p)), .tup (ns (shN n x.q)), .tup (ns (shN n x.r)), .tup (ns (shN n x.s))]
theorem rows_in {n : Nat} (h1 : 1 ≤ n) (h2 : n ≤ 60) (x : Q4) : RRows [.int n, q4D x] (rowsT n x) := ⟨n, x.l, h1, h2, by show 4 ≤ 1000; decide, rfl, rfl⟩
def flTo (n : Nat) (x : Q4) : Nat → List Nat
  | 0 => []
  | i + 1 => flTo n x i ++ shN n (x.l.getD i [])
theorem flTo_len (n : Nat) (x : Q4) : ∀ i, (flTo n x i).length = i * n
  | 0 => by simp [flTo]
  | i + 1 => by
    show (flTo n x i ++ _).length = _
    rw [List.length_append, flTo_len n x i, sh_len, Nat.succ_mul]
theorem ok_alike (B : Bl mg) (G : TabG P w K mg base a) (D : Def K mg "_law_alike" "_law_alike" (top 39) ["table", "n", "shifts"]) : FncG P w K mg base 9 "_law_alike" ["table", "n", "shifts"] (spD K (RAlike a.C)) := by
  refine fnc_g D sc_alike (fun ds d ⟨_, _, _, _, h, _⟩ => by rw [h]; rfl) fun X T S hr hgd ds d ⟨n, x, hn, hn2, h1, h2⟩ => ?_
  obtain ⟨rfl, rfl, rfl, rfl, rfl⟩ := T
  subst h1 h2
  have T0 := G.I.T
  refine q_asg S 3 (d_fn G.rows hr (a_cons (d_nm S 1 rfl) (a_cons (d_nm S 2 rfl) a_nil)) (rows_in hn hn2 x) (S.gl rfl)) ?_
  refine q_asgO S 4 (f_lst (a_cons (d_ll T0 (d_nm S 0 rfl)) (a_cons (d_lr T0 (d_nm S 0 rfl)) (a_cons (d_rl T0 (d_nm S 0 rfl)) (a_cons (d_rr T0 (d_nm S 0 rfl)) a_nil)))) (by show 4 ≤ 1000; decide)) ?_
  refine q_pub (i := 4) rfl ?_
  have smR : Sm 2 15000 (rowsT n x) := sm_four hn hn2 (sh_rl hn _) (sh_rl hn _) (sh_rl hn _) (sh_rl hn _)
  refine q_if (PW.pt (w_or (t_neS (d_repr (kdL _) smR (by decide) (by decide) hgd hr (S.gl rfl) B.repr (d_nm S 4 rfl)) (d_repr (kdL _) smR (by decide) (by decide) hgd hr (S.gl rfl) B.repr (d_nm S 3 rfl))) fun _ => w_or1 (t_neS (d_repr (kdI _) (sm_small hn2) (by decide) (by decide) hgd hr (S.gl rfl) B.repr (d_is (d_sts T0 (d_nm S 0 rfl)) (by show Da.int (((shN n x.p).length : Nat) : Int) = _; rw [sh_len]))) (d_repr (kdI _) (sm_small hn2) (by decide) (by decide) hgd hr (S.gl rfl) B.repr (d_nm S 1 rfl))))) (fun hb => by rw [decide_eq_true rfl, decide_eq_true rfl] at hb; cases hb) (fun _ => sd_nil ?_)
  refine q_asg S 5 (d_is (y := .tup (ns (flTo n x 0))) (d_tup a_nil (by decide)) rfl) ?_
  refine q_for S (i_list (d_nm S 3 rfl)) (fun i ρ => ∃ z, ρ = [.d (tn a.C (tq n x)), .d (.int n), .d (q4D x), .d (rowsT n x), .d (rowsT n x), .d (.tup (ns (flTo n x i))), z] ∧ z.isOwn = false) ⟨_, rfl, rfl⟩ (fun i ρ hi ⟨z, hρ, hz⟩ => ?_) (fun ρ ⟨z, hρ, hz⟩ => ?_)
  · subst hρ
    have hi4 : i < 4 := hi
    have e : ([Da.tup (ns (shN n x.p)), .tup (ns (shN n x.q)), .tup (ns (shN n x.r)), .tup (ns (shN n x.s))] : List Da).getD i .non = .tup (ns (shN n (x.l.getD i []))) := by
      rcases (show i = 0 ∨ i = 1 ∨ i = 2 ∨ i = 3 by omega) with rfl | rfl | rfl | rfl <;> rfl
    rw [e]
    refine ⟨_, g_nm S 6 (nz1 rfl hz), ?_⟩
    refine q_asg S 5 (d_catT (by rw [ns_len, ns_len, flTo_len, sh_len]; have : i * n ≤ 4 * 60 := Nat.mul_le_mul (by omega) hn2; omega) (d_nm S 5 rfl) (d_nm S 6 rfl)) (sd_nil ⟨.d (.tup (ns (shN n (x.l.getD i [])))), ?_, rfl⟩)
    show _ = [_, _, _, _, _, SV.d (.tup (ns (flTo n x i ++ shN n (x.l.getD i [])))), _]
    rw [ns_app]
    rfl
  · subst hρ
    obtain ⟨fd, F, hb⟩ := G.fla
    have ef : flatT (tq n x) = flTo n x 4 := rfl
    have smF : Sm 1 15000 (.tup (ns (flTo n x 4))) := (sm_nsT (b := 60) (by decide) (by decide) (fun y hy => by
      have hy : y ∈ shN n x.p ++ shN n x.q ++ shN n x.r ++ shN n x.s := hy
      have hle : 2 ^ n ≤ 2 ^ 60 := Nat.pow_le_pow_right (by decide) hn2
      have q : ∀ {S : List Nat}, y ∈ shN n S → y < 2 ^ 60 := fun h => Nat.lt_of_lt_of_le (rl_mem (sh_rl hn _) h) hle
      simp only [List.mem_append] at hy
      rcases hy with ((h | h) | h) | h
      · exact q h
      · exact q h
      · exact q h
      · exact q h)).le (Nat.le_refl _) (by rw [flTo_len]; omega)
    refine q_ret (d_eqS (d_repr (kdT _) smF (by decide) (by decide) hgd hr (S.gl rfl) B.repr (d_meth0 (E := E0) T0.cls T0.mF F pass0 (hr.mono (by decide)) hb rfl (d_nm S 0 rfl) ⟨n, tq n x, tq_ok hn hn2 x, rfl, by rw [ef]⟩)) (d_repr (kdT _) smF (by decide) (by decide) hgd hr (S.gl rfl) B.repr (d_nm S 5 rfl))) ?_
    show Da.bl (decide _) = Da.bl true
    rw [decide_eq_true rfl]
/-! ### _law_products -/
def RProds (ds : List Da) (d : Da) : Prop := ∃ (n : Nat) (x y : Q4), 1 ≤ n ∧ n ≤ 60 ∧ Q4s x ∧ Q4s y ∧ ds = [.int n, q4D x, q4D y] ∧ d = .bl true
theorem sc_prods : FnScope ["n", "one", "two", "left", "right", "due"] ["n", "one", "two"] (defScope (top 40)) := ⟨rfl, rfl, rfl, by decide +kernel, rfl, by decide +kernel, by decide +kernel⟩
theorem ok_prods (G : TabG P w K mg base a) (CP : Fnc P w K mg base CX0 4 "_law_product" ["n", "one", "two"] (spD K RProd)) (CA : FncG P w K mg base 9 "_law_alike" ["table", "n", "shifts"] (spD K (RAlike a.C))) (D : Def K mg "_law_products" "_law_products" (top 40) ["n", "one", "two"]) : FncG P w K mg base 10 "_law_products" ["n", "one", "two"] (spD K RProds) := by
  refine fnc_g D sc_prods (fun ds d ⟨_, _, _, _, _, _, _, h, _⟩ => by rw [h]; rfl) fun X T S hr hgd ds d ⟨n, x, y, hn, hn2, hx, hy, h1, h2⟩ => ?_
  obtain ⟨rfl, rfl, rfl, rfl, rfl⟩ := T
  subst h1 h2
  have tx := tq_ok hn hn2 x
  have ty := tq_ok hn hn2 y
  refine q_asg S 3 (d_fnX G.tab hr (a_cons (d_fn G.rows hr (a_cons (d_nm S 0 rfl) (a_cons (d_nm S 1 rfl) a_nil)) (rows_in hn hn2 x) (S.gl rfl)) a_nil) (tab_in tx) (S.gl rfl)) ?_
  refine q_asg S 4 (d_fnX G.tab hr (a_cons (d_fn G.rows hr (a_cons (d_nm S 0 rfl) (a_cons (d_nm S 2 rfl) a_nil)) (rows_in hn hn2 y) (S.gl rfl)) a_nil) (tab_in ty) (S.gl rfl)) ?_
  refine q_asg S 5 (d_fn CP hr (a_cons (d_nm S 0 rfl) (a_cons (d_nm S 1 rfl) (a_cons (d_nm S 2 rfl) a_nil))) ⟨n, x, y, hn, hn2, hx, hy, rfl, rfl⟩ (S.gl rfl)) ?_
  have al : ∀ z : Q4, RAlike a.C [tn a.C (tq n z), .int n, q4D z] (.bl true) := fun z => ⟨n, z, hn, hn2, rfl, rfl⟩
  refine q_if (PW.pt (w_or (t_not (t_val (d_fnG CA hr hgd (a_cons (d_nm S 3 rfl) (a_cons (d_nm S 0 rfl) (a_cons (d_nm S 1 rfl) a_nil))) (al x) (S.gl rfl)))) fun _ => w_or1 (t_not (t_val (d_fnG CA hr hgd (a_cons (d_is (d_tmul G hr tx ty (d_nm S 3 rfl) (d_nm S 4 rfl)) (by rw [tq_mul hn])) (a_cons (d_nm S 0 rfl) (a_cons (d_nm S 5 rfl) a_nil))) (al (prodQ n x y)) (S.gl rfl)))))) (fun hb => nomatch hb) (fun _ => sd_nil ?_)
  refine q_if (t_not (t_val (d_fnG CA hr hgd (a_cons (d_is (d_tmul G hr ty tx (d_nm S 4 rfl) (d_nm S 3 rfl)) (by rw [tq_mul hn])) (a_cons (d_nm S 0 rfl) (a_cons (d_fn CP hr (a_cons (d_nm S 0 rfl) (a_cons (d_nm S 2 rfl) (a_cons (d_nm S 1 rfl) a_nil))) ⟨n, y, x, hn, hn2, hy, hx, rfl, rfl⟩ (S.gl rfl)) a_nil))) (al (prodQ n y x)) (S.gl rfl)))) (fun hb => nomatch hb) (fun _ => sd_nil ?_)
  refine q_if (t_not (t_val (d_fnG CA hr hgd (a_cons (d_tinv G hr tx (d_nm S 3 rfl)) (a_cons (d_nm S 0 rfl) (a_cons (d_is (y := q4D (revQ x)) (f_d (f_revL (d_nm S 1 rfl))) rfl) a_nil))) (al (revQ x)) (S.gl rfl)))) (fun hb => nomatch hb) (fun _ => sd_nil ?_)
  have tm := mulT_ok tx ty
  refine q_if (t_not (t_val (d_fnG CA hr hgd (a_cons (d_is (y := tn a.C (tq n (revQ (prodQ n x y)))) (d_tinv G hr tm (d_tmul G hr tx ty (d_nm S 3 rfl) (d_nm S 4 rfl))) (by rw [tq_mul hn, tq_inv])) (a_cons (d_nm S 0 rfl) (a_cons (d_is (y := q4D (revQ (prodQ n x y))) (f_d (f_revL (d_nm S 5 rfl))) rfl) a_nil))) (al _) (S.gl rfl)))) (fun hb => nomatch hb) (fun _ => sd_nil ?_)
  refine q_ret (d_and (d_isB (d_teq G hr (invT_ok tm) (mulT_ok (invT_ok ty) (invT_ok tx)) (d_tinv G hr tm (d_tmul G hr tx ty (d_nm S 3 rfl) (d_nm S 4 rfl))) (d_tmul G hr (invT_ok ty) (invT_ok tx) (d_tinv G hr ty (d_nm S 4 rfl)) (d_tinv G hr tx (d_nm S 3 rfl)))) d_bl) fun _ => d_one (d_isB (d_teq G hr (invT_ok (invT_ok tx)) tx (d_tinv G hr (invT_ok tx) (d_tinv G hr tx (d_nm S 3 rfl))) (d_nm S 3 rfl)) d_bl)) ?_
  rw [inv_mul tx ty, eqT_self]
  show Da.bl (decide (true = true) && decide (eqT (tq n x) (tq n x) = true)) = Da.bl true
  rw [eqT_self]
  rfl
end
end K11
end
section
set_option Elab.async false
set_option linter.all false
set_option maxRecDepth 100000
namespace K11
open PySem PySem.Spec PyProof.Rows L2 Wv Km
/-! ### one bit exchanged -/
def flipB (l : List Nat) (i b : Nat) : List Nat := l.set i (l.getD i 0 ^^^ 2 ^ b)
section
variable {n i b : Nat} {l : List Nat}
theorem flipB_bit (hl : Rl n l) (hi : i < n) {x j : Nat} : ((flipB l i b).getD x 0).testBit j = if x = i then ((l.getD i 0).testBit j != decide (b = j)) else (l.getD x 0).testBit j := by
  unfold flipB
  rw [getD_set (by rw [hl.len]; exact hi)]
  split
  · rw [Nat.testBit_xor, Nat.testBit_two_pow]
  · rfl
theorem flipB_rl (hl : Rl n l) (hi : i < n) (hb : b < n) : Rl n (flipB l i b) := ⟨by unfold flipB; rw [List.length_set, hl.len], fun x hx => lt_of_bits fun j hj => by
  rw [flipB_bit hl hi] at hj
  split at hj
  · by_cases e : b = j
    · omega
    · rw [decide_eq_false e] at hj
      have : (l.getD i 0).testBit j = true := by simpa using hj
      exact (hl.bit this).2
  · exact (hl.bit hj).2⟩
theorem flipB_in (hl : Rl n l) (hi : i < n) (hb : b < n) : liesN (flipB l i b) l = (l.getD i 0).testBit b := by
  rw [Bool.eq_iff_iff, lies_iff (flipB_rl hl hi hb)]
  constructor
  · intro h
    cases q : (l.getD i 0).testBit b with
    | true => rfl
    | false =>
      have := h i b (by rw [flipB_bit hl hi, if_pos rfl, q, decide_eq_true rfl]; rfl)
      rw [q] at this
      cases this
  · intro h x j hj
    rw [flipB_bit hl hi] at hj
    split at hj
    · rename_i e
      subst e
      by_cases e : b = j
      · subst e
        exact h
      · rw [decide_eq_false e] at hj
        simpa using hj
    · exact hj
theorem flipB_of (hl : Rl n l) (hi : i < n) (hb : b < n) : liesN l (flipB l i b) = !(l.getD i 0).testBit b := by
  rw [Bool.eq_iff_iff, lies_iff hl]
  constructor
  · intro h
    cases q : (l.getD i 0).testBit b with
    | false => rfl
    | true =>
      have := h i b q
      rw [flipB_bit hl hi, if_pos rfl, q, decide_eq_true rfl] at this
      cases this
  · intro h x j hj
    rw [flipB_bit hl hi]
    split
    · rename_i e
      subst e
      by_cases e : b = j
      · subst e
        rw [hj] at h
        cases h
      · rw [decide_eq_false e, hj]
        rfl
    · exact hj
theorem flipB_ne (hl : Rl n l) (hi : i < n) (hb : b < n) : flipB l i b ≠ l := fun h => by
  have h1 := flipB_in hl hi hb
  have h2 := flipB_of hl hi hb
  rw [h] at h1 h2
  rw [h1] at h2
  cases q : (l.getD i 0).testBit b <;> rw [q] at h2 <;> cases h2
end
theorem lies_self {n : Nat} {l : List Nat} (h : Rl n l) : liesN l l = true := (lies_iff h).mpr fun _ _ q => q
def tbL (L : List (List Nat)) : Tb := ⟨L.getD 0 [], L.getD 1 [], L.getD 2 [], L.getD 3 []⟩
structure L4 (n : Nat) (L : List (List Nat)) : Prop where
  n1 : 1 ≤ n
  n2 : n ≤ 60
  len : L.length = 4
  rl : ∀ l ∈ L, Rl n l
theorem L4.get {n : Nat} {L : List (List Nat)} (h : L4 n L) {k : Nat} (hk : k < 4) : Rl n (L.getD k []) := by
  rw [List.getD_eq_getElem?_getD, List.getElem?_eq_getElem (by rw [h.len]; exact hk)]
  exact h.rl _ (List.getElem_mem _)
theorem L4.ok {n : Nat} {L : List (List Nat)} (h : L4 n L) : TbOk n (tbL L) := ⟨h.n1, h.n2, h.get (by decide), h.get (by decide), h.get (by decide), h.get (by decide)⟩
theorem L4.set {n : Nat} {L : List (List Nat)} (h : L4 n L) {k : Nat} {m : List Nat} (hm : Rl n m) : L4 n (L.set k m) := ⟨h.n1, h.n2, by rw [List.length_set, h.len], fun l hl => by
  rcases List.mem_or_eq_of_mem_set hl with q | q
  · exact h.rl l q
  · rw [q]
    exact hm⟩
theorem list4 {α : Type} {L : List α} (h : L.length = 4) : ∃ a b c d, L = [a, b, c, d] := by
  match L, h with
  | [a, b, c, d], _ => exact ⟨a, b, c, d, rfl⟩
theorem eq_set {n : Nat} {L : List (List Nat)} (h : L4 n L) {k : Nat} (hk : k < 4) {m : List Nat} (hm : m ≠ L.getD k []) : eqT (tbL L) (tbL (L.set k m)) = false ∧ eqT (tbL (L.set k m)) (tbL L) = false := by
  obtain ⟨a, b, c, d, rfl⟩ := list4 h.len
  rcases (show k = 0 ∨ k = 1 ∨ k = 2 ∨ k = 3 by omega) with rfl | rfl | rfl | rfl
  · have hm : m ≠ a := hm
    have hm2 : a ≠ m := Ne.symm hm
    simp [eqT, tbL, hm, hm2]
  · have hm : m ≠ b := hm
    have hm2 : b ≠ m := Ne.symm hm
    simp [eqT, tbL, hm, hm2]
  · have hm : m ≠ c := hm
    have hm2 : c ≠ m := Ne.symm hm
    simp [eqT, tbL, hm, hm2]
  · have hm : m ≠ d := hm
    have hm2 : d ≠ m := Ne.symm hm
    simp [eqT, tbL, hm, hm2]
theorem lie_set {n : Nat} {L : List (List Nat)} (h : L4 n L) {k : Nat} (hk : k < 4) (m : List Nat) : lieT (tbL L) (tbL (L.set k m)) = liesN (L.getD k []) m ∧ lieT (tbL (L.set k m)) (tbL L) = liesN m (L.getD k []) := by
  have g0 := lies_self (h.get (show 0 < 4 by decide))
  have g1 := lies_self (h.get (show 1 < 4 by decide))
  have g2 := lies_self (h.get (show 2 < 4 by decide))
  have g3 := lies_self (h.get (show 3 < 4 by decide))
  obtain ⟨a, b, c, d, rfl⟩ := list4 h.len
  have g0 : liesN a a = true := g0
  have g1 : liesN b b = true := g1
  have g2 : liesN c c = true := g2
  have g3 : liesN d d = true := g3
  rcases (show k = 0 ∨ k = 1 ∨ k = 2 ∨ k = 3 by omega) with rfl | rfl | rfl | rfl <;> simp [lieT, tbL, g0, g1, g2, g3]
theorem lie_self {n : Nat} {x : Tb} (h : TbOk n x) : lieT x x = true := by
  unfold lieT
  rw [lies_self h.ll, lies_self h.lr, lies_self h.rl, lies_self h.rr]
  rfl
def rowsL (L : List (List Nat)) : List Da := L.map fun l => .tup (ns l)
theorem rowsL_get {L : List (List Nat)} {k : Nat} (h : k < L.length) : (rowsL L)[k]? = some (.tup (ns (L.getD k []))) := by
  simp [rowsL, List.getD_eq_getElem?_getD, h]
theorem put_at {α : Type} (ds : List α) (k : Nat) (x : α) (h : k < ds.length) : ds.take k ++ [x] ++ ds.drop (k + 1) = ds.set k x := by
  rw [List.set_eq_take_append_cons_drop, if_pos h, List.append_assoc]
  rfl
section
variable {P : Program} {w : World} {K : PySem.W.Frag} {mg : Str → Option Value} {base : Heap} {a : Adr}
theorem tab_inL {n : Nat} {L : List (List Nat)} (h : L4 n L) : RTab a.C [.lst (rowsL L)] (some (tn a.C (tbL L))) := by
  have ok := h.ok
  obtain ⟨x, y, z, u, rfl⟩ := list4 h.len
  exact tab_in ok
section
variable {X : Cx} {ρ ρ1 ρ2 ρ3 : List SV} {e1 e2 e3 e4 e5 : Expr} {pos p1 p2 p3 p4 : Pos} {ds : List Da} {x : Da} {k kk n m : Nat} {s t : Tb}
/-- rows[:k] + [x] + rows[k + 1:] -/
theorem f_put (hk : k < ds.length) (hz : ds.length ≤ 1000) (h1 : ED X e1 ρ ρ (.lst ds)) (h2 : ED X e2 ρ ρ (.int (k : Int))) (h3 : ED X e3 ρ ρ x) (h4 : ED X e4 ρ ρ (.lst ds)) (h5 : ED X e5 ρ ρ (.int (k : Int))) (hs : starEach [e3] X.env = (false, eval e3 X.env) :: starEach [] X.env := by rfl) :
    FD X (.BinOp (.BinOp (.Subscript e1 (.Slice none (some e2) none p1) p2) .Add (.List [e3] p3) p4) .Add (.Subscript e4 (.Slice (some (.BinOp e5 .Add (.Constant (.int 1) kk q1) q2)) none none q3) q4) pos) ρ ρ (ds.set k x) :=
  f_is (f_cat (by
    rw [cutD_to, cutD_from]
    simp only [List.length_append, List.length_take, List.length_drop, List.length_cons, List.length_nil]
    omega) (f_d (f_cat (by
    rw [cutD_to]
    simp only [List.length_take, List.length_cons, List.length_nil]
    omega) (f_d (f_slL h1 o_none (o_some h2))) (f_d (f_lst (a_cons h3 a_nil hs) (by show 1 ≤ 1000; decide))))) (f_d (f_slL h4 (o_some (d_addN h5 d_n1)) o_none))) (by
    rw [cutD_to, cutD_from]
    exact put_at ds k x hk)
theorem d_tlie {apos : Pos} {pl : Sem Bool} (G : TabG X.prog X.w X.K X.mg X.base a) (hr : Room k X.A) (hx : TbOk n s) (hy : TbOk n t) (h1 : ED X e1 ρ ρ1 (tn a.C s)) (h2 : ED X e2 ρ1 ρ2 (tn a.C t)) (hk : 8 ≤ k := by decide)
    (hst : starEach [e2] X.env = (false, eval e2 X.env) :: starEach [] X.env := by rfl)
    (ht : eval (.Call (.Attribute e1 "lies_in" apos) [e2] [] pos) X.env = (do
      let ov ← eval e1 X.env
      standAt apos.atName
      let (f, first) ← holding [ov] (getMethod ov "lies_in" pl)
      callWith pos f first (backTo pos (starEach [e2] X.env)) (backToKw pos (keywordEach [] X.env))) := by rfl) : ED X (.Call (.Attribute e1 "lies_in" apos) [e2] [] pos) ρ ρ2 (.bl (lieT s t)) := by
  obtain ⟨fd, F, hb⟩ := G.lie
  exact d_meth (E := E0) G.I.T.cls G.I.T.mL F pass0 (hr.mono hk) hb rfl h1 (a_cons h2 a_nil hst) ⟨n, s, t, hx, hy, rfl, rfl⟩ hst (by rfl) ht
end
end
end K11
end
section
set_option Elab.async false
set_option linter.all false
set_option maxRecDepth 100000
set_option maxHeartbeats 4000000
namespace K11
open PySem PySem.Spec PyProof.Rows L2 Wv Km
section
variable {P : Program} {w : World} {K : PySem.W.Frag} {mg : Str → Option Value} {base : Heap} {a : Adr}
/-- the classes that _law_bad names -/
structure BF (K : PySem.W.Frag) (mg : Str → Option Value) (a : Adr) (Ai As At : Addr) : Prop where
  gI : mg "BadItem" = some (.ref Ai)
  gS : mg "BadState" = some (.ref As)
  gT : mg "TooLong" = some (.ref At)
  no : PySem.W.kitAny K (.ref a.Cb) [.ref Ai, .ref As, .ref At] = some false
  E : ExcC K a.Cb
  m : PySem.W.exmOne K (.ref a.Cb) (.ref a.Cb) = some true
def RBad (ds : List Da) (d : Da) : Prop := ∃ l1 l2 l3 l4 : List Int, l1.length ≤ 1000 ∧ l2.length ≤ 1000 ∧ l3.length ≤ 1000 ∧ l4.length ≤ 1000 ∧ ds = [.lst [.tup (is l1), .tup (is l2), .tup (is l3), .tup (is l4)]] ∧ d = .bl (!okI l1 l2 l3 l4)
theorem sc_bad : FnScope ["rows", "e"] ["rows"] (defScope (top 42)) := ⟨rfl, rfl, rfl, by decide +kernel, rfl, by decide +kernel, by decide +kernel⟩
theorem ok_bad (B : Bl mg) (G : TabG P w K mg base a) {Ai As At : Addr} (F : BF K mg a Ai As At) (D : Def K mg "_law_bad" "_law_bad" (top 42) ["rows"]) : Fnc P w K mg base CX0 9 "_law_bad" ["rows"] (spD K RBad) := by
  refine fnc_t D sc_bad (fun ds d ⟨_, _, _, _, _, _, _, _, h, _⟩ => by rw [h]; rfl) fun X T S hr hst hfr ds d ⟨l1, l2, l3, l4, n1, n2, n3, n4, h1, h2⟩ => ?_
  obtain ⟨rfl, rfl, rfl, rfl, rfl⟩ := T
  subst h1 h2
  refine q_tryX S 1 hst hfr (C := a.Cb) (v := .bl true) (d := .bl true) (cs := [.ref Ai, .ref As, .ref At]) (fun _ => .bl true) (by rw [Env.kindOf, S.s]; rfl) ⟨S.gl rfl, by decide, .inl G.I.T.gB⟩ F.m (fun x oe pn hz hv => ?_) fun W pn xe tk S2 => ?_
  · have hgl : ∀ {y : Str}, (defScope (top 42)).names.lookup y = some .globalImplicit → Gl (X.suite x ((x, oe) :: pn)) y := fun {y} h => S.gl h
    refine pss_imp (pss_cons (ps_ret (pe_not (pe_callB (call_isET F.E hz hv) (hgl rfl) B.isinstance (by decide +kernel) (pa_cons (pe_var (i := 1) (by show X.N[1]? = _; rw [S.n]; rfl) (by show Vis X.env.scope _; rw [S.s]; exact Or.inl rfl)) (pa_cons (pe_tup (pa_cons (pe_glob (v := .ref Ai) (hgl rfl) F.gI rfl) (pa_cons (pe_glob (v := .ref As) (hgl rfl) F.gS rfl) (pa_cons (pe_glob (v := .ref At) (hgl rfl) F.gT rfl) pa_nil)))) pa_nil))))) pss_nil) fun Dn σ H h => ?_
    obtain ⟨h1, h2⟩ := h
    refine ⟨.ref x, h1, by show 3 ≤ sizeLine; rw [sizeLine_eq]; decide, fun q hq => ?_⟩
    exact ⟨q, _, _, false, rfl, upd_same, .cons (.own _) (.cons (.own _) (.cons (.own _) .nil)), F.no, false, rfl, h2 q hq⟩
  · cases hok : okI l1 l2 l3 l4 with
    | true => exact q_drop (d_fnX G.tab (k := 8) hr (a_cons (d_nm S2 0 rfl) a_nil) ⟨l1, l2, l3, l4, n1, n2, n3, n4, rfl, by rw [if_pos hok]⟩ (S2.gl rfl)) (sd_nil (q_ret d_bl rfl))
    | false => exact q_exprN (n_fnX G.tab tk (k := 8) hr (a_cons (d_nm S2 0 rfl) a_nil) ⟨l1, l2, l3, l4, n1, n2, n3, n4, rfl, by rw [if_neg (by rw [hok]; exact Bool.false_ne_true)]⟩ (S2.gl rfl)) ⟨rfl, by show 1 < 2; decide, rfl⟩
/-! ### _law_equals -/
def eqS (n : Nat) (s : Stt) : Nat → Stt
  | 0 => s
  | k + 1 => nxt (nxt (eqS n s k) n) n
def REqu (ms ds : List Da) (d : Da) (ms' : List Da) : Prop := ∃ (s : Stt) (n : Nat) (x : Q4), 1 ≤ n ∧ n ≤ 60 ∧ ms = stD s ∧ ds = [.int n, q4D x] ∧ d = .bl true ∧ ms' = stD (eqS n s 4)
theorem sc_equ : FnScope ["state", "n", "shifts", "rows", "table", "same", "k", "at", "bit", "masks", "had", "made", "told"] ["state", "n", "shifts"] (defScope (top 41)) := ⟨rfl, rfl, rfl, by decide +kernel, rfl, by decide +kernel, by decide +kernel⟩
theorem shown_ff : (toP (.lst [.bl false, .bl false])).shown = Str.ofString "[False, False]" := by
  simp only [toP, toPs]
  decide +kernel
theorem sm_bls : ∀ l : List Bool, Sms 1 l.length (l.map Da.bl)
  | [] => Sms.nil
  | b :: l => (Sms.cons (sm_bl (b := b)) (sm_bls l)).le (Nat.le_refl _) (by rw [List.length_cons]; omega)
theorem and_pow (x b : Nat) : (!decide (x &&& 2 ^ b = 0)) = x.testBit b := by
  cases q : x.testBit b with
  | true =>
    have : x &&& 2 ^ b ≠ 0 := fun h => by
      have h2 : (x &&& 2 ^ b).testBit b = true := by rw [Nat.testBit_and, q, Nat.testBit_two_pow, decide_eq_true rfl]; rfl
      rw [h, Nat.zero_testBit] at h2
      cases h2
    rw [decide_eq_false this]
    rfl
  | false =>
    have : x &&& 2 ^ b = 0 := bit_ext fun j => by
      rw [Nat.testBit_and, Nat.testBit_two_pow, Nat.zero_testBit]
      by_cases e : b = j
      · subst e
        rw [q]
        simp
      · rw [decide_eq_false e, Bool.and_false]
    rw [decide_eq_true this]
    rfl
def rowsQ (n : Nat) (x : Q4) : List (List Nat) := [shN n x.p, shN n x.q, shN n x.r, shN n x.s]
theorem rowsQ_ok {n : Nat} (h1 : 1 ≤ n) (h2 : n ≤ 60) (x : Q4) : L4 n (rowsQ n x) := ⟨h1, h2, rfl, fun l hl => by
  unfold rowsQ at hl
  simp only [List.mem_cons, List.not_mem_nil, or_false] at hl
  rcases hl with rfl | rfl | rfl | rfl <;> exact sh_rl h1 _⟩
theorem ok_equ (B : Bl mg) (G : TabG P w K mg base a) (CT : Fnc P w K mg base CX0 2 "_law_take" ["state", "m"] (spM K RTake)) (D : Def K mg "_law_equals" "_law_equals" (top 41) ["state", "n", "shifts"]) : FncG P w K mg base 10 "_law_equals" ["state", "n", "shifts"] (spM K REqu) := by
  refine fnc_mg D sc_equ (fun ms ds d ms' ⟨_, _, _, _, _, _, h, _⟩ => by rw [h]; rfl) fun X T S hr hgd ms ds d ms' ⟨s, n, x, hn, hn2, h1, h2, h3, h4⟩ => ?_
  obtain ⟨rfl, rfl, rfl, rfl, rfl⟩ := T
  subst h1 h2 h3 h4
  have L := rowsQ_ok hn hn2 x
  have tx : TbOk n (tbL (rowsQ n x)) := L.ok
  refine q_asg S 3 (d_is (y := .lst (rowsL (rowsQ n x))) (d_fn G.rows hr (a_cons (d_nm S 1 rfl) (a_cons (d_nm S 2 rfl) a_nil)) (rows_in hn hn2 x) (S.gl rfl)) rfl) ?_
  refine q_asg S 4 (d_fnX G.tab hr (a_cons (d_nm S 3 rfl) a_nil) (tab_inL L) (S.gl rfl)) ?_
  refine q_asg S 5 (d_fnX G.tab hr (a_cons (d_is (y := .lst (rowsL (rowsQ n x))) (d_fn G.rows hr (a_cons (d_nm S 1 rfl) (a_cons (d_nm S 2 rfl) a_nil)) (rows_in hn hn2 x) (S.gl rfl)) rfl) a_nil) (tab_inL L) (S.gl rfl)) ?_
  refine q_if (PW.pt (w_or (t_notB (d_is (y := .bl true) (d_teq G hr tx tx (d_nm S 4 rfl) (d_nm S 5 rfl)) (by rw [eqT_self])) d_bl) fun _ => w_or1 (t_notB (d_is (y := .bl true) (d_teq G hr tx tx (d_nm S 5 rfl) (d_nm S 4 rfl)) (by rw [eqT_self])) d_bl))) (fun hb => nomatch hb) (fun _ => sd_nil ?_)
  generalize rowsQ n x = R at L tx ⊢
  refine q_for S (d_range (m := 4) (S.gl rfl) B.range d_int (by decide)) (fun k ρ => ∃ z1 z2 z3 z4 z5 z6 z7, ρ = [.own (.l (stD (eqS n s k))), .d (.int n), .d (q4D x), .d (.lst (rowsL R)), .d (tn a.C (tbL R)), .d (tn a.C (tbL R)), z1, z2, z3, z4, z5, z6, z7] ∧ z1.isOwn = false ∧ z2.isOwn = false ∧ z3.isOwn = false ∧ z4.isOwn = false ∧ z5.isOwn = false ∧ z6.isOwn = false ∧ z7.isOwn = false) ⟨_, _, _, _, _, _, _, rfl, rfl, rfl, rfl, rfl, rfl, rfl, rfl⟩ (fun k ρ hk ⟨z1, z2, z3, z4, z5, z6, z7, hρ, g1, g2, g3, g4, g5, g6, g7⟩ => ?_) (fun ρ ⟨z1, z2, z3, z4, z5, z6, z7, hρ, _⟩ => ?_)
  · subst hρ
    have es : eqS n s (k + 1) = nxt (nxt (eqS n s k) n) n := rfl
    generalize eqS n s k = s0 at es ⊢
    have hi := dig_lt s0 (show 0 < n by omega)
    have hb := dig_lt (nxt s0 n) (show 0 < n by omega)
    have tk : ∀ s : Stt, RTake (stD s) [.int n] (.int ((dig s n : Nat) : Int)) (stD (nxt s n)) := fun s => ⟨s, n, by omega, by omega, rfl, rfl, rfl, rfl⟩
    have hm := L.get hk
    have hget := rowsL_get (L := R) (k := k) (by rw [L.len]; exact hk)
    refine ⟨_, g_nm S 6 (nz1 rfl g1), ?_⟩
    refine q_asg S 7 (d_fnM S 0 CT hr rfl (a_cons (d_nm S 1 rfl) a_nil) rfl (tk s0) (S.gl rfl)) (hn := nz1 rfl g2) ?_
    refine q_asg S 8 (d_oneN (by omega) (d_fnM S 0 CT hr rfl (a_cons (d_nm S 1 rfl) a_nil) rfl (tk (nxt s0 n)) (S.gl rfl))) (hn := nz1 rfl g3) ?_
    generalize dig s0 n = i at hi ⊢
    generalize dig (nxt s0 n) n = b at hb ⊢
    refine q_asgO S 9 (f_listT (S.gl rfl) B.list (d_ixL hget (d_nm S 3 rfl) (d_nm S 6 rfl))) (hn := nz1 rfl g4) ?_
    have hgl : (ns (R.getD k []))[i]? = some (.int (((R.getD k []).getD i 0 : Nat) : Int)) := ns_get (getD_some (by rw [hm.len]; exact hi))
    refine q_asg S 10 (d_is (d_neN (d_andN (d_ixO S 9 rfl hgl (d_nm S 7 rfl)) (d_nm S 8 rfl)) d_n0) (congrArg Da.bl (and_pow _ _))) (hn := nz1 rfl g5) ?_
    refine q_setL S 9 (d_xorN (d_ixO S 9 rfl hgl (d_nm S 7 rfl)) (d_nm S 8 rfl)) (d_nm S 7 rfl) rfl rfl (by rw [ns_len, hm.len]; exact hi) ?_
    rw [ns_set]
    refine q_pub (i := 9) rfl ?_
    have hf := flipB_rl hm hi hb
    have L2 := L.set (k := k) hf
    have e1 : (rowsL R).set k (.tup (ns (flipB (R.getD k []) i b))) = rowsL (R.set k (flipB (R.getD k []) i b)) := by
      unfold rowsL
      rw [List.map_set]
    refine q_asg S 11 (d_fnX G.tab hr (a_cons (d_is (y := .lst (rowsL (R.set k (flipB (R.getD k []) i b)))) (f_d (f_put (ds := rowsL R) (x := .tup (ns (flipB (R.getD k []) i b))) (by unfold rowsL; rw [List.length_map, L.len]; exact hk) (by unfold rowsL; rw [List.length_map, L.len]; decide) (d_nm S 3 rfl) (d_nm S 6 rfl) (d_tuple (S.gl rfl) B.tuple (d_nm S 9 rfl)) (d_nm S 3 rfl) (d_nm S 6 rfl))) (by rw [e1])) a_nil) (tab_inL L2) (S.gl rfl)) (hn := nz1 rfl g6) ?_
    have t2 := L2.ok
    obtain ⟨q1, q2⟩ := eq_set L hk (flipB_ne hm hi hb)
    obtain ⟨q3, q4⟩ := lie_set L hk (flipB (R.getD k []) i b)
    rw [flipB_of hm hi hb] at q3
    rw [flipB_in hm hi hb] at q4
    generalize ((R.getD k []).getD i 0).testBit b = had at q3 q4 ⊢
    generalize tbL (R.set k (flipB (R.getD k []) i b)) = made at q1 q2 q3 q4 t2 ⊢
    have smF : Sm 2 2 (.lst [.bl false, .bl false]) := Sm.lst (sm_bls [false, false])
    refine q_if (t_neS (d_repr (kdL _) smF (by decide) (by decide) hgd hr (S.gl rfl) B.repr (f_d (f_lst (a_cons (d_is (d_teq G hr tx t2 (d_nm S 4 rfl) (d_nm S 11 rfl)) (congrArg Da.bl q1)) (a_cons (d_is (d_teq G hr t2 tx (d_nm S 11 rfl) (d_nm S 4 rfl)) (congrArg Da.bl q2)) a_nil)) (by show 2 ≤ 1000; decide)))) d_str) (fun hb => by rw [decide_eq_true shown_ff] at hb; cases hb) (fun _ => sd_nil ?_)
    refine q_asgO S 12 (f_lst (a_cons (d_is (d_tlie G hr t2 tx (d_nm S 11 rfl) (d_nm S 4 rfl)) (congrArg Da.bl q4)) (a_cons (d_is (d_tlie G hr tx t2 (d_nm S 4 rfl) (d_nm S 11 rfl)) (congrArg Da.bl q3)) a_nil)) (by show 2 ≤ 1000; decide)) (hn := nz1 rfl g7) ?_
    refine q_push S 12 (d_is (y := .bl true) (d_tlie G hr tx tx (d_nm S 4 rfl) (d_nm S 5 rfl)) (by rw [lie_self tx])) rfl rfl (by show 2 < 1000000; decide) ?_
    refine q_pub (i := 12) rfl ?_
    have smB : Sm 2 3 (.lst [.bl had, .bl (!had), .bl true]) := Sm.lst (sm_bls [had, !had, true])
    refine q_if (t_neS (d_repr (kdL _) smB (by decide) (by decide) hgd hr (S.gl rfl) B.repr (d_nm S 12 rfl)) (d_repr (kdL _) smB (by decide) (by decide) hgd hr (S.gl rfl) B.repr (f_d (f_lst (a_cons (d_nm S 10 rfl) (a_cons (d_not (d_nm S 10 rfl)) (a_cons d_bl a_nil))) (by show 3 ≤ 1000; decide))))) (fun hb => by rw [decide_eq_true rfl] at hb; cases hb) (fun _ => sd_nil (sd_nil ?_))
    rw [es]
    exact ⟨.d (.int ((k : Nat) : Int)), .d (.int ((i : Nat) : Int)), .d (.int ((2 ^ b : Nat) : Int)), .d (.lst (ns (flipB (R.getD k []) i b))), .d (.bl had), .d (tn a.C made), .d (.lst [.bl had, .bl (!had), .bl true]), rfl, rfl, rfl, rfl, rfl, rfl, rfl, rfl⟩
  · subst hρ
    exact q_ret d_bl ⟨rfl, rfl⟩
end
end K11
end
section
set_option Elab.async false
set_option linter.all false
set_option maxRecDepth 100000
set_option maxHeartbeats 4000000
namespace K11
open PySem PySem.Spec PyProof.Rows L2 Wv Km
section
variable {P : Program} {w : World} {K : PySem.W.Frag} {mg : Str → Option Value} {base : Heap} {a : Adr}
/-! ### _law_bads -/
def isL (Z : List (List Int)) : List Da := Z.map fun l => .tup (is l)
def okZ (Z : List (List Int)) : Bool := okI (Z.getD 0 []) (Z.getD 1 []) (Z.getD 2 []) (Z.getD 3 [])
theorem bad_in {Z : List (List Int)} (h : Z.length = 4) (hl : ∀ l ∈ Z, l.length ≤ 1000) : RBad [.lst (isL Z)] (.bl (!okZ Z)) := by
  obtain ⟨x, y, z, u, rfl⟩ := list4 h
  exact ⟨x, y, z, u, hl x (by simp), hl y (by simp), hl z (by simp), hl u (by simp), rfl, rfl⟩
theorem rowsL_is (R : List (List Nat)) : rowsL R = isL (R.map zs) := by
  unfold rowsL isL
  rw [List.map_map]
  refine List.map_congr_left fun l _ => ?_
  show Da.tup (ns l) = Da.tup (is (zs l))
  rw [ns_zs]
theorem good_len {l : List Int} {n : Nat} (h : l.length ≠ n) : goodB l n = false := by
  unfold goodB
  rw [decide_eq_false h, Bool.false_and]
theorem okI_bad {o b c d : List Int} {n : Nat} (ho : goodB o n = false) (hb : b.length = n) : okI o b c d = false ∧ okI b o c d = false ∧ okI b c o d = false ∧ okI b c d o = false := by
  refine ⟨?_, ?_, ?_, ?_⟩
  · unfold okI
    by_cases e : o.length = n
    · rw [e, ho]
      simp
    · rw [good_len (l := b) (n := o.length) (by omega)]
      simp
  · unfold okI
    rw [hb, ho]
    simp
  · unfold okI
    rw [hb, ho]
    simp
  · unfold okI
    rw [hb, ho]
    simp
theorem okZ_bad {n : Nat} {R : List (List Nat)} (h : L4 n R) {k : Nat} (hk : k < 4) {o : List Int} (ho : goodB o n = false) : okZ ((R.map zs).set k o) = false := by
  have e : ∀ {i : Nat}, i < 4 → (zs (R.getD i [])).length = n := fun {i} hi => by rw [zs_len]; exact (h.get hi).len
  have e0 := e (i := 0) (by decide)
  have e1 := e (i := 1) (by decide)
  obtain ⟨x, y, z, u, rfl⟩ := list4 h.len
  have e0 : (zs x).length = n := e0
  have e1 : (zs y).length = n := e1
  rcases (show k = 0 ∨ k = 1 ∨ k = 2 ∨ k = 3 by omega) with rfl | rfl | rfl | rfl
  · exact (okI_bad ho e1).1
  · exact (okI_bad ho e0).2.1
  · exact (okI_bad ho e0).2.2.1
  · exact (okI_bad ho e0).2.2.2
theorem okZ_good {n : Nat} {R : List (List Nat)} (h : L4 n R) : okZ (R.map zs) = true := by
  have ok := h.ok
  obtain ⟨x, y, z, u, rfl⟩ := list4 h.len
  exact ok_zs ok
theorem bad_at {n i : Nat} {l : List Int} {x : Int} (hl : l.length = n) (hi : i < n) (hx : goodX n x = false) : goodB (l.set i x) n = false := by
  unfold goodB
  have : (l.set i x).all (goodX n) = false := by
    rw [List.all_eq_false]
    exact ⟨x, List.mem_of_getElem? (List.getElem?_set_self (by rw [hl]; exact hi)), by rw [hx]; exact Bool.false_ne_true⟩
  rw [this, Bool.and_false]
theorem gx_neg (n : Nat) : goodX n (-1) = false := by
  unfold goodX
  rw [decide_eq_false (by decide), Bool.false_and]
theorem gx_pow (n : Nat) : goodX n ((2 ^ n : Nat) : Int) = false := by
  unfold goodX
  have e : (((2 ^ n : Nat) : Int) / 2 ^ n) = 1 := by
    have h : ((2 : Int) ^ n) = ((2 ^ n : Nat) : Int) := by push_cast; rfl
    rw [h]
    exact Int.ediv_self (by have := Nat.two_pow_pos n; omega)
  rw [e, decide_eq_false (by decide : ¬ (1 : Int) = 0), Bool.and_false]
section
variable {X : Cx} {ρ : List SV} {e1 e2 e3 e4 e5 : Expr} {pos p1 p2 p3 p4 q1 q2 q3 q4 : Pos} {ds : List Da} {x : Da} {k kk k3 : Nat}
theorem d_putT (hk : k < ds.length) (hz : ds.length ≤ 1000) (h1 : ED X e1 ρ ρ (.tup ds)) (h2 : ED X e2 ρ ρ (.int (k : Int))) (h3 : ED X e3 ρ ρ x) (h4 : ED X e4 ρ ρ (.tup ds)) (h5 : ED X e5 ρ ρ (.int (k : Int))) (hs : starEach [e3] X.env = (false, eval e3 X.env) :: starEach [] X.env := by rfl) :
    ED X (.BinOp (.BinOp (.Subscript e1 (.Slice none (some e2) none p1) p2) .Add (.Tuple [e3] k3 p3) p4) .Add (.Subscript e4 (.Slice (some (.BinOp e5 .Add (.Constant (.int 1) kk q1) q2)) none none q3) q4) pos) ρ ρ (.tup (ds.set k x)) :=
  d_is (d_catT (by
    rw [cutD_to, cutD_from]
    simp only [List.length_append, List.length_take, List.length_drop, List.length_cons, List.length_nil]
    omega) (d_catT (by
    rw [cutD_to]
    simp only [List.length_take, List.length_cons, List.length_nil]
    omega) (d_slT h1 o_none (o_some h2)) (d_tup (a_cons h3 a_nil hs) (by show 1 ≤ 1000; decide))) (d_slT h4 (o_some (d_addN h5 d_n1)) o_none)) (by
    rw [cutD_to, cutD_from, put_at ds k x hk])
end
def RBads (ms ds : List Da) (d : Da) (ms' : List Da) : Prop := ∃ (s : Stt) (n : Nat) (x : Q4), 1 ≤ n ∧ n ≤ 60 ∧ ms = stD s ∧ ds = [.int n, q4D x] ∧ d = .bl true ∧ ms' = stD (nxt s n)
theorem sc_bads : FnScope ["state", "n", "shifts", "rows", "at", "k", "masks", "odd", "one", "great"] ["state", "n", "shifts"] (defScope (top 43)) := ⟨rfl, rfl, rfl, by decide +kernel, rfl, by decide +kernel, by decide +kernel⟩
theorem okI_61 : okI (zs (idN 61)) (zs (idN 61)) (zs (idN 61)) (zs (idN 61)) = false := by
  unfold okI
  rw [zs_len, id_len]
  rfl
theorem ok_bads (B : Bl mg) (G : TabG P w K mg base a) (CB : Fnc P w K mg base CX0 9 "_law_bad" ["rows"] (spD K RBad)) (CT : Fnc P w K mg base CX0 2 "_law_take" ["state", "m"] (spM K RTake)) (D : Def K mg "_law_bads" "_law_bads" (top 43) ["state", "n", "shifts"]) : Fnc P w K mg base CX0 10 "_law_bads" ["state", "n", "shifts"] (spM K RBads) := by
  refine fnc_m D sc_bads (fun ms ds d ms' ⟨_, _, _, _, _, _, h, _⟩ => by rw [h]; rfl) fun X T S hr ms ds d ms' ⟨s, n, x, hn, hn2, h1, h2, h3, h4⟩ => ?_
  obtain ⟨rfl, rfl, rfl, rfl, rfl⟩ := T
  subst h1 h2 h3 h4
  have L := rowsQ_ok hn hn2 x
  refine q_asg S 3 (d_is (y := .lst (rowsL (rowsQ n x))) (d_fn G.rows hr (a_cons (d_nm S 1 rfl) (a_cons (d_nm S 2 rfl) a_nil)) (rows_in hn hn2 x) (S.gl rfl)) rfl) ?_
  refine q_asg S 4 (d_fnM S 0 CT hr rfl (a_cons (d_nm S 1 rfl) a_nil) rfl ⟨s, n, by omega, by omega, rfl, rfl, rfl, rfl⟩ (S.gl rfl)) ?_
  have hi := dig_lt s (show 0 < n by omega)
  generalize dig s n = i at hi ⊢
  generalize rowsQ n x = R at L ⊢
  have hzl : ∀ l ∈ R.map zs, l.length ≤ 1000 := fun l hl => by
    obtain ⟨m, hm, rfl⟩ := List.mem_map.mp hl
    rw [zs_len, (L.rl m hm).len]
    omega
  refine q_for S (d_range (m := 4) (S.gl rfl) B.range d_int (by decide)) (fun k ρ => ∃ z1 z2 z3 z4, ρ = [.own (.l (stD (nxt s n))), .d (.int n), .d (q4D x), .d (.lst (rowsL R)), .d (.int ((i : Nat) : Int)), z1, z2, z3, z4, .any] ∧ z1.isOwn = false ∧ z2.isOwn = false ∧ z3.isOwn = false ∧ z4.isOwn = false) ⟨_, _, _, _, rfl, rfl, rfl, rfl, rfl⟩ (fun k ρ hk ⟨z1, z2, z3, z4, hρ, g1, g2, g3, g4⟩ => ?_) (fun ρ ⟨z1, z2, z3, z4, hρ, g1, g2, g3, g4⟩ => ?_)
  · subst hρ
    have hm := L.get hk
    have hget := rowsL_get (L := R) (k := k) (by rw [L.len]; exact hk)
    refine ⟨_, g_nm S 5 (nz1 rfl g1), ?_⟩
    refine q_asg S 6 (d_is (y := .tup (is (zs (R.getD k [])))) (d_ixL hget (d_nm S 3 rfl) (d_nm S 5 rfl)) (by rw [ns_zs])) (hn := nz1 rfl g2) ?_
    have hml : (zs (R.getD k [])).length = n := by rw [zs_len]; exact hm.len
    generalize zs (R.getD k []) = m at hml ⊢
    have il : i < (is m).length := by rw [is_len, hml]; exact hi
    have il2 : (is m).length ≤ 1000 := by rw [is_len, hml]; omega
    have iset : ∀ v : Int, (is m).set i (.int v) = is (m.set i v) := fun v => by
      unfold is
      rw [List.map_set]
    refine q_asgO S 7 (f_lst (a_cons (d_is (y := .tup (is (m.take (m.length - 1)))) (d_slT (d_nm S 6 rfl) o_none (o_some (d_neg d_int))) (by
      show Da.tup (cutD (is m) none (some (-1))) = _
      rw [cutD_last, is_len]
      unfold is
      rw [List.map_take])) (a_cons (d_is (y := .tup (is (m.set i ((2 ^ n : Nat) : Int)))) (d_putT il il2 (d_nm S 6 rfl) (d_nm S 4 rfl) (d_oneN (by omega) (d_nm S 1 rfl)) (d_nm S 6 rfl) (d_nm S 4 rfl)) (by rw [iset])) a_nil)) (by show 2 ≤ 1000; decide)) (hn := nz1 rfl g3) ?_
    refine q_push S 7 (d_is (y := .tup (is (m.set i (-1)))) (d_putT il il2 (d_nm S 6 rfl) (d_nm S 4 rfl) (d_neg d_int) (d_nm S 6 rfl) (d_nm S 4 rfl)) (congrArg Da.tup (iset (-1)))) rfl rfl (by show 2 < 1000000; decide) ?_
    refine q_pub (i := 7) rfl ?_
    have hbad : ∀ o ∈ [m.take (m.length - 1), m.set i ((2 ^ n : Nat) : Int), m.set i (-1)], goodB o n = false ∧ o.length ≤ 60 := by
      intro o ho
      simp only [List.mem_cons, List.not_mem_nil, or_false] at ho
      rcases ho with rfl | rfl | rfl
      · refine ⟨good_len ?_, ?_⟩
        · rw [List.length_take]; omega
        · rw [List.length_take]; omega
      · exact ⟨bad_at hml hi (gx_pow n), by rw [List.length_set]; omega⟩
      · exact ⟨bad_at hml hi (gx_neg n), by rw [List.length_set]; omega⟩
    refine q_for S (i_list (d_nm S 7 rfl)) (fun t ρ => ∃ z, ρ = [.own (.l (stD (nxt s n))), .d (.int n), .d (q4D x), .d (.lst (rowsL R)), .d (.int ((i : Nat) : Int)), .d (.int ((k : Nat) : Int)), .d (.tup (is m)), .d (.lst (isL [m.take (m.length - 1), m.set i ((2 ^ n : Nat) : Int), m.set i (-1)])), z, .any] ∧ z.isOwn = false) ⟨_, rfl, g4⟩ (fun t ρ ht ⟨z, hρ, hz⟩ => ?_) (fun ρ ⟨z, hρ, hz⟩ => ?_)
    · subst hρ
      have ht3 : t < 3 := ht
      obtain ⟨o, ho⟩ : ∃ o, [m.take (m.length - 1), m.set i ((2 ^ n : Nat) : Int), m.set i (-1)][t]? = some o := ⟨_, List.getElem?_eq_getElem ht3⟩
      have hoD : (isL [m.take (m.length - 1), m.set i ((2 ^ n : Nat) : Int), m.set i (-1)]).getD t .non = .tup (is o) := by
        unfold isL
        rw [List.getD_eq_getElem?_getD, List.getElem?_map, ho]
        rfl
      obtain ⟨b1, b2⟩ := hbad o (List.mem_of_getElem? ho)
      refine ⟨_, (show GD X _ ((isL [m.take (m.length - 1), m.set i ((2 ^ n : Nat) : Int), m.set i (-1)]).getD t .non) _ _ by rw [hoD]; exact g_nm S 8 (nz1 rfl hz)), ?_⟩
      have e1 : (rowsL R).set k (.tup (is o)) = isL ((R.map zs).set k o) := by
        rw [rowsL_is]
        unfold isL
        rw [List.map_set]
      have hin : RBad [.lst (isL ((R.map zs).set k o))] (.bl true) := by
        have := bad_in (Z := (R.map zs).set k o) (by rw [List.length_set, List.length_map, L.len]) fun l hl => by
          rcases List.mem_or_eq_of_mem_set hl with q | q
          · exact hzl l q
          · rw [q]
            omega
        rw [okZ_bad L hk b1] at this
        exact this
      exact q_if (t_not (t_val (d_fn CB hr (a_cons (d_is (y := .lst (isL ((R.map zs).set k o))) (f_d (f_put (ds := rowsL R) (x := .tup (is o)) (by unfold rowsL; rw [List.length_map, L.len]; exact hk) (by unfold rowsL; rw [List.length_map, L.len]; decide) (d_nm S 3 rfl) (d_nm S 5 rfl) (d_nm S 8 rfl) (d_nm S 3 rfl) (d_nm S 5 rfl))) (by rw [e1])) a_nil) hin (S.gl rfl)))) (fun hb => nomatch hb) (fun _ => sd_nil (sd_nil ⟨.d (.tup (is o)), rfl, rfl⟩))
    · subst hρ
      exact sd_nil ⟨_, _, _, z, rfl, rfl, rfl, rfl, hz⟩
  · subst hρ
    refine q_asg S 9 (d_is (y := .tup (ns (idN 61))) (d_tuple (S.gl rfl) B.tuple (f_d (f_lc S (own := [("k", 5)]) (d_range (m := 61) (S.gl rfl) B.range d_int (by decide)) (by decide +kernel) (fun i => some (.int ((2 ^ i : Nat) : Int))) (fun j => [.own (.l (stD (nxt s n))), .d (.int n), .d (q4D x), .d (.lst (rowsL R)), .d (.int ((i : Nat) : Int)), .d (.int (j : Nat)), z2, z3, z4, .any]) (by decide) (fun i hi => ⟨fun s H C cl fp => ?_, fun s H C cl fp => pts_y, fun d hd s H C cl fp => ?_⟩) (hno := by show (nown _ 5 && true) = true; rw [Bool.and_true]; exact nz1 rfl g1)))) (by rw [fm_ns fun i => 2 ^ i]; rfl)) ?_
    · exact gc_nm (sco_blk S rfl s H C cl fp) 5
    · cases hd
      exact d_oneN (by omega) (d_nm (sco_blk S rfl s H C cl fp) 5 rfl)
    have i61 : RBad [.lst [.tup (ns (idN 61)), .tup (ns (idN 61)), .tup (ns (idN 61)), .tup (ns (idN 61))]] (.bl true) := by
      have hz : (zs (idN 61)).length ≤ 1000 := by rw [zs_len, id_len]; decide
      exact ⟨zs (idN 61), zs (idN 61), zs (idN 61), zs (idN 61), hz, hz, hz, hz, by rw [ns_zs], by rw [okI_61]; rfl⟩
    have i0 : RBad [.lst [.tup [], .tup [], .tup [], .tup []]] (.bl true) := ⟨[], [], [], [], by decide, by decide, by decide, by decide, rfl, rfl⟩
    have ig : RBad [.lst (rowsL R)] (.bl false) := by
      have := bad_in (Z := R.map zs) (by rw [List.length_map, L.len]) hzl
      rw [okZ_good L, ← rowsL_is] at this
      exact this
    exact q_ret (d_and (d_fn CB hr (a_cons (f_d (f_rep (m := 4) (by show 1 * 4 ≤ 1000000; decide) (by decide) (f_d (f_lst (a_cons (d_nm S 9 rfl) a_nil) (by show 1 ≤ 1000; decide))) d_int)) a_nil) i61 (S.gl rfl)) fun _ => d_and (d_fn CB hr (a_cons (f_d (f_rep (m := 4) (by show 1 * 4 ≤ 1000000; decide) (by decide) (f_d (f_lst (a_cons (d_tup a_nil (by decide)) a_nil) (by show 1 ≤ 1000; decide))) d_int)) a_nil) i0 (S.gl rfl)) fun _ => d_one (d_not (d_fn CB hr (a_cons (d_nm S 3 rfl) a_nil) ig (S.gl rfl)))) ⟨rfl, rfl⟩
end
end K11
end
section
set_option Elab.async false
set_option linter.all false
set_option maxRecDepth 100000
set_option maxHeartbeats 4000000
namespace K11
open PySem PySem.Spec PyProof.Rows L2 Wv Km
section
variable {P : Program} {w : World} {K : PySem.W.Frag} {mg : Str → Option Value} {base : Heap} {a : Adr}
/-! ### _law_units -/
theorem d_zeroT {X : Cx} {ρ ρ1 : List SV} {b : Expr} {pos p p2 : Pos} {q k k2 : Nat} (h1 : 1 ≤ q) (h2 : q ≤ 1000) (h : ED X b ρ ρ1 (.int (q : Int))) : ED X (.BinOp (.Tuple [.Constant (.int 0) k p] k2 p2) .Mult b pos) ρ ρ1 (.tup (ns (List.replicate q 0))) := by
  have ht : ED X (.Tuple [.Constant (.int 0) k p] k2 p2) ρ ρ (.tup [.int ((0 : Nat) : Int)]) := d_tup (a_cons d_n0 a_nil) (by decide)
  by_cases e : q = 1
  · subst e
    exact d_is (d_repT1 ht h) rfl
  · exact d_is (d_repT (m := q) (by simp) (by omega) (by omega) (by decide) ht h) (by rw [rep_one]; simp [ns])
theorem d_unit {X : Cx} {ρ ρ1 : List SV} {e : Expr} {p apos pos : Pos} {q k : Nat} {pl : Sem Bool} (G : TabG X.prog X.w X.K X.mg X.base a) (hr : Room k X.A) (hg : Gl X "Table") (h1 : 1 ≤ q) (h2 : q ≤ 60) (h : ED X e ρ ρ1 (.int (q : Int))) (hk : 8 ≤ k := by decide)
    (hst : starEach [e] X.env = (false, eval e X.env) :: starEach [] X.env := by rfl)
    (ht : eval (.Call (.Attribute (.Name "Table" p) "unit" apos) [e] [] pos) X.env = (do
      let ov ← eval (.Name "Table" p) X.env
      standAt apos.atName
      let (f, first) ← holding [ov] (getMethod ov "unit" pl)
      callWith pos f first (backTo pos (starEach [e] X.env)) (backToKw pos (keywordEach [] X.env))) := by rfl) : ED X (.Call (.Attribute (.Name "Table" p) "unit" apos) [e] [] pos) ρ ρ1 (tn a.C ⟨idN q, idN q, idN q, idN q⟩) := by
  obtain ⟨fd, F, hb⟩ := G.uni
  exact d_cmeth (E := E0) G.I.T.rC G.I.T.cU F pass0 (hr.mono hk) hb hg G.I.T.gC (a_cons h a_nil hst) ⟨q, h1, h2, rfl, rfl⟩ (by decide) hst (by rfl) ht
theorem id_ne {n m : Nat} (h : n ≠ m) : eqT ⟨idN n, idN n, idN n, idN n⟩ ⟨idN m, idN m, idN m, idN m⟩ = false := by
  have : idN n ≠ idN m := fun e => h (by rw [← id_len n, e, id_len])
  unfold eqT
  rw [decide_eq_false this, Bool.false_and]
def RUnits (ds : List Da) (d : Da) : Prop := ∃ n m : Nat, n ≤ 60 ∧ 1 ≤ m ∧ m < n ∧ ds = [.int n, .int m] ∧ d = .bl true
structure UnG (P : Program) (w : World) (K : PySem.W.Frag) (mg : Str → Option Value) (base : Heap) : Prop where
  id : Fnc P w K mg base CX0 2 "identity" ["states"] (spD K RIdent)
  no : Fnc P w K mg base CX0 2 "nowhere" ["states"] (spD K RNo)
  same : FncG P w K mg base 2 "_law_same" ["told", "due"] (spD K RSame)
theorem sc_units : FnScope ["n", "less", "many", "k", "one", "unit", "told"] ["n", "less"] (defScope (top 44)) := ⟨rfl, rfl, rfl, by decide +kernel, rfl, by decide +kernel, by decide +kernel⟩
theorem rep_rl (n : Nat) : Rl n (List.replicate n 0) := rl_of (List.length_replicate ..) fun x hx => by
  rw [List.eq_of_mem_replicate hx]
  exact Nat.two_pow_pos n
theorem ok_units (B : Bl mg) (G : TabG P w K mg base a) (C : UnG P w K mg base) (D : Def K mg "_law_units" "_law_units" (top 44) ["n", "less"]) : FncG P w K mg base 10 "_law_units" ["n", "less"] (spD K RUnits) := by
  refine fnc_g D sc_units (fun ds d ⟨_, _, _, _, _, h, _⟩ => by rw [h]; rfl) fun X T S hr hgd ds d ⟨n, m, hn, hm, hmn, h1, h2⟩ => ?_
  obtain ⟨rfl, rfl, rfl, rfl, rfl⟩ := T
  subst h1 h2
  have T0 := G.I.T
  refine q_for S (i_list (d_is (y := .lst (ns [n, m, 60])) (f_d (f_lst (a_cons (d_nm S 0 rfl) (a_cons (d_nm S 1 rfl) (a_cons d_int a_nil))) (by show 3 ≤ 1000; decide))) rfl)) (fun i ρ => ∃ z1 z2 z3 z4 z5, ρ = [.d (.int n), .d (.int m), z1, z2, z3, z4, z5] ∧ z1.isOwn = false ∧ z2.isOwn = false ∧ z3.isOwn = false ∧ z4.isOwn = false ∧ z5.isOwn = false) ⟨_, _, _, _, _, rfl, rfl, rfl, rfl, rfl, rfl⟩ (fun i ρ hi ⟨z1, z2, z3, z4, z5, hρ, g1, g2, g3, g4, g5⟩ => ?_) (fun ρ ⟨z1, z2, z3, z4, z5, hρ, g1, g2, g3, g4, g5⟩ => ?_)
  · subst hρ
    rw [ns_len] at hi
    rw [ns_getD hi]
    have hq : 1 ≤ [n, m, 60].getD i 0 ∧ [n, m, 60].getD i 0 ≤ 60 := by
      rcases (show i = 0 ∨ i = 1 ∨ i = 2 by have : i < 3 := hi; omega) with rfl | rfl | rfl
      · exact ⟨by show 1 ≤ n; omega, by show n ≤ 60; omega⟩
      · exact ⟨by show 1 ≤ m; omega, by show m ≤ 60; omega⟩
      · exact ⟨by show 1 ≤ 60; decide, by show 60 ≤ 60; decide⟩
    generalize [n, m, 60].getD i 0 = q at hq ⊢
    obtain ⟨q1, q2⟩ := hq
    refine ⟨_, g_nm S 2 (nz1 rfl g1), ?_⟩
    refine q_asg S 4 (d_is (y := .tup (ns (idN q))) (d_tuple (S.gl rfl) B.tuple (f_d (f_lc S (own := [("k", 3)]) (d_range (S.gl rfl) B.range (d_nm S 2 rfl) (by omega)) (by decide +kernel) (fun i => some (.int ((2 ^ i : Nat) : Int))) (fun j => [.d (.int n), .d (.int m), .d (.int q), .d (.int (j : Nat)), z3, z4, z5]) (by omega) (fun i hi => ⟨fun s H C cl fp => ?_, fun s H C cl fp => pts_y, fun d hd s H C cl fp => ?_⟩) (hno := by show (nown _ 3 && true) = true; rw [Bool.and_true]; exact nz1 rfl g2)))) (by rw [fm_ns fun i => 2 ^ i]; rfl)) (hn := nz1 rfl g3) ?_
    · exact gc_nm (sco_blk S rfl s H C cl fp) 3
    · cases hd
      exact d_oneN (by omega) (d_nm (sco_blk S rfl s H C cl fp) 3 rfl)
    refine q_asg S 5 (d_unit G hr (S.gl rfl) q1 q2 (d_nm S 2 rfl)) (hn := nz1 rfl g4) ?_
    refine q_asgO S 6 (f_lst (a_cons (d_ll T0 (d_nm S 5 rfl)) (a_cons (d_lr T0 (d_nm S 5 rfl)) (a_cons (d_rl T0 (d_nm S 5 rfl)) (a_cons (d_rr T0 (d_nm S 5 rfl)) (a_cons (d_is (d_sts T0 (d_nm S 5 rfl)) (by show Da.int (((idN q).length : Nat) : Int) = _; rw [id_len])) a_nil))))) (by show 5 ≤ 1000; decide)) (hn := nz1 rfl g5) ?_
    refine q_pub (i := 6) rfl ?_
    have sr := sm_rl q1 q2 (id_rl q)
    have sm5 : Sm 2 16000 (.lst [.tup (ns (idN q)), .tup (ns (idN q)), .tup (ns (idN q)), .tup (ns (idN q)), .int ((q : Nat) : Int)]) := Sm.lst ((Sms.cons sr (Sms.cons sr (Sms.cons sr (Sms.cons sr (Sms.cons ((sm_small q2).le (by decide) (Nat.le_refl _)) Sms.nil))))).le (Nat.le_refl _) (by decide))
    refine q_if (t_neS (d_repr (kdL _) sm5 (by decide) (by decide) hgd hr (S.gl rfl) B.repr (d_nm S 6 rfl)) (d_repr (kdL _) sm5 (by decide) (by decide) hgd hr (S.gl rfl) B.repr (f_d (f_lst (a_cons (d_nm S 4 rfl) (a_cons (d_nm S 4 rfl) (a_cons (d_nm S 4 rfl) (a_cons (d_nm S 4 rfl) (a_cons (d_nm S 2 rfl) a_nil))))) (by show 5 ≤ 1000; decide))))) (fun hb => by rw [decide_eq_true rfl] at hb; cases hb) (fun _ => sd_nil ?_)
    refine q_if (t_not (t_val (d_fnG C.same hr hgd (a_cons (d_fn C.id hr (a_cons (d_nm S 2 rfl) a_nil) ⟨q, by omega, rfl, rfl⟩ (S.gl rfl)) (a_cons (d_nm S 4 rfl) a_nil)) ⟨q, idN q, q1, q2, id_rl q, rfl, rfl⟩ (S.gl rfl)))) (fun hb => nomatch hb) (fun _ => sd_nil ?_)
    exact q_if (t_not (t_val (d_fnG C.same hr hgd (a_cons (d_fn C.no hr (a_cons (d_nm S 2 rfl) a_nil) ⟨q, by omega, rfl, rfl⟩ (S.gl rfl)) (a_cons (d_zeroT q1 (by omega) (d_nm S 2 rfl)) a_nil)) ⟨q, List.replicate q 0, q1, q2, rep_rl q, rfl, rfl⟩ (S.gl rfl)))) (fun hb => nomatch hb) (fun _ => sd_nil (sd_nil ⟨_, _, _, _, _, rfl, rfl, g2, rfl, rfl, rfl⟩))
  · subst hρ
    have un : 1 ≤ n := by omega
    have um : m ≤ 60 := by omega
    have on := id_ok un hn
    have om := id_ok hm um
    have e1 := id_ne (n := n) (m := m) (by omega)
    have e2 := id_ne (n := m) (m := n) (by omega)
    refine q_asgO S 6 (f_lst (a_cons (d_is (y := .bl false) (d_teq G hr on om (d_unit G hr (S.gl rfl) un hn (d_nm S 0 rfl)) (d_unit G hr (S.gl rfl) hm um (d_nm S 1 rfl))) (congrArg Da.bl e1)) (a_cons (d_is (y := .bl false) (d_teq G hr om on (d_unit G hr (S.gl rfl) hm um (d_nm S 1 rfl)) (d_unit G hr (S.gl rfl) un hn (d_nm S 0 rfl))) (congrArg Da.bl e2)) a_nil)) (by show 2 ≤ 1000; decide)) (hn := nz1 rfl g5) ?_
    refine q_pub (i := 6) rfl ?_
    have smF : Sm 2 2 (.lst [.bl false, .bl false]) := Sm.lst (sm_bls [false, false])
    refine q_ret (d_and (d_eqS (d_repr (kdL _) smF (by decide) (by decide) hgd hr (S.gl rfl) B.repr (d_nm S 6 rfl)) d_str) fun _ => d_one (d_isB (d_teq G hr on on (d_unit G hr (S.gl rfl) un hn (d_nm S 0 rfl)) (d_unit G hr (S.gl rfl) un hn (d_nm S 0 rfl))) d_bl)) ?_
    rw [decide_eq_true shown_ff, eqT_self]
    rfl
end
end K11
end
section
set_option Elab.async false
set_option linter.all false
set_option maxRecDepth 100000
set_option maxHeartbeats 4000000
namespace K11
open PySem PySem.Spec PyProof.Rows L2 Wv Km
theorem closed_closed {n : Nat} {r : List Nat} (hr : Rl n r) : closedN (closedN r) = closedN r :=
  closed_self (closed_rl hr) (fun i hi => (closed_bit hr).mpr ⟨hi, .refl i⟩) fun i j k h1 h2 => (closed_bit hr).mpr ⟨((closed_bit hr).mp h1).1, ((closed_bit hr).mp h1).2.trans ((closed_bit hr).mp h2).2⟩
theorem RelOk.of {n : Nat} {r wh bk : List Nat} (n1 : 1 ≤ n) (n2 : n ≤ 60) (hr : Rl n r) (c : closedN r = wh) (f : flippedN r = bk) : RelOk n r wh bk := by
  subst c f
  exact ⟨n1, n2, hr, closed_rl hr, flipped_rl hr, rfl, closed_closed hr, rfl, flipped_twice hr⟩
/-! ### ring -/
theorem mod_two {n x : Nat} (h : x < 2 * n) : x % n = if x < n then x else x - n := by
  split
  · exact Nat.mod_eq_of_lt (by assumption)
  · rw [Nat.mod_eq_sub_mod (by omega), Nat.mod_eq_of_lt (by omega)]
theorem ring_ok {n k : Nat} (n1 : 1 ≤ n) (n2 : n ≤ 60) (hk : k < n) : RelOk n (shN n [k]) (shN n (mulN n [k])) (shN n [n - k]) := by
  refine .of n1 n2 (sh_rl n1 _) (sh_closed n1 _) ?_
  refine rl_ext (n := n) (by rw [flipped_len, sh_len]) (sh_len n _) fun i j hi => ?_
  rw [flipped_bit (sh_rl n1 _), sh_bit, sh_bit]
  simp only [List.mem_singleton, exists_eq_left]
  constructor
  · rintro ⟨hj, e⟩
    refine ⟨hi, ?_⟩
    rw [mod_two (by omega)] at e ⊢
    split at e <;> split <;> omega
  · rintro ⟨_, e⟩
    have hj : j < n := by rw [← e]; exact Nat.mod_lt _ n1
    refine ⟨hj, ?_⟩
    rw [mod_two (by omega)] at e ⊢
    split at e <;> split <;> omega
/-! ### blocks -/
theorem span_bit {l h j : Nat} (hl : l ≤ h) : (2 ^ h - 2 ^ l).testBit j = true ↔ l ≤ j ∧ j < h := by
  have e : 2 ^ h - 2 ^ l = 2 ^ l * (2 ^ (h - l) - 1) := by
    rw [Nat.mul_sub, ← Nat.pow_add, Nat.mul_one]
    congr 2
    omega
  rw [e, Nat.testBit_two_pow_mul, Nat.testBit_two_pow_sub_one, Bool.and_eq_true, decide_eq_true_eq, decide_eq_true_eq]
  omega
section
variable {n k : Nat}
theorem lo_eq (k i : Nat) : lo k i = k * (i / k) := by
  have := Nat.mod_add_div i k
  unfold lo
  omega
theorem same_lo (hk : 0 < k) {i j : Nat} (h1 : lo k i ≤ j) (h2 : j < lo k i + k) : lo k j = lo k i := by
  rw [lo_eq k i] at h1 h2
  rw [lo_eq, lo_eq]
  congr 1
  rw [Nat.mul_comm] at h1
  exact Nat.div_eq_of_lt_le h1 (by rw [Nat.succ_mul, Nat.mul_comm]; exact h2)
theorem hi_le2 (n k i : Nat) : hi n k i ≤ lo k i + k := by
  unfold hi
  split <;> omega
theorem same_blk (hk : 0 < k) {i j : Nat} (h1 : lo k i ≤ j) (h2 : j < hi n k i) : lo k j = lo k i ∧ hi n k j = hi n k i := by
  have := hi_le2 n k i
  have e := same_lo hk h1 (by omega)
  exact ⟨e, by unfold hi; rw [e]⟩
def nxB (n k i : Nat) : Nat := if i + 1 = hi n k i then lo k i else i + 1
def pvB (n k i : Nat) : Nat := if i = lo k i then hi n k i - 1 else i - 1
theorem blr_bit {i j : Nat} (hi_ : i < n) : (((List.range n).map (blR n k)).getD i 0).testBit j = true ↔ nxB n k i = j := by
  rw [getD_map _ _ hi_]
  unfold blR
  rw [Nat.testBit_two_pow, decide_eq_true_eq]
  rfl
theorem blb_bit {i j : Nat} (hi_ : i < n) : (((List.range n).map (blB n k)).getD i 0).testBit j = true ↔ pvB n k i = j := by
  rw [getD_map _ _ hi_]
  unfold blB
  rw [Nat.testBit_two_pow, decide_eq_true_eq]
  rfl
theorem blw_bit (hk : 0 < k) {i j : Nat} (hi_ : i < n) : (((List.range n).map (blW n k)).getD i 0).testBit j = true ↔ lo k i ≤ j ∧ j < hi n k i := by
  rw [getD_map _ _ hi_]
  unfold blW
  exact span_bit (by have := lo_le k i; have := lt_hi hk hi_; omega)
theorem map_oob (f : Nat → Nat) {i : Nat} (h : ¬ i < n) : ((List.range n).map f).getD i 0 = 0 := getD_none (by rw [List.length_map, List.length_range]; omega)
theorem nx_in (hk : 0 < k) {i : Nat} (hi_ : i < n) : lo k i ≤ nxB n k i ∧ nxB n k i < hi n k i := by
  have := lo_le k i
  have := lt_hi hk hi_
  unfold nxB
  split <;> omega
theorem blocks_ok (n1 : 1 ≤ n) (n2 : n ≤ 60) (hk : 1 ≤ k) : RelOk n ((List.range n).map (blR n k)) ((List.range n).map (blW n k)) ((List.range n).map (blB n k)) := by
  have rl : Rl n ((List.range n).map (blR n k)) := ⟨by simp, fun i hi_ => lt_of_bits fun j hj => by
    rw [blr_bit hi_] at hj
    have := nx_in hk hi_
    have := hi_le n k i hi_
    omega⟩
  have wl : Rl n ((List.range n).map (blW n k)) := ⟨by simp, fun i hi_ => lt_of_bits fun j hj => by
    rw [blw_bit hk hi_] at hj
    have := hi_le n k i hi_
    omega⟩
  refine .of n1 n2 rl ?_ ?_
  · refine closed_is rl wl (fun i hi_ => (blw_bit hk hi_).mpr ⟨lo_le k i, lt_hi hk hi_⟩) (fun i j m h1 h2 => ?_) fun i j h => ?_
    · have hi_ := (rl.bit h1).1
      have hj_ := (rl.bit h1).2
      rw [blr_bit hi_] at h1
      rw [blw_bit hk hj_] at h2
      rw [blw_bit hk hi_]
      have := nx_in hk hi_
      rw [h1] at this
      obtain ⟨e1, e2⟩ := same_blk (n := n) hk this.1 this.2
      rw [← e1, ← e2]
      exact h2
    · have hi_ := (wl.bit h).1
      rw [blw_bit hk hi_] at h
      have up : ∀ d x : Nat, lo k i ≤ x → x + d < hi n k i → Rch ((List.range n).map (blR n k)) x (x + d) := fun d => by
        induction d with
        | zero => intro x _ _; exact .refl x
        | succ d ih =>
          intro x h1 h2
          have hx := hi_le n k i hi_
          obtain ⟨e1, e2⟩ := same_blk (n := n) hk h1 (show x < hi n k i by omega)
          refine .step (j := x + 1) ((blr_bit (by omega)).mpr ?_) ?_
          · unfold nxB
            rw [if_neg (by omega)]
          · have := ih (x + 1) (by omega) (by omega)
            rw [show x + (d + 1) = x + 1 + d by omega]
            exact this
      have hl := lo_le k i
      have hh := lt_hi hk hi_
      have hx := hi_le n k i hi_
      have a1 := up (hi n k i - 1 - i) i hl (by omega)
      rw [show i + (hi n k i - 1 - i) = hi n k i - 1 by omega] at a1
      have a2 : Rch ((List.range n).map (blR n k)) (hi n k i - 1) (lo k i) := .one ((blr_bit (by omega)).mpr (by
        obtain ⟨e1, e2⟩ := same_blk (n := n) hk (i := i) (j := hi n k i - 1) (by omega) (by omega)
        unfold nxB
        rw [if_pos (by omega), e1]))
      have a3 := up (j - lo k i) (lo k i) (Nat.le_refl _) (by omega)
      rw [show lo k i + (j - lo k i) = j by omega] at a3
      exact (a1.trans a2).trans a3
  · refine rl_ext (n := n) (by rw [flipped_len]; simp) (by simp) fun i j hi_ => ?_
    rw [flipped_bit rl, blb_bit hi_]
    constructor
    · intro h
      have hj_ := (rl.bit h).1
      rw [blr_bit hj_] at h
      have := nx_in hk hj_
      rw [h] at this
      obtain ⟨e1, e2⟩ := same_blk (n := n) hk this.1 this.2
      have := lo_le k j
      have := lt_hi hk hj_
      unfold nxB at h
      unfold pvB
      split at h <;> split <;> omega
    · intro h
      have hl := lo_le k i
      have hh := lt_hi hk hi_
      have hx := hi_le n k i hi_
      have hin : lo k i ≤ j ∧ j < hi n k i := by
        unfold pvB at h
        split at h <;> omega
      obtain ⟨e1, e2⟩ := same_blk (n := n) hk hin.1 hin.2
      rw [blr_bit (by omega)]
      unfold pvB at h
      unfold nxB
      split at h <;> split <;> omega
end
/-! ### pigeons -/
theorem pigeon : ∀ (n m : Nat) (g : Nat → Nat), n < m → (∀ i, i < m → g i < n) → ∃ a b, a < b ∧ b < m ∧ g a = g b
  | 0, m, g, h, hg => absurd (hg 0 h) (Nat.not_lt_zero _)
  | n + 1, m, g, h, hg => by
    by_cases hq : ∃ a, a < m - 1 ∧ g a = g (m - 1)
    · obtain ⟨a, h1, h2⟩ := hq
      exact ⟨a, m - 1, h1, by omega, h2⟩
    · have hne : ∀ a, a < m - 1 → g a ≠ g (m - 1) := fun a h1 h2 => hq ⟨a, h1, h2⟩
      obtain ⟨a, b, h1, h2, h3⟩ := pigeon n (m - 1) (fun i => if g i = n then g (m - 1) else g i) (by omega) fun i hi => by
        show (if g i = n then g (m - 1) else g i) < n
        have h4 := hg i (by omega)
        have h5 := hg (m - 1) (by omega)
        have h6 := hne i hi
        split <;> omega
      have h3 : (if g a = n then g (m - 1) else g a) = if g b = n then g (m - 1) else g b := h3
      have h4 := hne a (by omega)
      have h5 := hne b (by omega)
      refine ⟨a, b, h1, by omega, ?_⟩
      split at h3 <;> split at h3 <;> omega
/-! ### function -/
section
variable {n tm mo out : Nat}
def itF (n tm mo : Nat) : Nat → Nat → Nat
  | 0, i => i
  | m + 1, i => itF n tm mo m (fnT n tm mo i)
theorem itF_add (a b : Nat) : ∀ i, itF n tm mo (a + b) i = itF n tm mo b (itF n tm mo a i) := by
  induction a with
  | zero => intro i; rw [Nat.zero_add]; rfl
  | succ a ih =>
    intro i
    rw [show a + 1 + b = (a + b) + 1 by omega]
    exact ih (fnT n tm mo i)
theorem itF_lt (hn : 1 ≤ n) : ∀ m i, i < n → itF n tm mo m i < n
  | 0, i, h => h
  | m + 1, i, _ => itF_lt hn m _ (fnT_lt hn tm mo i)
def PthF (n tm mo out m i j : Nat) : Prop := itF n tm mo m i = j ∧ ∀ q, q < m → itF n tm mo q i % out ≠ 0
theorem PthF.cons {m i j : Nat} (h0 : i % out ≠ 0) (h : PthF n tm mo out m (fnT n tm mo i) j) : PthF n tm mo out (m + 1) i j := ⟨h.1, fun q hq => by
  cases q with
  | zero => exact h0
  | succ q => exact h.2 q (by omega)⟩
theorem PthF.tail {m i j : Nat} (h : PthF n tm mo out (m + 1) i j) : i % out ≠ 0 ∧ PthF n tm mo out m (fnT n tm mo i) j := ⟨h.2 0 (by omega), h.1, fun q hq => h.2 (q + 1) (by omega)⟩
/-- a path may be cut short -/
theorem PthF.cut (hn : 1 ≤ n) {i j : Nat} (hi : i < n) : ∀ m, PthF n tm mo out m i j → ∃ q, q ≤ n ∧ PthF n tm mo out q i j := fun m => by
  induction m using Nat.strongRecOn with
  | _ m ih =>
    intro h
    by_cases hm : m ≤ n
    · exact ⟨m, hm, h⟩
    · obtain ⟨a, b, h1, h2, h3⟩ := pigeon n (m + 1) (fun q => itF n tm mo q i) (by omega) fun q _ => itF_lt hn q i hi
      have h3 : itF n tm mo a i = itF n tm mo b i := h3
      refine ih (a + (m - b)) (by omega) ⟨?_, fun q hq => ?_⟩
      · rw [itF_add, h3, ← itF_add, show b + (m - b) = m by omega]
        exact h.1
      · by_cases hqa : q < a
        · exact h.2 q (by omega)
        · have e : itF n tm mo q i = itF n tm mo (b + (q - a)) i := by
            rw [itF_add b, ← h3, ← itF_add, show a + (q - a) = q by omega]
          rw [e]
          exact h.2 _ (by omega)
theorem walkM_bit {j : Nat} : ∀ (k h acc : Nat), (walkM n tm mo out k h acc).testBit j = true ↔ acc.testBit j = true ∨ ∃ m, m < k ∧ PthF n tm mo out m h j
  | 0, h, acc => by simp [walkM]
  | k + 1, h, acc => by
    have hor : (acc ||| 2 ^ h).testBit j = true ↔ acc.testBit j = true ∨ h = j := by rw [Nat.testBit_or, Bool.or_eq_true, Nat.testBit_two_pow, decide_eq_true_eq]
    unfold walkM
    split
    · rename_i hs
      rw [hor]
      refine or_congr_right ⟨fun e => ⟨0, by omega, e, fun q hq => absurd hq (Nat.not_lt_zero q)⟩, ?_⟩
      rintro ⟨m, _, hp⟩
      cases m with
      | zero => exact hp.1
      | succ m => exact absurd hs hp.tail.1
    · rename_i hs
      rw [walkM_bit k, hor, or_assoc]
      refine or_congr_right ⟨?_, ?_⟩
      · rintro (e | ⟨m, h1, hp⟩)
        · exact ⟨0, by omega, e, fun q hq => absurd hq (Nat.not_lt_zero q)⟩
        · exact ⟨m + 1, by omega, hp.cons hs⟩
      · rintro ⟨m, h1, hp⟩
        cases m with
        | zero => exact .inl hp.1
        | succ m => exact .inr ⟨m, by omega, hp.tail.2⟩
theorem fnS_bits (hn : 1 ≤ n) {x j : Nat} : ∀ i, i ≤ n → (((fnS n tm mo out i).rows.getD x 0).testBit j = true ↔ x < i ∧ x % out ≠ 0 ∧ fnT n tm mo x = j) ∧ (((fnS n tm mo out i).back.getD x 0).testBit j = true ↔ j < i ∧ j % out ≠ 0 ∧ fnT n tm mo j = x)
  | 0, _ => by
    have e : (List.replicate n 0).getD x 0 = 0 := by
      rw [List.getD_eq_getElem?_getD, List.getElem?_replicate]
      split <;> rfl
    constructor
    · show ((List.replicate n 0).getD x 0).testBit j = true ↔ _
      rw [e]
      simp
    · show ((List.replicate n 0).getD x 0).testBit j = true ↔ _
      rw [e]
      simp
  | i + 1, h => by
    obtain ⟨l1, l2⟩ := fnS_len n tm mo out i
    obtain ⟨b1, b2⟩ := fnS_bits hn (x := x) (j := j) i (by omega)
    unfold fnS
    split
    · rename_i hs
      rw [b1, b2]
      refine ⟨⟨fun q => ⟨by omega, q.2⟩, fun q => ⟨?_, q.2⟩⟩, ⟨fun q => ⟨by omega, q.2⟩, fun q => ⟨?_, q.2⟩⟩⟩
      · have : x ≠ i := fun e => q.2.1 (by rw [e]; exact hs)
        omega
      · have : j ≠ i := fun e => q.2.1 (by rw [e]; exact hs)
        omega
    · rename_i hs
      constructor
      · show (((fnS n tm mo out i).rows.set i (2 ^ fnT n tm mo i)).getD x 0).testBit j = true ↔ _
        rw [getD_set (by rw [l1]; omega)]
        split
        · rename_i e
          subst e
          rw [Nat.testBit_two_pow, decide_eq_true_eq]
          exact ⟨fun q => ⟨by omega, hs, q⟩, fun q => q.2.2⟩
        · rename_i e
          rw [b1]
          exact ⟨fun q => ⟨by omega, q.2⟩, fun q => ⟨by omega, q.2⟩⟩
      · show ((orAt (fnS n tm mo out i).back (fnT n tm mo i) (2 ^ i)).getD x 0).testBit j = true ↔ _
        rw [orAt_bit (by rw [l2]; exact fnT_lt hn tm mo i), b2, Nat.testBit_two_pow, decide_eq_true_eq]
        constructor
        · rintro (q | ⟨q1, q2⟩)
          · exact ⟨by omega, q.2⟩
          · subst q2
            exact ⟨by omega, hs, q1.symm⟩
        · rintro ⟨q1, q2, q3⟩
          by_cases e : j = i
          · subst e
            exact .inr ⟨q3.symm, rfl⟩
          · exact .inl ⟨by omega, q2, q3⟩
theorem func_ok (n1 : 1 ≤ n) (n2 : n ≤ 60) : RelOk n (fnS n tm mo out n).rows ((List.range n).map (pathM n tm mo out)) (fnS n tm mo out n).back := by
  obtain ⟨l1, l2⟩ := fnS_len n tm mo out n
  have rb : ∀ {x j : Nat}, ((fnS n tm mo out n).rows.getD x 0).testBit j = true ↔ x < n ∧ x % out ≠ 0 ∧ fnT n tm mo x = j := fun {x j} => (fnS_bits n1 n (Nat.le_refl n)).1
  have bb : ∀ {x j : Nat}, ((fnS n tm mo out n).back.getD x 0).testBit j = true ↔ j < n ∧ j % out ≠ 0 ∧ fnT n tm mo j = x := fun {x j} => (fnS_bits n1 n (Nat.le_refl n)).2
  have rl : Rl n (fnS n tm mo out n).rows := ⟨l1, fun i hi => lt_of_bits fun j hj => by
    rw [← (rb.mp hj).2.2]
    exact fnT_lt n1 tm mo i⟩
  have key1 : ∀ {i j : Nat}, Rch (fnS n tm mo out n).rows i j → ∃ m, PthF n tm mo out m i j := fun {i j} h => by
    induction h with
    | refl i => exact ⟨0, rfl, fun q hq => absurd hq (Nat.not_lt_zero q)⟩
    | @step i j k a _ ih =>
      obtain ⟨m, hm⟩ := ih
      obtain ⟨_, h2, h3⟩ := rb.mp a
      rw [← h3] at hm
      exact ⟨m + 1, hm.cons h2⟩
  have key2 : ∀ {j : Nat} (m i : Nat), i < n → PthF n tm mo out m i j → Rch (fnS n tm mo out n).rows i j := fun {j} m => by
    induction m with
    | zero =>
      intro i _ hm
      rw [← hm.1]
      exact .refl i
    | succ m ih =>
      intro i hi hm
      obtain ⟨h1, h2⟩ := hm.tail
      exact .step (rb.mpr ⟨hi, h1, rfl⟩) (ih _ (fnT_lt n1 tm mo i) h2)
  refine .of n1 n2 rl ?_ ?_
  · refine rl_ext (n := n) (by rw [closed_len, l1]) (by simp) fun i j hi => ?_
    rw [closed_bit rl, getD_map _ _ hi]
    unfold pathM
    rw [walkM_bit]
    simp only [Nat.zero_testBit, Bool.false_eq_true, false_or]
    constructor
    · rintro ⟨_, h⟩
      obtain ⟨m, hm⟩ := key1 h
      obtain ⟨q, h1, h2⟩ := hm.cut n1 hi
      exact ⟨q, by omega, h2⟩
    · rintro ⟨m, _, hm⟩
      exact ⟨hi, key2 m i hi hm⟩
  · refine rl_ext (n := n) (by rw [flipped_len, l1]) l2 fun i j hi => ?_
    rw [flipped_bit rl, rb, bb]
end
end K11
end
section
set_option Elab.async false
set_option linter.all false
set_option maxRecDepth 100000
set_option maxHeartbeats 4000000
namespace K11
open PySem PySem.Spec PyProof.Rows L2 Wv Km
/-! ### chain -/
section
variable {n : Nat}
theorem emod_off {a b : Int} {q : Int} (h : a = b - (n : Int) * q) (h0 : 0 ≤ b) (h1 : b < n) : a % (n : Int) = b := by
  rw [h, Int.sub_mul_emod_self_left, Int.emod_eq_of_lt h0 h1]
def ipN (n at_ : Nat) (way : Int) (i : Nat) : Nat := ((way * ((i : Int) - (at_ : Int))) % (n : Int)).toNat
theorem way_sq {way : Int} (hw : way = 1 ∨ way = -1) (x : Int) : way * (way * x) = x := by
  rcases hw with rfl | rfl <;> omega
theorem p_ip (hn : 0 < n) {at_ : Nat} {way : Int} (hw : way = 1 ∨ way = -1) {i : Nat} (hi : i < n) : pN n at_ way (ipN n at_ way i) = i := by
  have h1 := pN_cast hn at_ way (ipN n at_ way i)
  have h2 : ((ipN n at_ way i : Nat) : Int) = (way * ((i : Int) - (at_ : Int))) % (n : Int) := Int.toNat_of_nonneg (Int.emod_nonneg _ (by omega))
  rw [h2, Int.emod_def (way * ((i : Int) - (at_ : Int)))] at h1
  have h3 := emod_off (n := n) (a := (at_ : Int) + way * (way * ((i : Int) - (at_ : Int)) - (n : Int) * (way * ((i : Int) - (at_ : Int)) / (n : Int)))) (b := (i : Int)) (q := way * (way * ((i : Int) - (at_ : Int)) / (n : Int))) (by
    rw [Int.mul_sub, way_sq hw, Int.mul_left_comm way]
    omega) (by omega) (by omega)
  omega
theorem ip_p (hn : 0 < n) {at_ : Nat} {way : Int} (hw : way = 1 ∨ way = -1) {t : Nat} (ht : t < n) : ipN n at_ way (pN n at_ way t) = t := by
  have h1 := pN_cast hn at_ way t
  have h2 : ((ipN n at_ way (pN n at_ way t) : Nat) : Int) = (way * (((pN n at_ way t : Nat) : Int) - (at_ : Int))) % (n : Int) := Int.toNat_of_nonneg (Int.emod_nonneg _ (by omega))
  rw [← h1, Int.emod_def ((at_ : Int) + way * (t : Int))] at h2
  have h3 := emod_off (n := n) (a := way * ((at_ : Int) + way * (t : Int) - (n : Int) * (((at_ : Int) + way * (t : Int)) / (n : Int)) - (at_ : Int))) (b := (t : Int)) (q := way * (((at_ : Int) + way * (t : Int)) / (n : Int))) (by
    rw [Int.mul_sub, Int.mul_sub, Int.mul_add, way_sq hw, Int.mul_left_comm way]
    omega) (by omega) (by omega)
  omega
end
section
variable {n : Nat} {p : Nat → Nat}
structure ChInv (n : Nat) (p : Nat → Nat) (s : Nat) (c : Ch) : Prop where
  A : ∀ t, t < n → c.rows.getD (p t) 0 = if n - s ≤ t ∧ t + 1 < n then 2 ^ p (t + 1) else 0
  B : ∀ t, n - s ≤ t → t < n → ∀ j, (c.whole.getD (p t) 0).testBit j = true ↔ ∃ u, t ≤ u ∧ u < n ∧ p u = j
  C : ∀ t, t < n → c.back.getD (p t) 0 = if n - s ≤ t ∧ 0 < t then 2 ^ p (t - 1) else 0
  U : ∀ j, c.up.testBit j = true ↔ ∃ u, n - s ≤ u ∧ u < n ∧ p u = j
theorem ch_inv (hl : ∀ t, p t < n) (hinj : ∀ t u, t < n → u < n → p t = p u → t = u) : ∀ s, s ≤ n → ChInv n p s (chS n p s)
  | 0, _ => by
    have e : ∀ x, (List.replicate n 0).getD x 0 = 0 := fun x => by
      rw [List.getD_eq_getElem?_getD, List.getElem?_replicate]
      split <;> rfl
    refine ⟨fun t ht => ?_, fun t h1 h2 => by omega, fun t ht => ?_, fun j => ?_⟩
    · rw [if_neg (by omega)]
      exact e _
    · rw [if_neg (by omega)]
      exact e _
    · show (0 : Nat).testBit j = true ↔ _
      rw [Nat.zero_testBit]
      refine ⟨fun h => (nomatch h), fun ⟨u, h1, h2, _⟩ => by omega⟩
  | s + 1, h => by
    obtain ⟨l1, l2, l3⟩ := chS_len n p s
    have I := ch_inv hl hinj s (by omega)
    show ChInv n p (s + 1) (chN n p (n - 1 - s) (chS n p s))
    generalize chS n p s = c at l1 l2 l3 I ⊢
    obtain ⟨t0, ht0⟩ : ∃ t0, t0 = n - 1 - s := ⟨_, rfl⟩
    rw [← ht0]
    have hU : ∀ j, (c.up ||| 2 ^ p t0).testBit j = true ↔ ∃ u, n - (s + 1) ≤ u ∧ u < n ∧ p u = j := fun j => by
      rw [Nat.testBit_or, Bool.or_eq_true, I.U, Nat.testBit_two_pow, decide_eq_true_eq]
      constructor
      · rintro (⟨u, h1, h2⟩ | e)
        · exact ⟨u, by omega, h2⟩
        · exact ⟨t0, by omega, by omega, e⟩
      · rintro ⟨u, h1, h2, h3⟩
        by_cases e : u = t0
        · exact .inr (by rw [← e]; exact h3)
        · exact .inl ⟨u, by omega, h2, h3⟩
    refine ⟨fun t ht => ?_, fun t h1 h2 j => ?_, fun t ht => ?_, hU⟩
    · show (if t0 + 1 < n then c.rows.set (p t0) (2 ^ p (t0 + 1)) else c.rows).getD (p t) 0 = _
      by_cases e : t = t0
      · rw [e]
        by_cases q : t0 + 1 < n
        · rw [if_pos q, getD_set (by rw [l1]; exact hl t0), if_pos rfl, if_pos ⟨by omega, q⟩]
        · rw [if_neg q, if_neg (by omega), I.A t0 (by omega), if_neg (by omega)]
      · have hne : p t ≠ p t0 := fun q => e (hinj t t0 ht (by omega) q)
        have e1 : (if t0 + 1 < n then c.rows.set (p t0) (2 ^ p (t0 + 1)) else c.rows).getD (p t) 0 = c.rows.getD (p t) 0 := by
          split
          · rw [getD_set (by rw [l1]; exact hl t0), if_neg hne]
          · rfl
        rw [e1, I.A t ht]
        by_cases q : n - s ≤ t ∧ t + 1 < n
        · rw [if_pos q, if_pos (by omega)]
        · rw [if_neg q, if_neg (by omega)]
    · show ((c.whole.set (p t0) (c.up ||| 2 ^ p t0)).getD (p t) 0).testBit j = true ↔ _
      rw [getD_set (by rw [l2]; exact hl t0)]
      by_cases e : t = t0
      · rw [e, if_pos rfl, hU]
        exact ⟨fun ⟨u, q1, q2⟩ => ⟨u, by omega, q2⟩, fun ⟨u, q1, q2⟩ => ⟨u, by omega, q2⟩⟩
      · rw [if_neg fun q => e (hinj t t0 h2 (by omega) q)]
        exact I.B t (by omega) h2 j
    · show (if 0 < t0 then c.back.set (p t0) (2 ^ p (t0 - 1)) else c.back).getD (p t) 0 = _
      by_cases e : t = t0
      · rw [e]
        by_cases q : 0 < t0
        · rw [if_pos q, getD_set (by rw [l3]; exact hl t0), if_pos rfl, if_pos ⟨by omega, q⟩]
        · rw [if_neg q, if_neg (by omega), I.C t0 (by omega), if_neg (by omega)]
      · have hne : p t ≠ p t0 := fun q => e (hinj t t0 ht (by omega) q)
        have e1 : (if 0 < t0 then c.back.set (p t0) (2 ^ p (t0 - 1)) else c.back).getD (p t) 0 = c.back.getD (p t) 0 := by
          split
          · rw [getD_set (by rw [l3]; exact hl t0), if_neg hne]
          · rfl
        rw [e1, I.C t ht]
        by_cases q : n - s ≤ t ∧ 0 < t
        · rw [if_pos q, if_pos (by omega)]
        · rw [if_neg q, if_neg (by omega)]
theorem chain_okP (n1 : 1 ≤ n) (n2 : n ≤ 60) (hl : ∀ t, p t < n) (hinj : ∀ t u, t < n → u < n → p t = p u → t = u) (hsur : ∀ i, i < n → ∃ t, t < n ∧ p t = i) : RelOk n (chS n p n).rows (chS n p n).whole (chS n p n).back := by
  obtain ⟨l1, l2, l3⟩ := chS_len n p n
  have I := ch_inv hl hinj n (Nat.le_refl n)
  generalize chS n p n = c at l1 l2 l3 I ⊢
  have rb : ∀ {t j : Nat}, t < n → ((c.rows.getD (p t) 0).testBit j = true ↔ t + 1 < n ∧ p (t + 1) = j) := fun {t j} ht => by
    rw [I.A t ht]
    by_cases q : t + 1 < n
    · rw [if_pos ⟨by omega, q⟩, Nat.testBit_two_pow, decide_eq_true_eq]
      exact ⟨fun e => ⟨q, e⟩, fun e => e.2⟩
    · rw [if_neg (by omega), Nat.zero_testBit]
      exact ⟨fun e => (nomatch e), fun e => absurd e.1 q⟩
  have bb : ∀ {t j : Nat}, t < n → ((c.back.getD (p t) 0).testBit j = true ↔ 0 < t ∧ p (t - 1) = j) := fun {t j} ht => by
    rw [I.C t ht]
    by_cases q : 0 < t
    · rw [if_pos ⟨by omega, q⟩, Nat.testBit_two_pow, decide_eq_true_eq]
      exact ⟨fun e => ⟨q, e⟩, fun e => e.2⟩
    · rw [if_neg (by omega), Nat.zero_testBit]
      exact ⟨fun e => (nomatch e), fun e => absurd e.1 q⟩
  have wb : ∀ {t j : Nat}, t < n → ((c.whole.getD (p t) 0).testBit j = true ↔ ∃ u, t ≤ u ∧ u < n ∧ p u = j) := fun {t j} ht => I.B t (by omega) ht j
  have rl : Rl n c.rows := ⟨l1, fun i hi => lt_of_bits fun j hj => by
    obtain ⟨t, ht, rfl⟩ := hsur i hi
    rw [← ((rb ht).mp hj).2]
    exact hl _⟩
  have wl : Rl n c.whole := ⟨l2, fun i hi => lt_of_bits fun j hj => by
    obtain ⟨t, ht, rfl⟩ := hsur i hi
    obtain ⟨u, _, _, e⟩ := (wb ht).mp hj
    rw [← e]
    exact hl _⟩
  refine .of n1 n2 rl ?_ ?_
  · refine closed_is rl wl (fun i hi => ?_) (fun i j k h1 h2 => ?_) fun i j h => ?_
    · obtain ⟨t, ht, rfl⟩ := hsur i hi
      exact (wb ht).mpr ⟨t, Nat.le_refl t, ht, rfl⟩
    · obtain ⟨t, ht, rfl⟩ := hsur i (rl.bit h1).1
      obtain ⟨q, rfl⟩ := (rb ht).mp h1
      obtain ⟨u, h3, h4, h5⟩ := (wb q).mp h2
      exact (wb ht).mpr ⟨u, by omega, h4, h5⟩
    · obtain ⟨t, ht, rfl⟩ := hsur i (wl.bit h).1
      obtain ⟨u, h3, h4, rfl⟩ := (wb ht).mp h
      have go : ∀ d t : Nat, t + d < n → Rch c.rows (p t) (p (t + d)) := fun d => by
        induction d with
        | zero => intro t _; exact .refl _
        | succ d ih =>
          intro t h
          refine .step (j := p (t + 1)) ((rb (by omega)).mpr ⟨by omega, rfl⟩) ?_
          have := ih (t + 1) (by omega)
          rw [show t + (d + 1) = t + 1 + d by omega]
          exact this
      have := go (u - t) t (by omega)
      rw [show t + (u - t) = u by omega] at this
      exact this
  · refine rl_ext (n := n) (by rw [flipped_len, l1]) l3 fun i j hi => ?_
    obtain ⟨t, ht, rfl⟩ := hsur i hi
    rw [flipped_bit rl, bb ht]
    constructor
    · intro h
      obtain ⟨u, hu, rfl⟩ := hsur j (rl.bit h).1
      obtain ⟨q, e⟩ := (rb hu).mp h
      have := hinj _ _ q ht e
      exact ⟨by omega, by rw [show t - 1 = u by omega]⟩
    · rintro ⟨h1, rfl⟩
      exact (rb (by omega)).mpr ⟨by omega, by rw [show t - 1 + 1 = t by omega]⟩
end
theorem chain_ok {n at_ : Nat} {way : Int} (n1 : 1 ≤ n) (n2 : n ≤ 60) (hw : way = 1 ∨ way = -1) : RelOk n (chS n (pN n at_ way) n).rows (chS n (pN n at_ way) n).whole (chS n (pN n at_ way) n).back :=
  chain_okP n1 n2 (fun t => pN_lt n1 at_ way t) (fun t u ht hu e => by rw [← ip_p n1 (at_ := at_) hw ht, e, ip_p n1 hw hu]) fun i hi => ⟨ipN n at_ way i, by
    have h2 : ((ipN n at_ way i : Nat) : Int) = (way * ((i : Int) - (at_ : Int))) % (n : Int) := Int.toNat_of_nonneg (Int.emod_nonneg _ (by omega))
    have := Int.emod_lt_of_pos (way * ((i : Int) - (at_ : Int))) (show (0 : Int) < n by omega)
    omega, p_ip n1 hw hi⟩
end K11
end
section
set_option Elab.async false
set_option linter.all false
set_option maxRecDepth 100000
set_option maxHeartbeats 8000000
namespace K11
open PySem PySem.Spec PyProof.Rows L2 Wv Km
section
variable {P : Program} {w : World} {K : PySem.W.Frag} {mg : Str → Option Value} {base : Heap} {a : Adr}
section
variable {X : Cx} {N : List Str} {sc : Scope} {tp : Bool} {ρ : List SV} {e : Expr} {p p0 pos : Pos} {n0 : Str} {i k m kk : Nat} {s : Stt}
theorem d_nat (m : Nat) : ED X (.Constant (.int ((m : Nat) : Int)) kk pos) ρ ρ (.int ((m : Nat) : Int)) := d_int
theorem d_take (S : Sco X N sc tp) (CT : Fnc X.prog X.w X.K X.mg X.base CX0 2 "_law_take" ["state", "m"] (spM X.K RTake)) (hr : Room k X.A) (hg : Gl X "_law_take") (i : Nat) (hi : ρ[i]? = some (.own (.l (stD s)))) (h0 : 0 < m) (h1 : m < 1000) (h : ED X e ρ ρ (.int (m : Int))) (hN : N[i]? = some n0 := by rfl)
    (hv : Vis sc n0 := by first | exact Or.inl rfl | exact Or.inr (Or.inl rfl) | exact Or.inr (Or.inr rfl)) (hj : 2 ≤ k := by decide) (hd0 : (n0 == ("__debug__" : Str)) = false := by decide) (hcd0 : (n0 == ("__classdict__" : Str)) = false := by decide)
    (he : starEach [.Name n0 p0, e] X.env = (false, eval (.Name n0 p0) X.env) :: starEach [e] X.env := by rfl) (he2 : starEach [e] X.env = (false, eval e X.env) :: starEach [] X.env := by rfl) :
    ED X (.Call (.Name "_law_take" p) [.Name n0 p0, e] [] pos) ρ (ρ.set i (.own (.l (stD (nxt s m))))) (.int ((dig s m : Nat) : Int)) :=
  d_fnM S i CT hr hi (a_cons h a_nil he2) hi ⟨s, m, h0, h1, rfl, rfl, rfl, rfl⟩ hg hN hv hj hd0 hcd0 (by decide) he (by rw [he2]; rfl)
end
theorem mask_bit : ∀ (l : List Nat) (d j : Nat), ((l.foldl (fun m x => m ||| 2 ^ x) d).testBit j = true ↔ d.testBit j = true ∨ j ∈ l)
  | [], d, j => by simp
  | x :: l, d, j => by
    rw [List.foldl_cons, mask_bit l, Nat.testBit_or, Bool.or_eq_true, Nat.testBit_two_pow, decide_eq_true_eq, List.mem_cons, or_assoc]
    refine or_congr_right (or_congr_left ⟨Eq.symm, Eq.symm⟩)
theorem maskOf_bit {l : List Nat} {j : Nat} : (maskOf l).testBit j = true ↔ j ∈ l := by
  unfold maskOf
  rw [mask_bit]
  simp
theorem mask_twice (l : List Nat) : maskOf (l ++ l.take 1) = maskOf l := bit_ext fun j => by
  rw [maskOf_bit, maskOf_bit, List.mem_append]
  exact ⟨fun h => h.elim id List.mem_of_mem_take, .inl⟩
theorem nodup_len : ∀ (ms l : List Nat), ms.Nodup → (∀ x ∈ ms, x ∈ l) → ms.length ≤ l.length
  | [], l, _, _ => Nat.zero_le _
  | x :: ms, l, h, q => by
    obtain ⟨h1, h2⟩ := List.nodup_cons.mp h
    have hx := q x List.mem_cons_self
    have := nodup_len ms (l.erase x) h2 fun y hy => (List.mem_erase_of_ne (fun e => h1 (by rw [← e]; exact hy))).mpr (q y (List.mem_cons_of_mem _ hy))
    rw [List.length_erase_of_mem hx] at this
    have h0 := List.length_pos_of_mem hx
    rw [List.length_cons]
    omega
def RelD (n : Nat) (d : Da) : Prop := ∃ r w b, RelOk n r w b ∧ d = triD r w b
def tabD (R : List (List Nat)) : Da := .lst (R.map fun l => .lst (ns l))
theorem tab_q {R : List (List Nat)} (h : R.length = 4) (hl : ∀ l ∈ R, l.length ≤ 60) : ∃ x : Q4, tabD R = q4D x ∧ Q4s x := by
  obtain ⟨p, q, r, s, rfl⟩ := list4 h
  exact ⟨⟨p, q, r, s⟩, rfl, hl p (by simp), hl q (by simp), hl r (by simp), hl s (by simp)⟩
structure LawG (P : Program) (w : World) (K : PySem.W.Frag) (mg : Str → Option Value) (base : Heap) : Prop where
  take : Fnc P w K mg base CX0 2 "_law_take" ["state", "m"] (spM K RTake)
  chain : Fnc P w K mg base CX0 2 "_law_chain" ["n", "at", "way"] (spD K RChain)
  ring : Fnc P w K mg base CX0 4 "_law_ring" ["n", "step"] (spD K RRing)
  blocks : Fnc P w K mg base CX0 2 "_law_blocks" ["n", "size"] (spD K RBlocks)
  func : Fnc P w K mg base CX0 2 "_law_function" ["n", "times", "more", "out"] (spD K RFunc)
  sh : Fnc P w K mg base CX0 2 "_law_shifted" ["n", "shifts"] (spD K RSh)
  rel : FncG P w K mg base 6 "_law_relation" ["found", "other", "mask"] (spD K RRel)
  prods : FncG P w K mg base 10 "_law_products" ["n", "one", "two"] (spD K RProds)
  equ : FncG P w K mg base 10 "_law_equals" ["state", "n", "shifts"] (spM K REqu)
  bads : Fnc P w K mg base CX0 10 "_law_bads" ["state", "n", "shifts"] (spM K RBads)
  mask : Fnc P w K mg base CX0 2 "mask_of" ["numbers"] (spD K RMask)
  mem : Fnc P w K mg base CX0 2 "members" ["mask"] (spD K RMem)
  units : FncG P w K mg base 10 "_law_units" ["n", "less"] (spD K RUnits)
def lawN : List Str := ["script", "state", "n", "mask", "k", "relations", "times", "more", "tables", "rows", "t", "many", "row", "q", "found", "other", "numbers", "due", "number"]
theorem sc_law : FnScope lawN ["script"] (defScope (top 45)) := ⟨rfl, rfl, rfl, by decide +kernel, rfl, by decide +kernel, by decide +kernel⟩
theorem or_lt {m n x : Nat} (h : m < 2 ^ n) (hx : x < n) : m ||| 2 ^ x < 2 ^ n := Nat.or_lt_two_pow h (Nat.pow_lt_pow_right (by decide) hx)
/-- the last part: the list of numbers, and the units -/
theorem law_end (B : Bl mg) (C : LawG P w K mg base) {X : Cx} (T : Top P w K mg base X) (S : Sco X lawN (defScope (top 45)) true) (hr : Room 10 X.A) (hgd : X.A.guards = some []) {scr0 : List Int} {s : Stt} {n : Nat} {z3 z4 z5 z6 z7 z8 z9 z10 z11 z12 z13 z14 z15 : SV} (h4 : z4.isOwn = false) (hn : 13 ≤ n) (hn2 : n ≤ 60) :
    SD X ((defBody (top 45)).drop 16) [.scr scr0, .own (.l (stD s)), .d (.int n), z3, z4, z5, z6, z7, z8, z9, z10, z11, z12, z13, z14, z15, .any, .any, .any] DeS := by
  obtain ⟨rfl, rfl, rfl, rfl, rfl⟩ := T
  have hg := S.gl (x := "_law_take") rfl
  refine q_asgO S 16 (f_lst a_nil (by decide)) ?_
  have hd := dig_lt s (show 0 < 7 by decide)
  refine q_for S (d_range (m := (3 + dig s 7) % 7) (S.gl rfl) B.range (d_modN (by decide) (d_toInt (S.gl rfl) B.int (d_addN (d_nat 3) (d_take S C.take hr hg 1 rfl (by decide) (by decide) (d_nat 7)))) (d_nat 7)) (by have := Nat.mod_lt (3 + dig s 7) (show 0 < 7 by decide); omega))
    (fun k ρ => ∃ s l z, ρ = [.scr scr0, .own (.l (stD s)), .d (.int n), z3, z, z5, z6, z7, z8, z9, z10, z11, z12, z13, z14, z15, .own (.l (ns l)), .any, .any] ∧ z.isOwn = false ∧ l.length = k ∧ ∀ x ∈ l, x < 201) ⟨_, [], z4, rfl, h4, rfl, fun x h => nomatch h⟩ (fun k ρ hk ⟨s, l, z, hρ, hz, hl, hx⟩ => ?_) (fun ρ ⟨s, l, z, hρ, hz, hl, hx⟩ => ?_)
  · subst hρ
    have hk6 : k < 7 := Nat.lt_trans hk (Nat.mod_lt _ (by decide))
    refine ⟨_, g_nm S 4 (nz1 rfl hz), ?_⟩
    refine q_push S 16 (d_modN (by decide) (d_toInt (S.gl rfl) B.int (d_addN (d_subN (m := 70) (by omega) (d_nat 70) (d_mulN (by decide) (d_nat 9) (d_nm S 4 rfl))) (d_take S C.take hr hg 1 rfl (by decide) (by decide) (d_nat 201)))) (d_nat 201)) rfl rfl (by rw [ns_len]; omega) (sd_nil ⟨nxt s 201, l ++ [(70 - 9 * k + dig s 201) % 201], .d (.int ((k : Nat) : Int)), ?_, rfl, by rw [List.length_append, hl]; rfl, fun x hx2 => ?_⟩)
    · rw [ns_app]
      rfl
    · rcases List.mem_append.mp hx2 with q | q
      · exact hx x q
      · rw [List.mem_singleton.mp q]
        exact Nat.mod_lt _ (by decide)
  · subst hρ
    have hl6 : l.length < 7 := by rw [hl]; exact Nat.mod_lt _ (by decide)
    refine q_pub (i := 16) rfl ?_
    refine q_asg S 17 d_n0 ?_
    refine q_for S (i_list (d_nm S 16 rfl)) (fun t ρ => ∃ z18, ρ = [.scr scr0, .own (.l (stD s)), .d (.int n), z3, z, z5, z6, z7, z8, z9, z10, z11, z12, z13, z14, z15, .d (.lst (ns l)), .d (.int ((maskOf (l.take t) : Nat) : Int)), z18] ∧ z18.isOwn = false) ⟨_, rfl, rfl⟩ (fun t ρ ht ⟨z18, hρ, hz18⟩ => ?_) (fun ρ ⟨z18, hρ, hz18⟩ => ?_)
    · subst hρ
      rw [ns_len] at ht
      rw [ns_getD ht]
      have := hx _ (List.mem_of_getElem? (getD_some ht))
      refine ⟨_, g_nm S 18 (nz1 rfl hz18), q_asg S 17 (d_orN (d_nm S 17 rfl) (d_oneN (by omega) (d_nm S 18 rfl))) (sd_nil ⟨.d (.int ((l.getD t 0 : Nat) : Int)), ?_, rfl⟩)⟩
      have e : maskOf (l.take (t + 1)) = maskOf (l.take t) ||| 2 ^ l.getD t 0 := by
        unfold maskOf
        rw [take_next (getD_some ht), List.foldl_append]
        rfl
      rw [e]
      rfl
    · subst hρ
      rw [ns_len, List.take_length]
      have hm201 : maskOf l < 2 ^ 201 := lt_of_bits fun j hj => hx j (maskOf_bit.mp hj)
      have smI : Sm 0 201 (.int ((maskOf l : Nat) : Int)) := sm_nat (by decide) (by decide) hm201
      have hml : ∀ x ∈ l ++ l.take 1, x ≤ 1000 := fun x h => by
        rcases List.mem_append.mp h with q | q
        · have := hx x q; omega
        · have := hx x (List.mem_of_mem_take q); omega
      refine q_if (t_neS (d_repr (kdI _) smI (by decide) (by decide) hgd hr (S.gl rfl) B.repr (d_fn C.mask hr (a_cons (d_is (y := .lst (ns (l ++ l.take 1))) (f_d (f_cat (by rw [show (1 : Int) = ((1 : Nat) : Int) from rfl, cutD_to, List.length_take, ns_len]; omega) (d_nm S 16 rfl) (f_d (f_slL (d_nm S 16 rfl) o_none (o_some d_int))))) (by
        rw [show (1 : Int) = ((1 : Nat) : Int) from rfl, cutD_to, ns_app]
        unfold ns
        rw [List.map_take])) a_nil) ⟨l ++ l.take 1, hml, rfl, by rw [mask_twice]⟩ (S.gl rfl))) (d_repr (kdI _) smI (by decide) (by decide) hgd hr (S.gl rfl) B.repr (d_nm S 17 rfl))) (fun hb => by rw [decide_eq_true rfl] at hb; cases hb) (fun _ => sd_nil ?_)
      have hbl : (bitsN (maskOf l)).length ≤ l.length := nodup_len _ _ ((bits_sorted _).imp fun h => by omega) fun x h => maskOf_bit.mp (mem_bits.mp h)
      have smB : Sm 1 2000 (.lst (ns (bitsN (maskOf l)))) := (Sm.lst (sms_ns (k := 0) (b := 8) (by decide) (by decide) fun x h => Nat.lt_trans (hx x (maskOf_bit.mp (mem_bits.mp h))) (by decide))).le (Nat.le_refl _) (by omega)
      refine q_if (t_neS (d_repr (kdL _) smB (by decide) (by decide) hgd hr (S.gl rfl) B.repr (d_fn C.mem hr (a_cons (d_nm S 17 rfl) a_nil) ⟨maskOf l, pow_300 (by decide) hm201, rfl, rfl⟩ (S.gl rfl))) (d_repr (kdL _) smB (by decide) (by decide) hgd hr (S.gl rfl) B.repr (d_is (f_d (f_sortedSet (ns := zs l) (ms := zs (bitsN (maskOf l))) (by rw [zs_len]; omega) (by rw [zs_len]; omega) ?_ (fun k => ?_) S.calm (S.gl rfl) B.sorted (S.gl rfl) B.set (d_is (d_nm S 16 rfl) (by rw [ns_zs]; rfl)))) (by rw [ns_zs]; rfl)))) (fun hb => by rw [decide_eq_true rfl] at hb; cases hb) (fun _ => sd_nil ?_)
      · unfold zs
        rw [List.pairwise_map]
        exact (bits_sorted _).imp fun h => by omega
      · unfold zs
        rw [List.mem_map, List.mem_map]
        exact exists_congr fun x => and_congr_left fun _ => by rw [mem_bits, maskOf_bit]
      have hdn := dig_lt s (show 0 < n - 1 by omega)
      exact q_ret (d_fnG C.units hr hgd (a_cons (d_nm S 2 rfl) (a_cons (d_addN (m := 1) (d_nat 1) (d_take S C.take hr hg 1 rfl (show 0 < n - 1 by omega) (by omega) (d_subN (by omega) (d_nm S 2 rfl) (d_nat 1)))) a_nil)) ⟨n, 1 + dig s (n - 1), hn2, by omega, by omega, rfl, rfl⟩ (S.gl rfl)) rfl
end
end K11
end
section
set_option Elab.async false
set_option linter.all false
set_option maxRecDepth 100000
set_option maxHeartbeats 8000000
namespace K11
open PySem PySem.Spec PyProof.Rows L2 Wv Km
section
variable {P : Program} {w : World} {K : PySem.W.Frag} {mg : Str → Option Value} {base : Heap} {a : Adr}
theorem list2 {α : Type} {L : List α} (h : L.length = 2) : ∃ a b, L = [a, b] := by
  match L, h with
  | [a, b], _ => exact ⟨a, b, rfl⟩
def rowD (R : List (List Nat)) : List Da := R.map fun l => .lst (ns l)
theorem rowD_app (R S : List (List Nat)) : rowD (R ++ S) = rowD R ++ rowD S := by simp [rowD]
theorem rowD_len (R : List (List Nat)) : (rowD R).length = R.length := by simp [rowD]
def tabsD (T : List (List (List Nat))) : List Da := T.map fun R => .lst (rowD R)
theorem tabsD_app (R S : List (List (List Nat))) : tabsD (R ++ S) = tabsD R ++ tabsD S := by simp [tabsD]
theorem tabsD_len (R : List (List (List Nat))) : (tabsD R).length = R.length := by simp [tabsD]
theorem law_mid (B : Bl mg) (C : LawG P w K mg base) {X : Cx} (T : Top P w K mg base X) (S : Sco X lawN (defScope (top 45)) true) (hr : Room 10 X.A) (hgd : X.A.guards = some []) {scr0 : List Int} {s : Stt} {n mask : Nat} {D1 D2 D3 D4 d6 d7 : Da} {z4 : SV} (h4 : z4.isOwn = false) (hn : 13 ≤ n) (hn2 : n ≤ 60) (hm : mask < 2 ^ n) (r1 : RelD n D1) (r2 : RelD n D2) (r3 : RelD n D3) (r4 : RelD n D4) :
    SD X ((defBody (top 45)).drop 11) [.scr scr0, .own (.l (stD s)), .d (.int n), .d (.int mask), z4, .d (.lst [D1, D2, D3, D4]), .d d6, .d d7, .any, .any, .any, .any, .any, .any, .any, .any, .any, .any, .any] DeS := by
  have TT := T
  obtain ⟨rfl, rfl, rfl, rfl, rfl⟩ := T
  have hg := S.gl (x := "_law_take") rfl
  refine q_asgO S 8 (f_lst a_nil (by decide)) ?_
  refine q_for S (d_range (m := 2) (S.gl rfl) B.range (d_nat 2) (by decide))
    (fun k ρ => ∃ s T z4 z9 z10 z11 z12 z13, ρ = [.scr scr0, .own (.l (stD s)), .d (.int n), .d (.int mask), z4, .d (.lst [D1, D2, D3, D4]), .d d6, .d d7, .own (.l (tabsD T)), z9, z10, z11, z12, z13, .any, .any, .any, .any, .any] ∧ (z4.isOwn = false ∧ z9.isOwn = false ∧ z10.isOwn = false ∧ z11.isOwn = false ∧ z12.isOwn = false ∧ z13.isOwn = false) ∧ T.length = k ∧ ∀ R ∈ T, R.length = 4 ∧ ∀ l ∈ R, l.length ≤ 2) ⟨s, [], z4, .any, .any, .any, .any, .any, rfl, ⟨h4, rfl, rfl, rfl, rfl, rfl⟩, rfl, fun R h => nomatch h⟩ (fun k ρ hk ⟨s, T, z4, z9, z10, z11, z12, z13, hρ, ⟨h4, h9, h10, h11, h12, h13⟩, hT, hT2⟩ => ?_) (fun ρ ⟨s, T, z4, z9, z10, z11, z12, z13, hρ, ⟨h4, h9, h10, h11, h12, h13⟩, hT, hT2⟩ => ?_)
  · subst hρ
    refine ⟨_, g_nm S 4 (nz1 rfl h4), q_asgO S 9 (f_lst a_nil (by decide)) (hn := nz1 rfl h9) ?_⟩
    refine q_for S (d_range (m := 4) (S.gl rfl) B.range (d_nat 4) (by decide))
      (fun t ρ => ∃ s R z10 z11 z12 z13, ρ = [.scr scr0, .own (.l (stD s)), .d (.int n), .d (.int mask), .d (.int ((k : Nat) : Int)), .d (.lst [D1, D2, D3, D4]), .d d6, .d d7, .own (.l (tabsD T)), .own (.l (rowD R)), z10, z11, z12, z13, .any, .any, .any, .any, .any] ∧ (z10.isOwn = false ∧ z11.isOwn = false ∧ z12.isOwn = false ∧ z13.isOwn = false) ∧ R.length = t ∧ ∀ l ∈ R, l.length ≤ 2) ⟨s, [], z10, z11, z12, z13, rfl, ⟨h10, h11, h12, h13⟩, rfl, fun R h => nomatch h⟩ (fun t ρ ht ⟨s, R, z10, z11, z12, z13, hρ, ⟨h10, h11, h12, h13⟩, hR, hR2⟩ => ?_) (fun ρ ⟨s, R, z10, z11, z12, z13, hρ, ⟨h10, h11, h12, h13⟩, hR, hR2⟩ => ?_)
    · subst hρ
      refine ⟨_, g_nm S 10 (nz1 rfl h10), ?_⟩
      refine q_asg S 11 (d_modN (n := 3) (by decide) (d_toInt (S.gl rfl) B.int (d_addN (d_addN (d_addN (d_nat 1) (d_nm S 10 rfl)) (d_nm S 4 rfl)) (d_take S C.take hr hg 1 rfl (by decide) (by decide) (d_nat 3)))) (d_nat 3)) (hn := nz1 rfl h11) ?_
      have hmany := Nat.mod_lt (1 + t + k + dig s 3) (show 0 < 3 by decide)
      generalize (1 + t + k + dig s 3) % 3 = many at hmany ⊢
      generalize nxt s 3 = s
      refine q_asgO S 12 (f_lst a_nil (by decide)) (hn := nz1 rfl h12) ?_
      refine q_for S (d_range (S.gl rfl) B.range (d_nm S 11 rfl) (by omega))
        (fun q ρ => ∃ s l z13, ρ = [.scr scr0, .own (.l (stD s)), .d (.int n), .d (.int mask), .d (.int ((k : Nat) : Int)), .d (.lst [D1, D2, D3, D4]), .d d6, .d d7, .own (.l (tabsD T)), .own (.l (rowD R)), .d (.int ((t : Nat) : Int)), .d (.int ((many : Nat) : Int)), .own (.l (ns l)), z13, .any, .any, .any, .any, .any] ∧ z13.isOwn = false ∧ l.length = q) ⟨s, [], z13, rfl, h13, rfl⟩ (fun q ρ hq ⟨s, l, z13, hρ, h13, hl⟩ => ?_) (fun ρ ⟨s, l, z13, hρ, h13, hl⟩ => ?_)
      · subst hρ
        refine ⟨_, g_nm S 13 (nz1 rfl h13), ?_⟩
        refine q_push S 12 (d_modN (n := n) (by omega) (d_toInt (S.gl rfl) B.int (d_addN (d_addN (d_addN (d_mulN (m := 7) (by decide) (d_nat 7) (d_nm S 13 rfl)) (d_mulN (m := 3) (by decide) (d_nat 3) (d_nm S 10 rfl))) (d_nm S 4 rfl)) (d_take S C.take hr hg 1 rfl (show 0 < n by omega) (by omega) (d_nm S 2 rfl)))) (d_nm S 2 rfl)) rfl rfl (by rw [ns_len]; omega) (sd_nil ⟨nxt s n, l ++ [(7 * q + 3 * t + k + dig s n) % n], .d (.int ((q : Nat) : Int)), ?_, rfl, by rw [List.length_append, hl]; rfl⟩)
        rw [ns_app]
        rfl
      · subst hρ
        refine q_pub (i := 12) rfl (q_push S 9 (d_nm S 12 rfl) rfl rfl (by rw [rowD_len]; omega) (sd_nil ⟨s, R ++ [l], .d (.int ((t : Nat) : Int)), .d (.int ((many : Nat) : Int)), .d (.lst (ns l)), z13, ?_, ⟨rfl, rfl, rfl, h13⟩, by rw [List.length_append, hR]; rfl, fun x hx => ?_⟩))
        · rw [rowD_app]
          rfl
        · rcases List.mem_append.mp hx with q | q
          · exact hR2 x q
          · rw [List.mem_singleton.mp q, hl]
            omega
    · subst hρ
      refine q_pub (i := 9) rfl (q_push S 8 (d_nm S 9 rfl) rfl rfl (by rw [tabsD_len]; omega) (sd_nil ⟨s, T ++ [R], .d (.int ((k : Nat) : Int)), .d (.lst (rowD R)), z10, z11, z12, z13, ?_, ⟨rfl, rfl, h10, h11, h12, h13⟩, by rw [List.length_append, hT]; rfl, fun x hx => ?_⟩))
      · rw [tabsD_app]
        rfl
      · rcases List.mem_append.mp hx with q | q
        · exact hT2 x q
        · rw [List.mem_singleton.mp q]
          exact ⟨hR, hR2⟩
  · subst hρ
    obtain ⟨R0, R1, rfl⟩ := list2 hT
    obtain ⟨a0, b0⟩ := hT2 R0 (by simp)
    obtain ⟨a1, b1⟩ := hT2 R1 (by simp)
    obtain ⟨x, ex, qx⟩ := tab_q a0 fun l h => Nat.le_trans (b0 l h) (by decide)
    obtain ⟨y, ey, qy⟩ := tab_q a1 fun l h => Nat.le_trans (b1 l h) (by decide)
    have et : tabsD [R0, R1] = [q4D x, q4D y] := by
      rw [← ex, ← ey]
      rfl
    rw [et]
    refine q_pub (i := 8) rfl ?_
    refine q_for S (i_list (d_nm S 5 rfl)) (fun i ρ => ∃ s z14 z15, ρ = [.scr scr0, .own (.l (stD s)), .d (.int n), .d (.int mask), z4, .d (.lst [D1, D2, D3, D4]), .d d6, .d d7, .d (.lst [q4D x, q4D y]), z9, z10, z11, z12, z13, z14, z15, .any, .any, .any] ∧ z14.isOwn = false ∧ z15.isOwn = false) ⟨s, _, _, rfl, rfl, rfl⟩ (fun i ρ hi ⟨s, z14, z15, hρ, h14, h15⟩ => ?_) (fun ρ ⟨s, z14, z15, hρ, h14, h15⟩ => ?_)
    · subst hρ
      have hi4 : i < 4 := hi
      have hD : RelD n ([D1, D2, D3, D4].getD i .non) := by
        rcases (show i = 0 ∨ i = 1 ∨ i = 2 ∨ i = 3 by omega) with rfl | rfl | rfl | rfl
        · exact r1
        · exact r2
        · exact r3
        · exact r4
      generalize [D1, D2, D3, D4].getD i .non = d at hD ⊢
      obtain ⟨r, wh, bk, ok, rfl⟩ := hD
      refine ⟨_, g_nm S 14 (nz1 rfl h14), ?_⟩
      refine q_asg S 15 (d_fn C.sh hr (a_cons (d_nm S 2 rfl) (a_cons (f_d (f_lst (a_cons (d_modN (n := n) (by omega) (d_toInt (S.gl rfl) B.int (d_addN (m := 4) (d_nat 4) (d_take S C.take hr hg 1 rfl (show 0 < n by omega) (by omega) (d_nm S 2 rfl)))) (d_nm S 2 rfl)) a_nil) (by show 1 ≤ 1000; decide))) a_nil)) ⟨n, [(4 + dig s n) % n], by omega, by omega, rfl, rfl⟩ (S.gl rfl)) (hn := nz1 rfl h15) ?_
      exact q_if (t_not (t_val (d_fnG C.rel hr hgd (a_cons (d_nm S 14 rfl) (a_cons (d_nm S 15 rfl) (a_cons (d_nm S 3 rfl) a_nil))) ⟨n, r, wh, bk, _, mask, ok, sh_rl (by omega) _, hm, rfl, rfl⟩ (S.gl rfl)))) (fun hb => nomatch hb) (fun _ => sd_nil (sd_nil ⟨nxt s n, .d (triD r wh bk), .d (.tup (ns (shN n [(4 + dig s n) % n]))), rfl, rfl, rfl⟩))
    · subst hρ
      refine q_if (t_not (t_val (d_fnG C.prods hr hgd (a_cons (d_nm S 2 rfl) (a_cons (d_ixL (j := 0) (x := q4D x) rfl (d_nm S 8 rfl) d_int) (a_cons (d_ixL (j := 1) (x := q4D y) rfl (d_nm S 8 rfl) d_int) a_nil))) ⟨n, x, y, by omega, hn2, qx, qy, rfl, rfl⟩ (S.gl rfl)))) (fun hb => nomatch hb) (fun _ => sd_nil ?_)
      refine q_if (t_orF (t_not (i := true) (t_val (d_fnMG S 1 C.equ hr hgd rfl (a_cons (d_nm S 2 rfl) (a_cons (d_ixL (j := 0) (x := q4D x) rfl (d_nm S 8 rfl) d_int) a_nil)) rfl ⟨s, n, x, by omega, hn2, rfl, rfl, rfl, rfl⟩ (S.gl rfl)))) (t_not (i := true) (t_val (d_fnM S 1 C.bads hr rfl (a_cons (d_nm S 2 rfl) (a_cons (d_ixL (j := 1) (x := q4D y) rfl (d_nm S 8 rfl) d_int) a_nil)) rfl ⟨eqS n s 4, n, y, by omega, hn2, rfl, rfl, rfl, rfl⟩ (S.gl rfl))))) (fun hb => nomatch hb) (fun _ => sd_nil ?_)
      exact law_end B C TT S hr hgd h4 hn hn2
end
end K11
end
section
set_option Elab.async false
set_option linter.all false
set_option maxRecDepth 100000
set_option maxHeartbeats 8000000
namespace K11
open PySem PySem.Spec PyProof.Rows L2 Wv Km
section
variable {P : Program} {w : World} {K : PySem.W.Frag} {mg : Str → Option Value} {base : Heap} {a : Adr}
theorem ok_law (B : Bl mg) (C : LawG P w K mg base) {f : Addr} {fd : FuncData} (F : Fun K "law" "law" (top 45) f fd) : FnG P w K mg base CX0 11 f fd ["script"] (spS K 63) := by
  refine fn_s F sc_law fun X T S hr hgd scr0 hlen => ?_
  have TT := T
  obtain ⟨rfl, rfl, rfl, rfl, rfl⟩ := T
  have hg := S.gl (x := "_law_take") rfl
  refine q_asgO S 1 (f_is (es := stD ⟨scr0.take 63, 0, 0⟩) (f_lst (a_cons (f_d (f_list (S.gl rfl) B.list (f_d (f_slS S 0 rfl o_none (o_some d_int))))) (a_cons d_int (a_cons d_int a_nil))) (by show 3 ≤ 1000; decide)) (by
    show [Da.lst (cutD (scr0.map Da.int) none (some ((63 : Nat) : Int))), .int 0, .int 0] = stD ⟨scr0.take 63, 0, 0⟩
    rw [cutD_to, ← List.map_take]
    rfl)) ?_
  generalize (⟨scr0.take 63, 0, 0⟩ : Stt) = s
  refine q_asg S 2 (d_addN (m := 13) (d_nat 13) (d_modN (n := 48) (by decide) (d_toInt (S.gl rfl) B.int (d_addN (m := 20) (d_nat 20) (d_take S C.take hr hg 1 rfl (by decide) (by decide) (d_nat 48)))) (d_nat 48))) ?_
  have hd := Nat.mod_lt (20 + dig s 48) (show 0 < 48 by decide)
  generalize (20 + dig s 48) % 48 = d0 at hd ⊢
  generalize nxt s 48 = s
  refine q_ifc (fun ρ => ∃ s n, 13 ≤ n ∧ n ≤ 60 ∧ ρ = [.scr scr0, .own (.l (stD s)), .d (.int ((n : Nat) : Int)), .any, .any, .any, .any, .any, .any, .any, .any, .any, .any, .any, .any, .any, .any, .any, .any]) (t_eqN (n := 7) (d_take S C.take hr hg 1 rfl (by decide) (by decide) (d_nat 8)) (d_nat 7)) (fun _ => ?_) (fun _ => sd_nil ⟨nxt s 8, 13 + d0, by omega, by omega, rfl⟩) fun ρ ⟨s, n, hn, hn2, hρ⟩ => ?_
  · exact q_asg S 2 (d_nat 60) (sd_nil ⟨nxt s 8, 60, by decide, by decide, rfl⟩)
  subst hρ
  have n0 : 0 < n := by omega
  have n3 : n < 1000 := by omega
  refine q_asg S 3 d_n0 ?_
  have h5 := Nat.mod_lt (2 + dig s 5) (show 0 < 5 by decide)
  refine q_for S (d_range (m := 1 + (2 + dig s 5) % 5) (S.gl rfl) B.range (d_addN (m := 1) (d_nat 1) (d_modN (n := 5) (by decide) (d_toInt (S.gl rfl) B.int (d_addN (m := 2) (d_nat 2) (d_take S C.take hr hg 1 rfl (by decide) (by decide) (d_nat 5)))) (d_nat 5))) (by omega))
    (fun k ρ => ∃ s mk z4, ρ = [.scr scr0, .own (.l (stD s)), .d (.int ((n : Nat) : Int)), .d (.int ((mk : Nat) : Int)), z4, .any, .any, .any, .any, .any, .any, .any, .any, .any, .any, .any, .any, .any, .any] ∧ z4.isOwn = false ∧ mk < 2 ^ n) ⟨nxt s 5, 0, .any, rfl, rfl, Nat.two_pow_pos n⟩ (fun k ρ hk ⟨s, mk, z4, hρ, h4, hmk⟩ => ?_) (fun ρ ⟨s, mk, z4, hρ, h4, hmk⟩ => ?_)
  · subst hρ
    have hx := Nat.mod_lt (5 * k + dig s n) n0
    exact ⟨_, g_nm S 4 (nz1 rfl h4), q_asg S 3 (d_orN (d_nm S 3 rfl) (d_oneN (by omega) (d_modN (n := n) n0 (d_toInt (S.gl rfl) B.int (d_addN (d_mulN (m := 5) (by decide) (d_nat 5) (d_nm S 4 rfl)) (d_take S C.take hr hg 1 rfl n0 n3 (d_nm S 2 rfl)))) (d_nm S 2 rfl)))) (sd_nil ⟨nxt s n, mk ||| 2 ^ ((5 * k + dig s n) % n), .d (.int ((k : Nat) : Int)), rfl, rfl, or_lt hmk hx⟩)⟩
  subst hρ
  -- the chain
  have hw : ∀ j, j < 2 → ([Da.int 1, .int (-1)] : List Da)[j]? = some (.int (if j = 0 then 1 else -1)) := fun j hj => by
    rcases (show j = 0 ∨ j = 1 by omega) with rfl | rfl <;> rfl
  have hway : ∀ j : Nat, (if j = 0 then (1 : Int) else -1) = 1 ∨ (if j = 0 then (1 : Int) else -1) = -1 := fun j => by
    split
    · exact .inl rfl
    · exact .inr rfl
  refine q_asgO S 5 (f_lst (a_cons (d_fn C.chain hr (a_cons (d_nm S 2 rfl) (a_cons (d_take S C.take hr hg 1 rfl n0 n3 (d_nm S 2 rfl)) (a_cons (d_ixL (hw _ (dig_lt _ (by decide))) (f_d (f_lst (a_cons d_int (a_cons (d_neg d_int) a_nil)) (by show 2 ≤ 1000; decide))) (d_take S C.take hr hg 1 (m := 2) rfl (by decide) (by decide) (d_nat 2))) a_nil))) ⟨n, dig s n, _, by omega, by omega, hway _, rfl, rfl⟩ (S.gl rfl)) a_nil) (by show 1 ≤ 1000; decide)) ?_
  have r1 : RelD n (triD (chS n (pN n (dig s n) (if dig (nxt s n) 2 = 0 then 1 else -1)) n).rows (chS n (pN n (dig s n) (if dig (nxt s n) 2 = 0 then 1 else -1)) n).whole (chS n (pN n (dig s n) (if dig (nxt s n) 2 = 0 then 1 else -1)) n).back) := ⟨_, _, _, chain_ok (by omega) hn2 (hway _), rfl⟩
  generalize triD (chS n (pN n (dig s n) (if dig (nxt s n) 2 = 0 then 1 else -1)) n).rows (chS n (pN n (dig s n) (if dig (nxt s n) 2 = 0 then 1 else -1)) n).whole (chS n (pN n (dig s n) (if dig (nxt s n) 2 = 0 then 1 else -1)) n).back = D1 at r1 ⊢
  generalize nxt (nxt s n) 2 = s
  -- the ring
  have hk1 := Nat.mod_lt (6 + dig s n) n0
  refine q_push S 5 (d_fn C.ring hr (a_cons (d_nm S 2 rfl) (a_cons (d_modN (n := n) n0 (d_toInt (S.gl rfl) B.int (d_addN (m := 6) (d_nat 6) (d_take S C.take hr hg 1 rfl n0 n3 (d_nm S 2 rfl)))) (d_nm S 2 rfl)) a_nil)) ⟨n, (6 + dig s n) % n, by omega, by omega, hk1, rfl, rfl⟩ (S.gl rfl)) rfl rfl (by show 1 < 1000000; decide) ?_
  have r2 : RelD n (.tup [.tup (ns (shN n [(6 + dig s n) % n])), .tup (ns (shN n (mulN n [(6 + dig s n) % n]))), .tup (ns (shN n [n - (6 + dig s n) % n]))]) := ⟨_, _, _, ring_ok (by omega) hn2 hk1, rfl⟩
  generalize Da.tup [.tup (ns (shN n [(6 + dig s n) % n])), .tup (ns (shN n (mulN n [(6 + dig s n) % n]))), .tup (ns (shN n [n - (6 + dig s n) % n]))] = D2 at r2 ⊢
  generalize nxt s n = s
  -- the blocks
  have hk2 := Nat.mod_lt (3 + dig s n) n0
  refine q_push S 5 (d_fn C.blocks hr (a_cons (d_nm S 2 rfl) (a_cons (d_addN (m := 1) (d_nat 1) (d_modN (n := n) n0 (d_toInt (S.gl rfl) B.int (d_addN (m := 3) (d_nat 3) (d_take S C.take hr hg 1 rfl n0 n3 (d_nm S 2 rfl)))) (d_nm S 2 rfl))) a_nil)) ⟨n, 1 + (3 + dig s n) % n, by omega, by omega, by omega, by omega, rfl, rfl⟩ (S.gl rfl)) rfl rfl (by show 2 < 1000000; decide) ?_
  have r3 : RelD n (triD ((List.range n).map (blR n (1 + (3 + dig s n) % n))) ((List.range n).map (blW n (1 + (3 + dig s n) % n))) ((List.range n).map (blB n (1 + (3 + dig s n) % n)))) := ⟨_, _, _, blocks_ok (by omega) hn2 (by omega), rfl⟩
  generalize triD ((List.range n).map (blR n (1 + (3 + dig s n) % n))) ((List.range n).map (blW n (1 + (3 + dig s n) % n))) ((List.range n).map (blB n (1 + (3 + dig s n) % n))) = D3 at r3 ⊢
  generalize nxt s n = s
  -- the function
  refine q_asg S 6 (d_modN (n := n) n0 (d_toInt (S.gl rfl) B.int (d_addN (m := 5) (d_nat 5) (d_take S C.take hr hg 1 rfl n0 n3 (d_nm S 2 rfl)))) (d_nm S 2 rfl)) ?_
  generalize (5 + dig s n) % n = tm
  generalize nxt s n = s
  refine q_asg S 7 (d_modN (n := n) n0 (d_toInt (S.gl rfl) B.int (d_addN (m := 2) (d_nat 2) (d_take S C.take hr hg 1 rfl n0 n3 (d_nm S 2 rfl)))) (d_nm S 2 rfl)) ?_
  generalize (2 + dig s n) % n = mo
  generalize nxt s n = s
  refine q_push S 5 (d_fn C.func hr (a_cons (d_nm S 2 rfl) (a_cons (d_nm S 6 rfl) (a_cons (d_nm S 7 rfl) (a_cons (d_addN (m := 2) (d_nat 2) (d_take S C.take hr hg 1 rfl (by decide) (by decide) (d_nat 4))) a_nil)))) ⟨n, tm, mo, 2 + dig s 4, by omega, by omega, by omega, rfl, rfl⟩ (S.gl rfl)) rfl rfl (by show 3 < 1000000; decide) ?_
  have r4 : RelD n (triD (fnS n tm mo (2 + dig s 4) n).rows ((List.range n).map (pathM n tm mo (2 + dig s 4))) (fnS n tm mo (2 + dig s 4) n).back) := ⟨_, _, _, func_ok (by omega) hn2, rfl⟩
  generalize triD (fnS n tm mo (2 + dig s 4) n).rows ((List.range n).map (pathM n tm mo (2 + dig s 4))) (fnS n tm mo (2 + dig s 4) n).back = D4 at r4 ⊢
  generalize nxt s 4 = s
  refine q_pub (i := 5) rfl ?_
  exact law_mid B C TT S hr hgd h4 hn hn2 hmk r1 r2 r3 r4
end
end K11
end
section
set_option Elab.async false
set_option linter.all false
set_option maxRecDepth 100000
set_option maxHeartbeats 8000000
namespace K11
open PySem PySem.Spec PyProof.Rows L2 Wv Km
section
variable {P : Program} {w : World} {K : PySem.W.Frag} {mg : Str → Option Value} {base : Heap} {a : Adr}
structure Defs (K : PySem.W.Frag) (mg : Str → Option Value) : Prop where
  d1 : Def K mg "identity" "identity" (top 1) ["states"]
  d2 : Def K mg "nowhere" "nowhere" (top 2) ["states"]
  d3 : Def K mg "members" "members" (top 3) ["mask"]
  d4 : Def K mg "mask_of" "mask_of" (top 4) ["numbers"]
  d5 : Def K mg "image" "image" (top 5) ["relation", "mask"]
  d6 : Def K mg "pairs_of" "pairs_of" (top 6) ["relation"]
  d7 : Def K mg "union" "union" (top 7) ["first", "second"]
  d8 : Def K mg "after" "after" (top 8) ["first", "second"]
  d9 : Def K mg "flipped" "flipped" (top 9) ["relation"]
  d10 : Def K mg "closed" "closed" (top 10) ["relation"]
  d11 : Def K mg "lies_in" "lies_in" (top 11) ["first", "second"]
  al : mg "lies_in_relations" = mg "lies_in"
  d21 : Def K mg "_check_relation" "_check_relation" (top 21) ["relation", "states"]
  d24 : Def K mg "_law_take" "_law_take" (top 24) ["state", "m"]
  d25 : Def K mg "_law_shifted" "_law_shifted" (top 25) ["n", "shifts"]
  d26 : Def K mg "_law_multiples" "_law_multiples" (top 26) ["n", "shifts"]
  d27 : Def K mg "_law_chain" "_law_chain" (top 27) ["n", "at", "way"]
  d28 : Def K mg "_law_ring" "_law_ring" (top 28) ["n", "step"]
  d29 : Def K mg "_law_blocks" "_law_blocks" (top 29) ["n", "size"]
  d30 : Def K mg "_law_function" "_law_function" (top 30) ["n", "times", "more", "out"]
  d31 : Def K mg "_law_pairs" "_law_pairs" (top 31) ["rows"]
  d32 : Def K mg "_law_behind" "_law_behind" (top 32) ["pairs", "other"]
  d33 : Def K mg "_law_same" "_law_same" (top 33) ["told", "due"]
  d34 : Def K mg "_law_relation" "_law_relation" (top 34) ["found", "other", "mask"]
  d35 : Def K mg "_law_sum" "_law_sum" (top 35) ["n", "one", "two"]
  d36 : Def K mg "_law_product" "_law_product" (top 36) ["n", "one", "two"]
  d37 : Def K mg "_law_rows" "_law_rows" (top 37) ["n", "shifts"]
  d38 : Def K mg "_law_table" "_law_table" (top 38) ["rows"]
  d39 : Def K mg "_law_alike" "_law_alike" (top 39) ["table", "n", "shifts"]
  d40 : Def K mg "_law_products" "_law_products" (top 40) ["n", "one", "two"]
  d41 : Def K mg "_law_equals" "_law_equals" (top 41) ["state", "n", "shifts"]
  d42 : Def K mg "_law_bad" "_law_bad" (top 42) ["rows"]
  d43 : Def K mg "_law_bads" "_law_bads" (top 43) ["state", "n", "shifts"]
  d44 : Def K mg "_law_units" "_law_units" (top 44) ["n", "less"]
/-- the whole program, from what stands in the written part -/
theorem all_ok (B : Bl mg) (D : Defs K mg) (T : TF P K mg a) {Ai As At : Addr} (F : BF K mg a Ai As At) {f : Addr} {fd : FuncData} (L : Fun K "law" "law" (top 45) f fd) : FnG P w K mg base CX0 11 f fd ["script"] (spS K 63) := by
  have c1 := ok_ident (P := P) (w := w) (base := base) B D.d1
  have c2 := ok_no (P := P) (w := w) (base := base) B D.d2
  have c3 := ok_mem (P := P) (w := w) (base := base) B D.d3
  have c4 := ok_mask (P := P) (w := w) (base := base) D.d4
  have c5 := ok_img (P := P) (w := w) (base := base) D.d5
  have c6 := ok_prs B D.d6 c3
  have c7 := ok_un (P := P) (w := w) (base := base) B D.d7
  have c8 := ok_af B D.d8 c5
  have c9 := ok_fl B D.d9 c3
  have c10 := ok_cl (P := P) (w := w) (base := base) B D.d10
  have c11 := ok_lie2 (ok_lie (P := P) (w := w) (base := base) B D.d11) D.al
  have R : RelFs P w K mg base := ⟨c7, c8, c10, c11⟩
  have c21 := ok_chk (w := w) (base := base) B T D.d21
  have I : TI P w K mg base a := ⟨T, ok_ini B T c21⟩
  have c24 := ok_take (P := P) (w := w) (base := base) B D.d24
  have c25 := ok_sh (P := P) (w := w) (base := base) B D.d25
  have c26 := ok_muls (P := P) (w := w) (base := base) B D.d26
  have c33 := ok_same (P := P) (w := w) (base := base) B D.d33
  have RG : RelG P w K mg base := { R with fl := c9, img := c5, prs := c6, lpr := ok_lpr B D.d31, beh := ok_beh B D.d32, same := c33 }
  have c35 := ok_sum (P := P) (w := w) (base := base) B D.d35
  have c36 := ok_prod B D.d36 c26 c35
  have G : TabG P w K mg base a := ⟨I, ok_uni I c1, ok_mul I R, ok_inv I, ok_eq B I, ok_lieT I R, ok_fla I, ok_rows D.d37 c25, ok_tab I D.d38⟩
  have c39 := ok_alike B G D.d39
  have c42 := ok_bad B G F D.d42
  exact ok_law B ⟨c24, ok_chain B D.d27, ok_ring D.d28 c25 c26, ok_blocks B D.d29, ok_func B D.d30, c25, ok_rel B RG D.d34, ok_prods G c36 c39 D.d40, ok_equ B G c24 D.d41, ok_bads B G c42 c24 D.d43, c4, c3, ok_units B G ⟨c1, c2, c33⟩ D.d44⟩ L
/-! ### from the written part -/
theorem mk_bl {h : Heap} (X : K.In h) (G : h.Ns mainGlobals mg) (h1 : PySem.W.nsIn K mainGlobals "tuple" = some none) (h2 : PySem.W.nsIn K mainGlobals "range" = some none) (h3 : PySem.W.nsIn K mainGlobals "len" = some none) (h4 : PySem.W.nsIn K mainGlobals "enumerate" = some none) (h5 : PySem.W.nsIn K mainGlobals "zip" = some none) (h6 : PySem.W.nsIn K mainGlobals "int" = some none)
    (h7 : PySem.W.nsIn K mainGlobals "abs" = some none) (h8 : PySem.W.nsIn K mainGlobals "min" = some none) (h9 : PySem.W.nsIn K mainGlobals "list" = some none) (h10 : PySem.W.nsIn K mainGlobals "repr" = some none) (h11 : PySem.W.nsIn K mainGlobals "set" = some none) (h12 : PySem.W.nsIn K mainGlobals "sorted" = some none) (h13 : PySem.W.nsIn K mainGlobals "isinstance" = some none) : Bl mg :=
  have m := fun {n : Str} (e : PySem.W.nsIn K mainGlobals n = some none) => PySem.W.mg_none_of X G e
  ⟨m h1, m h2, m h3, m h4, m h5, m h6, m h7, m h8, m h9, m h10, m h11, m h12, m h13⟩
theorem mk_def {h : Heap} {n qual : Str} {st : Stmt} {ps : List Str} {f : Addr} {oc : Value} {od an : Option Addr} {osl : Array (Option Value)} {kV doc pm cdv ct : Value} (X : K.In h) (G : h.Ns mainGlobals mg) (e : PySem.W.nsIn K mainGlobals n = some (some (.ref f)))
    (l : K.lookup f = some ⟨oc, od, .func (PySem.W.fnOf n qual (defArgs st) (defBody st) (defScope st) .none kV doc pm an cdv ct), osl⟩) (c : PySem.W.codeIn K cdv qual = true) (k : PySem.W.keepIn K (.ref f) = true)
    (b : ∀ (kV doc pm : Value) (an : Option Addr) (cdv ct : Value) (us : List Value), us.length = ps.length → bindArgs (PySem.W.fnOf n qual (defArgs st) (defBody st) (defScope st) .none kV doc pm an cdv ct) ⟨us, []⟩ = pure (ps.zip us)) : Def K mg n qual st ps :=
  have F := fun_mk (st := st) l c k
  ⟨f, _, F, PySem.W.mg_of X G e, k, F.binds b⟩
theorem mk_meth {n qual : Str} {st : Stmt} {ps : List Str} {f : Addr} {oc : Value} {od an : Option Addr} {osl : Array (Option Value)} {kV doc pm cdv ct : Value}
    (l : K.lookup f = some ⟨oc, od, .func (PySem.W.fnOf n qual (defArgs st) (defBody st) (defScope st) .none kV doc pm an cdv ct), osl⟩) (c : PySem.W.codeIn K cdv qual = true) (k : PySem.W.keepIn K (.ref f) = true)
    (b : ∀ (kV doc pm : Value) (an : Option Addr) (cdv ct : Value) (us : List Value), us.length = ps.length → bindArgs (PySem.W.fnOf n qual (defArgs st) (defBody st) (defScope st) .none kV doc pm an cdv ct) ⟨us, []⟩ = pure (ps.zip us)) : DefM K n qual st ps f :=
  have F := fun_mk (st := st) l c k
  ⟨_, F, F.binds b⟩
end
end K11
end
section
set_option Elab.async false
set_option linter.all false
set_option maxRecDepth 100000
set_option maxHeartbeats 8000000
namespace K11
open PySem PySem.Spec PyProof.Rows L2 Wv Km
section
variable {P : Program} {w : World} {K : PySem.W.Frag} {mg : Str → Option Value} {base : Heap} {a : Adr}
theorem mk_sup {h : Heap} {C fI cda cc : Addr} {nm qual msg : Str} {kk : Nat} {pa p0 p1 p2 p3 p4 p5 : Pos} {nms : List (Str × NameKind)} {mr : List (Str × Const)} {oc doc pm ct cl ccl : Value} {od an cdd cld : Option Addr} {osl ccs csl : Array (Option Value)} {vs : Array Value} {file : Str} {tf : Tok} {cdD : ClassData} (X : K.In h) (G : h.Ns mainGlobals mg)
    (l1 : K.lookup fI = some ⟨oc, od, .func (PySem.W.ksFn nm qual (supArgs pa) (supBody msg kk p0 p1 p2 p3 p4 p5) (supScope nms mr) .none .none doc pm an (.ref cda) ct cc), osl⟩) (c1 : PySem.W.codeIn K (.ref cda) qual = true) (l2 : K.lookup cda = some ⟨ccl, cdd, .fields vs, ccs⟩) (e2 : vs[2]? = some (.str file tf)) (e3 : ((P.main.file : Str) == file) = true)
    (l3 : K.lookup cc = some ⟨cl, cld, .cell (some (.ref C)), csl⟩) (l4 : PySem.W.clsIn K C = some cdD) (q1 : ∀ x ∈ nms, x.2 ≠ .cell) (q2 : nms.lookup ("super" : Str) = some .globalImplicit) (q3 : nms.lookup ("__class__" : Str) = some .free) (q4 : nms.lookup ("self" : Str) = some .local) (q5 : msg.length ≤ 1000)
    (q6 : ∀ L : Addr, ∃ pl : Sem Bool, eval (.Call (.Attribute (.Call (.Name "super" p0) [] [] p1) "__init__" p2) [.Constant (.str msg) kk p3] [] p4) (callEnv (PySem.W.ksFn nm qual (supArgs pa) (supBody msg kk p0 p1 p2 p3 p4 p5) (supScope nms mr) .none .none doc pm an (.ref cda) ct cc) L fI) = (do
      let ov ← attributeBase (.Call (.Name "super" p0) [] [] p1) "__init__" (callEnv (PySem.W.ksFn nm qual (supArgs pa) (supBody msg kk p0 p1 p2 p3 p4 p5) (supScope nms mr) .none .none doc pm an (.ref cda) ct cc) L fI) (eval (.Call (.Name "super" p0) [] [] p1) (callEnv (PySem.W.ksFn nm qual (supArgs pa) (supBody msg kk p0 p1 p2 p3 p4 p5) (supScope nms mr) .none .none doc pm an (.ref cda) ct cc) L fI))
      standAt p2.atName
      let (f, first) ← holding [ov] (getMethod ov "__init__" pl)
      callWith p4 f first (backTo p4 (starEach [.Constant (.str msg) kk p3] (callEnv (PySem.W.ksFn nm qual (supArgs pa) (supBody msg kk p0 p1 p2 p3 p4 p5) (supScope nms mr) .none .none doc pm an (.ref cda) ct cc) L fI))) []))
    (ini : PySem.W.excInitIn K C veB "ValueError.__new__" = true) (fnd : PySem.W.findIn K (.ref C) "__init__" = some (some (.ref fI))) (ty : PySem.W.typeIn K (.ref fI) = some (.type "function")) (sub : PySem.W.mroIn K C (.ref C) = some true)
    (sup : PySem.W.ks_superIn K C C "__init__" = some (some (.builtin "ValueError.__init__"))) (ve : PySem.W.subIn K (.ref C) (.type "ValueError") = some true) (noSup : PySem.W.nsIn K mainGlobals "super" = some none) (top : (P.main.scope.names.lookup ("super" : Str)).isSome = false)
    (opq : PySem.W.nsIn K cStatics "thirdparty.any" = some none) (exC : PySem.W.subIn K (.ref C) (.type "BaseException") = some true) (tyC : PySem.W.typeIn K (.ref C) = some (.type "type")) (kC : PySem.W.keepIn K (.ref C) = true) : SupX P K mg C fI :=
  ⟨⟨nm, qual, msg, kk, pa, p0, p1, p2, p3, p4, p5, nms, mr, oc, doc, pm, ct, cl, ccl, od, an, cdd, cld, cda, cc, osl, ccs, csl, vs, file, tf, cdD, l1, c1, l2, e2, e3, l3, l4, q1, q2, q3, q4, q5, q6⟩, ini, fnd, ty, sub, sup, ve, PySem.W.mg_none_of X G noSup, top, opq, exC, tyC, kC⟩
theorem mk_tf {h : Heap} {C Cb fb ini uni unp mul inv eq lie fla : Addr} {mc : Value} {rest : List Value} {tm : Tok}
    {ocI kVI dcI pmI cdI ctI : Value} {odI anI : Option Addr} {slI : Array (Option Value)}
    {ocU kVU dcU pmU cdU ctU : Value} {odU anU : Option Addr} {slU : Array (Option Value)}
    {ocM kVM dcM pmM cdM ctM : Value} {odM anM : Option Addr} {slM : Array (Option Value)}
    {ocV kVV dcV pmV cdV ctV : Value} {odV anV : Option Addr} {slV : Array (Option Value)}
    {ocE kVE dcE pmE cdE ctE : Value} {odE anE : Option Addr} {slE : Array (Option Value)}
    {ocL kVL dcL pmL cdL ctL : Value} {odL anL : Option Addr} {slL : Array (Option Value)}
    {ocF kVF dcF pmF cdF ctF : Value} {odF anF : Option Addr} {slF : Array (Option Value)}
    (X : K.In h) (G : h.Ns mainGlobals mg) (gC : PySem.W.nsIn K mainGlobals "Table" = some (some (.ref C))) (m1 : PySem.W.makesIn K C = true) (m2 : PySem.W.findIn K (.ref C) "__init__" = some (some (.ref ini))) (m3 : PySem.W.isFn K (.ref ini) = true) (m4 : PySem.W.keepIn K (.ref C) = true)
    (k1 : PySem.W.plainGet K C Str.empty = true) (k2 : PySem.W.hasDictIn K C = true) (k3 : PySem.W.plainOver K C = true) (k4 : PySem.W.findIn K (.ref C) "__setattr__" = some (some (.builtin "object.__setattr__")))
    (n0 : PySem.W.findIn K (.ref C) "ll" = some none) (n1 : PySem.W.findIn K (.ref C) "lr" = some none) (n2 : PySem.W.findIn K (.ref C) "rl" = some none) (n3 : PySem.W.findIn K (.ref C) "rr" = some none) (n4 : PySem.W.findIn K (.ref C) "states" = some none)
    (cc : PySem.W.findIn K (.ref C) "__class__" = some (some (.builtin "object.__class__"))) (cn : PySem.W.specialIn K (.builtin "object.__class__") "__get__" = some (some (.builtin "getset_descriptor.__get__"))) (ct : PySem.W.takesIn K (.builtin "object.__class__") = some true) (cm : PySem.W.mroIn K C (.type "object") = some true)
    (gB : PySem.W.nsIn K mainGlobals "BadTable" = some (some (.ref Cb))) (bad : SupX P K mg Cb fb) (most : PySem.W.nsIn K mainGlobals "MOST_TABLE_STATES" = some (some (.int 60 tm)))
    (u0 : PySem.W.readsIn K C mc = true) (u1 : PySem.W.specialIn K (.ref C) "__getattribute__" = some (some (.builtin "type.__getattribute__"))) (u2 : PySem.W.findCls K (.ref C) mc "unit" = some (.get (.builtin "classmethod.__get__") (.ref unp) .none (.ref C))) (u3 : PySem.W.recIn K unp "classmethod" = some (.ref uni :: rest)) (u4 : PySem.W.fnIn K uni = true)
    (fM : PySem.W.findIn K (.ref C) "__mul__" = some (some (.ref mul))) (iM : PySem.W.isFn K (.ref mul) = true)
    (fV : PySem.W.findIn K (.ref C) "__invert__" = some (some (.ref inv))) (iV : PySem.W.isFn K (.ref inv) = true)
    (fE : PySem.W.findIn K (.ref C) "__eq__" = some (some (.ref eq))) (iE : PySem.W.isFn K (.ref eq) = true)
    (fL : PySem.W.findIn K (.ref C) "lies_in" = some (some (.ref lie))) (iL : PySem.W.isFn K (.ref lie) = true)
    (fF : PySem.W.findIn K (.ref C) "flat" = some (some (.ref fla))) (iF : PySem.W.isFn K (.ref fla) = true)
    (sf : PySem.W.selfFirst K C = true)
    (lI : K.lookup ini = some ⟨ocI, odI, .func (PySem.W.fnOf "__init__" "Table.__init__" (defArgs (cb 0)) (defBody (cb 0)) (defScope (cb 0)) .none kVI dcI pmI anI cdI ctI), slI⟩) (cI : PySem.W.codeIn K cdI "Table.__init__" = true) (pI : PySem.W.keepIn K (.ref ini) = true)
    (lU : K.lookup uni = some ⟨ocU, odU, .func (PySem.W.fnOf "unit" "Table.unit" (defArgs (cb 1)) (defBody (cb 1)) (defScope (cb 1)) .none kVU dcU pmU anU cdU ctU), slU⟩) (cU : PySem.W.codeIn K cdU "Table.unit" = true) (pU : PySem.W.keepIn K (.ref uni) = true)
    (lM : K.lookup mul = some ⟨ocM, odM, .func (PySem.W.fnOf "__mul__" "Table.__mul__" (defArgs (cb 2)) (defBody (cb 2)) (defScope (cb 2)) .none kVM dcM pmM anM cdM ctM), slM⟩) (cM : PySem.W.codeIn K cdM "Table.__mul__" = true) (pM : PySem.W.keepIn K (.ref mul) = true)
    (lV : K.lookup inv = some ⟨ocV, odV, .func (PySem.W.fnOf "__invert__" "Table.__invert__" (defArgs (cb 3)) (defBody (cb 3)) (defScope (cb 3)) .none kVV dcV pmV anV cdV ctV), slV⟩) (cV : PySem.W.codeIn K cdV "Table.__invert__" = true) (pV : PySem.W.keepIn K (.ref inv) = true)
    (lE : K.lookup eq = some ⟨ocE, odE, .func (PySem.W.fnOf "__eq__" "Table.__eq__" (defArgs (cb 4)) (defBody (cb 4)) (defScope (cb 4)) .none kVE dcE pmE anE cdE ctE), slE⟩) (cE : PySem.W.codeIn K cdE "Table.__eq__" = true) (pE : PySem.W.keepIn K (.ref eq) = true)
    (lL : K.lookup lie = some ⟨ocL, odL, .func (PySem.W.fnOf "lies_in" "Table.lies_in" (defArgs (cb 5)) (defBody (cb 5)) (defScope (cb 5)) .none kVL dcL pmL anL cdL ctL), slL⟩) (cL : PySem.W.codeIn K cdL "Table.lies_in" = true) (pL : PySem.W.keepIn K (.ref lie) = true)
    (lF : K.lookup fla = some ⟨ocF, odF, .func (PySem.W.fnOf "flat" "Table.flat" (defArgs (cb 6)) (defBody (cb 6)) (defScope (cb 6)) .none kVF dcF pmF anF cdF ctF), slF⟩) (cF : PySem.W.codeIn K cdF "Table.flat" = true) (pF : PySem.W.keepIn K (.ref fla) = true)
    : TF P K mg ⟨C, Cb, fb, ini, uni, unp, mul, inv, eq, lie, fla, mc⟩ :=
  ⟨PySem.W.mg_of X G gC, ⟨m1, m2, m3, m4⟩, ⟨k1, k2, k3, k4⟩, n0, n1, n2, n3, n4, cc, cn, ct, cm, PySem.W.mg_of X G gB, bad, ⟨_, PySem.W.mg_of X G most⟩, mk_meth lI cI pI (fun _ _ _ _ _ _ us hl => match us, hl with | [_, _, _, _, _], _ => rfl), mk_meth lU cU pU (fun _ _ _ _ _ _ us hl => match us, hl with | [_, _], _ => rfl), mk_meth lM cM pM (fun _ _ _ _ _ _ us hl => match us, hl with | [_, _], _ => rfl), mk_meth lV cV pV (fun _ _ _ _ _ _ us hl => match us, hl with | [_], _ => rfl), mk_meth lE cE pE (fun _ _ _ _ _ _ us hl => match us, hl with | [_, _], _ => rfl), mk_meth lL cL pL (fun _ _ _ _ _ _ us hl => match us, hl with | [_, _], _ => rfl), mk_meth lF cF pF (fun _ _ _ _ _ _ us hl => match us, hl with | [_], _ => rfl), ⟨u0, u1⟩, ⟨u2, ⟨_, u3⟩, u4⟩, fM, iM, sf, fV, iV, fE, iE, ⟨fL, iL, pL⟩, ⟨fF, iF, pF⟩⟩
theorem exm_me {S : Addr} (h1 : PySem.W.subIn K (.ref S) (.type "BaseException") = some true) (h2 : PySem.W.isClsIn K S = true) (h3 : PySem.W.typeIn K (.ref S) = some (.type "type")) (h4 : PySem.W.subIn K (.ref S) (.ref S) = some true) : PySem.W.exmOne K (.ref S) (.ref S) = some true := by
  have a1 : (PySem.W.subIn K (.ref S) (.type "BaseException") == some true) = true := by rw [h1]; rfl
  have a2 : ((PySem.W.clsIn K S).isSome && PySem.W.typeIn K (.ref S) == some (.type "type")) = true := by
    rw [show (PySem.W.clsIn K S).isSome = true from h2, h3]
    rfl
  show (if _ then (if _ then PySem.W.subIn K (.ref S) (.ref S) else none) else none) = some true
  rw [if_pos a1, if_pos a2, h4]
theorem final {fa fl : Addr} {Ai As At : Addr} {oc : Value} {od an : Option Addr} {osl : Array (Option Value)} {kV doc pm cdv ct : Value} (hfa : mg "law" = some (.ref fa)) (el : mg "law" = some (.ref fl)) (B : Bl mg) (D : Defs K mg) (T : TF P K mg a) (F : BF K mg a Ai As At)
    (l : K.lookup fl = some ⟨oc, od, .func (PySem.W.fnOf "law" "law" (defArgs (top 45)) (defBody (top 45)) (defScope (top 45)) .none kV doc pm an cdv ct), osl⟩) (c : PySem.W.codeIn K cdv "law" = true) (k : PySem.W.keepIn K (.ref fl) = true) :
    ∃ fd : FuncData, (∀ (s : Shared) (u : Value), BindsTo s fd ⟨[u], []⟩ [("script", u)]) ∧ ∀ base : Heap, K.In base → base.Ns mainGlobals mg → FnG P w K mg base CX0 11 fa fd ["script"] (spS K 63) := by
  have e := hfa.symm.trans el
  cases e
  exact ⟨PySem.W.fnOf "law" "law" (defArgs (top 45)) (defBody (top 45)) (defScope (top 45)) .none kV doc pm an cdv ct, fun s u => .of_eq rfl, fun base _ _ => all_ok B D T F (fun_mk (st := top 45) l c k)⟩
theorem mk_bf {h : Heap} {C Cb fb ini uni unp mul inv eq lie fla Ai As At : Addr} {mc : Value} (X : K.In h) (G : h.Ns mainGlobals mg) (g1 : PySem.W.nsIn K mainGlobals "BadItem" = some (some (.ref Ai))) (g2 : PySem.W.nsIn K mainGlobals "BadState" = some (some (.ref As))) (g3 : PySem.W.nsIn K mainGlobals "TooLong" = some (some (.ref At)))
    (no : PySem.W.kitAny K (.ref Cb) [.ref Ai, .ref As, .ref At] = some false) (e1 : PySem.W.findIn K (.ref Cb) "__getattribute__" = some (some (.builtin "BaseException.__getattribute__"))) (e2 : PySem.W.findIn K (.ref Cb) "__getattr__" = some none) (e3 : PySem.W.subIn K (.ref Cb) (.type "BaseException") = some true) (e4 : PySem.W.hasDictIn K Cb = true)
    (e5 : PySem.W.findIn K (.ref Cb) "__class__" = some (some (.builtin "object.__class__"))) (e6 : PySem.W.specialIn K (.builtin "object.__class__") "__get__" = some (some (.builtin "getset_descriptor.__get__"))) (e7 : PySem.W.takesIn K (.builtin "object.__class__") = some true) (e8 : PySem.W.mroIn K Cb (.type "object") = some true)
    (x2 : PySem.W.isClsIn K Cb = true) (x3 : PySem.W.typeIn K (.ref Cb) = some (.type "type")) (x4 : PySem.W.subIn K (.ref Cb) (.ref Cb) = some true) : BF K mg ⟨C, Cb, fb, ini, uni, unp, mul, inv, eq, lie, fla, mc⟩ Ai As At :=
  ⟨PySem.W.mg_of X G g1, PySem.W.mg_of X G g2, PySem.W.mg_of X G g3, no, ⟨e1, e2, e3, e4, e5, e6, e7, e8⟩, exm_me e3 x2 x3 x4⟩
theorem mk_al {h : Heap} {f : Addr} (X : K.In h) (G : h.Ns mainGlobals mg) (g1 : PySem.W.nsIn K mainGlobals "lies_in" = some (some (.ref f))) (g2 : PySem.W.nsIn K mainGlobals "lies_in_relations" = some (some (.ref f))) : mg "lies_in_relations" = mg "lies_in" :=
  (PySem.W.mg_of X G g2).trans (PySem.W.mg_of X G g1).symm
/-- the same names, the written part told by what stands in the heap -/
abbrev DefK {K : PySem.W.Frag} {h : Heap} (mg : Str → Option Value) (_ : K.In h) (n qual : Str) (st : Stmt) (ps : List Str) : Prop := Def K mg n qual st ps
end
end K11
end
set_option Elab.async false
set_option maxRecDepth 100000
open PySem PySem.W PyProof.Rows
set_option maxHeartbeats 0 in
theorem PySem.Challenge.cw_waysbyviews_k11_relations_great_holds : PySem.Challenge.rw_waysbyviews_k11_relations_great.Holds := by
  w_on; o_law; k_head; (case hw => w_witness2)
  k_fill
  refine Wv.walk_G (l := PySem.Challenge.rw_waysbyviews_k11_relations_great) (k := 11) (x := "script") (m := 63) rfl (by decide) rfl ⟨rfl, by decide, by decide⟩ (fun w h Y => PySem.W.kIn_of Y) ?F
  intro w mg fa h KX G hmg
  have B : K11.Bl mg := by
    refine' K11.mk_bl KX G ?b0 ?b1 ?b2 ?b3 ?b4 ?b5 ?b6 ?b7 ?b8 ?b9 ?b10 ?b11 ?b12
    all_goals k_is
  have d1 : K11.DefK mg KX "identity" "identity" (K11.top 1) ["states"] := by
    refine' K11.mk_def KX G ?e ?l ?c ?k (fun _ _ _ _ _ _ us hl => match us, hl with | [_], _ => rfl)
    (case e => k_is); (case l => k_is); (case c => k_is); (case k => k_is)
  have d2 : K11.DefK mg KX "nowhere" "nowhere" (K11.top 2) ["states"] := by
    refine' K11.mk_def KX G ?e ?l ?c ?k (fun _ _ _ _ _ _ us hl => match us, hl with | [_], _ => rfl)
    (case e => k_is); (case l => k_is); (case c => k_is); (case k => k_is)
  have d3 : K11.DefK mg KX "members" "members" (K11.top 3) ["mask"] := by
    refine' K11.mk_def KX G ?e ?l ?c ?k (fun _ _ _ _ _ _ us hl => match us, hl with | [_], _ => rfl)
    (case e => k_is); (case l => k_is); (case c => k_is); (case k => k_is)
  have d4 : K11.DefK mg KX "mask_of" "mask_of" (K11.top 4) ["numbers"] := by
    refine' K11.mk_def KX G ?e ?l ?c ?k (fun _ _ _ _ _ _ us hl => match us, hl with | [_], _ => rfl)
    (case e => k_is); (case l => k_is); (case c => k_is); (case k => k_is)
  have d5 : K11.DefK mg KX "image" "image" (K11.top 5) ["relation", "mask"] := by
    refine' K11.mk_def KX G ?e ?l ?c ?k (fun _ _ _ _ _ _ us hl => match us, hl with | [_, _], _ => rfl)
    (case e => k_is); (case l => k_is); (case c => k_is); (case k => k_is)
  have d6 : K11.DefK mg KX "pairs_of" "pairs_of" (K11.top 6) ["relation"] := by
    refine' K11.mk_def KX G ?e ?l ?c ?k (fun _ _ _ _ _ _ us hl => match us, hl with | [_], _ => rfl)
    (case e => k_is); (case l => k_is); (case c => k_is); (case k => k_is)
  have d7 : K11.DefK mg KX "union" "union" (K11.top 7) ["first", "second"] := by
    refine' K11.mk_def KX G ?e ?l ?c ?k (fun _ _ _ _ _ _ us hl => match us, hl with | [_, _], _ => rfl)
    (case e => k_is); (case l => k_is); (case c => k_is); (case k => k_is)
  have d8 : K11.DefK mg KX "after" "after" (K11.top 8) ["first", "second"] := by
    refine' K11.mk_def KX G ?e ?l ?c ?k (fun _ _ _ _ _ _ us hl => match us, hl with | [_, _], _ => rfl)
    (case e => k_is); (case l => k_is); (case c => k_is); (case k => k_is)
  have d9 : K11.DefK mg KX "flipped" "flipped" (K11.top 9) ["relation"] := by
    refine' K11.mk_def KX G ?e ?l ?c ?k (fun _ _ _ _ _ _ us hl => match us, hl with | [_], _ => rfl)
    (case e => k_is); (case l => k_is); (case c => k_is); (case k => k_is)
  have d10 : K11.DefK mg KX "closed" "closed" (K11.top 10) ["relation"] := by
    refine' K11.mk_def KX G ?e ?l ?c ?k (fun _ _ _ _ _ _ us hl => match us, hl with | [_], _ => rfl)
    (case e => k_is); (case l => k_is); (case c => k_is); (case k => k_is)
  have d11 : K11.DefK mg KX "lies_in" "lies_in" (K11.top 11) ["first", "second"] := by
    refine' K11.mk_def KX G ?e ?l ?c ?k (fun _ _ _ _ _ _ us hl => match us, hl with | [_, _], _ => rfl)
    (case e => k_is); (case l => k_is); (case c => k_is); (case k => k_is)
  have d21 : K11.DefK mg KX "_check_relation" "_check_relation" (K11.top 21) ["relation", "states"] := by
    refine' K11.mk_def KX G ?e ?l ?c ?k (fun _ _ _ _ _ _ us hl => match us, hl with | [_, _], _ => rfl)
    (case e => k_is); (case l => k_is); (case c => k_is); (case k => k_is)
  have d24 : K11.DefK mg KX "_law_take" "_law_take" (K11.top 24) ["state", "m"] := by
    refine' K11.mk_def KX G ?e ?l ?c ?k (fun _ _ _ _ _ _ us hl => match us, hl with | [_, _], _ => rfl)
    (case e => k_is); (case l => k_is); (case c => k_is); (case k => k_is)
  have d25 : K11.DefK mg KX "_law_shifted" "_law_shifted" (K11.top 25) ["n", "shifts"] := by
    refine' K11.mk_def KX G ?e ?l ?c ?k (fun _ _ _ _ _ _ us hl => match us, hl with | [_, _], _ => rfl)
    (case e => k_is); (case l => k_is); (case c => k_is); (case k => k_is)
  have d26 : K11.DefK mg KX "_law_multiples" "_law_multiples" (K11.top 26) ["n", "shifts"] := by
    refine' K11.mk_def KX G ?e ?l ?c ?k (fun _ _ _ _ _ _ us hl => match us, hl with | [_, _], _ => rfl)
    (case e => k_is); (case l => k_is); (case c => k_is); (case k => k_is)
  have d27 : K11.DefK mg KX "_law_chain" "_law_chain" (K11.top 27) ["n", "at", "way"] := by
    refine' K11.mk_def KX G ?e ?l ?c ?k (fun _ _ _ _ _ _ us hl => match us, hl with | [_, _, _], _ => rfl)
    (case e => k_is); (case l => k_is); (case c => k_is); (case k => k_is)
  have d28 : K11.DefK mg KX "_law_ring" "_law_ring" (K11.top 28) ["n", "step"] := by
    refine' K11.mk_def KX G ?e ?l ?c ?k (fun _ _ _ _ _ _ us hl => match us, hl with | [_, _], _ => rfl)
    (case e => k_is); (case l => k_is); (case c => k_is); (case k => k_is)
  have d29 : K11.DefK mg KX "_law_blocks" "_law_blocks" (K11.top 29) ["n", "size"] := by
    refine' K11.mk_def KX G ?e ?l ?c ?k (fun _ _ _ _ _ _ us hl => match us, hl with | [_, _], _ => rfl)
    (case e => k_is); (case l => k_is); (case c => k_is); (case k => k_is)
  have d30 : K11.DefK mg KX "_law_function" "_law_function" (K11.top 30) ["n", "times", "more", "out"] := by
    refine' K11.mk_def KX G ?e ?l ?c ?k (fun _ _ _ _ _ _ us hl => match us, hl with | [_, _, _, _], _ => rfl)
    (case e => k_is); (case l => k_is); (case c => k_is); (case k => k_is)
  have d31 : K11.DefK mg KX "_law_pairs" "_law_pairs" (K11.top 31) ["rows"] := by
    refine' K11.mk_def KX G ?e ?l ?c ?k (fun _ _ _ _ _ _ us hl => match us, hl with | [_], _ => rfl)
    (case e => k_is); (case l => k_is); (case c => k_is); (case k => k_is)
  have d32 : K11.DefK mg KX "_law_behind" "_law_behind" (K11.top 32) ["pairs", "other"] := by
    refine' K11.mk_def KX G ?e ?l ?c ?k (fun _ _ _ _ _ _ us hl => match us, hl with | [_, _], _ => rfl)
    (case e => k_is); (case l => k_is); (case c => k_is); (case k => k_is)
  have d33 : K11.DefK mg KX "_law_same" "_law_same" (K11.top 33) ["told", "due"] := by
    refine' K11.mk_def KX G ?e ?l ?c ?k (fun _ _ _ _ _ _ us hl => match us, hl with | [_, _], _ => rfl)
    (case e => k_is); (case l => k_is); (case c => k_is); (case k => k_is)
  have d34 : K11.DefK mg KX "_law_relation" "_law_relation" (K11.top 34) ["found", "other", "mask"] := by
    refine' K11.mk_def KX G ?e ?l ?c ?k (fun _ _ _ _ _ _ us hl => match us, hl with | [_, _, _], _ => rfl)
    (case e => k_is); (case l => k_is); (case c => k_is); (case k => k_is)
  have d35 : K11.DefK mg KX "_law_sum" "_law_sum" (K11.top 35) ["n", "one", "two"] := by
    refine' K11.mk_def KX G ?e ?l ?c ?k (fun _ _ _ _ _ _ us hl => match us, hl with | [_, _, _], _ => rfl)
    (case e => k_is); (case l => k_is); (case c => k_is); (case k => k_is)
  have d36 : K11.DefK mg KX "_law_product" "_law_product" (K11.top 36) ["n", "one", "two"] := by
    refine' K11.mk_def KX G ?e ?l ?c ?k (fun _ _ _ _ _ _ us hl => match us, hl with | [_, _, _], _ => rfl)
    (case e => k_is); (case l => k_is); (case c => k_is); (case k => k_is)
  have d37 : K11.DefK mg KX "_law_rows" "_law_rows" (K11.top 37) ["n", "shifts"] := by
    refine' K11.mk_def KX G ?e ?l ?c ?k (fun _ _ _ _ _ _ us hl => match us, hl with | [_, _], _ => rfl)
    (case e => k_is); (case l => k_is); (case c => k_is); (case k => k_is)
  have d38 : K11.DefK mg KX "_law_table" "_law_table" (K11.top 38) ["rows"] := by
    refine' K11.mk_def KX G ?e ?l ?c ?k (fun _ _ _ _ _ _ us hl => match us, hl with | [_], _ => rfl)
    (case e => k_is); (case l => k_is); (case c => k_is); (case k => k_is)
  have d39 : K11.DefK mg KX "_law_alike" "_law_alike" (K11.top 39) ["table", "n", "shifts"] := by
    refine' K11.mk_def KX G ?e ?l ?c ?k (fun _ _ _ _ _ _ us hl => match us, hl with | [_, _, _], _ => rfl)
    (case e => k_is); (case l => k_is); (case c => k_is); (case k => k_is)
  have d40 : K11.DefK mg KX "_law_products" "_law_products" (K11.top 40) ["n", "one", "two"] := by
    refine' K11.mk_def KX G ?e ?l ?c ?k (fun _ _ _ _ _ _ us hl => match us, hl with | [_, _, _], _ => rfl)
    (case e => k_is); (case l => k_is); (case c => k_is); (case k => k_is)
  have d41 : K11.DefK mg KX "_law_equals" "_law_equals" (K11.top 41) ["state", "n", "shifts"] := by
    refine' K11.mk_def KX G ?e ?l ?c ?k (fun _ _ _ _ _ _ us hl => match us, hl with | [_, _, _], _ => rfl)
    (case e => k_is); (case l => k_is); (case c => k_is); (case k => k_is)
  have d42 : K11.DefK mg KX "_law_bad" "_law_bad" (K11.top 42) ["rows"] := by
    refine' K11.mk_def KX G ?e ?l ?c ?k (fun _ _ _ _ _ _ us hl => match us, hl with | [_], _ => rfl)
    (case e => k_is); (case l => k_is); (case c => k_is); (case k => k_is)
  have d43 : K11.DefK mg KX "_law_bads" "_law_bads" (K11.top 43) ["state", "n", "shifts"] := by
    refine' K11.mk_def KX G ?e ?l ?c ?k (fun _ _ _ _ _ _ us hl => match us, hl with | [_, _, _], _ => rfl)
    (case e => k_is); (case l => k_is); (case c => k_is); (case k => k_is)
  have d44 : K11.DefK mg KX "_law_units" "_law_units" (K11.top 44) ["n", "less"] := by
    refine' K11.mk_def KX G ?e ?l ?c ?k (fun _ _ _ _ _ _ us hl => match us, hl with | [_, _], _ => rfl)
    (case e => k_is); (case l => k_is); (case c => k_is); (case k => k_is)
  have al : mg "lies_in_relations" = mg "lies_in" := by
    refine' K11.mk_al KX G ?a ?b
    (case a => k_is); (case b => k_is)
  refine' K11.final hmg (PySem.W.mg_of KX G ?el) B ⟨d1, d2, d3, d4, d5, d6, d7, d8, d9, d10, d11, al, d21, d24, d25, d26, d27, d28, d29, d30, d31, d32, d33, d34, d35, d36, d37, d38, d39, d40, d41, d42, d43, d44⟩ (K11.mk_tf (mc := .type "type") KX G ?t_gC ?t_m1 ?t_m2 ?t_m3 ?t_m4 ?t_k1 ?t_k2 ?t_k3 ?t_k4 ?t_n0 ?t_n1 ?t_n2 ?t_n3 ?t_n4 ?t_cc ?t_cn ?t_ct ?t_cm ?t_gB (K11.mk_sup KX G ?s_l1 ?s_c1 ?s_l2 ?s_e2 ?s_e3 ?s_l3 ?s_l4 ?s_q1 ?s_q2 ?s_q3 ?s_q4 ?s_q5 ?s_q6 ?s_ini ?s_fnd ?s_ty ?s_sub ?s_sup ?s_ve ?s_noSup ?s_top ?s_opq ?s_exC ?s_tyC ?s_kC) ?t_most ?t_u0 ?t_u1 ?t_u2 ?t_u3 ?t_u4 ?t_fM ?t_iM ?t_fV ?t_iV ?t_fE ?t_iE ?t_fL ?t_iL ?t_fF ?t_iF ?t_sf ?t_lI ?t_cI ?t_pI ?t_lU ?t_cU ?t_pU ?t_lM ?t_cM ?t_pM ?t_lV ?t_cV ?t_pV ?t_lE ?t_cE ?t_pE ?t_lL ?t_cL ?t_pL ?t_lF ?t_cF ?t_pF) (K11.mk_bf KX G ?b_g1 ?b_g2 ?b_g3 ?b_no ?b_e1 ?b_e2 ?b_e3 ?b_e4 ?b_e5 ?b_e6 ?b_e7 ?b_e8 ?b_x2 ?b_x3 ?b_x4) ?ll ?lc ?lk
  (case el => k_is)
  (case ll => k_is)
  (case lc => k_is)
  (case lk => k_is)
  (case t_gC => k_is)
  (case t_gB => k_is)
  (case t_m2 => k_is)
  (case s_fnd => k_is)
  (case s_l1 => k_is)
  (case s_c1 => k_is)
  (case s_l2 => k_is)
  (case s_e2 => first | rfl | k_is)
  (case s_e3 => first | rfl | decide +kernel)
  (case s_l3 => k_is)
  (case s_l4 => k_is)
  (case s_q1 => first | decide | decide +kernel)
  (case s_q2 => first | rfl | decide +kernel)
  (case s_q3 => first | rfl | decide +kernel)
  (case s_q4 => first | rfl | decide +kernel)
  (case s_q5 => first | decide | decide +kernel)
  (case s_q6 => intro L; exact ⟨_, rfl⟩)
  (case s_ini => first | k_is | rfl)
  (case s_ty => first | k_is | rfl)
  (case s_sub => first | k_is | rfl)
  (case s_sup => first | k_is | rfl)
  (case s_ve => first | k_is | rfl)
  (case s_noSup => first | k_is | rfl)
  (case s_top => first | rfl | decide +kernel)
  (case s_opq => first | k_is | rfl)
  (case s_exC => first | k_is | rfl)
  (case s_tyC => first | k_is | rfl)
  (case s_kC => first | k_is | rfl)
  (case t_m1 => first | k_is | rfl)
  (case t_m3 => first | k_is | rfl)
  (case t_m4 => first | k_is | rfl)
  (case t_k1 => first | k_is | rfl)
  (case t_k2 => first | k_is | rfl)
  (case t_k3 => first | k_is | rfl)
  (case t_k4 => first | k_is | rfl)
  (case t_n0 => first | k_is | rfl)
  (case t_n1 => first | k_is | rfl)
  (case t_n2 => first | k_is | rfl)
  (case t_n3 => first | k_is | rfl)
  (case t_n4 => first | k_is | rfl)
  (case t_cc => first | k_is | rfl)
  (case t_cn => first | k_is | rfl)
  (case t_ct => first | k_is | rfl)
  (case t_cm => first | k_is | rfl)
  (case t_most => first | k_is | rfl)
  (case t_u2 => k_is)
  (case t_u0 => k_is)
  (case t_u1 => first | k_is | rfl)
  (case t_u3 => first | k_is | rfl)
  (case t_u4 => first | k_is | rfl)
  (case t_fM => first | k_is | rfl)
  (case t_iM => first | k_is | rfl)
  (case t_fV => first | k_is | rfl)
  (case t_iV => first | k_is | rfl)
  (case t_fE => first | k_is | rfl)
  (case t_iE => first | k_is | rfl)
  (case t_fL => first | k_is | rfl)
  (case t_iL => first | k_is | rfl)
  (case t_fF => first | k_is | rfl)
  (case t_iF => first | k_is | rfl)
  (case t_sf => first | k_is | rfl)
  (case t_lI => first | k_is | rfl)
  (case t_cI => first | k_is | rfl)
  (case t_pI => first | k_is | rfl)
  (case t_lU => first | k_is | rfl)
  (case t_cU => first | k_is | rfl)
  (case t_pU => first | k_is | rfl)
  (case t_lM => first | k_is | rfl)
  (case t_cM => first | k_is | rfl)
  (case t_pM => first | k_is | rfl)
  (case t_lV => first | k_is | rfl)
  (case t_cV => first | k_is | rfl)
  (case t_pV => first | k_is | rfl)
  (case t_lE => first | k_is | rfl)
  (case t_cE => first | k_is | rfl)
  (case t_pE => first | k_is | rfl)
  (case t_lL => first | k_is | rfl)
  (case t_cL => first | k_is | rfl)
  (case t_pL => first | k_is | rfl)
  (case t_lF => first | k_is | rfl)
  (case t_cF => first | k_is | rfl)
  (case t_pF => first | k_is | rfl)
  (case b_g1 => first | k_is | rfl)
  (case b_g2 => first | k_is | rfl)
  (case b_g3 => first | k_is | rfl)
  (case b_no => first | k_is | rfl)
  (case b_e1 => first | k_is | rfl)
  (case b_e2 => first | k_is | rfl)
  (case b_e3 => first | k_is | rfl)
  (case b_e4 => first | k_is | rfl)
  (case b_e5 => first | k_is | rfl)
  (case b_e6 => first | k_is | rfl)
  (case b_e7 => first | k_is | rfl)
  (case b_e8 => first | k_is | rfl)
  (case b_x2 => first | k_is | rfl)
  (case b_x3 => first | k_is | rfl)
  (case b_x4 => first | k_is | rfl)
