import PyProof.Rows.All
import Wide.All
import OpenK.AllK
import Wide.FinOn
import HandS.ForMost
import HandS.WordsExc
import HandS.Defaults
import HandS.ExcInit
import HandS.ExcField
import HandS.TryOnly
import HandS.TryMany
import HandS.IsInst
import HandS.Wide
import HandS.OwnEq
import HandS.Deep
import HandS.DeepEq
import HandS.Zip
import HandS.Conv
import HandS.HeadHook2
import HandS.HeadWalk
import PyProof.EqKinds
import HandS.ClsMeth
import HandS.HeadHook4
import HandS.Codes
import KE.KStateDown
import HandS.Head0
import HandS.Head1
import HandS.Head2
import HandS.HeadEnd
import PySem.Challenge.RW_hourwright_k01_weeks_slots_equal_refused
section
set_option Elab.async false
set_option linter.all false
set_option maxRecDepth 100000
set_option maxHeartbeats 4000000
set_option autoImplicit false
namespace MP
open PySem PySem.Spec PyProof.Rows L2

/-! ### data: what a value stands for -/
inductive D where
  | non | bl (b : Bool) | int (i : Int) | str (s : Str) | ty (n : String)
  | tup (xs : List D) | lst (xs : List D) | dic (kvs : List (Key × D)) | obj (C : Str) (fs : List (Str × D)) | ref (a : Addr) | scr (a : Addr) (ns : List Int)

abbrev Frag := PySem.W.Frag
/-- the class of a name -/
abbrev clA (K : Frag) (C : Str) : Addr := He.ga K C

mutual
inductive Rp (K : Frag) (F : Hp) : V → D → Prop
  | non : Rp K F .non .non
  | bl (b : Bool) : Rp K F (.bl b) (.bl b)
  | int (i : Int) : Rp K F (.int i) (.int i)
  | str (x : Str) : Rp K F (.str x) (.str x)
  | ty (n : String) : Rp K F (.ty n) (.ty n)
  | ref (a : Addr) : Rp K F (.ref a) (.ref a)
  | tup {a : Addr} {xs : List V} {ds : List D} : SqT K F a xs → RpAll K F xs ds → Rp K F (.ref a) (.tup ds)
  | lst {a : Addr} {xs : List V} {ds : List D} : F a = some (.lst xs) → RpAll K F xs ds → Rp K F (.ref a) (.lst ds)
  | scr {a : Addr} {ns : List Int} : SqL K F a (ns.map V.int) → Rp K F (.ref a) (.scr a ns)
  | dic {a : Addr} {kvs : List (Key × V)} {ds : List (Key × D)} : F a = some (.dK kvs) → RpKvs K F kvs ds → Rp K F (.ref a) (.dic ds)
  | obj {a dx : Addr} {C : Str} {fs : List (Str × V)} {ds : List (Str × D)} : F a = some (.ins (clA K C) dx fs) → F dx = some (.own a) → RpFs K F fs ds → Rp K F (.ref a) (.obj C ds)
inductive RpAll (K : Frag) (F : Hp) : List V → List D → Prop
  | nil : RpAll K F [] []
  | cons {v : V} {vs : List V} {d : D} {ds : List D} : Rp K F v d → RpAll K F vs ds → RpAll K F (v :: vs) (d :: ds)
inductive RpKvs (K : Frag) (F : Hp) : List (Key × V) → List (Key × D) → Prop
  | nil : RpKvs K F [] []
  | cons {k : Key} {v : V} {vs : List (Key × V)} {d : D} {ds : List (Key × D)} : Rp K F v d → RpKvs K F vs ds → RpKvs K F ((k, v) :: vs) ((k, d) :: ds)
inductive RpFs (K : Frag) (F : Hp) : List (Str × V) → List (Str × D) → Prop
  | nil : RpFs K F [] []
  | cons {k : Str} {v : V} {vs : List (Str × V)} {d : D} {ds : List (Str × D)} : Rp K F v d → RpFs K F vs ds → RpFs K F ((k, v) :: vs) ((k, d) :: ds)
end

theorem sqL_mono {K : Frag} {F F' : Hp} {a : Addr} {xs : List V} (e : Same F F') (h : SqL K F a xs) : SqL K F' a xs := e.seq h
theorem sqT_mono {K : Frag} {F F' : Hp} {a : Addr} {xs : List V} (e : Same F F') (h : SqT K F a xs) : SqT K F' a xs := by
  rcases h with (h | ⟨o, h⟩) | h
  · exact .inl (.inl (e _ _ h))
  · exact .inl (.inr ⟨o, e _ _ h⟩)
  · exact .inr h

mutual
theorem Rp.mono {K : Frag} {F F' : Hp} (e : Same F F') : ∀ {v : V} {d : D}, Rp K F v d → Rp K F' v d
  | _, _, .non => .non
  | _, _, .bl b => .bl b
  | _, _, .int i => .int i
  | _, _, .str x => .str x
  | _, _, .ty n => .ty n
  | _, _, .ref a => .ref a
  | _, _, .tup h r => .tup (sqT_mono e h) (RpAll.mono e r)
  | _, _, .lst h r => .lst (e _ _ h) (RpAll.mono e r)
  | _, _, .scr h => .scr (sqL_mono e h)
  | _, _, .dic h r => .dic (e _ _ h) (RpKvs.mono e r)
  | _, _, .obj h h' r => .obj (e _ _ h) (e _ _ h') (RpFs.mono e r)
theorem RpAll.mono {K : Frag} {F F' : Hp} (e : Same F F') : ∀ {vs : List V} {ds : List D}, RpAll K F vs ds → RpAll K F' vs ds
  | _, _, .nil => .nil
  | _, _, .cons r t => .cons (Rp.mono e r) (RpAll.mono e t)
theorem RpKvs.mono {K : Frag} {F F' : Hp} (e : Same F F') : ∀ {vs : List (Key × V)} {ds : List (Key × D)}, RpKvs K F vs ds → RpKvs K F' vs ds
  | _, _, .nil => .nil
  | _, _, .cons r t => .cons (Rp.mono e r) (RpKvs.mono e t)
theorem RpFs.mono {K : Frag} {F F' : Hp} (e : Same F F') : ∀ {vs : List (Str × V)} {ds : List (Str × D)}, RpFs K F vs ds → RpFs K F' vs ds
  | _, _, .nil => .nil
  | _, _, .cons r t => .cons (Rp.mono e r) (RpFs.mono e t)
end

theorem RpAll.length {K : Frag} {F : Hp} : ∀ {vs : List V} {ds : List D}, RpAll K F vs ds → vs.length = ds.length
  | _, _, .nil => rfl
  | _, _, .cons _ t => by simp [RpAll.length t]
theorem RpAll.get {K : Frag} {F : Hp} : ∀ {vs : List V} {ds : List D} {i : Nat} {v : V}, RpAll K F vs ds → vs[i]? = some v → ∃ d, ds[i]? = some d ∧ Rp K F v d
  | _, _, _, _, .nil, e => by simp at e
  | _, _, 0, _, .cons r _, e => by simp at e; subst e; exact ⟨_, rfl, r⟩
  | _, _, i + 1, v, .cons _ t, e => by
    obtain ⟨d, h1, h2⟩ := RpAll.get (i := i) (v := v) t (by simpa using e)
    exact ⟨d, by simpa using h1, h2⟩
theorem RpAll.get' {K : Frag} {F : Hp} : ∀ {vs : List V} {ds : List D} {i : Nat} {d : D}, RpAll K F vs ds → ds[i]? = some d → ∃ v, vs[i]? = some v ∧ Rp K F v d
  | _, _, _, _, .nil, e => by simp at e
  | _, _, 0, _, .cons r _, e => by simp at e; subst e; exact ⟨_, rfl, r⟩
  | _, _, i + 1, d, .cons _ t, e => by
    obtain ⟨v, h1, h2⟩ := RpAll.get' (i := i) (d := d) t (by simpa using e)
    exact ⟨v, by simpa using h1, h2⟩
theorem RpAll.append {K : Frag} {F : Hp} : ∀ {xs ys : List V} {ds es : List D}, RpAll K F xs ds → RpAll K F ys es → RpAll K F (xs ++ ys) (ds ++ es)
  | _, _, _, _, .nil, s => s
  | _, _, _, _, .cons r t, s => .cons r (RpAll.append t s)
theorem RpAll.take {K : Frag} {F : Hp} : ∀ {xs : List V} {ds : List D} (n : Nat), RpAll K F xs ds → RpAll K F (xs.take n) (ds.take n)
  | _, _, 0, _ => .nil
  | _, _, _ + 1, .nil => .nil
  | _, _, n + 1, .cons r t => .cons r (RpAll.take n t)
theorem RpAll.drop {K : Frag} {F : Hp} : ∀ {xs : List V} {ds : List D} (n : Nat), RpAll K F xs ds → RpAll K F (xs.drop n) (ds.drop n)
  | _, _, 0, r => r
  | _, _, _ + 1, .nil => .nil
  | _, _, n + 1, .cons _ t => RpAll.drop n t
theorem RpAll.set {K : Frag} {F : Hp} {v : V} {d : D} (r : Rp K F v d) : ∀ {xs : List V} {ds : List D} (i : Nat), RpAll K F xs ds → RpAll K F (xs.set i v) (ds.set i d)
  | _, _, _, .nil => .nil
  | _, _, 0, .cons _ t => .cons r t
  | _, _, i + 1, .cons q t => .cons q (RpAll.set r i t)
theorem RpFs.lookup {K : Frag} {F : Hp} {f : Str} : ∀ {vs : List (Str × V)} {ds : List (Str × D)} {d : D}, RpFs K F vs ds → ds.lookup f = some d → ∃ v, vs.lookup f = some v ∧ Rp K F v d
  | _, _, _, .nil, e => by simp at e
  | _, _, d, .cons (k := k) r t, e => by
    rw [List.lookup_cons] at e ⊢
    cases h : f == k with
    | true => rw [h] at e; cases e; exact ⟨_, rfl, r⟩
    | false => rw [h] at e; exact RpFs.lookup t e
theorem RpFs.lookup_none {K : Frag} {F : Hp} {f : Str} : ∀ {vs : List (Str × V)} {ds : List (Str × D)}, RpFs K F vs ds → ds.lookup f = none → vs.lookup f = none
  | _, _, .nil, e => rfl
  | _, _, .cons (k := k) r t, e => by
    rw [List.lookup_cons] at e ⊢
    cases h : f == k with
    | true => rw [h] at e; cases e
    | false => rw [h] at e; exact RpFs.lookup_none t e

/-! ### what a slot, a result stands for -/
/-- fz: data that stays; ow: a list (a dict) that only this slot knows; hnd: the drawing hand -/
inductive SV where
  | fz (d : D) | ow (t : Option Addr) (d : D) | hnd | me (a dx : Addr) (C : Str) (fs : List (Str × D))
/-- what an expression gives: pk i: the owned thing of slot i, looked at -/
inductive EV where
  | fz (d : D) | ow (d : D) | pk (i : Nat) (d : D) | hnd
def EV.d : EV → D
  | .fz d => d
  | .ow d => d
  | .pk _ d => d
  | .hnd => .non

/-- a list or a dict -/
def D.cont : D → Bool
  | .lst _ | .dic _ => true
  | _ => false
def Own (K : Frag) (F H : Hp) (a : Addr) : D → Prop
  | .lst ds => ∃ xs, H a = some (.lst xs) ∧ RpAll K F xs ds
  | .dic ds => ∃ kvs, H a = some (.dK kvs) ∧ RpKvs K F kvs ds
  | .obj C ds => ∃ dx fs, H a = some (.ins (clA K C) dx fs) ∧ H dx = some (.own a) ∧ F dx = none ∧ RpFs K F fs ds
  | _ => False

/-- the hand (at h) and its cells (at c) -/
structure HandOk (K : Frag) (F H : Hp) (h c : Addr) : Prop where
  free : F h = none
  cells : ∃ ns : List Int, SqL K F c (ns.map V.int) ∧ ns.length ≤ 63 ∧ ∀ n ∈ ns, 0 ≤ n
  at_ : ∃ i1 i2 i3 i4 : Int, H h = some (.lst [.ref c, .int i1, .int i2, .int i3, .int i4]) ∧ 0 ≤ i1 ∧ 0 ≤ i2 ∧ 0 ≤ i3 ∧ i3 < 2147483648 ∧ 0 ≤ i4
abbrev Hd := Option (Addr × Addr)
def HdOk (K : Frag) (F H : Hp) : Hd → Prop
  | none => True
  | some (h, c) => HandOk K F H h c
def Hd.is (hd : Hd) (a : Addr) : Prop := ∃ c, hd = some (a, c)

/-- from (F, H) to (F', H'): what was frozen stays, what others own stays -/
structure Ev (K : Frag) (hd : Hd) (F H F' H' : Hp) : Prop where
  ff : Same F F'
  sub : Same F' H'
  keep : ∀ a o, H a = some o → F a = none → ¬ hd.is a → H' a = some o ∧ F' a = none
  hok : HdOk K F' H' hd
  hand : ∀ a, hd.is a → F' a = none

theorem Ev.refl {K : Frag} {hd : Hd} {F H : Hp} (s : Same F H) (h : HdOk K F H hd) : Ev K hd F H F H where
  ff := Same.refl _
  sub := s
  keep := fun a o e n _ => ⟨e, n⟩
  hok := h
  hand := fun a ⟨c, e⟩ => by subst e; exact h.free
theorem Ev.trans {K : Frag} {hd : Hd} {F H F1 H1 F2 H2 : Hp} (a : Ev K hd F H F1 H1) (b : Ev K hd F1 H1 F2 H2) : Ev K hd F H F2 H2 where
  ff := a.ff.trans b.ff
  sub := b.sub
  keep := fun x o e n nh => by
    obtain ⟨e1, n1⟩ := a.keep x o e n nh
    exact b.keep x o e1 n1 nh
  hok := b.hok
  hand := b.hand
theorem Ev.rp {K : Frag} {hd : Hd} {F H F' H' : Hp} (e : Ev K hd F H F' H') {v : V} {d : D} (r : Rp K F v d) : Rp K F' v d := r.mono e.ff
/-- a place that is tracked ahead is tracked behind -/
theorem Ev.there {K : Frag} {hd : Hd} {F H F' H' : Hp} (e : Ev K hd F H F' H') (s : Same F H) {a : Addr} {o : HO} (h : H a = some o) : ∃ o', H' a = some o' := by
  cases q : F a with
  | some u => exact ⟨u, e.sub _ _ (e.ff _ _ q)⟩
  | none =>
    by_cases z : hd.is a
    · obtain ⟨c, z⟩ := z
      subst z
      obtain ⟨_, _, _, _, q, _⟩ := e.hok.at_
      exact ⟨_, q⟩
    · exact ⟨o, (e.keep a o h q z).1⟩
theorem Ev.fresh {K : Frag} {hd : Hd} {F H F' H' : Hp} (e : Ev K hd F H F' H') (s : Same F H) {a : Addr} (h : H' a = none) : H a = none := by
  cases q : H a with
  | none => rfl
  | some o => obtain ⟨o', q'⟩ := e.there s q; rw [h] at q'; cases q'

theorem HdOk.not_own {K : Frag} {hd : Hd} {F H : Hp} (ho : HdOk K F H hd) {a x : Addr} (h : H a = some (.own x)) : ¬ hd.is a := fun ⟨c, z⟩ => by
  subst z
  obtain ⟨_, _, _, _, q, _⟩ := ho.at_
  rw [h] at q; cases q
theorem Own.ev {K : Frag} {hd : Hd} {F H F' H' : Hp} (e : Ev K hd F H F' H') (ho : HdOk K F H hd) {a : Addr} {d : D} (n : F a = none) (nh : ¬ hd.is a) (o : Own K F H a d) : Own K F' H' a d ∧ F' a = none := by
  cases d with
  | lst ds => obtain ⟨xs, h, r⟩ := o; exact ⟨⟨xs, (e.keep a _ h n nh).1, r.mono e.ff⟩, (e.keep a _ h n nh).2⟩
  | dic ds => obtain ⟨xs, h, r⟩ := o; exact ⟨⟨xs, (e.keep a _ h n nh).1, r.mono e.ff⟩, (e.keep a _ h n nh).2⟩
  | obj C ds =>
    obtain ⟨dx, fs, h, hx, nx, r⟩ := o
    obtain ⟨hx', nx'⟩ := e.keep dx _ hx nx (ho.not_own hx)
    exact ⟨⟨dx, fs, (e.keep a _ h n nh).1, hx', nx', r.mono e.ff⟩, (e.keep a _ h n nh).2⟩
  | _ => exact o.elim
theorem Own.at_ {K : Frag} {F H : Hp} {a : Addr} {d : D} (o : Own K F H a d) : ∃ u, H a = some u ∧ Mut (some u) := by
  cases d with
  | lst ds => obtain ⟨xs, h, r⟩ := o; exact ⟨_, h, True.intro⟩
  | dic ds => obtain ⟨xs, h, r⟩ := o; exact ⟨_, h, True.intro⟩
  | obj C ds => obtain ⟨dx, fs, h, hx, nx, r⟩ := o; exact ⟨_, h, True.intro⟩
  | _ => exact o.elim
/-- an owned thing, frozen: the abstract heap of what stays has it too -/
theorem Own.rp {K : Frag} {hd : Hd} {F H : Hp} {a : Addr} {d : D} (n : F a = none) (nh : ¬ hd.is a) (s : Same F H) (ho : HdOk K F H hd) (o : Own K F H a d) :
    ∃ F2, Rp K F2 (.ref a) d ∧ Same F F2 ∧ Same F2 H ∧ HdOk K F2 H hd ∧ (∀ b, hd.is b → F b = none → F2 b = none) ∧ (d.cont = true → ∀ b, F2 b ≠ none → F b ≠ none ∨ b = a) := by
  have s1 : ∀ (F : Hp) (b : Addr) (u : HO), F b = none → Same F (upd F b u) := fun F b u n c o e => by rw [upd_ne (ne_of_none e n)]; exact e
  have s2 : ∀ (F : Hp) (b : Addr) (u : HO), Same F H → H b = some u → Same (upd F b u) H := fun F a u s h b o e => by
    by_cases hb : b = a
    · subst hb; rw [upd_same] at e; cases e; exact h
    · rw [upd_ne hb] at e; exact s b o e
  have hk : ∀ (F : Hp) (b : Addr) (u : HO), HdOk K F H hd → F b = none → ¬ hd.is b → HdOk K (upd F b u) H hd := fun F b u ho n nh => by
    match hd, ho, nh with
    | none, _, _ => exact True.intro
    | some (h, c), ho, nh =>
      have q : HandOk K F H h c := ho
      refine ⟨?_, ?_, q.at_⟩
      · rw [upd_ne (fun z => nh ⟨c, by rw [z]⟩)]; exact q.free
      · obtain ⟨ns, h1, h2⟩ := q.cells; exact ⟨ns, sqL_mono (s1 _ _ _ n) h1, h2⟩
  have hh : ∀ (F : Hp) (b : Addr) (u : HO), ¬ hd.is b → ∀ c, hd.is c → F c = none → upd F b u c = none := fun F b u nh c z q => by rw [upd_ne (fun y => nh (by rw [← y]; exact z))]; exact q
  have hn : ∀ (F : Hp) (b : Addr) (u : HO) (c : Addr), upd F b u c ≠ none → F c ≠ none ∨ c = b := fun F b u c q => by
    by_cases z : c = b
    · exact .inr z
    · rw [upd_ne z] at q; exact .inl q
  cases d with
  | lst ds => obtain ⟨xs, h, r⟩ := o; exact ⟨_, .lst upd_same (r.mono (s1 _ _ _ n)), s1 _ _ _ n, s2 _ _ _ s h, hk _ _ _ ho n nh, hh _ _ _ nh, fun _ b q => hn _ _ _ b q⟩
  | dic ds => obtain ⟨xs, h, r⟩ := o; exact ⟨_, .dic upd_same (r.mono (s1 _ _ _ n)), s1 _ _ _ n, s2 _ _ _ s h, hk _ _ _ ho n nh, hh _ _ _ nh, fun _ b q => hn _ _ _ b q⟩
  | obj C ds =>
    obtain ⟨dx, fs, h, hx, nx, r⟩ := o
    have ne : dx ≠ a := fun z => by rw [z, h] at hx; cases hx
    have nhx : ¬ hd.is dx := ho.not_own hx
    have n2 : upd F a (.ins (clA K C) dx fs) dx = none := by rw [upd_ne ne]; exact nx
    refine ⟨upd (upd F a (.ins (clA K C) dx fs)) dx (.own a), .obj (by rw [upd_ne (Ne.symm ne), upd_same]) upd_same (r.mono ((s1 _ _ _ n).trans (s1 _ _ _ n2))), (s1 _ _ _ n).trans (s1 _ _ _ n2),
      s2 _ _ _ (s2 _ _ _ s h) hx, hk _ _ _ (hk _ _ _ ho n nh) n2 nhx, fun b z q => hh _ _ _ nhx b z (hh _ _ _ nh b z q), fun z => by cases z⟩
  | _ => exact o.elim
/-- an owned thing, read -/
theorem Own.seen {K : Frag} {F H : Hp} {a : Addr} {d : D} (s : Same F H) (o : Own K F H a d) : Rp K H (.ref a) d := by
  cases d with
  | lst ds => obtain ⟨xs, h, r⟩ := o; exact .lst h (r.mono s)
  | dic ds => obtain ⟨xs, h, r⟩ := o; exact .dic h (r.mono s)
  | obj C ds => obtain ⟨dx, fs, h, hx, nx, r⟩ := o; exact .obj h hx (r.mono s)
  | _ => exact o.elim

abbrev Rho := List (Option SV)
/-- the state of a body: F_0, H_0 at its entry -/
structure StOk (K : Frag) (hd : Hd) (F0 H0 F H : Hp) (ρ : Rho) (σ : L2.St) : Prop where
  sub0 : Same F0 H0
  ev : Ev K hd F0 H0 F H
  len : ρ.length = σ.length
  fz : ∀ (i : Nat) (d : D), ρ[i]? = some (some (SV.fz d)) → ∃ v, σ[i]? = some (some v) ∧ Rp K F v d
  ow : ∀ (i : Nat) (t : Option Addr) (d : D), ρ[i]? = some (some (SV.ow t d)) → ∃ a, σ[i]? = some (some (V.ref a)) ∧ F a = none ∧ ¬ hd.is a ∧ H0 a = none ∧ Own K F H a d
  hnd : ∀ (i : Nat), ρ[i]? = some (some SV.hnd) → ∃ h c, hd = some (h, c) ∧ σ[i]? = some (some (V.ref h))
  me : ∀ (i : Nat) (a dx : Addr) (C : Str) (ds : List (Str × D)), ρ[i]? = some (some (SV.me a dx C ds)) → σ[i]? = some (some (V.ref a)) ∧ F a = none ∧ ¬ hd.is a ∧ H0 a = none ∧ H0 dx = none ∧ ∃ fs, H a = some (.ins (clA K C) dx fs) ∧ H dx = some (.own a) ∧ F dx = none ∧ RpFs K F fs ds
  ct : ∀ (i : Nat) (t : Option Addr) (d : D), ρ[i]? = some (some (SV.ow t d)) → d.cont = true
  tg : ∀ (i : Nat) (b : Addr) (d : D), ρ[i]? = some (some (SV.ow (some b) d)) → σ[i]? = some (some (V.ref b))
  one : ∀ (i j : Nat) (a b dx dy : Addr) (C C' : Str) (ds es : List (Str × D)), ρ[i]? = some (some (SV.me a dx C ds)) → ρ[j]? = some (some (SV.me b dy C' es)) → i = j
  dis : ∀ (i j : Nat) (t u : Option Addr) (d e : D) (a : Addr), ρ[i]? = some (some (SV.ow t d)) → ρ[j]? = some (some (SV.ow u e)) → σ[i]? = some (some (V.ref a)) → σ[j]? = some (some (V.ref a)) → i = j
section
variable {K : Frag} {hd : Hd} {F0 H0 F H F' H' : Hp} {ρ : Rho} {σ : L2.St}
theorem StOk.sub (S : StOk K hd F0 H0 F H ρ σ) : Same F H := S.ev.sub
theorem StOk.step (S : StOk K hd F0 H0 F H ρ σ) (e : Ev K hd F H F' H') : StOk K hd F0 H0 F' H' ρ σ where
  sub0 := S.sub0
  ev := S.ev.trans e
  len := S.len
  fz := fun i d h => by obtain ⟨v, h1, r⟩ := S.fz i d h; exact ⟨v, h1, r.mono e.ff⟩
  ow := fun i t d h => by
    obtain ⟨a, h1, n, nh, h0, o⟩ := S.ow i t d h
    obtain ⟨o', n'⟩ := o.ev e S.ev.hok n nh
    exact ⟨a, h1, n', nh, h0, o'⟩
  hnd := S.hnd
  me := fun i a dx C ds h => by
    obtain ⟨h1, n, nh, h0, hx0, fs, z1, z2, z3, z4⟩ := S.me i a dx C ds h
    obtain ⟨y1, y2⟩ := e.keep a _ z1 n nh
    obtain ⟨x1, x2⟩ := e.keep dx _ z2 z3 (S.ev.hok.not_own z2)
    exact ⟨h1, y2, nh, h0, hx0, fs, y1, x1, x2, z4.mono e.ff⟩
  ct := S.ct
  tg := S.tg
  one := S.one
  dis := S.dis
end

/-- data that are looked at: they stay, or are owned -/
def Sn (K : Frag) (hd : Hd) (F H : Hp) (v : V) (d : D) : Prop := Rp K F v d ∨ ∃ a, v = .ref a ∧ F a = none ∧ ¬ hd.is a ∧ d.cont = true ∧ Own K F H a d
theorem Sn.rp {K : Frag} {hd : Hd} {F H : Hp} {v : V} {d : D} (s : Same F H) (x : Sn K hd F H v d) : Rp K H v d := by
  rcases x with x | ⟨a, rfl, nf, nh, ct, o⟩
  · exact Rp.mono s x
  · exact o.seen s
theorem Sn.lst {K : Frag} {hd : Hd} {F H : Hp} {v : V} {ds : List D} (s : Same F H) (x : Sn K hd F H v (.lst ds)) : ∃ a xs, v = .ref a ∧ H a = some (.lst xs) ∧ RpAll K F xs ds := by
  rcases x with x | ⟨a, rfl, nf, nh, ct, o⟩
  · cases x with | lst h r => exact ⟨_, _, rfl, s _ _ h, r⟩
  · obtain ⟨xs, h, r⟩ := o; exact ⟨a, xs, rfl, h, r⟩
theorem Sn.tup {K : Frag} {hd : Hd} {F H : Hp} {v : V} {ds : List D} (x : Sn K hd F H v (.tup ds)) : ∃ a xs, v = .ref a ∧ SqT K F a xs ∧ RpAll K F xs ds := by
  rcases x with x | ⟨a, rfl, nf, nh, ct, o⟩
  · cases x with | tup h r => exact ⟨_, _, rfl, h, r⟩
  · exact o.elim
theorem Sn.int {K : Frag} {hd : Hd} {F H : Hp} {v : V} {i : Int} (x : Sn K hd F H v (.int i)) : v = .int i := by
  rcases x with x | ⟨a, rfl, nf, nh, ct, o⟩
  · cases x; rfl
  · exact o.elim
theorem Sn.bl {K : Frag} {hd : Hd} {F H : Hp} {v : V} {i : Bool} (x : Sn K hd F H v (.bl i)) : v = .bl i := by
  rcases x with x | ⟨a, rfl, nf, nh, ct, o⟩
  · cases x; rfl
  · exact o.elim
theorem Sn.str {K : Frag} {hd : Hd} {F H : Hp} {v : V} {i : Str} (x : Sn K hd F H v (.str i)) : v = .str i := by
  rcases x with x | ⟨a, rfl, nf, nh, ct, o⟩
  · cases x; rfl
  · exact o.elim
theorem Sn.non {K : Frag} {hd : Hd} {F H : Hp} {v : V} (x : Sn K hd F H v .non) : v = .non := by
  rcases x with x | ⟨a, rfl, nf, nh, ct, o⟩
  · cases x; rfl
  · exact o.elim
theorem Sn.scr {K : Frag} {hd : Hd} {F H : Hp} {v : V} {c : Addr} {ns : List Int} (s : Same F H) (x : Sn K hd F H v (.scr c ns)) : ∃ a, v = .ref a ∧ SqL K H a (ns.map V.int) := by
  rcases x with x | ⟨a, rfl, nf, nh, ct, o⟩
  · cases x with | scr h => exact ⟨_, rfl, sqL_mono s h⟩
  · exact o.elim
theorem Sn.obj {K : Frag} {hd : Hd} {F H : Hp} {v : V} {C : Str} {ds : List (Str × D)} (s : Same F H) (x : Sn K hd F H v (.obj C ds)) : ∃ a dx fs, v = .ref a ∧ H a = some (.ins (clA K C) dx fs) ∧ H dx = some (.own a) ∧ RpFs K F fs ds := by
  rcases x with x | ⟨a, rfl, nf, nh, ct, o⟩
  · cases x with | obj h h' r => exact ⟨_, _, _, rfl, s _ _ h, s _ _ h', r⟩
  · obtain ⟨dx, fs, h, hx, nx, r⟩ := o; exact ⟨a, dx, fs, rfl, h, hx, r⟩

/-- a result: v stands for r in the state (F', H') that came from H -/
def RpE (K : Frag) (hd : Hd) (H F' H' : Hp) (ρ : Rho) (σ : L2.St) (v : V) : EV → Prop
  | .fz d => Rp K F' v d
  | .ow d => ∃ a, v = .ref a ∧ H a = none ∧ F' a = none ∧ ¬ hd.is a ∧ Own K F' H' a d ∧ d.cont = true
  | .pk i d => (∃ t, ρ[i]? = some (some (SV.ow t d))) ∧ σ[i]? = some (some v)
  | .hnd => ∃ h c, hd = some (h, c) ∧ v = .ref h
section
variable {K : Frag} {hd : Hd} {F0 H0 H1 F H F' H' : Hp} {ρ : Rho} {σ : L2.St} {v : V} {r : EV}
theorem RpE.step (q : RpE K hd H1 F H ρ σ v r) (e : Ev K hd F H F' H') (ho : HdOk K F H hd) : RpE K hd H1 F' H' ρ σ v r := by
  cases r with
  | fz d => exact Rp.mono e.ff q
  | ow d => obtain ⟨a, e1, n1, n2, nh, o, ct⟩ := q; obtain ⟨o', n'⟩ := o.ev e ho n2 nh; exact ⟨a, e1, n1, n', nh, o', ct⟩
  | pk i d => exact q
  | hnd => exact q
theorem RpE.back {H2 : Hp} (q : RpE K hd H1 F H ρ σ v r) (h : ∀ a, H1 a = none → H2 a = none) : RpE K hd H2 F H ρ σ v r := by
  cases r with
  | fz d => exact q
  | ow d => obtain ⟨a, e1, n1, z⟩ := q; exact ⟨a, e1, h a n1, z⟩
  | pk i d => exact q
  | hnd => exact q
/-- read in the state of now -/
theorem RpE.seen (S : StOk K hd F0 H0 F H ρ σ) (q : RpE K hd H1 F H ρ σ v r) (hr : r ≠ .hnd) : Sn K hd F H v r.d := by
  cases r with
  | fz d => exact .inl q
  | ow d => obtain ⟨a, e1, n1, n2, nh, o, ct⟩ := q; exact .inr ⟨a, e1, n2, nh, ct, o⟩
  | pk i d =>
    obtain ⟨⟨t, h1⟩, h2⟩ := q
    obtain ⟨a, e, n, nh, h0, o⟩ := S.ow i t d h1
    rw [h2] at e; cases e
    exact .inr ⟨a, rfl, n, nh, S.ct i t d h1, o⟩
  | hnd => exact absurd rfl hr
end
end MP
end
section
set_option Elab.async false
set_option linter.all false
set_option maxRecDepth 100000
set_option maxHeartbeats 4000000
set_option autoImplicit false
namespace MP
open PySem PySem.Spec PyProof.Rows L2

/-! ### the reading language -/
inductive Bop where
  | add | sub | mul | fdiv | mod | pow
  deriving DecidableEq
inductive Cop where
  | eq | ne | lt | le | gt | ge | isn | notn | inn | notin
  deriving DecidableEq
/-- the built-ins that are called -/
inductive Bi where
  | len | int | abs | all | any | sum | list | tuple
  deriving DecidableEq
/-- a class that isinstance names: a built-in one, an own one by its number -/
inductive Ty where
  | bi (n : String) | own (j : Nat)
  deriving DecidableEq

mutual
inductive Ex where
  | var (i : Nat)
  | int (i : Int) | bl (b : Bool) | str (s : Str) | non
  | con (j : Nat)
  | neg (a : Ex)
  | bin (op : Bop) (a b : Ex)
  | cmp (op : Cop) (a b : Ex)
  | chain (op op2 : Cop) (a b c : Ex)
  | not (a : Ex)
  | and (es : List Ex) | or (es : List Ex)
  | ife (t : Te) (a b : Ex)
  | tup (es : List Ex) | lst (es : List Ex)
  | dic (kvs : List (Str × Ex))
  | idx (o i : Ex)
  | sli (o : Ex) (lo hi : Option Ex)
  | fld (o : Ex) (f : Str)
  | isi (a : Ex) (t : Ty) | isis (a : Ex) (ts : List Ty)
  | call (j : Nat) (es : List Ex)
  | mk (j : Nat) (es : List Ex)
  | mth (j : Nat) (m : Nat) (o : Ex) (es : List Ex)
  | bi (f : Bi) (es : List Ex)
  | lrng (es : List Ex) | trng (es : List Ex)
  | lc (own : List Nat) (tg : Tg) (it : It) (ifs : Option Te) (elt : Ex)
/-- a test -/
inductive Te where
  | val (e : Ex) | not (t : Te) | and (ts : List Te) | or (ts : List Te)
inductive Tg where
  | nm (i : Nat) | tp (is : List Nat)
inductive It where
  | seq (e : Ex) | rng (es : List Ex) | zip (es : List Ex) | enum (es : List Ex)
end
/-- an expression of an except suite -/
inductive Xe where
  | int (i : Int) | bl (b : Bool) | str (s : Str) | non | var (i : Nat) | xf (f : Str) | tup (es : List Xe)
/-- a statement of an except suite -/
inductive Xs where
  | set (i : Nat) (e : Xe) | ret (e : Xe) | skip
/-- an except clause: the class's number, the name's slot, the suite -/
structure Hdl where
  c : Nat
  slot : Option Nat
  st : Xs
mutual
inductive St where
  | skip
  | expr (e : Ex)
  | set (i : Nat) (e : Ex)
  | unp (is : List Nat) (e : Ex)
  | par (i j : Nat) (a b : Ex)
  | aug (i : Nat) (op : Bop) (e : Ex)
  | app (i : Nat) (e : Ex)
  | ret (e : Ex) | retN
  | ife (t : Te) (a b : List St)
  | whil (t : Te) (b : List St)
  | forr (tg : Tg) (it : It) (b : List St)
  | brk | cont
  | rais (j : Nat) (e : Option Ex)
  | frz (i : Nat)
  | setf (i : Nat) (f : Str) (e : Ex)
  | seti (i : Nat) (j : Ex) (e : Ex)
  | tryy (b : List St) (hs : List Hdl)
end

/-- a value's kind -/
inductive Kd where
  | bi (n : String) | own (C : Str)
  deriving DecidableEq
/-- an exception: its class's name, its fields -/
abbrev Exn := Str × List (Str × D)
/-- what a def is worth: the arguments, what is wanted of an exception, of the result -/
abbrev Spec := List SV → (Exn → Prop) → (EV → Prop) → Prop

/-- the text's tables -/
structure Tab where
  fn : Nat → Spec
  cls : Nat → Str
  con : Nat → D
  mkk : Nat → Spec
  mth : Nat → Nat → Spec
  exc : Nat → Option Str
  sub : Str → Str → Bool
  /-- a field of a class's instances -/
  fl : Str → Str → Bool
  /-- kinds whose isinstance is known -/
  ki : Kd → Ty → Bool
  /-- names that are the interpreter's -/
  free : List Str
  hasC : Nat → Bool
  hasK : Nat → Bool
  conN : Nat → Str
  fnN : Nat → Str
  mthN : Nat → Nat → Str
  /-- whether the classes' relation is known (except) -/
  hasX : Str → Nat → Bool
  /-- a field of an exception -/
  xl : Str → Str → Bool
  /-- what may be called as yet -/
  hasF : Nat → Bool
  hasM : Nat → Bool
  hasMt : Nat → Nat → Bool
  hasE : Nat → Bool
  /-- classes with an own __eq__ that may be called; what it tells; own kinds that it may meet -/
  hasQ : Str → Bool
  eqB : Str → List (Str × D) → D → Option Bool
  qk : Str → Str → Bool

/-! ### the operations over data -/
def intW (x : D) (k : Int → Prop) : Prop := match x with
  | .int i => k i
  | _ => False
def boolW (x : EV) (k : Bool → Prop) : Prop := match x with
  | .fz (.bl b) => k b
  | _ => False
def addW (x y : D) (Q : EV → Prop) : Prop := match x, y with
  | .int i, .int j => Q (.fz (.int (i + j)))
  | .str s, .str t => s.length + t.length ≤ sizeLine ∧ Q (.fz (.str (s ++ t)))
  | .lst xs, .lst ys => xs.length + ys.length ≤ sizeLine ∧ Q (.ow (.lst (xs ++ ys)))
  | .tup xs, .tup ys => xs ≠ [] ∧ ys ≠ [] ∧ xs.length + ys.length ≤ sizeLine ∧ Q (.fz (.tup (xs ++ ys)))
  | _, _ => False
def binW (op : Bop) (x y : D) (Q : EV → Prop) : Prop := match op with
  | .add => addW x y Q
  | .sub => intW x fun i => intW y fun j => Q (.fz (.int (i - j)))
  | .mul => intW x fun i => intW y fun j => CMul i j ∧ Q (.fz (.int (i * j)))
  | .fdiv => intW x fun i => intW y fun j => CDivW i j ∧ Q (.fz (.int (i / j)))
  | .mod => intW x fun i => intW y fun j => 0 < j ∧ Q (.fz (.int (i % j)))
  | .pow => intW x fun i => intW y fun j => CPow i j ∧ Q (.fz (.int (i ^ j.toNat)))

mutual
/-- data without objects, whose == the machine tells -/
def D.plain : D → Bool
  | .non | .bl _ | .int _ | .str _ => true
  | .tup xs => plainL xs
  | .lst xs => plainL xs
  | _ => false
def plainL : List D → Bool
  | [] => true
  | d :: r => d.plain && plainL r
end
mutual
def D.pd : D → PyData
  | .non => .none
  | .bl b => .bool b
  | .int i => .int i
  | .str s => .str s
  | .tup xs => .tuple (pdL xs)
  | .lst xs => .list (pdL xs)
  | _ => .none
def pdL : List D → List PyData
  | [] => []
  | d :: r => d.pd :: pdL r
end
def eqOk (x y : D) : Bool := x.plain && y.plain && SeqAt.shaped x.pd && SeqAt.shaped y.pd
def D.isNon : D → Bool
  | .non => true
  | _ => false
def D.kd : D → Option Kd
  | .non => some (.bi "NoneType")
  | .bl _ => some (.bi "bool")
  | .int _ => some (.bi "int")
  | .str _ => some (.bi "str")
  | .tup _ => some (.bi "tuple")
  | .lst _ => some (.bi "list")
  | .dic _ => some (.bi "dict")
  | .obj C _ => some (.own C)
  | _ => none
def D.isObj : D → Bool
  | .obj _ _ => true
  | _ => false
def qkd (T : Tab) (C : Str) (y : D) : Bool := match y.kd with
  | some (.own C') => T.qk C C'
  | some (.bi _) => true
  | none => false
/-- == where an own instance stands on one side -/
def ownE (T : Tab) (x y : D) : Option Bool := match x with
  | .obj C fs => if T.hasQ C && qkd T C y then T.eqB C fs y else none
  | _ => (match y with
    | .obj C fs => if T.hasQ C && x.kd.isSome then T.eqB C fs x else none
    | _ => none)
def eqT (T : Tab) (x y : D) : Option Bool := if x.isObj || y.isObj then ownE T x y else if eqOk x y then some (PyData.eqv x.pd y.pd) else none
def cmpW (T : Tab) (op : Cop) (x y : D) (Q : EV → Prop) : Prop := match op with
  | .eq => ∃ b, eqT T x y = some b ∧ Q (.fz (.bl b))
  | .ne => ∃ b, eqT T x y = some b ∧ Q (.fz (.bl (!b)))
  | .lt => intW x fun i => intW y fun j => Q (.fz (.bl (decide (i < j))))
  | .le => intW x fun i => intW y fun j => Q (.fz (.bl (decide (i ≤ j))))
  | .gt => intW x fun i => intW y fun j => Q (.fz (.bl (decide (j < i))))
  | .ge => intW x fun i => intW y fun j => Q (.fz (.bl (decide (j ≤ i))))
  | .isn => y.isNon = true ∧ Q (.fz (.bl x.isNon))
  | .notn => y.isNon = true ∧ Q (.fz (.bl (!x.isNon)))
  | .inn => False
  | .notin => False

def isB (T : Tab) (k : Kd) (t : Ty) : Bool := match k, t with
  | .bi n, .bi m => n == m || (n == "bool" && m == "int")
  | .own C, .own j => T.sub C (T.cls j)
  | _, _ => false

def itemW (o i : D) (Q : EV → Prop) : Prop := match o, i with
  | .lst xs, .int i => ∃ d, atI xs i = some d ∧ Q (.fz d)
  | .tup xs, .int i => ∃ d, atI xs i = some d ∧ Q (.fz d)
  | .scr _ ns, .int i => ∃ d, atI ns i = some d ∧ Q (.fz (.int d))
  | .str z, .int i => z.length ≤ sizeLine ∧ ∃ c, atI z.cps.toList i = some c ∧ Q (.fz (.str ⟨#[c]⟩))
  | _, _ => False
def cutD {α : Type} (xs : List α) (lo hi : Option Int) : List α := (xs.drop (HT.sIx xs.length 0 lo)).take (HT.sIx xs.length xs.length hi - HT.sIx xs.length 0 lo)
def sliW (o : D) (lo hi : Option Int) (Q : EV → Prop) : Prop := match o with
  | .lst xs => Q (.ow (.lst (cutD xs lo hi)))
  | .scr _ ns => Q (.ow (.lst ((cutD ns lo hi).map D.int)))
  | _ => False
def fldW (fl : Str → Str → Bool) (o : D) (f : Str) (Q : EV → Prop) : Prop := match o with
  | .obj C fs => fl C f = true ∧ ∃ d, fs.lookup f = some d ∧ Q (.fz d)
  | _ => False
def optW (x : Option Int → Prop) : Option D → Prop
  | none => x none
  | some (.int i) => x (some i)
  | _ => False

/-- how an argument is handed on: what is owned is let go -/
def EV.arg (x : EV) (k : SV → Prop) : Prop := match x with
  | .fz d => k (.fz d)
  | .ow d => k (.fz d)
  | .hnd => k .hnd
  | .pk _ _ => False
def EV.put (x : EV) (k : D → Prop) : Prop := match x with
  | .fz d => k d
  | .ow d => k d
  | _ => False
def lenW (x : D) (Q : EV → Prop) : Prop := match x with
  | .str s => s.length ≤ sizeLine ∧ Q (.fz (.int s.length))
  | .lst xs => Q (.fz (.int xs.length))
  | .tup xs => Q (.fz (.int xs.length))
  | .scr _ ns => Q (.fz (.int ns.length))
  | _ => False
def bools? : List D → Option (List Bool)
  | [] => some []
  | .bl b :: r => (bools? r).map (b :: ·)
  | _ => none
def ints? : List D → Option (List Int)
  | [] => some []
  | .int b :: r => (ints? r).map (b :: ·)
  | _ => none
def rangeD (lo : Int) (n : Nat) : List D := (List.range n).map fun (i : Nat) => D.int (lo + i)
/-- a call of a built-in: its arguments looked at, or new -/
def biW : Bi → List EV → (EV → Prop) → Prop
  | .len, [x], Q => x ≠ .hnd ∧ lenW x.d Q
  | .int, [.fz (.int i)], Q => Q (.fz (.int i))
  | .int, [.fz (.bl b)], Q => Q (.fz (.int (if b then 1 else 0)))
  | .abs, [.fz (.int i)], Q => Q (.fz (.int (if i < 0 then -i else i)))
  | .all, [x], Q => x ≠ .hnd ∧ (match x.d with | .lst ds => ∃ bs, bools? ds = some bs ∧ Q (.fz (.bl (bs.all id))) | _ => False)
  | .any, [x], Q => x ≠ .hnd ∧ (match x.d with | .lst ds => ∃ bs, bools? ds = some bs ∧ Q (.fz (.bl (bs.any id))) | _ => False)
  | .sum, [x], Q => x ≠ .hnd ∧ (match x.d with | .lst ds => ∃ bs, ints? ds = some bs ∧ Q (.fz (.int bs.sum)) | _ => False)
  | .list, [x], Q => x ≠ .hnd ∧ (match x.d with | .lst ds => Q (.ow (.lst ds)) | .tup ds => Q (.ow (.lst ds)) | _ => False)
  | .tuple, [x], Q => x ≠ .hnd ∧ (match x.d with | .lst ds => Q (.fz (.tup ds)) | .tup ds => Q (.fz (.tup ds)) | _ => False)
  | _, _, _ => False
def rngW (xs : List EV) (k : List D → Prop) : Prop := match xs with
  | [.fz (.int j)] => -(2 ^ 62) ≤ j ∧ j < 2 ^ 62 ∧ k (rangeD 0 j.toNat)
  | [.fz (.int i), .fz (.int j)] => (-(2 ^ 62) ≤ i ∧ i < 2 ^ 62 ∧ -(2 ^ 62) ≤ j ∧ j < 2 ^ 62) ∧ k (rangeD i (j - i).toNat)
  | _ => False
/-- a range made whole -/
def wholeW (xs : List EV) (k : List D → Prop) : Prop := match xs with
  | [.fz (.int j)] => RgOk 0 j ∧ k (rangeD 0 j.toNat)
  | [.fz (.int i), .fz (.int j)] => RgOk i j ∧ k (rangeD i (j - i).toNat)
  | _ => False
def seqW (x : EV) (k : List D → Prop) : Prop := match x with
  | .fz (.lst ds) => k ds
  | .fz (.tup ds) => k ds
  | .ow (.lst ds) => k ds
  | _ => False
def zipD : List D → List D → List D
  | x :: xs, y :: ys => .tup [x, y] :: zipD xs ys
  | _, _ => []
def enumD : Nat → List D → List D
  | n, x :: xs => .tup [.int n, x] :: enumD (n + 1) xs
  | _, [] => []
def zipW (ss : List SV) (k : List D → Prop) : Prop := match ss with
  | [.fz (.lst xs), .fz (.lst ys)] => xs.length = ys.length ∧ k (zipD xs ys)
  | [.fz (.tup xs), .fz (.tup ys)] => xs.length = ys.length ∧ k (zipD xs ys)
  | _ => False
def enumW (ss : List SV) (k : List D → Prop) : Prop := match ss with
  | [.fz (.lst xs)] => k (enumD 0 xs)
  | _ => False
/-- names set one after the other -/
def setAll : List Nat → List D → Rho → Option Rho
  | [], [], ρ => some ρ
  | i :: r, d :: ds, ρ => setAll r ds (ρ.set i (some (.fz d)))
  | _, _, _ => none
def tgW (tg : Tg) (d : D) (ρ : Rho) (k : Rho → Prop) : Prop := match tg with
  | .nm i => k (ρ.set i (some (.fz d)))
  | .tp is => (match d with
    | .tup ds => ∃ ρ', setAll is ds ρ = some ρ' ∧ k ρ'
    | _ => False)
def wipeR (ρ : Rho) : List Nat → Rho
  | [] => ρ
  | v :: vs => (wipeR ρ vs).set v none
/-- the turns of a comprehension -/
def lcW (tg : Tg) (tt : Rho → (Bool → Prop) → Prop) (te : Rho → (EV → Prop) → Prop) (ρ : Rho) : List D → List D → (List D → Prop) → Prop
  | [], acc, k => k acc
  | d :: ds, acc, k => tgW tg d ρ fun ρ1 => tt ρ1 fun b => if b = true then te ρ1 fun x => x.put fun y => acc.length < sizeLine ∧ lcW tg tt te ρ ds (acc ++ [y]) k else lcW tg tt te ρ ds acc k

mutual
def wE (T : Tab) : Ex → Rho → (Exn → Prop) → (EV → Prop) → Prop
  | .var i, ρ, _, Q => (match ρ[i]? with
    | some (some (.fz d)) => Q (.fz d)
    | some (some (.ow _ d)) => Q (.pk i d)
    | some (some .hnd) => Q .hnd
    | _ => False)
  | .int i, _, _, Q => Q (.fz (.int i))
  | .bl b, _, _, Q => Q (.fz (.bl b))
  | .str s, _, _, Q => Q (.fz (.str s))
  | .non, _, _, Q => Q (.fz .non)
  | .con j, _, _, Q => Q (.fz (T.con j))
  | .neg a, ρ, E, Q => wE T a ρ E fun x => intW x.d fun i => Q (.fz (.int (-i)))
  | .bin op a b, ρ, E, Q => wE T a ρ E fun x => wE T b ρ E fun y => x ≠ .hnd ∧ y ≠ .hnd ∧ binW op x.d y.d Q
  | .cmp op a b, ρ, E, Q => wE T a ρ E fun x => wE T b ρ E fun y => x ≠ .hnd ∧ y ≠ .hnd ∧ cmpW T op x.d y.d Q
  | .chain op op2 a b c, ρ, E, Q => wE T a ρ E fun x => wE T b ρ E fun y => x ≠ .hnd ∧ y ≠ .hnd ∧ cmpW T op x.d y.d fun r => boolW r fun t => if t = true then wE T c ρ E fun z => z ≠ .hnd ∧ cmpW T op2 y.d z.d Q else Q (.fz (.bl false))
  | .not a, ρ, E, Q => wE T a ρ E fun x => boolW x fun b => Q (.fz (.bl (!b)))
  | .and es, ρ, E, Q => wAnd T es ρ E Q
  | .or es, ρ, E, Q => wOr T es ρ E Q
  | .ife t a b, ρ, E, Q => wT T t ρ E fun c => if c = true then wE T a ρ E Q else wE T b ρ E Q
  | .tup es, ρ, E, Q => wPut T es ρ E fun ds => ds.length ≤ sizeLine ∧ Q (.fz (.tup ds))
  | .lst es, ρ, E, Q => wPut T es ρ E fun ds => ds.length ≤ sizeLine ∧ Q (.ow (.lst ds))
  | .dic kvs, ρ, E, Q => wKvs T kvs ρ E fun ds => Q (.ow (.dic ds))
  | .idx o i, ρ, E, Q => wE T o ρ E fun x => wE T i ρ E fun y => x ≠ .hnd ∧ y ≠ .hnd ∧ itemW x.d y.d Q
  | .sli o lo hi, ρ, E, Q => wE T o ρ E fun x => wO T lo ρ E fun l => wO T hi ρ E fun h => x ≠ .hnd ∧ optW (fun l => optW (fun h => sliW x.d l h Q) h) l
  | .fld o f, ρ, E, Q => wE T o ρ E fun x => x ≠ .hnd ∧ fldW T.fl x.d f Q
  | .isi a t, ρ, E, Q => wE T a ρ E fun x => x ≠ .hnd ∧ ∃ k, x.d.kd = some k ∧ T.ki k t = true ∧ Q (.fz (.bl (isB T k t)))
  | .isis a ts, ρ, E, Q => wE T a ρ E fun x => x ≠ .hnd ∧ ∃ k, x.d.kd = some k ∧ ts.all (T.ki k) = true ∧ Q (.fz (.bl (ts.any (isB T k))))
  | .call j es, ρ, E, Q => wArg T es ρ E fun ss => T.fn j ss E Q
  | .mk j es, ρ, E, Q => wArg T es ρ E fun ss => T.mkk j ss E Q
  | .mth j m o es, ρ, E, Q => wE T o ρ E fun x => (match x with
    | .fz (.obj C fs) => C = T.cls j ∧ fs.lookup (T.mthN j m) = none ∧ wArg T es ρ E fun ss => T.mth j m (.fz (.obj C fs) :: ss) E Q
    | _ => False)
  | .bi f es, ρ, E, Q => wLook T es ρ E fun xs => biW f xs Q
  | .lrng es, ρ, E, Q => wLook T es ρ E fun xs => wholeW xs fun ds => Q (.ow (.lst ds))
  | .trng es, ρ, E, Q => wLook T es ρ E fun xs => wholeW xs fun ds => Q (.fz (.tup ds))
  | .lc own tg it ifs elt, ρ, _, Q => wI T it ρ (fun _ => False) fun ds => lcW tg (fun ρ1 k => wIf T ifs ρ1 (fun _ => False) k) (fun ρ1 k => wE T elt ρ1 (fun _ => False) k) (wipeR ρ own) ds [] fun acc => Q (.ow (.lst acc))
/-- a test -/
def wT (T : Tab) : Te → Rho → (Exn → Prop) → (Bool → Prop) → Prop
  | .val e, ρ, E, Q => wE T e ρ E fun x => boolW x Q
  | .not a, ρ, E, Q => wT T a ρ E fun b => Q (!b)
  | .and es, ρ, E, Q => wTAnd T es ρ E Q
  | .or es, ρ, E, Q => wTOr T es ρ E Q
def wTAnd (T : Tab) : List Te → Rho → (Exn → Prop) → (Bool → Prop) → Prop
  | [], _, _, _ => False
  | a :: r, ρ, E, Q => wT T a ρ E fun c => if c = true then wTAnd1 T r ρ E Q else Q false
def wTAnd1 (T : Tab) : List Te → Rho → (Exn → Prop) → (Bool → Prop) → Prop
  | [], _, _, Q => Q true
  | a :: r, ρ, E, Q => wT T a ρ E fun c => if c = true then wTAnd1 T r ρ E Q else Q false
def wTOr (T : Tab) : List Te → Rho → (Exn → Prop) → (Bool → Prop) → Prop
  | [], _, _, _ => False
  | a :: r, ρ, E, Q => wT T a ρ E fun c => if c = true then Q true else wTOr1 T r ρ E Q
def wTOr1 (T : Tab) : List Te → Rho → (Exn → Prop) → (Bool → Prop) → Prop
  | [], _, _, Q => Q false
  | a :: r, ρ, E, Q => wT T a ρ E fun c => if c = true then Q true else wTOr1 T r ρ E Q
def wAnd (T : Tab) : List Ex → Rho → (Exn → Prop) → (EV → Prop) → Prop
  | [], _, _, _ => False
  | a :: r, ρ, E, Q => wE T a ρ E fun x => wAnd1 T x r ρ E Q
def wAnd1 (T : Tab) (x : EV) : List Ex → Rho → (Exn → Prop) → (EV → Prop) → Prop
  | [], _, _, Q => Q x
  | a :: r, ρ, E, Q => boolW x fun c => if c = true then wE T a ρ E fun y => wAnd1 T y r ρ E Q else Q (.fz (.bl false))
def wOr (T : Tab) : List Ex → Rho → (Exn → Prop) → (EV → Prop) → Prop
  | [], _, _, _ => False
  | a :: r, ρ, E, Q => wE T a ρ E fun x => wOr1 T x r ρ E Q
def wOr1 (T : Tab) (x : EV) : List Ex → Rho → (Exn → Prop) → (EV → Prop) → Prop
  | [], _, _, Q => Q x
  | a :: r, ρ, E, Q => boolW x fun c => if c = true then Q (.fz (.bl true)) else wE T a ρ E fun y => wOr1 T y r ρ E Q
/-- parts of a new thing -/
def wPut (T : Tab) : List Ex → Rho → (Exn → Prop) → (List D → Prop) → Prop
  | [], _, _, k => k []
  | a :: r, ρ, E, k => wE T a ρ E fun x => x.put fun d => wPut T r ρ E fun ds => k (d :: ds)
def wKvs (T : Tab) : List (Str × Ex) → Rho → (Exn → Prop) → (List (Key × D) → Prop) → Prop
  | [], _, _, k => k []
  | [(s, a)], ρ, E, k => wE T a ρ E fun x => x.put fun d => k [(.inr s, d)]
  | _, _, _, _ => False
/-- arguments -/
def wArg (T : Tab) : List Ex → Rho → (Exn → Prop) → (List SV → Prop) → Prop
  | [], _, _, k => k []
  | a :: r, ρ, E, k => wE T a ρ E fun x => x.arg fun s => wArg T r ρ E fun ss => k (s :: ss)
/-- arguments that are looked at -/
def wLook (T : Tab) : List Ex → Rho → (Exn → Prop) → (List EV → Prop) → Prop
  | [], _, _, k => k []
  | a :: r, ρ, E, k => wE T a ρ E fun x => wLook T r ρ E fun xs => k (x :: xs)
def wO (T : Tab) : Option Ex → Rho → (Exn → Prop) → (Option D → Prop) → Prop
  | none, _, _, k => k none
  | some a, ρ, E, k => wE T a ρ E fun x => k (some x.d)
def wIf (T : Tab) : Option Te → Rho → (Exn → Prop) → (Bool → Prop) → Prop
  | none, _, _, k => k true
  | some a, ρ, E, k => wT T a ρ E k
def wI (T : Tab) : It → Rho → (Exn → Prop) → (List D → Prop) → Prop
  | .seq e, ρ, E, k => wE T e ρ E fun x => seqW x k
  | .rng es, ρ, E, k => wLook T es ρ E fun xs => rngW xs k
  | .zip es, ρ, E, k => wArg T es ρ E fun ss => zipW ss k
  | .enum es, ρ, E, k => wArg T es ρ E fun ss => enumW ss k
end

/-- what is wanted behind a statement -/
structure Wd where
  nx : Rho → Prop
  rt : Rho → EV → Prop
  ex : Rho → Exn → Prop
  bk : Rho → Prop := fun _ => False
  ct : Rho → Prop := fun _ => False

def forW (tg : Tg) (body : Rho → Wd → Prop) (D : Wd) : List MP.D → Rho → Prop
  | [], ρ => D.nx ρ
  | d :: ds, ρ => tgW tg d ρ fun ρ1 => body ρ1 { nx := forW tg body D ds, ct := forW tg body D ds, bk := D.nx, rt := D.rt, ex := D.ex }
def whileW (t : Rho → (Exn → Prop) → (Bool → Prop) → Prop) (body : Rho → Wd → Prop) (D : Wd) : Nat → Rho → Prop
  | 0, _ => False
  | n + 1, ρ => t ρ (D.ex ρ) fun b => if b = true then body ρ { nx := whileW t body D n, ct := whileW t body D n, bk := D.nx, rt := D.rt, ex := D.ex } else D.nx ρ
def EV.keep (x : EV) (k : SV → Prop) : Prop := match x with
  | .fz d => k (.fz d)
  | .ow d => k (.ow none d)
  | _ => False
def EV.out (x : EV) (k : EV → Prop) : Prop := match x with
  | .fz d => k (.fz d)
  | .ow d => k (.ow d)
  | .pk _ d => d.cont = true ∧ k (.ow d)
  | _ => False
/-- a field stored -/
def putD (f : Str) (v : D) : List (Str × D) → List (Str × D)
  | [] => [(f, v)]
  | (g, x) :: r => if g = f then (g, v) :: r else (g, x) :: putD f v r
mutual
def wX (fs : List (Str × D)) : Xe → Rho → (D → Prop) → Prop
  | .int i, _, Q => Q (.int i)
  | .bl i, _, Q => Q (.bl i)
  | .str i, _, Q => Q (.str i)
  | .non, _, Q => Q .non
  | .var i, ρ, Q => (match ρ[i]? with
    | some (some (.fz d)) => Q d
    | _ => False)
  | .xf f, _, Q => ∃ d, fs.lookup f = some d ∧ Q d
  | .tup es, ρ, Q => wXs fs es ρ fun ds => ds.length ≤ sizeLine ∧ Q (.tup ds)
def wXs (fs : List (Str × D)) : List Xe → Rho → (List D → Prop) → Prop
  | [], _, k => k []
  | a :: r, ρ, k => wX fs a ρ fun d => wXs fs r ρ fun ds => k (d :: ds)
end
def Xs.w (fs : List (Str × D)) (D : Wd) : Xs → Rho → Prop
  | .set i e, ρ => wX fs e ρ fun d => D.nx (ρ.set i (some (.fz d)))
  | .ret e, ρ => wX fs e ρ fun d => D.rt ρ (.fz d)
  | .skip, ρ => D.nx ρ
def handW (T : Tab) : List Hdl → Rho → Exn → Wd → Prop
  | [], ρ, x, D => D.ex ρ x
  | h :: r, ρ, x, D => T.hasX x.1 h.c = true ∧ if T.sub x.1 (T.cls h.c) = true then (match h.slot with
      | none => h.st.w [] D ρ
      | some i => i < ρ.length ∧ x.1 = T.cls h.c ∧ h.st.w x.2 { D with nx := fun ρ' => D.nx (ρ'.set i none) } (ρ.set i none)) else handW T r ρ x D
/-- the hand's form: cells, three numbers, a count -/
def handD : D → Prop
  | .lst [.lst cs, .int i1, .int i2, .int i3, .int i4] => (∃ ns, ints? cs = some ns ∧ ns.length ≤ 63 ∧ ∀ n ∈ ns, 0 ≤ n) ∧ 0 ≤ i1 ∧ 0 ≤ i2 ∧ 0 ≤ i3 ∧ i3 < 2147483648 ∧ 0 ≤ i4
  | _ => False
mutual
def wS (T : Tab) : St → Rho → Wd → Prop
  | .skip, ρ, D => D.nx ρ
  | .expr e, ρ, D => wE T e ρ (D.ex ρ) fun _ => D.nx ρ
  | .set i e, ρ, D => wE T e ρ (D.ex ρ) fun x => x.keep fun s => D.nx (ρ.set i (some s))
  | .unp is e, ρ, D => wE T e ρ (D.ex ρ) fun x => x ≠ .hnd ∧ (match x with | .fz (.tup ds) => ∃ ρ', setAll is ds ρ = some ρ' ∧ D.nx ρ' | _ => False)
  | .par i j a b, ρ, D => wE T a ρ (D.ex ρ) fun x => x.put fun d => wE T b ρ (D.ex ρ) fun y => y.put fun e => D.nx ((ρ.set i (some (.fz d))).set j (some (.fz e)))
  | .aug i op e, ρ, D => (match ρ[i]? with
    | some (some (.fz x)) => wE T e ρ (D.ex ρ) fun y => (match op with
      | .add => intW x fun a => intW y.d fun b => D.nx (ρ.set i (some (.fz (.int (a + b)))))
      | .sub => intW x fun a => intW y.d fun b => D.nx (ρ.set i (some (.fz (.int (a - b)))))
      | _ => False)
    | _ => False)
  | .app i e, ρ, D => (match ρ[i]? with
    | some (some (.ow t (.lst ds))) => wE T e ρ (D.ex ρ) fun x => x.put fun d => ds.length < sizeLine ∧ D.nx (ρ.set i (some (.ow t (.lst (ds ++ [d])))))
    | _ => False)
  | .ret e, ρ, D => wE T e ρ (D.ex ρ) fun x => x.out (D.rt ρ)
  | .retN, ρ, D => D.rt ρ (.fz .non)
  | .ife t a b, ρ, D => wT T t ρ (D.ex ρ) fun c => if c = true then wSs T a ρ D else wSs T b ρ D
  | .whil t b, ρ, D => ∃ n, whileW (wT T t) (wSs T b) D n ρ
  | .forr tg it b, ρ, D => wI T it ρ (D.ex ρ) fun ds => forW tg (wSs T b) D ds ρ
  | .brk, ρ, D => D.bk ρ
  | .cont, ρ, D => D.ct ρ
  | .rais j none, ρ, D => T.exc j = none ∧ D.ex ρ (T.cls j, [])
  | .rais j (some e), ρ, D => wE T e ρ (D.ex ρ) fun x => x.put fun d => ∃ f, T.exc j = some f ∧ D.ex ρ (T.cls j, [(f, d)])
  | .frz i, ρ, D => (match ρ[i]? with
    | some (some (.ow _ d)) => d.cont = true ∧ D.nx (ρ.set i (some (.fz d)))
    | some (some (.fz _)) => D.nx ρ
    | _ => False)
  | .setf i f e, ρ, D => (match ρ[i]? with
    | some (some (.me a dx C fs)) => wE T e ρ (D.ex ρ) fun x => x.put fun d => T.fl C f = true ∧ fs.length < 1000 ∧ D.nx (ρ.set i (some (.me a dx C (putD f d fs))))
    | _ => False)
  | .seti i j e, ρ, D => (match ρ[i]? with
    | some (some (.ow t (.lst ds))) => wE T e ρ (D.ex ρ) fun x => x.put fun d => wE T j ρ (D.ex ρ) fun y => intW y.d fun n => ∃ m, ixN ds.length n = some m ∧ D.nx (ρ.set i (some (.ow t (.lst (ds.set m d)))))
    | _ => False)
  | .tryy b hs, ρ, D => wSs T b ρ { D with ex := fun ρ' x => handW T hs ρ' x D }
def wSs (T : Tab) : List St → Rho → Wd → Prop
  | [], ρ, D => D.nx ρ
  | s :: r, ρ, D => wS T s ρ { D with nx := fun ρ' => wSs T r ρ' D }
end
end MP
end
section
set_option Elab.async false
set_option linter.all false
set_option maxRecDepth 100000
set_option maxHeartbeats 4000000
set_option autoImplicit false
namespace MP
open PySem PySem.Spec PyProof.Rows L2

theorem PE.imp {X : Cx} {e : Expr} {t t' : TE} (h : PE X e t) (i : ∀ σ H Q, t' σ H Q → t σ H Q) : PE X e t' := ⟨fun pins s σ H Q I q => h.run pins s σ H Q I (i _ _ _ q)⟩
theorem PT.imp {X : Cx} {e : Expr} {t t' : TT} (h : PT X e t) (i : ∀ σ H Q, t' σ H Q → t σ H Q) : PT X e t' := ⟨fun pins s σ H Q I q => h.run pins s σ H Q I (i _ _ _ q)⟩
theorem PA.imp {X : Cx} {e : List Expr} {t t' : TA} (h : PA X e t) (i : ∀ σ H Q, t' σ H Q → t σ H Q) : PA X e t' := ⟨fun pos pins s σ H Q I q => h.run pos pins s σ H Q I (i _ _ _ q)⟩
theorem PS.imp {X : Cx} {e : Stmt} {t t' : TS} (h : PS X e t) (i : ∀ D σ H, t' D σ H → t D σ H) : PS X e t' := ⟨fun pins s σ H D I q => h.run pins s σ H D I (i _ _ _ q)⟩
theorem PSs.imp {X : Cx} {e : List Stmt} {t t' : TS} (h : PSs X e t) (i : ∀ D σ H, t' D σ H → t D σ H) : PSs X e t' := ⟨fun pins s σ H D I q => h.run pins s σ H D I (i _ _ _ q)⟩
theorem PI.imp {X : Cx} {tg e : Expr} {t t' : TI} (h : PI X tg e t) (i : ∀ σ H Q, t' σ H Q → t σ H Q) : PI X tg e t' := ⟨fun pins s σ H Q I q => h.run pins s σ H Q I (i _ _ _ q)⟩

/-- the dict of an exception -/
def RpX (K : Frag) (F H : Hp) (d : Option Addr) (fs : List (Str × D)) : Prop :=
  (d = none ∧ fs = []) ∨ ∃ dd vs, d = some dd ∧ H dd = some (.xd vs) ∧ F dd = none ∧ RpFs K F vs fs
abbrev DW := Rho → (Exn → Prop) → (EV → Prop) → Prop
/-- what an exception must reach -/
def XT (K : Frag) (W : WX) (hd : Hd) (F H : Hp) (σ : L2.St) (E : Exn → Prop) : Prop :=
  ∀ (C : Str) (fs : List (Str × D)) (d : Option Addr) (F' H' : Hp), Ev K hd F H F' H' → RpX K F' H' d fs → E (C, fs) → W (.ref (clA K C)) d σ H'
theorem XT.step {K : Frag} {W : WX} {hd : Hd} {F H F' H' : Hp} {σ : L2.St} {E : Exn → Prop} (x : XT K W hd F H σ E) (e : Ev K hd F H F' H') : XT K W hd F' H' σ E :=
  fun C fs d F2 H2 e2 r h => x C fs d F2 H2 (e.trans e2) r h
/-- the reading of an expression, by what its data are -/
def dT (K : Frag) (W : WX) (w : DW) : TE := fun σ H Q => ∃ (hd : Hd) (F0 H0 F : Hp) (ρ : Rho) (E : Exn → Prop) (Qd : EV → Prop), StOk K hd F0 H0 F H ρ σ ∧ w ρ E Qd ∧
  (∀ v F' H' r, Ev K hd F H F' H' → RpE K hd H F' H' ρ σ v r → Qd r → Q v H') ∧ XT K W hd F H σ E
abbrev DTw := Rho → (Exn → Prop) → (Bool → Prop) → Prop
def dB (K : Frag) (W : WX) (w : DTw) : TT := fun σ H Q => ∃ (hd : Hd) (F0 H0 F : Hp) (ρ : Rho) (E : Exn → Prop) (Qd : Bool → Prop), StOk K hd F0 H0 F H ρ σ ∧ w ρ E Qd ∧
  (∀ b F' H', Ev K hd F H F' H' → Qd b → Q b H') ∧ XT K W hd F H σ E
/-- argument lists: results one by one -/
def RpEs (K : Frag) (hd : Hd) (H F' H' : Hp) (ρ : Rho) (σ : L2.St) : List V → List EV → Prop
  | [], [] => True
  | v :: vs, r :: rs => RpE K hd H F' H' ρ σ v r ∧ RpEs K hd H F' H' ρ σ vs rs
  | _, _ => False
abbrev DAw := Rho → (Exn → Prop) → (List EV → Prop) → Prop
def dA (K : Frag) (W : WX) (w : DAw) : TA := fun σ H Q => ∃ (hd : Hd) (F0 H0 F : Hp) (ρ : Rho) (E : Exn → Prop) (Qd : List EV → Prop), StOk K hd F0 H0 F H ρ σ ∧ w ρ E Qd ∧
  (∀ vs F' H' rs, Ev K hd F H F' H' → RpEs K hd H F' H' ρ σ vs rs → Qd rs → Q vs H') ∧ XT K W hd F H σ E

section
variable {K : Frag} {hd : Hd} {F0 H0 H1 F H F' H' : Hp} {ρ : Rho} {σ : L2.St} {v : V} {r : EV}
theorem RpEs.step (e : Ev K hd F H F' H') (ho : HdOk K F H hd) : ∀ {vs : List V} {rs : List EV}, RpEs K hd H1 F H ρ σ vs rs → RpEs K hd H1 F' H' ρ σ vs rs
  | [], [], _ => True.intro
  | _ :: _, _ :: _, ⟨a, b⟩ => ⟨RpE.step a e ho, RpEs.step e ho b⟩
  | [], _ :: _, h => h.elim
  | _ :: _, [], h => h.elim
theorem RpEs.back {H2 : Hp} (h : ∀ a, H1 a = none → H2 a = none) : ∀ {vs : List V} {rs : List EV}, RpEs K hd H1 F H ρ σ vs rs → RpEs K hd H2 F H ρ σ vs rs
  | [], [], _ => True.intro
  | _ :: _, _ :: _, ⟨a, b⟩ => ⟨RpE.back a h, RpEs.back h b⟩
  | [], _ :: _, h => h.elim
  | _ :: _, [], h => h.elim
/-- an owned result is let go: it stays from now on -/
theorem Ev.freeze {d : D} (s : Same F H) (e : Ev K hd F H F' H') (q : RpE K hd H F' H' ρ σ v (.ow d)) : ∃ F2, Ev K hd F H F2 H' ∧ Rp K F2 v d ∧ Same F' F2 := by
  obtain ⟨a, rfl, n, n', nh, o, ct⟩ := q
  obtain ⟨F2, rp, s1, s2, hk, hh, hn⟩ := o.rp n' nh e.sub e.hok
  refine ⟨F2, ⟨e.ff.trans s1, s2, fun b o' h1 h2 h3 => ?_, hk, fun b z => hh b z (e.hand b z)⟩, rp, s1⟩
  obtain ⟨h4, h5⟩ := e.keep b o' h1 h2 h3
  refine ⟨h4, ?_⟩
  cases q : F2 b with
  | none => rfl
  | some u =>
    rcases hn ct b (by rw [q]; simp) with z | z
    · exact absurd h5 z
    · rw [z, n] at h1; cases h1
/-- a part of a new thing -/
theorem put_ev {k : D → Prop} (s : Same F H) (e : Ev K hd F H F' H') (q : RpE K hd H F' H' ρ σ v r) (h : r.put k) : ∃ F2 d, Ev K hd F H F2 H' ∧ Rp K F2 v d ∧ k d ∧ Same F' F2 := by
  cases r with
  | fz d => exact ⟨F', d, e, q, h, Same.refl _⟩
  | ow d => obtain ⟨F2, e2, r2, s2⟩ := Ev.freeze s e q; exact ⟨F2, d, e2, r2, h, s2⟩
  | pk i d => exact h.elim
  | hnd => exact h.elim
/-- an argument -/
def RpS (K : Frag) (hd : Hd) (F : Hp) (v : V) : SV → Prop
  | .fz d => Rp K F v d
  | .hnd => ∃ h c, hd = some (h, c) ∧ v = .ref h
  | .ow _ _ => False
  | .me _ _ _ _ => False
theorem RpS.mono {F2 : Hp} {s : SV} (e : Same F F2) (q : RpS K hd F v s) : RpS K hd F2 v s := by
  cases s with
  | fz d => exact Rp.mono e q
  | hnd => exact q
  | ow _ d => exact q
  | me _ _ _ _ => exact q
theorem arg_ev {k : SV → Prop} (s : Same F H) (e : Ev K hd F H F' H') (q : RpE K hd H F' H' ρ σ v r) (h : r.arg k) : ∃ F2 z, Ev K hd F H F2 H' ∧ RpS K hd F2 v z ∧ k z ∧ Same F' F2 := by
  cases r with
  | fz d => exact ⟨F', .fz d, e, q, h, Same.refl _⟩
  | ow d => obtain ⟨F2, e2, r2, s2⟩ := Ev.freeze s e q; exact ⟨F2, .fz d, e2, r2, h, s2⟩
  | pk i d => exact h.elim
  | hnd => exact ⟨F', .hnd, e, q, h, Same.refl _⟩
def RpSs (K : Frag) (hd : Hd) (F : Hp) : List V → List SV → Prop
  | [], [] => True
  | v :: vs, r :: rs => RpS K hd F v r ∧ RpSs K hd F vs rs
  | _, _ => False
theorem RpSs.mono {F2 : Hp} (e : Same F F2) : ∀ {vs : List V} {rs : List SV}, RpSs K hd F vs rs → RpSs K hd F2 vs rs
  | [], [], _ => True.intro
  | _ :: _, _ :: _, ⟨a, b⟩ => ⟨RpS.mono e a, RpSs.mono e b⟩
  | [], _ :: _, h => h.elim
  | _ :: _, [], h => h.elim
theorem RpSs.length : ∀ {vs : List V} {rs : List SV}, RpSs K hd F vs rs → vs.length = rs.length
  | [], [], _ => rfl
  | _ :: _, _ :: _, ⟨a, b⟩ => by simp [RpSs.length b]
  | [], _ :: _, h => h.elim
  | _ :: _, [], h => h.elim
end

/-! ### argument lists -/
def dP (K : Frag) (W : WX) (w : Rho → (Exn → Prop) → (List D → Prop) → Prop) : TA := fun σ H Q => ∃ (hd : Hd) (F0 H0 F : Hp) (ρ : Rho) (E : Exn → Prop) (Qd : List D → Prop), StOk K hd F0 H0 F H ρ σ ∧ w ρ E Qd ∧
  (∀ vs F' H' ds, Ev K hd F H F' H' → RpAll K F' vs ds → Qd ds → Q vs H') ∧ XT K W hd F H σ E
def dG (K : Frag) (W : WX) (w : Rho → (Exn → Prop) → (List SV → Prop) → Prop) : TA := fun σ H Q => ∃ (hd : Hd) (F0 H0 F : Hp) (ρ : Rho) (E : Exn → Prop) (Qd : List SV → Prop), StOk K hd F0 H0 F H ρ σ ∧ w ρ E Qd ∧
  (∀ vs F' H' ss, Ev K hd F H F' H' → RpSs K hd F' vs ss → Qd ss → Q vs H') ∧ XT K W hd F H σ E
/-- an argument that is no star -/
def noStar : Expr → Bool
  | .Starred .. => false
  | _ => true
theorem star_one {e : Expr} {es : List Expr} {env : Env} (h : noStar e = true) : starEach (e :: es) env = (false, eval e env) :: starEach es env := by
  cases e <;> first | rfl | cases h
section
variable {X : Cx} {W : WX} {e : Expr} {es : List Expr}
theorem dp_nil : PA X [] (dP X.K W fun _ _ k => k []) := PA.imp pa_nil fun σ H Q ⟨hd, F0, H0, F, ρ, E, Qd, S, h, k, x⟩ => k [] F H [] (.refl S.sub S.ev.hok) .nil h
theorem dp_cons {w : DW} {w2 : Rho → (Exn → Prop) → (List D → Prop) → Prop} (ha : PE X e (dT X.K W w)) (hr : PA X es (dP X.K W w2)) (hn : noStar e = true) :
    PA X (e :: es) (dP X.K W fun ρ E k => w ρ E fun x => x.put fun d => w2 ρ E fun ds => k (d :: ds)) := by
  refine PA.imp (pa_cons ha hr (star_one hn)) fun σ H Q ⟨hd, F0, H0, F, ρ, E, Qd, S, h, k, x⟩ => ?_
  refine ⟨hd, F0, H0, F, ρ, E, _, S, h, fun v F1 H1 r e1 q1 h1 => ?_, x⟩
  obtain ⟨F2, d, e2, rp, h2, _⟩ := put_ev S.sub e1 q1 h1
  exact ⟨hd, F0, H0, F2, ρ, E, _, S.step e2, h2, fun vs F3 H3 ds e3 r3 h3 => k _ F3 H3 _ (e2.trans e3) (.cons (rp.mono e3.ff) r3) h3, x.step e2⟩
theorem dg_nil : PA X [] (dG X.K W fun _ _ k => k []) := PA.imp pa_nil fun σ H Q ⟨hd, F0, H0, F, ρ, E, Qd, S, h, k, x⟩ => k [] F H [] (.refl S.sub S.ev.hok) True.intro h
theorem dg_cons {w : DW} {w2 : Rho → (Exn → Prop) → (List SV → Prop) → Prop} (ha : PE X e (dT X.K W w)) (hr : PA X es (dG X.K W w2)) (hn : noStar e = true) :
    PA X (e :: es) (dG X.K W fun ρ E k => w ρ E fun x => x.arg fun d => w2 ρ E fun ds => k (d :: ds)) := by
  refine PA.imp (pa_cons ha hr (star_one hn)) fun σ H Q ⟨hd, F0, H0, F, ρ, E, Qd, S, h, k, x⟩ => ?_
  refine ⟨hd, F0, H0, F, ρ, E, _, S, h, fun v F1 H1 r e1 q1 h1 => ?_, x⟩
  obtain ⟨F2, d, e2, rp, h2, _⟩ := arg_ev S.sub e1 q1 h1
  exact ⟨hd, F0, H0, F2, ρ, E, _, S.step e2, h2, fun vs F3 H3 ds e3 r3 h3 => k _ F3 H3 (d :: ds) (e2.trans e3) (show RpSs X.K hd F3 (v :: vs) (d :: ds) from ⟨rp.mono e3.ff, r3⟩) h3, x.step e2⟩
theorem da_nil : PA X [] (dA X.K W fun _ _ k => k []) := PA.imp pa_nil fun σ H Q ⟨hd, F0, H0, F, ρ, E, Qd, S, h, k, x⟩ => k [] F H [] (.refl S.sub S.ev.hok) True.intro h
theorem da_cons {w : DW} {w2 : DAw} (ha : PE X e (dT X.K W w)) (hr : PA X es (dA X.K W w2)) (hn : noStar e = true) :
    PA X (e :: es) (dA X.K W fun ρ E k => w ρ E fun x => w2 ρ E fun ds => k (x :: ds)) := by
  refine PA.imp (pa_cons ha hr (star_one hn)) fun σ H Q ⟨hd, F0, H0, F, ρ, E, Qd, S, h, k, x⟩ => ?_
  refine ⟨hd, F0, H0, F, ρ, E, _, S, h, fun v F1 H1 r e1 q1 h1 => ?_, x⟩
  refine ⟨hd, F0, H0, F1, ρ, E, _, S.step e1, h1, fun vs F3 H3 ds e3 r3 h3 => k _ F3 H3 (r :: ds) (e1.trans e3) (show RpEs X.K hd H F3 H3 ρ σ (v :: vs) (r :: ds) from ⟨q1.step e3 e1.hok, RpEs.back (fun a n => e1.fresh S.sub n) r3⟩) h3, x.step e1⟩

/-! ### names, constants -/
theorem de_var {i : Nat} {x : Str} {pos : Pos} (hN : X.N[i]? = some x) (hv : Vis X.env.scope x) (hd : (x == ("__debug__" : Str)) = false) (hcd : (x == ("__classdict__" : Str)) = false) (T : Tab) : PE X (.Name x pos) (dT X.K W (wE T (.var i))) := by
  refine PE.imp (pe_var hN hv hd hcd) fun σ H Q ⟨hd, F0, H0, F, ρ, E, Qd, S, h, k, x⟩ => ?_
  unfold wE at h
  cases e : ρ[i]? with
  | none => rw [e] at h; exact h.elim
  | some o =>
    cases o with
    | none => rw [e] at h; exact h.elim
    | some s =>
      rw [e] at h
      have e0 := Ev.refl S.sub S.ev.hok
      cases s with
      | fz d =>
        obtain ⟨v, h1, r⟩ := S.fz i d e
        exact ⟨v, h1, k v F H (.fz d) e0 r h⟩
      | ow t d =>
        obtain ⟨a, h1, _⟩ := S.ow i t d e
        exact ⟨_, h1, k _ F H (.pk i d) e0 ⟨⟨t, e⟩, h1⟩ h⟩
      | hnd =>
        obtain ⟨a, c, h1, h2⟩ := S.hnd i e
        exact ⟨_, h2, k _ F H .hnd e0 ⟨a, c, h1, rfl⟩ h⟩
      | me _ _ _ _ => exact h.elim
theorem de_c {e : Expr} {v : V} {d : D} (h : PE X e (tC v)) (hr : ∀ F, Rp X.K F v d) : PE X e (dT X.K W fun _ _ Q => Q (.fz d)) :=
  PE.imp h fun σ H Q ⟨hd, F0, H0, F, ρ, E, Qd, S, h, k, x⟩ => k v F H (.fz d) (.refl S.sub S.ev.hok) (hr F) h
end

/-! ### operations that look at their operands -/
/-- a new thing: not yet there, or data -/
def RpN (K : Frag) (hd : Hd) (H F' H' : Hp) (v : V) : EV → Prop
  | .fz d => Rp K F' v d
  | .ow d => ∃ a, v = .ref a ∧ H a = none ∧ F' a = none ∧ ¬ hd.is a ∧ Own K F' H' a d ∧ d.cont = true
  | _ => False
theorem RpN.e {K : Frag} {hd : Hd} {H F' H' : Hp} {v : V} {r : EV} {ρ : Rho} {σ : L2.St} (q : RpN K hd H F' H' v r) : RpE K hd H F' H' ρ σ v r := by
  cases r with
  | fz d => exact q
  | ow d => exact q
  | pk i d => exact q.elim
  | hnd => exact q.elim
/-- the end of an operation -/
def OpEnd (K : Frag) (hd : Hd) (F H : Hp) (Qd : EV → Prop) (Q : VK) : Prop := ∀ v F' H' r, Ev K hd F H F' H' → RpN K hd H F' H' v r → Qd r → Q v H'
def OpD (K : Frag) (r : R2) (f : D → D → (EV → Prop) → Prop) : Prop :=
  ∀ (hd : Hd) (F H : Hp) (x y : V) (dx dy : D) (Qd : EV → Prop) (Q : VK), Same F H → HdOk K F H hd → Sn K hd F H x dx → Sn K hd F H y dy → f dx dy Qd → OpEnd K hd F H Qd Q → r x y H Q
theorem OpEnd.here {K : Frag} {hd : Hd} {F H : Hp} {Qd : EV → Prop} {Q : VK} (k : OpEnd K hd F H Qd Q) (s : Same F H) (h : HdOk K F H hd) {v : V} {d : D} (r : ∀ F, Rp K F v d) (q : Qd (.fz d)) : Q v H :=
  k v F H (.fz d) (.refl s h) (r F) q
section
variable {X : Cx} {W : WX} {a b : Expr} {wa wb : DW} {pos : Pos}
theorem two_ops {r : R2} {f : D → D → (EV → Prop) → Prop} (hr : OpD X.K r f) {σ : L2.St} {H : Hp} {Q : VK}
    (h : dT X.K W (fun ρ E Q => wa ρ E fun x => wb ρ E fun y => x ≠ .hnd ∧ y ≠ .hnd ∧ f x.d y.d Q) σ H Q) : tOp r (dT X.K W wa) (dT X.K W wb) σ H Q := by
  obtain ⟨hd, F0, H0, F, ρ, E, Qd, S, h, k, x⟩ := h
  refine ⟨hd, F0, H0, F, ρ, E, _, S, h, fun v F1 H1 r1 e1 q1 h1 => ?_, x⟩
  refine ⟨hd, F0, H0, F1, ρ, E, _, S.step e1, h1, fun u F2 H2 r2 e2 q2 ⟨n1, n2, hf⟩ => ?_, x.step e1⟩
  have S2 := (S.step e1).step e2
  refine hr hd F2 H2 v u r1.d r2.d Qd Q S2.sub S2.ev.hok ((q1.step e2 e1.hok).seen S2 n1) (q2.seen S2 n2) hf fun v' F' H' r e q hq => ?_
  exact k v' F' H' r ((e1.trans e2).trans e) (q.e.back fun a n => (e1.trans e2).fresh S.sub n) hq
theorem de_bin {op : Operator} {r : R2} {f : D → D → (EV → Prop) → Prop} (ho : OpR X (binaryOp op) r) (hr : OpD X.K r f) (ha : PE X a (dT X.K W wa)) (hb : PE X b (dT X.K W wb)) :
    PE X (.BinOp a op b pos) (dT X.K W fun ρ E Q => wa ρ E fun x => wb ρ E fun y => x ≠ .hnd ∧ y ≠ .hnd ∧ f x.d y.d Q) :=
  PE.imp (pe_op ho ha hb) fun _ _ _ h => two_ops hr h
theorem de_cmp {op : CmpOp} {r : R2} {f : D → D → (EV → Prop) → Prop} (ho : OpR X (compareOp op) r) (hr : OpD X.K r f) (ha : PE X a (dT X.K W wa)) (hb : PE X b (dT X.K W wb)) (hm : behindInMarks op b = false) :
    PE X (.Compare a [op] [b] pos) (dT X.K W fun ρ E Q => wa ρ E fun x => wb ρ E fun y => x ≠ .hnd ∧ y ≠ .hnd ∧ f x.d y.d Q) :=
  PE.imp (pe_cmpR ho ha hb hm) fun _ _ _ h => two_ops hr h
theorem de_idx {r : R2} {f : D → D → (EV → Prop) → Prop} (ho : IxR X r) (hr : OpD X.K r f) (ha : PE X a (dT X.K W wa)) (hb : PE X b (dT X.K W wb)) (hs : PlainIx b) :
    PE X (.Subscript a b pos) (dT X.K W fun ρ E Q => wa ρ E fun x => wb ρ E fun y => x ≠ .hnd ∧ y ≠ .hnd ∧ f x.d y.d Q) :=
  PE.imp (pe_ix ho ha hb hs) fun _ _ _ h => two_ops hr h
end
end MP
end
section
set_option Elab.async false
set_option linter.all false
set_option maxRecDepth 100000
set_option maxHeartbeats 4000000
set_option autoImplicit false
namespace MP
open PySem PySem.Spec PyProof.Rows L2

/-! ### the operations, by what HandS has of them -/
theorem intW_of {x : D} {k : Int → Prop} (h : intW x k) : ∃ i, x = D.int i ∧ k i := by
  cases x with
  | int i => exact ⟨i, rfl, h⟩
  | _ => exact h.elim
theorem boolW_of {x : EV} {k : Bool → Prop} (h : boolW x k) : ∃ i, x = .fz (.bl i) ∧ k i := by
  cases x with
  | fz d =>
    cases d with
    | bl b => exact ⟨b, rfl, h⟩
    | _ => exact h.elim
  | _ => exact h.elim
section
variable {K : Frag} {hd : Hd} {F H : Hp}
/-- a new object is laid: it is owned -/
theorem Ev.new {p : Addr} {u : HO} (s : Same F H) (ho : HdOk K F H hd) (n : H p = none) : Ev K hd F H F (upd H p u) ∧ F p = none ∧ ¬ hd.is p := by
  have nf : F p = none := s.free n
  have nh : ¬ hd.is p := fun ⟨c, z⟩ => by
    subst z
    obtain ⟨_, _, _, _, q, _⟩ := ho.at_
    rw [n] at q; cases q
  refine ⟨⟨Same.refl _, fun b o e => ?_, fun b o e z _ => ⟨?_, z⟩, ?_, fun b ⟨c, z⟩ => ?_⟩, nf, nh⟩
  · rw [upd_ne (ne_of_none (s b o e) n)]; exact s b o e
  · rw [upd_ne (ne_of_none e n)]; exact e
  · match hd, ho, nh with
    | none, _, _ => exact True.intro
    | some (h, c), ho, nh =>
      have q : HandOk K F H h c := ho
      refine ⟨q.free, q.cells, ?_⟩
      obtain ⟨i1, i2, i3, i4, e, r⟩ := q.at_
      exact ⟨i1, i2, i3, i4, by rw [upd_ne (ne_of_none e n)]; exact e, r⟩
  · subst z; exact ho.free
/-- what is new is written -/
theorem Ev.put {p : Addr} {u : HO} {F' H' : Hp} (e : Ev K hd F H F' H') (n : H p = none) (nf : F' p = none) (nh : ¬ hd.is p) : Ev K hd F H F' (upd H' p u) := by
  refine ⟨e.ff, fun b o q => ?_, fun b o q z y => ⟨?_, (e.keep b o q z y).2⟩, ?_, e.hand⟩
  · rw [upd_ne (fun z => by rw [z, nf] at q; cases q)]; exact e.sub b o q
  · rw [upd_ne (ne_of_none q n)]; exact (e.keep b o q z y).1
  · match hd, e, nh with
    | none, _, _ => exact True.intro
    | some (h, c), e, nh =>
      have q : HandOk K F' H' h c := e.hok
      refine ⟨q.free, q.cells, ?_⟩
      obtain ⟨i1, i2, i3, i4, z, r⟩ := q.at_
      exact ⟨i1, i2, i3, i4, by rw [upd_ne (fun y => nh ⟨c, by rw [y]⟩)]; exact z, r⟩
/-- .. and frozen at once -/
theorem Ev.newF {p : Addr} {u : HO} (s : Same F H) (ho : HdOk K F H hd) (n : H p = none) : Ev K hd F H (upd F p u) (upd H p u) := by
  obtain ⟨e, nf, nh⟩ := Ev.new (u := u) s ho n
  have s1 : Same F (upd F p u) := fun b o q => by rw [upd_ne (ne_of_none q nf)]; exact q
  refine ⟨s1, fun b o q => ?_, fun b o q z y => ⟨(e.keep b o q z y).1, ?_⟩, ?_, fun b z => ?_⟩
  · by_cases hb : b = p
    · subst hb; rw [upd_same] at q ⊢; exact q
    · rw [upd_ne hb] at q ⊢; exact s b o q
  · rw [upd_ne (ne_of_none q n)]; exact z
  · match hd, e, nh with
    | none, _, _ => exact True.intro
    | some (h, c), e, nh =>
      have q : HandOk K F (upd H p u) h c := e.hok
      refine ⟨?_, ?_, q.at_⟩
      · rw [upd_ne (fun z => nh ⟨c, by rw [z]⟩)]; exact q.free
      · obtain ⟨ns, h1, h2⟩ := q.cells; exact ⟨ns, sqL_mono s1 h1, h2⟩
  · rw [upd_ne (fun y => nh (by rw [← y]; exact z))]; exact e.hand b z
theorem OpEnd.lst {Qd : EV → Prop} {Q : VK} {xs : List V} {ds : List D} (k : OpEnd K hd F H Qd Q) (s : Same F H) (ho : HdOk K F H hd) {F2 : Hp} (e2 : Ev K hd F H F2 H) (r : RpAll K F2 xs ds) (q : Qd (.ow (.lst ds))) : ∀ p, H p = none → Q (.ref p) (upd H p (.lst xs)) := fun p n => by
  obtain ⟨e, nf, nh⟩ := Ev.new (u := .lst xs) e2.sub e2.hok n
  exact k _ F2 _ (.ow (.lst ds)) (e2.trans e) ⟨p, rfl, n, nf, nh, ⟨xs, upd_same, r⟩, rfl⟩ q
theorem OpEnd.tup {Qd : EV → Prop} {Q : VK} {xs : List V} {ds : List D} (k : OpEnd K hd F H Qd Q) (s : Same F H) (ho : HdOk K F H hd) (r : RpAll K F xs ds) (q : Qd (.fz (.tup ds))) : ∀ p, H p = none → Q (.ref p) (upd H p (.tup xs)) := fun p n => by
  have e := Ev.newF (u := .tup xs) s ho n
  exact k _ _ _ (.fz (.tup ds)) e (.tup (.of upd_same) (r.mono e.ff)) q
end
/-- items that are seen now: data that were there (a display of an owned list's items) -/
theorem opd_int {K : Frag} {g : Int → Int → V} {f : Int → Int → D} {C : Int → Int → Prop} (hg : ∀ i j F, Rp K F (g i j) (f i j)) :
    OpD K (rI C g) fun x y Q => intW x fun i => intW y fun j => C i j ∧ Q (.fz (f i j)) := by
  intro hd F H x y dx dy Qd Q s ho rx ry h k
  obtain ⟨i, e1, h⟩ := intW_of h
  obtain ⟨j, e2, hc, h2⟩ := intW_of h
  subst e1 e2
  exact ⟨i, j, rx.int, ry.int, hc, k.here s ho (hg i j) h2⟩
theorem opd_int0 {K : Frag} {g : Int → Int → V} {f : Int → Int → D} (hg : ∀ i j F, Rp K F (g i j) (f i j)) :
    OpD K (rI0 g) fun x y Q => intW x fun i => intW y fun j => Q (.fz (f i j)) := by
  intro hd F H x y dx dy Qd Q s ho rx ry h k
  obtain ⟨i, e1, h⟩ := intW_of h
  obtain ⟨j, e2, h2⟩ := intW_of h
  subst e1 e2
  exact ⟨i, j, rx.int, ry.int, k.here s ho (hg i j) h2⟩
def rAddA (K : Frag) : R2 := fun x y H Q => rI0 (fun i j => .int (i + j)) x y H Q ∨ (∃ i j, x = .str i ∧ y = .str j ∧ i.length + j.length ≤ sizeLine ∧ Q (.str (i ++ j)) H) ∨ rCat x y H Q ∨ rCatT K x y H Q
theorem op_addA {X : Cx} : OpR X (binaryOp .Add) (rAddA X.K) := op_add.or (op_add_str.or (op_cat.or op_catT))
theorem RpAll.ne_nil {K : Frag} {F : Hp} {xs : List V} {ds : List D} (r : RpAll K F xs ds) (h : ds ≠ []) : xs ≠ [] := by
  cases r with
  | nil => exact absurd rfl h
  | cons _ _ => simp
theorem opd_add {K : Frag} : OpD K (rAddA K) addW := by
  intro hd F H x y dx dy Qd Q s ho rx ry h k
  cases dx with
  | int i =>
    cases dy with
    | int j => exact .inl ⟨i, j, rx.int, ry.int, k.here s ho (fun _ => .int _) h⟩
    | _ => exact h.elim
  | str i =>
    cases dy with
    | str j => exact .inr (.inl ⟨i, j, rx.str, ry.str, h.1, k.here s ho (fun _ => .str _) h.2⟩)
    | _ => exact h.elim
  | lst ds =>
    cases dy with
    | lst es =>
      obtain ⟨hz, h⟩ := h
      obtain ⟨a, xs, e1, h1, r1⟩ := rx.lst s
      obtain ⟨b, ys, e2, h2, r2⟩ := ry.lst s
      exact .inr (.inr (.inl ⟨a, b, xs, ys, e1, e2, h1, h2, by rw [r1.length, r2.length]; exact hz, k.lst s ho (.refl s ho) (r1.append r2) h⟩))
    | _ => exact h.elim
  | tup ds =>
    cases dy with
    | tup es =>
      obtain ⟨n1, n2, hz, h⟩ := h
      obtain ⟨a, xs, e1, h1, r1⟩ := rx.tup
      obtain ⟨b, ys, e2, h2, r2⟩ := ry.tup
      exact .inr (.inr (.inr ⟨a, b, xs, ys, e1, e2, sqT_mono s h1, sqT_mono s h2, r1.ne_nil n1, by rw [r1.length, r2.length]; exact hz, fun z => absurd z (r2.ne_nil n2), fun _ => k.tup s ho (r1.append r2) h⟩))
    | _ => exact h.elim
  | _ => exact h.elim
/-! ### comparisons -/
mutual
theorem rp_dp {K : Frag} {F : Hp} : ∀ {v : V} {d : D}, Rp K F v d → d.plain = true → Dp K F v d.pd
  | _, _, .non, _ => .non
  | _, _, .bl b, _ => .bl b
  | _, _, .int i, _ => .int i
  | _, _, .str x, _ => .str x
  | _, _, .ty n, h => by cases h
  | _, _, .ref a, h => by cases h
  | _, _, .scr _, h => by cases h
  | _, _, .dic _ _, h => by cases h
  | _, _, .obj _ _ _, h => by cases h
  | _, _, .tup h r, p => .tup h (rp_dpL r p)
  | _, _, .lst h r, p => .lst (.of h) (rp_dpL r p)
theorem rp_dpL {K : Frag} {F : Hp} : ∀ {vs : List V} {ds : List D}, RpAll K F vs ds → plainL ds = true → DpAll K F vs (pdL ds)
  | _, _, .nil, _ => .nil
  | _, _, .cons r t, p => by
    have p' := Bool.and_eq_true_iff.mp p
    exact .cons (rp_dp r p'.1) (rp_dpL t p'.2)
end
theorem eqOk_of {x y : D} (h : eqOk x y = true) : x.plain = true ∧ y.plain = true ∧ SeqAt.shaped x.pd = true ∧ SeqAt.shaped y.pd = true := by
  unfold eqOk at h
  simp only [Bool.and_eq_true] at h
  exact ⟨h.1.1.1, h.1.1.2, h.1.2, h.2⟩
theorem opd_eq {K : Frag} : OpD K (rEqD K) (fun x y Q => eqOk x y = true ∧ Q (.fz (.bl (PyData.eqv x.pd y.pd)))) := by
  intro hd F H x y dx dy Qd Q s ho rx ry h k
  obtain ⟨h1, h2⟩ := h
  obtain ⟨p1, p2, p3, p4⟩ := eqOk_of h1
  exact ⟨_, _, rp_dp (rx.rp s) p1, rp_dp (ry.rp s) p2, p3, p4, k.here s ho (fun _ => .bl _) h2⟩
theorem opd_ne {K : Frag} : OpD K (rNeD K) (fun x y Q => eqOk x y = true ∧ Q (.fz (.bl (!PyData.eqv x.pd y.pd)))) := by
  intro hd F H x y dx dy Qd Q s ho rx ry h k
  obtain ⟨h1, h2⟩ := h
  obtain ⟨p1, p2, p3, p4⟩ := eqOk_of h1
  exact ⟨_, _, rp_dp (rx.rp s) p1, rp_dp (ry.rp s) p2, p3, p4, k.here s ho (fun _ => .bl _) h2⟩
theorem sn_non {K : Frag} {hd : Hd} {F H : Hp} {v : V} {d : D} (x : Sn K hd F H v d) : decide (v = .non) = d.isNon := by
  rcases x with x | ⟨a, rfl, nf, nh, ct, o⟩
  · cases x <;> rfl
  · cases d <;> first | exact o.elim | rfl
theorem isNon_of {d : D} (h : d.isNon = true) : d = .non := by cases d <;> first | rfl | cases h
theorem opd_isn {K : Frag} {T : Tab} : OpD K (fun x y H Q => y = .non ∧ Q (.bl (decide (x = .non))) H) (cmpW T .isn) := by
  intro hd F H x y dx dy Qd Q s ho rx ry h k
  obtain ⟨h1, h2⟩ := h
  have e := isNon_of h1
  subst e
  exact ⟨ry.non, k.here s ho (fun _ => by rw [sn_non rx]; exact .bl _) h2⟩
theorem opd_notn {K : Frag} {T : Tab} : OpD K (fun x y H Q => y = .non ∧ Q (.bl (!decide (x = .non))) H) (cmpW T .notn) := by
  intro hd F H x y dx dy Qd Q s ho rx ry h k
  obtain ⟨h1, h2⟩ := h
  have e := isNon_of h1
  subst e
  exact ⟨ry.non, k.here s ho (fun _ => by rw [sn_non rx]; exact .bl _) h2⟩
theorem opd_lt {K : Frag} {T : Tab} : OpD K (rI0 fun i j => .bl (decide (i < j))) (cmpW T .lt) := opd_int0 fun _ _ _ => .bl _
theorem opd_le {K : Frag} {T : Tab} : OpD K (rI0 fun i j => .bl (decide (i ≤ j))) (cmpW T .le) := opd_int0 fun _ _ _ => .bl _
theorem opd_gt {K : Frag} {T : Tab} : OpD K (rI0 fun i j => .bl (decide (j < i))) (cmpW T .gt) := opd_int0 fun _ _ _ => .bl _
theorem opd_ge {K : Frag} {T : Tab} : OpD K (rI0 fun i j => .bl (decide (j ≤ i))) (cmpW T .ge) := opd_int0 fun _ _ _ => .bl _
/-! ### items -/
theorem atI_rp {K : Frag} {F : Hp} {xs : List V} {ds : List D} (r : RpAll K F xs ds) {i : Int} {d : D} (h : atI ds i = some d) : ∃ v, atI xs i = some v ∧ Rp K F v d := by
  unfold atI at h ⊢
  rw [r.length]
  cases e : ixN ds.length i with
  | none => rw [e] at h; cases h
  | some j =>
    rw [e] at h
    exact r.get' h
theorem opd_item {K : Frag} : OpD K (rIx K) itemW := by
  intro hd F H x y dx dy Qd Q s ho rx ry h k
  cases dx with
  | lst ds =>
    cases dy with
    | int i =>
      obtain ⟨d, h1, h2⟩ := h
      obtain ⟨a, xs, e1, hl, r1⟩ := rx.lst s
      obtain ⟨v, h3, h4⟩ := atI_rp r1 h1
      exact .inl ⟨a, xs, i, v, e1, ry.int, .of hl, h3, k v F H (.fz d) (.refl s ho) h4 h2⟩
    | _ => exact h.elim
  | tup ds =>
    cases dy with
    | int i =>
      obtain ⟨d, h1, h2⟩ := h
      obtain ⟨a, xs, e1, hl, r1⟩ := rx.tup
      obtain ⟨v, h3, h4⟩ := atI_rp r1 h1
      exact .inr (.inl ⟨a, xs, i, v, e1, ry.int, sqT_mono s hl, h3, k v F H (.fz d) (.refl s ho) h4 h2⟩)
    | _ => exact h.elim
  | scr _ ns =>
    cases dy with
    | int i =>
      obtain ⟨d, h1, h2⟩ := h
      obtain ⟨a, e1, hl⟩ := rx.scr s
      refine .inl ⟨a, _, i, .int d, e1, ry.int, hl, ?_, k.here s ho (fun _ => .int _) h2⟩
      unfold atI at h1 ⊢
      rw [List.length_map]
      cases e : ixN ns.length i with
      | none => rw [e] at h1; cases h1
      | some j => rw [e] at h1; simp only [Option.bind_some] at h1 ⊢; rw [List.getElem?_map, h1]; rfl
    | _ => exact h.elim
  | str z =>
    cases dy with
    | int i =>
      obtain ⟨hz, c, h1, h2⟩ := h
      exact .inr (.inr ⟨z, i, c, rx.str, ry.int, hz, h1, k.here s ho (fun _ => .str _) h2⟩)
    | _ => exact h.elim
  | _ => exact h.elim
end MP
end
section
set_option Elab.async false
set_option linter.all false
set_option maxRecDepth 100000
set_option maxHeartbeats 4000000
set_option autoImplicit false
namespace MP
open PySem PySem.Spec PyProof.Rows L2
section
variable {X : Cx} {W : WX} {a b c e : Expr} {es : List Expr} {wa wb wc : DW} {pos : Pos}
theorem rpE_fz {K : Frag} {hd : Hd} {H F H' : Hp} {ρ : Rho} {σ : L2.St} {v : V} {d : D} (r : Rp K F v d) : RpE K hd H F H' ρ σ v (.fz d) := r
theorem rpE_bl {K : Frag} {hd : Hd} {H F H' : Hp} {ρ : Rho} {σ : L2.St} {v : V} {b : Bool} (q : RpE K hd H F H' ρ σ v (.fz (.bl b))) : v = .bl b := by
  have q' : Rp K F v (.bl b) := q
  cases q'; rfl
theorem de_neg (ha : PE X a (dT X.K W wa)) : PE X (.UnaryOp .USub a pos) (dT X.K W fun ρ E Q => wa ρ E fun x => intW x.d fun i => Q (.fz (.int (-i)))) := by
  refine PE.imp (pe_un un_neg ha) fun σ H Q ⟨hd, F0, H0, F, ρ, E, Qd, S, h, k, x⟩ => ?_
  refine ⟨hd, F0, H0, F, ρ, E, _, S, h, fun v F1 H1 r e1 q1 h1 => ?_, x⟩
  obtain ⟨i, ei, h2⟩ := intW_of h1
  have hn : r ≠ .hnd := fun z => by subst z; cases ei
  have sn := q1.seen (S.step e1) hn
  rw [ei] at sn
  exact ⟨i, sn.int, k _ F1 H1 (.fz (.int (-i))) e1 (rpE_fz (.int _)) h2⟩
theorem de_chain {op op' : CmpOp} {r r' : R2} {f f' : D → D → (EV → Prop) → Prop} (ho : OpR X (compareOp op) r) (ho' : OpR X (compareOp op') r') (hr : OpD X.K r f) (hr' : OpD X.K r' f') (ha : PE X a (dT X.K W wa)) (hb : PE X b (dT X.K W wb)) (hc : PE X c (dT X.K W wc))
    (hm : lastMarks [op, op'] [b, c] = false) :
    PE X (.Compare a [op, op'] [b, c] pos) (dT X.K W fun ρ E Q => wa ρ E fun x => wb ρ E fun y => x ≠ .hnd ∧ y ≠ .hnd ∧ f x.d y.d fun r => boolW r fun t => if t = true then wc ρ E fun z => z ≠ .hnd ∧ f' y.d z.d Q else Q (.fz (.bl false))) := by
  refine PE.imp (pe_chain ho ho' ha hb hc hm) fun σ H Q ⟨hd, F0, H0, F, ρ, E, Qd, S, h, k, x⟩ => ?_
  refine ⟨hd, F0, H0, F, ρ, E, _, S, h, fun v F1 H1 r1 e1 q1 h1 => ?_, x⟩
  refine ⟨hd, F0, H0, F1, ρ, E, _, S.step e1, h1, fun u F2 H2 r2 e2 q2 ⟨n1, n2, hf⟩ => ?_, x.step e1⟩
  have S2 := (S.step e1).step e2
  refine hr hd F2 H2 v u r1.d r2.d _ _ S2.sub S2.ev.hok ((q1.step e2 e1.hok).seen S2 n1) (q2.seen S2 n2) hf fun v3 F3 H3 r3 e3 q3 h3 => ?_
  obtain ⟨t, et, h4⟩ := boolW_of h3
  subst et
  have ev : v3 = .bl t := rpE_bl (ρ := ρ) (σ := σ) q3.e
  refine ⟨t, ev, ?_⟩
  have e123 := (e1.trans e2).trans e3
  cases t with
  | false =>
    rw [if_neg Bool.false_ne_true] at h4 ⊢
    exact k _ F3 H3 (.fz (.bl false)) e123 (rpE_fz (.bl _)) h4
  | true =>
    rw [if_pos rfl] at h4 ⊢
    have S3 := S2.step e3
    refine ⟨hd, F0, H0, F3, ρ, E, _, S3, h4, fun z F4 H4 r4 e4 q4 ⟨n4, h5⟩ => ?_, x.step e123⟩
    have S4 := S3.step e4
    refine hr' hd F4 H4 u z r2.d r4.d Qd Q S4.sub S4.ev.hok (((q2.step e3 e2.hok).step e4 e3.hok).seen S4 n2) (q4.seen S4 n4) h5 fun v' F' H' r e q hq => ?_
    exact k v' F' H' r ((e123.trans e4).trans e) (q.e.back fun a n => (e123.trans e4).fresh S.sub n) hq
theorem de_not (ha : PE X a (dT X.K W wa)) : PE X (.UnaryOp .Not a pos) (dT X.K W fun ρ E Q => wa ρ E fun x => boolW x fun b => Q (.fz (.bl (!b)))) := by
  refine PE.imp (pe_not ha) fun σ H Q ⟨hd, F0, H0, F, ρ, E, Qd, S, h, k, x⟩ => ?_
  refine ⟨hd, F0, H0, F, ρ, E, _, S, h, fun v F1 H1 r e1 q1 h1 => ?_, x⟩
  obtain ⟨t, et, h2⟩ := boolW_of h1
  subst et
  exact ⟨t, rpE_bl q1, k _ F1 H1 (.fz (.bl (!t))) e1 (rpE_fz (.bl _)) h2⟩
theorem de_one {op : BoolOp} (ha : PE X a (dT X.K W wa)) : PE X (.BoolOp op [a] pos) (dT X.K W wa) := pe_one ha
theorem de_and (ha : PE X a (dT X.K W wa)) (hb : PE X (.BoolOp .And (b :: es) pos) (dT X.K W wb)) :
    PE X (.BoolOp .And (a :: b :: es) pos) (dT X.K W fun ρ E Q => wa ρ E fun x => boolW x fun c => if c = true then wb ρ E Q else Q (.fz (.bl false))) := by
  refine PE.imp (pe_and ha hb) fun σ H Q ⟨hd, F0, H0, F, ρ, E, Qd, S, h, k, x⟩ => ?_
  refine ⟨hd, F0, H0, F, ρ, E, _, S, h, fun v F1 H1 r e1 q1 h1 => ?_, x⟩
  obtain ⟨t, et, h2⟩ := boolW_of h1
  subst et
  refine ⟨t, rpE_bl q1, ?_⟩
  cases t with
  | false =>
    rw [if_neg Bool.false_ne_true] at h2 ⊢
    exact k _ F1 H1 (.fz (.bl false)) e1 (rpE_fz (.bl _)) h2
  | true =>
    rw [if_pos rfl] at h2 ⊢
    exact ⟨hd, F0, H0, F1, ρ, E, _, S.step e1, h2, fun v F2 H2 r e2 q2 h3 => k v F2 H2 r (e1.trans e2) (q2.back fun a n => e1.fresh S.sub n) h3, x.step e1⟩
theorem de_or (ha : PE X a (dT X.K W wa)) (hb : PE X (.BoolOp .Or (b :: es) pos) (dT X.K W wb)) :
    PE X (.BoolOp .Or (a :: b :: es) pos) (dT X.K W fun ρ E Q => wa ρ E fun x => boolW x fun c => if c = true then Q (.fz (.bl true)) else wb ρ E Q) := by
  refine PE.imp (pe_or ha hb) fun σ H Q ⟨hd, F0, H0, F, ρ, E, Qd, S, h, k, x⟩ => ?_
  refine ⟨hd, F0, H0, F, ρ, E, _, S, h, fun v F1 H1 r e1 q1 h1 => ?_, x⟩
  obtain ⟨t, et, h2⟩ := boolW_of h1
  subst et
  refine ⟨t, rpE_bl q1, ?_⟩
  cases t with
  | true =>
    rw [if_pos rfl] at h2 ⊢
    exact k _ F1 H1 (.fz (.bl true)) e1 (rpE_fz (.bl _)) h2
  | false =>
    rw [if_neg Bool.false_ne_true] at h2 ⊢
    exact ⟨hd, F0, H0, F1, ρ, E, _, S.step e1, h2, fun v F2 H2 r e2 q2 h3 => k v F2 H2 r (e1.trans e2) (q2.back fun a n => e1.fresh S.sub n) h3, x.step e1⟩
/-! ### tests -/
variable {ta tb : DTw}
theorem test_of {t : TE} {w : DW} (i : ∀ σ H Q, dT X.K W w σ H Q → t σ H Q) {σ : L2.St} {H : Hp} {Q : Bool → Hp → Prop} (h : dB X.K W (fun ρ E Q => w ρ E fun x => boolW x Q) σ H Q) : t σ H fun x H' => ∃ k, x = .bl k ∧ Q k H' := by
  obtain ⟨hd, F0, H0, F, ρ, E, Qd, S, h, k, x⟩ := h
  refine i _ _ _ ⟨hd, F0, H0, F, ρ, E, _, S, h, fun v F1 H1 r e1 q1 h1 => ?_, x⟩
  obtain ⟨t, et, h2⟩ := boolW_of h1
  subst et
  exact ⟨t, rpE_bl q1, k t F1 H1 e1 h2⟩
theorem dt_val {w : DW} (h : PE X e (dT X.K W w)) (he : ∀ whole, isTrue e X.env whole = (do let v ← whole; standAt e.pos; holding [v] (truthy v))) : PT X e (dB X.K W fun ρ E Q => w ρ E fun x => boolW x Q) :=
  PT.imp (pt_val h he) fun σ H Q h => test_of (t := dT X.K W w) (fun _ _ _ q => q) h
theorem dt_cmp {op : CmpOp} {r : R2} {f : D → D → (EV → Prop) → Prop} (ho : OpR X (compareOp op) r) (hr : OpD X.K r f) (ha : PE X a (dT X.K W wa)) (hb : PE X b (dT X.K W wb)) (hm : behindInMarks op b = false) :
    PT X (.Compare a [op] [b] pos) (dB X.K W fun ρ E Q => (wa ρ E fun x => wb ρ E fun y => x ≠ .hnd ∧ y ≠ .hnd ∧ f x.d y.d fun z => boolW z Q)) :=
  PT.imp (pt_cmpR ho ha hb hm) fun σ H Q h => test_of (w := fun ρ E Q => wa ρ E fun x => wb ρ E fun y => x ≠ .hnd ∧ y ≠ .hnd ∧ f x.d y.d Q) (fun _ _ _ q => two_ops hr q) h
theorem dt_not (ha : PT X a (dB X.K W ta)) : PT X (.UnaryOp .Not a pos) (dB X.K W fun ρ E Q => ta ρ E fun b => Q (!b)) :=
  PT.imp (pt_not ha) fun σ H Q ⟨hd, F0, H0, F, ρ, E, Qd, S, h, k, x⟩ => ⟨hd, F0, H0, F, ρ, E, _, S, h, fun b F1 H1 e1 h1 => k _ F1 H1 e1 h1, x⟩
theorem dt_and1 (ha : PT X a (dB X.K W ta)) : PW X (.BoolOp .And [a] pos) (dB X.K W ta) := pw_and1 ha
theorem dt_or1 (ha : PT X a (dB X.K W ta)) : PW X (.BoolOp .Or [a] pos) (dB X.K W ta) := pw_or1 ha
theorem PW.imp {t t' : TT} (h : PW X e t) (i : ∀ σ H Q, t' σ H Q → t σ H Q) : PW X e t' := ⟨fun wh pins s σ H Q I q => h.run wh pins s σ H Q I (i _ _ _ q)⟩
theorem dt_and (ha : PT X a (dB X.K W ta)) (hb : PW X (.BoolOp .And (b :: es) pos) (dB X.K W tb)) : PW X (.BoolOp .And (a :: b :: es) pos) (dB X.K W fun ρ E Q => ta ρ E fun c => if c = true then tb ρ E Q else Q false) := by
  refine PW.imp (pw_and ha hb) fun σ H Q ⟨hd, F0, H0, F, ρ, E, Qd, S, h, k, x⟩ => ⟨hd, F0, H0, F, ρ, E, _, S, h, fun t F1 H1 e1 h2 => ?_, x⟩
  cases t with
  | false =>
    rw [if_neg Bool.false_ne_true] at h2 ⊢
    exact k _ F1 H1 e1 h2
  | true =>
    rw [if_pos rfl] at h2 ⊢
    exact ⟨hd, F0, H0, F1, ρ, E, _, S.step e1, h2, fun v F2 H2 e2 h3 => k v F2 H2 (e1.trans e2) h3, x.step e1⟩
theorem dt_or (ha : PT X a (dB X.K W ta)) (hb : PW X (.BoolOp .Or (b :: es) pos) (dB X.K W tb)) : PW X (.BoolOp .Or (a :: b :: es) pos) (dB X.K W fun ρ E Q => ta ρ E fun c => if c = true then Q true else tb ρ E Q) := by
  refine PW.imp (pw_or ha hb) fun σ H Q ⟨hd, F0, H0, F, ρ, E, Qd, S, h, k, x⟩ => ⟨hd, F0, H0, F, ρ, E, _, S, h, fun t F1 H1 e1 h2 => ?_, x⟩
  cases t with
  | true =>
    rw [if_pos rfl] at h2 ⊢
    exact k _ F1 H1 e1 h2
  | false =>
    rw [if_neg Bool.false_ne_true] at h2 ⊢
    exact ⟨hd, F0, H0, F1, ρ, E, _, S.step e1, h2, fun v F2 H2 e2 h3 => k v F2 H2 (e1.trans e2) h3, x.step e1⟩
theorem de_ife (hc : PT X c (dB X.K W ta)) (ha : PE X a (dT X.K W wa)) (hb : PE X b (dT X.K W wb)) : PE X (.IfExp c a b pos) (dT X.K W fun ρ E Q => ta ρ E fun c => if c = true then wa ρ E Q else wb ρ E Q) := by
  refine PE.imp (pe_ifExp hc ha hb) fun σ H Q ⟨hd, F0, H0, F, ρ, E, Qd, S, h, k, x⟩ => ⟨hd, F0, H0, F, ρ, E, _, S, h, fun t F1 H1 e1 h2 => ?_, x⟩
  cases t with
  | true =>
    rw [if_pos rfl] at h2 ⊢
    exact ⟨hd, F0, H0, F1, ρ, E, _, S.step e1, h2, fun v F2 H2 r e2 q2 h3 => k v F2 H2 r (e1.trans e2) (q2.back fun a n => e1.fresh S.sub n) h3, x.step e1⟩
  | false =>
    rw [if_neg Bool.false_ne_true] at h2 ⊢
    exact ⟨hd, F0, H0, F1, ρ, E, _, S.step e1, h2, fun v F2 H2 r e2 q2 h3 => k v F2 H2 r (e1.trans e2) (q2.back fun a n => e1.fresh S.sub n) h3, x.step e1⟩
/-! ### displays -/
variable {wp : Rho → (Exn → Prop) → (List D → Prop) → Prop}
theorem de_tup {n : Nat} (h : PA X es (dP X.K W wp)) : PE X (.Tuple es n pos) (dT X.K W fun ρ E Q => wp ρ E fun ds => ds.length ≤ sizeLine ∧ Q (.fz (.tup ds))) := by
  refine PE.imp (pe_tup h) fun σ H Q ⟨hd, F0, H0, F, ρ, E, Qd, S, h, k, x⟩ => ⟨hd, F0, H0, F, ρ, E, _, S, h, fun vs F1 H1 ds e1 r1 h1 => ?_, x⟩
  refine ⟨by rw [r1.length]; exact h1.1, fun p n => ?_⟩
  have e2 := Ev.newF (u := .tup vs) e1.sub e1.hok n
  exact k _ _ _ (.fz (.tup ds)) (e1.trans e2) (rpE_fz (.tup (.of upd_same) (r1.mono e2.ff))) h1.2
theorem de_lst (h : PA X es (dP X.K W wp)) : PE X (.List es pos) (dT X.K W fun ρ E Q => wp ρ E fun ds => ds.length ≤ sizeLine ∧ Q (.ow (.lst ds))) := by
  refine PE.imp (pe_lst h) fun σ H Q ⟨hd, F0, H0, F, ρ, E, Qd, S, h, k, x⟩ => ⟨hd, F0, H0, F, ρ, E, _, S, h, fun vs F1 H1 ds e1 r1 h1 => ?_, x⟩
  refine ⟨by rw [r1.length]; exact h1.1, fun p n => ?_⟩
  obtain ⟨e2, nf, nh⟩ := Ev.new (u := .lst vs) e1.sub e1.hok n
  exact k _ F1 _ (.ow (.lst ds)) (e1.trans e2) ⟨p, rfl, e1.fresh S.sub n, nf, nh, ⟨vs, upd_same, r1⟩, rfl⟩ h1.2
theorem de_dic0 : PE X (.Dict [] [] pos) (dT X.K W fun ρ E Q => Q (.ow (.dic []))) := by
  refine PE.imp pe_dnewK fun σ H Q ⟨hd, F0, H0, F, ρ, E, Qd, S, h, k, x⟩ p n => ?_
  obtain ⟨e2, nf, nh⟩ := Ev.new (u := .dK []) S.sub S.ev.hok n
  exact k _ F _ (.ow (.dic [])) e2 ⟨p, rfl, n, nf, nh, ⟨[], upd_same, .nil⟩, rfl⟩ h
theorem de_dic1 {s : Str} {j : Nat} {p2 : Pos} (ha : PE X a (dT X.K W wa)) : PE X (.Dict [some (.Constant (.str s) j p2)] [a] pos) (dT X.K W fun ρ E Q => wa ρ E fun x => x.put fun d => Q (.ow (.dic [(.inr s, d)]))) := by
  refine PE.imp (pe_disp (pps_cons pe_str ha pps_nil) rfl rfl (fun z => by cases z) (Nat.le_of_ble_eq_true rfl)) fun σ H Q ⟨hd, F0, H0, F, ρ, E, Qd, S, h, k, x⟩ p n => ?_
  obtain ⟨e2, nf, nh⟩ := Ev.new (u := .dK []) S.sub S.ev.hok n
  refine ⟨hd, F0, H0, F, ρ, E, _, S.step e2, h, fun v F1 H1 r e1 q1 h1 => ?_, x.step e2⟩
  have S2 := S.step e2
  obtain ⟨F3, d, e3, rp, h3, _⟩ := put_ev S2.sub e1 q1 h1
  obtain ⟨k1, k2⟩ := e3.keep p _ upd_same nf nh
  refine ⟨k1, [(.inr s, v)], rfl, Nat.le_of_ble_eq_true rfl, ?_⟩
  have em : mergeK [] [((.inr s : Key), v)] = [(.inr s, v)] := rfl
  rw [em]
  have e4 : Ev X.K hd F H F3 (upd H1 p (.dK [(.inr s, v)])) := (e2.trans e3).put n k2 nh
  exact k _ F3 _ (.ow (.dic [(.inr s, d)])) e4 ⟨p, rfl, n, k2, nh, ⟨_, upd_same, .cons rp .nil⟩, rfl⟩ h3
end
end MP
end
section
set_option Elab.async false
set_option linter.all false
set_option maxRecDepth 100000
set_option maxHeartbeats 4000000
set_option autoImplicit false
namespace MP
open PySem PySem.Spec PyProof.Rows L2
def kdV (K : Frag) : Kd → Value
  | .bi n => .type n
  | .own C => .ref (clA K C)
def tyV (T : Tab) (K : Frag) : Ty → Value
  | .bi n => .type n
  | .own j => .ref (clA K (T.cls j))
def tyU (T : Tab) (K : Frag) : Ty → V
  | .bi n => .ty n
  | .own j => .ref (clA K (T.cls j))
/-- what isinstance asks of an own class -/
structure ClsT (K : Frag) (C : Addr) : Prop where
  cl : Cls K C
  ha : PySem.W.findIn K (.ref C) "__class__" = some (some (.builtin "object.__class__"))
  hn : PySem.W.specialIn K (.builtin "object.__class__") "__get__" = some (some (.builtin "getset_descriptor.__get__"))
  htk : PySem.W.takesIn K (.builtin "object.__class__") = some true
  hm : PySem.W.mroIn K C (.type "object") = some true
def builtinNames : List Str := ["len", "int", "abs", "all", "any", "sum", "list", "tuple", "range", "isinstance", "bool", "str", "dict", "zip", "enumerate", "ValueError"]
def tyNames : List String := ["int", "bool", "str", "tuple", "list", "dict"]
/-- what the written part says -/
structure KFacts (K : Frag) (mg : Str → Option Value) (T : Tab) : Prop where
  free : ∀ x : Str, T.free.contains x = true → mg x = none
  fl : ∀ C f, T.fl C f = true → Cls K (clA K C) ∧ NoAttr K (clA K C) f
  ki : ∀ k t, T.ki k t = true → PySem.W.kitOne K (kdV K k) (tyV T K t) = some (isB T k t) ∧ ∀ C, k = .own C → ClsT K (clA K C)
  cls : ∀ j, T.hasC j = true → mg (T.cls j) = some (.ref (clA K (T.cls j)))
  con : ∀ j, T.hasK j = true → ∃ v u, mg (T.conN j) = some u ∧ RelV v u ∧ ∀ F, Rp K F v (T.con j)
  exm : ∀ C j, T.hasX C j = true → PySem.W.exmOne K (.ref (clA K C)) (.ref (clA K (T.cls j))) = some (T.sub C (T.cls j))
  xl : ∀ C f, T.xl C f = true → XfC K (clA K C) ∧ PySem.W.findIn K (.ref (clA K C)) f = some none
section
variable {K : Frag} {F H : Hp}
theorem sn_ty {hd : Hd} {x : V} {d : D} {k : Kd} (s : Same F H) (sn : Sn K hd F H x d) (hk : d.kd = some k) (hc : ∀ C, k = .own C → ClsT K (clA K C)) : TyX K H x (kdV K k) := by
  cases d with
  | non => cases hk; rw [sn.non]; exact .base .non
  | bl b => cases hk; rw [sn.bl]; exact .base (.bl b)
  | int b => cases hk; rw [sn.int]; exact .base (.int b)
  | str b => cases hk; rw [sn.str]; exact .base (.str b)
  | ty n => cases hk
  | ref n => cases hk
  | scr _ n => cases hk
  | tup ds =>
    cases hk
    obtain ⟨a, xs, rfl, h, r⟩ := sn.tup
    rcases sqT_mono s h with (h | ⟨o, h⟩) | ⟨o, its, n, h, c, _⟩
    · exact .base (.tup h)
    · exact .fTuple h
    · exact .kTuple h c
  | lst ds =>
    cases hk
    obtain ⟨a, xs, rfl, h, r⟩ := sn.lst s
    exact .base (.lst h)
  | dic ds =>
    cases hk
    rcases sn.rp s with h
    cases h with | dic h r => exact .base (.dK h)
  | obj C ds =>
    cases hk
    obtain ⟨a, dx, fs, rfl, h, hx, r⟩ := sn.obj s
    have c := hc C rfl
    exact .base (.ins h c.cl c.ha c.hn c.htk c.hm)
end
section
variable {X : Cx} {W : WX} {a b c e : Expr} {es : List Expr} {wa wb wc : DW} {pos : Pos} {T : Tab}
theorem boot_ty : ∀ n ∈ tyNames, bootBuiltins (Str.ofString n) = some (.type n) := by
  intro n hn
  simp only [tyNames, List.mem_cons, List.mem_nil_iff, or_false] at hn
  rcases hn with rfl | rfl | rfl | rfl | rfl | rfl
  · exact boot_int
  · exact boot_bool
  · exact boot_str
  · exact boot_tuple
  · exact boot_list
  · exact boot_dict
def tyStr (T : Tab) : Ty → Str
  | .bi n => Str.ofString n
  | .own j => T.cls j
def tyOk (T : Tab) (sc : Scope) (x : Str) (t : Ty) : Bool := x == tyStr T t && !(x == ("__debug__" : Str)) && !(x == ("__name__" : Str)) && sc.names.lookup x == some .globalImplicit && (match t with
  | .bi n => tyNames.contains n && T.free.contains x
  | .own j => T.hasC j)
theorem pe_cls {x : Str} {t : Ty} {p : Pos} (G : KFacts X.K X.mg T) (h : tyOk T X.env.scope x t = true) : PE X (.Name x p) (tC (tyU T X.K t)) := by
  unfold tyOk at h
  simp only [Bool.and_eq_true, Bool.not_eq_true', beq_iff_eq, beq_eq_false_iff_ne] at h
  obtain ⟨⟨⟨⟨h1, h2⟩, h3⟩, h4⟩, h5⟩ := h
  have hd : (x == ("__debug__" : Str)) = false := beq_eq_false_iff_ne.mpr h2
  cases t with
  | bi n =>
    simp only [Bool.and_eq_true] at h5
    have hm := boot_ty n (by simpa using h5.1)
    exact pe_bltn (v := .ty n) h4 (G.free x h5.2) (by rw [h1]; exact hm) rfl h3 hd
  | own j =>
    exact pe_glob (v := .ref (clA X.K (T.cls j))) h4 (by rw [h1]; exact G.cls j h5) rfl hd
def glOk (T : Tab) (sc : Scope) (x : Str) : Bool := T.free.contains x && sc.names.lookup x == some .globalImplicit
theorem glOk_of {x : Str} (G : KFacts X.K X.mg T) (h : glOk T X.env.scope x = true) : Gl X x ∧ X.mg x = none := by
  unfold glOk at h
  simp only [Bool.and_eq_true, beq_iff_eq] at h
  exact ⟨h.2, G.free x h.1⟩
theorem de_isi {x : Str} {t : Ty} {p p2 : Pos} (G : KFacts X.K X.mg T) (ha : PE X a (dT X.K W wa)) (hn : noStar a = true) (h0 : glOk T X.env.scope "isinstance" = true) (ht : tyOk T X.env.scope x t = true) :
    PE X (.Call (.Name "isinstance" p) [a, .Name x p2] [] pos) (dT X.K W fun ρ E Q => wa ρ E fun x => x ≠ .hnd ∧ ∃ k, x.d.kd = some k ∧ T.ki k t = true ∧ Q (.fz (.bl (isB T k t)))) := by
  obtain ⟨hg, hm⟩ := glOk_of G h0
  refine PE.imp (pe_callB call_isi hg hm boot_isinstance (pa_cons ha (pa_cons (pe_cls G ht) pa_nil) (star_one hn)) (by decide) (by decide) (star_one hn)) fun σ H Q ⟨hd, F0, H0, F, ρ, E, Qd, S, h, k, x⟩ => ?_
  refine ⟨hd, F0, H0, F, ρ, E, _, S, h, fun v F1 H1 r e1 q1 ⟨n1, kd, h1, h2, h3⟩ => ?_, x⟩
  have sn := q1.seen (S.step e1) n1
  obtain ⟨k1, k2⟩ := G.ki kd t h2
  refine ⟨v, tyU T X.K t, kdV X.K kd, tyV T X.K t, _, rfl, ?_, sn_ty e1.sub sn h1 k2, k1, k _ F1 H1 (.fz (.bl _)) e1 (rpE_fz (.bl _)) h3⟩
  cases t with
  | bi n => exact .ty n
  | own j => exact .own _
theorem pa_names {T : Tab} (G : KFacts X.K X.mg T) : ∀ (ts : List Ty) (es : List Expr), (List.length es = List.length ts ∧ ∀ p ∈ es.zip ts, ∃ x pp, p.1 = .Name x pp ∧ tyOk T X.env.scope x p.2 = true) → PA X es fun σ H Q => Q (ts.map (tyU T X.K)) H
  | [], [], _ => pa_nil
  | t :: ts, e :: es, ⟨h1, h2⟩ => by
    obtain ⟨x, pp, rfl, hx⟩ := h2 (e, t) (by simp)
    refine PA.imp (pa_cons (pe_cls G hx) (pa_names G ts es ⟨by simpa using h1, fun p hp => h2 p (by simp [hp])⟩)) fun σ H Q q => q
  | [], _ :: _, ⟨h, _⟩ => by simp at h
  | _ :: _, [], ⟨h, _⟩ => by simp at h
theorem kit_any {K : Frag} {T : Tab} {k : Kd} {mg : Str → Option Value} (G : KFacts K mg T) : ∀ ts : List Ty, ts.all (T.ki k) = true → PySem.W.kitAny K (kdV K k) (ts.map (tyV T K)) = some (ts.any (isB T k))
  | [], _ => rfl
  | t :: ts, h => by
    simp only [List.all_cons, Bool.and_eq_true] at h
    have h1 := (G.ki k t h.1).1
    have ih := kit_any G ts h.2
    simp only [List.map_cons, PySem.W.kitAny, h1, List.any_cons]
    cases isB T k t with
    | true => rfl
    | false => exact ih
theorem paired_cls {K : Frag} {T : Tab} : ∀ ts : List Ty, Paired ClsV (ts.map (tyU T K)) (ts.map (tyV T K))
  | [] => .nil
  | t :: ts => .cons (by cases t with
      | bi n => exact .ty n
      | own j => exact .own _) (paired_cls ts)
theorem de_isis {ts : List Ty} {n : Nat} {p p2 : Pos} (G : KFacts X.K X.mg T) (ha : PE X a (dT X.K W wa)) (hn : noStar a = true) (h0 : glOk T X.env.scope "isinstance" = true) (h1 : ts ≠ [])
    (ht : List.length es = List.length ts ∧ ∀ p ∈ es.zip ts, ∃ x pp, p.1 = .Name x pp ∧ tyOk T X.env.scope x p.2 = true) (hz : ts.length ≤ 100) :
    PE X (.Call (.Name "isinstance" p) [a, .Tuple es n p2] [] pos) (dT X.K W fun ρ E Q => wa ρ E fun x => x ≠ .hnd ∧ ∃ k, x.d.kd = some k ∧ ts.all (T.ki k) = true ∧ Q (.fz (.bl (ts.any (isB T k))))) := by
  obtain ⟨hg, hm⟩ := glOk_of G h0
  refine PE.imp (pe_callB call_isiT hg hm boot_isinstance (pa_cons ha (pa_cons (pe_tup (pa_names G ts es ht)) pa_nil) (star_one hn)) (by decide) (by decide) (star_one hn)) fun σ H Q ⟨hd, F0, H0, F, ρ, E, Qd, S, h, k, x⟩ => ?_
  refine ⟨hd, F0, H0, F, ρ, E, _, S, h, fun v F1 H1 r e1 q1 ⟨n1, kd, h1', h2, h3⟩ => ?_, x⟩
  refine ⟨by rw [List.length_map]; rw [sizeLine_eq]; omega, fun q nq => ?_⟩
  obtain ⟨e2, nf, nh⟩ := Ev.new (u := .tup (ts.map (tyU T X.K))) e1.sub e1.hok nq
  have sn := (q1.step e2 e1.hok).seen ((S.step e1).step e2) n1
  have k2 : ∀ C, kd = .own C → ClsT X.K (clA X.K C) := fun C z => by
    cases ts with
    | nil => exact absurd rfl h1
    | cons t ts => simp only [List.all_cons, Bool.and_eq_true] at h2; exact (G.ki kd t h2.1).2 C z
  refine ⟨v, q, _, kdV X.K kd, ts.map (tyV T X.K), _, rfl, upd_same, ?_, sn_ty e2.sub sn h1' k2, kit_any G ts h2, k _ F1 _ (.fz (.bl _)) (e1.trans e2) (rpE_fz (.bl _)) h3⟩
  exact paired_cls ts
/-! ### slices, fields -/
theorem cut_map {α β : Type} (f : α → β) (xs : List α) (lo hi : Option Int) : (cutD xs lo hi).map f = cutD (xs.map f) lo hi := by
  unfold cutD
  rw [List.map_take, List.map_drop, List.length_map]
theorem RpAll.cut {K : Frag} {F : Hp} {xs : List V} {ds : List D} (r : RpAll K F xs ds) (lo hi : Option Int) : RpAll K F (cutV xs lo hi) (cutD ds lo hi) := by
  unfold cutV cutD
  rw [r.length]
  exact (r.drop _).take _
theorem rpAll_ints {K : Frag} {F : Hp} : ∀ ns : List Int, RpAll K F (ns.map V.int) (ns.map D.int)
  | [] => .nil
  | n :: ns => .cons (.int n) (rpAll_ints ns)
theorem cutV_map (ns : List Int) (lo hi : Option Int) : cutV (ns.map V.int) lo hi = (cutD ns lo hi).map V.int := by
  rw [cut_map]; rfl
theorem de_slic {lo hi : Int} {i1 i2 : Nat} {p1 p2 p3 : Pos} (ha : PE X a (dT X.K W wa)) :
    PE X (.Subscript a (.Slice none (some (.Constant (.int hi) i1 p1)) none p2) pos) (dT X.K W fun ρ E Q => wa ρ E fun x => x ≠ .hnd ∧ sliW x.d none (some hi) Q) := by
  refine PE.imp (pe_slice sl_list ha po_none (po_some pe_int)) fun σ H Q ⟨hd, F0, H0, F, ρ, E, Qd, S, h, k, x⟩ => ?_
  refine ⟨hd, F0, H0, F, ρ, E, _, S, h, fun v F1 H1 r e1 q1 ⟨n1, h1⟩ => ⟨hi, rfl, ?_⟩, x⟩
  have sn := q1.seen (S.step e1) n1
  cases hr : r.d with
  | lst ds =>
    rw [hr] at sn h1
    obtain ⟨b, xs, e2, hl, r2⟩ := sn.lst e1.sub
    refine ⟨b, xs, e2, .of hl, fun p n => ?_⟩
    obtain ⟨e3, nf, nh⟩ := Ev.new (u := .lst (cutV xs none (some hi))) e1.sub e1.hok n
    exact k _ F1 _ (.ow (.lst (cutD ds none (some hi)))) (e1.trans e3) ⟨p, rfl, e1.fresh S.sub n, nf, nh, ⟨_, upd_same, r2.cut none (some hi)⟩, rfl⟩ h1
  | scr _ ns =>
    rw [hr] at sn h1
    obtain ⟨b, e2, hl⟩ := sn.scr e1.sub
    refine ⟨b, _, e2, hl, fun p n => ?_⟩
    obtain ⟨e3, nf, nh⟩ := Ev.new (u := .lst (cutV (ns.map V.int) none (some hi))) e1.sub e1.hok n
    exact k _ F1 _ (.ow (.lst ((cutD ns none (some hi)).map D.int))) (e1.trans e3) ⟨p, rfl, e1.fresh S.sub n, nf, nh, ⟨_, upd_same, by rw [cutV_map]; exact rpAll_ints _⟩, rfl⟩ h1
  | _ => rw [hr] at h1; exact h1.elim
/-- an expression that is no call (super) -/
def noCall : Expr → Bool
  | .Call .. => false
  | _ => true
theorem base_of {o : Expr} {f : Str} {env : Env} {wh : Sem Value} (h : noCall o = true) : attributeBase o f env wh = wh := by
  cases o <;> first | rfl | cases h
theorem de_fld {f : Str} (G : KFacts X.K X.mg T) (ha : PE X a (dT X.K W wa)) (hn : noCall a = true) : PE X (.Attribute a f pos) (dT X.K W fun ρ E Q => wa ρ E fun x => x ≠ .hnd ∧ fldW T.fl x.d f Q) := by
  refine PE.imp (pe_fld ha (base_of hn)) fun σ H Q ⟨hd, F0, H0, F, ρ, E, Qd, S, h, k, x⟩ => ?_
  refine ⟨hd, F0, H0, F, ρ, E, _, S, h, fun v F1 H1 r e1 q1 ⟨n1, h1⟩ => ?_, x⟩
  have sn := q1.seen (S.step e1) n1
  cases hr : r.d with
  | obj C ds =>
    rw [hr] at sn h1
    obtain ⟨hf, d, hl, h2⟩ := h1
    obtain ⟨b, dx, fs, e2, hb, hx, r2⟩ := sn.obj e1.sub
    obtain ⟨c1, c2⟩ := G.fl C f hf
    obtain ⟨u, hu, ru⟩ := r2.lookup hl
    exact ⟨b, _, dx, fs, u, e2, hb, c1, c2, hu, k u F1 H1 (.fz d) e1 ru h2⟩
  | _ => rw [hr] at h1; exact h1.elim
/-! ### built-ins -/
/-- what was looked at, one by one -/
def SnL (K : Frag) (hd : Hd) (F H : Hp) : List V → List EV → Prop
  | [], [] => True
  | v :: vs, r :: rs => (r ≠ .hnd → Sn K hd F H v r.d) ∧ SnL K hd F H vs rs
  | _, _ => False
theorem snL_of {K : Frag} {hd : Hd} {F0 H0 F H H1 : Hp} {ρ : Rho} {σ : L2.St} (S : StOk K hd F0 H0 F H ρ σ) : ∀ {vs : List V} {rs : List EV}, RpEs K hd H1 F H ρ σ vs rs → SnL K hd F H vs rs
  | [], [], _ => True.intro
  | v :: vs, r :: rs, ⟨a, b⟩ => ⟨fun n => RpE.seen S a n, snL_of S b⟩
  | [], _ :: _, h => h.elim
  | _ :: _, [], h => h.elim
def BiD (K : Frag) (r : List V → Hp → VK → Prop) (f : List EV → (EV → Prop) → Prop) : Prop :=
  ∀ (hd : Hd) (F H : Hp) (vs : List V) (rs : List EV) (Qd : EV → Prop) (Q : VK), Same F H → HdOk K F H hd → SnL K hd F H vs rs → f rs Qd → OpEnd K hd F H Qd Q → r vs H Q
variable {wl : DAw}
theorem bi_ops {r : List V → Hp → VK → Prop} {f : List EV → (EV → Prop) → Prop} {t : TA} (hb : BiD X.K r f) (hi : ∀ σ H Q, dA X.K W wl σ H Q → t σ H Q) {σ : L2.St} {H : Hp} {Q : VK} (h : dT X.K W (fun ρ E Q => wl ρ E fun xs => f xs Q) σ H Q) : tCB r t σ H Q := by
  obtain ⟨hd, F0, H0, F, ρ, E, Qd, S, h, k, x⟩ := h
  refine hi _ _ _ ⟨hd, F0, H0, F, ρ, E, _, S, h, fun vs F1 H1 rs e1 q1 h1 => ?_, x⟩
  have S1 := S.step e1
  refine hb hd F1 H1 vs rs Qd Q S1.sub S1.ev.hok (snL_of S1 q1) h1 fun v F' H' r e q hq => ?_
  exact k v F' H' r (e1.trans e) (q.e.back fun a n => e1.fresh S.sub n) hq
theorem one_of {K : Frag} {hd : Hd} {F H : Hp} {vs : List V} {r : EV} (h : SnL K hd F H vs [r]) : ∃ v, vs = [v] ∧ (r ≠ .hnd → Sn K hd F H v r.d) := by
  match vs, h with
  | [v], ⟨a, _⟩ => exact ⟨v, rfl, a⟩
theorem fz_hnd {d : D} : EV.fz d ≠ .hnd := fun z => by cases z
theorem bid_len {K : Frag} : BiD K (fun xs H Q => ∃ x n, xs = [x] ∧ LenV K x H n ∧ Q (.int n) H) (biW .len) := by
  intro hd F H vs rs Qd Q s ho sn h k
  match rs, h with
  | [r], ⟨n, h⟩ =>
    obtain ⟨v, rfl, sv⟩ := one_of sn
    have sv := sv n
    cases hr : r.d with
    | str z =>
      rw [hr] at sv h
      rw [sv.str]
      exact ⟨_, z.length, rfl, ⟨h.1, rfl⟩, k.here s ho (fun _ => .int _) h.2⟩
    | lst ds =>
      rw [hr] at sv h
      obtain ⟨a, xs, rfl, hl, r2⟩ := sv.lst s
      refine ⟨_, ds.length, rfl, .inl ⟨xs, .of hl, r2.length.symm⟩, k.here s ho (fun _ => .int _) h⟩
    | tup ds =>
      rw [hr] at sv h
      obtain ⟨a, xs, rfl, hl, r2⟩ := sv.tup
      refine ⟨_, ds.length, rfl, .inr ⟨xs, sqT_mono s hl, r2.length.symm⟩, k.here s ho (fun _ => .int _) h⟩
    | scr _ ns =>
      rw [hr] at sv h
      obtain ⟨a, rfl, hl⟩ := sv.scr s
      exact ⟨_, ns.length, rfl, .inl ⟨_, hl, by rw [List.length_map]⟩, k.here s ho (fun _ => .int _) h⟩
    | _ => rw [hr] at h; exact h.elim
theorem bid_int {K : Frag} : BiD K (fun xs H Q => (∃ i, xs = [.int i] ∧ Q (.int i) H) ∨ ∃ k, xs = [.bl k] ∧ Q (.int (if k then 1 else 0)) H) (biW .int) := by
  intro hd F H vs rs Qd Q s ho sn h k
  match rs, h with
  | [.fz (.int i)], h =>
    obtain ⟨v, rfl, sv⟩ := one_of sn
    rw [(sv fz_hnd).int]
    exact .inl ⟨i, rfl, k.here s ho (fun _ => .int _) h⟩
  | [.fz (.bl b)], h =>
    obtain ⟨v, rfl, sv⟩ := one_of sn
    rw [(sv fz_hnd).bl]
    exact .inr ⟨b, rfl, k.here s ho (fun _ => .int _) h⟩
theorem bid_abs {K : Frag} : BiD K (fun xs H Q => ∃ i, xs = [.int i] ∧ Q (.int (if i < 0 then -i else i)) H) (biW .abs) := by
  intro hd F H vs rs Qd Q s ho sn h k
  match rs, h with
  | [.fz (.int i)], h =>
    obtain ⟨v, rfl, sv⟩ := one_of sn
    rw [(sv fz_hnd).int]
    exact ⟨i, rfl, k.here s ho (fun _ => .int _) h⟩
theorem bools_of {K : Frag} {F : Hp} : ∀ {xs : List V} {ds : List D} {bs : List Bool}, RpAll K F xs ds → bools? ds = some bs → xs = bs.map V.bl
  | _, _, _, .nil, h => by cases h; rfl
  | _, _, bs, .cons (d := d) r t, h => by
    cases d with
    | bl b =>
      cases r
      simp only [bools?, Option.map_eq_some_iff] at h
      obtain ⟨bs', h1, rfl⟩ := h
      rw [bools_of t h1]; rfl
    | _ => cases h
theorem ints_of {K : Frag} {F : Hp} : ∀ {xs : List V} {ds : List D} {bs : List Int}, RpAll K F xs ds → ints? ds = some bs → xs = bs.map V.int
  | _, _, _, .nil, h => by cases h; rfl
  | _, _, bs, .cons (d := d) r t, h => by
    cases d with
    | int b =>
      cases r
      simp only [ints?, Option.map_eq_some_iff] at h
      obtain ⟨bs', h1, rfl⟩ := h
      rw [ints_of t h1]; rfl
    | _ => cases h
theorem bid_all {K : Frag} : BiD K (rAll K) (biW .all) := by
  intro hd F H vs rs Qd Q s ho sn h k
  match rs, h with
  | [r], ⟨n, h⟩ =>
    obtain ⟨v, rfl, sv⟩ := one_of sn
    have sv := sv n
    cases hr : r.d with
    | lst ds =>
      rw [hr] at sv h
      obtain ⟨bs, hb, h⟩ := h
      obtain ⟨a, xs, rfl, hl, r2⟩ := sv.lst s
      rw [bools_of r2 hb] at hl
      exact ⟨a, bs, rfl, .of hl, k.here s ho (fun _ => .bl _) h⟩
    | _ => rw [hr] at h; exact h.elim
theorem bid_any {K : Frag} : BiD K (rAny K) (biW .any) := by
  intro hd F H vs rs Qd Q s ho sn h k
  match rs, h with
  | [r], ⟨n, h⟩ =>
    obtain ⟨v, rfl, sv⟩ := one_of sn
    have sv := sv n
    cases hr : r.d with
    | lst ds =>
      rw [hr] at sv h
      obtain ⟨bs, hb, h⟩ := h
      obtain ⟨a, xs, rfl, hl, r2⟩ := sv.lst s
      rw [bools_of r2 hb] at hl
      exact ⟨a, bs, rfl, .of hl, k.here s ho (fun _ => .bl _) h⟩
    | _ => rw [hr] at h; exact h.elim
theorem bid_sum {K : Frag} : BiD K (rSum K) (biW .sum) := by
  intro hd F H vs rs Qd Q s ho sn h k
  match rs, h with
  | [r], ⟨n, h⟩ =>
    obtain ⟨v, rfl, sv⟩ := one_of sn
    have sv := sv n
    cases hr : r.d with
    | lst ds =>
      rw [hr] at sv h
      obtain ⟨bs, hb, h⟩ := h
      obtain ⟨a, xs, rfl, hl, r2⟩ := sv.lst s
      rw [ints_of r2 hb] at hl
      exact ⟨a, bs, rfl, .of hl, k.here s ho (fun _ => .int _) h⟩
    | _ => rw [hr] at h; exact h.elim
theorem bid_list {K : Frag} : BiD K (fun xs H Q => ∃ p ys, xs = [.ref p] ∧ (SqL K H p ys ∨ SqT K H p ys) ∧ ∀ l, H l = none → Q (.ref l) (upd H l (.lst ys))) (biW .list) := by
  intro hd F H vs rs Qd Q s ho sn h k
  match rs, h with
  | [r], ⟨n, h⟩ =>
    obtain ⟨v, rfl, sv⟩ := one_of sn
    have sv := sv n
    cases hr : r.d with
    | lst ds =>
      rw [hr] at sv h
      obtain ⟨a, xs, rfl, hl, r2⟩ := sv.lst s
      exact ⟨a, xs, rfl, .inl (.of hl), k.lst s ho (.refl s ho) r2 h⟩
    | tup ds =>
      rw [hr] at sv h
      obtain ⟨a, xs, rfl, hl, r2⟩ := sv.tup
      exact ⟨a, xs, rfl, .inr (sqT_mono s hl), k.lst s ho (.refl s ho) r2 h⟩
    | _ => rw [hr] at h; exact h.elim
theorem bid_tuple {K : Frag} : BiD K (fun xs H Q => ∃ p ys, xs = [.ref p] ∧ ((SqL K H p ys ∧ ∀ l, H l = none → Q (.ref l) (upd H l (.tup ys))) ∨ (SqT K H p ys ∧ Q (.ref p) H))) (biW .tuple) := by
  intro hd F H vs rs Qd Q s ho sn h k
  match rs, h with
  | [r], ⟨n, h⟩ =>
    obtain ⟨v, rfl, sv⟩ := one_of sn
    have sv := sv n
    cases hr : r.d with
    | lst ds =>
      rw [hr] at sv h
      obtain ⟨a, xs, rfl, hl, r2⟩ := sv.lst s
      exact ⟨a, xs, rfl, .inl ⟨.of hl, k.tup s ho r2 h⟩⟩
    | tup ds =>
      rw [hr] at sv h
      obtain ⟨a, xs, rfl, hl, r2⟩ := sv.tup
      exact ⟨a, xs, rfl, .inr ⟨sqT_mono s hl, k _ F H (.fz (.tup ds)) (.refl s ho) (.tup hl r2) h⟩⟩
    | _ => rw [hr] at h; exact h.elim
/-- the name of a built-in -/
def Bi.name : Bi → Str
  | .len => "len" | .int => "int" | .abs => "abs" | .all => "all" | .any => "any" | .sum => "sum" | .list => "list" | .tuple => "tuple"
theorem de_bi {f : Bi} {x : Str} {p : Pos} (G : KFacts X.K X.mg T) (hc : X.calm = true) (ha : PA X (e :: es) (dA X.K W wl)) (hn : noStar e = true) (h0 : glOk T X.env.scope x = true) (hx : x = f.name) (hpl : ∀ pos : Pos, (backTo pos (starEach es X.env)).any (·.1) = false) :
    PE X (.Call (.Name x p) (e :: es) [] pos) (dT X.K W fun ρ E Q => wl ρ E fun xs => biW f xs Q) := by
  obtain ⟨hg, hm⟩ := glOk_of G h0
  subst hx
  cases f with
  | len => exact PE.imp (pe_callB call_len hg hm boot_len ha (by decide) (by decide) (star_one hn) (hpl _)) fun _ _ _ h => bi_ops bid_len (fun _ _ _ q => q) h
  | int => exact PE.imp (pe_callTy call_int1 hg hm boot_int ha (by decide) (by decide) (star_one hn) (hpl _)) fun _ _ _ h => bi_ops bid_int (fun _ _ _ q => q) h
  | abs => exact PE.imp (pe_callB call_abs hg hm boot_abs ha (by decide) (by decide) (star_one hn) (hpl _)) fun _ _ _ h => bi_ops bid_abs (fun _ _ _ q => q) h
  | all => exact PE.imp (pe_callB (cr_all hc) hg hm boot_all ha (by decide) (by decide) (star_one hn) (hpl _)) fun _ _ _ h => bi_ops bid_all (fun _ _ _ q => q) h
  | any => exact PE.imp (pe_callB (cr_any hc) hg hm boot_any ha (by decide) (by decide) (star_one hn) (hpl _)) fun _ _ _ h => bi_ops bid_any (fun _ _ _ q => q) h
  | sum => exact PE.imp (pe_callB (cr_sum hc) hg hm boot_sum ha (by decide) (by decide) (star_one hn) (hpl _)) fun _ _ _ h => bi_ops bid_sum (fun _ _ _ q => q) h
  | list => exact PE.imp (pe_callTy call_list_of hg hm boot_list ha (by decide) (by decide) (star_one hn) (hpl _)) fun _ _ _ h => bi_ops bid_list (fun _ _ _ q => q) h
  | tuple => exact PE.imp (pe_callTy call_tuple_of hg hm boot_tuple ha (by decide) (by decide) (star_one hn) (hpl _)) fun _ _ _ h => bi_ops bid_tuple (fun _ _ _ q => q) h
end
end MP
end
section
set_option Elab.async false
set_option linter.all false
set_option maxRecDepth 100000
set_option maxHeartbeats 4000000
set_option autoImplicit false
namespace MP
open PySem PySem.Spec PyProof.Rows L2
/-- what an exception of a call must reach -/
def XK1 (K : Frag) (hd : Hd) (F H : Hp) (Ed : Exn → Prop) (E : XK) : Prop := ∀ (C : Str) (fs : List (Str × D)) (d : Option Addr) (F' H' : Hp), Ev K hd F H F' H' → RpX K F' H' d fs → Ed (C, fs) → E (.ref (clA K C)) d H'
/-- a def's promise, by its worth over data -/
def SpD (K : Frag) (spec : Spec) : Sp := fun vs H Q E => ∃ (hd : Hd) (F : Hp) (ss : List SV) (Ed : Exn → Prop) (Qd : EV → Prop), Same F H ∧ HdOk K F H hd ∧ RpSs K hd F vs ss ∧ spec ss Ed Qd ∧ OpEnd K hd F H Qd Q ∧ XK1 K hd F H Ed E
/-- the promise of an __init__: a new instance at x, its dict at dx -/
def SpI (K : Frag) (C : Str) (spec : Spec) : Sp := fun vs H Q E => ∃ (hd : Hd) (F H1 : Hp) (ss : List SV) (Ed : Exn → Prop) (Qd : EV → Prop) (x dx : Addr) (rest : List V), vs = .ref x :: rest ∧ H1 x = none ∧ H1 dx = none ∧ dx ≠ x ∧
  H = upd (upd H1 dx (.own x)) x (.ins (clA K C) dx []) ∧ Same F H1 ∧ HdOk K F H1 hd ∧ RpSs K hd F rest ss ∧ spec ss Ed Qd ∧
  (∀ F' H' fs ds, Ev K hd F H1 F' H' → H' x = some (.ins (clA K C) dx fs) → H' dx = some (.own x) → F' x = none → F' dx = none → RpFs K F' fs ds → Qd (.fz (.obj C ds)) → Q .non H') ∧ XK1 K hd F H1 Ed E
/-- a def that may be called, j by its number, by at most level k -/
def FnAv (P : Program) (w : World) (K : Frag) (mg : Str → Option Value) (base : Heap) (T : Tab) (k j : Nat) : Prop :=
  ∃ (f : Addr) (fd : FuncData) (ps : List Str) (lv : Nat), lv ≤ k ∧ FnOk P w K mg base (L2.CX P w) lv f fd ps (SpD K (T.fn j)) ∧ mg (T.fnN j) = some (.ref f) ∧ PySem.W.keepIn K (.ref f) = true ∧ Binds K fd ps []
def MkAv (P : Program) (w : World) (K : Frag) (mg : Str → Option Value) (base : Heap) (T : Tab) (k j : Nat) : Prop :=
  ∃ (f : Addr) (fd : FuncData) (ps : List Str) (lv : Nat), lv + 1 ≤ k ∧ Mk K (clA K (T.cls j)) f ∧ FnOk P w K mg base (L2.CX P w) lv f fd ps (SpI K (T.cls j) (T.mkk j)) ∧ mg (T.cls j) = some (.ref (clA K (T.cls j))) ∧ Binds K fd ps []
def MthAv (P : Program) (w : World) (K : Frag) (mg : Str → Option Value) (base : Heap) (T : Tab) (k j m : Nat) : Prop :=
  ∃ (f : Addr) (fd : FuncData) (ps : List Str) (lv : Nat), lv ≤ k ∧ FnOk P w K mg base (L2.CX P w) lv f fd ps (SpD K (T.mth j m)) ∧ Cls K (clA K (T.cls j)) ∧ Meth K (clA K (T.cls j)) (T.mthN j m) f ∧ Binds K fd ps []

section
variable {X : Cx} {W : WX} {a b c e o : Expr} {es : List Expr} {wa wb wc : DW} {wg : Rho → (Exn → Prop) → (List SV → Prop) → Prop} {pos : Pos} {T : Tab}
theorem callS_of {sp : Spec} {t : TA} (hi : ∀ σ H Q, dG X.K W wg σ H Q → t σ H Q) {σ : L2.St} {H : Hp} {Q : VK} (h : dT X.K W (fun ρ E Q => wg ρ E fun ss => sp ss E Q) σ H Q) : tCallS (SpD X.K sp) (WE W) t σ H Q := by
  obtain ⟨hd, F0, H0, F, ρ, E, Qd, S, h, k, x⟩ := h
  refine hi _ _ _ ⟨hd, F0, H0, F, ρ, E, _, S, h, fun vs F1 H1 ss e1 q1 h1 => ?_, x⟩
  refine ⟨hd, F1, ss, E, Qd, e1.sub, e1.hok, q1, h1, fun v F' H' r e q hq => k v F' H' r (e1.trans e) (q.e.back fun a n => e1.fresh S.sub n) hq, fun C fs d F' H' e q hq => x C fs d F' H' (e1.trans e) q hq⟩
theorem de_call {k j : Nat} {x : Str} {p : Pos} (A : FnAv X.prog X.w X.K X.mg X.base T k j) (hr : Room k X.A) (tk : Takes X W) (ha : PA X (e :: es) (dG X.K W wg)) (hn : noStar e = true) (hx : x = T.fnN j) (hg : Gl X x) (hdb : (x == ("__debug__" : Str)) = false)
    (hpl : ∀ pos : Pos, (backTo pos (starEach es X.env)).any (·.1) = false) : PE X (.Call (.Name x p) (e :: es) [] pos) (dT X.K W fun ρ E Q => wg ρ E fun ss => T.fn j ss E Q) := by
  obtain ⟨f, fd, ps, lv, hl, F, hm, hk, hb⟩ := A
  subst hx
  exact PE.imp (pe_callS (F.mono hl) hr hg hm hk hb (fun σ => passAt tk σ) ha hdb (star_one hn) (hpl _)) fun _ _ _ h => callS_of (fun _ _ _ q => q) h
theorem pe_callS0 {CX : CXT} {k : Nat} {f : Addr} {fd : FuncData} {ps : List Str} {sp : Sp} {E : L2.St → XK} {x : Str} {p : Pos} (F : FnOk X.prog X.w X.K X.mg X.base CX k f fd ps sp) (hr : Room k X.A) (hg : Gl X x) (hm : X.mg x = some (.ref f)) (hk : PySem.W.keepIn X.K (.ref f) = true) (hb : Binds X.K fd ps [])
    (hx : ∀ σ, PassesAt CX X σ (E σ)) (hdb : (x == ("__debug__" : Str)) = false) : PE X (.Call (.Name x p) [] [] pos) (tCallS sp E tNil) := by
  refine ⟨fun pins s σ H Q I h => ?_⟩
  refine wpAny_Call_Name_kw (ld_glob I hg hm ?_ hdb)
  exact PySem.W.callWith_K0 I.kIn hk (run_fnS (us := []) (vs := []) F hr hb (hx σ) I .nil h)
theorem dg_tnil {σ : L2.St} {H : Hp} {Q : List V → Hp → Prop} (h : dG X.K W (fun _ _ k => k []) σ H Q) : tNil σ H Q := by
  obtain ⟨hd, F0, H0, F, ρ, E, Qd, S, h, k, x⟩ := h
  exact k [] F H [] (.refl S.sub S.ev.hok) True.intro h
theorem de_call0 {k j : Nat} {x : Str} {p : Pos} (A : FnAv X.prog X.w X.K X.mg X.base T k j) (hr : Room k X.A) (tk : Takes X W) (hx : x = T.fnN j) (hg : Gl X x) (hdb : (x == ("__debug__" : Str)) = false) :
    PE X (.Call (.Name x p) [] [] pos) (dT X.K W fun ρ E Q => T.fn j [] E Q) := by
  obtain ⟨f, fd, ps, lv, hl, F, hm, hk, hb⟩ := A
  subst hx
  exact PE.imp (pe_callS0 (F.mono hl) hr hg hm hk hb (fun σ => passAt tk σ) hdb) fun _ _ _ h => callS_of (wg := fun _ _ k => k []) (fun _ _ _ q => dg_tnil q) h
/-! ### new instances -/
theorem run_makeS {CX : CXT} {k : Nat} {f C : Addr} {fd : FuncData} {ps : List Str} {sp : Sp} {E : XK} {pins : List (Addr × Obj)} {σ : L2.St} {H : Hp} {s : Shared} {Q : VK} {us : List Value} {vs : List V} (M : Mk X.K C f) (F : FnOk X.prog X.w X.K X.mg X.base CX k f fd ps sp) (hr : Room (k + 1) X.A) (hb : Binds X.K fd ps [])
    (hx : PassesAt CX X σ E) (I : Inv X pins σ H s) (r : Vals vs us)
    (h : ∀ x dx, H x = none → H dx = none → dx ≠ x → sp (.ref x :: vs) (upd (upd H dx (.own x)) x (.ins C dx [])) (fun v H2 => v = .non ∧ Q (.ref x) H2) E) :
    wpAny (model X.prog X.w) X.A (call (.ref C) us) (EP X pins σ Q) X.xe s := by
  have hq := h (s.heap.objs.size + 1) s.heap.objs.size (I.hok.fresh (Nat.le_succ _)) (I.hok.fresh (Nat.le_refl _)) (Nat.ne_of_lt (Nat.lt_succ_self _))
  have I2 := Inv.made (C := C) I
  have r2 : Vals (V.ref (s.heap.objs.size + 1) :: vs) (Value.ref (s.heap.objs.size + 1) :: us) := .cons rfl r
  have hl : (Value.ref (s.heap.objs.size + 1) :: us).length = ps.length := by
    have e := r2.length
    rw [F.len _ _ _ _ hq] at e
    exact e.symm
  have b := hb _ (Value.ref (s.heap.objs.size + 1) :: us) I2.kIn (by rw [List.append_nil]; exact hl)
  rw [List.append_nil] at b
  refine wpAny_call (make_map (f := f) I.kIn M.makes M.init (beq_iff_eq.mp M.fn) (codeAny_mono (F.run _ X.stack _ _ ⟨Value.ref (s.heap.objs.size + 1) :: us, []⟩ (Value.ref (s.heap.objs.size + 1) :: us) _ _ E (hr.make C us [])
    (I2.env0.make C us []) b r2 hq) fun r s' hq' => ?_))
  cases r with
  | error e => exact hx pins _ _ e s' I2 hq'
  | ok fl =>
    cases fl with
    | ret u =>
      obtain ⟨v, H', I3, rv, ev, q3⟩ := I2.after hq'
      subst ev
      exact ⟨rv, ⟨V.ref (s.heap.objs.size + 1), H', I3, rfl, q3⟩⟩
    | next => exact False.elim hq'
    | brk => exact False.elim hq'
    | cont => exact False.elim hq'
/-- an instance that was made stays from now on -/
theorem Ev.freezeObj {K : Frag} {hd : Hd} {F H F' H' : Hp} {C : Str} {x dx : Addr} {fs : List (Str × V)} {ds : List (Str × D)} (e : Ev K hd F H F' H') (nx : H x = none) (ndx : H dx = none) (hx : H' x = some (.ins (clA K C) dx fs)) (hdx : H' dx = some (.own x)) (fx : F' x = none) (fdx : F' dx = none) (r : RpFs K F' fs ds) :
    ∃ F2, Ev K hd F H F2 H' ∧ Rp K F2 (.ref x) (.obj C ds) := by
  have ne : dx ≠ x := fun z => by rw [z, hx] at hdx; cases hdx
  have nh : ¬ hd.is x := fun ⟨c, z⟩ => by
    subst z
    obtain ⟨_, _, _, _, q, _⟩ := e.hok.at_
    rw [hx] at q; cases q
  have nhx : ¬ hd.is dx := e.hok.not_own hdx
  have s1 : Same F' (upd F' x (.ins (clA K C) dx fs)) := fun b o q => by rw [upd_ne (ne_of_none q fx)]; exact q
  have n2 : upd F' x (.ins (clA K C) dx fs) dx = none := by rw [upd_ne ne]; exact fdx
  have s2 : Same (upd F' x (.ins (clA K C) dx fs)) (upd (upd F' x (.ins (clA K C) dx fs)) dx (.own x)) := fun b o q => by rw [upd_ne (ne_of_none q n2)]; exact q
  refine ⟨upd (upd F' x (.ins (clA K C) dx fs)) dx (.own x), ⟨(e.ff.trans s1).trans s2, fun b o q => ?_, fun b o q z y => ⟨(e.keep b o q z y).1, ?_⟩, ?_, fun b z => ?_⟩, .obj (by rw [upd_ne (Ne.symm ne), upd_same]) upd_same (r.mono (s1.trans s2))⟩
  · by_cases hb : b = dx
    · rw [hb, upd_same] at q; cases q; rw [hb]; exact hdx
    · rw [upd_ne hb] at q
      by_cases hb : b = x
      · rw [hb, upd_same] at q; cases q; rw [hb]; exact hx
      · rw [upd_ne hb] at q; exact e.sub b o q
  · rw [upd_ne (ne_of_none q ndx), upd_ne (ne_of_none q nx)]; exact (e.keep b o q z y).2
  · match hd, e, nh, nhx with
    | none, _, _, _ => exact True.intro
    | some (h, c), e, nh, nhx =>
      have q : HandOk K F' H' h c := e.hok
      refine ⟨?_, ?_, q.at_⟩
      · rw [upd_ne (fun z => nhx ⟨c, by rw [z]⟩), upd_ne (fun z => nh ⟨c, by rw [z]⟩)]; exact q.free
      · obtain ⟨ns, h1, h2⟩ := q.cells; exact ⟨ns, sqL_mono (s1.trans s2) h1, h2⟩
  · rw [upd_ne (fun y => nhx (by rw [← y]; exact z)), upd_ne (fun y => nh (by rw [← y]; exact z))]; exact e.hand b z
theorem de_mk {k j : Nat} {x : Str} {p : Pos} (A : MkAv X.prog X.w X.K X.mg X.base T k j) (hr : Room k X.A) (tk : Takes X W) (ha : PA X (e :: es) (dG X.K W wg)) (hn : noStar e = true) (hx : x = T.cls j) (hg : Gl X x) (hdb : (x == ("__debug__" : Str)) = false)
    (hpl : ∀ pos : Pos, (backTo pos (starEach es X.env)).any (·.1) = false) : PE X (.Call (.Name x p) (e :: es) [] pos) (dT X.K W fun ρ E Q => wg ρ E fun ss => T.mkk j ss E Q) := by
  obtain ⟨f, fd, ps, lv, hl, M, F, hm, hb⟩ := A
  subst hx
  refine ⟨fun pins s σ H Q I h => ?_⟩
  obtain ⟨hd, F0, H0, F1, ρ, E, Qd, S, h, k, x⟩ := h
  refine wpAny_Call_Name_kw (ld_glob I hg hm ?_ hdb)
  refine PySem.W.callWith_K (h₀ := X.base) I.ok.mod.kin M.kp (thn (ha.run pos pins s σ H (fun vs H1 => ∀ x dx, H1 x = none → H1 dx = none → dx ≠ x → SpI X.K (T.cls j) (T.mkk j) (.ref x :: vs) (upd (upd H1 dx (.own x)) x (.ins (clA X.K (T.cls j)) dx [])) (fun v H2 => v = .non ∧ Q (.ref x) H2) (WE W σ)) I
    ⟨hd, F0, H0, F1, ρ, E, _, S, h, fun vs F2 H2 ss e1 q1 h1 y dy ny ndy ne => ?_, x⟩) fun us s1 ⟨vs, H1, I1, r, q⟩ => ⟨I1.kIn, ?_⟩) (star_one hn) (hpl _)
  · refine ⟨hd, F2, H2, ss, E, Qd, y, dy, vs, rfl, ny, ndy, ne, rfl, e1.sub, e1.hok, q1, h1, fun F' H' fs ds e2 hx hdx fx fdx rf hq => ⟨rfl, ?_⟩, fun C fs d F' H' e q hq => x C fs d F' H' (e1.trans e) q hq⟩
    obtain ⟨F3, e3, rp⟩ := Ev.freezeObj e2 ny ndy hx hdx fx fdx rf
    exact k _ F3 H' (.fz (.obj (T.cls j) ds)) (e1.trans e3) (rpE_fz rp) hq
  · exact run_makeS M (F.mono (Nat.le_sub_of_add_le hl)) (hr.mono (by omega)) hb (passAt tk σ) I1 r q
/-! ### methods -/
def tMethS (C : Addr) (m : Str) (sp : Sp) (E : L2.St → XK) (ta : TE) (t : TA) : TE := fun σ H Q => ta σ H fun x H1 => ∃ a dx fs, x = .ref a ∧ H1 a = some (.ins C dx fs) ∧ fs.lookup m = none ∧ t σ H1 fun vs H2 => sp (x :: vs) H2 Q (E σ)
theorem pe_methS {CX : CXT} {k : Nat} {f C : Addr} {fd : FuncData} {ps : List Str} {sp : Sp} {E : L2.St → XK} {m : Str} {apos : Pos} {ta : TE} {t : TA} {pl : Sem Bool} (he : PE X o ta) (c : Cls X.K C) (hm : Meth X.K C m f) (F : FnOk X.prog X.w X.K X.mg X.base CX k f fd ps sp) (hr : Room k X.A) (hb : Binds X.K fd ps []) (hx : ∀ σ, PassesAt CX X σ (E σ)) (ha : PA X (e :: es) t)
    (hst : starEach (e :: es) X.env = (false, eval e X.env) :: starEach es X.env) (hpl : (backTo pos (starEach es X.env)).any (·.1) = false)
    (ht : eval (.Call (.Attribute o m apos) (e :: es) [] pos) X.env = (do
      let ov ← eval o X.env
      standAt apos.atName
      let (f, first) ← holding [ov] (getMethod ov m pl)
      callWith pos f first (backTo pos (starEach (e :: es) X.env)) (backToKw pos (keywordEach [] X.env)))) :
    PE X (.Call (.Attribute o m apos) (e :: es) [] pos) (tMethS C m sp E ta t) := by
  refine ⟨fun pins s σ H Q I h => ?_⟩
  refine PySem.W.methodCall_KW (pl := pl) (thn (he.run pins s σ H _ I h) fun u s1 ⟨x, H1, I1, rx, a, dx, fs, ex, ea, l, q⟩ => ?_) ht
  subst ex
  obtain rfl : u = Value.ref a := rx
  refine getmeth_ok I1 ea c hm l ?_
  refine PySem.W.callWith_K (first := [.ref a]) (h₀ := X.base) I.ok.mod.kin hm.kp (thn (ha.run pos pins s1 σ H1 _ I1 q) fun us s2 ⟨vs, H2, I2, r, q2⟩ => ⟨I2.kIn, ?_⟩) hst hpl
  exact run_fnS (us := .ref a :: us) (vs := .ref a :: vs) F hr hb (hx σ) I2 (.cons rfl r) q2
theorem pe_methS0 {CX : CXT} {k : Nat} {f C : Addr} {fd : FuncData} {ps : List Str} {sp : Sp} {E : L2.St → XK} {m : Str} {apos : Pos} {ta : TE} {pl : Sem Bool} (he : PE X o ta) (c : Cls X.K C) (hm : Meth X.K C m f) (F : FnOk X.prog X.w X.K X.mg X.base CX k f fd ps sp) (hr : Room k X.A) (hb : Binds X.K fd ps []) (hx : ∀ σ, PassesAt CX X σ (E σ))
    (ht : eval (.Call (.Attribute o m apos) [] [] pos) X.env = (do
      let ov ← eval o X.env
      standAt apos.atName
      let (f, first) ← holding [ov] (getMethod ov m pl)
      callWith pos f first (backTo pos (starEach [] X.env)) (backToKw pos (keywordEach [] X.env)))) :
    PE X (.Call (.Attribute o m apos) [] [] pos) (tMethS C m sp E ta tNil) := by
  refine ⟨fun pins s σ H Q I h => ?_⟩
  refine PySem.W.methodCall_KW (pl := pl) (thn (he.run pins s σ H _ I h) fun u s1 ⟨x, H1, I1, rx, a, dx, fs, ex, ea, l, q⟩ => ?_) ht
  subst ex
  obtain rfl : u = Value.ref a := rx
  refine getmeth_ok I1 ea c hm l ?_
  exact PySem.W.callWith_K0 (first := [.ref a]) I1.kIn hm.kp (run_fnS (us := [.ref a]) (vs := [.ref a]) F hr hb (hx σ) I1 (.cons rfl .nil) q)
end
end MP
end
section
set_option Elab.async false
set_option linter.all false
set_option maxRecDepth 100000
set_option maxHeartbeats 4000000
set_option autoImplicit false
namespace MP
open PySem PySem.Spec PyProof.Rows L2
section
variable {X : Cx} {W : WX} {a b c e o : Expr} {es : List Expr} {wa wb wc wo : DW} {wg : Rho → (Exn → Prop) → (List SV → Prop) → Prop} {pos : Pos} {T : Tab}
theorem noStars {es : List Expr} {env : Env} (h : es.all noStar = true) : (starEach es env).all (fun x => !x.1) = true := by
  induction es with
  | nil => rfl
  | cons e es ih =>
    simp only [List.all_cons, Bool.and_eq_true] at h
    rw [star_one h.1]
    simp only [List.all_cons, Bool.not_false, Bool.true_and]
    exact ih h.2
theorem back_all {pos : Pos} {l : List (Bool × Sem Value)} (h : l.all (fun x => !x.1) = true) : (backTo pos l).all (fun x => !x.1) = true := by
  unfold backTo
  rw [List.all_map]
  rw [List.all_eq_true] at h ⊢
  exact fun x hx => h x hx
theorem back_any {pos : Pos} {l : List (Bool × Sem Value)} (h : l.all (fun x => !x.1) = true) : (backTo pos l).any (fun x => x.1) = false := by
  have q := back_all (pos := pos) h
  rw [List.any_eq_false]
  rw [List.all_eq_true] at q
  intro x hx
  have z := q x hx
  cases hb : x.1 with
  | false => simp
  | true => rw [hb] at z; cases z
theorem starEach_len {es : List Expr} {env : Env} (h : es.all noStar = true) : (starEach es env).length = es.length := by
  induction es with
  | nil => rfl
  | cons e es ih =>
    simp only [List.all_cons, Bool.and_eq_true] at h
    rw [star_one h.1, List.length_cons, List.length_cons, ih h.2]
theorem form_ok {es : List Expr} {env : Env} {pos : Pos} (h : es.all noStar = true) (hl : es.length < 30) : methodCallForm es.length (backTo pos (starEach es env)) (backToKw pos (keywordEach [] env)) = true := by
  unfold methodCallForm
  rw [back_all (noStars h)]
  simp [backToKw, keywordEach, hl]
theorem eval_mcall {o : Expr} {m : Str} {apos pos : Pos} {es : List Expr} {env : Env} (ho : noCall o = true) (h : es.all noStar = true) (hl : es.length < 30) (hp : (apos.endLine == pos.line) = true) :
    eval (.Call (.Attribute o m apos) es [] pos) env = (do
      let ov ← eval o env
      standAt apos.atName
      let (f, first) ← holding [ov] (getMethod ov m (plainOf o env))
      callWith pos f first (backTo pos (starEach es env)) (backToKw pos (keywordEach [] env))) := by
  show (do
    let ov ← attributeBase o m env (eval o env)
    standAt apos.atName
    methodCall o m apos pos env ov (es.length + 0) (backTo pos (starEach es env)) (backToKw pos (keywordEach [] env))) = _
  rw [base_of ho]
  congr 1
  funext ov
  congr 1
  funext _
  exact mcall_line (form_ok h hl) hp
theorem lookup_of_fs {K : Frag} {F : Hp} {fs : List (Str × V)} {ds : List (Str × D)} {m : Str} (r : RpFs K F fs ds) (h : ds.lookup m = none) : fs.lookup m = none := r.lookup_none h
theorem mthS_of {j m : Nat} {C : Addr} {t : TA} (hC : C = clA X.K (T.cls j)) (hi : ∀ σ H Q, dG X.K W wg σ H Q → t σ H Q) {σ : L2.St} {H : Hp} {Q : VK}
    (h : dT X.K W (fun ρ E Q => wo ρ E fun x => (match x with
      | .fz (.obj C fs) => C = T.cls j ∧ fs.lookup (T.mthN j m) = none ∧ wg ρ E fun ss => T.mth j m (.fz (.obj C fs) :: ss) E Q
      | _ => False)) σ H Q) : tMethS C (T.mthN j m) (SpD X.K (T.mth j m)) (WE W) (dT X.K W wo) t σ H Q := by
  subst hC
  obtain ⟨hd, F0, H0, F, ρ, E, Qd, S, h, k, x⟩ := h
  refine ⟨hd, F0, H0, F, ρ, E, _, S, h, fun v F1 H1 r e1 q1 h1 => ?_, x⟩
  match r, h1 with
  | .fz (.obj C fs), ⟨eC, hl, h1⟩ =>
    subst eC
    have sn : Sn X.K hd F1 H1 v (.obj (T.cls j) fs) := .inl q1
    obtain ⟨a, dx, gs, ev, ha, hx, rf⟩ := sn.obj e1.sub
    refine ⟨a, dx, gs, ev, ha, lookup_of_fs rf hl, hi _ _ _ ⟨hd, F0, H0, F1, ρ, E, _, S.step e1, h1, fun vs F2 H2 ss e2 q2 h2 => ?_, x.step e1⟩⟩
    exact ⟨hd, F2, _, E, Qd, e2.sub, e2.hok, (show RpSs X.K hd F2 (v :: vs) (.fz (.obj (T.cls j) fs) :: ss) from ⟨Rp.mono e2.ff q1, q2⟩), h2, fun v F' H' r e q hq => k v F' H' r ((e1.trans e2).trans e) (q.e.back fun a n => (e1.trans e2).fresh S.sub n) hq, fun C fs d F' H' e q hq => x C fs d F' H' ((e1.trans e2).trans e) q hq⟩
theorem de_mth {k j m : Nat} {apos : Pos} (A : MthAv X.prog X.w X.K X.mg X.base T k j m) (hr : Room k X.A) (tk : Takes X W) (ho : PE X o (dT X.K W wo)) (ha : PA X (e :: es) (dG X.K W wg)) (hn : noCall o = true) (hs : (e :: es).all noStar = true) (hl : (e :: es).length < 30) (hp : (apos.endLine == pos.line) = true) :
    PE X (.Call (.Attribute o (T.mthN j m) apos) (e :: es) [] pos) (dT X.K W fun ρ E Q => wo ρ E fun x => (match x with
      | .fz (.obj C fs) => C = T.cls j ∧ fs.lookup (T.mthN j m) = none ∧ wg ρ E fun ss => T.mth j m (.fz (.obj C fs) :: ss) E Q
      | _ => False)) := by
  obtain ⟨f, fd, ps, lv, hl', F, c, hm, hb⟩ := A
  have h2 : (es.all noStar) = true := by simp only [List.all_cons, Bool.and_eq_true] at hs; exact hs.2
  have h1 : noStar e = true := by simp only [List.all_cons, Bool.and_eq_true] at hs; exact hs.1
  exact PE.imp (pe_methS ho c hm (F.mono hl') hr hb (fun σ => passAt tk σ) ha (star_one h1) (back_any (noStars h2)) (eval_mcall hn hs hl hp)) fun _ _ _ h => mthS_of rfl (fun _ _ _ q => q) h
theorem de_mth0 {k j m : Nat} {apos : Pos} (A : MthAv X.prog X.w X.K X.mg X.base T k j m) (hr : Room k X.A) (tk : Takes X W) (ho : PE X o (dT X.K W wo)) (hn : noCall o = true) (hp : (apos.endLine == pos.line) = true) :
    PE X (.Call (.Attribute o (T.mthN j m) apos) [] [] pos) (dT X.K W fun ρ E Q => wo ρ E fun x => (match x with
      | .fz (.obj C fs) => C = T.cls j ∧ fs.lookup (T.mthN j m) = none ∧ T.mth j m [.fz (.obj C fs)] E Q
      | _ => False)) := by
  obtain ⟨f, fd, ps, lv, hl', F, c, hm, hb⟩ := A
  exact PE.imp (pe_methS0 ho c hm (F.mono hl') hr hb (fun σ => passAt tk σ) (eval_mcall hn rfl (by decide) hp)) fun _ _ _ h => mthS_of (wg := fun _ _ k => k []) rfl (fun _ _ _ q => dg_tnil q) h
end
/-! ### slots -/
section
variable {K : Frag} {hd : Hd} {F0 H0 F H F' H' : Hp} {ρ : Rho} {σ : L2.St}
theorem get_set {α : Type} {l : List α} {i j : Nat} {x y : α} (h : (l.set i x)[j]? = some y) : (i = j ∧ i < l.length ∧ x = y) ∨ (i ≠ j ∧ l[j]? = some y) := by
  rw [List.getElem?_set] at h
  split at h
  · rename_i e
    split at h
    · rename_i hl
      cases h; exact .inl ⟨e, hl, rfl⟩
    · cases h
  · rename_i e
    exact .inr ⟨e, h⟩
theorem StOk.set (S : StOk K hd F0 H0 F H ρ σ) {v : V} {d : D} (i : Nat) (r : Rp K F v d) : StOk K hd F0 H0 F H (ρ.set i (some (.fz d))) (σ.set i (some v)) where
  sub0 := S.sub0
  ev := S.ev
  len := by rw [List.length_set, List.length_set]; exact S.len
  fz := fun j d' h => by
    rcases get_set h with ⟨rfl, hl, e⟩ | ⟨ne, h⟩
    · cases e
      exact ⟨v, by rw [List.getElem?_set_self (by rw [← S.len]; exact hl)], r⟩
    · obtain ⟨u, h1, r1⟩ := S.fz j d' h
      exact ⟨u, by rw [List.getElem?_set_ne ne]; exact h1, r1⟩
  ow := fun j t d' h => by
    rcases get_set h with ⟨rfl, hl, e⟩ | ⟨ne, h⟩
    · cases e
    · obtain ⟨u, h1, r1⟩ := S.ow j t d' h
      exact ⟨u, by rw [List.getElem?_set_ne ne]; exact h1, r1⟩
  hnd := fun j h => by
    rcases get_set h with ⟨rfl, hl, e⟩ | ⟨ne, h⟩
    · cases e
    · obtain ⟨u, c, h1, r1⟩ := S.hnd j h
      exact ⟨u, c, h1, by rw [List.getElem?_set_ne ne]; exact r1⟩
  me := fun j a' dx' C ds h => by
    rcases get_set h with ⟨rfl, hl, e⟩ | ⟨ne, h⟩
    · cases e
    · obtain ⟨h1, r1⟩ := S.me j a' dx' C ds h
      exact ⟨by rw [List.getElem?_set_ne ne]; exact h1, r1⟩
  ct := fun j t d' h => by
    rcases get_set h with ⟨rfl, hl, e⟩ | ⟨ne, h⟩
    · cases e
    · exact S.ct j t d' h
  tg := fun j b d' h => by
    rcases get_set h with ⟨rfl, hl, e⟩ | ⟨ne, h⟩
    · cases e
    · rw [List.getElem?_set_ne ne]; exact S.tg j b d' h
  one := fun j1 j2 a' b dx dy C C' ds es h1 h2 => by
    rcases get_set h1 with ⟨_, _, e1⟩ | ⟨n1, h1⟩
    · cases e1
    rcases get_set h2 with ⟨_, _, e1⟩ | ⟨n2, h2⟩
    · cases e1
    exact S.one j1 j2 a' b dx dy C C' ds es h1 h2
  dis := fun j1 j2 t u d e a h1 h2 h3 h4 => by
    rcases get_set h1 with ⟨_, _, e1⟩ | ⟨n1, h1⟩
    · cases e1
    rcases get_set h2 with ⟨_, _, e1⟩ | ⟨n2, h2⟩
    · cases e1
    rw [List.getElem?_set_ne n1] at h3
    rw [List.getElem?_set_ne n2] at h4
    exact S.dis j1 j2 t u d e a h1 h2 h3 h4
/-- a slot that takes something owned: at a, known to no other slot -/
theorem StOk.own (S : StOk K hd F0 H0 F H ρ σ) {a : Addr} {d : D} (i : Nat) (n : F a = none) (nh : ¬ hd.is a) (h0 : H0 a = none) (o : Own K F H a d) (hct : d.cont = true) (alone : ∀ j t d', j ≠ i → ρ[j]? = some (some (SV.ow t d')) → σ[j]? ≠ some (some (V.ref a))) :
    StOk K hd F0 H0 F H (ρ.set i (some (.ow none d))) (σ.set i (some (.ref a))) where
  sub0 := S.sub0
  ev := S.ev
  len := by rw [List.length_set, List.length_set]; exact S.len
  fz := fun j d' h => by
    rcases get_set h with ⟨rfl, hl, e⟩ | ⟨ne, h⟩
    · cases e
    · obtain ⟨u, h1, r1⟩ := S.fz j d' h
      exact ⟨u, by rw [List.getElem?_set_ne ne]; exact h1, r1⟩
  ow := fun j t d' h => by
    rcases get_set h with ⟨rfl, hl, e⟩ | ⟨ne, h⟩
    · cases e
      exact ⟨a, by rw [List.getElem?_set_self (by rw [← S.len]; exact hl)], n, nh, h0, o⟩
    · obtain ⟨u, h1, r1⟩ := S.ow j t d' h
      exact ⟨u, by rw [List.getElem?_set_ne ne]; exact h1, r1⟩
  hnd := fun j h => by
    rcases get_set h with ⟨rfl, hl, e⟩ | ⟨ne, h⟩
    · cases e
    · obtain ⟨u, c, h1, r1⟩ := S.hnd j h
      exact ⟨u, c, h1, by rw [List.getElem?_set_ne ne]; exact r1⟩
  me := fun j a' dx' C ds h => by
    rcases get_set h with ⟨rfl, hl, e⟩ | ⟨ne, h⟩
    · cases e
    · obtain ⟨h1, r1⟩ := S.me j a' dx' C ds h
      exact ⟨by rw [List.getElem?_set_ne ne]; exact h1, r1⟩
  ct := fun j t d' h => by
    rcases get_set h with ⟨rfl, hl, e⟩ | ⟨ne, h⟩
    · cases e; exact hct
    · exact S.ct j t d' h
  tg := fun j b d' h => by
    rcases get_set h with ⟨rfl, hl, e⟩ | ⟨ne, h⟩
    · cases e
    · rw [List.getElem?_set_ne ne]; exact S.tg j b d' h
  one := fun j1 j2 a' b dx dy C C' ds es h1 h2 => by
    rcases get_set h1 with ⟨_, _, e1⟩ | ⟨n1, h1⟩
    · cases e1
    rcases get_set h2 with ⟨_, _, e1⟩ | ⟨n2, h2⟩
    · cases e1
    exact S.one j1 j2 a' b dx dy C C' ds es h1 h2
  dis := fun j1 j2 t1 t2 d1 d2 b h1 h2 h3 h4 => by
    by_cases e1 : j1 = i
    · by_cases e2 : j2 = i
      · rw [e1, e2]
      · exfalso
        rcases get_set h2 with ⟨z, _, _⟩ | ⟨n2, h2⟩
        · exact e2 z.symm
        rw [List.getElem?_set_ne n2] at h4
        rw [e1] at h3
        rcases get_set h3 with ⟨_, _, z⟩ | ⟨z, _⟩
        · cases z
          exact alone j2 t2 d2 e2 h2 h4
        · exact z rfl
    · by_cases e2 : j2 = i
      · exfalso
        rcases get_set h1 with ⟨z, _, _⟩ | ⟨n2, h1⟩
        · exact e1 z.symm
        rw [List.getElem?_set_ne n2] at h3
        rw [e2] at h4
        rcases get_set h4 with ⟨_, _, z⟩ | ⟨z, _⟩
        · cases z
          exact alone j1 t1 d1 e1 h1 h3
        · exact z rfl
      · rcases get_set h1 with ⟨z, _, _⟩ | ⟨n1, h1⟩
        · exact absurd z.symm e1
        rcases get_set h2 with ⟨z, _, _⟩ | ⟨n2, h2⟩
        · exact absurd z.symm e2
        rw [List.getElem?_set_ne n1] at h3
        rw [List.getElem?_set_ne n2] at h4
        exact S.dis j1 j2 t1 t2 d1 d2 b h1 h2 h3 h4
theorem StOk.clear (S : StOk K hd F0 H0 F H ρ σ) (i : Nat) : StOk K hd F0 H0 F H (ρ.set i none) (σ.set i none) where
  sub0 := S.sub0
  ev := S.ev
  len := by rw [List.length_set, List.length_set]; exact S.len
  fz := fun j d' h => by
    rcases get_set h with ⟨rfl, hl, e⟩ | ⟨ne, h⟩
    · cases e
    · obtain ⟨u, h1, r1⟩ := S.fz j d' h
      exact ⟨u, by rw [List.getElem?_set_ne ne]; exact h1, r1⟩
  ow := fun j t d' h => by
    rcases get_set h with ⟨rfl, hl, e⟩ | ⟨ne, h⟩
    · cases e
    · obtain ⟨u, h1, r1⟩ := S.ow j t d' h
      exact ⟨u, by rw [List.getElem?_set_ne ne]; exact h1, r1⟩
  hnd := fun j h => by
    rcases get_set h with ⟨rfl, hl, e⟩ | ⟨ne, h⟩
    · cases e
    · obtain ⟨u, c, h1, r1⟩ := S.hnd j h
      exact ⟨u, c, h1, by rw [List.getElem?_set_ne ne]; exact r1⟩
  me := fun j a' dx' C ds h => by
    rcases get_set h with ⟨rfl, hl, e⟩ | ⟨ne, h⟩
    · cases e
    · obtain ⟨h1, r1⟩ := S.me j a' dx' C ds h
      exact ⟨by rw [List.getElem?_set_ne ne]; exact h1, r1⟩
  ct := fun j t d' h => by
    rcases get_set h with ⟨rfl, hl, e⟩ | ⟨ne, h⟩
    · cases e
    · exact S.ct j t d' h
  tg := fun j b d' h => by
    rcases get_set h with ⟨rfl, hl, e⟩ | ⟨ne, h⟩
    · cases e
    · rw [List.getElem?_set_ne ne]; exact S.tg j b d' h
  one := fun j1 j2 a' b dx dy C C' ds es h1 h2 => by
    rcases get_set h1 with ⟨_, _, e1⟩ | ⟨n1, h1⟩
    · cases e1
    rcases get_set h2 with ⟨_, _, e1⟩ | ⟨n2, h2⟩
    · cases e1
    exact S.one j1 j2 a' b dx dy C C' ds es h1 h2
  dis := fun j1 j2 t u d e a h1 h2 h3 h4 => by
    rcases get_set h1 with ⟨_, _, e1⟩ | ⟨n1, h1⟩
    · cases e1
    rcases get_set h2 with ⟨_, _, e1⟩ | ⟨n2, h2⟩
    · cases e1
    rw [List.getElem?_set_ne n1] at h3
    rw [List.getElem?_set_ne n2] at h4
    exact S.dis j1 j2 t u d e a h1 h2 h3 h4
theorem StOk.wipe (S : StOk K hd F0 H0 F H ρ σ) : ∀ own : List Nat, StOk K hd F0 H0 F H (wipeR ρ own) (L2.wipe σ own)
  | [] => S
  | v :: vs => (StOk.wipe S vs).clear v
end
/-! ### targets -/
def tgNames : Tg → List Nat
  | .nm i => [i]
  | .tp is => is
def dTg (K : Frag) (tg : Tg) : TG := fun v σ H Q => ∃ (hd : Hd) (F0 H0 F : Hp) (ρ : Rho) (d : D) (k : Rho → Prop), StOk K hd F0 H0 F H ρ σ ∧ Rp K F v d ∧ tgW tg d ρ k ∧
  ∀ ρ' σ', StOk K hd F0 H0 F H ρ' σ' → k ρ' → (∀ vs : List Nat, (∀ i ∈ tgNames tg, i ∈ vs) → L2.wipe σ' vs = L2.wipe σ vs) → Q σ' H
theorem set_none_comm {l : L2.St} {i j : Nat} {x : Option V} : (l.set i x).set j none = (if i = j then l.set j none else (l.set j none).set i x) := by
  by_cases h : i = j
  · subst h; rw [if_pos rfl, List.set_set]
  · rw [if_neg h, List.set_comm _ _ h]
theorem wipe_set {σ : L2.St} {i : Nat} {x : Option V} : ∀ {vs : List Nat}, L2.wipe (σ.set i x) vs = if i ∈ vs then L2.wipe σ vs else (L2.wipe σ vs).set i x
  | [] => by simp [L2.wipe]
  | v :: vs => by
    show (L2.wipe (σ.set i x) vs).set v none = _
    rw [wipe_set (vs := vs)]
    by_cases h1 : i ∈ vs
    · rw [if_pos h1, if_pos (List.mem_cons_of_mem _ h1)]; rfl
    · rw [if_neg h1, set_none_comm]
      by_cases h2 : i = v
      · rw [if_pos h2, if_pos (by rw [h2]; exact List.mem_cons_self)]; rfl
      · rw [if_neg h2, if_neg (by simp [h1, h2])]; rfl
section
variable {X : Cx} {pos : Pos}
theorem dg_nm {i : Nat} {x : Str} (hN : X.N.Nodup) (hi : X.N[i]? = some x) (hx : Loc X.env.scope x) (hf : X.fn x = true ∨ X.env.scope.names.lookup x = some .local) : PG X (.Name x pos) (dTg X.K (.nm i)) := by
  refine ⟨fun pins s σ H v u Q I r ⟨hd, F0, H0, F, ρ, d, k, S, rp, h, kk⟩ => ?_⟩
  exact (pg_name hN hi hx hf).run pins s σ H v u Q I r (kk _ _ (S.set i rp) h fun vs hv => by rw [wipe_set, if_pos (hv i (by simp [tgNames]))])
/-- the names of a tuple target -/
def gAll (K : Frag) (is : List Nat) : TGs := fun vs σ H Q => ∃ (hd : Hd) (F0 H0 F : Hp) (ρ ρ1 : Rho) (ds : List D), StOk K hd F0 H0 F H ρ σ ∧ RpAll K F vs ds ∧ setAll is ds ρ = some ρ1 ∧
  ∀ σ', StOk K hd F0 H0 F H ρ1 σ' → (∀ vs : List Nat, (∀ i ∈ is, i ∈ vs) → L2.wipe σ' vs = L2.wipe σ vs) → Q σ' H
theorem PGs.imp {ts : List Expr} {t t' : TGs} (h : PGs X ts t) (i : ∀ vs σ H Q, t' vs σ H Q → t vs σ H Q) : PGs X ts t' := ⟨fun pins s σ H vs us Q I r q => h.run pins s σ H vs us Q I r (i _ _ _ _ q)⟩
theorem PG.imp {tg : Expr} {t t' : TG} (h : PG X tg t) (i : ∀ v σ H Q, t' v σ H Q → t v σ H Q) : PG X tg t' := ⟨fun pins s σ H v u Q I r q => h.run pins s σ H v u Q I r (i _ _ _ _ q)⟩
/-- a name in slot i -/
structure NmOk (X : Cx) (e : Expr) (i : Nat) : Prop where
  ex : ∃ x p, e = .Name x p ∧ X.N[i]? = some x ∧ Loc X.env.scope x ∧ (X.fn x = true ∨ X.env.scope.names.lookup x = some .local)
inductive NmsOk (X : Cx) : List Expr → List Nat → Prop
  | nil : NmsOk X [] []
  | cons {e : Expr} {es : List Expr} {i : Nat} {is : List Nat} : NmOk X e i → NmsOk X es is → NmsOk X (e :: es) (i :: is)
theorem NmsOk.length {es : List Expr} {is : List Nat} (h : NmsOk X es is) : es.length = is.length := by
  induction h with
  | nil => rfl
  | cons _ _ ih => simp [ih]
theorem assignEach_nm {es : List Expr} {is : List Nat} (h : NmsOk X es is) : (assignEach es X.env).length = es.length ∧ (assignEach es X.env).findIdx? (·.1) = none ∧ (assignEach es X.env).map (·.2) = es.map fun e => assign e X.env := by
  induction h with
  | nil => exact ⟨rfl, rfl, rfl⟩
  | cons a b ih =>
    obtain ⟨x, p, rfl, _⟩ := a.ex
    obtain ⟨h1, h2, h3⟩ := ih
    refine ⟨?_, ?_, ?_⟩
    · show (assignEach _ _).length + 1 = _
      rw [h1]; rfl
    · show List.findIdx? _ ((false, assign (.Name x p) X.env) :: assignEach _ X.env) = none
      rw [List.findIdx?_cons]
      simp [h2]
    · show assign (.Name x p) X.env :: (assignEach _ X.env).map (·.2) = _
      rw [h3]; rfl
theorem dgs_all (hN : X.N.Nodup) {es : List Expr} {is : List Nat} (h : NmsOk X es is) : PGs X es (gAll X.K is) := by
  induction h with
  | nil =>
    refine PGs.imp pgs_nil fun vs σ H Q ⟨hd, F0, H0, F, ρ, ρ1, ds, S, r, e, k⟩ => ?_
    cases r with
    | nil => cases e; exact ⟨rfl, k σ S fun _ _ => rfl⟩
    | cons _ _ => cases e
  | @cons e es i is a b ih =>
    obtain ⟨x, p, rfl, hi, hx, hf⟩ := a.ex
    refine PGs.imp (pgs_cons (pg_name hN hi hx hf) ih (by rfl)) fun vs σ H Q ⟨hd, F0, H0, F, ρ, ρ1, ds, S, r, e, k⟩ => ?_
    cases r with
    | nil => cases e
    | @cons v vs d ds r rs =>
      refine ⟨v, vs, rfl, hd, F0, H0, F, _, ρ1, ds, S.set i r, rs, e, fun σ' S' hw => k σ' S' fun vs hv => ?_⟩
      rw [hw vs fun j hj => hv j (List.mem_cons_of_mem _ hj), wipe_set, if_pos (hv i List.mem_cons_self)]
theorem setAll_len : ∀ {is : List Nat} {ds : List D} {ρ ρ' : Rho}, setAll is ds ρ = some ρ' → is.length = ds.length
  | [], [], _, _, _ => rfl
  | i :: is, d :: ds, ρ, ρ', h => by simp [setAll_len (is := is) (ds := ds) h]
  | [], _ :: _, _, _, h => by cases h
  | _ :: _, [], _, _, h => by cases h
theorem dg_tp (hc : X.calm = true) (hN : X.N.Nodup) {es : List Expr} {is : List Nat} {n : Nat} (h : NmsOk X es is) : PG X (.Tuple es n pos) (dTg X.K (.tp is)) := by
  obtain ⟨h1, h2, h3⟩ := assignEach_nm h
  refine PG.imp (pg_tup hc (dgs_all hN h) rfl h2) fun v σ H Q ⟨hd, F0, H0, F, ρ, d, k, S, rp, hw, kk⟩ => ?_
  cases d with
  | tup ds =>
    obtain ⟨ρ1, e1, hk⟩ := hw
    cases rp with
    | tup hs r =>
      refine ⟨_, _, rfl, sqT_mono S.sub hs, ?_, hd, F0, H0, F, ρ, ρ1, ds, S, r, e1, fun σ' S' hw => kk ρ1 σ' S' hk hw⟩
      rw [h1, h.length, setAll_len e1, r.length]
  | _ => exact hw.elim
end
end MP
end
section
set_option Elab.async false
set_option linter.all false
set_option maxRecDepth 100000
set_option maxHeartbeats 4000000
set_option autoImplicit false
namespace MP
open PySem PySem.Spec PyProof.Rows L2
/-! ### walks -/
/-- the walk J gives the data ds, from F1 on -/
structure Src (K : Frag) (J : L2.It) (F1 : Hp) (ds : List D) : Prop where
  stop : ∀ F H, Same F1 F → Same F H → J.stop ds.length H
  item : ∀ i d, ds[i]? = some d → ∀ F H, Same F1 F → Same F H → J.go i H ∧ ∀ hd x H', HdOk K F H hd → J.yld i H x H' → ∃ F', Ev K hd F H F' H' ∧ Rp K F' x d
theorem src_lst {K : Frag} {a : Addr} {xs : List V} {ds : List D} {F1 : Hp} (h : F1 a = some (.lst xs)) (r : RpAll K F1 xs ds) : Src K (Itl K a) F1 ds where
  stop := fun F H s1 s2 => ⟨xs, .of (s2 _ _ (s1 _ _ h)), by rw [r.length]; exact Nat.le_refl _⟩
  item := fun i d e F H s1 s2 => by
    obtain ⟨v, hv, rv⟩ := r.get' e
    have hl : SqL K H a xs := .of (s2 _ _ (s1 _ _ h))
    refine ⟨⟨xs, v, hl, hv⟩, fun hd x H' ho ⟨e1, e2⟩ => ?_⟩
    have e3 := e2 xs hl
    rw [hv] at e3; cases e3
    subst e1
    exact ⟨F, .refl s2 ho, rv.mono s1⟩
theorem src_tup {K : Frag} {a : Addr} {xs : List V} {ds : List D} {F1 : Hp} (h : SqT K F1 a xs) (r : RpAll K F1 xs ds) : Src K (Itt K a) F1 ds where
  stop := fun F H s1 s2 => ⟨xs, sqT_mono s2 (sqT_mono s1 h), by rw [r.length]; exact Nat.le_refl _⟩
  item := fun i d e F H s1 s2 => by
    obtain ⟨v, hv, rv⟩ := r.get' e
    have hl : SqT K H a xs := sqT_mono s2 (sqT_mono s1 h)
    refine ⟨⟨xs, v, hl, hv⟩, fun hd x H' ho ⟨e1, e2⟩ => ?_⟩
    have e3 := e2 xs hl
    rw [hv] at e3; cases e3
    subst e1
    exact ⟨F, .refl s2 ho, rv.mono s1⟩
theorem rangeD_len (lo : Int) (n : Nat) : (rangeD lo n).length = n := by unfold rangeD; simp
theorem rangeD_get {lo : Int} {n i : Nat} {d : D} (h : (rangeD lo n)[i]? = some d) : i < n ∧ d = .int (lo + i) := by
  unfold rangeD at h
  rw [List.getElem?_map] at h
  rcases Nat.lt_or_ge i n with z | z
  · rw [List.getElem?_range z] at h
    simp at h
    exact ⟨z, h.symm⟩
  · rw [List.getElem?_eq_none (by simpa using z)] at h
    cases h
theorem src_rng {K : Frag} {lo : Int} {n : Nat} {F1 : Hp} : Src K (Itr lo n) F1 (rangeD lo n) where
  stop := fun F H s1 s2 => by rw [rangeD_len]; exact Nat.le_refl n
  item := fun i d e F H s1 s2 => by
    obtain ⟨h1, rfl⟩ := rangeD_get e
    exact ⟨h1, fun hd x H' ho ⟨e1, e2⟩ => by subst e1 e2; exact ⟨F, .refl s2 ho, .int _⟩⟩
theorem zipD_len : ∀ (xs ys : List D), (zipD xs ys).length = min xs.length ys.length
  | [], ys => by simp [zipD]
  | _ :: _, [] => by simp [zipD]
  | x :: xs, y :: ys => by simp [zipD, zipD_len xs ys]
theorem zipD_get : ∀ {xs ys : List D} {i : Nat} {d : D}, (zipD xs ys)[i]? = some d → ∃ x y, xs[i]? = some x ∧ ys[i]? = some y ∧ d = .tup [x, y]
  | [], ys, _, _, h => by simp [zipD] at h
  | _ :: _, [], _, _, h => by simp [zipD] at h
  | x :: xs, y :: ys, 0, d, h => by simp [zipD] at h; exact ⟨x, y, rfl, rfl, h.symm⟩
  | x :: xs, y :: ys, i + 1, d, h => by
    simp only [zipD, List.getElem?_cons_succ] at h ⊢
    exact zipD_get h
theorem newT {K : Frag} {hd : Hd} {F H : Hp} {T : Addr} {vs : List V} {ds : List D} (s : Same F H) (ho : HdOk K F H hd) (n : H T = none) (r : RpAll K F vs ds) : ∃ F', Ev K hd F H F' (upd H T (.tup vs)) ∧ Rp K F' (.ref T) (.tup ds) := by
  have e := Ev.newF (u := .tup vs) s ho n
  exact ⟨_, e, .tup (.of upd_same) (r.mono e.ff)⟩
theorem src_zipL {K : Frag} {a b : Addr} {xs ys : List V} {ds es : List D} {F1 : Hp} (h : SqL K F1 a xs) (h' : SqL K F1 b ys) (r : RpAll K F1 xs ds) (r' : RpAll K F1 ys es) : Src K (Itz K a b) F1 (zipD ds es) where
  stop := fun F H s1 s2 => ⟨xs, ys, sqL_mono s2 (sqL_mono s1 h), sqL_mono s2 (sqL_mono s1 h'), by rw [r.length, r'.length, zipD_len]; omega⟩
  item := fun i d e F H s1 s2 => by
    obtain ⟨x, y, e1, e2, rfl⟩ := zipD_get e
    obtain ⟨v, hv, rv⟩ := r.get' e1
    obtain ⟨u, hu, ru⟩ := r'.get' e2
    have hl := sqL_mono s2 (sqL_mono s1 h)
    have hl' := sqL_mono s2 (sqL_mono s1 h')
    refine ⟨⟨xs, ys, v, u, hl, hl', hv, hu⟩, fun hd z H' ho ⟨T, x1, y1, ez, n, eH, q1, q2⟩ => ?_⟩
    have e3 := q1 xs hl
    rw [hv] at e3; cases e3
    have e4 := q2 ys hl'
    rw [hu] at e4; cases e4
    subst ez eH
    exact newT s2 ho n (.cons (rv.mono s1) (.cons (ru.mono s1) .nil))
theorem src_zipT {K : Frag} {a b : Addr} {xs ys : List V} {ds es : List D} {F1 : Hp} (h : SqT K F1 a xs) (h' : SqT K F1 b ys) (r : RpAll K F1 xs ds) (r' : RpAll K F1 ys es) : Src K (RZ.ItzT K a b) F1 (zipD ds es) where
  stop := fun F H s1 s2 => ⟨xs, ys, sqT_mono s2 (sqT_mono s1 h), sqT_mono s2 (sqT_mono s1 h'), by rw [r.length, r'.length, zipD_len]; omega⟩
  item := fun i d e F H s1 s2 => by
    obtain ⟨x, y, e1, e2, rfl⟩ := zipD_get e
    obtain ⟨v, hv, rv⟩ := r.get' e1
    obtain ⟨u, hu, ru⟩ := r'.get' e2
    have hl := sqT_mono s2 (sqT_mono s1 h)
    have hl' := sqT_mono s2 (sqT_mono s1 h')
    refine ⟨⟨xs, ys, v, u, hl, hl', hv, hu⟩, fun hd z H' ho ⟨T, x1, y1, ez, n, eH, q1, q2⟩ => ?_⟩
    have e3 := q1 xs hl
    rw [hv] at e3; cases e3
    have e4 := q2 ys hl'
    rw [hu] at e4; cases e4
    subst ez eH
    exact newT s2 ho n (.cons (rv.mono s1) (.cons (ru.mono s1) .nil))
theorem enumD_len : ∀ (n : Nat) (xs : List D), (enumD n xs).length = xs.length
  | _, [] => rfl
  | n, x :: xs => by simp [enumD, enumD_len (n + 1) xs]
theorem enumD_get : ∀ {n : Nat} {xs : List D} {i : Nat} {d : D}, (enumD n xs)[i]? = some d → ∃ x, xs[i]? = some x ∧ d = .tup [.int ((n + i : Nat) : Int), x]
  | _, [], _, _, h => by simp [enumD] at h
  | n, x :: xs, 0, d, h => by simp [enumD] at h; exact ⟨x, rfl, h.symm⟩
  | n, x :: xs, i + 1, d, h => by
    simp only [enumD, List.getElem?_cons_succ] at h ⊢
    obtain ⟨y, h1, h2⟩ := enumD_get h
    refine ⟨y, h1, ?_⟩
    rw [h2]
    have : n + 1 + i = n + (i + 1) := by omega
    rw [this]
theorem src_enum {K : Frag} {a : Addr} {xs : List V} {ds : List D} {F1 : Hp} (h : SqL K F1 a xs) (r : RpAll K F1 xs ds) : Src K (Ite K a) F1 (enumD 0 ds) where
  stop := fun F H s1 s2 => ⟨xs, sqL_mono s2 (sqL_mono s1 h), by rw [r.length, enumD_len]; exact Nat.le_refl _⟩
  item := fun i d e F H s1 s2 => by
    obtain ⟨x, e1, rfl⟩ := enumD_get e
    obtain ⟨v, hv, rv⟩ := r.get' e1
    have hl := sqL_mono s2 (sqL_mono s1 h)
    refine ⟨⟨xs, v, hl, hv⟩, fun hd z H' ho ⟨T, x1, ez, n, eH, q1⟩ => ?_⟩
    have e3 := q1 xs hl
    rw [hv] at e3; cases e3
    subst ez eH
    rw [Nat.zero_add]
    exact newT s2 ho n (.cons (.int _) (.cons (rv.mono s1) .nil))
/-- an iterable that is a list or a tuple, as it comes -/
def iSeq (K : Frag) (tl : TE) : TI := fun σ H R => tl σ H fun x H1 => ∃ a, x = .ref a ∧ (((∃ xs, SqL K H1 a xs) ∧ R (Itl K a) H1) ∨ ((∃ xs, SqT K H1 a xs) ∧ R (Itt K a) H1))
section
variable {X : Cx} {W : WX} {tg e e2 : Expr} {es : List Expr} {w : DW} {wl : DAw} {wg : Rho → (Exn → Prop) → (List SV → Prop) → Prop} {pos p : Pos} {T : Tab}
theorem pi_seq {l : Expr} {tl : TE} (hl : PE X l tl) : PI X tg l (iSeq X.K tl) := by
  refine ⟨fun pins s σ H R I h => ?_⟩
  refine thn (hl.run pins s σ H _ I h) fun v s1 ⟨x, H1, I1, r1, a, e, q⟩ => ?_
  subst e
  cases r1
  have fp : ∀ b ∈ [s1.heap.objs.size], FpOk X pins H1 b := fun b hb => by
    have e : b = s1.heap.objs.size := by simpa using hb
    rw [e]
    exact I1.fpOk (Nat.le_refl _) (I1.hok.fresh (Nat.le_refl _))
  rcases q with ⟨⟨xs, hq⟩, q⟩ | ⟨⟨xs, hq⟩, q⟩
  · obtain ⟨its, rv, p, hz⟩ := I1.list hq
    exact wpAny_pyIter_list p.isList ⟨s1.heap.objs.size, [s1.heap.objs.size], _, _, H1, rfl, I1.kept (t' := s1.toks) fun b o e => Heap.get?_push_of_some _ e, turn_list a _, ⟨_, Heap.get?_push_size _ rfl, rfl, rfl⟩, fp, q⟩
  · obtain ⟨its, rv, p, hz⟩ := I1.tuple hq
    exact wpAny_pyIter_tuple (show s1.heap.IsTuple a its.toArray from p) ⟨s1.heap.objs.size, [s1.heap.objs.size], _, _, H1, rfl, I1.kept (t' := s1.toks) fun b o e => Heap.get?_push_of_some _ e, turn_tuple a _, ⟨_, Heap.get?_push_size _ rfl, rfl, rfl⟩, fp, q⟩
abbrev DIw := Rho → (Exn → Prop) → (List D → Prop) → Prop
def dI (K : Frag) (W : WX) (w : DIw) : TI := fun σ H R => ∃ (hd : Hd) (F0 H0 F : Hp) (ρ : Rho) (E : Exn → Prop) (Qd : List D → Prop), StOk K hd F0 H0 F H ρ σ ∧ w ρ E Qd ∧
  (∀ J F' H' ds, Ev K hd F H F' H' → Src K J F' ds → Qd ds → R J H') ∧ XT K W hd F H σ E
theorem di_seq (h : PE X e (dT X.K W w)) : PI X tg e (dI X.K W fun ρ E k => w ρ E fun x => seqW x k) := by
  refine PI.imp (pi_seq h) fun σ H R ⟨hd, F0, H0, F, ρ, E, Qd, S, h, k, x⟩ => ⟨hd, F0, H0, F, ρ, E, _, S, h, fun v F1 H1 r e1 q1 h1 => ?_, x⟩
  match r, h1 with
  | .fz (.lst ds), h1 =>
    have q : Rp X.K F1 v (.lst ds) := q1
    cases q with
    | lst hl r => exact ⟨_, rfl, .inl ⟨⟨_, .of (e1.sub _ _ hl)⟩, k _ F1 H1 ds e1 (src_lst hl r) h1⟩⟩
  | .fz (.tup ds), h1 =>
    have q : Rp X.K F1 v (.tup ds) := q1
    cases q with
    | tup hl r => exact ⟨_, rfl, .inr ⟨⟨_, sqT_mono e1.sub hl⟩, k _ F1 H1 ds e1 (src_tup hl r) h1⟩⟩
  | .ow (.lst ds), h1 =>
    obtain ⟨F2, e2, r2, s2⟩ := Ev.freeze S.sub e1 q1
    cases r2 with
    | lst hl r => exact ⟨_, rfl, .inl ⟨⟨_, .of (e2.sub _ _ hl)⟩, k _ F2 H1 ds e2 (src_lst hl r) h1⟩⟩
theorem rpEs1 {K : Frag} {hd : Hd} {H F' H' : Hp} {ρ : Rho} {σ : L2.St} {vs : List V} {i : Int} (h : RpEs K hd H F' H' ρ σ vs [.fz (.int i)]) : vs = [.int i] := by
  match vs, h with
  | [v], ⟨a, _⟩ =>
    have q : Rp K F' v (.int i) := a
    cases q; rfl
theorem rpEs2 {K : Frag} {hd : Hd} {H F' H' : Hp} {ρ : Rho} {σ : L2.St} {vs : List V} {i j : Int} (h : RpEs K hd H F' H' ρ σ vs [.fz (.int i), .fz (.int j)]) : vs = [.int i, .int j] := by
  match vs, h with
  | [v, u], ⟨a, b, _⟩ =>
    have q : Rp K F' v (.int i) := a
    have q2 : Rp K F' u (.int j) := b
    cases q; cases q2; rfl
theorem RpEs.len {K : Frag} {hd : Hd} {H F' H' : Hp} {ρ : Rho} {σ : L2.St} : ∀ {vs : List V} {rs : List EV}, RpEs K hd H F' H' ρ σ vs rs → vs.length = rs.length
  | [], [], _ => rfl
  | _ :: _, _ :: _, ⟨_, b⟩ => by simp [RpEs.len b]
  | [], _ :: _, h => h.elim
  | _ :: _, [], h => h.elim
theorem di_rng1 (G : KFacts X.K X.mg T) (h0 : glOk T X.env.scope "range" = true) (ha : PE X e (dT X.K W w)) (hn : noStar e = true) : PI X tg (.Call (.Name "range" p) [e] [] pos) (dI X.K W fun ρ E k => w ρ E fun x => rngW [x] k) := by
  obtain ⟨hg, hm⟩ := glOk_of G h0
  refine PI.imp (pi_range1 hg hm (da_cons ha da_nil hn) (star_one hn)) fun σ H R ⟨hd, F0, H0, F, ρ, E, Qd, S, h, k, x⟩ => ⟨hd, F0, H0, F, ρ, E, fun rs => rs.length = 1 ∧ rngW rs Qd, S, ?_, fun vs F1 H1 rs e1 q1 ⟨hl, h1⟩ => ?_, x⟩
  · have h : w ρ E (fun x => rngW [x] Qd) := h
    have e : (fun x => rngW [x] Qd) = fun x => [x].length = 1 ∧ rngW [x] Qd := by funext x; simp
    rw [e] at h
    exact h
  match rs, h1, hl with
  | [.fz (.int j)], ⟨h1, h2, h3⟩, _ => exact ⟨j, rpEs1 q1, h1, h2, k _ F1 H1 _ e1 src_rng h3⟩
theorem di_rng2 {w2 : DW} (G : KFacts X.K X.mg T) (h0 : glOk T X.env.scope "range" = true) (ha : PE X e (dT X.K W w)) (hb : PE X e2 (dT X.K W w2)) (hn : noStar e = true) (hn2 : noStar e2 = true) : PI X tg (.Call (.Name "range" p) [e, e2] [] pos) (dI X.K W fun ρ E k => w ρ E fun x => w2 ρ E fun y => rngW [x, y] k) := by
  obtain ⟨hg, hm⟩ := glOk_of G h0
  refine PI.imp (pi_range2 hg hm (da_cons ha (da_cons hb da_nil hn2) hn) (by rw [star_one hn, star_one hn2]; rfl) (star_one hn2)) fun σ H R ⟨hd, F0, H0, F, ρ, E, Qd, S, h, k, x⟩ => ⟨hd, F0, H0, F, ρ, E, fun rs => rs.length = 2 ∧ rngW rs Qd, S, ?_, fun vs F1 H1 rs e1 q1 ⟨hl, h1⟩ => ?_, x⟩
  · have h : w ρ E (fun x => w2 ρ E fun y => rngW [x, y] Qd) := h
    have e : (fun x => w2 ρ E fun y => rngW [x, y] Qd) = fun x => w2 ρ E fun y => [x, y].length = 2 ∧ rngW [x, y] Qd := by funext x; congr 1; funext y; simp
    rw [e] at h
    exact h
  match rs, h1, hl with
  | [.fz (.int i), .fz (.int j)], ⟨h1, h2⟩, _ => exact ⟨i, j, rpEs2 q1, h1, k _ F1 H1 _ e1 src_rng h2⟩
theorem di_zip {elts : List Expr} {kk : Nat} {tpos : Pos} (G : KFacts X.K X.mg T) (h0 : glOk T X.env.scope "zip" = true) (ha : PA X [e, e2] (dG X.K W wg)) (hn : noStar e = true) (hn2 : noStar e2 = true) :
    PI X (.Tuple elts kk tpos) (.Call (.Name "zip" p) [e, e2] [] pos) (dI X.K W fun ρ E k => wg ρ E fun ss => zipW ss k) := by
  obtain ⟨hg, hm⟩ := glOk_of G h0
  refine PI.imp (RZ.pi_zipA hg hm ha (star_one hn) (by rw [star_one hn2]; rfl)) fun σ H R ⟨hd, F0, H0, F, ρ, E, Qd, S, h, k, x⟩ => ⟨hd, F0, H0, F, ρ, E, _, S, h, fun vs F1 H1 ss e1 q1 h1 => ?_, x⟩
  match ss, vs, q1, h1 with
  | [.fz (.lst xs), .fz (.lst ys)], [v, u], ⟨a, b, _⟩, ⟨hl, h1⟩ =>
    have qa : Rp X.K F1 v (.lst xs) := a
    have qb : Rp X.K F1 u (.lst ys) := b
    cases qa with
    | lst ha r =>
      cases qb with
      | lst hb r2 => exact ⟨_, _, _, _, rfl, .inl ⟨.of (e1.sub _ _ ha), .of (e1.sub _ _ hb), k _ F1 H1 _ e1 (src_zipL (.of ha) (.of hb) r r2) h1⟩⟩
  | [.fz (.tup xs), .fz (.tup ys)], [v, u], ⟨a, b, _⟩, ⟨hl, h1⟩ =>
    have qa : Rp X.K F1 v (.tup xs) := a
    have qb : Rp X.K F1 u (.tup ys) := b
    cases qa with
    | tup ha r =>
      cases qb with
      | tup hb r2 => exact ⟨_, _, _, _, rfl, .inr ⟨sqT_mono e1.sub ha, sqT_mono e1.sub hb, k _ F1 H1 _ e1 (src_zipT ha hb r r2) h1⟩⟩
theorem di_enum {elts : List Expr} {kk : Nat} {tpos : Pos} (G : KFacts X.K X.mg T) (h0 : glOk T X.env.scope "enumerate" = true) (ha : PA X [e] (dG X.K W wg)) (hn : noStar e = true) :
    PI X (.Tuple elts kk tpos) (.Call (.Name "enumerate" p) [e] [] pos) (dI X.K W fun ρ E k => wg ρ E fun ss => enumW ss k) := by
  obtain ⟨hg, hm⟩ := glOk_of G h0
  refine PI.imp (pi_enum hg hm ha (star_one hn)) fun σ H R ⟨hd, F0, H0, F, ρ, E, Qd, S, h, k, x⟩ => ⟨hd, F0, H0, F, ρ, E, _, S, h, fun vs F1 H1 ss e1 q1 h1 => ?_, x⟩
  match ss, vs, q1, h1 with
  | [.fz (.lst xs)], [v], ⟨a, _⟩, h1 =>
    have qa : Rp X.K F1 v (.lst xs) := a
    cases qa with
    | lst ha r => exact ⟨_, _, rfl, .of (e1.sub _ _ ha), k _ F1 H1 _ e1 (src_enum (.of ha) r) h1⟩
/-! ### comprehensions -/
theorem set_none_none {σ : L2.St} {i j : Nat} : (σ.set i none).set j none = (σ.set j none).set i none := by
  by_cases h : i = j
  · rw [h]
  · exact List.set_comm _ _ h
theorem wipe_pull {σ : L2.St} {i : Nat} : ∀ {vs : List Nat}, L2.wipe (σ.set i none) vs = (L2.wipe σ vs).set i none
  | [] => rfl
  | v :: vs => by
    show (L2.wipe (σ.set i none) vs).set v none = _
    rw [wipe_pull (vs := vs), set_none_none]; rfl
theorem wipe_idem {σ : L2.St} : ∀ {vs : List Nat}, L2.wipe (L2.wipe σ vs) vs = L2.wipe σ vs
  | [] => rfl
  | v :: vs => by
    show (L2.wipe ((L2.wipe σ vs).set v none) vs).set v none = _
    rw [wipe_pull, wipe_idem (vs := vs), List.set_set]; rfl
/-- no exception leaves a block -/
def WF : WX := fun _ _ _ _ => False
theorem takesF {X : Cx} : Takes X WF := fun _ _ x => by
  obtain ⟨_, _, _, _, _, _, _, _, _, _, _, _, _, _, _, _, w⟩ := x
  exact w.elim
theorem xtF {K : Frag} {W : WX} {hd : Hd} {F H : Hp} {σ : L2.St} : XT K W hd F H σ (fun _ => False) := fun _ _ _ _ _ _ _ h => h.elim
theorem lc_imp {own : List (Str × Nat)} {tgd : Tg} {wi : DIw} {tt : DTw} {te : DW} (hw : ∀ i ∈ tgNames tgd, i ∈ own.map (·.2)) (σ : L2.St) (H : Hp) (Q : VK)
    (h : dT X.K W (fun ρ _ Q => wi ρ (fun _ => False) fun ds => lcW tgd (fun ρ1 k => tt ρ1 (fun _ => False) k) (fun ρ1 k => te ρ1 (fun _ => False) k) (wipeR ρ (own.map (·.2))) ds [] fun acc => Q (.ow (.lst acc))) σ H Q) :
    tLc (dI X.K W wi) (dTg X.K tgd) (dB X.K WF tt) (dT X.K WF te) (own.map (·.2)) σ H Q := by
  obtain ⟨hd, F0, H0, F, ρ, E, Qd, S, h, k, x⟩ := h
  refine ⟨hd, F0, H0, F, ρ, fun _ => False, _, S, h, fun J F1 H1 ds e1 src h1 => ?_, xtF⟩
  intro D hD
  obtain ⟨en, fD, nD⟩ := Ev.new (u := .lst []) e1.sub e1.hok hD
  refine ⟨fun i m H => m = ds.length - i ∧ i ≤ ds.length ∧ ∃ F vs acc, Ev X.K hd F1 H1 F H ∧ H D = some (.lst vs) ∧ F D = none ∧ RpAll X.K F vs acc ∧ lcW tgd (fun ρ1 k => tt ρ1 (fun _ => False) k) (fun ρ1 k => te ρ1 (fun _ => False) k) (wipeR ρ (own.map (·.2))) (ds.drop i) acc fun acc => Qd (.ow (.lst acc)),
    ⟨_, rfl, Nat.zero_le _, F1, [], [], en, upd_same, fD, .nil, by rw [List.drop_zero]; exact h1⟩, ?_⟩
  rintro i m H2 ⟨rfl, hi, F2, vs, acc, e2, hv, f2, r2, h2⟩
  by_cases hlt : i < ds.length
  · have ei : ds[i]? = some ds[i] := by simp [hlt]
    rw [List.drop_eq_getElem_cons hlt] at h2
    unfold lcW at h2
    obtain ⟨go, it⟩ := src.item i _ ei F2 H2 e2.ff e2.sub
    refine .inr ⟨go, fun H' => (∃ F vs acc, Ev X.K hd F1 H1 F H' ∧ H' D = some (.lst vs) ∧ F D = none ∧ RpAll X.K F vs acc ∧ lcW tgd (fun ρ1 k => tt ρ1 (fun _ => False) k) (fun ρ1 k => te ρ1 (fun _ => False) k) (wipeR ρ (own.map (·.2))) (ds.drop (i + 1)) acc fun acc => Qd (.ow (.lst acc))),
      fun H' q => ⟨ds.length - (i + 1), by omega, rfl, hlt, q⟩, fun v H3 y => ?_⟩
    obtain ⟨F3, e3, rp⟩ := it hd v H3 e2.hok y
    have S3 := ((S.step (e1.trans (e2.trans e3)))).wipe (own.map (·.2))
    refine ⟨hd, F0, H0, F3, _, _, _, S3, rp, h2, fun ρ' σ' S4 h4 hwp => ⟨(hwp _ hw).trans wipe_idem, ?_⟩⟩
    refine ⟨hd, F0, H0, F3, ρ', _, _, S4, h4, fun b F5 H5 e5 h5 => ?_, xtF⟩
    have k3 := e3.keep D _ hv f2 nD
    have k5 := e5.keep D _ k3.1 k3.2 nD
    cases b with
    | false =>
      simp only [Bool.false_eq_true, if_false] at h5 ⊢
      exact ⟨F5, vs, acc, (e2.trans e3).trans e5, k5.1, k5.2, r2.mono (e3.ff.trans e5.ff), h5⟩
    | true =>
      simp only [if_true] at h5 ⊢
      refine ⟨hd, F0, H0, F5, ρ', _, _, S4.step e5, h5, fun u F6 H6 r e6 q6 h6 => ?_, xtF⟩
      obtain ⟨F7, d7, e7, rp7, ⟨hz, h7⟩, _⟩ := put_ev (S4.step e5).sub e6 q6 h6
      have k7 := e7.keep D _ k5.1 k5.2 nD
      refine ⟨vs, k7.1, by rw [r2.length]; exact hz, F7, _, _, (((e2.trans e3).trans e5).trans e7).put hD k7.2 nD, upd_same, k7.2, ((r2.mono ((e3.ff.trans e5.ff).trans e7.ff)).append (.cons rp7 .nil)), h7⟩
  · have e : i = ds.length := by omega
    rw [e, List.drop_length] at h2
    refine .inl ⟨by rw [e]; exact src.stop F2 H2 e2.ff e2.sub, ?_⟩
    exact k _ F2 H2 (.ow (.lst acc)) (e1.trans e2) ⟨D, rfl, e1.fresh S.sub hD, f2, nD, ⟨vs, hv, r2⟩, rfl⟩ h2
theorem de_lc {tgx elt iter : Expr} {ifs : List Expr} {scope : Scope} {own : List (Str × Nat)} {tgd : Tg} {wi : DIw} {tt : DTw} {te : DW} (hc : X.calm = true) (hN : X.N.Nodup) (hi : PI X tgx iter (dI X.K W wi)) (ok : BlkOk X.N X.env.scope scope own)
    (hg : ∀ (s : Shared) (H : Hp) (C : Addr) (cl : List (Str × Addr)) (fp : List Addr), PG (X.blk s H scope (compEnvC scope cl C X.env) fp) tgx (dTg X.K tgd)) (ht : ∀ (s : Shared) (H : Hp) (C : Addr) (cl : List (Str × Addr)) (fp : List Addr), PTs (X.blk s H scope (compEnvC scope cl C X.env) fp) ifs (dB X.K WF tt))
    (he : ∀ (s : Shared) (H : Hp) (C : Addr) (cl : List (Str × Addr)) (fp : List Addr), PE (X.blk s H scope (compEnvC scope cl C X.env) fp) elt (dT X.K WF te)) (hs : ∀ x, foldedSetIterable iter X.env x = pure x) (hw : ∀ i ∈ tgNames tgd, i ∈ own.map (·.2)) :
    PE X (.ListComp elt [⟨tgx, iter, ifs, 0⟩] scope pos) (dT X.K W fun ρ _ Q => wi ρ (fun _ => False) fun ds => lcW tgd (fun ρ1 k => tt ρ1 (fun _ => False) k) (fun ρ1 k => te ρ1 (fun _ => False) k) (wipeR ρ (own.map (·.2))) ds [] fun acc => Q (.ow (.lst acc))) :=
  PE.imp (pe_lc hc hN hi ok hg ht he hs) fun σ H Q h => lc_imp hw σ H Q h
end
end MP
end
section
set_option Elab.async false
set_option linter.all false
set_option maxRecDepth 100000
set_option maxHeartbeats 4000000
set_option autoImplicit false
namespace MP
open PySem PySem.Spec PyProof.Rows L2
/-! ### statements -/
structure SEnd (K : Frag) (W : WX) (hd : Hd) (F0 H0 : Hp) (D : Wd) (Ed : Ends) : Prop where
  nx : ∀ F H ρ σ, StOk K hd F0 H0 F H ρ σ → D.nx ρ → Ed.nx σ H
  bk : ∀ F H ρ σ, StOk K hd F0 H0 F H ρ σ → D.bk ρ → Ed.bk σ H
  ct : ∀ F H ρ σ, StOk K hd F0 H0 F H ρ σ → D.ct ρ → Ed.ct σ H
  rt : ∀ v F H r ρ σ, StOk K hd F0 H0 F H ρ σ → RpN K hd H0 F H v r → D.rt ρ r → Ed.rt v H
  ex : ∀ F H ρ σ, StOk K hd F0 H0 F H ρ σ → XT K W hd F H σ (D.ex ρ)
def dS (K : Frag) (W : WX) (w : Rho → Wd → Prop) : TS := fun Ed σ H => ∃ (hd : Hd) (F0 H0 F : Hp) (ρ : Rho) (D : Wd), StOk K hd F0 H0 F H ρ σ ∧ w ρ D ∧ SEnd K W hd F0 H0 D Ed
section
variable {K : Frag} {W : WX} {hd : Hd} {F0 H0 F H F' H' : Hp} {ρ : Rho} {σ : L2.St} {D : Wd} {Ed : Ends} {v : V} {r : EV}
/-- a slot takes a result -/
theorem StOk.keep (S : StOk K hd F0 H0 F H ρ σ) (e : Ev K hd F H F' H') (q : RpE K hd H F' H' ρ σ v r) (i : Nat) {k : SV → Prop} (h : r.keep k) : ∃ s, StOk K hd F0 H0 F' H' (ρ.set i (some s)) (σ.set i (some v)) ∧ k s := by
  have S1 := S.step e
  cases r with
  | fz d => exact ⟨.fz d, S1.set i q, h⟩
  | ow d =>
    obtain ⟨a, rfl, n, n', nh, o, ct⟩ := q
    refine ⟨.ow none d, S1.own i n' nh (S.ev.fresh S.sub0 n) o ct fun j t d' _ hj hz => ?_, h⟩
    obtain ⟨b, h1, h2, h3, h4, h5⟩ := S.ow j t d' hj
    rw [hz] at h1
    cases h1
    obtain ⟨u, hu, _⟩ := h5.at_
    rw [n] at hu; cases hu
  | pk i d => exact h.elim
  | hnd => exact h.elim
/-- what leaves a body -/
theorem StOk.out (S : StOk K hd F0 H0 F H ρ σ) (e : Ev K hd F H F' H') (q : RpE K hd H F' H' ρ σ v r) {k : EV → Prop} (h : r.out k) : ∃ r', RpN K hd H0 F' H' v r' ∧ k r' := by
  cases r with
  | fz d => exact ⟨.fz d, q, h⟩
  | ow d =>
    obtain ⟨a, rfl, n, n', nh, o, ct⟩ := q
    exact ⟨.ow d, ⟨a, rfl, S.ev.fresh S.sub0 n, n', nh, o, ct⟩, h⟩
  | pk i d =>
    obtain ⟨⟨t, h1⟩, h2⟩ := q
    obtain ⟨a, e1, n, nh, h0, o⟩ := (S.step e).ow i t d h1
    rw [h2] at e1; cases e1
    exact ⟨.ow d, ⟨a, rfl, h0, n, nh, o, h.1⟩, h.2⟩
  | hnd => exact h.elim
/-- an owned thing stays from now on -/
theorem StOk.frz (S : StOk K hd F0 H0 F H ρ σ) {i : Nat} {t : Option Addr} {d : MP.D} (h : ρ[i]? = some (some (SV.ow t d))) (ct : d.cont = true) : ∃ F2, StOk K hd F0 H0 F2 H (ρ.set i (some (.fz d))) σ := by
  obtain ⟨a, h1, n, nh, h0, o⟩ := S.ow i t d h
  obtain ⟨F2, rp, s1, s2, hk, hh, hn⟩ := o.rp n nh S.sub S.ev.hok
  have keep : ∀ b, F b = none → b ≠ a → F2 b = none := fun b nb ne => by
    cases q : F2 b with
    | none => rfl
    | some u =>
      rcases hn ct b (by rw [q]; simp) with z | z
      · exact absurd nb z
      · exact absurd z ne
  have es : σ.set i (some (V.ref a)) = σ := by
    apply List.ext_getElem?
    intro j
    rw [List.getElem?_set]
    split
    · rename_i e
      subst e
      have hl : i < σ.length := by
        rcases Nat.lt_or_ge i σ.length with z | z
        · exact z
        · rw [List.getElem?_eq_none z] at h1; cases h1
      rw [if_pos hl, h1]
    · rfl
  refine ⟨F2, ⟨S.sub0, ⟨S.ev.ff.trans s1, s2, fun b o' q nb nh' => ?_, hk, fun b z => hh b z (S.ev.hand b z)⟩, by rw [List.length_set]; exact S.len, fun j d' hj => ?_, fun j t' d' hj => ?_, fun j hj => ?_, fun j b dx C ds hj => ?_, fun j t' d' hj => ?_, fun j b d' hj => ?_, fun j1 j2 b1 b2 dx dy C1 C2 ds es q1 q2 => ?_, fun j1 j2 t1 t2 d1 d2 b q1 q2 q3 q4 => ?_⟩⟩
  · obtain ⟨k1, k2⟩ := S.ev.keep b o' q nb nh'
    exact ⟨k1, keep b k2 (fun z => by rw [z, h0] at q; cases q)⟩
  · rcases get_set hj with ⟨rfl, hl, e⟩ | ⟨ne, hj⟩
    · cases e
      exact ⟨_, h1, rp⟩
    · obtain ⟨u, k1, k2⟩ := S.fz j d' hj
      exact ⟨u, k1, k2.mono s1⟩
  · rcases get_set hj with ⟨rfl, hl, e⟩ | ⟨ne, hj⟩
    · cases e
    · obtain ⟨b, k1, k2, k3, k4, k5⟩ := S.ow j t' d' hj
      have nb : b ≠ a := fun z => by
        subst z
        exact ne (S.dis i j t t' d d' b h hj h1 k1)
      refine ⟨b, k1, keep b k2 nb, k3, k4, ?_⟩
      cases d' with
      | lst ds => obtain ⟨xs, z1, z2⟩ := k5; exact ⟨xs, z1, z2.mono s1⟩
      | dic ds => obtain ⟨xs, z1, z2⟩ := k5; exact ⟨xs, z1, z2.mono s1⟩
      | obj C ds =>
        obtain ⟨dx, fs, z1, z2, z3, z4⟩ := k5
        refine ⟨dx, fs, z1, z2, keep dx z3 (fun z => ?_), z4.mono s1⟩
        obtain ⟨u, hu, _⟩ := o.at_
        rw [z] at z2
        cases d with
        | lst ds => obtain ⟨ys, y1, y2⟩ := o; rw [z2] at y1; cases y1
        | dic ds => obtain ⟨ys, y1, y2⟩ := o; rw [z2] at y1; cases y1
        | _ => cases ct
      | _ => exact k5.elim
  · rcases get_set hj with ⟨rfl, hl, e⟩ | ⟨ne, hj⟩
    · cases e
    · exact S.hnd j hj
  · rcases get_set hj with ⟨rfl, hl, e⟩ | ⟨ne, hj⟩
    · cases e
    · obtain ⟨k1, k2, k3, k4, k5, fs, z1, z2, z3, z4⟩ := S.me j b dx C ds hj
      have hnot : ∀ u, H a = some u → (∀ c d' e, u ≠ .ins c d' e) ∧ ∀ c, u ≠ .own c := fun u hu => by
        cases d with
        | lst ds => obtain ⟨ys, y1, y2⟩ := o; rw [hu] at y1; cases y1; exact ⟨(fun _ _ _ z => by cases z), fun _ z => by cases z⟩
        | dic ds => obtain ⟨ys, y1, y2⟩ := o; rw [hu] at y1; cases y1; exact ⟨(fun _ _ _ z => by cases z), fun _ z => by cases z⟩
        | _ => cases ct
      have nb : b ≠ a := fun z => by subst z; exact (hnot _ z1).1 _ _ _ rfl
      have nx : dx ≠ a := fun z => by subst z; exact (hnot _ z2).2 _ rfl
      exact ⟨k1, keep b k2 nb, k3, k4, k5, fs, z1, z2, keep dx z3 nx, z4.mono s1⟩
  · rcases get_set hj with ⟨rfl, hl, e⟩ | ⟨ne, hj⟩
    · cases e
    · exact S.ct j t' d' hj
  · rcases get_set hj with ⟨rfl, hl, e⟩ | ⟨ne, hj⟩
    · cases e
    · exact S.tg j b d' hj
  · rcases get_set q1 with ⟨_, _, e1⟩ | ⟨n1, q1⟩
    · cases e1
    rcases get_set q2 with ⟨_, _, e1⟩ | ⟨n2, q2⟩
    · cases e1
    exact S.one j1 j2 b1 b2 dx dy C1 C2 ds es q1 q2
  · rcases get_set q1 with ⟨_, _, e1⟩ | ⟨n1, q1⟩
    · cases e1
    rcases get_set q2 with ⟨_, _, e1⟩ | ⟨n2, q2⟩
    · cases e1
    exact S.dis j1 j2 t1 t2 d1 d2 b q1 q2 q3 q4
/-- a later ground -/
theorem StOk.rebase (S : StOk K hd F0 H0 F H ρ σ) : ∃ H1, StOk K hd F H1 F H ρ σ ∧ (∀ F' H' ρ' σ', StOk K hd F H1 F' H' ρ' σ' → StOk K hd F0 H0 F' H' ρ' σ') ∧ (∀ F' H', Ev K hd F H1 F' H' → Ev K hd F0 H0 F' H') ∧ ∀ a, H1 a = none → H0 a = none := by
  refine ⟨fun a => match F a with | some o => some o | none => H0 a, ?_, ?_, ?_, ?_⟩
  · have s0 : Same F (fun a => match F a with | some o => some o | none => H0 a) := fun a o e => by show (match F a with | some o => some o | none => H0 a) = some o; rw [e]
    refine ⟨s0, ⟨Same.refl _, S.sub, fun b o q nb nh => ?_, S.ev.hok, S.ev.hand⟩, S.len, S.fz, fun i t d h => ?_, S.hnd, fun i a dx C ds h => ?_, S.ct, S.tg, S.one, S.dis⟩
    · have q : (match F b with | some o => some o | none => H0 b) = some o := q
      rw [nb] at q
      have q : H0 b = some o := q
      cases z : F0 b with
      | none => exact S.ev.keep b o q z nh
      | some u => have y := S.ev.ff b u z; rw [nb] at y; cases y
    · obtain ⟨a, h1, h2, h3, h4, h5⟩ := S.ow i t d h
      refine ⟨a, h1, h2, h3, ?_, h5⟩
      show (match F a with | some o => some o | none => H0 a) = none
      rw [h2]; exact h4
    · obtain ⟨h1, h2, h3, h4, h5, fs, z1, z2, z3, z4⟩ := S.me i a dx C ds h
      refine ⟨h1, h2, h3, ?_, ?_, fs, z1, z2, z3, z4⟩
      · show (match F a with | some o => some o | none => H0 a) = none
        rw [h2]; exact h4
      · show (match F dx with | some o => some o | none => H0 dx) = none
        rw [z3]; exact h5
  all_goals
    have evb : ∀ F' H', Ev K hd F (fun a => match F a with | some o => some o | none => H0 a) F' H' → Ev K hd F0 H0 F' H' := fun F' H' e => by
      refine ⟨S.ev.ff.trans e.ff, e.sub, fun b o q nb nh => ?_, e.hok, e.hand⟩
      cases z : F b with
      | none =>
        refine e.keep b o ?_ z nh
        show (match F b with | some o => some o | none => H0 b) = some o
        rw [z]; exact q
      | some u =>
        have y := S.ev.keep b o q nb nh
        rw [z] at y; cases y.2
  · intro F' H' ρ' σ' S'
    have back : ∀ a, (match F a with | some o => some o | none => H0 a) = none → H0 a = none := fun a h4 => by
      cases z : F a with
      | none => rw [z] at h4; exact h4
      | some u => rw [z] at h4; cases h4
    refine ⟨S.sub0, evb _ _ S'.ev, S'.len, S'.fz, fun i t d h => ?_, S'.hnd, fun i a dx C ds h => ?_, S'.ct, S'.tg, S'.one, S'.dis⟩
    · obtain ⟨a, h1, h2, h3, h4, h5⟩ := S'.ow i t d h
      exact ⟨a, h1, h2, h3, back a h4, h5⟩
    · obtain ⟨h1, h2, h3, h4, h5, z⟩ := S'.me i a dx C ds h
      exact ⟨h1, h2, h3, back a h4, back dx h5, z⟩
  · exact evb
  · intro a h
    have h : (match F a with | some o => some o | none => H0 a) = none := h
    cases z : F a with
    | none => rw [z] at h; exact h
    | some u => rw [z] at h; cases h
end
theorem RpN.back {K : Frag} {hd : Hd} {H1 H2 F' H' : Hp} {v : V} {r : EV} (q : RpN K hd H1 F' H' v r) (h : ∀ a, H1 a = none → H2 a = none) : RpN K hd H2 F' H' v r := by
  cases r with
  | fz d => exact q
  | ow d => obtain ⟨a, e1, n1, z⟩ := q; exact ⟨a, e1, h a n1, z⟩
  | pk i d => exact q.elim
  | hnd => exact q.elim
section
variable {X : Cx} {W : WX} {e : Expr} {st : Stmt} {sts : List Stmt} {we : DW} {w w2 : Rho → Wd → Prop} {pos : Pos} {T : Tab}
theorem ds_nil : PSs X [] (dS X.K W fun ρ D => D.nx ρ) := PSs.imp pss_nil fun Ed σ H ⟨hd, F0, H0, F, ρ, D, S, h, k⟩ => k.nx _ _ _ _ S h
theorem ds_cons (h1 : PS X st (dS X.K W w)) (h2 : PSs X sts (dS X.K W w2)) : PSs X (st :: sts) (dS X.K W fun ρ D => w ρ { D with nx := fun ρ' => w2 ρ' D }) :=
  PSs.imp (pss_cons h1 h2) fun Ed σ H ⟨hd, F0, H0, F, ρ, D, S, h, k⟩ => ⟨hd, F0, H0, F, ρ, _, S, h, ⟨fun F' H' ρ' σ' S' h' => ⟨hd, F0, H0, F', ρ', D, S', h', k⟩, k.bk, k.ct, k.rt, k.ex⟩⟩
theorem ds_frz {i : Nat} (h : PSs X sts (dS X.K W w)) : PSs X sts (dS X.K W fun ρ D => (match ρ[i]? with
    | some (some (.ow _ d)) => d.cont = true ∧ w (ρ.set i (some (.fz d))) D
    | some (some (.fz _)) => w ρ D
    | _ => False)) := by
  refine PSs.imp h fun Ed σ H ⟨hd, F0, H0, F, ρ, D, S, h, k⟩ => ?_
  dsimp only at h
  cases e : ρ[i]? with
  | none => rw [e] at h; exact h.elim
  | some o =>
    cases o with
    | none => rw [e] at h; exact h.elim
    | some s =>
      cases s with
      | fz d => rw [e] at h; exact ⟨hd, F0, H0, F, ρ, D, S, h, k⟩
      | ow t d =>
        rw [e] at h
        obtain ⟨F2, S2⟩ := S.frz e h.1
        exact ⟨hd, F0, H0, F2, _, D, S2, h.2, k⟩
      | hnd => rw [e] at h; exact h.elim
      | me _ _ _ _ => rw [e] at h; exact h.elim
theorem ds_skip (h : PS X st tNext) : PS X st (dS X.K W fun ρ D => D.nx ρ) := PS.imp h fun Ed σ H ⟨hd, F0, H0, F, ρ, D, S, h, k⟩ => k.nx _ _ _ _ S h
theorem ds_brk : PS X (.Break pos) (dS X.K W fun ρ D => D.bk ρ) := PS.imp ps_break fun Ed σ H ⟨hd, F0, H0, F, ρ, D, S, h, k⟩ => k.bk _ _ _ _ S h
theorem ds_ct : PS X (.Continue pos) (dS X.K W fun ρ D => D.ct ρ) := PS.imp ps_continue fun Ed σ H ⟨hd, F0, H0, F, ρ, D, S, h, k⟩ => k.ct _ _ _ _ S h
theorem ds_retN : PS X (.Return none pos) (dS X.K W fun ρ D => D.rt ρ (.fz .non)) := PS.imp ps_retN fun Ed σ H ⟨hd, F0, H0, F, ρ, D, S, h, k⟩ => k.rt _ _ _ (.fz .non) ρ σ S .non h
theorem ds_ret (h : PE X e (dT X.K W we)) : PS X (.Return (some e) pos) (dS X.K W fun ρ D => we ρ (D.ex ρ) fun x => x.out (D.rt ρ)) :=
  PS.imp (ps_ret h) fun Ed σ H ⟨hd, F0, H0, F, ρ, D, S, h, k⟩ => ⟨hd, F0, H0, F, ρ, D.ex ρ, _, S, h, fun v F1 H1 r e1 q1 h1 => by
    obtain ⟨r', q2, h2⟩ := S.out e1 q1 h1
    exact k.rt v F1 H1 r' ρ σ (S.step e1) q2 h2, k.ex _ _ _ _ S⟩
theorem ds_expr (h : PE X e (dT X.K W we)) (hs : swapsWith e none pos.line X.env = pure false) : PS X (.Expr e pos) (dS X.K W fun ρ D => we ρ (D.ex ρ) fun _ => D.nx ρ) :=
  PS.imp (ps_expr h hs) fun Ed σ H ⟨hd, F0, H0, F, ρ, D, S, h, k⟩ => ⟨hd, F0, H0, F, ρ, D.ex ρ, _, S, h, fun v F1 H1 r e1 q1 h1 => k.nx _ _ _ _ (S.step e1) h1, k.ex _ _ _ _ S⟩
theorem ds_set {i : Nat} {x : Str} {pos' : Pos} (hN : X.N.Nodup) (hi : X.N[i]? = some x) (hx : Loc X.env.scope x) (hf : X.fn x = true ∨ X.env.scope.names.lookup x = some .local) (h : PE X e (dT X.K W we)) (hs : swapsWith e (some (.Name x pos')) pos.line X.env = pure false) :
    PS X (.Assign [.Name x pos'] e pos) (dS X.K W fun ρ D => we ρ (D.ex ρ) fun x => x.keep fun s => D.nx (ρ.set i (some s))) :=
  PS.imp (ps_set hN hi hx h hs hf) fun Ed σ H ⟨hd, F0, H0, F, ρ, D, S, h, k⟩ => ⟨hd, F0, H0, F, ρ, D.ex ρ, _, S, h, fun v F1 H1 r e1 q1 h1 => by
    obtain ⟨s, S2, h2⟩ := S.keep e1 q1 i h1
    exact k.nx _ _ _ _ S2 h2, k.ex _ _ _ _ S⟩
theorem ds_unp {is : List Nat} {tg : Expr} (hg : PG X tg (dTg X.K (.tp is))) (h : PE X e (dT X.K W we)) (hs : swapsWithSole [tg] e pos.line X.env = pure false) (hw : swappedStores [tg] e X.env = pure none)
    (h1 : (assignEach [tg] X.env).map (·.2) = [assign tg X.env]) :
    PS X (.Assign [tg] e pos) (dS X.K W fun ρ D => we ρ (D.ex ρ) fun x => x ≠ .hnd ∧ (match x with | .fz (.tup ds) => ∃ ρ', setAll is ds ρ = some ρ' ∧ D.nx ρ' | _ => False)) :=
  PS.imp (ps_asg h hg hs hw h1) fun Ed σ H ⟨hd, F0, H0, F, ρ, D, S, h, k⟩ => ⟨hd, F0, H0, F, ρ, D.ex ρ, _, S, h, fun v F1 H1 r e1 q1 ⟨_, h1⟩ => by
    match r, h1 with
    | .fz (.tup ds), ⟨ρ', h2, h3⟩ =>
      exact ⟨hd, F0, H0, F1, ρ, .tup ds, D.nx, S.step e1, q1, ⟨ρ', h2, h3⟩, fun ρ2 σ2 S2 h4 _ => k.nx _ _ _ _ S2 h4⟩, k.ex _ _ _ _ S⟩
theorem ds_par {i j : Nat} {x y : Str} {a b : Expr} {wp : Rho → (Exn → Prop) → (List D → Prop) → Prop} {px py pt : Pos} {kt k2 pt2} (hc : X.calm = true) (hN : X.N.Nodup) (hi : X.N[i]? = some x) (hj : X.N[j]? = some y) (hij : i ≠ j)
    (hx : X.env.scope.names.lookup x = some .local) (hy : X.env.scope.names.lookup y = some .local) (ha : PA X [a, b] (dP X.K W wp))
    (hw : swappedStores [.Tuple [.Name x px, .Name y py] kt pt] (.Tuple [a, b] k2 pt2) X.env = pure (some [x, y]))
    (hs : swapsWithSole [.Tuple [.Name x px, .Name y py] kt pt] (.Tuple [a, b] k2 pt2) pos.line X.env = pure false) :
    PS X (.Assign [.Tuple [.Name x px, .Name y py] kt pt] (.Tuple [a, b] k2 pt2) pos) (dS X.K W fun ρ D => wp ρ (D.ex ρ) fun ds => (match ds with | [d, e] => D.nx ((ρ.set i (some (.fz d))).set j (some (.fz e))) | _ => False)) :=
  PS.imp (ps_par hc hN hi hj hij hx hy ha hw hs) fun Ed σ H ⟨hd, F0, H0, F, ρ, D, S, h, k⟩ => ⟨hd, F0, H0, F, ρ, D.ex ρ, _, S, h, fun vs F1 H1 ds e1 q1 h1 => by
    match ds, vs, q1, h1 with
    | [d, e], [u, v], .cons r1 (.cons r2 .nil), h1 =>
      exact ⟨u, v, rfl, k.nx _ _ _ _ (((S.step e1).set i r1).set j r2) h1⟩, k.ex _ _ _ _ S⟩
theorem ds_ife {c : Expr} {a b : List Stmt} {wt : DTw} {wa wb : Rho → Wd → Prop} (hc : PT X c (dB X.K W wt)) (ha : PSs X a (dS X.K W wa)) (hb : PSs X b (dS X.K W wb)) : PS X (.If c a b pos) (dS X.K W fun ρ D => wt ρ (D.ex ρ) fun c => if c = true then wa ρ D else wb ρ D) :=
  PS.imp (ps_if hc ha hb) fun Ed σ H ⟨hd, F0, H0, F, ρ, D, S, h, k⟩ => ⟨hd, F0, H0, F, ρ, D.ex ρ, _, S, h, fun t F1 H1 e1 h1 => by
    cases t with
    | true => simp only [if_true] at h1 ⊢; exact ⟨hd, F0, H0, F1, ρ, D, S.step e1, h1, k⟩
    | false => simp only [Bool.false_eq_true, if_false] at h1 ⊢; exact ⟨hd, F0, H0, F1, ρ, D, S.step e1, h1, k⟩, k.ex _ _ _ _ S⟩
theorem ds_whil {c : Expr} {b : List Stmt} {wt : DTw} {wb : Rho → Wd → Prop} (hp : PassesOwn (model X.prog X.w) X.A X.env X.xe) (hc : PT X c (dB X.K W wt)) (hb : PSs X b (dS X.K W wb)) : PS X (.While c b [] pos) (dS X.K W fun ρ D => ∃ n, whileW wt wb D n ρ) := by
  refine PS.imp (ps_while hp hc hb) fun Ed σ H ⟨hd, F0, H0, F, ρ, D, S, ⟨n, h⟩, k⟩ => ?_
  refine ⟨fun m σ H => ∃ F ρ, StOk X.K hd F0 H0 F H ρ σ ∧ whileW wt wb D m ρ, ⟨n, F, ρ, S, h⟩, ?_⟩
  rintro m σ H ⟨F, ρ, S, h⟩
  cases m with
  | zero => exact h.elim
  | succ m =>
    refine ⟨hd, F0, H0, F, ρ, D.ex ρ, _, S, h, fun t F1 H1 e1 h1 => ?_, k.ex _ _ _ _ S⟩
    cases t with
    | false => simp only [Bool.false_eq_true, if_false] at h1 ⊢; exact k.nx _ _ _ _ (S.step e1) h1
    | true =>
      simp only [if_true] at h1 ⊢
      refine ⟨fun σ' H' => ∃ F ρ, StOk X.K hd F0 H0 F H' ρ σ' ∧ whileW wt wb D m ρ, fun σ' H' q => ⟨m, Nat.lt_succ_self _, q⟩, ?_⟩
      exact ⟨hd, F0, H0, F1, ρ, _, S.step e1, h1, ⟨fun F' H' ρ' σ' S' h' => ⟨F', ρ', S', h'⟩, k.nx, fun F' H' ρ' σ' S' h' => ⟨F', ρ', S', h'⟩, k.rt, k.ex⟩⟩
theorem ds_forr {tg it : Expr} {b : List Stmt} {tgd : Tg} {wi : DIw} {wb : Rho → Wd → Prop} (hp : PassesOwn (model X.prog X.w) X.A X.env X.xe) (hc : X.calm = true) (hi : PI X tg it (dI X.K W wi)) (hg : PG X tg (dTg X.K tgd)) (hb : PSs X b (dS X.K W wb)) (hs : ∀ x, foldedSetIterable it X.env x = pure x) :
    PS X (.For tg it b [] pos) (dS X.K W fun ρ D => wi ρ (D.ex ρ) fun ds => forW tgd wb D ds ρ) := by
  refine PS.imp (ps_for hp hc hi hg hb hs) fun Ed σ H ⟨hd, F0, H0, F, ρ, D, S, h, k⟩ => ?_
  refine ⟨hd, F0, H0, F, ρ, D.ex ρ, _, S, h, fun J F1 H1 ds e1 src h1 => ?_, k.ex _ _ _ _ S⟩
  obtain ⟨G, S1, b1, b2, b3⟩ := (S.step e1).rebase
  refine ⟨fun i m σ H => m = ds.length - i ∧ i ≤ ds.length ∧ ∃ F ρ, StOk X.K hd F1 G F H ρ σ ∧ forW tgd wb D (ds.drop i) ρ, ⟨_, rfl, Nat.zero_le _, F1, ρ, S1, by rw [List.drop_zero]; exact h1⟩, ?_⟩
  rintro i m σ H2 ⟨rfl, hle, F2, ρ2, S2, h2⟩
  by_cases hlt : i < ds.length
  · have ei : ds[i]? = some ds[i] := by simp [hlt]
    rw [List.drop_eq_getElem_cons hlt] at h2
    unfold forW at h2
    obtain ⟨go, it⟩ := src.item i _ ei F2 H2 S2.ev.ff S2.sub
    refine .inr ⟨go, fun σ' H' => ∃ F ρ, StOk X.K hd F1 G F H' ρ σ' ∧ forW tgd wb D (ds.drop (i + 1)) ρ, fun σ' H' q => ⟨ds.length - (i + 1), by omega, rfl, hlt, q⟩, fun v H3 y => ?_⟩
    obtain ⟨F3, e3, rp⟩ := it hd v H3 S2.ev.hok y
    refine ⟨hd, F1, G, F3, ρ2, _, _, S2.step e3, rp, h2, fun ρ' σ' S4 h4 _ => ?_⟩
    exact ⟨hd, F1, G, F3, ρ', _, S4, h4, ⟨fun F' H' ρ' σ' S' h' => ⟨F', ρ', S', h'⟩, fun F' H' ρ' σ' S' h' => k.nx _ _ _ _ (b1 _ _ _ _ S') h', fun F' H' ρ' σ' S' h' => ⟨F', ρ', S', h'⟩,
      fun v F' H' r ρ' σ' S' q hq => k.rt v F' H' r ρ' σ' (b1 _ _ _ _ S') (q.back b3) hq, fun F' H' ρ' σ' S' => k.ex _ _ _ _ (b1 _ _ _ _ S')⟩⟩
  · have e : i = ds.length := by omega
    rw [e, List.drop_length] at h2
    exact .inl ⟨by rw [e]; exact src.stop F2 H2 S2.ev.ff S2.sub, k.nx _ _ _ _ (b1 _ _ _ _ S2) h2⟩
end
end MP
end
section
set_option Elab.async false
set_option linter.all false
set_option maxRecDepth 100000
set_option maxHeartbeats 4000000
set_option autoImplicit false
namespace MP
open PySem PySem.Spec PyProof.Rows L2
section
variable {K : Frag} {W : WX} {hd : Hd} {F0 H0 F H F' H' : Hp} {ρ : Rho} {σ : L2.St}
theorem set_same {i : Nat} {a : Addr} {σ : L2.St} (h1 : σ[i]? = some (some (V.ref a))) : σ.set i (some (V.ref a)) = σ := by
  apply List.ext_getElem?
  intro j
  rw [List.getElem?_set]
  split
  · rename_i e
    subst e
    have hl : i < σ.length := by
      rcases Nat.lt_or_ge i σ.length with z | z
      · exact z
      · rw [List.getElem?_eq_none z] at h1; cases h1
    rw [if_pos hl, h1]
  · rfl
theorem Own.upd_ne {F H : Hp} {a b : Addr} {u : HO} {d : D} (hm : ∃ o, H a = some o ∧ ∀ x, o ≠ .own x) (ne : b ≠ a) (o : Own K F H b d) : Own K F (upd H a u) b d := by
  obtain ⟨w, hw, hn⟩ := hm
  cases d with
  | lst ds => obtain ⟨xs, z1, z2⟩ := o; exact ⟨xs, by rw [L2.upd_ne ne]; exact z1, z2⟩
  | dic ds => obtain ⟨xs, z1, z2⟩ := o; exact ⟨xs, by rw [L2.upd_ne ne]; exact z1, z2⟩
  | obj C ds =>
    obtain ⟨dx, fs, z1, z2, z3, z4⟩ := o
    have nx : dx ≠ a := fun z => by rw [z, hw] at z2; cases z2; exact hn _ rfl
    exact ⟨dx, fs, by rw [L2.upd_ne ne]; exact z1, by rw [L2.upd_ne nx]; exact z2, z3, z4⟩
  | _ => exact o.elim
theorem Own.mut {F H : Hp} {a : Addr} {d : D} (o : Own K F H a d) : ∃ u, H a = some u ∧ ∀ x, u ≠ .own x := by
  cases d with
  | lst ds => obtain ⟨xs, h, r⟩ := o; exact ⟨_, h, fun x z => by cases z⟩
  | dic ds => obtain ⟨xs, h, r⟩ := o; exact ⟨_, h, fun x z => by cases z⟩
  | obj C ds => obtain ⟨dx, fs, h, hx, nx, r⟩ := o; exact ⟨_, h, fun x z => by cases z⟩
  | _ => exact o.elim
/-- an owned thing, rewritten -/
theorem StOk.write (S : StOk K hd F0 H0 F H ρ σ) {i : Nat} {t : Option Addr} {d d' : MP.D} {a : Addr} {u : HO} (ct' : d'.cont = true) (h : ρ[i]? = some (some (SV.ow t d))) (ha : σ[i]? = some (some (V.ref a))) (o' : Own K F (upd H a u) a d') : StOk K hd F0 H0 F (upd H a u) (ρ.set i (some (.ow t d'))) σ := by
  obtain ⟨a', h1, n, nh, h0, o⟩ := S.ow i t d h
  rw [ha] at h1; cases h1
  have ct := S.ct i t d h
  refine ⟨S.sub0, S.ev.put h0 n nh, by rw [List.length_set]; exact S.len, fun j e hj => ?_, fun j t' e hj => ?_, fun j hj => ?_, fun j b dx C ds hj => ?_, fun j t' e hj => ?_, fun j b e hj => ?_, fun j1 j2 b1 b2 dx dy C1 C2 ds es q1 q2 => ?_, fun j1 j2 t1 t2 d1 d2 b q1 q2 q3 q4 => ?_⟩
  · rcases get_set hj with ⟨_, _, z⟩ | ⟨_, hj⟩
    · cases z
    · exact S.fz j e hj
  · rcases get_set hj with ⟨rfl, _, z⟩ | ⟨ne, hj⟩
    · cases z; exact ⟨a, ha, n, nh, h0, o'⟩
    · obtain ⟨b, k1, k2, k3, k4, k5⟩ := S.ow j t' e hj
      have nb : b ≠ a := fun z => by
        subst z
        exact ne (S.dis i j t t' d e b h hj ha k1)
      exact ⟨b, k1, k2, k3, k4, k5.upd_ne o.mut nb⟩
  · rcases get_set hj with ⟨_, _, z⟩ | ⟨_, hj⟩
    · cases z
    · exact S.hnd j hj
  · rcases get_set hj with ⟨_, _, z⟩ | ⟨_, hj⟩
    · cases z
    · obtain ⟨k1, k2, k3, k4, k5, fs, z1, z2, z3, z4⟩ := S.me j b dx C ds hj
      have nx : dx ≠ a := fun z => by
        subst z
        obtain ⟨w, hw, hn⟩ := o.mut
        rw [hw] at z2; cases z2; exact hn _ rfl
      have nb : b ≠ a := fun z => by
        subst z
        cases d with
        | lst ds => obtain ⟨ys, y1, y2⟩ := o; rw [z1] at y1; cases y1
        | dic ds => obtain ⟨ys, y1, y2⟩ := o; rw [z1] at y1; cases y1
        | _ => cases ct
      exact ⟨k1, k2, k3, k4, k5, fs, by rw [L2.upd_ne nb]; exact z1, by rw [L2.upd_ne nx]; exact z2, z3, z4⟩
  · rcases get_set hj with ⟨rfl, _, z⟩ | ⟨_, hj⟩
    · cases z; exact ct'
    · exact S.ct j t' e hj
  · rcases get_set hj with ⟨rfl, _, z⟩ | ⟨_, hj⟩
    · cases z; exact S.tg i b d h
    · exact S.tg j b e hj
  · rcases get_set q1 with ⟨_, _, e1⟩ | ⟨n1, q1⟩
    · cases e1
    rcases get_set q2 with ⟨_, _, e1⟩ | ⟨n2, q2⟩
    · cases e1
    exact S.one j1 j2 b1 b2 dx dy C1 C2 ds es q1 q2
  · have old : ∀ {j : Nat} {t' : Option Addr} {e : MP.D}, (ρ.set i (some (SV.ow t d')))[j]? = some (some (SV.ow t' e)) → ∃ t'' e', ρ[j]? = some (some (SV.ow t'' e')) := fun {j t' e} q => by
      rcases get_set q with ⟨rfl, _, _⟩ | ⟨_, q⟩
      · exact ⟨t, d, h⟩
      · exact ⟨t', e, q⟩
    obtain ⟨u1, e1, p1⟩ := old q1
    obtain ⟨u2, e2, p2⟩ := old q2
    exact S.dis j1 j2 u1 u2 e1 e2 b p1 p2 q3 q4
/-- the new instance, rewritten -/
theorem StOk.writeMe (S : StOk K hd F0 H0 F H ρ σ) {i : Nat} {C : Str} {ds ds' : List (Str × MP.D)} {a dx : Addr} {gs : List (Str × V)} (h : ρ[i]? = some (some (SV.me a dx C ds))) (r : RpFs K F gs ds') : StOk K hd F0 H0 F (upd H a (.ins (clA K C) dx gs)) (ρ.set i (some (.me a dx C ds'))) σ := by
  obtain ⟨ha, n, nh, h0, hx0, fs, z1, z2, z3, z4⟩ := S.me i a dx C ds h
  have nea : dx ≠ a := fun z => by rw [z, z1] at z2; cases z2
  refine ⟨S.sub0, S.ev.put h0 n nh, by rw [List.length_set]; exact S.len, fun j e hj => ?_, fun j t' e hj => ?_, fun j hj => ?_, fun j b dy C2 ds2 hj => ?_, fun j t' e hj => ?_, fun j b e hj => ?_, fun j1 j2 b1 b2 x1 x2 C1 C2 e1 e2 q1 q2 => ?_, fun j1 j2 t1 t2 d1 d2 b q1 q2 q3 q4 => ?_⟩
  · rcases get_set hj with ⟨_, _, z⟩ | ⟨_, hj⟩
    · cases z
    · exact S.fz j e hj
  · rcases get_set hj with ⟨rfl, _, z⟩ | ⟨ne, hj2⟩
    · cases z
    · obtain ⟨b, k1, k2, k3, k4, k5⟩ := S.ow j t' e hj2
      have hct := S.ct j t' e hj2
      by_cases nb : b = a
      · exfalso
        subst nb
        cases e with
        | lst ds => obtain ⟨ys, y1, y2⟩ := k5; rw [z1] at y1; cases y1
        | dic ds => obtain ⟨ys, y1, y2⟩ := k5; rw [z1] at y1; cases y1
        | _ => cases hct
      · exact ⟨b, k1, k2, k3, k4, k5.upd_ne ⟨_, z1, fun x z => by cases z⟩ nb⟩
  · rcases get_set hj with ⟨_, _, z⟩ | ⟨_, hj⟩
    · cases z
    · exact S.hnd j hj
  · rcases get_set hj with ⟨rfl, _, z⟩ | ⟨ne, hj⟩
    · cases z; exact ⟨ha, n, nh, h0, hx0, gs, upd_same, by rw [L2.upd_ne nea]; exact z2, z3, r⟩
    · exact absurd (S.one i j a b dx dy C C2 ds ds2 h hj) ne
  · rcases get_set hj with ⟨_, _, z⟩ | ⟨_, hj⟩
    · cases z
    · exact S.ct j t' e hj
  · rcases get_set hj with ⟨_, _, z⟩ | ⟨_, hj⟩
    · cases z
    · exact S.tg j b e hj
  · have old : ∀ {j : Nat} {b dy : Addr} {C3 : Str} {e : List (Str × MP.D)}, (ρ.set i (some (SV.me a dx C ds')))[j]? = some (some (SV.me b dy C3 e)) → ∃ b' d4 C4 e', ρ[j]? = some (some (SV.me b' d4 C4 e')) := fun {j b dy C3 e} q => by
      rcases get_set q with ⟨rfl, _, _⟩ | ⟨_, q⟩
      · exact ⟨_, _, _, _, h⟩
      · exact ⟨_, _, _, _, q⟩
    obtain ⟨_, _, _, _, p1⟩ := old q1
    obtain ⟨_, _, _, _, p2⟩ := old q2
    exact S.one j1 j2 _ _ _ _ _ _ _ _ p1 p2
  · rcases get_set q1 with ⟨_, _, z⟩ | ⟨_, q1⟩
    · cases z
    rcases get_set q2 with ⟨_, _, z⟩ | ⟨_, q2⟩
    · cases z
    exact S.dis j1 j2 t1 t2 d1 d2 b q1 q2 q3 q4
theorem RpFs.put {F : Hp} {f : Str} {v : V} {d : D} (r : Rp K F v d) : ∀ {vs : List (Str × V)} {ds : List (Str × D)}, RpFs K F vs ds → RpFs K F (putF f v vs) (putD f d ds)
  | _, _, .nil => .cons r .nil
  | _, _, .cons (k := k) q t => by
    unfold putF putD
    split
    · exact .cons r t
    · exact .cons q (RpFs.put r t)
theorem RpFs.len {F : Hp} : ∀ {vs : List (Str × V)} {ds : List (Str × D)}, RpFs K F vs ds → vs.length = ds.length
  | _, _, .nil => rfl
  | _, _, .cons _ t => by simp [RpFs.len t]
end
section
variable {X : Cx} {W : WX} {e : Expr} {st : Stmt} {sts : List Stmt} {we : DW} {w w2 : Rho → Wd → Prop} {pos : Pos} {T : Tab}
theorem ds_app {i : Nat} {x : Str} {p1 apos cpos : Pos} (hN : X.N[i]? = some x) (hv : Vis X.env.scope x) (hdb : (x == ("__debug__" : Str)) = false) (hcd : (x == ("__classdict__" : Str)) = false) (h : PE X e (dT X.K W we)) (hn : noStar e = true) (hl : (apos.endLine == cpos.line) = true) :
    PS X (.Expr (.Call (.Attribute (.Name x p1) "append" apos) [e] [] cpos) pos) (dS X.K W fun ρ D => (match ρ[i]? with
      | some (some (.ow t (.lst ds))) => we ρ (D.ex ρ) fun x => x.put fun d => ds.length < sizeLine ∧ D.nx (ρ.set i (some (.ow t (.lst (ds ++ [d])))))
      | _ => False)) := by
  refine PS.imp (ps_expr (pe_bm PySem.F.plainAttrs_list PySem.F.slot_list_append PySem.F.type_list_append mt_append (pe_var hN hv hdb hcd) (pa_cons h pa_nil (star_one hn)) rfl (by
    have z := back_all (pos := cpos) (noStars (es := [e]) (env := X.env) (by simp [hn]))
    rw [z]; rfl) hl (star_one hn) rfl) rfl) fun Ed σ H ⟨hd, F0, H0, F, ρ, D, S, h, k⟩ => ?_
  dsimp only at h
  cases e : ρ[i]? with
  | none => rw [e] at h; exact h.elim
  | some o =>
    rw [e] at h
    match o, h with
    | some (.ow t (.lst ds)), h =>
      obtain ⟨a, h1, n, nh, h0, xs, hx, rx⟩ := S.ow i _ _ e
      refine ⟨_, h1, .inl ⟨rfl, _, .of hx⟩, hd, F0, H0, F, ρ, D.ex ρ, _, S, h, fun v F1 H1 r e1 q1 h2 => ?_, k.ex _ _ _ _ S⟩
      obtain ⟨F2, d, e2, rp, ⟨hz, h3⟩, _⟩ := put_ev S.sub e1 q1 h2
      have S2 := S.step e2
      obtain ⟨a', h1', n', nh', h0', ys, hy, ry⟩ := S2.ow i _ _ e
      rw [h1] at h1'; cases h1'
      refine ⟨a, ys, v, rfl, rfl, hy, by rw [ry.length]; exact hz, ?_⟩
      exact k.nx _ _ _ _ (S2.write (d' := .lst (ds ++ [d])) rfl e h1 ⟨_, upd_same, ry.append (.cons rp .nil)⟩) h3
theorem ds_setf {i : Nat} {x f : Str} {p1 apos : Pos} (G : KFacts X.K X.mg T) (hN : X.N[i]? = some x) (hv : Vis X.env.scope x) (hdb : (x == ("__debug__" : Str)) = false) (hcd : (x == ("__classdict__" : Str)) = false) (h : PE X e (dT X.K W we)) (hs : swapsWith e (some (.Attribute (.Name x p1) f apos)) pos.line X.env = pure false) :
    PS X (.Assign [.Attribute (.Name x p1) f apos] e pos) (dS X.K W fun ρ D => (match ρ[i]? with
      | some (some (.me a dx C fs)) => we ρ (D.ex ρ) fun x => x.put fun d => T.fl C f = true ∧ fs.length < 1000 ∧ D.nx (ρ.set i (some (.me a dx C (putD f d fs))))
      | _ => False)) := by
  refine PS.imp (ps_fld (pe_var hN hv hdb hcd) h hs) fun Ed σ H ⟨hd, F0, H0, F, ρ, D, S, h, k⟩ => ?_
  dsimp only at h
  cases e : ρ[i]? with
  | none => rw [e] at h; exact h.elim
  | some o =>
    rw [e] at h
    match o, h with
    | some (.me a dx C fs), h =>
      refine ⟨hd, F0, H0, F, ρ, D.ex ρ, _, S, h, fun v F1 H1 r e1 q1 h2 => ?_, k.ex _ _ _ _ S⟩
      obtain ⟨F2, d, e2, rp, ⟨hf, hz, h3⟩, _⟩ := put_ev S.sub e1 q1 h2
      have S2 := S.step e2
      obtain ⟨h1, n, nh, h0, hx0, gs, hy, hx, nx, ry⟩ := S2.me i _ _ _ _ e
      obtain ⟨c1, c2⟩ := G.fl C f hf
      refine ⟨_, h1, a, _, dx, gs, rfl, hy, c1, c2, by rw [ry.len]; exact hz, ?_⟩
      exact k.nx _ _ _ _ (S2.writeMe e (ry.put rp)) h3
theorem int_seen {K : Frag} {hd : Hd} {F0 H0 F H F' H' : Hp} {ρ : Rho} {σ : L2.St} {v : V} {r : EV} {i : Int} (S : StOk K hd F0 H0 F H ρ σ) (e : Ev K hd F H F' H') (q : RpE K hd H F' H' ρ σ v r) (h : r.d = .int i) : v = .int i := by
  have sn := q.seen (S.step e) (fun z => by rw [z] at h; cases h)
  rw [h] at sn
  exact sn.int
theorem ds_augA {i : Nat} {x : Str} {pos' : Pos} (hN : X.N.Nodup) (hi : X.N[i]? = some x) (hx : Loc X.env.scope x) (hf : X.fn x = true ∨ X.env.scope.names.lookup x = some .local) (h : PE X e (dT X.K W we)) :
    PS X (.AugAssign (.Name x pos') .Add e pos) (dS X.K W fun ρ D => (match ρ[i]? with
      | some (some (.fz x)) => we ρ (D.ex ρ) fun y => intW x fun a => intW y.d fun b => D.nx (ρ.set i (some (.fz (.int (a + b)))))
      | _ => False)) := by
  refine PS.imp (ps_aug hN hi hx h ip_add hf) fun Ed σ H ⟨hd, F0, H0, F, ρ, D, S, h, k⟩ => ?_
  dsimp only at h
  cases e : ρ[i]? with
  | none => rw [e] at h; exact h.elim
  | some o =>
    rw [e] at h
    match o, h with
    | some (.fz d), h =>
      obtain ⟨u, h1, r1⟩ := S.fz i _ e
      refine ⟨u, h1, hd, F0, H0, F, ρ, D.ex ρ, _, S, h, fun v F1 H1 r e1 q1 h2 => ?_, k.ex _ _ _ _ S⟩
      obtain ⟨a, ea, h3⟩ := intW_of h2
      obtain ⟨b, eb, h4⟩ := intW_of h3
      rw [ea] at r1
      cases r1
      exact ⟨a, b, rfl, int_seen S e1 q1 eb, k.nx _ _ _ _ ((S.step e1).set i (.int _)) h4⟩
theorem ds_augS {i : Nat} {x : Str} {pos' : Pos} (hN : X.N.Nodup) (hi : X.N[i]? = some x) (hx : Loc X.env.scope x) (hf : X.fn x = true ∨ X.env.scope.names.lookup x = some .local) (h : PE X e (dT X.K W we)) :
    PS X (.AugAssign (.Name x pos') .Sub e pos) (dS X.K W fun ρ D => (match ρ[i]? with
      | some (some (.fz x)) => we ρ (D.ex ρ) fun y => intW x fun a => intW y.d fun b => D.nx (ρ.set i (some (.fz (.int (a - b)))))
      | _ => False)) := by
  refine PS.imp (ps_aug hN hi hx h ip_sub hf) fun Ed σ H ⟨hd, F0, H0, F, ρ, D, S, h, k⟩ => ?_
  dsimp only at h
  cases e : ρ[i]? with
  | none => rw [e] at h; exact h.elim
  | some o =>
    rw [e] at h
    match o, h with
    | some (.fz d), h =>
      obtain ⟨u, h1, r1⟩ := S.fz i _ e
      refine ⟨u, h1, hd, F0, H0, F, ρ, D.ex ρ, _, S, h, fun v F1 H1 r e1 q1 h2 => ?_, k.ex _ _ _ _ S⟩
      obtain ⟨a, ea, h3⟩ := intW_of h2
      obtain ⟨b, eb, h4⟩ := intW_of h3
      rw [ea] at r1
      cases r1
      exact ⟨a, b, rfl, int_seen S e1 q1 eb, k.nx _ _ _ _ ((S.step e1).set i (.int _)) h4⟩
def ixB : Expr → Bool
  | .Slice .. => false
  | _ => true
theorem asgSub {o i : Expr} {env : Env} (h : ixB i = true) (v : Value) : assign (.Subscript o i pos) env v = (do
      let ov ← holding [v] (eval o env)
      let iv ← holding [v, ov] (eval i env)
      standAt pos
      holding [v, ov, iv] (setItem ov iv v)
      release [v, ov, iv] []) := by
  cases i <;> first | rfl | cases h
theorem ds_seti {i : Nat} {x : Str} {p1 ap : Pos} {j : Expr} {wj : DW} (hN : X.N[i]? = some x) (hv : Vis X.env.scope x) (hdb : (x == ("__debug__" : Str)) = false) (hcd : (x == ("__classdict__" : Str)) = false) (h : PE X e (dT X.K W we)) (hj : PE X j (dT X.K W wj)) (hx : ixB j = true)
    (hs : swapsWithSole [.Subscript (.Name x p1) j ap] e pos.line X.env = pure false) :
    PS X (.Assign [.Subscript (.Name x p1) j ap] e pos) (dS X.K W fun ρ D => (match ρ[i]? with
      | some (some (.ow t (.lst ds))) => we ρ (D.ex ρ) fun x => x.put fun d => wj ρ (D.ex ρ) fun y => intW y.d fun n => ∃ m, ixN ds.length n = some m ∧ D.nx (ρ.set i (some (.ow t (.lst (ds.set m d)))))
      | _ => False)) := by
  refine PS.imp (ps_asg h (pg_sub (pe_var hN hv hdb hcd) hj set_list (asgSub hx)) hs (by unfold swappedStores; cases e <;> rfl) rfl) fun Ed σ H ⟨hd, F0, H0, F, ρ, D, S, h, k⟩ => ?_
  dsimp only at h
  cases e : ρ[i]? with
  | none => rw [e] at h; exact h.elim
  | some o =>
    rw [e] at h
    match o, h with
    | some (.ow t (.lst ds)), h =>
      refine ⟨hd, F0, H0, F, ρ, D.ex ρ, _, S, h, fun v F1 H1 r e1 q1 h2 => ?_, k.ex _ _ _ _ S⟩
      obtain ⟨F2, d, e2, rp, h3, _⟩ := put_ev S.sub e1 q1 h2
      have S2 := S.step e2
      obtain ⟨a, h1, _⟩ := S2.ow i _ _ e
      refine ⟨_, h1, hd, F0, H0, F2, ρ, D.ex ρ, _, S2, h3, fun u F3 H3 r3 e3 q3 h4 => ?_, k.ex _ _ _ _ S2⟩
      obtain ⟨n, en, m, hm, h5⟩ := intW_of h4
      have S3 := S2.step e3
      obtain ⟨a', h1', n', nh', h0', ys, hy, ry⟩ := S3.ow i _ _ e
      rw [h1] at h1'; cases h1'
      refine ⟨a, ys, n, m, rfl, int_seen S2 e3 q3 en, hy, by rw [ry.length]; exact hm, ?_⟩
      exact k.nx _ _ _ _ (S3.write (d' := .lst (ds.set m d)) rfl e h1 ⟨_, upd_same, ry.set (rp.mono e3.ff) m⟩) h5
end
end MP
end
section
set_option Elab.async false
set_option linter.all false
set_option maxRecDepth 100000
set_option maxHeartbeats 4000000
set_option autoImplicit false
namespace MP
open PySem PySem.Spec PyProof.Rows L2
/-! ### raise -/
/-- class j may be raised, with its field's value or with none -/
def ExAv (P : Program) (w : World) (K : Frag) (mg : Str → Option Value) (base : Heap) (T : Tab) (k j : Nat) : Prop :=
  ∀ (X : Cx), X.prog = P → X.w = w → X.K = K → X.mg = mg → X.base = base → X.calm = true → Room k X.A → Gl X (T.cls j) → (T.cls j == ("__debug__" : Str)) = false →
    match T.exc j with
    | none => ∀ p pos, PMk X (.Call (.Name (T.cls j) p) [] [] pos) (fun σ H Q => Q (.ref (clA K (T.cls j))) none H)
    | some f => ∀ e te p pos, PE X e te → noStar e = true → PMk X (.Call (.Name (T.cls j) p) [e] [] pos) (fun σ H Q => te σ H fun v H1 => ∀ d, H1 d = none → Q (.ref (clA K (T.cls j))) (some d) (upd H1 d (.xd [(f, v)])))
section
variable {X : Cx} {W : WX} {e : Expr} {st : Stmt} {sts : List Stmt} {we : DW} {w w2 : Rho → Wd → Prop} {pos p pos2 : Pos} {T : Tab}
theorem ds_rais0 {k j : Nat} {x : Str} (A : ExAv X.prog X.w X.K X.mg X.base T k j) (hc : X.calm = true) (hr : Room k X.A) (hx : x = T.cls j) (hg : Gl X x) (hdb : (x == ("__debug__" : Str)) = false) (tk : Takes X W) :
    PS X (.Raise (some (.Call (.Name x p) [] [] pos2)) none pos) (dS X.K W fun ρ D => T.exc j = none ∧ D.ex ρ (T.cls j, [])) := by
  subst hx
  have A' := A X rfl rfl rfl rfl rfl hc hr hg hdb
  refine ⟨fun pins s σ H Ed I ⟨hd, F0, H0, F, ρ, D, S, ⟨h1, h2⟩, k⟩ => ?_⟩
  rw [h1] at A'
  exact (ps_raise hc tk (A' p pos2)).run pins s σ H Ed I (k.ex _ _ _ _ S (T.cls j) [] none F H (.refl S.sub S.ev.hok) (.inl ⟨rfl, rfl⟩) h2)
theorem ds_rais1 {k j : Nat} {x : Str} (A : ExAv X.prog X.w X.K X.mg X.base T k j) (hc : X.calm = true) (hr : Room k X.A) (hx : x = T.cls j) (hg : Gl X x) (hdb : (x == ("__debug__" : Str)) = false) (tk : Takes X W) (he : PE X e (dT X.K W we)) (hn : noStar e = true) (hf : ∃ f, T.exc j = some f) :
    PS X (.Raise (some (.Call (.Name x p) [e] [] pos2)) none pos) (dS X.K W fun ρ D => we ρ (D.ex ρ) fun x => x.put fun d => ∃ f, T.exc j = some f ∧ D.ex ρ (T.cls j, [(f, d)])) := by
  subst hx
  have A' := A X rfl rfl rfl rfl rfl hc hr hg hdb
  obtain ⟨f, hf⟩ := hf
  rw [hf] at A'
  refine PS.imp (ps_raise hc tk (A' e _ p pos2 he hn)) fun Ed σ H ⟨hd, F0, H0, F, ρ, D, S, h, k⟩ => ⟨hd, F0, H0, F, ρ, D.ex ρ, _, S, h, fun v F1 H1 r e1 q1 h1 d nd => ?_, k.ex _ _ _ _ S⟩
  obtain ⟨F2, dd, e2, rp, ⟨f', hf', hx⟩, _⟩ := put_ev S.sub e1 q1 h1
  rw [hf] at hf'; cases hf'
  obtain ⟨e3, nf, nh⟩ := Ev.new (u := .xd [(f, v)]) e2.sub e2.hok nd
  exact k.ex _ _ _ _ S (T.cls j) _ (some d) F2 _ (e2.trans e3) (.inr ⟨d, _, rfl, upd_same, nf, .cons rp .nil⟩) hx
end
/-! ### try: clauses with a name or none -/
def wGen (K : Frag) (Wout : WX) (D : Ends) : List (Value × Option Nat × (Addr → Value → Option Addr → TS)) → WX
  | [] => Wout
  | (c, sl, ts) :: r => fun cls d σ H => ∃ b, PySem.W.exmOne K cls c = some b ∧ (b = true → ∀ a, H a = none → (match sl with
      | none => ts a cls d D σ H
      | some i => ts a cls d { nx := fun σ' H' => D.nx (σ'.set i none) H', rt := D.rt, bk := fun σ' H' => D.bk (σ'.set i none) H', ct := fun σ' H' => D.ct (σ'.set i none) H' } (σ.set i (some (.ref a))) H)) ∧ (b = false → wGen K Wout D r cls d σ H)
inductive HdG (X : Cx) : List ExceptHandler → List (Value × Option Nat × (Addr → Value → Option Addr → TS)) → Prop
  | nil : HdG X [] []
  | one {x : Str} {c : Value} {ts : Addr → Value → Option Addr → TS} {b₀ : Stmt} {suite : List Stmt} {np pos' : Pos} {hds : List ExceptHandler} {l : List (Value × Option Nat × (Addr → Value → Option Addr → TS))} (hc : Names X x c)
      (hsu : ∀ (a : Addr) (oe : Obj) (cls : Value) (d : Option Addr) (pn : List (Addr × Obj)), Zc cls d oe → (∃ vs, oe.data = .fields vs) → PSs (X.suite a ((a, oe) :: pn)) (b₀ :: suite) (ts a cls d)) (r : HdG X hds l) :
      HdG X (.ExceptHandler (some (.Name x np)) none (b₀ :: suite) pos' :: hds) ((c, none, ts) :: l)
  | named {x n : Str} {i : Nat} {c : Value} {ts : Addr → Value → Option Addr → TS} {b₀ : Stmt} {suite : List Stmt} {np pos' : Pos} {hds : List ExceptHandler} {l : List (Value × Option Nat × (Addr → Value → Option Addr → TS))} (hc : Names X x c) (hi : X.N[i]? = some n) (hln : X.env.kindOf n = some .local)
      (hsu : ∀ (a : Addr) (oe : Obj) (cls : Value) (d : Option Addr) (pn : List (Addr × Obj)), Zc cls d oe → (∃ vs, oe.data = .fields vs) → PSs (X.suite a ((a, oe) :: pn)) (b₀ :: suite) (ts a cls d)) (r : HdG X hds l) :
      HdG X (.ExceptHandler (some (.Name x np)) (some n) (b₀ :: suite) pos' :: hds) ((c, some i, ts) :: l)
section
variable {X : Cx} {body : List Stmt} {h₀ : ExceptHandler} {hds : List ExceptHandler} {l : List (Value × Option Nat × (Addr → Value → Option Addr → TS))} {pos : Pos} {tb : WX → TS} {Wout : WX}
theorem ps_try_gen (hN : X.N.Nodup) (hs : X.stack = X.env :: X.outer) (hf : X.env.frame = some X.env.locals) (tk : Takes X Wout)
    (hb : ∀ (W : WX) (pn : List (Addr × Obj)) (xe : Value → Shared → Prop), Takes (X.tr pn xe) W → PassesOwn (model X.prog X.w) X.A X.env xe → PSs (X.tr pn xe) body (tb W))
    (hh : HdG X (h₀ :: hds) l) : PS X (.Try body (h₀ :: hds) [] [] pos) (fun D σ H => tb (wGen X.K Wout D l) D σ H) := by
  refine ⟨fun pins s σ H D I h => ?_⟩
  have ok := I.ok
  have hfr : X.A.frames = some (X.env :: X.outer) := by rw [ok.frames, hs]
  refine wpAny_Try_except ?_
  refine wpAny_mono ((hb (wGen X.K Wout D l) (X.pn ++ pins) (fun e s₁ => wpAny (model X.prog X.w) X.A (noteFrame e X.env) (fun _ s₂ => wpAny (model X.prog X.w) X.A (setFlight e none) (fun _ s₃ =>
    wpAny (model X.prog X.w) X.A (handleBy e X.env (h₀ :: hds)) (SP X pins D) X.xe s₃) X.xe s₂) X.xe s₁) (fun u s' xx => ?_) PassesOwn.looking).run [] s σ H D (I.toTry _) h) (fun f s1 hsp => ?_) (fun e s1 he => he)
  · obtain ⟨a, B, sI, pins', σ', H', cls, d, rfl, J', nb, up, sky, na, os, ag, w⟩ := xx
    have J : Inv X pins σ' H' sI := J'.ofTry ok
    have sky' : Sky B (X.env :: X.outer) a (Zc cls d) X.env.locals s'.heap := by rw [← hs]; exact sky
    show wpAny (model X.prog X.w) X.A (noteFrame (.ref a) X.env) _ _ _
    refine Sky.land Zc.steady hfr hf sky' fun h3 fl3 up3 => ?_
    have J3 : Inv X pins σ' H' { s' with heap := h3 } := J.landed nb fl3.1 (up.trans up3) os ag
    obtain ⟨oe3, vs3, he3, hz3, hd3⟩ := fl3.there
    have notFr : ∀ {h : Heap} {o : Obj} {vs : Array Value}, h.FunFrames B (X.env :: X.outer) → h.get? a = some o → o.data = .fields vs → a ∉ frs (X.env :: X.outer) := fun {h o vs} ff e dd hm => by
      obtain ⟨_, o', e', hnf⟩ := ff.mem hm
      rw [e] at e'; cases e'
      exact hnf _ dd
    have nfr := notFr fl3.2.2.1 he3 hd3
    have nL : a ≠ X.env.locals := fun z => nfr (List.mem_filterMap.mpr ⟨X.env, List.mem_cons_self, by rw [hf, z]⟩)
    have nF : a ∉ X.fs := fun hm => by
      obtain ⟨e, he, q⟩ := List.mem_filterMap.mp hm
      exact nfr (List.mem_filterMap.mpr ⟨e, List.mem_cons_of_mem _ he, q⟩)
    have S3 := J3.suite he3 hd3 na nL nF
    have LT : PySem.W.Looks (model X.prog X.w) h3 (typeOf (.ref a)) cls := fun A Q E s k q => wpAny_typeOf_ref (k _ _ he3) (by rw [hz3.1]; exact q)
    have test : ∀ {x : Str} {c : Value} {np : Pos} {Q : Value → Shared → Prop} {E : Value → Shared → Prop}, Names X x c → Q c { s' with heap := h3 } → wpAny (model X.prog X.w) (X.A.mark (some (.ref a))) (eval (.Name x np) X.env) Q E { s' with heap := h3 } := fun {x c np Q E} hc q => by
      obtain ⟨hg, hdbg, hm | ⟨hm, hv, hnn⟩⟩ := hc
      · exact ld_glob (X := X.suite a ((a, oe3) :: (X.pn ++ pins))) S3 hg hm q hdbg
      · exact ld_blt (X := X.suite a ((a, oe3) :: (X.pn ++ pins))) S3 hg hm hv q hnn hdbg
    have go : ∀ {hds' : List ExceptHandler} {l' : List (Value × Option Nat × (Addr → Value → Option Addr → TS))}, HdG X hds' l' → wGen X.K Wout D l' cls d σ' H' →
        wpAny (model X.prog X.w) X.A (handleBy (.ref a) X.env hds') (SP X pins D) X.xe { s' with heap := h3 } := by
      intro hds' l' hk
      induction hk with
      | nil =>
        intro w
        refine wpAny_handleBy_nil ?_
        obtain ⟨k1, k2, k3, oe, vs, T, oT, ts', he, hz, hd, h1, hr⟩ := id fl3
        unfold PySem.passOn
        refine wpAny_bind (wpAny_field he hd h1 ?_)
        rw [if_neg (show ¬ ((Value.ref T == Value.none) = true) from by simp)]
        have fin : wpAny (model X.prog X.w) X.A (setFlight (.ref a) X.env.frame) (fun _ s4 => wpAny (model X.prog X.w) X.A (throw (.ref a) : Sem Flow) (SP X pins D) X.xe s4) X.xe { s' with heap := h3 } := by
          rw [hf]
          refine HandSPX.setFlight_upZ fl3 fun h4 hh4 up4 => wpAny_throw (tk _ _ ?_)
          exact ⟨a, B, sI, pins, σ', H', cls, d, rfl, J, nb, (up.trans up3).trans up4, .inr (.inr (by rw [hs]; exact hh4)), na, os, ag, w⟩
        first
          | exact wpAny_bind (wpAny_pure (wpAny_bind fin))
          | exact wpAny_bind fin
      | @one x c ts b₀ suite np pos' hds2 l2 hc hsu r ih =>
        intro w
        obtain ⟨b, hb1, hyes, hno⟩ := w
        refine wpAny_handleBy_cons (codeAny_handlers_test ?_) (by intro q; cases q)
        have LM := PySem.W.exm_one (M := model X.prog X.w) (J3.kIn) LT hb1
        refine test hc (LM.here ?_)
        cases b with
        | true =>
          refine codeAny_handlers_suite ?_
          refine HandSPX.lands_againZ fl3 fun h4 fl4 up4 => ?_
          have J4 : Inv X pins σ' H' { s' with heap := h4 } := J.landed nb fl4.1 ((up.trans up3).trans up4) os ag
          obtain ⟨oe4, vs4, he4, hz4, hd4⟩ := fl4.there
          have S4 := J4.suite he4 hd4 na nL nF
          refine wpAny_mono ((hsu a oe4 cls d (X.pn ++ pins) hz4 ⟨_, hd4⟩).run [] _ _ H' _ S4 (hyes rfl a na)) (fun f s6 hsp => ?_) (fun _ _ z => False.elim z)
          cases f with
          | next =>
            obtain ⟨σ6, H6, S6, q6⟩ := hsp
            exact ⟨_, _, S6.unsuite ok, q6⟩
          | brk =>
            obtain ⟨σ6, H6, S6, q6⟩ := hsp
            exact ⟨_, _, S6.unsuite ok, q6⟩
          | cont =>
            obtain ⟨σ6, H6, S6, q6⟩ := hsp
            exact ⟨_, _, S6.unsuite ok, q6⟩
          | ret u =>
            obtain ⟨v6, σ6, H6, S6, r6, q6⟩ := hsp
            exact ⟨_, _, _, S6.unsuite ok, r6, q6⟩
        | false =>
          show wpAny _ X.A (handleBy (.ref a) X.env hds2) _ _ _
          exact ih (hno rfl)
      | @named x n i c ts b₀ suite np pos' hds2 l2 hc hi hln hsu r ih =>
        intro w
        obtain ⟨b, hb1, hyes, hno⟩ := w
        have hloc : Loc X.env.scope n := .inl hln
        refine wpAny_handleBy_cons (codeAny_handlers_test ?_) (by intro q; cases q)
        have LM := PySem.W.exm_one (M := model X.prog X.w) (J3.kIn) LT hb1
        refine test hc (LM.here ?_)
        cases b with
        | true =>
          refine codeAny_handlers_suite_as ?_
          refine HandSPX.lands_againZ fl3 fun h4 fl4 up4 => ?_
          have J4 : Inv X pins σ' H' { s' with heap := h4 } := J.landed nb fl4.1 ((up.trans up3).trans up4) os ag
          obtain ⟨oe4, vs4, he4, hz4, hd4⟩ := fl4.there
          have S4 := J4.suite he4 hd4 na nL nF
          refine store_ok (X := X.suite a ((a, oe4) :: (X.pn ++ pins))) (v := .ref a) S4 hN hi hloc rfl (fun s5 S5 => ?_) (.inr hln)
          refine wpAny_mono ((hsu a oe4 cls d (X.pn ++ pins) hz4 ⟨_, hd4⟩).run [] s5 _ H' _ S5 (hyes rfl a na)) (fun f s6 hsp => ?_) (fun _ _ z => False.elim z)
          have end_ : ∀ {σ6 : L2.St} {H6 : Hp} {Q : Shared → Prop}, Inv (X.suite a ((a, oe4) :: (X.pn ++ pins))) [] σ6 H6 s6 → (∀ s7, Inv X pins (σ6.set i none) H6 s7 → Q s7) →
              wpAny (model X.prog X.w) X.A (do bindName X.env n .none; unbindBehindTheSuite X.env n pos') (fun _ s7 => Q s7) X.xe s6 := fun {σ6 H6 Q} S6 hq => gone_ok (S6.unsuite ok) hN hi hln hq
          cases f with
          | next =>
            obtain ⟨σ6, H6, S6, q6⟩ := hsp
            exact end_ S6 fun s7 J7 => ⟨_, _, J7, q6⟩
          | brk =>
            obtain ⟨σ6, H6, S6, q6⟩ := hsp
            exact end_ S6 fun s7 J7 => ⟨_, _, J7, q6⟩
          | cont =>
            obtain ⟨σ6, H6, S6, q6⟩ := hsp
            exact end_ S6 fun s7 J7 => ⟨_, _, J7, q6⟩
          | ret u =>
            obtain ⟨v6, σ6, H6, S6, r6, q6⟩ := hsp
            exact end_ S6 fun s7 J7 => ⟨_, _, _, J7, r6, q6⟩
        | false =>
          show wpAny _ X.A (handleBy (.ref a) X.env hds2) _ _ _
          exact ih (hno rfl)
    exact go hh w
  · cases f with
    | next =>
      obtain ⟨σ', H', J', q⟩ := hsp
      exact wpAny_execs_nil ⟨σ', H', J'.ofTry ok, q⟩
    | brk =>
      obtain ⟨σ', H', J', q⟩ := hsp
      exact ⟨σ', H', J'.ofTry ok, q⟩
    | cont =>
      obtain ⟨σ', H', J', q⟩ := hsp
      exact ⟨σ', H', J'.ofTry ok, q⟩
    | ret u =>
      obtain ⟨v, σ', H', J', r, q⟩ := hsp
      exact ⟨v, σ', H', J'.ofTry ok, r, q⟩
end
end MP
end
section
set_option Elab.async false
set_option linter.all false
set_option maxRecDepth 100000
set_option maxHeartbeats 4000000
set_option autoImplicit false
namespace MP
open PySem PySem.Spec PyProof.Rows L2
/-! ### looks at a piece of text -/
def vName : Expr → Option (Str × Pos) | .Name x p => some (x, p) | _ => none
def vConst : Expr → Option (Const × Nat × Pos) | .Constant c j p => some (c, j, p) | _ => none
def vAttr : Expr → Option (Expr × Str × Pos) | .Attribute o f p => some (o, f, p) | _ => none
def vCall : Expr → Option (Expr × List Expr × Pos) | .Call f es [] p => some (f, es, p) | _ => none
def vTuple : Expr → Option (List Expr × Nat × Pos) | .Tuple es k p => some (es, k, p) | _ => none
def vList : Expr → Option (List Expr × Pos) | .List es p => some (es, p) | _ => none
def vSub : Expr → Option (Expr × Expr × Pos) | .Subscript o i p => some (o, i, p) | _ => none
def vSlice : Expr → Option (Option Expr × Option Expr × Pos) | .Slice a b none p => some (a, b, p) | _ => none
def vCmp1 : Expr → Option (Expr × CmpOp × Expr × Pos) | .Compare a [op] [b] p => some (a, op, b, p) | _ => none
def vCmp2 : Expr → Option (Expr × CmpOp × CmpOp × Expr × Expr × Pos) | .Compare a [op, op'] [b, c] p => some (a, op, op', b, c, p) | _ => none
def vBool : Expr → Option (BoolOp × List Expr × Pos) | .BoolOp op es p => some (op, es, p) | _ => none
def vUn : Expr → Option (UnaryOp × Expr × Pos) | .UnaryOp op e p => some (op, e, p) | _ => none
def vBin : Expr → Option (Expr × Operator × Expr × Pos) | .BinOp a op b p => some (a, op, b, p) | _ => none
def vIf : Expr → Option (Expr × Expr × Expr × Pos) | .IfExp c a b p => some (c, a, b, p) | _ => none
def vDict : Expr → Option (List (Option Expr) × List Expr × Pos) | .Dict ks vs p => some (ks, vs, p) | _ => none
def vLC : Expr → Option (Expr × Expr × Expr × List Expr × Scope × Pos) | .ListComp elt [⟨tg, it, ifs, 0⟩] sc p => some (elt, tg, it, ifs, sc, p) | _ => none
section
variable {e : Expr}
theorem vName_eq {x : Str} {p : Pos} (h : vName e = some (x, p)) : e = .Name x p := by cases e <;> first | (cases h; rfl) | cases h
theorem vConst_eq {x : Const} {j : Nat} {p : Pos} (h : vConst e = some (x, j, p)) : e = .Constant x j p := by cases e <;> first | (cases h; rfl) | cases h
theorem vAttr_eq {o : Expr} {x : Str} {p : Pos} (h : vAttr e = some (o, x, p)) : e = .Attribute o x p := by cases e <;> first | (cases h; rfl) | cases h
theorem vCall_eq {o : Expr} {es : List Expr} {p : Pos} (h : vCall e = some (o, es, p)) : e = .Call o es [] p := by
  cases e with
  | Call f es' kw p' => cases kw <;> first | (cases h; rfl) | cases h
  | _ => cases h
theorem vTuple_eq {es : List Expr} {j : Nat} {p : Pos} (h : vTuple e = some (es, j, p)) : e = .Tuple es j p := by cases e <;> first | (cases h; rfl) | cases h
theorem vList_eq {es : List Expr} {p : Pos} (h : vList e = some (es, p)) : e = .List es p := by cases e <;> first | (cases h; rfl) | cases h
theorem vSub_eq {a b : Expr} {p : Pos} (h : vSub e = some (a, b, p)) : e = .Subscript a b p := by cases e <;> first | (cases h; rfl) | cases h
theorem vSlice_eq {a b : Option Expr} {p : Pos} (h : vSlice e = some (a, b, p)) : e = .Slice a b none p := by
  cases e with
  | Slice x y z p' => cases z <;> first | (cases h; rfl) | cases h
  | _ => cases h
theorem vCmp1_eq {a b : Expr} {op : CmpOp} {p : Pos} (h : vCmp1 e = some (a, op, b, p)) : e = .Compare a [op] [b] p := by
  cases e with
  | Compare l ops cs p' =>
    match ops, cs, h with
    | [x], [y], h => cases h; rfl
  | _ => cases h
theorem vCmp2_eq {a b c : Expr} {op op' : CmpOp} {p : Pos} (h : vCmp2 e = some (a, op, op', b, c, p)) : e = .Compare a [op, op'] [b, c] p := by
  cases e with
  | Compare l ops cs p' =>
    match ops, cs, h with
    | [x, x'], [y, y'], h => cases h; rfl
  | _ => cases h
theorem vBool_eq {op : BoolOp} {es : List Expr} {p : Pos} (h : vBool e = some (op, es, p)) : e = .BoolOp op es p := by cases e <;> first | (cases h; rfl) | cases h
theorem vUn_eq {op : UnaryOp} {a : Expr} {p : Pos} (h : vUn e = some (op, a, p)) : e = .UnaryOp op a p := by cases e <;> first | (cases h; rfl) | cases h
theorem vBin_eq {op : Operator} {a b : Expr} {p : Pos} (h : vBin e = some (a, op, b, p)) : e = .BinOp a op b p := by cases e <;> first | (cases h; rfl) | cases h
theorem vIf_eq {c a b : Expr} {p : Pos} (h : vIf e = some (c, a, b, p)) : e = .IfExp c a b p := by cases e <;> first | (cases h; rfl) | cases h
theorem vDict_eq {ks : List (Option Expr)} {vs : List Expr} {p : Pos} (h : vDict e = some (ks, vs, p)) : e = .Dict ks vs p := by cases e <;> first | (cases h; rfl) | cases h
theorem vLC_eq {elt tg it : Expr} {ifs : List Expr} {sc : Scope} {p : Pos} (h : vLC e = some (elt, tg, it, ifs, sc, p)) : e = .ListComp elt [⟨tg, it, ifs, 0⟩] sc p := by
  cases e with
  | ListComp el gs s p' =>
    match gs, h with
    | [⟨t, i, f, 0⟩], h => cases h; rfl
  | _ => cases h
end
/-- a name in slot i, seen -/
def visB (N : List Str) (sc : Scope) (i : Nat) (x : Str) : Bool := N[i]? == some x && (sc.names.lookup x == some .local || sc.names.lookup x == some .cell || sc.names.lookup x == some .free) && !(x == ("__debug__" : Str)) && !(x == ("__classdict__" : Str))
theorem visB_of {N : List Str} {sc : Scope} {i : Nat} {x : Str} (h : visB N sc i x = true) : N[i]? = some x ∧ Vis sc x ∧ (x == ("__debug__" : Str)) = false ∧ (x == ("__classdict__" : Str)) = false := by
  unfold visB at h
  simp only [Bool.and_eq_true, Bool.or_eq_true, beq_iff_eq, Bool.not_eq_true'] at h
  obtain ⟨⟨⟨h1, h2⟩, h3⟩, h4⟩ := h
  exact ⟨h1, (h2.elim (fun z => z.elim .inl fun z => .inr (.inl z)) fun z => .inr (.inr z)), h3, h4⟩
def varB (N : List Str) (sc : Scope) (i : Nat) (e : Expr) : Bool := match vName e with
  | some (x, _) => visB N sc i x
  | none => false
theorem varB_of {N : List Str} {sc : Scope} {i : Nat} {e : Expr} (h : varB N sc i e = true) : ∃ x p, e = .Name x p ∧ N[i]? = some x ∧ Vis sc x ∧ (x == ("__debug__" : Str)) = false ∧ (x == ("__classdict__" : Str)) = false := by
  unfold varB at h
  split at h
  · rename_i x p hv
    exact ⟨x, p, vName_eq hv, visB_of h⟩
  · cases h
def cIntB (i : Int) (e : Expr) : Bool := match vConst e with
  | some (.int j, _, _) => decide (i = j)
  | _ => false
theorem cIntB_of {i : Int} {e : Expr} (h : cIntB i e = true) : ∃ j p, e = .Constant (.int i) j p := by
  unfold cIntB at h
  split at h
  · rename_i x j p hv
    rw [of_decide_eq_true h]
    exact ⟨_, _, vConst_eq hv⟩
  · cases h
def cBlB (i : Bool) (e : Expr) : Bool := match vConst e with
  | some (.bool j, _, _) => decide (i = j)
  | _ => false
theorem cBlB_of {i : Bool} {e : Expr} (h : cBlB i e = true) : ∃ j p, e = .Constant (.bool i) j p := by
  unfold cBlB at h
  split at h
  · rename_i x j p hv
    rw [of_decide_eq_true h]
    exact ⟨_, _, vConst_eq hv⟩
  · cases h
def cStrB (i : Str) (e : Expr) : Bool := match vConst e with
  | some (.str j, _, _) => decide (i = j)
  | _ => false
theorem cStrB_of {i : Str} {e : Expr} (h : cStrB i e = true) : ∃ j p, e = .Constant (.str i) j p := by
  unfold cStrB at h
  split at h
  · rename_i x j p hv
    rw [of_decide_eq_true h]
    exact ⟨_, _, vConst_eq hv⟩
  · cases h
def cNonB (e : Expr) : Bool := match vConst e with
  | some (.none, _, _) => true
  | _ => false
theorem cNonB_of {e : Expr} (h : cNonB e = true) : ∃ j p, e = .Constant .none j p := by
  unfold cNonB at h
  split at h
  · rename_i j p hv
    exact ⟨_, _, vConst_eq hv⟩
  · cases h
/-- no comprehension -/
def plainV : Expr → Bool
  | .ListComp .. | .SetComp .. | .DictComp .. => false
  | _ => true
theorem swaps_of {v : Expr} {t : Option Expr} {l : Nat} {env : Env} (h : plainV v = true) : swapsWith v t l env = pure false := by
  cases v <;> first | rfl | cases h
end MP
end
section
set_option Elab.async false
set_option linter.all false
set_option maxRecDepth 100000
set_option maxHeartbeats 4000000
set_option autoImplicit false
namespace MP
open PySem PySem.Spec PyProof.Rows L2
/-! ### except suites -/
/-- what is known of the caught exception, in slot sl -/
def XcOk (K : Frag) (F H : Hp) (σ : L2.St) (sl : Option Nat) (C : Str) (a : Addr) (cls : Value) (d : Option Addr) (fs : List (Str × D)) : Prop :=
  ∀ i, sl = some i → σ[i]? = some (some (V.ref a)) ∧ cls = .ref (clA K C) ∧ RpX K F H d fs
theorem RpX.step {K : Frag} {hd : Hd} {F H F' H' : Hp} {d : Option Addr} {fs : List (Str × D)} (x : RpX K F H d fs) (e : Ev K hd F H F' H') (ho : HdOk K F H hd) : RpX K F' H' d fs := by
  rcases x with x | ⟨dd, vs, e1, h, n, r⟩
  · exact .inl x
  · have nh : ¬ hd.is dd := fun ⟨c, z⟩ => by
      subst z
      obtain ⟨_, _, _, _, q, _⟩ := ho.at_
      rw [h] at q; cases q
    obtain ⟨k1, k2⟩ := e.keep dd _ h n nh
    exact .inr ⟨dd, vs, e1, k1, k2, r.mono e.ff⟩
def dXe (K : Frag) (sl : Option Nat) (C : Str) (a : Addr) (cls : Value) (d : Option Addr) (w : List (Str × D) → Rho → (D → Prop) → Prop) : TE := fun σ H Q => ∃ (hd : Hd) (F0 H0 F : Hp) (ρ : Rho) (fs : List (Str × D)) (Qd : D → Prop), StOk K hd F0 H0 F H ρ σ ∧ XcOk K F H σ sl C a cls d fs ∧ w fs ρ Qd ∧
  (∀ v F' H' x, Ev K hd F H F' H' → Rp K F' v x → Qd x → Q v H')
def dXes (K : Frag) (sl : Option Nat) (C : Str) (a : Addr) (cls : Value) (d : Option Addr) (w : List (Str × D) → Rho → (List D → Prop) → Prop) : TA := fun σ H Q => ∃ (hd : Hd) (F0 H0 F : Hp) (ρ : Rho) (fs : List (Str × D)) (Qd : List D → Prop), StOk K hd F0 H0 F H ρ σ ∧ XcOk K F H σ sl C a cls d fs ∧ w fs ρ Qd ∧
  (∀ vs F' H' xs, Ev K hd F H F' H' → RpAll K F' vs xs → Qd xs → Q vs H')
def mXf (N : List Str) (sc : Scope) (T : Tab) (sl : Option Nat) (C f : Str) (e : Expr) : Bool := match vAttr e, sl with
  | some (o, g, _), some i => decide (f = g) && varB N sc i o && T.xl C f
  | _, _ => false
theorem mXf_of {N : List Str} {sc : Scope} {T : Tab} {sl : Option Nat} {C f : Str} {e : Expr} (h : mXf N sc T sl C f e = true) : ∃ o p i, e = .Attribute o f p ∧ sl = some i ∧ varB N sc i o = true ∧ T.xl C f = true := by
  unfold mXf at h
  split at h
  · rename_i o g p i hv
    simp only [Bool.and_eq_true, decide_eq_true_eq] at h
    obtain ⟨⟨e, h1⟩, h2⟩ := h
    subst e
    exact ⟨o, p, i, vAttr_eq hv, rfl, h1, h2⟩
  · cases h
mutual
def mXe (N : List Str) (sc : Scope) (T : Tab) (sl : Option Nat) (C : Str) : Xe → Expr → Bool
  | .int i, e => cIntB i e
  | .bl i, e => cBlB i e
  | .str i, e => cStrB i e
  | .non, e => cNonB e
  | .var i, e => varB N sc i e
  | .xf f, e => mXf N sc T sl C f e
  | .tup es, e => (match vTuple e with
    | some (xs, _, _) => mXes N sc T sl C es xs
    | none => false)
def mXes (N : List Str) (sc : Scope) (T : Tab) (sl : Option Nat) (C : Str) : List Xe → List Expr → Bool
  | [], xs => xs.isEmpty
  | e :: es, xs => (match xs with
    | x :: xs => noStar x && mXe N sc T sl C e x && mXes N sc T sl C es xs
    | [] => false)
end
section
variable {X : Cx} {T : Tab} {sl : Option Nat} {C : Str} {a : Addr} {oe : Obj} {cls : Value} {d : Option Addr} {pn : List (Addr × Obj)} {pos : Pos}
theorem xe_c {e : Expr} {v : V} {x : D} (h : PE (X.suite a ((a, oe) :: pn)) e (tC v)) (hr : ∀ F, Rp X.K F v x) : PE (X.suite a ((a, oe) :: pn)) e (dXe X.K sl C a cls d fun _ _ Q => Q x) :=
  PE.imp h fun σ H Q ⟨hd, F0, H0, F, ρ, fs, Qd, S, xc, h, k⟩ => k v F H x (.refl S.sub S.ev.hok) (hr F) h
mutual
theorem xe_ok (G : KFacts X.K X.mg T) (hz : Zc cls d oe) (hf : ∃ vs, oe.data = .fields vs) : ∀ (e : Xe) (x : Expr), mXe X.N X.env.scope T sl C e x = true → PE (X.suite a ((a, oe) :: pn)) x (dXe X.K sl C a cls d fun fs => wX fs e)
  | .int i, x, h => by
    obtain ⟨j, p, rfl⟩ := cIntB_of h
    exact xe_c pe_int fun _ => .int i
  | .bl i, x, h => by
    obtain ⟨j, p, rfl⟩ := cBlB_of h
    exact xe_c pe_bl fun _ => .bl i
  | .str i, x, h => by
    obtain ⟨j, p, rfl⟩ := cStrB_of h
    exact xe_c pe_str fun _ => .str i
  | .non, x, h => by
    obtain ⟨j, p, rfl⟩ := cNonB_of h
    exact xe_c pe_non fun _ => .non
  | .var i, x, h => by
    obtain ⟨y, p, rfl, h1, h2, h3, h4⟩ := varB_of h
    refine PE.imp (pe_var (X := X.suite a ((a, oe) :: pn)) h1 h2 h3 h4) fun σ H Q ⟨hd, F0, H0, F, ρ, fs, Qd, S, xc, h, k⟩ => ?_
    have h : (match ρ[i]? with | some (some (.fz d)) => Qd d | _ => False) := h
    cases e : ρ[i]? with
    | none => rw [e] at h; exact h.elim
    | some o =>
      rw [e] at h
      match o, h with
      | some (.fz x), h =>
        obtain ⟨v, k1, k2⟩ := S.fz i x e
        exact ⟨v, k1, k v F H x (.refl S.sub S.ev.hok) k2 h⟩
  | .xf f, x, h => by
    obtain ⟨o, p, i, rfl, rfl, h1, h2⟩ := mXf_of h
    obtain ⟨y, p2, rfl, v1, v2, v3, v4⟩ := varB_of h1
    obtain ⟨x1, x2⟩ := G.xl C f h2
    refine PE.imp (pe_xf x1 x2 hz hf (pe_var (X := X.suite a ((a, oe) :: pn)) v1 v2 v3 v4) rfl) fun σ H Q ⟨hd, F0, H0, F, ρ, fs, Qd, S, xc, h, k⟩ => ?_
    obtain ⟨k1, k2, k3⟩ := xc i rfl
    obtain ⟨dd, h3, h4⟩ := (show ∃ d, fs.lookup f = some d ∧ Qd d from h)
    rcases k3 with ⟨_, z⟩ | ⟨da, vs, e1, e2, e3, e4⟩
    · rw [z] at h3; cases h3
    · obtain ⟨v, q1, q2⟩ := e4.lookup h3
      exact ⟨_, k1, rfl, k2, da, vs, v, e1, e2, q1, k v F H dd (.refl S.sub S.ev.hok) q2 h4⟩
  | .tup es, x, h => by
    have h : (match vTuple x with
      | some (xs, _, _) => mXes X.N X.env.scope T sl C es xs
      | none => false) = true := h
    cases hv : vTuple x with
    | none => rw [hv] at h; cases h
    | some q =>
      obtain ⟨xs, g, p⟩ := q
      rw [hv] at h
      have ex := vTuple_eq hv
      subst ex
      refine PE.imp (pe_tup (xes_ok G hz hf es xs h)) fun σ H Q ⟨hd, F0, H0, F, ρ, fs, Qd, S, xc, h, k⟩ => ⟨hd, F0, H0, F, ρ, fs, _, S, xc, h, fun vs F1 H1 ds e1 r1 h1 => ?_⟩
      refine ⟨by rw [r1.length]; exact h1.1, fun p n => ?_⟩
      have e2 := Ev.newF (u := .tup vs) e1.sub e1.hok n
      exact k _ _ _ (.tup ds) (e1.trans e2) (.tup (.of upd_same) (r1.mono e2.ff)) h1.2
theorem xes_ok (G : KFacts X.K X.mg T) (hz : Zc cls d oe) (hf : ∃ vs, oe.data = .fields vs) : ∀ (es : List Xe) (xs : List Expr), mXes X.N X.env.scope T sl C es xs = true → PA (X.suite a ((a, oe) :: pn)) xs (dXes X.K sl C a cls d fun fs => wXs fs es)
  | [], xs, h => by
    cases xs with
    | nil => exact PA.imp pa_nil fun σ H Q ⟨hd, F0, H0, F, ρ, fs, Qd, S, xc, h, k⟩ => k [] F H [] (.refl S.sub S.ev.hok) .nil h
    | cons _ _ => cases h
  | e :: es, xs, h => by
    cases xs with
    | nil => cases h
    | cons x xs =>
      have h : (noStar x && mXe X.N X.env.scope T sl C e x && mXes X.N X.env.scope T sl C es xs) = true := h
      simp only [Bool.and_eq_true] at h
      refine PA.imp (pa_cons (xe_ok G hz hf e x h.1.2) (xes_ok G hz hf es xs h.2) (star_one h.1.1)) fun σ H Q ⟨hd, F0, H0, F, ρ, fs, Qd, S, xc, h, k⟩ => ?_
      refine ⟨hd, F0, H0, F, ρ, fs, _, S, xc, h, fun v F1 H1 x e1 r1 h1 => ?_⟩
      refine ⟨hd, F0, H0, F1, ρ, fs, _, S.step e1, fun i hi => ?_, h1, fun vs F2 H2 ds e2 r2 h2 => k _ F2 H2 _ (e1.trans e2) (.cons (r1.mono e2.ff) r2) h2⟩
      obtain ⟨k1, k2, k3⟩ := xc i hi
      exact ⟨k1, k2, k3.step e1 S.ev.hok⟩
end
/-- the end of a suite -/
structure XEnd (K : Frag) (hd : Hd) (F0 H0 : Hp) (D : Wd) (Ed : Ends) : Prop where
  nx : ∀ F H ρ σ, StOk K hd F0 H0 F H ρ σ → D.nx ρ → Ed.nx σ H
  rt : ∀ v F H r ρ σ, StOk K hd F0 H0 F H ρ σ → RpN K hd H0 F H v r → D.rt ρ r → Ed.rt v H
def dXs (K : Frag) (sl : Option Nat) (C : Str) (a : Addr) (cls : Value) (d : Option Addr) (st : Xs) : TS := fun Ed σ H => ∃ (hd : Hd) (F0 H0 F : Hp) (ρ : Rho) (fs : List (Str × D)) (D : Wd), StOk K hd F0 H0 F H ρ σ ∧ XcOk K F H σ sl C a cls d fs ∧ st.w fs D ρ ∧ XEnd K hd F0 H0 D Ed
def mXset (N : List Str) (sc : Scope) (T : Tab) (sl : Option Nat) (C : Str) (i : Nat) (e : Xe) : List Stmt → Bool
  | [.Assign [.Name x _] v _] => N[i]? == some x && sc.names.lookup x == some .local && plainV v && mXe N sc T sl C e v
  | _ => false
def mXret (N : List Str) (sc : Scope) (T : Tab) (sl : Option Nat) (C : Str) (e : Xe) : List Stmt → Bool
  | [.Return (some v) _] => mXe N sc T sl C e v
  | _ => false
def mXpass : List Stmt → Bool
  | [.Pass _] => true
  | _ => false
def mXs (N : List Str) (sc : Scope) (T : Tab) (sl : Option Nat) (C : Str) : Xs → List Stmt → Bool
  | .set i e, sts => mXset N sc T sl C i e sts
  | .ret e, sts => mXret N sc T sl C e sts
  | .skip, sts => mXpass sts
theorem xs_ok (G : KFacts X.K X.mg T) (hN : X.N.Nodup) (hz : Zc cls d oe) (hf : ∃ vs, oe.data = .fields vs) (st : Xs) (sts : List Stmt) (h : mXs X.N X.env.scope T sl C st sts = true) : PSs (X.suite a ((a, oe) :: pn)) sts (dXs X.K sl C a cls d st) := by
  cases st with
  | set i e =>
    have h : mXset X.N X.env.scope T sl C i e sts = true := h
    unfold mXset at h
    split at h
    · simp only [Bool.and_eq_true, beq_iff_eq] at h
      obtain ⟨⟨⟨h1, h2⟩, h0⟩, h3⟩ := h
      refine PSs.imp (pss_one (ps_set (X := X.suite a ((a, oe) :: pn)) hN h1 (.inl h2) (xe_ok G hz hf e _ h3) (swaps_of h0) (.inr h2))) fun Ed σ H ⟨hd, F0, H0, F, ρ, fs, D, S, xc, h, k⟩ => ?_
      exact ⟨hd, F0, H0, F, ρ, fs, _, S, xc, h, fun u F1 H1 y e1 r1 q => k.nx _ _ _ _ ((S.step e1).set i r1) q⟩
    · cases h
  | ret e =>
    have h : mXret X.N X.env.scope T sl C e sts = true := h
    unfold mXret at h
    split at h
    · refine PSs.imp (pss_one (ps_ret (xe_ok G hz hf e _ h))) fun Ed σ H ⟨hd, F0, H0, F, ρ, fs, D, S, xc, h, k⟩ => ?_
      exact ⟨hd, F0, H0, F, ρ, fs, _, S, xc, h, fun u F1 H1 y e1 r1 q => k.rt _ _ _ (.fz y) ρ σ (S.step e1) r1 q⟩
    · cases h
  | skip =>
    have h : mXpass sts = true := h
    unfold mXpass at h
    split at h
    · exact PSs.imp (pss_one ps_pass) fun Ed σ H ⟨hd, F0, H0, F, ρ, fs, D, S, xc, h, k⟩ => k.nx _ _ _ _ S h
    · cases h
end
/-! ### clauses -/
def mHd (N : List Str) (sc : Scope) (T : Tab) (h : Hdl) : ExceptHandler → Bool
  | .ExceptHandler (some (.Name x _)) nm suite _ => x == T.cls h.c && T.hasC h.c && !(x == ("__debug__" : Str)) && sc.names.lookup x == some .globalImplicit && (match h.slot, nm with
    | none, none => true
    | some i, some n => N[i]? == some n && sc.names.lookup n == some .local
    | _, _ => false) && mXs N sc T h.slot (T.cls h.c) h.st suite
  | _ => false
def mHds (N : List Str) (sc : Scope) (T : Tab) : List Hdl → List ExceptHandler → Bool
  | [], [] => true
  | h :: hs, e :: es => mHd N sc T h e && mHds N sc T hs es
  | _, _ => false
/-- what the clauses read -/
def hdL (K : Frag) (T : Tab) (hs : List Hdl) : List (Value × Option Nat × (Addr → Value → Option Addr → TS)) := hs.map fun h => (.ref (clA K (T.cls h.c)), h.slot, fun a cls d => dXs K h.slot (T.cls h.c) a cls d h.st)
section
variable {X : Cx} {T : Tab}
theorem mXs_cons {N : List Str} {sc : Scope} {sl : Option Nat} {C : Str} {st : Xs} : ∀ {sts : List Stmt}, mXs N sc T sl C st sts = true → ∃ b r, sts = b :: r
  | [], h => by cases st <;> cases h
  | b :: r, _ => ⟨b, r, rfl⟩
theorem hdg_ok (G : KFacts X.K X.mg T) (hN : X.N.Nodup) : ∀ (hs : List Hdl) (es : List ExceptHandler), mHds X.N X.env.scope T hs es = true → HdG X es (hdL X.K T hs)
  | [], [], _ => .nil
  | h :: hs, .ExceptHandler tp nm suite pp :: es, hh => by
    unfold mHds at hh
    simp only [Bool.and_eq_true] at hh
    obtain ⟨h1, h2⟩ := hh
    have ih := hdg_ok G hN hs es h2
    match tp, h1 with
    | some (.Name x np), h1 =>
      unfold mHd at h1
      simp only [Bool.and_eq_true, beq_iff_eq, Bool.not_eq_true'] at h1
      obtain ⟨⟨⟨⟨⟨e1, e2⟩, e3⟩, e4⟩, e5⟩, e6⟩ := h1
      have hc : Names X x (.ref (clA X.K (T.cls h.c))) := ⟨e4, e3, .inl (by rw [e1]; exact G.cls _ e2)⟩
      obtain ⟨b, r, rfl⟩ := mXs_cons e6
      obtain ⟨c, slot, st⟩ := h
      match slot, nm, e5, e6 with
      | none, none, _, e6 => exact .one hc (fun a oe cls d pn hz hf => xs_ok G hN hz hf st _ e6) ih
      | some i, some n, e5, e6 =>
        simp only [Bool.and_eq_true, beq_iff_eq] at e5
        exact .named hc e5.1 e5.2 (fun a oe cls d pn hz hf => xs_ok G hN hz hf st _ e6) ih
  | [], _ :: _, h => by cases h
  | _ :: _, [], h => by cases h
theorem StOk.junk {K : Frag} {hd : Hd} {F0 H0 F H : Hp} {ρ : Rho} {σ : L2.St} (S : StOk K hd F0 H0 F H ρ σ) (i : Nat) (x : V) : StOk K hd F0 H0 F H (ρ.set i none) (σ.set i (some x)) where
  sub0 := S.sub0
  ev := S.ev
  len := by rw [List.length_set, List.length_set]; exact S.len
  fz := fun j d' h => by
    rcases get_set h with ⟨rfl, hl, e⟩ | ⟨ne, h⟩
    · cases e
    · obtain ⟨u, h1, r1⟩ := S.fz j d' h
      exact ⟨u, by rw [List.getElem?_set_ne ne]; exact h1, r1⟩
  ow := fun j t d' h => by
    rcases get_set h with ⟨rfl, hl, e⟩ | ⟨ne, h⟩
    · cases e
    · obtain ⟨u, h1, r1⟩ := S.ow j t d' h
      exact ⟨u, by rw [List.getElem?_set_ne ne]; exact h1, r1⟩
  hnd := fun j h => by
    rcases get_set h with ⟨rfl, hl, e⟩ | ⟨ne, h⟩
    · cases e
    · obtain ⟨u, c, h1, r1⟩ := S.hnd j h
      exact ⟨u, c, h1, by rw [List.getElem?_set_ne ne]; exact r1⟩
  me := fun j a' dx' C ds h => by
    rcases get_set h with ⟨rfl, hl, e⟩ | ⟨ne, h⟩
    · cases e
    · obtain ⟨h1, r1⟩ := S.me j a' dx' C ds h
      exact ⟨by rw [List.getElem?_set_ne ne]; exact h1, r1⟩
  ct := fun j t d' h => by
    rcases get_set h with ⟨rfl, hl, e⟩ | ⟨ne, h⟩
    · cases e
    · exact S.ct j t d' h
  tg := fun j b d' h => by
    rcases get_set h with ⟨rfl, hl, e⟩ | ⟨ne, h⟩
    · cases e
    · rw [List.getElem?_set_ne ne]; exact S.tg j b d' h
  one := fun j1 j2 a' b dx dy C C' ds es h1 h2 => by
    rcases get_set h1 with ⟨_, _, e1⟩ | ⟨n1, h1⟩
    · cases e1
    rcases get_set h2 with ⟨_, _, e1⟩ | ⟨n2, h2⟩
    · cases e1
    exact S.one j1 j2 a' b dx dy C C' ds es h1 h2
  dis := fun j1 j2 t u d e a h1 h2 h3 h4 => by
    rcases get_set h1 with ⟨_, _, e1⟩ | ⟨n1, h1⟩
    · cases e1
    rcases get_set h2 with ⟨_, _, e1⟩ | ⟨n2, h2⟩
    · cases e1
    rw [List.getElem?_set_ne n1] at h3
    rw [List.getElem?_set_ne n2] at h4
    exact S.dis j1 j2 t u d e a h1 h2 h3 h4
theorem xt_hand {W : WX} {hd : Hd} {F0 H0 F H : Hp} {ρ : Rho} {σ : L2.St} {D : Wd} {Ed : Ends} (G : KFacts X.K X.mg T) (k : SEnd X.K W hd F0 H0 D Ed) (S : StOk X.K hd F0 H0 F H ρ σ) : ∀ (hs : List Hdl), XT X.K (wGen X.K W Ed (hdL X.K T hs)) hd F H σ (fun x => handW T hs ρ x D)
  | [] => k.ex _ _ _ _ S
  | h :: hs => fun C fs d F' H' e r hw => by
    obtain ⟨hx, hw⟩ := hw
    refine ⟨_, G.exm C h.c hx, fun hb a na => ?_, fun hb => ?_⟩
    · have S1 := S.step e
      have hw : (match h.slot with
        | none => h.st.w [] D ρ
        | some i => i < ρ.length ∧ C = T.cls h.c ∧ h.st.w fs { D with nx := fun ρ' => D.nx (ρ'.set i none) } (ρ.set i none)) := by
        simp only [hb, if_true] at hw
        exact hw
      obtain ⟨c, slot, st⟩ := h
      cases slot with
      | none =>
        exact ⟨hd, F0, H0, F', ρ, [], D, S1, (fun i z => by cases z), hw, k.nx, k.rt⟩
      | some i =>
        obtain ⟨hlt, eC, hw⟩ := hw
        rw [S.len] at hlt
        refine ⟨hd, F0, H0, F', _, fs, _, S1.junk i (.ref a), fun j z => ?_, hw, fun F2 H2 ρ2 σ2 S2 q => k.nx _ _ _ _ (S2.clear i) q, fun v F2 H2 r2 ρ2 σ2 S2 q2 z => k.rt v F2 H2 r2 ρ2 σ2 S2 q2 z⟩
        cases z
        exact ⟨List.getElem?_set_self hlt, by show Value.ref (clA X.K C) = _; rw [eC], r⟩
    · have hw : handW T hs ρ (C, fs) D := by
        simp only [hb, Bool.false_eq_true, if_false] at hw
        exact hw
      exact xt_hand G k S hs C fs d F' H' e r hw
end
end MP
end
section
set_option Elab.async false
set_option linter.all false
set_option maxRecDepth 100000
set_option maxHeartbeats 4000000
namespace MP
open PySem PySem.Spec PyProof.Rows
/-! ### a built-in thing against an own instance: it declines -/
section
variable {o : Obj} {l : Addr}
theorem int_eq_dec (b : Int) (u : Tok) (C dx : Addr) : Meets (Builtin.«int.__eq__» ⟨[.int b u, .ref l], []⟩) (fun _ R s => s.heap.get? l = some (PySem.W.instObj C dx) ∧ R (.ok (.ret .notImplemented)) s) :=
  .of_wp fun prog w A R s h => by
    obtain ⟨hp, g, d, tk, os⟩ := s
    obtain ⟨hl, h⟩ := h
    unfold PySem.W.instObj at hl
    wp_walk using AutoSeq1.wpAny_loadPart' hl, wpAny_load hl
    exact ⟨_, rfl, h⟩
theorem bool_eq_dec (b : Bool) (C dx : Addr) : Meets (Builtin.«int.__eq__» ⟨[.bool b, .ref l], []⟩) (fun _ R s => s.heap.get? l = some (PySem.W.instObj C dx) ∧ R (.ok (.ret .notImplemented)) s) :=
  .of_wp fun prog w A R s h => by
    obtain ⟨hp, g, d, tk, os⟩ := s
    obtain ⟨hl, h⟩ := h
    unfold PySem.W.instObj at hl
    wp_walk using AutoSeq1.wpAny_loadPart' hl, wpAny_load hl
    exact ⟨_, rfl, h⟩
theorem str_eq_dec (b : Str) (u : Tok) (C dx : Addr) : Meets (Builtin.«str.__eq__» ⟨[.str b u, .ref l], []⟩) (fun _ R s => s.heap.get? l = some (PySem.W.instObj C dx) ∧ R (.ok (.ret .notImplemented)) s) :=
  .of_wp fun prog w A R s h => by
    obtain ⟨hp, g, d, tk, os⟩ := s
    obtain ⟨hl, h⟩ := h
    unfold PySem.W.instObj at hl
    wp_walk using AutoSeq1.wpAny_loadPart' hl, wpAny_load hl
    exact ⟨_, rfl, h⟩
theorem int_ne_dec (b : Int) (u : Tok) (C dx : Addr) : Meets (Builtin.«int.__ne__» ⟨[.int b u, .ref l], []⟩) (fun _ R s => s.heap.get? l = some (PySem.W.instObj C dx) ∧ R (.ok (.ret .notImplemented)) s) :=
  .of_wp fun prog w A R s h => by
    obtain ⟨hp, g, d, tk, os⟩ := s
    obtain ⟨hl, h⟩ := h
    unfold PySem.W.instObj at hl
    wp_walk using AutoSeq1.wpAny_loadPart' hl, wpAny_load hl
    exact ⟨_, rfl, h⟩
theorem bool_ne_dec (b : Bool) (C dx : Addr) : Meets (Builtin.«int.__ne__» ⟨[.bool b, .ref l], []⟩) (fun _ R s => s.heap.get? l = some (PySem.W.instObj C dx) ∧ R (.ok (.ret .notImplemented)) s) :=
  .of_wp fun prog w A R s h => by
    obtain ⟨hp, g, d, tk, os⟩ := s
    obtain ⟨hl, h⟩ := h
    unfold PySem.W.instObj at hl
    wp_walk using AutoSeq1.wpAny_loadPart' hl, wpAny_load hl
    exact ⟨_, rfl, h⟩
theorem str_ne_dec (b : Str) (u : Tok) (C dx : Addr) : Meets (Builtin.«str.__ne__» ⟨[.str b u, .ref l], []⟩) (fun _ R s => s.heap.get? l = some (PySem.W.instObj C dx) ∧ R (.ok (.ret .notImplemented)) s) :=
  .of_wp fun prog w A R s h => by
    obtain ⟨hp, g, d, tk, os⟩ := s
    obtain ⟨hl, h⟩ := h
    unfold PySem.W.instObj at hl
    wp_walk using AutoSeq1.wpAny_loadPart' hl, wpAny_load hl
    exact ⟨_, rfl, h⟩
theorem non_eq_dec  (C dx : Addr) : Meets (Builtin.«NoneType.__eq__» ⟨[.none, .ref l], []⟩) (fun _ R s => s.heap.get? l = some (PySem.W.instObj C dx) ∧ R (.ok (.ret .notImplemented)) s) :=
  .of_wp fun prog w A R s h => by
    obtain ⟨hp, g, d, tk, os⟩ := s
    obtain ⟨hl, h⟩ := h
    unfold PySem.W.instObj at hl
    wp_walk using AutoSeq1.wpAny_loadPart' hl, wpAny_load hl
    exact ⟨_, rfl, h⟩
theorem non_ne_dec  (C dx : Addr) : Meets (Builtin.«NoneType.__ne__» ⟨[.none, .ref l], []⟩) (fun _ R s => s.heap.get? l = some (PySem.W.instObj C dx) ∧ R (.ok (.ret .notImplemented)) s) :=
  .of_wp fun prog w A R s h => by
    obtain ⟨hp, g, d, tk, os⟩ := s
    obtain ⟨hl, h⟩ := h
    unfold PySem.W.instObj at hl
    wp_walk using AutoSeq1.wpAny_loadPart' hl, wpAny_load hl
    exact ⟨_, rfl, h⟩
theorem list_eq_dec {K : Frag} (p : Addr) (items : Array Value) (n : Nat) (dd : Option Addr) (sl : Array (Option Value)) (C dx : Addr) (hK : PySem.W.subIn K (.ref C) (.type "list") = some false) : Meets (Builtin.«list.__eq__» ⟨[.ref p, .ref l], []⟩) (fun _ R s => K.In s.heap ∧ s.heap.get? p = some { cls := .type "list", dict := dd, data := .seq items n, slots := sl } ∧ s.heap.get? l = some (PySem.W.instObj C dx) ∧ R (.ok (.ret .notImplemented)) s) :=
  .of_wp fun prog w A R s h => by
    obtain ⟨hp, g, d, tk, os⟩ := s
    obtain ⟨X, hl0, hl, h⟩ := h
    unfold PySem.W.instObj at hl
    wp_walk using AutoSeq1.wpAny_loadPart' hl0, wpAny_load hl
    refine (PySem.W.looks_subIn X hK).at ?_
    wp_walk
    exact ⟨_, rfl, h⟩
theorem list_ne_dec {K : Frag} (p : Addr) (items : Array Value) (n : Nat) (dd : Option Addr) (sl : Array (Option Value)) (C dx : Addr) (hK : PySem.W.subIn K (.ref C) (.type "list") = some false) : Meets (Builtin.«list.__ne__» ⟨[.ref p, .ref l], []⟩) (fun _ R s => K.In s.heap ∧ s.heap.get? p = some { cls := .type "list", dict := dd, data := .seq items n, slots := sl } ∧ s.heap.get? l = some (PySem.W.instObj C dx) ∧ R (.ok (.ret .notImplemented)) s) :=
  .of_wp fun prog w A R s h => by
    obtain ⟨hp, g, d, tk, os⟩ := s
    obtain ⟨X, hl0, hl, h⟩ := h
    unfold PySem.W.instObj at hl
    wp_walk using AutoSeq1.wpAny_loadPart' hl0, wpAny_load hl
    refine (PySem.W.looks_subIn X hK).at ?_
    wp_walk
    exact ⟨_, rfl, h⟩
theorem tuple_eq_dec {K : Frag} (p : Addr) (items : Array Value) (n : Nat) (dd : Option Addr) (sl : Array (Option Value)) (C dx : Addr) (hK : PySem.W.subIn K (.ref C) (.type "tuple") = some false) : Meets (Builtin.«tuple.__eq__» ⟨[.ref p, .ref l], []⟩) (fun _ R s => K.In s.heap ∧ s.heap.get? p = some { cls := .type "tuple", dict := dd, data := .seq items n, slots := sl } ∧ s.heap.get? l = some (PySem.W.instObj C dx) ∧ R (.ok (.ret .notImplemented)) s) :=
  .of_wp fun prog w A R s h => by
    obtain ⟨hp, g, d, tk, os⟩ := s
    obtain ⟨X, hl0, hl, h⟩ := h
    unfold PySem.W.instObj at hl
    wp_walk using AutoSeq1.wpAny_loadPart' hl0, wpAny_load hl
    refine (PySem.W.looks_subIn X hK).at ?_
    wp_walk
    exact ⟨_, rfl, h⟩
theorem tuple_ne_dec {K : Frag} (p : Addr) (items : Array Value) (n : Nat) (dd : Option Addr) (sl : Array (Option Value)) (C dx : Addr) (hK : PySem.W.subIn K (.ref C) (.type "tuple") = some false) : Meets (Builtin.«tuple.__ne__» ⟨[.ref p, .ref l], []⟩) (fun _ R s => K.In s.heap ∧ s.heap.get? p = some { cls := .type "tuple", dict := dd, data := .seq items n, slots := sl } ∧ s.heap.get? l = some (PySem.W.instObj C dx) ∧ R (.ok (.ret .notImplemented)) s) :=
  .of_wp fun prog w A R s h => by
    obtain ⟨hp, g, d, tk, os⟩ := s
    obtain ⟨X, hl0, hl, h⟩ := h
    unfold PySem.W.instObj at hl
    wp_walk using AutoSeq1.wpAny_loadPart' hl0, wpAny_load hl
    refine (PySem.W.looks_subIn X hK).at ?_
    wp_walk
    exact ⟨_, rfl, h⟩
theorem dict_eq_dec {K : Frag} (p : Addr) (es : Array DictEntry) (n : Nat) (dd : Option Addr) (sl : Array (Option Value)) (C dx : Addr) (hK : PySem.W.subIn K (.ref C) (.type "dict") = some false) : Meets (Builtin.«dict.__eq__» ⟨[.ref p, .ref l], []⟩) (fun _ R s => K.In s.heap ∧ s.heap.get? p = some { cls := .type "dict", dict := dd, data := .dict es n, slots := sl } ∧ s.heap.get? l = some (PySem.W.instObj C dx) ∧ R (.ok (.ret .notImplemented)) s) :=
  .of_wp fun prog w A R s h => by
    obtain ⟨hp, g, d, tk, os⟩ := s
    obtain ⟨X, hl0, hl, h⟩ := h
    unfold PySem.W.instObj at hl
    wp_walk using AutoSeq1.wpAny_loadPart' hl0, wpAny_load hl
    refine (PySem.W.looks_subIn X hK).at ?_
    wp_walk
    exact ⟨_, rfl, h⟩
theorem dict_ne_dec {K : Frag} (p : Addr) (es : Array DictEntry) (n : Nat) (dd : Option Addr) (sl : Array (Option Value)) (C dx : Addr) (hK : PySem.W.subIn K (.ref C) (.type "dict") = some false) : Meets (Builtin.«dict.__ne__» ⟨[.ref p, .ref l], []⟩) (fun _ R s => K.In s.heap ∧ s.heap.get? p = some { cls := .type "dict", dict := dd, data := .dict es n, slots := sl } ∧ s.heap.get? l = some (PySem.W.instObj C dx) ∧ R (.ok (.ret .notImplemented)) s) :=
  .of_wp fun prog w A R s h => by
    obtain ⟨hp, g, d, tk, os⟩ := s
    obtain ⟨X, hl0, hl, h⟩ := h
    unfold PySem.W.instObj at hl
    wp_walk using AutoSeq1.wpAny_loadPart' hl0, wpAny_load hl
    refine (PySem.W.looks_subIn X hK).at ?_
    wp_walk
    exact ⟨_, rfl, h⟩
end
end MP
end
section
set_option Elab.async false
set_option linter.all false
set_option maxRecDepth 100000
set_option maxHeartbeats 4000000
namespace MP
open PySem PySem.Spec PyProof.Rows PySem.W
section
variable {prog : Program} {w : World} {A : Around} {E : Value → Shared → Prop} {s : Shared} {K : Frag} {x C f : Addr} {ox : Obj} {od : Option Obj} {a : Value} {T id : String} {Q : Value → Shared → Prop}
/-- a built-in thing on the left that declines, an own instance on the right -/
theorem cmpR_K {op : CmpOp} (hu : A.units < cLine) (X : K.In s.heap) (J : InstAt s.heap x ox C od) (ha : s.TypeIs a T) (slot : Slot T (cmpInfo op).2.1 id) (hsub : subIn K (.ref C) (.type T) = some false)
    (hr : findIn K (.ref C) (cmpInfo op).2.2 = some (some (.ref f))) (hf : isFn K (.ref f) = true) (dec : ∀ Q' : Value → Shared → Prop, Q' .notImplemented s → wpAny (model prog w) A (call (.builtin id) [a, .ref x]) Q' E s)
    (h : wpAny (model prog w) A (call (.ref f) [.ref x, a]) (W.CmpBack Q) E s) : wpAny (model prog w) A (richCompare op a (.ref x)) Q E s := by
  have one : wpAny (model prog w) A (tryCompare (.ref x) (cmpInfo op).2.2 a) (fun r s' => ∃ v, r = some v ∧ Q v s') E s := by
    unfold tryCompare
    refine wpAny_bind (ifBound_K X J hr hf (wpAny_mono h (fun v s' hv => ?_) fun _ _ e => e))
    cases v <;> first | exact hv.elim | exact wpAny_pure ⟨_, rfl, hv⟩
  unfold richCompare
  simp only [ha.oneThing_none]
  refine wpAny_holding (wpAny_bind (wpAny_cRoomFor hu ?_))
  refine wpAny_bind (wpAny_typeOf ha (wpAny_bind (J.type.here ?_)))
  rw [if_pos (by simp)]
  refine wpAny_bind ((looks_subIn X hsub).here ?_)
  simp only [Bool.false_eq_true, if_false, Bool.not_false, if_true]
  refine wpAny_bind (m := tryCompare a _ _) (wpAny_tryCompare_declines ha slot (dec _ ⟨rfl, ?_⟩))
  refine wpAny_bind (wpAny_mono one (fun r s' z => ?_) fun _ _ e => e)
  obtain ⟨v, rfl, hq⟩ := z
  exact wpAny_pure hq
end
end MP
end
section
set_option Elab.async false
set_option linter.all false
set_option maxRecDepth 100000
set_option maxHeartbeats 4000000
namespace MP
open PySem PySem.Spec PyProof.Rows PySem.W
section
variable {prog : Program} {w : World} {A : Around} {E : Value → Shared → Prop} {s : Shared} {K : Frag} {x C f : Addr} {ox : Obj} {od : Option Obj} {b : Value} {T id : String} {name : Str}
theorem ifBoundB {args : List Value} {Q : Option Value → Shared → Prop} (X : K.In s.heap) (J : InstAt s.heap x ox C od) (hs : findIn K (.ref C) name = some (some (.builtin id))) (slot : Slot T name id)
    (h : wpAny (model prog w) A (call (.builtin id) (.ref x :: args)) (fun v => Q (some v)) E s) : wpAny (model prog w) A (callSpecialIfBound? (.ref x) name args) Q E s := by
  simp only [callSpecialIfBound?, bindSpecialIfBound?]
  refine wpAny_holding (wpAny_bind (wpAny_bind (wpAny_bind (J.type.here ((looks_findIn X hs).here ?_)))))
  simp only [slot.bind]
  refine wpAny_bind (wpAny_askSetting (wpAny_ite ?_))
  have fin : wpAny (model prog w) A (call (.builtin id) ([.ref x] ++ args) >>= fun v => pure (some v)) Q E s := wpAny_bind (wpAny_mono h (fun v s' h' => wpAny_pure h') fun _ _ h' => h')
  split
  · exact wpAny_bind (wpAny_pure (wpAny_pure fin))
  · exact wpAny_tryCatch (wpAny_bind (wpAny_pure (wpAny_pure fin)))
/-- object.__ne__ of an own instance: its __eq__, turned round -/
theorem obj_ne {Q : Value → Shared → Prop} (hu : A.units + 1 < cLine) (X : K.In s.heap) (J : InstAt s.heap x ox C od) (hob : subIn K (.ref C) (.type "object") = some true) (he : findIn K (.ref C) "__eq__" = some (some (.ref f))) (hf : isFn K (.ref f) = true)
    (h : wpAny (model prog w) A.in1 (call (.ref f) [.ref x, b]) (fun v s' => ∃ k, v = .bool k ∧ Q (.bool (!k)) s') E s) : wpAny (model prog w) A (call (.builtin "object.__ne__") [.ref x, b]) Q E s := by
  obtain ⟨hp, g, d, tk, os⟩ := s
  refine wpAny_call (codeAny_call_builtin F.slot_object_ne.plain F.entry_object_ne (@check_slot (model prog w) _ _ ⟨hp, g, d, tk, os⟩ "object.__ne__" "object" "__ne__" (.ref x) [b] [] _ (by decide +kernel) (by decide +kernel) (J.type.andThen (looks_subIn X hob)) (F.args_object_ne_2 _ _) ?_))
  unfold Builtin.«object.__ne__»
  refine wpAny_bind (wpAny_of_eq (a := (.ref x, [b])) (by first | rfl | kernel_rfl) ?_)
  show wpAny _ A.in1 (cRoomFor "comparison" [.ref x, b] >>= _) _ _ _
  refine wpAny_bind (wpAny_cRoomFor hu ?_)
  refine wpAny_bind (ifBound_K X J he hf (wpAny_mono h (fun v s' hv => ?_) fun _ _ e => e))
  obtain ⟨k, rfl, q⟩ := hv
  exact wpAny_bind (wpAny_truthy_bool (wpAny_pure q))
variable {a : Value} {tb : Value} {Q : Value → Shared → Prop}
theorem tryNe (hu : A.units + 1 < cLine) (X : K.In s.heap) (J : InstAt s.heap x ox C od) (hob : subIn K (.ref C) (.type "object") = some true) (he : findIn K (.ref C) "__eq__" = some (some (.ref f))) (hn : findIn K (.ref C) "__ne__" = some (some (.builtin "object.__ne__"))) (hf : isFn K (.ref f) = true)
    (h : wpAny (model prog w) A.in1 (call (.ref f) [.ref x, b]) (fun v s' => ∃ k, v = .bool k ∧ Q (.bool (!k)) s') E s) : wpAny (model prog w) A (tryCompare (.ref x) "__ne__" b) (fun r s' => ∃ v, r = some v ∧ Q v s') E s := by
  unfold tryCompare
  refine wpAny_bind (ifBoundB X J hn F.slot_object_ne (obj_ne (Q := fun v s' => wpAny (model prog w) A (match some v with | some .notImplemented | none => pure none | some v => pure (some v)) (fun r s' => ∃ v, r = some v ∧ Q v s') E s') hu X J hob he hf (wpAny_mono h (fun v s' hv => ?_) fun _ _ e => e)))
  obtain ⟨k, e, q⟩ := hv
  exact ⟨k, e, wpAny_pure ⟨_, rfl, q⟩⟩
/-- own != anything -/
theorem neL_K (hu : A.units + 1 < cLine) (X : K.In s.heap) (J : InstAt s.heap x ox C od) (hb : Looks (model prog w) s.heap (typeOf b) tb) (hnf : notFirst K C tb = true) (hob : subIn K (.ref C) (.type "object") = some true) (he : findIn K (.ref C) "__eq__" = some (some (.ref f))) (hn : findIn K (.ref C) "__ne__" = some (some (.builtin "object.__ne__"))) (hf : isFn K (.ref f) = true)
    (h : wpAny (model prog w) A.in1 (call (.ref f) [.ref x, b]) (fun v s' => ∃ k, v = .bool k ∧ Q (.bool (!k)) s') E s) : wpAny (model prog w) A (richCompare .NotEq (.ref x) b) Q E s := by
  have one := tryNe hu X J hob he hn hf h
  unfold richCompare
  simp only [oneThing_ref]
  refine wpAny_holding (wpAny_bind (wpAny_cRoomFor (Nat.lt_of_succ_lt hu) ?_))
  refine wpAny_bind (J.type.here (wpAny_bind (hb.here ?_)))
  split
  · rename_i q
    have e : subIn K tb (.ref C) = some false := by
      rcases Bool.or_eq_true_iff.mp hnf with e | e
      · rw [beq_iff_eq.mp e] at q; simp at q
      · exact beq_iff_eq.mp e
    refine wpAny_bind ((looks_subIn X e).here ?_)
    simp only [Bool.false_eq_true, if_false]
    refine wpAny_bind (wpAny_mono one (fun r s' z => ?_) fun _ _ e => e)
    obtain ⟨v, rfl, hq⟩ := z
    exact wpAny_pure hq
  · refine wpAny_bind (wpAny_pure ?_)
    simp only [Bool.false_eq_true, if_false]
    refine wpAny_bind (wpAny_mono one (fun r s' z => ?_) fun _ _ e => e)
    obtain ⟨v, rfl, hq⟩ := z
    exact wpAny_pure hq
/-- a built-in thing that declines != own -/
theorem neR_K (hu : A.units + 1 < cLine) (X : K.In s.heap) (J : InstAt s.heap x ox C od) (ha : s.TypeIs a T) (slot : Slot T (cmpInfo .NotEq).2.1 id) (hsub : subIn K (.ref C) (.type T) = some false) (hob : subIn K (.ref C) (.type "object") = some true) (he : findIn K (.ref C) "__eq__" = some (some (.ref f))) (hn : findIn K (.ref C) "__ne__" = some (some (.builtin "object.__ne__"))) (hf : isFn K (.ref f) = true)
    (dec : ∀ Q' : Value → Shared → Prop, Q' .notImplemented s → wpAny (model prog w) A (call (.builtin id) [a, .ref x]) Q' E s)
    (h : wpAny (model prog w) A.in1 (call (.ref f) [.ref x, a]) (fun v s' => ∃ k, v = .bool k ∧ Q (.bool (!k)) s') E s) : wpAny (model prog w) A (richCompare .NotEq a (.ref x)) Q E s := by
  have one := tryNe hu X J hob he hn hf h
  unfold richCompare
  simp only [ha.oneThing_none]
  refine wpAny_holding (wpAny_bind (wpAny_cRoomFor (Nat.lt_of_succ_lt hu) ?_))
  refine wpAny_bind (wpAny_typeOf ha (wpAny_bind (J.type.here ?_)))
  rw [if_pos (by simp)]
  refine wpAny_bind ((looks_subIn X hsub).here ?_)
  simp only [Bool.false_eq_true, if_false, Bool.not_false, if_true]
  refine wpAny_bind (m := tryCompare a _ _) (wpAny_tryCompare_declines ha slot (dec _ ⟨rfl, ?_⟩))
  refine wpAny_bind (wpAny_mono one (fun r s' z => ?_) fun _ _ e => e)
  obtain ⟨v, rfl, hq⟩ := z
  exact wpAny_pure hq
end
end MP
end
section
set_option Elab.async false
set_option linter.all false
set_option maxRecDepth 100000
set_option maxHeartbeats 4000000
set_option autoImplicit false
namespace MP
open PySem PySem.Spec PyProof.Rows L2
/-! ### == and != where an own instance stands on one side -/
/-- what an own __eq__ promises -/
def spQ (T : Tab) (C : Str) : Spec := fun ss _ Q => ∃ fs y b, ss = [.fz (.obj C fs), .fz y] ∧ T.eqB C fs y = some b ∧ Q (.fz (.bl b))
def eqNames : List String := ["int", "bool", "str", "tuple", "list", "dict", "NoneType"]
def EqAv (P : Program) (w : World) (K : Frag) (mg : Str → Option Value) (base : Heap) (T : Tab) (k : Nat) (C : Str) : Prop :=
  ∃ (f : Addr) (fd : FuncData) (ps : List Str) (lv : Nat), lv + 1 ≤ k ∧ FnOk P w K mg base (L2.CX P w) lv f fd ps (SpD K (spQ T C)) ∧ PySem.W.findIn K (.ref (clA K C)) "__eq__" = some (some (.ref f)) ∧ PySem.W.findIn K (.ref (clA K C)) "__ne__" = some (some (.builtin "object.__ne__")) ∧
    PySem.W.isFn K (.ref f) = true ∧ PySem.W.subIn K (.ref (clA K C)) (.type "object") = some true ∧ Binds K fd ps [] ∧ (∀ n ∈ eqNames, PySem.W.notFirst K (clA K C) (.type n) = true ∧ PySem.W.subIn K (.ref (clA K C)) (.type n) = some false) ∧
    ∀ C', T.qk C C' = true → PySem.W.notFirst K (clA K C) (.ref (clA K C')) = true
theorem typeIs_looks {prog : Program} {w : World} {s : Shared} {v : Value} {T : String} (h : s.TypeIs v T) : PySem.W.Looks (model prog w) s.heap (typeOf v) (.type T) := by
  intro A Q E s' k q
  refine wpAny_typeOf ?_ q
  cases v with
  | ref a => obtain ⟨o, h1, h2⟩ := h; exact ⟨o, k _ _ h1, h2⟩
  | _ => exact h
section
variable {X : Cx} {pins : List (Addr × Obj)} {σ : L2.St} {H : Hp} {s : Shared} {x : V} {u : Value} {d : D} {n : String}
theorem ty_is (I : Inv X pins σ H s) (rx : RelV x u) (r : Rp X.K H x d) (hk : d.kd = some (.bi n)) : s.TypeIs u n := by
  cases r with
  | non => cases hk; cases (show u = Value.none from rx); rfl
  | bl b => cases hk; cases (show u = Value.bool b from rx); rfl
  | int i => cases hk; obtain ⟨t, q⟩ := (show ∃ t, u = Value.int i t from rx); cases q; rfl
  | str i => cases hk; obtain ⟨t, q⟩ := (show ∃ t, u = Value.str i t from rx); cases q; rfl
  | ty n => cases hk
  | ref a => cases hk
  | scr h => cases hk
  | @tup a xs ds h r =>
    cases hk; cases (show u = Value.ref a from rx)
    obtain ⟨its, _, ⟨o, h1, h2, _⟩, _⟩ := I.tuple h
    exact ⟨o, h1, h2⟩
  | @lst a xs ds h r =>
    cases hk; cases (show u = Value.ref a from rx)
    obtain ⟨_, its, n, _, h1⟩ := (show ObjOk X.prog X.w H s.heap a (.lst xs) from I.hok a _ h)
    exact ⟨_, h1, rfl⟩
  | @dic a kvs ds h r =>
    cases hk; cases (show u = Value.ref a from rx)
    obtain ⟨_, _, vs, _, o, es, ep, h1, h2, _⟩ := (show ObjOk X.prog X.w H s.heap a (.dK kvs) from I.hok a _ h)
    exact ⟨o, h1, h2.1⟩
  | obj h h' r => cases hk
theorem ty_looks {k : Kd} (I : Inv X pins σ H s) (rx : RelV x u) (r : Rp X.K H x d) (hk : d.kd = some k) : PySem.W.Looks (model X.prog X.w) s.heap (typeOf u) (kdV X.K k) := by
  cases k with
  | bi n => exact typeIs_looks (ty_is I rx r hk)
  | own C =>
    cases r with
    | @obj a dx C' fs ds h h' r =>
      cases hk; cases (show u = Value.ref a from rx)
      obtain ⟨mA, O, _⟩ := ins_get I.hok h
      obtain ⟨od, J, _⟩ := O.look
      exact J.type
    | _ => cases hk
variable {l C dx : Addr}
theorem dec_eq (I : Inv X pins σ H s) (rx : RelV x u) (r : Rp X.K H x d) (hk : d.kd = some (.bi n)) (hl : s.heap.get? l = some (PySem.W.instObj C dx)) (hK : PySem.W.subIn X.K (.ref C) (.type n) = some false) :
    ∃ id, Slot n (cmpInfo .Eq).2.1 id ∧ ∀ (A : Around) (E : Value → Shared → Prop) (Q : Value → Shared → Prop), Q .notImplemented s → wpAny (model X.prog X.w) A (call (.builtin id) [u, .ref l]) Q E s := by
  have ty := ty_is I rx r hk
  cases r with
  | non => cases hk; cases (show u = Value.none from rx); exact ⟨_, F.slot_NoneType_eq, fun A E Q q => call_meets F.slot_NoneType_eq ty F.entry_NoneType_eq (F.args_NoneType_eq_2 _ _) (non_eq_dec C dx) ⟨hl, q⟩⟩
  | bl b => cases hk; cases (show u = Value.bool b from rx); exact ⟨_, F.slot_bool_eq, fun A E Q q => call_meets F.slot_bool_eq ty F.entry_int_eq (F.args_int_eq_2 _ _) (bool_eq_dec b C dx) ⟨hl, q⟩⟩
  | int i => cases hk; obtain ⟨t, q⟩ := (show ∃ t, u = Value.int i t from rx); cases q; exact ⟨_, F.slot_int_eq, fun A E Q q => call_meets F.slot_int_eq ty F.entry_int_eq (F.args_int_eq_2 _ _) (int_eq_dec i t C dx) ⟨hl, q⟩⟩
  | str i => cases hk; obtain ⟨t, q⟩ := (show ∃ t, u = Value.str i t from rx); cases q; exact ⟨_, F.slot_str_eq, fun A E Q q => call_meets F.slot_str_eq ty F.entry_str_eq (F.args_str_eq_2 _ _) (str_eq_dec i t C dx) ⟨hl, q⟩⟩
  | ty n => cases hk
  | ref a => cases hk
  | scr h => cases hk
  | @tup a xs ds h r =>
    cases hk; cases (show u = Value.ref a from rx)
    obtain ⟨its, _, ⟨⟨cls, dd, data, sl⟩, h1, h2, m, h3⟩, _⟩ := I.tuple h
    dsimp only at h2 h3; subst h2 h3
    exact ⟨_, F.slot_tuple_eq, fun A E Q q => call_meets F.slot_tuple_eq ty F.entry_tuple_eq (F.args_tuple_eq_2 _ _) (tuple_eq_dec a _ m dd sl C dx hK) ⟨I.kIn, h1, hl, q⟩⟩
  | @lst a xs ds h r =>
    cases hk; cases (show u = Value.ref a from rx)
    obtain ⟨_, its, m, _, h1⟩ := (show ObjOk X.prog X.w H s.heap a (.lst xs) from I.hok a _ h)
    exact ⟨_, F.slot_list_eq, fun A E Q q => call_meets F.slot_list_eq ty F.entry_list_eq (F.args_list_eq_2 _ _) (list_eq_dec a _ m none #[] C dx hK) ⟨I.kIn, h1, hl, q⟩⟩
  | @dic a kvs ds h r =>
    cases hk; cases (show u = Value.ref a from rx)
    obtain ⟨_, _, vs, _, ⟨cls, dd, data, sl⟩, es, ep, h1, h2, h3, _⟩ := (show ObjOk X.prog X.w H s.heap a (.dK kvs) from I.hok a _ h)
    have h2' := h2.1
    dsimp only at h2' h3; subst h2' h3
    exact ⟨_, F.slot_dict_eq, fun A E Q q => call_meets F.slot_dict_eq ty F.entry_dict_eq (F.args_dict_eq_2 _ _) (dict_eq_dec a _ ep dd sl C dx hK) ⟨I.kIn, h1, hl, q⟩⟩
  | obj h h' r => cases hk
theorem dec_ne (I : Inv X pins σ H s) (rx : RelV x u) (r : Rp X.K H x d) (hk : d.kd = some (.bi n)) (hl : s.heap.get? l = some (PySem.W.instObj C dx)) (hK : PySem.W.subIn X.K (.ref C) (.type n) = some false) :
    ∃ id, Slot n (cmpInfo .NotEq).2.1 id ∧ ∀ (A : Around) (E : Value → Shared → Prop) (Q : Value → Shared → Prop), Q .notImplemented s → wpAny (model X.prog X.w) A (call (.builtin id) [u, .ref l]) Q E s := by
  have ty := ty_is I rx r hk
  cases r with
  | non => cases hk; cases (show u = Value.none from rx); exact ⟨_, F.slot_NoneType_ne, fun A E Q q => call_meets F.slot_NoneType_ne ty F.entry_NoneType_ne (F.args_NoneType_ne_2 _ _) (non_ne_dec C dx) ⟨hl, q⟩⟩
  | bl b => cases hk; cases (show u = Value.bool b from rx); exact ⟨_, F.slot_bool_ne, fun A E Q q => call_meets F.slot_bool_ne ty F.entry_int_ne (F.args_int_ne_2 _ _) (bool_ne_dec b C dx) ⟨hl, q⟩⟩
  | int i => cases hk; obtain ⟨t, q⟩ := (show ∃ t, u = Value.int i t from rx); cases q; exact ⟨_, F.slot_int_ne, fun A E Q q => call_meets F.slot_int_ne ty F.entry_int_ne (F.args_int_ne_2 _ _) (int_ne_dec i t C dx) ⟨hl, q⟩⟩
  | str i => cases hk; obtain ⟨t, q⟩ := (show ∃ t, u = Value.str i t from rx); cases q; exact ⟨_, F.slot_str_ne, fun A E Q q => call_meets F.slot_str_ne ty F.entry_str_ne (F.args_str_ne_2 _ _) (str_ne_dec i t C dx) ⟨hl, q⟩⟩
  | ty n => cases hk
  | ref a => cases hk
  | scr h => cases hk
  | @tup a xs ds h r =>
    cases hk; cases (show u = Value.ref a from rx)
    obtain ⟨its, _, ⟨⟨cls, dd, data, sl⟩, h1, h2, m, h3⟩, _⟩ := I.tuple h
    dsimp only at h2 h3; subst h2 h3
    exact ⟨_, F.slot_tuple_ne, fun A E Q q => call_meets F.slot_tuple_ne ty F.entry_tuple_ne (F.args_tuple_ne_2 _ _) (tuple_ne_dec a _ m dd sl C dx hK) ⟨I.kIn, h1, hl, q⟩⟩
  | @lst a xs ds h r =>
    cases hk; cases (show u = Value.ref a from rx)
    obtain ⟨_, its, m, _, h1⟩ := (show ObjOk X.prog X.w H s.heap a (.lst xs) from I.hok a _ h)
    exact ⟨_, F.slot_list_ne, fun A E Q q => call_meets F.slot_list_ne ty F.entry_list_ne (F.args_list_ne_2 _ _) (list_ne_dec a _ m none #[] C dx hK) ⟨I.kIn, h1, hl, q⟩⟩
  | @dic a kvs ds h r =>
    cases hk; cases (show u = Value.ref a from rx)
    obtain ⟨_, _, vs, _, ⟨cls, dd, data, sl⟩, es, ep, h1, h2, h3, _⟩ := (show ObjOk X.prog X.w H s.heap a (.dK kvs) from I.hok a _ h)
    have h2' := h2.1
    dsimp only at h2' h3; subst h2' h3
    exact ⟨_, F.slot_dict_ne, fun A E Q q => call_meets F.slot_dict_ne ty F.entry_dict_ne (F.args_dict_ne_2 _ _) (dict_ne_dec a _ ep dd sl C dx hK) ⟨I.kIn, h1, hl, q⟩⟩
  | obj h h' r => cases hk
/-- the callee runs, somewhere below -/
theorem run_at {k : Nat} {f : Addr} {fd : FuncData} {ps : List Str} {sp : Sp} {A : Around} {us : List Value} {vs : List V} {Q : VK} (F : FnOk X.prog X.w X.K X.mg X.base (L2.CX X.prog X.w) k f fd ps sp) (sb : Sub X k A) (hb : Binds X.K fd ps [])
    (I : Inv X pins σ H s) (r : Vals vs us) (h : sp vs H Q (fun _ _ _ => False)) : wpAny (model X.prog X.w) A (call (.ref f) us) (EP X pins σ Q) X.xe s := by
  have hl : us.length = ps.length := by rw [← r.length]; exact F.len _ _ _ _ h
  have b := hb s us I.kIn (by rw [List.append_nil]; exact hl)
  rw [List.append_nil] at b
  have e0 : Env0 X.prog X.w X.K X.mg X.base A X.stack s H := by
    have e := I.env0
    exact ⟨by rw [sb.fr]; exact e.frames, e.mod, e.bs, e.bsz, e.funs, e.frf, e.hok, e.bare⟩
  refine wpAny_call (codeAny_mono (F.run A X.stack s H ⟨us, []⟩ us vs Q _ sb.room e0 b r h) fun r s' hq => ?_)
  cases r with
  | error e =>
    obtain ⟨_, _, _, _, _, _, _, _, _, _, _, _, z⟩ := hq
    exact z.elim
  | ok fl =>
    cases fl with
    | ret u => exact I.after hq
    | next => exact False.elim hq
    | brk => exact False.elim hq
    | cont => exact False.elim hq
end
def rOwn (K : Frag) (T : Tab) (neg : Bool) : R2 := fun x y H Q => ∃ (C : Str) (a dx : Addr) (fs : List (Str × V)) (z : V) (d : D), H a = some (.ins (clA K C) dx fs) ∧ T.hasQ C = true ∧ Rp K H z d ∧
  SpD K (spQ T C) [.ref a, z] H (fun v H' => ∃ b, v = .bl b ∧ Q (.bl (b != neg)) H') (fun _ _ _ => False) ∧ ((x = .ref a ∧ y = z ∧ qkd T C d = true) ∨ (y = .ref a ∧ x = z ∧ d.isObj = false ∧ d.kd.isSome = true))
theorem kd_bi {d : D} (h : d.isObj = false) (hk : d.kd.isSome = true) : ∃ n, d.kd = some (.bi n) ∧ n ∈ eqNames := by
  cases d <;> first | (cases h; done) | (cases hk; done) | exact ⟨_, rfl, by decide⟩
theorem qkd_of {K : Frag} {T : Tab} {C : Str} {d : D} (h : qkd T C d = true) (h1 : ∀ n ∈ eqNames, PySem.W.notFirst K (clA K C) (.type n) = true ∧ PySem.W.subIn K (.ref (clA K C)) (.type n) = some false) (h2 : ∀ C', T.qk C C' = true → PySem.W.notFirst K (clA K C) (.ref (clA K C')) = true) :
    ∃ k, d.kd = some k ∧ PySem.W.notFirst K (clA K C) (kdV K k) = true := by
  unfold qkd at h
  cases d with
  | obj C' fs => exact ⟨_, rfl, h2 C' h⟩
  | ty n => cases h
  | ref a => cases h
  | scr a ns => cases h
  | _ => exact ⟨_, rfl, (h1 _ (by decide)).1⟩
section
variable {X : Cx} {T : Tab} {k : Nat}
theorem op_own_eq (hr : Room k X.A) (A : ∀ C, T.hasQ C = true → EqAv X.prog X.w X.K X.mg X.base T k C) : OpR X (compareOp .Eq) (rOwn X.K T false) := by
  intro pins s σ H x y v u Q I rx ry ⟨C, a, dx, fs, z, d, ha, hQ, rz, hsp, hcase⟩
  obtain ⟨f, fd, ps, lv, hlv, Fo, he, hne, hf, hob, hb, hn, hq⟩ := A C hQ
  obtain ⟨mA, O, _⟩ := ins_get I.hok ha
  obtain ⟨od, J, _⟩ := O.look
  have sb : Sub X lv X.A := ⟨hr.mono (by omega), rfl⟩
  show wpAny (model X.prog X.w) X.A (richCompare .Eq v u) (EP X pins σ Q) X.xe s
  rcases hcase with ⟨rfl, rfl, hk⟩ | ⟨rfl, rfl, h1, h2⟩
  · cases (show v = Value.ref a from rx)
    obtain ⟨kd, hk1, hk2⟩ := qkd_of hk hn hq
    obtain ⟨m, hF⟩ := I.fr
    refine PySem.W.cmp_K (op := .Eq) (tb := kdV X.K kd) sb.room.units0 hF I.ok.mod.kin J (ty_looks I ry rz hk1) hk2 he hf ?_
    refine wpAny_mono (run_at Fo sb hb I (.cons (show RelV (.ref a) (Value.ref a) from rfl) (.cons ry .nil)) hsp) (fun r s' hz => ?_) fun _ _ x => x
    obtain ⟨w, H', I', rw', b, rfl, q⟩ := hz
    cases (show r = Value.bool b from rw')
    exact ⟨.bl b, H', I', rfl, by simpa using q⟩
  · cases (show u = Value.ref a from ry)
    obtain ⟨n, hk1, hk2⟩ := kd_bi h1 h2
    obtain ⟨id, sl, dc⟩ := dec_eq I rx rz hk1 O.obj (hn n hk2).2
    refine cmpR_K (op := .Eq) sb.room.units0 I.kIn J (ty_is I rx rz hk1) sl (hn n hk2).2 he hf (dc _ _) ?_
    refine wpAny_mono (run_at Fo sb hb I (.cons (show RelV (.ref a) (Value.ref a) from rfl) (.cons rx .nil)) hsp) (fun r s' hz => ?_) fun _ _ x => x
    obtain ⟨w, H', I', rw', b, rfl, q⟩ := hz
    cases (show r = Value.bool b from rw')
    exact ⟨.bl b, H', I', rfl, by simpa using q⟩
theorem op_own_ne (hr : Room k X.A) (A : ∀ C, T.hasQ C = true → EqAv X.prog X.w X.K X.mg X.base T k C) : OpR X (compareOp .NotEq) (rOwn X.K T true) := by
  intro pins s σ H x y v u Q I rx ry ⟨C, a, dx, fs, z, d, ha, hQ, rz, hsp, hcase⟩
  obtain ⟨f, fd, ps, lv, hlv, Fo, he, hne, hf, hob, hb, hn, hq⟩ := A C hQ
  obtain ⟨mA, O, _⟩ := ins_get I.hok ha
  obtain ⟨od, J, _⟩ := O.look
  have sb : Sub X (lv + 1) X.A := ⟨hr.mono (by omega), rfl⟩
  have hu : X.A.units + 1 < cLine := by have := hr.un; omega
  show wpAny (model X.prog X.w) X.A (richCompare .NotEq v u) (EP X pins σ Q) X.xe s
  rcases hcase with ⟨rfl, rfl, hk⟩ | ⟨rfl, rfl, h1, h2⟩
  · cases (show v = Value.ref a from rx)
    obtain ⟨kd, hk1, hk2⟩ := qkd_of hk hn hq
    refine neL_K hu I.kIn J (ty_looks I ry rz hk1) hk2 hob he hne hf ?_
    refine wpAny_mono (run_at Fo sb.in1 hb I (.cons (show RelV (.ref a) (Value.ref a) from rfl) (.cons ry .nil)) hsp) (fun r s' hz => ?_) fun _ _ x => x
    obtain ⟨w, H', I', rw', b, rfl, q⟩ := hz
    cases (show r = Value.bool b from rw')
    exact ⟨b, rfl, .bl (!b), H', I', rfl, by simpa using q⟩
  · cases (show u = Value.ref a from ry)
    obtain ⟨n, hk1, hk2⟩ := kd_bi h1 h2
    obtain ⟨id, sl, dc⟩ := dec_ne I rx rz hk1 O.obj (hn n hk2).2
    refine neR_K hu I.kIn J (ty_is I rx rz hk1) sl (hn n hk2).2 hob he hne hf (dc _ _) ?_
    refine wpAny_mono (run_at Fo sb.in1 hb I (.cons (show RelV (.ref a) (Value.ref a) from rfl) (.cons rx .nil)) hsp) (fun r s' hz => ?_) fun _ _ x => x
    obtain ⟨w, H', I', rw', b, rfl, q⟩ := hz
    cases (show r = Value.bool b from rw')
    exact ⟨b, rfl, .bl (!b), H', I', rfl, by simpa using q⟩
end
/-- what is looked at, let go for a while -/
theorem sn_freeze {K : Frag} {hd : Hd} {F H : Hp} {v : V} {d : D} (s : Same F H) (ho : HdOk K F H hd) (x : Sn K hd F H v d) :
    ∃ F2, Rp K F2 v d ∧ Same F F2 ∧ Same F2 H ∧ HdOk K F2 H hd ∧ ∀ F' H', Ev K hd F2 H F' H' → ∃ F'', Ev K hd F H F'' H' := by
  rcases x with x | ⟨a, rfl, nf, nh, ct, o⟩
  · exact ⟨F, x, .refl _, s, ho, fun F' H' e => ⟨F', e⟩⟩
  · obtain ⟨F2, r, s1, s2, hk, hh, hn⟩ := o.rp nf nh s ho
    refine ⟨F2, r, s1, s2, hk, fun F' H' e => ?_⟩
    refine ⟨fun b => if F b = none ∧ F2 b ≠ none then none else F' b, fun b o' q => ?_, fun b o' q => ?_, fun b o' q n z => ?_, ?_, fun b z => ?_⟩
    · show (if F b = none ∧ F2 b ≠ none then none else F' b) = some o'
      rw [if_neg (fun y => by rw [y.1] at q; cases q)]
      exact e.ff _ _ (s1 _ _ q)
    · have q : (if F b = none ∧ F2 b ≠ none then none else F' b) = some o' := q
      split at q
      · cases q
      · exact e.sub _ _ q
    · show H' b = some o' ∧ (if F b = none ∧ F2 b ≠ none then none else F' b) = none
      cases y : F2 b with
      | none =>
        obtain ⟨k1, k2⟩ := e.keep b o' q y z
        refine ⟨k1, ?_⟩
        rw [if_neg (fun w => w.2 rfl)]; exact k2
      | some u =>
        have q2 := s2 _ _ y
        rw [q] at q2; cases q2
        refine ⟨e.sub _ _ (e.ff _ _ y), ?_⟩
        rw [if_pos ⟨n, by simp⟩]
    · match hd, ho, e with
      | none, _, _ => exact True.intro
      | some (h, c), ho, e =>
        have q : HandOk K F H h c := ho
        have q' : HandOk K F' H' h c := e.hok
        refine ⟨?_, ?_, q'.at_⟩
        · show (if F h = none ∧ F2 h ≠ none then none else F' h) = none
          split
          · rfl
          · exact q'.free
        · obtain ⟨ns, h1, h2⟩ := q.cells
          refine ⟨ns, sqL_mono (F := F) (fun b o' q => ?_) h1, h2⟩
          show (if F b = none ∧ F2 b ≠ none then none else F' b) = some o'
          rw [if_neg (fun y => by rw [y.1] at q; cases q)]
          exact e.ff _ _ (s1 _ _ q)
    · show (if F b = none ∧ F2 b ≠ none then none else F' b) = none
      split
      · rfl
      · exact e.hand b z
theorem Sn.objR {K : Frag} {hd : Hd} {F H : Hp} {v : V} {C : Str} {fs : List (Str × D)} (x : Sn K hd F H v (.obj C fs)) : Rp K F v (.obj C fs) := by
  rcases x with x | ⟨a, rfl, nf, nh, ct, o⟩
  · exact x
  · cases ct
theorem opd_own {K : Frag} {T : Tab} {neg : Bool} : OpD K (rOwn K T neg) fun x y Q => ∃ b, ownE T x y = some b ∧ Q (.fz (.bl (b != neg))) := by
  intro hd F H x y dx dy Qd Q s ho rx ry ⟨b, hb, hq⟩ k
  have main : ∀ (C : Str) (fs : List (Str × D)) (p z : V) (d : D), Sn K hd F H p (.obj C fs) → Sn K hd F H z d → T.hasQ C = true → T.eqB C fs d = some b → ((x = p ∧ y = z ∧ qkd T C d = true) ∨ (y = p ∧ x = z ∧ d.isObj = false ∧ d.kd.isSome = true)) → rOwn K T neg x y H Q := by
    intro C fs p z d rp rz hQ he hcase
    obtain ⟨a, dx', gs, rfl, h1, h2, r2⟩ := rp.obj s
    have rp' := rp.objR
    obtain ⟨F2, rz2, s1, s2, ho2, back⟩ := sn_freeze s ho rz
    refine ⟨C, a, dx', gs, z, d, h1, hQ, rz.rp s, ?_, hcase⟩
    refine ⟨hd, F2, [.fz (.obj C fs), .fz d], fun _ => False, fun r => r = .fz (.bl b), s2, ho2, ⟨rp'.mono s1, rz2, True.intro⟩, ⟨fs, d, b, rfl, he, rfl⟩, fun v F' H' r e q hr => ?_, fun _ _ _ _ _ _ _ z => z.elim⟩
    subst hr
    have q : Rp K F' v (.bl b) := q
    cases q
    obtain ⟨F3, e3⟩ := back F' H' e
    exact ⟨b, rfl, k _ F3 H' (.fz (.bl (b != neg))) e3 (.bl _) hq⟩
  unfold ownE at hb
  split at hb
  · rename_i C fs
    split at hb
    · rename_i hc
      simp only [Bool.and_eq_true] at hc
      exact main C fs x y dy rx ry hc.1 hb (.inl ⟨rfl, rfl, hc.2⟩)
    · cases hb
  · split at hb
    · rename_i hx _ C fs
      split at hb
      · rename_i hc
        simp only [Bool.and_eq_true] at hc
        exact main C fs y x dx ry rx hc.1 hb (.inr ⟨rfl, rfl, (by cases dx <;> first | rfl | exact absurd rfl (hx _ _)), hc.2⟩)
      · cases hb
    · cases hb
theorem opd_eqT {K : Frag} {T : Tab} : OpD K (fun x y H Q => rOwn K T false x y H Q ∨ rEqD K x y H Q) (cmpW T .eq) := by
  intro hd F H x y dx dy Qd Q s ho rx ry ⟨b, hb, hq⟩ k
  unfold eqT at hb
  split at hb
  · exact .inl (opd_own hd F H x y dx dy Qd Q s ho rx ry ⟨b, hb, by simpa using hq⟩ k)
  · split at hb
    · rename_i hc
      cases hb
      exact .inr (opd_eq hd F H x y dx dy Qd Q s ho rx ry ⟨hc, hq⟩ k)
    · cases hb
theorem opd_neT {K : Frag} {T : Tab} : OpD K (fun x y H Q => rOwn K T true x y H Q ∨ rNeD K x y H Q) (cmpW T .ne) := by
  intro hd F H x y dx dy Qd Q s ho rx ry ⟨b, hb, hq⟩ k
  unfold eqT at hb
  split at hb
  · exact .inl (opd_own hd F H x y dx dy Qd Q s ho rx ry ⟨b, hb, by simpa using hq⟩ k)
  · split at hb
    · rename_i hc
      cases hb
      exact .inr (opd_ne hd F H x y dx dy Qd Q s ho rx ry ⟨hc, hq⟩ k)
    · cases hb
end MP
end
section
set_option Elab.async false
set_option linter.all false
set_option maxRecDepth 100000
set_option maxHeartbeats 4000000
set_option autoImplicit false
namespace MP
open PySem PySem.Spec PyProof.Rows L2
/-- where a text stands: its slots' names, its scope, the names that it may store -/
structure Sc where
  N : List Str
  sc : Scope
  st : Str → Bool
/-- what a context offers -/
structure Ck (T : Tab) (k : Nat) (c : Sc) (X : Cx) (W : WX) : Prop where
  hN : X.N = c.N
  hs : X.env.scope = c.sc
  st : ∀ x, c.st x = true → Loc X.env.scope x ∧ (X.fn x = true ∨ X.env.scope.names.lookup x = some .local)
  kind : X.env.scope.kind = .function
  nd : X.N.Nodup
  G : KFacts X.K X.mg T
  calm : X.calm = true
  room : Room k X.A
  tk : Takes X W
  fn : ∀ j, T.hasF j = true → FnAv X.prog X.w X.K X.mg X.base T k j
  mkk : ∀ j, T.hasM j = true → MkAv X.prog X.w X.K X.mg X.base T k j
  mth : ∀ j m, T.hasMt j m = true → MthAv X.prog X.w X.K X.mg X.base T k j m
  ex : ∀ j, T.hasE j = true → ExAv X.prog X.w X.K X.mg X.base T k j
  eqs : ∀ C, T.hasQ C = true → EqAv X.prog X.w X.K X.mg X.base T k C
/-! ### operators -/
def opB : Bop → Operator → Bool
  | .add, .Add | .sub, .Sub | .mul, .Mult | .fdiv, .FloorDiv | .mod, .Mod | .pow, .Pow => true
  | _, _ => false
theorem opB_ok {X : Cx} {op : Bop} {o : Operator} (h : opB op o = true) : ∃ r, OpR X (binaryOp o) r ∧ OpD X.K r (binW op) := by
  cases op <;> cases o <;> first | cases h | skip
  · exact ⟨_, op_addA, opd_add⟩
  · exact ⟨_, op_sub, opd_int0 fun _ _ _ => .int _⟩
  · exact ⟨_, op_mul, opd_int fun _ _ _ => .int _⟩
  · exact ⟨_, op_fdivW, opd_int fun _ _ _ => .int _⟩
  · exact ⟨_, op_mod, opd_int fun _ _ _ => .int _⟩
  · exact ⟨_, op_pow, opd_int fun _ _ _ => .int _⟩
def cpB : Cop → CmpOp → Bool
  | .eq, .Eq | .ne, .NotEq | .lt, .Lt | .le, .LtE | .gt, .Gt | .ge, .GtE | .isn, .Is | .notn, .IsNot => true
  | _, _ => false
theorem cpB_ok {X : Cx} {T : Tab} {k : Nat} {op : Cop} {o : CmpOp} (hr : Room k X.A) (A : ∀ C, T.hasQ C = true → EqAv X.prog X.w X.K X.mg X.base T k C) (h : cpB op o = true) : ∃ r, OpR X (compareOp o) r ∧ OpD X.K r (cmpW T op) := by
  have hu := hr.units
  cases op <;> cases o <;> first | cases h | skip
  · exact ⟨_, (op_own_eq hr A).or (op_eqD hu), opd_eqT⟩
  · exact ⟨_, (op_own_ne hr A).or (op_neD hu), opd_neT⟩
  · exact ⟨_, op_lt, opd_lt⟩
  · exact ⟨_, op_le, opd_le⟩
  · exact ⟨_, op_gt, opd_gt⟩
  · exact ⟨_, op_ge, opd_ge⟩
  · exact ⟨_, op_isN, opd_isn⟩
  · exact ⟨_, op_notN, opd_notn⟩
theorem ixB_ok {e : Expr} (h : ixB e = true) : PlainIx e := by
  intro o i
  cases e <;> first | rfl | cases h
/-- a test whose truth is its value's -/
def tvB : Expr → Bool
  | .UnaryOp .Not _ _ | .BoolOp .. | .IfExp .. | .Compare .. => false
  | _ => true
theorem tvB_ok {e : Expr} {env : Env} (h : tvB e = true) (whole : Sem Value) : isTrue e env whole = (do let v ← whole; standAt e.pos; holding [v] (truthy v)) := by
  cases e with
  | UnaryOp op x p => cases op <;> first | rfl | cases h
  | _ => first | rfl | cases h
def fsB : Expr → Bool
  | .Set .. => false
  | _ => true
theorem fsB_ok {e : Expr} {env : Env} (h : fsB e = true) (x : Value) : foldedSetIterable e env x = pure x := by
  cases e <;> first | rfl | cases h
/-- a name of the module, called -/
def gnB (c : Sc) (x y : Str) : Bool := x == y && c.sc.names.lookup x == some .globalImplicit && !(x == ("__debug__" : Str))
theorem gnB_of {c : Sc} {x y : Str} (h : gnB c x y = true) : x = y ∧ c.sc.names.lookup x = some .globalImplicit ∧ (x == ("__debug__" : Str)) = false := by
  unfold gnB at h
  simp only [Bool.and_eq_true, beq_iff_eq, Bool.not_eq_true'] at h
  exact ⟨h.1.1, h.1.2, h.2⟩
def stB (c : Sc) (i : Nat) (x : Str) : Bool := c.N[i]? == some x && c.st x
/-- targets -/
def mNms (c : Sc) : List Nat → List Expr → Bool
  | [], xs => xs.isEmpty
  | i :: is, xs => (match xs with
    | x :: xs => (match vName x with
      | some (y, _) => stB c i y && mNms c is xs
      | none => false)
    | [] => false)
def mTg (c : Sc) : Tg → Expr → Bool
  | .nm i, e => (match vName e with
    | some (y, _) => stB c i y
    | none => false)
  | .tp is, e => (match vTuple e with
    | some (es, _, _) => mNms c is es
    | none => false)
def mTys (T : Tab) (sc : Scope) : List Ty → List Expr → Bool
  | [], xs => xs.isEmpty
  | t :: ts, xs => (match xs with
    | x :: xs => (match vName x with
      | some (y, _) => tyOk T sc y t && mTys T sc ts xs
      | none => false)
    | [] => false)
/-- a block's own names -/
def blkB (c : Sc) (scope : Scope) (own : List Nat) : Bool :=
  decide (scope.kind = .function) && scope.names.all (fun y => scope.names.lookup y.1 == some y.2) && own.all (fun i => decide (i < c.N.length)) &&
  scope.names.all (fun y => !(y.2 == .free) || c.sc.names.lookup y.1 == some .cell || c.sc.names.lookup y.1 == some .free) &&
  scope.names.all (fun y => !(y.2 == .local || y.2 == .cell) || (own.any fun i => c.N[i]? == some y.1) || !c.N.contains y.1)
def ownL (c : Sc) (own : List Nat) : List (Str × Nat) := own.map fun i => (c.N.getD i default, i)
def blkSc (c : Sc) (scope : Scope) : Sc := ⟨c.N, relS scope c.sc, fun x => scope.names.lookup x == some .local || scope.names.lookup x == some .cell⟩
/-- list(range(..)), tuple(range(..)): the range's arguments -/
def rgA (T : Tab) (c : Sc) (n : Str) (e : Expr) : Option (List Expr) := match vCall e with
    | some (f, [r], _) => (match vName f, vCall r with
      | some (g, _), some (h, xs, _) => (match vName h with
        | some (k, _) => if g == n && k == ("range" : Str) && glOk T c.sc n && glOk T c.sc "range" && noStar r && decide (xs.length ≤ 2) && !xs.isEmpty then some xs else none
        | none => none)
      | _, _ => none)
    | _ => none
mutual
def mE (T : Tab) (c : Sc) : Ex → Expr → Bool
  | .var i, e => varB c.N c.sc i e
  | .int i, e => cIntB i e
  | .bl b, e => cBlB b e
  | .str s, e => cStrB s e
  | .non, e => cNonB e
  | .con j, e => (match vName e with
    | some (x, _) => gnB c x (T.conN j) && T.hasK j
    | none => false)
  | .neg a, e => (match vUn e with
    | some (.USub, x, _) => mE T c a x
    | _ => false)
  | .bin op a b, e => (match vBin e with
    | some (x, o, y, _) => opB op o && mE T c a x && mE T c b y
    | none => false)
  | .cmp op a b, e => (match vCmp1 e with
    | some (x, o, y, _) => cpB op o && !behindInMarks o y && mE T c a x && mE T c b y
    | none => false)
  | .chain op op' a b d, e => (match vCmp2 e with
    | some (x, o, o', y, z, _) => cpB op o && cpB op' o' && !lastMarks [o, o'] [y, z] && mE T c a x && mE T c b y && mE T c d z
    | none => false)
  | .not a, e => (match vUn e with
    | some (.Not, x, _) => mE T c a x
    | _ => false)
  | .and es, e => (match vBool e with
    | some (.And, xs, _) => mEs T c es xs && !xs.isEmpty
    | _ => false)
  | .or es, e => (match vBool e with
    | some (.Or, xs, _) => mEs T c es xs && !xs.isEmpty
    | _ => false)
  | .ife t a b, e => (match vIf e with
    | some (x, y, z, _) => mT T c t x && mE T c a y && mE T c b z
    | none => false)
  | .tup es, e => (match vTuple e with
    | some (xs, _, _) => mEs T c es xs
    | none => false)
  | .lst es, e => (match vList e with
    | some (xs, _) => mEs T c es xs
    | none => false)
  | .dic kvs, e => (match vDict e with
    | some (ks, xs, _) => mKvs T c kvs ks xs
    | none => false)
  | .idx o i, e => (match vSub e with
    | some (x, y, _) => ixB y && mE T c o x && mE T c i y
    | none => false)
  | .sli o lo hi, e => (match lo, hi with
    | none, some (.int h) => (match vSub e with
      | some (x, y, _) => (match vSlice y with
        | some (none, some z, _) => mE T c o x && cIntB h z
        | _ => false)
      | none => false)
    | _, _ => false)
  | .fld o f, e => (match vAttr e with
    | some (x, g, _) => decide (f = g) && noCall x && mE T c o x
    | none => false)
  | .isi a t, e => (match vCall e with
    | some (f, [x, y], _) => (match vName f, vName y with
      | some (g, _), some (z, _) => g == ("isinstance" : Str) && glOk T c.sc "isinstance" && noStar x && tyOk T c.sc z t && mE T c a x
      | _, _ => false)
    | _ => false)
  | .isis a ts, e => (match vCall e with
    | some (f, [x, y], _) => (match vName f, vTuple y with
      | some (g, _), some (zs, _, _) => g == ("isinstance" : Str) && glOk T c.sc "isinstance" && noStar x && !ts.isEmpty && decide (ts.length ≤ 100) && mTys T c.sc ts zs && mE T c a x
      | _, _ => false)
    | _ => false)
  | .call j es, e => (match vCall e with
    | some (f, xs, _) => (match vName f with
      | some (g, _) => gnB c g (T.fnN j) && T.hasF j && xs.all noStar && mEs T c es xs
      | none => false)
    | none => false)
  | .mk j es, e => (match vCall e with
    | some (f, xs, _) => (match vName f with
      | some (g, _) => gnB c g (T.cls j) && T.hasM j && xs.all noStar && !xs.isEmpty && mEs T c es xs
      | none => false)
    | none => false)
  | .mth j m o es, e => (match vCall e with
    | some (f, xs, p) => (match vAttr f with
      | some (x, g, ap) => decide (g = T.mthN j m) && T.hasMt j m && noCall x && xs.all noStar && decide (xs.length < 30) && (ap.endLine == p.line) && mE T c o x && mEs T c es xs
      | none => false)
    | none => false)
  | .bi f es, e => (match vCall e with
    | some (g, xs, _) => (match vName g with
      | some (x, _) => decide (x = f.name) && glOk T c.sc x && xs.all noStar && !xs.isEmpty && mEs T c es xs
      | none => false)
    | none => false)
  | .lrng es, e => (match rgA T c "list" e with
    | some xs => mEs T c es xs
    | none => false)
  | .trng es, e => (match rgA T c "tuple" e with
    | some xs => mEs T c es xs
    | none => false)
  | .lc own tg it ifs elt, e => (match vLC e with
    | some (x, t, i, fs, scope, _) => blkB c scope own && (tgNames tg).all (fun i => own.contains i) && fsB i && mI T c it t i && mTg (blkSc c scope) tg t && mIf T (blkSc c scope) ifs fs && mE T (blkSc c scope) elt x
    | none => false)
def mKvs (T : Tab) (c : Sc) : List (Str × Ex) → List (Option Expr) → List Expr → Bool
  | [], ks, xs => ks.isEmpty && xs.isEmpty
  | (s, a) :: r, ks, xs => (match ks, xs with
    | [some k], [x] => cStrB s k && mE T c a x && r.isEmpty
    | _, _ => false)
def mEs (T : Tab) (c : Sc) : List Ex → List Expr → Bool
  | [], xs => xs.isEmpty
  | e :: es, xs => (match xs with
    | x :: xs => noStar x && mE T c e x && mEs T c es xs
    | [] => false)
def mT (T : Tab) (c : Sc) : Te → Expr → Bool
  | .val e, x => (tvB x && mE T c e x) || mTv T c e x
  | .not t, x => (match vUn x with
    | some (.Not, y, _) => mT T c t y
    | _ => false)
  | .and ts, x => (match vBool x with
    | some (.And, ys, _) => mTs T c ts ys && !ys.isEmpty
    | _ => false)
  | .or ts, x => (match vBool x with
    | some (.Or, ys, _) => mTs T c ts ys && !ys.isEmpty
    | _ => false)
/-- a comparison as a test -/
def mTv (T : Tab) (c : Sc) : Ex → Expr → Bool
  | .cmp op a b, e => (match vCmp1 e with
    | some (x, o, y, _) => cpB op o && !behindInMarks o y && mE T c a x && mE T c b y
    | none => false)
  | .chain op op' a b d, e => (match vCmp2 e with
    | some (x, o, o', y, z, _) => cpB op o && cpB op' o' && !lastMarks [o, o'] [y, z] && mE T c a x && mE T c b y && mE T c d z
    | none => false)
  | _, _ => false
def mTs (T : Tab) (c : Sc) : List Te → List Expr → Bool
  | [], xs => xs.isEmpty
  | e :: es, xs => (match xs with
    | x :: xs => mT T c e x && mTs T c es xs
    | [] => false)
def mIf (T : Tab) (c : Sc) : Option Te → List Expr → Bool
  | none, xs => xs.isEmpty
  | some t, xs => (match xs with
    | [x] => mT T c t x
    | _ => false)
def mI (T : Tab) (c : Sc) : It → Expr → Expr → Bool
  | .seq e, _, x => mE T c e x
  | .rng es, _, x => (match vCall x with
    | some (f, xs, _) => (match vName f with
      | some (g, _) => g == ("range" : Str) && glOk T c.sc "range" && mEs T c es xs && decide (xs.length ≤ 2) && !xs.isEmpty
      | none => false)
    | none => false)
  | .zip es, t, x => (match vCall x with
    | some (f, xs, _) => (match vName f with
      | some (g, _) => g == ("zip" : Str) && glOk T c.sc "zip" && mEs T c es xs && decide (xs.length = 2) && (vTuple t).isSome
      | none => false)
    | none => false)
  | .enum es, t, x => (match vCall x with
    | some (f, xs, _) => (match vName f with
      | some (g, _) => g == ("enumerate" : Str) && glOk T c.sc "enumerate" && mEs T c es xs && decide (xs.length = 1) && (vTuple t).isSome
      | none => false)
    | none => false)
end
end MP
end
section
set_option Elab.async false
set_option linter.all false
set_option maxRecDepth 100000
set_option maxHeartbeats 4000000
set_option autoImplicit false
namespace MP
open PySem PySem.Spec PyProof.Rows L2
inductive EsOk (X : Cx) (W : WX) (T : Tab) : List Ex → List Expr → Prop
  | nil : EsOk X W T [] []
  | cons {e : Ex} {es : List Ex} {x : Expr} {xs : List Expr} : PE X x (dT X.K W (wE T e)) → noStar x = true → EsOk X W T es xs → EsOk X W T (e :: es) (x :: xs)
inductive TsOk (X : Cx) (W : WX) (T : Tab) : List Te → List Expr → Prop
  | nil : TsOk X W T [] []
  | cons {e : Te} {es : List Te} {x : Expr} {xs : List Expr} : PT X x (dB X.K W (wT T e)) → TsOk X W T es xs → TsOk X W T (e :: es) (x :: xs)
section
variable {X : Cx} {W : WX} {T : Tab} {es : List Ex} {xs : List Expr} {ts : List Te} {pos : Pos}
theorem EsOk.len (h : EsOk X W T es xs) : es.length = xs.length := by
  induction h with
  | nil => rfl
  | cons _ _ _ ih => simp [ih]
theorem EsOk.dp (h : EsOk X W T es xs) : PA X xs (dP X.K W (wPut T es)) := by
  induction h with
  | nil => exact dp_nil
  | cons a b _ ih => exact dp_cons a ih b
theorem EsOk.dg (h : EsOk X W T es xs) : PA X xs (dG X.K W (wArg T es)) := by
  induction h with
  | nil => exact dg_nil
  | cons a b _ ih => exact dg_cons a ih b
theorem EsOk.da (h : EsOk X W T es xs) : PA X xs (dA X.K W (wLook T es)) := by
  induction h with
  | nil => exact da_nil
  | cons a b _ ih => exact da_cons a ih b
theorem EsOk.and (h : EsOk X W T es xs) (ne : xs ≠ []) : PE X (.BoolOp .And xs pos) (dT X.K W (wAnd T es)) := by
  induction h with
  | nil => exact absurd rfl ne
  | cons a b r ih =>
    cases r with
    | nil => exact de_one a
    | cons a2 b2 r2 => exact de_and a (ih (by simp))
theorem EsOk.or (h : EsOk X W T es xs) (ne : xs ≠ []) : PE X (.BoolOp .Or xs pos) (dT X.K W (wOr T es)) := by
  induction h with
  | nil => exact absurd rfl ne
  | cons a b r ih =>
    cases r with
    | nil => exact de_one a
    | cons a2 b2 r2 => exact de_or a (ih (by simp))
theorem dB_bool {w : DTw} {σ : L2.St} {H : Hp} {Q : Bool → Hp → Prop} (h : dB X.K W (fun ρ E Q => w ρ E fun c => if c = true then Q true else Q false) σ H Q) : dB X.K W w σ H Q := by
  obtain ⟨hd, F0, H0, F, ρ, E, Qd, S, h, k, x⟩ := h
  refine ⟨hd, F0, H0, F, ρ, E, _, S, h, fun b F1 H1 e1 h1 => k b F1 H1 e1 ?_, x⟩
  cases b with
  | true => simpa using h1
  | false => simpa using h1
theorem TsOk.and (h : TsOk X W T ts xs) (ne : xs ≠ []) : PW X (.BoolOp .And xs pos) (dB X.K W (wTAnd T ts)) := by
  induction h with
  | nil => exact absurd rfl ne
  | cons a r ih =>
    cases r with
    | nil => exact PW.imp (dt_and1 a) fun _ _ _ q => dB_bool q
    | cons a2 r2 => exact dt_and a (ih (by simp))
theorem TsOk.or (h : TsOk X W T ts xs) (ne : xs ≠ []) : PW X (.BoolOp .Or xs pos) (dB X.K W (wTOr T ts)) := by
  induction h with
  | nil => exact absurd rfl ne
  | cons a r ih =>
    cases r with
    | nil => exact PW.imp (dt_or1 a) fun _ _ _ q => dB_bool q
    | cons a2 r2 => exact dt_or a (ih (by simp))
end
theorem PTs.imp {X : Cx} {e : List Expr} {t t' : TT} (h : PTs X e t) (i : ∀ σ H Q, t' σ H Q → t σ H Q) : PTs X e t' := ⟨fun pins s σ H Q I q => h.run pins s σ H Q I (i _ _ _ q)⟩
/-! ### contexts -/
section
variable {T : Tab} {k : Nat} {c : Sc} {X : Cx} {W : WX}
theorem nmsOk (C : Ck T k c X W) : ∀ (is : List Nat) (es : List Expr), mNms c is es = true → NmsOk X es is
  | [], es, h => by
    cases es with
    | nil => exact .nil
    | cons _ _ => cases h
  | i :: is, es, h => by
    cases es with
    | nil => cases h
    | cons x xs =>
      unfold mNms at h
      cases hv : vName x with
      | none => simp only [hv] at h; cases h
      | some q =>
        obtain ⟨y, p⟩ := q
        simp only [hv, Bool.and_eq_true, stB, beq_iff_eq] at h
        obtain ⟨s1, s2⟩ := C.st y h.1.2
        exact .cons ⟨y, p, vName_eq hv, by rw [C.hN]; exact h.1.1, s1, s2⟩ (nmsOk C is xs h.2)
theorem mTg_ok (C : Ck T k c X W) (tg : Tg) (t : Expr) (h : mTg c tg t = true) : PG X t (dTg X.K tg) := by
  cases tg with
  | nm i =>
    unfold mTg at h
    cases hv : vName t with
    | none => simp only [hv] at h; cases h
    | some q =>
      obtain ⟨y, p⟩ := q
      simp only [hv, Bool.and_eq_true, stB, beq_iff_eq] at h
      rw [vName_eq hv]
      obtain ⟨s1, s2⟩ := C.st y h.2
      exact dg_nm C.nd (by rw [C.hN]; exact h.1) s1 s2
  | tp is =>
    unfold mTg at h
    cases hv : vTuple t with
    | none => simp only [hv] at h; cases h
    | some q =>
      obtain ⟨es, n, p⟩ := q
      simp only [hv] at h
      rw [vTuple_eq hv]
      exact dg_tp C.calm C.nd (nmsOk C is es h)
theorem relS_keep {scope sc : Scope} {x : Str} {kd : NameKind} (hk : kd ≠ .free) (h : scope.names.lookup x = some kd) : (relS scope sc).names.lookup x = some kd := lookup_relS_keep hk h
theorem Ck.blk (C : Ck T k c X W) {scope : Scope} {own : List Nat} (hb : blkB c scope own = true) (s : Shared) (H : Hp) (D : Addr) (cl : List (Str × Addr)) (fp : List Addr) : Ck T k (blkSc c scope) (X.blk s H scope (compEnvC scope cl D X.env) fp) WF := by
  unfold blkB at hb
  simp only [Bool.and_eq_true, decide_eq_true_eq] at hb
  have es : (X.blk s H scope (compEnvC scope cl D X.env) fp).env.scope = relS scope c.sc := by
    show relS scope X.env.scope = _
    rw [C.hs]
  refine { hN := C.hN, hs := es, st := fun x hx => ?_, kind := ?_, nd := C.nd, G := C.G, calm := C.calm, room := C.room, tk := takesF, fn := C.fn, mkk := C.mkk, mth := C.mth, ex := C.ex, eqs := C.eqs }
  · rw [es]
    have hx : (scope.names.lookup x == some .local || scope.names.lookup x == some .cell) = true := hx
    simp only [Bool.or_eq_true, beq_iff_eq] at hx
    rcases hx with hx | hx
    · have q := relS_keep (sc := c.sc) (by decide) hx
      exact ⟨.inl q, .inr q⟩
    · have q := relS_keep (sc := c.sc) (by decide) hx
      exact ⟨.inr q, .inl (by show (scope.names.lookup x == some .cell) = true; rw [hx]; rfl)⟩
  · rw [es]; exact hb.1.1.1.1
theorem ownL_snd (c : Sc) (own : List Nat) : (ownL c own).map (·.2) = own := by unfold ownL; rw [List.map_map]; simp [Function.comp_def]
theorem blkOk (C : Ck T k c X W) {scope : Scope} {own : List Nat} (hb : blkB c scope own = true) : BlkOk X.N X.env.scope scope (ownL c own) := by
  unfold blkB at hb
  simp only [Bool.and_eq_true, decide_eq_true_eq, List.all_eq_true, beq_iff_eq, Bool.or_eq_true, Bool.not_eq_true', List.any_eq_true] at hb
  obtain ⟨⟨⟨⟨h1, h2⟩, h3⟩, h4⟩, h5⟩ := hb
  rw [C.hs, C.hN]
  refine ⟨h1, h2, fun p hp => ?_, fun y hy e => ?_, fun y hy e => ?_⟩
  · unfold ownL at hp
    obtain ⟨i, hi, rfl⟩ := List.mem_map.mp hp
    have hl := h3 i hi
    simp [List.getD_eq_getElem?_getD, hl]
  · rcases h4 y hy with (z | z) | z
    · rw [e] at z; simp at z
    · exact .inl z
    · exact .inr z
  · rcases h5 y hy with (z | ⟨i, hi, z⟩) | z
    · rcases e with e | e <;> rw [e] at z <;> simp at z
    · refine .inl (List.mem_map.mpr ⟨_, List.mem_map.mpr ⟨i, hi, rfl⟩, ?_⟩)
      simp [List.getD_eq_getElem?_getD, z]
    · exact .inr (by simpa using z)
theorem glOk' (C : Ck T k c X W) {x : Str} (h : glOk T c.sc x = true) : glOk T X.env.scope x = true := by rw [C.hs]; exact h
theorem mTys_ok (C : Ck T k c X W) : ∀ (ts : List Ty) (es : List Expr), mTys T c.sc ts es = true → es.length = ts.length ∧ ∀ p ∈ es.zip ts, ∃ x pp, p.1 = .Name x pp ∧ tyOk T X.env.scope x p.2 = true
  | [], es, h => by
    cases es with
    | nil => exact ⟨rfl, fun p hp => by simp at hp⟩
    | cons _ _ => cases h
  | t :: ts, es, h => by
    cases es with
    | nil => cases h
    | cons x xs =>
      unfold mTys at h
      cases hv : vName x with
      | none => simp only [hv] at h; cases h
      | some q =>
        obtain ⟨y, p⟩ := q
        simp only [hv, Bool.and_eq_true] at h
        obtain ⟨h1, h2⟩ := mTys_ok C ts xs h.2
        refine ⟨by simp [h1], fun p hp => ?_⟩
        rw [List.zip_cons_cons] at hp
        rcases List.mem_cons.mp hp with rfl | hp
        · exact ⟨y, _, vName_eq hv, by rw [C.hs]; exact h.1⟩
        · exact h2 p hp
theorem units_of {k : Nat} {A : Around} (r : Room k A) : A.units + 64 < cLine := Nat.lt_of_le_of_lt (Nat.add_le_add_left (by omega) _) r.units
end
end MP
end
section
set_option Elab.async false
set_option linter.all false
set_option maxRecDepth 100000
set_option maxHeartbeats 4000000
set_option autoImplicit false
namespace MP
open PySem PySem.Spec PyProof.Rows L2
section
variable {T : Tab} {k : Nat}
theorem rg_end {K : Frag} {hd : Hd} {H F1 H1 : Hp} {ρ : Rho} {σ : L2.St} {lo : Int} {n : Nat} : RpAll K F1 ((List.range n).map fun (i : Nat) => V.int (lo + i)) (rangeD lo n) := by
  unfold rangeD
  induction List.range n with
  | nil => exact .nil
  | cons a l ih => exact .cons (.int _) ih
theorem rgV_eq (a b : Int) : rgV a b = (List.range (b - a).toNat).map fun (i : Nat) => V.int (a + i) := rfl
theorem wh1 {x : EV} {Q : List D → Prop} (h : wholeW [x] Q) : ∃ j, x = .fz (.int j) ∧ RgOk 0 j ∧ Q (rangeD 0 j.toNat) := by
  unfold wholeW at h
  split at h
  · rename_i j e
    cases e
    exact ⟨_, rfl, h⟩
  · rename_i e; cases e
  · exact h.elim
theorem wh2 {x y : EV} {Q : List D → Prop} (h : wholeW [x, y] Q) : ∃ i j, x = .fz (.int i) ∧ y = .fz (.int j) ∧ RgOk i j ∧ Q (rangeD i (j - i).toNat) := by
  unfold wholeW at h
  split at h
  · rename_i e; cases e
  · rename_i e
    cases e
    exact ⟨_, _, rfl, rfl, h⟩
  · exact h.elim
theorem rpI {K : Frag} {hd : Hd} {H F' H' : Hp} {ρ : Rho} {σ : L2.St} {v : V} {i : Int} (h : RpE K hd H F' H' ρ σ v (.fz (.int i))) : v = .int i := by
  have q : Rp K F' v (.int i) := h
  cases q; rfl
/-- what a range's arguments give -/
theorem rg_read {X : Cx} {W : WX} {e : Expr} {es : List Ex} {xs : List Expr} {p pos : Pos} (G : KFacts X.K X.mg T) (h0 : glOk T X.env.scope "range" = true) (hE : EsOk X W T es xs) (hl : xs.length ≤ 2) (ne : xs ≠ []) (he : e = .Call (.Name "range" p) xs [] pos) :
    ∃ te, PRg X e te ∧ ∀ σ H (Q : Int → Int → Hp → Prop), (∃ (hd : Hd) (F0 H0 F : Hp) (ρ : Rho) (E : Exn → Prop) (Qd : List D → Prop), StOk X.K hd F0 H0 F H ρ σ ∧ wLook T es ρ E (fun xs => wholeW xs Qd) ∧ (∀ a b F1 H1, Ev X.K hd F H F1 H1 → RgOk a b → Qd (rangeD a (b - a).toNat) → Q a b H1) ∧ XT X.K W hd F H σ E) → te σ H Q := by
  obtain ⟨hg, hm⟩ := glOk_of G h0
  subst he
  cases hE with
  | nil => exact absurd rfl ne
  | cons a na r =>
    cases r with
    | nil =>
      refine ⟨_, prg_1 hg hm a (star_one na), fun σ H Q ⟨hd, F0, H0, F, ρ, E, Qd, S, h, kk, x⟩ => ⟨hd, F0, H0, F, ρ, E, fun x => wholeW [x] Qd, S, h, fun v F1 H1 r e1 q1 h1 => ?_, x⟩⟩
      obtain ⟨j, rfl, hr, hq⟩ := wh1 h1
      exact ⟨j, rpI q1, kk 0 j F1 H1 e1 hr (by simpa using hq)⟩
    | cons b nb r2 =>
      cases r2 with
      | nil =>
        refine ⟨_, prg_2 hg hm a b (star_one na) (star_one nb) (by rw [star_one nb]; rfl), fun σ H Q ⟨hd, F0, H0, F, ρ, E, Qd, S, h, kk, x⟩ => ⟨hd, F0, H0, F, ρ, E, _, S, h, fun v F1 H1 r e1 q1 h1 => ?_, x⟩⟩
        refine ⟨hd, F0, H0, F1, ρ, E, fun y => wholeW [r, y] Qd, S.step e1, h1, fun u F2 H2 r2 e2 q2 h2 => ?_, x.step e1⟩
        obtain ⟨i, j, rfl, rfl, hr, hq⟩ := wh2 h2
        exact ⟨i, j, rpI q1, rpI q2, kk i j F2 H2 (e1.trans e2) hr hq⟩
      | cons c nc r3 => simp at hl
theorem rgA_of {c : Sc} {n : Str} {e : Expr} {xs : List Expr} (h : rgA T c n e = some xs) : ∃ p q r pos, e = .Call (.Name n p) [.Call (.Name "range" q) xs [] r] [] pos ∧ glOk T c.sc n = true ∧ glOk T c.sc "range" = true ∧ xs.length ≤ 2 ∧ xs ≠ [] := by
  unfold rgA at h
  split at h
  · rename_i f r pos hv
    split at h
    · rename_i g p hh xs' pos' hv1 hv2
      split at h
      · rename_i kk p3 hv3
        split at h
        · rename_i hc
          simp only [Bool.and_eq_true, beq_iff_eq, decide_eq_true_eq, Bool.not_eq_true', List.isEmpty_eq_false_iff] at hc
          cases h
          obtain ⟨⟨⟨⟨⟨⟨c1, c2⟩, c3⟩, c4⟩, c5⟩, c6⟩, c7⟩ := hc
          have e1 := vCall_eq hv
          have e2 := vName_eq hv1
          have e3 := vCall_eq hv2
          have e4 := vName_eq hv3
          subst e4 e3 e2 e1 c1 c2
          exact ⟨_, _, _, _, rfl, c3, c4, c6, c7⟩
        · cases h
      · cases h
    · cases h
  · cases h
theorem de_lrng {X : Cx} {W : WX} {es : List Ex} {xs : List Expr} {p q r pos : Pos} (hc : X.calm = true) (G : KFacts X.K X.mg T) (h1 : glOk T X.env.scope "list" = true) (h0 : glOk T X.env.scope "range" = true) (hE : EsOk X W T es xs) (hl : xs.length ≤ 2) (ne : xs ≠ []) :
    PE X (.Call (.Name "list" p) [.Call (.Name "range" q) xs [] r] [] pos) (dT X.K W fun ρ E Q => wLook T es ρ E fun xs => wholeW xs fun ds => Q (.ow (.lst ds))) := by
  obtain ⟨hg, hm⟩ := glOk_of G h1
  obtain ⟨te, h2, h3⟩ := rg_read (p := q) (pos := r) G h0 hE hl ne rfl
  refine PE.imp (pe_listRg hc hg hm h2 rfl) fun σ H Q ⟨hd, F0, H0, F, ρ, E, Qd, S, h, kk, x⟩ => h3 σ H _ ⟨hd, F0, H0, F, ρ, E, _, S, h, fun a b F1 H1 e1 hr hq => ⟨hr, fun l nl => ?_⟩, x⟩
  obtain ⟨e3, nf, nh⟩ := Ev.new (u := .lst (rgV a b)) e1.sub e1.hok nl
  exact kk _ F1 _ (.ow (.lst (rangeD a (b - a).toNat))) (e1.trans e3) ⟨l, rfl, e1.fresh S.sub nl, nf, nh, ⟨_, upd_same, by rw [rgV_eq]; exact rg_end (hd := hd) (H := H) (H1 := H1) (ρ := ρ) (σ := σ)⟩, rfl⟩ hq
theorem de_trng {X : Cx} {W : WX} {es : List Ex} {xs : List Expr} {p q r pos : Pos} (hc : X.calm = true) (G : KFacts X.K X.mg T) (h1 : glOk T X.env.scope "tuple" = true) (h0 : glOk T X.env.scope "range" = true) (hE : EsOk X W T es xs) (hl : xs.length ≤ 2) (ne : xs ≠ []) :
    PE X (.Call (.Name "tuple" p) [.Call (.Name "range" q) xs [] r] [] pos) (dT X.K W fun ρ E Q => wLook T es ρ E fun xs => wholeW xs fun ds => Q (.fz (.tup ds))) := by
  obtain ⟨hg, hm⟩ := glOk_of G h1
  obtain ⟨te, h2, h3⟩ := rg_read (p := q) (pos := r) G h0 hE hl ne rfl
  refine PE.imp (pe_tupRg hc hg hm h2 rfl) fun σ H Q ⟨hd, F0, H0, F, ρ, E, Qd, S, h, kk, x⟩ => h3 σ H _ ⟨hd, F0, H0, F, ρ, E, _, S, h, fun a b F1 H1 e1 hr hq => ⟨hr, fun l nl => ?_⟩, x⟩
  have e3 := Ev.newF (u := .tup (rgV a b)) e1.sub e1.hok nl
  refine kk _ _ _ (.fz (.tup (rangeD a (b - a).toNat))) (e1.trans e3) (.tup (.of upd_same) ?_) hq
  have z : RpAll X.K F1 (rgV a b) (rangeD a (b - a).toNat) := by rw [rgV_eq]; exact rg_end (hd := hd) (H := H) (H1 := H1) (ρ := ρ) (σ := σ)
  exact z.mono e3.ff
theorem dt_chain {X : Cx} {W : WX} {a b c : Expr} {wa wb wc : DW} {pos : Pos} {op op' : CmpOp} {r r' : R2} {f f' : D → D → (EV → Prop) → Prop} (ho : OpR X (compareOp op) r) (ho' : OpR X (compareOp op') r') (hr : OpD X.K r f) (hr' : OpD X.K r' f') (ha : PE X a (dT X.K W wa)) (hb : PE X b (dT X.K W wb)) (hc : PE X c (dT X.K W wc))
    (hm : lastMarks [op, op'] [b, c] = false) :
    PT X (.Compare a [op, op'] [b, c] pos) (dB X.K W fun ρ E Q => (wa ρ E fun x => wb ρ E fun y => x ≠ .hnd ∧ y ≠ .hnd ∧ f x.d y.d fun r => boolW r fun t => if t = true then wc ρ E fun z => z ≠ .hnd ∧ f' y.d z.d fun u => boolW u Q else boolW (.fz (.bl false)) Q)) := by
  refine PT.imp (pt_chain ho ho' ha hb hc hm) fun σ H Q h => test_of (X := X) (W := W) (w := fun ρ E Q => wa ρ E fun x => wb ρ E fun y => x ≠ .hnd ∧ y ≠ .hnd ∧ f x.d y.d fun r => boolW r fun t => if t = true then wc ρ E fun z => z ≠ .hnd ∧ f' y.d z.d Q else Q (.fz (.bl false))) (fun σ H Q q => ?_) h
  obtain ⟨hd, F0, H0, F, ρ, E, Qd, S, h, k, x⟩ := q
  refine ⟨hd, F0, H0, F, ρ, E, _, S, h, fun v F1 H1 r1 e1 q1 h1 => ?_, x⟩
  refine ⟨hd, F0, H0, F1, ρ, E, _, S.step e1, h1, fun u F2 H2 r2 e2 q2 ⟨n1, n2, hf⟩ => ?_, x.step e1⟩
  have S2 := (S.step e1).step e2
  refine hr hd F2 H2 v u r1.d r2.d _ _ S2.sub S2.ev.hok ((q1.step e2 e1.hok).seen S2 n1) (q2.seen S2 n2) hf fun v3 F3 H3 r3 e3 q3 h3 => ?_
  obtain ⟨t, et, h4⟩ := boolW_of h3
  subst et
  have ev : v3 = .bl t := rpE_bl (ρ := ρ) (σ := σ) q3.e
  refine ⟨t, ev, ?_⟩
  have e123 := (e1.trans e2).trans e3
  cases t with
  | false =>
    simp only [Bool.false_eq_true, if_false] at h4 ⊢
    exact k _ F3 H3 (.fz (.bl false)) e123 (rpE_fz (.bl _)) h4
  | true =>
    simp only [if_true] at h4 ⊢
    have S3 := S2.step e3
    refine ⟨hd, F0, H0, F3, ρ, E, _, S3, h4, fun z F4 H4 r4 e4 q4 ⟨n4, h5⟩ => ?_, x.step e123⟩
    have S4 := S3.step e4
    refine hr' hd F4 H4 u z r2.d r4.d Qd Q S4.sub S4.ev.hok (((q2.step e3 e2.hok).step e4 e3.hok).seen S4 n2) (q4.seen S4 n4) h5 fun v' F' H' r e q hq => ?_
    exact k v' F' H' r ((e123.trans e4).trans e) (q.e.back fun a n => (e123.trans e4).fresh S.sub n) hq
end
end MP
end
section
set_option Elab.async false
set_option linter.all false
set_option maxRecDepth 100000
set_option maxHeartbeats 4000000
set_option autoImplicit false
namespace MP
open PySem PySem.Spec PyProof.Rows L2
theorem bk_of {x : Expr} {r : List Expr} (h : (x :: r).all noStar = true) (pos : Pos) (env : Env) : (backTo pos (starEach r env)).any (fun x => x.1) = false := by
  simp only [List.all_cons, Bool.and_eq_true] at h
  exact back_any (noStars h.2)
section
variable {T : Tab} {k : Nat}
mutual
theorem mE_ok : ∀ (e : Ex) {c : Sc} {X : Cx} {W : WX} (x : Expr), Ck T k c X W → mE T c e x = true → PE X x (dT X.K W (wE T e))
  | .var i, c, X, W, x, C, h => by
    unfold mE at h
    rw [← C.hN, ← C.hs] at h
    obtain ⟨y, p, rfl, h1, h2, h3, h4⟩ := varB_of h
    exact de_var h1 h2 h3 h4 T
  | .int i, c, X, W, x, C, h => by
    unfold mE at h
    obtain ⟨j, p, rfl⟩ := cIntB_of h
    exact de_c pe_int fun _ => .int i
  | .bl i, c, X, W, x, C, h => by
    unfold mE at h
    obtain ⟨j, p, rfl⟩ := cBlB_of h
    exact de_c pe_bl fun _ => .bl i
  | .str i, c, X, W, x, C, h => by
    unfold mE at h
    obtain ⟨j, p, rfl⟩ := cStrB_of h
    exact de_c pe_str fun _ => .str i
  | .non, c, X, W, x, C, h => by
    unfold mE at h
    obtain ⟨j, p, rfl⟩ := cNonB_of h
    exact de_c pe_non fun _ => .non
  | .con j, c, X, W, x, C, h => by
    unfold mE at h
    cases hv : vName x with
    | none => simp only [hv] at h; cases h
    | some q =>
      obtain ⟨y, p⟩ := q
      simp only [hv, Bool.and_eq_true] at h
      rw [vName_eq hv]
      obtain ⟨g1, g2, g3⟩ := gnB_of h.1
      obtain ⟨v, u, m1, m2, m3⟩ := C.G.con j h.2
      subst g1
      exact de_c (pe_glob (by show X.env.scope.names.lookup _ = _; rw [C.hs]; exact g2) m1 m2 g3) m3
  | .neg a, c, X, W, x, C, h => by
    unfold mE at h
    cases hv : vUn x with
    | none => simp only [hv] at h; cases h
    | some q =>
      obtain ⟨op, y, p⟩ := q
      rw [vUn_eq hv]
      cases op with
      | USub => simp only [hv] at h; exact de_neg (mE_ok a y C h)
      | _ => simp only [hv] at h; cases h
  | .bin op a b, c, X, W, x, C, h => by
    unfold mE at h
    cases hv : vBin x with
    | none => simp only [hv] at h; cases h
    | some q =>
      obtain ⟨y, o, z, p⟩ := q
      simp only [hv, Bool.and_eq_true] at h
      rw [vBin_eq hv]
      obtain ⟨r, r1, r2⟩ := opB_ok (X := X) h.1.1
      exact de_bin r1 r2 (mE_ok a y C h.1.2) (mE_ok b z C h.2)
  | .cmp op a b, c, X, W, x, C, h => by
    unfold mE at h
    cases hv : vCmp1 x with
    | none => simp only [hv] at h; cases h
    | some q =>
      obtain ⟨y, o, z, p⟩ := q
      simp only [hv, Bool.and_eq_true, Bool.not_eq_true'] at h
      rw [vCmp1_eq hv]
      obtain ⟨r, r1, r2⟩ := cpB_ok (X := X) (T := T) C.room C.eqs h.1.1.1
      exact de_cmp r1 r2 (mE_ok a y C h.1.2) (mE_ok b z C h.2) h.1.1.2
  | .chain op op' a b d, c, X, W, x, C, h => by
    unfold mE at h
    cases hv : vCmp2 x with
    | none => simp only [hv] at h; cases h
    | some q =>
      obtain ⟨y, o, o', z, z', p⟩ := q
      simp only [hv, Bool.and_eq_true, Bool.not_eq_true'] at h
      rw [vCmp2_eq hv]
      obtain ⟨r, r1, r2⟩ := cpB_ok (X := X) (T := T) C.room C.eqs h.1.1.1.1.1
      obtain ⟨s, s1, s2⟩ := cpB_ok (X := X) (T := T) C.room C.eqs h.1.1.1.1.2
      exact de_chain r1 s1 r2 s2 (mE_ok a y C h.1.1.2) (mE_ok b z C h.1.2) (mE_ok d z' C h.2) h.1.1.1.2
  | .not a, c, X, W, x, C, h => by
    unfold mE at h
    cases hv : vUn x with
    | none => simp only [hv] at h; cases h
    | some q =>
      obtain ⟨op, y, p⟩ := q
      rw [vUn_eq hv]
      cases op with
      | Not => simp only [hv] at h; exact de_not (mE_ok a y C h)
      | _ => simp only [hv] at h; cases h
  | .and es, c, X, W, x, C, h => by
    unfold mE at h
    cases hv : vBool x with
    | none => simp only [hv] at h; cases h
    | some q =>
      obtain ⟨op, xs, p⟩ := q
      rw [vBool_eq hv]
      cases op with
      | And =>
        simp only [hv, Bool.and_eq_true, Bool.not_eq_true', List.isEmpty_eq_false_iff] at h
        exact (mEs_ok es xs C h.1).and h.2
      | Or => simp only [hv] at h; cases h
  | .or es, c, X, W, x, C, h => by
    unfold mE at h
    cases hv : vBool x with
    | none => simp only [hv] at h; cases h
    | some q =>
      obtain ⟨op, xs, p⟩ := q
      rw [vBool_eq hv]
      cases op with
      | Or =>
        simp only [hv, Bool.and_eq_true, Bool.not_eq_true', List.isEmpty_eq_false_iff] at h
        exact (mEs_ok es xs C h.1).or h.2
      | And => simp only [hv] at h; cases h
  | .ife t a b, c, X, W, x, C, h => by
    unfold mE at h
    cases hv : vIf x with
    | none => simp only [hv] at h; cases h
    | some q =>
      obtain ⟨y, z, z', p⟩ := q
      simp only [hv, Bool.and_eq_true] at h
      rw [vIf_eq hv]
      exact de_ife (mT_ok t y C h.1.1) (mE_ok a z C h.1.2) (mE_ok b z' C h.2)
  | .tup es, c, X, W, x, C, h => by
    unfold mE at h
    cases hv : vTuple x with
    | none => simp only [hv] at h; cases h
    | some q =>
      obtain ⟨xs, n, p⟩ := q
      simp only [hv] at h
      rw [vTuple_eq hv]
      exact de_tup (mEs_ok es xs C h).dp
  | .lst es, c, X, W, x, C, h => by
    unfold mE at h
    cases hv : vList x with
    | none => simp only [hv] at h; cases h
    | some q =>
      obtain ⟨xs, p⟩ := q
      simp only [hv] at h
      rw [vList_eq hv]
      exact de_lst (mEs_ok es xs C h).dp
  | .dic kvs, c, X, W, x, C, h => by
    unfold mE at h
    cases hv : vDict x with
    | none => simp only [hv] at h; cases h
    | some q =>
      obtain ⟨ks, xs, p⟩ := q
      simp only [hv] at h
      rw [vDict_eq hv]
      match kvs, h with
      | [], h =>
        unfold mKvs at h
        simp only [Bool.and_eq_true, List.isEmpty_iff] at h
        rw [h.1, h.2]
        exact de_dic0
      | [(s, a)], h =>
        unfold mKvs at h
        match ks, xs, h with
        | [some kx], [y], h =>
          simp only [Bool.and_eq_true] at h
          obtain ⟨j, p2, rfl⟩ := cStrB_of h.1.1
          exact de_dic1 (mE_ok a y C h.1.2)
      | (s, a) :: b :: r, h =>
        unfold mKvs at h
        match ks, xs, h with
        | [some kx], [y], h => simp at h
  | .idx o i, c, X, W, x, C, h => by
    unfold mE at h
    cases hv : vSub x with
    | none => simp only [hv] at h; cases h
    | some q =>
      obtain ⟨y, z, p⟩ := q
      simp only [hv, Bool.and_eq_true] at h
      rw [vSub_eq hv]
      exact de_idx ix_seq opd_item (mE_ok o y C h.1.2) (mE_ok i z C h.2) (ixB_ok h.1.1)
  | .fld o f, c, X, W, x, C, h => by
    unfold mE at h
    cases hv : vAttr x with
    | none => simp only [hv] at h; cases h
    | some q =>
      obtain ⟨y, g, p⟩ := q
      simp only [hv, Bool.and_eq_true, decide_eq_true_eq] at h
      rw [vAttr_eq hv]
      obtain ⟨⟨e1, e2⟩, e3⟩ := h
      subst e1
      exact de_fld C.G (mE_ok o y C e3) e2
  | .isi a t, c, X, W, x, C, h => by
    unfold mE at h
    cases hv : vCall x with
    | none => simp only [hv] at h; cases h
    | some q =>
      obtain ⟨f, es, p⟩ := q
      simp only [hv] at h
      rw [vCall_eq hv]
      match es, h with
      | [y, z], h =>
        cases h1 : vName f with
        | none => simp only [h1] at h; cases h
        | some q1 =>
          cases h2 : vName z with
          | none => simp only [h1, h2] at h; cases h
          | some q2 =>
            obtain ⟨g, p1⟩ := q1
            obtain ⟨z', p2⟩ := q2
            simp only [h1, h2, Bool.and_eq_true, beq_iff_eq] at h
            obtain ⟨⟨⟨⟨c1, c2⟩, c3⟩, c4⟩, c5⟩ := h
            rw [vName_eq h1, vName_eq h2]
            subst c1
            exact de_isi C.G (mE_ok a y C c5) c3 (glOk' C c2) (by rw [C.hs]; exact c4)
  | .isis a ts, c, X, W, x, C, h => by
    unfold mE at h
    cases hv : vCall x with
    | none => simp only [hv] at h; cases h
    | some q =>
      obtain ⟨f, es, p⟩ := q
      simp only [hv] at h
      rw [vCall_eq hv]
      match es, h with
      | [y, z], h =>
        cases h1 : vName f with
        | none => simp only [h1] at h; cases h
        | some q1 =>
          cases h2 : vTuple z with
          | none => simp only [h1, h2] at h; cases h
          | some q2 =>
            obtain ⟨g, p1⟩ := q1
            obtain ⟨zs, n, p2⟩ := q2
            simp only [h1, h2, Bool.and_eq_true, beq_iff_eq, Bool.not_eq_true', List.isEmpty_eq_false_iff, decide_eq_true_eq] at h
            obtain ⟨⟨⟨⟨⟨⟨c1, c2⟩, c3⟩, c4⟩, c5⟩, c6⟩, c7⟩ := h
            rw [vName_eq h1, vTuple_eq h2]
            subst c1
            exact de_isis C.G (mE_ok a y C c7) c3 (glOk' C c2) c4 (mTys_ok C ts zs c6) c5
  | .call j es, c, X, W, x, C, h => by
    unfold mE at h
    cases hv : vCall x with
    | none => simp only [hv] at h; cases h
    | some q =>
      obtain ⟨f, xs, p⟩ := q
      simp only [hv] at h
      rw [vCall_eq hv]
      cases h1 : vName f with
      | none => simp only [h1] at h; cases h
      | some q1 =>
        obtain ⟨g, p1⟩ := q1
        simp only [h1, Bool.and_eq_true] at h
        rw [vName_eq h1]
        obtain ⟨⟨⟨c1, c2⟩, c3⟩, c4⟩ := h
        obtain ⟨g1, g2, g3⟩ := gnB_of c1
        have E := mEs_ok es xs C c4
        have gl : Gl X g := by show X.env.scope.names.lookup _ = _; rw [C.hs]; exact g2
        cases E with
        | nil => exact de_call0 (C.fn j c2) C.room C.tk g1 gl g3
        | cons a na r => exact de_call (C.fn j c2) C.room C.tk (EsOk.cons a na r).dg na g1 gl g3 fun pos => bk_of c3 pos _
  | .mk j es, c, X, W, x, C, h => by
    unfold mE at h
    cases hv : vCall x with
    | none => simp only [hv] at h; cases h
    | some q =>
      obtain ⟨f, xs, p⟩ := q
      simp only [hv] at h
      rw [vCall_eq hv]
      cases h1 : vName f with
      | none => simp only [h1] at h; cases h
      | some q1 =>
        obtain ⟨g, p1⟩ := q1
        simp only [h1, Bool.and_eq_true, Bool.not_eq_true', List.isEmpty_eq_false_iff] at h
        rw [vName_eq h1]
        obtain ⟨⟨⟨⟨c1, c2⟩, c3⟩, c5⟩, c4⟩ := h
        obtain ⟨g1, g2, g3⟩ := gnB_of c1
        have E := mEs_ok es xs C c4
        have gl : Gl X g := by show X.env.scope.names.lookup _ = _; rw [C.hs]; exact g2
        cases E with
        | nil => exact absurd rfl c5
        | cons a na r => exact de_mk (C.mkk j c2) C.room C.tk (EsOk.cons a na r).dg na g1 gl g3 fun pos => bk_of c3 pos _
  | .mth j m o es, c, X, W, x, C, h => by
    unfold mE at h
    cases hv : vCall x with
    | none => simp only [hv] at h; cases h
    | some q =>
      obtain ⟨f, xs, p⟩ := q
      simp only [hv] at h
      rw [vCall_eq hv]
      cases h1 : vAttr f with
      | none => simp only [h1] at h; cases h
      | some q1 =>
        obtain ⟨y, g, ap⟩ := q1
        simp only [h1, Bool.and_eq_true, decide_eq_true_eq] at h
        rw [vAttr_eq h1]
        obtain ⟨⟨⟨⟨⟨⟨⟨c1, c2⟩, c3⟩, c4⟩, c5⟩, c6⟩, c7⟩, c8⟩ := h
        subst c1
        have E := mEs_ok es xs C c8
        cases E with
        | nil => exact de_mth0 (C.mth j m c2) C.room C.tk (mE_ok o y C c7) c3 c6
        | cons a na r => exact de_mth (C.mth j m c2) C.room C.tk (mE_ok o y C c7) (EsOk.cons a na r).dg c3 c4 c5 c6
  | .bi f es, c, X, W, x, C, h => by
    unfold mE at h
    cases hv : vCall x with
    | none => simp only [hv] at h; cases h
    | some q =>
      obtain ⟨g, xs, p⟩ := q
      simp only [hv] at h
      rw [vCall_eq hv]
      cases h1 : vName g with
      | none => simp only [h1] at h; cases h
      | some q1 =>
        obtain ⟨y, p1⟩ := q1
        simp only [h1, Bool.and_eq_true, decide_eq_true_eq, Bool.not_eq_true', List.isEmpty_eq_false_iff] at h
        rw [vName_eq h1]
        obtain ⟨⟨⟨⟨c1, c2⟩, c3⟩, c4⟩, c5⟩ := h
        have E := mEs_ok es xs C c5
        cases E with
        | nil => exact absurd rfl c4
        | cons a na r => exact de_bi C.G C.calm (EsOk.cons a na r).da na (glOk' C c2) c1 fun pos => bk_of c3 pos _
  | .lrng es, c, X, W, x, C, h => by
    unfold mE at h
    cases hv : rgA T c "list" x with
    | none => simp only [hv] at h; cases h
    | some xs =>
      simp only [hv] at h
      obtain ⟨p, q, r, pos, rfl, g1, g2, g3, g4⟩ := rgA_of hv
      exact de_lrng C.calm C.G (glOk' C g1) (glOk' C g2) (mEs_ok es xs C h) g3 g4
  | .trng es, c, X, W, x, C, h => by
    unfold mE at h
    cases hv : rgA T c "tuple" x with
    | none => simp only [hv] at h; cases h
    | some xs =>
      simp only [hv] at h
      obtain ⟨p, q, r, pos, rfl, g1, g2, g3, g4⟩ := rgA_of hv
      exact de_trng C.calm C.G (glOk' C g1) (glOk' C g2) (mEs_ok es xs C h) g3 g4
  | .lc own tg it ifs elt, c, X, W, x, C, h => by
    unfold mE at h
    cases hv : vLC x with
    | none => simp only [hv] at h; cases h
    | some q =>
      obtain ⟨y, t, i, fs, scope, p⟩ := q
      simp only [hv, Bool.and_eq_true, List.all_eq_true, List.contains_iff_mem] at h
      rw [vLC_eq hv]
      obtain ⟨⟨⟨⟨⟨⟨c1, c2⟩, c3⟩, c4⟩, c5⟩, c6⟩, c7⟩ := h
      have e := ownL_snd c own
      have z := de_lc (W := W) (pos := p) (own := ownL c own) (tgd := tg) C.calm C.nd (mI_ok it t i C c4) (blkOk C c1) (fun s H D cl fp => mTg_ok (C.blk c1 s H D cl fp) tg t c5) (fun s H D cl fp => mIf_ok ifs fs (C.blk c1 s H D cl fp) c6) (fun s H D cl fp => mE_ok elt y (C.blk c1 s H D cl fp) c7) (fsB_ok c3) (fun i hi => by rw [e]; exact c2 i hi)
      rw [e] at z
      exact z
  | .sli o (some _) _, c, X, W, x, C, h => by unfold mE at h; cases h
  | .sli o none none, c, X, W, x, C, h => by unfold mE at h; cases h
  | .sli o none (some e), c, X, W, x, C, h => by
    unfold mE at h
    cases e with
    | int hi =>
      cases hv : vSub x with
      | none => simp only [hv] at h; cases h
      | some q =>
        obtain ⟨y, z, p⟩ := q
        simp only [hv] at h
        rw [vSub_eq hv]
        cases hs : vSlice z with
        | none => simp only [hs] at h; cases h
        | some q2 =>
          obtain ⟨lo, u, p2⟩ := q2
          simp only [hs] at h
          match lo, u, h, hs with
          | none, some z', h, hs =>
            simp only [Bool.and_eq_true] at h
            rw [vSlice_eq hs]
            obtain ⟨j, p3, rfl⟩ := cIntB_of h.2
            exact de_slic (lo := 0) (i2 := 0) (p3 := p) (mE_ok o y C h.1)
    | _ => cases h
theorem mEs_ok : ∀ (es : List Ex) {c : Sc} {X : Cx} {W : WX} (xs : List Expr), Ck T k c X W → mEs T c es xs = true → EsOk X W T es xs
  | [], c, X, W, xs, C, h => by
    cases xs with
    | nil => exact .nil
    | cons _ _ => cases h
  | e :: es, c, X, W, xs, C, h => by
    cases xs with
    | nil => cases h
    | cons x xs =>
      unfold mEs at h
      simp only [Bool.and_eq_true] at h
      exact .cons (mE_ok e x C h.1.2) h.1.1 (mEs_ok es xs C h.2)
theorem mT_ok : ∀ (t : Te) {c : Sc} {X : Cx} {W : WX} (x : Expr), Ck T k c X W → mT T c t x = true → PT X x (dB X.K W (wT T t))
  | .val e, c, X, W, x, C, h => by
    unfold mT at h
    simp only [Bool.or_eq_true, Bool.and_eq_true] at h
    rcases h with h | h
    · exact dt_val (mE_ok e x C h.2) (tvB_ok h.1)
    · cases e with
      | cmp op a b =>
        unfold mTv at h
        cases hv : vCmp1 x with
        | none => simp only [hv] at h; cases h
        | some q =>
          obtain ⟨y, o, z, p⟩ := q
          simp only [hv, Bool.and_eq_true, Bool.not_eq_true'] at h
          rw [vCmp1_eq hv]
          obtain ⟨r, r1, r2⟩ := cpB_ok (X := X) (T := T) C.room C.eqs h.1.1.1
          exact dt_cmp r1 r2 (mE_ok a y C h.1.2) (mE_ok b z C h.2) h.1.1.2
      | chain op op' a b d =>
        unfold mTv at h
        cases hv : vCmp2 x with
        | none => simp only [hv] at h; cases h
        | some q =>
          obtain ⟨y, o, o', z, z', p⟩ := q
          simp only [hv, Bool.and_eq_true, Bool.not_eq_true'] at h
          rw [vCmp2_eq hv]
          obtain ⟨r, r1, r2⟩ := cpB_ok (X := X) (T := T) C.room C.eqs h.1.1.1.1.1
          obtain ⟨s, s1, s2⟩ := cpB_ok (X := X) (T := T) C.room C.eqs h.1.1.1.1.2
          exact dt_chain r1 s1 r2 s2 (mE_ok a y C h.1.1.2) (mE_ok b z C h.1.2) (mE_ok d z' C h.2) h.1.1.1.2
      | _ => cases h
  | .not t, c, X, W, x, C, h => by
    unfold mT at h
    cases hv : vUn x with
    | none => simp only [hv] at h; cases h
    | some q =>
      obtain ⟨op, y, p⟩ := q
      rw [vUn_eq hv]
      cases op with
      | Not => simp only [hv] at h; exact dt_not (mT_ok t y C h)
      | _ => simp only [hv] at h; cases h
  | .and ts, c, X, W, x, C, h => by
    unfold mT at h
    cases hv : vBool x with
    | none => simp only [hv] at h; cases h
    | some q =>
      obtain ⟨op, xs, p⟩ := q
      rw [vBool_eq hv]
      cases op with
      | And =>
        simp only [hv, Bool.and_eq_true, Bool.not_eq_true', List.isEmpty_eq_false_iff] at h
        exact ((mTs_ok ts xs C h.1).and h.2).pt
      | Or => simp only [hv] at h; cases h
  | .or ts, c, X, W, x, C, h => by
    unfold mT at h
    cases hv : vBool x with
    | none => simp only [hv] at h; cases h
    | some q =>
      obtain ⟨op, xs, p⟩ := q
      rw [vBool_eq hv]
      cases op with
      | Or =>
        simp only [hv, Bool.and_eq_true, Bool.not_eq_true', List.isEmpty_eq_false_iff] at h
        exact ((mTs_ok ts xs C h.1).or h.2).pt
      | And => simp only [hv] at h; cases h
theorem mTs_ok : ∀ (ts : List Te) {c : Sc} {X : Cx} {W : WX} (xs : List Expr), Ck T k c X W → mTs T c ts xs = true → TsOk X W T ts xs
  | [], c, X, W, xs, C, h => by
    cases xs with
    | nil => exact .nil
    | cons _ _ => cases h
  | e :: es, c, X, W, xs, C, h => by
    cases xs with
    | nil => cases h
    | cons x xs =>
      unfold mTs at h
      simp only [Bool.and_eq_true] at h
      exact .cons (mT_ok e x C h.1) (mTs_ok es xs C h.2)
theorem mIf_ok : ∀ (t : Option Te) {c : Sc} {X : Cx} {W : WX} (xs : List Expr), Ck T k c X W → mIf T c t xs = true → PTs X xs (dB X.K W (wIf T t))
  | none, c, X, W, xs, C, h => by
    cases xs with
    | nil => exact PTs.imp pts_nil fun σ H Q ⟨hd, F0, H0, F, ρ, E, Qd, S, h, kk, x⟩ => kk true F H (.refl S.sub S.ev.hok) h
    | cons _ _ => cases h
  | some t, c, X, W, xs, C, h => by
    match xs, h with
    | [x], h => exact pts_one (mT_ok t x C h)
theorem mI_ok : ∀ (i : It) {c : Sc} {X : Cx} {W : WX} (t x : Expr), Ck T k c X W → mI T c i t x = true → PI X t x (dI X.K W (wI T i))
  | .seq e, c, X, W, t, x, C, h => di_seq (mE_ok e x C h)
  | .rng es, c, X, W, t, x, C, h => by
    unfold mI at h
    cases hv : vCall x with
    | none => simp only [hv] at h; cases h
    | some q =>
      obtain ⟨f, xs, p⟩ := q
      simp only [hv] at h
      rw [vCall_eq hv]
      cases h1 : vName f with
      | none => simp only [h1] at h; cases h
      | some q1 =>
        obtain ⟨g, p1⟩ := q1
        simp only [h1, Bool.and_eq_true, beq_iff_eq, decide_eq_true_eq, Bool.not_eq_true', List.isEmpty_eq_false_iff] at h
        rw [vName_eq h1]
        obtain ⟨⟨⟨⟨c1, c2⟩, c3⟩, c4⟩, c5⟩ := h
        subst c1
        have E := mEs_ok es xs C c3
        cases E with
        | nil => exact absurd rfl c5
        | cons a na r =>
          cases r with
          | nil => exact di_rng1 C.G (glOk' C c2) a na
          | cons b nb r2 =>
            cases r2 with
            | nil => exact di_rng2 C.G (glOk' C c2) a b na nb
            | cons _ _ _ => simp at c4
  | .zip es, c, X, W, t, x, C, h => by
    unfold mI at h
    cases hv : vCall x with
    | none => simp only [hv] at h; cases h
    | some q =>
      obtain ⟨f, xs, p⟩ := q
      simp only [hv] at h
      rw [vCall_eq hv]
      cases h1 : vName f with
      | none => simp only [h1] at h; cases h
      | some q1 =>
        obtain ⟨g, p1⟩ := q1
        simp only [h1, Bool.and_eq_true, beq_iff_eq, decide_eq_true_eq] at h
        rw [vName_eq h1]
        obtain ⟨⟨⟨⟨c1, c2⟩, c3⟩, c4⟩, c5⟩ := h
        subst c1
        cases ht : vTuple t with
        | none => rw [ht] at c5; cases c5
        | some q2 =>
          obtain ⟨tes, n, tp⟩ := q2
          rw [vTuple_eq ht]
          have E := mEs_ok es xs C c3
          cases E with
          | nil => cases c4
          | cons a na r =>
            cases r with
            | nil => cases c4
            | cons b nb r2 =>
              cases r2 with
              | nil => exact di_zip C.G (glOk' C c2) (EsOk.cons a na (.cons b nb .nil)).dg na nb
              | cons _ _ _ => simp at c4
  | .enum es, c, X, W, t, x, C, h => by
    unfold mI at h
    cases hv : vCall x with
    | none => simp only [hv] at h; cases h
    | some q =>
      obtain ⟨f, xs, p⟩ := q
      simp only [hv] at h
      rw [vCall_eq hv]
      cases h1 : vName f with
      | none => simp only [h1] at h; cases h
      | some q1 =>
        obtain ⟨g, p1⟩ := q1
        simp only [h1, Bool.and_eq_true, beq_iff_eq, decide_eq_true_eq] at h
        rw [vName_eq h1]
        obtain ⟨⟨⟨⟨c1, c2⟩, c3⟩, c4⟩, c5⟩ := h
        subst c1
        cases ht : vTuple t with
        | none => rw [ht] at c5; cases c5
        | some q2 =>
          obtain ⟨tes, n, tp⟩ := q2
          rw [vTuple_eq ht]
          have E := mEs_ok es xs C c3
          cases E with
          | nil => cases c4
          | cons a na r =>
            cases r with
            | nil => exact di_enum C.G (glOk' C c2) (EsOk.cons a na .nil).dg na
            | cons _ _ _ => simp at c4
end
end
end MP
end
section
set_option Elab.async false
set_option linter.all false
set_option maxRecDepth 100000
set_option maxHeartbeats 4000000
set_option autoImplicit false
namespace MP
open PySem PySem.Spec PyProof.Rows L2
theorem starM : ∀ e : Expr, noStar e = true → (match e with | .Starred .. => true | _ => false) = false := fun e h => by
  cases e with
  | Starred => cases h
  | _ => rfl
theorem swap2 {env : Env} {x y : Str} {px py pt pt2 : Pos} {kt k2 : Nat} {a b : Expr} (hk : env.scope.kind = .function) (hx : env.scope.names.lookup x = some .local) (hy : env.scope.names.lookup y = some .local) (hp : (py.line == px.line) = true) (hne : (x == y) = false)
    (ha : noStar a = true) (hb : noStar b = true) (hf : (foldedForSure 8 a && foldedForSure 8 b) = false) (hc : (constantsAlone 8 a && constantsAlone 8 b) = false) :
    swappedStores [.Tuple [.Name x px, .Name y py] kt pt] (.Tuple [a, b] k2 pt2) env = pure (some [x, y]) := by
  have kx : env.kindOf x = some .local := hx
  have ky : env.kindOf y = some .local := hy
  have hbk : env.blockKind = .function := by unfold Env.blockKind; rw [hk]; rfl
  have hyx : (y == x) = false := by
    rw [beq_eq_false_iff_ne] at hne ⊢
    exact fun e => hne e.symm
  have hfa : ([a, b].all (foldedForSure 8)) = false := by simpa using hf
  have hca : ([a, b].all (constantsAlone 8)) = false := by simpa using hc
  have hpe : py.line = px.line := by simpa using hp
  have hnx : ¬ (x = y) := by simpa using hne
  have hnx' : ¬ (y = x) := fun e => hnx e.symm
  unfold swappedStores
  simp only [hbk, hfa, hca, pure_bind]
  simp [kx, ky, hpe, Expr.pos, List.eraseDups, List.eraseDupsBy, List.eraseDupsBy.loop, hnx, hnx', hyx]
  rintro (h | h)
  · cases a with
    | Starred => cases ha
    | _ => cases h
  · cases b with
    | Starred => cases hb
    | _ => cases h
theorem swapN {tg e : Expr} {env : Env} (h : vTuple e = none) : swappedStores [tg] e env = pure none := by
  unfold swappedStores
  cases tg <;> cases e <;> first | rfl | cases h
theorem swapLen {ts vs : List Expr} {k k2 : Nat} {p p2 : Pos} {env : Env} (h : (!(ts.length == 2 || ts.length == 3) || vs.length != ts.length) = true) : swappedStores [.Tuple ts k p] (.Tuple vs k2 p2) env = pure none := by
  unfold swappedStores
  simp only [pure_bind]
  rw [if_pos (by rw [h]; rfl)]
end MP
end
section
set_option Elab.async false
set_option linter.all false
set_option maxRecDepth 100000
set_option maxHeartbeats 4000000
set_option autoImplicit false
namespace MP
open PySem PySem.Spec PyProof.Rows L2
/-! ### looks at statements -/
def vExpr : Stmt → Option (Expr × Pos) | .Expr e p => some (e, p) | _ => none
def vPass : Stmt → Bool | .Pass _ => true | _ => false
def vRet : Stmt → Option (Option Expr × Pos) | .Return e p => some (e, p) | _ => none
def vAsg : Stmt → Option (Expr × Expr × Pos) | .Assign [t] e p => some (t, e, p) | _ => none
def vAug : Stmt → Option (Expr × Operator × Expr × Pos) | .AugAssign t op e p => some (t, op, e, p) | _ => none
def vIfS : Stmt → Option (Expr × List Stmt × List Stmt × Pos) | .If c a b p => some (c, a, b, p) | _ => none
def vWhile : Stmt → Option (Expr × List Stmt × Pos) | .While c b [] p => some (c, b, p) | _ => none
def vFor : Stmt → Option (Expr × Expr × List Stmt × Pos) | .For t i b [] p => some (t, i, b, p) | _ => none
def vBrk : Stmt → Bool | .Break _ => true | _ => false
def vCont : Stmt → Bool | .Continue _ => true | _ => false
def vRaise : Stmt → Option (Expr × Pos) | .Raise (some e) none p => some (e, p) | _ => none
def vTry : Stmt → Option (List Stmt × List ExceptHandler × Pos) | .Try b hs [] [] p => some (b, hs, p) | _ => none
section
variable {s : Stmt}
theorem vExpr_eq {e : Expr} {p : Pos} (h : vExpr s = some (e, p)) : s = .Expr e p := by cases s <;> first | (cases h; rfl) | cases h
theorem vPass_eq (h : vPass s = true) : ∃ p, s = .Pass p := by cases s <;> first | exact ⟨_, rfl⟩ | cases h
theorem vBrk_eq (h : vBrk s = true) : ∃ p, s = .Break p := by cases s <;> first | exact ⟨_, rfl⟩ | cases h
theorem vCont_eq (h : vCont s = true) : ∃ p, s = .Continue p := by cases s <;> first | exact ⟨_, rfl⟩ | cases h
theorem vRet_eq {e : Option Expr} {p : Pos} (h : vRet s = some (e, p)) : s = .Return e p := by cases s <;> first | (cases h; rfl) | cases h
theorem vAsg_eq {t e : Expr} {p : Pos} (h : vAsg s = some (t, e, p)) : s = .Assign [t] e p := by
  cases s with
  | Assign ts v p' =>
    match ts, h with
    | [x], h => cases h; rfl
  | _ => cases h
theorem vAug_eq {t e : Expr} {op : Operator} {p : Pos} (h : vAug s = some (t, op, e, p)) : s = .AugAssign t op e p := by cases s <;> first | (cases h; rfl) | cases h
theorem vIfS_eq {c : Expr} {a b : List Stmt} {p : Pos} (h : vIfS s = some (c, a, b, p)) : s = .If c a b p := by cases s <;> first | (cases h; rfl) | cases h
theorem vWhile_eq {c : Expr} {b : List Stmt} {p : Pos} (h : vWhile s = some (c, b, p)) : s = .While c b [] p := by
  cases s with
  | While t bd el p' =>
    match el, h with
    | [], h => cases h; rfl
  | _ => cases h
theorem vFor_eq {t i : Expr} {b : List Stmt} {p : Pos} (h : vFor s = some (t, i, b, p)) : s = .For t i b [] p := by
  cases s with
  | For tt it bd el p' =>
    match el, h with
    | [], h => cases h; rfl
  | _ => cases h
theorem vRaise_eq {e : Expr} {p : Pos} (h : vRaise s = some (e, p)) : s = .Raise (some e) none p := by
  cases s with
  | Raise a b p' =>
    match a, b, h with
    | some x, none, h => cases h; rfl
  | _ => cases h
theorem vTry_eq {b : List Stmt} {hs : List ExceptHandler} {p : Pos} (h : vTry s = some (b, hs, p)) : s = .Try b hs [] [] p := by
  cases s with
  | Try bd hh el fi p' =>
    match el, fi, h with
    | [], [], h => cases h; rfl
  | _ => cases h
end
/-- a, b = x, y -/
def parB (c : Sc) (i j : Nat) (x y : Str) (px py : Pos) (a b : Expr) : Bool :=
  c.N[i]? == some x && c.N[j]? == some y && c.sc.names.lookup x == some .local && c.sc.names.lookup y == some .local && !(i == j) && (py.line == px.line) && !(x == y) && noStar a && noStar b && !(foldedForSure 8 a && foldedForSure 8 b) && !(constantsAlone 8 a && constantsAlone 8 b)
def swB (tg e : Expr) : Bool := match vTuple e with
  | none => true
  | some (vs, _, _) => (match vTuple tg with
    | some (ts, _, _) => !(ts.length == 2 || ts.length == 3) || vs.length != ts.length
    | none => false)
theorem swB_ok {tg e : Expr} {env : Env} (h : swB tg e = true) : swappedStores [tg] e env = pure none := by
  unfold swB at h
  cases hv : vTuple e with
  | none => exact swapN hv
  | some q =>
    obtain ⟨vs, k, p⟩ := q
    simp only [hv] at h
    cases ht : vTuple tg with
    | none => simp only [ht] at h; cases h
    | some q2 =>
      obtain ⟨ts, k2, p2⟩ := q2
      simp only [ht] at h
      rw [vTuple_eq hv, vTuple_eq ht]
      exact swapLen h
/-- a comprehension stored on its line -/
def lcSetB (c : Sc) (y : Str) (py : Pos) (e : Expr) : Bool := match vLC e with
  | some (_, _, _, _, scope, p) => c.sc.names.lookup y == some .local && (py.line == p.line) && !(scope.names.any fun (n, k) => n == y && (k == .local || k == .cell))
  | none => false
def isLc : Ex → Bool
  | .lc .. => true
  | _ => false
def isFrz : St → Bool
  | .frz _ => true
  | _ => false
mutual
def mS (T : Tab) (c : Sc) : St → Stmt → Bool
  | .skip, s => vPass s
  | .expr e, s => (match vExpr s with
    | some (x, _) => plainV x && mE T c e x
    | none => false)
  | .set i e, s => (match vAsg s with
    | some (t, x, _) => (match vName t with
      | some (y, p) => stB c i y && mE T c e x && (plainV x || (isLc e && lcSetB c y p x))
      | none => false)
    | none => false)
  | .unp is e, s => (match vAsg s with
    | some (t, x, _) => mTg c (.tp is) t && plainV x && swB t x && mE T c e x
    | none => false)
  | .par i j a b, s => (match vAsg s with
    | some (t, v, _) => (match vTuple t, vTuple v with
      | some ([x, y], _, _), some ([u, w], _, _) => (match vName x, vName y with
        | some (nx, px), some (ny, py) => parB c i j nx ny px py u w && mE T c a u && mE T c b w
        | _, _ => false)
      | _, _ => false)
    | none => false)
  | .aug i op e, s => (match vAug s with
    | some (t, o, x, _) => (match vName t with
      | some (y, _) => stB c i y && mE T c e x && (match op, o with
        | .add, .Add => true
        | .sub, .Sub => true
        | _, _ => false)
      | none => false)
    | none => false)
  | .app i e, s => (match vExpr s with
    | some (x, _) => (match vCall x with
      | some (f, [y], cp) => (match vAttr f with
        | some (o, g, ap) => varB c.N c.sc i o && g == ("append" : Str) && (ap.endLine == cp.line) && noStar y && mE T c e y
        | none => false)
      | _ => false)
    | none => false)
  | .ret e, s => (match vRet s with
    | some (some x, _) => mE T c e x
    | _ => false)
  | .retN, s => (match vRet s with
    | some (none, _) => true
    | _ => false)
  | .ife t a b, s => (match vIfS s with
    | some (x, p, q, _) => mT T c t x && mSs T c a p && mSs T c b q
    | none => false)
  | .whil t b, s => (match vWhile s with
    | some (x, p, _) => mT T c t x && mSs T c b p
    | none => false)
  | .forr tg it b, s => (match vFor s with
    | some (t, x, p, _) => mTg c tg t && mI T c it t x && fsB x && mSs T c b p
    | none => false)
  | .brk, s => vBrk s
  | .cont, s => vCont s
  | .rais j e, s => (match vRaise s with
    | some (x, _) => (match vCall x with
      | some (f, xs, _) => (match vName f with
        | some (g, _) => gnB c g (T.cls j) && T.hasE j && (match e, xs with
          | none, [] => true
          | some e, [y] => (T.exc j).isSome && noStar y && mE T c e y
          | _, _ => false)
        | none => false)
      | none => false)
    | none => false)
  | .frz _, _ => false
  | .setf i f e, s => (match vAsg s with
    | some (t, x, _) => (match vAttr t with
      | some (o, g, _) => decide (f = g) && varB c.N c.sc i o && plainV x && mE T c e x
      | none => false)
    | none => false)
  | .seti i j e, s => (match vAsg s with
    | some (t, x, _) => (match vSub t with
      | some (o, y, _) => varB c.N c.sc i o && ixB y && plainV x && mE T c j y && mE T c e x
      | none => false)
    | none => false)
  | .tryy b hs, s => (match vTry s with
    | some (p, es, _) => mSs T c b p && mHds c.N c.sc T hs es && !es.isEmpty
    | none => false)
def mSs (T : Tab) (c : Sc) : List St → List Stmt → Bool
  | [], ss => ss.isEmpty
  | s :: r, ss => if isFrz s = true then mSs T c r ss else (match ss with
    | t :: ts => mS T c s t && mSs T c r ts
    | [] => false)
end
end MP
end
section
set_option Elab.async false
set_option linter.all false
set_option maxRecDepth 100000
set_option maxHeartbeats 4000000
set_option autoImplicit false
namespace MP
open PySem PySem.Spec PyProof.Rows L2
/-- .. for statements -/
structure CkS (T : Tab) (k : Nat) (c : Sc) (X : Cx) (W : WX) : Prop extends Ck T k c X W where
  own : PassesOwn (model X.prog X.w) X.A X.env X.xe
  stk : X.stack = X.env :: X.outer
  frm : X.env.frame = some X.env.locals
section
variable {T : Tab} {k : Nat} {c : Sc} {X : Cx} {W : WX}
theorem CkS.tr (C : CkS T k c X W) {W' : WX} {pn : List (Addr × Obj)} {xe : Value → Shared → Prop} (tk : Takes (X.tr pn xe) W') (po : PassesOwn (model X.prog X.w) X.A X.env xe) : CkS T k c (X.tr pn xe) W' where
  hN := C.hN
  hs := C.hs
  st := C.st
  kind := C.kind
  nd := C.nd
  G := C.G
  calm := C.calm
  room := C.room
  tk := tk
  fn := C.fn
  mkk := C.mkk
  mth := C.mth
  ex := C.ex
  eqs := C.eqs
  own := po
  stk := C.stk
  frm := C.frm
theorem ds_setLc {i : Nat} {y : Str} {py pos spos : Pos} {tgx elt iter : Expr} {ifs : List Expr} {scope : Scope} {own : List (Str × Nat)} {tgd : Tg} {wi : DIw} {tt : DTw} {te : DW} (hc : X.calm = true) (hN : X.N.Nodup) (hy : X.N[i]? = some y) (hyl : X.env.scope.names.lookup y = some .local)
    (hsw : swapsWith (.ListComp elt [⟨tgx, iter, ifs, 0⟩] scope pos) (some (.Name y py)) spos.line X.env = pure true) (hi : PI X tgx iter (dI X.K W wi)) (ok : BlkOk X.N X.env.scope scope own)
    (hg : ∀ (s : Shared) (H : Hp) (C : Addr) (cl : List (Str × Addr)) (fp : List Addr), PG (X.blk s H scope (compEnvC scope cl C X.env) fp) tgx (dTg X.K tgd)) (ht : ∀ (s : Shared) (H : Hp) (C : Addr) (cl : List (Str × Addr)) (fp : List Addr), PTs (X.blk s H scope (compEnvC scope cl C X.env) fp) ifs (dB X.K WF tt))
    (he : ∀ (s : Shared) (H : Hp) (C : Addr) (cl : List (Str × Addr)) (fp : List Addr), PE (X.blk s H scope (compEnvC scope cl C X.env) fp) elt (dT X.K WF te)) (hs : ∀ x, foldedSetIterable iter X.env x = pure x) (hw : ∀ i ∈ tgNames tgd, i ∈ own.map (·.2)) :
    PS X (.Assign [.Name y py] (.ListComp elt [⟨tgx, iter, ifs, 0⟩] scope pos) spos) (dS X.K W fun ρ D => (fun ρ _ Q => wi ρ (fun _ => False) fun ds => lcW tgd (fun ρ1 k => tt ρ1 (fun _ => False) k) (fun ρ1 k => te ρ1 (fun _ => False) k) (wipeR ρ (own.map (·.2))) ds [] fun acc => Q (.ow (.lst acc)) : DW) ρ (D.ex ρ) fun x => x.keep fun s => D.nx (ρ.set i (some s))) :=
  PS.imp (ps_setLc hc hN hy hyl hsw hi ok hg ht he hs) fun Ed σ H ⟨hd, F0, H0, F, ρ, D, S, h, k⟩ => lc_imp hw σ H _ ⟨hd, F0, H0, F, ρ, D.ex ρ, _, S, h, fun v F1 H1 r e1 q1 h1 => by
    obtain ⟨s, S2, h2⟩ := S.keep e1 q1 i h1
    exact k.nx _ _ _ _ S2 h2, k.ex _ _ _ _ S⟩
theorem ds_try {body : List Stmt} {h₀ : ExceptHandler} {es : List ExceptHandler} {hs : List Hdl} {pos : Pos} {wb : Rho → Wd → Prop} (C : CkS T k c X W) (hh : mHds X.N X.env.scope T hs (h₀ :: es) = true)
    (hb : ∀ (W' : WX) (pn : List (Addr × Obj)) (xe : Value → Shared → Prop), Takes (X.tr pn xe) W' → PassesOwn (model X.prog X.w) X.A X.env xe → PSs (X.tr pn xe) body (dS X.K W' wb)) :
    PS X (.Try body (h₀ :: es) [] [] pos) (dS X.K W fun ρ D => wb ρ { D with ex := fun ρ' x => handW T hs ρ' x D }) :=
  PS.imp (ps_try_gen C.nd C.stk C.frm C.tk hb (hdg_ok C.G C.nd hs _ hh)) fun Ed σ H ⟨hd, F0, H0, F, ρ, D, S, h, k⟩ =>
    ⟨hd, F0, H0, F, ρ, _, S, h, ⟨k.nx, k.bk, k.ct, k.rt, fun F' H' ρ' σ' S' => xt_hand C.G k S' hs⟩⟩
end
theorem swapsSole_of {v t : Expr} {l : Nat} {env : Env} (h : plainV v = true) : swapsWithSole [t] v l env = pure false := swaps_of h
section
variable {T : Tab} {k : Nat}
mutual
theorem mS_ok : ∀ (s : St) {c : Sc} {X : Cx} {W : WX} (st : Stmt), CkS T k c X W → mS T c s st = true → PS X st (dS X.K W (wS T s))
  | .skip, c, X, W, st, C, h => by
    unfold mS at h
    obtain ⟨p, rfl⟩ := vPass_eq h
    exact ds_skip ps_pass
  | .expr e, c, X, W, st, C, h => by
    unfold mS at h
    cases hv : vExpr st with
    | none => simp only [hv] at h; cases h
    | some q =>
      obtain ⟨x, p⟩ := q
      simp only [hv, Bool.and_eq_true] at h
      rw [vExpr_eq hv]
      exact ds_expr (mE_ok e x C.toCk h.2) (swaps_of h.1)
  | .set i e, c, X, W, st, C, h => by
    unfold mS at h
    cases hv : vAsg st with
    | none => simp only [hv] at h; cases h
    | some q =>
      obtain ⟨t, x, p⟩ := q
      simp only [hv] at h
      rw [vAsg_eq hv]
      cases hn : vName t with
      | none => simp only [hn] at h; cases h
      | some q2 =>
        obtain ⟨y, py⟩ := q2
        simp only [hn, Bool.and_eq_true, Bool.or_eq_true, stB, beq_iff_eq] at h
        rw [vName_eq hn]
        obtain ⟨⟨⟨h1, h2⟩, h3⟩, h4⟩ := h
        obtain ⟨s1, s2⟩ := C.st y h2
        have hi : X.N[i]? = some y := by rw [C.hN]; exact h1
        rcases h4 with h4 | ⟨h4, h5⟩
        · exact ds_set C.nd hi s1 s2 (mE_ok e x C.toCk h3) (swaps_of h4)
        · cases e with
          | lc own tg it ifs elt =>
            unfold mE at h3
            unfold lcSetB at h5
            cases hl : vLC x with
            | none => simp only [hl] at h3; cases h3
            | some q3 =>
              obtain ⟨z, t', i', fs, scope, p'⟩ := q3
              simp only [hl, Bool.and_eq_true, List.all_eq_true, List.contains_iff_mem] at h3
              simp only [hl, Bool.and_eq_true, beq_iff_eq, Bool.not_eq_true'] at h5
              rw [vLC_eq hl]
              obtain ⟨⟨⟨⟨⟨⟨c1, c2⟩, c3⟩, c4⟩, c5⟩, c6⟩, c7⟩ := h3
              obtain ⟨⟨d1, d2⟩, d3⟩ := h5
              have e := ownL_snd c own
              have hyl : X.env.scope.names.lookup y = some .local := by rw [C.hs]; exact d1
              have z := ds_setLc (W := W) (spos := p) (pos := p') (py := py) (own := ownL c own) (tgd := tg) C.calm C.nd hi hyl (sw_true C.kind hyl (by simpa using d2) d3) (mI_ok it t' i' C.toCk c4) (blkOk C.toCk c1) (fun s H D cl fp => mTg_ok (C.toCk.blk c1 s H D cl fp) tg t' c5) (fun s H D cl fp => mIf_ok ifs fs (C.toCk.blk c1 s H D cl fp) c6) (fun s H D cl fp => mE_ok elt z (C.toCk.blk c1 s H D cl fp) c7) (fsB_ok c3) (fun i hi => by rw [e]; exact c2 i hi)
              rw [e] at z
              exact z
          | _ => cases h4
  | .unp is e, c, X, W, st, C, h => by
    unfold mS at h
    cases hv : vAsg st with
    | none => simp only [hv] at h; cases h
    | some q =>
      obtain ⟨t, x, p⟩ := q
      simp only [hv, Bool.and_eq_true] at h
      rw [vAsg_eq hv]
      obtain ⟨⟨⟨h1, h2⟩, h3⟩, h4⟩ := h
      refine ds_unp (mTg_ok C.toCk (.tp is) t h1) (mE_ok e x C.toCk h4) (swaps_of h2) (swB_ok h3) ?_
      unfold mTg at h1
      cases ht : vTuple t with
      | none => simp only [ht] at h1; cases h1
      | some q2 =>
        obtain ⟨es, n, p2⟩ := q2
        rw [vTuple_eq ht]
        rfl
  | .par i j a b, c, X, W, st, C, h => by
    unfold mS at h
    cases hv : vAsg st with
    | none => simp only [hv] at h; cases h
    | some q =>
      obtain ⟨t, v, p⟩ := q
      simp only [hv] at h
      rw [vAsg_eq hv]
      cases ht : vTuple t with
      | none => simp only [ht] at h; cases h
      | some q2 =>
        cases hu : vTuple v with
        | none =>
          obtain ⟨l, q2⟩ := q2
          simp only [ht, hu] at h
          cases h
        | some q3 =>
          obtain ⟨ts, n, pt⟩ := q2
          obtain ⟨vs, n2, pt2⟩ := q3
          rw [vTuple_eq ht, vTuple_eq hu]
          simp only [ht, hu] at h
          match ts, vs, h with
          | [x, y], [u, w], h =>
            cases hx : vName x with
            | none => simp only [hx] at h; cases h
            | some qx =>
              cases hy : vName y with
              | none => simp only [hx, hy] at h; cases h
              | some qy =>
                obtain ⟨nx, px⟩ := qx
                obtain ⟨ny, py⟩ := qy
                simp only [hx, hy, Bool.and_eq_true, parB, beq_iff_eq, Bool.not_eq_true', beq_eq_false_iff_ne] at h
                rw [vName_eq hx, vName_eq hy]
                obtain ⟨⟨⟨⟨⟨⟨⟨⟨⟨⟨⟨⟨h1, h2⟩, h3⟩, h4⟩, h5⟩, h6⟩, h7⟩, h8⟩, h9⟩, h10⟩, h11⟩, h12⟩, h13⟩ := h
                have hxl : X.env.scope.names.lookup nx = some .local := by rw [C.hs]; exact h3
                have hyl : X.env.scope.names.lookup ny = some .local := by rw [C.hs]; exact h4
                have z := ds_par (W := W) (pos := p) (kt := n) (k2 := n2) (pt := pt) (pt2 := pt2) (px := px) (py := py) C.calm C.nd (by rw [C.hN]; exact h1) (by rw [C.hN]; exact h2) h5 hxl hyl (dp_cons (mE_ok a u C.toCk h12) (dp_cons (mE_ok b w C.toCk h13) dp_nil h9) h8)
                  (swap2 C.kind hxl hyl (by simpa using h6) (beq_eq_false_iff_ne.mpr h7) h8 h9 h10 h11) rfl
                exact z
  | .aug i op e, c, X, W, st, C, h => by
    unfold mS at h
    cases hv : vAug st with
    | none => simp only [hv] at h; cases h
    | some q =>
      obtain ⟨t, o, x, p⟩ := q
      simp only [hv] at h
      rw [vAug_eq hv]
      cases hn : vName t with
      | none => simp only [hn] at h; cases h
      | some q2 =>
        obtain ⟨y, py⟩ := q2
        simp only [hn, Bool.and_eq_true, stB, beq_iff_eq] at h
        rw [vName_eq hn]
        obtain ⟨⟨⟨h1, h2⟩, h3⟩, h4⟩ := h
        obtain ⟨s1, s2⟩ := C.st y h2
        have hi : X.N[i]? = some y := by rw [C.hN]; exact h1
        cases op with
        | add => cases o <;> first | exact ds_augA C.nd hi s1 s2 (mE_ok e x C.toCk h3) | cases h4
        | sub => cases o <;> first | exact ds_augS C.nd hi s1 s2 (mE_ok e x C.toCk h3) | cases h4
        | _ => cases h4
  | .app i e, c, X, W, st, C, h => by
    unfold mS at h
    cases hv : vExpr st with
    | none => simp only [hv] at h; cases h
    | some q =>
      obtain ⟨x, p⟩ := q
      simp only [hv] at h
      rw [vExpr_eq hv]
      cases hc : vCall x with
      | none => simp only [hc] at h; cases h
      | some q2 =>
        obtain ⟨f, ys, cp⟩ := q2
        simp only [hc] at h
        rw [vCall_eq hc]
        match ys, h with
        | [y], h =>
          cases ha : vAttr f with
          | none => simp only [ha] at h; cases h
          | some q3 =>
            obtain ⟨o, g, ap⟩ := q3
            simp only [ha, Bool.and_eq_true] at h
            rw [vAttr_eq ha]
            obtain ⟨⟨⟨⟨h1, h2⟩, h3⟩, h4⟩, h5⟩ := h
            rw [← C.hN, ← C.hs] at h1
            obtain ⟨n, pn, rfl, v1, v2, v3, v4⟩ := varB_of h1
            rw [beq_iff_eq.mp h2]
            exact ds_app v1 v2 v3 v4 (mE_ok e y C.toCk h5) h4 h3
  | .ret e, c, X, W, st, C, h => by
    unfold mS at h
    cases hv : vRet st with
    | none => simp only [hv] at h; cases h
    | some q =>
      obtain ⟨x, p⟩ := q
      simp only [hv] at h
      rw [vRet_eq hv]
      cases x with
      | none => cases h
      | some x => exact ds_ret (mE_ok e x C.toCk h)
  | .retN, c, X, W, st, C, h => by
    unfold mS at h
    cases hv : vRet st with
    | none => simp only [hv] at h; cases h
    | some q =>
      obtain ⟨x, p⟩ := q
      simp only [hv] at h
      rw [vRet_eq hv]
      cases x with
      | none => exact ds_retN
      | some x => cases h
  | .ife t a b, c, X, W, st, C, h => by
    unfold mS at h
    cases hv : vIfS st with
    | none => simp only [hv] at h; cases h
    | some q =>
      obtain ⟨x, p, q, pp⟩ := q
      simp only [hv, Bool.and_eq_true] at h
      rw [vIfS_eq hv]
      exact ds_ife (mT_ok t x C.toCk h.1.1) (mSs_ok a p C h.1.2) (mSs_ok b q C h.2)
  | .whil t b, c, X, W, st, C, h => by
    unfold mS at h
    cases hv : vWhile st with
    | none => simp only [hv] at h; cases h
    | some q =>
      obtain ⟨x, p, pp⟩ := q
      simp only [hv, Bool.and_eq_true] at h
      rw [vWhile_eq hv]
      exact ds_whil C.own (mT_ok t x C.toCk h.1) (mSs_ok b p C h.2)
  | .forr tg it b, c, X, W, st, C, h => by
    unfold mS at h
    cases hv : vFor st with
    | none => simp only [hv] at h; cases h
    | some q =>
      obtain ⟨t, x, p, pp⟩ := q
      simp only [hv, Bool.and_eq_true] at h
      rw [vFor_eq hv]
      exact ds_forr C.own C.calm (mI_ok it t x C.toCk h.1.1.2) (mTg_ok C.toCk tg t h.1.1.1) (mSs_ok b p C h.2) (fsB_ok h.1.2)
  | .brk, c, X, W, st, C, h => by
    unfold mS at h
    obtain ⟨p, rfl⟩ := vBrk_eq h
    exact ds_brk
  | .cont, c, X, W, st, C, h => by
    unfold mS at h
    obtain ⟨p, rfl⟩ := vCont_eq h
    exact ds_ct
  | .rais j e, c, X, W, st, C, h => by
    unfold mS at h
    cases hv : vRaise st with
    | none => simp only [hv] at h; cases h
    | some q =>
      obtain ⟨x, p⟩ := q
      simp only [hv] at h
      rw [vRaise_eq hv]
      cases hc : vCall x with
      | none => simp only [hc] at h; cases h
      | some q2 =>
        obtain ⟨f, xs, cp⟩ := q2
        simp only [hc] at h
        rw [vCall_eq hc]
        cases hn : vName f with
        | none => simp only [hn] at h; cases h
        | some q3 =>
          obtain ⟨g, pg⟩ := q3
          simp only [hn, Bool.and_eq_true] at h
          rw [vName_eq hn]
          obtain ⟨⟨h1, h2⟩, h3⟩ := h
          obtain ⟨g1, g2, g3⟩ := gnB_of h1
          have gl : Gl X g := by show X.env.scope.names.lookup _ = _; rw [C.hs]; exact g2
          match e, xs, h3 with
          | none, [], _ => exact ds_rais0 (C.ex j h2) C.calm C.room g1 gl g3 C.tk
          | some e, [y], h3 =>
            simp only [Bool.and_eq_true] at h3
            exact ds_rais1 (C.ex j h2) C.calm C.room g1 gl g3 C.tk (mE_ok e y C.toCk h3.2) h3.1.2 (Option.isSome_iff_exists.mp h3.1.1)
  | .frz _, c, X, W, st, C, h => by unfold mS at h; cases h
  | .setf i f e, c, X, W, st, C, h => by
    unfold mS at h
    cases hv : vAsg st with
    | none => simp only [hv] at h; cases h
    | some q =>
      obtain ⟨t, x, p⟩ := q
      simp only [hv] at h
      rw [vAsg_eq hv]
      cases ha : vAttr t with
      | none => simp only [ha] at h; cases h
      | some q2 =>
        obtain ⟨o, g, ap⟩ := q2
        simp only [ha, Bool.and_eq_true, decide_eq_true_eq] at h
        rw [vAttr_eq ha]
        obtain ⟨⟨⟨h1, h2⟩, h3⟩, h4⟩ := h
        rw [← C.hN, ← C.hs] at h2
        obtain ⟨n, pn, rfl, v1, v2, v3, v4⟩ := varB_of h2
        subst h1
        exact ds_setf C.G v1 v2 v3 v4 (mE_ok e x C.toCk h4) (swaps_of h3)
  | .seti i j e, c, X, W, st, C, h => by
    unfold mS at h
    cases hv : vAsg st with
    | none => simp only [hv] at h; cases h
    | some q =>
      obtain ⟨t, x, p⟩ := q
      simp only [hv] at h
      rw [vAsg_eq hv]
      cases ha : vSub t with
      | none => simp only [ha] at h; cases h
      | some q2 =>
        obtain ⟨o, y, ap⟩ := q2
        simp only [ha, Bool.and_eq_true] at h
        rw [vSub_eq ha]
        obtain ⟨⟨⟨⟨h1, h2⟩, h3⟩, h4⟩, h5⟩ := h
        rw [← C.hN, ← C.hs] at h1
        obtain ⟨n, pn, rfl, v1, v2, v3, v4⟩ := varB_of h1
        exact ds_seti v1 v2 v3 v4 (mE_ok e x C.toCk h5) (mE_ok j y C.toCk h4) h2 (swapsSole_of h3)
  | .tryy b hs, c, X, W, st, C, h => by
    unfold mS at h
    cases hv : vTry st with
    | none => simp only [hv] at h; cases h
    | some q =>
      obtain ⟨p, es, pp⟩ := q
      simp only [hv, Bool.and_eq_true, Bool.not_eq_true', List.isEmpty_eq_false_iff] at h
      rw [vTry_eq hv]
      cases es with
      | nil => exact absurd rfl h.2
      | cons h₀ es =>
        have h2 := h.1.2
        rw [← C.hN, ← C.hs] at h2
        exact ds_try C h2 fun W' pn xe tk po => mSs_ok b p (C.tr tk po) h.1.1
theorem mSs_ok : ∀ (ss : List St) {c : Sc} {X : Cx} {W : WX} (sts : List Stmt), CkS T k c X W → mSs T c ss sts = true → PSs X sts (dS X.K W (wSs T ss))
  | [], c, X, W, sts, C, h => by
    cases sts with
    | nil => exact ds_nil
    | cons _ _ => cases h
  | s :: r, c, X, W, sts, C, h => by
    unfold mSs at h
    by_cases hf : isFrz s = true
    · rw [if_pos hf] at h
      cases s with
      | frz i => exact ds_frz (mSs_ok r sts C h)
      | _ => cases hf
    · rw [if_neg hf] at h
      cases sts with
      | nil => cases h
      | cons t ts =>
        simp only [Bool.and_eq_true] at h
        have z := ds_cons (mS_ok s t C h.1) (mSs_ok r ts C h.2)
        exact z
end
end
end MP
end
section
set_option Elab.async false
set_option linter.all false
set_option maxRecDepth 100000
set_option maxHeartbeats 4000000
set_option autoImplicit false
namespace MP
open PySem PySem.Spec PyProof.Rows L2
/-- the text's facts, what may be called -/
structure Kit (P : Program) (w : World) (K : Frag) (mg : Str → Option Value) (base : Heap) (T : Tab) (k : Nat) : Prop where
  G : KFacts K mg T
  fn : ∀ j, T.hasF j = true → FnAv P w K mg base T k j
  mkk : ∀ j, T.hasM j = true → MkAv P w K mg base T k j
  mth : ∀ j m, T.hasMt j m = true → MthAv P w K mg base T k j m
  ex : ∀ j, T.hasE j = true → ExAv P w K mg base T k j
  eqs : ∀ C, T.hasQ C = true → EqAv P w K mg base T k C
def scOf (N : List Str) (scope : Scope) : Sc := ⟨N, scope, fun x => scope.names.lookup x == some .local || scope.names.lookup x == some .cell⟩
/-- the slots at the entry -/
def rho0 (N : List Str) (ss : List SV) : Rho := ss.map some ++ List.replicate (N.length - ss.length) none
section
variable {P : Program} {w : World} {K : Frag} {mg : Str → Option Value} {base : Heap} {T : Tab} {k : Nat} {f : Addr} {fd : FuncData} {name qual : Str} {params : Arguments} {body : List Stmt} {scope : Scope} {N ps : List Str}
theorem ck_of {cdv : Value} {A : Around} {outer : List Env} {s : Shared} {H : Hp} {E : XK} (Y : Kit P w K mg base T k) (S : FnScope N ps scope) (hr : Room k (A.deeper (envOfC qual scope s.heap.objs.size f cdv))) :
    CkS T k (scOf N scope) (cxOf (L2.CX P w) P w K mg base N qual scope f cdv A outer s H E) (fun cls d _ H => E cls d H) where
  hN := rfl
  hs := rfl
  st := fun x hx => by
    have hx : (scope.names.lookup x == some .local || scope.names.lookup x == some .cell) = true := hx
    simp only [Bool.or_eq_true, beq_iff_eq] at hx
    exact ⟨hx, .inl rfl⟩
  kind := S.kind
  nd := S.nd
  G := Y.G
  calm := rfl
  room := hr
  tk := takes_of rfl rfl rfl rfl
  fn := Y.fn
  mkk := Y.mkk
  mth := Y.mth
  ex := Y.ex
  eqs := Y.eqs
  own := passes_of rfl
  stk := rfl
  frm := rfl
theorem rpSs_get {hd : Hd} {F : Hp} : ∀ {vs : List V} {ss : List SV} {i : Nat} {x : SV}, RpSs K hd F vs ss → ss[i]? = some x → ∃ v, vs[i]? = some v ∧ RpS K hd F v x
  | [], [], _, _, _, e => by simp at e
  | v :: vs, s :: ss, 0, x, ⟨a, b⟩, e => by simp at e; subst e; exact ⟨v, rfl, a⟩
  | v :: vs, s :: ss, i + 1, x, ⟨a, b⟩, e => by
    obtain ⟨u, h1, h2⟩ := rpSs_get (i := i) (x := x) b (by simpa using e)
    exact ⟨u, by simpa using h1, h2⟩
  | [], _ :: _, _, _, h, _ => h.elim
  | _ :: _, [], _, _, h, _ => h.elim
theorem rho0_get {ss : List SV} {i : Nat} {x : SV} (h : (rho0 N ss)[i]? = some (some x)) : ss[i]? = some x := by
  unfold rho0 at h
  rcases Nat.lt_or_ge i ss.length with z | z
  · rw [List.getElem?_append_left (by simpa using z), List.getElem?_map] at h
    cases e : ss[i]? with
    | none => rw [e] at h; cases h
    | some y => rw [e] at h; simp at h; rw [h]
  · rw [List.getElem?_append_right (by simpa using z), List.getElem?_replicate] at h
    split at h <;> simp at h
theorem start_get {vs : List V} {i : Nat} {v : V} (h : vs[i]? = some v) : (L2.start N vs)[i]? = some (some v) := by
  unfold L2.start
  have hl : i < vs.length := by
    rcases Nat.lt_or_ge i vs.length with z | z
    · exact z
    · rw [List.getElem?_eq_none z] at h; cases h
  rw [List.getElem?_append_left (by simpa using hl), List.getElem?_map, h]
  rfl
theorem st0 {hd : Hd} {F H : Hp} {vs : List V} {ss : List SV} (s0 : Same F H) (ho : HdOk K F H hd) (rs : RpSs K hd F vs ss) : StOk K hd F H F H (rho0 N ss) (L2.start N vs) where
  sub0 := s0
  ev := .refl s0 ho
  len := by unfold rho0 L2.start; simp [rs.length]
  fz := fun i d h => by
    obtain ⟨v, h1, h2⟩ := rpSs_get rs (rho0_get h)
    exact ⟨v, start_get h1, h2⟩
  ow := fun i t d h => by
    obtain ⟨v, h1, h2⟩ := rpSs_get rs (rho0_get h)
    exact h2.elim
  hnd := fun i h => by
    obtain ⟨v, h1, a, c, h2, h3⟩ := rpSs_get rs (rho0_get h)
    exact ⟨a, c, h2, by rw [start_get h1, h3]⟩
  me := fun i a dx C ds h => by
    obtain ⟨v, h1, h2⟩ := rpSs_get rs (rho0_get h)
    exact h2.elim
  ct := fun i t d h => by
    obtain ⟨v, h1, h2⟩ := rpSs_get rs (rho0_get h)
    exact h2.elim
  tg := fun i b d h => by
    obtain ⟨v, h1, h2⟩ := rpSs_get rs (rho0_get h)
    exact h2.elim
  one := fun i j a b _ _ C C' ds es h _ => by
    obtain ⟨v, h1, h2⟩ := rpSs_get rs (rho0_get h)
    exact h2.elim
  dis := fun i j _ _ d e a h _ _ _ => by
    obtain ⟨v, h1, h2⟩ := rpSs_get rs (rho0_get h)
    exact h2.elim
/-- a def by its text and its law over data -/
theorem fn_ok {spec : Spec} (F : FunD K name qual params body scope [] [] f fd) (S : FnScope N ps scope) (Y : Kit P w K mg base T k) {ast : List St} (hm : mSs T (scOf N scope) ast body = true) (hlen : ∀ ss E Q, spec ss E Q → ss.length = ps.length)
    (law : ∀ ss E Q, spec ss E Q → wSs T ast (rho0 N ss) { nx := fun _ => Q (.fz .non), rt := fun _ => Q, ex := fun _ => E }) : FnOk P w K mg base (L2.CX P w) (k + 1) f fd ps (SpD K spec) := by
  refine F.ok S (fun vs H Q E ⟨hd, F, ss, Ed, Qd, s0, ho, rs, hs, _⟩ => by rw [rs.length]; exact hlen _ _ _ hs) fun cdv A outer s H vs Q E hr ⟨hd, F0, ss, Ed, Qd, s0, ho, rs, hs, he, hx⟩ => ?_
  refine ⟨_, mSs_ok ast body (ck_of (H := H) (E := E) (outer := outer) Y S hr) hm, hd, F0, H, F0, _, _, st0 s0 ho rs, law ss Ed Qd hs, ?_⟩
  refine ⟨fun F' H' ρ σ S' h => he _ F' H' (.fz .non) S'.ev .non h, fun _ _ _ _ _ h => h.elim, fun _ _ _ _ _ h => h.elim, fun v F' H' r ρ σ S' q h => he v F' H' r S'.ev q h, fun F' H' ρ σ S' C fs d F2 H2 e q h => hx C fs d F2 H2 (S'.ev.trans e) q h⟩
/-- an __init__ by its text and its law over data -/
theorem init_ok {C : Str} {spec : Spec} (F : FunD K name qual params body scope [] [] f fd) (S : FnScope N ps scope) (Y : Kit P w K mg base T k) {ast : List St} (hm : mSs T (scOf N scope) ast body = true) (hlen : ∀ ss E Q, spec ss E Q → ss.length + 1 = ps.length)
    (law : ∀ ss E Q a dx, spec ss E Q → wSs T ast (rho0 N (.me a dx C [] :: ss)) { nx := fun ρ => ∃ ds, ρ[0]? = some (some (.me a dx C ds)) ∧ Q (.fz (.obj C ds)), rt := fun _ _ => False, ex := fun _ => E }) : FnOk P w K mg base (L2.CX P w) (k + 1) f fd ps (SpI K C spec) := by
  refine F.ok S (fun vs H Q E ⟨hd, F, H1, ss, Ed, Qd, x, dx, rest, e1, _, _, _, _, _, _, rs, hs, _⟩ => by rw [e1, List.length_cons, rs.length]; exact hlen _ _ _ hs) fun cdv A outer s H vs Q E hr ⟨hd, F0, H1, ss, Ed, Qd, x, dx, rest, ev, nx, ndx, ne, eH, s0, ho, rs, hs, he, hx⟩ => ?_
  subst ev
  have e1 := Ev.new (u := .own x) s0 ho ndx
  have nx1 : upd H1 dx (.own x) x = none := by rw [upd_ne (Ne.symm ne)]; exact nx
  have e2 := Ev.new (u := .ins (clA K C) dx []) e1.1.sub e1.1.hok nx1
  rw [← eH] at e2
  have e12 := e1.1.trans e2.1
  have hHx : H x = some (.ins (clA K C) dx []) := by rw [eH, upd_same]
  have hHd : H dx = some (.own x) := by rw [eH, upd_ne ne, upd_same]
  have hget : ∀ {i : Nat} {y : SV}, (rho0 N (.me x dx C [] :: ss))[i]? = some (some y) → (i = 0 ∧ y = .me x dx C []) ∨ ∃ j, i = j + 1 ∧ ss[j]? = some y := fun {i y} h => by
    have h := rho0_get h
    cases i with
    | zero => simp at h; exact .inl ⟨rfl, h.symm⟩
    | succ j => exact .inr ⟨j, rfl, by simpa using h⟩
  have S0 : StOk K hd F0 H1 F0 H (rho0 N (.me x dx C [] :: ss)) (L2.start N (.ref x :: rest)) := by
    refine ⟨s0, e12, by unfold rho0 L2.start; simp [rs.length], fun i d h => ?_, fun i t d h => ?_, fun i h => ?_, fun i a dy C' ds h => ?_, fun i t d h => ?_, fun i b d h => ?_, fun i j a b x1 x2 C1 C2 ds es h h' => ?_, fun i j _ _ d e a h _ _ _ => ?_⟩
    · rcases hget h with ⟨_, z⟩ | ⟨j, rfl, g⟩
      · cases z
      · obtain ⟨v, h1, h2⟩ := rpSs_get rs g
        exact ⟨v, start_get (by simpa using h1), h2⟩
    · rcases hget h with ⟨_, z⟩ | ⟨j, rfl, g⟩
      · cases z
      · obtain ⟨v, h1, h2⟩ := rpSs_get rs g
        exact h2.elim
    · rcases hget h with ⟨_, z⟩ | ⟨j, rfl, g⟩
      · cases z
      · obtain ⟨v, h1, a, c, h2, h3⟩ := rpSs_get rs g
        exact ⟨a, c, h2, by rw [start_get (v := v) (by simpa using h1), h3]⟩
    · rcases hget h with ⟨rfl, z⟩ | ⟨j, rfl, g⟩
      · cases z
        exact ⟨start_get rfl, e2.2.1, e2.2.2, nx, ndx, [], hHx, hHd, e1.2.1, .nil⟩
      · obtain ⟨v, h1, h2⟩ := rpSs_get rs g
        exact h2.elim
    · rcases hget h with ⟨_, z⟩ | ⟨j, rfl, g⟩
      · cases z
      · obtain ⟨v, h1, h2⟩ := rpSs_get rs g
        exact h2.elim
    · rcases hget h with ⟨_, z⟩ | ⟨j, rfl, g⟩
      · cases z
      · obtain ⟨v, h1, h2⟩ := rpSs_get rs g
        exact h2.elim
    · rcases hget h with ⟨rfl, z⟩ | ⟨j, rfl, g⟩
      · rcases hget h' with ⟨rfl, z⟩ | ⟨j, rfl, g'⟩
        · rfl
        · obtain ⟨v, h1, h2⟩ := rpSs_get rs g'
          exact h2.elim
      · obtain ⟨v, h1, h2⟩ := rpSs_get rs g
        exact h2.elim
    · rcases hget h with ⟨_, z⟩ | ⟨j, rfl, g⟩
      · cases z
      · obtain ⟨v, h1, h2⟩ := rpSs_get rs g
        exact h2.elim
  refine ⟨_, mSs_ok ast body (ck_of (H := H) (E := E) (outer := outer) Y S hr) hm, hd, F0, H1, F0, _, _, S0, law ss Ed Qd x dx hs, ?_⟩
  refine ⟨fun F' H' ρ σ S' ⟨ds, h1, h2⟩ => ?_, fun _ _ _ _ _ h => h.elim, fun _ _ _ _ _ h => h.elim, fun v F' H' r ρ σ S' q h => h.elim, fun F' H' ρ σ S' C fs d F2 H2 e q h => hx C fs d F2 H2 (S'.ev.trans e) q h⟩
  obtain ⟨k1, k2, k3, k4, k5, fs, z1, z2, z3, z4⟩ := S'.me 0 x dx C ds h1
  exact he F' H' fs ds S'.ev z1 z2 k2 z3 z4 h2
end
end MP
end
section
set_option Elab.async false
set_option linter.all false
set_option maxRecDepth 100000
set_option maxHeartbeats 4000000
set_option autoImplicit false
namespace MP
open PySem PySem.Spec PyProof.Rows L2
/-! ### the drawing hand -/
/-- the hand's list -/
def hList (c : Addr) (ns : List Int) (i1 i2 i3 i4 : Int) : D := .lst [.scr c ns, .int i1, .int i2, .int i3, .int i4]
def hOk (i1 i2 i3 i4 : Int) : Prop := 0 ≤ i1 ∧ 0 ≤ i2 ∧ 0 ≤ i3 ∧ i3 < 2147483648 ∧ 0 ≤ i4
/-- what a draw is worth: some number below m -/
def drawS : Spec := fun ss _ Q => ∃ m, ss = [.hnd, .fz (.int m)] ∧ 0 < m ∧ m < 2 ^ 62 ∧ ∀ d, 0 ≤ d → d < m → Q (.fz (.int d))
section
variable {P : Program} {w : World} {K : Frag} {mg : Str → Option Value} {base : Heap} {T : Tab} {k : Nat} {f : Addr} {fd : FuncData} {name qual : Str} {params : Arguments} {body : List Stmt} {scope : Scope} {N ps : List Str}
def cutAt (H : Hp) (h : Addr) : Hp := fun b => if b = h then none else H b
theorem draw_ok (F : FunD K name qual params body scope [] [] f fd) (S : FnScope N ps scope) (Y : Kit P w K mg base T k) {ast : List St} (hm : mSs T (scOf N scope) ast body = true) (hlen : ps.length = 2) (hN : 2 ≤ N.length)
    (law : ∀ h c ns i1 i2 i3 i4 m, ns.length ≤ 63 → (∀ n ∈ ns, (0 : Int) ≤ n) → hOk i1 i2 i3 i4 → 0 < m → m < 2 ^ 62 → wSs T ast (some (.ow (some h) (hList c ns i1 i2 i3 i4)) :: some (.fz (.int m)) :: List.replicate (N.length - 2) none)
      { nx := fun _ => False, rt := fun ρ r => (∃ d, r = .fz (.int d) ∧ 0 ≤ d ∧ d < m) ∧ ∃ i1 i2 i3 i4, hOk i1 i2 i3 i4 ∧ ρ[0]? = some (some (.ow (some h) (hList c ns i1 i2 i3 i4))), ex := fun _ _ => False }) : FnOk P w K mg base (L2.CX P w) (k + 1) f fd ps (SpD K drawS) := by
  refine F.ok S (fun vs H Q E ⟨hd, F, ss, Ed, Qd, s0, ho, rs, ⟨m, e, _⟩, _⟩ => by rw [rs.length, e, hlen]; rfl) fun cdv A outer s H vs Q E hr ⟨hd, F0, ss, Ed, Qd, s0, ho, rs, ⟨m, e, m0, m1, hq⟩, he, hx⟩ => ?_
  subst e
  match vs, rs with
  | [v, u], ⟨⟨h, c, ehd, ev⟩, r2, _⟩ =>
    subst ehd ev
    have hk : HandOk K F0 H h c := ho
    obtain ⟨i1, i2, i3, i4, hH, ho1⟩ := hk.at_
    obtain ⟨ns, hc, hl, hp⟩ := hk.cells
    have r2 : Rp K F0 u (.int m) := r2
    cases r2
    have sub : Same F0 (cutAt H h) := fun b o q => by
      unfold cutAt
      rw [if_neg (fun z => by rw [z, hk.free] at q; cases q)]
      exact s0 b o q
    have ev0 : Ev K none F0 (cutAt H h) F0 H := ⟨Same.refl _, s0, fun b o q n _ => by
      unfold cutAt at q
      by_cases z : b = h
      · rw [if_pos z] at q; cases q
      · rw [if_neg z] at q; exact ⟨q, n⟩, True.intro, fun b ⟨c', z⟩ => by cases z⟩
    have nh : ∀ b, ¬ Hd.is none b := fun b ⟨c', z⟩ => by cases z
    have own : Own K F0 H h (hList c ns i1 i2 i3 i4) := ⟨_, hH, .cons (.scr hc) (.cons (.int _) (.cons (.int _) (.cons (.int _) (.cons (.int _) .nil))))⟩
    have geq : ∀ {i : Nat} {x : SV}, (some (SV.ow (some h) (hList c ns i1 i2 i3 i4)) :: some (SV.fz (.int m)) :: List.replicate (N.length - 2) none : Rho)[i]? = some (some x) → (i = 0 ∧ x = .ow (some h) (hList c ns i1 i2 i3 i4)) ∨ (i = 1 ∧ x = .fz (.int m)) := fun {i x} q => by
      match i, q with
      | 0, q => simp at q; exact .inl ⟨rfl, q.symm⟩
      | 1, q => simp at q; exact .inr ⟨rfl, q.symm⟩
      | i + 2, q =>
        simp only [List.getElem?_cons_succ, List.getElem?_replicate] at q
        split at q <;> simp at q
    have es : (L2.start N [V.ref h, V.int m]) = some (V.ref h) :: some (V.int m) :: List.replicate (N.length - 2) none := rfl
    have S0 : StOk K none F0 (cutAt H h) F0 H (some (SV.ow (some h) (hList c ns i1 i2 i3 i4)) :: some (SV.fz (.int m)) :: List.replicate (N.length - 2) none) (L2.start N [V.ref h, V.int m]) := by
      rw [es]
      refine ⟨sub, ev0, by simp, fun i d q => ?_, fun i t d q => ?_, fun i q => ?_, fun i a dx C ds q => ?_, fun i t d q => ?_, fun i b d q => ?_, fun i j a b x1 x2 C1 C2 ds e1 q q' => ?_, fun i j _ _ d e a q q' _ _ => ?_⟩
      · rcases geq q with ⟨_, z⟩ | ⟨rfl, z⟩
        · cases z
        · cases z; exact ⟨_, rfl, .int _⟩
      · rcases geq q with ⟨rfl, z⟩ | ⟨rfl, z⟩
        · cases z
          exact ⟨h, rfl, hk.free, nh _, by unfold cutAt; rw [if_pos rfl], own⟩
        · cases z
      · rcases geq q with ⟨rfl, z⟩ | ⟨rfl, z⟩ <;> cases z
      · rcases geq q with ⟨rfl, z⟩ | ⟨rfl, z⟩ <;> cases z
      · rcases geq q with ⟨rfl, z⟩ | ⟨rfl, z⟩
        · cases z; rfl
        · cases z
      · rcases geq q with ⟨rfl, z⟩ | ⟨rfl, z⟩
        · cases z; rfl
        · cases z
      · rcases geq q with ⟨rfl, z⟩ | ⟨rfl, z⟩ <;> cases z
      · rcases geq q with ⟨rfl, z⟩ | ⟨rfl, z⟩
        · rcases geq q' with ⟨rfl, z'⟩ | ⟨rfl, z'⟩
          · rfl
          · cases z'
        · cases z
    refine ⟨_, mSs_ok ast body (ck_of (H := H) (E := E) (outer := outer) Y S hr) hm, none, F0, cutAt H h, F0, _, _, S0, law h c ns i1 i2 i3 i4 m hl hp ho1 m0 m1, ?_⟩
    refine ⟨fun _ _ _ _ _ z => z.elim, fun _ _ _ _ _ z => z.elim, fun _ _ _ _ _ z => z.elim, fun v F' H' r ρ σ S' q z => ?_, fun F' H' ρ σ S' C fs d F2 H2 e q z => z.elim⟩
    obtain ⟨⟨d, rfl, d0, d1⟩, j1, j2, j3, j4, jo, jr⟩ := z
    obtain ⟨a, k1, k2, k3, k4, xs, k5, k6⟩ := S'.ow 0 _ _ jr
    have et := S'.tg 0 h _ jr
    rw [k1] at et
    cases et
    have q : Rp K F' v (.int d) := q
    cases q
    have e2 : Ev K (some (h, c)) F0 H F' H' := ⟨S'.ev.ff, S'.ev.sub, fun b o q n y => S'.ev.keep b o (by unfold cutAt; rw [if_neg (fun z => y ⟨c, by rw [z]⟩)]; exact q) n (nh b), ⟨k2, ⟨ns, sqL_mono S'.ev.ff hc, hl, hp⟩, ?_⟩, fun b ⟨c', z⟩ => by cases z; exact k2⟩
    · exact he _ F' H' (.fz (.int d)) e2 (.int d) (hq d d0 d1)
    · cases k6 with
      | cons r1 k6 =>
        cases r1
        cases k6 with
        | cons r1 k6 =>
          cases r1
          cases k6 with
          | cons r1 k6 =>
            cases r1
            cases k6 with
            | cons r1 k6 =>
              cases r1
              cases k6 with
              | cons r1 k6 =>
                cases r1
                cases k6
                exact ⟨j1, j2, j3, j4, k5, jo⟩
end
end MP
end
section
set_option Elab.async false
set_option linter.all false
set_option maxRecDepth 100000
set_option maxHeartbeats 4000000
set_option autoImplicit false
namespace MP
open PySem PySem.Spec PyProof.Rows L2
/-! ### own exceptions -/
/-- a function, read off its class -/
structure ClsFn (K : Frag) (D : Addr) (m : Str) (g : Addr) : Prop where
  rd : ClX.CRead K D (.type "type")
  at_ : PySem.W.findCls K (.ref D) (.type "type") m = some (.val (.ref g))
  kp : PySem.W.keepIn K (.ref g) = true
section
variable {X : Cx} {e o : Expr} {es : List Expr} {ta : TA} {pos p1 p2 : Pos}
/-- D.m(e, ..) -/
theorem pe_clsfn {CX : CXT} {k : Nat} {D g : Addr} {fd : FuncData} {ps : List Str} {sp : Sp} {E : L2.St → XK} {x m : Str} (c : ClsFn X.K D m g) (F : FnOk X.prog X.w X.K X.mg X.base CX k g fd ps sp) (hr : Room k X.A) (hb : Binds X.K fd ps []) (hx : ∀ σ, PassesAt CX X σ (E σ)) (hg : Gl X x) (hm : X.mg x = some (.ref D)) (hdb : (x == ("__debug__" : Str)) = false)
    (ha : PA X (e :: es) ta) (hs : (e :: es).all noStar = true) (hl : (e :: es).length < 30) (hp : (p2.endLine == pos.line) = true) : PE X (.Call (.Attribute (.Name x p1) m p2) (e :: es) [] pos) (tCallS sp E ta) := by
  have h2 : (es.all noStar) = true := by simp only [List.all_cons, Bool.and_eq_true] at hs; exact hs.2
  have h1 : noStar e = true := by simp only [List.all_cons, Bool.and_eq_true] at hs; exact hs.1
  refine ⟨fun pins s σ H Q I h => ?_⟩
  refine PySem.W.methodCall_KW (pl := plainOf (.Name x p1) X.env) (ld_glob I hg hm ?_ hdb) (eval_mcall rfl hs hl hp)
  refine PySem.W.method_cls I.kIn c.rd.ga (PySem.W.cls_value I.kIn c.rd.rd c.at_ rfl ?_)
  have I1 := I.tok (s.toks + 1)
  refine PySem.W.callWith_K (h₀ := X.base) I.ok.mod.kin c.kp (thn (ha.run pos pins _ σ H _ I1 h) fun us s2 ⟨vs, H2, I2, r, q2⟩ => ⟨I2.kIn, ?_⟩) (star_one h1) (back_any (noStars h2))
  exact run_fnS F hr hb (hx σ) I2 r q2
end
/-- an __init__ that tells its base no more than itself -/
def spE0 (K : Frag) : Sp := fun vs H Q _ => ∃ a C, vs = [.ref a] ∧ OexC K C ∧ H a = some (exo a C none) ∧ Q .non H
/-- .. and keeps one field -/
def spE1 (K : Frag) (f : Str) : Sp := fun vs H Q _ => ∃ a C v, vs = [.ref a, v] ∧ OexC K C ∧ PySem.W.findIn K (.ref C) f = some none ∧ H a = some (exo a C none) ∧ ∀ dx, H dx = none → dx ≠ a → Q .non (upd (upd H dx (exd dx [(f, v)])) a (exo a C (some dx)))
/-- b.__init__(self) -/
def baseB (b : Str) : Stmt → Bool
  | .Expr (.Call (.Attribute (.Name x _) m p2) [.Name s _] [] p) _ => x == b && m == ("__init__" : Str) && s == ("self" : Str) && (p2.endLine == p.line)
  | _ => false
theorem baseB_of {b : Str} {s : Stmt} (h : baseB b s = true) : ∃ p1 p2 p3 p4 p5, s = .Expr (.Call (.Attribute (.Name b p1) "__init__" p2) [.Name "self" p3] [] p4) p5 ∧ (p2.endLine == p4.line) = true := by
  unfold baseB at h
  split at h
  · simp only [Bool.and_eq_true, beq_iff_eq] at h
    obtain ⟨⟨⟨h1, h2⟩, h3⟩, h4⟩ := h
    subst h1 h2 h3
    exact ⟨_, _, _, _, _, rfl, by simpa using h4⟩
  · cases h
/-- self.f = p -/
def keepB (f p : Str) : Stmt → Bool
  | .Assign [.Attribute (.Name s _) g _] (.Name x _) _ => s == ("self" : Str) && g == f && x == p
  | _ => false
theorem keepB_of {f p : Str} {s : Stmt} (h : keepB f p s = true) : ∃ p1 p2 p3 p4, s = .Assign [.Attribute (.Name "self" p1) f p2] (.Name p p3) p4 := by
  unfold keepB at h
  split at h
  · simp only [Bool.and_eq_true, beq_iff_eq] at h
    obtain ⟨⟨h1, h2⟩, h3⟩ := h
    subst h1 h2 h3
    exact ⟨_, _, _, _, rfl⟩
  · cases h
section
variable {P : Program} {w : World} {K : Frag} {mg : Str → Option Value} {base : Heap} {k : Nat} {f g : Addr} {fd fdg : FuncData} {name qual b : Str} {params : Arguments} {body : List Stmt} {scope : Scope}
theorem passF {X : Cx} {σ : L2.St} : PassesAt (L2.CX X.prog X.w) X σ (fun _ _ _ => False) := fun _ _ _ _ _ _ ⟨_, _, _, _, _, _, _, _, _, _, _, _, z⟩ => z.elim
/-- the root's __init__ -/
theorem e0_root (F : FunD K name qual params body scope [] [] f fd) (S : FnScope ["self"] ["self"] scope) (h : ∃ s, body = [s] ∧ baseB "ValueError" s = true) (hv : mg "ValueError" = none) (hgl : scope.names.lookup ("ValueError" : Str) = some .globalImplicit) (hvis : Vis scope "self")
    (vV : PySem.W.findCls K (.type "ValueError") (.type "type") "__init__" = some (.val (.builtin "ValueError.__init__"))) : FnOk P w K mg base (L2.CX P w) (k + 1) f fd ["self"] (spE0 K) := by
  obtain ⟨s, rfl, h⟩ := h
  obtain ⟨p1, p2, p3, p4, p5, rfl, hp⟩ := baseB_of h
  refine F.ok S (fun vs H Q E ⟨a, C, e, _⟩ => by rw [e]; rfl) fun cdv A outer s H vs Q E hr ⟨a, C, e, h1, h2, h3⟩ => ?_
  subst e
  refine ⟨_, pss_one (ps_expr (pe_veinit (pl := plainOf (.Name "ValueError" p1) _) hgl hv vV (pa_cons (pe_var (i := 0) rfl hvis) pa_nil) (eval_mcall rfl rfl (Nat.lt_of_lt_of_le (Nat.lt_succ_self 1) (by decide)) hp))), ?_⟩
  exact ⟨_, rfl, a, C, [], rfl, Nat.zero_le _, h1, h2, h3⟩
/-- an __init__ without a field -/
theorem e0_sub {D : Addr} (F : FunD K name qual params body scope [] [] f fd) (S : FnScope ["self"] ["self"] scope) (h : ∃ s, body = [s] ∧ baseB b s = true) (c : ClsFn K D "__init__" g) (G : FnOk P w K mg base (L2.CX P w) k g fdg ["self"] (spE0 K)) (hb : Binds K fdg ["self"] []) (hv : mg b = some (.ref D)) (hd : (b == ("__debug__" : Str)) = false)
    (hgl : scope.names.lookup b = some .globalImplicit) (hvis : Vis scope "self") : FnOk P w K mg base (L2.CX P w) (k + 1) f fd ["self"] (spE0 K) := by
  obtain ⟨s, rfl, h⟩ := h
  obtain ⟨p1, p2, p3, p4, p5, rfl, hp⟩ := baseB_of h
  refine F.ok S (fun vs H Q E ⟨a, C, e, _⟩ => by rw [e]; rfl) fun cdv A outer s H vs Q E hr ⟨a, C, e, h1, h2, h3⟩ => ?_
  subst e
  refine ⟨_, pss_one (ps_expr (pe_clsfn c G hr hb (fun σ => passF) hgl hv hd (pa_cons (pe_var (i := 0) rfl hvis) pa_nil) rfl (Nat.lt_of_lt_of_le (Nat.lt_succ_self 1) (by decide)) hp)), ?_⟩
  exact ⟨_, rfl, a, C, rfl, h1, h2, h3⟩
/-- an __init__ with a field -/
theorem e1_sub {D : Addr} {fl p : Str} (F : FunD K name qual params body scope [] [] f fd) (S : FnScope ["self", p] ["self", p] scope) (h : ∃ s t, body = [s, t] ∧ baseB b s = true ∧ keepB fl p t = true) (c : ClsFn K D "__init__" g) (G : FnOk P w K mg base (L2.CX P w) k g fdg ["self"] (spE0 K)) (hb : Binds K fdg ["self"] []) (hv : mg b = some (.ref D)) (hd : (b == ("__debug__" : Str)) = false)
    (hgl : scope.names.lookup b = some .globalImplicit) (hvis : Vis scope "self") (hvp : Vis scope p) (hp1 : (p == ("__debug__" : Str)) = false) (hp2 : (p == ("__classdict__" : Str)) = false) : FnOk P w K mg base (L2.CX P w) (k + 1) f fd ["self", p] (spE1 K fl) := by
  obtain ⟨s, t, rfl, h, h'⟩ := h
  obtain ⟨p1, p2, p3, p4, p5, rfl, hp⟩ := baseB_of h
  obtain ⟨q1, q2, q3, q4, rfl⟩ := keepB_of h'
  refine F.ok S (fun vs H Q E ⟨a, C, v, e, _⟩ => by rw [e]; rfl) fun cdv A outer s H vs Q E hr ⟨a, C, v, e, h1, h2, h3, h4⟩ => ?_
  subst e
  refine ⟨_, pss_cons (ps_expr (pe_clsfn c G hr hb (fun σ => passF) hgl hv hd (pa_cons (pe_var (i := 0) rfl hvis) pa_nil) rfl (Nat.lt_of_lt_of_le (Nat.lt_succ_self 1) (by decide)) hp)) (pss_one (ps_ost (pe_var (i := 0) rfl hvis) (pe_var (i := 1) rfl hvp hp1 hp2))), ?_⟩
  exact ⟨_, rfl, a, C, rfl, h1, h3, v, rfl, _, rfl, a, C, rfl, h1, h2, .inl ⟨h3, h4⟩⟩
theorem PE.clos {X : Cx} {e : Expr} {te : TE} (h : PE X e te) : PE X e fun σ H Q => ∃ Q0 : VK, te σ H Q0 ∧ ∀ v H1, Q0 v H1 → Q v H1 :=
  ⟨fun pins s σ H Q I ⟨Q0, q, i⟩ => thn (h.run pins s σ H Q0 I q) fun u s1 ⟨v, H1, I1, r, z⟩ => ⟨v, H1, I1, r, i v H1 z⟩⟩
theorem tmk_of {X : Cx} {C : Addr} {fl : Str} {te : TE} {σ : L2.St} {H : Hp} {Q : XK} (T1 : OexC X.K C) (hno : PySem.W.findIn X.K (.ref C) fl = some none) (h : te σ H fun v H1 => ∀ d, H1 d = none → Q (.ref C) (some d) (upd H1 d (.xd [(fl, v)]))) :
    tMkO C (spE1 X.K fl) [] (tCons (fun σ H Q => ∃ Q0 : VK, te σ H Q0 ∧ ∀ v H1, Q0 v H1 → Q v H1) tNil) σ H Q := by
  refine ⟨_, h, fun v H1 q => ?_⟩
  refine ⟨Nat.le_of_ble_eq_true rfl, fun a na => ⟨a, C, v, rfl, T1, hno, upd_same, fun dx nd ne => ⟨rfl, dx, _, upd_same, by rw [upd_ne ne, upd_same], by rw [upd_ne ne] at nd; exact nd, ?_⟩⟩⟩
  have nd' : H1 dx = none := by rw [upd_ne ne] at nd; exact nd
  have e : upd (del (upd (upd (upd H1 a (exo a C none)) dx (exd dx [(fl, v)])) a (exo a C (some dx))) a) dx (.xd [(fl, v)]) = upd H1 dx (.xd [(fl, v)]) := by
    funext b
    by_cases h1 : b = dx
    · rw [h1, upd_same, upd_same]
    · rw [upd_ne h1, upd_ne h1]
      by_cases h2 : b = a
      · rw [h2, del_same, na]
      · rw [del_ne h2, upd_ne h2, upd_ne h1, upd_ne h2]
  rw [e]
  exact q dx nd'
/-- a class with a field may be raised -/
theorem exav1 {T : Tab} {j : Nat} {fl p : Str} (hT : T.exc j = some fl) (T1 : OexC K (clA K (T.cls j))) (iC : PySem.W.findIn K (.ref (clA K (T.cls j))) "__init__" = some (some (.ref f))) (tI : PySem.W.typeIn K (.ref f) = some (.type "function")) (hno : PySem.W.findIn K (.ref (clA K (T.cls j))) fl = some none)
    (F : FnOk P w K mg base (L2.CX P w) k f fd ["self", p] (spE1 K fl)) (hb : Binds K fd ["self", p] []) (hm : mg (T.cls j) = some (.ref (clA K (T.cls j)))) : ExAv P w K mg base T (k + 1) j := by
  intro X eP ew eK em eb hc hr hg hdb
  subst eP ew eK em eb
  rw [hT]
  intro e te q pos he hn
  have M := pmk_oex (p := q) (pos := pos) T1 iC tI F hr hb .nil (fun _ _ _ _ _ _ _ ⟨_, _, _, _, _, _, _, _, _, _, _, _, z⟩ => z.elim) hg hm (pa_cons (MP.PE.clos he) pa_nil (star_one hn)) hdb (star_one hn) rfl
  intro pins s σ H Q I h
  exact M pins s σ H Q I (tmk_of T1 hno h)
end
end MP
end
section
set_option Elab.async false
set_option linter.all false
set_option maxRecDepth 100000
set_option maxHeartbeats 4000000
set_option autoImplicit false
namespace MP
open PySem PySem.Spec PyProof.Rows L2
/-! ### own exceptions without a field -/
section
variable {X : Cx} {o e : Expr} {es : List Expr} {f : Str} {p p' p1 p2 pos : Pos}
/-- the end of C(): the exception is let go -/
theorem mk_endN {pins : List (Addr × Obj)} {σ : L2.St} {H1 H2 : Hp} {hp hp2 h2 : Heap} {g1 g2 : Array GenState} {d1 d2 : Drawn} {t1 t2 : Nat} {os1 os2 : OsState} {a C : Addr} (I1 : Inv X pins σ H1 ⟨hp, g1, d1, t1, os1⟩)
    (ha : hp.objs.size ≤ a) (k : ∀ b o, hp.get? b = some o → hp2.get? b = some o) (un : Un (frs X.stack) [] (upd H1 a (exo a C none)) H2 hp2 h2) (hok : HOk X.prog X.w H2 h2) (ho : os2 = os1) (hb : AllBare g2)
    (ea : H2 a = some (exo a C none)) :
    ∃ (t0 : Addr) (G : Heap), Inv X pins σ (del H2 a) ⟨G, g2, d2, t2, os2⟩ ∧ (∀ b o, G.get? b = some o → h2.get? b = some o) ∧ G.get? a = none ∧
      h2.get? a = some ({ cls := .ref C, dict := none, data := .fields #[.ref t0, .none, .none, .none, .bool false, .none] } : Obj) := by
  obtain ⟨t0, hoe⟩ := exo_at hok ea
  have hn : H1 a = none := I1.hok.fresh ha
  obtain ⟨G, g1', g2'⟩ := restrict h2 fun b => decide (b ≠ a)
  have gk : ∀ b, b ≠ a → G.get? b = h2.get? b := fun b hb => g1' b (decide_eq_true hb)
  have ge : G.get? a = none := g2' a (by simp)
  have nha : ∀ {b : Addr} {o : Obj}, hp.get? b = some o → b ≠ a := fun {b o} z => Nat.ne_of_lt (Nat.lt_of_lt_of_le (Heap.lt_size z) ha)
  have up : ∀ {b : Addr}, b ≠ a → H1 b = none → upd H1 a (exo a C none) b = none := fun {b} hb n => by rw [upd_ne hb]; exact n
  have U : Un (frs X.stack) [] H1 (del H2 a) hp G := {
    keep := fun b o z n hf hx => by
      rw [gk b (nha z)]
      exact un.keep b o (k b o z) (up (nha z) n) hf hx
    slot := fun b o z n hf hx => by
      rw [gk b (nha z)]
      exact un.slot b o (k b o z) (up (nha z) n) hf hx
    free := fun b o z n hx => by
      rw [del_ne (nha z)]
      exact un.free b o (k b o z) (up (nha z) n) hx
    there := fun b o z hx => by
      rw [gk b (nha z)]
      exact un.there b o (k b o z) hx
    tups := fun b xs z => by
      rw [del_ne (ne_of_none z hn)]
      exact un.tups b xs (by rw [upd_ne (ne_of_none z hn)]; exact z)
    frzs := fun b o v z => by
      rw [del_ne (ne_of_none z hn)]
      exact un.frzs b o v (by rw [upd_ne (ne_of_none z hn)]; exact z)
    tbls := fun b ps z => by
      rw [del_ne (ne_of_none z hn)]
      exact un.tbls b ps (by rw [upd_ne (ne_of_none z hn)]; exact z) }
  have hok3 : HOk X.prog X.w (del H2 a) G := fun b o z => by
    have hba : b ≠ a := fun e => by
      rw [e, del_same] at z
      cases z
    rw [del_ne hba] at z
    have noa : ∀ {c : Addr}, H2 c = some (.own b) → c ≠ a := fun {c} hc => at_ne ea hc exo_own
    exact (hok b o z).stay (fun c v hc y => by
        have hca : c ≠ a := by
          rcases hc with hc | hc
          · rw [hc]
            exact hba
          · exact noa hc
        rw [gk c hca]
        exact y)
      (fun c hc => by rw [del_ne (noa hc)]; exact hc) (fun c xs hc => by rw [del_ne (at_ne ea hc exo_tup)]; exact hc)
  have J : Inv X pins σ (del H2 a) ⟨G, g2, d2, t2, os2⟩ := I1.call' (ch := []) ho U hok3 hb (fun b z => absurd z (by simp))
  exact ⟨t0, G, J, fun b o z => by
    by_cases hba : b = a
    · rw [hba, ge] at z
      cases z
    · exact (gk b hba).symm.trans z, ge, hoe⟩
theorem pmk_oexN {CX : CXT} {x : Str} {C fI : Addr} {k : Nat} {fd : FuncData} {ps : List Str} (T : OexC X.K C) (iC : PySem.W.findIn X.K (.ref C) "__init__" = some (some (.ref fI))) (tI : PySem.W.typeIn X.K (.ref fI) = some (.type "function"))
    (F1 : FnOk X.prog X.w X.K X.mg X.base CX k fI fd ps (spE0 X.K)) (hr : Room (k + 1) X.A) (hb : Binds X.K fd ps []) (hx : Passes CX X (fun _ _ _ => False)) (hg : Gl X x) (hm : X.mg x = some (.ref C))
    (hdb : (x == ("__debug__" : Str)) = false) : PMk X (.Call (.Name x p) [] [] pos) (fun σ H Q => Q (.ref C) none H) := by
  intro pins s σ H Q I h
  obtain ⟨nm, q, N, bs, bm, sn, sub, ab, col, dd, k0, k1, k2, k3, k5, hC, hbm⟩ := T.cls
  refine wpAny_Call_Name_kw (ld_glob I hg hm ?_ hdb)
  refine PySem.W.callWith_K0 I.kIn T.kC ?_
  show wpAny _ _ (call (.ref C) []) _ _ _
  obtain ⟨hp, g, dr, tk, os⟩ := s
  have hsz : hp.objs.size ≤ hp.objs.size + 1 := Nat.le_succ _
  have hn : H (hp.objs.size + 1) = none := I.hok.fresh hsz
  have hq : spE0 X.K [V.ref (hp.objs.size + 1)] (upd H (hp.objs.size + 1) (exo (hp.objs.size + 1) C none)) (fun v H2 => v = .non ∧ H2 = upd H (hp.objs.size + 1) (exo (hp.objs.size + 1) C none)) (fun _ _ _ => False) := ⟨_, C, rfl, T, upd_same, rfl, rfl⟩
  have kk : ∀ b o, hp.get? b = some o → ((hp.push (PySem.W.kdv_tup [])).push (PySem.HandSPX.excO C hp.objs.size)).get? b = some o := fun b o e => Heap.get?_push_of_some _ (Heap.get?_push_of_some _ e)
  have hget : ((hp.push (PySem.W.kdv_tup [])).push (PySem.HandSPX.excO C hp.objs.size)).get? (hp.objs.size + 1) = some (PySem.HandSPX.excO C hp.objs.size) := by heap_get
  have I2 : Inv X pins σ (upd H (hp.objs.size + 1) (exo (hp.objs.size + 1) C none)) ⟨(hp.push (PySem.W.kdv_tup [])).push (PySem.HandSPX.excO C hp.objs.size), g, dr, tk, os⟩ :=
    I.laid (t' := tk) (a := hp.objs.size + 1) (o := exo (hp.objs.size + 1) C none) (h' := (hp.push (PySem.W.kdv_tup [])).push (PySem.HandSPX.excO C hp.objs.size)) kk hsz (exo_ok hget)
  have r2 : Vals [V.ref (hp.objs.size + 1)] [Value.ref (hp.objs.size + 1)] := .cons rfl .nil
  have hl : ([Value.ref (hp.objs.size + 1)] : List Value).length = ps.length := by
    have e := r2.length
    rw [F1.len _ _ _ _ hq] at e
    exact e.symm
  have hb2 := hb _ [Value.ref (hp.objs.size + 1)] I2.kIn (by simpa using hl)
  rw [List.append_nil] at hb2
  refine wpAny_call (PySem.HandSPX.call_own F.excBase_ValueError (fun Y => PySem.HandSPX.refsVE_contains Y bm hbm) (I.kIn _ _ hC) (PySem.W.looks_findIn I.kIn iC) (fun self => PySem.W.bind_fn I.kIn self tI) (Nat.zero_le _)
    (codeAny_mono (F1.run _ X.stack _ _ ⟨[Value.ref (hp.objs.size + 1)], []⟩ [Value.ref (hp.objs.size + 1)] _ _ (fun _ _ _ => False) (hr.make C [] []) (I2.env0.make C [] []) hb2 r2 hq) fun r s' hq' => ?_))
  cases r with
  | error er => exact hx pins σ _ _ er s' I2 hq'
  | ok fl =>
    cases fl with
    | ret u =>
      obtain ⟨v, H2, os2, bare2, un2, hok2, rv, ev, eH⟩ := hq'
      subst ev
      obtain ⟨h2, g2, d2, t2, os'⟩ := s'
      have ea : H2 (hp.objs.size + 1) = some (exo (hp.objs.size + 1) C none) := by rw [eH, upd_same]
      obtain ⟨t0, G, J, kG, ge, hoe⟩ := mk_endN (d2 := d2) (t2 := t2) I hsz kk un2 hok2 os2 bare2 ea
      have eD : del H2 (hp.objs.size + 1) = H := by
        funext b
        by_cases hb : b = hp.objs.size + 1
        · rw [hb, del_same, hn]
        · rw [del_ne hb, eH, upd_ne hb]
      rw [eD] at J
      exact ⟨rv, ⟨hp.objs.size + 1, _, _, ⟨G, g2, d2, t2, os'⟩, H, .ref C, none, rfl, J, kG, ge, hoe, ⟨rfl, rfl⟩, rfl, rfl, hn, rfl, bare2, raises_own T.exC T.tyC, h⟩⟩
    | next => exact False.elim hq'
    | brk => exact False.elim hq'
    | cont => exact False.elim hq'
end
section
variable {P : Program} {w : World} {K : Frag} {mg : Str → Option Value} {base : Heap} {k : Nat} {f : Addr} {fd : FuncData}
/-- a class without a field may be raised -/
theorem exav0 {T : Tab} {j : Nat} (hT : T.exc j = none) (T1 : OexC K (clA K (T.cls j))) (iC : PySem.W.findIn K (.ref (clA K (T.cls j))) "__init__" = some (some (.ref f))) (tI : PySem.W.typeIn K (.ref f) = some (.type "function"))
    (F : FnOk P w K mg base (L2.CX P w) k f fd ["self"] (spE0 K)) (hb : Binds K fd ["self"] []) (hm : mg (T.cls j) = some (.ref (clA K (T.cls j)))) : ExAv P w K mg base T (k + 1) j := by
  intro X eP ew eK em eb hc hr hg hdb
  subst eP ew eK em eb
  rw [hT]
  intro q pos
  exact pmk_oexN T1 iC tI F hr hb (fun _ _ _ _ _ _ _ ⟨_, _, _, _, _, _, _, _, _, _, _, _, z⟩ => z.elim) hg hm hdb
end
end MP
end
section
set_option Elab.async false
set_option linter.all false
set_option maxRecDepth 100000
set_option maxHeartbeats 4000000
set_option autoImplicit false
namespace MP
open PySem PySem.Spec PyProof.Rows L2
/-! ### the law's own def: the hand is made, then drawn from -/
theorem handD_of {d : D} (h : handD d) : ∃ cs ns i1 i2 i3 i4, d = .lst [.lst cs, .int i1, .int i2, .int i3, .int i4] ∧ ints? cs = some ns ∧ ns.length ≤ 63 ∧ (∀ n ∈ ns, 0 ≤ n) ∧ 0 ≤ i1 ∧ 0 ≤ i2 ∧ 0 ≤ i3 ∧ i3 < 2147483648 ∧ 0 ≤ i4 := by
  unfold handD at h
  split at h
  · rename_i cs i1 i2 i3 i4
    obtain ⟨⟨ns, h1, h2, h3⟩, h4⟩ := h
    exact ⟨cs, ns, i1, i2, i3, i4, rfl, h1, h2, h3, h4⟩
  · exact h.elim
section
variable {K : Frag} {F0 H0 F H : Hp} {ρ : Rho} {σ : L2.St}
theorem StOk.hand (S : StOk K none F0 H0 F H ρ σ) {i : Nat} {t : Option Addr} {d : MP.D} (h : ρ[i]? = some (some (SV.ow t d))) (hh : handD d) : ∃ a c, StOk K (some (a, c)) F0 H0 F H (ρ.set i (some .hnd)) σ := by
  obtain ⟨cs, ns, i1, i2, i3, i4, rfl, hi, hl, hp, hb⟩ := handD_of hh
  obtain ⟨a, h1, n, nh, h0, xs, hx, rx⟩ := S.ow i t _ h
  cases rx with
  | @cons v1 _ _ _ r1 rx =>
    cases r1 with
    | @lst c ys _ hc rc =>
      cases rx with
      | cons r2 rx =>
        cases r2
        cases rx with
        | cons r2 rx =>
          cases r2
          cases rx with
          | cons r2 rx =>
            cases r2
            cases rx with
            | cons r2 rx =>
              cases r2
              cases rx
              have ey := ints_of rc hi
              subst ey
              have isa : ∀ b, Hd.is (some (a, c)) b → b = a := fun b ⟨c', z⟩ => by cases z; rfl
              have hok : HandOk K F H a c := ⟨n, ⟨ns, .of hc, hl, hp⟩, i1, i2, i3, i4, hx, hb⟩
              have hlt : i < ρ.length := by
                rcases Nat.lt_or_ge i ρ.length with z | z
                · exact z
                · rw [List.getElem?_eq_none z] at h; cases h
              refine ⟨a, c, S.sub0, ⟨S.ev.ff, S.ev.sub, fun b o q m _ => S.ev.keep b o q m (fun ⟨c', z⟩ => by cases z), hok, fun b z => by rw [isa b z]; exact n⟩, by rw [List.length_set]; exact S.len, fun j e hj => ?_, fun j t' e hj => ?_, fun j hj => ?_, fun j b dx C ds hj => ?_, fun j t' e hj => ?_, fun j b e hj => ?_, fun j1 j2 b1 b2 x1 x2 C1 C2 e1 e2 q1 q2 => ?_, fun j1 j2 t1 t2 d1 d2 b q1 q2 q3 q4 => ?_⟩
              · rcases get_set hj with ⟨_, _, z⟩ | ⟨_, hj⟩
                · cases z
                · exact S.fz j e hj
              · rcases get_set hj with ⟨_, _, z⟩ | ⟨ne, hj⟩
                · cases z
                · obtain ⟨b, k1, k2, k3, k4, k5⟩ := S.ow j t' e hj
                  refine ⟨b, k1, k2, fun z => ?_, k4, k5⟩
                  have z := isa b z
                  subst z
                  exact ne (S.dis i j t t' _ e b h hj h1 k1)
              · rcases get_set hj with ⟨rfl, _, z⟩ | ⟨ne, hj⟩
                · exact ⟨a, c, rfl, h1⟩
                · obtain ⟨b, c', z, _⟩ := S.hnd j hj
                  cases z
              · rcases get_set hj with ⟨_, _, z⟩ | ⟨_, hj⟩
                · cases z
                · obtain ⟨k1, k2, k3, k4, k5, fs, z1, z2, z3, z4⟩ := S.me j b dx C ds hj
                  refine ⟨k1, k2, fun z => ?_, k4, k5, fs, z1, z2, z3, z4⟩
                  have z := isa b z
                  subst z
                  rw [hx] at z1; cases z1
              · rcases get_set hj with ⟨_, _, z⟩ | ⟨_, hj⟩
                · cases z
                · exact S.ct j t' e hj
              · rcases get_set hj with ⟨_, _, z⟩ | ⟨_, hj⟩
                · cases z
                · exact S.tg j b e hj
              · rcases get_set q1 with ⟨_, _, z⟩ | ⟨_, q1⟩
                · cases z
                rcases get_set q2 with ⟨_, _, z⟩ | ⟨_, q2⟩
                · cases z
                exact S.one j1 j2 b1 b2 x1 x2 C1 C2 e1 e2 q1 q2
              · rcases get_set q1 with ⟨_, _, z⟩ | ⟨_, q1⟩
                · cases z
                rcases get_set q2 with ⟨_, _, z⟩ | ⟨_, q2⟩
                · cases z
                exact S.dis j1 j2 t1 t2 d1 d2 b q1 q2 q3 q4
end
/-- what a law promises -/
def spLaw (K : Frag) : Sp := fun vs H Q _ => ∃ (a : Addr) (ns : List Int), vs = [.ref a] ∧ SqL K H a (ns.map V.int) ∧ ns.length ≤ 63 ∧ ∀ H', Q (.bl true) H'
section
variable {P : Program} {w : World} {K : Frag} {mg : Str → Option Value} {base : Heap} {T : Tab} {k : Nat} {f : Addr} {fd : FuncData} {name qual : Str} {params : Arguments} {body : List Stmt} {scope : Scope} {N : List Str}
theorem law_ok {p : Str} (F : FunD K name qual params body scope [] [] f fd) (S : FnScope N [p] scope) (Y : Kit P w K mg base T k) {i : Nat} {e : Ex} {r : List St} (hm : mSs T (scOf N scope) (.set i e :: r) body = true)
    (law : ∀ a ns, ns.length ≤ 63 → wS T (.set i e) (rho0 N [.fz (.scr a ns)]) { nx := fun ρ => ∃ t d, ρ[i]? = some (some (.ow t d)) ∧ handD d ∧ wSs T r (ρ.set i (some .hnd)) { nx := fun _ => False, rt := fun _ x => x = .fz (.bl true), ex := fun _ _ => False }, rt := fun _ _ => False, ex := fun _ _ => False }) :
    FnOk P w K mg base (L2.CX P w) (k + 1) f fd [p] (spLaw K) := by
  refine F.ok S (fun vs H Q E ⟨a, ns, e, _⟩ => by rw [e]; rfl) fun cdv A outer s H vs Q E hr ⟨a, ns, e1, hS, hl, hq⟩ => ?_
  subst e1
  unfold mSs at hm
  rw [if_neg (by simp [isFrz])] at hm
  cases body with
  | nil => cases hm
  | cons st rest =>
    simp only [Bool.and_eq_true] at hm
    have C := ck_of (H := H) (E := E) (outer := outer) (cdv := cdv) Y S hr
    refine ⟨_, pss_cons (mS_ok (.set i e) st C hm.1) (mSs_ok r rest C hm.2), none, H, H, H, _, _, st0 (hd := none) (vs := [.ref a]) (ss := [.fz (.scr a ns)]) (Same.refl H) True.intro ⟨.scr hS, True.intro⟩, law a ns hl, ?_⟩
    refine ⟨fun F' H' ρ σ S' ⟨t, d, h1, h2, h3⟩ => ?_, fun _ _ _ _ _ z => z.elim, fun _ _ _ _ _ z => z.elim, fun _ _ _ _ _ _ _ _ z => z.elim, fun _ _ _ _ _ C fs d F2 H2 _ _ z => z.elim⟩
    obtain ⟨b, c, S2⟩ := S'.hand h1 h2
    refine ⟨some (b, c), H, H, F', _, _, S2, h3, ⟨fun _ _ _ _ _ z => z.elim, fun _ _ _ _ _ z => z.elim, fun _ _ _ _ _ z => z.elim, fun v F2 H2 r ρ σ S3 q z => ?_, fun _ _ _ _ _ C fs d F2 H2 _ _ z => z.elim⟩⟩
    subst z
    have q : Rp K F2 v (.bl true) := q
    cases q
    exact hq H2
end
end MP
end
section
set_option Elab.async false
set_option linter.all false
set_option maxRecDepth 100000
set_option maxHeartbeats 4000000
set_option autoImplicit false
namespace MP
open PySem PySem.Spec PyProof.Rows L2
/-! ### looks at the written part -/
theorem band {a b : Bool} (h : (a && b) = true) : a = true ∧ b = true := Bool.and_eq_true_iff.mp h
def oexB (K : Frag) (C : Addr) : Bool := (match K.lookup C with
  | some ⟨.type "type", _, .cls cd, sl⟩ => (match cd.mro, sl.toList with
    | .ref C' :: bm, [_, _, _, _, some (.builtin n), _] => decide (C' = C) && decide (n = "ValueError.__new__") && !cd.hasDel && cd.hasDict && PySem.HandSPX.refsVE bm
    | _, _ => false)
  | _ => false) && (He.eqO (PySem.W.findIn K (.ref C) "__setattr__") (some (some (.builtin "object.__setattr__"))) && (decide (PySem.W.subIn K (.ref C) (.type "BaseException") = some true) && (decide (PySem.W.typeIn K (.ref C) = some (.type "type")) && PySem.W.keepIn K (.ref C))))
theorem oexB_ok {K : Frag} {C : Addr} (h : oexB K C = true) : OexC K C := by
  unfold oexB at h
  obtain ⟨h0, h⟩ := band h
  obtain ⟨h1, h⟩ := band h
  obtain ⟨h2, h⟩ := band h
  obtain ⟨h3, h4⟩ := band h
  refine ⟨?_, He.eqO_ok h1, of_decide_eq_true h2, of_decide_eq_true h3, h4⟩
  split at h0
  · rename_i dd cd sl ho
    split at h0
    · rename_i C' bm k0 k1 k2 k3 n k5 hm hs
      simp only [Bool.and_eq_true, decide_eq_true_eq, Bool.not_eq_true'] at h0
      obtain ⟨⟨⟨⟨e1, e2⟩, e3⟩, e4⟩, e5⟩ := h0
      subst e1 e2
      obtain ⟨nm, bs, mro, ns, qn, hd, sn, sb, ab, col, dl⟩ := cd
      dsimp only at hm e3 e4
      subst hm e3 e4
      obtain ⟨sl⟩ := sl
      dsimp only at hs
      subst hs
      exact ⟨nm, qn, ns, bs, bm, sn, sb, ab, col, dd, k0, k1, k2, k3, k5, ho, e5⟩
    · cases h0
  · cases h0
/-- an exception's own look: its __init__ at g, its field -/
def exfB (K : Frag) (x : Str) (fl : Option Str) : Bool := oexB K (He.ga K x) && (match PySem.W.findIn K (.ref (He.ga K x)) "__init__" with
  | some (some (.ref g)) => decide (PySem.W.typeIn K (.ref g) = some (.type "function"))
  | _ => false) && (match fl with
  | some f => He.eqO (PySem.W.findIn K (.ref (He.ga K x)) f) (some none) && xfB K (He.ga K x)
  | none => true)
/-- where x's __init__ stands -/
def initAt (K : Frag) (x : Str) : Addr := match PySem.W.findIn K (.ref (He.ga K x)) "__init__" with
  | some (some (.ref g)) => g
  | _ => 0
theorem exfB_ok {K : Frag} {x : Str} {fl : Option Str} (h : exfB K x fl = true) : OexC K (He.ga K x) ∧ PySem.W.findIn K (.ref (He.ga K x)) "__init__" = some (some (.ref (initAt K x))) ∧ PySem.W.typeIn K (.ref (initAt K x)) = some (.type "function") ∧
    ∀ f, fl = some f → PySem.W.findIn K (.ref (He.ga K x)) f = some none ∧ XfC K (He.ga K x) := by
  unfold exfB at h
  obtain ⟨h, h3⟩ := band h
  obtain ⟨h1, h2⟩ := band h
  refine ⟨oexB_ok h1, ?_, ?_, fun f e => ?_⟩
  · unfold initAt
    split at h2
    · rename_i g e; rw [e]
    · cases h2
  · unfold initAt
    split at h2
    · rename_i g e; exact of_decide_eq_true h2
    · cases h2
  · subst e
    obtain ⟨h4, h5⟩ := band h3
    exact ⟨He.eqO_ok h4, xfB_ok h5⟩
/-- a function read off its class -/
def clsFnB (K : Frag) (D : Addr) (m : Str) (g : Addr) : Bool := PySem.W.readsIn K D (.type "type") && (He.eqO (PySem.W.specialIn K (.ref D) "__getattribute__") (some (some (.builtin "type.__getattribute__"))) && ((match PySem.W.findCls K (.ref D) (.type "type") m with
  | some (.val (.ref g')) => decide (g' = g)
  | _ => false) && PySem.W.keepIn K (.ref g)))
theorem clsFnB_ok {K : Frag} {D g : Addr} {m : Str} (h : clsFnB K D m g = true) : ClsFn K D m g := by
  unfold clsFnB at h
  obtain ⟨h1, h⟩ := band h
  obtain ⟨h2, h⟩ := band h
  obtain ⟨h3, h4⟩ := band h
  refine ⟨⟨h1, He.eqO_ok h2⟩, ?_, h4⟩
  split at h3
  · rename_i g' e
    rw [e, of_decide_eq_true h3]
  · cases h3
/-- what isinstance asks of an own class -/
def clsTB (K : Frag) (C : Addr) : Bool := PySem.W.plainGet K C Str.empty && (PySem.W.hasDictIn K C && (PySem.W.plainOver K C && (He.eqO (PySem.W.findIn K (.ref C) "__setattr__") (some (some (.builtin "object.__setattr__"))) &&
  (He.eqO (PySem.W.findIn K (.ref C) "__class__") (some (some (.builtin "object.__class__"))) && (He.eqO (PySem.W.specialIn K (.builtin "object.__class__") "__get__") (some (some (.builtin "getset_descriptor.__get__"))) &&
  (decide (PySem.W.takesIn K (.builtin "object.__class__") = some true) && decide (PySem.W.mroIn K C (.type "object") = some true)))))))
theorem clsTB_ok {K : Frag} {C : Addr} (h : clsTB K C = true) : ClsT K C := by
  unfold clsTB at h
  obtain ⟨h1, h⟩ := band h
  obtain ⟨h2, h⟩ := band h
  obtain ⟨h3, h⟩ := band h
  obtain ⟨h4, h⟩ := band h
  obtain ⟨h5, h⟩ := band h
  obtain ⟨h6, h⟩ := band h
  obtain ⟨h7, h8⟩ := band h
  exact ⟨⟨h1, h2, h3, He.eqO_ok h4⟩, He.eqO_ok h5, He.eqO_ok h6, of_decide_eq_true h7, of_decide_eq_true h8⟩
/-- a constant of the module -/
inductive Cn where
  | int (i : Int) | str (s : Str) | il (l : List Int) | sl (l : List Str)
def Cn.d : Cn → D
  | .int i => .int i
  | .str s => .str s
  | .il l => .tup (l.map D.int)
  | .sl l => .tup (l.map D.str)
def cnI (K : Frag) (x : Str) (i : Int) : Bool := match PySem.W.nsIn K mainGlobals x with
  | some (some (.int j _)) => decide (j = i)
  | _ => false
def cnS (K : Frag) (x : Str) (s : Str) : Bool := match PySem.W.nsIn K mainGlobals x with
  | some (some (.str j _)) => decide (j = s)
  | _ => false
def Cn.b (K : Frag) (x : Str) : Cn → Bool
  | .int i => cnI K x i
  | .str s => cnS K x s
  | .il l => He.eqO (PySem.W.nsIn K mainGlobals x) (some (some (.ref (He.ga K x)))) && He.tupB K x (l.map He.Dv.int)
  | .sl l => He.eqO (PySem.W.nsIn K mainGlobals x) (some (some (.ref (He.ga K x)))) && He.tupB K x (l.map He.Dv.str)
theorem rpAll_strs {K : Frag} {F : Hp} : ∀ ns : List Str, RpAll K F (ns.map V.str) (ns.map D.str)
  | [] => .nil
  | n :: ns => .cons (.str n) (rpAll_strs ns)
theorem Cn.ok {K : Frag} {h : Heap} {mg : Str → Option Value} (X : K.In h) (G : h.Ns mainGlobals mg) {x : Str} (c : Cn) (e : c.b K x = true) : ∃ v u, mg x = some u ∧ RelV v u ∧ ∀ F, Rp K F v c.d := by
  cases c with
  | int i =>
    have e : cnI K x i = true := e
    unfold cnI at e
    split at e
    · rename_i j t ho
      have ej := of_decide_eq_true e
      subst ej
      exact ⟨.int j, _, PySem.W.mg_of X G ho, ⟨t, rfl⟩, fun F => .int j⟩
    · cases e
  | str i =>
    have e : cnS K x i = true := e
    unfold cnS at e
    split at e
    · rename_i j t ho
      have ej := of_decide_eq_true e
      subst ej
      exact ⟨.str j, _, PySem.W.mg_of X G ho, ⟨t, rfl⟩, fun F => .str j⟩
    · cases e
  | il l =>
    obtain ⟨h1, h2⟩ := band e
    refine ⟨.ref (He.ga K x), _, PySem.W.mg_of X G (He.eqO_ok h1), rfl, fun F => ?_⟩
    have z := He.tupB_ok h2 F
    rw [List.map_map] at z
    exact .tup z (rpAll_ints l)
  | sl l =>
    obtain ⟨h1, h2⟩ := band e
    refine ⟨.ref (He.ga K x), _, PySem.W.mg_of X G (He.eqO_ok h1), rfl, fun F => ?_⟩
    have z := He.tupB_ok h2 F
    rw [List.map_map] at z
    exact .tup z (rpAll_strs l)
end MP
end
section
set_option Elab.async false
set_option linter.all false
set_option maxRecDepth 100000
set_option maxHeartbeats 4000000
set_option autoImplicit false
namespace MP
open PySem PySem.Spec PyProof.Rows L2
/-- the tables of a text, as lists -/
structure TabL where
  fnN : List Str
  cls : List Str
  cons : List (Str × Cn)
  mthN : List (List Str)
  exc : List (Option Str)
  sub : List (Str × Str)
  fl : List (Str × Str)
  ki : List (Kd × Ty)
  free : List Str
  exm : List (Str × Nat)
  xl : List (Str × Str)
  eqC : List Str := []
  qk : List (Str × Str) := []
/-- what may be called -/
structure Av where
  f : Nat → Bool := fun _ => false
  m : Nat → Bool := fun _ => false
  mt : Nat → Nat → Bool := fun _ _ => false
  e : Nat → Bool := fun _ => false
  q : Str → Bool := fun _ => false
  eqB : Str → List (Str × D) → D → Option Bool := fun _ _ _ => none
def TabL.tab (L : TabL) (fn mkk : Nat → Spec) (mth : Nat → Nat → Spec) (A : Av) : Tab where
  fn := fn
  cls := fun j => L.cls.getD j default
  con := fun j => ((L.cons[j]?).map fun p => p.2.d).getD .non
  mkk := mkk
  mth := mth
  exc := fun j => (L.exc[j]?).getD none
  sub := fun C C' => L.sub.contains (C, C')
  fl := fun C f => L.fl.contains (C, f)
  ki := fun k t => L.ki.contains (k, t)
  free := L.free
  hasC := fun j => decide (j < L.cls.length)
  hasK := fun j => decide (j < L.cons.length)
  conN := fun j => ((L.cons[j]?).map fun p => p.1).getD default
  fnN := fun j => L.fnN.getD j default
  mthN := fun j m => (L.mthN.getD j []).getD m default
  hasX := fun C j => L.exm.contains (C, j)
  xl := fun C f => L.xl.contains (C, f)
  hasF := A.f
  hasM := A.m
  hasMt := A.mt
  hasE := A.e
  hasQ := A.q
  eqB := A.eqB
  qk := fun C C' => L.qk.contains (C, C')
def noSpec : Spec := fun _ _ _ => False
def TabL.t0 (L : TabL) : Tab := L.tab (fun _ => noSpec) (fun _ => noSpec) (fun _ _ => noSpec) {}
def TabL.ok (L : TabL) (K : Frag) : Bool :=
  L.free.all (fun x => He.eqO (PySem.W.nsIn K mainGlobals x) (some none)) && (L.fl.all (fun p => clsTB K (He.ga K p.1) && He.eqO (PySem.W.findIn K (.ref (He.ga K p.1)) p.2) (some none)) &&
  (L.ki.all (fun p => decide (PySem.W.kitOne K (kdV K p.1) (tyV L.t0 K p.2) = some (isB L.t0 p.1 p.2)) && (match p.1 with | .own C => clsTB K (He.ga K C) | _ => true)) &&
  (L.cls.all (fun x => He.eqO (PySem.W.nsIn K mainGlobals x) (some (some (.ref (He.ga K x))))) && (L.cons.all (fun p => p.2.b K p.1) &&
  (L.exm.all (fun p => decide (PySem.W.exmOne K (.ref (He.ga K p.1)) (.ref (He.ga K (L.t0.cls p.2))) = some (L.t0.sub p.1 (L.t0.cls p.2)))) &&
  L.xl.all (fun p => xfB K (He.ga K p.1) && He.eqO (PySem.W.findIn K (.ref (He.ga K p.1)) p.2) (some none)))))))
theorem TabL.facts (L : TabL) {fn mkk : Nat → Spec} {mth : Nat → Nat → Spec} {A : Av} {K : Frag} {h : Heap} {mg : Str → Option Value} (X : K.In h) (G : h.Ns mainGlobals mg) (e : L.ok K = true) : KFacts K mg (L.tab fn mkk mth A) := by
  unfold TabL.ok at e
  obtain ⟨h1, e⟩ := band e
  obtain ⟨h2, e⟩ := band e
  obtain ⟨h3, e⟩ := band e
  obtain ⟨h4, e⟩ := band e
  obtain ⟨h5, e⟩ := band e
  obtain ⟨h6, h7⟩ := band e
  rw [List.all_eq_true] at h1 h2 h3 h4 h5 h6 h7
  refine ⟨fun x hx => ?_, fun C f hx => ?_, fun k t hx => ?_, fun j hx => ?_, fun j hx => ?_, fun C j hx => ?_, fun C f hx => ?_⟩
  · have hx : L.free.contains x = true := hx
    exact PySem.W.mg_none_of X G (He.eqO_ok (h1 x (by simpa using hx)))
  · have hx : L.fl.contains (C, f) = true := hx
    obtain ⟨a, b⟩ := band (h2 (C, f) (by simpa using hx))
    exact ⟨(clsTB_ok a).cl, He.eqO_ok b⟩
  · have hx : L.ki.contains (k, t) = true := hx
    obtain ⟨a, b⟩ := band (h3 (k, t) (by simpa using hx))
    refine ⟨of_decide_eq_true a, fun C e => ?_⟩
    subst e
    exact clsTB_ok b
  · have hx : decide (j < L.cls.length) = true := hx
    have hl := of_decide_eq_true hx
    have hm : L.cls.getD j default ∈ L.cls := by
      rw [List.getD_eq_getElem?_getD, List.getElem?_eq_getElem hl]
      exact List.getElem_mem hl
    exact PySem.W.mg_of X G (He.eqO_ok (h4 _ hm))
  · have hx : decide (j < L.cons.length) = true := hx
    have hl := of_decide_eq_true hx
    have hm := h5 _ (List.getElem_mem hl)
    obtain ⟨v, u, k1, k2, k3⟩ := Cn.ok X G _ hm
    refine ⟨v, u, ?_, k2, fun F => ?_⟩
    · show mg (((L.cons[j]?).map fun p => p.1).getD default) = _
      rw [List.getElem?_eq_getElem hl]
      exact k1
    · show Rp K F v (((L.cons[j]?).map fun p => p.2.d).getD .non)
      rw [List.getElem?_eq_getElem hl]
      exact k3 F
  · have hx : L.exm.contains (C, j) = true := hx
    exact of_decide_eq_true (h6 (C, j) (by simpa using hx))
  · have hx : L.xl.contains (C, f) = true := hx
    obtain ⟨a, b⟩ := band (h7 (C, f) (by simpa using hx))
    exact ⟨xfB_ok a, He.eqO_ok b⟩
/-- what an own __eq__'s class must have -/
def eqCB (K : Frag) (C : Addr) : Bool := He.eqO (PySem.W.findIn K (.ref C) "__eq__") (some (some (.ref (He.ma K C "__eq__")))) && (PySem.W.isFn K (.ref (He.ma K C "__eq__")) && (He.eqO (PySem.W.findIn K (.ref C) "__ne__") (some (some (.builtin "object.__ne__"))) &&
  (decide (PySem.W.subIn K (.ref C) (.type "object") = some true) && eqNames.all fun n => PySem.W.notFirst K C (.type n) && decide (PySem.W.subIn K (.ref C) (.type n) = some false))))
def TabL.okQ (L : TabL) (K : Frag) : Bool := L.eqC.all (fun C => eqCB K (He.ga K C)) && L.qk.all fun p => PySem.W.notFirst K (He.ga K p.1) (.ref (He.ga K p.2))
theorem TabL.eqAv (L : TabL) {fn mkk : Nat → Spec} {mth : Nat → Nat → Spec} {A : Av} {P : Program} {w : World} {K : Frag} {mg : Str → Option Value} {base : Heap} {k lv : Nat} {C : Str} {fd : FuncData} {ps : List Str} (e : L.okQ K = true) (hC : L.eqC.contains C = true) (hl : lv + 1 ≤ k)
    (F : FnOk P w K mg base (L2.CX P w) lv (He.ma K (He.ga K C) "__eq__") fd ps (SpD K (spQ (L.tab fn mkk mth A) C))) (hb : Binds K fd ps []) : EqAv P w K mg base (L.tab fn mkk mth A) k C := by
  unfold TabL.okQ at e
  obtain ⟨h1, h2⟩ := band e
  rw [List.all_eq_true] at h1 h2
  have h := h1 C (by simpa using hC)
  unfold eqCB at h
  obtain ⟨k1, h⟩ := band h
  obtain ⟨k2, h⟩ := band h
  obtain ⟨k3, h⟩ := band h
  obtain ⟨k4, k5⟩ := band h
  rw [List.all_eq_true] at k5
  refine ⟨_, fd, ps, lv, hl, F, He.eqO_ok k1, He.eqO_ok k3, k2, of_decide_eq_true k4, hb, fun n hn => ?_, fun C' hq => ?_⟩
  · obtain ⟨a, b⟩ := band (k5 n hn)
    exact ⟨a, of_decide_eq_true b⟩
  · have hq : L.qk.contains (C, C') = true := hq
    exact h2 (C, C') (by simpa using hq)
/-! ### the head's Hook: facts by names, defs, a look of one's own; with the statics -/
def asY (g : Addr → Option Obj) (n : Nat) : List Addr := cStatics :: He.asD g n
def obsY (n : Nat) (fa : List He.Fa) (fn : List He.DefD) (ex : Frag → Bool) (g : Addr → Option Obj) : He.AlD × Bool := (He.obsD fa fn (He.frG g (asY g n)), ex (He.frG g (asY g n)))
def hookY (n : Nat) (fa : List He.Fa) (fn : List He.DefD) (ex : Frag → Bool) : PySem.W.Hook where
  α := He.AlD × Bool
  obs := fun s => obsY n fa fn ex s.heap.get?
  val := fun _ => (He.valD fn, true)
  says := fun _ h => ∃ K : Frag, K.In h ∧ He.SaysD fa fn K ∧ ex K = true
  of := fun _ _ e => ⟨_, He.frG_in, congrArg (fun z : He.AlD × Bool => z.1) e, congrArg (fun z : He.AlD × Bool => z.2) e⟩
  keeps := fun _ _ _ ⟨K, hK, c⟩ k => ⟨K, PySem.W.Frag.In.keeps hK k, c⟩
theorem obsY_eq {n : Nat} {fa : List He.Fa} {fn : List He.DefD} {ex : Frag → Bool} {g : Addr → Option Obj} {s : Shared} (h : ∀ a, g a = s.heap.get? a) : obsY n fa fn ex g = (hookY n fa fn ex).obs s := by
  have e : g = s.heap.get? := funext h
  rw [e] <;> rfl
end MP
end
section
set_option Elab.async false
set_option linter.all false
set_option maxRecDepth 100000
set_option maxHeartbeats 4000000
namespace MP
open PySem
/-- the text of the laws' draw; c: its one constant -/
def drawA (c : Int) : List MP.St := [(.ife (.and [(.val (.cmp .eq (.idx (.var 0) (.int 2)) (.int 0))), (.val (.cmp .lt (.idx (.var 0) (.int 1)) (.bi .len [(.idx (.var 0) (.int 0))])))]) [(.set 3 (.idx (.idx (.var 0) (.int 0)) (.idx (.var 0) (.int 1)))), (.frz 3), (.seti 0 (.int 1) (.bin .add (.idx (.var 0) (.int 1)) (.int 1))), (.seti 0 (.int 3) (.bin .mod (.bi .int [(.bin .add (.bin .add (.bin .mul (.idx (.var 0) (.int 3)) (.int 69621)) (.var 3)) (.int c))]) (.int 2147483629))), (.ife (.val (.cmp .ge (.var 3) (.bin .pow (.int 10) (.int 18)))) [(.seti 0 (.int 2) (.var 3))] [])] []), (.ife (.val (.cmp .gt (.idx (.var 0) (.int 2)) (.int 0))) [(.set 4 (.bin .mod (.bi .int [(.idx (.var 0) (.int 2))]) (.var 1))), (.frz 4), (.seti 0 (.int 2) (.bin .fdiv (.idx (.var 0) (.int 2)) (.var 1))), (.ret (.var 4))] []), (.seti 0 (.int 4) (.bin .add (.idx (.var 0) (.int 4)) (.int 1))), (.set 2 (.bin .mod (.bi .int [(.bin .mul (.bi .int [(.bin .add (.idx (.var 0) (.int 3)) (.bin .mul (.int 7919) (.idx (.var 0) (.int 4))))]) (.int 48271))]) (.int 2147483647))), (.frz 2), (.set 2 (.bin .mod (.bi .int [(.bin .mul (.var 2) (.bin .add (.bin .fdiv (.var 2) (.int 1009)) (.int 69621)))]) (.int 2147483647))), (.frz 2), (.set 2 (.bin .mod (.bi .int [(.bin .mul (.var 2) (.bin .add (.bin .fdiv (.var 2) (.int 2003)) (.int 40692)))]) (.int 2147483399))), (.frz 2), (.ret (.bin .mod (.bi .int [(.bin .fdiv (.var 2) (.int 16))]) (.var 1)))]
section
variable {T : Tab} {ρ : Rho} {E : Exn → Prop} {Q : EV → Prop} {a b : Ex} {i j : Int} {k : Nat}
theorem e_int (q : Q (.fz (.int i))) : wE T (.int i) ρ E Q := q
theorem e_var {d : D} (h : ρ[k]? = some (some (.fz d))) (q : Q (.fz d)) : wE T (.var k) ρ E Q := by unfold wE; rw [h]; exact q
theorem e_own {t : Option Addr} {d : D} (h : ρ[k]? = some (some (.ow t d))) (q : Q (.pk k d)) : wE T (.var k) ρ E Q := by unfold wE; rw [h]; exact q
theorem e_bin {op : Bop} (h : wE T a ρ E fun x => wE T b ρ E fun y => x ≠ .hnd ∧ y ≠ .hnd ∧ binW op x.d y.d Q) : wE T (.bin op a b) ρ E Q := h
theorem e_cmp {op : Cop} (h : wE T a ρ E fun x => wE T b ρ E fun y => x ≠ .hnd ∧ y ≠ .hnd ∧ cmpW T op x.d y.d Q) : wE T (.cmp op a b) ρ E Q := h
theorem e_idx (h : wE T a ρ E fun x => wE T b ρ E fun y => x ≠ .hnd ∧ y ≠ .hnd ∧ itemW x.d y.d Q) : wE T (.idx a b) ρ E Q := h
theorem e_toint (h : wE T a ρ E fun x => biW .int [x] Q) : wE T (.bi .int [a]) ρ E Q := h
theorem e_len (h : wE T a ρ E fun x => biW .len [x] Q) : wE T (.bi .len [a]) ρ E Q := h
theorem b_int {x : EV} (e : x = .fz (.int i)) (q : Q (.fz (.int i))) : biW .int [x] Q := by rw [e]; exact q
theorem b_op {x y : EV} {op : Bop} (hx : x ≠ .hnd) (hy : y ≠ .hnd) (q : binW op x.d y.d Q) : x ≠ .hnd ∧ y ≠ .hnd ∧ binW op x.d y.d Q := ⟨hx, hy, q⟩
theorem pk_hnd {d : D} : EV.pk k d ≠ .hnd := fun z => by cases z
theorem h_item {t : Option Addr} {ds : List D} {n : Nat} {d : D} (h : ρ[k]? = some (some (.ow t (.lst ds)))) (hi : L2.atI ds (n : Int) = some d) (q : Q (.fz d)) : wE T (.idx (.var k) (.int n)) ρ E Q := by
  refine e_idx (e_own h (e_int ⟨pk_hnd, fz_hnd, d, hi, q⟩))
end
theorem cmul_r {i j : Int} (h1 : -(2 ^ 64) < j) (h2 : j < 2 ^ 64) : L2.CMul i j := .inr ⟨h1, h2⟩
theorem cmul_l {i j : Int} (h1 : -(2 ^ 64) < i) (h2 : i < 2 ^ 64) : L2.CMul i j := .inl ⟨h1, h2⟩
section
variable {Q : EV → Prop} {i j : Int} {d : D} {k : D → Prop}
theorem b_add (q : Q (.fz (.int (i + j)))) : EV.fz (.int i) ≠ .hnd ∧ EV.fz (.int j) ≠ .hnd ∧ binW .add (EV.fz (.int i)).d (EV.fz (.int j)).d Q := ⟨fz_hnd, fz_hnd, q⟩
theorem b_mul (hc : L2.CMul i j) (q : Q (.fz (.int (i * j)))) : EV.fz (.int i) ≠ .hnd ∧ EV.fz (.int j) ≠ .hnd ∧ binW .mul (EV.fz (.int i)).d (EV.fz (.int j)).d Q := ⟨fz_hnd, fz_hnd, hc, q⟩
theorem b_mod (hc : 0 < j) (q : Q (.fz (.int (i % j)))) : EV.fz (.int i) ≠ .hnd ∧ EV.fz (.int j) ≠ .hnd ∧ binW .mod (EV.fz (.int i)).d (EV.fz (.int j)).d Q := ⟨fz_hnd, fz_hnd, hc, q⟩
theorem b_fdiv (hc : L2.CDivW i j) (q : Q (.fz (.int (i / j)))) : EV.fz (.int i) ≠ .hnd ∧ EV.fz (.int j) ≠ .hnd ∧ binW .fdiv (EV.fz (.int i)).d (EV.fz (.int j)).d Q := ⟨fz_hnd, fz_hnd, hc, q⟩
theorem wSs_frz {T : Tab} {ρ : Rho} {r : List MP.St} {W : Wd} {n : Nat} {d : D} (h : ρ[n]? = some (some (.fz d))) (q : wSs T r ρ W) : wSs T (.frz n :: r) ρ W := by unfold wSs wS; rw [h]; exact q
theorem wSs_set {T : Tab} {ρ : Rho} {r : List MP.St} {W : Wd} {n : Nat} {e : Ex} (q : wE T e ρ (W.ex ρ) fun x => x.keep fun s => wSs T r (ρ.set n (some s)) W) : wSs T (.set n e :: r) ρ W := q
theorem wSs_ret {T : Tab} {ρ : Rho} {r : List MP.St} {W : Wd} {e : Ex} (q : wE T e ρ (W.ex ρ) fun x => x.out (W.rt ρ)) : wSs T (.ret e :: r) ρ W := q
theorem wSs_ife {T : Tab} {ρ : Rho} {r a b : List MP.St} {W : Wd} {t : Te} (q : wT T t ρ (W.ex ρ) fun c => if c = true then wSs T a ρ { W with nx := fun ρ' => wSs T r ρ' W } else wSs T b ρ { W with nx := fun ρ' => wSs T r ρ' W }) : wSs T (.ife t a b :: r) ρ W := q
theorem wSs_seti {T : Tab} {ρ : Rho} {r : List MP.St} {W : Wd} {n : Nat} {j e : Ex} {t : Option Addr} {ds : List D} (h : ρ[n]? = some (some (.ow t (.lst ds)))) (q : wE T e ρ (W.ex ρ) fun x => x.put fun d => wE T j ρ (W.ex ρ) fun y => intW y.d fun i => ∃ m, L2.ixN ds.length i = some m ∧ wSs T r (ρ.set n (some (.ow t (.lst (ds.set m d))))) W) : wSs T (.seti n j e :: r) ρ W := by unfold wSs wS; rw [h]; exact q
theorem keep_fz {k : SV → Prop} (q : k (.fz d)) : EV.keep (.fz d) k := q
theorem put_fz (q : k d) : EV.put (.fz d) k := q
theorem b_i (q : Q (.fz (.int i))) : biW .int [.fz (.int i)] Q := q
theorem cdw {j : Int} (h0 : 0 < j) (h1 : j < 2 ^ 62) : L2.CDivW i j := by
  refine ⟨h0, ?_⟩
  by_cases z : j.natAbs = 0
  · omega
  have : j.natAbs.log2 < 62 := (Nat.log2_lt z).mpr (by omega)
  omega
end
section
variable {h cc : Addr} {ns : List Int} {m c : Int} {r : Rho}
def stt (h cc : Addr) (ns : List Int) (m : Int) (r : Rho) (i1 i2 i3 i4 : Int) (s2 s3 s4 : Option SV) : Rho := some (.ow (some h) (hList cc ns i1 i2 i3 i4)) :: some (.fz (.int m)) :: s2 :: s3 :: s4 :: r
def Dd (h cc : Addr) (ns : List Int) (m : Int) : Wd := { nx := fun _ => False, rt := fun ρ r => (∃ d, r = .fz (.int d) ∧ 0 ≤ d ∧ d < m) ∧ ∃ i1 i2 i3 i4, hOk i1 i2 i3 i4 ∧ ρ[0]? = some (some (.ow (some h) (hList cc ns i1 i2 i3 i4))), ex := fun _ _ => False }
theorem draw3 (T : Tab) (i1 i2 i3 i4 : Int) (s2 s3 s4 : Option SV) (ho : hOk i1 i2 i3 i4) (h0 : 0 < m) (h1 : m < 2 ^ 62) : wSs T ((drawA c).drop 2) (stt h cc ns m r i1 i2 i3 i4 s2 s3 s4) (Dd h cc ns m) := by
  obtain ⟨o1, o2, o3, o4, o5⟩ := ho
  unfold drawA stt hList
  simp only [List.drop]
  unfold wSs wS
  simp only [List.getElem?_cons_zero]
  refine e_bin (h_item (n := 4) rfl rfl (e_int (b_add (put_fz (e_int ?_)))))
  refine ⟨4, rfl, ?_⟩
  simp only [List.set_cons_zero, List.set_cons_succ]
  -- number
  unfold wSs wS
  refine e_bin (e_toint (e_bin (e_toint (e_bin (h_item (n := 3) rfl rfl (e_bin (e_int (h_item (n := 4) rfl rfl (b_mul (cmul_l (by decide) (by decide)) (b_add (b_i (e_int (b_mul (cmul_r (by decide) (by decide)) (b_i (e_int (b_mod (by decide) ?_))))))))))))))))
  generalize hn1 : ((i3 + 7919 * (i4 + 1)) * 48271) % 2147483647 = n1
  have p1 : 0 ≤ n1 ∧ n1 < 2147483647 := by rw [← hn1]; exact ⟨Int.emod_nonneg _ (by decide), Int.emod_lt_of_pos _ (by decide)⟩
  refine keep_fz ?_
  simp only [List.set_cons_zero, List.set_cons_succ]
  refine wSs_frz (d := .int n1) rfl (wSs_set ?_)
  refine e_bin (e_toint (e_bin (e_var (d := .int n1) rfl (e_bin (e_bin (e_var (d := .int n1) rfl (e_int (b_fdiv (cdw (by decide) (by decide)) (e_int (b_add (b_mul (cmul_l (by omega) (by omega)) (b_i (e_int (b_mod (by decide) ?_))))))))))))))
  generalize hn2 : (n1 * (n1 / 1009 + 69621)) % 2147483647 = n2
  have p2 : 0 ≤ n2 ∧ n2 < 2147483647 := by rw [← hn2]; exact ⟨Int.emod_nonneg _ (by decide), Int.emod_lt_of_pos _ (by decide)⟩
  refine keep_fz ?_
  simp only [List.set_cons_zero, List.set_cons_succ]
  refine wSs_frz (d := .int n2) rfl (wSs_set ?_)
  refine e_bin (e_toint (e_bin (e_var (d := .int n2) rfl (e_bin (e_bin (e_var (d := .int n2) rfl (e_int (b_fdiv (cdw (by decide) (by decide)) (e_int (b_add (b_mul (cmul_l (by omega) (by omega)) (b_i (e_int (b_mod (by decide) ?_))))))))))))))
  generalize hn3 : (n2 * (n2 / 2003 + 40692)) % 2147483399 = n3
  refine keep_fz ?_
  simp only [List.set_cons_zero, List.set_cons_succ]
  refine wSs_frz (d := .int n3) rfl (wSs_ret ?_)
  refine e_bin (e_toint (e_bin (e_var (d := .int n3) rfl (e_int (b_fdiv (cdw (by decide) (by decide)) (b_i (e_var (d := .int m) rfl (b_mod h0 ?_))))))))
  exact ⟨⟨_, rfl, Int.emod_nonneg _ (by omega), Int.emod_lt_of_pos _ h0⟩, i1, i2, i3, i4 + 1, ⟨o1, o2, o3, o4, by omega⟩, rfl⟩
theorem t_val {T : Tab} {e : Ex} {ρ : Rho} {E : Exn → Prop} {Q : Bool → Prop} (q : wE T e ρ E fun x => boolW x Q) : wT T (.val e) ρ E Q := q
theorem c_gt {T : Tab} {x y : Int} {Q : EV → Prop} (q : Q (.fz (.bl (decide (y < x))))) : EV.fz (.int x) ≠ .hnd ∧ EV.fz (.int y) ≠ .hnd ∧ cmpW T .gt (EV.fz (.int x)).d (EV.fz (.int y)).d Q := ⟨fz_hnd, fz_hnd, q⟩
theorem c_lt {T : Tab} {x y : Int} {Q : EV → Prop} (q : Q (.fz (.bl (decide (x < y))))) : EV.fz (.int x) ≠ .hnd ∧ EV.fz (.int y) ≠ .hnd ∧ cmpW T .lt (EV.fz (.int x)).d (EV.fz (.int y)).d Q := ⟨fz_hnd, fz_hnd, q⟩
theorem c_ge {T : Tab} {x y : Int} {Q : EV → Prop} (q : Q (.fz (.bl (decide (y ≤ x))))) : EV.fz (.int x) ≠ .hnd ∧ EV.fz (.int y) ≠ .hnd ∧ cmpW T .ge (EV.fz (.int x)).d (EV.fz (.int y)).d Q := ⟨fz_hnd, fz_hnd, q⟩
theorem c_eqI {T : Tab} {x y : Int} {Q : EV → Prop} (q : Q (.fz (.bl (decide (x = y))))) : EV.fz (.int x) ≠ .hnd ∧ EV.fz (.int y) ≠ .hnd ∧ cmpW T .eq (EV.fz (.int x)).d (EV.fz (.int y)).d Q := by
  refine ⟨fz_hnd, fz_hnd, _, rfl, ?_⟩
  have e : PyData.eqv (EV.fz (.int x)).d.pd (EV.fz (.int y)).d.pd = decide (x = y) := by
    simp [EV.d, D.pd, PyData.eqv]
    by_cases z : x = y <;> simp [z]
  rw [e]; exact q
theorem c_bool {b : Bool} {Q : Bool → Prop} (q : Q b) : boolW (.fz (.bl b)) Q := q
theorem draw2 (T : Tab) (i1 i2 i3 i4 : Int) (s2 s3 s4 : Option SV) (ho : hOk i1 i2 i3 i4) (h0 : 0 < m) (h1 : m < 2 ^ 62) : wSs T ((drawA c).drop 1) (stt h cc ns m r i1 i2 i3 i4 s2 s3 s4) (Dd h cc ns m) := by
  have D3 := fun (s2 s3 s4 : Option SV) => draw3 (h := h) (cc := cc) (ns := ns) (m := m) (c := c) (r := r) T i1 i2 i3 i4 s2 s3 s4 ho h0 h1
  obtain ⟨o1, o2, o3, o4, o5⟩ := ho
  unfold drawA stt hList at D3 ⊢
  simp only [List.drop] at D3 ⊢
  refine wSs_ife (t_val (e_cmp (h_item (n := 2) rfl rfl (e_int (c_gt (c_bool ?_))))))
  by_cases z : 0 < i2
  · simp only [z, decide_true, if_true]
    refine wSs_set (e_bin (e_toint (h_item (n := 2) rfl rfl (b_i (e_var (d := .int m) rfl (b_mod h0 (keep_fz ?_)))))))
    simp only [List.set_cons_zero, List.set_cons_succ]
    refine wSs_frz (d := .int (i2 % m)) rfl (wSs_seti rfl ?_)
    refine e_bin (h_item (n := 2) rfl rfl (e_var (d := .int m) rfl (b_fdiv (cdw h0 h1) (put_fz (e_int ?_)))))
    refine ⟨2, rfl, ?_⟩
    simp only [List.set_cons_zero, List.set_cons_succ]
    refine wSs_ret (e_var (d := .int (i2 % m)) rfl ?_)
    exact ⟨⟨_, rfl, Int.emod_nonneg _ (by omega), Int.emod_lt_of_pos _ h0⟩, i1, i2 / m, i3, i4, ⟨o1, Int.ediv_nonneg (by omega) (by omega), o3, o4, o5⟩, rfl⟩
  · simp only [z, decide_false, Bool.false_eq_true, if_false]
    exact D3 s2 s3 s4
/-- a draw, from the start -/
theorem draw1 (T : Tab) (hc : 0 ≤ c) (hp : ∀ n ∈ ns, (0 : Int) ≤ n) (i1 i2 i3 i4 : Int) (s2 s3 s4 : Option SV) (ho : hOk i1 i2 i3 i4) (h0 : 0 < m) (h1 : m < 2 ^ 62) : wSs T (drawA c) (stt h cc ns m r i1 i2 i3 i4 s2 s3 s4) (Dd h cc ns m) := by
  have D2 := fun (i1 i2 i3 i4 : Int) (s2 s3 s4 : Option SV) (ho : hOk i1 i2 i3 i4) => draw2 (h := h) (cc := cc) (ns := ns) (m := m) (c := c) (r := r) T i1 i2 i3 i4 s2 s3 s4 ho h0 h1
  have ho' := ho
  obtain ⟨o1, o2, o3, o4, o5⟩ := ho
  unfold drawA stt hList at D2 ⊢
  simp only [List.drop] at D2
  refine wSs_ife ?_
  unfold wT wTAnd
  refine t_val (e_cmp (h_item (n := 2) rfl rfl (e_int (c_eqI (c_bool ?_)))))
  by_cases z : i2 = 0
  · simp only [z, decide_true, if_true]
    unfold wTAnd1
    refine t_val (e_cmp (h_item (n := 1) rfl rfl (e_len (h_item (n := 0) rfl rfl ⟨fz_hnd, c_lt (c_bool ?_)⟩))))
    by_cases z1 : i1 < (ns.length : Int)
    · simp only [z1, decide_true, if_true]
      unfold wTAnd1
      simp only [if_true]
      have hj : L2.ixN ns.length i1 = some i1.toNat := by
        unfold L2.ixN
        simp [o1, z1]
      obtain ⟨cell, hcell⟩ : ∃ cell, ns[i1.toNat]? = some cell := ⟨ns[i1.toNat]'(by omega), List.getElem?_eq_getElem _⟩
      have hcp : 0 ≤ cell := hp cell (List.mem_of_getElem? hcell)
      refine wSs_set (e_idx (h_item (n := 0) rfl rfl (h_item (n := 1) rfl rfl ⟨fz_hnd, fz_hnd, cell, ?_, keep_fz ?_⟩)))
      · unfold L2.atI; rw [hj]; exact hcell
      simp only [List.set_cons_zero, List.set_cons_succ]
      refine wSs_frz (d := .int cell) rfl (wSs_seti rfl ?_)
      refine e_bin (h_item (n := 1) rfl rfl (e_int (b_add (put_fz (e_int ⟨1, rfl, ?_⟩)))))
      simp only [List.set_cons_zero, List.set_cons_succ]
      refine wSs_seti rfl ?_
      refine e_bin (e_toint (e_bin (e_bin (e_bin (h_item (n := 3) rfl rfl (e_int (b_mul (cmul_r (by decide) (by decide)) (e_var (d := .int cell) rfl (b_add (e_int (b_add (b_i (e_int (b_mod (by decide) (put_fz (e_int ⟨3, rfl, ?_⟩))))))))))))))))
      simp only [List.set_cons_zero, List.set_cons_succ]
      generalize hn : (i3 * 69621 + cell + c) % 2147483629 = n3
      have p3 : 0 ≤ n3 ∧ n3 < 2147483629 := by rw [← hn]; exact ⟨Int.emod_nonneg _ (by decide), Int.emod_lt_of_pos _ (by decide)⟩
      refine wSs_ife (t_val (e_cmp (e_var (d := .int cell) rfl (e_bin (e_int (e_int ⟨fz_hnd, fz_hnd, ⟨by decide, by decide, by decide⟩, c_ge (c_bool ?_)⟩))))))
      by_cases z2 : (10 : Int) ^ (18 : Int).toNat ≤ cell
      · simp only [z2, decide_true, if_true]
        refine wSs_seti rfl (e_var (d := .int cell) rfl (put_fz (e_int ⟨2, rfl, ?_⟩)))
        simp only [List.set_cons_zero, List.set_cons_succ]
        exact D2 (i1 + 1) cell n3 i4 s2 (some (.fz (.int cell))) s4 ⟨by omega, hcp, p3.1, by omega, o5⟩
      · simp only [z2, decide_false, Bool.false_eq_true, if_false]
        exact D2 (i1 + 1) 0 n3 i4 s2 (some (.fz (.int cell))) s4 ⟨by omega, by omega, p3.1, by omega, o5⟩
    · simp only [z1, decide_false, Bool.false_eq_true, if_false]
      rw [z] at ho'
      exact D2 i1 0 i3 i4 s2 s3 s4 ho'
  · simp only [z, decide_false, Bool.false_eq_true, if_false]
    exact D2 i1 i2 i3 i4 s2 s3 s4 ho'
end
end MP
end
section
set_option Elab.async false
set_option linter.all false
set_option maxRecDepth 100000
set_option maxHeartbeats 4000000
set_option autoImplicit false
namespace MP
open PySem PySem.Spec PyProof.Rows L2 C8
/-- what the head gives -/
structure Hb (L : TabL) (fa : List He.Fa) (fn : List He.DefD) (K : Frag) (mg : Str → Option Value) : Prop where
  says : He.SaysD fa fn K
  hp : ∃ h : Heap, K.In h ∧ h.Ns mainGlobals mg
  ok : L.ok K = true
  okQ : L.okQ K = true
def avOf (lf lm : List Nat) (lt : List (Nat × Nat)) (le : List Nat) (lq : List Str) (eqB : Str → List (Str × D) → D → Option Bool) : Av := ⟨fun j => lf.contains j, fun j => lm.contains j, fun j m => lt.contains (j, m), fun j => le.contains j, fun C => lq.contains C, eqB⟩
/-- how a def of positional parameters binds -/
def BindF (d : He.DefD) (ps : List Str) : Prop := ∀ (kV doc pm : Value) (an : Option Addr) (cdv ct : Value) (us : List Value), us.length = ps.length → bindArgs (PySem.W.fnOf d.name d.qual d.params d.body d.scope .none kV doc pm an cdv ct) ⟨us, []⟩ = pure (ps.zip us)
section
variable {L : TabL} {fa : List He.Fa} {fn : List He.DefD} {P : Program} {w : World} {K : Frag} {mg : Str → Option Value} {base : Heap} {T : Tab} {k : Nat} {N ps : List Str} {fs mk : Nat → Spec} {mt : Nat → Nat → Spec} {A : Av}
theorem Hb.kf (B : Hb L fa fn K mg) : KFacts K mg (L.tab fs mk mt A) := let ⟨_, X, G⟩ := B.hp; L.facts X G B.ok
theorem Hb.glo (B : Hb L fa fn K mg) (i : Nat) {x : Str} (h : fa[i]? = some (.glo x)) : mg x = some (.ref (He.ga K x)) := let ⟨_, X, G⟩ := B.hp; He.glo_ok X G (B.says.fact i h)
theorem Hb.mkr (B : Hb L fa fn K mg) (i : Nat) {x : Str} (h : fa[i]? = some (.mkr x)) : Mk K (clA K x) (He.ma K (He.ga K x) "__init__") := He.mkr_ok (B.says.fact i h)
theorem Hb.cls (B : Hb L fa fn K mg) (i : Nat) {x : Str} (h : fa[i]? = some (.cls x)) : Cls K (clA K x) := He.cls_ok (B.says.fact i h)
theorem Hb.meth (B : Hb L fa fn K mg) (i : Nat) {x m : Str} (h : fa[i]? = some (.meth x m)) : Meth K (clA K x) m (He.ma K (He.ga K x) m) := He.meth_ok (B.says.fact i h)
theorem Hb.funD (B : Hb L fa fn K mg) (i : Nat) {d : He.DefD} (hd : fn[i]? = some d) (h0 : d.dfl = []) (h1 : d.kwd = []) : ∃ fd, FunD K d.name d.qual d.params d.body d.scope [] [] (He.fAd K d.at_) fd := by
  obtain ⟨fd, F⟩ := B.says.def_ i hd
  have e0 : d.dvs K = [] := by unfold He.DefD.dvs; rw [h0]; rfl
  have e1 : d.kws K = [] := by unfold He.DefD.kws; rw [h1]; rfl
  rw [e0, e1] at F
  exact ⟨fd, F⟩
theorem Hb.kit {lf lm le : List Nat} {lt : List (Nat × Nat)} {lq : List Str} {eqB : Str → List (Str × D) → D → Option Bool} (B : Hb L fa fn K mg) (h1 : ∀ j ∈ lf, FnAv P w K mg base (L.tab fs mk mt (avOf lf lm lt le lq eqB)) k j) (h2 : ∀ j ∈ lm, MkAv P w K mg base (L.tab fs mk mt (avOf lf lm lt le lq eqB)) k j)
    (h3 : ∀ p ∈ lt, MthAv P w K mg base (L.tab fs mk mt (avOf lf lm lt le lq eqB)) k p.1 p.2) (h4 : ∀ j ∈ le, ExAv P w K mg base (L.tab fs mk mt (avOf lf lm lt le lq eqB)) k j) (h5 : ∀ C ∈ lq, EqAv P w K mg base (L.tab fs mk mt (avOf lf lm lt le lq eqB)) k C) : Kit P w K mg base (L.tab fs mk mt (avOf lf lm lt le lq eqB)) k where
  G := B.kf
  fn := fun j h => h1 j (by have h : lf.contains j = true := h; simpa using h)
  mkk := fun j h => h2 j (by have h : lm.contains j = true := h; simpa using h)
  mth := fun j m h => h3 (j, m) (by have h : lt.contains (j, m) = true := h; simpa using h)
  ex := fun j h => h4 j (by have h : le.contains j = true := h; simpa using h)
  eqs := fun C h => h5 C (by have h : lq.contains C = true := h; simpa using h)
/-- a def by its text and its law -/
theorem Hb.fnOk {spec : Spec} (B : Hb L fa fn K mg) (i : Nat) {d : He.DefD} (hd : fn[i]? = some d) (h0 : d.dfl = []) (h1 : d.kwd = []) (hs : scC N ps d.scope = true) (Y : Kit P w K mg base T k) {ast : List St} (hm : mSs T (scOf N d.scope) ast d.body = true) (hb : BindF d ps) (hlen : ∀ ss E Q, spec ss E Q → ss.length = ps.length)
    (law : ∀ ss E Q, spec ss E Q → wSs T ast (rho0 N ss) { nx := fun _ => Q (.fz .non), rt := fun _ => Q, ex := fun _ => E }) : ∃ fd, FnOk P w K mg base (L2.CX P w) (k + 1) (He.fAd K d.at_) fd ps (SpD K spec) ∧ PySem.W.keepIn K (.ref (He.fAd K d.at_)) = true ∧ Binds K fd ps [] := by
  obtain ⟨fd, F⟩ := B.funD i hd h0 h1
  exact ⟨fd, fn_ok F (fnScope_by hs) Y hm hlen law, F.kp, F.bindsN hb⟩
theorem Hb.fnAv {T' : Tab} {j : Nat} {x : Str} (B : Hb L fa fn K mg) (i gi : Nat) {d : He.DefD} (hd : fn[i]? = some d) (h0 : d.dfl = []) (h1 : d.kwd = []) (ha : d.at_ = (x, none)) (hg : fa[gi]? = some (.glo x)) (hs : scC N ps d.scope = true) (Y : Kit P w K mg base T k) {ast : List St} (hm : mSs T (scOf N d.scope) ast d.body = true) (hb : BindF d ps) (hx : T'.fnN j = x) (hlen : ∀ ss E Q, T'.fn j ss E Q → ss.length = ps.length)
    (law : ∀ ss E Q, T'.fn j ss E Q → wSs T ast (rho0 N ss) { nx := fun _ => Q (.fz .non), rt := fun _ => Q, ex := fun _ => E }) : FnAv P w K mg base T' (k + 1) j := by
  obtain ⟨fd, F, kp, b⟩ := B.fnOk i hd h0 h1 hs Y hm hb hlen law
  have e : He.fAd K d.at_ = He.ga K x := by rw [ha]; rfl
  rw [e] at F kp
  exact ⟨_, fd, ps, _, Nat.le_refl _, F, by rw [hx]; exact B.glo gi hg, kp, b⟩
theorem FnAv.up {T' : Tab} {k' j : Nat} (h : FnAv P w K mg base T k j) (hk : k ≤ k') (h1 : T'.fn j = T.fn j) (h2 : T'.fnN j = T.fnN j) : FnAv P w K mg base T' k' j := by
  obtain ⟨f, fd, ps, lv, hl, F, r⟩ := h
  refine ⟨f, fd, ps, lv, Nat.le_trans hl hk, ?_, ?_⟩
  · rw [h1]; exact F
  · rw [h2]; exact r
theorem MkAv.up {T' : Tab} {k' j : Nat} (h : MkAv P w K mg base T k j) (hk : k ≤ k') (h1 : T'.mkk j = T.mkk j) (h2 : T'.cls j = T.cls j) : MkAv P w K mg base T' k' j := by
  obtain ⟨f, fd, ps, lv, hl, r⟩ := h
  refine ⟨f, fd, ps, lv, Nat.le_trans hl hk, ?_⟩
  rw [h1, h2]; exact r
theorem MthAv.up {T' : Tab} {k' j m : Nat} (h : MthAv P w K mg base T k j m) (hk : k ≤ k') (h1 : T'.mth j m = T.mth j m) (h2 : T'.cls j = T.cls j) (h3 : T'.mthN j m = T.mthN j m) : MthAv P w K mg base T' k' j m := by
  obtain ⟨f, fd, ps, lv, hl, r⟩ := h
  refine ⟨f, fd, ps, lv, Nat.le_trans hl hk, ?_⟩
  rw [h1, h2, h3]; exact r
theorem EqAv.up {T' : Tab} {k' : Nat} {C : Str} (h : EqAv P w K mg base T k C) (hk : k ≤ k') (h1 : T'.eqB C = T.eqB C) (h2 : T'.qk C = T.qk C) : EqAv P w K mg base T' k' C := by
  obtain ⟨f, fd, ps, lv, hl, F, r1, r2, r3, r4, r5, r6, r7⟩ := h
  refine ⟨f, fd, ps, lv, Nat.le_trans hl hk, ?_, r1, r2, r3, r4, r5, r6, fun C' h => r7 C' (by rw [← h2]; exact h)⟩
  have e : spQ T' C = spQ T C := by unfold spQ; rw [h1]
  rw [e]; exact F
theorem ExAv.up {T' : Tab} {k' j : Nat} (h : ExAv P w K mg base T k j) (hk : k ≤ k') (h1 : T'.exc j = T.exc j) (h2 : T'.cls j = T.cls j) : ExAv P w K mg base T' k' j := by
  intro X e1 e2 e3 e4 e5 hc hr hg hdb
  rw [h1]
  rw [h2] at hg hdb ⊢
  exact h X e1 e2 e3 e4 e5 hc (hr.mono hk) hg hdb
/-- a class that may be made -/
theorem Hb.mkAv {T' : Tab} {j : Nat} {x : Str} (B : Hb L fa fn K mg) (i gi mi : Nat) {d : He.DefD} (hd : fn[i]? = some d) (h0 : d.dfl = []) (h1 : d.kwd = []) (ha : d.at_ = (x, some ("__init__" : Str))) (hg : fa[gi]? = some (.glo x)) (hmk : fa[mi]? = some (.mkr x)) (hs : scC N ps d.scope = true) (Y : Kit P w K mg base T k) {ast : List St} (hm : mSs T (scOf N d.scope) ast d.body = true) (hb : BindF d ps) (hx : T'.cls j = x)
    (hlen : ∀ ss E Q, T'.mkk j ss E Q → ss.length + 1 = ps.length)
    (law : ∀ ss E Q a dx, T'.mkk j ss E Q → wSs T ast (rho0 N (.me a dx x [] :: ss)) { nx := fun ρ => ∃ ds, ρ[0]? = some (some (.me a dx x ds)) ∧ Q (.fz (.obj x ds)), rt := fun _ _ => False, ex := fun _ => E }) : MkAv P w K mg base T' (k + 2) j := by
  obtain ⟨fd, F⟩ := B.funD i hd h0 h1
  have e : He.fAd K d.at_ = He.ma K (He.ga K x) "__init__" := by rw [ha]; rfl
  rw [e] at F
  have G := init_ok (C := x) F (fnScope_by hs) Y hm hlen law
  subst hx
  exact ⟨_, fd, ps, k + 1, Nat.le_refl _, B.mkr mi hmk, G, B.glo gi hg, F.bindsN hb⟩
theorem Hb.mthAv {T' : Tab} {j m : Nat} {x y : Str} (B : Hb L fa fn K mg) (i ci mi : Nat) {d : He.DefD} (hd : fn[i]? = some d) (h0 : d.dfl = []) (h1 : d.kwd = []) (ha : d.at_ = (x, some y)) (hc : fa[ci]? = some (.cls x)) (hmt : fa[mi]? = some (.meth x y)) (hs : scC N ps d.scope = true) (Y : Kit P w K mg base T k) {ast : List St} (hm : mSs T (scOf N d.scope) ast d.body = true) (hb : BindF d ps) (hx : T'.cls j = x) (hy : T'.mthN j m = y)
    (hlen : ∀ ss E Q, T'.mth j m ss E Q → ss.length = ps.length)
    (law : ∀ ss E Q, T'.mth j m ss E Q → wSs T ast (rho0 N ss) { nx := fun _ => Q (.fz .non), rt := fun _ => Q, ex := fun _ => E }) : MthAv P w K mg base T' (k + 1) j m := by
  obtain ⟨fd, F, kp, b⟩ := B.fnOk i hd h0 h1 hs Y hm hb hlen law
  have e : He.fAd K d.at_ = He.ma K (He.ga K x) y := by rw [ha]; rfl
  rw [e] at F
  subst hx hy
  exact ⟨_, fd, ps, k + 1, Nat.le_refl _, F, B.cls ci hc, B.meth mi hmt, b⟩
/-- a class whose own __eq__ may be asked -/
theorem Hb.eqAv {x : Str} (B : Hb L fa fn K mg) (i : Nat) {d : He.DefD} (hd : fn[i]? = some d) (h0 : d.dfl = []) (h1 : d.kwd = []) (ha : d.at_ = (x, some ("__eq__" : Str))) (hC : L.eqC.contains x = true) (hs : scC N ps d.scope = true) (Y : Kit P w K mg base T k) {ast : List St} (hm : mSs T (scOf N d.scope) ast d.body = true) (hb : BindF d ps) (hp : ps.length = 2)
    (law : ∀ fs' y b, A.eqB x fs' y = some b → ∀ E Q, Q (.fz (.bl b)) → wSs T ast (rho0 N [.fz (.obj x fs'), .fz y]) { nx := fun _ => Q (.fz .non), rt := fun _ => Q, ex := fun _ => E }) : EqAv P w K mg base (L.tab fs mk mt A) (k + 2) x := by
  obtain ⟨fd, F, kp, b⟩ := B.fnOk (spec := spQ (L.tab fs mk mt A) x) i hd h0 h1 hs Y hm hb (fun ss E Q ⟨_, _, _, e, _⟩ => by rw [e, hp]; rfl) (fun ss E Q ⟨fs', y, bb, e, h, q⟩ => by rw [e]; exact law fs' y bb h E Q q)
  have e : He.fAd K d.at_ = He.ma K (He.ga K x) "__eq__" := by rw [ha]; rfl
  rw [e] at F
  exact L.eqAv B.okQ hC (Nat.le_refl _) F b
def vvB (K : Frag) : Bool := match PySem.W.findCls K (.type "ValueError") (.type "type") "__init__" with
  | some (.val (.builtin n)) => decide (n = "ValueError.__init__")
  | _ => false
theorem vvB_ok {K : Frag} (h : vvB K = true) : PySem.W.findCls K (.type "ValueError") (.type "type") "__init__" = some (.val (.builtin "ValueError.__init__")) := by
  unfold vvB at h
  split at h
  · rename_i n e
    rw [e, of_decide_eq_true h]
  · cases h
theorem initAt_eq (K : Frag) (x : Str) : initAt K x = He.ma K (He.ga K x) "__init__" := by
  unfold initAt He.ma
  cases PySem.W.findIn K (.ref (He.ga K x)) "__init__" with
  | none => rfl
  | some o =>
    cases o with
    | none => rfl
    | some v => cases v <;> rfl
/-- the exceptions' root: its __init__ -/
theorem Hb.root {x : Str} (B : Hb L fa fn K mg) (i : Nat) {d : He.DefD} (hd : fn[i]? = some d) (h0 : d.dfl = []) (h1 : d.kwd = []) (ha : d.at_ = (x, some ("__init__" : Str))) (hs : scC ["self"] ["self"] d.scope = true) (h : ∃ s, d.body = [s] ∧ baseB "ValueError" s = true) (hfree : L.free.contains "ValueError" = true) (hgl : d.scope.names.lookup ("ValueError" : Str) = some .globalImplicit) (hvis : Vis d.scope "self")
    (vV : PySem.W.findCls K (.type "ValueError") (.type "type") "__init__" = some (.val (.builtin "ValueError.__init__"))) (hb : BindF d ["self"]) : ∃ fd, FnOk P w K mg base (L2.CX P w) 1 (initAt K x) fd ["self"] (spE0 K) ∧ Binds K fd ["self"] [] := by
  obtain ⟨fd, F⟩ := B.funD i hd h0 h1
  have e : He.fAd K d.at_ = initAt K x := by rw [ha, initAt_eq]; rfl
  rw [e] at F
  exact ⟨fd, e0_root F (fnScope_by hs) h ((B.kf (fs := fun _ => noSpec) (mk := fun _ => noSpec) (mt := fun _ _ => noSpec) (A := {})).free _ hfree) hgl hvis vV, F.bindsN hb⟩
/-- a class with a field, below a root -/
theorem Hb.sub1 {x r fl p : Str} {g : Nat} {fdg : FuncData} (B : Hb L fa fn K mg) (i gi : Nat) {d : He.DefD} (hd : fn[i]? = some d) (h0 : d.dfl = []) (h1 : d.kwd = []) (ha : d.at_ = (x, some ("__init__" : Str))) (hg : fa[gi]? = some (.glo r)) (hs : scC ["self", p] ["self", p] d.scope = true) (h : ∃ s t, d.body = [s, t] ∧ baseB r s = true ∧ keepB fl p t = true)
    (c : clsFnB K (He.ga K r) "__init__" (initAt K r) = true) (G : FnOk P w K mg base (L2.CX P w) g (initAt K r) fdg ["self"] (spE0 K)) (hbg : Binds K fdg ["self"] []) (hdb : (r == ("__debug__" : Str)) = false) (hgl : d.scope.names.lookup r = some .globalImplicit) (hvis : Vis d.scope "self") (hvp : Vis d.scope p) (hp1 : (p == ("__debug__" : Str)) = false) (hp2 : (p == ("__classdict__" : Str)) = false)
    (hb : BindF d ["self", p]) : ∃ fd, FnOk P w K mg base (L2.CX P w) (g + 1) (initAt K x) fd ["self", p] (spE1 K fl) ∧ Binds K fd ["self", p] [] := by
  obtain ⟨fd, F⟩ := B.funD i hd h0 h1
  have e : He.fAd K d.at_ = initAt K x := by rw [ha, initAt_eq]; rfl
  rw [e] at F
  exact ⟨fd, e1_sub F (fnScope_by hs) h (clsFnB_ok c) G hbg (B.glo gi hg) hdb hgl hvis hvp hp1 hp2, F.bindsN hb⟩
theorem Hb.sub0 {x r : Str} {g : Nat} {fdg : FuncData} (B : Hb L fa fn K mg) (i gi : Nat) {d : He.DefD} (hd : fn[i]? = some d) (h0 : d.dfl = []) (h1 : d.kwd = []) (ha : d.at_ = (x, some ("__init__" : Str))) (hg : fa[gi]? = some (.glo r)) (hs : scC ["self"] ["self"] d.scope = true) (h : ∃ s, d.body = [s] ∧ baseB r s = true)
    (c : clsFnB K (He.ga K r) "__init__" (initAt K r) = true) (G : FnOk P w K mg base (L2.CX P w) g (initAt K r) fdg ["self"] (spE0 K)) (hbg : Binds K fdg ["self"] []) (hdb : (r == ("__debug__" : Str)) = false) (hgl : d.scope.names.lookup r = some .globalImplicit) (hvis : Vis d.scope "self")
    (hb : BindF d ["self"]) : ∃ fd, FnOk P w K mg base (L2.CX P w) (g + 1) (initAt K x) fd ["self"] (spE0 K) ∧ Binds K fd ["self"] [] := by
  obtain ⟨fd, F⟩ := B.funD i hd h0 h1
  have e : He.fAd K d.at_ = initAt K x := by rw [ha, initAt_eq]; rfl
  rw [e] at F
  exact ⟨fd, e0_sub F (fnScope_by hs) h (clsFnB_ok c) G hbg (B.glo gi hg) hdb hgl hvis, F.bindsN hb⟩
theorem exf1 {x fl p : Str} {g j : Nat} {fd : FuncData} (hx : T.cls j = x) (hT : T.exc j = some fl) (e : exfB K x (some fl) = true) (F : FnOk P w K mg base (L2.CX P w) g (initAt K x) fd ["self", p] (spE1 K fl)) (hb : Binds K fd ["self", p] []) (hm : mg x = some (.ref (He.ga K x))) : ExAv P w K mg base T (g + 1) j := by
  subst hx
  obtain ⟨e1, e2, e3, e4⟩ := exfB_ok e
  exact exav1 hT e1 e2 e3 (e4 fl rfl).1 F hb hm
theorem exf0 {x : Str} {g j : Nat} {fd : FuncData} (hx : T.cls j = x) (hT : T.exc j = none) (e : exfB K x none = true) (F : FnOk P w K mg base (L2.CX P w) g (initAt K x) fd ["self"] (spE0 K)) (hb : Binds K fd ["self"] []) (hm : mg x = some (.ref (He.ga K x))) : ExAv P w K mg base T (g + 1) j := by
  subst hx
  obtain ⟨e1, e2, e3, e4⟩ := exfB_ok e
  exact exav0 hT e1 e2 e3 F hb hm
/-- the drawing -/
theorem Hb.draw {T' : Tab} {j : Nat} {c : Int} {x : Str} (B : Hb L fa fn K mg) (i gi : Nat) {d : He.DefD} (hd : fn[i]? = some d) (h0 : d.dfl = []) (h1 : d.kwd = []) (ha : d.at_ = (x, none)) (hg : fa[gi]? = some (.glo x)) (hN : N.length = 5) (hp : ps.length = 2) (hs : scC N ps d.scope = true) (Y : Kit P w K mg base T k) (hc : 0 ≤ c) (hm : mSs T (scOf N d.scope) (drawA c) d.body = true) (hb : BindF d ps) (hx : T'.fnN j = x) (hf : T'.fn j = drawS) : FnAv P w K mg base T' (k + 1) j := by
  obtain ⟨fd, F⟩ := B.funD i hd h0 h1
  have e : He.fAd K d.at_ = He.ga K x := by rw [ha]; rfl
  rw [e] at F
  have G := draw_ok F (fnScope_by hs) Y hm hp (by omega) (fun h cc ns i1 i2 i3 i4 m _ hpp ho m0 m1 => by
    rw [hN]
    exact draw1 (r := []) T hc hpp i1 i2 i3 i4 none none none ho m0 m1)
  exact ⟨_, fd, ps, k + 1, Nat.le_refl _, by rw [hf]; exact G, by rw [hx]; exact B.glo gi hg, F.kp, F.bindsN hb⟩
end
end MP
end
section
set_option Elab.async false
set_option linter.all false
set_option maxRecDepth 100000
set_option maxHeartbeats 4000000
set_option autoImplicit false
namespace MP
open PySem
section
variable {L : TabL} {fs mk : Nat → Spec} {mt : Nat → Nat → Spec} {A : Av}
theorem tab_fn : (L.tab fs mk mt A).fn = fs := rfl
theorem tab_mkk : (L.tab fs mk mt A).mkk = mk := rfl
theorem tab_mth : (L.tab fs mk mt A).mth = mt := rfl
theorem tab_cls {j : Nat} : (L.tab fs mk mt A).cls j = L.cls.getD j default := rfl
theorem tab_con {j : Nat} : (L.tab fs mk mt A).con j = ((L.cons[j]?).map fun p => p.2.d).getD .non := rfl
theorem tab_exc {j : Nat} : (L.tab fs mk mt A).exc j = (L.exc[j]?).getD none := rfl
theorem tab_sub {C C' : Str} : (L.tab fs mk mt A).sub C C' = L.sub.contains (C, C') := rfl
theorem tab_fl {C f : Str} : (L.tab fs mk mt A).fl C f = L.fl.contains (C, f) := rfl
theorem tab_ki {k : Kd} {t : Ty} : (L.tab fs mk mt A).ki k t = L.ki.contains (k, t) := rfl
theorem tab_mthN {j m : Nat} : (L.tab fs mk mt A).mthN j m = (L.mthN.getD j []).getD m default := rfl
theorem tab_hasX {C : Str} {j : Nat} : (L.tab fs mk mt A).hasX C j = L.exm.contains (C, j) := rfl
theorem tab_xl {C f : Str} : (L.tab fs mk mt A).xl C f = L.xl.contains (C, f) := rfl
theorem tab_hasQ {C : Str} : (L.tab fs mk mt A).hasQ C = A.q C := rfl
theorem tab_eqB {C : Str} : (L.tab fs mk mt A).eqB C = A.eqB C := rfl
theorem tab_qk {C C' : Str} : (L.tab fs mk mt A).qk C C' = L.qk.contains (C, C') := rfl
end
theorem neh_fz {d : D} : (EV.fz d ≠ EV.hnd) = True := by simp
theorem neh_ow {d : D} : (EV.ow d ≠ EV.hnd) = True := by simp
theorem neh_pk {i : Nat} {d : D} : (EV.pk i d ≠ EV.hnd) = True := by simp
section
variable {x y : EV} {d e : D} {k : D → Prop} {ks : SV → Prop} {ke : EV → Prop} {kb : Bool → Prop} {ki : Int → Prop} {b : Bool} {i j : Int} {s t : Str} {xs ys : List D} {n : Nat} {kl : List D → Prop} {kr : Rho → Prop} {ρ : Rho} {C f : Str} {fs : List (Str × D)} {is : List Nat} {fl : Str → Str → Bool} {a : Addr} {ns : List Int} {T : Tab}
theorem x_put1 : EV.put (.fz d) k = k d := rfl
theorem x_put2 : EV.put (.ow d) k = k d := rfl
theorem x_arg1 : EV.arg (.fz d) ks = ks (.fz d) := rfl
theorem x_arg2 : EV.arg (.ow d) ks = ks (.fz d) := rfl
theorem x_arg3 : EV.arg .hnd ks = ks .hnd := rfl
theorem x_keep1 : EV.keep (.fz d) ks = ks (.fz d) := rfl
theorem x_keep2 : EV.keep (.ow d) ks = ks (.ow none d) := rfl
theorem x_out1 : EV.out (.fz d) ke = ke (.fz d) := rfl
theorem x_out2 : EV.out (.ow d) ke = ke (.ow d) := rfl
theorem x_out3 : EV.out (.pk n d) ke = (d.cont = true ∧ ke (.ow d)) := rfl
theorem x_d1 : EV.d (.fz d) = d := rfl
theorem x_d2 : EV.d (.ow d) = d := rfl
theorem x_d3 : EV.d (.pk n d) = d := rfl
theorem x_bool : boolW (.fz (.bl b)) kb = kb b := rfl
theorem x_int : intW (.int i) ki = ki i := rfl
theorem x_add1 : binW .add (.int i) (.int j) ke = ke (.fz (.int (i + j))) := rfl
theorem x_add2 : binW .add (.str s) (.str t) ke = (s.length + t.length ≤ sizeLine ∧ ke (.fz (.str (s ++ t)))) := rfl
theorem x_add3 : binW .add (.lst xs) (.lst ys) ke = (xs.length + ys.length ≤ sizeLine ∧ ke (.ow (.lst (xs ++ ys)))) := rfl
theorem x_add4 : binW .add (.tup xs) (.tup ys) ke = (xs ≠ [] ∧ ys ≠ [] ∧ xs.length + ys.length ≤ sizeLine ∧ ke (.fz (.tup (xs ++ ys)))) := rfl
theorem x_sub : binW .sub (.int i) (.int j) ke = ke (.fz (.int (i - j))) := rfl
theorem x_mul : binW .mul (.int i) (.int j) ke = (L2.CMul i j ∧ ke (.fz (.int (i * j)))) := rfl
theorem x_fdiv : binW .fdiv (.int i) (.int j) ke = (L2.CDivW i j ∧ ke (.fz (.int (i / j)))) := rfl
theorem x_mod : binW .mod (.int i) (.int j) ke = (0 < j ∧ ke (.fz (.int (i % j)))) := rfl
theorem x_pow : binW .pow (.int i) (.int j) ke = (L2.CPow i j ∧ ke (.fz (.int (i ^ j.toNat)))) := rfl
theorem x_item1 : itemW (.lst xs) (.int i) ke = ∃ d, L2.atI xs i = some d ∧ ke (.fz d) := rfl
theorem x_item2 : itemW (.tup xs) (.int i) ke = ∃ d, L2.atI xs i = some d ∧ ke (.fz d) := rfl
theorem x_item3 : itemW (.str s) (.int i) ke = (s.length ≤ sizeLine ∧ ∃ c, L2.atI s.cps.toList i = some c ∧ ke (.fz (.str ⟨#[c]⟩))) := rfl
theorem x_item4 : itemW (.scr a ns) (.int i) ke = ∃ d, L2.atI ns i = some d ∧ ke (.fz (.int d)) := rfl
theorem x_fld : fldW fl (.obj C fs) f ke = (fl C f = true ∧ ∃ d, fs.lookup f = some d ∧ ke (.fz d)) := rfl
theorem x_rng1 : rngW [.fz (.int j)] kl = (-(2 ^ 62) ≤ j ∧ j < 2 ^ 62 ∧ kl (rangeD 0 j.toNat)) := rfl
theorem x_rng2 : rngW [.fz (.int i), .fz (.int j)] kl = ((-(2 ^ 62) ≤ i ∧ i < 2 ^ 62 ∧ -(2 ^ 62) ≤ j ∧ j < 2 ^ 62) ∧ kl (rangeD i (j - i).toNat)) := rfl
theorem x_who1 : wholeW [.fz (.int j)] kl = (L2.RgOk 0 j ∧ kl (rangeD 0 j.toNat)) := rfl
theorem x_who2 : wholeW [.fz (.int i), .fz (.int j)] kl = (L2.RgOk i j ∧ kl (rangeD i (j - i).toNat)) := rfl
theorem x_seq1 : seqW (.fz (.lst xs)) kl = kl xs := rfl
theorem x_seq2 : seqW (.fz (.tup xs)) kl = kl xs := rfl
theorem x_seq3 : seqW (.ow (.lst xs)) kl = kl xs := rfl
theorem x_tg1 : tgW (.nm n) d ρ kr = kr (ρ.set n (some (.fz d))) := rfl
theorem x_tg2 : tgW (.tp is) (.tup xs) ρ kr = ∃ ρ', setAll is xs ρ = some ρ' ∧ kr ρ' := rfl
theorem x_len : biW .len [x] ke = (x ≠ .hnd ∧ lenW x.d ke) := rfl
theorem x_len1 : lenW (.str s) ke = (s.length ≤ sizeLine ∧ ke (.fz (.int s.length))) := rfl
theorem x_len2 : lenW (.lst xs) ke = ke (.fz (.int xs.length)) := rfl
theorem x_len3 : lenW (.tup xs) ke = ke (.fz (.int xs.length)) := rfl
theorem x_len4 : lenW (.scr a ns) ke = ke (.fz (.int ns.length)) := rfl
theorem x_bint1 : biW .int [.fz (.int i)] ke = ke (.fz (.int i)) := rfl
theorem x_bint2 : biW .int [.fz (.bl b)] ke = ke (.fz (.int (if b then 1 else 0))) := rfl
theorem x_babs : biW .abs [.fz (.int i)] ke = ke (.fz (.int (if i < 0 then -i else i))) := rfl
theorem x_ball1 : biW .all [.ow (.lst xs)] ke = (EV.ow (.lst xs) ≠ .hnd ∧ ∃ bs, bools? xs = some bs ∧ ke (.fz (.bl (bs.all id)))) := rfl
theorem x_bany1 : biW .any [.ow (.lst xs)] ke = (EV.ow (.lst xs) ≠ .hnd ∧ ∃ bs, bools? xs = some bs ∧ ke (.fz (.bl (bs.any id)))) := rfl
theorem x_bsum1 : biW .sum [.ow (.lst xs)] ke = (EV.ow (.lst xs) ≠ .hnd ∧ ∃ bs, ints? xs = some bs ∧ ke (.fz (.int bs.sum))) := rfl
theorem x_blst1 : biW .list [.fz (.lst xs)] ke = (EV.fz (.lst xs) ≠ .hnd ∧ ke (.ow (.lst xs))) := rfl
theorem x_blst2 : biW .list [.fz (.tup xs)] ke = (EV.fz (.tup xs) ≠ .hnd ∧ ke (.ow (.lst xs))) := rfl
theorem x_blst3 : biW .list [.ow (.lst xs)] ke = (EV.ow (.lst xs) ≠ .hnd ∧ ke (.ow (.lst xs))) := rfl
theorem x_btup1 : biW .tuple [.fz (.lst xs)] ke = (EV.fz (.lst xs) ≠ .hnd ∧ ke (.fz (.tup xs))) := rfl
theorem x_btup2 : biW .tuple [.fz (.tup xs)] ke = (EV.fz (.tup xs) ≠ .hnd ∧ ke (.fz (.tup xs))) := rfl
theorem x_btup3 : biW .tuple [.ow (.lst xs)] ke = (EV.ow (.lst xs) ≠ .hnd ∧ ke (.fz (.tup xs))) := rfl
theorem x_btup4 : biW .tuple [.pk n (.lst xs)] ke = (EV.pk n (.lst xs) ≠ .hnd ∧ ke (.fz (.tup xs))) := rfl
theorem x_isn : cmpW T .isn d e ke = (e.isNon = true ∧ ke (.fz (.bl d.isNon))) := rfl
theorem x_notn : cmpW T .notn d e ke = (e.isNon = true ∧ ke (.fz (.bl (!d.isNon)))) := rfl
theorem x_lt : cmpW T .lt (.int i) (.int j) ke = ke (.fz (.bl (decide (i < j)))) := rfl
theorem x_le : cmpW T .le (.int i) (.int j) ke = ke (.fz (.bl (decide (i ≤ j)))) := rfl
theorem x_gt : cmpW T .gt (.int i) (.int j) ke = ke (.fz (.bl (decide (j < i)))) := rfl
theorem x_ge : cmpW T .ge (.int i) (.int j) ke = ke (.fz (.bl (decide (j ≤ i)))) := rfl
theorem x_eqD : cmpW T .eq d e ke = ∃ b, eqT T d e = some b ∧ ke (.fz (.bl b)) := rfl
theorem x_neD : cmpW T .ne d e ke = ∃ b, eqT T d e = some b ∧ ke (.fz (.bl (!b))) := rfl
theorem eqT_int {T : Tab} {i j : Int} : eqT T (.int i) (.int j) = some (decide (i = j)) := by
  show some (PyData.eqv (.int i) (.int j)) = _
  simp [PyData.eqv]
  by_cases z : i = j <;> simp [z]
theorem eqT_bl {T : Tab} {i j : Bool} : eqT T (.bl i) (.bl j) = some (i == j) := by cases i <;> cases j <;> rfl
theorem x_eqI : cmpW T .eq (.int i) (.int j) ke = ke (.fz (.bl (decide (i = j)))) := by
  rw [x_eqD, eqT_int]; simp
theorem x_neI : cmpW T .ne (.int i) (.int j) ke = ke (.fz (.bl (!decide (i = j)))) := by
  rw [x_neD, eqT_int]; simp
theorem x_eqB {b c : Bool} : cmpW T .eq (.bl b) (.bl c) ke = ke (.fz (.bl (b == c))) := by
  rw [x_eqD, eqT_bl]; simp
theorem x_neB {b c : Bool} : cmpW T .ne (.bl b) (.bl c) ke = ke (.fz (.bl (!(b == c)))) := by
  rw [x_neD, eqT_bl]; simp
theorem d_non1 : D.isNon .non = true := rfl
theorem d_non2 : D.isNon (.int i) = false := rfl
theorem d_non3 : D.isNon (.bl b) = false := rfl
theorem d_non4 : D.isNon (.str s) = false := rfl
theorem d_non5 : D.isNon (.tup xs) = false := rfl
theorem d_non6 : D.isNon (.lst xs) = false := rfl
theorem d_non7 : D.isNon (.obj C fs) = false := rfl
end
/-- a for loop by what each turn keeps -/
theorem forW_inv {tg : Tg} {body : Rho → Wd → Prop} {D0 : Wd} (I : Rho → Prop) : ∀ (ds : List D), (∀ d ∈ ds, ∀ (ρ : Rho) (G : Rho → Prop), I ρ → (∀ ρ', I ρ' → G ρ') → tgW tg d ρ fun ρ1 => body ρ1 { nx := G, ct := G, bk := D0.nx, rt := D0.rt, ex := D0.ex }) → (∀ ρ, I ρ → D0.nx ρ) → ∀ ρ, I ρ → forW tg body D0 ds ρ
  | [], _, h2, ρ, i => h2 ρ i
  | d :: ds, h1, h2, ρ, i => h1 d (by simp) ρ _ i (forW_inv I ds (fun e he => h1 e (by simp [he])) h2)
section
variable {T : Tab} {ρ : Rho} {r : List MP.St} {W : Wd} {i j : Nat} {e a b : Ex}
theorem w_frzO {t : Option Addr} {d : D} (h : ρ[i]? = some (some (.ow t d))) (hc : d.cont = true) (q : wSs T r (ρ.set i (some (.fz d))) W) : wSs T (.frz i :: r) ρ W := by unfold wSs wS; rw [h]; exact ⟨hc, q⟩
theorem w_par (q : wE T a ρ (W.ex ρ) fun x => x.put fun d => wE T b ρ (W.ex ρ) fun y => y.put fun e => wSs T r ((ρ.set i (some (.fz d))).set j (some (.fz e))) W) : wSs T (.par i j a b :: r) ρ W := q
theorem w_expr (q : wE T e ρ (W.ex ρ) fun _ => wSs T r ρ W) : wSs T (.expr e :: r) ρ W := q
theorem w_nil (q : W.nx ρ) : wSs T [] ρ W := q
theorem w_for {tg : Tg} {it : It} {bb : List MP.St} (I : Rho → Prop) (q : wI T it ρ (W.ex ρ) fun ds => I ρ ∧ (∀ d ∈ ds, ∀ (ρ : Rho) (G : Rho → Prop), I ρ → (∀ ρ', I ρ' → G ρ') → tgW tg d ρ fun ρ1 => wSs T bb ρ1 { nx := G, ct := G, bk := fun ρ' => wSs T r ρ' W, rt := W.rt, ex := W.ex }) ∧ ∀ ρ', I ρ' → wSs T r ρ' W)
    (mono : ∀ (k k' : List D → Prop), (∀ ds, k ds → k' ds) → wI T it ρ (W.ex ρ) k → wI T it ρ (W.ex ρ) k') : wSs T (.forr tg it bb :: r) ρ W := by
  show wI T it ρ (W.ex ρ) fun ds => forW tg (wSs T bb) { W with nx := fun ρ' => wSs T r ρ' W } ds ρ
  exact mono _ _ (fun ds ⟨h1, h2, h3⟩ => forW_inv (D0 := { W with nx := fun ρ' => wSs T r ρ' W }) I ds h2 h3 ρ h1) q
theorem w_for' {tg : Tg} {it : It} {bb : List MP.St} (q : wI T it ρ (W.ex ρ) fun ds => forW tg (wSs T bb) { W with nx := fun ρ' => wSs T r ρ' W } ds ρ) : wSs T (.forr tg it bb :: r) ρ W := q
theorem w_rng {tg : Tg} {bb : List MP.St} {n : Int} {es : Ex} (I : Rho → Prop) (hi : I ρ) (hn : (0 : Int) ≤ n ∧ n < 1000000000) (he : es = .int n) (h : ∀ (d : Int) (ρ : Rho) (G : Rho → Prop), I ρ → (∀ ρ', I ρ' → G ρ') → tgW tg (.int d) ρ fun ρ1 => wSs T bb ρ1 { nx := G, ct := G, bk := fun ρ' => wSs T r ρ' W, rt := W.rt, ex := W.ex }) (h2 : ∀ ρ', I ρ' → wSs T r ρ' W) : wSs T (.forr tg (.rng [es]) bb :: r) ρ W := by
  subst he
  refine w_for' ?_
  simp only [wE, wT, wTAnd, wTAnd1, wTOr, wTOr1, wAnd, wAnd1, wOr, wOr1, wPut, wKvs, wArg, wLook, wO, wIf, wI, boolW, intW, EV.d, EV.out, EV.keep, EV.put, EV.arg, binW, addW, itemW, fldW, rngW, wholeW, seqW, tgW, setAll, biW, lenW, optW, sliW, Xs.w, wX, wXs, rho0, List.map_cons, List.map_nil, List.length_cons, List.length_nil, List.replicate, List.cons_append, List.nil_append, List.getElem?_cons_zero, List.getElem?_cons_succ, List.set_cons_zero, List.set_cons_succ, Nat.reduceAdd, Nat.reduceSub, Nat.zero_add, neh_fz, neh_ow, neh_pk, true_and, and_true, tab_fn, tab_mkk, tab_mth, Nat.sub_self, Nat.add_one_sub_one, ne_eq, not_false_eq_true, reduceCtorEq, if_true, Bool.false_eq_true, if_false]
  refine ⟨by omega, by omega, ?_⟩
  refine forW_inv (D0 := { W with nx := fun ρ' => wSs T r ρ' W }) I _ (fun d hd => ?_) h2 ρ hi
  unfold rangeD at hd
  simp only [List.mem_map] at hd
  obtain ⟨i, _, rfl⟩ := hd
  exact h _
end
/-! ### statements by what their expressions give -/
section
variable {T : Tab} {ρ : Rho} {r : List MP.St} {W : Wd} {i j : Nat} {e a b : Ex}
theorem k_for {tg : Tg} {it : It} {bb : List MP.St} (R : List D → Prop) (I : Rho → Prop) (h : ∀ K : List D → Prop, (∀ ds, R ds → K ds) → wI T it ρ (W.ex ρ) K) (h0 : I ρ) (h1 : ∀ ds, R ds → ∀ d ∈ ds, ∀ (ρ : Rho) (G : Rho → Prop), I ρ → (∀ ρ', I ρ' → G ρ') → tgW tg d ρ fun ρ1 => wSs T bb ρ1 { nx := G, ct := G, bk := fun ρ' => wSs T r ρ' W, rt := W.rt, ex := W.ex }) (h2 : ∀ ρ, I ρ → wSs T r ρ W) : wSs T (.forr tg it bb :: r) ρ W :=
  w_for' (h _ fun ds hr => forW_inv (D0 := { W with nx := fun ρ' => wSs T r ρ' W }) I ds (h1 ds hr) h2 ρ h0)
theorem k_set (R : SV → Prop) (h : ∀ K : SV → Prop, (∀ s, R s → K s) → wE T e ρ (W.ex ρ) fun x => x.keep K) (h2 : ∀ s, R s → wSs T r (ρ.set i (some s)) W) : wSs T (.set i e :: r) ρ W := wSs_set (h _ h2)
theorem k_ret (h : wE T e ρ (W.ex ρ) fun x => x.out (W.rt ρ)) : wSs T (.ret e :: r) ρ W := h
theorem k_ife {t : Te} {aa bb : List MP.St} (R : Bool → Prop) (h : ∀ K : Bool → Prop, (∀ s, R s → K s) → wT T t ρ (W.ex ρ) K) (h1 : R true → wSs T aa ρ { W with nx := fun ρ' => wSs T r ρ' W }) (h2 : R false → wSs T bb ρ { W with nx := fun ρ' => wSs T r ρ' W }) : wSs T (.ife t aa bb :: r) ρ W :=
  wSs_ife (h _ fun s hs => by cases s <;> simp <;> first | exact h1 hs | exact h2 hs)
/-- a test that tells false: the suite is passed -/
theorem k_iff {t : Te} {aa : List MP.St} (h : ∀ K : Bool → Prop, K false → wT T t ρ (W.ex ρ) K) (h2 : wSs T r ρ W) : wSs T (.ife t aa [] :: r) ρ W :=
  wSs_ife (h _ (by simp only [Bool.false_eq_true, if_false]; exact h2))
theorem k_par (R : D → D → Prop) (h : ∀ K : D → D → Prop, (∀ x y, R x y → K x y) → wE T a ρ (W.ex ρ) fun x => x.put fun d => wE T b ρ (W.ex ρ) fun y => y.put fun e => K d e) (h2 : ∀ x y, R x y → wSs T r ((ρ.set i (some (.fz x))).set j (some (.fz y))) W) : wSs T (.par i j a b :: r) ρ W := w_par (h _ h2)
end
/-! ### the hand's making -/
def handA (c : Int) : List MP.St := [(.set 1 (.lc [2] (.nm 2) (.seq (.sli (.var 0) none (some (.int 63)))) none (.bi .abs [(.bi .int [(.var 2)])]))), (.frz 1), (.ret (.lst [(.var 1), (.int 0), (.int 0), (.bin .add (.int c) (.bin .mul (.int 11) (.bi .len [(.var 1)]))), (.int 0)]))]
def absI (i : Int) : Int := if i < 0 then -i else i
theorem lc_abs {T : Tab} {s0 s1 s2 : Option SV} {k : List D → Prop} : ∀ (xs : List Int) (acc : List D), acc.length + xs.length ≤ 1000 → k (acc ++ xs.map fun i => D.int (absI i)) →
    lcW (.nm 2) (fun ρ1 k => k true) (fun ρ1 k => wE T (.bi .abs [(.bi .int [(.var 2)])]) ρ1 (fun _ => False) k) [s0, s1, s2] (xs.map D.int) acc k
  | [], acc, _, h => by simpa [lcW] using h
  | x :: xs, acc, hl, h => by
    simp only [List.map_cons, lcW]
    simp only [wSs, wS, wE, wT, wTAnd, wTAnd1, wTOr, wTOr1, wAnd, wAnd1, wOr, wOr1, wPut, wKvs, wArg, wLook, wO, wIf, wI, boolW, intW, EV.d, EV.out, EV.keep, EV.put, EV.arg, binW, addW, itemW, fldW, rngW, wholeW, seqW, tgW, setAll, biW, lenW, optW, sliW, Xs.w, wX, wXs, rho0, List.map_cons, List.map_nil, List.length_cons, List.length_nil, List.replicate, List.cons_append, List.nil_append, List.getElem?_cons_zero, List.getElem?_cons_succ, List.set_cons_zero, List.set_cons_succ, Nat.reduceAdd, Nat.reduceSub, Nat.zero_add, neh_fz, neh_ow, neh_pk, true_and, and_true, tab_fn, tab_mkk, tab_mth, Nat.sub_self, Nat.add_one_sub_one, ne_eq, not_false_eq_true, reduceCtorEq]
    refine ⟨Nat.lt_of_lt_of_le (m := 1000) (by simp at hl; omega) (by decide), ?_⟩
    have ih := lc_abs (T := T) (s0 := s0) (s1 := s1) (s2 := s2) (k := k) xs (acc ++ [.int (absI x)]) (by simp at hl ⊢; omega) (by simpa using h)
    simp only [wE, wLook, biW] at ih
    exact ih
theorem ints_map (xs : List Int) (f : Int → Int) : ints? (xs.map fun i => D.int (f i)) = some (xs.map f) := by
  induction xs with
  | nil => rfl
  | cons x xs ih => simp [ints?, ih]
theorem cut_len {α : Type} (xs : List α) (lo hi : Option Int) : (cutD xs lo hi).length ≤ xs.length := by
  unfold cutD
  simp
  omega
theorem hand1 {T : Tab} {c : Int} (h0 : 0 ≤ c) (h1 : c < 1000000) {a : Addr} {ns : List Int} (hl : ns.length ≤ 63) {Q : EV → Prop} (h : ∀ d, handD d → Q (.ow d)) {E : Exn → Prop} {P : Rho → Prop} : wSs T (handA c) [some (.fz (.scr a ns)), none, none] { nx := P, rt := fun _ => Q, ex := fun _ => E } := by
  unfold handA
  simp only [wSs, wS, wE, wT, wTAnd, wTAnd1, wTOr, wTOr1, wAnd, wAnd1, wOr, wOr1, wPut, wKvs, wArg, wLook, wO, wIf, wI, boolW, intW, EV.d, EV.out, EV.keep, EV.put, EV.arg, binW, addW, itemW, fldW, rngW, wholeW, seqW, tgW, setAll, biW, lenW, optW, sliW, Xs.w, wX, wXs, rho0, List.map_cons, List.map_nil, List.length_cons, List.length_nil, List.replicate, List.cons_append, List.nil_append, List.getElem?_cons_zero, List.getElem?_cons_succ, List.set_cons_zero, List.set_cons_succ, Nat.reduceAdd, Nat.reduceSub, Nat.zero_add, neh_fz, neh_ow, neh_pk, true_and, and_true, tab_fn, tab_mkk, tab_mth, Nat.sub_self, Nat.add_one_sub_one, ne_eq, not_false_eq_true, reduceCtorEq]
  simp only [wipeR, List.set_cons_zero, List.set_cons_succ]
  have hz := cut_len ns none (some 63)
  generalize hg : cutD ns none (some 63) = xs at hz
  refine lc_abs (T := T) xs [] (by simp; omega) ?_
  refine ⟨rfl, cmul_l (by decide) (by decide), by decide, ?_⟩
  · refine h _ ⟨⟨xs.map absI, ints_map xs absI, by simp; omega, ?_⟩, by decide, by decide, ?_, ?_, by decide⟩
    · intro n hn
      simp only [List.mem_map] at hn
      obtain ⟨i, _, rfl⟩ := hn
      unfold absI
      split <;> omega
    · simp; omega
    · simp; omega
@[reducible] def sHand : Spec := fun ss _ Q => ∃ a ns, ss = [.fz (.scr a ns)] ∧ ns.length ≤ 63 ∧ ∀ d, handD d → Q (.ow d)
/-! ### a thing against itself -/
inductive Plain : Nat → D → Prop where
  | non {n : Nat} : Plain (n + 1) .non
  | bl {n : Nat} (b : Bool) : Plain (n + 1) (.bl b)
  | int {n : Nat} (i : Int) : Plain (n + 1) (.int i)
  | str {n : Nat} (s : Str) (h : eqOk (.str s) (.str s) = true) : Plain (n + 1) (.str s)
  | tup {n : Nat} (ds : List D) (h : ∀ d ∈ ds, Plain n d) (hz : ds.length ≤ sizeLine) : Plain (n + 1) (.tup ds)
  | lst {n : Nat} (ds : List D) (h : ∀ d ∈ ds, Plain n d) (hz : ds.length ≤ sizeLine) : Plain (n + 1) (.lst ds)
@[reducible] def sIs (n : Nat) : Spec := fun ss _ Q => ∃ d, ss = [SV.fz d, .fz d] ∧ Plain n d ∧ Q (.fz (.bl true))
def isA (j : Nat) : List MP.St := [(.ife (.val (.isis (.var 1) [(.bi "tuple"), (.bi "list")])) [(.ife (.or [(.val (.cmp .ne (.isi (.var 0) (.bi "tuple")) (.isi (.var 1) (.bi "tuple")))), (.val (.cmp .ne (.isi (.var 0) (.bi "list")) (.isi (.var 1) (.bi "list"))))]) [(.ret (.bl false))] []), (.ret (.and [(.cmp .eq (.bi .len [(.var 0)]) (.bi .len [(.var 1)])), (.bi .all [(.lc [2, 3] (.tp [2, 3]) (.zip [(.var 0), (.var 1)]) none (.call j [(.var 2), (.var 3)]))])]))] []), (.ife (.or [(.val (.cmp .isn (.var 1) .non)), (.val (.cmp .isn (.var 0) .non))]) [(.ret (.and [(.cmp .isn (.var 1) .non), (.cmp .isn (.var 0) .non)]))] []), (.ife (.or [(.val (.cmp .ne (.isi (.var 0) (.bi "bool")) (.isi (.var 1) (.bi "bool")))), (.val (.cmp .ne (.isi (.var 0) (.bi "int")) (.isi (.var 1) (.bi "int"))))]) [(.ret (.bl false))] []), (.ret (.and [(.cmp .eq (.isi (.var 0) (.bi "str")) (.isi (.var 1) (.bi "str"))), (.cmp .eq (.var 0) (.var 1))]))]
/-- the kinds whose isinstance the look asks -/
def isKs (L : TabL) : Bool := ["int", "bool", "str", "tuple", "list", "NoneType"].all fun n => ["int", "bool", "str", "tuple", "list"].all fun m => L.ki.contains (.bi n, .bi m)
section
variable {L : TabL} {fs mk : Nat → Spec} {mt : Nat → Nat → Spec} {A : Av} {n j : Nat} {E : Exn → Prop} {Q : EV → Prop} {P : Rho → Prop}
theorem lc_is {te : Rho → (EV → Prop) → Prop} {s0 s1 : Option SV} (hte : ∀ (d : D) (k : EV → Prop), Plain n d → k (.fz (.bl true)) → te [s0, s1, some (.fz d), some (.fz d)] k) {s2 s3 : Option SV} {k : List D → Prop} : ∀ (ds : List D) (m : Nat), (∀ d ∈ ds, Plain n d) → m + ds.length ≤ sizeLine → k (List.replicate (m + ds.length) (.bl true)) →
    lcW (.tp [2, 3]) (fun ρ1 k => k true) te [s0, s1, s2, s3] (zipD ds ds) (List.replicate m (.bl true)) k
  | [], m, _, _, h => by simpa [lcW, zipD] using h
  | d :: ds, m, hp, hl, h => by
    simp only [zipD, lcW]
    simp only [wE, wT, wTAnd, wTAnd1, wTOr, wTOr1, wAnd, wAnd1, wOr, wOr1, wPut, wKvs, wArg, wLook, wO, wIf, wI, boolW, intW, EV.d, EV.out, EV.keep, EV.put, EV.arg, binW, addW, itemW, fldW, rngW, wholeW, seqW, tgW, setAll, biW, lenW, optW, sliW, Xs.w, wX, wXs, rho0, List.map_cons, List.map_nil, List.length_cons, List.length_nil, List.replicate, List.cons_append, List.nil_append, List.getElem?_cons_zero, List.getElem?_cons_succ, List.set_cons_zero, List.set_cons_succ, Nat.reduceAdd, Nat.reduceSub, Nat.zero_add, neh_fz, neh_ow, neh_pk, true_and, and_true, tab_fn, tab_mkk, tab_mth, Nat.sub_self, Nat.add_one_sub_one, ne_eq, not_false_eq_true, reduceCtorEq, if_true, Bool.false_eq_true, if_false]
    refine ⟨_, rfl, ?_⟩
    refine hte d _ (hp d (by simp)) ?_
    refine ⟨by simp at hl ⊢; omega, ?_⟩
    have e : List.replicate m (D.bl true) ++ [D.bl true] = List.replicate (m + 1) (.bl true) := by rw [List.replicate_succ']
    rw [e]
    exact lc_is hte (s2 := s2) (s3 := s3) (k := k) ds (m + 1) (fun d hd => hp d (by simp [hd])) (by simp at hl ⊢; omega) (by
      have e2 : m + 1 + ds.length = m + (d :: ds).length := by simp; omega
      rw [e2]; exact h)
theorem bools_rep (m : Nat) : bools? (List.replicate m (D.bl true)) = some (List.replicate m true) := by
  induction m with
  | zero => rfl
  | succ m ih => simp [List.replicate_succ, bools?, ih]
theorem all_rep (m : Nat) : (List.replicate m true).all id = true := by
  induction m with
  | zero => rfl
  | succ m ih => simp [List.replicate_succ]
theorem eqT_bb {T : Tab} {b : Bool} : eqT T (.bl b) (.bl b) = some true := by cases b <;> rfl
theorem eqT_ss {T : Tab} {s : Str} (h : eqOk (.str s) (.str s) = true) : eqT T (.str s) (.str s) = some true := by
  show (if eqOk (.str s) (.str s) then some (PyData.eqv (.str s) (.str s)) else none) = some true
  rw [if_pos h]
  simp [PyData.eqv]
theorem is1 (hk : isKs L = true) (hf : fs j = sIs n) {d : D} (hp : Plain (n + 1) d) (h : Q (.fz (.bl true))) : wSs (L.tab fs mk mt A) (isA j) [some (.fz d), some (.fz d), none, none] { nx := P, rt := fun _ => Q, ex := fun _ => E } := by
  have hk2 : ∀ a ∈ ["int", "bool", "str", "tuple", "list", "NoneType"], ∀ b ∈ ["int", "bool", "str", "tuple", "list"], (L.tab fs mk mt A).ki (.bi a) (.bi b) = true := by
    unfold isKs at hk
    rw [List.all_eq_true] at hk
    intro a ha b hb
    exact List.all_eq_true.mp (hk a ha) b hb
  generalize hT : L.tab fs mk mt A = T at hk2 ⊢
  unfold isA
  refine wSs_ife ?_
  simp only [wE, wT, wTAnd, wTAnd1, wTOr, wTOr1, wAnd, wAnd1, wOr, wOr1, wPut, wKvs, wArg, wLook, wO, wIf, wI, boolW, intW, EV.d, EV.out, EV.keep, EV.put, EV.arg, binW, addW, itemW, fldW, rngW, wholeW, seqW, tgW, setAll, biW, lenW, optW, sliW, Xs.w, wX, wXs, rho0, List.map_cons, List.map_nil, List.length_cons, List.length_nil, List.replicate, List.cons_append, List.nil_append, List.getElem?_cons_zero, List.getElem?_cons_succ, List.set_cons_zero, List.set_cons_succ, Nat.reduceAdd, Nat.reduceSub, Nat.zero_add, neh_fz, neh_ow, neh_pk, true_and, and_true, tab_fn, tab_mkk, tab_mth, Nat.sub_self, Nat.add_one_sub_one, ne_eq, not_false_eq_true, reduceCtorEq, if_true, Bool.false_eq_true, if_false]
  cases hp with
  | non =>
    refine ⟨_, rfl, by simp [hk2], ?_⟩
    rw [show (List.any [Ty.bi "tuple", Ty.bi "list"] (isB T (.bi "NoneType"))) = false from rfl]
    simp only [Bool.false_eq_true, if_false]
    refine w_nil (T := T) (wSs_ife ?_)
    simp only [wE, wT, wTAnd, wTAnd1, wTOr, wTOr1, wAnd, wAnd1, wOr, wOr1, wPut, wKvs, wArg, wLook, wO, wIf, wI, boolW, intW, EV.d, EV.out, EV.keep, EV.put, EV.arg, binW, addW, itemW, fldW, rngW, wholeW, seqW, tgW, setAll, biW, lenW, optW, sliW, Xs.w, wX, wXs, rho0, List.map_cons, List.map_nil, List.length_cons, List.length_nil, List.replicate, List.cons_append, List.nil_append, List.getElem?_cons_zero, List.getElem?_cons_succ, List.set_cons_zero, List.set_cons_succ, Nat.reduceAdd, Nat.reduceSub, Nat.zero_add, neh_fz, neh_ow, neh_pk, true_and, and_true, tab_fn, tab_mkk, tab_mth, Nat.sub_self, Nat.add_one_sub_one, ne_eq, not_false_eq_true, reduceCtorEq, if_true, Bool.false_eq_true, if_false]
    simp only [cmpW, D.isNon, true_and, if_true]
    refine wSs_ret ?_
    simp only [wE, wT, wTAnd, wTAnd1, wTOr, wTOr1, wAnd, wAnd1, wOr, wOr1, wPut, wKvs, wArg, wLook, wO, wIf, wI, boolW, intW, EV.d, EV.out, EV.keep, EV.put, EV.arg, binW, addW, itemW, fldW, rngW, wholeW, seqW, tgW, setAll, biW, lenW, optW, sliW, Xs.w, wX, wXs, rho0, List.map_cons, List.map_nil, List.length_cons, List.length_nil, List.replicate, List.cons_append, List.nil_append, List.getElem?_cons_zero, List.getElem?_cons_succ, List.set_cons_zero, List.set_cons_succ, Nat.reduceAdd, Nat.reduceSub, Nat.zero_add, neh_fz, neh_ow, neh_pk, true_and, and_true, tab_fn, tab_mkk, tab_mth, Nat.sub_self, Nat.add_one_sub_one, ne_eq, not_false_eq_true, reduceCtorEq, if_true, Bool.false_eq_true, if_false]
    simp only [cmpW, D.isNon, true_and, if_true]
    exact h
  | bl b =>
    refine ⟨_, rfl, by simp [hk2], ?_⟩
    rw [show (List.any [Ty.bi "tuple", Ty.bi "list"] (isB T (.bi "bool"))) = false from rfl]
    simp only [Bool.false_eq_true, if_false]
    refine w_nil (T := T) (wSs_ife ?_)
    simp only [wE, wT, wTAnd, wTAnd1, wTOr, wTOr1, wAnd, wAnd1, wOr, wOr1, wPut, wKvs, wArg, wLook, wO, wIf, wI, boolW, intW, EV.d, EV.out, EV.keep, EV.put, EV.arg, binW, addW, itemW, fldW, rngW, wholeW, seqW, tgW, setAll, biW, lenW, optW, sliW, Xs.w, wX, wXs, rho0, List.map_cons, List.map_nil, List.length_cons, List.length_nil, List.replicate, List.cons_append, List.nil_append, List.getElem?_cons_zero, List.getElem?_cons_succ, List.set_cons_zero, List.set_cons_succ, Nat.reduceAdd, Nat.reduceSub, Nat.zero_add, neh_fz, neh_ow, neh_pk, true_and, and_true, tab_fn, tab_mkk, tab_mth, Nat.sub_self, Nat.add_one_sub_one, ne_eq, not_false_eq_true, reduceCtorEq, if_true, Bool.false_eq_true, if_false]
    simp only [cmpW, D.isNon, true_and, if_false, Bool.false_eq_true]
    refine w_nil (T := T) (wSs_ife ?_)
    simp only [wE, wT, wTAnd, wTAnd1, wTOr, wTOr1, wAnd, wAnd1, wOr, wOr1, wPut, wKvs, wArg, wLook, wO, wIf, wI, boolW, intW, EV.d, EV.out, EV.keep, EV.put, EV.arg, binW, addW, itemW, fldW, rngW, wholeW, seqW, tgW, setAll, biW, lenW, optW, sliW, Xs.w, wX, wXs, rho0, List.map_cons, List.map_nil, List.length_cons, List.length_nil, List.replicate, List.cons_append, List.nil_append, List.getElem?_cons_zero, List.getElem?_cons_succ, List.set_cons_zero, List.set_cons_succ, Nat.reduceAdd, Nat.reduceSub, Nat.zero_add, neh_fz, neh_ow, neh_pk, true_and, and_true, tab_fn, tab_mkk, tab_mth, Nat.sub_self, Nat.add_one_sub_one, ne_eq, not_false_eq_true, reduceCtorEq, if_true, Bool.false_eq_true, if_false]
    refine ⟨_, rfl, by simp [hk2], _, rfl, by simp [hk2], ?_⟩
    simp only [cmpW, eqT_bb]
    refine ⟨_, rfl, ?_⟩
    simp only [Bool.not_true, Bool.false_eq_true, if_false]
    refine ⟨_, rfl, by simp [hk2], _, rfl, by simp [hk2], ?_⟩
    refine ⟨_, rfl, ?_⟩
    try simp only [Bool.not_true, Bool.false_eq_true, if_false]
    refine w_nil (T := T) (wSs_ret ?_)
    simp only [wE, wT, wTAnd, wTAnd1, wTOr, wTOr1, wAnd, wAnd1, wOr, wOr1, wPut, wKvs, wArg, wLook, wO, wIf, wI, boolW, intW, EV.d, EV.out, EV.keep, EV.put, EV.arg, binW, addW, itemW, fldW, rngW, wholeW, seqW, tgW, setAll, biW, lenW, optW, sliW, Xs.w, wX, wXs, rho0, List.map_cons, List.map_nil, List.length_cons, List.length_nil, List.replicate, List.cons_append, List.nil_append, List.getElem?_cons_zero, List.getElem?_cons_succ, List.set_cons_zero, List.set_cons_succ, Nat.reduceAdd, Nat.reduceSub, Nat.zero_add, neh_fz, neh_ow, neh_pk, true_and, and_true, tab_fn, tab_mkk, tab_mth, Nat.sub_self, Nat.add_one_sub_one, ne_eq, not_false_eq_true, reduceCtorEq, if_true, Bool.false_eq_true, if_false]
    refine ⟨_, rfl, by simp [hk2], _, rfl, by simp [hk2], ?_⟩
    simp only [cmpW, eqT_bb]
    refine ⟨_, rfl, ?_⟩
    simp only [if_true]
    exact ⟨_, rfl, h⟩
  | int b =>
    refine ⟨_, rfl, by simp [hk2], ?_⟩
    rw [show (List.any [Ty.bi "tuple", Ty.bi "list"] (isB T (.bi "int"))) = false from rfl]
    simp only [Bool.false_eq_true, if_false]
    refine w_nil (T := T) (wSs_ife ?_)
    simp only [wE, wT, wTAnd, wTAnd1, wTOr, wTOr1, wAnd, wAnd1, wOr, wOr1, wPut, wKvs, wArg, wLook, wO, wIf, wI, boolW, intW, EV.d, EV.out, EV.keep, EV.put, EV.arg, binW, addW, itemW, fldW, rngW, wholeW, seqW, tgW, setAll, biW, lenW, optW, sliW, Xs.w, wX, wXs, rho0, List.map_cons, List.map_nil, List.length_cons, List.length_nil, List.replicate, List.cons_append, List.nil_append, List.getElem?_cons_zero, List.getElem?_cons_succ, List.set_cons_zero, List.set_cons_succ, Nat.reduceAdd, Nat.reduceSub, Nat.zero_add, neh_fz, neh_ow, neh_pk, true_and, and_true, tab_fn, tab_mkk, tab_mth, Nat.sub_self, Nat.add_one_sub_one, ne_eq, not_false_eq_true, reduceCtorEq, if_true, Bool.false_eq_true, if_false]
    simp only [cmpW, D.isNon, true_and, if_false, Bool.false_eq_true]
    refine w_nil (T := T) (wSs_ife ?_)
    simp only [wE, wT, wTAnd, wTAnd1, wTOr, wTOr1, wAnd, wAnd1, wOr, wOr1, wPut, wKvs, wArg, wLook, wO, wIf, wI, boolW, intW, EV.d, EV.out, EV.keep, EV.put, EV.arg, binW, addW, itemW, fldW, rngW, wholeW, seqW, tgW, setAll, biW, lenW, optW, sliW, Xs.w, wX, wXs, rho0, List.map_cons, List.map_nil, List.length_cons, List.length_nil, List.replicate, List.cons_append, List.nil_append, List.getElem?_cons_zero, List.getElem?_cons_succ, List.set_cons_zero, List.set_cons_succ, Nat.reduceAdd, Nat.reduceSub, Nat.zero_add, neh_fz, neh_ow, neh_pk, true_and, and_true, tab_fn, tab_mkk, tab_mth, Nat.sub_self, Nat.add_one_sub_one, ne_eq, not_false_eq_true, reduceCtorEq, if_true, Bool.false_eq_true, if_false]
    refine ⟨_, rfl, by simp [hk2], _, rfl, by simp [hk2], ?_⟩
    simp only [cmpW, eqT_bb]
    refine ⟨_, rfl, ?_⟩
    simp only [Bool.not_true, Bool.false_eq_true, if_false]
    refine ⟨_, rfl, by simp [hk2], _, rfl, by simp [hk2], ?_⟩
    refine ⟨_, rfl, ?_⟩
    try simp only [Bool.not_true, Bool.false_eq_true, if_false]
    refine w_nil (T := T) (wSs_ret ?_)
    simp only [wE, wT, wTAnd, wTAnd1, wTOr, wTOr1, wAnd, wAnd1, wOr, wOr1, wPut, wKvs, wArg, wLook, wO, wIf, wI, boolW, intW, EV.d, EV.out, EV.keep, EV.put, EV.arg, binW, addW, itemW, fldW, rngW, wholeW, seqW, tgW, setAll, biW, lenW, optW, sliW, Xs.w, wX, wXs, rho0, List.map_cons, List.map_nil, List.length_cons, List.length_nil, List.replicate, List.cons_append, List.nil_append, List.getElem?_cons_zero, List.getElem?_cons_succ, List.set_cons_zero, List.set_cons_succ, Nat.reduceAdd, Nat.reduceSub, Nat.zero_add, neh_fz, neh_ow, neh_pk, true_and, and_true, tab_fn, tab_mkk, tab_mth, Nat.sub_self, Nat.add_one_sub_one, ne_eq, not_false_eq_true, reduceCtorEq, if_true, Bool.false_eq_true, if_false]
    refine ⟨_, rfl, by simp [hk2], _, rfl, by simp [hk2], ?_⟩
    simp only [cmpW, eqT_bb, eqT_int]
    refine ⟨_, rfl, ?_⟩
    simp only [if_true]
    exact ⟨_, rfl, by simpa using h⟩
  | str b hb =>
    refine ⟨_, rfl, by simp [hk2], ?_⟩
    rw [show (List.any [Ty.bi "tuple", Ty.bi "list"] (isB T (.bi "str"))) = false from rfl]
    simp only [Bool.false_eq_true, if_false]
    refine w_nil (T := T) (wSs_ife ?_)
    simp only [wE, wT, wTAnd, wTAnd1, wTOr, wTOr1, wAnd, wAnd1, wOr, wOr1, wPut, wKvs, wArg, wLook, wO, wIf, wI, boolW, intW, EV.d, EV.out, EV.keep, EV.put, EV.arg, binW, addW, itemW, fldW, rngW, wholeW, seqW, tgW, setAll, biW, lenW, optW, sliW, Xs.w, wX, wXs, rho0, List.map_cons, List.map_nil, List.length_cons, List.length_nil, List.replicate, List.cons_append, List.nil_append, List.getElem?_cons_zero, List.getElem?_cons_succ, List.set_cons_zero, List.set_cons_succ, Nat.reduceAdd, Nat.reduceSub, Nat.zero_add, neh_fz, neh_ow, neh_pk, true_and, and_true, tab_fn, tab_mkk, tab_mth, Nat.sub_self, Nat.add_one_sub_one, ne_eq, not_false_eq_true, reduceCtorEq, if_true, Bool.false_eq_true, if_false]
    simp only [cmpW, D.isNon, true_and, if_false, Bool.false_eq_true]
    refine w_nil (T := T) (wSs_ife ?_)
    simp only [wE, wT, wTAnd, wTAnd1, wTOr, wTOr1, wAnd, wAnd1, wOr, wOr1, wPut, wKvs, wArg, wLook, wO, wIf, wI, boolW, intW, EV.d, EV.out, EV.keep, EV.put, EV.arg, binW, addW, itemW, fldW, rngW, wholeW, seqW, tgW, setAll, biW, lenW, optW, sliW, Xs.w, wX, wXs, rho0, List.map_cons, List.map_nil, List.length_cons, List.length_nil, List.replicate, List.cons_append, List.nil_append, List.getElem?_cons_zero, List.getElem?_cons_succ, List.set_cons_zero, List.set_cons_succ, Nat.reduceAdd, Nat.reduceSub, Nat.zero_add, neh_fz, neh_ow, neh_pk, true_and, and_true, tab_fn, tab_mkk, tab_mth, Nat.sub_self, Nat.add_one_sub_one, ne_eq, not_false_eq_true, reduceCtorEq, if_true, Bool.false_eq_true, if_false]
    refine ⟨_, rfl, by simp [hk2], _, rfl, by simp [hk2], ?_⟩
    simp only [cmpW, eqT_bb]
    refine ⟨_, rfl, ?_⟩
    simp only [Bool.not_true, Bool.false_eq_true, if_false]
    refine ⟨_, rfl, by simp [hk2], _, rfl, by simp [hk2], ?_⟩
    refine ⟨_, rfl, ?_⟩
    try simp only [Bool.not_true, Bool.false_eq_true, if_false]
    refine w_nil (T := T) (wSs_ret ?_)
    simp only [wE, wT, wTAnd, wTAnd1, wTOr, wTOr1, wAnd, wAnd1, wOr, wOr1, wPut, wKvs, wArg, wLook, wO, wIf, wI, boolW, intW, EV.d, EV.out, EV.keep, EV.put, EV.arg, binW, addW, itemW, fldW, rngW, wholeW, seqW, tgW, setAll, biW, lenW, optW, sliW, Xs.w, wX, wXs, rho0, List.map_cons, List.map_nil, List.length_cons, List.length_nil, List.replicate, List.cons_append, List.nil_append, List.getElem?_cons_zero, List.getElem?_cons_succ, List.set_cons_zero, List.set_cons_succ, Nat.reduceAdd, Nat.reduceSub, Nat.zero_add, neh_fz, neh_ow, neh_pk, true_and, and_true, tab_fn, tab_mkk, tab_mth, Nat.sub_self, Nat.add_one_sub_one, ne_eq, not_false_eq_true, reduceCtorEq, if_true, Bool.false_eq_true, if_false]
    refine ⟨_, rfl, by simp [hk2], _, rfl, by simp [hk2], ?_⟩
    simp only [cmpW, eqT_bb, eqT_ss hb]
    refine ⟨_, rfl, ?_⟩
    simp only [if_true]
    exact ⟨_, rfl, h⟩
  | tup ds hd hz =>
    refine ⟨_, rfl, by simp [hk2], ?_⟩
    rw [show (List.any [Ty.bi "tuple", Ty.bi "list"] (isB T (.bi "tuple"))) = true from rfl]
    simp only [if_true]
    refine wSs_ife ?_
    simp only [wE, wT, wTAnd, wTAnd1, wTOr, wTOr1, wAnd, wAnd1, wOr, wOr1, wPut, wKvs, wArg, wLook, wO, wIf, wI, boolW, intW, EV.d, EV.out, EV.keep, EV.put, EV.arg, binW, addW, itemW, fldW, rngW, wholeW, seqW, tgW, setAll, biW, lenW, optW, sliW, Xs.w, wX, wXs, rho0, List.map_cons, List.map_nil, List.length_cons, List.length_nil, List.replicate, List.cons_append, List.nil_append, List.getElem?_cons_zero, List.getElem?_cons_succ, List.set_cons_zero, List.set_cons_succ, Nat.reduceAdd, Nat.reduceSub, Nat.zero_add, neh_fz, neh_ow, neh_pk, true_and, and_true, tab_fn, tab_mkk, tab_mth, Nat.sub_self, Nat.add_one_sub_one, ne_eq, not_false_eq_true, reduceCtorEq, if_true, Bool.false_eq_true, if_false]
    refine ⟨_, rfl, by simp [hk2], _, rfl, by simp [hk2], ?_⟩
    simp only [cmpW, eqT_bb]
    refine ⟨_, rfl, ?_⟩
    simp only [Bool.not_true, Bool.false_eq_true, if_false]
    refine ⟨_, rfl, by simp [hk2], _, rfl, by simp [hk2], ?_⟩
    refine ⟨_, rfl, ?_⟩
    try simp only [Bool.not_true, Bool.false_eq_true, if_false]
    refine w_nil (T := T) (wSs_ret ?_)
    simp only [wE, wT, wTAnd, wTAnd1, wTOr, wTOr1, wAnd, wAnd1, wOr, wOr1, wPut, wKvs, wArg, wLook, wO, wIf, wI, boolW, intW, EV.d, EV.out, EV.keep, EV.put, EV.arg, binW, addW, itemW, fldW, rngW, wholeW, seqW, tgW, setAll, biW, lenW, optW, sliW, Xs.w, wX, wXs, rho0, List.map_cons, List.map_nil, List.length_cons, List.length_nil, List.replicate, List.cons_append, List.nil_append, List.getElem?_cons_zero, List.getElem?_cons_succ, List.set_cons_zero, List.set_cons_succ, Nat.reduceAdd, Nat.reduceSub, Nat.zero_add, neh_fz, neh_ow, neh_pk, true_and, and_true, tab_fn, tab_mkk, tab_mth, Nat.sub_self, Nat.add_one_sub_one, ne_eq, not_false_eq_true, reduceCtorEq, if_true, Bool.false_eq_true, if_false]
    simp only [cmpW, eqT_int, decide_true]
    refine ⟨_, rfl, ?_⟩
    simp only [if_true, zipW, true_and]
    subst hT
    simp only [wipeR, List.set_cons_zero, List.set_cons_succ]
    refine lc_is (n := n) (fun d k hp q => by show fs j _ _ _; rw [hf]; exact ⟨d, rfl, hp, q⟩) ds 0 hd (by simpa using hz) ?_
    exact ⟨_, bools_rep _, by rw [all_rep]; exact h⟩
  | lst ds hd hz =>
    refine ⟨_, rfl, by simp [hk2], ?_⟩
    rw [show (List.any [Ty.bi "tuple", Ty.bi "list"] (isB T (.bi "list"))) = true from rfl]
    simp only [if_true]
    refine wSs_ife ?_
    simp only [wE, wT, wTAnd, wTAnd1, wTOr, wTOr1, wAnd, wAnd1, wOr, wOr1, wPut, wKvs, wArg, wLook, wO, wIf, wI, boolW, intW, EV.d, EV.out, EV.keep, EV.put, EV.arg, binW, addW, itemW, fldW, rngW, wholeW, seqW, tgW, setAll, biW, lenW, optW, sliW, Xs.w, wX, wXs, rho0, List.map_cons, List.map_nil, List.length_cons, List.length_nil, List.replicate, List.cons_append, List.nil_append, List.getElem?_cons_zero, List.getElem?_cons_succ, List.set_cons_zero, List.set_cons_succ, Nat.reduceAdd, Nat.reduceSub, Nat.zero_add, neh_fz, neh_ow, neh_pk, true_and, and_true, tab_fn, tab_mkk, tab_mth, Nat.sub_self, Nat.add_one_sub_one, ne_eq, not_false_eq_true, reduceCtorEq, if_true, Bool.false_eq_true, if_false]
    refine ⟨_, rfl, by simp [hk2], _, rfl, by simp [hk2], ?_⟩
    simp only [cmpW, eqT_bb]
    refine ⟨_, rfl, ?_⟩
    simp only [Bool.not_true, Bool.false_eq_true, if_false]
    refine ⟨_, rfl, by simp [hk2], _, rfl, by simp [hk2], ?_⟩
    refine ⟨_, rfl, ?_⟩
    try simp only [Bool.not_true, Bool.false_eq_true, if_false]
    refine w_nil (T := T) (wSs_ret ?_)
    simp only [wE, wT, wTAnd, wTAnd1, wTOr, wTOr1, wAnd, wAnd1, wOr, wOr1, wPut, wKvs, wArg, wLook, wO, wIf, wI, boolW, intW, EV.d, EV.out, EV.keep, EV.put, EV.arg, binW, addW, itemW, fldW, rngW, wholeW, seqW, tgW, setAll, biW, lenW, optW, sliW, Xs.w, wX, wXs, rho0, List.map_cons, List.map_nil, List.length_cons, List.length_nil, List.replicate, List.cons_append, List.nil_append, List.getElem?_cons_zero, List.getElem?_cons_succ, List.set_cons_zero, List.set_cons_succ, Nat.reduceAdd, Nat.reduceSub, Nat.zero_add, neh_fz, neh_ow, neh_pk, true_and, and_true, tab_fn, tab_mkk, tab_mth, Nat.sub_self, Nat.add_one_sub_one, ne_eq, not_false_eq_true, reduceCtorEq, if_true, Bool.false_eq_true, if_false]
    simp only [cmpW, eqT_int, decide_true]
    refine ⟨_, rfl, ?_⟩
    simp only [if_true, zipW, true_and]
    subst hT
    simp only [wipeR, List.set_cons_zero, List.set_cons_succ]
    refine lc_is (n := n) (fun d k hp q => by show fs j _ _ _; rw [hf]; exact ⟨d, rfl, hp, q⟩) ds 0 hd (by simpa using hz) ?_
    exact ⟨_, bools_rep _, by rw [all_rep]; exact h⟩
end
theorem sIs_zero {ss : List SV} {E : Exn → Prop} {Q : EV → Prop} (h : sIs 0 ss E Q) : False := by
  obtain ⟨d, _, hp, _⟩ := h
  cases hp
/-- a def that is never asked -/
theorem fnOk_never {P : Program} {w : World} {K : Frag} {mg : Str → Option Value} {base : PySem.Heap} {f : Addr} {fd : FuncData} {ps : List Str} {spec : Spec} (h : ∀ ss E Q, ¬ spec ss E Q) : L2.FnOk P w K mg base (L2.CX P w) 0 f fd ps (SpD K spec) where
  len := fun vs H Q E ⟨hd, F, ss, Ed, Qd, _, _, _, hs, _⟩ => absurd hs (h _ _ _)
  run := fun A outer s H args us vs Q E _ _ _ _ ⟨hd, F, ss, Ed, Qd, _, _, _, hs, _⟩ => absurd hs (h _ _ _)
/-- the look at things, by the depth of what it is asked -/
theorem Hb.isAv {L : TabL} {fa : List He.Fa} {fn : List He.DefD} {P : Program} {w : World} {K : Frag} {mg : Str → Option Value} {base : PySem.Heap} {FSn : Nat → Nat → Spec} {mk : Nat → Spec} {mt : Nat → Nat → Spec} {eqB : Str → List (Str × D) → D → Option Bool} {j : Nat} {x : Str} {N ps : List Str}
    (B : Hb L fa fn K mg) (i gi : Nat) {d : He.DefD} (hd : fn[i]? = some d) (h0 : d.dfl = []) (h1 : d.kwd = []) (ha : d.at_ = (x, none)) (hg : fa[gi]? = some (.glo x)) (hN : N.length = 4) (hp : ps.length = 2) (hs : C8.scC N ps d.scope = true) (hk : isKs L = true) (hx : L.fnN.getD j default = x) (hf : ∀ n, FSn n j = sIs n) (hb : BindF d ps)
    (hm : ∀ n, mSs (L.tab (FSn n) mk mt (avOf [j] [] [] [] [] eqB)) (scOf N d.scope) (isA j) d.body = true) : ∀ (n : Nat) (A : Av), FnAv P w K mg base (L.tab (FSn n) mk mt A) n j
  | 0, A => by
    obtain ⟨fd, F⟩ := B.funD i hd h0 h1
    have e : He.fAd K d.at_ = He.ga K x := by rw [ha]; rfl
    rw [e] at F
    exact ⟨_, fd, ps, 0, Nat.le_refl _, by
      show L2.FnOk _ _ _ _ _ _ _ _ _ _ (SpD K (FSn 0 j))
      rw [hf]
      exact fnOk_never fun ss E Q h => sIs_zero h, by show mg (L.fnN.getD j default) = _; rw [hx]; exact B.glo gi hg, F.kp, F.bindsN hb⟩
  | n + 1, A => by
    have ih := Hb.isAv (P := P) (w := w) (base := base) (mk := mk) (mt := mt) (eqB := eqB) B i gi hd h0 h1 ha hg hN hp hs hk hx hf hb hm n (avOf [j] [] [] [] [] eqB)
    have Y : Kit P w K mg base (L.tab (FSn n) mk mt (avOf [j] [] [] [] [] eqB)) n := B.kit (fun k hk' => by
      simp only [List.mem_cons, List.not_mem_nil, or_false] at hk'
      subst hk'
      exact ih) (fun _ h => by cases h) (fun _ h => by cases h) (fun _ h => by cases h) (fun _ h => by cases h)
    refine B.fnAv i gi hd h0 h1 ha hg hs Y (hm n) hb hx (fun ss E Q h => ?_) (fun ss E Q h => ?_)
    · have h : FSn (n + 1) j ss E Q := h
      rw [hf] at h
      obtain ⟨d, rfl, _⟩ := h
      exact hp.symm
    · have h : FSn (n + 1) j ss E Q := h
      rw [hf] at h
      obtain ⟨dd, rfl, hpl, h⟩ := h
      have e : rho0 N [SV.fz dd, SV.fz dd] = [some (.fz dd), some (.fz dd), none, none] := by unfold rho0; rw [hN]; rfl
      rw [e]
      exact is1 (hk := hk) (hf := hf n) hpl h
end MP
end
section
set_option Elab.async false
set_option linter.all false
set_option maxRecDepth 100000
set_option maxHeartbeats 0
namespace Hd
open PySem PySem.Spec PyProof.Rows L2
/-! ### the text: defs by their places -/
def top (i : Nat) : Stmt := PySem.Challenge.pw_hourwright_k01_weeks_slots_equal_refused.main.body.getD i (.Pass ⟨0, 0, 0, 0⟩)
abbrev s__wall : Stmt := top 0
def d__wall : He.DefD := ⟨("_wall", none), "_wall", "_wall", defArgs s__wall, defBody s__wall, defScope s__wall, [], []⟩
abbrev s_is_integer : Stmt := top 7
def d_is_integer : He.DefD := ⟨("is_integer", none), "is_integer", "is_integer", defArgs s_is_integer, defBody s_is_integer, defScope s_is_integer, [], []⟩
abbrev s_is_between : Stmt := top 8
def d_is_between : He.DefD := ⟨("is_between", none), "is_between", "is_between", defArgs s_is_between, defBody s_is_between, defScope s_is_between, [], []⟩
abbrev s_slots : Stmt := top 10
def d_slots : He.DefD := ⟨("slots", none), "slots", "slots", defArgs s_slots, defBody s_slots, defScope s_slots, [], []⟩
abbrev s__law_hand : Stmt := top 12
def d__law_hand : He.DefD := ⟨("_law_hand", none), "_law_hand", "_law_hand", defArgs s__law_hand, defBody s__law_hand, defScope s__law_hand, [], []⟩
abbrev s__law_draw : Stmt := top 13
def d__law_draw : He.DefD := ⟨("_law_draw", none), "_law_draw", "_law_draw", defArgs s__law_draw, defBody s__law_draw, defScope s__law_draw, [], []⟩
abbrev s__law_some : Stmt := top 14
def d__law_some : He.DefD := ⟨("_law_some", none), "_law_some", "_law_some", defArgs s__law_some, defBody s__law_some, defScope s__law_some, [], []⟩
abbrev s__law_is : Stmt := top 15
def d__law_is : He.DefD := ⟨("_law_is", none), "_law_is", "_law_is", defArgs s__law_is, defBody s__law_is, defScope s__law_is, [], []⟩
abbrev s__law_deep : Stmt := top 16
def d__law_deep : He.DefD := ⟨("_law_deep", none), "_law_deep", "_law_deep", defArgs s__law_deep, defBody s__law_deep, defScope s__law_deep, [], []⟩
abbrev s__law_part : Stmt := top 17
def d__law_part : He.DefD := ⟨("_law_part", none), "_law_part", "_law_part", defArgs s__law_part, defBody s__law_part, defScope s__law_part, [], []⟩
abbrev s__law_is_right : Stmt := top 18
def d__law_is_right : He.DefD := ⟨("_law_is_right", none), "_law_is_right", "_law_is_right", defArgs s__law_is_right, defBody s__law_is_right, defScope s__law_is_right, [], []⟩
abbrev s__law_due : Stmt := top 19
def d__law_due : He.DefD := ⟨("_law_due", none), "_law_due", "_law_due", defArgs s__law_due, defBody s__law_due, defScope s__law_due, [], []⟩
abbrev s__law_told : Stmt := top 20
def d__law_told : He.DefD := ⟨("_law_told", none), "_law_told", "_law_told", defArgs s__law_told, defBody s__law_told, defScope s__law_told, [], []⟩
abbrev s__law_flag : Stmt := top 21
def d__law_flag : He.DefD := ⟨("_law_flag", none), "_law_flag", "_law_flag", defArgs s__law_flag, defBody s__law_flag, defScope s__law_flag, [], []⟩
abbrev s__law_are_alike : Stmt := top 22
def d__law_are_alike : He.DefD := ⟨("_law_are_alike", none), "_law_are_alike", "_law_are_alike", defArgs s__law_are_alike, defBody s__law_are_alike, defScope s__law_are_alike, [], []⟩
abbrev s_law : Stmt := top 23
def d_law : He.DefD := ⟨("law", none), "law", "law", defArgs s_law, defBody s_law, defScope s_law, [], []⟩
abbrev s_HourError___init__ : Stmt := inClass (top 2) 0
def d_HourError___init__ : He.DefD := ⟨("HourError", some "__init__"), "__init__", "HourError.__init__", defArgs s_HourError___init__, defBody s_HourError___init__, defScope s_HourError___init__, [], []⟩
abbrev s_BadWeek___init__ : Stmt := inClass (top 3) 0
def d_BadWeek___init__ : He.DefD := ⟨("BadWeek", some "__init__"), "__init__", "BadWeek.__init__", defArgs s_BadWeek___init__, defBody s_BadWeek___init__, defScope s_BadWeek___init__, [], []⟩
abbrev s_Week___init__ : Stmt := inClass (top 9) 0
def d_Week___init__ : He.DefD := ⟨("Week", some "__init__"), "__init__", "Week.__init__", defArgs s_Week___init__, defBody s_Week___init__, defScope s_Week___init__, [], []⟩
abbrev s_Week___eq__ : Stmt := inClass (top 9) 1
def d_Week___eq__ : He.DefD := ⟨("Week", some "__eq__"), "__eq__", "Week.__eq__", defArgs s_Week___eq__, defBody s_Week___eq__, defScope s_Week___eq__, [], []⟩
abbrev s_Week_has : Stmt := inClass (top 9) 2
def d_Week_has : He.DefD := ⟨("Week", some "has"), "has", "Week.has", defArgs s_Week_has, defBody s_Week_has, defScope s_Week_has, [], []⟩
def fn : List He.DefD := [d__wall, d_is_integer, d_is_between, d_slots, d__law_hand, d__law_draw, d__law_some, d__law_is, d__law_deep, d__law_part, d__law_is_right, d__law_due, d__law_told, d__law_flag, d__law_are_alike, d_law, d_HourError___init__, d_BadWeek___init__, d_Week___init__, d_Week___eq__, d_Week_has]
def fa : List He.Fa := [.glo "_wall", .glo "is_integer", .glo "is_between", .glo "slots", .glo "_law_hand", .glo "_law_draw", .glo "_law_some", .glo "_law_is", .glo "_law_deep", .glo "_law_part", .glo "_law_is_right", .glo "_law_due", .glo "_law_told", .glo "_law_flag", .glo "_law_are_alike", .glo "law", .glo "HourError", .glo "BadWeek", .glo "Week", .meth "Week" "__init__", .meth "Week" "__eq__", .meth "Week" "has", .cls "Week", .mkr "Week"]
def tl : MP.TabL where
  fnN := ["_wall", "is_integer", "is_between", "slots", "_law_hand", "_law_draw", "_law_some", "_law_is", "_law_deep", "_law_part", "_law_is_right", "_law_due", "_law_told", "_law_flag", "_law_are_alike", "law"]
  cls := ["HourError", "BadWeek", "Week"]
  cons := [("MOST_DAYS", .int 7), ("MOST_PERIODS", .int 12)]
  mthN := [[], [], ["__eq__", "has"]]
  exc := [none, some "part", none]
  sub := [("HourError", "HourError"), ("BadWeek", "BadWeek"), ("BadWeek", "HourError"), ("Week", "Week")]
  fl := [("Week", "days"), ("Week", "periods")]
  ki := [(.bi "int", .bi "bool"), (.bi "int", .bi "int"), (.bi "int", .bi "list"), (.bi "int", .bi "str"), (.bi "int", .bi "tuple"), (.bi "int", .own 2), (.bi "bool", .bi "bool"), (.bi "bool", .bi "int"), (.bi "bool", .bi "list"), (.bi "bool", .bi "str"), (.bi "bool", .bi "tuple"), (.bi "bool", .own 2), (.bi "str", .bi "bool"), (.bi "str", .bi "int"), (.bi "str", .bi "list"), (.bi "str", .bi "str"), (.bi "str", .bi "tuple"), (.bi "str", .own 2), (.bi "tuple", .bi "bool"), (.bi "tuple", .bi "int"), (.bi "tuple", .bi "list"), (.bi "tuple", .bi "str"), (.bi "tuple", .bi "tuple"), (.bi "tuple", .own 2), (.bi "list", .bi "bool"), (.bi "list", .bi "int"), (.bi "list", .bi "list"), (.bi "list", .bi "str"), (.bi "list", .bi "tuple"), (.bi "list", .own 2), (.bi "dict", .bi "bool"), (.bi "dict", .bi "int"), (.bi "dict", .bi "list"), (.bi "dict", .bi "str"), (.bi "dict", .bi "tuple"), (.bi "dict", .own 2), (.bi "NoneType", .bi "bool"), (.bi "NoneType", .bi "int"), (.bi "NoneType", .bi "list"), (.bi "NoneType", .bi "str"), (.bi "NoneType", .bi "tuple"), (.bi "NoneType", .own 2), (.own "Week", .bi "bool"), (.own "Week", .bi "int"), (.own "Week", .bi "list"), (.own "Week", .bi "str"), (.own "Week", .bi "tuple"), (.own "Week", .own 2)]
  free := ["ValueError", "abs", "all", "bool", "int", "isinstance", "len", "list", "range", "str", "tuple", "zip"]
  exm := [("HourError", 1), ("HourError", 0), ("BadWeek", 1), ("BadWeek", 0)]
  xl := [("BadWeek", "part")]
  eqC := ["Week"]
  qk := [("Week", "Week")]
def ex (K : PySem.W.Frag) : Bool := tl.ok K && (tl.okQ K && (MP.vvB K && (MP.exfB K "HourError" none && (MP.exfB K "BadWeek" (some "part") && (MP.clsFnB K (He.ga K "HourError") "__init__" (MP.initAt K "HourError"))))))
abbrev R : PySem.W.OpenRow := PySem.W.OpenLaw.row PySem.Challenge.rw_hourwright_k01_weeks_slots_equal_refused
abbrev hk : PySem.W.Hook := MP.hookY 5 fa fn ex
def ob (s : PySem.W.SharedT) : He.AlD × Bool := MP.obsY 5 fa fn ex (HandSHeadRun.getT s)
theorem ob_eq (s : PySem.W.SharedT) : ob s = hk.obs s.abs := MP.obsY_eq (HandSHeadRun.getT_eq s)
def loose : List PySem.Str := ["_wall", "HourError", "BadWeek", "MOST_DAYS", "MOST_PERIODS", "is_integer", "is_between", "Week", "slots", "_law_hand", "_law_draw", "_law_some", "_law_is", "_law_deep", "_law_part", "_law_is_right", "_law_due", "_law_told", "_law_flag", "_law_are_alike"]
theorem run (w : World) : HandSHeadRun.RunEq R (PySem.W.view R.prog [23]) hk ob 3000 loose w := by
  intro os
  kernel_rfl
end Hd
end
section
set_option Elab.async false
set_option linter.all false
set_option maxRecDepth 100000
set_option maxHeartbeats 0
namespace Hd
open PySem PySem.Spec PyProof.Rows L2
def n__wall : List Str := ["k"]
def a__wall : List MP.St := [(.whil (.val (.bl true)) [.skip])]
abbrev t__wall (fs mk : Nat → MP.Spec) (mt : Nat → Nat → MP.Spec) (eqB : Str → List (Str × MP.D) → MP.D → Option Bool) : MP.Tab := tl.tab fs mk mt (MP.avOf [] [] [] [] [] eqB)
theorem c__wall {fs mk : Nat → MP.Spec} {mt : Nat → Nat → MP.Spec} {eqB : Str → List (Str × MP.D) → MP.D → Option Bool} : MP.mSs (t__wall fs mk mt eqB) (MP.scOf n__wall (defScope s__wall)) a__wall (defBody s__wall) = true := by kernel_rfl
def n_is_integer : List Str := ["thing"]
def a_is_integer : List MP.St := [(.ret (.and [(.isi (.var 0) (.bi "int")), (.not (.isi (.var 0) (.bi "bool")))]))]
abbrev t_is_integer (fs mk : Nat → MP.Spec) (mt : Nat → Nat → MP.Spec) (eqB : Str → List (Str × MP.D) → MP.D → Option Bool) : MP.Tab := tl.tab fs mk mt (MP.avOf [] [] [] [] [] eqB)
theorem c_is_integer {fs mk : Nat → MP.Spec} {mt : Nat → Nat → MP.Spec} {eqB : Str → List (Str × MP.D) → MP.D → Option Bool} : MP.mSs (t_is_integer fs mk mt eqB) (MP.scOf n_is_integer (defScope s_is_integer)) a_is_integer (defBody s_is_integer) = true := by kernel_rfl
def n_is_between : List Str := ["thing", "least", "most"]
def a_is_between : List MP.St := [(.ret (.and [(.call 1 [(.var 0)]), (.chain .le .le (.var 1) (.var 0) (.var 2))]))]
abbrev t_is_between (fs mk : Nat → MP.Spec) (mt : Nat → Nat → MP.Spec) (eqB : Str → List (Str × MP.D) → MP.D → Option Bool) : MP.Tab := tl.tab fs mk mt (MP.avOf [1] [] [] [] [] eqB)
theorem c_is_between {fs mk : Nat → MP.Spec} {mt : Nat → Nat → MP.Spec} {eqB : Str → List (Str × MP.D) → MP.D → Option Bool} : MP.mSs (t_is_between fs mk mt eqB) (MP.scOf n_is_between (defScope s_is_between)) a_is_between (defBody s_is_between) = true := by kernel_rfl
def n_Week___init__ : List Str := ["self", "days", "periods"]
def a_Week___init__ : List MP.St := [(.ife (.not (.val (.call 2 [(.var 1), (.int 1), (.con 0)]))) [(.rais 1 (some (.str "days")))] []), (.ife (.not (.val (.call 2 [(.var 2), (.int 1), (.con 1)]))) [(.rais 1 (some (.str "periods")))] []), (.setf 0 "days" (.var 1)), (.setf 0 "periods" (.var 2))]
abbrev t_Week___init__ (fs mk : Nat → MP.Spec) (mt : Nat → Nat → MP.Spec) (eqB : Str → List (Str × MP.D) → MP.D → Option Bool) : MP.Tab := tl.tab fs mk mt (MP.avOf [2] [] [] [1] [] eqB)
theorem c_Week___init__ {fs mk : Nat → MP.Spec} {mt : Nat → Nat → MP.Spec} {eqB : Str → List (Str × MP.D) → MP.D → Option Bool} : MP.mSs (t_Week___init__ fs mk mt eqB) (MP.scOf n_Week___init__ (defScope s_Week___init__)) a_Week___init__ (defBody s_Week___init__) = true := by kernel_rfl
def n_Week___eq__ : List Str := ["self", "other"]
def a_Week___eq__ : List MP.St := [(.ret (.and [(.isi (.var 1) (.own 2)), (.cmp .eq (.fld (.var 0) "days") (.fld (.var 1) "days")), (.cmp .eq (.fld (.var 0) "periods") (.fld (.var 1) "periods"))]))]
abbrev t_Week___eq__ (fs mk : Nat → MP.Spec) (mt : Nat → Nat → MP.Spec) (eqB : Str → List (Str × MP.D) → MP.D → Option Bool) : MP.Tab := tl.tab fs mk mt (MP.avOf [] [] [] [] [] eqB)
theorem c_Week___eq__ {fs mk : Nat → MP.Spec} {mt : Nat → Nat → MP.Spec} {eqB : Str → List (Str × MP.D) → MP.D → Option Bool} : MP.mSs (t_Week___eq__ fs mk mt eqB) (MP.scOf n_Week___eq__ (defScope s_Week___eq__)) a_Week___eq__ (defBody s_Week___eq__) = true := by kernel_rfl
def n_Week_has : List Str := ["self", "slot"]
def a_Week_has : List MP.St := [(.expr (.call 0 [(.int 0)]))]
abbrev t_Week_has (fs mk : Nat → MP.Spec) (mt : Nat → Nat → MP.Spec) (eqB : Str → List (Str × MP.D) → MP.D → Option Bool) : MP.Tab := tl.tab fs mk mt (MP.avOf [0] [] [] [] [] eqB)
theorem c_Week_has {fs mk : Nat → MP.Spec} {mt : Nat → Nat → MP.Spec} {eqB : Str → List (Str × MP.D) → MP.D → Option Bool} : MP.mSs (t_Week_has fs mk mt eqB) (MP.scOf n_Week_has (defScope s_Week_has)) a_Week_has (defBody s_Week_has) = true := by kernel_rfl
def n_slots : List Str := ["week"]
def a_slots : List MP.St := [(.ret (.bi .tuple [(.lrng [(.bin .mul (.fld (.var 0) "days") (.fld (.var 0) "periods"))])]))]
abbrev t_slots (fs mk : Nat → MP.Spec) (mt : Nat → Nat → MP.Spec) (eqB : Str → List (Str × MP.D) → MP.D → Option Bool) : MP.Tab := tl.tab fs mk mt (MP.avOf [] [] [] [] [] eqB)
theorem c_slots {fs mk : Nat → MP.Spec} {mt : Nat → Nat → MP.Spec} {eqB : Str → List (Str × MP.D) → MP.D → Option Bool} : MP.mSs (t_slots fs mk mt eqB) (MP.scOf n_slots (defScope s_slots)) a_slots (defBody s_slots) = true := by kernel_rfl
def n__law_hand : List Str := ["script", "cells", "cell"]
def a__law_hand : List MP.St := [(.set 1 (.lc [2] (.nm 2) (.seq (.sli (.var 0) none (some (.int 63)))) none (.bi .abs [(.bi .int [(.var 2)])]))), (.frz 1), (.ret (.lst [(.var 1), (.int 0), (.int 0), (.bin .add (.int 57) (.bin .mul (.int 11) (.bi .len [(.var 1)]))), (.int 0)]))]
abbrev t__law_hand (fs mk : Nat → MP.Spec) (mt : Nat → Nat → MP.Spec) (eqB : Str → List (Str × MP.D) → MP.D → Option Bool) : MP.Tab := tl.tab fs mk mt (MP.avOf [] [] [] [] [] eqB)
theorem c__law_hand {fs mk : Nat → MP.Spec} {mt : Nat → Nat → MP.Spec} {eqB : Str → List (Str × MP.D) → MP.D → Option Bool} : MP.mSs (t__law_hand fs mk mt eqB) (MP.scOf n__law_hand (defScope s__law_hand)) a__law_hand (defBody s__law_hand) = true := by kernel_rfl
def n__law_draw : List Str := ["hand", "many", "number", "cell", "digit"]
def a__law_draw : List MP.St := [(.ife (.and [(.val (.cmp .eq (.idx (.var 0) (.int 2)) (.int 0))), (.val (.cmp .lt (.idx (.var 0) (.int 1)) (.bi .len [(.idx (.var 0) (.int 0))])))]) [(.set 3 (.idx (.idx (.var 0) (.int 0)) (.idx (.var 0) (.int 1)))), (.frz 3), (.seti 0 (.int 1) (.bin .add (.idx (.var 0) (.int 1)) (.int 1))), (.seti 0 (.int 3) (.bin .mod (.bi .int [(.bin .add (.bin .add (.bin .mul (.idx (.var 0) (.int 3)) (.int 69621)) (.var 3)) (.int 29))]) (.int 2147483629))), (.ife (.val (.cmp .ge (.var 3) (.bin .pow (.int 10) (.int 18)))) [(.seti 0 (.int 2) (.var 3))] [])] []), (.ife (.val (.cmp .gt (.idx (.var 0) (.int 2)) (.int 0))) [(.set 4 (.bin .mod (.bi .int [(.idx (.var 0) (.int 2))]) (.var 1))), (.frz 4), (.seti 0 (.int 2) (.bin .fdiv (.idx (.var 0) (.int 2)) (.var 1))), (.ret (.var 4))] []), (.seti 0 (.int 4) (.bin .add (.idx (.var 0) (.int 4)) (.int 1))), (.set 2 (.bin .mod (.bi .int [(.bin .mul (.bi .int [(.bin .add (.idx (.var 0) (.int 3)) (.bin .mul (.int 7919) (.idx (.var 0) (.int 4))))]) (.int 48271))]) (.int 2147483647))), (.frz 2), (.set 2 (.bin .mod (.bi .int [(.bin .mul (.var 2) (.bin .add (.bin .fdiv (.var 2) (.int 1009)) (.int 69621)))]) (.int 2147483647))), (.frz 2), (.set 2 (.bin .mod (.bi .int [(.bin .mul (.var 2) (.bin .add (.bin .fdiv (.var 2) (.int 2003)) (.int 40692)))]) (.int 2147483399))), (.frz 2), (.ret (.bin .mod (.bi .int [(.bin .fdiv (.var 2) (.int 16))]) (.var 1)))]
abbrev t__law_draw (fs mk : Nat → MP.Spec) (mt : Nat → Nat → MP.Spec) (eqB : Str → List (Str × MP.D) → MP.D → Option Bool) : MP.Tab := tl.tab fs mk mt (MP.avOf [] [] [] [] [] eqB)
theorem c__law_draw {fs mk : Nat → MP.Spec} {mt : Nat → Nat → MP.Spec} {eqB : Str → List (Str × MP.D) → MP.D → Option Bool} : MP.mSs (t__law_draw fs mk mt eqB) (MP.scOf n__law_draw (defScope s__law_draw)) a__law_draw (defBody s__law_draw) = true := by kernel_rfl
def n__law_some : List Str := ["hand", "things"]
def a__law_some : List MP.St := [(.ret (.idx (.var 1) (.call 5 [(.var 0), (.bi .len [(.var 1)])])))]
abbrev t__law_some (fs mk : Nat → MP.Spec) (mt : Nat → Nat → MP.Spec) (eqB : Str → List (Str × MP.D) → MP.D → Option Bool) : MP.Tab := tl.tab fs mk mt (MP.avOf [5] [] [] [] [] eqB)
theorem c__law_some {fs mk : Nat → MP.Spec} {mt : Nat → Nat → MP.Spec} {eqB : Str → List (Str × MP.D) → MP.D → Option Bool} : MP.mSs (t__law_some fs mk mt eqB) (MP.scOf n__law_some (defScope s__law_some)) a__law_some (defBody s__law_some) = true := by kernel_rfl
def n__law_is : List Str := ["got", "due", "one", "other"]
def a__law_is : List MP.St := [(.ife (.val (.isis (.var 1) [(.bi "tuple"), (.bi "list")])) [(.ife (.or [(.val (.cmp .ne (.isi (.var 0) (.bi "tuple")) (.isi (.var 1) (.bi "tuple")))), (.val (.cmp .ne (.isi (.var 0) (.bi "list")) (.isi (.var 1) (.bi "list"))))]) [(.ret (.bl false))] []), (.ret (.and [(.cmp .eq (.bi .len [(.var 0)]) (.bi .len [(.var 1)])), (.bi .all [(.lc [2, 3] (.tp [2, 3]) (.zip [(.var 0), (.var 1)]) none (.call 7 [(.var 2), (.var 3)]))])]))] []), (.ife (.or [(.val (.cmp .isn (.var 1) .non)), (.val (.cmp .isn (.var 0) .non))]) [(.ret (.and [(.cmp .isn (.var 1) .non), (.cmp .isn (.var 0) .non)]))] []), (.ife (.or [(.val (.cmp .ne (.isi (.var 0) (.bi "bool")) (.isi (.var 1) (.bi "bool")))), (.val (.cmp .ne (.isi (.var 0) (.bi "int")) (.isi (.var 1) (.bi "int"))))]) [(.ret (.bl false))] []), (.ret (.and [(.cmp .eq (.isi (.var 0) (.bi "str")) (.isi (.var 1) (.bi "str"))), (.cmp .eq (.var 0) (.var 1))]))]
abbrev t__law_is (fs mk : Nat → MP.Spec) (mt : Nat → Nat → MP.Spec) (eqB : Str → List (Str × MP.D) → MP.D → Option Bool) : MP.Tab := tl.tab fs mk mt (MP.avOf [7] [] [] [] [] eqB)
theorem c__law_is {fs mk : Nat → MP.Spec} {mt : Nat → Nat → MP.Spec} {eqB : Str → List (Str × MP.D) → MP.D → Option Bool} : MP.mSs (t__law_is fs mk mt eqB) (MP.scOf n__law_is (defScope s__law_is)) a__law_is (defBody s__law_is) = true := by kernel_rfl
def n__law_deep : List Str := ["hand", "thing", "turn"]
def a__law_deep : List MP.St := [(.forr (.nm 2) (.rng [(.bin .add (.int 1) (.call 5 [(.var 0), (.int 30)]))]) [(.set 1 (.idx (.lst [(.lst [(.var 1)]), (.tup [(.var 1)]), (.dic [("a", (.var 1))]), (.lst [(.var 1), (.int 0)])]) (.call 5 [(.var 0), (.int 4)]))), (.frz 1)]), (.ret (.var 1))]
abbrev t__law_deep (fs mk : Nat → MP.Spec) (mt : Nat → Nat → MP.Spec) (eqB : Str → List (Str × MP.D) → MP.D → Option Bool) : MP.Tab := tl.tab fs mk mt (MP.avOf [5] [] [] [] [] eqB)
theorem c__law_deep {fs mk : Nat → MP.Spec} {mt : Nat → Nat → MP.Spec} {eqB : Str → List (Str × MP.D) → MP.D → Option Bool} : MP.mSs (t__law_deep fs mk mt eqB) (MP.scOf n__law_deep (defScope s__law_deep)) a__law_deep (defBody s__law_deep) = true := by kernel_rfl
def n__law_part : List Str := ["hand", "most", "menu"]
def a__law_part : List MP.St := [(.set 2 (.lst [(.int 0), (.bin .add (.var 1) (.int 1)), (.neg (.int 1)), (.bin .pow (.int 10) (.int 11)), (.bl true), (.bl false), .non, (.str "3"), (.str ""), (.tup [(.int 3)]), (.lst [(.int 3)]), (.dic []), (.mk 2 [(.int 1), (.int 1)]), (.call 8 [(.var 0), (.int 2)])])), (.frz 2), (.ife (.val (.cmp .eq (.call 5 [(.var 0), (.int 3)]) (.int 0))) [(.ret (.call 6 [(.var 0), (.var 2)]))] []), (.ret (.idx (.lst [(.int 1), (.var 1), (.bin .add (.int 1) (.call 5 [(.var 0), (.var 1)]))]) (.call 5 [(.var 0), (.int 3)])))]
abbrev t__law_part (fs mk : Nat → MP.Spec) (mt : Nat → Nat → MP.Spec) (eqB : Str → List (Str × MP.D) → MP.D → Option Bool) : MP.Tab := tl.tab fs mk mt (MP.avOf [5, 6, 8] [2] [] [] [] eqB)
theorem c__law_part {fs mk : Nat → MP.Spec} {mt : Nat → Nat → MP.Spec} {eqB : Str → List (Str × MP.D) → MP.D → Option Bool} : MP.mSs (t__law_part fs mk mt eqB) (MP.scOf n__law_part (defScope s__law_part)) a__law_part (defBody s__law_part) = true := by kernel_rfl
def n__law_is_right : List Str := ["thing", "most"]
def a__law_is_right : List MP.St := [(.ret (.and [(.isi (.var 0) (.bi "int")), (.not (.isi (.var 0) (.bi "bool"))), (.chain .le .le (.int 1) (.var 0) (.var 1))]))]
abbrev t__law_is_right (fs mk : Nat → MP.Spec) (mt : Nat → Nat → MP.Spec) (eqB : Str → List (Str × MP.D) → MP.D → Option Bool) : MP.Tab := tl.tab fs mk mt (MP.avOf [] [] [] [] [] eqB)
theorem c__law_is_right {fs mk : Nat → MP.Spec} {mt : Nat → Nat → MP.Spec} {eqB : Str → List (Str × MP.D) → MP.D → Option Bool} : MP.mSs (t__law_is_right fs mk mt eqB) (MP.scOf n__law_is_right (defScope s__law_is_right)) a__law_is_right (defBody s__law_is_right) = true := by kernel_rfl
def n__law_due : List Str := ["days", "periods"]
def a__law_due : List MP.St := [(.ife (.not (.val (.call 10 [(.var 0), (.int 7)]))) [(.ret (.tup [(.str "week"), (.str "days")]))] []), (.ife (.not (.val (.call 10 [(.var 1), (.int 12)]))) [(.ret (.tup [(.str "week"), (.str "periods")]))] []), (.ret (.tup [(.str "told"), (.tup [(.var 0), (.var 1)])]))]
abbrev t__law_due (fs mk : Nat → MP.Spec) (mt : Nat → Nat → MP.Spec) (eqB : Str → List (Str × MP.D) → MP.D → Option Bool) : MP.Tab := tl.tab fs mk mt (MP.avOf [10] [] [] [] [] eqB)
theorem c__law_due {fs mk : Nat → MP.Spec} {mt : Nat → Nat → MP.Spec} {eqB : Str → List (Str × MP.D) → MP.D → Option Bool} : MP.mSs (t__law_due fs mk mt eqB) (MP.scOf n__law_due (defScope s__law_due)) a__law_due (defBody s__law_due) = true := by kernel_rfl
def n__law_told : List Str := ["days", "periods", "found", "error", "week"]
def a__law_told : List MP.St := [(.set 2 .non), (.tryy [(.set 4 (.mk 2 [(.var 0), (.var 1)])), (.frz 4), (.set 2 (.tup [(.str "told"), (.tup [(.fld (.var 4) "days"), (.fld (.var 4) "periods")])]))] [⟨1, some 3, (.set 2 (.tup [(.str "week"), (.xf "part")]))⟩, ⟨0, none, (.set 2 (.tup [(.str "other"), .non]))⟩]), (.ret (.var 2))]
abbrev t__law_told (fs mk : Nat → MP.Spec) (mt : Nat → Nat → MP.Spec) (eqB : Str → List (Str × MP.D) → MP.D → Option Bool) : MP.Tab := tl.tab fs mk mt (MP.avOf [] [2] [] [] [] eqB)
theorem c__law_told {fs mk : Nat → MP.Spec} {mt : Nat → Nat → MP.Spec} {eqB : Str → List (Str × MP.D) → MP.D → Option Bool} : MP.mSs (t__law_told fs mk mt eqB) (MP.scOf n__law_told (defScope s__law_told)) a__law_told (defBody s__law_told) = true := by kernel_rfl
def n__law_flag : List Str := ["thing", "due"]
def a__law_flag : List MP.St := [(.ret (.and [(.isi (.var 0) (.bi "bool")), (.cmp .eq (.var 0) (.var 1))]))]
abbrev t__law_flag (fs mk : Nat → MP.Spec) (mt : Nat → Nat → MP.Spec) (eqB : Str → List (Str × MP.D) → MP.D → Option Bool) : MP.Tab := tl.tab fs mk mt (MP.avOf [] [] [] [] [] eqB)
theorem c__law_flag {fs mk : Nat → MP.Spec} {mt : Nat → Nat → MP.Spec} {eqB : Str → List (Str × MP.D) → MP.D → Option Bool} : MP.mSs (t__law_flag fs mk mt eqB) (MP.scOf n__law_flag (defScope s__law_flag)) a__law_flag (defBody s__law_flag) = true := by kernel_rfl
def n__law_are_alike : List Str := ["one", "other", "due"]
def a__law_are_alike : List MP.St := [(.ret (.and [(.call 13 [(.cmp .eq (.var 0) (.var 1)), (.var 2)]), (.call 13 [(.cmp .eq (.var 1) (.var 0)), (.var 2)]), (.call 13 [(.cmp .ne (.var 0) (.var 1)), (.not (.var 2))])]))]
abbrev t__law_are_alike (fs mk : Nat → MP.Spec) (mt : Nat → Nat → MP.Spec) (eqB : Str → List (Str × MP.D) → MP.D → Option Bool) : MP.Tab := tl.tab fs mk mt (MP.avOf [13] [] [] [] ["Week"] eqB)
theorem c__law_are_alike {fs mk : Nat → MP.Spec} {mt : Nat → Nat → MP.Spec} {eqB : Str → List (Str × MP.D) → MP.D → Option Bool} : MP.mSs (t__law_are_alike fs mk mt eqB) (MP.scOf n__law_are_alike (defScope s__law_are_alike)) a__law_are_alike (defBody s__law_are_alike) = true := by kernel_rfl
def n_law : List Str := ["script", "hand", "turn", "week", "again", "other_days", "thing", "due", "days", "periods", "other_periods", "is_one"]
def a_law : List MP.St := [(.set 1 (.call 4 [(.var 0)])), (.forr (.nm 2) (.rng [(.int 8)]) [(.par 8 9 (.call 9 [(.var 1), (.int 7)]) (.call 9 [(.var 1), (.int 12)])), (.set 7 (.call 11 [(.var 8), (.var 9)])), (.frz 7), (.forr (.nm 4) (.rng [(.int 2)]) [(.ife (.not (.val (.call 7 [(.call 12 [(.var 8), (.var 9)]), (.var 7)]))) [(.ret (.bl false))] [])])]), (.par 8 9 (.bin .add (.int 1) (.call 5 [(.var 1), (.int 7)])) (.bin .add (.int 1) (.call 5 [(.var 1), (.int 12)]))), (.set 3 (.mk 2 [(.var 8), (.var 9)])), (.frz 3), (.forr (.nm 4) (.rng [(.int 2)]) [(.ife (.not (.val (.call 7 [(.call 3 [(.var 3)]), (.trng [(.bin .mul (.var 8) (.var 9))])]))) [(.ret (.bl false))] [])]), (.forr (.nm 5) (.seq (.lst [(.int 1), (.int 7), (.var 8), (.bin .add (.int 1) (.call 5 [(.var 1), (.int 7)]))])) [(.forr (.nm 10) (.seq (.lst [(.int 1), (.int 12), (.var 9), (.bin .add (.int 1) (.call 5 [(.var 1), (.int 12)]))])) [(.set 11 (.and [(.cmp .eq (.var 5) (.var 8)), (.cmp .eq (.var 10) (.var 9))])), (.ife (.not (.val (.call 14 [(.var 3), (.mk 2 [(.var 5), (.var 10)]), (.var 11)]))) [(.ret (.bl false))] [])])]), (.forr (.nm 6) (.seq (.lst [.non, (.var 8), (.tup [(.var 8), (.var 9)]), (.lst [(.var 8), (.var 9)]), (.str "week"), (.call 3 [(.var 3)]), (.dic []), (.bl true)])) [(.ife (.not (.val (.call 14 [(.var 3), (.var 6), (.bl false)]))) [(.ret (.bl false))] [])]), (.ret (.and [(.call 7 [(.call 3 [(.mk 2 [(.int 2), (.int 3)])]), (.tup [(.int 0), (.int 1), (.int 2), (.int 3), (.int 4), (.int 5)])]), (.call 7 [(.tup [(.fld (.var 3) "days"), (.fld (.var 3) "periods")]), (.tup [(.var 8), (.var 9)])])]))]
abbrev t_law (fs mk : Nat → MP.Spec) (mt : Nat → Nat → MP.Spec) (eqB : Str → List (Str × MP.D) → MP.D → Option Bool) : MP.Tab := tl.tab fs mk mt (MP.avOf [3, 4, 5, 7, 9, 11, 12, 14] [2] [] [] [] eqB)
theorem c_law {fs mk : Nat → MP.Spec} {mt : Nat → Nat → MP.Spec} {eqB : Str → List (Str × MP.D) → MP.D → Option Bool} : MP.mSs (t_law fs mk mt eqB) (MP.scOf n_law (defScope s_law)) a_law (defBody s_law) = true := by kernel_rfl
end Hd
end
section
set_option Elab.async false
set_option linter.all false
set_option maxRecDepth 100000
set_option maxHeartbeats 2000000
namespace Hd
open PySem MP
/-- a thing of a kind that is known here -/
def tOk : D → Prop
  | .non | .bl _ | .int _ | .str _ | .tup _ | .lst _ | .dic _ => True
  | .obj C _ => C = "Week"
  | _ => False
def isIntD : D → Bool
  | .int _ => true
  | _ => false
def isBt (l m : Int) : D → Bool
  | .int i => decide (l ≤ i) && decide (i ≤ m)
  | _ => false
abbrev wkF (a b : D) : List (Str × D) := [("days", a), ("periods", b)]
abbrev wk (a b : D) : D := .obj "Week" (wkF a b)
theorem lk_d {a b : D} : (wkF a b).lookup ("days" : Str) = some a := by
  have e : (("days" : Str) == "days") = true := by decide +kernel
  simp [wkF, List.lookup_cons, e]
theorem lk_p {a b : D} : (wkF a b).lookup ("periods" : Str) = some b := by
  have e : (("periods" : Str) == "days") = false := by decide +kernel
  have e2 : (("periods" : Str) == "periods") = true := by decide +kernel
  simp [wkF, List.lookup_cons, e, e2]
theorem putD_w {a b : D} : putD "periods" b [("days", a)] = wkF a b := by
  have e : ¬ (("days" : Str) = "periods") := by decide +kernel
  simp [putD, wkF, e]
/-- Week's own == -/
def weekEq (fs : List (Str × D)) (y : D) : Option Bool := match fs.lookup ("days" : Str), fs.lookup ("periods" : Str) with
  | some (.int a), some (.int b) => (match y with
    | .obj C gs => if C = "Week" then (match gs.lookup ("days" : Str), gs.lookup ("periods" : Str) with
      | some (.int c), some (.int d) => some (decide (a = c) && decide (b = d))
      | _, _ => none) else none
    | .non | .bl _ | .int _ | .str _ | .tup _ | .lst _ | .dic _ => some false
    | _ => none)
  | _, _ => none
def eqB (C : Str) (fs : List (Str × D)) (y : D) : Option Bool := if C = "Week" then weekEq fs y else none
def badW (p : String) : Exn := ("BadWeek", [("part", .str p)])
@[reducible] def sIsInteger : MP.Spec := fun ss _ Q => ∃ d, ss = [SV.fz d] ∧ tOk d ∧ Q (EV.fz (.bl (isIntD d)))
@[reducible] def sBetween : MP.Spec := fun ss _ Q => ∃ d l m, ss = [SV.fz d, .fz (.int l), .fz (.int m)] ∧ tOk d ∧ Q (EV.fz (.bl (isBt l m d)))
@[reducible] def sSlots : MP.Spec := fun ss _ Q => ∃ d p : Int, ss = [SV.fz (wk (.int d) (.int p))] ∧ 0 ≤ d ∧ d ≤ 100 ∧ 0 ≤ p ∧ p ≤ 100 ∧ Q (.fz (.tup (rangeD 0 (d * p).toNat)))
@[reducible] def sSome : MP.Spec := fun ss _ Q => ∃ ds : List D, ss = [.hnd, .fz (.lst ds)] ∧ ds ≠ [] ∧ ds.length < 2 ^ 62 ∧ ∀ d ∈ ds, Q (.fz d)
@[reducible] def sDeep : MP.Spec := fun ss _ Q => ∃ d, ss = [.hnd, .fz d] ∧ tOk d ∧ ∀ d', tOk d' → Q (.fz d')
@[reducible] def sPart : MP.Spec := fun ss _ Q => ∃ m : Int, ss = [.hnd, .fz (.int m)] ∧ 0 < m ∧ m < 2 ^ 62 ∧ ∀ d', tOk d' → Q (.fz d')
@[reducible] def sIsRight : MP.Spec := fun ss _ Q => ∃ d m, ss = [SV.fz d, .fz (.int m)] ∧ tOk d ∧ Q (EV.fz (.bl (isBt 1 m d)))
def dueD (a b : D) : D := if isBt 1 7 a = true then (if isBt 1 12 b = true then .tup [.str "told", .tup [a, b]] else .tup [.str "week", .str "periods"]) else .tup [.str "week", .str "days"]
@[reducible] def sDue : MP.Spec := fun ss _ Q => ∃ a b, ss = [SV.fz a, .fz b] ∧ tOk a ∧ tOk b ∧ Q (.fz (dueD a b))
@[reducible] def sFlag : MP.Spec := fun ss _ Q => ∃ b, ss = [SV.fz (.bl b), .fz (.bl b)] ∧ Q (.fz (.bl true))
@[reducible] def sAlike : MP.Spec := fun ss _ Q => ∃ a b y d, ss = [SV.fz (wk (.int a) (.int b)), .fz y, .fz (.bl d)] ∧ tOk y ∧ weekEq (wkF (.int a) (.int b)) y = some d ∧ (∀ gs, y = .obj "Week" gs → weekEq gs (wk (.int a) (.int b)) = some d) ∧ Q (.fz (.bl true))
@[reducible] def sWeek : MP.Spec := fun ss E Q => ∃ a b, ss = [SV.fz a, .fz b] ∧ tOk a ∧ tOk b ∧ if isBt 1 7 a = true then (if isBt 1 12 b = true then Q (.fz (wk a b)) else E (badW "periods")) else E (badW "days")
def FS (n : Nat) : Nat → MP.Spec
  | 1 => sIsInteger | 2 => sBetween | 3 => sSlots | 4 => sHand | 5 => drawS | 6 => sSome | 7 => sIs n | 8 => sDeep | 9 => sPart | 10 => sIsRight | 11 => sDue | 12 => sDue | 13 => sFlag | 14 => sAlike
  | _ => noSpec
def MK : Nat → MP.Spec
  | 2 => sWeek
  | _ => noSpec
def MT : Nat → Nat → MP.Spec := fun _ _ => noSpec
theorem fs1 {n : Nat} : FS n 1 = sIsInteger := rfl
theorem fs2 {n : Nat} : FS n 2 = sBetween := rfl
theorem fs3 {n : Nat} : FS n 3 = sSlots := rfl
theorem fs4 {n : Nat} : FS n 4 = sHand := rfl
theorem fs5 {n : Nat} : FS n 5 = drawS := rfl
theorem fs6 {n : Nat} : FS n 6 = sSome := rfl
theorem fs7 {n : Nat} : FS n 7 = sIs n := rfl
theorem fs8 {n : Nat} : FS n 8 = sDeep := rfl
theorem fs9 {n : Nat} : FS n 9 = sPart := rfl
theorem fs10 {n : Nat} : FS n 10 = sIsRight := rfl
theorem fs11 {n : Nat} : FS n 11 = sDue := rfl
theorem fs12 {n : Nat} : FS n 12 = sDue := rfl
theorem fs13 {n : Nat} : FS n 13 = sFlag := rfl
theorem fs14 {n : Nat} : FS n 14 = sAlike := rfl
theorem mk2 : MK 2 = sWeek := rfl
section
variable {n : Nat} {ss : List SV} {E : Exn → Prop} {Q : EV → Prop}
abbrev W (Q : EV → Prop) (E : Exn → Prop) : Wd := { nx := fun _ => Q (.fz .non), rt := fun _ => Q, ex := fun _ => E }
theorem l_is_integer (h : sIsInteger ss E Q) : wSs (t_is_integer (FS n) MK MT eqB) a_is_integer (rho0 n_is_integer ss) (W Q E) := by
  obtain ⟨d, rfl, hd, h⟩ := h
  unfold a_is_integer n_is_integer W
  simp only [wSs, wS, wE, wT, wTAnd, wTAnd1, wTOr, wTOr1, wAnd, wAnd1, wOr, wOr1, wPut, wKvs, wArg, wLook, wO, wIf, wI, boolW, intW, EV.d, EV.out, EV.keep, EV.put, EV.arg, binW, addW, itemW, fldW, rngW, wholeW, seqW, tgW, setAll, biW, lenW, optW, sliW, Xs.w, wX, wXs, rho0, List.map_cons, List.map_nil, List.length_cons, List.length_nil, List.replicate, List.cons_append, List.nil_append, List.getElem?_cons_zero, List.getElem?_cons_succ, List.set_cons_zero, List.set_cons_succ, Nat.reduceAdd, Nat.reduceSub, Nat.zero_add, neh_fz, neh_ow, neh_pk, true_and, and_true, tab_fn, tab_mkk, tab_mth, Nat.sub_self, Nat.add_one_sub_one, ne_eq, not_false_eq_true, reduceCtorEq]
  cases d with
  | obj C fs => cases hd; exact ⟨_, rfl, rfl, h⟩
  | int i => exact ⟨_, rfl, rfl, _, rfl, rfl, h⟩
  | bl i => exact ⟨_, rfl, rfl, _, rfl, rfl, h⟩
  | ty n => exact hd.elim
  | ref n => exact hd.elim
  | scr n _ => exact hd.elim
  | _ => exact ⟨_, rfl, rfl, h⟩
theorem l_is_between (h : sBetween ss E Q) : wSs (t_is_between (FS n) MK MT eqB) a_is_between (rho0 n_is_between ss) (W Q E) := by
  obtain ⟨d, l, m, rfl, hd, h⟩ := h
  unfold a_is_between n_is_between W
  ((simp only [wSs, wS, wE, wT, wTAnd, wTAnd1, wTOr, wTOr1, wAnd, wAnd1, wOr, wOr1, wPut, wKvs, wArg, wLook, wO, wIf, wI, boolW, intW, EV.d, EV.out, EV.keep, EV.put, EV.arg, binW, addW, itemW, fldW, rngW, wholeW, seqW, tgW, setAll, biW, lenW, optW, sliW, Xs.w, wX, wXs, rho0, List.map_cons, List.map_nil, List.length_cons, List.length_nil, List.replicate, List.cons_append, List.nil_append, List.getElem?_cons_zero, List.getElem?_cons_succ, List.set_cons_zero, List.set_cons_succ, Nat.reduceAdd, Nat.reduceSub, Nat.zero_add, neh_fz, neh_ow, neh_pk, true_and, and_true, tab_fn, tab_mkk, tab_mth, Nat.sub_self, Nat.add_one_sub_one, ne_eq, not_false_eq_true, reduceCtorEq]); try simp only [fs1, fs2, fs3, fs4, fs5, fs6, fs7, fs8, fs9, fs10, fs11, fs12, fs13, fs14, mk2])
  refine ⟨d, rfl, hd, ?_⟩
  cases d with
  | int i =>
    simp only [isIntD, if_true]
    unfold isBt at h
    by_cases z : l ≤ i
    · simp only [z, decide_true, Bool.true_and] at h
      simp only [cmpW, intW, boolW, z, decide_true, if_true, neh_fz, true_and]
      exact h
    · simp only [z, decide_false, Bool.false_and] at h
      simp only [cmpW, intW, boolW, z, decide_false, Bool.false_eq_true, if_false]
      exact h
  | _ => exact h
theorem l_Week___init__ (a dx : Addr) (h : sWeek ss E Q) : wSs (t_Week___init__ (FS n) MK MT eqB) a_Week___init__ (rho0 n_Week___init__ (.me a dx "Week" [] :: ss)) { nx := fun ρ => ∃ ds, ρ[0]? = some (some (.me a dx "Week" ds)) ∧ Q (.fz (.obj "Week" ds)), rt := fun _ _ => False, ex := fun _ => E } := by
  obtain ⟨x, y, rfl, hx, hy, h⟩ := h
  unfold a_Week___init__ n_Week___init__
  ((simp only [wSs, wS, wE, wT, wTAnd, wTAnd1, wTOr, wTOr1, wAnd, wAnd1, wOr, wOr1, wPut, wKvs, wArg, wLook, wO, wIf, wI, boolW, intW, EV.d, EV.out, EV.keep, EV.put, EV.arg, binW, addW, itemW, fldW, rngW, wholeW, seqW, tgW, setAll, biW, lenW, optW, sliW, Xs.w, wX, wXs, rho0, List.map_cons, List.map_nil, List.length_cons, List.length_nil, List.replicate, List.cons_append, List.nil_append, List.getElem?_cons_zero, List.getElem?_cons_succ, List.set_cons_zero, List.set_cons_succ, Nat.reduceAdd, Nat.reduceSub, Nat.zero_add, neh_fz, neh_ow, neh_pk, true_and, and_true, tab_fn, tab_mkk, tab_mth, Nat.sub_self, Nat.add_one_sub_one, ne_eq, not_false_eq_true, reduceCtorEq]); try simp only [fs1, fs2, fs3, fs4, fs5, fs6, fs7, fs8, fs9, fs10, fs11, fs12, fs13, fs14, mk2])
  refine ⟨x, 1, 7, rfl, hx, ?_⟩
  cases e1 : isBt 1 7 x with
  | false =>
    rw [e1] at h
    exact ⟨_, rfl, h⟩
  | true =>
    rw [e1] at h
    simp only [if_true, Bool.not_true, Bool.false_eq_true, if_false] at h ⊢
    refine ⟨y, 1, 12, rfl, hy, ?_⟩
    cases e2 : isBt 1 12 y with
    | false =>
      rw [e2] at h
      exact ⟨_, rfl, h⟩
    | true =>
      rw [e2] at h
      simp only [if_true, Bool.not_true, Bool.false_eq_true, if_false] at h ⊢
      refine ⟨rfl, by decide, rfl, (by show 1 < 1000; decide), _, rfl, ?_⟩
      have e : putD "periods" y (putD "days" x []) = wkF x y := putD_w
      rw [e]
      exact h
theorem l_Week___eq__ (fs' : List (Str × D)) (y : D) (b : Bool) (he : eqB "Week" fs' y = some b) (E : Exn → Prop) (Q : EV → Prop) (h : Q (.fz (.bl b))) : wSs (t_Week___eq__ (FS n) MK MT eqB) a_Week___eq__ (rho0 n_Week___eq__ [.fz (.obj "Week" fs'), .fz y]) (W Q E) := by
  unfold a_Week___eq__ n_Week___eq__ W
  ((simp only [wSs, wS, wE, wT, wTAnd, wTAnd1, wTOr, wTOr1, wAnd, wAnd1, wOr, wOr1, wPut, wKvs, wArg, wLook, wO, wIf, wI, boolW, intW, EV.d, EV.out, EV.keep, EV.put, EV.arg, binW, addW, itemW, fldW, rngW, wholeW, seqW, tgW, setAll, biW, lenW, optW, sliW, Xs.w, wX, wXs, rho0, List.map_cons, List.map_nil, List.length_cons, List.length_nil, List.replicate, List.cons_append, List.nil_append, List.getElem?_cons_zero, List.getElem?_cons_succ, List.set_cons_zero, List.set_cons_succ, Nat.reduceAdd, Nat.reduceSub, Nat.zero_add, neh_fz, neh_ow, neh_pk, true_and, and_true, tab_fn, tab_mkk, tab_mth, Nat.sub_self, Nat.add_one_sub_one, ne_eq, not_false_eq_true, reduceCtorEq]); try simp only [fs1, fs2, fs3, fs4, fs5, fs6, fs7, fs8, fs9, fs10, fs11, fs12, fs13, fs14, mk2])
  unfold eqB at he
  rw [if_pos rfl] at he
  unfold weekEq at he
  split at he
  · rename_i a b' h1 h2
    cases y with
    | obj C gs =>
      simp only at he
      split at he
      · rename_i hC
        subst hC
        split at he
        · rename_i c d h3 h4
          cases he
          refine ⟨_, rfl, rfl, ?_⟩
          have e : isB (t_Week___eq__ (FS n) MK MT eqB) (.own "Week") (.own 2) = true := by
            show tl.sub.contains (("Week" : Str), tl.cls.getD 2 default) = true
            decide +kernel
          rw [e]
          simp only [if_true]
          refine ⟨rfl, _, h1, rfl, _, h3, ?_⟩
          simp only [cmpW, eqT_int, neh_fz, true_and]
          refine ⟨_, rfl, ?_⟩
          by_cases z : a = c
          · simp only [z, decide_true, if_true, Bool.true_and] at h ⊢
            refine ⟨rfl, _, h2, rfl, _, h4, ?_⟩
            exact ⟨_, rfl, h⟩
          · simp only [z, decide_false, Bool.false_eq_true, if_false, Bool.false_and] at h ⊢
            exact h
        · cases he
      · cases he
    | ty n => cases he
    | ref n => cases he
    | scr n _ => cases he
    | _ => cases he; exact ⟨_, rfl, rfl, h⟩
  · cases he
theorem l_slots (h : sSlots ss E Q) : wSs (t_slots (FS n) MK MT eqB) a_slots (rho0 n_slots ss) (W Q E) := by
  obtain ⟨d, p, rfl, d0, d1, p0, p1, h⟩ := h
  unfold a_slots n_slots W
  ((simp only [wSs, wS, wE, wT, wTAnd, wTAnd1, wTOr, wTOr1, wAnd, wAnd1, wOr, wOr1, wPut, wKvs, wArg, wLook, wO, wIf, wI, boolW, intW, EV.d, EV.out, EV.keep, EV.put, EV.arg, binW, addW, itemW, fldW, rngW, wholeW, seqW, tgW, setAll, biW, lenW, optW, sliW, Xs.w, wX, wXs, rho0, List.map_cons, List.map_nil, List.length_cons, List.length_nil, List.replicate, List.cons_append, List.nil_append, List.getElem?_cons_zero, List.getElem?_cons_succ, List.set_cons_zero, List.set_cons_succ, Nat.reduceAdd, Nat.reduceSub, Nat.zero_add, neh_fz, neh_ow, neh_pk, true_and, and_true, tab_fn, tab_mkk, tab_mth, Nat.sub_self, Nat.add_one_sub_one, ne_eq, not_false_eq_true, reduceCtorEq]); try simp only [fs1, fs2, fs3, fs4, fs5, fs6, fs7, fs8, fs9, fs10, fs11, fs12, fs13, fs14, mk2])
  refine ⟨rfl, _, lk_d, rfl, _, lk_p, ?_⟩
  have hb : d * p ≤ 100 * 100 := Int.mul_le_mul d1 p1 p0 (by decide)
  have hb0 : 0 ≤ d * p := Int.mul_nonneg d0 p0
  refine ⟨.inl ⟨by omega, by omega⟩, L2.RgOk.of_le (by omega) (by omega) (by omega) hb0, h⟩
theorem l__law_some (h : sSome ss E Q) : wSs (t__law_some (FS n) MK MT eqB) a__law_some (rho0 n__law_some ss) (W Q E) := by
  obtain ⟨ds, rfl, h0, h1, h⟩ := h
  unfold a__law_some n__law_some W
  ((simp only [wSs, wS, wE, wT, wTAnd, wTAnd1, wTOr, wTOr1, wAnd, wAnd1, wOr, wOr1, wPut, wKvs, wArg, wLook, wO, wIf, wI, boolW, intW, EV.d, EV.out, EV.keep, EV.put, EV.arg, binW, addW, itemW, fldW, rngW, wholeW, seqW, tgW, setAll, biW, lenW, optW, sliW, Xs.w, wX, wXs, rho0, List.map_cons, List.map_nil, List.length_cons, List.length_nil, List.replicate, List.cons_append, List.nil_append, List.getElem?_cons_zero, List.getElem?_cons_succ, List.set_cons_zero, List.set_cons_succ, Nat.reduceAdd, Nat.reduceSub, Nat.zero_add, neh_fz, neh_ow, neh_pk, true_and, and_true, tab_fn, tab_mkk, tab_mth, Nat.sub_self, Nat.add_one_sub_one, ne_eq, not_false_eq_true, reduceCtorEq]); try simp only [fs1, fs2, fs3, fs4, fs5, fs6, fs7, fs8, fs9, fs10, fs11, fs12, fs13, fs14, mk2])
  refine ⟨_, rfl, ?_, ?_, fun i i0 i1 => ?_⟩
  · cases ds with
    | nil => exact absurd rfl h0
    | cons x xs => simp
  · omega
  · have hj : L2.ixN ds.length i = some i.toNat := by
      unfold L2.ixN
      simp [i0, i1]
    have hl : i.toNat < ds.length := by omega
    refine ⟨fz_hnd, ds[i.toNat], ?_, ?_⟩
    · unfold L2.atI; rw [hj]; exact List.getElem?_eq_getElem hl
    · exact h _ (List.getElem_mem hl)
theorem l__law_is_right (h : sIsRight ss E Q) : wSs (t__law_is_right (FS n) MK MT eqB) a__law_is_right (rho0 n__law_is_right ss) (W Q E) := by
  obtain ⟨d, m, rfl, hd, h⟩ := h
  unfold a__law_is_right n__law_is_right W
  ((simp only [wSs, wS, wE, wT, wTAnd, wTAnd1, wTOr, wTOr1, wAnd, wAnd1, wOr, wOr1, wPut, wKvs, wArg, wLook, wO, wIf, wI, boolW, intW, EV.d, EV.out, EV.keep, EV.put, EV.arg, binW, addW, itemW, fldW, rngW, wholeW, seqW, tgW, setAll, biW, lenW, optW, sliW, Xs.w, wX, wXs, rho0, List.map_cons, List.map_nil, List.length_cons, List.length_nil, List.replicate, List.cons_append, List.nil_append, List.getElem?_cons_zero, List.getElem?_cons_succ, List.set_cons_zero, List.set_cons_succ, Nat.reduceAdd, Nat.reduceSub, Nat.zero_add, neh_fz, neh_ow, neh_pk, true_and, and_true, tab_fn, tab_mkk, tab_mth, Nat.sub_self, Nat.add_one_sub_one, ne_eq, not_false_eq_true, reduceCtorEq]); try simp only [fs1, fs2, fs3, fs4, fs5, fs6, fs7, fs8, fs9, fs10, fs11, fs12, fs13, fs14, mk2])
  cases d with
  | obj C fs => cases hd; exact ⟨_, rfl, rfl, h⟩
  | int i =>
    refine ⟨_, rfl, rfl, _, rfl, rfl, ?_⟩
    unfold isBt at h
    by_cases z : 1 ≤ i
    · simp only [z, decide_true, Bool.true_and] at h
      simp only [cmpW, intW, z, decide_true, if_true, neh_fz, true_and]
      exact h
    · simp only [z, decide_false, Bool.false_and] at h
      simp only [cmpW, intW, z, decide_false, Bool.false_eq_true, if_false]
      exact h
  | bl i => exact ⟨_, rfl, rfl, _, rfl, rfl, h⟩
  | ty n => exact hd.elim
  | ref n => exact hd.elim
  | scr n _ => exact hd.elim
  | _ => exact ⟨_, rfl, rfl, h⟩
theorem l__law_due (h : sDue ss E Q) : wSs (t__law_due (FS n) MK MT eqB) a__law_due (rho0 n__law_due ss) (W Q E) := by
  obtain ⟨a, b, rfl, ha, hb, h⟩ := h
  unfold a__law_due n__law_due W
  ((simp only [wSs, wS, wE, wT, wTAnd, wTAnd1, wTOr, wTOr1, wAnd, wAnd1, wOr, wOr1, wPut, wKvs, wArg, wLook, wO, wIf, wI, boolW, intW, EV.d, EV.out, EV.keep, EV.put, EV.arg, binW, addW, itemW, fldW, rngW, wholeW, seqW, tgW, setAll, biW, lenW, optW, sliW, Xs.w, wX, wXs, rho0, List.map_cons, List.map_nil, List.length_cons, List.length_nil, List.replicate, List.cons_append, List.nil_append, List.getElem?_cons_zero, List.getElem?_cons_succ, List.set_cons_zero, List.set_cons_succ, Nat.reduceAdd, Nat.reduceSub, Nat.zero_add, neh_fz, neh_ow, neh_pk, true_and, and_true, tab_fn, tab_mkk, tab_mth, Nat.sub_self, Nat.add_one_sub_one, ne_eq, not_false_eq_true, reduceCtorEq]); try simp only [fs1, fs2, fs3, fs4, fs5, fs6, fs7, fs8, fs9, fs10, fs11, fs12, fs13, fs14, mk2])
  refine ⟨a, 7, rfl, ha, ?_⟩
  unfold dueD at h
  cases e1 : isBt 1 7 a with
  | false =>
    rw [e1] at h
    exact ⟨by decide, h⟩
  | true =>
    rw [e1] at h
    simp only [if_true, Bool.not_true, Bool.false_eq_true, if_false] at h ⊢
    refine ⟨b, 12, rfl, hb, ?_⟩
    cases e2 : isBt 1 12 b with
    | false =>
      rw [e2] at h
      exact ⟨by decide, h⟩
    | true =>
      rw [e2] at h
      simp only [if_true, Bool.not_true, Bool.false_eq_true, if_false] at h ⊢
      exact ⟨by decide, by decide, h⟩
theorem l__law_flag (h : sFlag ss E Q) : wSs (t__law_flag (FS n) MK MT eqB) a__law_flag (rho0 n__law_flag ss) (W Q E) := by
  obtain ⟨b, rfl, h⟩ := h
  unfold a__law_flag n__law_flag W
  ((simp only [wSs, wS, wE, wT, wTAnd, wTAnd1, wTOr, wTOr1, wAnd, wAnd1, wOr, wOr1, wPut, wKvs, wArg, wLook, wO, wIf, wI, boolW, intW, EV.d, EV.out, EV.keep, EV.put, EV.arg, binW, addW, itemW, fldW, rngW, wholeW, seqW, tgW, setAll, biW, lenW, optW, sliW, Xs.w, wX, wXs, rho0, List.map_cons, List.map_nil, List.length_cons, List.length_nil, List.replicate, List.cons_append, List.nil_append, List.getElem?_cons_zero, List.getElem?_cons_succ, List.set_cons_zero, List.set_cons_succ, Nat.reduceAdd, Nat.reduceSub, Nat.zero_add, neh_fz, neh_ow, neh_pk, true_and, and_true, tab_fn, tab_mkk, tab_mth, Nat.sub_self, Nat.add_one_sub_one, ne_eq, not_false_eq_true, reduceCtorEq]); try simp only [fs1, fs2, fs3, fs4, fs5, fs6, fs7, fs8, fs9, fs10, fs11, fs12, fs13, fs14, mk2])
  refine ⟨_, rfl, rfl, ?_⟩
  cases b <;> exact ⟨_, rfl, h⟩
theorem hand_told {a b : D} {p : String} (h : Q (EV.fz (D.tup [.str "week", .str p]))) : handW (t__law_told (FS n) MK MT eqB)
    [{ c := 1, slot := some 3, st := Xs.set 2 (Xe.tup [Xe.str "week", Xe.xf "part"]) }, { c := 0, slot := none, st := Xs.set 2 (Xe.tup [Xe.str "other", Xe.non]) }]
    [some (SV.fz a), some (SV.fz b), some (SV.fz D.non), none, none] (badW p)
    { nx := fun ρ' =>
        match ρ'[2]? with
        | some (some (SV.fz d)) => Q (EV.fz d)
        | some (some (SV.ow t d)) => d.cont = true ∧ Q (EV.ow d)
        | some (some SV.hnd) => False
        | x => False,
      rt := fun x => Q, ex := fun x => E } := by
  unfold handW
  refine ⟨by show tl.exm.contains (("BadWeek" : Str), 1) = true; decide +kernel, ?_⟩
  rw [if_pos (by show tl.sub.contains (("BadWeek" : Str), tl.cls.getD 1 default) = true; decide +kernel)]
  refine ⟨(by show 3 < 5; decide), rfl, ?_⟩
  have e : [(("part" : Str), D.str p)].lookup ("part" : Str) = some (D.str p) := by
    have e : (("part" : Str) == "part") = true := by decide +kernel
    simp [List.lookup_cons, e]
  exact ⟨_, e, (by decide : 2 ≤ sizeLine), h⟩
theorem l__law_told (h : sDue ss E Q) : wSs (t__law_told (FS n) MK MT eqB) a__law_told (rho0 n__law_told ss) (W Q E) := by
  obtain ⟨a, b, rfl, ha, hb, h⟩ := h
  unfold a__law_told n__law_told W
  ((simp only [wSs, wS, wE, wT, wTAnd, wTAnd1, wTOr, wTOr1, wAnd, wAnd1, wOr, wOr1, wPut, wKvs, wArg, wLook, wO, wIf, wI, boolW, intW, EV.d, EV.out, EV.keep, EV.put, EV.arg, binW, addW, itemW, fldW, rngW, wholeW, seqW, tgW, setAll, biW, lenW, optW, sliW, Xs.w, wX, wXs, rho0, List.map_cons, List.map_nil, List.length_cons, List.length_nil, List.replicate, List.cons_append, List.nil_append, List.getElem?_cons_zero, List.getElem?_cons_succ, List.set_cons_zero, List.set_cons_succ, Nat.reduceAdd, Nat.reduceSub, Nat.zero_add, neh_fz, neh_ow, neh_pk, true_and, and_true, tab_fn, tab_mkk, tab_mth, Nat.sub_self, Nat.add_one_sub_one, ne_eq, not_false_eq_true, reduceCtorEq]); try simp only [fs1, fs2, fs3, fs4, fs5, fs6, fs7, fs8, fs9, fs10, fs11, fs12, fs13, fs14, mk2])
  refine ⟨a, b, rfl, ha, hb, ?_⟩
  unfold dueD at h
  cases e1 : isBt 1 7 a with
  | false =>
    rw [e1] at h
    simp only [Bool.false_eq_true, if_false] at h ⊢
    exact hand_told h
  | true =>
    rw [e1] at h
    simp only [if_true] at h ⊢
    cases e2 : isBt 1 12 b with
    | false =>
      rw [e2] at h
      simp only [Bool.false_eq_true, if_false] at h ⊢
      exact hand_told h
    | true =>
      rw [e2] at h
      simp only [if_true] at h ⊢
      exact ⟨rfl, _, lk_d, rfl, _, lk_p, by decide, by decide, h⟩
theorem kd_of {d : D} (h : tOk d) : ∃ k, d.kd = some k ∧ (d.isObj = true → d.kd = some (.own "Week")) := by
  cases d with
  | obj C fs => cases h; exact ⟨_, rfl, fun _ => rfl⟩
  | ty n => exact h.elim
  | ref n => exact h.elim
  | scr n _ => exact h.elim
  | _ => exact ⟨_, rfl, fun z => by cases z⟩
theorem eqT_l {T : Tab} (hq : T.hasQ "Week" = true) (hk : T.qk "Week" "Week" = true) (he : T.eqB "Week" = weekEq) {fs : List (Str × D)} {y : D} (hy : tOk y) : eqT T (.obj "Week" fs) y = weekEq fs y := by
  unfold eqT ownE
  simp only [D.isObj, Bool.true_or, if_true, hq, Bool.true_and]
  have e : qkd T "Week" y = true := by
    cases y with
    | obj C gs => cases hy; exact hk
    | ty n => exact hy.elim
    | ref n => exact hy.elim
    | scr n _ => exact hy.elim
    | _ => rfl
  rw [e, he]
  rfl
theorem eqT_r {T : Tab} (hq : T.hasQ "Week" = true) (he : T.eqB "Week" = weekEq) {fs : List (Str × D)} {y : D} (hy : tOk y) (ho : y.isObj = false) : eqT T y (.obj "Week" fs) = weekEq fs y := by
  unfold eqT
  simp only [D.isObj, Bool.or_true, if_true]
  cases y with
  | obj C gs => cases ho
  | ty n => exact hy.elim
  | ref n => exact hy.elim
  | scr n _ => exact hy.elim
  | _ => simp only [ownE, hq, D.kd, Option.isSome, Bool.and_self, if_true, he]
theorem l__law_are_alike (h : sAlike ss E Q) : wSs (t__law_are_alike (FS n) MK MT eqB) a__law_are_alike (rho0 n__law_are_alike ss) (W Q E) := by
  obtain ⟨a, b, y, d, rfl, hy, h1, h2, h⟩ := h
  have hq : (t__law_are_alike (FS n) MK MT eqB).hasQ "Week" = true := by
    show ([("Week" : Str)]).contains "Week" = true
    decide +kernel
  have hk : (t__law_are_alike (FS n) MK MT eqB).qk "Week" "Week" = true := by
    show tl.qk.contains (("Week" : Str), ("Week" : Str)) = true
    decide +kernel
  have he : (t__law_are_alike (FS n) MK MT eqB).eqB "Week" = weekEq := by
    funext fs y
    show eqB "Week" fs y = _
    unfold eqB
    rw [if_pos rfl]
  have e1 : eqT (t__law_are_alike (FS n) MK MT eqB) (wk (.int a) (.int b)) y = some d := by rw [eqT_l hq hk he hy, h1]
  have e2 : eqT (t__law_are_alike (FS n) MK MT eqB) y (wk (.int a) (.int b)) = some d := by
    cases z : y.isObj with
    | false => rw [eqT_r hq he hy z, h1]
    | true =>
      cases y with
      | obj C gs => cases hy; rw [eqT_l hq hk he (show tOk (wk (.int a) (.int b)) from rfl)]; exact h2 gs rfl
      | _ => cases z
  unfold a__law_are_alike n__law_are_alike W
  ((simp only [wSs, wS, wE, wT, wTAnd, wTAnd1, wTOr, wTOr1, wAnd, wAnd1, wOr, wOr1, wPut, wKvs, wArg, wLook, wO, wIf, wI, boolW, intW, EV.d, EV.out, EV.keep, EV.put, EV.arg, binW, addW, itemW, fldW, rngW, wholeW, seqW, tgW, setAll, biW, lenW, optW, sliW, Xs.w, wX, wXs, rho0, List.map_cons, List.map_nil, List.length_cons, List.length_nil, List.replicate, List.cons_append, List.nil_append, List.getElem?_cons_zero, List.getElem?_cons_succ, List.set_cons_zero, List.set_cons_succ, Nat.reduceAdd, Nat.reduceSub, Nat.zero_add, neh_fz, neh_ow, neh_pk, true_and, and_true, tab_fn, tab_mkk, tab_mth, Nat.sub_self, Nat.add_one_sub_one, ne_eq, not_false_eq_true, reduceCtorEq]); try simp only [fs1, fs2, fs3, fs4, fs5, fs6, fs7, fs8, fs9, fs10, fs11, fs12, fs13, fs14, mk2])
  simp only [cmpW, e1, e2]
  refine ⟨d, rfl, d, rfl, ?_⟩
  simp only [if_true]
  refine ⟨d, rfl, d, rfl, ?_⟩
  simp only [if_true]
  exact ⟨d, rfl, !d, rfl, h⟩
theorem l__law_deep (h : sDeep ss E Q) : wSs (t__law_deep (FS n) MK MT eqB) a__law_deep (rho0 n__law_deep ss) (W Q E) := by
  obtain ⟨d, rfl, hd, h⟩ := h
  unfold a__law_deep n__law_deep W
  refine w_for' ?_
  simp only [wE, wT, wTAnd, wTAnd1, wTOr, wTOr1, wAnd, wAnd1, wOr, wOr1, wPut, wKvs, wArg, wLook, wO, wIf, wI, boolW, intW, EV.d, EV.out, EV.keep, EV.put, EV.arg, binW, addW, itemW, fldW, rngW, wholeW, seqW, tgW, setAll, biW, lenW, optW, sliW, Xs.w, wX, wXs, rho0, List.map_cons, List.map_nil, List.length_cons, List.length_nil, List.replicate, List.cons_append, List.nil_append, List.getElem?_cons_zero, List.getElem?_cons_succ, List.set_cons_zero, List.set_cons_succ, Nat.reduceAdd, Nat.reduceSub, Nat.zero_add, neh_fz, neh_ow, neh_pk, true_and, and_true, tab_fn, tab_mkk, tab_mth, Nat.sub_self, Nat.add_one_sub_one, ne_eq, not_false_eq_true, reduceCtorEq, if_true, Bool.false_eq_true, if_false]
  refine ⟨30, rfl, by decide, by decide, fun i i0 i1 => ⟨fz_hnd, by omega, by omega, ?_⟩⟩
  refine forW_inv (fun ρ => ∃ t s2, tOk t ∧ ρ = [some .hnd, some (.fz t), s2]) _ ?_ ?_ _ ⟨d, none, hd, rfl⟩
  · rintro e _ ρ G ⟨t, s2, ht, rfl⟩ hG
    simp only [wE, wT, wTAnd, wTAnd1, wTOr, wTOr1, wAnd, wAnd1, wOr, wOr1, wPut, wKvs, wArg, wLook, wO, wIf, wI, boolW, intW, EV.d, EV.out, EV.keep, EV.put, EV.arg, binW, addW, itemW, fldW, rngW, wholeW, seqW, tgW, setAll, biW, lenW, optW, sliW, Xs.w, wX, wXs, rho0, List.map_cons, List.map_nil, List.length_cons, List.length_nil, List.replicate, List.cons_append, List.nil_append, List.getElem?_cons_zero, List.getElem?_cons_succ, List.set_cons_zero, List.set_cons_succ, Nat.reduceAdd, Nat.reduceSub, Nat.zero_add, neh_fz, neh_ow, neh_pk, true_and, and_true, tab_fn, tab_mkk, tab_mth, Nat.sub_self, Nat.add_one_sub_one, ne_eq, not_false_eq_true, reduceCtorEq, if_true, Bool.false_eq_true, if_false]
    refine wSs_set ?_
    simp only [wE, wT, wTAnd, wTAnd1, wTOr, wTOr1, wAnd, wAnd1, wOr, wOr1, wPut, wKvs, wArg, wLook, wO, wIf, wI, boolW, intW, EV.d, EV.out, EV.keep, EV.put, EV.arg, binW, addW, itemW, fldW, rngW, wholeW, seqW, tgW, setAll, biW, lenW, optW, sliW, Xs.w, wX, wXs, rho0, List.map_cons, List.map_nil, List.length_cons, List.length_nil, List.replicate, List.cons_append, List.nil_append, List.getElem?_cons_zero, List.getElem?_cons_succ, List.set_cons_zero, List.set_cons_succ, Nat.reduceAdd, Nat.reduceSub, Nat.zero_add, neh_fz, neh_ow, neh_pk, true_and, and_true, tab_fn, tab_mkk, tab_mth, Nat.sub_self, Nat.add_one_sub_one, ne_eq, not_false_eq_true, reduceCtorEq, if_true, Bool.false_eq_true, if_false]
    refine ⟨by decide, by decide, by decide, by decide, 4, rfl, by decide, by decide, fun j j0 j1 => ⟨fz_hnd, ?_⟩⟩
    have hj : j = 0 ∨ j = 1 ∨ j = 2 ∨ j = 3 := by omega
    rcases hj with rfl | rfl | rfl | rfl
    · exact ⟨_, rfl, hG _ ⟨.lst _, _, True.intro, rfl⟩⟩
    · exact ⟨_, rfl, hG _ ⟨.tup _, _, True.intro, rfl⟩⟩
    · exact ⟨_, rfl, hG _ ⟨.dic _, _, True.intro, rfl⟩⟩
    · exact ⟨_, rfl, hG _ ⟨.lst _, _, True.intro, rfl⟩⟩
  · rintro ρ ⟨t, s2, ht, rfl⟩
    exact h t ht
theorem l__law_part (h : sPart ss E Q) : wSs (t__law_part (FS n) MK MT eqB) a__law_part (rho0 n__law_part ss) (W Q E) := by
  obtain ⟨m, rfl, m0, m1, h⟩ := h
  unfold a__law_part n__law_part W
  refine wSs_set ?_
  simp only [wE, wT, wTAnd, wTAnd1, wTOr, wTOr1, wAnd, wAnd1, wOr, wOr1, wPut, wKvs, wArg, wLook, wO, wIf, wI, boolW, intW, EV.d, EV.out, EV.keep, EV.put, EV.arg, binW, addW, itemW, fldW, rngW, wholeW, seqW, tgW, setAll, biW, lenW, optW, sliW, Xs.w, wX, wXs, rho0, List.map_cons, List.map_nil, List.length_cons, List.length_nil, List.replicate, List.cons_append, List.nil_append, List.getElem?_cons_zero, List.getElem?_cons_succ, List.set_cons_zero, List.set_cons_succ, Nat.reduceAdd, Nat.reduceSub, Nat.zero_add, neh_fz, neh_ow, neh_pk, true_and, and_true, tab_fn, tab_mkk, tab_mth, Nat.sub_self, Nat.add_one_sub_one, ne_eq, not_false_eq_true, reduceCtorEq, if_true, Bool.false_eq_true, if_false]
  refine ⟨⟨by decide, by decide, by decide⟩, by decide, by decide, .int 1, .int 1, rfl, True.intro, True.intro, ?_⟩
  refine ⟨.int 2, rfl, True.intro, fun d' hd' => ?_⟩
  refine ⟨by decide, ?_⟩
  refine w_frzO rfl rfl ?_
  simp only [wE, wT, wTAnd, wTAnd1, wTOr, wTOr1, wAnd, wAnd1, wOr, wOr1, wPut, wKvs, wArg, wLook, wO, wIf, wI, boolW, intW, EV.d, EV.out, EV.keep, EV.put, EV.arg, binW, addW, itemW, fldW, rngW, wholeW, seqW, tgW, setAll, biW, lenW, optW, sliW, Xs.w, wX, wXs, rho0, List.map_cons, List.map_nil, List.length_cons, List.length_nil, List.replicate, List.cons_append, List.nil_append, List.getElem?_cons_zero, List.getElem?_cons_succ, List.set_cons_zero, List.set_cons_succ, Nat.reduceAdd, Nat.reduceSub, Nat.zero_add, neh_fz, neh_ow, neh_pk, true_and, and_true, tab_fn, tab_mkk, tab_mth, Nat.sub_self, Nat.add_one_sub_one, ne_eq, not_false_eq_true, reduceCtorEq, if_true, Bool.false_eq_true, if_false]
  refine wSs_ife ?_
  simp only [wE, wT, wTAnd, wTAnd1, wTOr, wTOr1, wAnd, wAnd1, wOr, wOr1, wPut, wKvs, wArg, wLook, wO, wIf, wI, boolW, intW, EV.d, EV.out, EV.keep, EV.put, EV.arg, binW, addW, itemW, fldW, rngW, wholeW, seqW, tgW, setAll, biW, lenW, optW, sliW, Xs.w, wX, wXs, rho0, List.map_cons, List.map_nil, List.length_cons, List.length_nil, List.replicate, List.cons_append, List.nil_append, List.getElem?_cons_zero, List.getElem?_cons_succ, List.set_cons_zero, List.set_cons_succ, Nat.reduceAdd, Nat.reduceSub, Nat.zero_add, neh_fz, neh_ow, neh_pk, true_and, and_true, tab_fn, tab_mkk, tab_mth, Nat.sub_self, Nat.add_one_sub_one, ne_eq, not_false_eq_true, reduceCtorEq, if_true, Bool.false_eq_true, if_false]
  refine ⟨3, rfl, by decide, by decide, fun i i0 i1 => ⟨fz_hnd, ?_⟩⟩
  simp only [cmpW, eqT_int]
  refine ⟨_, rfl, ?_⟩
  by_cases z : i = 0
  · simp only [z, decide_true, if_true]
    refine wSs_ret ?_
    simp only [wE, wT, wTAnd, wTAnd1, wTOr, wTOr1, wAnd, wAnd1, wOr, wOr1, wPut, wKvs, wArg, wLook, wO, wIf, wI, boolW, intW, EV.d, EV.out, EV.keep, EV.put, EV.arg, binW, addW, itemW, fldW, rngW, wholeW, seqW, tgW, setAll, biW, lenW, optW, sliW, Xs.w, wX, wXs, rho0, List.map_cons, List.map_nil, List.length_cons, List.length_nil, List.replicate, List.cons_append, List.nil_append, List.getElem?_cons_zero, List.getElem?_cons_succ, List.set_cons_zero, List.set_cons_succ, Nat.reduceAdd, Nat.reduceSub, Nat.zero_add, neh_fz, neh_ow, neh_pk, true_and, and_true, tab_fn, tab_mkk, tab_mth, Nat.sub_self, Nat.add_one_sub_one, ne_eq, not_false_eq_true, reduceCtorEq, if_true, Bool.false_eq_true, if_false]
    refine ⟨_, rfl, by simp, (by show 14 < 2 ^ 62; decide), fun d hd => ?_⟩
    refine h d ?_
    simp only [List.mem_cons, List.not_mem_nil, or_false] at hd
    rcases hd with rfl | rfl | rfl | rfl | rfl | rfl | rfl | rfl | rfl | rfl | rfl | rfl | rfl | rfl
    all_goals first | exact True.intro | exact hd' | rfl
  · simp only [z, decide_false, Bool.false_eq_true, if_false]
    refine wSs_ret ?_
    simp only [wE, wT, wTAnd, wTAnd1, wTOr, wTOr1, wAnd, wAnd1, wOr, wOr1, wPut, wKvs, wArg, wLook, wO, wIf, wI, boolW, intW, EV.d, EV.out, EV.keep, EV.put, EV.arg, binW, addW, itemW, fldW, rngW, wholeW, seqW, tgW, setAll, biW, lenW, optW, sliW, Xs.w, wX, wXs, rho0, List.map_cons, List.map_nil, List.length_cons, List.length_nil, List.replicate, List.cons_append, List.nil_append, List.getElem?_cons_zero, List.getElem?_cons_succ, List.set_cons_zero, List.set_cons_succ, Nat.reduceAdd, Nat.reduceSub, Nat.zero_add, neh_fz, neh_ow, neh_pk, true_and, and_true, tab_fn, tab_mkk, tab_mth, Nat.sub_self, Nat.add_one_sub_one, ne_eq, not_false_eq_true, reduceCtorEq, if_true, Bool.false_eq_true, if_false]
    refine ⟨m, rfl, m0, m1, fun j j0 j1 => ⟨fz_hnd, by decide, ?_⟩⟩
    refine ⟨3, rfl, by decide, by decide, fun j j0 j1 => ⟨fz_hnd, ?_⟩⟩
    have hj : j = 0 ∨ j = 1 ∨ j = 2 := by omega
    rcases hj with rfl | rfl | rfl
    · exact ⟨_, rfl, h _ True.intro⟩
    · exact ⟨_, rfl, h _ True.intro⟩
    · exact ⟨_, rfl, h _ True.intro⟩
theorem plain_due {a b : D} : Plain 3 (dueD a b) := by
  unfold dueD
  have tw : ∀ (n : Nat) (x y : D), Plain n x → Plain n y → Plain (n + 1) (.tup [x, y]) := fun n x y hx hy => .tup _ (fun d hd => by
    simp only [List.mem_cons, List.not_mem_nil, or_false] at hd
    rcases hd with rfl | rfl
    · exact hx
    · exact hy) (by show 2 ≤ sizeLine; decide)
  split
  · split
    · rename_i h1 h2
      cases a with
      | int i =>
        cases b with
        | int j => exact tw _ _ _ (.str _ (by decide +kernel)) (tw _ _ _ (.int i) (.int j))
        | _ => cases h2
      | _ => cases h1
    · exact tw _ _ _ (.str _ (by decide +kernel)) (.str _ (by decide +kernel))
  · exact tw _ _ _ (.str _ (by decide +kernel)) (.str _ (by decide +kernel))
theorem plain_ints {n : Nat} {ds : List D} (h : ∀ d ∈ ds, ∃ i, d = .int i) (hz : ds.length ≤ sizeLine) : Plain (n + 2) (.tup ds) := .tup _ (fun d hd => by obtain ⟨i, rfl⟩ := h d hd; exact .int i) hz
theorem range_int {lo : Int} {n : Nat} : ∀ d ∈ rangeD lo n, ∃ i, d = .int i := fun d hd => by
  unfold rangeD at hd
  simp only [List.mem_map] at hd
  obtain ⟨i, _, rfl⟩ := hd
  exact ⟨_, rfl⟩
theorem range_len {lo : Int} {n : Nat} : (rangeD lo n).length = n := by unfold rangeD; simp
abbrev WL : Wd := { nx := fun _ => False, rt := fun _ x => x = .fz (.bl true), ex := fun _ _ => False }
abbrev TL : MP.Tab := t_law (FS 3) MK MT eqB
end
end Hd
end
section
set_option Elab.async false
set_option linter.all false
set_option maxRecDepth 100000
set_option maxHeartbeats 400000
namespace Hd
open PySem MP
section
variable {n : Nat} {ss : List SV} {E : Exn → Prop} {Q : EV → Prop}
theorem wk_eq {x y c d : Int} : weekEq (wkF (.int x) (.int y)) (wk (.int c) (.int d)) = some (decide (x = c) && decide (y = d)) := by
  unfold weekEq
  rw [lk_d, lk_p]
  show (if ("Week" : Str) = "Week" then (match (wkF (.int c) (.int d)).lookup ("days" : Str), (wkF (.int c) (.int d)).lookup ("periods" : Str) with
      | some (.int c), some (.int d) => some (decide (x = c) && decide (y = d))
      | _, _ => none) else none) = _
  rw [lk_d, lk_p, if_pos rfl]
theorem wk_ne {x y : Int} {t : D} (ht : tOk t) (ho : t.isObj = false) : weekEq (wkF (.int x) (.int y)) t = some false := by
  unfold weekEq
  rw [lk_d, lk_p]
  cases t with
  | obj C fs => cases ho
  | ty n => exact ht.elim
  | ref n => exact ht.elim
  | scr n _ => exact ht.elim
  | _ => rfl
abbrev wkS (x y : Int) : Option SV := some (.fz (wk (.int x) (.int y)))
theorem l_law5 {S0 : Option SV} {s2 s4 s5 s6 s7 s10 s11 : Option SV} {x y : Int} (hx : 1 ≤ x ∧ x ≤ 7) (hy : 1 ≤ y ∧ y ≤ 12) : wSs TL (a_law.drop 8) [S0, some .hnd, s2, wkS x y, s4, s5, s6, s7, some (.fz (.int x)), some (.fz (.int y)), s10, s11] WL := by
  unfold a_law
  simp only [List.drop]
  refine wSs_ret ?_
  simp only [wE, wT, wTAnd, wTAnd1, wTOr, wTOr1, wAnd, wAnd1, wOr, wOr1, wPut, wKvs, wArg, wLook, wO, wIf, wI, boolW, intW, EV.d, EV.out, EV.keep, EV.put, EV.arg, binW, addW, itemW, fldW, rngW, wholeW, seqW, tgW, setAll, biW, lenW, optW, sliW, Xs.w, wX, wXs, rho0, List.map_cons, List.map_nil, List.length_cons, List.length_nil, List.replicate, List.cons_append, List.nil_append, List.getElem?_cons_zero, List.getElem?_cons_succ, List.set_cons_zero, List.set_cons_succ, Nat.reduceAdd, Nat.reduceSub, Nat.zero_add, neh_fz, neh_ow, neh_pk, true_and, and_true, tab_fn, tab_mkk, tab_mth, Nat.sub_self, Nat.add_one_sub_one, ne_eq, not_false_eq_true, reduceCtorEq, if_true, Bool.false_eq_true, if_false]
  simp only [TL, tab_fn, tab_mkk, mk2, fs3, fs7]
  refine ⟨_, _, rfl, True.intro, True.intro, ?_⟩
  rw [show isBt 1 7 (.int 2) = true from rfl, show isBt 1 12 (.int 3) = true from rfl]
  simp only [if_true]
  refine ⟨2, 3, rfl, by decide, by decide, by decide, by decide, by decide, ?_⟩
  refine ⟨_, rfl, plain_ints range_int (by rw [range_len]; decide), ?_⟩
  try simp only [if_true]
  refine ⟨rfl, _, lk_d, rfl, _, lk_p, by decide, by decide, ?_⟩
  refine ⟨_, rfl, plain_ints (fun d hd => ?_) (by show 2 ≤ sizeLine; decide), rfl⟩
  simp only [List.mem_cons, List.not_mem_nil, or_false] at hd
  rcases hd with rfl | rfl <;> exact ⟨_, rfl⟩
theorem l_law4 {S0 : Option SV} {s2 s4 s5 s7 s10 s11 : Option SV} {x y : Int} (hx : 1 ≤ x ∧ x ≤ 7) (hy : 1 ≤ y ∧ y ≤ 12) : wSs TL (a_law.drop 7) [S0, some .hnd, s2, wkS x y, s4, s5, none, s7, some (.fz (.int x)), some (.fz (.int y)), s10, s11] WL := by
  unfold a_law
  simp only [List.drop]
  refine w_for' ?_
  simp only [wE, wT, wTAnd, wTAnd1, wTOr, wTOr1, wAnd, wAnd1, wOr, wOr1, wPut, wKvs, wArg, wLook, wO, wIf, wI, boolW, intW, EV.d, EV.out, EV.keep, EV.put, EV.arg, binW, addW, itemW, fldW, rngW, wholeW, seqW, tgW, setAll, biW, lenW, optW, sliW, Xs.w, wX, wXs, rho0, List.map_cons, List.map_nil, List.length_cons, List.length_nil, List.replicate, List.cons_append, List.nil_append, List.getElem?_cons_zero, List.getElem?_cons_succ, List.set_cons_zero, List.set_cons_succ, Nat.reduceAdd, Nat.reduceSub, Nat.zero_add, neh_fz, neh_ow, neh_pk, true_and, and_true, tab_fn, tab_mkk, tab_mth, Nat.sub_self, Nat.add_one_sub_one, ne_eq, not_false_eq_true, reduceCtorEq, if_true, Bool.false_eq_true, if_false]
  simp only [TL, tab_fn, fs3]
  refine ⟨by decide, by decide, x, y, rfl, by omega, by omega, by omega, by omega, by decide, ?_⟩
  refine forW_inv (fun ρ => ∃ s6, ρ = [S0, some .hnd, s2, wkS x y, s4, s5, s6, s7, some (.fz (.int x)), some (.fz (.int y)), s10, s11]) _ ?_ ?_ _ ⟨_, rfl⟩
  · rintro t ht ρ G ⟨s6, rfl⟩ hG
    have hk : tOk t ∧ t.isObj = false := by
      simp only [List.mem_cons, List.not_mem_nil, or_false] at ht
      rcases ht with rfl | rfl | rfl | rfl | rfl | rfl | rfl | rfl <;> exact ⟨True.intro, rfl⟩
    simp only [wE, wT, wTAnd, wTAnd1, wTOr, wTOr1, wAnd, wAnd1, wOr, wOr1, wPut, wKvs, wArg, wLook, wO, wIf, wI, boolW, intW, EV.d, EV.out, EV.keep, EV.put, EV.arg, binW, addW, itemW, fldW, rngW, wholeW, seqW, tgW, setAll, biW, lenW, optW, sliW, Xs.w, wX, wXs, rho0, List.map_cons, List.map_nil, List.length_cons, List.length_nil, List.replicate, List.cons_append, List.nil_append, List.getElem?_cons_zero, List.getElem?_cons_succ, List.set_cons_zero, List.set_cons_succ, Nat.reduceAdd, Nat.reduceSub, Nat.zero_add, neh_fz, neh_ow, neh_pk, true_and, and_true, tab_fn, tab_mkk, tab_mth, Nat.sub_self, Nat.add_one_sub_one, ne_eq, not_false_eq_true, reduceCtorEq, if_true, Bool.false_eq_true, if_false]
    refine wSs_ife ?_
    simp only [wE, wT, wTAnd, wTAnd1, wTOr, wTOr1, wAnd, wAnd1, wOr, wOr1, wPut, wKvs, wArg, wLook, wO, wIf, wI, boolW, intW, EV.d, EV.out, EV.keep, EV.put, EV.arg, binW, addW, itemW, fldW, rngW, wholeW, seqW, tgW, setAll, biW, lenW, optW, sliW, Xs.w, wX, wXs, rho0, List.map_cons, List.map_nil, List.length_cons, List.length_nil, List.replicate, List.cons_append, List.nil_append, List.getElem?_cons_zero, List.getElem?_cons_succ, List.set_cons_zero, List.set_cons_succ, Nat.reduceAdd, Nat.reduceSub, Nat.zero_add, neh_fz, neh_ow, neh_pk, true_and, and_true, tab_fn, tab_mkk, tab_mth, Nat.sub_self, Nat.add_one_sub_one, ne_eq, not_false_eq_true, reduceCtorEq, if_true, Bool.false_eq_true, if_false]
    simp only [TL, tab_fn, fs14]
    refine ⟨x, y, t, false, rfl, hk.1, wk_ne hk.1 hk.2, fun gs e => (by rw [e] at hk; cases hk.2), ?_⟩
    simp only [Bool.not_true, Bool.false_eq_true, if_false]
    exact w_nil (T := TL) (hG _ ⟨_, rfl⟩)
  · rintro ρ ⟨s6, rfl⟩
    exact l_law5 hx hy
theorem l_law3 {S0 : Option SV} {s2 s4 s5 s7 s10 s11 : Option SV} {x y : Int} (hx : 1 ≤ x ∧ x ≤ 7) (hy : 1 ≤ y ∧ y ≤ 12) : wSs TL (a_law.drop 6) [S0, some .hnd, s2, wkS x y, s4, s5, none, s7, some (.fz (.int x)), some (.fz (.int y)), s10, s11] WL := by
  unfold a_law
  simp only [List.drop]
  refine k_for (fun ds => ∀ t ∈ ds, ∃ c : Int, t = .int c ∧ 1 ≤ c ∧ c ≤ 7) (fun ρ => ∃ s5 s10 s11, ρ = [S0, some .hnd, s2, wkS x y, s4, s5, none, s7, some (.fz (.int x)), some (.fz (.int y)), s10, s11]) (fun K hK => ?_) ⟨_, _, _, rfl⟩ ?_ ?_
  · simp only [wE, wT, wTAnd, wTAnd1, wTOr, wTOr1, wAnd, wAnd1, wOr, wOr1, wPut, wKvs, wArg, wLook, wO, wIf, wI, optW, sliW, x_put1, x_put2, x_arg1, x_arg2, x_arg3, x_keep1, x_keep2, x_out1, x_out2, x_out3, x_d1, x_d2, x_d3, x_bool, x_int, x_add1, x_add2, x_add3, x_add4, x_sub, x_mul, x_fdiv, x_mod, x_pow, x_item1, x_item2, x_item3, x_item4, x_fld, x_rng1, x_rng2, x_who1, x_who2, x_seq1, x_seq2, x_seq3, x_tg1, x_tg2, x_len, x_len1, x_len2, x_len3, x_len4, x_bint1, x_bint2, x_babs, x_ball1, x_bany1, x_bsum1, x_blst1, x_blst2, x_blst3, x_btup1, x_btup2, x_btup3, x_btup4, x_isn, x_notn, x_lt, x_le, x_gt, x_ge, x_eqI, x_neI, x_eqB, x_neB, d_non1, d_non2, d_non3, d_non4, d_non5, d_non6, d_non7, Xs.w, wX, wXs, rho0, List.map_cons, List.map_nil, List.length_cons, List.length_nil, List.replicate, List.cons_append, List.nil_append, List.getElem?_cons_zero, List.getElem?_cons_succ, List.set_cons_zero, List.set_cons_succ, Nat.reduceAdd, Nat.reduceSub, Nat.zero_add, neh_fz, neh_ow, neh_pk, true_and, and_true, tab_fn, tab_mkk, tab_mth, Nat.sub_self, Nat.add_one_sub_one, if_true, Bool.false_eq_true, if_false, Bool.not_true, Bool.not_false]
    simp only [TL, tab_fn, fs5]
    refine ⟨7, rfl, by decide, by decide, fun e e0 e1 => ?_⟩
    simp only [wE, wT, wTAnd, wTAnd1, wTOr, wTOr1, wAnd, wAnd1, wOr, wOr1, wPut, wKvs, wArg, wLook, wO, wIf, wI, optW, sliW, x_put1, x_put2, x_arg1, x_arg2, x_arg3, x_keep1, x_keep2, x_out1, x_out2, x_out3, x_d1, x_d2, x_d3, x_bool, x_int, x_add1, x_add2, x_add3, x_add4, x_sub, x_mul, x_fdiv, x_mod, x_pow, x_item1, x_item2, x_item3, x_item4, x_fld, x_rng1, x_rng2, x_who1, x_who2, x_seq1, x_seq2, x_seq3, x_tg1, x_tg2, x_len, x_len1, x_len2, x_len3, x_len4, x_bint1, x_bint2, x_babs, x_ball1, x_bany1, x_bsum1, x_blst1, x_blst2, x_blst3, x_btup1, x_btup2, x_btup3, x_btup4, x_isn, x_notn, x_lt, x_le, x_gt, x_ge, x_eqI, x_neI, x_eqB, x_neB, d_non1, d_non2, d_non3, d_non4, d_non5, d_non6, d_non7, Xs.w, wX, wXs, rho0, List.map_cons, List.map_nil, List.length_cons, List.length_nil, List.replicate, List.cons_append, List.nil_append, List.getElem?_cons_zero, List.getElem?_cons_succ, List.set_cons_zero, List.set_cons_succ, Nat.reduceAdd, Nat.reduceSub, Nat.zero_add, neh_fz, neh_ow, neh_pk, true_and, and_true, tab_fn, tab_mkk, tab_mth, Nat.sub_self, Nat.add_one_sub_one, if_true, Bool.false_eq_true, if_false, Bool.not_true, Bool.not_false]
    refine ⟨by decide, hK _ fun t ht => ?_⟩
    simp only [List.mem_cons, List.not_mem_nil, or_false] at ht
    rcases ht with rfl | rfl | rfl | rfl
    · exact ⟨_, rfl, by decide, by decide⟩
    · exact ⟨_, rfl, by decide, by decide⟩
    · exact ⟨_, rfl, hx.1, hx.2⟩
    · exact ⟨_, rfl, by omega, by omega⟩
  · rintro ds hds t ht ρ G ⟨s5, s10, s11, rfl⟩ hG
    obtain ⟨c, rfl, c0, c1⟩ := hds t ht
    simp only [wE, wT, wTAnd, wTAnd1, wTOr, wTOr1, wAnd, wAnd1, wOr, wOr1, wPut, wKvs, wArg, wLook, wO, wIf, wI, optW, sliW, x_put1, x_put2, x_arg1, x_arg2, x_arg3, x_keep1, x_keep2, x_out1, x_out2, x_out3, x_d1, x_d2, x_d3, x_bool, x_int, x_add1, x_add2, x_add3, x_add4, x_sub, x_mul, x_fdiv, x_mod, x_pow, x_item1, x_item2, x_item3, x_item4, x_fld, x_rng1, x_rng2, x_who1, x_who2, x_seq1, x_seq2, x_seq3, x_tg1, x_tg2, x_len, x_len1, x_len2, x_len3, x_len4, x_bint1, x_bint2, x_babs, x_ball1, x_bany1, x_bsum1, x_blst1, x_blst2, x_blst3, x_btup1, x_btup2, x_btup3, x_btup4, x_isn, x_notn, x_lt, x_le, x_gt, x_ge, x_eqI, x_neI, x_eqB, x_neB, d_non1, d_non2, d_non3, d_non4, d_non5, d_non6, d_non7, Xs.w, wX, wXs, rho0, List.map_cons, List.map_nil, List.length_cons, List.length_nil, List.replicate, List.cons_append, List.nil_append, List.getElem?_cons_zero, List.getElem?_cons_succ, List.set_cons_zero, List.set_cons_succ, Nat.reduceAdd, Nat.reduceSub, Nat.zero_add, neh_fz, neh_ow, neh_pk, true_and, and_true, tab_fn, tab_mkk, tab_mth, Nat.sub_self, Nat.add_one_sub_one, if_true, Bool.false_eq_true, if_false, Bool.not_true, Bool.not_false]
    refine k_for (fun ds => ∀ t ∈ ds, ∃ c : Int, t = .int c ∧ 1 ≤ c ∧ c ≤ 12) (fun ρ => ∃ s10 s11, ρ = [S0, some .hnd, s2, wkS x y, s4, some (.fz (.int c)), none, s7, some (.fz (.int x)), some (.fz (.int y)), s10, s11]) (fun K hK => ?_) ⟨_, _, rfl⟩ ?_ ?_
    · simp only [wE, wT, wTAnd, wTAnd1, wTOr, wTOr1, wAnd, wAnd1, wOr, wOr1, wPut, wKvs, wArg, wLook, wO, wIf, wI, optW, sliW, x_put1, x_put2, x_arg1, x_arg2, x_arg3, x_keep1, x_keep2, x_out1, x_out2, x_out3, x_d1, x_d2, x_d3, x_bool, x_int, x_add1, x_add2, x_add3, x_add4, x_sub, x_mul, x_fdiv, x_mod, x_pow, x_item1, x_item2, x_item3, x_item4, x_fld, x_rng1, x_rng2, x_who1, x_who2, x_seq1, x_seq2, x_seq3, x_tg1, x_tg2, x_len, x_len1, x_len2, x_len3, x_len4, x_bint1, x_bint2, x_babs, x_ball1, x_bany1, x_bsum1, x_blst1, x_blst2, x_blst3, x_btup1, x_btup2, x_btup3, x_btup4, x_isn, x_notn, x_lt, x_le, x_gt, x_ge, x_eqI, x_neI, x_eqB, x_neB, d_non1, d_non2, d_non3, d_non4, d_non5, d_non6, d_non7, Xs.w, wX, wXs, rho0, List.map_cons, List.map_nil, List.length_cons, List.length_nil, List.replicate, List.cons_append, List.nil_append, List.getElem?_cons_zero, List.getElem?_cons_succ, List.set_cons_zero, List.set_cons_succ, Nat.reduceAdd, Nat.reduceSub, Nat.zero_add, neh_fz, neh_ow, neh_pk, true_and, and_true, tab_fn, tab_mkk, tab_mth, Nat.sub_self, Nat.add_one_sub_one, if_true, Bool.false_eq_true, if_false, Bool.not_true, Bool.not_false]
      simp only [TL, tab_fn, fs5]
      refine ⟨12, rfl, by decide, by decide, fun e e0 e1 => ?_⟩
      simp only [wE, wT, wTAnd, wTAnd1, wTOr, wTOr1, wAnd, wAnd1, wOr, wOr1, wPut, wKvs, wArg, wLook, wO, wIf, wI, optW, sliW, x_put1, x_put2, x_arg1, x_arg2, x_arg3, x_keep1, x_keep2, x_out1, x_out2, x_out3, x_d1, x_d2, x_d3, x_bool, x_int, x_add1, x_add2, x_add3, x_add4, x_sub, x_mul, x_fdiv, x_mod, x_pow, x_item1, x_item2, x_item3, x_item4, x_fld, x_rng1, x_rng2, x_who1, x_who2, x_seq1, x_seq2, x_seq3, x_tg1, x_tg2, x_len, x_len1, x_len2, x_len3, x_len4, x_bint1, x_bint2, x_babs, x_ball1, x_bany1, x_bsum1, x_blst1, x_blst2, x_blst3, x_btup1, x_btup2, x_btup3, x_btup4, x_isn, x_notn, x_lt, x_le, x_gt, x_ge, x_eqI, x_neI, x_eqB, x_neB, d_non1, d_non2, d_non3, d_non4, d_non5, d_non6, d_non7, Xs.w, wX, wXs, rho0, List.map_cons, List.map_nil, List.length_cons, List.length_nil, List.replicate, List.cons_append, List.nil_append, List.getElem?_cons_zero, List.getElem?_cons_succ, List.set_cons_zero, List.set_cons_succ, Nat.reduceAdd, Nat.reduceSub, Nat.zero_add, neh_fz, neh_ow, neh_pk, true_and, and_true, tab_fn, tab_mkk, tab_mth, Nat.sub_self, Nat.add_one_sub_one, if_true, Bool.false_eq_true, if_false, Bool.not_true, Bool.not_false]
      refine ⟨by decide, hK _ fun t ht => ?_⟩
      simp only [List.mem_cons, List.not_mem_nil, or_false] at ht
      rcases ht with rfl | rfl | rfl | rfl
      · exact ⟨_, rfl, by decide, by decide⟩
      · exact ⟨_, rfl, by decide, by decide⟩
      · exact ⟨_, rfl, hy.1, hy.2⟩
      · exact ⟨_, rfl, by omega, by omega⟩
    · rintro ds hds t ht ρ G ⟨s10, s11, rfl⟩ hG
      obtain ⟨d, rfl, d0, d1⟩ := hds t ht
      simp only [wE, wT, wTAnd, wTAnd1, wTOr, wTOr1, wAnd, wAnd1, wOr, wOr1, wPut, wKvs, wArg, wLook, wO, wIf, wI, optW, sliW, x_put1, x_put2, x_arg1, x_arg2, x_arg3, x_keep1, x_keep2, x_out1, x_out2, x_out3, x_d1, x_d2, x_d3, x_bool, x_int, x_add1, x_add2, x_add3, x_add4, x_sub, x_mul, x_fdiv, x_mod, x_pow, x_item1, x_item2, x_item3, x_item4, x_fld, x_rng1, x_rng2, x_who1, x_who2, x_seq1, x_seq2, x_seq3, x_tg1, x_tg2, x_len, x_len1, x_len2, x_len3, x_len4, x_bint1, x_bint2, x_babs, x_ball1, x_bany1, x_bsum1, x_blst1, x_blst2, x_blst3, x_btup1, x_btup2, x_btup3, x_btup4, x_isn, x_notn, x_lt, x_le, x_gt, x_ge, x_eqI, x_neI, x_eqB, x_neB, d_non1, d_non2, d_non3, d_non4, d_non5, d_non6, d_non7, Xs.w, wX, wXs, rho0, List.map_cons, List.map_nil, List.length_cons, List.length_nil, List.replicate, List.cons_append, List.nil_append, List.getElem?_cons_zero, List.getElem?_cons_succ, List.set_cons_zero, List.set_cons_succ, Nat.reduceAdd, Nat.reduceSub, Nat.zero_add, neh_fz, neh_ow, neh_pk, true_and, and_true, tab_fn, tab_mkk, tab_mth, Nat.sub_self, Nat.add_one_sub_one, if_true, Bool.false_eq_true, if_false, Bool.not_true, Bool.not_false]
      refine k_set (fun s => s = .fz (.bl (decide (c = x) && decide (d = y)))) (fun K hK => ?_) ?_
      · simp only [wE, wT, wTAnd, wTAnd1, wTOr, wTOr1, wAnd, wAnd1, wOr, wOr1, wPut, wKvs, wArg, wLook, wO, wIf, wI, optW, sliW, x_put1, x_put2, x_arg1, x_arg2, x_arg3, x_keep1, x_keep2, x_out1, x_out2, x_out3, x_d1, x_d2, x_d3, x_bool, x_int, x_add1, x_add2, x_add3, x_add4, x_sub, x_mul, x_fdiv, x_mod, x_pow, x_item1, x_item2, x_item3, x_item4, x_fld, x_rng1, x_rng2, x_who1, x_who2, x_seq1, x_seq2, x_seq3, x_tg1, x_tg2, x_len, x_len1, x_len2, x_len3, x_len4, x_bint1, x_bint2, x_babs, x_ball1, x_bany1, x_bsum1, x_blst1, x_blst2, x_blst3, x_btup1, x_btup2, x_btup3, x_btup4, x_isn, x_notn, x_lt, x_le, x_gt, x_ge, x_eqI, x_neI, x_eqB, x_neB, d_non1, d_non2, d_non3, d_non4, d_non5, d_non6, d_non7, Xs.w, wX, wXs, rho0, List.map_cons, List.map_nil, List.length_cons, List.length_nil, List.replicate, List.cons_append, List.nil_append, List.getElem?_cons_zero, List.getElem?_cons_succ, List.set_cons_zero, List.set_cons_succ, Nat.reduceAdd, Nat.reduceSub, Nat.zero_add, neh_fz, neh_ow, neh_pk, true_and, and_true, tab_fn, tab_mkk, tab_mth, Nat.sub_self, Nat.add_one_sub_one, if_true, Bool.false_eq_true, if_false, Bool.not_true, Bool.not_false]
        by_cases z : c = x
        · simp only [z, decide_true, if_true, Bool.true_and]
          exact hK _ (by simp [z])
        · simp only [z, decide_false, Bool.false_eq_true, if_false]
          exact hK _ (by simp [z])
      · rintro s rfl
        simp only [wE, wT, wTAnd, wTAnd1, wTOr, wTOr1, wAnd, wAnd1, wOr, wOr1, wPut, wKvs, wArg, wLook, wO, wIf, wI, optW, sliW, x_put1, x_put2, x_arg1, x_arg2, x_arg3, x_keep1, x_keep2, x_out1, x_out2, x_out3, x_d1, x_d2, x_d3, x_bool, x_int, x_add1, x_add2, x_add3, x_add4, x_sub, x_mul, x_fdiv, x_mod, x_pow, x_item1, x_item2, x_item3, x_item4, x_fld, x_rng1, x_rng2, x_who1, x_who2, x_seq1, x_seq2, x_seq3, x_tg1, x_tg2, x_len, x_len1, x_len2, x_len3, x_len4, x_bint1, x_bint2, x_babs, x_ball1, x_bany1, x_bsum1, x_blst1, x_blst2, x_blst3, x_btup1, x_btup2, x_btup3, x_btup4, x_isn, x_notn, x_lt, x_le, x_gt, x_ge, x_eqI, x_neI, x_eqB, x_neB, d_non1, d_non2, d_non3, d_non4, d_non5, d_non6, d_non7, Xs.w, wX, wXs, rho0, List.map_cons, List.map_nil, List.length_cons, List.length_nil, List.replicate, List.cons_append, List.nil_append, List.getElem?_cons_zero, List.getElem?_cons_succ, List.set_cons_zero, List.set_cons_succ, Nat.reduceAdd, Nat.reduceSub, Nat.zero_add, neh_fz, neh_ow, neh_pk, true_and, and_true, tab_fn, tab_mkk, tab_mth, Nat.sub_self, Nat.add_one_sub_one, if_true, Bool.false_eq_true, if_false, Bool.not_true, Bool.not_false]
        refine k_iff (fun K hK => ?_) (w_nil (T := TL) (hG _ ⟨_, _, rfl⟩))
        simp only [wE, wT, wTAnd, wTAnd1, wTOr, wTOr1, wAnd, wAnd1, wOr, wOr1, wPut, wKvs, wArg, wLook, wO, wIf, wI, optW, sliW, x_put1, x_put2, x_arg1, x_arg2, x_arg3, x_keep1, x_keep2, x_out1, x_out2, x_out3, x_d1, x_d2, x_d3, x_bool, x_int, x_add1, x_add2, x_add3, x_add4, x_sub, x_mul, x_fdiv, x_mod, x_pow, x_item1, x_item2, x_item3, x_item4, x_fld, x_rng1, x_rng2, x_who1, x_who2, x_seq1, x_seq2, x_seq3, x_tg1, x_tg2, x_len, x_len1, x_len2, x_len3, x_len4, x_bint1, x_bint2, x_babs, x_ball1, x_bany1, x_bsum1, x_blst1, x_blst2, x_blst3, x_btup1, x_btup2, x_btup3, x_btup4, x_isn, x_notn, x_lt, x_le, x_gt, x_ge, x_eqI, x_neI, x_eqB, x_neB, d_non1, d_non2, d_non3, d_non4, d_non5, d_non6, d_non7, Xs.w, wX, wXs, rho0, List.map_cons, List.map_nil, List.length_cons, List.length_nil, List.replicate, List.cons_append, List.nil_append, List.getElem?_cons_zero, List.getElem?_cons_succ, List.set_cons_zero, List.set_cons_succ, Nat.reduceAdd, Nat.reduceSub, Nat.zero_add, neh_fz, neh_ow, neh_pk, true_and, and_true, tab_fn, tab_mkk, tab_mth, Nat.sub_self, Nat.add_one_sub_one, if_true, Bool.false_eq_true, if_false, Bool.not_true, Bool.not_false]
        simp only [TL, tab_fn, tab_mkk, mk2, fs14]
        refine ⟨_, _, rfl, True.intro, True.intro, ?_⟩
        rw [show isBt 1 7 (.int c) = true from by unfold isBt; simp; omega, show isBt 1 12 (.int d) = true from by unfold isBt; simp; omega]
        simp only [if_true]
        have h1 : decide (x = c) = decide (c = x) := decide_eq_decide.mpr eq_comm
        have h2 : decide (y = d) = decide (d = y) := decide_eq_decide.mpr eq_comm
        refine ⟨x, y, _, _, rfl, rfl, by rw [wk_eq, h1, h2], fun gs e => ?_, ?_⟩
        · injection e with _ e
          subst e
          rw [wk_eq]
        exact hK
    · rintro ρ ⟨s10, s11, rfl⟩
      exact w_nil (T := TL) (hG _ ⟨_, _, _, rfl⟩)
  · rintro ρ ⟨s5, s10, s11, rfl⟩
    exact l_law4 hx hy
end
end Hd
end
section
set_option Elab.async false
set_option linter.all false
set_option maxRecDepth 100000
set_option maxHeartbeats 400000
namespace Hd
open PySem MP
section
variable {n : Nat} {ss : List SV} {E : Exn → Prop} {Q : EV → Prop}
theorem l_law2 {S0 : Option SV} {s2 s4 s7 s8 s9 : Option SV} : wSs TL (a_law.drop 2) [S0, some .hnd, s2, none, s4, none, none, s7, s8, s9, none, none] WL := by
  unfold a_law
  simp only [List.drop]
  refine w_par ?_
  simp only [wE, wT, wTAnd, wTAnd1, wTOr, wTOr1, wAnd, wAnd1, wOr, wOr1, wPut, wKvs, wArg, wLook, wO, wIf, wI, boolW, intW, EV.d, EV.out, EV.keep, EV.put, EV.arg, binW, addW, itemW, fldW, rngW, wholeW, seqW, tgW, setAll, biW, lenW, optW, sliW, Xs.w, wX, wXs, rho0, List.map_cons, List.map_nil, List.length_cons, List.length_nil, List.replicate, List.cons_append, List.nil_append, List.getElem?_cons_zero, List.getElem?_cons_succ, List.set_cons_zero, List.set_cons_succ, Nat.reduceAdd, Nat.reduceSub, Nat.zero_add, neh_fz, neh_ow, neh_pk, true_and, and_true, tab_fn, tab_mkk, tab_mth, Nat.sub_self, Nat.add_one_sub_one, ne_eq, not_false_eq_true, reduceCtorEq, if_true, Bool.false_eq_true, if_false]
  simp only [TL, tab_fn, fs5]
  refine ⟨7, rfl, by decide, by decide, fun x x0 x1 => ⟨fz_hnd, ?_⟩⟩
  refine ⟨12, rfl, by decide, by decide, fun y y0 y1 => ⟨fz_hnd, ?_⟩⟩
  refine wSs_set ?_
  simp only [wE, wT, wTAnd, wTAnd1, wTOr, wTOr1, wAnd, wAnd1, wOr, wOr1, wPut, wKvs, wArg, wLook, wO, wIf, wI, boolW, intW, EV.d, EV.out, EV.keep, EV.put, EV.arg, binW, addW, itemW, fldW, rngW, wholeW, seqW, tgW, setAll, biW, lenW, optW, sliW, Xs.w, wX, wXs, rho0, List.map_cons, List.map_nil, List.length_cons, List.length_nil, List.replicate, List.cons_append, List.nil_append, List.getElem?_cons_zero, List.getElem?_cons_succ, List.set_cons_zero, List.set_cons_succ, Nat.reduceAdd, Nat.reduceSub, Nat.zero_add, neh_fz, neh_ow, neh_pk, true_and, and_true, tab_fn, tab_mkk, tab_mth, Nat.sub_self, Nat.add_one_sub_one, ne_eq, not_false_eq_true, reduceCtorEq, if_true, Bool.false_eq_true, if_false]
  simp only [tab_mkk, mk2]
  have hx : isBt 1 7 (.int (1 + x)) = true := by unfold isBt; simp; omega
  have hy : isBt 1 12 (.int (1 + y)) = true := by unfold isBt; simp; omega
  refine ⟨_, _, rfl, True.intro, True.intro, ?_⟩
  rw [hx, hy]
  simp only [if_true]
  refine wSs_frz rfl ?_
  refine w_rng (fun ρ => ∃ s4, ρ = [S0, some .hnd, s2, some (.fz (wk (.int (1 + x)) (.int (1 + y)))), s4, none, none, s7, some (.fz (.int (1 + x))), some (.fz (.int (1 + y))), none, none]) ⟨_, rfl⟩ ⟨by decide, by decide⟩ rfl ?_ ?_
  · rintro d ρ G ⟨s4, rfl⟩ hG
    simp only [wE, wT, wTAnd, wTAnd1, wTOr, wTOr1, wAnd, wAnd1, wOr, wOr1, wPut, wKvs, wArg, wLook, wO, wIf, wI, boolW, intW, EV.d, EV.out, EV.keep, EV.put, EV.arg, binW, addW, itemW, fldW, rngW, wholeW, seqW, tgW, setAll, biW, lenW, optW, sliW, Xs.w, wX, wXs, rho0, List.map_cons, List.map_nil, List.length_cons, List.length_nil, List.replicate, List.cons_append, List.nil_append, List.getElem?_cons_zero, List.getElem?_cons_succ, List.set_cons_zero, List.set_cons_succ, Nat.reduceAdd, Nat.reduceSub, Nat.zero_add, neh_fz, neh_ow, neh_pk, true_and, and_true, tab_fn, tab_mkk, tab_mth, Nat.sub_self, Nat.add_one_sub_one, ne_eq, not_false_eq_true, reduceCtorEq, if_true, Bool.false_eq_true, if_false]
    refine wSs_ife ?_
    simp only [wE, wT, wTAnd, wTAnd1, wTOr, wTOr1, wAnd, wAnd1, wOr, wOr1, wPut, wKvs, wArg, wLook, wO, wIf, wI, boolW, intW, EV.d, EV.out, EV.keep, EV.put, EV.arg, binW, addW, itemW, fldW, rngW, wholeW, seqW, tgW, setAll, biW, lenW, optW, sliW, Xs.w, wX, wXs, rho0, List.map_cons, List.map_nil, List.length_cons, List.length_nil, List.replicate, List.cons_append, List.nil_append, List.getElem?_cons_zero, List.getElem?_cons_succ, List.set_cons_zero, List.set_cons_succ, Nat.reduceAdd, Nat.reduceSub, Nat.zero_add, neh_fz, neh_ow, neh_pk, true_and, and_true, tab_fn, tab_mkk, tab_mth, Nat.sub_self, Nat.add_one_sub_one, ne_eq, not_false_eq_true, reduceCtorEq, if_true, Bool.false_eq_true, if_false]
    simp only [tab_fn, fs3, fs7]
    have hm : (1 + x) * (1 + y) ≤ 100 * 100 := Int.mul_le_mul (by omega) (by omega) (by omega) (by decide)
    have hm0 : 0 ≤ (1 + x) * (1 + y) := Int.mul_nonneg (by omega) (by omega)
    refine ⟨1 + x, 1 + y, rfl, by omega, by omega, by omega, by omega, ?_⟩
    refine ⟨.inl ⟨by omega, by omega⟩, L2.RgOk.of_le (by omega) (by omega) (by omega) hm0, ?_⟩
    refine ⟨_, rfl, plain_ints range_int (by rw [range_len]; exact Nat.le_trans (m := 10000) (by omega) (by decide)), ?_⟩
    simp only [Bool.not_true, Bool.false_eq_true, if_false]
    exact w_nil (T := TL) (hG _ ⟨_, rfl⟩)
  · rintro ρ ⟨s4, rfl⟩
    exact l_law3 ⟨by omega, by omega⟩ ⟨by omega, by omega⟩
theorem l_law1 {S0 : Option SV} : wSs TL (a_law.drop 1) [S0, some .hnd, none, none, none, none, none, none, none, none, none, none] WL := by
  unfold a_law
  simp only [List.drop]
  refine w_rng (fun ρ => ∃ s2 s4 s7 s8 s9, ρ = [S0, some .hnd, s2, none, s4, none, none, s7, s8, s9, none, none]) ⟨_, _, _, _, _, rfl⟩ ⟨by decide, by decide⟩ rfl ?_ ?_
  · rintro d ρ G ⟨s2, s4, s7, s8, s9, rfl⟩ hG
    simp only [wE, wT, wTAnd, wTAnd1, wTOr, wTOr1, wAnd, wAnd1, wOr, wOr1, wPut, wKvs, wArg, wLook, wO, wIf, wI, boolW, intW, EV.d, EV.out, EV.keep, EV.put, EV.arg, binW, addW, itemW, fldW, rngW, wholeW, seqW, tgW, setAll, biW, lenW, optW, sliW, Xs.w, wX, wXs, rho0, List.map_cons, List.map_nil, List.length_cons, List.length_nil, List.replicate, List.cons_append, List.nil_append, List.getElem?_cons_zero, List.getElem?_cons_succ, List.set_cons_zero, List.set_cons_succ, Nat.reduceAdd, Nat.reduceSub, Nat.zero_add, neh_fz, neh_ow, neh_pk, true_and, and_true, tab_fn, tab_mkk, tab_mth, Nat.sub_self, Nat.add_one_sub_one, ne_eq, not_false_eq_true, reduceCtorEq, if_true, Bool.false_eq_true, if_false]
    refine w_par ?_
    simp only [wE, wT, wTAnd, wTAnd1, wTOr, wTOr1, wAnd, wAnd1, wOr, wOr1, wPut, wKvs, wArg, wLook, wO, wIf, wI, boolW, intW, EV.d, EV.out, EV.keep, EV.put, EV.arg, binW, addW, itemW, fldW, rngW, wholeW, seqW, tgW, setAll, biW, lenW, optW, sliW, Xs.w, wX, wXs, rho0, List.map_cons, List.map_nil, List.length_cons, List.length_nil, List.replicate, List.cons_append, List.nil_append, List.getElem?_cons_zero, List.getElem?_cons_succ, List.set_cons_zero, List.set_cons_succ, Nat.reduceAdd, Nat.reduceSub, Nat.zero_add, neh_fz, neh_ow, neh_pk, true_and, and_true, tab_fn, tab_mkk, tab_mth, Nat.sub_self, Nat.add_one_sub_one, ne_eq, not_false_eq_true, reduceCtorEq, if_true, Bool.false_eq_true, if_false]
    simp only [TL, tab_fn, fs9]
    refine ⟨7, rfl, by decide, by decide, fun a ha => ?_⟩
    refine ⟨12, rfl, by decide, by decide, fun b hb => ?_⟩
    refine wSs_set ?_
    simp only [wE, wT, wTAnd, wTAnd1, wTOr, wTOr1, wAnd, wAnd1, wOr, wOr1, wPut, wKvs, wArg, wLook, wO, wIf, wI, boolW, intW, EV.d, EV.out, EV.keep, EV.put, EV.arg, binW, addW, itemW, fldW, rngW, wholeW, seqW, tgW, setAll, biW, lenW, optW, sliW, Xs.w, wX, wXs, rho0, List.map_cons, List.map_nil, List.length_cons, List.length_nil, List.replicate, List.cons_append, List.nil_append, List.getElem?_cons_zero, List.getElem?_cons_succ, List.set_cons_zero, List.set_cons_succ, Nat.reduceAdd, Nat.reduceSub, Nat.zero_add, neh_fz, neh_ow, neh_pk, true_and, and_true, tab_fn, tab_mkk, tab_mth, Nat.sub_self, Nat.add_one_sub_one, ne_eq, not_false_eq_true, reduceCtorEq, if_true, Bool.false_eq_true, if_false]
    simp only [TL, tab_fn, fs11]
    refine ⟨a, b, rfl, ha, hb, ?_⟩
    refine wSs_frz rfl ?_
    refine w_rng (fun ρ => ∃ s4, ρ = [S0, some .hnd, some (.fz (.int d)), none, s4, none, none, some (.fz (dueD a b)), some (.fz a), some (.fz b), none, none]) ⟨_, rfl⟩ ⟨by decide, by decide⟩ rfl ?_ ?_
    · rintro d ρ G ⟨s4, rfl⟩ hG
      simp only [wE, wT, wTAnd, wTAnd1, wTOr, wTOr1, wAnd, wAnd1, wOr, wOr1, wPut, wKvs, wArg, wLook, wO, wIf, wI, boolW, intW, EV.d, EV.out, EV.keep, EV.put, EV.arg, binW, addW, itemW, fldW, rngW, wholeW, seqW, tgW, setAll, biW, lenW, optW, sliW, Xs.w, wX, wXs, rho0, List.map_cons, List.map_nil, List.length_cons, List.length_nil, List.replicate, List.cons_append, List.nil_append, List.getElem?_cons_zero, List.getElem?_cons_succ, List.set_cons_zero, List.set_cons_succ, Nat.reduceAdd, Nat.reduceSub, Nat.zero_add, neh_fz, neh_ow, neh_pk, true_and, and_true, tab_fn, tab_mkk, tab_mth, Nat.sub_self, Nat.add_one_sub_one, ne_eq, not_false_eq_true, reduceCtorEq, if_true, Bool.false_eq_true, if_false]
      refine wSs_ife ?_
      simp only [wE, wT, wTAnd, wTAnd1, wTOr, wTOr1, wAnd, wAnd1, wOr, wOr1, wPut, wKvs, wArg, wLook, wO, wIf, wI, boolW, intW, EV.d, EV.out, EV.keep, EV.put, EV.arg, binW, addW, itemW, fldW, rngW, wholeW, seqW, tgW, setAll, biW, lenW, optW, sliW, Xs.w, wX, wXs, rho0, List.map_cons, List.map_nil, List.length_cons, List.length_nil, List.replicate, List.cons_append, List.nil_append, List.getElem?_cons_zero, List.getElem?_cons_succ, List.set_cons_zero, List.set_cons_succ, Nat.reduceAdd, Nat.reduceSub, Nat.zero_add, neh_fz, neh_ow, neh_pk, true_and, and_true, tab_fn, tab_mkk, tab_mth, Nat.sub_self, Nat.add_one_sub_one, ne_eq, not_false_eq_true, reduceCtorEq, if_true, Bool.false_eq_true, if_false]
      simp only [TL, tab_fn, fs12, fs7]
      refine ⟨a, b, rfl, ha, hb, ?_⟩
      refine ⟨_, rfl, plain_due, ?_⟩
      simp only [Bool.not_true, Bool.false_eq_true, if_false]
      exact w_nil (T := TL) (hG _ ⟨_, rfl⟩)
    · rintro ρ ⟨s4, rfl⟩
      exact w_nil (T := TL) (hG _ ⟨_, _, _, _, _, rfl⟩)
  · rintro ρ ⟨s2, s4, s7, s8, s9, rfl⟩
    exact l_law2
theorem l_law0 {a : Addr} {ns : List Int} (hl : ns.length ≤ 63) : wS (t_law (FS 3) MK MT eqB) (.set 1 (.call 4 [.var 0])) (rho0 n_law [.fz (.scr a ns)]) { nx := fun ρ => ∃ t d, ρ[1]? = some (some (.ow t d)) ∧ handD d ∧ wSs (t_law (FS 3) MK MT eqB) (a_law.drop 1) (ρ.set 1 (some .hnd)) WL, rt := fun _ _ => False, ex := fun _ _ => False } := by
  unfold n_law
  simp only [wSs, wS, wE, wT, wTAnd, wTAnd1, wTOr, wTOr1, wAnd, wAnd1, wOr, wOr1, wPut, wKvs, wArg, wLook, wO, wIf, wI, boolW, intW, EV.d, EV.out, EV.keep, EV.put, EV.arg, binW, addW, itemW, fldW, rngW, wholeW, seqW, tgW, setAll, biW, lenW, optW, sliW, Xs.w, wX, wXs, rho0, List.map_cons, List.map_nil, List.length_cons, List.length_nil, List.replicate, List.cons_append, List.nil_append, List.getElem?_cons_zero, List.getElem?_cons_succ, List.set_cons_zero, List.set_cons_succ, Nat.reduceAdd, Nat.reduceSub, Nat.zero_add, neh_fz, neh_ow, neh_pk, true_and, and_true, tab_fn, tab_mkk, tab_mth, Nat.sub_self, Nat.add_one_sub_one, ne_eq, not_false_eq_true, reduceCtorEq]
  simp only [tab_fn, fs4]
  exact ⟨a, ns, rfl, hl, fun d hd => ⟨none, d, rfl, hd, l_law1⟩⟩
end
end Hd
end
section
set_option Elab.async false
set_option linter.all false
set_option maxRecDepth 100000
set_option maxHeartbeats 400000
namespace Hd
open PySem PySem.Spec PyProof.Rows L2 MP
section
variable {P : Program} {w : World} {K : Frag} {mg : Str → Option Value} {base : Heap} {n : Nat} {A : Av}
abbrev HB (K : Frag) (mg : Str → Option Value) : Prop := MP.Hb tl fa fn K mg
abbrev tb (n : Nat) (A : Av) : MP.Tab := tl.tab (FS n) MK MT A
theorem nomem {α : Type} {p : α → Prop} : ∀ j ∈ ([] : List α), p j := fun _ h => by cases h
theorem mem1 {α : Type} {p : α → Prop} {a : α} (h : p a) : ∀ j ∈ [a], p j := fun j hj => by simp only [List.mem_cons, List.not_mem_nil, or_false] at hj; subst hj; exact h
theorem memc {α : Type} {p : α → Prop} {a : α} {l : List α} (h : p a) (h2 : ∀ j ∈ l, p j) : ∀ j ∈ a :: l, p j := fun j hj => by
  rcases List.mem_cons.mp hj with rfl | hj
  · exact h
  · exact h2 j hj
theorem v1 (B : HB K mg) : FnAv P w K mg base (tb n A) 1 1 :=
  B.fnAv (N := n_is_integer) (ps := ["thing"]) 1 1 (d := d_is_integer) rfl rfl rfl rfl rfl (by decide +kernel) (B.kit (fs := FS 0) (mk := MK) (mt := MT) (eqB := eqB) nomem nomem nomem nomem nomem) c_is_integer (fun _ _ _ _ _ _ us hl => match us, hl with | [_], _ => rfl) rfl (fun ss E Q ⟨_, e, _⟩ => by rw [e]; rfl) fun ss E Q h => l_is_integer h
theorem v2 (B : HB K mg) : FnAv P w K mg base (tb n A) 2 2 :=
  B.fnAv (N := n_is_between) (ps := ["thing", "least", "most"]) 2 2 (d := d_is_between) rfl rfl rfl rfl rfl (by decide +kernel) (B.kit (fs := FS 0) (mk := MK) (mt := MT) (eqB := eqB) (mem1 (v1 B)) nomem nomem nomem nomem) c_is_between (fun _ _ _ _ _ _ us hl => match us, hl with | [_, _, _], _ => rfl) rfl (fun ss E Q ⟨_, _, _, e, _⟩ => by rw [e]; rfl) fun ss E Q h => l_is_between h
theorem v3 (B : HB K mg) : FnAv P w K mg base (tb n A) 1 3 :=
  B.fnAv (N := n_slots) (ps := ["week"]) 3 3 (d := d_slots) rfl rfl rfl rfl rfl (by decide +kernel) (B.kit (fs := FS 0) (mk := MK) (mt := MT) (eqB := eqB) nomem nomem nomem nomem nomem) c_slots (fun _ _ _ _ _ _ us hl => match us, hl with | [_], _ => rfl) rfl (fun ss E Q h => by obtain ⟨_, _, e, _⟩ := h; subst e; rfl) fun ss E Q h => l_slots h
theorem v5 (B : HB K mg) : FnAv P w K mg base (tb n A) 1 5 :=
  B.draw (c := 29) (N := n__law_draw) (ps := ["hand", "many"]) 5 5 (d := d__law_draw) rfl rfl rfl rfl rfl rfl rfl (by decide +kernel) (B.kit (fs := FS 0) (mk := MK) (mt := MT) (eqB := eqB) nomem nomem nomem nomem nomem) (by decide) c__law_draw (fun _ _ _ _ _ _ us hl => match us, hl with | [_, _], _ => rfl) rfl rfl
theorem v4 (B : HB K mg) : FnAv P w K mg base (tb n A) 1 4 :=
  B.fnAv (N := n__law_hand) (ps := ["script"]) 4 4 (d := d__law_hand) rfl rfl rfl rfl rfl (by decide +kernel) (B.kit (fs := FS 0) (mk := MK) (mt := MT) (eqB := eqB) nomem nomem nomem nomem nomem) c__law_hand (fun _ _ _ _ _ _ us hl => match us, hl with | [_], _ => rfl) rfl (fun ss E Q h => by obtain ⟨_, _, e, _⟩ := h; subst e; rfl) fun ss E Q h => by
    obtain ⟨a, ns, e, hl, h⟩ := h
    subst e
    exact hand1 (c := 57) (by decide) (by decide) hl h
theorem v6 (B : HB K mg) : FnAv P w K mg base (tb n A) 2 6 :=
  B.fnAv (N := n__law_some) (ps := ["hand", "things"]) 6 6 (d := d__law_some) rfl rfl rfl rfl rfl (by decide +kernel) (B.kit (fs := FS 0) (mk := MK) (mt := MT) (eqB := eqB) (mem1 (v5 B)) nomem nomem nomem nomem) c__law_some (fun _ _ _ _ _ _ us hl => match us, hl with | [_, _], _ => rfl) rfl (fun ss E Q h => by obtain ⟨_, e, _⟩ := h; subst e; rfl) fun ss E Q h => l__law_some h
theorem v7 (B : HB K mg) (n : Nat) (A : Av) : FnAv P w K mg base (tb n A) n 7 :=
  B.isAv (FSn := FS) (mk := MK) (mt := MT) (eqB := eqB) (N := n__law_is) (ps := ["got", "due"]) 7 7 (d := d__law_is) rfl rfl rfl rfl rfl rfl rfl (by decide +kernel) (by decide +kernel) rfl (fun _ => rfl) (fun _ _ _ _ _ _ us hl => match us, hl with | [_, _], _ => rfl) (fun n => c__law_is) n A
theorem v8 (B : HB K mg) : FnAv P w K mg base (tb n A) 2 8 :=
  B.fnAv (N := n__law_deep) (ps := ["hand", "thing"]) 8 8 (d := d__law_deep) rfl rfl rfl rfl rfl (by decide +kernel) (B.kit (fs := FS 0) (mk := MK) (mt := MT) (eqB := eqB) (mem1 (v5 B)) nomem nomem nomem nomem) c__law_deep (fun _ _ _ _ _ _ us hl => match us, hl with | [_, _], _ => rfl) rfl (fun ss E Q h => by obtain ⟨_, e, _⟩ := h; subst e; rfl) fun ss E Q h => l__law_deep h
theorem xroot (B : HB K mg) (ev : vvB K = true) : ∃ fd, FnOk P w K mg base (L2.CX P w) 1 (initAt K "HourError") fd ["self"] (spE0 K) ∧ Binds K fd ["self"] [] :=
  B.root 16 (d := d_HourError___init__) rfl rfl rfl rfl (by decide +kernel) ⟨_, rfl, by decide +kernel⟩ (by decide +kernel) (by decide +kernel) (.inl (by decide +kernel)) (vvB_ok ev) (fun _ _ _ _ _ _ us hl => match us, hl with | [_], _ => rfl)
theorem x1 (B : HB K mg) (e : ex K = true) : ExAv P w K mg base (tb n A) 3 1 := by
  unfold ex at e
  obtain ⟨e1, e⟩ := band e
  obtain ⟨e2, e⟩ := band e
  obtain ⟨ev, e⟩ := band e
  obtain ⟨fdr, R, br⟩ := xroot (P := P) (w := w) (base := base) B ev
  obtain ⟨e3, e⟩ := band e
  obtain ⟨e4, e5⟩ := band e
  obtain ⟨fd, F, b⟩ := B.sub1 (fl := "part") (p := "part") 17 16 (d := d_BadWeek___init__) rfl rfl rfl rfl rfl (by decide +kernel) ⟨_, _, rfl, by decide +kernel, by decide +kernel⟩ e5 R br (by decide +kernel) (by decide +kernel) (.inl (by decide +kernel)) (.inl (by decide +kernel)) (by decide +kernel) (by decide +kernel) (fun _ _ _ _ _ _ us hl => match us, hl with | [_, _], _ => rfl)
  exact exf1 rfl rfl e4 F b (B.glo 17 rfl)
theorem m2 (B : HB K mg) (e : ex K = true) : MkAv P w K mg base (tb n A) 5 2 :=
  B.mkAv (N := n_Week___init__) (ps := ["self", "days", "periods"]) 18 18 23 (d := d_Week___init__) rfl rfl rfl rfl rfl rfl (by decide +kernel) (B.kit (k := 3) (fs := FS 0) (mk := MK) (mt := MT) (eqB := eqB) (mem1 ((v2 (n := 0) (A := {}) B).up (by decide) rfl rfl)) nomem nomem (mem1 (x1 B e)) nomem) c_Week___init__ (fun _ _ _ _ _ _ us hl => match us, hl with | [_, _, _], _ => rfl) rfl (fun ss E Q h => by obtain ⟨_, _, e, _⟩ := h; subst e; rfl) fun ss E Q a dx h => l_Week___init__ a dx h
theorem q1 (B : HB K mg) {lf lm le lt lq} : EqAv P w K mg base (tb n (avOf lf lm lt le lq eqB)) 2 "Week" :=
  B.eqAv (N := n_Week___eq__) (ps := ["self", "other"]) 19 (d := d_Week___eq__) rfl rfl rfl rfl (by decide +kernel) (by decide +kernel) (B.kit (k := 0) (fs := FS 0) (mk := MK) (mt := MT) (eqB := eqB) nomem nomem nomem nomem nomem) c_Week___eq__ (fun _ _ _ _ _ _ us hl => match us, hl with | [_, _], _ => rfl) rfl fun fs' y b h E Q q => l_Week___eq__ fs' y b h E Q q
theorem v9 (B : HB K mg) (e : ex K = true) : FnAv P w K mg base (tb n A) 6 9 :=
  B.fnAv (N := n__law_part) (ps := ["hand", "most"]) 9 9 (d := d__law_part) rfl rfl rfl rfl rfl (by decide +kernel) (B.kit (k := 5) (fs := FS 0) (mk := MK) (mt := MT) (eqB := eqB) (memc ((v5 (n := 0) (A := {}) B).up (by decide) rfl rfl) (memc ((v6 (n := 0) (A := {}) B).up (by decide) rfl rfl) (mem1 ((v8 (n := 0) (A := {}) B).up (by decide) rfl rfl)))) (mem1 (m2 B e)) nomem nomem nomem) c__law_part (fun _ _ _ _ _ _ us hl => match us, hl with | [_, _], _ => rfl) rfl (fun ss E Q h => by obtain ⟨_, e, _⟩ := h; subst e; rfl) fun ss E Q h => l__law_part h
theorem v10 (B : HB K mg) : FnAv P w K mg base (tb n A) 1 10 :=
  B.fnAv (N := n__law_is_right) (ps := ["thing", "most"]) 10 10 (d := d__law_is_right) rfl rfl rfl rfl rfl (by decide +kernel) (B.kit (fs := FS 0) (mk := MK) (mt := MT) (eqB := eqB) nomem nomem nomem nomem nomem) c__law_is_right (fun _ _ _ _ _ _ us hl => match us, hl with | [_, _], _ => rfl) rfl (fun ss E Q h => by obtain ⟨_, _, e, _⟩ := h; subst e; rfl) fun ss E Q h => l__law_is_right h
theorem v11 (B : HB K mg) : FnAv P w K mg base (tb n A) 2 11 :=
  B.fnAv (N := n__law_due) (ps := ["days", "periods"]) 11 11 (d := d__law_due) rfl rfl rfl rfl rfl (by decide +kernel) (B.kit (fs := FS 0) (mk := MK) (mt := MT) (eqB := eqB) (mem1 (v10 B)) nomem nomem nomem nomem) c__law_due (fun _ _ _ _ _ _ us hl => match us, hl with | [_, _], _ => rfl) rfl (fun ss E Q h => by obtain ⟨_, _, e, _⟩ := h; subst e; rfl) fun ss E Q h => l__law_due h
theorem v12 (B : HB K mg) (e : ex K = true) : FnAv P w K mg base (tb n A) 6 12 :=
  B.fnAv (N := n__law_told) (ps := ["days", "periods"]) 12 12 (d := d__law_told) rfl rfl rfl rfl rfl (by decide +kernel) (B.kit (fs := FS 0) (mk := MK) (mt := MT) (eqB := eqB) nomem (mem1 (m2 B e)) nomem nomem nomem) c__law_told (fun _ _ _ _ _ _ us hl => match us, hl with | [_, _], _ => rfl) rfl (fun ss E Q h => by obtain ⟨_, _, e, _⟩ := h; subst e; rfl) fun ss E Q h => l__law_told h
theorem v13 (B : HB K mg) : FnAv P w K mg base (tb n A) 1 13 :=
  B.fnAv (N := n__law_flag) (ps := ["thing", "due"]) 13 13 (d := d__law_flag) rfl rfl rfl rfl rfl (by decide +kernel) (B.kit (fs := FS 0) (mk := MK) (mt := MT) (eqB := eqB) nomem nomem nomem nomem nomem) c__law_flag (fun _ _ _ _ _ _ us hl => match us, hl with | [_, _], _ => rfl) rfl (fun ss E Q h => by obtain ⟨_, e, _⟩ := h; subst e; rfl) fun ss E Q h => l__law_flag h
theorem v14 (B : HB K mg) : FnAv P w K mg base (tb n A) 3 14 :=
  B.fnAv (N := n__law_are_alike) (ps := ["one", "other", "due"]) 14 14 (d := d__law_are_alike) rfl rfl rfl rfl rfl (by decide +kernel) (B.kit (k := 2) (fs := FS 0) (mk := MK) (mt := MT) (eqB := eqB) (mem1 ((v13 (n := 0) (A := {}) B).up (by decide) rfl rfl)) nomem nomem nomem (mem1 (q1 B))) c__law_are_alike (fun _ _ _ _ _ _ us hl => match us, hl with | [_, _, _], _ => rfl) rfl (fun ss E Q h => by obtain ⟨_, _, _, _, e, _⟩ := h; subst e; rfl) fun ss E Q h => l__law_are_alike h
theorem kit_law (B : HB K mg) (e : ex K = true) : Kit P w K mg base (t_law (FS 3) MK MT eqB) 6 :=
  B.kit (memc ((v3 (n := 0) (A := {}) B).up (by decide) rfl rfl) (memc ((v4 (n := 0) (A := {}) B).up (by decide) rfl rfl) (memc ((v5 (n := 0) (A := {}) B).up (by decide) rfl rfl) (memc ((v7 B 3 {}).up (by decide) rfl rfl) (memc (v9 B e) (memc ((v11 (n := 0) (A := {}) B).up (by decide) rfl rfl) (memc (v12 B e) (mem1 ((v14 (n := 0) (A := {}) B).up (by decide) rfl rfl))))))))) (mem1 ((m2 (n := 0) (A := {}) B e).up (by decide) rfl rfl)) nomem nomem nomem
theorem ok_law (B : HB K mg) (e : ex K = true) {fd : FuncData} (F : FunD K d_law.name d_law.qual d_law.params d_law.body d_law.scope [] [] (He.ga K "law") fd) : FnOk P w K mg base (L2.CX P w) 7 (He.ga K "law") fd ["script"] (spLaw K) :=
  law_ok (N := n_law) F (C8.fnScope_by (by decide +kernel)) (kit_law B e) (i := 1) (e := .call 4 [.var 0]) (r := a_law.drop 1) c_law fun a ns hl => l_law0 hl
end
end Hd
end
section
set_option Elab.async false
set_option linter.all false
set_option maxRecDepth 100000
set_option maxHeartbeats 0
namespace Hd
open PySem PySem.Spec PyProof.Rows L2 MP
theorem facts {w : World} {K : Frag} {h : Heap} {mg : Str → Option Value} {f : Addr} {P : Program} (X : K.In h) (G : h.Ns mainGlobals mg) (hfa : mg ("law" : Str) = some (.ref f)) (c : He.SaysD fa fn K) (e : ex K = true) :
    ∃ fd : FuncData, (∀ (s : Shared) (v : Value), BindsTo s fd ⟨[v], []⟩ [("script", v)]) ∧ ∀ base : Heap, FnOk P w K mg base (L2.CX P w) 7 f fd ["script"] (spLaw K) := by
  have e' := e
  unfold ex at e'
  obtain ⟨e1, e'⟩ := band e'
  obtain ⟨e2, e'⟩ := band e'
  have B : HB K mg := ⟨c, ⟨h, X, G⟩, e1, e2⟩
  have eg := hfa.symm.trans (B.glo 15 (x := "law") rfl)
  cases eg
  obtain ⟨fd, F⟩ := B.funD 15 (d := d_law) rfl rfl rfl
  have b := FunD.bindsA (ps := ["script"]) F fun _ _ _ _ _ _ us hl => match us, hl with | [_], _ => rfl
  exact ⟨fd, fun s v => b s [v] rfl, fun base => ok_law B e F⟩
end Hd
open PySem PySem.W PySem.Calls PyProof.Rows
theorem PySem.Challenge.cw_hourwright_k01_weeks_slots_equal_refused_holds : PySem.Challenge.rw_hourwright_k01_weeks_slots_equal_refused.Holds := by
  w_on; o_law
  refine HandSHeadRun.head_any (r := OpenLaw.row PySem.Challenge.rw_hourwright_k01_weeks_slots_equal_refused) (q := view (OpenLaw.row PySem.Challenge.rw_hourwright_k01_weeks_slots_equal_refused).prog [23]) (H := Hd.hk) (ob := Hd.ob) (M := 3000) (loose := Hd.loose) (d := HandSHeadRun.topDef (OpenLaw.row PySem.Challenge.rw_hourwright_k01_weeks_slots_equal_refused).prog 23) (kwd := []) Hd.ob_eq
    (by kernel_rfl) (fun s => by kernel_rfl) Hd.run (by kernel_rfl) (by kernel_rfl) (by kernel_rfl) (by rfl) (by first | assumption | decide +kernel) (by decide +kernel) ⟨rfl, rfl, rfl, rfl, rfl, by decide +kernel⟩ ?hw ?hc
  case hw => w_witness2
  case hc =>
    refine LamX.walk_ofTsE (l := PySem.Challenge.rw_hourwright_k01_weeks_slots_equal_refused) (n := 63) (k := 7) (x := "script") (CX := fun w => L2.CX (PySem.Challenge.rw_hourwright_k01_weeks_slots_equal_refused).prog w) rfl (by decide) (by kernel_rfl) ⟨rfl, by decide, by decide⟩ ?F (fun _ _ _ _ _ ⟨_, _, _, _, _, _, _, _, _, _, _, _, z⟩ => z.elim)
    intro w mg fa h Y G hmg0
    obtain ⟨K, KX, c, e⟩ := Y
    have hmg : mg ("law" : PySem.Str) = some (.ref fa) := by
      have e : (HandSHeadRun.topDef (OpenLaw.row PySem.Challenge.rw_hourwright_k01_weeks_slots_equal_refused).prog 23).name = ("law" : PySem.Str) := by kernel_rfl
      rw [← e]
      exact hmg0
    obtain ⟨fd, hb, hF⟩ := Hd.facts (P := (PySem.Challenge.rw_hourwright_k01_weeks_slots_equal_refused).prog) (w := w) KX G hmg c e
    refine ⟨K, KX, fd, [], MP.spLaw K, ?_⟩
    refine ⟨fun p h => (by cases h), fun p h => (by cases h), fun p h => (by cases h), hb, fun H a ns hl _ _ hS => ⟨a, ns, rfl, hS, hl, fun _ => rfl⟩, fun base _ _ _ => hF base⟩
end
