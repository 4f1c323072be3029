import PyProof.Rows.All
import Wide.All
import OpenK.AllK
import Wide.FinOn
import HandS.ForMost
import KE.KDictKeyed
import KE.KDictLaw
import HandS.Conv
import HandS.IsInst
import HandS.Flow
import HandS.TupAny
import HandS.TupMul
import HandS.More
import HandS.Rev
import KE.DataMinMax
import KE.SortData
import HandS.SortKw
import KE.GoesEnum
import HandS.Deep
import HandS.SortInts
import HandS.Iter
import HandS.ExcInit
import HandS.WordsExc
import HandS.TryOnly
import KE.KStateDown
import Lean
import HandS.Defaults
import HandS.Head0
import HandS.Head1
import HandS.Head2
import HandS.HeadEnd
import HandS.HeadHook1
import HandS.HeadHook2
import PySem.Challenge.RW_selfrights_k78_whole_layers_come_and_sta
set_option Elab.async false
set_option linter.all false
set_option maxRecDepth 100000
set_option maxHeartbeats 4000000
set_option autoImplicit false
/-! Lg1: data values, what stands for them in a heap, states. -/
namespace Lg
open PySem PySem.Spec L2

/-- data -/
inductive Dt where
  | non | bl (b : Bool) | int (i : Int) | str (x : Str)
  | tup (xs : List Dt) | lst (xs : List Dt)
  | ob (C : Addr) (fs : List (Str × Dt))
  | dk (kvs : List (Key × Dt))

mutual
/-- a value stands for data -/
inductive Dr (K : PySem.W.Frag) (H : Hp) : V → Dt → Prop
  | non : Dr K H .non .non
  | bl (b : Bool) : Dr K H (.bl b) (.bl b)
  | int (i : Int) : Dr K H (.int i) (.int i)
  | str (x : Str) : Dr K H (.str x) (.str x)
  | tup {a : Addr} {xs : List V} {ds : List Dt} : SqT K H a xs → DrL K H xs ds → Dr K H (.ref a) (.tup ds)
  | lst {a : Addr} {xs : List V} {ds : List Dt} : H a = some (.lst xs) → DrL K H xs ds → Dr K H (.ref a) (.lst ds)
  | ob {a C dx : Addr} {fs : List (Str × V)} {ds : List (Str × Dt)} : H a = some (.ins C dx fs) → DrF K H fs ds → Dr K H (.ref a) (.ob C ds)
  | dk {a : Addr} {kvs : List (Key × V)} {ds : List (Key × Dt)} : Rd H a (.dK kvs) → DrK K H kvs ds → Dr K H (.ref a) (.dk ds)
inductive DrL (K : PySem.W.Frag) (H : Hp) : List V → List Dt → Prop
  | nil : DrL K H [] []
  | cons {v : V} {vs : List V} {d : Dt} {ds : List Dt} : Dr K H v d → DrL K H vs ds → DrL K H (v :: vs) (d :: ds)
inductive DrF (K : PySem.W.Frag) (H : Hp) : List (Str × V) → List (Str × Dt) → Prop
  | nil : DrF K H [] []
  | cons {x : Str} {v : V} {vs : List (Str × V)} {d : Dt} {ds : List (Str × Dt)} : Dr K H v d → DrF K H vs ds → DrF K H ((x, v) :: vs) ((x, d) :: ds)
inductive DrK (K : PySem.W.Frag) (H : Hp) : List (Key × V) → List (Key × Dt) → Prop
  | nil : DrK K H [] []
  | cons {x : Key} {v : V} {vs : List (Key × V)} {d : Dt} {ds : List (Key × Dt)} : Dr K H v d → DrK K H vs ds → DrK K H ((x, v) :: vs) ((x, d) :: ds)
end

/-- what is read stays -/
structure Le (H H' : Hp) : Prop where
  l : ∀ a xs, H a = some (.lst xs) → H' a = some (.lst xs)
  t : ∀ a xs, Rd H a (.tup xs) → Rd H' a (.tup xs)
  k : ∀ a kvs, Rd H a (.dK kvs) → Rd H' a (.dK kvs)
  i : ∀ a C dx fs, H a = some (.ins C dx fs) → H' a = some (.ins C dx fs)
theorem rd_same {H H' : Hp} {a : Addr} {u : HO} (e : Same H H') (h : Rd H a u) : Rd H' a u := by
  rcases h with h | ⟨o, h⟩
  · exact .inl (e _ _ h)
  · exact .inr ⟨o, e _ _ h⟩
theorem Same.le {H H' : Hp} (e : Same H H') : Le H H' := ⟨fun _ _ h => e _ _ h, fun _ _ h => rd_same e h, fun _ _ h => rd_same e h, fun _ _ _ _ h => e _ _ h⟩
section
variable {K : PySem.W.Frag} {H H' : Hp}
theorem sqL_same (e : Same H H') {a : Addr} {xs : List V} (h : SqL K H a xs) : SqL K H' a xs := by
  rcases h with h | h
  · exact .inl (rd_same e h)
  · exact .inr h
theorem sqT_le (e : Le H H') {a : Addr} {xs : List V} (h : SqT K H a xs) : SqT K H' a xs := by
  rcases h with h | h
  · exact .inl (e.t _ _ h)
  · exact .inr h
mutual
theorem Dr.le (e : Le H H') : ∀ {v : V} {d : Dt}, Dr K H v d → Dr K H' v d
  | _, _, .non => .non
  | _, _, .bl b => .bl b
  | _, _, .int i => .int i
  | _, _, .str x => .str x
  | _, _, .tup h r => .tup (sqT_le e h) (DrL.le e r)
  | _, _, .lst h r => .lst (e.l _ _ h) (DrL.le e r)
  | _, _, .ob h r => .ob (e.i _ _ _ _ h) (DrF.le e r)
  | _, _, .dk h r => .dk (e.k _ _ h) (DrK.le e r)
theorem DrL.le (e : Le H H') : ∀ {v : List V} {d : List Dt}, DrL K H v d → DrL K H' v d
  | _, _, .nil => .nil
  | _, _, .cons h r => .cons (Dr.le e h) (DrL.le e r)
theorem DrF.le (e : Le H H') : ∀ {v : List (Str × V)} {d : List (Str × Dt)}, DrF K H v d → DrF K H' v d
  | _, _, .nil => .nil
  | _, _, .cons h r => .cons (Dr.le e h) (DrF.le e r)
theorem DrK.le (e : Le H H') : ∀ {v : List (Key × V)} {d : List (Key × Dt)}, DrK K H v d → DrK K H' v d
  | _, _, .nil => .nil
  | _, _, .cons h r => .cons (Dr.le e h) (DrK.le e r)
end
theorem Dr.mono (e : Same H H') {v : V} {d : Dt} (h : Dr K H v d) : Dr K H' v d := h.le (Same.le e)
theorem DrL.mono (e : Same H H') {v : List V} {d : List Dt} (h : DrL K H v d) : DrL K H' v d := h.le (Same.le e)
theorem DrK.mono (e : Same H H') {v : List (Key × V)} {d : List (Key × Dt)} (h : DrK K H v d) : DrK K H' v d := h.le (Same.le e)
theorem DrL.length : ∀ {v : List V} {d : List Dt}, DrL K H v d → v.length = d.length
  | _, _, .nil => rfl
  | _, _, .cons _ r => by rw [List.length_cons, List.length_cons, r.length]
theorem DrL.get : ∀ {vs : List V} {ds : List Dt} {i : Nat} {d : Dt}, DrL K H vs ds → ds[i]? = some d → ∃ v, vs[i]? = some v ∧ Dr K H v d
  | _, _, _, _, .nil, e => by simp at e
  | _, _, 0, d, .cons (v := v) r _, e => ⟨v, rfl, by
    have e' := Option.some.inj e
    rw [← e']
    exact r⟩
  | _, _, i + 1, d, .cons _ t, e => by
    obtain ⟨u, h1, h2⟩ := DrL.get (i := i) (d := d) t (by simpa using e)
    exact ⟨u, by simpa using h1, h2⟩
theorem DrL.get' : ∀ {vs : List V} {ds : List Dt} {i : Nat} {v : V}, DrL K H vs ds → vs[i]? = some v → ∃ d, ds[i]? = some d ∧ Dr K H v d
  | _, _, _, _, .nil, e => by simp at e
  | _, _, 0, v, .cons (d := d) r _, e => ⟨d, rfl, by
    have e' := Option.some.inj e
    rw [← e']
    exact r⟩
  | _, _, i + 1, v, .cons _ t, e => by
    obtain ⟨u, h1, h2⟩ := DrL.get' (i := i) (v := v) t (by simpa using e)
    exact ⟨u, by simpa using h1, h2⟩
theorem DrL.append : ∀ {vs ws : List V} {ds es : List Dt}, DrL K H vs ds → DrL K H ws es → DrL K H (vs ++ ws) (ds ++ es)
  | _, _, _, _, .nil, s => s
  | _, _, _, _, .cons r t, s => .cons r (DrL.append t s)
theorem DrL.one {v : V} {d : Dt} (h : Dr K H v d) : DrL K H [v] [d] := .cons h .nil
theorem DrL.take : ∀ {vs : List V} {ds : List Dt} (n : Nat), DrL K H vs ds → DrL K H (vs.take n) (ds.take n)
  | _, _, 0, _ => .nil
  | _, _, _ + 1, .nil => .nil
  | _, _, n + 1, .cons r t => .cons r (DrL.take n t)
theorem DrL.drop : ∀ {vs : List V} {ds : List Dt} (n : Nat), DrL K H vs ds → DrL K H (vs.drop n) (ds.drop n)
  | _, _, 0, r => r
  | _, _, _ + 1, .nil => .nil
  | _, _, n + 1, .cons _ t => DrL.drop n t
theorem DrL.set {v : V} {d : Dt} (r : Dr K H v d) : ∀ {vs : List V} {ds : List Dt} (i : Nat), DrL K H vs ds → DrL K H (vs.set i v) (ds.set i d)
  | _, _, _, .nil => .nil
  | _, _, 0, .cons _ t => .cons r t
  | _, _, i + 1, .cons q t => .cons q (DrL.set r i t)
theorem DrL.rep {vs : List V} {ds : List Dt} (h : DrL K H vs ds) : ∀ n : Nat, DrL K H (List.replicate n vs).flatten (List.replicate n ds).flatten
  | 0 => .nil
  | n + 1 => by
    rw [List.replicate_succ, List.replicate_succ, List.flatten_cons, List.flatten_cons]
    exact h.append (DrL.rep h n)
theorem DrL.ints : ∀ {vs : List V} {ns : List Int}, DrL K H vs (ns.map Dt.int) → vs = ns.map V.int
  | _, [], .nil => rfl
  | _, _ :: _, .cons r t => by
    cases r
    rw [DrL.ints t]
    rfl
theorem DrL.bls : ∀ {vs : List V} {ns : List Bool}, DrL K H vs (ns.map Dt.bl) → vs = ns.map V.bl
  | _, [], .nil => rfl
  | _, _ :: _, .cons r t => by
    cases r
    rw [DrL.bls t]
    rfl
theorem DrL.of_ints : ∀ (ns : List Int), DrL K H (ns.map V.int) (ns.map Dt.int)
  | [] => .nil
  | _ :: r => .cons (.int _) (DrL.of_ints r)
theorem DrL.of_bls : ∀ (ns : List Bool), DrL K H (ns.map V.bl) (ns.map Dt.bl)
  | [] => .nil
  | _ :: r => .cons (.bl _) (DrL.of_bls r)
theorem DrF.look {f : Str} : ∀ {vs : List (Str × V)} {ds : List (Str × Dt)} {d : Dt}, DrF K H vs ds → ds.lookup f = some d → ∃ v, vs.lookup f = some v ∧ Dr K H v d
  | _, _, _, .nil, e => by simp at e
  | _, _, d, .cons (x := x) (v := v) (d := d') r t, e => by
    rw [List.lookup_cons] at e
    rw [List.lookup_cons]
    cases h : f == x with
    | true =>
      rw [h] at e
      exact ⟨v, rfl, by
        have e' := Option.some.inj e
        rw [← e']
        exact r⟩
    | false =>
      rw [h] at e
      exact DrF.look t e
theorem DrF.look_none {f : Str} : ∀ {vs : List (Str × V)} {ds : List (Str × Dt)}, DrF K H vs ds → ds.lookup f = none → vs.lookup f = none
  | _, _, .nil, _ => rfl
  | _, _, .cons (x := x) r t, e => by
    rw [List.lookup_cons] at e
    rw [List.lookup_cons]
    cases h : f == x with
    | true => rw [h] at e; cases e
    | false =>
      rw [h] at e
      exact DrF.look_none t e
end

/-! ### states -/
/-- the most that the feed's turn may be -/
def LIM : Nat := 1000000000
/-- where a def stands: its whole heap at the start, what of it does not change, the feed, the feed's bound -/
structure Bs where
  H0 : Hp
  HI : Hp
  f : Option Addr
  n : Nat
abbrev Bs.add (B : Bs) (c : Nat) : Bs := ⟨B.H0, B.HI, B.f, B.n + c⟩
inductive Ow where
  | lst (ds : List Dt) | dk (kvs : List (Key × Dt)) | nd (P : Program) (w : World) (q : Addr) (m : List (List Int) → Option Int)
/-- a stand as a key, as data -/
abbrev kSt (st : List (List Int)) : NestedKey := .tup (st.map fun b => .tup (b.map .num))
abbrev dSt (st : List (List Int)) : Dt := .tup (st.map fun b => .tup (b.map .int))
/-- the dict's own object alone -/
def RawH (P : Program) (w : World) (h : Heap) (q : Addr) (xs : List (NestedKey × Addr × Value)) : Prop :=
  ∃ o es ep, h.get? q = some o ∧ o.ExactDict ∧ o.data = .dict es ep ∧ es.toList = xs.map (entryOfKey (nestedKind P w)) ∧ (xs.map (·.1)).Nodup
def OwR (K : PySem.W.Frag) (HI : Hp) : Ow → HO → Prop
  | .lst ds, o => ∃ xs, o = .lst xs ∧ DrL K HI xs ds
  | .dk ds, o => ∃ kvs, o = .dK kvs ∧ DrK K HI kvs ds
  | .nd P w q m, o => ∃ φ xs, o = .ext φ ∧ (∀ h, φ h → RawH P w h q xs) ∧ (∀ x ∈ xs, ∃ st, x.1 = kSt st ∧ Dr K HI (.ref x.2.1) (dSt st)) ∧ ∀ st j, m st = some j → ∃ t, valueAt (pairsH xs) (kSt st) = some (.int j t)
theorem OwR.mono {K : PySem.W.Frag} {H H' : Hp} {w : Ow} {o : HO} (e : Same H H') (h : OwR K H w o) : OwR K H' w o := by
  cases w with
  | lst ds =>
    obtain ⟨xs, r, q⟩ := h
    exact ⟨xs, r, q.mono e⟩
  | dk ds =>
    obtain ⟨xs, r, q⟩ := h
    exact ⟨xs, r, q.mono e⟩
  | nd P w q m =>
    obtain ⟨φ, xs, r, h1, h2, h3⟩ := h
    exact ⟨φ, xs, r, h1, fun x hx => let ⟨st, a, b⟩ := h2 x hx; ⟨st, a, b.mono e⟩, h3⟩
/-- the feed: its cells, the turn, what is left of a cell -/
def FeedL (K : PySem.W.Frag) (H : Hp) (n : Nat) (o : HO) : Prop :=
  ∃ (c : Addr) (ns : List Int) (spot left : Int), o = .lst [.ref c, .int spot, .int left] ∧ SqL K H c (ns.map V.int) ∧ 0 < ns.length ∧ ns.length ≤ 63 ∧ 0 ≤ spot ∧ spot ≤ (n : Int)
theorem FeedL.mono {K : PySem.W.Frag} {H H' : Hp} {n : Nat} {o : HO} (e : Same H H') (h : FeedL K H n o) : FeedL K H' n o := by
  obtain ⟨c, ns, spot, left, h1, h2, h3, h4, h5, h6⟩ := h
  exact ⟨c, ns, spot, left, h1, sqL_same e h2, h3, h4, h5, h6⟩
theorem FeedL.up {K : PySem.W.Frag} {H : Hp} {n m : Nat} {o : HO} (h : FeedL K H n o) (hm : n ≤ m) : FeedL K H m o := by
  obtain ⟨c, ns, spot, left, h1, h2, h3, h4, h5, h6⟩ := h
  exact ⟨c, ns, spot, left, h1, h2, h3, h4, h5, by omega⟩
/-- what a slot is known to hold -/
inductive Sl where
  | u | d (x : Dt) | o (p : Addr) | fd
def SlOk (K : PySem.W.Frag) (HI : Hp) (bf : Option Addr) : Sl → Option V → Prop
  | .u, _ => True
  | .d x, v => ∃ u, v = some u ∧ Dr K HI u x
  | .o p, v => v = some (.ref p)
  | .fd, v => ∃ f, bf = some f ∧ v = some (.ref f)
theorem SlOk.mono {K : PySem.W.Frag} {H H' : Hp} {bf : Option Addr} {s : Sl} {v : Option V} (e : Same H H') (h : SlOk K H bf s v) : SlOk K H' bf s v := by
  cases s with
  | u => trivial
  | d x =>
    obtain ⟨u, r, q⟩ := h
    exact ⟨u, r, q.mono e⟩
  | o p => exact h
  | fd => exact h
structure SatI (K : PySem.W.Frag) (B : Bs) (O : List (Addr × Ow)) (ρ : List Sl) (T : List (V × Dt)) (σ : St) (H HI : Hp) : Prop where
  keep : ∀ a u, B.H0 a = some u → B.f ≠ some a → H a = some u
  ex0 : Same B.HI HI
  ex1 : Same HI H
  clo : ∀ a, B.H0 a ≠ none → B.HI a = none → HI a = none
  own : ∀ e ∈ O, B.H0 e.1 = none ∧ HI e.1 = none ∧ ∃ o, H e.1 = some o ∧ OwR K HI e.2 o
  nd : (O.map (·.1)).Nodup
  feed : ∀ f, B.f = some f → B.H0 f ≠ none ∧ HI f = none ∧ ∃ o, H f = some o ∧ FeedL K HI B.n o
  len : σ.length = ρ.length
  slots : ∀ (i : Nat) (s : Sl), ρ[i]? = some s → ∃ v, σ[i]? = some v ∧ SlOk K HI B.f s v
  tmp : ∀ x ∈ T, Dr K HI x.1 x.2
  lim : B.n ≤ LIM
def Sat (K : PySem.W.Frag) (B : Bs) (O : List (Addr × Ow)) (ρ : List Sl) (T : List (V × Dt)) (σ : St) (H : Hp) : Prop := ∃ HI, SatI K B O ρ T σ H HI
section
variable {K : PySem.W.Frag} {B : Bs} {O : List (Addr × Ow)} {ρ : List Sl} {T : List (V × Dt)} {σ : St} {H HI : Hp}
theorem SatI.h0 (S : SatI K B O ρ T σ H HI) {a : Addr} (h : H a = none) : B.H0 a = none := by
  cases e : B.H0 a with
  | none => rfl
  | some u =>
    by_cases hf : B.f = some a
    · obtain ⟨_, _, o, q, _⟩ := S.feed a hf
      rw [h] at q; cases q
    · have q := S.keep a u e hf
      rw [h] at q; cases q
theorem SatI.hi (S : SatI K B O ρ T σ H HI) {a : Addr} (h : H a = none) : HI a = none := by
  cases e : HI a with
  | none => rfl
  | some u =>
    have q := S.ex1 a u e
    rw [h] at q; cases q
theorem SatI.fne (S : SatI K B O ρ T σ H HI) {a : Addr} (h : H a = none) : B.f ≠ some a := fun z => by
  obtain ⟨_, _, o, q, _⟩ := S.feed a z
  rw [h] at q; cases q
theorem same_upd {H : Hp} {p : Addr} {o : HO} (h : H p = none) : Same H (upd H p o) := fun b x e => by
  rw [upd_ne (ne_of_none e h)]
  exact e
theorem same_upd2 {H H' : Hp} {p : Addr} {o : HO} (e : Same H H') (h : H p = none) : Same H (upd H' p o) := fun b x q => by
  rw [upd_ne (ne_of_none q h)]
  exact e _ _ q
theorem same_both {H H' : Hp} {p : Addr} {o : HO} (e : Same H H') : Same (upd H p o) (upd H' p o) := fun b x q => by
  by_cases hb : b = p
  · subst hb
    rw [upd_same] at q ⊢
    exact q
  · rw [upd_ne hb] at q ⊢
    exact e _ _ q
/-- a new object that will not change -/
theorem SatI.grow (S : SatI K B O ρ T σ H HI) {p : Addr} {o : HO} (hp : H p = none) : SatI K B O ρ T σ (upd H p o) (upd HI p o) := by
  have hpI := S.hi hp
  have hs : Same HI (upd HI p o) := same_upd hpI
  refine ⟨fun a u e hf => ?_, fun a u e => ?_, same_both S.ex1, fun a h1 h2 => ?_, fun e he => ?_, S.nd, fun f hf => ?_, S.len, fun i s e => ?_, fun x hx => (S.tmp x hx).mono hs, S.lim⟩
  · have q := S.keep a u e hf
    rw [upd_ne (ne_of_none q hp)]
    exact q
  · exact hs _ _ (S.ex0 a u e)
  · have z := S.clo a h1 h2
    have hne : a ≠ p := fun q => h1 (by rw [q]; exact S.h0 hp)
    rw [upd_ne hne]
    exact z
  · obtain ⟨h1, h2, o', h3, h4⟩ := S.own e he
    have hne : e.1 ≠ p := ne_of_none h3 hp
    exact ⟨h1, by rw [upd_ne hne]; exact h2, o', by rw [upd_ne hne]; exact h3, h4.mono hs⟩
  · obtain ⟨h1, h2, o', h3, h4⟩ := S.feed f hf
    have hne : f ≠ p := ne_of_none h3 hp
    exact ⟨h1, by rw [upd_ne hne]; exact h2, o', by rw [upd_ne hne]; exact h3, h4.mono hs⟩
  · obtain ⟨v, q, r⟩ := S.slots i s e
    exact ⟨v, q, r.mono hs⟩
/-- a new object of one's own -/
theorem SatI.ownNew (S : SatI K B O ρ T σ H HI) {p : Addr} {o : HO} {w : Ow} (hp : H p = none) (hw : OwR K HI w o) : SatI K B ((p, w) :: O) ρ T σ (upd H p o) HI := by
  have hpI := S.hi hp
  refine ⟨fun a u e hf => ?_, S.ex0, fun a u e => ?_, S.clo, fun e he => ?_, ?_, fun f hf => ?_, S.len, S.slots, S.tmp, S.lim⟩
  · have q := S.keep a u e hf
    rw [upd_ne (ne_of_none q hp)]
    exact q
  · have q := S.ex1 a u e
    rw [upd_ne (ne_of_none q hp)]
    exact q
  · rcases List.mem_cons.mp he with rfl | he
    · exact ⟨S.h0 hp, hpI, o, upd_same, hw⟩
    · obtain ⟨h1, h2, o', h3, h4⟩ := S.own e he
      exact ⟨h1, h2, o', by rw [upd_ne (ne_of_none h3 hp)]; exact h3, h4⟩
  · rw [List.map_cons]
    refine List.nodup_cons.mpr ⟨fun hm => ?_, S.nd⟩
    obtain ⟨e, he, hp'⟩ := List.mem_map.mp hm
    obtain ⟨_, _, o', h3, _⟩ := S.own e he
    rw [hp'] at h3
    rw [hp] at h3; cases h3
  · obtain ⟨h1, h2, o', h3, h4⟩ := S.feed f hf
    exact ⟨h1, h2, o', by rw [upd_ne (ne_of_none h3 hp)]; exact h3, h4⟩
/-- an own object is changed -/
theorem SatI.ownPut {A C : List (Addr × Ow)} {p : Addr} {w w' : Ow} (S : SatI K B (A ++ (p, w) :: C) ρ T σ H HI) {o : HO} (hw : OwR K HI w' o) : SatI K B (A ++ (p, w') :: C) ρ T σ (upd H p o) HI := by
  have hmem : (p, w) ∈ A ++ (p, w) :: C := List.mem_append_right _ List.mem_cons_self
  obtain ⟨g1, g2, o0, g3, _⟩ := S.own _ hmem
  have nd := S.nd
  rw [List.map_append, List.map_cons] at nd
  have hp : ∀ e, e ∈ A ∨ e ∈ C → e.1 ≠ p := fun e he q => by
    have n2 := List.nodup_append.mp nd
    rcases he with he | he
    · exact n2.2.2 e.1 (List.mem_map_of_mem he) p List.mem_cons_self q
    · exact (List.nodup_cons.mp n2.2.1).1 (by
        show p ∈ C.map (·.1)
        rw [← q]
        exact List.mem_map_of_mem he)
  refine ⟨fun a u e hf => ?_, S.ex0, fun a u e => ?_, S.clo, fun e he => ?_, ?_, fun f hf => ?_, S.len, S.slots, S.tmp, S.lim⟩
  · have hne : a ≠ p := fun q => by
      rw [q] at e
      have g1' : B.H0 p = none := g1
      rw [g1'] at e; cases e
    rw [upd_ne hne]
    exact S.keep a u e hf
  · have hne : a ≠ p := fun q => by
      rw [q] at e
      have g2' : HI p = none := g2
      rw [g2'] at e; cases e
    rw [upd_ne hne]
    exact S.ex1 a u e
  · rcases List.mem_append.mp he with he' | he'
    · obtain ⟨h1, h2, o', h3, h4⟩ := S.own e (List.mem_append_left _ he')
      exact ⟨h1, h2, o', by rw [upd_ne (hp e (.inl he'))]; exact h3, h4⟩
    · rcases List.mem_cons.mp he' with rfl | he''
      · exact ⟨g1, g2, o, upd_same, hw⟩
      · obtain ⟨h1, h2, o', h3, h4⟩ := S.own e (List.mem_append_right _ (List.mem_cons_of_mem _ he''))
        exact ⟨h1, h2, o', by rw [upd_ne (hp e (.inr he''))]; exact h3, h4⟩
  · rw [List.map_append, List.map_cons]
    exact nd
  · obtain ⟨h1, h2, o', h3, h4⟩ := S.feed f hf
    have hne : f ≠ p := fun q => by
      rw [q] at h1
      exact h1 g1
    exact ⟨h1, h2, o', by rw [upd_ne hne]; exact h3, h4⟩
/-- one's own is forgotten -/
theorem SatI.sub {O' : List (Addr × Ow)} (S : SatI K B O ρ T σ H HI) (h : List.Sublist O' O) : SatI K B O' ρ T σ H HI :=
  ⟨S.keep, S.ex0, S.ex1, S.clo, fun e he => S.own e (h.mem he), S.nd.sublist (h.map _), S.feed, S.len, S.slots, S.tmp, S.lim⟩
/-- one's own changes no more -/
theorem SatI.freeze {p : Addr} {w : Ow} {o : HO} (S : SatI K B ((p, w) :: O) ρ T σ H HI) (ho : H p = some o) : SatI K B O ρ T σ H (upd HI p o) := by
  obtain ⟨g1, g2, o0, g3, _⟩ := S.own _ List.mem_cons_self
  have hs : Same HI (upd HI p o) := same_upd g2
  have nd := S.nd
  rw [List.map_cons] at nd
  have nd' := List.nodup_cons.mp nd
  refine ⟨S.keep, fun a u e => hs _ _ (S.ex0 a u e), fun a u e => ?_, fun a h1 h2 => ?_, fun e he => ?_, nd'.2, fun f hf => ?_, S.len, fun i s e => ?_, fun x hx => (S.tmp x hx).mono hs, S.lim⟩
  · by_cases hb : a = p
    · subst hb
      rw [upd_same] at e
      cases e
      exact ho
    · rw [upd_ne hb] at e
      exact S.ex1 a u e
  · have hne : a ≠ p := fun q => h1 (by rw [q]; exact g1)
    rw [upd_ne hne]
    exact S.clo a h1 h2
  · obtain ⟨h1, h2, o', h3, h4⟩ := S.own e (List.mem_cons_of_mem _ he)
    have hne : e.1 ≠ p := fun q => nd'.1 (by
      show p ∈ O.map (·.1)
      rw [← q]
      exact List.mem_map_of_mem he)
    exact ⟨h1, by rw [upd_ne hne]; exact h2, o', h3, h4.mono hs⟩
  · obtain ⟨h1, h2, o', h3, h4⟩ := S.feed f hf
    have hne : f ≠ p := fun q => by
      rw [q] at h1
      exact h1 g1
    exact ⟨h1, by rw [upd_ne hne]; exact h2, o', h3, h4.mono hs⟩
  · obtain ⟨v, q, r⟩ := S.slots i s e
    exact ⟨v, q, r.mono hs⟩
theorem SatI.push (S : SatI K B O ρ T σ H HI) {v : V} {d : Dt} (h : Dr K HI v d) : SatI K B O ρ ((v, d) :: T) σ H HI :=
  ⟨S.keep, S.ex0, S.ex1, S.clo, S.own, S.nd, S.feed, S.len, S.slots, fun x hx => by
    rcases List.mem_cons.mp hx with rfl | hx
    · exact h
    · exact S.tmp x hx, S.lim⟩
theorem SatI.pop {T' : List (V × Dt)} (S : SatI K B O ρ T σ H HI) (h : ∀ x ∈ T', x ∈ T) : SatI K B O ρ T' σ H HI :=
  ⟨S.keep, S.ex0, S.ex1, S.clo, S.own, S.nd, S.feed, S.len, S.slots, fun x hx => S.tmp x (h x hx), S.lim⟩
theorem SatI.put (S : SatI K B O ρ T σ H HI) {i : Nat} {s : Sl} {v : Option V} (h : SlOk K HI B.f s v) : SatI K B O (ρ.set i s) T (σ.set i v) H HI :=
  ⟨S.keep, S.ex0, S.ex1, S.clo, S.own, S.nd, S.feed, by rw [List.length_set, List.length_set]; exact S.len, fun j t e => by
    by_cases hj : i = j
    · subst hj
      rw [List.getElem?_set] at e ⊢
      have hl := S.len
      by_cases hi : i < ρ.length
      · rw [if_pos rfl, if_pos hi] at e
        rw [if_pos rfl, if_pos (by omega)]
        exact ⟨v, rfl, by
          have e' := Option.some.inj e
          rw [← e']
          exact h⟩
      · rw [if_pos rfl, if_neg hi] at e
        cases e
    · rw [List.getElem?_set_ne hj] at e
      rw [List.getElem?_set_ne hj]
      exact S.slots j t e, S.tmp, S.lim⟩
/-- slots of which less is known -/
theorem SatI.slot {ρ' : List Sl} {σ' : St} (S : SatI K B O ρ T σ H HI) (hl : σ'.length = ρ'.length) (h : ∀ (i : Nat) (s : Sl), ρ'[i]? = some s → ∃ v, σ'[i]? = some v ∧ SlOk K HI B.f s v) : SatI K B O ρ' T σ' H HI :=
  ⟨S.keep, S.ex0, S.ex1, S.clo, S.own, S.nd, S.feed, hl, h, S.tmp, S.lim⟩
theorem SatI.up (S : SatI K B O ρ T σ H HI) {c : Nat} (h : B.n + c ≤ LIM) : SatI K (B.add c) O ρ T σ H HI :=
  ⟨S.keep, S.ex0, S.ex1, S.clo, S.own, S.nd, fun f hf => by
    obtain ⟨h1, h2, o', h3, h4⟩ := S.feed f hf
    exact ⟨h1, h2, o', h3, h4.up (Nat.le_add_right _ _)⟩, S.len, S.slots, S.tmp, h⟩
/-- what does not change behind a call: what did not, and all that is new -/
def mx (HI H H' : Hp) : Hp := fun a => if (H a).isSome = true then HI a else H' a
theorem mx_old {HI H H' : Hp} {a : Addr} {u : HO} (h : H a = some u) : mx HI H H' a = HI a := by
  unfold mx
  rw [if_pos (by rw [h]; rfl)]
theorem mx_new {HI H H' : Hp} {a : Addr} (h : H a = none) : mx HI H H' a = H' a := by
  unfold mx
  rw [if_neg (by rw [h]; simp)]
theorem mx_same {HI H H' : Hp} (e : Same HI H) : Same HI (mx HI H H') := fun a u h => by
  rw [mx_old (e a u h)]
  exact h
/-- behind a call that leaves all but the feed -/
theorem SatI.call (S : SatI K B O ρ T σ H HI) {H' : Hp} {c : Nat} (hk : ∀ a u, H a = some u → B.f ≠ some a → H' a = some u) (hf : ∀ f, B.f = some f → ∃ o, H' f = some o ∧ FeedL K (mx HI H H') (B.n + c) o) (hc : B.n + c ≤ LIM) :
    SatI K (B.add c) O ρ T σ H' (mx HI H H') := by
  have hs : Same HI (mx HI H H') := mx_same S.ex1
  refine ⟨fun a u e h => hk _ _ (S.keep a u e h) h, fun a u e => hs _ _ (S.ex0 a u e), fun a u e => ?_, fun a h1 h2 => ?_, fun e he => ?_, S.nd, fun f h => ?_, S.len, fun i s e => ?_, fun x hx => (S.tmp x hx).mono hs, hc⟩
  · cases q : H a with
    | none =>
      rw [mx_new q] at e
      exact e
    | some o =>
      rw [mx_old q] at e
      refine hk a u (S.ex1 a u e) fun z => ?_
      obtain ⟨_, h2, _⟩ := S.feed a z
      rw [h2] at e; cases e
  · cases q : H a with
    | none => exact absurd (S.h0 q) h1
    | some o =>
      rw [mx_old q]
      exact S.clo a h1 h2
  · obtain ⟨h1, h2, o', h3, h4⟩ := S.own e he
    refine ⟨h1, by rw [mx_old h3]; exact h2, o', hk _ _ h3 fun z => ?_, h4.mono hs⟩
    obtain ⟨q, _, _⟩ := S.feed _ z
    exact q h1
  · obtain ⟨h1, h2, o', h3, h4⟩ := S.feed f h
    obtain ⟨o2, q1, q2⟩ := hf f h
    exact ⟨h1, by rw [mx_old h3]; exact h2, o2, q1, q2⟩
  · obtain ⟨v, q, r⟩ := S.slots i s e
    exact ⟨v, q, r.mono hs⟩
/-- what is known of the slots, as values beside -/
def svd1 : Sl → Option V → List (V × Dt)
  | .d x, some v => [(v, x)]
  | _, _ => []
def svd : List Sl → L2.St → List (V × Dt)
  | s :: ρ, v :: σ => svd1 s v ++ svd ρ σ
  | _, _ => []
theorem svd_mem : ∀ {ρ : List Sl} {σ : L2.St} {i : Nat} {x : Dt} {v : V}, ρ[i]? = some (.d x) → σ[i]? = some (some v) → (v, x) ∈ svd ρ σ
  | [], _, _, _, _, e, _ => by simp at e
  | _ :: _, [], _, _, _, _, e => by simp at e
  | s :: ρ, v' :: σ, 0, x, v, e, e' => by
    have h1 : s = .d x := by simpa using e
    have h2 : v' = some v := by simpa using e'
    subst h1
    subst h2
    exact List.mem_append_left _ List.mem_cons_self
  | s :: ρ, v' :: σ, i + 1, x, v, e, e' => List.mem_append_right _ (svd_mem (ρ := ρ) (σ := σ) (i := i) (x := x) (v := v) (by simpa using e) (by simpa using e'))
theorem svd_ok {bf : Option Addr} : ∀ {ρ : List Sl} {σ : L2.St}, (∀ (i : Nat) (s : Sl), ρ[i]? = some s → ∃ v, σ[i]? = some v ∧ SlOk K HI bf s v) → ∀ x ∈ svd ρ σ, Dr K HI x.1 x.2
  | [], _, _, x, hx => by cases hx
  | _ :: _, [], _, x, hx => by cases hx
  | s :: ρ, v' :: σ, h, x, hx => by
    have ih := svd_ok (ρ := ρ) (σ := σ) (fun i s e => by
      obtain ⟨v, q, r⟩ := h (i + 1) s (by simpa using e)
      exact ⟨v, by simpa using q, r⟩)
    rcases List.mem_append.mp hx with hx | hx
    · obtain ⟨v, q, r⟩ := h 0 _ rfl
      have q' : v' = v := by simpa using q
      subst q'
      cases s with
      | d y =>
        cases v' with
        | none => cases hx
        | some w =>
          obtain ⟨u, r1, r2⟩ := r
          cases r1
          rcases List.mem_cons.mp hx with rfl | hx
          · exact r2
          · cases hx
      | u => cases hx
      | o p => cases hx
      | fd => cases hx
    · exact ih x hx
theorem Sat.save (S : Sat K B O ρ T σ H) : Sat K B O ρ (svd ρ σ ++ T) σ H ∧
    ∀ (B' : Bs) (O' : List (Addr × Ow)) (ρ' : List Sl) (T' : List (V × Dt)) (σ' : L2.St) (H' : Hp), B'.f = B.f → Sat K B' O' ρ' (svd ρ σ ++ T') σ' H' → Sat K B' O' ρ T' σ H' := by
  obtain ⟨HI, S⟩ := S
  refine ⟨⟨HI, S.keep, S.ex0, S.ex1, S.clo, S.own, S.nd, S.feed, S.len, S.slots, fun x hx => ?_, S.lim⟩, fun B' O' ρ' T' σ' H' hf S' => ?_⟩
  · rcases List.mem_append.mp hx with hx | hx
    · exact svd_ok S.slots x hx
    · exact S.tmp x hx
  · obtain ⟨HI', S'⟩ := S'
    refine ⟨HI', (S'.pop fun x hx => List.mem_append_right _ hx).slot S.len fun i s e => ?_⟩
    obtain ⟨v, q, r⟩ := S.slots i s e
    refine ⟨v, q, ?_⟩
    cases s with
    | u => trivial
    | d x =>
      obtain ⟨u, r1, r2⟩ := r
      subst r1
      exact ⟨u, rfl, S'.tmp (u, x) (List.mem_append_left _ (svd_mem e q))⟩
    | o p => exact r
    | fd =>
      show ∃ f, B'.f = some f ∧ v = some (.ref f)
      rw [hf]
      exact r
end
end Lg


set_option Elab.async false
set_option linter.all false
set_option maxRecDepth 100000
set_option maxHeartbeats 4000000
set_option autoImplicit false
/-! Lg2: judgements of expressions, their rules. -/
namespace Lg
open PySem PySem.Spec L2

/-! ### what a piece of syntax does, as it is -/
section
variable {X : Cx}
structure SE (X : Cx) (e : Expr) (σ : L2.St) (H : Hp) (Q : VK) : Prop where
  run : ∀ pins s, Inv X pins σ H s → wpAny (model X.prog X.w) X.A (eval e X.env) (EP X pins σ Q) X.xe s
def sE (X : Cx) (e : Expr) : TE := SE X e
theorem pe_s {e : Expr} : PE X e (sE X e) := ⟨fun pins s σ H Q I h => SE.run h pins s I⟩
theorem PE.s {e : Expr} {t : TE} (h : PE X e t) {σ : L2.St} {H : Hp} {Q : VK} (q : t σ H Q) : sE X e σ H Q := SE.mk fun pins s I => h.run pins s σ H Q I q
structure ST (X : Cx) (e : Expr) (σ : L2.St) (H : Hp) (Q : Bool → Hp → Prop) : Prop where
  run : ∀ pins s, Inv X pins σ H s → wpAny (model X.prog X.w) X.A (isTrue e X.env (eval e X.env)) (TP X pins σ Q) X.xe s
def sT (X : Cx) (e : Expr) : TT := ST X e
theorem pt_s {e : Expr} : PT X e (sT X e) := ⟨fun pins s σ H Q I h => ST.run h pins s I⟩
theorem PT.s {e : Expr} {t : TT} (h : PT X e t) {σ : L2.St} {H : Hp} {Q : Bool → Hp → Prop} (q : t σ H Q) : sT X e σ H Q := ST.mk fun pins s I => h.run pins s σ H Q I q
structure SA (X : Cx) (es : List Expr) (σ : L2.St) (H : Hp) (Q : List V → Hp → Prop) : Prop where
  run : ∀ pos pins s, Inv X pins σ H s → wpAny (model X.prog X.w) X.A (spliced (backTo pos (starEach es X.env))) (AP X pins σ Q) X.xe s
def sA (X : Cx) (es : List Expr) : TA := SA X es
theorem pa_s {es : List Expr} : PA X es (sA X es) := ⟨fun pos pins s σ H Q I h => SA.run h pos pins s I⟩
theorem PA.s {es : List Expr} {t : TA} (h : PA X es t) {σ : L2.St} {H : Hp} {Q : List V → Hp → Prop} (q : t σ H Q) : sA X es σ H Q := SA.mk fun pos pins s I => h.run pos pins s σ H Q I q
structure SO (X : Cx) (e : Option Expr) (σ : L2.St) (H : Hp) (Q : Option Int → Hp → Prop) : Prop where
  run : ∀ pins s, Inv X pins σ H s → wpAny (model X.prog X.w) X.A (evalPart e X.env) (fun u s' => ∃ o H', Inv X pins σ H' s' ∧ IsPart u o ∧ Q o H') X.xe s
def sO (X : Cx) (e : Option Expr) : TO := SO X e
theorem po_s {e : Option Expr} : PO X e (sO X e) := ⟨fun pins s σ H Q I h => SO.run h pins s I⟩
theorem PO.s {e : Option Expr} {t : TO} (h : PO X e t) {σ : L2.St} {H : Hp} {Q : Option Int → Hp → Prop} (q : t σ H Q) : sO X e σ H Q := SO.mk fun pins s I => h.run pins s σ H Q I q
end

/-! ### judgements -/
/-- it comes to data of which P is so, at a cost of c -/
def EvP (te : TE) (K : PySem.W.Frag) (O : List (Addr × Ow)) (ρ : List Sl) (c : Nat) (P : Dt → Prop) : Prop :=
  ∀ (B : Bs) (F : List (Addr × Ow)) (T : List (V × Dt)) (σ : L2.St) (H : Hp) (Q : VK), B.n + c ≤ LIM → Sat K B (F ++ O) ρ T σ H →
    (∀ d v H2, P d → Sat K (B.add c) (F ++ O) ρ ((v, d) :: T) σ H2 → Q v H2) → te σ H Q
def EvT (tt : TT) (K : PySem.W.Frag) (O : List (Addr × Ow)) (ρ : List Sl) (c : Nat) (P : Bool → Prop) : Prop :=
  ∀ (B : Bs) (F : List (Addr × Ow)) (T : List (V × Dt)) (σ : L2.St) (H : Hp) (Q : Bool → Hp → Prop), B.n + c ≤ LIM → Sat K B (F ++ O) ρ T σ H →
    (∀ b H2, P b → Sat K (B.add c) (F ++ O) ρ T σ H2 → Q b H2) → tt σ H Q
def EvA (ta : TA) (K : PySem.W.Frag) (O : List (Addr × Ow)) (ρ : List Sl) (c : Nat) (P : List Dt → Prop) : Prop :=
  ∀ (B : Bs) (F : List (Addr × Ow)) (T : List (V × Dt)) (σ : L2.St) (H : Hp) (Q : List V → Hp → Prop), B.n + c ≤ LIM → Sat K B (F ++ O) ρ T σ H →
    (∀ ds vs H2, P ds → vs.length = ds.length → Sat K (B.add c) (F ++ O) ρ (vs.zip ds ++ T) σ H2 → Q vs H2) → ta σ H Q
def EvO (to : TO) (K : PySem.W.Frag) (O : List (Addr × Ow)) (ρ : List Sl) (c : Nat) (P : Option Int → Prop) : Prop :=
  ∀ (B : Bs) (F : List (Addr × Ow)) (T : List (V × Dt)) (σ : L2.St) (H : Hp) (Q : Option Int → Hp → Prop), B.n + c ≤ LIM → Sat K B (F ++ O) ρ T σ H →
    (∀ o H2, P o → Sat K (B.add c) (F ++ O) ρ T σ H2 → Q o H2) → to σ H Q
abbrev XE (X : Cx) (e : Expr) (O : List (Addr × Ow)) (ρ : List Sl) (c : Nat) (P : Dt → Prop) : Prop := EvP (sE X e) X.K O ρ c P
abbrev XD (X : Cx) (e : Expr) (O : List (Addr × Ow)) (ρ : List Sl) (d : Dt) : Prop := XE X e O ρ 0 (fun x => x = d)
abbrev XT (X : Cx) (e : Expr) (O : List (Addr × Ow)) (ρ : List Sl) (c : Nat) (P : Bool → Prop) : Prop := EvT (sT X e) X.K O ρ c P
abbrev XB (X : Cx) (e : Expr) (O : List (Addr × Ow)) (ρ : List Sl) (b : Bool) : Prop := XT X e O ρ 0 (fun x => x = b)
abbrev XA (X : Cx) (es : List Expr) (O : List (Addr × Ow)) (ρ : List Sl) (c : Nat) (P : List Dt → Prop) : Prop := EvA (sA X es) X.K O ρ c P
abbrev XL (X : Cx) (es : List Expr) (O : List (Addr × Ow)) (ρ : List Sl) (ds : List Dt) : Prop := XA X es O ρ 0 (fun x => x = ds)
abbrev XO (X : Cx) (e : Option Expr) (O : List (Addr × Ow)) (ρ : List Sl) (o : Option Int) : Prop := EvO (sO X e) X.K O ρ 0 (fun x => x = o)

section
variable {K : PySem.W.Frag} {O : List (Addr × Ow)} {ρ : List Sl} {c c1 c2 : Nat} {P P' : Dt → Prop} {B : Bs} {T : List (V × Dt)} {σ : L2.St} {H : Hp} {te ta tb : TE} {v : V} {d : Dt}
theorem Sat.lim (S : Sat K B O ρ T σ H) : B.n ≤ LIM := by
  obtain ⟨HI, S⟩ := S
  exact S.lim
theorem Sat.pop {T' : List (V × Dt)} (S : Sat K B O ρ T σ H) (h : ∀ x ∈ T', x ∈ T) : Sat K B O ρ T' σ H := by
  obtain ⟨HI, S⟩ := S
  exact ⟨HI, S.pop h⟩
theorem Sat.pop1 {x : V × Dt} (S : Sat K B O ρ (x :: T) σ H) : Sat K B O ρ T σ H := S.pop fun y hy => List.mem_cons_of_mem _ hy
/-- the third but the first two -/
theorem Sat.under {x y : V × Dt} (S : Sat K B O ρ (x :: y :: T) σ H) : Sat K B O ρ (x :: T) σ H := S.pop fun z hz => by
  rcases List.mem_cons.mp hz with rfl | hz
  · exact List.mem_cons_self
  · exact List.mem_cons_of_mem _ (List.mem_cons_of_mem _ hz)
theorem Sat.under2 {x y z : V × Dt} (S : Sat K B O ρ (x :: y :: z :: T) σ H) : Sat K B O ρ (x :: T) σ H := S.under.under
theorem Sat.up (S : Sat K B O ρ T σ H) {n : Nat} (h : B.n + n ≤ LIM) : Sat K (B.add n) O ρ T σ H := by
  obtain ⟨HI, S⟩ := S
  exact ⟨HI, S.up h⟩
theorem Sat.raise (S : Sat K B O ρ T σ H) {m : Nat} (e : B.n ≤ m) (h : m ≤ LIM) : Sat K ⟨B.H0, B.HI, B.f, m⟩ O ρ T σ H := by
  have q := S.up (n := m - B.n) (by omega)
  have e2 : B.n + (m - B.n) = m := by omega
  show Sat K ⟨B.H0, B.HI, B.f, m⟩ O ρ T σ H
  rw [← e2]
  exact q
theorem EvP.imp (h : EvP te K O ρ c P) (k : ∀ d, P d → P' d) : EvP te K O ρ c P' := fun B F T σ H Q hb S q => h B F T σ H Q hb S fun d v H2 p S2 => q d v H2 (k d p) S2
theorem EvP.more (h : EvP te K O ρ c P) (hc : c ≤ c1) : EvP te K O ρ c1 P := fun B F T σ H Q hb S q => h B F T σ H Q (by omega) S fun d v H2 p S2 => q d v H2 p (S2.raise (by show B.n + c ≤ _; omega) hb)
theorem EvT.more {tt : TT} {P : Bool → Prop} (h : EvT tt K O ρ c P) (hc : c ≤ c1) : EvT tt K O ρ c1 P := fun B F T σ H Q hb S q => h B F T σ H Q (by omega) S fun d H2 p S2 => q d H2 p (S2.raise (by show B.n + c ≤ _; omega) hb)
theorem EvT.imp {tt : TT} {P P' : Bool → Prop} (h : EvT tt K O ρ c P) (k : ∀ d, P d → P' d) : EvT tt K O ρ c P' := fun B F T σ H Q hb S q => h B F T σ H Q hb S fun d H2 p S2 => q d H2 (k d p) S2
theorem EvA.imp {ta : TA} {P P' : List Dt → Prop} (h : EvA ta K O ρ c P) (k : ∀ d, P d → P' d) : EvA ta K O ρ c P' := fun B F T σ H Q hb S q => h B F T σ H Q hb S fun d vs H2 p l S2 => q d vs H2 (k d p) l S2
theorem EvA.more {ta : TA} {P : List Dt → Prop} (h : EvA ta K O ρ c P) (hc : c ≤ c1) : EvA ta K O ρ c1 P := fun B F T σ H Q hb S q => h B F T σ H Q (by omega) S fun d vs H2 p l S2 => q d vs H2 p l (S2.raise (by show B.n + c ≤ _; omega) hb)
/-- a value that is there -/
theorem Sat.dr (S : Sat K B O ρ T σ H) (h : (v, d) ∈ T) : Dr K H v d := by
  obtain ⟨HI, S⟩ := S
  exact (S.tmp _ h).mono S.ex1
theorem drs_zip {H : Hp} : ∀ {vs : List V} {ds : List Dt}, vs.length = ds.length → (∀ x ∈ vs.zip ds, Dr K H x.1 x.2) → DrL K H vs ds
  | [], [], _, _ => .nil
  | [], _ :: _, e, _ => by cases e
  | _ :: _, [], e, _ => by cases e
  | v :: vs, d :: ds, e, h => .cons (h (v, d) List.mem_cons_self) (drs_zip (by simpa using e) fun x hx => h x (List.mem_cons_of_mem _ hx))
theorem zip_drs {H : Hp} : ∀ {vs : List V} {ds : List Dt}, DrL K H vs ds → ∀ x ∈ vs.zip ds, Dr K H x.1 x.2
  | _, _, .nil, x, hx => by simp at hx
  | _, _, .cons r t, x, hx => by
    rw [List.zip_cons_cons] at hx
    rcases List.mem_cons.mp hx with rfl | hx
    · exact r
    · exact zip_drs t x hx
/-- a new tuple -/
theorem Sat.newTup {vs : List V} {ds : List Dt} {p : Addr} (S : Sat K B O ρ (vs.zip ds ++ T) σ H) (hl : vs.length = ds.length) (hp : H p = none) : Sat K B O ρ ((.ref p, .tup ds) :: T) σ (upd H p (.tup vs)) := by
  obtain ⟨HI, S⟩ := S
  have r : DrL K HI vs ds := drs_zip hl fun x hx => S.tmp x (List.mem_append_left _ hx)
  have S2 := S.grow (o := .tup vs) hp
  refine ⟨_, (S2.pop fun x hx => List.mem_append_right _ hx).push (.tup (.inl (.inl upd_same)) (r.mono (same_upd (S.hi hp))))⟩
theorem Sat.newLst {vs : List V} {ds : List Dt} {p : Addr} (S : Sat K B O ρ (vs.zip ds ++ T) σ H) (hl : vs.length = ds.length) (hp : H p = none) : Sat K B O ρ ((.ref p, .lst ds) :: T) σ (upd H p (.lst vs)) := by
  obtain ⟨HI, S⟩ := S
  have r : DrL K HI vs ds := drs_zip hl fun x hx => S.tmp x (List.mem_append_left _ hx)
  have S2 := S.grow (o := .lst vs) hp
  refine ⟨_, (S2.pop fun x hx => List.mem_append_right _ hx).push (.lst upd_same (r.mono (same_upd (S.hi hp))))⟩
/-- data that need no heap -/
def flatD : Dt → Bool
  | .non => true | .bl _ => true | .int _ => true | .str _ => true | _ => false
theorem Dr.flat {H H' : Hp} (h : Dr K H v d) (f : flatD d = true) : Dr K H' v d := by
  cases h with
  | non => exact .non
  | bl b => exact .bl b
  | int i => exact .int i
  | str x => exact .str x
  | tup _ _ => cases f
  | lst _ _ => cases f
  | ob _ _ => cases f
  | dk _ _ => cases f
theorem Sat.flat (S : Sat K B O ρ T σ H) (h : Dr K (fun _ => none) v d) (f : flatD d = true) : Sat K B O ρ ((v, d) :: T) σ H := by
  obtain ⟨HI, S⟩ := S
  exact ⟨HI, S.push (h.flat f)⟩
theorem Sat.int (S : Sat K B O ρ T σ H) (i : Int) : Sat K B O ρ ((.int i, .int i) :: T) σ H := S.flat (.int i) rfl
theorem Sat.bl (S : Sat K B O ρ T σ H) (i : Bool) : Sat K B O ρ ((.bl i, .bl i) :: T) σ H := S.flat (.bl i) rfl
theorem Sat.non (S : Sat K B O ρ T σ H) : Sat K B O ρ ((.non, .non) :: T) σ H := S.flat .non rfl
theorem Sat.str (S : Sat K B O ρ T σ H) (x : Str) : Sat K B O ρ ((.str x, .str x) :: T) σ H := S.flat (.str x) rfl

/-! ### two operands -/
def RvP (K : PySem.W.Frag) (r : R2) (O : List (Addr × Ow)) (ρ : List Sl) (da db : Dt) (P : Dt → Prop) : Prop :=
  ∀ (B : Bs) (F : List (Addr × Ow)) (T : List (V × Dt)) (σ : L2.St) (H : Hp) (x y : V) (Q : VK), Sat K B (F ++ O) ρ ((y, db) :: (x, da) :: T) σ H →
    (∀ d v H2, P d → Sat K B (F ++ O) ρ ((v, d) :: T) σ H2 → Q v H2) → r x y H Q
abbrev RvD (K : PySem.W.Frag) (r : R2) (O : List (Addr × Ow)) (ρ : List Sl) (da db d : Dt) : Prop := RvP K r O ρ da db (fun x => x = d)
theorem ev_op {r : R2} {Pa Pb : Dt → Prop} (ha : EvP ta K O ρ c1 Pa) (hb : EvP tb K O ρ c2 Pb) (hr : ∀ da db, Pa da → Pb db → RvP K r O ρ da db P) : EvP (tOp r ta tb) K O ρ (c1 + c2) P := fun B F T σ H Q hlim S q => by
  refine ha B F T σ H _ (by omega) S fun da x H1 pa S1 => ?_
  refine hb (B.add c1) F _ σ H1 _ (by show B.n + c1 + c2 ≤ _; omega) S1 fun db y H2 pb S2 => ?_
  refine hr da db pa pb _ F T σ H2 x y Q S2 fun d v H3 p S3 => q d v H3 p ?_
  have e : (B.add c1).add c2 = B.add (c1 + c2) := by
    show (⟨_, _, _, B.n + c1 + c2⟩ : Bs) = ⟨_, _, _, B.n + (c1 + c2)⟩
    rw [Nat.add_assoc]
  rw [← e]
  exact S3
/-- the answer is an int, a bool: it changes nothing -/
theorem rv_flat {r : R2} {da db d : Dt} {w : V} (hw : Dr K (fun _ => none) w d) (hf : flatD d = true) (h : ∀ (H : Hp) (x y : V) (Q : VK), Dr K H x da → Dr K H y db → Q w H → r x y H Q) : RvD K r O ρ da db d := fun B F T σ H x y Q S q => by
  have h1 := S.dr (List.mem_cons_of_mem _ List.mem_cons_self)
  have h2 := S.dr List.mem_cons_self
  exact h H x y Q h1 h2 (q d w H rfl (S.pop1.pop1.flat hw hf))
theorem rv_I0 {g : Int → Int → V} {i j : Int} {d : Dt} (hw : Dr K (fun _ => none) (g i j) d) (hf : flatD d = true) : RvD K (rI0 g) O ρ (.int i) (.int j) d := rv_flat hw hf fun H x y Q h1 h2 q => by
  cases h1
  cases h2
  exact ⟨_, _, rfl, rfl, q⟩
theorem rv_I {C : Int → Int → Prop} {g : Int → Int → V} {i j : Int} {d : Dt} (hw : Dr K (fun _ => none) (g i j) d) (hf : flatD d = true) (hc : C i j) : RvD K (rI C g) O ρ (.int i) (.int j) d := rv_flat hw hf fun H x y Q h1 h2 q => by
  cases h1
  cases h2
  exact ⟨_, _, rfl, rfl, hc, q⟩
end

section
variable {X : Cx} {O : List (Addr × Ow)} {ρ : List Sl} {c c1 c2 : Nat} {P Pa Pb : Dt → Prop} {a b e : Expr} {pos : Pos} {d : Dt} {i j : Int}
theorem xe_of {t : TE} (h : PE X e t) (q : EvP t X.K O ρ c P) : XE X e O ρ c P := fun B F T σ H Q hb S k => PE.s h (q B F T σ H Q hb S k)
theorem xt_of {t : TT} {P : Bool → Prop} (h : PT X e t) (q : EvT t X.K O ρ c P) : XT X e O ρ c P := fun B F T σ H Q hb S k => PT.s h (q B F T σ H Q hb S k)
theorem XE.imp' {P' : Dt → Prop} (h : XE X e O ρ c P) (k : ∀ d, P d → P' d) : XE X e O ρ c P' := EvP.imp h k
/-! names, constants -/
theorem xd_var (i : Nat) {x : Str} (hρ : ρ[i]? = some (.d d) := by rfl) (hN : X.N[i]? = some x := by rfl)
    (hv : Vis X.env.scope x := by first | exact Or.inl rfl | exact Or.inr (Or.inl rfl) | exact Or.inr (Or.inr rfl)) (hd : (x == ("__debug__" : Str)) = false := by decide)
    (hcd : (x == ("__classdict__" : Str)) = false := by decide) : XD X (.Name x pos) O ρ d :=
  xe_of (pe_var hN hv hd hcd) fun B F T σ H Q hb S k => by
    obtain ⟨HI, S⟩ := S
    obtain ⟨v, e, u, ev, r⟩ := S.slots i _ hρ
    subst ev
    exact ⟨u, e, k d u H rfl ⟨HI, S.push r⟩⟩
theorem xd_int {k : Nat} : XD X (.Constant (.int i) k pos) O ρ (.int i) := xe_of pe_int fun B F T σ H Q hb S k => k _ _ H rfl (S.int i)
theorem xd_bl {k : Nat} {b : Bool} : XD X (.Constant (.bool b) k pos) O ρ (.bl b) := xe_of pe_bl fun B F T σ H Q hb S k => k _ _ H rfl (S.bl b)
theorem xd_non {k : Nat} : XD X (.Constant .none k pos) O ρ .non := xe_of pe_non fun B F T σ H Q hb S k => k _ _ H rfl S.non
theorem xd_str {k : Nat} {x : Str} : XD X (.Constant (.str x) k pos) O ρ (.str x) := xe_of pe_str fun B F T σ H Q hb S k => k _ _ H rfl (S.str x)
/-- a module's constant -/
theorem xd_glob {x : Str} {v : V} {u : Value} (hm : X.mg x = some u) (r : RelV v u) (hd : ∀ H, Dr X.K H v d) (hg : Gl X x := by rfl) (hdb : (x == ("__debug__" : Str)) = false := by decide) : XD X (.Name x pos) O ρ d :=
  xe_of (pe_glob hg hm r hdb) fun B F T σ H Q hb S k => k _ _ H rfl (by
    obtain ⟨HI, S⟩ := S
    exact ⟨HI, S.push (hd HI)⟩)
/-! operators -/
theorem xe_op {op : Operator} {r : R2} (ho : OpR X (binaryOp op) r) (ha : XE X a O ρ c1 Pa) (hb : XE X b O ρ c2 Pb) (hr : ∀ da db, Pa da → Pb db → RvP X.K r O ρ da db P) : XE X (.BinOp a op b pos) O ρ (c1 + c2) P :=
  xe_of (pe_op ho pe_s pe_s) (ev_op ha hb hr)
theorem xd_op {op : Operator} {r : R2} {da db : Dt} (ho : OpR X (binaryOp op) r) (ha : XD X a O ρ da) (hb : XD X b O ρ db) (hr : RvD X.K r O ρ da db d) : XD X (.BinOp a op b pos) O ρ d :=
  xe_op ho ha hb (by rintro _ _ rfl rfl; exact hr)
theorem xd_add (ha : XD X a O ρ (.int i)) (hb : XD X b O ρ (.int j)) : XD X (.BinOp a .Add b pos) O ρ (.int (i + j)) := xd_op op_add ha hb (rv_I0 (.int _) rfl)
theorem xd_sub (ha : XD X a O ρ (.int i)) (hb : XD X b O ρ (.int j)) : XD X (.BinOp a .Sub b pos) O ρ (.int (i - j)) := xd_op op_sub ha hb (rv_I0 (.int _) rfl)
theorem xd_mul (ha : XD X a O ρ (.int i)) (hb : XD X b O ρ (.int j)) (h : CMul i j) : XD X (.BinOp a .Mult b pos) O ρ (.int (i * j)) := xd_op op_mul ha hb (rv_I (.int _) rfl h)
theorem xd_mod (ha : XD X a O ρ (.int i)) (hb : XD X b O ρ (.int j)) (h : 0 < j) : XD X (.BinOp a .Mod b pos) O ρ (.int (i % j)) := xd_op op_mod ha hb (rv_I (.int _) rfl h)
theorem xd_fdiv (ha : XD X a O ρ (.int i)) (hb : XD X b O ρ (.int j)) (h : CDiv i j) : XD X (.BinOp a .FloorDiv b pos) O ρ (.int (i / j)) := xd_op op_fdiv ha hb (rv_I (.int _) rfl h)
theorem xd_pow (ha : XD X a O ρ (.int i)) (hb : XD X b O ρ (.int j)) (h : CPow i j) : XD X (.BinOp a .Pow b pos) O ρ (.int (i ^ j.toNat)) := xd_op op_pow ha hb (rv_I (.int _) rfl h)
/-- lists, one behind the other -/
theorem rv_cat {ds es : List Dt} (hl : ds.length + es.length ≤ 100000) : RvD X.K rCat O ρ (.lst ds) (.lst es) (.lst (ds ++ es)) := fun B F T σ H x y Q S q => by
  obtain ⟨HI, S⟩ := S
  have h1 := S.tmp _ (List.mem_cons_of_mem _ List.mem_cons_self)
  have h2 := S.tmp _ List.mem_cons_self
  cases h1 with
  | lst e1 r1 =>
    cases h2 with
    | lst e2 r2 =>
      refine ⟨_, _, _, _, rfl, rfl, S.ex1 _ _ e1, S.ex1 _ _ e2, ?_, fun p hp => q _ _ _ rfl ?_⟩
      · rw [r1.length, r2.length]
        exact Nat.le_trans hl (by decide)
      · exact ⟨_, ((S.pop (T' := T) fun x hx => List.mem_cons_of_mem _ (List.mem_cons_of_mem _ hx)).grow hp).push (.lst upd_same ((r1.append r2).mono (same_upd (S.hi hp))))⟩
theorem xd_cat {ds es : List Dt} (ha : XD X a O ρ (.lst ds)) (hb : XD X b O ρ (.lst es)) (hl : ds.length + es.length ≤ 100000) : XD X (.BinOp a .Add b pos) O ρ (.lst (ds ++ es)) := xd_op op_cat ha hb (rv_cat hl)
theorem rv_catT {ds es : List Dt} (hl : ds.length + es.length ≤ 100000) : RvD X.K (rCatA X.K) O ρ (.tup ds) (.tup es) (.tup (ds ++ es)) := fun B F T σ H x y Q S q => by
  obtain ⟨HI, S⟩ := S
  have h1 := S.tmp _ (List.mem_cons_of_mem _ List.mem_cons_self)
  have h2 := S.tmp _ List.mem_cons_self
  have S0 := S.pop (T' := T) fun x hx => List.mem_cons_of_mem _ (List.mem_cons_of_mem _ hx)
  cases h1 with
  | tup e1 r1 =>
    cases h2 with
    | tup e2 r2 =>
      refine ⟨_, _, _, _, rfl, rfl, sqT_le (Same.le S.ex1) e1, sqT_le (Same.le S.ex1) e2, ?_, fun z => ?_, fun _ z => ?_, fun _ _ p hp => q _ _ _ rfl ?_⟩
      · rw [r1.length, r2.length]
        exact Nat.le_trans hl (by decide)
      · subst z
        cases r1
        exact q _ _ _ rfl ⟨HI, S0.push (.tup e2 r2)⟩
      · subst z
        cases r2
        exact q _ _ _ rfl ⟨HI, S0.push (by rw [List.append_nil]; exact .tup e1 r1)⟩
      · refine ⟨_, (S0.grow hp).push (.tup (.inl (.inl upd_same)) ((r1.append r2).mono (same_upd (S.hi hp))))⟩
theorem xd_catT {ds es : List Dt} (ha : XD X a O ρ (.tup ds)) (hb : XD X b O ρ (.tup es)) (hl : ds.length + es.length ≤ 100000) : XD X (.BinOp a .Add b pos) O ρ (.tup (ds ++ es)) := xd_op op_catA ha hb (rv_catT hl)
/-! comparisons -/
theorem xe_cmp {op : CmpOp} {r : R2} (ho : OpR X (compareOp op) r) (hm : behindInMarks op b = false) (ha : XE X a O ρ c1 Pa) (hb : XE X b O ρ c2 Pb) (hr : ∀ da db, Pa da → Pb db → RvP X.K r O ρ da db P) :
    XE X (.Compare a [op] [b] pos) O ρ (c1 + c2) P := xe_of (pe_cmpR ho pe_s pe_s hm) (ev_op ha hb hr)
theorem xd_cmp {op : CmpOp} {r : R2} {da db : Dt} (ho : OpR X (compareOp op) r) (hm : behindInMarks op b = false) (ha : XD X a O ρ da) (hb : XD X b O ρ db) (hr : RvD X.K r O ρ da db d) : XD X (.Compare a [op] [b] pos) O ρ d :=
  xe_cmp ho hm ha hb (by rintro _ _ rfl rfl; exact hr)
theorem xd_lt (ha : XD X a O ρ (.int i)) (hb : XD X b O ρ (.int j)) : XD X (.Compare a [.Lt] [b] pos) O ρ (.bl (decide (i < j))) := xd_cmp op_lt (nomark _) ha hb (rv_I0 (.bl _) rfl)
theorem xd_le (ha : XD X a O ρ (.int i)) (hb : XD X b O ρ (.int j)) : XD X (.Compare a [.LtE] [b] pos) O ρ (.bl (decide (i ≤ j))) := xd_cmp op_le (nomark _) ha hb (rv_I0 (.bl _) rfl)
theorem xd_gt (ha : XD X a O ρ (.int i)) (hb : XD X b O ρ (.int j)) : XD X (.Compare a [.Gt] [b] pos) O ρ (.bl (decide (j < i))) := xd_cmp op_gt (nomark _) ha hb (rv_I0 (.bl _) rfl)
theorem xd_ge (ha : XD X a O ρ (.int i)) (hb : XD X b O ρ (.int j)) : XD X (.Compare a [.GtE] [b] pos) O ρ (.bl (decide (j ≤ i))) := xd_cmp op_ge (nomark _) ha hb (rv_I0 (.bl _) rfl)
theorem rv_eqI : RvD X.K rEq O ρ (.int i) (.int j) (.bl (decide (i = j))) := rv_flat (.bl _) rfl fun H x y Q h1 h2 q => by
  cases h1
  cases h2
  refine ⟨rfl, ?_⟩
  have e : decide (V.int i = V.int j) = decide (i = j) := by
    by_cases h : i = j
    · rw [decide_eq_true h, decide_eq_true (by rw [h])]
    · rw [decide_eq_false h, decide_eq_false fun z => h (V.int.inj z)]
  rw [e]
  exact q
theorem rv_neI : RvD X.K rNe O ρ (.int i) (.int j) (.bl (decide (i ≠ j))) := rv_flat (.bl _) rfl fun H x y Q h1 h2 q => by
  cases h1
  cases h2
  refine ⟨rfl, ?_⟩
  have e : (!decide (V.int i = V.int j)) = decide (i ≠ j) := by
    by_cases h : i = j
    · rw [decide_eq_true (show V.int i = V.int j by rw [h]), decide_eq_false (fun z => z h)]
      rfl
    · rw [decide_eq_false (show ¬ V.int i = V.int j from fun z => h (V.int.inj z)), decide_eq_true h]
      rfl
  rw [e]
  exact q
theorem rv_eqS {x y : Str} : RvD X.K rEq O ρ (.str x) (.str y) (.bl (decide (x = y))) := rv_flat (.bl _) rfl fun H u v Q h1 h2 q => by
  cases h1
  cases h2
  refine ⟨rfl, ?_⟩
  have e : decide (V.str x = V.str y) = decide (x = y) := by
    by_cases h : x = y
    · rw [decide_eq_true h, decide_eq_true (by rw [h])]
    · rw [decide_eq_false h, decide_eq_false fun z => h (V.str.inj z)]
  rw [e]
  exact q
theorem rv_neS {x y : Str} : RvD X.K rNe O ρ (.str x) (.str y) (.bl (decide (x ≠ y))) := rv_flat (.bl _) rfl fun H u v Q h1 h2 q => by
  cases h1
  cases h2
  refine ⟨rfl, ?_⟩
  have e : (!decide (V.str x = V.str y)) = decide (x ≠ y) := by
    by_cases h : x = y
    · rw [decide_eq_true (show V.str x = V.str y by rw [h]), decide_eq_false (fun z => z h)]
      rfl
    · rw [decide_eq_false (show ¬ V.str x = V.str y from fun z => h (V.str.inj z)), decide_eq_true h]
      rfl
  rw [e]
  exact q
theorem rv_neB {x y : Bool} : RvD X.K rNe O ρ (.bl x) (.bl y) (.bl (x != y)) := rv_flat (.bl _) rfl fun H u v Q h1 h2 q => by
  cases h1
  cases h2
  refine ⟨rfl, ?_⟩
  have e : (!decide (V.bl x = V.bl y)) = (x != y) := by cases x <;> cases y <;> rfl
  rw [e]
  exact q
theorem xd_eq (ha : XD X a O ρ (.int i)) (hb : XD X b O ρ (.int j)) : XD X (.Compare a [.Eq] [b] pos) O ρ (.bl (decide (i = j))) := xd_cmp op_eq (nomark _) ha hb rv_eqI
theorem xd_ne (ha : XD X a O ρ (.int i)) (hb : XD X b O ρ (.int j)) : XD X (.Compare a [.NotEq] [b] pos) O ρ (.bl (decide (i ≠ j))) := xd_cmp op_ne (nomark _) ha hb rv_neI
theorem xd_eqS {x y : Str} (ha : XD X a O ρ (.str x)) (hb : XD X b O ρ (.str y)) : XD X (.Compare a [.Eq] [b] pos) O ρ (.bl (decide (x = y))) := xd_cmp op_eq (nomark _) ha hb rv_eqS
theorem xd_neS {x y : Str} (ha : XD X a O ρ (.str x)) (hb : XD X b O ρ (.str y)) : XD X (.Compare a [.NotEq] [b] pos) O ρ (.bl (decide (x ≠ y))) := xd_cmp op_ne (nomark _) ha hb rv_neS
theorem xd_neB {x y : Bool} (ha : XD X a O ρ (.bl x)) (hb : XD X b O ρ (.bl y)) : XD X (.Compare a [.NotEq] [b] pos) O ρ (.bl (x != y)) := xd_cmp op_ne (nomark _) ha hb rv_neB
def isNon : Dt → Bool
  | .non => true | _ => false
theorem rv_isN {d : Dt} : RvD X.K (fun x y H Q => y = .non ∧ Q (.bl (decide (x = .non))) H) O ρ d .non (.bl (isNon d)) := rv_flat (.bl _) rfl fun H u v Q h1 h2 q => by
  cases h2
  refine ⟨rfl, ?_⟩
  have e : decide (u = V.non) = isNon d := by
    cases h1 <;> rfl
  rw [e]
  exact q
theorem rv_notN {d : Dt} : RvD X.K (fun x y H Q => y = .non ∧ Q (.bl (!decide (x = .non))) H) O ρ d .non (.bl (!isNon d)) := rv_flat (.bl _) rfl fun H u v Q h1 h2 q => by
  cases h2
  refine ⟨rfl, ?_⟩
  have e : decide (u = V.non) = isNon d := by
    cases h1 <;> rfl
  rw [e]
  exact q
theorem xd_isN {da : Dt} (ha : XD X a O ρ da) (hb : XD X b O ρ .non) : XD X (.Compare a [.Is] [b] pos) O ρ (.bl (isNon da)) := xd_cmp op_isN (nomark _) ha hb rv_isN
theorem xd_notN {da : Dt} (ha : XD X a O ρ da) (hb : XD X b O ρ .non) : XD X (.Compare a [.IsNot] [b] pos) O ρ (.bl (!isNon da)) := xd_cmp op_notN (nomark _) ha hb rv_notN
/-! in, not in a list or tuple of ints (bools) -/
theorem flat_ints (ns : List Int) : (ns.map V.int).all flatV = true := by
  rw [List.all_eq_true]
  intro x hx
  obtain ⟨n, _, rfl⟩ := List.mem_map.mp hx
  rfl
theorem inV_ints (i : Int) : ∀ ns : List Int, inV (.int i) (ns.map V.int) = decide (i ∈ ns)
  | [] => rfl
  | n :: r => by
    show (eqV (.int n) (.int i) || inV (.int i) (r.map V.int)) = decide (i ∈ n :: r)
    rw [inV_ints i r]
    show ((n == i) || decide (i ∈ r)) = decide (i ∈ n :: r)
    by_cases h : n = i
    · subst h
      simp
    · have h2 : ¬ i = n := fun z => h z.symm
      rw [beq_eq_false_iff_ne.mpr h, Bool.false_or]
      simp [List.mem_cons, h2]
theorem rv_in {neg : Bool} {ns : List Int} : RvD X.K (rIn X.K neg) O ρ (.int i) (.lst (ns.map Dt.int)) (.bl (if neg then !decide (i ∈ ns) else decide (i ∈ ns))) := rv_flat (.bl _) rfl fun H u v Q h1 h2 q => by
  cases h1
  cases h2 with
  | lst e r =>
    have z := r.ints
    subst z
    refine ⟨_, _, rfl, .inl (.inl (.inl e)), rfl, flat_ints ns, ?_⟩
    rw [inV_ints]
    exact q
theorem rv_inT {neg : Bool} {ns : List Int} : RvD X.K (rIn X.K neg) O ρ (.int i) (.tup (ns.map Dt.int)) (.bl (if neg then !decide (i ∈ ns) else decide (i ∈ ns))) := rv_flat (.bl _) rfl fun H u v Q h1 h2 q => by
  cases h1
  cases h2 with
  | tup e r =>
    have z := r.ints
    subst z
    refine ⟨_, _, rfl, .inr e, rfl, flat_ints ns, ?_⟩
    rw [inV_ints]
    exact q
theorem flat_bls (ns : List Bool) : (ns.map V.bl).all flatV = true := by
  rw [List.all_eq_true]
  intro x hx
  obtain ⟨n, _, rfl⟩ := List.mem_map.mp hx
  rfl
theorem inV_bls (i : Bool) : ∀ ns : List Bool, inV (.bl i) (ns.map V.bl) = decide (i ∈ ns)
  | [] => rfl
  | n :: r => by
    show (eqV (.bl n) (.bl i) || inV (.bl i) (r.map V.bl)) = decide (i ∈ n :: r)
    rw [inV_bls i r]
    show ((n == i) || decide (i ∈ r)) = decide (i ∈ n :: r)
    cases n <;> cases i <;> simp
theorem rv_inB {neg : Bool} {i : Bool} {ns : List Bool} : RvD X.K (rIn X.K neg) O ρ (.bl i) (.lst (ns.map Dt.bl)) (.bl (if neg then !decide (i ∈ ns) else decide (i ∈ ns))) := rv_flat (.bl _) rfl fun H u v Q h1 h2 q => by
  cases h1
  cases h2 with
  | lst e r =>
    have z := r.bls
    subst z
    refine ⟨_, _, rfl, .inl (.inl (.inl e)), rfl, flat_bls ns, ?_⟩
    rw [inV_bls]
    exact q
theorem xd_in {ns : List Int} (ha : XD X a O ρ (.int i)) (hb : XD X b O ρ (.lst (ns.map Dt.int))) (hm : behindInMarks .In b = false := by rfl) : XD X (.Compare a [.In] [b] pos) O ρ (.bl (decide (i ∈ ns))) := xd_cmp op_in_seq hm ha hb rv_in
theorem xd_notIn {ns : List Int} (ha : XD X a O ρ (.int i)) (hb : XD X b O ρ (.lst (ns.map Dt.int))) (hm : behindInMarks .NotIn b = false := by rfl) : XD X (.Compare a [.NotIn] [b] pos) O ρ (.bl (!decide (i ∈ ns))) := xd_cmp op_notIn_seq hm ha hb rv_in
theorem xd_inT {ns : List Int} (ha : XD X a O ρ (.int i)) (hb : XD X b O ρ (.tup (ns.map Dt.int))) (hm : behindInMarks .In b = false := by rfl) : XD X (.Compare a [.In] [b] pos) O ρ (.bl (decide (i ∈ ns))) := xd_cmp op_in_seq hm ha hb rv_inT
theorem xd_notInB {k : Bool} {ns : List Bool} (ha : XD X a O ρ (.bl k)) (hb : XD X b O ρ (.lst (ns.map Dt.bl))) (hm : behindInMarks .NotIn b = false := by rfl) : XD X (.Compare a [.NotIn] [b] pos) O ρ (.bl (!decide (k ∈ ns))) := xd_cmp op_notIn_seq hm ha hb rv_inB
end
end Lg


set_option Elab.async false
set_option linter.all false
set_option maxRecDepth 100000
set_option maxHeartbeats 4000000
set_option autoImplicit false
/-! Lg3: more rules of expressions. -/
namespace Lg
open PySem PySem.Spec L2

/-! ### a list (dict) that is read: data, or one's own -/
def LsAt (K : PySem.W.Frag) (O : List (Addr × Ow)) (ρ : List Sl) (T0 : List (V × Dt)) (a : Addr) (ds : List Dt) : Prop :=
  ∀ (B : Bs) (T : List (V × Dt)) (σ : L2.St) (H HI : Hp), SatI K B O ρ (T0 ++ T) σ H HI → ∃ xs, H a = some (.lst xs) ∧ DrL K HI xs ds
def EvS (te : TE) (K : PySem.W.Frag) (O : List (Addr × Ow)) (ρ : List Sl) (ds : List Dt) : Prop :=
  ∀ (B : Bs) (F : List (Addr × Ow)) (T : List (V × Dt)) (σ : L2.St) (H : Hp) (Q : VK), Sat K B (F ++ O) ρ T σ H →
    (∀ a T0 H2, LsAt K (F ++ O) ρ T0 a ds → Sat K B (F ++ O) ρ (T0 ++ T) σ H2 → Q (.ref a) H2) → te σ H Q
def DkAt (K : PySem.W.Frag) (O : List (Addr × Ow)) (ρ : List Sl) (T0 : List (V × Dt)) (a : Addr) (ds : List (Key × Dt)) : Prop :=
  ∀ (B : Bs) (T : List (V × Dt)) (σ : L2.St) (H HI : Hp), SatI K B O ρ (T0 ++ T) σ H HI → ∃ xs, Rd H a (.dK xs) ∧ DrK K HI xs ds
def EvK (te : TE) (K : PySem.W.Frag) (O : List (Addr × Ow)) (ρ : List Sl) (ds : List (Key × Dt)) : Prop :=
  ∀ (B : Bs) (F : List (Addr × Ow)) (T : List (V × Dt)) (σ : L2.St) (H : Hp) (Q : VK), Sat K B (F ++ O) ρ T σ H →
    (∀ a T0 H2, DkAt K (F ++ O) ρ T0 a ds → Sat K B (F ++ O) ρ (T0 ++ T) σ H2 → Q (.ref a) H2) → te σ H Q
abbrev XS (X : Cx) (e : Expr) (O : List (Addr × Ow)) (ρ : List Sl) (ds : List Dt) : Prop := EvS (sE X e) X.K O ρ ds
abbrev XKd (X : Cx) (e : Expr) (O : List (Addr × Ow)) (ρ : List Sl) (ds : List (Key × Dt)) : Prop := EvK (sE X e) X.K O ρ ds
section
variable {X : Cx} {O : List (Addr × Ow)} {ρ : List Sl} {c c1 c2 : Nat} {P Pa Pb : Dt → Prop} {a b e : Expr} {pos : Pos} {d : Dt} {i j : Int}
theorem add0 {B : Bs} : B.add 0 = B := rfl
theorem xd_is {d' : Dt} (h : XD X e O ρ d) (q : d = d') : XD X e O ρ d' := by
  subst q
  exact h
theorem xb_is {k l : Bool} (h : XB X e O ρ k) (q : k = l) : XB X e O ρ l := by
  subst q
  exact h
theorem XD.ls {ds : List Dt} (h : XD X e O ρ (.lst ds)) : XS X e O ρ ds := fun B F T σ H Q S k => h B F T σ H Q S.lim S fun d v H2 p S2 => by
  subst p
  cases S2.dr List.mem_cons_self with
  | lst e1 r1 =>
    rename_i a xs
    refine k a [(.ref a, .lst ds)] H2 (fun B' T' σ' H' HI' S' => ?_) S2
    cases S'.tmp _ List.mem_cons_self with
    | lst e2 r2 => exact ⟨_, S'.ex1 _ _ e2, r2⟩
theorem XD.k {ds : List (Key × Dt)} (h : XD X e O ρ (.dk ds)) : XKd X e O ρ ds := fun B F T σ H Q S k => h B F T σ H Q S.lim S fun d v H2 p S2 => by
  subst p
  cases S2.dr List.mem_cons_self with
  | dk e1 r1 =>
    rename_i a xs
    refine k a [(.ref a, .dk ds)] H2 (fun B' T' σ' H' HI' S' => ?_) S2
    cases S'.tmp _ List.mem_cons_self with
    | dk e2 r2 => exact ⟨_, rd_same S'.ex1 e2, r2⟩
/-- a name that holds one's own list -/
theorem xs_own (i : Nat) {x : Str} {p : Addr} {ds : List Dt} (hρ : ρ[i]? = some (.o p) := by rfl) (hO : (p, Ow.lst ds) ∈ O := by first | exact List.mem_cons_self | exact List.mem_cons_of_mem _ List.mem_cons_self | assumption) (hN : X.N[i]? = some x := by rfl)
    (hv : Vis X.env.scope x := by first | exact Or.inl rfl | exact Or.inr (Or.inl rfl) | exact Or.inr (Or.inr rfl)) (hd : (x == ("__debug__" : Str)) = false := by decide)
    (hcd : (x == ("__classdict__" : Str)) = false := by decide) : XS X (.Name x pos) O ρ ds := fun B F T σ H Q S k => PE.s (pe_var hN hv hd hcd) (by
    obtain ⟨HI, S⟩ := S
    obtain ⟨v, e, ev⟩ := S.slots i _ hρ
    have ev' : v = some (.ref p) := ev
    subst ev'
    refine ⟨.ref p, e, k p [] H (fun B' T' σ' H' HI' S' => ?_) ⟨HI, S⟩⟩
    obtain ⟨_, _, o, q, xs, e1, r1⟩ := S'.own _ (List.mem_append_right _ hO)
    subst e1
    exact ⟨xs, q, r1⟩)
theorem xk_own (i : Nat) {x : Str} {p : Addr} {ds : List (Key × Dt)} (hρ : ρ[i]? = some (.o p) := by rfl) (hO : (p, Ow.dk ds) ∈ O := by first | exact List.mem_cons_self | exact List.mem_cons_of_mem _ List.mem_cons_self | assumption) (hN : X.N[i]? = some x := by rfl)
    (hv : Vis X.env.scope x := by first | exact Or.inl rfl | exact Or.inr (Or.inl rfl) | exact Or.inr (Or.inr rfl)) (hd : (x == ("__debug__" : Str)) = false := by decide)
    (hcd : (x == ("__classdict__" : Str)) = false := by decide) : XKd X (.Name x pos) O ρ ds := fun B F T σ H Q S k => PE.s (pe_var hN hv hd hcd) (by
    obtain ⟨HI, S⟩ := S
    obtain ⟨v, e, ev⟩ := S.slots i _ hρ
    have ev' : v = some (.ref p) := ev
    subst ev'
    refine ⟨.ref p, e, k p [] H (fun B' T' σ' H' HI' S' => ?_) ⟨HI, S⟩⟩
    obtain ⟨_, _, o, q, xs, e1, r1⟩ := S'.own _ (List.mem_append_right _ hO)
    subst e1
    exact ⟨xs, .inl q, r1⟩)
/-- an operator whose left side is a list -/
theorem ev_opS {K : PySem.W.Frag} {ta tb : TE} {r : R2} {ds : List Dt} (ha : EvS ta K O ρ ds) (hb : EvP tb K O ρ c Pb)
    (hr : ∀ db, Pb db → ∀ (B : Bs) (F : List (Addr × Ow)) (T : List (V × Dt)) (σ : L2.St) (H HI : Hp) (l : Addr) (y : V) (xs : List V) (Q : VK), SatI K B (F ++ O) ρ T σ H HI → H l = some (.lst xs) → DrL K HI xs ds → Dr K HI y db →
      (∀ d v H2, P d → Sat K B (F ++ O) ρ ((v, d) :: T) σ H2 → Q v H2) → r (.ref l) y H Q) : EvP (tOp r ta tb) K O ρ c P := fun B F T σ H Q hlim S q => by
  refine ha B F T σ H _ S fun l T0 H1 hl S1 => ?_
  refine hb B F _ σ H1 _ hlim S1 fun db y H2 pb S2 => ?_
  obtain ⟨HI, S2⟩ := S2
  obtain ⟨xs, e1, r1⟩ := hl (B.add c) T σ H2 HI (S2.pop fun x hx => List.mem_cons_of_mem _ hx)
  exact hr db pb (B.add c) F T σ H2 HI l y xs Q (S2.pop fun x hx => List.mem_cons_of_mem _ (List.mem_append_right _ hx)) e1 r1 (S2.tmp _ List.mem_cons_self) q
/-- an operator whose right side is a list -/
theorem ev_opS2 {K : PySem.W.Frag} {ta tb : TE} {r : R2} {ds : List Dt} (ha : EvP ta K O ρ c Pa) (hb : EvS tb K O ρ ds)
    (hr : ∀ da, Pa da → ∀ (B : Bs) (F : List (Addr × Ow)) (T : List (V × Dt)) (σ : L2.St) (H HI : Hp) (x : V) (l : Addr) (xs : List V) (Q : VK), SatI K B (F ++ O) ρ T σ H HI → H l = some (.lst xs) → DrL K HI xs ds → Dr K HI x da →
      (∀ d v H2, P d → Sat K B (F ++ O) ρ ((v, d) :: T) σ H2 → Q v H2) → r x (.ref l) H Q) : EvP (tOp r ta tb) K O ρ c P := fun B F T σ H Q hlim S q => by
  refine ha B F T σ H _ hlim S fun da x H1 pa S1 => ?_
  refine hb (B.add c) F _ σ H1 _ S1 fun l T0 H2 hl S2 => ?_
  obtain ⟨HI, S2⟩ := S2
  obtain ⟨xs, e1, r1⟩ := hl (B.add c) _ σ H2 HI S2
  exact hr da pa (B.add c) F T σ H2 HI x l xs Q (S2.pop fun x hx => List.mem_append_right _ (List.mem_cons_of_mem _ hx)) e1 r1 (S2.tmp _ (List.mem_append_right _ List.mem_cons_self)) q
theorem xs_in {ns : List Int} (ha : XD X a O ρ (.int i)) (hb : XS X b O ρ (ns.map Dt.int)) (hm : behindInMarks .In b = false := by rfl) : XD X (.Compare a [.In] [b] pos) O ρ (.bl (decide (i ∈ ns))) :=
  xe_of (pe_cmpR op_in_seq pe_s pe_s hm) (ev_opS2 ha hb fun da pa B F T σ H HI x l xs Q S e r rx q => by
    subst pa
    cases rx
    have z := r.ints
    subst z
    refine ⟨_, _, rfl, .inl (.inl (.inl e)), rfl, flat_ints ns, ?_⟩
    rw [inV_ints]
    exact q _ _ _ rfl ⟨HI, S.push (.bl _)⟩)
theorem xs_notIn {ns : List Int} (ha : XD X a O ρ (.int i)) (hb : XS X b O ρ (ns.map Dt.int)) (hm : behindInMarks .NotIn b = false := by rfl) : XD X (.Compare a [.NotIn] [b] pos) O ρ (.bl (!decide (i ∈ ns))) :=
  xe_of (pe_cmpR op_notIn_seq pe_s pe_s hm) (ev_opS2 ha hb fun da pa B F T σ H HI x l xs Q S e r rx q => by
    subst pa
    cases rx
    have z := r.ints
    subst z
    refine ⟨_, _, rfl, .inl (.inl (.inl e)), rfl, flat_ints ns, ?_⟩
    rw [inV_ints]
    exact q _ _ _ rfl ⟨HI, S.push (.bl _)⟩)
/-! ### items -/
theorem drL_at {K : PySem.W.Frag} {H : Hp} {xs : List V} {ds : List Dt} (r : DrL K H xs ds) (h : atI ds i = some d) : ∃ v, atI xs i = some v ∧ Dr K H v d := by
  unfold atI at h ⊢
  rw [r.length]
  cases e : ixN ds.length i with
  | none =>
    rw [e] at h
    cases h
  | some j =>
    rw [e] at h
    have h' : ds[j]? = some d := h
    exact r.get h'
theorem xe_ixL {ds : List Dt} (ha : XS X a O ρ ds) (hb : XE X b O ρ c Pb) (hr : ∀ db, Pb db → ∃ i d, db = .int i ∧ atI ds i = some d ∧ P d) (hs : PlainIx b := by intro _ _; rfl) : XE X (.Subscript a b pos) O ρ c P :=
  xe_of (pe_ix ix_list pe_s pe_s hs) (ev_opS ha hb fun db pb B F T σ H HI l y xs Q S e r ry q => by
    obtain ⟨i, d, rfl, h1, h2⟩ := hr db pb
    cases ry
    obtain ⟨v, h3, h4⟩ := drL_at r h1
    exact ⟨l, xs, i, v, rfl, rfl, .inl (.inl e), h3, q d v H h2 ⟨HI, S.push h4⟩⟩)
theorem xd_ixL {ds : List Dt} (ha : XS X a O ρ ds) (hb : XD X b O ρ (.int i)) (h : atI ds i = some d) (hs : PlainIx b := by intro _ _; rfl) : XD X (.Subscript a b pos) O ρ d :=
  xe_ixL ha hb (fun db p => ⟨i, d, p, h, rfl⟩) hs
theorem xe_ixT (ha : XE X a O ρ c1 Pa) (hb : XE X b O ρ c2 Pb) (hr : ∀ da db, Pa da → Pb db → ∃ ds i d, da = .tup ds ∧ db = .int i ∧ atI ds i = some d ∧ P d) (hs : PlainIx b := by intro _ _; rfl) : XE X (.Subscript a b pos) O ρ (c1 + c2) P :=
  xe_of (pe_ix ix_tup pe_s pe_s hs) (ev_op ha hb fun da db pa pb B F T σ H x y Q S q => by
    obtain ⟨ds, i, d, rfl, rfl, h1, h2⟩ := hr da db pa pb
    obtain ⟨HI, S⟩ := S
    have r1 := S.tmp _ (List.mem_cons_of_mem _ List.mem_cons_self)
    have r2 := S.tmp _ List.mem_cons_self
    cases r2
    cases r1 with
    | tup e1 r1 =>
      obtain ⟨v, h3, h4⟩ := drL_at r1 h1
      exact ⟨_, _, i, v, rfl, rfl, sqT_le (Same.le S.ex1) e1, h3, q d v H h2 ⟨HI, (S.pop fun x hx => List.mem_cons_of_mem _ (List.mem_cons_of_mem _ hx)).push h4⟩⟩)
theorem xd_ixT {ds : List Dt} (ha : XD X a O ρ (.tup ds)) (hb : XD X b O ρ (.int i)) (h : atI ds i = some d) (hs : PlainIx b := by intro _ _; rfl) : XD X (.Subscript a b pos) O ρ d :=
  xe_ixT ha hb (fun da db p q => ⟨ds, i, d, p, q, h, rfl⟩) hs
/-! ### slices -/
def cutD {α : Type} (xs : List α) (lo hi : Option Int) : List α := (xs.drop (HT.sIx xs.length 0 lo)).take (HT.sIx xs.length xs.length hi - HT.sIx xs.length 0 lo)
theorem drL_cut {K : PySem.W.Frag} {H : Hp} {xs : List V} {ds : List Dt} (r : DrL K H xs ds) (lo hi : Option Int) : DrL K H (cutV xs lo hi) (cutD ds lo hi) := by
  unfold cutV cutD
  rw [r.length]
  exact (r.drop _).take _
theorem xo_none : XO X none O ρ none := fun B F T σ H Q hb S k => PO.s po_none (k none H rfl S)
theorem xo_some (h : XD X e O ρ (.int i)) : XO X (some e) O ρ (some i) := fun B F T σ H Q hb S k => PO.s (po_some pe_s) (h B F T σ H _ hb S fun d v H2 p S2 => by
  subst p
  cases S2.dr List.mem_cons_self
  exact ⟨i, rfl, k _ _ rfl S2.pop1⟩)
theorem xd_slL {ds : List Dt} {lo hi : Option Expr} {l h : Option Int} {p2 : Pos} (ha : XS X a O ρ ds) (hl : XO X lo O ρ l) (hh : XO X hi O ρ h) : XD X (.Subscript a (.Slice lo hi none p2) pos) O ρ (.lst (cutD ds l h)) :=
  xe_of (pe_slice sl_list pe_s po_s po_s) fun B F T σ H Q hb S k => by
    refine ha B F T σ H _ S fun q T0 H1 hq S1 => ?_
    refine hl B F _ σ H1 _ hb S1 fun o1 H2 p1 S2 => ?_
    refine hh B F _ σ H2 _ hb S2 fun o2 H3 p2 S3 => ?_
    subst p1
    subst p2
    obtain ⟨HI, S3⟩ := S3
    obtain ⟨xs, e1, r1⟩ := hq B T σ H3 HI S3
    exact ⟨q, xs, rfl, .inl (.inl e1), fun p hp => k _ _ _ rfl ⟨_, ((S3.pop (T' := T) fun x hx => List.mem_append_right _ hx).grow hp).push (.lst upd_same ((drL_cut r1 _ _).mono (same_upd (S3.hi hp))))⟩⟩
theorem xd_slT {ds : List Dt} {lo hi : Option Expr} {l h : Option Int} {p2 : Pos} (ha : XD X a O ρ (.tup ds)) (hl : XO X lo O ρ l) (hh : XO X hi O ρ h) : XD X (.Subscript a (.Slice lo hi none p2) pos) O ρ (.tup (cutD ds l h)) :=
  xe_of (pe_slice sl_tupA pe_s po_s po_s) fun B F T σ H Q hb S k => by
    refine ha B F T σ H _ hb S fun d0 v H1 p0 S1 => ?_
    subst p0
    refine hl B F _ σ H1 _ hb S1 fun o1 H2 p1 S2 => ?_
    refine hh B F _ σ H2 _ hb S2 fun o2 H3 p2 S3 => ?_
    subst p1
    subst p2
    obtain ⟨HI, S3⟩ := S3
    have S0 := S3.pop (T' := T) fun x hx => List.mem_cons_of_mem _ hx
    have r0 := S3.tmp _ List.mem_cons_self
    cases r0 with
    | tup e1 r1 =>
      refine ⟨_, _, rfl, sqT_le (Same.le S3.ex1) e1, fun z => ?_, fun z p hp => ?_⟩
      · refine k _ _ _ rfl ⟨HI, S0.push ?_⟩
        have e : cutD ds o1 o2 = ds := by
          unfold cutD
          rw [← r1.length, z.1, z.2, List.drop_zero, r1.length, Nat.sub_zero, List.take_length]
        rw [e]
        exact .tup e1 r1
      · exact k _ _ _ rfl ⟨_, (S0.grow hp).push (.tup (.inl (.inl upd_same)) ((drL_cut r1 _ _).mono (same_upd (S3.hi hp))))⟩
/-! ### tests -/
theorem xt_val {Pb : Bool → Prop} (h : XE X e O ρ c P) (k : ∀ d, P d → ∃ b, d = .bl b ∧ Pb b) (he : ∀ whole, isTrue e X.env whole = (do let v ← whole; standAt e.pos; holding [v] (truthy v)) := by intro _; rfl) : XT X e O ρ c Pb :=
  xt_of (pt_val pe_s he) fun B F T σ H Q hb S q => h B F T σ H _ hb S fun d v H2 p S2 => by
    obtain ⟨b, rfl, pb⟩ := k d p
    cases S2.dr List.mem_cons_self
    exact ⟨b, rfl, q b H2 pb S2.pop1⟩
theorem xb_val {b : Bool} (h : XD X e O ρ (.bl b)) (he : ∀ whole, isTrue e X.env whole = (do let v ← whole; standAt e.pos; holding [v] (truthy v)) := by intro _; rfl) : XB X e O ρ b := xt_val h (fun d p => ⟨b, p, rfl⟩) he
theorem xt_cmp {op : CmpOp} {r : R2} {Pb' : Bool → Prop} (ho : OpR X (compareOp op) r) (hm : behindInMarks op b = false) (ha : XE X a O ρ c1 Pa) (hb : XE X b O ρ c2 Pb) (hr : ∀ da db, Pa da → Pb db → RvP X.K r O ρ da db (fun d => ∃ k, d = .bl k ∧ Pb' k)) : XT X (.Compare a [op] [b] pos) O ρ (c1 + c2) Pb' :=
  xt_of (pt_cmpR ho pe_s pe_s hm) fun B F T σ H Q hl S q => ev_op ha hb hr B F T σ H _ hl S fun d v H2 p S2 => by
    obtain ⟨k, rfl, pk⟩ := p
    cases S2.dr List.mem_cons_self
    exact ⟨k, rfl, q k H2 pk S2.pop1⟩
theorem xb_cmp {op : CmpOp} {r : R2} {k : Bool} {da db : Dt} (ho : OpR X (compareOp op) r) (hm : behindInMarks op b = false) (ha : XD X a O ρ da) (hb : XD X b O ρ db) (hr : RvD X.K r O ρ da db (.bl k)) : XB X (.Compare a [op] [b] pos) O ρ k :=
  xt_cmp ho hm ha hb (by
    rintro _ _ rfl rfl
    exact fun B F T σ H x y Q S q => hr B F T σ H x y Q S fun d v H2 p S2 => q d v H2 ⟨k, p, rfl⟩ S2)
/-- the right side a list, one's own or not -/
theorem xb_cmpS {op : CmpOp} {neg : Bool} {ns : List Int} (ho : OpR X (compareOp op) (rIn X.K neg)) (hm : behindInMarks op b = false) (ha : XD X a O ρ (.int i)) (hb : XS X b O ρ (ns.map Dt.int)) : XB X (.Compare a [op] [b] pos) O ρ (if neg then !decide (i ∈ ns) else decide (i ∈ ns)) :=
  xt_of (pt_cmpR ho pe_s pe_s hm) fun B F T σ H Q hl S q => ev_opS2 (P := fun d => d = .bl (if neg then !decide (i ∈ ns) else decide (i ∈ ns))) ha hb (fun da pa B F T σ H HI x l xs Q S e r rx q => by
    subst pa
    cases rx
    have z := r.ints
    subst z
    refine ⟨_, _, rfl, .inl (.inl (.inl e)), rfl, flat_ints ns, ?_⟩
    rw [inV_ints]
    exact q _ _ _ rfl ⟨HI, S.push (.bl _)⟩) B F T σ H _ hl S fun d v H2 p S2 => by
      subst p
      cases S2.dr List.mem_cons_self
      exact ⟨_, rfl, q _ H2 rfl S2.pop1⟩
theorem xb_in {ns : List Int} (ha : XD X a O ρ (.int i)) (hb : XS X b O ρ (ns.map Dt.int)) (hm : behindInMarks .In b = false := by rfl) : XB X (.Compare a [.In] [b] pos) O ρ (decide (i ∈ ns)) := xb_cmpS (neg := false) op_in_seq hm ha hb
theorem xb_notIn {ns : List Int} (ha : XD X a O ρ (.int i)) (hb : XS X b O ρ (ns.map Dt.int)) (hm : behindInMarks .NotIn b = false := by rfl) : XB X (.Compare a [.NotIn] [b] pos) O ρ (!decide (i ∈ ns)) := xb_cmpS (neg := true) op_notIn_seq hm ha hb
theorem xb_lt (ha : XD X a O ρ (.int i)) (hb : XD X b O ρ (.int j)) : XB X (.Compare a [.Lt] [b] pos) O ρ (decide (i < j)) := xb_cmp op_lt (nomark _) ha hb (rv_I0 (.bl _) rfl)
theorem xb_le (ha : XD X a O ρ (.int i)) (hb : XD X b O ρ (.int j)) : XB X (.Compare a [.LtE] [b] pos) O ρ (decide (i ≤ j)) := xb_cmp op_le (nomark _) ha hb (rv_I0 (.bl _) rfl)
theorem xb_gt (ha : XD X a O ρ (.int i)) (hb : XD X b O ρ (.int j)) : XB X (.Compare a [.Gt] [b] pos) O ρ (decide (j < i)) := xb_cmp op_gt (nomark _) ha hb (rv_I0 (.bl _) rfl)
theorem xb_ge (ha : XD X a O ρ (.int i)) (hb : XD X b O ρ (.int j)) : XB X (.Compare a [.GtE] [b] pos) O ρ (decide (j ≤ i)) := xb_cmp op_ge (nomark _) ha hb (rv_I0 (.bl _) rfl)
theorem xb_eq (ha : XD X a O ρ (.int i)) (hb : XD X b O ρ (.int j)) : XB X (.Compare a [.Eq] [b] pos) O ρ (decide (i = j)) := xb_cmp op_eq (nomark _) ha hb rv_eqI
theorem xb_ne (ha : XD X a O ρ (.int i)) (hb : XD X b O ρ (.int j)) : XB X (.Compare a [.NotEq] [b] pos) O ρ (decide (i ≠ j)) := xb_cmp op_ne (nomark _) ha hb rv_neI
theorem xb_eqS {x y : Str} (ha : XD X a O ρ (.str x)) (hb : XD X b O ρ (.str y)) : XB X (.Compare a [.Eq] [b] pos) O ρ (decide (x = y)) := xb_cmp op_eq (nomark _) ha hb rv_eqS
theorem xb_neS {x y : Str} (ha : XD X a O ρ (.str x)) (hb : XD X b O ρ (.str y)) : XB X (.Compare a [.NotEq] [b] pos) O ρ (decide (x ≠ y)) := xb_cmp op_ne (nomark _) ha hb rv_neS
theorem xb_neB {x y : Bool} (ha : XD X a O ρ (.bl x)) (hb : XD X b O ρ (.bl y)) : XB X (.Compare a [.NotEq] [b] pos) O ρ (x != y) := xb_cmp op_ne (nomark _) ha hb rv_neB
theorem xb_isN {da : Dt} (ha : XD X a O ρ da) (hb : XD X b O ρ .non) : XB X (.Compare a [.Is] [b] pos) O ρ (isNon da) := xb_cmp op_isN (nomark _) ha hb rv_isN
theorem xb_notN {da : Dt} (ha : XD X a O ρ da) (hb : XD X b O ρ .non) : XB X (.Compare a [.IsNot] [b] pos) O ρ (!isNon da) := xb_cmp op_notN (nomark _) ha hb rv_notN
theorem xb_not {k : Bool} (h : XB X a O ρ k) : XB X (.UnaryOp .Not a pos) O ρ (!k) := xt_of (pt_not pt_s) fun B F T σ H Q hb S q => h B F T σ H _ hb S fun b H2 p S2 => q _ _ (by rw [p]) S2
theorem xb_and2 {k l : Bool} (ha : XB X a O ρ k) (hb : k = true → XB X b O ρ l) : XB X (.BoolOp .And [a, b] pos) O ρ (k && l) :=
  xt_of (pw_and pt_s (pw_and1 pt_s)).pt fun B F T σ H Q hlim S q => ha B F T σ H _ hlim S fun b1 H1 p1 S1 => by
    subst p1
    cases b1 with
    | true => exact iteT (hb rfl B F T σ H1 _ hlim S1 fun b2 H2 p2 S2 => q _ _ (by rw [p2, Bool.true_and]) S2)
    | false => exact iteF (q _ _ rfl S1)
theorem xb_or2 {k l : Bool} (ha : XB X a O ρ k) (hb : k = false → XB X b O ρ l) : XB X (.BoolOp .Or [a, b] pos) O ρ (k || l) :=
  xt_of (pw_or pt_s (pw_or1 pt_s)).pt fun B F T σ H Q hlim S q => ha B F T σ H _ hlim S fun b1 H1 p1 S1 => by
    subst p1
    cases b1 with
    | true => exact iteT (q _ _ rfl S1)
    | false => exact iteF (hb rfl B F T σ H1 _ hlim S1 fun b2 H2 p2 S2 => q _ _ (by rw [p2, Bool.false_or]) S2)
theorem xb_or3 {e3 : Expr} {k l m : Bool} (ha : XB X a O ρ k) (hb : k = false → XB X b O ρ l) (hc : k = false → l = false → XB X e3 O ρ m) : XB X (.BoolOp .Or [a, b, e3] pos) O ρ (k || (l || m)) :=
  xt_of (pw_or pt_s (pw_or pt_s (pw_or1 pt_s))).pt fun B F T σ H Q hlim S q => ha B F T σ H _ hlim S fun b1 H1 p1 S1 => by
    subst p1
    cases b1 with
    | true => exact iteT (q _ _ rfl S1)
    | false =>
      refine iteF (hb rfl B F T σ H1 _ hlim S1 fun b2 H2 p2 S2 => ?_)
      subst p2
      cases b2 with
      | true => exact iteT (q _ _ rfl S2)
      | false => exact iteF (hc rfl rfl B F T σ H2 _ hlim S2 fun b3 H3 p3 S3 => q _ _ (by rw [p3]; rfl) S3)
theorem xb_and3 {e3 : Expr} {k l m : Bool} (ha : XB X a O ρ k) (hb : k = true → XB X b O ρ l) (hc : k = true → l = true → XB X e3 O ρ m) : XB X (.BoolOp .And [a, b, e3] pos) O ρ (k && (l && m)) :=
  xt_of (pw_and pt_s (pw_and pt_s (pw_and1 pt_s))).pt fun B F T σ H Q hlim S q => ha B F T σ H _ hlim S fun b1 H1 p1 S1 => by
    subst p1
    cases b1 with
    | false => exact iteF (q _ _ rfl S1)
    | true =>
      refine iteT (hb rfl B F T σ H1 _ hlim S1 fun b2 H2 p2 S2 => ?_)
      subst p2
      cases b2 with
      | false => exact iteF (q _ _ rfl S2)
      | true => exact iteT (hc rfl rfl B F T σ H2 _ hlim S2 fun b3 H3 p3 S3 => q _ _ (by rw [p3]; rfl) S3)
/-! ### truths as values, choices -/
theorem xd_notV {k : Bool} (h : XD X a O ρ (.bl k)) : XD X (.UnaryOp .Not a pos) O ρ (.bl (!k)) := xe_of (pe_not pe_s) fun B F T σ H Q hb S q => h B F T σ H _ hb S fun d v H2 p S2 => by
  subst p
  cases S2.dr List.mem_cons_self
  exact ⟨k, rfl, q _ _ _ rfl (S2.pop1.bl _)⟩
theorem xd_andV {k l : Bool} (ha : XD X a O ρ (.bl k)) (hb : k = true → XD X b O ρ (.bl l)) : XD X (.BoolOp .And [a, b] pos) O ρ (.bl (k && l)) := xe_of (pe_and pe_s (pe_one pe_s)) fun B F T σ H Q hlim S q => ha B F T σ H _ hlim S fun d v H2 p S2 => by
  subst p
  cases S2.dr List.mem_cons_self
  refine ⟨k, rfl, ?_⟩
  cases k with
  | true => exact iteT (hb rfl B F T σ H2 _ hlim S2.pop1 fun d2 v2 H3 p3 S3 => q _ _ _ (by rw [p3, Bool.true_and]) S3)
  | false => exact iteF (q _ _ _ rfl (S2.pop1.bl _))
theorem xd_and3V {e3 : Expr} {k l m : Bool} (ha : XD X a O ρ (.bl k)) (hb : k = true → XD X b O ρ (.bl l)) (hc : k = true → l = true → XD X e3 O ρ (.bl m)) : XD X (.BoolOp .And [a, b, e3] pos) O ρ (.bl (k && (l && m))) :=
  xe_of (pe_and pe_s (pe_and pe_s (pe_one pe_s))) fun B F T σ H Q hlim S q => ha B F T σ H _ hlim S fun d v H2 p S2 => by
    subst p
    cases S2.dr List.mem_cons_self
    refine ⟨k, rfl, ?_⟩
    cases k with
    | false => exact iteF (q _ _ _ rfl (S2.pop1.bl _))
    | true =>
      refine iteT (hb rfl B F T σ H2 _ hlim S2.pop1 fun d2 v2 H3 p3 S3 => ?_)
      subst p3
      cases S3.dr List.mem_cons_self
      refine ⟨l, rfl, ?_⟩
      cases l with
      | false => exact iteF (q _ _ _ rfl (S3.pop1.bl _))
      | true => exact iteT (hc rfl rfl B F T σ H3 _ hlim S3.pop1 fun d3 v3 H4 p4 S4 => q _ _ _ (by rw [p4]; rfl) S4)
theorem xd_orV {k l : Bool} (ha : XD X a O ρ (.bl k)) (hb : k = false → XD X b O ρ (.bl l)) : XD X (.BoolOp .Or [a, b] pos) O ρ (.bl (k || l)) := xe_of (pe_or pe_s (pe_one pe_s)) fun B F T σ H Q hlim S q => ha B F T σ H _ hlim S fun d v H2 p S2 => by
  subst p
  cases S2.dr List.mem_cons_self
  refine ⟨k, rfl, ?_⟩
  cases k with
  | true => exact iteT (q _ _ _ rfl (S2.pop1.bl _))
  | false => exact iteF (hb rfl B F T σ H2 _ hlim S2.pop1 fun d2 v2 H3 p3 S3 => q _ _ _ (by rw [p3, Bool.false_or]) S3)
theorem xe_ite {e3 : Expr} {Pb : Bool → Prop} (hc : XT X a O ρ c1 Pb) (ha : Pb true → XE X b O ρ c2 P) (hb : Pb false → XE X e3 O ρ c2 P) : XE X (.IfExp a b e3 pos) O ρ (c1 + c2) P :=
  xe_of (pe_ifExp pt_s pe_s pe_s) fun B F T σ H Q hlim S q => hc B F T σ H _ (by omega) S fun k H2 p S2 => by
    have e : (B.add c1).add c2 = B.add (c1 + c2) := by
      show (⟨_, _, _, B.n + c1 + c2⟩ : Bs) = ⟨_, _, _, B.n + (c1 + c2)⟩
      rw [Nat.add_assoc]
    cases k with
    | true => exact iteT (ha p (B.add c1) F T σ H2 Q (by show B.n + c1 + c2 ≤ _; omega) S2 (by rw [e]; exact q))
    | false => exact iteF (hb p (B.add c1) F T σ H2 Q (by show B.n + c1 + c2 ≤ _; omega) S2 (by rw [e]; exact q))
theorem xd_ite {e3 : Expr} {k : Bool} (hc : XB X a O ρ k) (ha : k = true → XD X b O ρ d) (hb : k = false → XD X e3 O ρ d) : XD X (.IfExp a b e3 pos) O ρ d := xe_ite hc (fun p => ha p.symm) fun p => hb p.symm
/-! ### arguments, displays -/
variable {es : List Expr}
theorem xl_nil : XL X [] O ρ [] := fun B F T σ H Q hb S k => PA.s pa_nil (k [] [] H rfl rfl S)
theorem xa_cons {Pr P : List Dt → Prop} (h : XE X e O ρ c1 Pa) (hr : XA X es O ρ c2 Pr) (hp : ∀ d ds, Pa d → Pr ds → P (d :: ds)) (hs : starEach (e :: es) X.env = (false, eval e X.env) :: starEach es X.env := by rfl) : XA X (e :: es) O ρ (c1 + c2) P :=
  fun B F T σ H Q hb S k => PA.s (pa_cons pe_s pa_s hs) (h B F T σ H _ (by omega) S fun d v H1 p1 S1 => hr (B.add c1) F _ σ H1 _ (by show B.n + c1 + c2 ≤ _; omega) S1 fun ds vs H2 p2 hl S2 => k (d :: ds) (v :: vs) H2 (hp d ds p1 p2) (by rw [List.length_cons, List.length_cons, hl]) (by
    have e : (B.add c1).add c2 = B.add (c1 + c2) := by
      show (⟨_, _, _, B.n + c1 + c2⟩ : Bs) = ⟨_, _, _, B.n + (c1 + c2)⟩
      rw [Nat.add_assoc]
    rw [← e]
    refine S2.pop fun x hx => ?_
    rw [List.zip_cons_cons] at hx
    rcases List.mem_append.mp hx with hx | hx
    · rcases List.mem_cons.mp hx with rfl | hx
      · exact List.mem_append_right _ List.mem_cons_self
      · exact List.mem_append_left _ hx
    · exact List.mem_append_right _ (List.mem_cons_of_mem _ hx)))
theorem xl_cons {ds : List Dt} (h : XD X e O ρ d) (hr : XL X es O ρ ds) (hs : starEach (e :: es) X.env = (false, eval e X.env) :: starEach es X.env := by rfl) : XL X (e :: es) O ρ (d :: ds) := xa_cons h hr (fun _ _ p q => by rw [p, q]) hs
theorem xe_tup {Pl : List Dt → Prop} {k : Nat} (h : XA X es O ρ c Pl) (hp : ∀ ds, Pl ds → ds.length ≤ 1000 ∧ P (.tup ds)) : XE X (.Tuple es k pos) O ρ c P :=
  xe_of (pe_tup pa_s) fun B F T σ H Q hb S k => h B F T σ H _ hb S fun ds vs H1 p hl S1 => by
    obtain ⟨h1, h2⟩ := hp ds p
    exact ⟨by rw [hl]; exact Nat.le_trans h1 (by decide), fun q hq => k _ _ _ h2 (S1.newTup hl hq)⟩
theorem xd_tup {ds : List Dt} {k : Nat} (h : XL X es O ρ ds) (hl : ds.length ≤ 1000 := by exact Nat.le_of_ble_eq_true rfl) : XD X (.Tuple es k pos) O ρ (.tup ds) := xe_tup h fun _ p => by subst p; exact ⟨hl, rfl⟩
theorem xe_lst {Pl : List Dt → Prop} (h : XA X es O ρ c Pl) (hp : ∀ ds, Pl ds → ds.length ≤ 1000 ∧ P (.lst ds)) : XE X (.List es pos) O ρ c P :=
  xe_of (pe_lst pa_s) fun B F T σ H Q hb S k => h B F T σ H _ hb S fun ds vs H1 p hl S1 => by
    obtain ⟨h1, h2⟩ := hp ds p
    exact ⟨by rw [hl]; exact Nat.le_trans h1 (by decide), fun q hq => k _ _ _ h2 (S1.newLst hl hq)⟩
theorem xd_lst {ds : List Dt} (h : XL X es O ρ ds) (hl : ds.length ≤ 1000 := by exact Nat.le_of_ble_eq_true rfl) : XD X (.List es pos) O ρ (.lst ds) := xe_lst h fun _ p => by subst p; exact ⟨hl, rfl⟩
/-! ### fields -/
theorem xd_fld {C : Addr} {f : Str} {fs : List (Str × Dt)} (h : XD X e O ρ (.ob C fs)) (cl : Cls X.K C) (na : NoAttr X.K C f) (hl : fs.lookup f = some d) (hb : attributeBase e f X.env (eval e X.env) = eval e X.env := by rfl) : XD X (.Attribute e f pos) O ρ d :=
  xe_of (pe_fld pe_s hb) fun B F T σ H Q hb S k => h B F T σ H _ hb S fun d0 v H1 p S1 => by
    subst p
    obtain ⟨HI, S1⟩ := S1
    have r := S1.tmp _ List.mem_cons_self
    cases r with
    | ob e1 r1 =>
      obtain ⟨v, q1, q2⟩ := r1.look hl
      exact ⟨_, C, _, _, v, rfl, S1.ex1 _ _ e1, cl, na, q1, k d v H1 rfl ⟨HI, (S1.pop fun x hx => List.mem_cons_of_mem _ hx).push q2⟩⟩
/-! ### built-ins by their names -/
def RcP (K : PySem.W.Frag) (r : List V → Hp → VK → Prop) (O : List (Addr × Ow)) (ρ : List Sl) (ds : List Dt) (P : Dt → Prop) : Prop :=
  ∀ (B : Bs) (F : List (Addr × Ow)) (T : List (V × Dt)) (σ : L2.St) (H HI : Hp) (vs : List V) (Q : VK), SatI K B (F ++ O) ρ T σ H HI → DrL K HI vs ds → (∀ d v H2, P d → Sat K B (F ++ O) ρ ((v, d) :: T) σ H2 → Q v H2) → r vs H Q
theorem ev_cb {K : PySem.W.Frag} {r : List V → Hp → VK → Prop} {ta : TA} {Pl : List Dt → Prop} (h : EvA ta K O ρ c Pl) (hr : ∀ ds, Pl ds → RcP K r O ρ ds P) : EvP (tCB r ta) K O ρ c P := fun B F T σ H Q hb S k => h B F T σ H _ hb S fun ds vs H1 p hl S1 => by
  obtain ⟨HI, S1⟩ := S1
  exact hr ds p (B.add c) F T σ H1 HI vs Q (S1.pop fun x hx => List.mem_append_right _ hx) (drs_zip hl fun x hx => S1.tmp x (List.mem_append_left _ hx)) k
theorem xe_callB {x : Str} {p : Pos} {id : String} {r : List V → Hp → VK → Prop} {Pl : List Dt → Prop} (hc : CallR X (.builtin id) r) (hm : X.mg x = none) (hv : bootBuiltins x = some (.builtin id)) (ha : XA X (e :: es) O ρ c Pl) (hr : ∀ ds, Pl ds → RcP X.K r O ρ ds P)
    (hg : Gl X x := by rfl) (hn : x ≠ "__name__" := by decide) (hdb : (x == ("__debug__" : Str)) = false := by decide) (he : starEach (e :: es) X.env = (false, eval e X.env) :: starEach es X.env := by rfl) (hpl : (backTo pos (starEach es X.env)).any (·.1) = false := by rfl) :
    XE X (.Call (.Name x p) (e :: es) [] pos) O ρ c P := xe_of (pe_callB hc hg hm hv pa_s hn hdb he hpl) (ev_cb ha hr)
theorem xe_callTy {x : Str} {p : Pos} {T : String} {r : List V → Hp → VK → Prop} {Pl : List Dt → Prop} (hc : CallR X (.type T) r) (hm : X.mg x = none) (hv : bootBuiltins x = some (.type T)) (ha : XA X (e :: es) O ρ c Pl) (hr : ∀ ds, Pl ds → RcP X.K r O ρ ds P)
    (hg : Gl X x := by rfl) (hn : x ≠ "__name__" := by decide) (hdb : (x == ("__debug__" : Str)) = false := by decide) (he : starEach (e :: es) X.env = (false, eval e X.env) :: starEach es X.env := by rfl) (hpl : (backTo pos (starEach es X.env)).any (·.1) = false := by rfl) :
    XE X (.Call (.Name x p) (e :: es) [] pos) O ρ c P := xe_of (pe_callTy hc hg hm hv pa_s hn hdb he hpl) (ev_cb ha hr)
/-- one argument, a list (one's own, too) -/
theorem ev_cbS {K : PySem.W.Frag} {r : List V → Hp → VK → Prop} {ta : TE} {ds : List Dt} (h : EvS ta K O ρ ds)
    (hr : ∀ (B : Bs) (F : List (Addr × Ow)) (T : List (V × Dt)) (σ : L2.St) (H HI : Hp) (l : Addr) (xs : List V) (Q : VK), SatI K B (F ++ O) ρ T σ H HI → H l = some (.lst xs) → DrL K HI xs ds → (∀ d v H2, P d → Sat K B (F ++ O) ρ ((v, d) :: T) σ H2 → Q v H2) → r [.ref l] H Q) :
    EvP (tCB r (tCons ta tNil)) K O ρ 0 P := fun B F T σ H Q hb S k => h B F T σ H _ S fun l T0 H1 hl S1 => by
  obtain ⟨HI, S1⟩ := S1
  obtain ⟨xs, e1, r1⟩ := hl B T σ H1 HI S1
  exact hr B F T σ H1 HI l xs Q (S1.pop fun x hx => List.mem_append_right _ hx) e1 r1 k
theorem xe_callBS {x : Str} {p : Pos} {id : String} {r : List V → Hp → VK → Prop} {ds : List Dt} (hc : CallR X (.builtin id) r) (hm : X.mg x = none) (hv : bootBuiltins x = some (.builtin id)) (ha : XS X e O ρ ds)
    (hr : ∀ (B : Bs) (F : List (Addr × Ow)) (T : List (V × Dt)) (σ : L2.St) (H HI : Hp) (l : Addr) (xs : List V) (Q : VK), SatI X.K B (F ++ O) ρ T σ H HI → H l = some (.lst xs) → DrL X.K HI xs ds → (∀ d v H2, P d → Sat X.K B (F ++ O) ρ ((v, d) :: T) σ H2 → Q v H2) → r [.ref l] H Q)
    (hg : Gl X x := by rfl) (hn : x ≠ "__name__" := by decide) (hdb : (x == ("__debug__" : Str)) = false := by decide) (he : starEach [e] X.env = (false, eval e X.env) :: starEach [] X.env := by rfl) (hpl : (backTo pos (starEach [] X.env)).any (·.1) = false := by rfl) :
    XE X (.Call (.Name x p) [e] [] pos) O ρ 0 P := xe_of (pe_callB hc hg hm hv (pa_cons pe_s pa_nil he) hn hdb he hpl) (ev_cbS ha hr)
theorem xe_callTyS {x : Str} {p : Pos} {T : String} {r : List V → Hp → VK → Prop} {ds : List Dt} (hc : CallR X (.type T) r) (hm : X.mg x = none) (hv : bootBuiltins x = some (.type T)) (ha : XS X e O ρ ds)
    (hr : ∀ (B : Bs) (F : List (Addr × Ow)) (T : List (V × Dt)) (σ : L2.St) (H HI : Hp) (l : Addr) (xs : List V) (Q : VK), SatI X.K B (F ++ O) ρ T σ H HI → H l = some (.lst xs) → DrL X.K HI xs ds → (∀ d v H2, P d → Sat X.K B (F ++ O) ρ ((v, d) :: T) σ H2 → Q v H2) → r [.ref l] H Q)
    (hg : Gl X x := by rfl) (hn : x ≠ "__name__" := by decide) (hdb : (x == ("__debug__" : Str)) = false := by decide) (he : starEach [e] X.env = (false, eval e X.env) :: starEach [] X.env := by rfl) (hpl : (backTo pos (starEach [] X.env)).any (·.1) = false := by rfl) :
    XE X (.Call (.Name x p) [e] [] pos) O ρ 0 P := xe_of (pe_callTy hc hg hm hv (pa_cons pe_s pa_nil he) hn hdb he hpl) (ev_cbS ha hr)
theorem xd_len {p : Pos} {ds : List Dt} (hm : X.mg "len" = none) (ha : XS X e O ρ ds) (hg : Gl X "len" := by rfl) (he : starEach [e] X.env = (false, eval e X.env) :: starEach [] X.env := by rfl) : XD X (.Call (.Name "len" p) [e] [] pos) O ρ (.int ds.length) :=
  xe_callBS call_len_seq hm PySem.boot_len ha (fun B F T σ H HI l xs Q S e r k => ⟨l, xs, rfl, .inl (.inl (.inl e)), k _ _ H rfl ⟨HI, by rw [r.length]; exact S.push (.int _)⟩⟩) hg (by decide) (by decide) he
theorem xd_lenT {p : Pos} {ds : List Dt} (hm : X.mg "len" = none) (ha : XD X e O ρ (.tup ds)) (hg : Gl X "len" := by rfl) (he : starEach [e] X.env = (false, eval e X.env) :: starEach [] X.env := by rfl) : XD X (.Call (.Name "len" p) [e] [] pos) O ρ (.int ds.length) :=
  xe_callB call_len_seq hm PySem.boot_len (xl_cons ha xl_nil he) (fun ds' p B F T σ H HI vs Q S r k => by
    subst p
    cases r with
    | cons r1 r2 =>
      cases r2
      cases r1 with
      | tup e1 r1 => exact ⟨_, _, rfl, .inr (sqT_le (Same.le S.ex1) e1), k _ _ H rfl ⟨HI, by rw [r1.length]; exact S.push (.int _)⟩⟩) hg (by decide) (by decide) he
/-- list(t), t a tuple -/
theorem xd_listT {p : Pos} {ds : List Dt} (hm : X.mg "list" = none) (ha : XD X e O ρ (.tup ds)) (hg : Gl X "list" := by rfl) (he : starEach [e] X.env = (false, eval e X.env) :: starEach [] X.env := by rfl) : XD X (.Call (.Name "list" p) [e] [] pos) O ρ (.lst ds) :=
  xe_callTy call_list_of hm (by decide +kernel) (xl_cons ha xl_nil he) (fun ds' p B F T σ H HI vs Q S r k => by
    subst p
    cases r with
    | cons r1 r2 =>
      cases r2
      cases r1 with
      | tup e1 r1 => exact ⟨_, _, rfl, .inr (sqT_le (Same.le S.ex1) e1), fun l hl => k _ _ _ rfl ⟨_, (S.grow hl).push (.lst upd_same (r1.mono (same_upd (S.hi hl))))⟩⟩) hg (by decide) (by decide) he
/-- tuple(xs), xs a list -/
theorem xd_tuple {p : Pos} {ds : List Dt} (hm : X.mg "tuple" = none) (ha : XS X e O ρ ds) (hg : Gl X "tuple" := by rfl) (he : starEach [e] X.env = (false, eval e X.env) :: starEach [] X.env := by rfl) : XD X (.Call (.Name "tuple" p) [e] [] pos) O ρ (.tup ds) :=
  xe_callTyS call_tuple_of hm (by decide +kernel) ha (fun B F T σ H HI l xs Q S e r k => ⟨l, xs, rfl, .inl ⟨.inl (.inl e), fun q hq => k _ _ _ rfl ⟨_, (S.grow hq).push (.tup (.inl (.inl upd_same)) (r.mono (same_upd (S.hi hq))))⟩⟩⟩) hg (by decide) (by decide) he
theorem xd_intB {p : Pos} {k : Bool} (hm : X.mg "int" = none) (ha : XD X e O ρ (.bl k)) (hg : Gl X "int" := by rfl) (he : starEach [e] X.env = (false, eval e X.env) :: starEach [] X.env := by rfl) : XD X (.Call (.Name "int" p) [e] [] pos) O ρ (.int (if k then 1 else 0)) :=
  xe_callTy call_int1 hm (by decide +kernel) (xl_cons ha xl_nil he) (fun ds' p B F T σ H HI vs Q S r q => by
    subst p
    cases r with
    | cons r1 r2 =>
      cases r2
      cases r1
      exact .inr ⟨k, rfl, q _ _ H rfl ⟨HI, S.push (.int _)⟩⟩) hg (by decide) (by decide) he
theorem xd_max2 {p : Pos} (hc : X.calm = true) (hm : X.mg "max" = none) (ha : XD X a O ρ (.int i)) (hb : XD X b O ρ (.int j)) (hg : Gl X "max" := by rfl) (he : starEach [a, b] X.env = (false, eval a X.env) :: starEach [b] X.env := by rfl) (he2 : starEach [b] X.env = (false, eval b X.env) :: starEach [] X.env := by rfl)
    (hpl : (backTo pos (starEach [b] X.env)).any (·.1) = false := by rfl) : XD X (.Call (.Name "max" p) [a, b] [] pos) O ρ (.int (if j > i then j else i)) :=
  xe_callB (call_max2 hc) hm (by decide +kernel) (xl_cons ha (xl_cons hb xl_nil he2) he) (fun ds' p B F T σ H HI vs Q S r q => by
    subst p
    cases r with
    | cons r1 r2 =>
      cases r2 with
      | cons r2 r3 =>
        cases r3
        cases r1
        cases r2
        exact ⟨i, j, rfl, q _ _ H rfl ⟨HI, S.push (.int _)⟩⟩) hg (by decide) (by decide) he hpl
theorem xd_all {p : Pos} {bs : List Bool} (hc : X.calm = true) (hm : X.mg "all" = none) (ha : XS X e O ρ (bs.map Dt.bl)) (hg : Gl X "all" := by rfl) (he : starEach [e] X.env = (false, eval e X.env) :: starEach [] X.env := by rfl) : XD X (.Call (.Name "all" p) [e] [] pos) O ρ (.bl (bs.all id)) :=
  xe_callBS (cr_all hc) hm (by decide +kernel) ha (fun B F T σ H HI l xs Q S e r k => by
    have z := r.bls
    subst z
    exact ⟨l, bs, rfl, .inl (.inl e), k _ _ H rfl ⟨HI, S.push (.bl _)⟩⟩) hg (by decide) (by decide) he
theorem xd_sum {p : Pos} {ns : List Int} (hc : X.calm = true) (hm : X.mg "sum" = none) (ha : XS X e O ρ (ns.map Dt.int)) (hg : Gl X "sum" := by rfl) (he : starEach [e] X.env = (false, eval e X.env) :: starEach [] X.env := by rfl) : XD X (.Call (.Name "sum" p) [e] [] pos) O ρ (.int ns.sum) :=
  xe_callBS (cr_sum hc) hm (by decide +kernel) ha (fun B F T σ H HI l xs Q S e r k => by
    have z := r.ints
    subst z
    exact ⟨l, ns, rfl, .inl (.inl e), k _ _ H rfl ⟨HI, S.push (.int _)⟩⟩) hg (by decide) (by decide) he
/-- list(range(n)) -/
def rgD (n : Nat) : List Dt := (List.range n).map fun i => Dt.int (i : Nat)
theorem rgD_rel {K : PySem.W.Frag} {H : Hp} (n : Nat) : DrL K H (rgV 0 (n : Int)) (rgD n) := by
  unfold rgV rgD
  rw [show ((n : Int) - 0).toNat = n by omega]
  induction List.range n with
  | nil => exact .nil
  | cons x r ih =>
    refine .cons ?_ ih
    show Dr K H (V.int (0 + (x : Int))) (Dt.int (x : Int))
    rw [Int.zero_add]
    exact .int _
theorem xd_listRg {p p2 pos2 : Pos} {n : Nat} (hc : X.calm = true) (hm : X.mg "list" = none) (hm2 : X.mg "range" = none) (ha : XD X e O ρ (.int (n : Int))) (hn : n ≤ 100000) (hg : Gl X "list" := by rfl) (hg2 : Gl X "range" := by rfl) (he : starEach [e] X.env = (false, eval e X.env) :: starEach [] X.env := by rfl)
    (he2 : starEach [.Call (.Name "range" p2) [e] [] pos2] X.env = (false, eval (.Call (.Name "range" p2) [e] [] pos2) X.env) :: starEach [] X.env := by rfl) : XD X (.Call (.Name "list" p) [.Call (.Name "range" p2) [e] [] pos2] [] pos) O ρ (.lst (rgD n)) :=
  xe_of (pe_listRg hc hg hm (prg_1 hg2 hm2 pe_s he) he2) fun B F T σ H Q hb S k => ha B F T σ H _ hb S fun d v H1 p S1 => by
    subst p
    cases S1.dr List.mem_cons_self
    refine ⟨n, rfl, .of_le (Int.le_refl 0) (by omega) (by omega) (by omega), fun q hq => k _ _ _ rfl ?_⟩
    obtain ⟨HI, S1⟩ := S1
    exact ⟨_, ((S1.pop fun x hx => List.mem_cons_of_mem _ hx).grow hq).push (.lst upd_same (rgD_rel n))⟩
end
end Lg


set_option Elab.async false
set_option linter.all false
set_option maxRecDepth 100000
set_option maxHeartbeats 4000000
set_option autoImplicit false
/-! Lg4: what is walked, targets, comprehensions. -/
namespace Lg
open PySem PySem.Spec L2

/-- an iterator that hands out these data, while the values of T0 stand -/
structure ItOk (K : PySem.W.Frag) (J : It) (T0 : List (V × Dt)) (ds : List Dt) : Prop where
  go : ∀ (B : Bs) (O : List (Addr × Ow)) (ρ : List Sl) (T : List (V × Dt)) (σ : L2.St) (H : Hp) (i : Nat), i < ds.length → Sat K B O ρ (T0 ++ T) σ H → J.go i H
  stop : ∀ (B : Bs) (O : List (Addr × Ow)) (ρ : List Sl) (T : List (V × Dt)) (σ : L2.St) (H : Hp) (i : Nat), ds.length ≤ i → Sat K B O ρ (T0 ++ T) σ H → J.stop i H
  yld : ∀ (B : Bs) (O : List (Addr × Ow)) (ρ : List Sl) (T : List (V × Dt)) (σ : L2.St) (H : Hp) (i : Nat) (d : Dt) (v : V) (H' : Hp), ds[i]? = some d → Sat K B O ρ (T0 ++ T) σ H → J.yld i H v H' → Sat K B O ρ ((v, d) :: (T0 ++ T)) σ H'
def EvI (wi : TI) (K : PySem.W.Frag) (O : List (Addr × Ow)) (ρ : List Sl) (c : Nat) (P : List Dt → Prop) : Prop :=
  ∀ (B : Bs) (F : List (Addr × Ow)) (T : List (V × Dt)) (σ : L2.St) (H : Hp) (R : It → Hp → Prop), B.n + c ≤ LIM → Sat K B (F ++ O) ρ T σ H →
    (∀ ds J T0 H1, P ds → ItOk K J T0 ds → Sat K (B.add c) (F ++ O) ρ (T0 ++ T) σ H1 → R J H1) → wi σ H R
structure SI (X : Cx) (tg iter : Expr) (σ : L2.St) (H : Hp) (R : It → Hp → Prop) : Prop where
  run : ∀ pins s, Inv X pins σ H s →
    wpAny (model X.prog X.w) X.A (eval iter X.env) (fun v s1 => wpAny (model X.prog X.w) X.A (pyIter v) (PIE X pins σ tg R) X.xe s1) X.xe s
def sI (X : Cx) (tg iter : Expr) : TI := SI X tg iter
abbrev XI (X : Cx) (tg e : Expr) (O : List (Addr × Ow)) (ρ : List Sl) (c : Nat) (P : List Dt → Prop) : Prop := EvI (sI X tg e) X.K O ρ c P
abbrev XJ (X : Cx) (tg e : Expr) (O : List (Addr × Ow)) (ρ : List Sl) (ds : List Dt) : Prop := XI X tg e O ρ 0 (fun x => x = ds)
section
variable {X : Cx} {O : List (Addr × Ow)} {ρ : List Sl} {c c1 c2 : Nat} {P Pa Pb : Dt → Prop} {a b e tg : Expr} {pos p : Pos} {d : Dt} {i j : Int}
theorem pi_s : PI X tg e (sI X tg e) := ⟨fun pins s σ H R I h => SI.run h pins s I⟩
theorem PI.s {wi : TI} (h : PI X tg e wi) {σ : L2.St} {H : Hp} {R : It → Hp → Prop} (q : wi σ H R) : sI X tg e σ H R := SI.mk fun pins s I => h.run pins s σ H R I q
theorem itOk_list {K : PySem.W.Frag} {l : Addr} {ds : List Dt} : ItOk K (Itl K l) [(.ref l, .lst ds)] ds where
  go := fun B O ρ T σ H i hi S => by
    cases S.dr List.mem_cons_self with
    | lst e r =>
      have hx := r.length
      exact ⟨_, _, .inl (.inl e), List.getElem?_eq_getElem (by omega)⟩
  stop := fun B O ρ T σ H i hi S => by
    cases S.dr List.mem_cons_self with
    | lst e r =>
      have hx := r.length
      exact ⟨_, .inl (.inl e), by omega⟩
  yld := fun B O ρ T σ H i d v H' hd S y => by
    obtain ⟨rfl, y⟩ := y
    obtain ⟨HI, S⟩ := S
    cases S.tmp _ List.mem_cons_self with
    | lst e r =>
      obtain ⟨u, h1, h2⟩ := r.get hd
      have h3 := y _ (.inl (.inl (S.ex1 _ _ e)))
      rw [h1] at h3
      cases h3
      exact ⟨HI, S.push h2⟩
theorem itOk_tup {K : PySem.W.Frag} {l : Addr} {ds : List Dt} : ItOk K (Itt K l) [(.ref l, .tup ds)] ds where
  go := fun B O ρ T σ H i hi S => by
    cases S.dr List.mem_cons_self with
    | tup e r =>
      have hx := r.length
      exact ⟨_, _, e, List.getElem?_eq_getElem (by omega)⟩
  stop := fun B O ρ T σ H i hi S => by
    cases S.dr List.mem_cons_self with
    | tup e r =>
      have hx := r.length
      exact ⟨_, e, by omega⟩
  yld := fun B O ρ T σ H i d v H' hd S y => by
    obtain ⟨rfl, y⟩ := y
    obtain ⟨HI, S⟩ := S
    cases S.tmp _ List.mem_cons_self with
    | tup e r =>
      obtain ⟨u, h1, h2⟩ := r.get hd
      have h3 := y _ (sqT_le (Same.le S.ex1) e)
      rw [h1] at h3
      cases h3
      exact ⟨HI, S.push h2⟩
theorem itOk_rev {K : PySem.W.Frag} {l : Addr} {ds : List Dt} {n : Nat} (hn : n = ds.length) : ItOk K (RT.ItvT K l n) [(.ref l, .tup ds)] ds.reverse where
  go := fun B O ρ T σ H i hi S => by
    rw [List.length_reverse] at hi
    cases S.dr List.mem_cons_self with
    | tup e r =>
      have hx := r.length
      exact ⟨by omega, _, _, e, List.getElem?_eq_getElem (by omega)⟩
  stop := fun B O ρ T σ H i hi S => by
    rw [List.length_reverse] at hi
    show n ≤ i
    omega
  yld := fun B O ρ T σ H i d v H' hd S y => by
    obtain ⟨rfl, y⟩ := y
    obtain ⟨HI, S⟩ := S
    cases S.tmp _ List.mem_cons_self with
    | tup e r =>
      have hi : i < ds.length := by
        have q := (List.getElem?_eq_some_iff.mp hd).1
        rw [List.length_reverse] at q
        exact q
      rw [List.getElem?_reverse hi] at hd
      obtain ⟨u, h1, h2⟩ := r.get hd
      have h3 := y _ (sqT_le (Same.le S.ex1) e)
      rw [hn, h1] at h3
      cases h3
      exact ⟨HI, S.push h2⟩
def rgF (lo : Int) (n : Nat) (c : Int) : List Dt := (List.range n).map fun i => Dt.int (lo + (i : Nat) * c)
theorem rgF_len (lo : Int) (n : Nat) (c : Int) : (rgF lo n c).length = n := by
  unfold rgF
  rw [List.length_map, List.length_range]
theorem rgF_get {lo : Int} {n : Nat} {c : Int} {i : Nat} {d : Dt} (h : (rgF lo n c)[i]? = some d) : i < n ∧ d = .int (lo + (i : Nat) * c) := by
  unfold rgF at h
  rw [List.getElem?_map] at h
  cases e : (List.range n)[i]? with
  | none => rw [e] at h; cases h
  | some k =>
    rw [e] at h
    obtain ⟨h1, h2⟩ := List.getElem?_eq_some_iff.mp e
    rw [List.getElem_range] at h2
    rw [List.length_range] at h1
    subst h2
    exact ⟨h1, (Option.some.inj h).symm⟩
theorem rgF_one (n : Nat) : rgF 0 n 1 = rgD n := by
  unfold rgF rgD
  refine List.map_congr_left fun i _ => ?_
  congr 1
  omega
theorem itOk_rg {K : PySem.W.Frag} {lo : Int} {n : Nat} : ItOk K (Itr lo n) [] (rgF lo n 1) where
  go := fun B O ρ T σ H i hi S => by
    rw [rgF_len] at hi
    exact hi
  stop := fun B O ρ T σ H i hi S => by
    rw [rgF_len] at hi
    exact hi
  yld := fun B O ρ T σ H i d v H' hd S y => by
    obtain ⟨rfl, rfl⟩ := y
    obtain ⟨_, rfl⟩ := rgF_get hd
    rw [Int.mul_one]
    exact S.int _
theorem itOk_rgC {K : PySem.W.Frag} {lo c : Int} {n : Nat} : ItOk K (Itc lo c n) [] (rgF lo n c) where
  go := fun B O ρ T σ H i hi S => by
    rw [rgF_len] at hi
    exact hi
  stop := fun B O ρ T σ H i hi S => by
    rw [rgF_len] at hi
    exact hi
  yld := fun B O ρ T σ H i d v H' hd S y => by
    obtain ⟨rfl, rfl⟩ := y
    obtain ⟨_, rfl⟩ := rgF_get hd
    exact S.int _
/-! over a list, a tuple -/
theorem xi_list {Pl : List Dt → Prop} (h : XE X e O ρ c P) (hp : ∀ d, P d → ∃ ds, d = .lst ds ∧ Pl ds) : XI X tg e O ρ c Pl := fun B F T σ H R hb S k =>
  PI.s (pi_list pe_s) (h B F T σ H _ hb S fun d v H1 p S1 => by
    obtain ⟨ds, rfl, hd⟩ := hp d p
    have S2 := S1
    cases S1.dr List.mem_cons_self with
    | lst e1 r1 => exact ⟨_, rfl, ⟨_, .inl (.inl e1)⟩, k ds _ _ H1 hd itOk_list S2⟩)
theorem xj_list {ds : List Dt} (h : XD X e O ρ (.lst ds)) : XJ X tg e O ρ ds := xi_list h fun d p => ⟨ds, p, rfl⟩
theorem xi_tup {Pl : List Dt → Prop} (h : XE X e O ρ c P) (hp : ∀ d, P d → ∃ ds, d = .tup ds ∧ Pl ds) : XI X tg e O ρ c Pl := fun B F T σ H R hb S k =>
  PI.s (pi_tup pe_s) (h B F T σ H _ hb S fun d v H1 p S1 => by
    obtain ⟨ds, rfl, hd⟩ := hp d p
    have S2 := S1
    cases S1.dr List.mem_cons_self with
    | tup e1 r1 => exact ⟨_, rfl, ⟨_, e1⟩, k ds _ _ H1 hd itOk_tup S2⟩)
theorem xj_tup {ds : List Dt} (h : XD X e O ρ (.tup ds)) : XJ X tg e O ρ ds := xi_tup h fun d p => ⟨ds, p, rfl⟩
theorem xj_revT {ds : List Dt} (hm : X.mg "reversed" = none) (h : XD X e O ρ (.tup ds)) (hg : Gl X "reversed" := by rfl) (hs : starEach [e] X.env = (false, eval e X.env) :: starEach [] X.env := by rfl) : XJ X tg (.Call (.Name "reversed" p) [e] [] pos) O ρ ds.reverse := fun B F T σ H R hb S k =>
  PI.s (RT.pi_revA hg hm pe_s hs) (h B F T σ H _ hb S fun d v H1 p S1 => by
    subst p
    have S2 := S1
    cases S1.dr List.mem_cons_self with
    | tup e1 r1 => exact ⟨_, _, rfl, .inr ⟨e1, k _ _ _ H1 rfl (itOk_rev r1.length) S2⟩⟩)
theorem xi_rg1 {n : Nat} {Pl : List Dt → Prop} (hm : X.mg "range" = none) (h : XE X e O ρ c P) (hp : ∀ d, P d → ∃ n : Nat, d = .int (n : Int) ∧ n ≤ 100000 ∧ Pl (rgF 0 n 1)) (hg : Gl X "range" := by rfl) (hs : starEach [e] X.env = [(false, eval e X.env)] := by rfl) : XI X tg (.Call (.Name "range" p) [e] [] pos) O ρ c Pl := fun B F T σ H R hb S k =>
  PI.s (pi_range1 hg hm (pa_cons pe_s pa_nil hs) hs) (h B F T σ H _ hb S fun d v H1 p S1 => by
    obtain ⟨n, rfl, hn, hd⟩ := hp d p
    cases S1.dr List.mem_cons_self
    exact ⟨n, rfl, by omega, by omega, k _ _ [] H1 hd itOk_rg S1.pop1⟩)
theorem xj_rg1 {n : Nat} (hm : X.mg "range" = none) (h : XD X e O ρ (.int (n : Int))) (hn : n ≤ 100000) (hg : Gl X "range" := by rfl) (hs : starEach [e] X.env = [(false, eval e X.env)] := by rfl) : XJ X tg (.Call (.Name "range" p) [e] [] pos) O ρ (rgF 0 n 1) :=
  xi_rg1 (n := n) hm h (fun d p => ⟨n, p, hn, rfl⟩) hg hs
theorem xj_rg2 {lo hi : Int} (hm : X.mg "range" = none) (ha : XD X a O ρ (.int lo)) (hb : XD X b O ρ (.int hi)) (h1 : -100000 ≤ lo) (h2 : lo ≤ 100000) (h3 : -100000 ≤ hi) (h4 : hi ≤ 100000) (hg : Gl X "range" := by rfl)
    (hs : starEach [a, b] X.env = [(false, eval a X.env), (false, eval b X.env)] := by rfl) (hs2 : starEach [b] X.env = [(false, eval b X.env)] := by rfl) : XJ X tg (.Call (.Name "range" p) [a, b] [] pos) O ρ (rgF lo (hi - lo).toNat 1) := fun B F T σ H R hlim S k =>
  PI.s (pi_range2 hg hm (pa_cons pe_s (pa_cons pe_s pa_nil (by rw [hs2]; rfl)) (by rw [hs, hs2])) hs hs2) (ha B F T σ H _ hlim S fun d v H1 p S1 => hb B F _ σ H1 _ hlim S1 fun d2 v2 H2 p2 S2 => by
    subst p
    subst p2
    cases S2.dr List.mem_cons_self
    cases S2.dr (List.mem_cons_of_mem _ List.mem_cons_self)
    exact ⟨lo, hi, rfl, ⟨by omega, by omega, by omega, by omega⟩, k _ _ [] H2 rfl itOk_rg S2.pop1.pop1⟩)
theorem xj_rg3 {e3 : Expr} {lo hi c : Int} {n : Nat} (hm : X.mg "range" = none) (ha : XD X a O ρ (.int lo)) (hb : XD X b O ρ (.int hi)) (hc : XD X e3 O ρ (.int c)) (hr : RgC lo hi c n) (hg : Gl X "range" := by rfl)
    (hs : starEach [a, b, e3] X.env = (false, eval a X.env) :: starEach [b, e3] X.env := by rfl) (hs2 : starEach [b, e3] X.env = (false, eval b X.env) :: starEach [e3] X.env := by rfl) (hs3 : starEach [e3] X.env = (false, eval e3 X.env) :: starEach [] X.env := by rfl)
    (hpl : (backTo pos (starEach [b, e3] X.env)).any (·.1) = false := by rfl) : XJ X tg (.Call (.Name "range" p) [a, b, e3] [] pos) O ρ (rgF lo n c) := fun B F T σ H R hlim S k =>
  PI.s (pi_range3 hg hm (pa_cons pe_s (pa_cons pe_s (pa_cons pe_s pa_nil hs3) hs2) hs) hs hpl) (ha B F T σ H _ hlim S fun d v H1 p S1 => hb B F _ σ H1 _ hlim S1 fun d2 v2 H2 p2 S2 => hc B F _ σ H2 _ hlim S2 fun d3 v3 H3 p3 S3 => by
    subst p
    subst p2
    subst p3
    cases S3.dr List.mem_cons_self
    cases S3.dr (List.mem_cons_of_mem _ List.mem_cons_self)
    cases S3.dr (List.mem_cons_of_mem _ (List.mem_cons_of_mem _ List.mem_cons_self))
    exact ⟨lo, hi, c, n, rfl, hr, k _ _ [] H3 rfl itOk_rgC S3.pop1.pop1.pop1⟩)
/-- a natural number, as data -/
def nD (n : Nat) : Dt := .int (n : Int)
theorem rgF_nD (n : Nat) : rgF 0 n 1 = (List.range n).map nD := rgF_one n
theorem xj_range {n : Nat} (hm : X.mg "range" = none) (h : XD X e O ρ (nD n)) (hn : n ≤ 100000) (hg : Gl X "range" := by rfl) (hs : starEach [e] X.env = [(false, eval e X.env)] := by rfl) : XJ X tg (.Call (.Name "range" p) [e] [] pos) O ρ ((List.range n).map nD) := by
  have q : XJ X tg (.Call (.Name "range" p) [e] [] pos) O ρ (rgF 0 n 1) := xj_rg1 hm h hn hg hs
  rw [rgF_nD] at q
  exact q
/-! enumerate of a list -/
def enD (ds : List Dt) : List Dt := (List.range ds.length).map fun i => Dt.tup [.int (i : Nat), ds.getD i .non]
theorem enD_len (ds : List Dt) : (enD ds).length = ds.length := by
  unfold enD
  rw [List.length_map, List.length_range]
theorem enD_get {ds : List Dt} {i : Nat} {d : Dt} (h : (enD ds)[i]? = some d) : ∃ x, ds[i]? = some x ∧ d = .tup [.int (i : Nat), x] := by
  unfold enD at h
  rw [List.getElem?_map] at h
  cases e : (List.range ds.length)[i]? with
  | none => rw [e] at h; cases h
  | some k =>
    rw [e] at h
    obtain ⟨h1, h2⟩ := List.getElem?_eq_some_iff.mp e
    rw [List.getElem_range] at h2
    rw [List.length_range] at h1
    subst h2
    refine ⟨ds[i], List.getElem?_eq_getElem h1, ?_⟩
    have h' : d = Dt.tup [Dt.int (i : Nat), ds.getD i .non] := (Option.some.inj h).symm
    rw [h', List.getD_eq_getElem?_getD, List.getElem?_eq_getElem h1] <;> rfl
theorem itOk_enum {K : PySem.W.Frag} {l : Addr} {ds : List Dt} : ItOk K (Ite K l) [(.ref l, .lst ds)] (enD ds) where
  go := fun B O ρ T σ H i hi S => by
    rw [enD_len] at hi
    cases S.dr List.mem_cons_self with
    | lst e r =>
      have hx := r.length
      exact ⟨_, _, .inl (.inl e), List.getElem?_eq_getElem (by omega)⟩
  stop := fun B O ρ T σ H i hi S => by
    rw [enD_len] at hi
    cases S.dr List.mem_cons_self with
    | lst e r =>
      have hx := r.length
      exact ⟨_, .inl (.inl e), by omega⟩
  yld := fun B O ρ T σ H i d v H' hd S y => by
    obtain ⟨q, x, rfl, hq, rfl, y⟩ := y
    obtain ⟨dx, hx, rfl⟩ := enD_get hd
    obtain ⟨HI, S⟩ := S
    cases S.tmp _ List.mem_cons_self with
    | lst e r =>
      obtain ⟨u, h1, h2⟩ := r.get hx
      have h3 := y _ (.inl (.inl (S.ex1 _ _ e)))
      rw [h1] at h3
      cases h3
      exact ⟨_, (S.grow hq).push (.tup (.inl (.inl upd_same)) (.cons (.int _) (.cons (h2.mono (same_upd (S.hi hq))) .nil)))⟩
theorem xj_enum {elts : List Expr} {kk : Nat} {tpos : Pos} {ds : List Dt} (hm : X.mg "enumerate" = none) (h : XD X e O ρ (.lst ds)) (hg : Gl X "enumerate" := by rfl) (hs : starEach [e] X.env = [(false, eval e X.env)] := by rfl) :
    XJ X (.Tuple elts kk tpos) (.Call (.Name "enumerate" p) [e] [] pos) O ρ (enD ds) := fun B F T σ H R hb S k =>
  PI.s (pi_enum hg hm (pa_cons pe_s pa_nil hs) hs) (h B F T σ H _ hb S fun d v H1 p S1 => by
    subst p
    have S2 := S1
    cases S1.dr List.mem_cons_self with
    | lst e1 r1 => exact ⟨_, _, rfl, .inl (.inl e1), k _ _ _ H1 rfl itOk_enum S2⟩)

/-! ### targets -/
/-- assigning d to the target leaves ρ' of ρ, and turns the slots is alone -/
def EvG (g : TG) (K : PySem.W.Frag) (ρ : List Sl) (d : Dt) (ρ' : List Sl) (is : List Nat) : Prop :=
  ∀ (B : Bs) (O : List (Addr × Ow)) (T : List (V × Dt)) (σ : L2.St) (H : Hp) (v : V) (Q : L2.St → Hp → Prop), Sat K B O ρ ((v, d) :: T) σ H →
    (∀ σ' H', Sat K B O ρ' T σ' H' → σ'.length = σ.length → (∀ i, i ∉ is → σ'[i]? = σ[i]?) → Q σ' H') → g v σ H Q
def EvGs (g : TGs) (K : PySem.W.Frag) (ρ : List Sl) (ds : List Dt) (ρ' : List Sl) (is : List Nat) : Prop :=
  ∀ (B : Bs) (O : List (Addr × Ow)) (T : List (V × Dt)) (σ : L2.St) (H : Hp) (vs : List V) (Q : L2.St → Hp → Prop), vs.length = ds.length → Sat K B O ρ (vs.zip ds ++ T) σ H →
    (∀ σ' H', Sat K B O ρ' T σ' H' → σ'.length = σ.length → (∀ i, i ∉ is → σ'[i]? = σ[i]?) → Q σ' H') → g vs σ H Q
structure SG (X : Cx) (tg : Expr) (v : V) (σ : L2.St) (H : Hp) (Q : L2.St → Hp → Prop) : Prop where
  run : ∀ pins s u, Inv X pins σ H s → RelV v u → wpAny (model X.prog X.w) X.A (assign tg X.env u) (fun _ s' => ∃ σ' H', Inv X pins σ' H' s' ∧ Q σ' H') X.xe s
def sG (X : Cx) (tg : Expr) : TG := SG X tg
theorem pg_s : PG X tg (sG X tg) := ⟨fun pins s σ H v u Q I r h => SG.run h pins s u I r⟩
theorem PG.s {g : TG} (h : PG X tg g) {v : V} {σ : L2.St} {H : Hp} {Q : L2.St → Hp → Prop} (q : g v σ H Q) : sG X tg v σ H Q := SG.mk fun pins s u I r => h.run pins s σ H v u Q I r q
abbrev XG (X : Cx) (tg : Expr) (ρ : List Sl) (d : Dt) (ρ' : List Sl) (is : List Nat) : Prop := EvG (sG X tg) X.K ρ d ρ' is
theorem Sat.set {K : PySem.W.Frag} {B : Bs} {T : List (V × Dt)} {σ : L2.St} {H : Hp} {v : V} (S : Sat K B O ρ ((v, d) :: T) σ H) (i : Nat) : Sat K B O (ρ.set i (.d d)) T (σ.set i (some v)) H := by
  obtain ⟨HI, S⟩ := S
  exact ⟨HI, (S.pop fun x hx => List.mem_cons_of_mem _ hx).put ⟨v, rfl, S.tmp _ List.mem_cons_self⟩⟩
theorem xg_name (i : Nat) {x : Str} (hN : X.N.Nodup) (hi : X.N[i]? = some x := by rfl) (hx : Loc X.env.scope x := by first | exact Or.inl rfl | exact Or.inr rfl) (hf : X.fn x = true ∨ X.env.scope.names.lookup x = some .local := by first | exact .inl rfl | exact .inr rfl) :
    XG X (.Name x pos) ρ d (ρ.set i (.d d)) [i] := fun B O T σ H v Q S k => PG.s (pg_name hN hi hx hf) (k _ _ (S.set i) (List.length_set ..) fun j hj => by
      have hne : i ≠ j := fun z => hj (by rw [z]; exact List.mem_cons_self)
      rw [List.getElem?_set_ne hne])
theorem gs_nil {K : PySem.W.Frag} : EvGs gNil K ρ [] ρ [] := fun B O T σ H vs Q hl S k => by
  cases vs with
  | nil => exact ⟨rfl, k σ H S rfl fun _ _ => rfl⟩
  | cons _ _ => cases hl
theorem gs_cons {K : PySem.W.Frag} {g : TG} {gs : TGs} {ρ1 ρ2 : List Sl} {ds : List Dt} {is js : List Nat} (h1 : EvG g K ρ d ρ1 is) (h2 : EvGs gs K ρ1 ds ρ2 js) : EvGs (gCons g gs) K ρ (d :: ds) ρ2 (is ++ js) := fun B O T σ H vs Q hl S k => by
  cases vs with
  | nil => cases hl
  | cons v vs =>
    refine ⟨v, vs, rfl, h1 B O (vs.zip ds ++ T) σ H v _ S fun σ1 H1 S1 l1 q1 => h2 B O T σ1 H1 vs _ (by simpa using hl) S1 fun σ2 H2 S2 l2 q2 => k σ2 H2 S2 (l2.trans l1) fun i hi => ?_⟩
    rw [q2 i fun z => hi (List.mem_append_right _ z), q1 i fun z => hi (List.mem_append_left _ z)]
theorem xg_tup {es : List Expr} {k n : Nat} {gs : TGs} {ds : List Dt} {ρ' : List Sl} {is : List Nat} (hc : X.calm = true) (h : PGs X es gs) (q : EvGs gs X.K ρ ds ρ' is) (hn : (assignEach es X.env).length = n := by rfl) (hl : ds.length = n := by rfl)
    (hst : (assignEach es X.env).findIdx? (·.1) = none := by rfl) : XG X (.Tuple es k pos) ρ (.tup ds) ρ' is := fun B O T σ H v Q S k => PG.s (pg_tup hc h hn hst) (by
      obtain ⟨HI, S⟩ := S
      cases S.tmp _ List.mem_cons_self with
      | tup e1 r1 => exact ⟨_, _, rfl, sqT_le (Same.le S.ex1) e1, r1.length.trans hl, q B O T σ H _ Q r1.length ⟨HI, S.keep, S.ex0, S.ex1, S.clo, S.own, S.nd, S.feed, S.len, S.slots, fun x hx => by
          rcases List.mem_append.mp hx with hx | hx
          · exact zip_drs r1 x hx
          · exact S.tmp x (List.mem_cons_of_mem _ hx), S.lim⟩ k⟩)
theorem xg_two {e1 e2 : Expr} {d1 d2 : Dt} {ρ1 ρ2 : List Sl} {is js : List Nat} {k : Nat} (hc : X.calm = true) (h1 : XG X e1 ρ d1 ρ1 is) (h2 : XG X e2 ρ1 d2 ρ2 js)
    (hs1 : (assignEach [e1, e2] X.env).map (·.2) = assign e1 X.env :: (assignEach [e2] X.env).map (·.2) := by rfl) (hs2 : (assignEach [e2] X.env).map (·.2) = assign e2 X.env :: (assignEach [] X.env).map (·.2) := by rfl)
    (hn : (assignEach [e1, e2] X.env).length = 2 := by rfl) (hst : (assignEach [e1, e2] X.env).findIdx? (·.1) = none := by rfl) : XG X (.Tuple [e1, e2] k pos) ρ (.tup [d1, d2]) ρ2 (is ++ (js ++ [])) :=
  xg_tup hc (pgs_cons pg_s (pgs_cons pg_s pgs_nil hs2) hs1) (gs_cons h1 (gs_cons h2 gs_nil)) hn rfl hst
theorem xg_four {e1 e2 e3 e4 : Expr} {d1 d2 d3 d4 : Dt} {ρ1 ρ2 ρ3 ρ4 : List Sl} {is js ks ls : List Nat} {k : Nat} (hc : X.calm = true) (h1 : XG X e1 ρ d1 ρ1 is) (h2 : XG X e2 ρ1 d2 ρ2 js) (h3 : XG X e3 ρ2 d3 ρ3 ks) (h4 : XG X e4 ρ3 d4 ρ4 ls)
    (hs1 : (assignEach [e1, e2, e3, e4] X.env).map (·.2) = assign e1 X.env :: (assignEach [e2, e3, e4] X.env).map (·.2) := by rfl) (hs2 : (assignEach [e2, e3, e4] X.env).map (·.2) = assign e2 X.env :: (assignEach [e3, e4] X.env).map (·.2) := by rfl)
    (hs3 : (assignEach [e3, e4] X.env).map (·.2) = assign e3 X.env :: (assignEach [e4] X.env).map (·.2) := by rfl) (hs4 : (assignEach [e4] X.env).map (·.2) = assign e4 X.env :: (assignEach [] X.env).map (·.2) := by rfl)
    (hn : (assignEach [e1, e2, e3, e4] X.env).length = 4 := by rfl) (hst : (assignEach [e1, e2, e3, e4] X.env).findIdx? (·.1) = none := by rfl) : XG X (.Tuple [e1, e2, e3, e4] k pos) ρ (.tup [d1, d2, d3, d4]) ρ4 (is ++ (js ++ (ks ++ (ls ++ [])))) :=
  xg_tup hc (pgs_cons pg_s (pgs_cons pg_s (pgs_cons pg_s (pgs_cons pg_s pgs_nil hs4) hs3) hs2) hs1) (gs_cons h1 (gs_cons h2 (gs_cons h3 (gs_cons h4 gs_nil)))) hn rfl hst

/-! ### comprehensions -/
def wipeS (ρ : List Sl) : List Nat → List Sl
  | [] => ρ
  | v :: vs => (wipeS ρ vs).set v .u
theorem wipeS_length (ρ : List Sl) : ∀ vs : List Nat, (wipeS ρ vs).length = ρ.length
  | [] => rfl
  | v :: vs => by
    show ((wipeS ρ vs).set v .u).length = _
    rw [List.length_set, wipeS_length ρ vs]
theorem SatI.wipe {K : PySem.W.Frag} {B : Bs} {T : List (V × Dt)} {σ : L2.St} {H HI : Hp} (S : SatI K B O ρ T σ H HI) : ∀ vs : List Nat, SatI K B O (wipeS ρ vs) T (L2.wipe σ vs) H HI
  | [] => S
  | _ :: vs => (S.wipe vs).put trivial
theorem wipe_eq {σ σ' : L2.St} {vs is : List Nat} (hl : σ'.length = (L2.wipe σ vs).length) (h : ∀ i, i ∉ is → σ'[i]? = (L2.wipe σ vs)[i]?) (his : ∀ i ∈ is, i ∈ vs) : L2.wipe σ' vs = L2.wipe σ vs := by
  have hin : ∀ (τ : L2.St) (ws : List Nat) (i : Nat), i ∈ ws → i < τ.length → (L2.wipe τ ws)[i]? = some none := by
    intro τ ws
    induction ws with
    | nil => intro i hi; cases hi
    | cons w ws ih =>
      intro i hi hlt
      show ((L2.wipe τ ws).set w none)[i]? = _
      by_cases e : w = i
      · subst e
        rw [List.getElem?_set_self (by rw [wipe_length]; exact hlt)]
      · rw [List.getElem?_set_ne e]
        rcases List.mem_cons.mp hi with hi | hi
        · exact absurd hi.symm e
        · exact ih i hi hlt
  refine List.ext_getElem? fun i => ?_
  have hlen : σ'.length = σ.length := by rw [hl, wipe_length]
  by_cases hi : i ∈ vs
  · by_cases hlt : i < σ.length
    · rw [hin σ' vs i hi (by omega), hin σ vs i hi hlt]
    · rw [List.getElem?_eq_none (by rw [wipe_length]; omega), List.getElem?_eq_none (by rw [wipe_length]; omega)]
  · rw [wipe_out hi]
    exact h i fun z => hi (his i z)
/-- what stands in a comprehension's block -/
structure STs (X : Cx) (ifs : List Expr) (σ : L2.St) (H : Hp) (Q : Bool → Hp → Prop) : Prop where
  run : ∀ pins s, Inv X pins σ H s → wpAny (model X.prog X.w) X.A (forIn ifs true fun c r => if r = true then do let ok ← isTrue c X.env (eval c X.env); pure (ForInStep.yield ok) else pure (ForInStep.yield r)) (TP X pins σ Q) X.xe s
def sTs (X : Cx) (ifs : List Expr) : TT := STs X ifs
theorem PTs.s {ifs : List Expr} {t : TT} (h : PTs X ifs t) {σ : L2.St} {H : Hp} {Q : Bool → Hp → Prop} (q : t σ H Q) : sTs X ifs σ H Q := STs.mk fun pins s I => h.run pins s σ H Q I q
abbrev XTs (X : Cx) (ifs : List Expr) (O : List (Addr × Ow)) (ρ : List Sl) (c : Nat) (P : Bool → Prop) : Prop := EvT (sTs X ifs) X.K O ρ c P
theorem xts_nil : XTs X [] O ρ 0 (fun b => b = true) := fun B F T σ H Q hb S k => PTs.s pts_nil (k true H rfl S)
theorem xts_one {Pb : Bool → Prop} (h : XT X e O ρ c Pb) : XTs X [e] O ρ c Pb := fun B F T σ H Q hb S k => PTs.s (pts_one pt_s) (h B F T σ H Q hb S k)
abbrev Blk (X : Cx) (s : Shared) (H : Hp) (scope : Scope) (C : Addr) (cl : List (Str × Addr)) (fp : List Addr) : Cx := X.blk s H scope (compEnvC scope cl C X.env) fp
/-- the general rule: G tells what the list holds behind i turns -/
theorem ev_lc {tg iter elt : Expr} {vs is : List Nat} {c0 : Nat} {Pl : List Dt → Prop} {wi : TI} {g : TG} {tt : TT} {te : TE} {ρt : List Dt → Nat → List Sl}
    (hi : EvI wi X.K O ρ c0 Pl) (his : ∀ i ∈ is, i ∈ vs) (G : List Dt → Nat → List Dt → Prop) (hz : ∀ ds, Pl ds → ds.length ≤ 10000) (hc0 : c0 ≤ c) (hN : ∀ ds, Pl ds → c0 + ds.length * (c1 + c2) ≤ c)
    (Pb : List Dt → Nat → Bool → Prop) (Pe : List Dt → Nat → Dt → Prop)
    (hg : ∀ ds (i : Nat) d, Pl ds → ds[i]? = some d → EvG g X.K (wipeS ρ vs) d (ρt ds i) is) (ht : ∀ ds (i : Nat) d, Pl ds → ds[i]? = some d → EvT tt X.K O (ρt ds i) c1 (Pb ds i)) (he : ∀ ds (i : Nat) d, Pl ds → ds[i]? = some d → Pb ds i true → EvP te X.K O (ρt ds i) c2 (Pe ds i))
    (h0 : ∀ ds, Pl ds → G ds 0 []) (hs : ∀ ds (i : Nat) d acc x, Pl ds → ds[i]? = some d → G ds i acc → Pb ds i true → Pe ds i x → G ds (i + 1) (acc ++ [x])) (hs' : ∀ ds (i : Nat) d acc, Pl ds → ds[i]? = some d → G ds i acc → Pb ds i false → G ds (i + 1) acc)
    (hd : ∀ ds acc, Pl ds → G ds ds.length acc → P (.lst acc)) : EvP (tLc wi g tt te vs) X.K O ρ c P := fun B F T σ H Q hlim S k => by
  obtain ⟨S, back⟩ := S.save
  refine hi B F (svd ρ σ ++ T) σ H _ (by omega) S fun ds J T0 H1 pl ok S1 => ?_
  intro D hD
  have hN1 := hN ds pl
  have hz1 := hz ds pl
  have cost : ∀ i : Nat, i ≤ ds.length → i * (c1 + c2) ≤ ds.length * (c1 + c2) := fun i hi => Nat.mul_le_mul_right _ hi
  refine ⟨fun i m H => i + m = ds.length ∧ ∃ acc, G ds i acc ∧ acc.length ≤ i ∧ Sat X.K (B.add (c0 + i * (c1 + c2))) ((D, .lst acc) :: (F ++ O)) ρ (T0 ++ (svd ρ σ ++ T)) σ H, ⟨ds.length, by omega, [], h0 ds pl, Nat.le_refl _, ?_⟩, ?_⟩
  · obtain ⟨HI, S1⟩ := S1
    rw [Nat.zero_mul]
    exact ⟨HI, S1.ownNew hD ⟨[], rfl, .nil⟩⟩
  · rintro i m H2 ⟨him, acc, hG, hlen, S2⟩
    by_cases hlt : i < ds.length
    · have hget : ds[i]? = some ds[i] := List.getElem?_eq_getElem hlt
      have hmem : ds[i] ∈ ds := List.getElem_mem hlt
      refine .inr ⟨ok.go _ _ _ _ _ _ i hlt S2, fun H' => ∃ acc', G ds (i + 1) acc' ∧ acc'.length ≤ i + 1 ∧ Sat X.K (B.add (c0 + (i + 1) * (c1 + c2))) ((D, .lst acc') :: (F ++ O)) ρ (T0 ++ (svd ρ σ ++ T)) σ H', fun H' hn => ?_, fun x H' hy => ?_⟩
      · obtain ⟨acc', q1, q2, q3⟩ := hn
        exact ⟨m - 1, by omega, by omega, acc', q1, q2, q3⟩
      · have c3 := cost (i + 1) hlt
        have e1 : (i + 1) * (c1 + c2) = i * (c1 + c2) + (c1 + c2) := Nat.succ_mul i (c1 + c2)
        have S3 := ok.yld _ _ _ _ _ _ i _ x H' hget S2 hy
        obtain ⟨HI3, S3⟩ := S3
        refine hg ds i _ pl hget _ _ _ _ _ x _ ⟨HI3, S3.wipe vs⟩ fun σ2 H3 S4 l4 q4 => ?_
        refine ⟨wipe_eq l4 q4 his, ?_⟩
        refine ht ds i _ pl hget (B.add (c0 + i * (c1 + c2))) ((D, .lst acc) :: F) _ σ2 H3 _ (by show B.n + (c0 + i * (c1 + c2)) + c1 ≤ LIM; omega) S4 fun b H4 pb S5 => ?_
        cases b with
        | false =>
          refine iteF ⟨acc, hs' ds i _ acc pl hget hG pb, by omega, ?_⟩
          have S6 := S5.raise (m := B.n + (c0 + (i + 1) * (c1 + c2))) (by show B.n + (c0 + i * (c1 + c2)) + c1 ≤ _; omega) (by omega)
          exact back _ _ _ _ _ _ rfl (S6.pop fun x hx => by
            rcases List.mem_append.mp hx with hx | hx
            · exact List.mem_append_right _ (List.mem_append_left _ hx)
            · exact hx)
        | true =>
          refine iteT (he ds i _ pl hget pb ((B.add (c0 + i * (c1 + c2))).add c1) ((D, .lst acc) :: F) _ σ2 H4 _ (by show B.n + (c0 + i * (c1 + c2)) + c1 + c2 ≤ LIM; omega) S5 fun dx y H5 px S6 => ?_)
          obtain ⟨HI6, S6⟩ := S6
          obtain ⟨_, _, o6, g6, xs, ex, r6⟩ := S6.own _ List.mem_cons_self
          subst ex
          refine ⟨xs, g6, ?_, acc ++ [dx], hs ds i _ acc dx pl hget hG pb px, by rw [List.length_append, List.length_singleton]; omega, ?_⟩
          · rw [r6.length]
            exact Nat.lt_of_le_of_lt (show acc.length ≤ 10000 by omega) (by decide)
          · have S7 : SatI X.K _ ((D, .lst (acc ++ [dx])) :: (F ++ O)) _ _ _ _ _ := S6.ownPut (A := []) (w' := .lst (acc ++ [dx])) (o := .lst (xs ++ [y])) ⟨_, rfl, r6.append (.one (S6.tmp _ List.mem_cons_self))⟩
            have S8 : Sat X.K _ ((D, .lst (acc ++ [dx])) :: (F ++ O)) _ _ _ _ := ⟨_, S7⟩
            have S9 := S8.raise (m := B.n + (c0 + (i + 1) * (c1 + c2))) (by show B.n + (c0 + i * (c1 + c2)) + c1 + c2 ≤ _; omega) (by omega)
            exact back _ _ _ _ _ _ rfl (S9.pop fun x hx => by
              rcases List.mem_append.mp hx with hx | hx
              · exact List.mem_cons_of_mem _ (List.mem_append_right _ (List.mem_append_left _ hx))
              · exact List.mem_cons_of_mem _ hx)
    · have hi2 : i = ds.length := by omega
      subst hi2
      refine .inl ⟨ok.stop _ _ _ _ _ _ _ (Nat.le_refl _) S2, ?_⟩
      obtain ⟨HI, S2⟩ := S2
      obtain ⟨_, g2, o6, g6, xs, ex, r6⟩ := S2.own _ List.mem_cons_self
      subst ex
      have S3 := (S2.freeze g6).push (v := .ref D) (d := .lst acc) (.lst upd_same (r6.mono (same_upd g2)))
      have S4 : Sat X.K _ (F ++ O) ρ _ σ H2 := ⟨_, S3⟩
      have S5 := S4.raise (m := B.n + c) (by show B.n + (c0 + ds.length * (c1 + c2)) ≤ _; omega) hlim
      exact k _ _ _ (hd ds acc pl hG) (S5.pop fun x hx => by
        rcases List.mem_cons.mp hx with rfl | hx
        · exact List.mem_cons_self
        · exact List.mem_cons_of_mem _ (List.mem_append_right _ (List.mem_append_right _ hx)))
/-- what the pieces do in whatever block -/
def bG (X : Cx) (scope : Scope) (tg : Expr) : TG := fun v σ H Q => ∀ s H0 C cl fp, sG (Blk X s H0 scope C cl fp) tg v σ H Q
def bT (X : Cx) (scope : Scope) (ifs : List Expr) : TT := fun σ H Q => ∀ s H0 C cl fp, sTs (Blk X s H0 scope C cl fp) ifs σ H Q
def bE (X : Cx) (scope : Scope) (e : Expr) : TE := fun σ H Q => ∀ s H0 C cl fp, sE (Blk X s H0 scope C cl fp) e σ H Q
theorem pe_lcS {scope : Scope} {own : List (Str × Nat)} {iter elt : Expr} {ifs : List Expr} (hc : X.calm = true) (hN : X.N.Nodup) (ok : BlkOk X.N X.env.scope scope own) (hs : ∀ x, foldedSetIterable iter X.env x = pure x := by intro _; rfl) :
    PE X (.ListComp elt [⟨tg, iter, ifs, 0⟩] scope pos) (tLc (sI X tg iter) (bG X scope tg) (bT X scope ifs) (bE X scope elt) (own.map (·.2))) :=
  pe_lc hc hN pi_s ok (fun s H0 C cl fp => ⟨fun pins s1 σ H v u Q I r h => SG.run (h s H0 C cl fp) pins s1 u I r⟩) (fun s H0 C cl fp => ⟨fun pins s1 σ H Q I h => STs.run (h s H0 C cl fp) pins s1 I⟩) (fun s H0 C cl fp => ⟨fun pins s1 σ H Q I h => SE.run (h s H0 C cl fp) pins s1 I⟩) hs
def lcE (X : Cx) (scope : Scope) (own : List (Str × Nat)) (tg iter : Expr) (ifs : List Expr) (elt : Expr) : TE := tLc (sI X tg iter) (bG X scope tg) (bT X scope ifs) (bE X scope elt) (own.map (·.2))
theorem xe_lcO {scope : Scope} {own : List (Str × Nat)} {iter elt : Expr} {ifs : List Expr} (hc : X.calm = true) (hNd : X.N.Nodup) (ok : BlkOk X.N X.env.scope scope own) (h : EvP (lcE X scope own tg iter ifs elt) X.K O ρ c P)
    (hfo : ∀ x, foldedSetIterable iter X.env x = pure x := by intro _; rfl) : XE X (.ListComp elt [⟨tg, iter, ifs, 0⟩] scope pos) O ρ c P := xe_of (pe_lcS hc hNd ok hfo) h
theorem ev_lcX {scope : Scope} (own : List (Str × Nat)) {iter elt : Expr} {ifs : List Expr} {is : List Nat} {c0 : Nat} {Pl : List Dt → Prop} {ρt : List Dt → Nat → List Sl}
    (hi : XI X tg iter O ρ c0 Pl) (his : ∀ i ∈ is, i ∈ own.map (·.2)) (G : List Dt → Nat → List Dt → Prop) (hz : ∀ ds, Pl ds → ds.length ≤ 10000) (hc0 : c0 ≤ c) (hN : ∀ ds, Pl ds → c0 + ds.length * (c1 + c2) ≤ c)
    (Pb : List Dt → Nat → Bool → Prop) (Pe : List Dt → Nat → Dt → Prop)
    (hg : ∀ ds (i : Nat) d, Pl ds → ds[i]? = some d → ∀ s H0 C cl fp, XG (Blk X s H0 scope C cl fp) tg (wipeS ρ (own.map (·.2))) d (ρt ds i) is)
    (ht : ∀ ds (i : Nat) d, Pl ds → ds[i]? = some d → ∀ s H0 C cl fp, XTs (Blk X s H0 scope C cl fp) ifs O (ρt ds i) c1 (Pb ds i))
    (he : ∀ ds (i : Nat) d, Pl ds → ds[i]? = some d → Pb ds i true → ∀ s H0 C cl fp, XE (Blk X s H0 scope C cl fp) elt O (ρt ds i) c2 (Pe ds i))
    (h0 : ∀ ds, Pl ds → G ds 0 []) (hs : ∀ ds (i : Nat) d acc x, Pl ds → ds[i]? = some d → G ds i acc → Pb ds i true → Pe ds i x → G ds (i + 1) (acc ++ [x])) (hs' : ∀ ds (i : Nat) d acc, Pl ds → ds[i]? = some d → G ds i acc → Pb ds i false → G ds (i + 1) acc)
    (hd : ∀ ds acc, Pl ds → G ds ds.length acc → P (.lst acc)) : EvP (lcE X scope own tg iter ifs elt) X.K O ρ c P :=
  (ev_lc (tg := tg) (iter := iter) (elt := elt) hi his G hz hc0 hN Pb Pe
    (fun ds i d p m B O' T σ H v Q S k s H0 C cl fp => hg ds i d p m s H0 C cl fp B O' T σ H v Q S k)
    (fun ds i d p m B F T σ H Q hl S k s H0 C cl fp => ht ds i d p m s H0 C cl fp B F T σ H Q hl S k)
    (fun ds i d p m pb B F T σ H Q hl S k s H0 C cl fp => he ds i d p m pb s H0 C cl fp B F T σ H Q hl S k) h0 hs hs' hd)
/-- the plain rule: from a list of α to a list, by a test and a function -/
theorem ev_lcD {α : Type} {scope : Scope} (own : List (Str × Nat)) {iter elt : Expr} {ifs : List Expr} {is : List Nat} (enc : α → Dt) (f : α → Bool) (g : α → Dt) (xs : List α) {ρt : α → List Sl}
    (hi : XJ X tg iter O ρ (xs.map enc)) (his : ∀ i ∈ is, i ∈ own.map (·.2)) (hz : xs.length ≤ 10000)
    (hg : ∀ x ∈ xs, ∀ s H0 C cl fp, XG (Blk X s H0 scope C cl fp) tg (wipeS ρ (own.map (·.2))) (enc x) (ρt x) is)
    (ht : ∀ x ∈ xs, ∀ s H0 C cl fp, XTs (Blk X s H0 scope C cl fp) ifs O (ρt x) 0 (fun b => b = f x))
    (he : ∀ x ∈ xs, f x = true → ∀ s H0 C cl fp, XD (Blk X s H0 scope C cl fp) elt O (ρt x) (g x)) :
    EvP (lcE X scope own tg iter ifs elt) X.K O ρ 0 (fun d => d = .lst ((xs.filter f).map g)) := by
  have get : ∀ (i : Nat) d, (xs.map enc)[i]? = some d → ∃ x, xs[i]? = some x ∧ x ∈ xs ∧ d = enc x := fun i d h => by
    rw [List.getElem?_map] at h
    cases e : xs[i]? with
    | none => rw [e] at h; cases h
    | some x =>
      rw [e] at h
      exact ⟨x, rfl, List.mem_of_getElem? e, (Option.some.inj h).symm⟩
  have step : ∀ (i : Nat) (x : α), xs[i]? = some x → xs.take (i + 1) = xs.take i ++ [x] := fun i x e => by
    rw [List.take_add_one, e] <;> rfl
  refine ev_lcX own (c0 := 0) (c1 := 0) (c2 := 0) (Pl := fun ds => ds = xs.map enc) (ρt := fun _ i => match xs[i]? with | some x => ρt x | none => []) (is := is) hi his
    (fun _ i acc => acc = ((xs.take i).filter f).map g) (fun ds p => by rw [p, List.length_map]; exact hz) (Nat.le_refl _) (fun ds p => by simp) (fun _ i b => ∀ x, xs[i]? = some x → b = f x) (fun _ i d => ∀ x, xs[i]? = some x → d = g x) ?_ ?_ ?_ ?_ ?_ ?_ ?_
  · intro ds i d p e s H0 C cl fp
    subst p
    obtain ⟨x, e1, e2, rfl⟩ := get i d e
    rw [e1]
    exact hg x e2 s H0 C cl fp
  · intro ds i d p e s H0 C cl fp
    subst p
    obtain ⟨x, e1, e2, rfl⟩ := get i d e
    rw [e1]
    exact EvT.imp (ht x e2 s H0 C cl fp) fun b pb y ey => by
      cases ey
      exact pb
  · intro ds i d p e pb s H0 C cl fp
    subst p
    obtain ⟨x, e1, e2, rfl⟩ := get i d e
    rw [e1] at pb ⊢
    exact EvP.imp (he x e2 (pb x rfl).symm s H0 C cl fp) fun b pb y ey => by
      cases ey
      exact pb
  · intro ds p
    rfl
  · intro ds i d acc x p e ha pb pe
    subst p
    obtain ⟨y, e1, e2, rfl⟩ := get i d e
    rw [step i y e1, List.filter_append, List.map_append, ← ha, pe y e1, List.filter_cons, ← pb y e1] <;> rfl
  · intro ds i d acc p e ha pb
    subst p
    obtain ⟨y, e1, e2, rfl⟩ := get i d e
    rw [step i y e1, List.filter_append, List.map_append, ← ha, List.filter_cons, ← pb y e1]
    simp
  · intro ds acc p ha
    subst p
    rw [ha, List.length_map, List.take_length]
end
end Lg


set_option Elab.async false
set_option linter.all false
set_option maxRecDepth 100000
set_option maxHeartbeats 4000000
set_option autoImplicit false
/-! Lg5: statements, contracts, calls. -/
namespace Lg
open PySem PySem.Spec L2

structure WS (X : Cx) (sts : List Stmt) (D : Ends) (σ : L2.St) (H : Hp) : Prop where
  run : ∀ pins s, Inv X pins σ H s → wpAny (model X.prog X.w) X.A (execs sts X.env) (SP X pins D) X.xe s
structure W1 (X : Cx) (st : Stmt) (D : Ends) (σ : L2.St) (H : Hp) : Prop where
  run : ∀ pins s, Inv X pins σ H s → wpAny (model X.prog X.w) X.A (exec st X.env) (SP X pins D) X.xe s
section
variable {X : Cx} {O : List (Addr × Ow)} {ρ : List Sl} {c c0 c1 c2 : Nat} {P Pa Pb : Dt → Prop} {a b e tg : Expr} {pos p pos' : Pos} {d : Dt} {i j : Int} {st : Stmt} {rest body : List Stmt} {D : Ends} {σ : L2.St} {H : Hp} {B : Bs} {T : List (V × Dt)}
theorem pss_s : PSs X rest (fun D σ H => WS X rest D σ H) := ⟨fun pins s σ H D I h => h.run pins s I⟩
theorem ps_s : PS X st (fun D σ H => W1 X st D σ H) := ⟨fun pins s σ H D I h => h.run pins s I⟩
theorem W1.of {t : TS} (h : PS X st t) (q : t D σ H) : W1 X st D σ H := ⟨fun pins s I => h.run pins s σ H D I q⟩
theorem WS.cons (h : W1 X st { D with nx := fun σ' H' => WS X rest D σ' H' } σ H) : WS X (st :: rest) D σ H := ⟨fun pins s I => (pss_cons ps_s pss_s).run pins s σ H D I h⟩
theorem WS.nil (h : D.nx σ H) : WS X [] D σ H := ⟨fun pins s I => pss_nil.run pins s σ H D I h⟩
/-! assignments -/
theorem w_asg {ρ' : Dt → List Sl} {is : List Nat} (hx : XE X e O ρ c P) (hg : ∀ d, P d → XG X tg ρ d (ρ' d) is) (S : Sat X.K B O ρ T σ H) (hl : B.n + c ≤ LIM) (k : ∀ d σ' H', P d → Sat X.K (B.add c) O (ρ' d) T σ' H' → D.nx σ' H')
    (hs : swapsWithSole [tg] e pos.line X.env = pure false := by rfl) (hw : swappedStores [tg] e X.env = pure none := by rfl)
    (h1 : (assignEach [tg] X.env).map (·.2) = [assign tg X.env] := by rfl) : W1 X (.Assign [tg] e pos) D σ H :=
  .of (ps_asg pe_s pg_s hs hw h1) (hx B [] T σ H _ hl S fun d v H1 p S1 => hg d p _ _ _ _ _ _ _ S1 fun σ' H' S2 _ _ => k d σ' H' p S2)
theorem w_set (n : Nat) {x : Str} (hx : XE X e O ρ c P) (S : Sat X.K B O ρ T σ H) (hl : B.n + c ≤ LIM) (k : ∀ d σ' H', P d → Sat X.K (B.add c) O (ρ.set n (.d d)) T σ' H' → D.nx σ' H') (hN : X.N.Nodup) (hi : X.N[n]? = some x := by rfl)
    (hx' : Loc X.env.scope x := by first | exact Or.inl rfl | exact Or.inr rfl) (hs : swapsWith e (some (.Name x pos')) pos.line X.env = pure false := by rfl) (hf : X.fn x = true ∨ X.env.scope.names.lookup x = some .local := by first | exact .inl rfl | exact .inr rfl) :
    W1 X (.Assign [.Name x pos'] e pos) D σ H := .of (ps_set hN hi hx' pe_s hs hf) (hx B [] T σ H _ hl S fun d v H1 p S1 => k d _ _ p (S1.set n))
/-- y = [.. for ..] -/
theorem w_setLc (n : Nat) {y : Str} {scope : Scope} {own : List (Str × Nat)} {iter elt : Expr} {ifs : List Expr} {py : Pos} (hc : X.calm = true) (hNd : X.N.Nodup) (ok : BlkOk X.N X.env.scope scope own) (h : EvP (lcE X scope own tg iter ifs elt) X.K O ρ c P) (S : Sat X.K B O ρ T σ H) (hl : B.n + c ≤ LIM)
    (k : ∀ d σ' H', P d → Sat X.K (B.add c) O (ρ.set n (.d d)) T σ' H' → D.nx σ' H') (hy : X.N[n]? = some y := by rfl) (hyl : X.env.scope.names.lookup y = some .local := by rfl)
    (hsw : swapsWith (.ListComp elt [⟨tg, iter, ifs, 0⟩] scope pos) (some (.Name y py)) pos'.line X.env = pure true := by exact sw_true rfl rfl rfl (by decide +kernel)) (hfo : ∀ x, foldedSetIterable iter X.env x = pure x := by intro _; rfl) :
    W1 X (.Assign [.Name y py] (.ListComp elt [⟨tg, iter, ifs, 0⟩] scope pos) pos') D σ H :=
  .of (ps_setLc hc hNd hy hyl hsw pi_s ok (fun s H0 C cl fp => ⟨fun pins s1 σ H v u Q I r h => SG.run (h s H0 C cl fp) pins s1 u I r⟩) (fun s H0 C cl fp => ⟨fun pins s1 σ H Q I h => STs.run (h s H0 C cl fp) pins s1 I⟩) (fun s H0 C cl fp => ⟨fun pins s1 σ H Q I h => SE.run (h s H0 C cl fp) pins s1 I⟩) hfo)
    (h B [] T σ H _ hl S fun d v H1 p S1 => k d _ _ p (S1.set n))
/-! one's own lists, dicts -/
def EvN (te : TE) (K : PySem.W.Frag) (O : List (Addr × Ow)) (ρ : List Sl) (c : Nat) (P : Ow → Prop) : Prop :=
  ∀ (B : Bs) (F : List (Addr × Ow)) (T : List (V × Dt)) (σ : L2.St) (H : Hp) (Q : VK), B.n + c ≤ LIM → Sat K B (F ++ O) ρ T σ H → (∀ p w H2, P w → Sat K (B.add c) ((p, w) :: (F ++ O)) ρ T σ H2 → Q (.ref p) H2) → te σ H Q
abbrev XN (X : Cx) (e : Expr) (O : List (Addr × Ow)) (ρ : List Sl) (c : Nat) (P : Ow → Prop) : Prop := EvN (sE X e) X.K O ρ c P
theorem xn_lst {es : List Expr} {Pl : List Dt → Prop} {Pw : Ow → Prop} (h : XA X es O ρ c Pl) (hp : ∀ ds, Pl ds → ds.length ≤ 1000 ∧ Pw (.lst ds)) : XN X (.List es pos) O ρ c Pw := fun B F T σ H Q hb S k =>
  PE.s (pe_lst pa_s) (h B F T σ H _ hb S fun ds vs H1 p hl S1 => by
    obtain ⟨h1, h2⟩ := hp ds p
    refine ⟨by rw [hl]; exact Nat.le_trans h1 (by decide), fun q hq => k q _ _ h2 ?_⟩
    obtain ⟨HI, S1⟩ := S1
    exact ⟨HI, (S1.pop fun x hx => List.mem_append_right _ hx).ownNew hq ⟨vs, rfl, drs_zip hl fun x hx => S1.tmp x (List.mem_append_left _ hx)⟩⟩)
theorem xn_nil : XN X (.List [] pos) O ρ 0 (fun w => w = .lst []) := xn_lst xl_nil fun ds p => by subst p; exact ⟨Nat.zero_le _, rfl⟩
theorem xn_dnil : XN X (.Dict [] [] pos) O ρ 0 (fun w => w = .dk []) := fun B F T σ H Q hb S k => PE.s pe_dnewK fun q hq => k q _ _ rfl (by
  obtain ⟨HI, S⟩ := S
  exact ⟨HI, S.ownNew hq ⟨[], rfl, .nil⟩⟩)
/-- list(t), t a tuple -/
theorem xn_listT {ds : List Dt} (hm : X.mg "list" = none) (ha : XD X e O ρ (.tup ds)) (hg : Gl X "list" := by rfl) (he : starEach [e] X.env = (false, eval e X.env) :: starEach [] X.env := by rfl) : XN X (.Call (.Name "list" p) [e] [] pos) O ρ 0 (fun w => w = .lst ds) := fun B F T σ H Q hb S k =>
  PE.s (pe_callTy call_list_of hg hm (by decide +kernel) (pa_cons pe_s pa_nil he) (by decide) (by decide) he) (ha B F T σ H _ hb S fun d0 v H1 p S1 => by
    subst p
    obtain ⟨HI, S1⟩ := S1
    cases S1.tmp _ List.mem_cons_self with
    | tup e1 r1 => exact ⟨_, _, rfl, .inr (sqT_le (Same.le S1.ex1) e1), fun l hl => k l _ _ rfl ⟨HI, (S1.pop fun x hx => List.mem_cons_of_mem _ hx).ownNew hl ⟨_, rfl, r1⟩⟩⟩)
theorem w_own (n : Nat) {x : Str} {Pw : Ow → Prop} (hx : XN X e O ρ c Pw) (S : Sat X.K B O ρ T σ H) (hl : B.n + c ≤ LIM) (k : ∀ q w σ' H', Pw w → Sat X.K (B.add c) ((q, w) :: O) (ρ.set n (.o q)) T σ' H' → D.nx σ' H') (hN : X.N.Nodup) (hi : X.N[n]? = some x := by rfl)
    (hx' : Loc X.env.scope x := by first | exact Or.inl rfl | exact Or.inr rfl) (hs : swapsWith e (some (.Name x pos')) pos.line X.env = pure false := by rfl) (hf : X.fn x = true ∨ X.env.scope.names.lookup x = some .local := by first | exact .inl rfl | exact .inr rfl) :
    W1 X (.Assign [.Name x pos'] e pos) D σ H := .of (ps_set hN hi hx' pe_s hs hf) (hx B [] T σ H _ hl S fun q w H1 pw S1 => k q w _ _ pw (by
      obtain ⟨HI, S1⟩ := S1
      exact ⟨HI, S1.put rfl⟩))
theorem own_at {A C : List (Addr × Ow)} {q : Addr} {w : Ow} (S : Sat X.K B (A ++ (q, w) :: C) ρ T σ H) : ∃ HI o, SatI X.K B (A ++ (q, w) :: C) ρ T σ H HI ∧ H q = some o ∧ OwR X.K HI w o := by
  obtain ⟨HI, S⟩ := S
  obtain ⟨_, _, o, g1, g2⟩ := S.own _ (List.mem_append_right _ List.mem_cons_self)
  exact ⟨HI, o, S, g1, g2⟩
theorem slot_own {n : Nat} {q : Addr} (S : Sat X.K B O ρ T σ H) (h : ρ[n]? = some (.o q)) : σ[n]? = some (some (.ref q)) := by
  obtain ⟨HI, S⟩ := S
  obtain ⟨v, e, r⟩ := S.slots n _ h
  have r' : v = some (.ref q) := r
  rw [e, r']
/-- x.append(e), x one's own -/
theorem w_append (n : Nat) {x : Str} {q : Addr} {ds : List Dt} {A C : List (Addr × Ow)} {apos npos : Pos} (hx : XE X e (A ++ (q, .lst ds) :: C) ρ c P) (S : Sat X.K B (A ++ (q, .lst ds) :: C) ρ T σ H) (hl : B.n + c ≤ LIM) (hz : ds.length ≤ 50000)
    (k : ∀ d H', P d → Sat X.K (B.add c) (A ++ (q, .lst (ds ++ [d])) :: C) ρ T σ H' → D.nx σ H') (hρ : ρ[n]? = some (.o q) := by rfl) (hN : X.N[n]? = some x := by rfl)
    (hv : Vis X.env.scope x := by first | exact Or.inl rfl | exact Or.inr (Or.inl rfl) | exact Or.inr (Or.inr rfl)) (hd : (x == ("__debug__" : Str)) = false := by decide) (hcd : (x == ("__classdict__" : Str)) = false := by decide)
    (hbase : attributeBase (.Name x npos) "append" X.env (eval (.Name x npos) X.env) = eval (.Name x npos) X.env := by rfl)
    (hfew : ((backTo pos (starEach (e :: []) X.env)).all (fun x => !x.1) && (backToKw pos (keywordEach [] X.env)).all (fun x => x.1.isSome) && decide ((e :: []).length + ([] : List Keyword).length + (if ([] : List Keyword).isEmpty then 0 else 1) < 30)) = true := by rfl)
    (hline : (apos.endLine == pos.line) = true := by rfl) (hs : starEach (e :: []) X.env = (false, eval e X.env) :: starEach [] X.env := by rfl) (hplain : (backTo pos (starEach [] X.env)).any (·.1) = false := by rfl)
    (hsw : swapsWith (.Call (.Attribute (.Name x npos) "append" apos) [e] [] pos) none pos'.line X.env = pure false := by rfl) :
    W1 X (.Expr (.Call (.Attribute (.Name x npos) "append" apos) [e] [] pos) pos') D σ H :=
  .of (ps_expr (pe_bm PySem.F.plainAttrs_list PySem.F.slot_list_append PySem.F.type_list_append mt_append (pe_var hN hv hd hcd) (pa_cons pe_s pa_nil hs) hbase hfew hline hs hplain) hsw) (by
    have hσ := slot_own S hρ
    obtain ⟨HI, o, S0, g1, xs, rfl, r⟩ := own_at S
    refine ⟨.ref q, hσ, .inl ⟨rfl, xs, .inl (.inl g1)⟩, hx B [] T σ H _ hl S fun d v H1 p S1 => ?_⟩
    obtain ⟨HI1, o1, S2, g2, ys, rfl, r2⟩ := own_at S1
    refine ⟨q, ys, v, rfl, rfl, g2, ?_, k d _ p ⟨HI1, (S2.pop fun x hx => List.mem_cons_of_mem _ hx).ownPut ⟨_, rfl, r2.append (.one (S2.tmp _ List.mem_cons_self))⟩⟩⟩
    rw [r2.length]
    exact Nat.lt_of_le_of_lt hz (by decide))
/-- x[i] = e, x one's own list -/
theorem w_setItem (n : Nat) {x : Str} {q : Addr} {ds : List Dt} {A C : List (Addr × Ow)} {npos : Pos} {m : Nat} (hx : XE X e (A ++ (q, .lst ds) :: C) ρ c P) (hi : XD X a (A ++ (q, .lst ds) :: C) ρ (.int (m : Int))) (hm : m < ds.length) (S : Sat X.K B (A ++ (q, .lst ds) :: C) ρ T σ H) (hl : B.n + c ≤ LIM)
    (k : ∀ d H', P d → Sat X.K (B.add c) (A ++ (q, .lst (ds.set m d)) :: C) ρ T σ H' → D.nx σ H') (hρ : ρ[n]? = some (.o q) := by rfl) (hN : X.N[n]? = some x := by rfl)
    (hv : Vis X.env.scope x := by first | exact Or.inl rfl | exact Or.inr (Or.inl rfl) | exact Or.inr (Or.inr rfl)) (hd : (x == ("__debug__" : Str)) = false := by decide) (hcd : (x == ("__classdict__" : Str)) = false := by decide)
    (hs : swapsWithSole [.Subscript (.Name x npos) a pos'] e pos.line X.env = pure false := by rfl) (hw : swappedStores [.Subscript (.Name x npos) a pos'] e X.env = pure none := by rfl)
    (h1 : (assignEach [.Subscript (.Name x npos) a pos'] X.env).map (·.2) = [assign (.Subscript (.Name x npos) a pos') X.env] := by rfl)
    (ha : ∀ v, assign (.Subscript (.Name x npos) a pos') X.env v = (do
      let ov ← holding [v] (eval (.Name x npos) X.env)
      let iv ← holding [v, ov] (eval a X.env)
      standAt pos'
      holding [v, ov, iv] (setItem ov iv v)
      release [v, ov, iv] []) := by intro _; rfl) :
    W1 X (.Assign [.Subscript (.Name x npos) a pos'] e pos) D σ H :=
  .of (ps_asg pe_s (pg_sub (pe_var hN hv hd hcd) pe_s set_list ha) hs hw h1) (hx B [] T σ H _ hl S fun d v H1 p S1 => by
    have hσ := slot_own S1 hρ
    refine ⟨.ref q, hσ, hi (B.add c) [] _ σ H1 _ S1.lim S1 fun d2 v2 H2 p2 S2 => ?_⟩
    subst p2
    cases S2.dr List.mem_cons_self
    obtain ⟨HI1, o1, S3, g2, ys, rfl, r2⟩ := own_at S2
    refine ⟨q, ys, (m : Int), m, rfl, rfl, g2, ?_, k d _ p ⟨HI1, (S3.pop fun x hx => List.mem_cons_of_mem _ (List.mem_cons_of_mem _ hx)).ownPut ⟨_, rfl, DrL.set (S3.tmp _ (List.mem_cons_of_mem _ List.mem_cons_self)) m r2⟩⟩⟩
    rw [r2.length]
    unfold ixN
    rw [if_pos (by omega), if_pos (by omega)]
    rfl)
/-! if, return -/
theorem w_if {c' : Expr} {th el : List Stmt} {Pb : Bool → Prop} (hc : XT X c' O ρ c Pb) (S : Sat X.K B O ρ T σ H) (hl : B.n + c ≤ LIM) (h1 : ∀ H', Pb true → Sat X.K (B.add c) O ρ T σ H' → WS X th D σ H') (h2 : ∀ H', Pb false → Sat X.K (B.add c) O ρ T σ H' → WS X el D σ H') : W1 X (.If c' th el pos) D σ H :=
  .of (ps_if pt_s pss_s pss_s) (hc B [] T σ H _ hl S fun b H1 p S1 => by
    cases b with
    | true => exact iteT (h1 H1 p S1)
    | false => exact iteF (h2 H1 p S1))
theorem w_ret (hx : XE X e O ρ c P) (S : Sat X.K B O ρ T σ H) (hl : B.n + c ≤ LIM) (k : ∀ d v H', P d → Sat X.K (B.add c) O ρ ((v, d) :: T) σ H' → D.rt v H') : W1 X (.Return (some e) pos) D σ H :=
  .of (ps_ret pe_s) (hx B [] T σ H _ hl S fun d v H1 p S1 => k d v H1 p S1)
/-- return x, x one's own -/
theorem w_retOwn (n : Nat) {x : Str} {q : Addr} {ds : List Dt} {npos : Pos} (S : Sat X.K B ((q, .lst ds) :: O) ρ T σ H) (k : ∀ v H', Sat X.K B O ρ ((v, .lst ds) :: T) σ H' → D.rt v H') (hρ : ρ[n]? = some (.o q) := by rfl) (hN : X.N[n]? = some x := by rfl)
    (hv : Vis X.env.scope x := by first | exact Or.inl rfl | exact Or.inr (Or.inl rfl) | exact Or.inr (Or.inr rfl)) (hd : (x == ("__debug__" : Str)) = false := by decide) (hcd : (x == ("__classdict__" : Str)) = false := by decide) : W1 X (.Return (some (.Name x npos)) pos) D σ H :=
  .of (ps_ret (pe_var hN hv hd hcd)) (by
    have hσ := slot_own S hρ
    obtain ⟨HI, S⟩ := S
    obtain ⟨_, g0, o, g1, xs, rfl, r⟩ := S.own _ List.mem_cons_self
    exact ⟨.ref q, hσ, k _ _ ⟨_, (S.freeze g1).push (.lst upd_same (r.mono (same_upd g0)))⟩⟩)
theorem w_retOwnK (n : Nat) {x : Str} {q : Addr} {ds : List (Key × Dt)} {npos : Pos} (S : Sat X.K B ((q, .dk ds) :: O) ρ T σ H) (k : ∀ v H', Sat X.K B O ρ ((v, .dk ds) :: T) σ H' → D.rt v H') (hρ : ρ[n]? = some (.o q) := by rfl) (hN : X.N[n]? = some x := by rfl)
    (hv : Vis X.env.scope x := by first | exact Or.inl rfl | exact Or.inr (Or.inl rfl) | exact Or.inr (Or.inr rfl)) (hd : (x == ("__debug__" : Str)) = false := by decide) (hcd : (x == ("__classdict__" : Str)) = false := by decide) : W1 X (.Return (some (.Name x npos)) pos) D σ H :=
  .of (ps_ret (pe_var hN hv hd hcd)) (by
    have hσ := slot_own S hρ
    obtain ⟨HI, S⟩ := S
    obtain ⟨_, g0, o, g1, xs, rfl, r⟩ := S.own _ List.mem_cons_self
    exact ⟨.ref q, hσ, k _ _ ⟨_, (S.freeze g1).push (.dk (.inl upd_same) (r.mono (same_upd g0)))⟩⟩)
/-! for -/
theorem w_for {iter : Expr} {Pl : List Dt → Prop} {gt : List Dt → Nat → List Sl → List Sl} {is : List Nat} (I : List Dt → Nat → Bs → List (Addr × Ow) → List Sl → Prop) (hp : PassesOwn (model X.prog X.w) X.A X.env X.xe) (hc : X.calm = true)
    (hi : XI X tg iter O ρ c0 Pl) (S : Sat X.K B O ρ T σ H) (hl : B.n + c0 ≤ LIM) (h0 : ∀ ds, Pl ds → I ds 0 (B.add c0) O ρ)
    (hg : ∀ ds (n : Nat) d B' O' ρ', Pl ds → ds[n]? = some d → I ds n B' O' ρ' → XG X tg ρ' d (gt ds n ρ') is)
    (hs : ∀ ds (n : Nat) d B' O' ρ' T' σ' H' (N : L2.St → Hp → Prop), Pl ds → ds[n]? = some d → I ds n B' O' ρ' → Sat X.K B' O' (gt ds n ρ') T' σ' H' → (∀ B2 O2 ρ2 σ2 H2, I ds (n + 1) B2 O2 ρ2 → Sat X.K B2 O2 ρ2 T' σ2 H2 → N σ2 H2) → WS X body { D with nx := N, ct := N, bk := D.nx } σ' H')
    (hd : ∀ ds B' O' ρ' σ' H', Pl ds → I ds ds.length B' O' ρ' → Sat X.K B' O' ρ' T σ' H' → D.nx σ' H') (hfo : ∀ x, foldedSetIterable iter X.env x = pure x := by intro _; rfl) : W1 X (.For tg iter body [] pos) D σ H :=
  .of (ps_for hp hc pi_s pg_s pss_s hfo) (hi B [] T σ H _ hl S fun ds J T0 H1 pl ok S1 => by
    refine ⟨fun n m σ' H' => n + m = ds.length ∧ ∃ B' O' ρ', I ds n B' O' ρ' ∧ Sat X.K B' O' ρ' (T0 ++ T) σ' H', ⟨ds.length, by omega, _, _, _, h0 ds pl, S1⟩, ?_⟩
    rintro n m σ' H' ⟨hnm, B', O', ρ', hI, S2⟩
    by_cases hlt : n < ds.length
    · have hget : ds[n]? = some ds[n] := List.getElem?_eq_getElem hlt
      refine .inr ⟨ok.go _ _ _ _ _ _ n hlt S2, fun σ2 H2 => ∃ B2 O2 ρ2, I ds (n + 1) B2 O2 ρ2 ∧ Sat X.K B2 O2 ρ2 (T0 ++ T) σ2 H2, fun σ2 H2 hn => ?_, fun x H2 hy => ?_⟩
      · obtain ⟨B2, O2, ρ2, q1, q2⟩ := hn
        exact ⟨m - 1, by omega, by omega, B2, O2, ρ2, q1, q2⟩
      · have S3 := ok.yld _ _ _ _ _ _ n _ x H2 hget S2 hy
        exact hg ds n _ B' O' ρ' pl hget hI _ _ _ _ _ _ _ S3 fun σ3 H3 S4 _ _ => hs ds n _ B' O' ρ' _ σ3 H3 _ pl hget hI S4 fun B2 O2 ρ2 σ4 H4 q1 q2 => ⟨B2, O2, ρ2, q1, q2⟩
    · have hn : n = ds.length := by omega
      subst hn
      exact .inl ⟨ok.stop _ _ _ _ _ _ _ (Nat.le_refl _) S2, hd ds B' O' ρ' σ' H' pl hI (S2.pop fun x hx => List.mem_append_right _ hx)⟩)
/-- the plain for: over a list of α, one name as the target, at no cost -/
theorem w_forN {α : Type} (m : Nat) {x : Str} {iter : Expr} (enc : α → Dt) (xs : List α) (I : Nat → List (Addr × Ow) → List Sl → Prop) (hp : PassesOwn (model X.prog X.w) X.A X.env X.xe) (hc : X.calm = true) (hN : X.N.Nodup)
    (hi : XJ X (.Name x pos') iter O ρ (xs.map enc)) (S : Sat X.K B O ρ T σ H) (h0 : I 0 O ρ)
    (hs : ∀ (n : Nat) y O' ρ' T' σ' H' (N : L2.St → Hp → Prop), xs[n]? = some y → I n O' ρ' → Sat X.K B O' (ρ'.set m (.d (enc y))) T' σ' H' → (∀ O2 ρ2 σ2 H2, I (n + 1) O2 ρ2 → Sat X.K B O2 ρ2 T' σ2 H2 → N σ2 H2) → WS X body { D with nx := N, ct := N, bk := D.nx } σ' H')
    (hd : ∀ O' ρ' σ' H', I xs.length O' ρ' → Sat X.K B O' ρ' T σ' H' → D.nx σ' H') (hm : X.N[m]? = some x := by rfl) (hx : Loc X.env.scope x := by first | exact Or.inl rfl | exact Or.inr rfl) (hf : X.fn x = true ∨ X.env.scope.names.lookup x = some .local := by first | exact .inl rfl | exact .inr rfl)
    (hfo : ∀ x, foldedSetIterable iter X.env x = pure x := by intro _; rfl) : W1 X (.For (.Name x pos') iter body [] pos) D σ H := by
  have get : ∀ (n : Nat) d, (xs.map enc)[n]? = some d → ∃ y, xs[n]? = some y ∧ d = enc y := fun n d h => by
    rw [List.getElem?_map] at h
    cases e : xs[n]? with
    | none => rw [e] at h; cases h
    | some y =>
      rw [e] at h
      exact ⟨y, rfl, (Option.some.inj h).symm⟩
  refine w_for (gt := fun ds n ρ' => ρ'.set m (.d (ds.getD n .non))) (is := [m]) (fun ds n B' O' ρ' => B' = B ∧ I n O' ρ') hp hc hi S S.lim (fun ds p => ⟨rfl, h0⟩) (fun ds n d B' O' ρ' p e hI => ?_) (fun ds n d B' O' ρ' T' σ' H' N p e hI S' kN => ?_) (fun ds B' O' ρ' σ' H' p hI S' => ?_) hfo
  · have e2 : ds.getD n .non = d := by rw [List.getD_eq_getElem?_getD, e] <;> rfl
    rw [e2]
    exact xg_name m hN hm hx hf
  · subst p
    obtain ⟨y, e1, rfl⟩ := get n d e
    obtain ⟨rfl, hI⟩ := hI
    have e2 : (xs.map enc).getD n .non = enc y := by rw [List.getD_eq_getElem?_getD, e] <;> rfl
    rw [e2] at S'
    exact hs n y O' ρ' T' σ' H' N e1 hI S' fun O2 ρ2 σ2 H2 q1 q2 => kN _ O2 ρ2 σ2 H2 ⟨rfl, q1⟩ q2
  · subst p
    obtain ⟨rfl, hI⟩ := hI
    rw [List.length_map] at hI
    exact hd O' ρ' σ' H' hI S'
/-! while -/
theorem w_while {c' : Expr} (I : Nat → Bs → List (Addr × Ow) → List Sl → Prop) (m0 : Nat) (hp : PassesOwn (model X.prog X.w) X.A X.env X.xe) (S : Sat X.K B O ρ T σ H) (h0 : I m0 B O ρ)
    (hs : ∀ m B' O' ρ', I m B' O' ρ' → ∃ b, XB X c' O' ρ' b ∧ (b = true → ∀ T' σ' H' (N : L2.St → Hp → Prop), Sat X.K B' O' ρ' T' σ' H' → (∀ m2 B2 O2 ρ2 σ2 H2, m2 < m → I m2 B2 O2 ρ2 → Sat X.K B2 O2 ρ2 T' σ2 H2 → N σ2 H2) → WS X body { D with nx := N, ct := N, bk := D.nx } σ' H') ∧
      (b = false → ∀ σ' H', Sat X.K B' O' ρ' T σ' H' → D.nx σ' H')) : W1 X (.While c' body [] pos) D σ H :=
  .of (ps_while hp pt_s pss_s) (by
    refine ⟨fun m σ' H' => ∃ B' O' ρ', I m B' O' ρ' ∧ Sat X.K B' O' ρ' T σ' H', ⟨m0, B, O, ρ, h0, S⟩, ?_⟩
    rintro m σ' H' ⟨B', O', ρ', hI, S'⟩
    obtain ⟨b, hb, ht, hf⟩ := hs m B' O' ρ' hI
    refine hb B' [] T σ' H' _ S'.lim S' fun b' H1 p S1 => ?_
    subst p
    cases b' with
    | true => exact iteT ⟨fun σ2 H2 => ∃ m2, m2 < m ∧ ∃ B2 O2 ρ2, I m2 B2 O2 ρ2 ∧ Sat X.K B2 O2 ρ2 T σ2 H2, fun σ2 H2 h => h, ht rfl T σ' H1 _ S1 fun m2 B2 O2 ρ2 σ2 H2 q1 q2 q3 => ⟨m2, q1, B2, O2, ρ2, q2, q3⟩⟩
    | false => exact iteF (hf rfl σ' H1 S1))
end

/-! ### contracts -/
/-- a def that tells data of data and leaves all as it was -/
def spD (K : PySem.W.Frag) {ι : Type} (Pre : ι → List Dt → Prop) (R : ι → Dt → Prop) : Sp := fun vs H Q _ => ∃ HI ds x, Same HI H ∧ DrL K HI vs ds ∧ Pre x ds ∧ ∀ d v H', R x d → Same H H' → Dr K (mx HI H H') v d → Q v H'
/-- a def that draws from the feed, its first argument, at most c times -/
def spF (K : PySem.W.Frag) {ι : Type} (c : ι → Nat) (Pre : ι → List Dt → Prop) (R : ι → Dt → Prop) : Sp := fun vs H Q _ => ∃ HI f us ds n o x, vs = .ref f :: us ∧ Same HI H ∧ HI f = none ∧ H f = some o ∧ FeedL K HI n o ∧ n + c x ≤ LIM ∧ DrL K HI us ds ∧ Pre x ds ∧
  ∀ d v H' o', R x d → (∀ a u, H a = some u → a ≠ f → H' a = some u) → H' f = some o' → FeedL K (mx HI H H') (n + c x) o' → Dr K (mx HI H H') v d → Q v H'
/-- a def by its name -/
structure Def (P : Program) (w : World) (K : PySem.W.Frag) (mg : Str → Option Value) (base : Heap) (CX : CXT) (k : Nat) (x : Str) (ps : List Str) (sp : Sp) : Prop where
  ex : ∃ (f : Addr) (fd : FuncData), FnOk P w K mg base CX k f fd ps sp ∧ mg x = some (.ref f) ∧ PySem.W.keepIn K (.ref f) = true ∧ Binds K fd ps []
section
variable {X : Cx} {O : List (Addr × Ow)} {ρ : List Sl} {c c1 c2 : Nat} {P Pa Pb : Dt → Prop} {a b e tg : Expr} {pos p pos' : Pos} {d : Dt} {k : Nat} {x : Str} {ps : List Str} {ι : Type} {Pre : ι → List Dt → Prop} {R : ι → Dt → Prop} {es : List Expr}
theorem Sat.callD {K : PySem.W.Frag} {B : Bs} {T : List (V × Dt)} {σ : L2.St} {H HI H' : Hp} {v : V} (S : SatI K B O ρ T σ H HI) (hk : Same H H') (r : Dr K (mx HI H H') v d) : Sat K B O ρ ((v, d) :: T) σ H' := by
  have S2 : SatI K (B.add 0) O ρ T σ H' (mx HI H H') := S.call (c := 0) (fun a u h _ => hk a u h) (fun f hf => by
    obtain ⟨_, _, o, g1, g2⟩ := S.feed f hf
    exact ⟨o, hk _ _ g1, g2.mono (mx_same S.ex1)⟩) S.lim
  exact ⟨_, S2.push r⟩
theorem ev_callD {K : PySem.W.Frag} {ta : TA} {Pl : List Dt → Prop} {E : XK} (h : EvA ta K O ρ c Pl) (hpre : ∀ ds, Pl ds → ∃ x, Pre x ds ∧ ∀ d, R x d → P d) : EvP (tCall (spD K Pre R) [] E ta) K O ρ c P := fun B F T σ H Q hb S q => h B F T σ H _ hb S fun ds vs H1 pl hl S1 => by
  obtain ⟨HI, S1⟩ := S1
  obtain ⟨x, hpx, hP⟩ := hpre ds pl
  refine ⟨HI, ds, x, S1.ex1, by rw [List.append_nil]; exact drs_zip hl fun x hx => S1.tmp x (List.mem_append_left _ hx), hpx, fun d v H' hr hs r => q d v H' (hP d hr) ?_⟩
  exact Sat.callD (S1.pop fun x hx => List.mem_append_right _ hx) hs r
theorem xe_call {CX : CXT} {Pl : List Dt → Prop} (F : Def X.prog X.w X.K X.mg X.base CX k x ps (spD X.K Pre R)) (hr : Room k X.A) (hx : Passes CX X E0) (ha : XA X (e :: es) O ρ c Pl) (hpre : ∀ ds, Pl ds → ∃ y, Pre y ds ∧ ∀ d, R y d → P d)
    (hg : Gl X x := by rfl) (hdb : (x == ("__debug__" : Str)) = false := by decide) (he : starEach (e :: es) X.env = (false, eval e X.env) :: starEach es X.env := by rfl) (hpl : (backTo pos (starEach es X.env)).any (·.1) = false := by rfl) : XE X (.Call (.Name x p) (e :: es) [] pos) O ρ c P := by
  obtain ⟨f, fd, h1, h2, h3, h4⟩ := F.ex
  exact xe_of (pe_call h1 hr hg h2 h3 h4 .nil hx pa_s hdb he hpl) (ev_callD ha hpre)
theorem xd_call {CX : CXT} {ds : List Dt} (y : ι) (F : Def X.prog X.w X.K X.mg X.base CX k x ps (spD X.K Pre R)) (hr : Room k X.A) (hx : Passes CX X E0) (ha : XL X (e :: es) O ρ ds) (hpre : Pre y ds) (hP : ∀ d', R y d' → d' = d)
    (hg : Gl X x := by rfl) (hdb : (x == ("__debug__" : Str)) = false := by decide) (he : starEach (e :: es) X.env = (false, eval e X.env) :: starEach es X.env := by rfl) (hpl : (backTo pos (starEach es X.env)).any (·.1) = false := by rfl) : XD X (.Call (.Name x p) (e :: es) [] pos) O ρ d :=
  xe_call F hr hx ha (fun ds' q => by subst q; exact ⟨y, hpre, hP⟩) hg hdb he hpl
theorem Sat.callF {K : PySem.W.Frag} {B : Bs} {T : List (V × Dt)} {σ : L2.St} {H HI H' : Hp} {v : V} {f : Addr} {o' : HO} (S : SatI K B O ρ T σ H HI) (hf : B.f = some f) (hk : ∀ a u, H a = some u → a ≠ f → H' a = some u) (ho : H' f = some o') (hF : FeedL K (mx HI H H') (B.n + c) o') (hc : B.n + c ≤ LIM) (r : Dr K (mx HI H H') v d) :
    Sat K (B.add c) O ρ ((v, d) :: T) σ H' := by
  have S2 : SatI K (B.add c) O ρ T σ H' (mx HI H H') := S.call (c := c) (fun a u h hne => hk a u h fun z => hne (by rw [z]; exact hf)) (fun f' hf' => by
    rw [hf] at hf'
    cases hf'
    exact ⟨o', ho, hF⟩) hc
  exact ⟨_, S2.push r⟩
/-- a call of a def that draws: its first argument is the feed's name -/
theorem xe_callF {CX : CXT} {cf : ι → Nat} {m : Nat} {Pl : List Dt → Prop} (n : Nat) {fx : Str} {fpos : Pos} (F : Def X.prog X.w X.K X.mg X.base CX k x ps (spF X.K cf Pre R)) (hr : Room k X.A) (hx : Passes CX X E0) (ha : XA X es O ρ c Pl) (hpre : ∀ ds, Pl ds → ∃ y, Pre y ds ∧ cf y ≤ m ∧ ∀ d, R y d → P d)
    (hρ : ρ[n]? = some .fd := by rfl) (hN : X.N[n]? = some fx := by rfl) (hv : Vis X.env.scope fx := by first | exact Or.inl rfl | exact Or.inr (Or.inl rfl) | exact Or.inr (Or.inr rfl)) (hd : (fx == ("__debug__" : Str)) = false := by decide) (hcd : (fx == ("__classdict__" : Str)) = false := by decide)
    (hg : Gl X x := by rfl) (hdb : (x == ("__debug__" : Str)) = false := by decide) (he : starEach (.Name fx fpos :: es) X.env = (false, eval (.Name fx fpos) X.env) :: starEach es X.env := by rfl) (hpl : (backTo pos (starEach es X.env)).any (·.1) = false := by rfl) : XE X (.Call (.Name x p) (.Name fx fpos :: es) [] pos) O ρ (c + m) P := by
  obtain ⟨f, fd, h1, h2, h3, h4⟩ := F.ex
  refine xe_of (pe_call h1 hr hg h2 h3 h4 .nil hx (pa_cons (pe_var hN hv hd hcd) pa_s he) hdb he hpl) fun B F T σ H Q hb S q => ?_
  have S0 := S
  obtain ⟨HI0, S0⟩ := S0
  obtain ⟨v, e1, g, eg, ev⟩ := S0.slots n _ hρ
  subst ev
  refine ⟨.ref g, e1, ha B F T σ H _ (by omega) S fun ds vs H1 pl hl S1 => ?_⟩
  obtain ⟨HI, S1⟩ := S1
  obtain ⟨_, g1, o, g2, g3⟩ := S1.feed g eg
  obtain ⟨y, hpy, hcf, hP⟩ := hpre ds pl
  refine ⟨HI, g, vs, ds, B.n + c, o, y, by rw [List.append_nil], S1.ex1, g1, g2, g3, by omega, drs_zip hl fun x hx => S1.tmp x (List.mem_append_left _ hx), hpy, fun d v H' o' hr hk ho hF r => q d v H' (hP d hr) ?_⟩
  have S2 := Sat.callF (S1.pop fun x hx => List.mem_append_right _ hx) eg hk ho hF (by show B.n + c + cf y ≤ LIM; omega) r
  exact S2.raise (m := B.n + (c + m)) (by show B.n + c + cf y ≤ _; omega) hb
end

/-! ### a def's body -/
section
variable {P : Program} {w : World} {K : PySem.W.Frag} {mg : Str → Option Value} {base : Heap}
def dsl (N : List Str) (ds : List Dt) : List Sl := ds.map Sl.d ++ List.replicate (N.length - ds.length) Sl.u
theorem dsl_ok {N : List Str} {bf : Option Addr} {HI : Hp} : ∀ {vs : List V} {ds : List Dt}, DrL K HI vs ds → (L2.start N vs).length = (dsl N ds).length ∧ ∀ (i : Nat) (s : Sl), (dsl N ds)[i]? = some s → ∃ v, (L2.start N vs)[i]? = some v ∧ SlOk K HI bf s v := fun {vs ds} r => by
  have hl := r.length
  unfold L2.start dsl
  refine ⟨by simp [hl], fun i s e => ?_⟩
  by_cases hi : i < ds.length
  · rw [List.getElem?_append_left (by simpa using hi), List.getElem?_map, List.getElem?_eq_getElem hi] at e
    rw [List.getElem?_append_left (by rw [List.length_map]; omega), List.getElem?_map]
    obtain ⟨v, h1, h2⟩ := r.get (List.getElem?_eq_getElem hi)
    rw [h1]
    have e' : s = .d ds[i] := (Option.some.inj e).symm
    subst e'
    exact ⟨some v, rfl, v, rfl, h2⟩
  · rw [List.getElem?_append_right (by simpa using hi), List.length_map] at e
    have e2 := List.getElem?_eq_some_iff.mp e
    obtain ⟨h1, h2⟩ := e2
    rw [List.getElem_replicate] at h2
    subst h2
    rw [List.length_replicate] at h1
    refine ⟨none, ?_, trivial⟩
    rw [List.getElem?_append_right (by rw [List.length_map]; omega), List.length_map]
    rw [List.getElem?_replicate, if_pos (by omega)]
theorem Sat.toMx {B : Bs} {O : List (Addr × Ow)} {ρ : List Sl} {T : List (V × Dt)} {σ : L2.St} {H' HI' : Hp} (S : SatI K B O ρ T σ H' HI') (hI : Same B.HI B.H0) : Same HI' (mx B.HI B.H0 H') := fun a u h => by
  cases q : B.H0 a with
  | none =>
    rw [mx_new q]
    exact S.ex1 a u h
  | some o =>
    rw [mx_old q]
    cases z : B.HI a with
    | none =>
      have z2 := S.clo a (by rw [q]; exact fun z => by cases z) z
      rw [z2] at h; cases h
    | some o2 =>
      have z2 := S.ex0 a o2 z
      rw [z2] at h
      exact h
/-- THE RULE for a plain def -/
theorem Fun.okD {x qual : Str} {st : Stmt} {f : Addr} {fd : FuncData} {N ps : List Str} {k : Nat} {ι : Type} {Pre : ι → List Dt → Prop} {R : ι → Dt → Prop} (F : Fun K x qual st f fd) (S : FnScope N ps (defScope st)) (len : ∀ y ds, Pre y ds → ds.length = ps.length)
    (hbody : ∀ (cdv : Value) (A : Around) (outer : List Env) (s : Shared) (H : Hp) (E : XK), Room k (A.deeper (PyProof.Rows.envOfC qual (defScope st) s.heap.objs.size f cdv)) → ∀ (y : ι) (ds : List Dt) (B : Bs) (σ : L2.St) (Q : VK), Pre y ds → Sat K B [] (dsl N ds) [] σ H →
      (∀ d v O ρ T σ' H', R y d → Sat K B O ρ ((v, d) :: T) σ' H' → Q v H') → WS (cxOf CX0 P w K mg base N qual (defScope st) f cdv A outer s H E).nox (defBody st) { nx := fun _ H' => Q .non H', rt := Q } σ H) : FnOk P w K mg base CX0 (k + 1) f fd ps (spD K Pre R) := by
  refine F.ok S (fun vs H Q E h => ?_) (fun cdv A outer s H vs Q E hr h => ?_)
  · obtain ⟨HI, ds, y, _, r, p, _⟩ := h
    rw [r.length]
    exact len y ds p
  · obtain ⟨HI, ds, y, hI, r, p, q⟩ := h
    refine ⟨_, pss_s, ?_⟩
    have hsl := dsl_ok (N := N) (bf := none) r
    refine hbody cdv A outer s H E hr y ds ⟨H, HI, none, 0⟩ (L2.start N vs) Q p ⟨HI, fun a u h _ => h, fun a u h => h, hI, fun a _ h => h, fun e he => (by cases he), List.nodup_nil, fun f hf => (by cases hf), hsl.1, hsl.2, fun x hx => (by cases hx), Nat.zero_le _⟩ fun d v O ρ T σ' H' hr2 S' => ?_
    obtain ⟨HI', S'⟩ := S'
    exact q d v H' hr2 (fun a u h => S'.keep a u h (fun z => by cases z)) ((S'.tmp _ List.mem_cons_self).mono (Sat.toMx S' hI))
/-- THE RULE for a def that draws -/
theorem Fun.okF {x qual : Str} {st : Stmt} {f : Addr} {fd : FuncData} {N ps : List Str} {k : Nat} {ι : Type} {c : ι → Nat} {Pre : ι → List Dt → Prop} {R : ι → Dt → Prop} (F : Fun K x qual st f fd) (S : FnScope N ps (defScope st)) (hN : N ≠ []) (len : ∀ y ds, Pre y ds → ds.length + 1 = ps.length)
    (hbody : ∀ (cdv : Value) (A : Around) (outer : List Env) (s : Shared) (H : Hp) (E : XK), Room k (A.deeper (PyProof.Rows.envOfC qual (defScope st) s.heap.objs.size f cdv)) → ∀ (y : ι) (ds : List Dt) (B : Bs) (σ : L2.St) (Q : VK), Pre y ds → B.n + c y ≤ LIM → Sat K B [] (.fd :: dsl (N.drop 1) ds) [] σ H →
      (∀ d v O ρ T σ' H' n, R y d → n ≤ B.n + c y → Sat K ⟨B.H0, B.HI, B.f, n⟩ O ρ ((v, d) :: T) σ' H' → Q v H') → WS (cxOf CX0 P w K mg base N qual (defScope st) f cdv A outer s H E).nox (defBody st) { nx := fun _ H' => Q .non H', rt := Q } σ H) : FnOk P w K mg base CX0 (k + 1) f fd ps (spF K c Pre R) := by
  refine F.ok S (fun vs H Q E h => ?_) (fun cdv A outer s H vs Q E hr h => ?_)
  · obtain ⟨HI, g, us, ds, n, o, y, rfl, _, _, _, _, _, r, p, _⟩ := h
    rw [List.length_cons, r.length]
    exact len y ds p
  · obtain ⟨HI, g, us, ds, n, o, y, rfl, hI, g1, g2, g3, hlim, r, p, q⟩ := h
    refine ⟨_, pss_s, ?_⟩
    have hsl := dsl_ok (N := N.drop 1) (bf := some g) r
    obtain ⟨x0, N', rfl⟩ : ∃ x0 N', N = x0 :: N' := by
      cases N with
      | nil => exact absurd rfl hN
      | cons x0 N' => exact ⟨x0, N', rfl⟩
    have hst : L2.start (x0 :: N') (.ref g :: us) = some (.ref g) :: L2.start N' us := by
      unfold L2.start
      rw [List.map_cons, List.length_cons, List.length_cons, Nat.add_sub_add_right]
      rfl
    rw [hst]
    refine hbody cdv A outer s H E hr y ds ⟨H, HI, some g, n⟩ _ Q p hlim ⟨HI, fun a u h _ => h, fun a u h => h, hI, fun a _ h => h, fun e he => (by cases he), List.nodup_nil, fun f hf => (by cases hf; exact ⟨by show H g ≠ none; rw [g2]; exact fun z => (by cases z), g1, o, g2, g3⟩), ?_, ?_, fun x hx => (by cases hx), Nat.le_trans (Nat.le_add_right _ _) hlim⟩ fun d v O ρ T σ' H' n' hr2 hn S' => ?_
    · rw [List.length_cons, List.length_cons]
      exact congrArg (· + 1) hsl.1
    · intro i s e
      cases i with
      | zero =>
        have e' : s = .fd := (Option.some.inj e).symm
        subst e'
        exact ⟨_, rfl, g, rfl, rfl⟩
      | succ i =>
        have e' : (dsl N' ds)[i]? = some s := by simpa using e
        obtain ⟨v, h1, h2⟩ := hsl.2 i s e'
        exact ⟨v, by simpa using h1, h2⟩
    · obtain ⟨HI', S'⟩ := S'
      obtain ⟨_, _, o', h1, h2⟩ := S'.feed g rfl
      have hmx := Sat.toMx S' hI
      exact q d v H' o' hr2 (fun a u h hne => S'.keep a u h (fun z => hne (by cases z; rfl))) h1 ((h2.mono hmx).up hn) ((S'.tmp _ List.mem_cons_self).mono hmx)
end
end Lg


set_option Elab.async false
set_option linter.all false
set_option maxRecDepth 100000
set_option maxHeartbeats 4000000
set_option autoImplicit false
/-! Lg6: least and greatest, tuples taken many times, dicts, methods, instances. -/
namespace Lg
open PySem PySem.Spec L2

/-! ### min, max of a list, by default 0; max of a tuple -/
def minD : List Int → Int
  | [] => 0
  | x :: r => r.foldl min x
def maxD : List Int → Int
  | [] => 0
  | x :: r => r.foldl max x
theorem intsAreReads {h : Heap} : ∀ {us : List Value} {ns : List Int}, Vals (ns.map V.int) us → ∃ as, PySem.ReadsAll h us (ns.map PyData.int) as
  | _, [], .nil => ⟨_, .nil⟩
  | _, n :: r, .cons q t => by
    obtain ⟨tk, rfl⟩ := q
    obtain ⟨as, h1⟩ := intsAreReads (ns := r) t
    exact ⟨_, .cons (.int n tk) h1⟩
theorem alike_ns (ns : List Int) : PySem.W.AlikeAll (ns.map PyData.int) := ⟨fun x hx y hy => by
  obtain ⟨i, _, rfl⟩ := List.mem_map.mp hx
  obtain ⟨j, _, rfl⟩ := List.mem_map.mp hy
  simp [PySem.W.alike], fun x hx => by
  obtain ⟨i, _, rfl⟩ := List.mem_map.mp hx
  intro z
  cases z⟩
def rMaxZ (K : PySem.W.Frag) : List V → List V → Hp → VK → Prop := fun vs zs H Q => ∃ (a : Addr) (ns : List Int), vs = [.ref a] ∧ zs = [.int 0] ∧ H a = some (.lst (ns.map V.int)) ∧ Q (.int (maxD ns)) H
def rMinZ (K : PySem.W.Frag) : List V → List V → Hp → VK → Prop := fun vs zs H Q => ∃ (a : Addr) (ns : List Int), vs = [.ref a] ∧ zs = [.int 0] ∧ H a = some (.lst (ns.map V.int)) ∧ Q (.int (minD ns)) H
section
variable {X : Cx}
theorem crk_max (hc : X.calm = true) (hu : X.A.units + 64 < cLine) : CallRK X (.builtin "max") ["default"] (rMaxZ X.K) := by
  intro pins s σ H xs zs us ws Q I r rz h
  obtain ⟨a, ns, rfl, rfl, hs, q⟩ := h
  obtain ⟨its, rv, hl, _⟩ := I.list (.inl (.inl hs))
  rw [Vals.ref1 r]
  obtain ⟨z, ez, tk0, rfl⟩ := vals1 rz
  subst ez
  obtain ⟨as, hr⟩ := intsAreReads (h := s.heap) rv
  refine PySem.W.max_list_default (I.ok.hd hc) hl.isList hr (alike_ns ns) (by rw [PySem.W.depth_ints]; omega) (fun e h' tk hk => ?_) fun y ys i v h' tk bs e hv hrd hk => ?_
  · have e' : ns = [] := by simpa using e
    subst e'
    exact ⟨.int 0, H, I.kept hk, ⟨_, rfl⟩, q⟩
  · cases ns with
    | nil => cases e
    | cons n r =>
      have e1 : PyData.int n = y := (List.cons.inj e).1
      have e2 : r.map PyData.int = ys := (List.cons.inj e).2
      subst e1
      subst e2
      rw [PySem.W.maxD_ints] at hrd
      cases hrd
      exact ⟨.int _, H, I.kept hk, ⟨_, rfl⟩, q⟩
theorem crk_min (hc : X.calm = true) (hu : X.A.units + 64 < cLine) : CallRK X (.builtin "min") ["default"] (rMinZ X.K) := by
  intro pins s σ H xs zs us ws Q I r rz h
  obtain ⟨a, ns, rfl, rfl, hs, q⟩ := h
  obtain ⟨its, rv, hl, _⟩ := I.list (.inl (.inl hs))
  rw [Vals.ref1 r]
  obtain ⟨z, ez, tk0, rfl⟩ := vals1 rz
  subst ez
  obtain ⟨as, hr⟩ := intsAreReads (h := s.heap) rv
  refine PySem.W.min_list_default (I.ok.hd hc) hl.isList hr (alike_ns ns) (by rw [PySem.W.depth_ints]; omega) (fun e h' tk hk => ?_) fun y ys i v h' tk bs e hv hrd hk => ?_
  · have e' : ns = [] := by simpa using e
    subst e'
    exact ⟨.int 0, H, I.kept hk, ⟨_, rfl⟩, q⟩
  · cases ns with
    | nil => cases e
    | cons n r =>
      have e1 : PyData.int n = y := (List.cons.inj e).1
      have e2 : r.map PyData.int = ys := (List.cons.inj e).2
      subst e1
      subst e2
      rw [PySem.W.minD_ints] at hrd
      cases hrd
      exact ⟨.int _, H, I.kept hk, ⟨_, rfl⟩, q⟩
def rMaxT (K : PySem.W.Frag) : List V → Hp → VK → Prop := fun vs H Q => ∃ (a : Addr) (n : Int) (ns : List Int), vs = [.ref a] ∧ SqT K H a ((n :: ns).map V.int) ∧ Q (.int (maxD (n :: ns))) H
theorem cr_maxT (hc : X.calm = true) (hu : X.A.units + 64 < cLine) : CallR X (.builtin "max") (rMaxT X.K) := by
  intro pins s σ H xs us Q I r h
  obtain ⟨a, n, ns, rfl, hs, q⟩ := h
  obtain ⟨its, rv, hl, _⟩ := I.tuple hs
  rw [Vals.ref1 r]
  obtain ⟨as, hr⟩ := intsAreReads (h := s.heap) rv
  refine PySem.W.max_tuple_data (I.ok.hd hc) hl hr (alike_ns (n :: ns)) (by
    have e := PySem.W.depth_ints (n :: ns)
    rw [List.map_cons] at e
    rw [e]
    omega) fun i v h' tk bs hv hrd hk => ?_
  rw [PySem.W.maxD_ints] at hrd
  cases hrd
  exact ⟨.int _, H, I.kept hk, ⟨_, rfl⟩, q⟩
end
section
variable {X : Cx} {O : List (Addr × Ow)} {ρ : List Sl} {c c1 c2 : Nat} {P Pa Pb : Dt → Prop} {a b e : Expr} {pos p : Pos} {d : Dt} {i j : Int}
theorem xd_maxZ {ns : List Int} {kpos : Pos} (hc : X.calm = true) (hu : X.A.units + 64 < cLine) (hm : X.mg "max" = none) (ha : XS X e O ρ (ns.map Dt.int)) (hz : XD X b O ρ (.int 0)) (hg : Gl X "max" := by rfl)
    (he : starEach [e] X.env = (false, eval e X.env) :: starEach [] X.env := by rfl) (he2 : backTo pos (starEach (e :: []) X.env) = (false, eval e X.env) :: backTo pos (starEach [] X.env) := by rfl) (hpl : (backTo pos (starEach (e :: []) X.env)).any (·.1) = false := by rfl)
    (hall : (backToKw pos (keywordEach [⟨some "default", b, kpos⟩] X.env)).all (·.1.isSome) = true := by rfl) (hnone : (backToKw pos (keywordEach [⟨some "default", b, kpos⟩] X.env)).any (·.1.isNone) = false := by rfl) (hks : (backToKw pos (keywordEach [⟨some "default", b, kpos⟩] X.env)).filterMap (·.1) = [Str.ofString "default"] := by rfl) :
    XD X (.Call (.Name "max" p) [e] [⟨some "default", b, kpos⟩] pos) O ρ (.int (maxD ns)) :=
  xe_of (pe_callBK (crk_max hc hu) hg hm (by decide +kernel) (pa_cons pe_s pa_nil he) (pk_cons pe_s pk_nil) (by decide) (by decide) he2 hpl hall hnone hks) fun B F T σ H Q hb S k => by
    refine ha B F T σ H _ S fun l T0 H1 hl S1 => hz B F _ σ H1 _ hb S1 fun d0 v0 H2 p0 S2 => ?_
    subst p0
    cases S2.dr List.mem_cons_self
    obtain ⟨HI, S2⟩ := S2
    obtain ⟨xs, e1, r1⟩ := hl B T σ H2 HI (S2.pop fun x hx => List.mem_cons_of_mem _ hx)
    have z := r1.ints
    subst z
    exact ⟨l, ns, rfl, rfl, e1, k _ _ H2 rfl ⟨HI, (S2.pop (T' := T) fun x hx => List.mem_cons_of_mem _ (List.mem_append_right _ hx)).push (.int _)⟩⟩
theorem xd_minZ {ns : List Int} {kpos : Pos} (hc : X.calm = true) (hu : X.A.units + 64 < cLine) (hm : X.mg "min" = none) (ha : XS X e O ρ (ns.map Dt.int)) (hz : XD X b O ρ (.int 0)) (hg : Gl X "min" := by rfl)
    (he : starEach [e] X.env = (false, eval e X.env) :: starEach [] X.env := by rfl) (he2 : backTo pos (starEach (e :: []) X.env) = (false, eval e X.env) :: backTo pos (starEach [] X.env) := by rfl) (hpl : (backTo pos (starEach (e :: []) X.env)).any (·.1) = false := by rfl)
    (hall : (backToKw pos (keywordEach [⟨some "default", b, kpos⟩] X.env)).all (·.1.isSome) = true := by rfl) (hnone : (backToKw pos (keywordEach [⟨some "default", b, kpos⟩] X.env)).any (·.1.isNone) = false := by rfl) (hks : (backToKw pos (keywordEach [⟨some "default", b, kpos⟩] X.env)).filterMap (·.1) = [Str.ofString "default"] := by rfl) :
    XD X (.Call (.Name "min" p) [e] [⟨some "default", b, kpos⟩] pos) O ρ (.int (minD ns)) :=
  xe_of (pe_callBK (crk_min hc hu) hg hm (by decide +kernel) (pa_cons pe_s pa_nil he) (pk_cons pe_s pk_nil) (by decide) (by decide) he2 hpl hall hnone hks) fun B F T σ H Q hb S k => by
    refine ha B F T σ H _ S fun l T0 H1 hl S1 => hz B F _ σ H1 _ hb S1 fun d0 v0 H2 p0 S2 => ?_
    subst p0
    cases S2.dr List.mem_cons_self
    obtain ⟨HI, S2⟩ := S2
    obtain ⟨xs, e1, r1⟩ := hl B T σ H2 HI (S2.pop fun x hx => List.mem_cons_of_mem _ hx)
    have z := r1.ints
    subst z
    exact ⟨l, ns, rfl, rfl, e1, k _ _ H2 rfl ⟨HI, (S2.pop (T' := T) fun x hx => List.mem_cons_of_mem _ (List.mem_append_right _ hx)).push (.int _)⟩⟩
theorem xd_maxT {ns : List Int} (hc : X.calm = true) (hu : X.A.units + 64 < cLine) (hm : X.mg "max" = none) (ha : XD X e O ρ (.tup (ns.map Dt.int))) (hne : ns ≠ []) (hg : Gl X "max" := by rfl) (he : starEach [e] X.env = (false, eval e X.env) :: starEach [] X.env := by rfl) : XD X (.Call (.Name "max" p) [e] [] pos) O ρ (.int (maxD ns)) :=
  xe_callB (cr_maxT hc hu) hm (by decide +kernel) (xl_cons ha xl_nil he) (fun ds' q B F T σ H HI vs Q S r k => by
    subst q
    cases r with
    | cons r1 r2 =>
      cases r2
      cases r1 with
      | tup e1 r1 =>
        have z := r1.ints
        subst z
        cases ns with
        | nil => exact absurd rfl hne
        | cons n ns => exact ⟨_, n, ns, rfl, sqT_le (Same.le S.ex1) e1, k _ _ H rfl ⟨HI, S.push (.int _)⟩⟩) hg (by decide) (by decide) he
/-! ### tuple * n -/
theorem tupOnce (l : Addr) (items : Array Value) (n : Nat) (dd : Option Addr) (sl : Array (Option Value)) (u : Tok) :
    PySem.Meets (Builtin.«tuple.__mul__» ⟨[.ref l, .int 1 u], []⟩) (fun _ R s => s.heap.get? l = some { cls := .type "tuple", dict := dd, data := .seq items n, slots := sl } ∧ R (.ok (.ret (.ref l))) s) :=
  .of_wp fun prog w A R s h => by
    obtain ⟨hp, g, d, tk, os⟩ := s
    obtain ⟨hl, h⟩ := h
    have f1 := PySem.AutoSeq1.idx_int
    have c1 : (items.isEmpty || (1 : Int) == 1) = true := by simp
    open PySem in wp_walk using PySem.AutoSeq1.wpAny_loadPart' hl
    repeat (first
      | (refine PySem.wpAny_ite_false (decide_eq_false (by decide)) ?_; wp_walk using PySem.AutoSeq1.wpAny_loadPart' hl)
      | (refine PySem.wpAny_ite_true (decide_eq_true c1) ?_; wp_walk using PySem.AutoSeq1.wpAny_loadPart' hl))
    exact ⟨_, rfl, h⟩
end
end Lg


set_option Elab.async false
set_option linter.all false
set_option maxRecDepth 100000
set_option maxHeartbeats 4000000
set_option autoImplicit false
/-! Lg7: more of tuples and lists, dicts, methods, instances. -/
namespace Lg
open PySem PySem.Spec L2
section
variable {X : Cx}
def rRep1 (K : PySem.W.Frag) : R2 := fun x y H Q => ∃ l xs, x = .ref l ∧ y = .int 1 ∧ SqT K H l xs ∧ Q (.ref l) H
open PyProof.Rows in
theorem op_rep1 : OpR X (binaryOp .Mult) (rRep1 X.K) := by
  intro pins s σ H x y v u Q I rx ry h
  obtain ⟨l, xs, rfl, rfl, hT, q⟩ := h
  cases rx
  obtain ⟨t, rfl⟩ := ry
  obtain ⟨its, r, ⟨⟨cls, dd, data, sl⟩, ho, hc, n, hd⟩, hs⟩ := I.tuple hT
  simp only at hc hd
  subst hc hd
  refine wpAny_binaryOp_repeat_ref (T := "tuple") (U := "int") (by decide) ⟨_, ho, rfl⟩ (fun s' => typeIs_int s' 1 t) noFill_tuple_mul F.fills_int_mul F.slot_int_rmul repeat_tuple F.slot_int_index.lookup
    (call_meets F.slot_int_rmul (typeIs_int s 1 t) F.entry_int_rmul (F.args_int_rmul_2 _ _) (int_rmul_tuple 1 t l its.toArray n dd sl)
      ⟨ho, rfl, ⟨_, ho, rfl⟩, call_meets F.slot_tuple_mul ⟨_, ho, rfl⟩ F.entry_tuple_mul (F.args_tuple_mul_2 _ _) (tupOnce l its.toArray n dd sl t) ⟨ho, ?_⟩⟩)
  exact ⟨.ref l, H, I.kept (t' := s.toks) (fun _ _ e => e), rfl, q⟩
end
section
variable {X : Cx} {O : List (Addr × Ow)} {ρ : List Sl} {c c1 c2 : Nat} {P Pa Pb : Dt → Prop} {a b e : Expr} {pos p : Pos} {d : Dt} {i j : Int}
theorem xd_repT {ds : List Dt} {k : Nat} (ha : XD X a O ρ (.tup ds)) (hb : XD X b O ρ (.int (k : Int))) (h1 : 1 ≤ k) (h2 : k ≤ 1000) (hne : ds ≠ []) (hl : ds.length ≤ 1000) : XD X (.BinOp a .Mult b pos) O ρ (.tup (List.replicate k ds).flatten) :=
  xd_op (OpR.or op_rep1 op_repT) ha hb fun B F T σ H x y Q S q => by
    obtain ⟨HI, S⟩ := S
    have r1 := S.tmp _ (List.mem_cons_of_mem _ List.mem_cons_self)
    have r2 := S.tmp _ List.mem_cons_self
    have S0 := S.pop (T' := T) fun x hx => List.mem_cons_of_mem _ (List.mem_cons_of_mem _ hx)
    cases r2
    cases r1 with
    | tup e1 r1 =>
      by_cases hk : k = 1
      · subst hk
        refine .inl ⟨_, _, rfl, rfl, sqT_le (Same.le S.ex1) e1, q _ _ H rfl ⟨HI, S0.push ?_⟩⟩
        have e : (List.replicate 1 ds).flatten = ds := by simp
        rw [e]
        exact .tup e1 r1
      · have hl' := r1.length
        refine .inr ⟨_, _, _, rfl, rfl, sqT_le (Same.le S.ex1) e1, fun z => ?_, by omega, by omega, by omega, fun p hp => q _ _ _ rfl ?_⟩
        · subst z
          cases r1
          exact hne rfl
        · rw [Int.toNat_natCast]
          exact ⟨_, (S0.grow hp).push (.tup (.inl (.inl upd_same)) ((r1.rep k).mono (same_upd (S.hi hp))))⟩
/-! ### dicts -/
def lookD {β : Type} : List (Key × β) → Key → Option β
  | [], _ => none
  | (x, d) :: r, k => if x = k then some d else lookD r k
theorem drK_look {K : PySem.W.Frag} {H : Hp} {k : Key} : ∀ {xs : List (Key × V)} {ds : List (Key × Dt)}, DrK K H xs ds → (valV xs k = none ∧ lookD ds k = none) ∨ ∃ v d, valV xs k = some v ∧ lookD ds k = some d ∧ Dr K H v d
  | _, _, .nil => .inl ⟨rfl, rfl⟩
  | _, _, .cons (x := x) (v := v) (d := d) (vs := vs) (ds := ds) r t => by
    by_cases h : x = k
    · exact .inr ⟨v, d, valV_pos h, if_pos h, r⟩
    · have e1 : valV ((x, v) :: vs) k = valV vs k := valV_neg h
      have e2 : lookD ((x, d) :: ds) k = lookD ds k := if_neg h
      rw [e1, e2]
      exact drK_look t
theorem drK_len {K : PySem.W.Frag} {H : Hp} : ∀ {xs : List (Key × V)} {ds : List (Key × Dt)}, DrK K H xs ds → xs.length = ds.length
  | _, _, .nil => rfl
  | _, _, .cons _ t => by rw [List.length_cons, List.length_cons, drK_len t]
theorem drK_app {K : PySem.W.Frag} {H : Hp} : ∀ {xs ys : List (Key × V)} {ds es : List (Key × Dt)}, DrK K H xs ds → DrK K H ys es → DrK K H (xs ++ ys) (ds ++ es)
  | _, _, _, _, .nil, s => s
  | _, _, _, _, .cons r t, s => .cons r (drK_app t s)
abbrev nK (n : Nat) : Key := .inl (n : Int)
theorem xk_in {kvs : List (Key × Dt)} {n : Int} (hu : X.A.units + 1 < cLine) (ha : XD X a O ρ (.int n)) (hb : XKd X b O ρ kvs) (hm : behindInMarks .In b = false := by rfl) : XD X (.Compare a [.In] [b] pos) O ρ (.bl (lookD kvs (.inl n)).isSome) :=
  xe_of (pe_cmp (pc_din hu pe_s pe_s) hm) fun B F T σ H Q hb' S k => ha B F T σ H _ hb' S fun d v H1 p S1 => hb B F _ σ H1 _ S1 fun l T0 H2 hl S2 => by
    subst p
    obtain ⟨HI, S2⟩ := S2
    obtain ⟨xs, e1, r1⟩ := hl B _ σ H2 HI S2
    cases S2.tmp _ (List.mem_append_right _ List.mem_cons_self)
    refine ⟨l, valV xs (.inl n), rfl, .inl ⟨xs, .inl n, e1, rfl, rfl⟩, ?_⟩
    have e : (valV xs (.inl n)).isSome = (lookD kvs (.inl n)).isSome := by
      rcases drK_look (k := .inl n) r1 with ⟨h1, h2⟩ | ⟨v, d, h1, h2, _⟩
      · rw [h1, h2] <;> rfl
      · rw [h1, h2] <;> rfl
    rw [e]
    exact k _ _ H2 rfl ⟨HI, (S2.pop (T' := T) fun x hx => List.mem_append_right _ (List.mem_cons_of_mem _ hx)).push (.bl _)⟩
theorem xk_notIn {kvs : List (Key × Dt)} {n : Int} (hu : X.A.units + 1 < cLine) (ha : XD X a O ρ (.int n)) (hb : XKd X b O ρ kvs) (hm : behindInMarks .NotIn b = false := by rfl) : XD X (.Compare a [.NotIn] [b] pos) O ρ (.bl (!(lookD kvs (.inl n)).isSome)) :=
  xe_of (pe_cmp (pc_dnotin hu pe_s pe_s) hm) fun B F T σ H Q hb' S k => ha B F T σ H _ hb' S fun d v H1 p S1 => hb B F _ σ H1 _ S1 fun l T0 H2 hl S2 => by
    subst p
    obtain ⟨HI, S2⟩ := S2
    obtain ⟨xs, e1, r1⟩ := hl B _ σ H2 HI S2
    cases S2.tmp _ (List.mem_append_right _ List.mem_cons_self)
    refine ⟨l, valV xs (.inl n), rfl, .inl ⟨xs, .inl n, e1, rfl, rfl⟩, ?_⟩
    have e : (valV xs (.inl n)).isSome = (lookD kvs (.inl n)).isSome := by
      rcases drK_look (k := .inl n) r1 with ⟨h1, h2⟩ | ⟨v, d, h1, h2, _⟩
      · rw [h1, h2] <;> rfl
      · rw [h1, h2] <;> rfl
    rw [e]
    exact k _ _ H2 rfl ⟨HI, (S2.pop (T' := T) fun x hx => List.mem_append_right _ (List.mem_cons_of_mem _ hx)).push (.bl _)⟩
/-- the same as a test -/
theorem xbk_notIn {kvs : List (Key × Dt)} {n : Int} (hu : X.A.units + 1 < cLine) (ha : XD X a O ρ (.int n)) (hb : XKd X b O ρ kvs) (hm : behindInMarks .NotIn b = false := by rfl) : XB X (.Compare a [.NotIn] [b] pos) O ρ (!(lookD kvs (.inl n)).isSome) :=
  xt_of (pt_cmp (pc_dnotin hu pe_s pe_s) hm) fun B F T σ H Q hb' S k => ha B F T σ H _ hb' S fun d v H1 p S1 => hb B F _ σ H1 _ S1 fun l T0 H2 hl S2 => by
    subst p
    obtain ⟨HI, S2⟩ := S2
    obtain ⟨xs, e1, r1⟩ := hl B _ σ H2 HI S2
    cases S2.tmp _ (List.mem_append_right _ List.mem_cons_self)
    refine ⟨l, valV xs (.inl n), rfl, .inl ⟨xs, .inl n, e1, rfl, rfl⟩, _, rfl, ?_⟩
    have e : (valV xs (.inl n)).isSome = (lookD kvs (.inl n)).isSome := by
      rcases drK_look (k := .inl n) r1 with ⟨h1, h2⟩ | ⟨v, d, h1, h2, _⟩
      · rw [h1, h2] <;> rfl
      · rw [h1, h2] <;> rfl
    rw [e]
    exact k _ H2 rfl ⟨HI, S2.pop (T' := T) fun x hx => List.mem_append_right _ (List.mem_cons_of_mem _ hx)⟩
/-- d.get(k, x) -/
theorem xk_get2 {kvs : List (Key × Dt)} {n : Int} {dz : Dt} {o : Expr} {apos : Pos} (hu : X.A.units + 1 < cLine) (hd : XKd X o O ρ kvs) (ha : XD X a O ρ (.int n)) (hb : XD X b O ρ dz) (m : M2 X o "get" apos a b pos := by exact ⟨rfl, rfl, rfl, rfl⟩) :
    XD X (.Call (.Attribute o "get" apos) [a, b] [] pos) O ρ ((lookD kvs (.inl n)).getD dz) :=
  xe_of (pe_dget2 hu pe_s pe_s pe_s m) fun B F T σ H Q hb' S k => hd B F T σ H _ S fun l T0 H1 hl S1 => by
    have S1' := S1
    obtain ⟨HI1, S1'⟩ := S1'
    obtain ⟨xs1, e1, _⟩ := hl B T σ H1 HI1 S1'
    refine ⟨l, rfl, .inl ⟨xs1, e1⟩, ha B F _ σ H1 _ hb' S1 fun d2 v2 H2 p2 S2 => hb B F _ σ H2 _ hb' S2 fun d3 v3 H3 p3 S3 => ?_⟩
    subst p2
    subst p3
    obtain ⟨HI, S3⟩ := S3
    obtain ⟨xs, e3, r3⟩ := hl B T σ H3 HI (S3.pop fun x hx => List.mem_cons_of_mem _ (List.mem_cons_of_mem _ hx))
    have rz := S3.tmp _ List.mem_cons_self
    cases S3.tmp _ (List.mem_cons_of_mem _ List.mem_cons_self)
    have S4 := S3.pop (T' := T) fun x hx => List.mem_cons_of_mem _ (List.mem_cons_of_mem _ (List.mem_append_right _ hx))
    refine ⟨valV xs (.inl n), .inl ⟨xs, .inl n, e3, rfl, rfl⟩, ?_⟩
    rcases drK_look (k := .inl n) r3 with ⟨h1, h2⟩ | ⟨v, d, h1, h2, h3⟩
    · rw [h1]
      exact k _ _ H3 (by rw [h2] <;> rfl) ⟨HI, S4.push rz⟩
    · rw [h1]
      exact k _ _ H3 (by rw [h2] <;> rfl) ⟨HI, S4.push h3⟩
/-- d[k] -/
theorem xk_get {kvs : List (Key × Dt)} {n : Int} (hu : X.A.units + 1 < cLine) (hd : XKd X a O ρ kvs) (hb : XD X b O ρ (.int n)) (hl : lookD kvs (.inl n) = some d) (hs : NoSl b := by intro _ _; rfl) : XD X (.Subscript a b pos) O ρ d :=
  xe_of (pe_dget hu pe_s pe_s hs) fun B F T σ H Q hb' S k => hd B F T σ H _ S fun l T0 H1 hq S1 => hb B F _ σ H1 _ hb' S1 fun d2 v2 H2 p2 S2 => by
    subst p2
    obtain ⟨HI, S2⟩ := S2
    obtain ⟨xs, e3, r3⟩ := hq B T σ H2 HI (S2.pop fun x hx => List.mem_cons_of_mem _ hx)
    cases S2.tmp _ List.mem_cons_self
    rcases drK_look (k := .inl n) r3 with ⟨h1, h2⟩ | ⟨v, d', h1, h2, h3⟩
    · rw [hl] at h2; cases h2
    · rw [hl] at h2
      cases h2
      exact ⟨l, v, rfl, .inl ⟨xs, .inl n, e3, rfl, h1.symm⟩, k _ _ H2 rfl ⟨HI, (S2.pop (T' := T) fun x hx => List.mem_cons_of_mem _ (List.mem_append_right _ hx)).push h3⟩⟩
/-- dict(pairs), their keys unlike ints -/
theorem merge_new : ∀ (more acc : List (Key × V)), (more.map (·.1)).Nodup → (∀ k ∈ more.map (·.1), valV acc k = none) → mergeK acc more = acc ++ more
  | [], acc, _, _ => by rw [List.append_nil]; rfl
  | (k, v) :: r, acc, hn, ha => by
    rw [List.map_cons] at hn
    have hn' := List.nodup_cons.mp hn
    have e1 : putK acc k v = acc ++ [(k, v)] := putK_new v (ha k List.mem_cons_self)
    have e2 : mergeK acc ((k, v) :: r) = mergeK (putK acc k v) r := rfl
    rw [e2, e1, merge_new r (acc ++ [(k, v)]) hn'.2 fun j hj => ?_, List.append_assoc]
    · rfl
    · rw [valV_snoc k j v acc (ha k List.mem_cons_self), if_neg fun z => hn'.1 (by
        show k ∈ r.map (·.1)
        rw [← z]
        exact hj)]
      exact ha j (List.mem_cons_of_mem _ hj)
theorem xd_dictP {α : Type} {xs : List α} (kf : α → Nat) (vf : α → Dt) (hc : X.calm = true) (hm : X.mg "dict" = none) (ha : XD X e O ρ (.lst (xs.map fun x => .tup [nD (kf x), vf x]))) (hn : (xs.map kf).Nodup) (hg : Gl X "dict" := by rfl)
    (he : starEach [e] X.env = (false, eval e X.env) :: starEach [] X.env := by rfl) : XD X (.Call (.Name "dict" p) [e] [] pos) O ρ (.dk (xs.map fun x => (nK (kf x), vf x))) :=
  xe_callTy (call_dictP hc) hm (by decide +kernel) (xl_cons ha xl_nil he) (fun ds' q B F T σ H HI vs Q S r k => by
    subst q
    cases r with
    | cons r1 r2 =>
      cases r2
      cases r1 with
      | lst e1 r1 =>
        rename_i l us
        have go : ∀ (xs : List α) (us : List V), DrL X.K HI us (xs.map fun x => .tup [nD (kf x), vf x]) → ∃ (ps : List Addr) (kvs : List (Key × V)), us = ps.map V.ref ∧ Paired (fun p kv => SqT X.K HI p [kV kv.1, kv.2]) ps kvs ∧ kvs.map (·.1) = xs.map (fun x => nK (kf x)) ∧ DrK X.K HI kvs (xs.map fun x => (nK (kf x), vf x)) := by
          intro xs
          induction xs with
          | nil =>
            intro us r
            cases r
            exact ⟨[], [], rfl, .nil, rfl, .nil⟩
          | cons x xs ih =>
            intro us r
            cases r with
            | cons q1 q2 =>
              obtain ⟨ps, kvs, z1, z2, z3, z4⟩ := ih _ q2
              cases q1 with
              | @tup pa us0 ds0 g1 g2 =>
                cases g2 with
                | cons g2 g3 =>
                  cases g3 with
                  | @cons v vs0 d0 ds1 g3 g4 =>
                    cases g4
                    cases g2
                    exact ⟨pa :: ps, (nK (kf x), v) :: kvs, by rw [z1]; rfl, .cons g1 z2, by rw [List.map_cons, List.map_cons, z3], .cons g3 z4⟩
        obtain ⟨ps, kvs, z1, z2, z3, z4⟩ := go xs us r1
        subst z1
        refine ⟨l, ps, kvs, rfl, .inl (.inl (S.ex1 _ _ e1)), Paired.mapP z2 fun _ _ q => sqT_le (Same.le S.ex1) q, fun q hq => ?_⟩
        have em : mergeK [] kvs = kvs := by
          rw [merge_new kvs [] (by
            rw [z3]
            have inj : ∀ (x y : α), nK (kf x) = nK (kf y) → kf x = kf y := fun x y h => by
              have h' := Sum.inl.inj h
              exact Int.ofNat.inj h'
            have : (xs.map fun x => nK (kf x)) = (xs.map kf).map nK := by rw [List.map_map]; rfl
            rw [this]
            exact List.Pairwise.map nK (fun a b hab z => hab (Int.ofNat.inj (Sum.inl.inj z))) hn) (fun _ _ => rfl), List.nil_append]
        rw [em]
        exact k _ _ _ rfl ⟨_, (S.grow hq).push (.dk (.inl upd_same) (z4.mono (same_upd (S.hi hq))))⟩) hg (by decide) (by decide) he
/-- d[k] = e, d one's own, k new in it -/
theorem w_dput (n : Nat) {x : Str} {q : Addr} {kvs : List (Key × Dt)} {A C : List (Addr × Ow)} {npos pos' : Pos} {m : Int} {B : Bs} {T : List (V × Dt)} {σ : L2.St} {H : Hp} {D : Ends} (hu : X.A.units + 1 < cLine) (hx : XE X e (A ++ (q, .dk kvs) :: C) ρ c P) (hi : XD X a (A ++ (q, .dk kvs) :: C) ρ (.int m))
    (hnew : lookD kvs (.inl m) = none) (hz : kvs.length ≤ 50000) (S : Sat X.K B (A ++ (q, .dk kvs) :: C) ρ T σ H) (hl : B.n + c ≤ LIM)
    (k : ∀ d H', P d → Sat X.K (B.add c) (A ++ (q, .dk (kvs ++ [(.inl m, d)])) :: C) ρ T σ H' → D.nx σ H') (hρ : ρ[n]? = some (.o q) := by rfl) (hN : X.N[n]? = some x := by rfl)
    (hv : Vis X.env.scope x := by first | exact Or.inl rfl | exact Or.inr (Or.inl rfl) | exact Or.inr (Or.inr rfl)) (hd : (x == ("__debug__" : Str)) = false := by decide) (hcd : (x == ("__classdict__" : Str)) = false := by decide)
    (hs : swapsWith e (some (.Subscript (.Name x npos) a pos')) pos.line X.env = pure false := by rfl) : W1 X (.Assign [.Subscript (.Name x npos) a pos'] e pos) D σ H :=
  .of (ps_dput hu (pe_var hN hv hd hcd) pe_s pe_s hs) (hx B [] T σ H _ hl S fun d v H1 p S1 => by
    have hσ := slot_own S1 hρ
    refine ⟨.ref q, hσ, hi (B.add c) [] _ σ H1 _ S1.lim S1 fun d2 v2 H2 p2 S2 => ?_⟩
    subst p2
    cases S2.dr List.mem_cons_self
    obtain ⟨HI1, o1, S3, g2, ys, rfl, r2⟩ := own_at S2
    have hnone : valV ys (.inl m) = none := by
      rcases drK_look (k := .inl m) r2 with ⟨h1, _⟩ | ⟨v, d', _, h2, _⟩
      · exact h1
      · rw [hnew] at h2; cases h2
    have hlen := drK_len r2
    refine ⟨q, _, rfl, .inl ⟨ys, .inl m, g2, rfl, Nat.lt_of_le_of_lt (show ys.length ≤ 50000 by omega) (by decide), rfl⟩, k d _ p ⟨HI1, ?_⟩⟩
    rw [putK_new v hnone]
    exact (S3.pop fun x hx => List.mem_cons_of_mem _ (List.mem_cons_of_mem _ hx)).ownPut ⟨_, rfl, drK_app r2 (.cons (S3.tmp _ (List.mem_cons_of_mem _ List.mem_cons_self)) .nil)⟩)
end
end Lg


set_option Elab.async false
set_option linter.all false
set_option maxRecDepth 100000
set_option maxHeartbeats 4000000
set_option autoImplicit false
/-! Lg8: enumerate(tuple). -/
namespace L2
open PySem PySem.Spec PyProof.Rows
/-- the tuple at a, n long, each item in a new pair -/
def Iet (K : PySem.W.Frag) (a : Addr) (n : Nat) : It :=
  ⟨fun i H => ∃ (xs : List V) (x : V), SqT K H a xs ∧ xs.length = n ∧ xs[i]? = some x, fun i H v H' => ∃ q x, v = .ref q ∧ H q = none ∧ H' = upd H q (.tup [.int (i : Nat), x]) ∧ ∀ xs, SqT K H a xs → xs[i]? = some x, fun i H => ∃ xs : List V, SqT K H a xs ∧ xs.length = n ∧ n ≤ i⟩
theorem turn_enT {P : Program} {w : World} {K : PySem.W.Frag} {els : List Expr} {kk : Nat} {tp : Pos} (a e it : Addr) (n : Nat) (ha : a ≠ it) (hea : e ≠ a) :
    Turn P w K (.Tuple els kk tp) (Iet K a n) [e, it] e (fun i h => (∃ old, IsEnum h e it ((i : Nat) : Int) old) ∧ h.IsTupleIter it a i ∧ e ≠ it ∧ i ≤ n) where
  mem := List.mem_cons_self
  obj := fun i h st b hb => by
    obtain ⟨⟨old, he⟩, ⟨o, ho, hc, hd⟩, _⟩ := st
    rcases List.mem_cons.mp hb with z | z
    · rw [z]; exact ⟨_, he, fun v q => nomatch q⟩
    · rw [List.mem_singleton.mp z]; exact ⟨o, ho, fun v q => by rw [hd] at q; cases q⟩
  keep := fun i h h' st k => let ⟨⟨old, he⟩, hi, hne, hn⟩ := st; ⟨⟨old, k e (by simp) _ he⟩, hi.at fun o q => k it (by simp) o q, hne, hn⟩
  item := by
    intro X hP hw hK hc i pins s σ H E I hf st hg
    subst hP hw hK
    obtain ⟨⟨old, he⟩, hit, hne, hn⟩ := st
    obtain ⟨xs, x, hq, hxn, hx⟩ := hg
    obtain ⟨its, rv, p, hz⟩ := I.tuple hq
    obtain ⟨u, hu, ru⟩ := rv.get hx
    have hil : i < xs.length := (List.getElem?_eq_some_iff.mp hx).1
    have hl := rv.length
    have hel : e < s.heap.objs.size := Heap.lt_size he
    have hitl : it < s.heap.objs.size := by obtain ⟨_, q, _⟩ := hit; exact Heap.lt_size q
    have D := Draws.tuple (prog := X.prog) (w := X.w) (A := X.A.in1) (I.ok.hd hc) it a ha its.toArray
    refine wpAny_pyNext_enum_itemC D he ⟨hit, p⟩ (by rw [List.size_toArray]; omega) hne (by
      intro hm
      rcases List.mem_cons.mp hm with z | z
      · exact hne z
      · exact hea (List.mem_singleton.mp z)) fun y h' tk hy ho hit' hT hsz hk => ?_
    have hy' : y = u := by
      have h0 : its[i]? = some y := by simpa using hy
      rw [hu] at h0; cases h0; rfl
    subst hy'
    refine ⟨_, rfl, wpAny_letOwnedTupleGo_enum (s := { s with heap := h', toks := tk + 1 }) ho fun h'' he' sb => ?_⟩
    have hT2 : h''.get? s.heap.objs.size = some { cls := .type "tuple", data := .seq #[.int i tk, y] } := (sb.2 _ (Nat.ne_of_gt hel)).trans hT
    have new : ObjOk X.prog X.w (upd H s.heap.objs.size (.tup [.int (i : Nat), x])) h'' s.heap.objs.size (.tup [.int (i : Nat), x]) :=
      ⟨by show 2 ≤ sizeLine; decide, [.int i tk, y], .cons ⟨_, rfl⟩ (.cons ru .nil), ⟨_, hT2, rfl, _, rfl⟩⟩
    have I1 : Inv X pins σ (upd H s.heap.objs.size (.tup [.int (i : Nat), x])) { s with heap := h'', toks := tk + 1 } :=
      I.turnedNew (ch := [e, it]) (fun b ob hb q => (sb.2 b (fun z => hb (by simp [z]))).trans (hk b ob (fun z => hb (by simp [z])) (fun z => hb (by simp [z])) q)) hf (Nat.le_refl _) new
    refine ⟨.ref s.heap.objs.size, _, I1, rfl, ⟨_, x, rfl, I.hok.fresh (Nat.le_refl _), rfl, fun ys hy => by rw [I.tuple_inj hy hq]; exact hx⟩, ⟨⟨y, ?_⟩, hit'.1.at fun o q => (sb.2 it (Ne.symm hne)).trans q, hne, by omega⟩, fun b hb => ?_⟩
    · have e1 : ((i + 1 : Nat) : Int) = (i : Int) + 1 := by omega
      rw [e1]; exact he'
    · have hb' : b < s.heap.objs.size := by
        rcases List.mem_cons.mp hb with z | z
        · rw [z]; exact hel
        · rw [List.mem_singleton.mp z]; exact hitl
      rw [upd_ne (Nat.ne_of_lt hb')]
      exact (hf b hb).1
  done := by
    intro X hP hw hK hc i pins s σ H E I hf st hg
    subst hP hw hK
    obtain ⟨⟨old, he⟩, hit, hne, hn⟩ := st
    obtain ⟨xs, hq, hxn, hx⟩ := hg
    obtain ⟨its, rv, p, hz⟩ := I.tuple hq
    obtain ⟨f0, f1, f2, f3, f4, f5⟩ := hf it (by simp)
    have hl := rv.length
    have D := Draws.tuple (prog := X.prog) (w := X.w) (A := X.A.in1) (I.ok.hd hc) it a ha its.toArray
    have hin : i = its.toArray.size := by rw [List.size_toArray]; omega
    subst hin
    exact wpAny_pyNext_enum_endD D he ⟨hit, p⟩ fun h' eb => ⟨rfl, I.turned (t' := s.toks) (fun b o hb q => eb b o hb q) f0 f1 f3 f4 f5⟩
  self := fun A i s Q E st h => let ⟨⟨_, he⟩, _⟩ := st; wpAny_pyIter_enum he h
set_option maxHeartbeats 1000000 in
theorem meets_en1 {v : Value} {o : Obj} {H : Heap → Prop} (B : Begins v o H) :
    Meets (Builtin.«enumerate.__new__» ⟨[.type "enumerate", v], []⟩) (fun _ R s => H s.heap ∧
      R (.ok (.ret (.ref (s.heap.push o).objs.size))) { s with heap := (s.heap.push o).push { cls := .type "enumerate", data := .fields #[.none, .bool false, .ref s.heap.objs.size, rawInt 0, .none, .none] } }) :=
  .of_wp fun prog w A R s h => by
    obtain ⟨hp, g, d, tk, os⟩ := s; obtain ⟨h1, h⟩ := h
    have hsub := sub_enumerate
    have q1 : ∀ {A' : Around} {E : Value → Shared → Prop} {Q : Value → Shared → Prop}, Q (.ref hp.objs.size) ⟨hp.push o, g, d, tk, os⟩ → wpAny (model prog w) A' (pyIter v) Q E ⟨hp, g, d, tk, os⟩ :=
      fun q => B.iter prog w _ _ ⟨hp, g, d, tk, os⟩ _ h1 q
    wp_walk using q1
    refine wpAny_stack_any fun st => wpAny_pure ?_
    split
    · rename_i c _ _ _ _ _
      cases (c == Value.type "enumerate")
      · wp_walk using q1
        exact ⟨_, rfl, h⟩
      · wp_walk using q1
        exact ⟨_, rfl, h⟩
    · wp_walk using q1
      exact ⟨_, rfl, h⟩
section
variable {prog : Program} {w : World} {A : Around} {E : Value → Shared → Prop} {s : Shared}
theorem call_en1 {v : Value} {o : Obj} {H : Heap → Prop} {Q : Value → Shared → Prop} (B : Begins v o H) (h1 : H s.heap)
    (h : ∀ h', IsEnum h' (s.heap.objs.size + 1) s.heap.objs.size 0 .none → h'.get? s.heap.objs.size = some o → h'.objs.size = s.heap.objs.size + 2 →
      (∀ b o, s.heap.get? b = some o → h'.get? b = some o) → Q (.ref (s.heap.objs.size + 1)) { s with heap := h' }) :
    wpAny (model prog w) A (call (.type "enumerate") [v]) Q E s := by
  refine callType_new F.called_enumerate (by decide) (F.typeCall_enumerate_1 _) (F.newCall_enumerate_1 _) (fun obj => F.args_object_init_2 obj _) F.entry_enumerate_new
    (meets_en1 B) ⟨h1, ?_⟩
  have hz : (s.heap.push o).objs.size = s.heap.objs.size + 1 := Heap.size_push ..
  show _ ∧ _
  rw [hz]
  have he : IsEnum ((s.heap.push o).push { cls := .type "enumerate", data := .fields #[.none, .bool false, .ref s.heap.objs.size, rawInt 0, .none, .none] }) (s.heap.objs.size + 1) s.heap.objs.size 0 .none := by
    have := Heap.get?_push_size (s.heap.push o) (o := { cls := .type "enumerate", data := .fields #[.none, .bool false, .ref s.heap.objs.size, rawInt 0, .none, .none] }) rfl
    rw [hz] at this; exact this
  refine ⟨⟨_, he, rfl⟩, h _ he (Heap.get?_push_of_some _ (Heap.get?_push_size _ B.free)) (by rw [Heap.size_push, hz]) fun b o x => Heap.get?_push_of_some _ (Heap.get?_push_of_some _ x)⟩
end
def iEnT (K : PySem.W.Frag) (ta : TA) : TI := fun σ H R => ta σ H fun vs H1 => ∃ a xs, vs = [.ref a] ∧ SqT K H1 a xs ∧ R (Iet K a xs.length) H1
theorem pi_enT {X : Cx} {e : Expr} {ta : TA} {p pos tpos : Pos} {elts : List Expr} {kk : Nat} (hg : Gl X "enumerate") (hm : X.mg "enumerate" = none) (ha : PA X [e] ta) (hs : starEach [e] X.env = [(false, eval e X.env)] := by rfl) :
    PI X (.Tuple elts kk tpos) (.Call (.Name "enumerate" p) [e] [] pos) (iEnT X.K ta) := by
  refine ⟨fun pins s σ H R I h => ?_⟩
  refine Call_ (ld_blt I hg hm boot_enumerate (PyProof.Rows.callWith_type1 (thn (ha.run pos pins s σ H _ I h) fun us s1 ⟨vs, H1, I1, r1, q1⟩ => ?_) hs rfl))
  obtain ⟨a, xs, ex, hq, q⟩ := q1
  subst ex
  cases r1 with
  | cons r rr =>
    cases rr
    cases r
    obtain ⟨its, rv, p', hz⟩ := I1.tuple hq
    have pt : s1.heap.IsTuple a its.toArray := p'
    have hal : a < s1.heap.objs.size := by obtain ⟨o, q, _⟩ := pt; exact Heap.lt_size q
    refine call_en1 (begins_tuple a its.toArray) pt fun h' he hit hsz hk => wpAny_pyIter_enum he ?_
    have I2 : Inv X pins σ H1 { s1 with heap := h' } := I1.kept (t' := s1.toks) hk
    refine ⟨s1.heap.objs.size + 1, [s1.heap.objs.size + 1, s1.heap.objs.size], _, _, H1, rfl, I2, turn_enT a (s1.heap.objs.size + 1) s1.heap.objs.size xs.length (Nat.ne_of_lt hal) (Nat.ne_of_gt (Nat.lt_succ_of_lt hal)), ⟨⟨.none, he⟩, ⟨_, hit, rfl, rfl⟩, Nat.succ_ne_self _, Nat.zero_le _⟩, fun b hb => ?_, q⟩
    have hle : s1.heap.objs.size ≤ b := by
      rcases List.mem_cons.mp hb with z | z
      · rw [z]; exact Nat.le_add_right _ _
      · rw [List.mem_singleton.mp z]; exact Nat.le_refl _
    exact I1.fpOk hle (I1.hok.fresh hle)
end L2
namespace Lg
open PySem PySem.Spec L2
section
variable {X : Cx} {O : List (Addr × Ow)} {ρ : List Sl} {c c1 c2 : Nat} {P Pa Pb : Dt → Prop} {a b e tg : Expr} {pos p : Pos} {d : Dt} {i j : Int}
theorem itOk_enT {K : PySem.W.Frag} {l : Addr} {ds : List Dt} {n : Nat} (hn : n = ds.length) : ItOk K (Iet K l n) [(.ref l, .tup ds)] (enD ds) where
  go := fun B O ρ T σ H i hi S => by
    rw [enD_len] at hi
    cases S.dr List.mem_cons_self with
    | tup e r =>
      have hx := r.length
      exact ⟨_, _, e, by omega, List.getElem?_eq_getElem (by omega)⟩
  stop := fun B O ρ T σ H i hi S => by
    rw [enD_len] at hi
    cases S.dr List.mem_cons_self with
    | tup e r =>
      have hx := r.length
      exact ⟨_, e, by omega, by omega⟩
  yld := fun B O ρ T σ H i d v H' hd S y => by
    obtain ⟨q, x, rfl, hq, rfl, y⟩ := y
    obtain ⟨dx, hx, rfl⟩ := enD_get hd
    obtain ⟨HI, S⟩ := S
    cases S.tmp _ List.mem_cons_self with
    | tup e r =>
      obtain ⟨u, h1, h2⟩ := r.get hx
      have h3 := y _ (sqT_le (Same.le S.ex1) e)
      rw [h1] at h3
      cases h3
      exact ⟨_, (S.grow hq).push (.tup (.inl (.inl upd_same)) (.cons (.int _) (.cons (h2.mono (same_upd (S.hi hq))) .nil)))⟩
theorem xj_enT {elts : List Expr} {kk : Nat} {tpos : Pos} {ds : List Dt} (hm : X.mg "enumerate" = none) (h : XD X e O ρ (.tup ds)) (hg : Gl X "enumerate" := by rfl) (hs : starEach [e] X.env = [(false, eval e X.env)] := by rfl) :
    XJ X (.Tuple elts kk tpos) (.Call (.Name "enumerate" p) [e] [] pos) O ρ (enD ds) := fun B F T σ H R hb S k =>
  PI.s (pi_enT hg hm (pa_cons pe_s pa_nil hs) hs) (h B F T σ H _ hb S fun d v H1 p S1 => by
    subst p
    have S2 := S1
    cases S1.dr List.mem_cons_self with
    | tup e1 r1 => exact ⟨_, _, rfl, e1, k _ _ _ H1 rfl (itOk_enT r1.length) S2⟩)
end
end Lg


set_option Elab.async false
set_option linter.all false
set_option maxRecDepth 100000
set_option maxHeartbeats 4000000
set_option autoImplicit false
/-! Lg9: methods, making, isinstance, insert, extend, index, or. -/
namespace Lg
open PySem PySem.Spec L2
/-- a method of a class by its name -/
structure MDef (P : Program) (w : World) (K : PySem.W.Frag) (mg : Str → Option Value) (base : Heap) (CX : CXT) (k : Nat) (C : Addr) (m : Str) (ps : List Str) (sp : Sp) : Prop where
  ex : ∃ (f : Addr) (fd : FuncData), FnOk P w K mg base CX k f fd ps sp ∧ Meth K C m f ∧ Binds K fd ps []
section
variable {X : Cx} {O : List (Addr × Ow)} {ρ : List Sl} {c c1 c2 : Nat} {P Pa Pb : Dt → Prop} {a b e o tg : Expr} {pos p apos pos' : Pos} {d : Dt} {k : Nat} {x m : Str} {ps : List Str} {ι : Type} {Pre : ι → List Dt → Prop} {R : ι → Dt → Prop} {es : List Expr} {C : Addr} {fs : List (Str × Dt)} {i j : Int}
theorem ev_meth {K : PySem.W.Frag} {to : TE} {ta : TA} {Pl : List Dt → Prop} {E : XK} (ho : EvP to K O ρ 0 (fun z => z = .ob C fs)) (hl : fs.lookup m = none) (h : EvA ta K O ρ c Pl) (hpre : ∀ ds, Pl ds → ∃ x, Pre x (.ob C fs :: ds) ∧ ∀ d, R x d → P d) : EvP (tMeth C m (spD K Pre R) [] E to ta) K O ρ c P := fun B F T σ H Q hb S q => ho B F T σ H _ S.lim S fun d0 v H1 p0 S1 => by
  subst p0
  have S2 := S1
  obtain ⟨HI1, S1⟩ := S1
  cases S1.tmp _ List.mem_cons_self with
  | ob e1 r1 =>
    refine ⟨_, _, _, rfl, S1.ex1 _ _ e1, r1.look_none hl, h B F _ σ H1 _ hb S2 fun ds vs H2 pl hl2 S3 => ?_⟩
    obtain ⟨HI, S3⟩ := S3
    obtain ⟨x, hpx, hP⟩ := hpre ds pl
    refine ⟨HI, .ob C fs :: ds, x, S3.ex1, by rw [List.append_nil]; exact .cons (S3.tmp _ (List.mem_append_right _ List.mem_cons_self)) (drs_zip hl2 fun x hx => S3.tmp x (List.mem_append_left _ hx)), hpx, fun d v H' hr hs r => q d v H' (hP d hr) ?_⟩
    exact Sat.callD (S3.pop fun x hx => List.mem_append_right _ (List.mem_cons_of_mem _ hx)) hs r
theorem ev_nilA {K : PySem.W.Frag} : EvA tNil K O ρ 0 (fun ds => ds = []) := fun B F T σ H Q hb S k => k [] [] H rfl rfl S
theorem xd_meth {CX : CXT} {ds : List Dt} {pl : Sem Bool} (y : ι) (ho : XD X o O ρ (.ob C fs)) (cl : Cls X.K C) (hl : fs.lookup m = none) (F : MDef X.prog X.w X.K X.mg X.base CX k C m ps (spD X.K Pre R)) (hr : Room k X.A) (hx : Passes CX X E0) (ha : XL X (e :: es) O ρ ds) (hpre : Pre y (.ob C fs :: ds)) (hP : ∀ d', R y d' → d' = d)
    (hst : starEach (e :: es) X.env = (false, eval e X.env) :: starEach es X.env := by rfl) (hpl : (backTo pos (starEach es X.env)).any (·.1) = false := by rfl)
    (ht : eval (.Call (.Attribute o m apos) (e :: es) [] pos) X.env = (do
      let ov ← eval o X.env
      standAt apos.atName
      let (f, first) ← holding [ov] (getMethod ov m pl)
      callWith pos f first (backTo pos (starEach (e :: es) X.env)) (backToKw pos (keywordEach [] X.env))) := by rfl) : XD X (.Call (.Attribute o m apos) (e :: es) [] pos) O ρ d := by
  obtain ⟨f, fd, h1, h2, h3⟩ := F.ex
  exact xe_of (pe_meth pe_s cl h2 h1 hr h3 .nil hx pa_s hst hpl ht) (ev_meth ho hl ha fun ds' q => by subst q; exact ⟨y, hpre, hP⟩)
theorem xd_meth0 {CX : CXT} {pl : Sem Bool} (y : ι) (ho : XD X o O ρ (.ob C fs)) (cl : Cls X.K C) (hl : fs.lookup m = none) (F : MDef X.prog X.w X.K X.mg X.base CX k C m ps (spD X.K Pre R)) (hr : Room k X.A) (hx : Passes CX X E0) (hpre : Pre y [.ob C fs]) (hP : ∀ d', R y d' → d' = d)
    (ht : eval (.Call (.Attribute o m apos) [] [] pos) X.env = (do
      let ov ← eval o X.env
      standAt apos.atName
      let (f, first) ← holding [ov] (getMethod ov m pl)
      callWith pos f first (backTo pos (starEach [] X.env)) (backToKw pos (keywordEach [] X.env))) := by rfl) : XD X (.Call (.Attribute o m apos) [] [] pos) O ρ d := by
  obtain ⟨f, fd, h1, h2, h3⟩ := F.ex
  exact xe_of (pe_meth0 pe_s cl h2 h1 hr h3 .nil hx ht) (ev_meth ho hl ev_nilA fun ds' q => by subst q; exact ⟨y, hpre, hP⟩)
/-! making -/
/-- an __init__ that lays these fields, one an argument -/
def spIni (C : Addr) (ns : List Str) : Sp := fun vs H Q _ => ∃ x dx us, vs = .ref x :: us ∧ us.length = ns.length ∧ H x = some (.ins C dx []) ∧ Q .non (upd H x (.ins C dx (ns.zip us)))
theorem drf_zip {K : PySem.W.Frag} {H : Hp} : ∀ {ns : List Str} {vs : List V} {ds : List Dt}, DrL K H vs ds → DrF K H (ns.zip vs) (ns.zip ds)
  | [], _, _, _ => by rw [List.zip_nil_left, List.zip_nil_left]; exact .nil
  | _ :: _, _, _, .nil => by rw [List.zip_nil_right, List.zip_nil_right]; exact .nil
  | _ :: _, _, _, .cons r t => .cons r (drf_zip t)
theorem DrF.mono {K : PySem.W.Frag} {H H' : Hp} (e : Same H H') {v : List (Str × V)} {d : List (Str × Dt)} (h : DrF K H v d) : DrF K H' v d := h.le (Same.le e)
theorem xd_make {CX : CXT} {f : Addr} {fd : FuncData} {ns : List Str} {ds : List Dt} (M : Mk X.K C f) (F : FnOk X.prog X.w X.K X.mg X.base CX k f fd ps (spIni C ns)) (hr : Room (k + 1) X.A) (hm : X.mg x = some (.ref C)) (hb : Binds X.K fd ps []) (hx : Passes CX X E0) (ha : XL X (e :: es) O ρ ds) (hn : ds.length = ns.length)
    (hg : Gl X x := by rfl) (hdb : (x == ("__debug__" : Str)) = false := by decide) (he : starEach (e :: es) X.env = (false, eval e X.env) :: starEach es X.env := by rfl) (hpl : (backTo pos (starEach es X.env)).any (·.1) = false := by rfl) :
    XD X (.Call (.Name x p) (e :: es) [] pos) O ρ (.ob C (ns.zip ds)) :=
  xe_of (pe_make M F hr hg hm hb .nil hx pa_s hdb he hpl) fun B F T σ H Q hbn S q => ha B F T σ H _ hbn S fun ds' vs H1 p' hl S1 => by
    subst p'
    intro q' dx h1 h2 hne
    rw [List.append_nil]
    refine ⟨q', dx, vs, rfl, hl.trans hn, upd_same, rfl, q _ _ _ rfl ?_⟩
    obtain ⟨HI, S1⟩ := S1
    have hq : (upd (upd (upd H1 dx (.own q')) q' (.ins C dx [])) q' (.ins C dx (ns.zip vs))) = upd (upd H1 dx (.own q')) q' (.ins C dx (ns.zip vs)) := upd_upd
    rw [hq]
    have S2 := S1.grow (o := .own q') h2
    have h3 : upd H1 dx (HO.own q') q' = none := by rw [upd_ne (Ne.symm hne)]; exact h1
    have S3 := S2.grow (o := .ins C dx (ns.zip vs)) h3
    have rr : DrL X.K _ vs ds' := drs_zip hl fun x hx => S3.tmp x (List.mem_append_left _ hx)
    exact ⟨_, (S3.pop fun x hx => List.mem_append_right _ hx).push (.ob upd_same (drf_zip rr))⟩
/-! isinstance -/
def tyD : Dt → Option String
  | .non => some "NoneType" | .bl _ => some "bool" | .int _ => some "int" | .str _ => some "str" | .tup _ => some "tuple" | .lst _ => some "list" | _ => none
theorem ty_dr {K : PySem.W.Frag} {H HI : Hp} {v : V} {n : String} (hS : Same HI H) (r : Dr K HI v d) (ht : tyD d = some n) : TyX K H v (.type n) := by
  cases r with
  | non => cases ht; exact .base .non
  | bl b => cases ht; exact .base (.bl b)
  | int i => cases ht; exact .base (.int i)
  | str x => cases ht; exact .base (.str x)
  | tup h r =>
    cases ht
    rcases h with h | ⟨o, its, n', hk, hc, _⟩
    · rcases rd_same hS h with h | ⟨o, h⟩
      · exact .base (.tup h)
      · exact .fTuple h
    · exact .kTuple hk hc
  | lst h r => cases ht; exact .base (.lst (hS _ _ h))
  | ob h r => cases ht
  | dk h r => cases ht
theorem xd_isi {t : Str} {n u : String} {r : Bool} {pt : Pos} (hm : X.mg "isinstance" = none) (ha : XD X a O ρ d) (ht : tyD d = some n) (hmt : X.mg t = none) (hv : bootBuiltins t = some (.type u)) (hk : PySem.W.kitOne X.K (.type n) (.type u) = some r) (hgt : Gl X t := by rfl) (hnt : t ≠ "__name__" := by decide) (hdt : (t == ("__debug__" : Str)) = false := by decide)
    (hg : Gl X "isinstance" := by rfl) (he : starEach [a, .Name t pt] X.env = (false, eval a X.env) :: starEach [.Name t pt] X.env := by rfl) (he2 : starEach [.Name t pt] X.env = (false, eval (.Name t pt) X.env) :: starEach [] X.env := by rfl) (hpl : (backTo pos (starEach [.Name t pt] X.env)).any (·.1) = false := by rfl) :
    XD X (.Call (.Name "isinstance" p) [a, .Name t pt] [] pos) O ρ (.bl r) :=
  xe_of (pe_callB call_isi hg hm (by decide +kernel) (pa_cons pe_s (pa_cons (pe_bltn hgt hmt hv (v := .ty u) rfl hnt hdt) pa_nil he2) he) (by decide) (by decide) he hpl) fun B F T σ H Q hb S q => ha B F T σ H _ hb S fun d0 v H1 p0 S1 => by
    subst p0
    obtain ⟨HI, S1⟩ := S1
    exact ⟨v, .ty u, _, _, r, rfl, .ty u, ty_dr S1.ex1 (S1.tmp _ List.mem_cons_self) ht, hk, q _ _ H1 rfl ⟨HI, (S1.pop fun x hx => List.mem_cons_of_mem _ hx).push (.bl r)⟩⟩
/-! or -/
theorem xe_orL (hc : EvP (sE X a) X.K O ρ c1 Pa) (hp : ∀ d, Pa d → ∃ ds, d = .lst ds ∧ (ds ≠ [] → P (.lst ds))) (hb : (∃ d, Pa d ∧ d = .lst []) → XE X b O ρ 0 P) : XE X (.BoolOp .Or [a, b] pos) O ρ c1 P :=
  xe_of (pe_orT pe_s (pe_one pe_s)) fun B F T σ H Q hbn S q => hc B F T σ H _ hbn S fun d v H1 p0 S1 => by
    obtain ⟨ds, rfl, h2⟩ := hp d p0
    have S2 := S1
    obtain ⟨HI, S1⟩ := S1
    cases S1.tmp _ List.mem_cons_self with
    | lst e1 r1 =>
      refine ⟨!ds.isEmpty, .inl ⟨_, .inl (.inl (S1.ex1 _ _ e1)), ?_⟩, ?_⟩
      · cases r1 <;> rfl
      · cases hd : ds with
        | nil =>
          subst hd
          rw [if_neg (by decide)]
          exact hb ⟨_, p0, rfl⟩ (B.add c1) F T σ H1 Q S2.lim ⟨HI, S1.pop fun x hx => List.mem_cons_of_mem _ hx⟩ q
        | cons y r =>
          subst hd
          rw [if_pos (by rfl)]
          exact q _ _ H1 (h2 (by intro z; cases z)) S2
theorem xe_orT (hc : EvP (sE X a) X.K O ρ c1 Pa) (hp : ∀ d, Pa d → ∃ ds, d = .tup ds ∧ (ds ≠ [] → P (.tup ds))) (hb : (∃ d, Pa d ∧ d = .tup []) → XE X b O ρ 0 P) : XE X (.BoolOp .Or [a, b] pos) O ρ c1 P :=
  xe_of (pe_orT pe_s (pe_one pe_s)) fun B F T σ H Q hbn S q => hc B F T σ H _ hbn S fun d v H1 p0 S1 => by
    obtain ⟨ds, rfl, h2⟩ := hp d p0
    have S2 := S1
    obtain ⟨HI, S1⟩ := S1
    cases S1.tmp _ List.mem_cons_self with
    | tup e1 r1 =>
      refine ⟨!ds.isEmpty, .inr (.inl ⟨_, sqT_le (Same.le S1.ex1) e1, ?_⟩), ?_⟩
      · cases r1 <;> rfl
      · cases hd : ds with
        | nil =>
          subst hd
          rw [if_neg (by decide)]
          exact hb ⟨_, p0, rfl⟩ (B.add c1) F T σ H1 Q S2.lim ⟨HI, S1.pop fun x hx => List.mem_cons_of_mem _ hx⟩ q
        | cons y r =>
          subst hd
          rw [if_pos (by rfl)]
          exact q _ _ H1 (h2 (by intro z; cases z)) S2
end
end Lg


set_option Elab.async false
set_option linter.all false
set_option maxRecDepth 100000
set_option maxHeartbeats 4000000
set_option autoImplicit false
/-! Lg10: == of data, insert, extend, index, in of texts. -/
namespace Lg
open PySem PySem.Spec L2
mutual
def toP : Dt → PyData
  | .non => .none | .bl b => .bool b | .int i => .int i | .str x => .str x
  | .tup xs => .tuple (toPs xs) | .lst xs => .list (toPs xs) | .ob _ _ => .none | .dk _ => .none
def toPs : List Dt → List PyData
  | [] => [] | d :: ds => toP d :: toPs ds
end
mutual
def plain : Dt → Bool
  | .non => true | .bl _ => true | .int _ => true | .str x => PyData.strOk x
  | .tup xs => plains xs | .lst xs => plains xs | .ob _ _ => false | .dk _ => false
def plains : List Dt → Bool
  | [] => true | d :: ds => plain d && plains ds
end
theorem toPs_map : ∀ ds : List Dt, toPs ds = ds.map toP
  | [] => rfl
  | d :: ds => by rw [toPs, toPs_map ds, List.map_cons]
theorem plains_iff : ∀ {ds : List Dt}, plains ds = true ↔ ∀ d ∈ ds, plain d = true
  | [] => ⟨fun _ d h => by (cases h), fun _ => rfl⟩
  | d :: ds => by rw [plains, Bool.and_eq_true, plains_iff, List.forall_mem_cons]
section
variable {K : PySem.W.Frag} {H HI : Hp}
mutual
theorem dp_of : ∀ {v : V} {d : Dt}, Dr K H v d → plain d = true → Dp K H v (toP d)
  | _, _, .non, _ => .non
  | _, _, .bl b, _ => .bl b
  | _, _, .int i, _ => .int i
  | _, _, .str x, _ => .str x
  | _, _, .tup h r, p => .tup h (dps_of r p)
  | _, _, .lst h r, p => .lst (.inl (.inl h)) (dps_of r p)
  | _, _, .ob h r, p => by cases p
  | _, _, .dk h r, p => by cases p
theorem dps_of : ∀ {vs : List V} {ds : List Dt}, DrL K H vs ds → plains ds = true → DpAll K H vs (toPs ds)
  | _, _, .nil, _ => .nil
  | _, _, .cons r t, p => by
    rw [plains, Bool.and_eq_true] at p
    exact .cons (dp_of r p.1) (dps_of t p.2)
end
end
mutual
theorem lay_of : ∀ {d : Dt}, plain d = true → (toP d).canLay0 = true
  | .non, _ => rfl
  | .bl _, _ => rfl
  | .int _, _ => rfl
  | .str _, p => p
  | .tup xs, p => lays_of (ds := xs) p
  | .lst xs, p => lays_of (ds := xs) p
  | .ob _ _, p => by cases p
  | .dk _, p => by cases p
theorem lays_of : ∀ {ds : List Dt}, plains ds = true → PyData.canLayAll0 (toPs ds) = true
  | [], _ => rfl
  | d :: ds, p => by
    rw [plains, Bool.and_eq_true] at p
    show ((toP d).canLay0 && PyData.canLayAll0 (toPs ds)) = true
    rw [lay_of p.1, lays_of p.2]
    rfl
end
/-- data that == may look at, n deep -/
def Fits (n : Nat) (d : Dt) : Prop := plain d = true ∧ (toP d).depth ≤ n
theorem deps_le {n : Nat} : ∀ {ds : List Dt}, (∀ d ∈ ds, Fits n d) → PyData.depthAll (toPs ds) ≤ n
  | [], _ => Nat.zero_le _
  | d :: ds, h => by
    show max (toP d).depth (PyData.depthAll (toPs ds)) ≤ n
    exact Nat.max_le.mpr ⟨(h d List.mem_cons_self).2, deps_le fun x hx => h x (List.mem_cons_of_mem _ hx)⟩
theorem Fits.int {n : Nat} (i : Int) : Fits n (.int i) := ⟨rfl, Nat.zero_le _⟩
theorem Fits.tup {n : Nat} {ds : List Dt} (h : ∀ d ∈ ds, Fits n d) : Fits (n + 1) (.tup ds) := ⟨plains_iff.mpr fun d hd => (h d hd).1, Nat.succ_le_succ (deps_le h)⟩
theorem Fits.lst {n : Nat} {ds : List Dt} (h : ∀ d ∈ ds, Fits n d) : Fits (n + 1) (.lst ds) := ⟨plains_iff.mpr fun d hd => (h d hd).1, Nat.succ_le_succ (deps_le h)⟩
theorem Fits.le {m n : Nat} {d : Dt} (h : Fits m d) (e : m ≤ n) : Fits n d := ⟨h.1, Nat.le_trans h.2 e⟩
theorem Fits.shaped {d : Dt} (h : Fits 60 d) : SeqAt.shaped (toP d) = true := by
  unfold SeqAt.shaped
  rw [lay_of h.1, decide_eq_true (Nat.le_trans h.2 (by decide))]
  rfl
theorem eqv_nilL (ds : List Dt) : PyData.eqv (toP (.lst ds)) (toP (.lst [])) = ds.isEmpty := by cases ds <;> rfl
theorem eqv_nilT (ds : List Dt) : PyData.eqv (toP (.tup ds)) (toP (.tup [])) = ds.isEmpty := by cases ds <;> rfl
section
variable {X : Cx} {O : List (Addr × Ow)} {ρ : List Sl} {c c1 c2 : Nat} {P Pa Pb : Dt → Prop} {a b e o tg : Expr} {pos p apos pos' : Pos} {d da db : Dt} {k : Nat} {x m : Str} {i j : Int}
theorem rv_eqP (h1 : Fits 60 da) (h2 : Fits 60 db) : RvD X.K (rEqD X.K) O ρ da db (.bl (PyData.eqv (toP da) (toP db))) := rv_flat (.bl _) rfl fun H u v Q r1 r2 q => ⟨_, _, dp_of r1 h1.1, dp_of r2 h2.1, h1.shaped, h2.shaped, q⟩
theorem rv_neP (h1 : Fits 60 da) (h2 : Fits 60 db) : RvD X.K (rNeD X.K) O ρ da db (.bl (!PyData.eqv (toP da) (toP db))) := rv_flat (.bl _) rfl fun H u v Q r1 r2 q => ⟨_, _, dp_of r1 h1.1, dp_of r2 h2.1, h1.shaped, h2.shaped, q⟩
theorem xd_eqP (hr : Room k X.A) (h1 : Fits 60 da) (h2 : Fits 60 db) (ha : XD X a O ρ da) (hb : XD X b O ρ db) : XD X (.Compare a [.Eq] [b] pos) O ρ (.bl (PyData.eqv (toP da) (toP db))) := xd_cmp (op_eqD hr.units) (nomark _) ha hb (rv_eqP h1 h2)
theorem xb_eqP (hr : Room k X.A) (h1 : Fits 60 da) (h2 : Fits 60 db) (ha : XD X a O ρ da) (hb : XD X b O ρ db) : XB X (.Compare a [.Eq] [b] pos) O ρ (PyData.eqv (toP da) (toP db)) := xb_cmp (op_eqD hr.units) (nomark _) ha hb (rv_eqP h1 h2)
theorem xb_neP (hr : Room k X.A) (h1 : Fits 60 da) (h2 : Fits 60 db) (ha : XD X a O ρ da) (hb : XD X b O ρ db) : XB X (.Compare a [.NotEq] [b] pos) O ρ (!PyData.eqv (toP da) (toP db)) := xb_cmp (op_neD hr.units) (nomark _) ha hb (rv_neP h1 h2)
/-- xs == [], xs != [], t != () -/
theorem fits_nil : Fits 60 (.lst []) := (Fits.lst (n := 0) (ds := []) fun d h => by cases h).le (by decide)
theorem fits_nilT : Fits 60 (.tup []) := (Fits.tup (n := 0) (ds := []) fun d h => by cases h).le (by decide)
theorem xd_eqNil {ds : List Dt} {lp : Pos} (hr : Room k X.A) (h1 : Fits 60 (.lst ds)) (ha : XD X a O ρ (.lst ds)) : XD X (.Compare a [.Eq] [.List [] lp] pos) O ρ (.bl ds.isEmpty) := by
  rw [← eqv_nilL]
  exact xd_eqP hr h1 fits_nil ha (xd_lst xl_nil)
theorem xb_eqNil {ds : List Dt} {lp : Pos} (hr : Room k X.A) (h1 : Fits 60 (.lst ds)) (ha : XD X a O ρ (.lst ds)) : XB X (.Compare a [.Eq] [.List [] lp] pos) O ρ ds.isEmpty := by
  rw [← eqv_nilL]
  exact xb_eqP hr h1 fits_nil ha (xd_lst xl_nil)
theorem xb_neNil {ds : List Dt} {lp : Pos} (hr : Room k X.A) (h1 : Fits 60 (.lst ds)) (ha : XD X a O ρ (.lst ds)) : XB X (.Compare a [.NotEq] [.List [] lp] pos) O ρ (!ds.isEmpty) := by
  rw [← eqv_nilL]
  exact xb_neP hr h1 fits_nil ha (xd_lst xl_nil)
theorem xb_neNilT {ds : List Dt} {lp : Pos} {kk : Nat} (hr : Room k X.A) (h1 : Fits 60 (.tup ds)) (ha : XD X a O ρ (.tup ds)) : XB X (.Compare a [.NotEq] [.Tuple [] kk lp] pos) O ρ (!ds.isEmpty) := by
  rw [← eqv_nilT]
  exact xb_neP hr h1 fits_nilT ha (xd_tup xl_nil)
/-! a text in a tuple of texts -/
theorem flat_strs (ns : List Str) : (ns.map V.str).all flatV = true := by
  rw [List.all_eq_true]
  intro x hx
  obtain ⟨n, _, rfl⟩ := List.mem_map.mp hx
  rfl
theorem inV_strs (i : Str) : ∀ ns : List Str, inV (.str i) (ns.map V.str) = decide (i ∈ ns)
  | [] => rfl
  | n :: r => by
    show (eqV (.str n) (.str i) || inV (.str i) (r.map V.str)) = decide (i ∈ n :: r)
    rw [inV_strs i r]
    show ((n == i) || decide (i ∈ r)) = decide (i ∈ n :: r)
    by_cases h : n = i
    · subst h
      simp
    · have h2 : ¬ i = n := fun z => h z.symm
      simp [h, h2]
theorem DrL.strs {K : PySem.W.Frag} {H : Hp} : ∀ {vs : List V} {ns : List Str}, DrL K H vs (ns.map Dt.str) → vs = ns.map V.str
  | _, [], .nil => rfl
  | _, _ :: _, .cons r t => by
    cases r
    rw [DrL.strs t, List.map_cons]
theorem xb_inS {ns : List Str} (ha : XD X a O ρ (.str x)) (hb : XD X b O ρ (.tup (ns.map Dt.str))) (hm : behindInMarks .In b = false := by rfl) : XB X (.Compare a [.In] [b] pos) O ρ (decide (x ∈ ns)) :=
  xb_cmp op_in_seq hm ha hb (rv_flat (.bl _) rfl fun H u v Q h1 h2 q => by
    cases h1
    cases h2 with
    | tup e r =>
      have z := r.strs
      subst z
      refine ⟨_, _, rfl, .inr e, rfl, flat_strs ns, ?_⟩
      rw [inV_strs]
      exact q)
/-! xs.insert(0, e), xs.extend(e), xs.index(e) -/
theorem DrL.ins0 {K : PySem.W.Frag} {H : Hp} {v : V} {vs : List V} {ds : List Dt} (h : Dr K H v d) (r : DrL K H vs ds) : DrL K H (vs.take 0 ++ [v] ++ vs.drop 0) (d :: ds) := .cons h r
section
variable {σ : L2.St} {H : Hp} {B : Bs} {T : List (V × Dt)} {D : Ends}
theorem w_insert0 (n : Nat) {q : Addr} {ds : List Dt} {A C : List (Addr × Ow)} {npos : Pos} (hz : XD X b (A ++ (q, .lst ds) :: C) ρ (.int 0)) (hx : XE X e (A ++ (q, .lst ds) :: C) ρ c P) (S : Sat X.K B (A ++ (q, .lst ds) :: C) ρ T σ H) (hl : B.n + c ≤ LIM) (hzl : ds.length ≤ 50000)
    (k : ∀ d H', P d → Sat X.K (B.add c) (A ++ (q, .lst (d :: ds)) :: C) ρ T σ H' → D.nx σ H') (hρ : ρ[n]? = some (.o q) := by rfl) (hN : X.N[n]? = some x := by rfl)
    (hv : Vis X.env.scope x := by first | exact Or.inl rfl | exact Or.inr (Or.inl rfl) | exact Or.inr (Or.inr rfl)) (hd : (x == ("__debug__" : Str)) = false := by decide) (hcd : (x == ("__classdict__" : Str)) = false := by decide)
    (hbase : attributeBase (.Name x npos) "insert" X.env (eval (.Name x npos) X.env) = eval (.Name x npos) X.env := by rfl)
    (hfew : ((backTo pos (starEach (b :: e :: []) X.env)).all (fun x => !x.1) && (backToKw pos (keywordEach [] X.env)).all (fun x => x.1.isSome) && decide ((b :: e :: []).length + ([] : List Keyword).length + (if ([] : List Keyword).isEmpty then 0 else 1) < 30)) = true := by rfl)
    (hline : (apos.endLine == pos.line) = true := by rfl) (hs : starEach (b :: e :: []) X.env = (false, eval b X.env) :: starEach (e :: []) X.env := by rfl) (hs2 : starEach (e :: []) X.env = (false, eval e X.env) :: starEach [] X.env := by rfl) (hplain : (backTo pos (starEach (e :: []) X.env)).any (·.1) = false := by rfl)
    (hsw : swapsWith (.Call (.Attribute (.Name x npos) "insert" apos) [b, e] [] pos) none pos'.line X.env = pure false := by rfl) :
    W1 X (.Expr (.Call (.Attribute (.Name x npos) "insert" apos) [b, e] [] pos) pos') D σ H :=
  .of (ps_expr (pe_bm PySem.F.plainAttrs_list PySem.F.slot_list_insert PySem.F.type_list_insert mt_insert (pe_var hN hv hd hcd) (pa_cons pe_s (pa_cons pe_s pa_nil hs2) hs) hbase hfew hline hs hplain) hsw) (by
    have hσ := slot_own S hρ
    obtain ⟨HI, o, S0, g1, xs, rfl, r⟩ := own_at S
    refine ⟨.ref q, hσ, .inl ⟨rfl, xs, .inl (.inl g1)⟩, hz B [] T σ H _ S.lim S fun d0 v0 H0 p0 S9 => ?_⟩
    subst p0
    cases S9.dr List.mem_cons_self
    refine hx (B.add 0) [] _ σ H0 _ (by show B.n + 0 + c ≤ LIM; omega) S9 fun d v H1 p S1 => ?_
    obtain ⟨HI1, o1, S2, g2, ys, rfl, r2⟩ := own_at S1
    refine ⟨q, ys, 0, v, rfl, rfl, g2, ?_, Int.le_refl _, by decide, k d _ p ⟨HI1, (S2.pop fun x hx => List.mem_cons_of_mem _ (List.mem_cons_of_mem _ hx)).ownPut ⟨_, rfl, DrL.ins0 (S2.tmp _ List.mem_cons_self) r2⟩⟩⟩
    rw [r2.length]
    exact Nat.lt_of_le_of_lt hzl (by decide))
theorem w_extend (n : Nat) {q : Addr} {ds : List Dt} {Pl : List Dt → Prop} {A C : List (Addr × Ow)} {npos : Pos} (hx : XE X e (A ++ (q, .lst ds) :: C) ρ c (fun d => ∃ es, d = .lst es ∧ Pl es)) (S : Sat X.K B (A ++ (q, .lst ds) :: C) ρ T σ H) (hl : B.n + c ≤ LIM) (hzl : ∀ es, Pl es → ds.length + es.length ≤ 50000)
    (k : ∀ es H', Pl es → Sat X.K (B.add c) (A ++ (q, .lst (ds ++ es)) :: C) ρ T σ H' → D.nx σ H') (hρ : ρ[n]? = some (.o q) := by rfl) (hN : X.N[n]? = some x := by rfl)
    (hv : Vis X.env.scope x := by first | exact Or.inl rfl | exact Or.inr (Or.inl rfl) | exact Or.inr (Or.inr rfl)) (hd : (x == ("__debug__" : Str)) = false := by decide) (hcd : (x == ("__classdict__" : Str)) = false := by decide)
    (hbase : attributeBase (.Name x npos) "extend" X.env (eval (.Name x npos) X.env) = eval (.Name x npos) X.env := by rfl)
    (hfew : ((backTo pos (starEach (e :: []) X.env)).all (fun x => !x.1) && (backToKw pos (keywordEach [] X.env)).all (fun x => x.1.isSome) && decide ((e :: []).length + ([] : List Keyword).length + (if ([] : List Keyword).isEmpty then 0 else 1) < 30)) = true := by rfl)
    (hline : (apos.endLine == pos.line) = true := by rfl) (hs : starEach (e :: []) X.env = (false, eval e X.env) :: starEach [] X.env := by rfl) (hplain : (backTo pos (starEach [] X.env)).any (·.1) = false := by rfl)
    (hsw : swapsWith (.Call (.Attribute (.Name x npos) "extend" apos) [e] [] pos) none pos'.line X.env = pure false := by rfl) :
    W1 X (.Expr (.Call (.Attribute (.Name x npos) "extend" apos) [e] [] pos) pos') D σ H :=
  .of (ps_expr (pe_bm PySem.F.plainAttrs_list PySem.F.slot_list_extend PySem.F.type_list_extend mt_extend (pe_var hN hv hd hcd) (pa_cons pe_s pa_nil hs) hbase hfew hline hs hplain) hsw) (by
    have hσ := slot_own S hρ
    obtain ⟨HI, o, S0, g1, xs, rfl, r⟩ := own_at S
    refine ⟨.ref q, hσ, .inl ⟨rfl, xs, .inl (.inl g1)⟩, hx B [] T σ H _ hl S fun d v H1 p S1 => ?_⟩
    obtain ⟨es, rfl, pl⟩ := p
    obtain ⟨HI1, o1, S2, g2, ys, rfl, r2⟩ := own_at S1
    cases S2.tmp _ List.mem_cons_self with
    | lst e1 r1 =>
      refine ⟨q, _, ys, _, rfl, rfl, g2, S2.ex1 _ _ e1, ?_, k es _ pl ⟨HI1, (S2.pop fun x hx => List.mem_cons_of_mem _ hx).ownPut ⟨_, rfl, r2.append r1⟩⟩⟩
      rw [r2.length, r1.length]
      exact Nat.le_trans (hzl es pl) (by decide))
end
theorem xd_index {ns : List Int} (ha : XS X a O ρ (ns.map Dt.int)) (hb : XD X b O ρ (.int i)) (hj : ns[k]? = some i) (hno : ∀ (m : Nat) (z : Int), m < k → ns[m]? = some z → z ≠ i)
    (hbase : attributeBase a "index" X.env (eval a X.env) = eval a X.env := by rfl)
    (hfew : ((backTo pos (starEach (b :: []) X.env)).all (fun x => !x.1) && (backToKw pos (keywordEach [] X.env)).all (fun x => x.1.isSome) && decide ((b :: []).length + ([] : List Keyword).length + (if ([] : List Keyword).isEmpty then 0 else 1) < 30)) = true := by rfl)
    (hline : (apos.endLine == pos.line) = true := by rfl) (hs : starEach (b :: []) X.env = (false, eval b X.env) :: starEach [] X.env := by rfl) (hplain : (backTo pos (starEach [] X.env)).any (·.1) = false := by rfl) : XD X (.Call (.Attribute a "index" apos) [b] [] pos) O ρ (.int (k : Nat)) :=
  xe_of (pe_bm PySem.F.plainAttrs_list PySem.F.slot_list_index PySem.F.type_list_index mt_index pe_s (pa_cons pe_s pa_nil hs) hbase hfew hline hs hplain) fun B F T σ H Q hl S q => ha B F T σ H _ S fun l T0 H1 hls S1 => by
    have S1' := S1
    obtain ⟨HI1, S1'⟩ := S1'
    obtain ⟨xs1, e1, r1⟩ := hls B T σ H1 HI1 S1'
    refine ⟨.inl ⟨rfl, xs1, .inl (.inl e1)⟩, hb B F (T0 ++ T) σ H1 _ S.lim S1 fun d v H2 p S2 => ?_⟩
    subst p
    have S3 := S2
    obtain ⟨HI2, S3⟩ := S3
    cases S3.tmp _ List.mem_cons_self
    obtain ⟨xs2, e2, r2⟩ := hls B T σ H2 HI2 (S3.pop fun x hx => List.mem_cons_of_mem _ hx)
    have z := r2.ints
    subst z
    refine ⟨l, _, _, k, .int i, rfl, rfl, .inl (.inl e2), rfl, flat_ints ns, by rw [List.getElem?_map, hj]; rfl, by show (i == i) = true; simp, fun m z' hm hz => ?_, q _ _ H2 rfl ⟨HI2, (S3.pop fun x hx => List.mem_cons_of_mem _ (List.mem_append_right _ hx)).push (.int _)⟩⟩
    rw [List.getElem?_map] at hz
    cases e3 : ns[m]? with
    | none => rw [e3] at hz; cases hz
    | some y =>
      rw [e3] at hz
      cases hz
      show (y == i) = false
      exact beq_eq_false_iff_ne.mpr (hno m y hm e3)
end
end Lg


set_option Elab.async false
set_option linter.all false
set_option maxRecDepth 100000
set_option maxHeartbeats 4000000
set_option autoImplicit false
/-! Lg11: chains, enumerated loops. -/
namespace Lg
open PySem PySem.Spec L2
section
variable {X : Cx} {O : List (Addr × Ow)} {ρ : List Sl} {c c1 c2 : Nat} {P Pa Pb : Dt → Prop} {a b e o tg : Expr} {pos p apos pos' : Pos} {d da db : Dt} {k : Nat} {i j m : Int}
theorem xb_chain {e3 : Expr} (ha : XD X a O ρ (.int i)) (hb : XD X b O ρ (.int j)) (hc : XD X e3 O ρ (.int m)) (hm : lastMarks [.LtE, .Lt] [b, e3] = false := by with_unfolding_all rfl) : XB X (.Compare a [.LtE, .Lt] [b, e3] pos) O ρ (decide (i ≤ j) && decide (j < m)) :=
  xt_of (pt_chain op_le op_lt pe_s pe_s pe_s hm) fun B F T σ H Q hl S q => ha B F T σ H _ S.lim S fun d1 v1 H1 p1 S1 => hb B F _ σ H1 _ S.lim S1 fun d2 v2 H2 p2 S2 => by
    subst p1 p2
    cases S2.dr List.mem_cons_self
    cases S2.dr (List.mem_cons_of_mem _ List.mem_cons_self)
    refine ⟨i, j, rfl, rfl, decide (i ≤ j), rfl, ?_⟩
    cases h : decide (i ≤ j) with
    | false => exact iteF ⟨false, rfl, q _ H2 (by rw [h]; rfl) (S2.pop1.pop1)⟩
    | true =>
      refine iteT (hc B F _ σ H2 _ S.lim S2 fun d3 v3 H3 p3 S3 => ?_)
      subst p3
      cases S3.dr List.mem_cons_self
      exact ⟨j, m, rfl, rfl, decide (j < m), rfl, q _ H3 (by rw [h]; rfl) (S3.pop1.pop1.pop1)⟩
end
section
variable {X : Cx} {O : List (Addr × Ow)} {ρ : List Sl} {pos p pos' p1 p2 : Pos} {rest body : List Stmt} {D : Ends} {σ : L2.St} {H : Hp} {B : Bs} {T : List (V × Dt)}
/-- for m1, m2 in ..: over a list of α, each a pair of data -/
theorem w_for2 {α : Type} (m1 m2 : Nat) {x1 x2 : Str} {iter : Expr} {kk : Nat} (e1 e2 : Nat → α → Dt) (xs : List α) (ds : List Dt) (I : Nat → List (Addr × Ow) → List Sl → Prop) (hp : PassesOwn (model X.prog X.w) X.A X.env X.xe) (hc : X.calm = true) (hN : X.N.Nodup)
    (hi : XJ X (.Tuple [.Name x1 p1, .Name x2 p2] kk pos') iter O ρ ds) (hds : ds.length = xs.length) (hget : ∀ (n : Nat) y, xs[n]? = some y → ds[n]? = some (.tup [e1 n y, e2 n y])) (S : Sat X.K B O ρ T σ H) (h0 : I 0 O ρ)
    (hs : ∀ (n : Nat) y O' ρ' T' σ' H' (N : L2.St → Hp → Prop), xs[n]? = some y → I n O' ρ' → Sat X.K B O' ((ρ'.set m1 (.d (e1 n y))).set m2 (.d (e2 n y))) T' σ' H' → (∀ O2 ρ2 σ2 H2, I (n + 1) O2 ρ2 → Sat X.K B O2 ρ2 T' σ2 H2 → N σ2 H2) → WS X body { D with nx := N, ct := N, bk := D.nx } σ' H')
    (hd : ∀ O' ρ' σ' H', I xs.length O' ρ' → Sat X.K B O' ρ' T σ' H' → D.nx σ' H') (hm1 : X.N[m1]? = some x1 := by rfl) (hm2 : X.N[m2]? = some x2 := by rfl) (hx1 : Loc X.env.scope x1 := by first | exact Or.inl rfl | exact Or.inr rfl) (hx2 : Loc X.env.scope x2 := by first | exact Or.inl rfl | exact Or.inr rfl)
    (hf1 : X.fn x1 = true ∨ X.env.scope.names.lookup x1 = some .local := by first | exact .inl rfl | exact .inr rfl) (hf2 : X.fn x2 = true ∨ X.env.scope.names.lookup x2 = some .local := by first | exact .inl rfl | exact .inr rfl)
    (hs1 : (assignEach [.Name x1 p1, .Name x2 p2] X.env).map (·.2) = assign (.Name x1 p1) X.env :: (assignEach [.Name x2 p2] X.env).map (·.2) := by rfl) (hs2 : (assignEach [.Name x2 p2] X.env).map (·.2) = assign (.Name x2 p2) X.env :: (assignEach [] X.env).map (·.2) := by rfl)
    (hn : (assignEach [.Name x1 p1, .Name x2 p2] X.env).length = 2 := by rfl) (hst : (assignEach [.Name x1 p1, .Name x2 p2] X.env).findIdx? (·.1) = none := by rfl)
    (hfo : ∀ x, foldedSetIterable iter X.env x = pure x := by intro _; rfl) : W1 X (.For (.Tuple [.Name x1 p1, .Name x2 p2] kk pos') iter body [] pos) D σ H := by
  refine w_for (gt := fun ds n ρ' => match ds[n]? with | some (.tup [d1, d2]) => (ρ'.set m1 (.d d1)).set m2 (.d d2) | _ => ρ') (is := [m1] ++ ([m2] ++ [])) (fun ds n B' O' ρ' => B' = B ∧ I n O' ρ') hp hc hi S S.lim (fun ds p => ⟨rfl, h0⟩) (fun ds' n d B' O' ρ' p e hI => ?_) (fun ds' n d B' O' ρ' T' σ' H' N p e hI S' kN => ?_) (fun ds' B' O' ρ' σ' H' p hI S' => ?_) hfo
  · subst p
    have hlt : n < xs.length := by rw [← hds]; exact (List.getElem?_eq_some_iff.mp e).1
    have e3 := hget n _ (List.getElem?_eq_getElem hlt)
    rw [e] at e3
    cases e3
    show XG X _ ρ' _ (match ds'[n]? with | some (.tup [d1, d2]) => (ρ'.set m1 (.d d1)).set m2 (.d d2) | _ => ρ') _
    rw [e]
    exact xg_two hc (xg_name m1 hN hm1 hx1 hf1) (xg_name m2 hN hm2 hx2 hf2) hs1 hs2 hn hst
  · subst p
    obtain ⟨rfl, hI⟩ := hI
    have hlt : n < xs.length := by rw [← hds]; exact (List.getElem?_eq_some_iff.mp e).1
    have e3 := hget n _ (List.getElem?_eq_getElem hlt)
    rw [e] at e3
    cases e3
    have S2 : Sat X.K B' O' (match ds'[n]? with | some (.tup [d1, d2]) => (ρ'.set m1 (.d d1)).set m2 (.d d2) | _ => ρ') T' σ' H' := S'
    rw [e] at S2
    exact hs n _ O' ρ' T' σ' H' N (List.getElem?_eq_getElem hlt) hI S2 fun O2 ρ2 σ2 H2 q1 q2 => kN _ O2 ρ2 σ2 H2 ⟨rfl, q1⟩ q2
  · subst p
    obtain ⟨rfl, hI⟩ := hI
    rw [hds] at hI
    exact hd O' ρ' σ' H' hI S'
theorem enD_get' {α : Type} (enc : α → Dt) (xs : List α) {n : Nat} {y : α} (h : xs[n]? = some y) : (enD (xs.map enc))[n]? = some (.tup [.int (n : Nat), enc y]) := by
  have hlt : n < xs.length := (List.getElem?_eq_some_iff.mp h).1
  unfold enD
  rw [List.getElem?_map, List.getElem?_range (by rw [List.length_map]; exact hlt)]
  show some (Dt.tup [.int (n : Nat), (xs.map enc).getD n .non]) = _
  rw [List.getD_eq_getElem?_getD, List.getElem?_map, h]
  rfl
end
end Lg


set_option Elab.async false
set_option linter.all false
set_option maxRecDepth 100000
set_option maxHeartbeats 4000000
set_option autoImplicit false
/-! Lg12: sorted of lists of tuples of ints, the empty one ahead or none. -/
namespace PySem.SeqAt
theorem lg_tupLt {prog : Program} {w : World} {A : Around} {s : Shared} {E : Value → Shared → Prop} {Q : Value → Shared → Prop} {l b : Addr} {us ws : Array Value} {e r : Nat → Bool} (hl : s.heap.IsTuple l us) (hb : s.heap.IsTuple b ws)
    (he : ∀ j (h1 : j < us.size) (h2 : j < ws.size), EqAt A.in1 s us[j] ws[j] (e j)) (hr : ∀ j (h1 : j < us.size) (h2 : j < ws.size), e j = false → RcLt A.in1 s us[j] ws[j] (r j))
    (h : Q (.bool (firstLt e r (decide (us.size < ws.size)) (List.range (min us.size ws.size)))) s) : wpAny (model prog w) A (call (.builtin "tuple.__lt__") [.ref l, .ref b]) Q E s := by
  obtain ⟨⟨cls, dd, data, sl⟩, ho, hc, n, hd⟩ := id hl
  obtain ⟨⟨cls2, dd2, data2, sl2⟩, ho2, hc2, n2, hd2⟩ := id hb
  simp only at hc hd hc2 hd2
  subst hc hd hc2 hd2
  exact call_meets F.slot_tuple_lt ⟨_, ho, rfl⟩ F.entry_tuple_lt (F.args_tuple_lt_2 _ _) (tuple_ltAt l b us ws n n2 dd dd2 sl sl2 e r) ⟨ho, ho2, he, hr, h⟩
end PySem.SeqAt
namespace PySem.W
open PySem PySem.Calls PyProof.Rows PySem.SeqAt
section
variable {prog : Program} {w : World} {A : Around} {E : Value → Shared → Prop} {s : Shared}
theorem lg_oneLt {xs ys : List PyData} {a b : Value} {as bs : List Addr} {Q : Bool → Shared → Prop} (ra : Reads s.heap a (.tuple xs) as) (rb : Reads s.heap b (.tuple ys) bs) (hal : alikeAll xs ys = true)
    (hu : A.units + min (PyData.tuple xs).depth (PyData.tuple ys).depth < cLine) (hq : Q (dataLt (.tuple xs) (.tuple ys)) s) : wpAny (model prog w) A (oneLt' true a b) Q E s := by
  cases ra with
  | @tuple l o vs n _ _ h1 h2 h3 h4 =>
    cases rb with
    | @tuple l' o' vs' n' _ _ k1 k2 k3 k4 =>
      have n1 : vs.size = xs.length := by simpa using ReadsAll.length _ _ _ h4
      have n2 : vs'.size = ys.length := by simpa using ReadsAll.length _ _ _ k4
      rw [dataLt_tuple, ← firstLt_toks xs ys hal, ← n1, ← n2] at hq
      rw [oneLt'_eq]
      simp only [if_true]
      refine wpAny_bind (wpAny_cRoomFor (room_here hu) ?_)
      refine wpAny_bind (wpAny_callSpecialIfBound?_slot (T := "tuple") ⟨_, h1, h2⟩ F.slot_tuple_lt (lg_tupLt (e := pairEq xs ys) (r := fun j => dataLt (xs.getD j .none) (ys.getD j .none)) ⟨_, h1, h2, _, h3⟩ ⟨_, k1, k2, _, k3⟩ (fun j j1 j2 => ?_) (fun j j1 j2 hj => ?_) ?_))
      · have := eqAt_alikeAll xs ys A.in1 s vs.toList vs'.toList _ _ h4 k4 hal (room_in hu) j (by simpa using j1) (by simpa using j2)
        simpa using this
      · have := rcLt_alikeAll xs ys A.in1 s vs.toList vs'.toList _ _ h4 k4 hal (room_in hu) j (by simpa using j1) (by simpa using j2) hj
        simpa using this
      · exact wpAny_truthy_bool hq
theorem lg_mapM {M : Model} {f : Value → Sem (Option Value)} : ∀ (l : List Value) {Q : List (Option Value) → Shared → Prop}, (∀ v ∈ l, ∀ (Q' : Option Value → Shared → Prop), (∀ r, Q' r s) → wpAny M A (f v) Q' E s) → (∀ rs, Q rs s) → wpAny M A (l.mapM f) Q E s
  | [], _, _, h => by rw [List.mapM_nil]; exact wpAny_pure (h _)
  | x :: l, Q, hf, h => by
    rw [List.mapM_cons]
    refine wpAny_bind (hf x (.head _) _ fun r => wpAny_bind (lg_mapM l (Q := fun bs s' => wpAny M A (pure (r :: bs)) Q E s') (fun v hv => hf v (.tail _ hv)) fun rs => wpAny_pure (h _)))
theorem lg_firstT {M : Model} {v : Value} {xs : List PyData} {as : List Addr} {Q' : Option Value → Shared → Prop} (r : Reads s.heap v (.tuple xs) as) (h : ∀ o, (xs = [] → o = none) → Q' o s) : wpAny M A (firstOfTuple' v) Q' E s := by
  cases r with
  | @tuple a o vs n _ _ ho hc hd hr =>
    rw [kas_first_eq]
    refine wpAny_bind (Looks.here (show Looks M s.heap (typeOf (.ref a)) o.cls from (Looks.ld ho).andThen .now) ?_)
    rw [hc, if_neg (by first | decide | simp)]
    refine wpAny_bind (listItems_at ho hd (wpAny_pure (h _ fun e => ?_)))
    subst e
    cases q : vs.toList with
    | nil => rw [← Array.getElem?_toList, q]; rfl
    | cons x r => rw [q] at hr; cases hr
theorem lg_kind {vs : List Value} {ds : List PyData} {Q : SortKind → Shared → Prop} (e : EachIs (fun v d => ∃ as, Reads s.heap v d as) vs (.tuple [] :: ds)) (ht : ∀ d ∈ ds, ∃ xs, d = .tuple xs) (h : Q oneType' s) : wpAny (model prog w) A (keyKind' vs.toArray) Q E s := by
  cases e with
  | @cons v1 _ vr _ h1 hr =>
    obtain ⟨as, r1⟩ := h1
    have hall : ∀ v ∈ v1 :: vr, ∃ xs as, Reads s.heap v (.tuple xs) as := by
      intro v hv
      rcases List.mem_cons.mp hv with rfl | hv
      · exact ⟨[], as, r1⟩
      · obtain ⟨d, hd, as', r'⟩ := hr.left v hv
        obtain ⟨xs, rfl⟩ := ht d hd
        exact ⟨xs, as', r'⟩
    rw [keyKind'_eq, List.mapM_toArray, map_eq_pure_bind, List.mapM_cons]
    refine wpAny_bind (wpAny_bind (wpAny_bind (lg_firstT r1 fun o ho => ?_)))
    obtain rfl := ho rfl
    refine wpAny_bind (lg_mapM vr (fun v hv Q' hq => ?_) fun rs => ?_)
    · obtain ⟨xs, as', r'⟩ := hall v (List.mem_cons_of_mem _ hv)
      exact lg_firstT r' fun o _ => hq o
    · refine wpAny_pure (wpAny_pure ?_)
      rw [if_neg (by simp), if_neg (by simp), oneTypeOnly'_eq, List.mapM_toArray, map_eq_pure_bind]
      refine wpAny_bind (wpAny_bind (wpAny_bind (kas_mapM (r := Value.type "tuple") _ (fun v hv Q' hq => ?_) (wpAny_pure ?_))))
      · obtain ⟨xs, as', r'⟩ := hall v hv
        exact (looks_reads r').here hq
      · have hal2 : ((List.map (fun _ => Value.type "tuple") (v1 :: vr)).toArray.all fun x => x == Value.type "tuple") = true := by
          simp only [List.all_toArray, List.all_map, List.all_eq_true]
          intro _ _
          rfl
        have h0 : (List.map (fun _ => Value.type "tuple") (v1 :: vr)).toArray[0]? = some (Value.type "tuple") := by simp
        rw [h0]
        simp only [hal2, if_true]
        exact wpAny_pure (wpAny_pure h)
theorem lg_sorts {vs : List Value} {ds : List PyData} (e : EachIs (fun v d => ∃ as, Reads s.heap v d as) vs (.tuple [] :: ds)) (hal : AllAlike (.tuple [] :: ds)) (ht : ∀ d ∈ ds, ∃ xs, d = .tuple xs) (hu : ∀ d, d ∈ PyData.tuple [] :: ds → A.units + d.depth < cLine) :
    SortsAt prog w A s (dataKind s.heap (.tuple [] :: ds)) vs := by
  have room : ∀ {d d' : PyData}, d ∈ PyData.tuple [] :: ds → A.units + min d.depth d'.depth < cLine := fun {d d'} hd => Nat.lt_of_le_of_lt (Nat.add_le_add_left (Nat.min_le_left _ _) _) (hu d hd)
  have tup : ∀ d ∈ PyData.tuple [] :: ds, ∃ xs, d = .tuple xs := fun d hd => by
    rcases List.mem_cons.mp hd with rfl | hd
    · exact ⟨[], rfl⟩
    · exact ht d hd
  refine ⟨fun v hv => ?_, oneType', ?_, fun h2 E Q hq => lg_kind e ht hq⟩
  · obtain ⟨d, hd, as, r⟩ := e.left v hv
    exact ⟨_, dataKind_some hal hd r⟩
  · intro E x y a b Q ha hb hq
    obtain ⟨d, as, hd, ra, rfl⟩ := dataKind_inv ha
    obtain ⟨d', as', hd', rb, rfl⟩ := dataKind_inv hb
    have hdd := hal d hd d' hd'
    have hroom := room (d' := d') hd
    obtain ⟨x1, rfl⟩ := tup d hd
    obtain ⟨x2, rfl⟩ := tup d' hd'
    rw [keyLt'_oneType]
    exact lg_oneLt ra rb (by simpa [alike] using hdd) hroom hq
end
end PySem.W
namespace L2
open PySem PySem.Spec PyProof.Rows PySem.W
abbrev encT : V × List Int → PyData := fun p => .tuple (p.2.map .int)
def rSortT (K : PySem.W.Frag) : List V → Hp → VK → Prop := fun vs H Q => ∃ (a : Addr) (bs : List (V × List Int)), vs = [.ref a] ∧ SqL K H a (bs.map (·.1)) ∧ (∀ p ∈ bs, Dp K H p.1 (encT p)) ∧ ((∀ p ∈ bs, p.2 ≠ []) ∨ ∃ p0 r, bs = p0 :: r ∧ p0.2 = []) ∧
  ∀ q, H q = none → Q (.ref q) (upd H q (.lst ((bs.mergeSort (dataLe false encT)).map (·.1))))
theorem each_of_vals : ∀ {bs : List (V × List Int)} {us : List Value}, Vals (bs.map (·.1)) us → EachIs (fun u (p : V × List Int) => RelV p.1 u) us bs
  | [], _, .nil => .nil
  | _ :: _, _, .cons r t => .cons r (each_of_vals t)
theorem vals_of_each : ∀ {bs : List (V × List Int)} {us : List Value}, EachIs (fun u (p : V × List Int) => RelV p.1 u) us bs → Vals (bs.map (·.1)) us
  | _, _, .nil => .nil
  | _, _, .cons r t => .cons r (vals_of_each t)
theorem cr_sortT {X : Cx} (hu : X.A.units + 64 < cLine) : CallR X (.builtin "sorted") (rSortT X.K) := by
  intro pins s σ H vs us Q I r h
  obtain ⟨a, bs, rfl, hs, hd, hcase, q⟩ := h
  obtain ⟨its, rv, hl, hz⟩ := I.list hs
  rw [Vals.ref1 r]
  have e := each_of_vals rv
  rw [List.length_map] at hz
  have er : EachIs (fun v (b : V × List Int) => ∃ as, Reads s.heap v (encT b) as) its bs := (each_mem e).mono fun u p ⟨h1, h2⟩ => Dp.reads I (encT p) p.1 u (hd p h2) h1
  have hal : AllAlike (bs.map encT) := AllAlike.of fun b b' => by
    show alike (.tuple (b.2.map .int)) (.tuple (b'.2.map .int)) = true
    have q := alike_ints b.2 b'.2
    simpa [alike] using q
  have hdep : ∀ b : V × List Int, (encT b).depth = 1 := fun b => by
    show PyData.depthAll (b.2.map .int) + 1 = 1
    rw [depth_ints]
  have fin : ∀ out, EachIs (fun u (p : V × List Int) => RelV p.1 u) out (bs.mergeSort (dataLe false encT)) → EP X pins σ Q (.ref (s.heap.objs.size + 1)) { s with heap := sortedAll s.heap its out.toArray } := fun out eo => by
    obtain ⟨ep, he'⟩ := PyProof.Rows.sortedAll_at s.heap its out.toArray
    have hlen : ((bs.mergeSort (dataLe false encT)).map (·.1)).length ≤ sizeLine := by
      rw [List.length_map, List.length_mergeSort]
      exact hz
    exact ⟨.ref _, upd H (s.heap.objs.size + 1) (.lst ((bs.mergeSort (dataLe false encT)).map (·.1))), I.laid (t' := s.toks) (fun _ _ => PyProof.Rows.sortedAll_old) (Nat.le_succ _) ⟨hlen, out, ep, vals_of_each eo, he'⟩, rfl, q _ (I.hok.fresh (Nat.le_succ _))⟩
  rcases hcase with hne | ⟨p0, r0, rfl, h0⟩
  · refine sorted_data hl.isList e er hal (.inl fun d hd' => ?_) hz (fun b hb => by rw [hdep]; omega) fun out _ eo => fin out eo
    obtain ⟨b, hb, rfl⟩ := List.mem_map.mp hd'
    obtain ⟨x, t, ex⟩ := List.exists_cons_of_ne_nil (hne b hb)
    exact ⟨.int x, t.map .int, by show PyData.tuple (b.2.map .int) = _; rw [ex]; rfl⟩
  · have e0 : (p0 :: r0).map encT = .tuple [] :: r0.map encT := by
      show PyData.tuple (p0.2.map .int) :: _ = _
      rw [h0]
      rfl
    have er' : EachIs (fun v (b : V × List Int) => ∃ as, Reads (sortingHeap (copyHeap s.heap its) (s.heap.objs.size + 1) its) v (encT b) as) its (p0 :: r0) := er.mono fun _ _ ⟨as, r⟩ => ⟨as, PyProof.Rows.Reads.keeps (fun _ _ => sorting_copy_old) r⟩
    have er2 : EachIs (fun v d => ∃ as, Reads (sortingHeap (copyHeap s.heap its) (s.heap.objs.size + 1) its) v d as) its (.tuple [] :: r0.map encT) := by
      rw [← e0]
      exact each_map (R := fun v d => ∃ as, Reads (sortingHeap (copyHeap s.heap its) (s.heap.objs.size + 1) its) v d as) encT er'
    have hal2 := hal
    rw [e0] at hal2
    have sv := sortVals_data (R := fun u (p : V × List Int) => RelV p.1 u) false e er' hal
    rw [e0] at sv
    refine sorted_vals hl.isList (lg_sorts (s := { s with heap := sortingHeap (copyHeap s.heap its) (s.heap.objs.size + 1) its }) er2 hal2 (fun d hd' => ?_) (fun d hd' => ?_)) (by rw [e.length]; exact hz) (fin _ sv)
    · obtain ⟨b, hb, rfl⟩ := List.mem_map.mp hd'
      exact ⟨_, rfl⟩
    · have hd1 : d.depth = 1 := by
        rcases List.mem_cons.mp hd' with rfl | hd'
        · rfl
        · obtain ⟨b, hb, rfl⟩ := List.mem_map.mp hd'
          exact hdep b
      rw [hd1]
      show X.A.units + 1 + 1 + 1 < cLine
      omega
theorem sortT_head {p0 : V × List Int} {r0 : List (V × List Int)} (h0 : p0.2 = []) : ∃ p1 r1, (p0 :: r0).mergeSort (dataLe false encT) = p1 :: r1 ∧ p1.2 = [] := by
  have hp := List.mergeSort_perm (p0 :: r0) (dataLe false encT)
  have hs := sort_pairwise (sortLe_total (listOrd itemOrd) false fun b : V × List Int => keyToks (encT b)) (p0 :: r0)
  cases hm : (p0 :: r0).mergeSort (dataLe false encT) with
  | nil => rw [hm] at hp; exact absurd hp.length_eq (by simp)
  | cons p1 r1 =>
    refine ⟨p1, r1, rfl, ?_⟩
    have hs2 : (p1 :: r1).Pairwise fun a b => dataLe false encT a b = true := by
      rw [← hm]
      exact hs
    have hmem : p0 ∈ p1 :: r1 := by
      rw [← hm]
      exact hp.mem_iff.mpr List.mem_cons_self
    rcases List.mem_cons.mp hmem with e | hmem
    · rw [← e]
      exact h0
    · have h1 := (List.pairwise_cons.mp hs2).1 p0 hmem
      rw [dataLe_eq] at h1
      have h2 : (!dataLt (encT p0) (encT p1)) = true := h1
      cases hq : p1.2 with
      | nil => rfl
      | cons x t =>
        have h3 : dataLt (encT p0) (encT p1) = true := by
          show dataLt (.tuple (p0.2.map .int)) (.tuple (p1.2.map .int)) = true
          rw [h0, hq, dataLt_tuple]
          show PyProof.Rows.lexLt itemOrd (keyToksAll []) (keyToksAll (.int x :: t.map .int)) = true
          rw [toks_all_cons]
          rfl
        rw [h3] at h2
        cases h2
end L2
namespace Lg
open PySem PySem.Spec L2
section
variable {X : Cx} {O : List (Addr × Ow)} {ρ : List Sl} {e : Expr} {pos p : Pos} {k : Nat}
theorem drL_pairs {K : PySem.W.Frag} {H : Hp} : ∀ {xs : List V} {nss : List (List Int)}, DrL K H xs (nss.map fun ns => .tup (ns.map Dt.int)) → (xs.zip nss).map (·.1) = xs ∧ (xs.zip nss).map (·.2) = nss ∧ ∀ p ∈ xs.zip nss, Dr K H p.1 (.tup (p.2.map Dt.int))
  | _, [], .nil => ⟨rfl, rfl, fun p hp => by cases hp⟩
  | _, _ :: _, .cons r t => by
    obtain ⟨h1, h2, h3⟩ := drL_pairs t
    refine ⟨by rw [List.zip_cons_cons, List.map_cons, h1], by rw [List.zip_cons_cons, List.map_cons, h2], fun p hp => ?_⟩
    rw [List.zip_cons_cons] at hp
    rcases List.mem_cons.mp hp with rfl | hp
    · exact r
    · exact h3 p hp
theorem drL_back {K : PySem.W.Frag} {H : Hp} : ∀ {bs : List (V × List Int)}, (∀ p ∈ bs, Dr K H p.1 (.tup (p.2.map Dt.int))) → DrL K H (bs.map (·.1)) ((bs.map (·.2)).map fun ns => .tup (ns.map Dt.int))
  | [], _ => .nil
  | b :: bs, h => .cons (h b List.mem_cons_self) (drL_back fun p hp => h p (List.mem_cons_of_mem _ hp))
theorem plain_ints (ns : List Int) : plain (.tup (ns.map Dt.int)) = true := plains_iff.mpr fun d hd => by
  obtain ⟨n, _, rfl⟩ := List.mem_map.mp hd
  rfl
theorem toP_ints (ns : List Int) : toP (.tup (ns.map Dt.int)) = .tuple (ns.map .int) := by
  show PyData.tuple (toPs (ns.map Dt.int)) = _
  rw [toPs_map, List.map_map]
  rfl
theorem xe_sortT {nss : List (List Int)} (hr : Room k X.A) (hm : X.mg "sorted" = none) (ha : XS X e O ρ (nss.map fun ns => .tup (ns.map Dt.int))) (hcase : (∀ ns ∈ nss, ns ≠ []) ∨ ∃ r, nss = [] :: r)
    (hg : Gl X "sorted" := by rfl) (he : starEach [e] X.env = (false, eval e X.env) :: starEach [] X.env := by rfl) (hpl : (backTo pos (starEach [] X.env)).any (·.1) = false := by rfl) :
    XE X (.Call (.Name "sorted" p) [e] [] pos) O ρ 0 (fun d => ∃ out : List (List Int), d = .lst (out.map fun ns => .tup (ns.map Dt.int)) ∧ out.Perm nss ∧ ((∃ r, nss = [] :: r) → ∃ r, out = [] :: r)) :=
  xe_callBS (cr_sortT hr.units) hm (by decide +kernel) ha (fun B F T σ H HI l xs Q S e r k => by
    obtain ⟨h1, h2, h3⟩ := drL_pairs r
    refine ⟨l, xs.zip nss, rfl, .inl (.inl (by rw [h1]; exact e)), fun p hp => ?_, ?_, fun q hq => k _ _ _ ⟨((xs.zip nss).mergeSort (PySem.W.dataLe false encT)).map (·.2), rfl, ?_, ?_⟩ ⟨_, (S.grow hq).push (.lst upd_same ?_)⟩⟩
    · have z := dp_of ((h3 p hp).mono S.ex1) (plain_ints p.2)
      rw [toP_ints] at z
      exact z
    · rcases hcase with hc | ⟨r0, hc⟩
      · refine .inl fun p hp => hc p.2 ?_
        have : p.2 ∈ (xs.zip nss).map (·.2) := List.mem_map_of_mem hp
        rw [h2] at this
        exact this
      · subst hc
        cases r with
        | cons r1 r2 => exact .inr ⟨_, _, List.zip_cons_cons, rfl⟩
    · have z := (List.mergeSort_perm (xs.zip nss) (PySem.W.dataLe false encT)).map (·.2)
      rw [h2] at z
      exact z
    · rintro ⟨r0, hc⟩
      subst hc
      cases r with
      | @cons v vs _ _ r1 r2 =>
        obtain ⟨p1, t1, e1, e2⟩ := sortT_head (p0 := (v, [])) (r0 := vs.zip r0) rfl
        rw [List.zip_cons_cons, e1, List.map_cons, e2]
        exact ⟨_, rfl⟩
    · refine DrL.mono (same_upd (S.hi hq)) (drL_back fun p hp => h3 p ?_)
      exact (List.mergeSort_perm _ _).mem_iff.mp hp) hg (by decide) (by decide) he hpl
end
end Lg


set_option Elab.async false
set_option linter.all false
set_option maxRecDepth 100000
set_option maxHeartbeats 4000000
set_option autoImplicit false
/-! Lg13: dicts of stands; comprehensions over a list that is known in part. -/
namespace Lg
open PySem PySem.Spec L2
theorem pick {α β : Type} {R : α → β → Prop} : ∀ (l : List α), (∀ x ∈ l, ∃ t, R x t) → ∃ ts : List (α × β), ts.map (·.1) = l ∧ ∀ y ∈ ts, R y.1 y.2
  | [], _ => ⟨[], rfl, fun y hy => by cases hy⟩
  | x :: l, h => by
    obtain ⟨t, ht⟩ := h x List.mem_cons_self
    obtain ⟨ts, h1, h2⟩ := pick l fun y hy => h y (List.mem_cons_of_mem _ hy)
    refine ⟨(x, t) :: ts, by rw [List.map_cons, h1], fun y hy => ?_⟩
    rcases List.mem_cons.mp hy with rfl | hy
    · exact ht
    · exact h2 y hy
section
variable {X : Cx} {pins : List (Addr × Obj)} {σ : L2.St} {H : Hp} {s : Shared}
theorem nest_row (I : Inv X pins σ H s) {ks : List Int} {v : V} {u : Value} (d : Dr X.K H v (.tup (ks.map .int))) (r : RelV v u) : NestedIs s.heap (.tup (ks.map .num)) u := by
  cases d with
  | tup h rr =>
    cases r
    obtain ⟨its, rv, ⟨o, ho, hc, n, hd⟩, hzz⟩ := I.tuple h
    refine .tup ho hc hd ?_
    clear hzz
    have e := rr.ints
    subst e
    rw [show its.toArray.toList = its from by simp]
    clear rr h hd
    induction ks generalizing its with
    | nil => cases rv; exact .nil
    | cons k ks ih =>
      cases rv with
      | cons r1 r2 =>
        obtain ⟨t, rfl⟩ := r1
        exact .cons (.int k t) (ih _ r2)
theorem nest_rows (I : Inv X pins σ H s) : ∀ {st : List (List Int)} {xs : List V} {us : List Value}, DrL X.K H xs (st.map fun b => .tup (b.map .int)) → Vals xs us → NestedAll s.heap (st.map fun b => .tup (b.map .num)) us
  | [], _, _, .nil, .nil => .nil
  | _ :: _, _, _, .cons d t, .cons r rt => .cons (nest_row I d r) (nest_rows I t rt)
theorem nest_st (I : Inv X pins σ H s) {st : List (List Int)} {b : Addr} (d : Dr X.K H (.ref b) (dSt st)) : (nestedKind X.prog X.w).is s.heap (kSt st) b := by
  constructor
  · cases d with
    | tup h rr =>
      obtain ⟨its, rv, ⟨o, ho, hc, n, hd⟩, _⟩ := I.tuple h
      refine .tup ho hc hd ?_
      rw [show its.toArray.toList = its from by simp]
      exact nest_rows I rr rv
  · show NestedKey.depthAll (st.map fun b => .tup (b.map .num)) + 1 ≤ 8
    have h0 : ∀ b : List Int, NestedKey.depthAll (b.map .num) = 0 := fun b => by
      induction b with
      | nil => rfl
      | cons x r ih => show max (NestedKey.depth (.num x)) (NestedKey.depthAll (r.map .num)) = 0; rw [ih]; rfl
    have h1 : NestedKey.depthAll (st.map fun b => .tup (b.map .num)) ≤ 1 := by
      clear d
      induction st with
      | nil => exact Nat.zero_le _
      | cons b r ih =>
        show max (NestedKey.depthAll (b.map .num) + 1) (NestedKey.depthAll (r.map fun b => .tup (b.map .num))) ≤ 1
        rw [h0]
        exact Nat.max_le.mpr ⟨Nat.le_refl _, ih⟩
    omega
end
/-- a pair of the argument: its address, its key's, the stand, the number -/
structure Pr where
  T : Addr
  a : Addr
  st : List (List Int)
  j : Int
def rNd (P : Program) (w : World) (K : PySem.W.Frag) : List V → Hp → VK → Prop := fun vs H Q => ∃ (l : Addr) (prs : List Pr), vs = [.ref l] ∧ SqL K H l (prs.map fun p => V.ref p.T) ∧ (∀ p ∈ prs, SqT K H p.T [.ref p.a, .int p.j] ∧ Dr K H (.ref p.a) (dSt p.st)) ∧
  ∀ (q : Addr) φ (xs : List (NestedKey × Addr × Value)), H q = none → (∀ h, φ h → RawH P w h q xs) → (∀ x ∈ xs, ∃ p ∈ prs, x.1 = kSt p.st ∧ x.2.1 = p.a) →
    (∀ p ∈ prs, ∃ p' ∈ prs, ∃ t, kSt p'.st = kSt p.st ∧ valueAt (pairsH xs) (kSt p.st) = some (.int p'.j t)) → Q (.ref q) (upd H q (.ext φ))
theorem refs_vals : ∀ {prs : List Pr} {us : List Value}, Vals (prs.map fun p => V.ref p.T) us → us = prs.map fun p => Value.ref p.T
  | [], _, .nil => rfl
  | _ :: _, _, .cons r t => by
    cases r
    rw [refs_vals t]
    rfl
theorem cr_nd {X : Cx} {k : Nat} (hr : Room k X.A) : CallR X (.type "dict") (rNd X.prog X.w X.K) := by
  intro pins s σ H vs us Q I r h
  obtain ⟨l, prs, rfl, hs, hp, q⟩ := h
  obtain ⟨its, rv, ⟨o, n, ho, hc, hdn, hd⟩, hz⟩ := I.list hs
  rw [Vals.ref1 r]
  have ei := refs_vals rv
  subst ei
  have hpair : ∀ p ∈ prs, ∃ t : Tok, PairAt s.heap p.T (.ref p.a) (.int p.j t) := fun p hp' => by
    obtain ⟨its2, r2, pt, _⟩ := I.tuple (hp p hp').1
    obtain ⟨u1, u2, rfl, a1, a2⟩ := vals2 r2
    cases a1
    obtain ⟨t, rfl⟩ := a2
    exact ⟨t, .inl (show s.heap.IsTuple p.T [Value.ref p.a, .int p.j t].toArray from pt)⟩
  obtain ⟨ts, e1, hts⟩ := pick prs hpair
  have hlen : ts.length = prs.length := by rw [← e1, List.length_map]
  have hget : ∀ (i : Nat) y, ts[i]? = some y → prs[i]? = some y.1 := fun i y hy => by rw [← e1, List.getElem?_map, hy]; rfl
  let knd := nestedKind X.prog X.w
  let ps : List (NestedKey × Addr × Value) := ts.map fun y => (kSt y.1.st, y.1.a, Value.int y.1.j y.2)
  let vps : List (Value × Value) := ts.map fun y => (Value.ref y.1.a, Value.int y.1.j y.2)
  let Ts : Nat → Addr := fun i => match prs[i]? with | some p => p.T | none => 0
  have hmem : ∀ y ∈ ts, y.1 ∈ prs := fun y hy => by rw [← e1]; exact List.mem_map_of_mem hy
  have hvl : vps.length = ts.length := List.length_map ..
  have ok : PlainSeq "list" s.heap l (prs.map fun p => Value.ref p.T).toArray ∧ PairItems s.heap (prs.map fun p => Value.ref p.T).toArray Ts vps := by
    refine ⟨⟨o, n, ho, hc, hdn, hd⟩, by rw [List.size_toArray, List.length_map, hvl, hlen], fun j kk vv hj => ?_⟩
    have hj' : (ts.map fun y => (Value.ref y.1.a, Value.int y.1.j y.2))[j]? = some (kk, vv) := hj
    rw [List.getElem?_map] at hj'
    cases ey : ts[j]? with
    | none => rw [ey] at hj'; cases hj'
    | some y =>
      rw [ey] at hj'
      cases hj'
      have e2 := hget j y ey
      have e3 : Ts j = y.1.T := by
        show (match prs[j]? with | some p => p.T | none => 0) = y.1.T
        rw [e2]
      rw [e3]
      refine ⟨?_, hts y (List.mem_of_getElem? ey)⟩
      rw [List.getElem?_toArray, List.getElem?_map, e2]
      rfl
  have hc2 : PairsHaveH knd vps.length (PairRel vps) ps := by
    refine ⟨by rw [hvl]; exact List.length_map .., fun i key v hv => ?_⟩
    have hv' : (ts.map fun y => (Value.ref y.1.a, Value.int y.1.j y.2))[i]? = some (key, v) := hv
    rw [List.getElem?_map] at hv'
    cases ey : ts[i]? with
    | none => rw [ey] at hv'; cases hv'
    | some y =>
      rw [ey] at hv'
      cases hv'
      refine ⟨kSt y.1.st, y.1.a, ?_, rfl⟩
      show (ts.map fun y => (kSt y.1.st, y.1.a, Value.int y.1.j y.2))[i]? = _
      rw [List.getElem?_map, ey]
      rfl
  have his : ∀ x ∈ ps, knd.is s.heap x.1 x.2.1 := fun x hx => by
    obtain ⟨y, hy, rfl⟩ := List.mem_map.mp hx
    exact nest_st I (hp y.1 (hmem y hy)).2
  have hst : KeysStay knd s.heap s.heap.objs.size [] ps := fun h' hk x hx => by
    refine nestedKind_stays.stays (fun b ob vs n hb _ => ?_) (his x hx)
    exact hk b ob (Nat.ne_of_lt (Heap.lt_size hb)) (by simp) hb
  refine call_dict_pairsH (PairArg.list l (prs.map fun p => Value.ref p.T).toArray Ts vps) hr.hd (show (nestedKind X.prog X.w).room X.A.in1.in1 from ?_) ok hc2 hst ?_ fun h' tk hd' hk => ?_
  · show X.A.units + 1 + 1 + 8 < cLine
    have := hr.units
    omega
  · rw [hvl, hlen, ← List.length_map (f := fun p : Pr => V.ref p.T)]
    exact hz
  · obtain ⟨ob, es, ep, g1, g2, g3, g4, g5, g6⟩ := hd'
    have hkeys : ∀ x ∈ storedAllH [] ps, ∃ p ∈ prs, x.1 = kSt p.st ∧ x.2.1 = p.a := storedAllH_keys (P := fun kk a => ∃ p ∈ prs, kk = kSt p.st ∧ a = p.a) (fun x hx => by cases hx) fun x hx => by
      obtain ⟨y, hy, rfl⟩ := List.mem_map.mp hx
      exact ⟨y.1, hmem y hy, rfl, rfl⟩
    refine ⟨.ref s.heap.objs.size, _, I.laid (o := .ext fun h => RawH X.prog X.w h s.heap.objs.size (storedAllH [] ps)) (fun b u e => hk b u (by simp) e) (Nat.le_refl _) ⟨⟨ob, es, ep, g1, g2, g3, g4, g6⟩, ⟨ob, g1⟩, fun h1 h2 ⟨o', es', ep', k1, kr⟩ hh => ⟨o', es', ep', hh _ k1, kr⟩⟩, rfl,
      q s.heap.objs.size _ (storedAllH [] ps) (I.hok.fresh (Nat.le_refl _)) (fun h hh => hh) hkeys fun p hp' => ?_⟩
    rw [pairsH_storedAllH, valueAt_merged]
    have hp2 : p ∈ ts.map (·.1) := by rw [e1]; exact hp'
    obtain ⟨y, hy, rfl⟩ := List.mem_map.mp hp2
    cases ev : valueAt (pairsH ps).reverse (kSt y.1.st) with
    | none =>
      exfalso
      unfold valueAt at ev
      rw [Option.map_eq_none_iff, List.find?_eq_none] at ev
      have hin : (kSt y.1.st, Value.int y.1.j y.2) ∈ (pairsH ps).reverse := by
        rw [List.mem_reverse]
        exact List.mem_map.mpr ⟨(kSt y.1.st, y.1.a, Value.int y.1.j y.2), List.mem_map.mpr ⟨y, hy, rfl⟩, rfl⟩
      exact absurd (decide_eq_true rfl) (ev _ hin)
    | some v =>
      unfold valueAt at ev
      obtain ⟨kv, f1, f2⟩ := Option.map_eq_some_iff.mp ev
      have f3 := List.mem_of_find?_eq_some f1
      have f4 := List.find?_some f1
      rw [List.mem_reverse] at f3
      obtain ⟨x, hx, rfl⟩ := List.mem_map.mp f3
      obtain ⟨y', hy', rfl⟩ := List.mem_map.mp hx
      exact ⟨y'.1, hmem y' hy', y'.2, of_decide_eq_true f4, by rw [← f2]⟩
theorem pairs_back {K : PySem.W.Frag} {H : Hp} : ∀ {prs : List (List (List Int) × Int)} {xs : List V}, DrL K H xs (prs.map fun p => Dt.tup [dSt p.1, .int p.2]) →
    ∃ l : List Pr, xs = l.map (fun p => V.ref p.T) ∧ l.map (fun p => (p.st, p.j)) = prs ∧ ∀ p ∈ l, SqT K H p.T [.ref p.a, .int p.j] ∧ Dr K H (.ref p.a) (dSt p.st)
  | [], _, .nil => ⟨[], rfl, rfl, fun p hp => by cases hp⟩
  | p0 :: prs, _, .cons r t => by
    obtain ⟨l, h1, h2, h3⟩ := pairs_back t
    cases r with
    | @tup T ys _ hT rT =>
      cases rT with
      | cons r1 r2 =>
        cases r2 with
        | cons r2 r3 =>
          cases r3
          cases r2
          cases r1 with
          | @tup a zs _ ha ra =>
            refine ⟨⟨T, a, p0.1, p0.2⟩ :: l, by rw [h1]; rfl, by rw [← h2]; rfl, fun p hp => ?_⟩
            rcases List.mem_cons.mp hp with rfl | hp
            · exact ⟨hT, .tup ha ra⟩
            · exact h3 p hp
theorem kSt_inj {a b : List (List Int)} (h : kSt a = kSt b) : a = b := by
  have h1 := NestedKey.tup.inj h
  refine (List.map_inj_right (fun x y e => ?_)).mp h1
  have h2 := NestedKey.tup.inj e
  exact (List.map_inj_right (fun x y e => NestedKey.num.inj e)).mp h2
section
variable {X : Cx} {O : List (Addr × Ow)} {ρ : List Sl} {a b e : Expr} {pos p pos' pos2 : Pos} {k : Nat} {σ : L2.St} {H : Hp} {B : Bs} {T : List (V × Dt)} {D : Ends}
/-- what such a dict knows -/
structure Knows (prs : List (List (List Int) × Int)) (m : List (List Int) → Option Int) : Prop where
  is : ∀ st j, m st = some j → (st, j) ∈ prs
  all : ∀ p ∈ prs, ∃ j, m p.1 = some j
theorem w_nd (n : Nat) {x : Str} {prs : List (List (List Int) × Int)} (hr : Room k X.A) (hmd : X.mg "dict" = none) (he : XD X e O ρ (.lst (prs.map fun p => .tup [dSt p.1, .int p.2]))) (S : Sat X.K B O ρ T σ H)
    (q : ∀ q m σ' H', Knows prs m → Sat X.K B ((q, .nd X.prog X.w q m) :: O) (ρ.set n (.o q)) T σ' H' → D.nx σ' H') (hN : X.N.Nodup) (hi : X.N[n]? = some x := by rfl) (hgd : Gl X "dict" := by rfl)
    (hse : starEach [e] X.env = (false, eval e X.env) :: starEach [] X.env := by rfl) (hpl : (backTo pos2 (starEach [] X.env)).any (·.1) = false := by rfl)
    (hx' : Loc X.env.scope x := by first | exact Or.inl rfl | exact Or.inr rfl) (hs : swapsWith (.Call (.Name "dict" p) [e] [] pos2) (some (.Name x pos')) pos.line X.env = pure false := by rfl) (hf : X.fn x = true ∨ X.env.scope.names.lookup x = some .local := by first | exact .inl rfl | exact .inr rfl) :
    W1 X (.Assign [.Name x pos'] (.Call (.Name "dict" p) [e] [] pos2) pos) D σ H :=
  .of (ps_set hN hi hx' (pe_callTy (cr_nd hr) hgd hmd (by decide +kernel) (pa_cons pe_s pa_nil hse) (by decide) (by decide) hse hpl) hs hf) (he B [] T σ H _ S.lim S fun d v H1 p1 S1 => by
    subst p1
    obtain ⟨HI, S1⟩ := S1
    cases S1.tmp _ List.mem_cons_self with
    | lst e1 r1 =>
      obtain ⟨l, rfl, h2, h3⟩ := pairs_back r1
      refine ⟨_, l, rfl, .inl (.inl (S1.ex1 _ _ e1)), fun p hp => ⟨sqT_le (Same.le S1.ex1) (h3 p hp).1, (h3 p hp).2.mono S1.ex1⟩, fun q0 φ xs hq hφ hk hv => ?_⟩
      classical
      let m : List (List Int) → Option Int := fun st => if h : ∃ j, (st, j) ∈ prs ∧ ∃ t, valueAt (pairsH xs) (kSt st) = some (.int j t) then some h.choose else none
      have hm : ∀ st j, m st = some j → (st, j) ∈ prs ∧ ∃ t, valueAt (pairsH xs) (kSt st) = some (.int j t) := fun st j hj => by
        by_cases h : ∃ j, (st, j) ∈ prs ∧ ∃ t, valueAt (pairsH xs) (kSt st) = some (.int j t)
        · have e2 : m st = some h.choose := dif_pos h
          rw [e2] at hj
          cases hj
          exact h.choose_spec
        · have e2 : m st = none := dif_neg h
          rw [e2] at hj
          cases hj
      refine q q0 m _ _ ⟨fun st j hj => (hm st j hj).1, fun p hp => ?_⟩ ⟨HI, ((S1.pop fun x hx => List.mem_cons_of_mem _ hx).ownNew (w := .nd X.prog X.w q0 m) hq ⟨φ, xs, rfl, hφ, fun x hx => ?_, fun st j hj => (hm st j hj).2⟩).put rfl⟩
      · rw [← h2] at hp
        obtain ⟨y, hy, rfl⟩ := List.mem_map.mp hp
        obtain ⟨y', hy', t, f1, f2⟩ := hv y hy
        have e3 := kSt_inj f1
        have h : ∃ j, (y.st, j) ∈ prs ∧ ∃ t, valueAt (pairsH xs) (kSt y.st) = some (.int j t) := ⟨y'.j, by rw [← h2, ← e3]; exact List.mem_map.mpr ⟨y', hy', rfl⟩, t, f2⟩
        exact ⟨h.choose, dif_pos h⟩
      · obtain ⟨y, hy, f1, f2⟩ := hk x hx
        exact ⟨y.st, f1, by rw [f2]; exact (h3 y hy).2⟩)
/-- numbers[st] -/
def rIxN (P : Program) (w : World) (K : PySem.W.Frag) : R2 := fun x y H Q => ∃ (q b : Addr) (φ : Heap → Prop) (xs : List (NestedKey × Addr × Value)) (st : List (List Int)) (j : Int) (t : Tok), x = .ref q ∧ y = .ref b ∧ H q = some (.ext φ) ∧ (∀ h, φ h → RawH P w h q xs) ∧ (∀ x ∈ xs, ∃ st, x.1 = kSt st ∧ Dr K H (.ref x.2.1) (dSt st)) ∧
  Dr K H (.ref b) (dSt st) ∧ valueAt (pairsH xs) (kSt st) = some (.int j t) ∧ Q (.int j) H
theorem ix_nd {kk : Nat} (hr : Room kk X.A) : IxR X (rIxN X.prog X.w X.K) := by
  intro value slice pins s σ H x y v u Q I rx ry h hs
  obtain ⟨q, b, φ, xs, st, j, t, rfl, rfl, hq, hφ, hx, hb, hv, k⟩ := h
  cases rx
  cases ry
  obtain ⟨h1, _, _⟩ := I.hok q _ hq
  obtain ⟨o, es, ep, g1, g2, g3, g4, g5⟩ := hφ _ h1
  have hm : s.heap.DictKeyed (nestedKind X.prog X.w) q (pairsH xs) := ⟨xs, ⟨o, es, ep, g1, g2, g3, g4, fun x hx' => by
    obtain ⟨st', e1, e2⟩ := hx x hx'
    rw [e1]
    exact nest_st I e2, g5⟩, rfl⟩
  refine PyProof.Rows.tail_any hm.typeIs PySem.slot_dict_getitem.lookup (getItem_keyed (show (nestedKind X.prog X.w).room X.A.in1 from ?_) (nest_st I hb) hm hv ⟨.int j, H, I.tok _, ⟨t, rfl⟩, k⟩) hs
  show X.A.units + 1 + 8 < cLine
  have := hr.units
  omega
theorem xd_nd (n : Nat) {x : Str} {q : Addr} {m : List (List Int) → Option Int} {st : List (List Int)} {j : Int} {npos : Pos} (hr : Room k X.A) (hb : XD X b O ρ (dSt st)) (hj : m st = some j) (hρ : ρ[n]? = some (.o q) := by rfl) (hO : (q, Ow.nd X.prog X.w q m) ∈ O := by first | exact List.mem_cons_self | exact List.mem_cons_of_mem _ List.mem_cons_self | assumption)
    (hN : X.N[n]? = some x := by rfl) (hv : Vis X.env.scope x := by first | exact Or.inl rfl | exact Or.inr (Or.inl rfl) | exact Or.inr (Or.inr rfl)) (hd : (x == ("__debug__" : Str)) = false := by decide) (hcd : (x == ("__classdict__" : Str)) = false := by decide) (hs : PlainIx b := by intro _ _; rfl) :
    XD X (.Subscript (.Name x npos) b pos) O ρ (.int j) :=
  xe_of (pe_ix (ix_nd hr) (pe_var hN hv hd hcd) pe_s hs) fun B F T σ H Q hl S k => by
    have hσ := slot_own S hρ
    refine ⟨.ref q, hσ, hb B F T σ H _ hl S fun d v H1 p1 S1 => ?_⟩
    subst p1
    have S2 := S1
    obtain ⟨HI, S1⟩ := S1
    obtain ⟨_, _, o, g1, φ, xs, rfl, g2, g3, g4⟩ := S1.own _ (List.mem_append_right _ hO)
    obtain ⟨t, g5⟩ := g4 st j hj
    have r0 := S1.tmp _ List.mem_cons_self
    have r1 := r0.mono S1.ex1
    cases r0 with
    | tup e1 r =>
      exact ⟨q, _, φ, xs, st, j, t, rfl, rfl, g1, g2, fun x hx => (g3 x hx).imp fun st' ab => ⟨ab.1, ab.2.mono S1.ex1⟩, r1, g5, k _ _ H1 rfl ⟨HI, (S1.pop fun x hx => List.mem_cons_of_mem _ hx).push (.int j)⟩⟩
end
/-! comprehensions over a list that is known in part -/
section
variable {X : Cx} {O : List (Addr × Ow)} {ρ : List Sl} {tg : Expr}
theorem ev_lcR {α : Type} [Inhabited α] {scope : Scope} (own : List (Str × Nat)) {iter elt : Expr} {ifs : List Expr} {is : List Nat} (enc : α → Dt) (f : α → Bool) (g : α → Dt) (PL : List α → Prop) {ρt : α → List Sl}
    (hi : XI X tg iter O ρ 0 (fun ds => ∃ L : List α, ds = L.map enc ∧ PL L)) (his : ∀ i ∈ is, i ∈ own.map (·.2)) (hz : ∀ L, PL L → L.length ≤ 10000)
    (hg : ∀ L, PL L → ∀ x ∈ L, ∀ s H0 C cl fp, XG (Blk X s H0 scope C cl fp) tg (wipeS ρ (own.map (·.2))) (enc x) (ρt x) is)
    (ht : ∀ L, PL L → ∀ x ∈ L, ∀ s H0 C cl fp, XTs (Blk X s H0 scope C cl fp) ifs O (ρt x) 0 (fun b => b = f x))
    (he : ∀ L, PL L → ∀ x ∈ L, f x = true → ∀ s H0 C cl fp, XD (Blk X s H0 scope C cl fp) elt O (ρt x) (g x)) :
    EvP (lcE X scope own tg iter ifs elt) X.K O ρ 0 (fun d => ∃ L : List α, PL L ∧ d = .lst ((L.filter f).map g)) := by
  classical
  let lf : List Dt → List α := fun ds => if h : ∃ L : List α, ds = L.map enc ∧ PL L then h.choose else []
  have hlf : ∀ ds, (∃ L : List α, ds = L.map enc ∧ PL L) → ds = (lf ds).map enc ∧ PL (lf ds) := fun ds h => by
    have e : lf ds = h.choose := dif_pos h
    rw [e]
    exact h.choose_spec
  have get : ∀ ds (i : Nat) d, (∃ L : List α, ds = L.map enc ∧ PL L) → ds[i]? = some d → PL (lf ds) ∧ (lf ds)[i]? = some ((lf ds).getD i default) ∧ (lf ds).getD i default ∈ lf ds ∧ d = enc ((lf ds).getD i default) := fun ds i d h hd => by
    obtain ⟨h1, h2⟩ := hlf ds h
    rw [h1, List.getElem?_map] at hd
    cases e : (lf ds)[i]? with
    | none => rw [e] at hd; cases hd
    | some x =>
      rw [e] at hd
      have e2 : (lf ds).getD i default = x := by rw [List.getD_eq_getElem?_getD, e]; rfl
      rw [e2]
      exact ⟨h2, rfl, List.mem_of_getElem? e, (Option.some.inj hd).symm⟩
  refine ev_lcX own (ρt := fun ds i => ρt ((lf ds).getD i default)) (c1 := 0) (c2 := 0) hi his (fun ds i acc => acc = (((lf ds).take i).filter f).map g) (fun ds h => ?_) (Nat.le_refl _) (fun ds h => by omega) (fun ds i b => b = f ((lf ds).getD i default)) (fun ds i d => d = g ((lf ds).getD i default)) (fun ds i d h hd s H0 C cl fp => ?_) (fun ds i d h hd s H0 C cl fp => ?_) (fun ds i d h hd hb s H0 C cl fp => ?_) (fun ds h => rfl) (fun ds i d acc x h hd hG hb hx => ?_) (fun ds i d acc h hd hG hb => ?_) (fun ds acc h hG => ?_)
  · obtain ⟨h1, h2⟩ := hlf ds h
    rw [h1, List.length_map]
    exact hz _ h2
  · obtain ⟨a1, a2, a3, a4⟩ := get ds i d h hd
    rw [a4]
    exact hg _ a1 _ a3 s H0 C cl fp
  · obtain ⟨a1, a2, a3, a4⟩ := get ds i d h hd
    exact ht _ a1 _ a3 s H0 C cl fp
  · obtain ⟨a1, a2, a3, a4⟩ := get ds i d h hd
    exact he _ a1 _ a3 hb.symm s H0 C cl fp
  · obtain ⟨a1, a2, a3, a4⟩ := get ds i d h hd
    rw [List.take_succ, a2, List.filter_append, List.map_append, hG, hx]
    show _ = _ ++ (List.filter f [(lf ds).getD i default]).map g
    rw [List.filter_cons, if_pos hb.symm]
    rfl
  · obtain ⟨a1, a2, a3, a4⟩ := get ds i d h hd
    rw [List.take_succ, a2, List.filter_append, List.map_append, hG]
    show _ = _ ++ (List.filter f [(lf ds).getD i default]).map g
    rw [List.filter_cons, if_neg (by rw [← hb]; exact Bool.false_ne_true)]
    exact (List.append_nil _).symm
  · obtain ⟨h1, h2⟩ := hlf ds h
    refine ⟨lf ds, h2, ?_⟩
    have hl : ds.length = (lf ds).length := by
      have := congrArg List.length h1
      rw [List.length_map] at this
      exact this
    rw [hG, List.take_of_length_le (by omega)]
end
end Lg


set_option Elab.async false
set_option linter.all false
set_option maxRecDepth 100000
set_option maxHeartbeats 4000000
set_option autoImplicit false
/-! Lg14: for over a dict that is data. -/
namespace Lg
open PySem PySem.Spec L2
/-- u is the dict kvs, locked or not -/
def DkO (kvs : List (Key × V)) (u : HO) : Prop := u = .dK kvs ∨ ∃ o, u = .frz o (.dK kvs)
def lkB (B : Bs) (a : Addr) (u : HO) : Bs := ⟨upd B.H0 a u, upd B.HI a u, B.f, B.n⟩
theorem le_upd {H : Hp} {a : Addr} {kvs : List (Key × V)} {u1 u2 : HO} (h : H a = some u1) (d1 : DkO kvs u1) (d2 : DkO kvs u2) : Le H (upd H a u2) := by
  have ne : ∀ b o, H b = some o → ¬ DkO kvs o → b ≠ a := fun b o e q z => by
    rw [z, h] at e
    cases e
    exact q d1
  have rd : Rd (upd H a u2) a (.dK kvs) := by
    rcases d2 with d2 | ⟨o, d2⟩
    · exact .inl (by rw [upd_same, d2])
    · exact .inr ⟨o, by rw [upd_same, d2]⟩
  refine ⟨fun b xs e => ?_, fun b xs e => ?_, fun b xs e => ?_, fun b C dx fs e => ?_⟩
  · rw [upd_ne (ne b _ e fun z => by rcases z with z | ⟨_, z⟩ <;> cases z)]
    exact e
  · rcases e with e | ⟨o, e⟩
    · exact .inl (by rw [upd_ne (ne b _ e fun z => by rcases z with z | ⟨_, z⟩ <;> cases z)]; exact e)
    · exact .inr ⟨o, by rw [upd_ne (ne b _ e fun z => by rcases z with z | ⟨_, z⟩ <;> cases z)]; exact e⟩
  · by_cases hb : b = a
    · subst hb
      have e2 : xs = kvs := by
        rcases e with e | ⟨o, e⟩ <;> rw [h] at e <;> cases e <;> rcases d1 with d1 | ⟨_, d1⟩ <;> cases d1 <;> rfl
      rw [e2]
      exact rd
    · rcases e with e | ⟨o, e⟩
      · exact .inl (by rw [upd_ne hb]; exact e)
      · exact .inr ⟨o, by rw [upd_ne hb]; exact e⟩
  · rw [upd_ne (ne b _ e fun z => by rcases z with z | ⟨_, z⟩ <;> cases z)]
    exact e
section
variable {K : PySem.W.Frag} {B : Bs} {O : List (Addr × Ow)} {ρ : List Sl} {T : List (V × Dt)} {σ : L2.St} {H HI : Hp} {a : Addr} {kvs : List (Key × V)} {u1 u2 : HO}
theorem OwR.le {H' : Hp} {w : Ow} {o : HO} (e : Le H H') (h : OwR K H w o) : OwR K H' w o := by
  cases w with
  | lst ds =>
    obtain ⟨xs, r, q⟩ := h
    exact ⟨xs, r, q.le e⟩
  | dk ds =>
    obtain ⟨xs, r, q⟩ := h
    exact ⟨xs, r, q.le e⟩
  | nd P w q m =>
    obtain ⟨φ, xs, r, h1, h2, h3⟩ := h
    exact ⟨φ, xs, r, h1, fun x hx => (h2 x hx).imp fun st ab => ⟨ab.1, ab.2.le e⟩, h3⟩
theorem SlOk.le {H' : Hp} {bf : Option Addr} {s : Sl} {v : Option V} (e : Le H H') (h : SlOk K H bf s v) : SlOk K H' bf s v := by
  cases s with
  | u => trivial
  | d x =>
    obtain ⟨u, r, q⟩ := h
    exact ⟨u, r, q.le e⟩
  | o p => exact h
  | fd => exact h
theorem feed_le {f : Addr} (h : HI a = some u1) (d1 : DkO kvs u1) {n : Nat} {o : HO} (q : FeedL K HI n o) : FeedL K (upd HI a u2) n o := by
  obtain ⟨c, ns, spot, left, g1, g2, g3⟩ := q
  refine ⟨c, ns, spot, left, g1, ?_, g3⟩
  rcases g2 with (g2 | ⟨ob, g2⟩) | g2
  · have hc : c ≠ a := fun z => by rw [z, h] at g2; cases g2; rcases d1 with d1 | ⟨_, d1⟩ <;> cases d1
    exact .inl (.inl (by rw [upd_ne hc]; exact g2))
  · have hc : c ≠ a := fun z => by rw [z, h] at g2; cases g2; rcases d1 with d1 | ⟨_, d1⟩ <;> cases d1
    exact .inl (.inr ⟨ob, by rw [upd_ne hc]; exact g2⟩)
  · exact .inr g2
theorem SatI.lock (S : SatI K B O ρ T σ H HI) (h : HI a = some u1) (d1 : DkO kvs u1) (d2 : DkO kvs u2) : SatI K (lkB B a u2) O ρ T σ (upd H a u2) (upd HI a u2) := by
  have le := le_upd h d1 d2
  refine ⟨fun b u e hf => ?_, fun b u e => ?_, fun b u e => ?_, fun b e0 e1 => ?_, fun e he => ?_, S.nd, fun f hf => ?_, S.len, fun i s hs => ?_, fun x hx => (S.tmp x hx).le le, S.lim⟩
  · have e' : upd B.H0 a u2 b = some u := e
    by_cases hb : b = a
    · subst hb
      rw [upd_same] at e' ⊢
      exact e'
    · rw [upd_ne hb] at e' ⊢
      exact S.keep b u e' hf
  · have e' : upd B.HI a u2 b = some u := e
    by_cases hb : b = a
    · subst hb
      rw [upd_same] at e' ⊢
      exact e'
    · rw [upd_ne hb] at e' ⊢
      exact S.ex0 b u e'
  · by_cases hb : b = a
    · subst hb
      rw [upd_same] at e ⊢
      exact e
    · rw [upd_ne hb] at e ⊢
      exact S.ex1 b u e
  · have e0' : upd B.H0 a u2 b ≠ none := e0
    have e1' : upd B.HI a u2 b = none := e1
    by_cases hb : b = a
    · subst hb
      rw [upd_same] at e1'
      cases e1'
    · rw [upd_ne hb] at e0' e1' ⊢
      exact S.clo b e0' e1'
  · obtain ⟨h1, h2, o, h3, h4⟩ := S.own e he
    have hne : e.1 ≠ a := fun z => by rw [z, h] at h2; cases h2
    exact ⟨by show upd B.H0 a u2 e.1 = none; rw [upd_ne hne]; exact h1, by rw [upd_ne hne]; exact h2, o, by rw [upd_ne hne]; exact h3, h4.le le⟩
  · obtain ⟨h1, h2, o, h3, h4⟩ := S.feed f hf
    have hne : f ≠ a := fun z => by rw [z, h] at h2; cases h2
    exact ⟨by show upd B.H0 a u2 f ≠ none; rw [upd_ne hne]; exact h1, by rw [upd_ne hne]; exact h2, o, by rw [upd_ne hne]; exact h3, feed_le (f := f) h d1 h4⟩
  · obtain ⟨v, h1, h2⟩ := S.slots i s hs
    exact ⟨v, h1, h2.le le⟩
/-- what of the base at a goes with the lock's end -/
structure Base (B : Bs) (a : Addr) (u : HO) : Prop where
  a0 : ∀ o, B.H0 a = some o → o = u
  aI : ∀ o, B.HI a = some o → o = u
  cl : B.H0 a ≠ none → B.HI a ≠ none
theorem SatI.base (S : SatI K B O ρ T σ H HI) (h : HI a = some u1) : Base B a u1 := by
  refine ⟨fun o e => ?_, fun o e => ?_, fun h1 h2 => ?_⟩
  · have hf : B.f ≠ some a := fun z => by
      have := (S.feed a z).2.1
      rw [h] at this
      cases this
    have h1 := S.keep a o e hf
    rw [S.ex1 a _ h] at h1
    exact (Option.some.inj h1).symm
  · have h1 := S.ex0 a o e
    rw [h] at h1
    exact (Option.some.inj h1).symm
  · rw [S.clo a h1 h2] at h
    cases h
theorem SatI.unlock (S : SatI K (lkB B a u2) O ρ T σ H HI) (bs : Base B a u1) (d2 : DkO kvs u2) (d1 : DkO kvs u1) : SatI K B O ρ T σ (upd H a u1) (upd HI a u1) := by
  have h : HI a = some u2 := S.ex0 a u2 upd_same
  have le := le_upd h d2 d1
  refine ⟨fun b u e hf => ?_, fun b u e => ?_, fun b u e => ?_, fun b e0 e1 => ?_, fun e he => ?_, S.nd, fun f hf => ?_, S.len, fun i s hs => ?_, fun x hx => (S.tmp x hx).le le, S.lim⟩
  · by_cases hb : b = a
    · subst hb
      rw [upd_same, bs.a0 u e]
    · rw [upd_ne hb]
      exact S.keep b u (by show upd B.H0 a u2 b = some u; rw [upd_ne hb]; exact e) hf
  · by_cases hb : b = a
    · subst hb
      rw [upd_same, bs.aI u e]
    · rw [upd_ne hb]
      exact S.ex0 b u (by show upd B.HI a u2 b = some u; rw [upd_ne hb]; exact e)
  · by_cases hb : b = a
    · subst hb
      rw [upd_same] at e ⊢
      exact e
    · rw [upd_ne hb] at e ⊢
      exact S.ex1 b u e
  · by_cases hb : b = a
    · subst hb
      exact absurd e1 (bs.cl e0)
    · rw [upd_ne hb]
      exact S.clo b (by show upd B.H0 a u2 b ≠ none; rw [upd_ne hb]; exact e0) (by show upd B.HI a u2 b = none; rw [upd_ne hb]; exact e1)
  · obtain ⟨h1, h2, o, h3, h4⟩ := S.own e he
    have hne : e.1 ≠ a := fun z => by rw [z, h] at h2; cases h2
    have h1' : upd B.H0 a u2 e.1 = none := h1
    rw [upd_ne hne] at h1'
    exact ⟨h1', by rw [upd_ne hne]; exact h2, o, by rw [upd_ne hne]; exact h3, h4.le le⟩
  · obtain ⟨h1, h2, o, h3, h4⟩ := S.feed f hf
    have hne : f ≠ a := fun z => by rw [z, h] at h2; cases h2
    have h1' : upd B.H0 a u2 f ≠ none := h1
    rw [upd_ne hne] at h1'
    exact ⟨h1', by rw [upd_ne hne]; exact h2, o, by rw [upd_ne hne]; exact h3, feed_le (f := f) h d2 h4⟩
  · obtain ⟨v, h1, h2⟩ := S.slots i s hs
    exact ⟨v, h1, h2.le le⟩
theorem SatI.locked (S : SatI K (lkB B a u2) O ρ T σ H HI) : H a = some u2 := by
  exact S.ex1 a u2 (S.ex0 a u2 upd_same)
theorem drK_keys {H : Hp} : ∀ {xs : List (Key × V)} {ds : List (Key × Dt)}, DrK K H xs ds → xs.map (·.1) = ds.map (·.1)
  | _, _, .nil => rfl
  | _, _, .cons _ t => by rw [List.map_cons, List.map_cons, drK_keys t]
end
section
variable {X : Cx} {O : List (Addr × Ow)} {ρ : List Sl} {pos p pos' : Pos} {body : List Stmt} {D : Ends} {σ : L2.St} {H : Hp} {B : Bs} {T : List (V × Dt)}
/-- for x in y, y a dict that is data (keys ints); its body falls through -/
theorem w_forK (m n : Nat) {x y : Str} {npos : Pos} {kvs : List (Key × Dt)} (ks : List Int) (hks : kvs.map (·.1) = ks.map Sum.inl) (I : Nat → List (Addr × Ow) → List Sl → Prop) (hp : PassesOwn (model X.prog X.w) X.A X.env X.xe) (hc : X.calm = true) (hN : X.N.Nodup)
    (S : Sat X.K B O ρ T σ H) (h0 : I 0 O ρ)
    (hs : ∀ (D2 : Ends) (i : Nat) k B2 O' ρ' T' σ' H', ks[i]? = some k → I i O' ρ' → Sat X.K B2 O' (ρ'.set m (.d (.int k))) T' σ' H' → (∀ O2 ρ2 σ2 H2, I (i + 1) O2 ρ2 → Sat X.K B2 O2 ρ2 T' σ2 H2 → D2.nx σ2 H2) → WS X body D2 σ' H')
    (hd : ∀ O' ρ' σ' H', I ks.length O' ρ' → Sat X.K B O' ρ' T σ' H' → D.nx σ' H') (hρ : ρ[n]? = some (.d (.dk kvs)) := by rfl) (hN2 : X.N[n]? = some y := by rfl) (hv : Vis X.env.scope y := by first | exact Or.inl rfl | exact Or.inr (Or.inl rfl) | exact Or.inr (Or.inr rfl)) (hdb : (y == ("__debug__" : Str)) = false := by decide) (hcd : (y == ("__classdict__" : Str)) = false := by decide)
    (hm : X.N[m]? = some x := by rfl) (hx : Loc X.env.scope x := by first | exact Or.inl rfl | exact Or.inr rfl) (hf : X.fn x = true ∨ X.env.scope.names.lookup x = some .local := by first | exact .inl rfl | exact .inr rfl)
    (hfo : ∀ x, foldedSetIterable (.Name y npos) X.env x = pure x := by intro _; rfl) : W1 X (.For (.Name x pos') (.Name y npos) body [] pos) D σ H := by
  obtain ⟨HI, S⟩ := S
  obtain ⟨v, hσ, w, rfl, r⟩ : ∃ v, σ[n]? = some v ∧ ∃ u, v = some u ∧ Dr X.K HI u (.dk kvs) := S.slots n _ hρ
  cases r with
  | @dk a xs _ hrd rk =>
    have hkx := drK_keys rk
    have inner : ∀ (od : Obj) (u1 : HO) (D' : Ends), DkO xs u1 → Base B a u1 → SatI X.K (lkB B a (.frz od (.dK xs))) O ρ T σ (upd H a (.frz od (.dK xs))) (upd HI a (.frz od (.dK xs))) →
        (∀ O' ρ' σ' H', I ks.length O' ρ' → Sat X.K (lkB B a (.frz od (.dK xs))) O' ρ' T σ' H' → D'.nx σ' H') →
        tFor (iKeys (tVar n)) (sG X (.Name x pos')) (fun D σ H => WS X body D σ H) D' σ (upd H a (.frz od (.dK xs))) := by
      intro od u1 D' hu hb S1 hd'
      refine ⟨.ref a, hσ, a, od, rfl, .inl ⟨xs, upd_same, fun i j σ' H' => i + j = ks.length ∧ ∃ O' ρ', I i O' ρ' ∧ Sat X.K (lkB B a (.frz od (.dK xs))) O' ρ' T σ' H', ⟨ks.length, by omega, O, ρ, h0, _, S1⟩, ?_⟩⟩
      rintro i j σ' H' ⟨hij, O', ρ', hI, S2⟩
      have hlk : H' a = some (.frz od (.dK xs)) := by
        obtain ⟨_, S2⟩ := S2
        exact S2.locked
      have hxl : xs.length = ks.length := by
        have e := congrArg List.length (hkx.trans hks)
        rw [List.length_map, List.length_map] at e
        exact e
      by_cases hlt : i < ks.length
      · refine .inr ⟨⟨hlk, by omega⟩, fun σ2 H2 => ∃ O2 ρ2, I (i + 1) O2 ρ2 ∧ Sat X.K (lkB B a (.frz od (.dK xs))) O2 ρ2 T σ2 H2, fun σ2 H2 hn => ?_, fun z H2 hy => ?_⟩
        · obtain ⟨O2, ρ2, q1, q2⟩ := hn
          exact ⟨j - 1, by omega, by omega, O2, ρ2, q1, q2⟩
        · obtain ⟨rfl, k, v, hkv, rfl⟩ := hy
          have hkk : ks[i]? = some ks[i] := List.getElem?_eq_getElem hlt
          have e1 : k = Sum.inl ks[i] := by
            have e2 : (xs.map (·.1))[i]? = (ks.map Sum.inl)[i]? := by rw [hkx, hks]
            rw [List.getElem?_map, List.getElem?_map, hkv, hkk] at e2
            exact Option.some.inj e2
          subst e1
          obtain ⟨HI2, S2⟩ := S2
          have S3 : Sat X.K (lkB B a (.frz od (.dK xs))) O' ρ' ((.int ks[i], .int ks[i]) :: T) σ' H2 := ⟨HI2, S2.push (.int _)⟩
          exact xg_name m hN hm hx hf _ _ _ _ _ _ _ S3 fun σ3 H3 S4 _ _ => hs _ i _ _ O' ρ' T σ3 H3 hkk hI S4 fun O2 ρ2 σ4 H4 q1 q2 => ⟨O2, ρ2, q1, q2⟩
      · have hn : i = ks.length := by omega
        subst hn
        exact .inl ⟨⟨hlk, by omega⟩, hd' O' ρ' σ' H' hI S2⟩
    have hps : PS X (.For (.Name x pos') (.Name y npos) body [] pos) (tFor (iKeys (tVar n)) (sG X (.Name x pos')) (fun D σ H => WS X body D σ H)) := ps_for hp hc (pi_keys (pe_var hN2 hv hdb hcd)) pg_s pss_s hfo
    rcases hrd with hrd | ⟨od, hrd⟩
    · refine .of (ps_lock hps) ⟨a, .dK xs, S.ex1 _ _ hrd, trivial, fun od => ?_⟩
      refine inner od (.dK xs) _ (.inl rfl) (S.base hrd) (S.lock hrd (kvs := xs) (.inl rfl) (.inr ⟨od, rfl⟩)) fun O' ρ' σ' H' hI S2 => ?_
      obtain ⟨HI2, S2⟩ := S2
      exact ⟨S2.locked, hd O' ρ' σ' _ hI ⟨_, S2.unlock (S.base hrd) (kvs := xs) (.inr ⟨od, rfl⟩) (.inl rfl)⟩⟩
    · have e1 : upd H a (.frz od (.dK xs)) = H := by
        funext b
        by_cases hb : b = a
        · subst hb
          rw [upd_same, S.ex1 _ _ hrd]
        · rw [upd_ne hb]
      have q := inner od (.frz od (.dK xs)) D (.inr ⟨od, rfl⟩) (S.base hrd) (S.lock hrd (kvs := xs) (.inr ⟨od, rfl⟩) (.inr ⟨od, rfl⟩)) fun O' ρ' σ' H' hI S2 => by
        obtain ⟨HI2, S2⟩ := S2
        have e2 : upd H' a (.frz od (.dK xs)) = H' := by
          funext b
          by_cases hb : b = a
          · subst hb
            rw [upd_same, S2.locked]
          · rw [upd_ne hb]
        have S3 := S2.unlock (S.base hrd) (kvs := xs) (.inr ⟨od, rfl⟩) (.inr ⟨od, rfl⟩)
        rw [e2] at S3
        exact hd O' ρ' σ' H' hI ⟨_, S3⟩
      rw [e1] at q
      exact .of hps q
end
end Lg


set_option Elab.async false
set_option linter.all false
set_option maxRecDepth 100000
set_option maxHeartbeats 4000000
set_option autoImplicit false
/-! Mo1: what the program reckons, in plain Lean, and how it is written as data. -/
namespace Mo
open PySem Lg

mutual
inductive Tm where
  | num (k : Int) | own (b : Nat) | eye (e b : Nat) | me | plus (x y : Tm) | less (x y : Tm) | rest (x : Tm) (k : Int)
  | least (x : Tm) | most (x : Tm) | many (c : Cl) | ite (c : Cl) (x y : Tm) | its (b : Nat) | it
inductive Cl where
  | yes | like (x y : Tm) | blw (x y : Tm) | neg (c : Cl) | and (c d : Cl) | or (c d : Cl)
end
abbrev Stand := List (List Int)
structure Sgt where
  eyes : List (List Nat)
  st : Stand
  hand : Nat
  other : Option Nat
def boxAt (st : Stand) (h b : Nat) : Int := (st.getD h []).getD b 0
def seen (g : Sgt) : List Nat := g.eyes.getD g.hand []
mutual
def val : Tm → Sgt → Int
  | .num k, _ => k
  | .own b, g => boxAt g.st g.hand b
  | .eye e b, g => if (seen g).length ≤ e then 0 else boxAt g.st ((seen g).getD e 0) b
  | .me, g => g.hand
  | .plus x y, g => val x g + val y g
  | .less x y, g => max 0 (val x g - val y g)
  | .rest x k, g => val x g % k
  | .least x, g => minD ((seen g).map fun o => val x { g with other := some o })
  | .most x, g => maxD ((seen g).map fun o => val x { g with other := some o })
  | .many c, g => (((seen g).filter fun o => hol c { g with other := some o }).length : Nat)
  | .ite c x y, g => if hol c g then val x g else val y g
  | .its b, g => boxAt g.st (g.other.getD 0) b
  | .it, g => (g.other.getD 0 : Nat)
def hol : Cl → Sgt → Bool
  | .yes, _ => true
  | .like x y, g => decide (val x g = val y g)
  | .blw x y, g => decide (val x g < val y g)
  | .neg c, g => !hol c g
  | .and c d, g => hol c g && hol d g
  | .or c d, g => hol c g || hol d g
end
mutual
/-- n hands, k boxes; inner: within a look at others -/
def wfT (n k : Nat) : Bool → Tm → Prop
  | _, .num _ => True
  | _, .own b => b < k
  | _, .eye _ b => b < k
  | _, .me => True
  | i, .plus x y => wfT n k i x ∧ wfT n k i y
  | i, .less x y => wfT n k i x ∧ wfT n k i y
  | i, .rest x m => wfT n k i x ∧ 0 < m
  | _, .least x => wfT n k true x
  | _, .most x => wfT n k true x
  | _, .many c => wfC n k true c
  | i, .ite c x y => wfC n k i c ∧ wfT n k i x ∧ wfT n k i y
  | i, .its b => i = true ∧ b < k
  | i, .it => i = true
def wfC (n k : Nat) : Bool → Cl → Prop
  | _, .yes => True
  | i, .like x y => wfT n k i x ∧ wfT n k i y
  | i, .blw x y => wfT n k i x ∧ wfT n k i y
  | i, .neg c => wfC n k i c
  | i, .and c d => wfC n k i c ∧ wfC n k i d
  | i, .or c d => wfC n k i c ∧ wfC n k i d
end
mutual
def dpT : Tm → Nat
  | .num _ => 0 | .own _ => 0 | .eye _ _ => 0 | .me => 0
  | .plus x y => max (dpT x) (dpT y) + 1
  | .less x y => max (dpT x) (dpT y) + 1
  | .rest x _ => dpT x + 1
  | .least x => dpT x + 1
  | .most x => dpT x + 1
  | .many c => dpC c + 1
  | .ite c x y => max (dpC c) (max (dpT x) (dpT y)) + 1
  | .its _ => 0 | .it => 0
def dpC : Cl → Nat
  | .yes => 0
  | .like x y => max (dpT x) (dpT y) + 1
  | .blw x y => max (dpT x) (dpT y) + 1
  | .neg c => dpC c + 1
  | .and c d => max (dpC c) (dpC d) + 1
  | .or c d => max (dpC c) (dpC d) + 1
end
mutual
def enT : Tm → Dt
  | .num k => .tup [.str "num", .int k]
  | .own b => .tup [.str "own", nD b]
  | .eye e b => .tup [.str "eye", nD e, nD b]
  | .me => .tup [.str "me"]
  | .plus x y => .tup [.str "plus", enT x, enT y]
  | .less x y => .tup [.str "less", enT x, enT y]
  | .rest x k => .tup [.str "rest", enT x, .int k]
  | .least x => .tup [.str "least", enT x]
  | .most x => .tup [.str "most", enT x]
  | .many c => .tup [.str "many", enC c]
  | .ite c x y => .tup [.str "if", enC c, enT x, enT y]
  | .its b => .tup [.str "its", nD b]
  | .it => .tup [.str "it"]
def enC : Cl → Dt
  | .yes => .tup [.str "yes"]
  | .like x y => .tup [.str "like", enT x, enT y]
  | .blw x y => .tup [.str "below", enT x, enT y]
  | .neg c => .tup [.str "not", enC c]
  | .and c d => .tup [.str "and", enC c, enC d]
  | .or c d => .tup [.str "or", enC c, enC d]
end
/-! systems, stands -/
abbrev Rule := Cl × List (Nat × Tm)
structure Sys where
  eyes : List (List Nat)
  sizes : List Nat
  kinds : List Nat
  rules : List (List Rule)
def Sys.n (S : Sys) : Nat := S.eyes.length
def Sys.k (S : Sys) : Nat := S.sizes.length
def enNs (ns : List Nat) : Dt := .tup (ns.map nD)
def enEyes (eyes : List (List Nat)) : Dt := .tup (eyes.map enNs)
def enLay (l : Nat × Tm) : Dt := .tup [nD l.1, enT l.2]
def enRule (r : Rule) : Dt := .tup [enC r.1, .tup (r.2.map enLay)]
def enRules (rs : List Rule) : Dt := .tup (rs.map enRule)
def enS (S : Sys) : Dt := .tup [enEyes S.eyes, enNs S.sizes, enNs S.kinds, .tup (S.rules.map enRules)]
def enBx (b : List Int) : Dt := .tup (b.map Dt.int)
def enSt (st : Stand) : Dt := .tup (st.map enBx)
def many (S : Sys) : Nat := (List.replicate S.n S.sizes).flatten.foldl (· * ·) 1
/-- the deepest that a term of a system is -/
def DEP : Nat := 8
structure WfS (S : Sys) : Prop where
  n1 : 1 ≤ S.n
  n2 : S.n ≤ 4
  k1 : 1 ≤ S.k
  k2 : S.k ≤ 3
  sees : ∀ s ∈ S.eyes, ∀ o ∈ s, o < S.n
  few : ∀ s ∈ S.eyes, s.length ≤ 6
  sz : ∀ s ∈ S.sizes, 1 ≤ s ∧ s ≤ 12
  kinds : S.kinds.length = S.n
  kind : ∀ d ∈ S.kinds, d < S.rules.length
  rules : ∀ rs ∈ S.rules, rs.length ≤ 8 ∧ ∀ r ∈ rs, wfC S.n S.k false r.1 ∧ dpC r.1 ≤ DEP ∧ ∀ l ∈ r.2, l.1 < S.k ∧ wfT S.n S.k false l.2 ∧ dpT l.2 ≤ DEP
  lays : ∀ rs ∈ S.rules, ∀ r ∈ rs, r.2.length ≤ 8
  small : many S ≤ 100
structure WfSt (S : Sys) (st : Stand) : Prop where
  len : st.length = S.n
  box : ∀ b ∈ st, b.length = S.k
  num : ∀ (h i : Nat) (b : List Int) (x : Int) (s : Nat), st[h]? = some b → b[i]? = some x → S.sizes[i]? = some s → 0 ≤ x ∧ x < (s : Int)
def rulesOf (S : Sys) (h : Nat) : List Rule := S.rules.getD (S.kinds.getD h 0) []
def sgt (S : Sys) (st : Stand) (h : Nat) : Sgt := ⟨S.eyes, st, h, none⟩
def ruleAt (S : Sys) (st : Stand) (h : Nat) : Option Nat := (rulesOf S h).findIdx? fun r => hol r.1 (sgt S st h)
def ready (S : Sys) (st : Stand) : List Nat := (List.range st.length).filter fun h => (ruleAt S st h).isSome
def behind (S : Sys) (st : Stand) (h : Nat) : List Int :=
  (((rulesOf S h).getD ((ruleAt S st h).getD 0) (.yes, [])).2).foldl (fun b l => b.set l.1 (val l.2 (sgt S st h) % (S.sizes.getD l.1 1 : Nat))) (st.getD h [])
def act (S : Sys) (st : Stand) (hs : List Nat) : Stand := hs.foldl (fun f h => f.set h (behind S st h)) st
/-! goals -/
inductive Go where
  | every (c : Cl) | at (hs : List Nat) (c : Cl) | ready (k : Int) | and (g h : Go) | or (g h : Go) | neg (g : Go)
def enG : Go → Dt
  | .every c => .tup [.str "every", enC c]
  | .at hs c => .tup [.str "at", enNs hs, enC c]
  | .ready k => .tup [.str "ready", .int k]
  | .and g h => .tup [.str "and", enG g, enG h]
  | .or g h => .tup [.str "or", enG g, enG h]
  | .neg g => .tup [.str "not", enG g]
def wfG (n k : Nat) : Go → Prop
  | .every c => wfC n k false c ∧ dpC c ≤ DEP
  | .at hs c => (∀ h ∈ hs, h < n) ∧ hs.length ≤ 24 ∧ wfC n k false c ∧ dpC c ≤ DEP
  | .ready _ => True
  | .and g h => wfG n k g ∧ wfG n k h
  | .or g h => wfG n k g ∧ wfG n k h
  | .neg g => wfG n k g
def dpG : Go → Nat
  | .every _ => 0 | .at _ _ => 0 | .ready _ => 0
  | .and g h => max (dpG g) (dpG h) + 1
  | .or g h => max (dpG g) (dpG h) + 1
  | .neg g => dpG g + 1
def right (S : Sys) : Go → Stand → Bool
  | .every c, st => (List.range S.n).all fun h => hol c (sgt S st h)
  | .at hs c, st => hs.all fun h => hol c (sgt S st h)
  | .ready k, st => decide (((ready S st).length : Int) = k)
  | .and g h, st => right S g st && right S h st
  | .or g h, st => right S g st || right S h st
  | .neg g, st => !right S g st
/-! all stands -/
/-- the figures of a number by these sizes, the last one first -/
def figs : List Nat → Nat → List Int
  | [], _ => []
  | s :: r, x => figs r (x / s) ++ [((x % s : Nat) : Int)]
/-- the stand of a number: its figures, k to a hand -/
def standOf (S : Sys) (x : Nat) : Stand := (List.range S.n).map fun i => ((figs (List.replicate S.n S.sizes).flatten.reverse x).drop (i * S.k)).take S.k
def stands (S : Sys) : List Stand := (List.range (many S)).map (standOf S)
end Mo


set_option Elab.async false
set_option linter.all false
set_option maxRecDepth 100000
set_option maxHeartbeats 4000000
set_option autoImplicit false
/-! Tx: the defs of the text. -/
namespace Tx
open PySem PySem.Spec L2
def top (i : Nat) : Stmt := PySem.Challenge.pw_selfrights_k78_whole_layers_come_and_sta.main.body.getD i (.Pass ⟨0, 0, 0, 0⟩)
open PySem PySem.Spec
/-- the built-in names stand as they are -/
structure Bi (mg : Str → Option Value) : Prop where
  len : mg "len" = none
  range : mg "range" = none
  tuple : mg "tuple" = none
  list : mg "list" = none
  reversed : mg "reversed" = none
  enumerate : mg "enumerate" = none
  int : mg "int" = none
  bool : mg "bool" = none
  isinstance : mg "isinstance" = none
  max : mg "max" = none
  min : mg "min" = none
  all : mg "all" = none
  sum : mg "sum" = none
  sorted : mg "sorted" = none
  dict : mg "dict" = none
end Tx


set_option Elab.async false
set_option linter.all false
set_option maxRecDepth 100000
set_option maxHeartbeats 4000000
set_option autoImplicit false
namespace Tx
open PySem PySem.Spec L2 Lg Mo
section
variable {P : Program} {w : World} {K : PySem.W.Frag} {mg : Str → Option Value} {base : Heap} {f : Addr} {fd : FuncData}
abbrev sReady : Stmt := top 23
theorem scReady : FnScope ["system", "stand", "hand"] ["system", "stand"] (defScope sReady) := ⟨rfl, rfl, rfl, by decide +kernel, rfl, by decide +kernel, by decide +kernel⟩
def preSt (x : Sys × Stand) (ds : List Dt) : Prop := ds = [enS x.1, enSt x.2] ∧ WfS x.1 ∧ WfSt x.1 x.2
def preSth (x : Sys × Stand × Nat) (ds : List Dt) : Prop := ds = [enS x.1, enSt x.2.1, nD x.2.2] ∧ WfS x.1 ∧ WfSt x.1 x.2.1 ∧ x.2.2 < x.1.n
def oN : Option Nat → Dt
  | none => .non
  | some n => nD n
theorem oN_non (o : Option Nat) : (!isNon (oN o)) = o.isSome := by cases o <;> rfl
abbrev spRuleAt (K : PySem.W.Frag) : Sp := spD K preSth fun x d => d = oN (ruleAt x.1 x.2.1 x.2.2)
abbrev spReady (K : PySem.W.Frag) : Sp := spD K preSt fun x d => d = .lst ((ready x.1 x.2).map nD)
theorem ok_ready {k : Nat} (F : Fun K "ready_hands" "ready_hands" sReady f fd) (GR : Def P w K mg base CX0 k "rule_at" ["system", "stand", "hand"] (spRuleAt K)) (mL : mg "len" = none) (mR : mg "range" = none) : FnOk P w K mg base CX0 (k + 1) f fd ["system", "stand"] (spReady K) := by
  refine Fun.okD F scReady (fun y ds h => by obtain ⟨rfl, _⟩ := h; rfl) fun cdv A outer s H E hr y ds B σ Q p S hq => ?_
  obtain ⟨S0, st⟩ := y
  obtain ⟨rfl, hS, hst⟩ : ds = [enS S0, enSt st] ∧ WfS S0 ∧ WfSt S0 st := p
  have hn : st.length = S0.n := hst.len
  have h4 := hS.n2
  refine WS.cons (w_ret (xe_lcO rfl scReady.nd (blkOk_by (N := ["system", "stand", "hand"]) (sc := defScope sReady) (own := [("hand", 2)]) (by decide +kernel))
    (ev_lcD [("hand", 2)] nD (fun h => (ruleAt S0 st h).isSome) nD (List.range st.length) (ρt := fun h => [.d (enS S0), .d (enSt st), .d (nD h)]) (is := [2])
      ?_ (fun i h => h) ?_ (fun x hx s H0 C cl fp => xg_name 2 scReady.nd) (fun x hx s H0 C cl fp => ?_) (fun x hx _ s H0 C cl fp => xd_var 2))) S S.lim fun d v H' pd S' => ?_)
  · refine xj_range mR ?_ (by omega)
    exact xd_is (xd_lenT mL (ds := st.map enBx) (xd_var 1)) (by rw [List.length_map]; rfl)
  · rw [List.length_range]; omega
  · have hlt : x < S0.n := by rw [← hn]; exact List.mem_range.mp hx
    refine xts_one (EvT.imp (xb_notN (xd_call (S0, st, x) GR hr pass0 (xl_cons (xd_var 0) (xl_cons (xd_var 1) (xl_cons (xd_var 2) xl_nil))) ⟨rfl, hS, hst, hlt⟩ fun d' h => h) xd_non) fun b pb => ?_)
    rw [pb, oN_non]
  · subst pd
    exact hq _ _ _ _ _ _ _ rfl S'
end
end Tx


set_option Elab.async false
set_option linter.all false
set_option maxRecDepth 100000
set_option maxHeartbeats 4000000
set_option autoImplicit false
/-! D2: numbering. -/
namespace Lg
open PySem PySem.Spec L2
theorem Def.mono {P : Program} {w : World} {K : PySem.W.Frag} {mg : Str → Option Value} {base : Heap} {CX : CXT} {j k : Nat} {x : Str} {ps : List Str} {sp : Sp} (F : Def P w K mg base CX j x ps sp) (h : j ≤ k) : Def P w K mg base CX k x ps sp := by
  obtain ⟨f, fd, h1, h2⟩ := F.ex
  exact ⟨f, fd, h1.mono h, h2⟩
theorem MDef.mono {P : Program} {w : World} {K : PySem.W.Frag} {mg : Str → Option Value} {base : Heap} {CX : CXT} {j k : Nat} {C : Addr} {x : Str} {ps : List Str} {sp : Sp} (F : MDef P w K mg base CX j C x ps sp) (h : j ≤ k) : MDef P w K mg base CX k C x ps sp := by
  obtain ⟨f, fd, h1, h2⟩ := F.ex
  exact ⟨f, fd, h1.mono h, h2⟩
theorem filt_true {α : Type} (xs : List α) : xs.filter (fun _ => true) = xs := List.filter_eq_self.mpr fun _ _ => rfl
theorem xj_is {X : Cx} {O : List (Addr × Ow)} {ρ : List Sl} {tg e : Expr} {ds ds' : List Dt} (h : XJ X tg e O ρ ds) (q : ds = ds') : XJ X tg e O ρ ds' := by
  subst q
  exact h
theorem w_drop {X : Cx} {O : List (Addr × Ow)} {ρ : List Sl} {c : Nat} {P : Dt → Prop} {e : Expr} {pos : Pos} {D : Ends} {σ : L2.St} {H : Hp} {B : Bs} {T : List (V × Dt)} (hx : XE X e O ρ c P) (S : Sat X.K B O ρ T σ H) (hl : B.n + c ≤ LIM) (k : ∀ H', Sat X.K (B.add c) O ρ T σ H' → D.nx σ H')
    (hs : swapsWith e none pos.line X.env = pure false := by rfl) : W1 X (.Expr e pos) D σ H := .of (ps_expr pe_s hs) (hx B [] T σ H _ hl S fun d v H1 p S1 => k _ (S1.pop1))
end Lg
namespace Tx
open PySem PySem.Spec L2 Lg Mo
section
variable {P : Program} {w : World} {K : PySem.W.Frag} {mg : Str → Option Value} {base : Heap} {f : Addr} {fd : FuncData}
/-- a system alone -/
def preS (S : Sys) (ds : List Dt) : Prop := ds = [enS S] ∧ WfS S
abbrev facs (S : Sys) : List Nat := (List.replicate S.n S.sizes).flatten
theorem map_rep {α β : Type} (g : α → β) (n : Nat) (xs : List α) : ((List.replicate n xs).flatten).map g = (List.replicate n (xs.map g)).flatten := by
  rw [List.map_flatten, List.map_replicate]
abbrev sHow : Stmt := top 8
theorem scHow : FnScope ["system", "found", "size"] ["system"] (defScope sHow) := ⟨rfl, rfl, rfl, by decide +kernel, rfl, by decide +kernel, by decide +kernel⟩
theorem fac_mem {S : Sys} {i y : Nat} (h : (facs S)[i]? = some y) : y ∈ S.sizes := by
  have h1 := List.mem_of_getElem? h
  obtain ⟨l, hl, hy⟩ := List.mem_flatten.mp h1
  rw [List.mem_replicate] at hl
  rw [← hl.2]
  exact hy
theorem fac_le {S : Sys} (hS : WfS S) {i y : Nat} (h : (facs S)[i]? = some y) : 1 ≤ y ∧ y ≤ 12 := hS.sz y (fac_mem h)
abbrev spHow (K : PySem.W.Frag) : Sp := spD K preS fun S d => d = nD (many S)
theorem ok_how {k : Nat} (F : Fun K "how_many" "how_many" sHow f fd) (M : Bi mg) : FnOk P w K mg base CX0 (k + 1) f fd ["system"] (spHow K) := by
  refine Fun.okD F scHow (fun y ds h => by obtain ⟨rfl, _⟩ := h; rfl) fun cdv A outer s H E hr S ds B σ Q p S0 hq => ?_
  obtain ⟨rfl, hS⟩ := p
  have hn1 := hS.n1
  have hn2 := hS.n2
  refine WS.cons (w_set 1 xd_int S0 S0.lim (fun d σ1 H1 p1 S1 => ?_) scHow.nd)
  subst p1
  refine WS.cons (w_forN 2 nD (facs S) (fun i O' ρ' => O' = [] ∧ ∃ u, ρ' = [.d (enS S), .d (nD (((facs S).take i).foldl (· * ·) 1)), u]) PassesOwn.never rfl scHow.nd ?_ S1 ⟨rfl, .u, rfl⟩ (fun i y O' ρ' T' σ' H' N hy hI S2 kN => ?_) (fun O' ρ' σ' H' hI S2 => ?_))
  · rw [map_rep]
    exact xj_tup (xd_repT (k := S.n) (ds := S.sizes.map nD) (xd_ixT (xd_var 0) xd_int rfl) (xd_is (xd_lenT M.len (ds := S.eyes.map enNs) (xd_ixT (xd_var 0) xd_int rfl)) (by rw [List.length_map]; rfl)) hn1 (by omega)
      (by
        intro z
        have h1 := hS.k1
        have h2 : S.sizes.length = 0 := by rw [List.map_eq_nil_iff.mp z]; rfl
        have h3 : S.k = S.sizes.length := rfl
        omega) (by
        rw [List.length_map]
        have h1 := hS.k2
        have h3 : S.k = S.sizes.length := rfl
        omega))
  · obtain ⟨rfl, u, rfl⟩ := hI
    have hy2 := fac_le hS hy
    refine WS.cons (w_set 1 (xd_mul (xd_var 1) (xd_var 2) (.inr ⟨by omega, by omega⟩)) S2 S2.lim (fun d σ3 H3 p3 S3 => WS.nil (kN _ _ _ _ ⟨rfl, .d (nD y), ?_⟩ S3)) scHow.nd)
    subst p3
    have e : (((facs S).take (i + 1)).foldl (· * ·) 1) = (((facs S).take i).foldl (· * ·) 1) * y := by
      rw [List.take_succ, hy, List.foldl_append]
      rfl
    rw [e]
    show _ = [_, _, _]
    unfold nD
    rw [Int.natCast_mul]
    rfl
  · obtain ⟨rfl, u, rfl⟩ := hI
    rw [List.take_length] at S2
    exact WS.cons (w_ret (xd_var 1) S2 S2.lim fun d v H3 p3 S3 => hq _ _ _ _ _ _ _ p3 S3)
/-! is_small, ask_small -/
abbrev sSmall : Stmt := top 9
theorem scSmall : FnScope ["system"] ["system"] (defScope sSmall) := ⟨rfl, rfl, rfl, by decide +kernel, rfl, by decide +kernel, by decide +kernel⟩
structure Nums (mg : Str → Option Value) : Prop where
  hands : ∃ t, mg "MOST_HANDS" = some (.int 6 t)
  stands : ∃ t, mg "MOST_STANDS" = some (.int 4096 t)
  ready : ∃ t, mg "MOST_READY" = some (.int 10 t)
abbrev spSmall (K : PySem.W.Frag) : Sp := spD K preS fun S d => d = .bl true
theorem ok_small {k : Nat} (F : Fun K "is_small" "is_small" sSmall f fd) (M : Bi mg) (Z : Nums mg) (G : Def P w K mg base CX0 k "how_many" ["system"] (spHow K)) : FnOk P w K mg base CX0 (k + 1) f fd ["system"] (spSmall K) := by
  refine Fun.okD F scSmall (fun y ds h => by obtain ⟨rfl, _⟩ := h; rfl) fun cdv A outer s H E hr S ds B σ Q p S0 hq => ?_
  obtain ⟨rfl, hS⟩ := p
  have hn2 := hS.n2
  have hm := hS.small
  obtain ⟨t1, z1⟩ := Z.hands
  obtain ⟨t2, z2⟩ := Z.stands
  have e1 : decide ((S.n : Int) ≤ 6) = true := decide_eq_true (by omega)
  have e2 : decide ((many S : Int) ≤ 4096) = true := decide_eq_true (by omega)
  refine WS.cons (w_ret (xd_andV (k := decide ((S.n : Int) ≤ 6)) (l := decide ((many S : Int) ≤ 4096)) (xd_le (xd_is (xd_lenT M.len (ds := S.eyes.map enNs) (xd_ixT (xd_var 0) xd_int rfl)) (by rw [List.length_map]; rfl)) (xd_glob z1 (v := .int 6) ⟨t1, rfl⟩ fun H => .int 6)) fun _ =>
    xd_le (xd_call S G hr pass0 (xl_cons (xd_var 0) xl_nil) ⟨rfl, hS⟩ fun d' h => h) (xd_glob z2 (v := .int 4096) ⟨t2, rfl⟩ fun H => .int 4096)) S0 S0.lim fun d v H3 p3 S3 => hq _ _ _ _ _ _ _ (by rw [p3, e1, e2]; rfl) S3)
abbrev sAsk : Stmt := top 10
theorem scAsk : FnScope ["system"] ["system"] (defScope sAsk) := ⟨rfl, rfl, rfl, by decide +kernel, rfl, by decide +kernel, by decide +kernel⟩
abbrev spAsk (K : PySem.W.Frag) : Sp := spD K preS fun S d => d = .non
theorem ok_ask {k : Nat} (F : Fun K "ask_small" "ask_small" sAsk f fd) (G : Def P w K mg base CX0 k "is_small" ["system"] (spSmall K)) : FnOk P w K mg base CX0 (k + 1) f fd ["system"] (spAsk K) := by
  refine Fun.okD F scAsk (fun y ds h => by obtain ⟨rfl, _⟩ := h; rfl) fun cdv A outer s H E hr S ds B σ Q p S0 hq => ?_
  obtain ⟨rfl, hS⟩ := p
  refine WS.cons (w_if (xb_not (xb_val (xd_call S G hr pass0 (xl_cons (xd_var 0) xl_nil) ⟨rfl, hS⟩ fun d' h => h))) S0 S0.lim (fun H' pb S1 => absurd pb (by decide)) fun H' pb S1 => WS.nil (WS.nil ?_))
  obtain ⟨HI, S1⟩ := S1
  exact hq .non .non _ _ _ _ _ rfl ⟨HI, S1.push .non⟩
/-! stand_of -/
abbrev sOf : Stmt := top 11
theorem scOf : FnScope ["system", "number", "left", "figures", "size", "wide", "at"] ["system", "number"] (defScope sOf) := ⟨rfl, rfl, rfl, by decide +kernel, rfl, by decide +kernel, by decide +kernel⟩
def preSn (x : Sys × Nat) (ds : List Dt) : Prop := ds = [enS x.1, nD x.2] ∧ WfS x.1 ∧ x.2 < many x.1
abbrev spOf (K : PySem.W.Frag) : Sp := spD K preSn fun x d => d = enSt (standOf x.1 x.2)
theorem figs_snoc (l : List Nat) (s x : Nat) : figs (l ++ [s]) x = (((l.foldl (· / ·) x) % s : Nat) : Int) :: figs l x := by
  induction l generalizing x with
  | nil => rfl
  | cons a r ih =>
    rw [List.cons_append, figs, ih, List.foldl_cons, figs]
    rfl
theorem figs_len (l : List Nat) (x : Nat) : (figs l x).length = l.length := by
  induction l generalizing x with
  | nil => rfl
  | cons a r ih =>
    rw [figs, List.length_append, ih]
    rfl
theorem facs_len (S : Sys) : (facs S).length = S.n * S.k := by
  rw [List.length_flatten, List.map_replicate, List.sum_replicate_nat]
  rfl
theorem rg_small (n k : Nat) (h1 : 1 ≤ n) (h2 : n ≤ 4) (h3 : 1 ≤ k) (h4 : k ≤ 3) : RgC 0 ((n * k : Nat) : Int) (k : Int) n := by
  have z : ∀ n ∈ [1, 2, 3, 4], ∀ k ∈ [1, 2, 3], ((k : Nat) : Int) ≠ 0 ∧ ((k : Nat) : Int).natAbs < 1073741824 ∧ Builtin.Range.small 0 ((n * k : Nat) : Int) (k : Int) = true ∧ Builtin.Range.rangeSize 0 ((n * k : Nat) : Int) (k : Int) = (n : Nat) := by decide +kernel
  exact z n (by simp; omega) k (by simp; omega)
theorem ok_of {k : Nat} (F : Fun K "stand_of" "stand_of" sOf f fd) (M : Bi mg) (G : Def P w K mg base CX0 k "how_many" ["system"] (spHow K)) : FnOk P w K mg base CX0 (k + 1) f fd ["system", "number"] (spOf K) := by
  refine Fun.okD F scOf (fun y ds h => by obtain ⟨rfl, _⟩ := h; rfl) fun cdv A outer s H E hr y ds B σ Q p S0 hq => ?_
  obtain ⟨S, x⟩ := y
  obtain ⟨rfl, hS, hx⟩ : ds = [enS S, nD x] ∧ WfS S ∧ x < many S := p
  have hn1 := hS.n1
  have hn2 := hS.n2
  have hk1 := hS.k1
  have hk2 := hS.k2
  have hk3 : S.k = S.sizes.length := rfl
  have e1 : decide ((x : Int) < 0) = false := decide_eq_false (by omega)
  have e2 : decide (((many S : Nat) : Int) ≤ (x : Int)) = false := decide_eq_false (by omega)
  refine WS.cons (w_if (xb_or2 (xb_lt (xd_var 1) xd_int) fun _ => xb_ge (xd_var 1) (xd_call S G hr pass0 (xl_cons (xd_var 0) xl_nil) ⟨rfl, hS⟩ fun d' h => h)) S0 S0.lim (fun H' pb S1 => absurd pb (by rw [e1, e2]; decide)) fun H' pb S1 => WS.nil ?_)
  refine WS.cons (w_set 2 (xd_var 1) S1 S1.lim (fun d σ2 H2 p2 S2 => ?_) scOf.nd)
  subst p2
  refine WS.cons (w_own 3 xn_nil S2 S2.lim (fun q w σ3 H3 pw S3 => ?_) scOf.nd)
  subst pw
  refine WS.cons (w_forN 4 nD (facs S).reverse (fun i O' ρ' => O' = [(q, .lst ((figs ((facs S).reverse.take i) x).map Dt.int))] ∧ ∃ u, ρ' = [.d (enS S), .d (nD x), .d (nD (((facs S).reverse.take i).foldl (· / ·) x)), .o q, u, .u, .u]) PassesOwn.never rfl scOf.nd ?_ S3 ⟨rfl, .u, rfl⟩ (fun i y O' ρ' T' σ' H' N hy hI S4 kN => ?_) (fun O' ρ' σ' H' hI S4 => ?_))
  · refine xj_is (xj_revT M.reversed (xd_repT (k := S.n) (ds := S.sizes.map nD) (xd_ixT (xd_var 0) xd_int rfl) (xd_is (xd_lenT M.len (ds := S.eyes.map enNs) (xd_ixT (xd_var 0) xd_int rfl)) (by rw [List.length_map]; rfl)) hn1 (by omega)
      (by
        intro z
        have h2 : S.sizes.length = 0 := by rw [List.map_eq_nil_iff.mp z]; rfl
        omega) (by
        rw [List.length_map]
        omega))) ?_
    rw [← map_rep, List.map_reverse]
  · obtain ⟨rfl, u, rfl⟩ := hI
    have hy1 : y ∈ (facs S).reverse := List.mem_of_getElem? hy
    obtain ⟨j, hj⟩ := List.mem_iff_getElem?.mp (List.mem_reverse.mp hy1)
    have hy2 := fac_le hS hj
    have hlen : (figs ((facs S).reverse.take i) x).length ≤ 12 := by
      rw [figs_len, List.length_take, List.length_reverse, facs_len]
      have : S.n * S.k ≤ 4 * 3 := Nat.mul_le_mul hn2 hk2
      omega
    have et : (facs S).reverse.take (i + 1) = (facs S).reverse.take i ++ [y] := by rw [List.take_succ, hy]; rfl
    refine WS.cons (w_insert0 3 (A := []) (C := []) xd_int (xd_mod (xd_var 2) (xd_var 4) (by omega)) S4 S4.lim (by rw [List.length_map]; omega) (fun d H5 p5 S5 => ?_))
    subst p5
    refine WS.cons (w_set 2 (xd_fdiv (xd_var 2) (xd_var 4) ⟨by omega, by omega⟩) S5 S5.lim (fun d σ6 H6 p6 S6 => WS.nil (kN _ _ _ _ ⟨?_, .d (nD y), ?_⟩ S6)) scOf.nd)
    · rw [et, figs_snoc, List.map_cons]
      rfl
    · subst p6
      rw [et, List.foldl_append]
      rfl
  · obtain ⟨rfl, u, rfl⟩ := hI
    rw [List.take_of_length_le (Nat.le_refl _)] at S4
    refine WS.cons (w_set 5 (xd_is (xd_lenT M.len (ds := S.sizes.map nD) (xd_ixT (xd_var 0) xd_int rfl)) (d' := nD S.k) (by rw [List.length_map]; rfl)) S4 S4.lim (fun d σ5 H5 p5 S5 => ?_) scOf.nd)
    subst p5
    refine WS.cons (w_ret (xd_tuple M.tuple (XD.ls (xe_lcO rfl scOf.nd (blkOk_by (N := ["system", "number", "left", "figures", "size", "wide", "at"]) (sc := defScope sOf) (own := [("at", 6)]) (by decide +kernel))
      (ev_lcD [("at", 6)] (fun i : Nat => Dt.int (0 + (i : Nat) * (S.k : Int))) (fun _ => true) (fun i => .tup (cutD ((figs (facs S).reverse x).map Dt.int) (some (0 + (i : Nat) * (S.k : Int))) (some (0 + (i : Nat) * (S.k : Int) + (S.k : Int))))) (List.range S.n)
        (ρt := fun i => [.d (enS S), .d (nD x), _, .o q, u, .d (nD S.k), .d (.int (0 + (i : Nat) * (S.k : Int)))]) (is := [6])
        ?_ (fun i h => h) ?_ (fun x hx s H0 C cl fp => xg_name 6 scOf.nd) (fun x hx s H0 C cl fp => EvT.imp xts_nil fun b h => h) (fun x hx _ s H0 C cl fp => ?_))))) S5 S5.lim fun d v H3 p3 S3 => ?_)
    · exact xj_rg3 M.range xd_int (xd_is (xd_len M.len (xs_own 3)) (by rw [List.length_map, figs_len, List.length_reverse, facs_len])) (xd_var 5) (rg_small S.n S.k hn1 hn2 hk1 hk2)
    · rw [List.length_range]; omega
    · exact xd_tuple M.tuple (XD.ls (xd_slL (xs_own 3) (xo_some (xd_var 6)) (xo_some (xd_add (xd_var 6) (xd_var 5)))))
    · refine hq _ _ _ _ _ _ _ ?_ S3
      subst p3
      unfold enSt standOf enBx
      rw [filt_true, List.map_map]
      refine congrArg Dt.tup (List.map_congr_left fun i hi => ?_)
      have hi' : i < S.n := List.mem_range.mp hi
      show Dt.tup _ = Dt.tup _
      refine congrArg Dt.tup ?_
      rw [List.map_take, List.map_drop]
      unfold cutD
      have hlen : ((figs (facs S).reverse x).map Dt.int).length = S.n * S.k := by rw [List.length_map, figs_len, List.length_reverse, facs_len]
      have hb : (i + 1) * S.k ≤ S.n * S.k := Nat.mul_le_mul_right _ hi'
      rw [Nat.add_mul, Nat.one_mul] at hb
      have a1 : (0 + (i : Nat) * (S.k : Int) : Int) = ((i * S.k : Nat) : Int) := by rw [Int.natCast_mul]; omega
      have a2 : (((i * S.k : Nat) : Int) + (S.k : Int)) = ((i * S.k + S.k : Nat) : Int) := by rw [Int.natCast_add]
      rw [a1, a2, HT.sIx_nat, HT.sIx_nat, hlen, Nat.min_eq_left (by omega), Nat.min_eq_left (by omega)]
      rw [show i * S.k + S.k - i * S.k = S.k from by omega]
/-! all_stands -/
abbrev sAll : Stmt := top 12
theorem scAll : FnScope ["system", "number"] ["system"] (defScope sAll) := ⟨rfl, rfl, rfl, by decide +kernel, rfl, by decide +kernel, by decide +kernel⟩
abbrev spAll (K : PySem.W.Frag) : Sp := spD K preS fun S d => d = .tup ((stands S).map enSt)
theorem ok_all {k : Nat} (F : Fun K "all_stands" "all_stands" sAll f fd) (M : Bi mg) (G1 : Def P w K mg base CX0 k "ask_small" ["system"] (spAsk K)) (G2 : Def P w K mg base CX0 k "stand_of" ["system", "number"] (spOf K)) (G3 : Def P w K mg base CX0 k "how_many" ["system"] (spHow K)) : FnOk P w K mg base CX0 (k + 1) f fd ["system"] (spAll K) := by
  refine Fun.okD F scAll (fun y ds h => by obtain ⟨rfl, _⟩ := h; rfl) fun cdv A outer s H E hr S ds B σ Q p S0 hq => ?_
  obtain ⟨rfl, hS⟩ := p
  have hm := hS.small
  refine WS.cons (w_drop (xd_call S G1 hr pass0 (xl_cons (xd_var 0) xl_nil) ⟨rfl, hS⟩ fun d' h => h) S0 S0.lim fun H1 S1 => ?_)
  refine WS.cons (w_ret (xd_tuple M.tuple (XD.ls (xe_lcO rfl scAll.nd (blkOk_by (N := ["system", "number"]) (sc := defScope sAll) (own := [("number", 1)]) (by decide +kernel))
      (ev_lcD [("number", 1)] nD (fun _ => true) (fun i => enSt (standOf S i)) (List.range (many S)) (ρt := fun i => [.d (enS S), .d (nD i)]) (is := [1])
        (xj_range M.range (xd_call S G3 hr pass0 (xl_cons (xd_var 0) xl_nil) ⟨rfl, hS⟩ fun d' h => h) (by omega)) (fun i h => h) (by rw [List.length_range]; omega) (fun x hx s H0 C cl fp => xg_name 1 scAll.nd) (fun x hx s H0 C cl fp => EvT.imp xts_nil fun b h => h)
        (fun x hx _ s H0 C cl fp => xd_call (S, x) G2 hr pass0 (xl_cons (xd_var 0) (xl_cons (xd_var 1) xl_nil)) ⟨rfl, hS, List.mem_range.mp hx⟩ fun d' h => h))))) S1 S1.lim fun d v H3 p3 S3 => hq _ _ _ _ _ _ _ ?_ S3)
  rw [p3, filt_true]
  unfold stands
  rw [List.map_map]
  rfl
end
end Tx


set_option Elab.async false
set_option linter.all false
set_option maxRecDepth 100000
set_option maxHeartbeats 4000000
set_option autoImplicit false
/-! D3: sights. -/
namespace Lg
open PySem PySem.Spec L2
section
variable {X : Cx} {O : List (Addr × Ow)} {ρ : List Sl} {pos : Pos} {D : Ends} {σ : L2.St} {H : Hp} {B : Bs} {T : List (V × Dt)} {c' : Expr} {th el : List Stmt} {b : Bool}
theorem w_ifT (hc : XB X c' O ρ b) (e : b = true) (S : Sat X.K B O ρ T σ H) (k : ∀ H', Sat X.K B O ρ T σ H' → WS X th D σ H') : W1 X (.If c' th el pos) D σ H :=
  w_if hc S S.lim (fun H' pb S1 => k H' S1) fun H' pb S1 => absurd (pb.trans e) (by decide)
theorem w_ifF (hc : XB X c' O ρ b) (e : b = false) (S : Sat X.K B O ρ T σ H) (k : ∀ H', Sat X.K B O ρ T σ H' → WS X el D σ H') : W1 X (.If c' th el pos) D σ H :=
  w_if hc S S.lim (fun H' pb S1 => absurd (pb.trans e) (by decide)) fun H' pb S1 => k H' S1
end
section
variable {P : Program} {w : World} {K : PySem.W.Frag} {mg : Str → Option Value} {base : Heap}
theorem MDef.of {CX : CXT} {k : Nat} {C f : Addr} {m : Str} {fd : FuncData} {ps : List Str} {sp : Sp} (h : FnOk P w K mg base CX k f fd ps sp) (h1 : Meth K C m f) (h2 : Binds K fd ps []) : MDef P w K mg base CX k C m ps sp := ⟨f, fd, h, h1, h2⟩
end
end Lg
namespace Tx
open PySem PySem.Spec L2 Lg Mo
/-- a sight that stands well; i: it looks at another -/
structure WfSg (n k : Nat) (i : Bool) (g : Sgt) : Prop where
  n1 : n ≤ 4
  eyes : g.eyes.length = n
  sees : ∀ s ∈ g.eyes, ∀ o ∈ s, o < n
  few : ∀ s ∈ g.eyes, s.length ≤ 6
  st : g.st.length = n
  box : ∀ b ∈ g.st, b.length = k
  hand : g.hand < n
  other : i = true → ∃ o, g.other = some o ∧ o < n
def enSg (C : Addr) (g : Sgt) : Dt := .ob C [("eyes_told", enEyes g.eyes), ("stand_told", enSt g.st), ("own_hand", nD g.hand), ("looked_at", oN g.other)]
/-- the class -/
structure SgC (K : PySem.W.Frag) (C : Addr) : Prop where
  cls : Cls K C
  a1 : NoAttr K C "eyes_told"
  a2 : NoAttr K C "stand_told"
  a3 : NoAttr K C "own_hand"
  a4 : NoAttr K C "looked_at"
section
variable {P : Program} {w : World} {K : PySem.W.Frag} {mg : Str → Option Value} {base : Heap} {f : Addr} {fd : FuncData} {C : Addr} {n k : Nat} {i : Bool} {g : Sgt}
theorem WfSg.look (h : WfSg n k i g) {o : Nat} (ho : o ∈ seen g) : WfSg n k true { g with other := some o } := by
  refine ⟨h.n1, h.eyes, h.sees, h.few, h.st, h.box, h.hand, fun _ => ⟨o, rfl, ?_⟩⟩
  have hh : g.hand < g.eyes.length := by rw [h.eyes]; exact h.hand
  unfold seen at ho
  rw [List.getD_eq_getElem?_getD, List.getElem?_eq_getElem hh] at ho
  exact h.sees _ (List.getElem_mem hh) o ho
theorem WfSg.seen_at (h : WfSg n k i g) : (g.eyes.map enNs)[g.hand]? = some (enNs (seen g)) := by
  have hh : g.hand < g.eyes.length := by rw [h.eyes]; exact h.hand
  unfold seen
  rw [List.getElem?_map, List.getD_eq_getElem?_getD, List.getElem?_eq_getElem hh]
  rfl
theorem WfSg.seen_few (h : WfSg n k i g) : (seen g).length ≤ 6 := by
  have hh : g.hand < g.eyes.length := by rw [h.eyes]; exact h.hand
  unfold seen
  rw [List.getD_eq_getElem?_getD, List.getElem?_eq_getElem hh]
  exact h.few _ (List.getElem_mem hh)
theorem WfSg.row (h : WfSg n k i g) {o : Nat} (ho : o < n) : ∃ b, (g.st.map enBx)[o]? = some (enBx b) ∧ b.length = k ∧ ∀ j, j < k → (b.map Dt.int)[j]? = some (.int (boxAt g.st o j)) := by
  have hh : o < g.st.length := by rw [h.st]; exact ho
  have hl := h.box _ (List.getElem_mem hh)
  refine ⟨g.st[o], by rw [List.getElem?_map, List.getElem?_eq_getElem hh]; rfl, hl, fun j hj => ?_⟩
  unfold boxAt
  rw [List.getD_eq_getElem?_getD (l := g.st), List.getElem?_eq_getElem hh, List.getElem?_map]
  have hj2 : j < g.st[o].length := by rw [hl]; exact hj
  show Option.map Dt.int (g.st[o])[j]? = some (Dt.int ((g.st[o]).getD j 0))
  rw [List.getElem?_eq_getElem hj2, List.getD_eq_getElem?_getD, List.getElem?_eq_getElem hj2]
  rfl
abbrev clsS : Stmt := top 14
/-! __init__ -/
abbrev sIni : Stmt := inClass clsS 0
theorem scIni : FnScope ["self", "eyes", "stand", "hand", "other"] ["self", "eyes", "stand", "hand", "other"] (defScope sIni) := ⟨rfl, rfl, rfl, by decide +kernel, rfl, by decide +kernel, by decide +kernel⟩
abbrev sgNs : List Str := ["eyes_told", "stand_told", "own_hand", "looked_at"]
theorem ok_ini {kk : Nat} (F : Fun K "__init__" "Sight.__init__" sIni f fd) (Z : SgC K C) : FnOk P w K mg base CX0 (kk + 1) f fd ["self", "eyes", "stand", "hand", "other"] (spIni C sgNs) := by
  refine F.ok scIni (fun vs H Q E h => ?_) (fun cdv A outer s H vs Q E hr h => ?_)
  · obtain ⟨x, dx, us, rfl, hl, _⟩ := h
    rw [List.length_cons, hl]
    rfl
  · obtain ⟨x, dx, us, rfl, hl, hx, q⟩ := h
    match us, hl with
    | [v1, v2, v3, v4], _ =>
      refine ⟨_, pss_cons (ps_fld (pv 0) (pv 1) rfl) (pss_cons (ps_fld (pv 0) (pv 2) rfl) (pss_cons (ps_fld (pv 0) (pv 3) rfl) (pss_cons (ps_fld (pv 0) (pv 4) rfl) pss_nil))), ?_⟩
      refine ⟨v1, rfl, .ref x, rfl, x, C, dx, [], rfl, hx, Z.cls, Z.a1, by decide, ?_⟩
      refine ⟨v2, rfl, .ref x, rfl, x, C, dx, _, rfl, upd_same, Z.cls, Z.a2, Nat.le_of_ble_eq_true rfl, ?_⟩
      refine ⟨v3, rfl, .ref x, rfl, x, C, dx, _, rfl, upd_same, Z.cls, Z.a3, Nat.le_of_ble_eq_true rfl, ?_⟩
      refine ⟨v4, rfl, .ref x, rfl, x, C, dx, _, rfl, upd_same, Z.cls, Z.a4, Nat.le_of_ble_eq_true rfl, ?_⟩
      show Q .non _
      rw [upd_upd, upd_upd, upd_upd]
      exact q
/-! over_others -/
abbrev sOver : Stmt := inClass clsS 1
theorem scOver : FnScope ["self", "found", "other"] ["self"] (defScope sOver) := ⟨rfl, rfl, rfl, by decide +kernel, rfl, by decide +kernel, by decide +kernel⟩
structure Gx where
  n : Nat
  k : Nat
  i : Bool
  g : Sgt
abbrev spOver (K : PySem.W.Frag) (C : Addr) : Sp := spD K (fun (x : Gx) ds => ds = [enSg C x.g] ∧ WfSg x.n x.k x.i x.g) fun x d => d = .lst ((seen x.g).map fun o => enSg C { x.g with other := some o })
/-- the class is made so -/
structure SgM (P : Program) (w : World) (K : PySem.W.Frag) (mg : Str → Option Value) (base : Heap) (C : Addr) (k : Nat) : Prop where
  nm : mg "Sight" = some (.ref C)
  ini : ∃ f fd, Mk K C f ∧ FnOk P w K mg base CX0 k f fd ["self", "eyes", "stand", "hand", "other"] (spIni C sgNs) ∧ Binds K fd ["self", "eyes", "stand", "hand", "other"] []
theorem ok_over {kk : Nat} (F : Fun K "over_others" "Sight.over_others" sOver f fd) (Z : SgC K C) (Y : SgM P w K mg base C kk) : FnOk P w K mg base CX0 (kk + 2) f fd ["self"] (spOver K C) := by
  refine Fun.okD F scOver (fun y ds h => by obtain ⟨rfl, _⟩ := h; rfl) fun cdv A outer s H E hr y ds B σ Q p S0 hq => ?_
  obtain ⟨n, k, i, g⟩ := y
  obtain ⟨rfl, hg⟩ : ds = [enSg C g] ∧ WfSg n k i g := p
  obtain ⟨fi, fdi, m1, m2, m3⟩ := Y.ini
  refine WS.cons (w_own 1 xn_nil S0 S0.lim (fun q w σ3 H3 pw S3 => ?_) scOver.nd)
  subst pw
  refine WS.cons (w_forN 2 nD (seen g) (fun i O' ρ' => O' = [(q, .lst (((seen g).take i).map fun o => enSg C { g with other := some o }))] ∧ ∃ u, ρ' = [.d (enSg C g), .o q, u]) PassesOwn.never rfl scOver.nd
    (xj_tup (xd_ixT (xd_fld (xd_var 0) Z.cls Z.a1 rfl) (xd_fld (xd_var 0) Z.cls Z.a3 rfl) (atI_nat hg.seen_at))) S3 ⟨rfl, .u, rfl⟩ (fun i y O' ρ' T' σ' H' N hy hI S4 kN => ?_) (fun O' ρ' σ' H' hI S4 => ?_))
  · obtain ⟨rfl, u, rfl⟩ := hI
    have hlen : ((seen g).take i).length ≤ 6 := by
      rw [List.length_take]
      have := hg.seen_few
      omega
    refine WS.cons (w_append 1 (A := []) (C := []) (xd_make m1 m2 hr Y.nm m3 pass0 (xl_cons (xd_fld (xd_var 0) Z.cls Z.a1 rfl) (xl_cons (xd_fld (xd_var 0) Z.cls Z.a2 rfl) (xl_cons (xd_fld (xd_var 0) Z.cls Z.a3 rfl) (xl_cons (xd_var 2) xl_nil)))) rfl) S4 S4.lim (by rw [List.length_map]; omega) (fun d H5 p5 S5 => WS.nil (kN _ _ _ _ ⟨?_, .d (nD y), rfl⟩ S5)))
    subst p5
    have et : (seen g).take (i + 1) = (seen g).take i ++ [y] := by rw [List.take_succ, hy]; rfl
    rw [et, List.map_append]
    rfl
  · obtain ⟨rfl, u, rfl⟩ := hI
    rw [List.take_of_length_le (Nat.le_refl _)] at S4
    exact WS.cons (w_retOwn 1 S4 fun v H5 S5 => hq _ _ _ _ _ _ _ rfl S5)
/-! plain -/
abbrev sPlain : Stmt := inClass clsS 2
theorem scPlain : FnScope ["self", "term", "word"] ["self", "term"] (defScope sPlain) := ⟨rfl, rfl, rfl, by decide +kernel, rfl, by decide +kernel, by decide +kernel⟩
structure Tx1 extends Gx where
  t : Mo.Tm
def isPl : Mo.Tm → Bool
  | .num _ => true | .own _ => true | .me => true | .its _ => true | .it => true | _ => false
def preT (K : PySem.W.Frag) (C : Addr) (q : Mo.Tm → Prop) (x : Tx1) (ds : List Dt) : Prop := ds = [enSg C x.g, enT x.t] ∧ WfSg x.n x.k x.i x.g ∧ wfT x.n x.k x.i x.t ∧ q x.t
abbrev spT (K : PySem.W.Frag) (C : Addr) (q : Mo.Tm → Prop) : Sp := spD K (preT K C q) fun x d => d = .int (val x.t x.g)
theorem dstr {x y : Str} (h : x ≠ y) : decide (x = y) = false := decide_eq_false h
theorem ok_plain {kk : Nat} (F : Fun K "plain" "Sight.plain" sPlain f fd) (Z : SgC K C) : FnOk P w K mg base CX0 (kk + 1) f fd ["self", "term"] (spT K C fun t => isPl t = true) := by
  refine Fun.okD F scPlain (fun y ds h => by obtain ⟨rfl, _⟩ := h; rfl) fun cdv A outer s H E hr y ds B σ Q p S0 hq => ?_
  obtain ⟨⟨n, k, i, g⟩, t⟩ := y
  obtain ⟨rfl, hg, ht, hp⟩ : ds = [enSg C g, enT t] ∧ WfSg n k i g ∧ wfT n k i t ∧ isPl t = true := p
  cases t with
  | num z =>
    refine WS.cons (w_set 2 (xd_ixT (xd_var 1) xd_int rfl) S0 S0.lim (fun d σ1 H1 p1 S1 => ?_) scPlain.nd)
    subst p1
    refine WS.cons (w_ifT (xb_eqS (xd_var 2) xd_str) (by decide) S1 fun H2 S2 => ?_)
    exact WS.cons (w_ret (xd_ixT (xd_var 1) xd_int rfl) S2 S2.lim fun d v H3 p3 S3 => hq _ _ _ _ _ _ _ p3 S3)
  | own b =>
    obtain ⟨r, hr1, hr2, hr3⟩ := hg.row hg.hand
    refine WS.cons (w_set 2 (xd_ixT (xd_var 1) xd_int rfl) S0 S0.lim (fun d σ1 H1 p1 S1 => ?_) scPlain.nd)
    subst p1
    refine WS.cons (w_ifF (xb_eqS (xd_var 2) xd_str) (by decide) S1 fun H2 S2 => WS.nil ?_)
    refine WS.cons (w_ifT (xb_eqS (xd_var 2) xd_str) (by decide) S2 fun H3 S3 => ?_)
    exact WS.cons (w_ret (xd_ixT (xd_ixT (xd_fld (xd_var 0) Z.cls Z.a2 rfl) (xd_fld (xd_var 0) Z.cls Z.a3 rfl) (atI_nat hr1)) (xd_ixT (xd_var 1) xd_int rfl) (atI_nat (hr3 b ht))) S3 S3.lim fun d v H3 p3 S3 => hq _ _ _ _ _ _ _ p3 S3)
  | me =>
    refine WS.cons (w_set 2 (xd_ixT (xd_var 1) xd_int rfl) S0 S0.lim (fun d σ1 H1 p1 S1 => ?_) scPlain.nd)
    subst p1
    refine WS.cons (w_ifF (xb_eqS (xd_var 2) xd_str) (by decide) S1 fun H2 S2 => WS.nil ?_)
    refine WS.cons (w_ifF (xb_eqS (xd_var 2) xd_str) (by decide) S2 fun H3 S3 => WS.nil ?_)
    refine WS.cons (w_ifT (xb_eqS (xd_var 2) xd_str) (by decide) S3 fun H4 S4 => ?_)
    exact WS.cons (w_ret (xd_fld (xd_var 0) Z.cls Z.a3 rfl) S4 S4.lim fun d v H3 p3 S3 => hq _ _ _ _ _ _ _ p3 S3)
  | its b =>
    obtain ⟨hi, hb⟩ : i = true ∧ b < k := ht
    obtain ⟨o, e1, ho⟩ := hg.other hi
    obtain ⟨r, hr1, hr2, hr3⟩ := hg.row ho
    have e2 : oN g.other = nD o := by rw [e1]; rfl
    refine WS.cons (w_set 2 (xd_ixT (xd_var 1) xd_int rfl) S0 S0.lim (fun d σ1 H1 p1 S1 => ?_) scPlain.nd)
    subst p1
    refine WS.cons (w_ifF (xb_eqS (xd_var 2) xd_str) (by decide) S1 fun H2 S2 => WS.nil ?_)
    refine WS.cons (w_ifF (xb_eqS (xd_var 2) xd_str) (by decide) S2 fun H3 S3 => WS.nil ?_)
    refine WS.cons (w_ifF (xb_eqS (xd_var 2) xd_str) (by decide) S3 fun H4 S4 => WS.nil ?_)
    refine WS.cons (w_ifT (xb_eqS (xd_var 2) xd_str) (by decide) S4 fun H5 S5 => ?_)
    refine WS.cons (w_ret (xd_ixT (xd_ixT (xd_fld (xd_var 0) Z.cls Z.a2 rfl) (xd_is (xd_fld (xd_var 0) Z.cls Z.a4 rfl) e2) (atI_nat hr1)) (xd_ixT (xd_var 1) xd_int rfl) (atI_nat (hr3 b hb))) S5 S5.lim fun d v H3 p3 S3 => hq _ _ _ _ _ _ _ ?_ S3)
    rw [p3]
    show _ = Dt.int (boxAt g.st (g.other.getD 0) b)
    rw [e1]
    rfl
  | it =>
    obtain ⟨o, e1, ho⟩ := hg.other ht
    have e2 : oN g.other = nD o := by rw [e1]; rfl
    refine WS.cons (w_set 2 (xd_ixT (xd_var 1) xd_int rfl) S0 S0.lim (fun d σ1 H1 p1 S1 => ?_) scPlain.nd)
    subst p1
    refine WS.cons (w_ifF (xb_eqS (xd_var 2) xd_str) (by decide) S1 fun H2 S2 => WS.nil ?_)
    refine WS.cons (w_ifF (xb_eqS (xd_var 2) xd_str) (by decide) S2 fun H3 S3 => WS.nil ?_)
    refine WS.cons (w_ifF (xb_eqS (xd_var 2) xd_str) (by decide) S3 fun H4 S4 => WS.nil ?_)
    refine WS.cons (w_ifF (xb_eqS (xd_var 2) xd_str) (by decide) S4 fun H5 S5 => WS.nil ?_)
    refine WS.cons (w_ifT (xb_eqS (xd_var 2) xd_str) (by decide) S5 fun H6 S6 => ?_)
    refine WS.cons (w_ret (xd_is (xd_fld (xd_var 0) Z.cls Z.a4 rfl) e2) S6 S6.lim fun d v H3 p3 S3 => hq _ _ _ _ _ _ _ ?_ S3)
    rw [p3]
    show _ = Dt.int ((g.other.getD 0 : Nat) : Int)
    rw [e1]
    rfl
  | _ => cases hp
/-! by_eye -/
abbrev sEye : Stmt := inClass clsS 3
theorem scEye : FnScope ["self", "place", "box", "seen"] ["self", "place", "box"] (defScope sEye) := ⟨rfl, rfl, rfl, by decide +kernel, rfl, by decide +kernel, by decide +kernel⟩
structure Tx2 extends Gx where
  e : Nat
  b : Nat
abbrev spEye (K : PySem.W.Frag) (C : Addr) : Sp := spD K (fun (x : Tx2) ds => ds = [enSg C x.g, nD x.e, nD x.b] ∧ WfSg x.n x.k x.i x.g ∧ x.b < x.k) fun x d => d = .int (val (.eye x.e x.b) x.g)
theorem ok_eye {kk : Nat} (F : Fun K "by_eye" "Sight.by_eye" sEye f fd) (Z : SgC K C) (M : Bi mg) : FnOk P w K mg base CX0 (kk + 1) f fd ["self", "place", "box"] (spEye K C) := by
  refine Fun.okD F scEye (fun y ds h => by obtain ⟨rfl, _⟩ := h; rfl) fun cdv A outer s H E hr y ds B σ Q p S0 hq => ?_
  obtain ⟨⟨n, k, i, g⟩, e, b⟩ := y
  obtain ⟨rfl, hg, hb⟩ : ds = [enSg C g, nD e, nD b] ∧ WfSg n k i g ∧ b < k := p
  refine WS.cons (w_set 3 (xd_ixT (xd_fld (xd_var 0) Z.cls Z.a1 rfl) (xd_fld (xd_var 0) Z.cls Z.a3 rfl) (atI_nat hg.seen_at)) S0 S0.lim (fun d σ1 H1 p1 S1 => ?_) scEye.nd)
  subst p1
  have hle : decide ((((seen g).map nD).length : Int) ≤ (e : Int)) = decide ((seen g).length ≤ e) := by
    rw [List.length_map]
    exact decide_eq_decide.mpr (by omega)
  by_cases h : (seen g).length ≤ e
  · refine WS.cons (w_ifT (xb_ge (xd_var 1) (xd_lenT M.len (ds := (seen g).map nD) (xd_var 3))) (by rw [hle]; exact decide_eq_true h) S1 fun H2 S2 => ?_)
    refine WS.cons (w_ret xd_int S2 S2.lim fun d v H3 p3 S3 => hq _ _ _ _ _ _ _ ?_ S3)
    rw [p3]
    show _ = Dt.int (if _ then _ else _)
    rw [if_pos h]
  · have hlt : e < (seen g).length := by omega
    have hmem : (seen g)[e] ∈ seen g := List.getElem_mem hlt
    obtain ⟨o, e1, ho⟩ := (hg.look hmem).other rfl
    cases e1
    obtain ⟨r, hr1, hr2, hr3⟩ := hg.row ho
    refine WS.cons (w_ifF (xb_ge (xd_var 1) (xd_lenT M.len (ds := (seen g).map nD) (xd_var 3))) (by rw [hle]; exact decide_eq_false h) S1 fun H2 S2 => WS.nil ?_)
    refine WS.cons (w_ret (xd_ixT (xd_ixT (xd_fld (xd_var 0) Z.cls Z.a2 rfl) (xd_ixT (ds := (seen g).map nD) (xd_var 3) (xd_var 1) (atI_nat (by rw [List.getElem?_map, List.getElem?_eq_getElem hlt]; rfl))) (atI_nat hr1)) (xd_var 2) (atI_nat (hr3 b hb))) S2 S2.lim fun d v H3 p3 S3 => hq _ _ _ _ _ _ _ ?_ S3)
    rw [p3]
    show _ = Dt.int (if _ then _ else _)
    rw [if_neg h, List.getD_eq_getElem?_getD, List.getElem?_eq_getElem hlt]
    rfl
end
end Tx


set_option Elab.async false
set_option linter.all false
set_option maxRecDepth 100000
set_option maxHeartbeats 4000000
set_option autoImplicit false
/-! D4: terms and claims. -/
namespace Tx
open PySem PySem.Spec L2 Lg Mo
section
variable {P : Program} {w : World} {K : PySem.W.Frag} {mg : Str → Option Value} {base : Heap} {f : Addr} {fd : FuncData} {C : Addr} {n k : Nat} {i : Bool} {g : Sgt}
def isRk : Mo.Tm → Bool
  | .plus _ _ => true | .less _ _ => true | .rest _ _ => true | .ite _ _ _ => true | _ => false
structure Cx1 extends Gx where
  c : Cl
def preC (C : Addr) (q : Cl → Prop) (x : Cx1) (ds : List Dt) : Prop := ds = [enSg C x.g, enC x.c] ∧ WfSg x.n x.k x.i x.g ∧ wfC x.n x.k x.i x.c ∧ q x.c
abbrev spC (K : PySem.W.Frag) (C : Addr) (q : Cl → Prop) : Sp := spD K (preC C q) fun x d => d = .bl (hol x.c x.g)
/-- both at one depth -/
structure Both (P : Program) (w : World) (K : PySem.W.Frag) (mg : Str → Option Value) (base : Heap) (C : Addr) (kk d : Nat) : Prop where
  nu : MDef P w K mg base CX0 kk C "number_at" ["self", "term"] (spT K C fun t => dpT t < d)
  so : MDef P w K mg base CX0 kk C "is_so" ["self", "claim"] (spC K C fun c => dpC c < d)
section
variable {X : Cx} {O : List (Addr × Ow)} {ρ : List Sl} {o a : Expr} {pos apos : Pos} {kk d : Nat}
/-- self.number_at(term[j]) -/
theorem xd_nu {pl : Sem Bool} (N : Both X.prog X.w X.K X.mg X.base C kk d) (Z : SgC X.K C) (hr : Room kk X.A) (ho : XD X o O ρ (enSg C g)) (t : Mo.Tm) (ha : XD X a O ρ (enT t)) (hg : WfSg n k i g) (ht : wfT n k i t) (hd : dpT t < d)
    (hst : starEach [a] X.env = (false, eval a X.env) :: starEach [] X.env := by rfl) (hpl : (backTo pos (starEach [] X.env)).any (·.1) = false := by rfl)
    (hev : eval (.Call (.Attribute o "number_at" apos) [a] [] pos) X.env = (do
      let ov ← eval o X.env
      standAt apos.atName
      let (f, first) ← holding [ov] (getMethod ov "number_at" pl)
      callWith pos f first (backTo pos (starEach [a] X.env)) (backToKw pos (keywordEach [] X.env))) := by rfl) : XD X (.Call (.Attribute o "number_at" apos) [a] [] pos) O ρ (.int (val t g)) :=
  xd_meth (⟨⟨n, k, i, g⟩, t⟩ : Tx1) ho Z.cls rfl N.nu hr pass0 (xl_cons ha xl_nil hst) ⟨rfl, hg, ht, hd⟩ (fun d' h => h) hst hpl hev
theorem xd_so {pl : Sem Bool} (N : Both X.prog X.w X.K X.mg X.base C kk d) (Z : SgC X.K C) (hr : Room kk X.A) (ho : XD X o O ρ (enSg C g)) (c : Cl) (ha : XD X a O ρ (enC c)) (hg : WfSg n k i g) (ht : wfC n k i c) (hd : dpC c < d)
    (hst : starEach [a] X.env = (false, eval a X.env) :: starEach [] X.env := by rfl) (hpl : (backTo pos (starEach [] X.env)).any (·.1) = false := by rfl)
    (hev : eval (.Call (.Attribute o "is_so" apos) [a] [] pos) X.env = (do
      let ov ← eval o X.env
      standAt apos.atName
      let (f, first) ← holding [ov] (getMethod ov "is_so" pl)
      callWith pos f first (backTo pos (starEach [a] X.env)) (backToKw pos (keywordEach [] X.env))) := by rfl) : XD X (.Call (.Attribute o "is_so" apos) [a] [] pos) O ρ (.bl (hol c g)) :=
  xd_meth (⟨⟨n, k, i, g⟩, c⟩ : Cx1) ho Z.cls rfl N.so hr pass0 (xl_cons ha xl_nil hst) ⟨rfl, hg, ht, hd⟩ (fun d' h => h) hst hpl hev
end
/-! reckoned -/
abbrev sRek : Stmt := inClass clsS 4
theorem scRek : FnScope ["self", "term", "word"] ["self", "term"] (defScope sRek) := ⟨rfl, rfl, rfl, by decide +kernel, rfl, by decide +kernel, by decide +kernel⟩
theorem max2_eq (z : Int) : (if z > 0 then z else 0) = max 0 z := by omega
theorem ok_rek {kk d : Nat} (F : Fun K "reckoned" "Sight.reckoned" sRek f fd) (Z : SgC K C) (M : Bi mg) (N : Both P w K mg base C kk d) : FnOk P w K mg base CX0 (kk + 1) f fd ["self", "term"] (spT K C fun t => isRk t = true ∧ dpT t < d + 1) := by
  refine Fun.okD F scRek (fun y ds h => by obtain ⟨rfl, _⟩ := h; rfl) fun cdv A outer s H E hr y ds B σ Q p S0 hq => ?_
  obtain ⟨⟨n, k, i, g⟩, t⟩ := y
  obtain ⟨rfl, hg, ht, hp, hd⟩ : ds = [enSg C g, enT t] ∧ WfSg n k i g ∧ wfT n k i t ∧ isRk t = true ∧ dpT t < d + 1 := p
  cases t with
  | plus x y =>
    obtain ⟨h1, h2⟩ : wfT n k i x ∧ wfT n k i y := ht
    have hd' : max (dpT x) (dpT y) + 1 < d + 1 := hd
    refine WS.cons (w_set 2 (xd_ixT (xd_var 1) xd_int rfl) S0 S0.lim (fun d σ1 H1 p1 S1 => ?_) scRek.nd)
    subst p1
    refine WS.cons (w_ifT (xb_eqS (xd_var 2) xd_str) (by decide) S1 fun H2 S2 => ?_)
    exact WS.cons (w_ret (xd_add (xd_nu N Z hr (xd_var 0) x (xd_ixT (xd_var 1) xd_int rfl) hg h1 (by omega)) (xd_nu N Z hr (xd_var 0) y (xd_ixT (xd_var 1) xd_int rfl) hg h2 (by omega))) S2 S2.lim fun d v H3 p3 S3 => hq _ _ _ _ _ _ _ p3 S3)
  | less x y =>
    obtain ⟨h1, h2⟩ : wfT n k i x ∧ wfT n k i y := ht
    have hd' : max (dpT x) (dpT y) + 1 < d + 1 := hd
    refine WS.cons (w_set 2 (xd_ixT (xd_var 1) xd_int rfl) S0 S0.lim (fun d σ1 H1 p1 S1 => ?_) scRek.nd)
    subst p1
    refine WS.cons (w_ifF (xb_eqS (xd_var 2) xd_str) (by decide) S1 fun H2 S2 => WS.nil ?_)
    refine WS.cons (w_ifT (xb_eqS (xd_var 2) xd_str) (by decide) S2 fun H3 S3 => ?_)
    exact WS.cons (w_ret (xd_max2 rfl M.max xd_int (xd_sub (xd_nu N Z hr (xd_var 0) x (xd_ixT (xd_var 1) xd_int rfl) hg h1 (by omega)) (xd_nu N Z hr (xd_var 0) y (xd_ixT (xd_var 1) xd_int rfl) hg h2 (by omega)))) S3 S3.lim fun d v H3 p3 S3 => hq _ _ _ _ _ _ _ (by rw [p3, max2_eq]; rfl) S3)
  | rest x m =>
    obtain ⟨h1, h2⟩ : wfT n k i x ∧ 0 < m := ht
    have hd' : dpT x + 1 < d + 1 := hd
    refine WS.cons (w_set 2 (xd_ixT (xd_var 1) xd_int rfl) S0 S0.lim (fun d σ1 H1 p1 S1 => ?_) scRek.nd)
    subst p1
    refine WS.cons (w_ifF (xb_eqS (xd_var 2) xd_str) (by decide) S1 fun H2 S2 => WS.nil ?_)
    refine WS.cons (w_ifF (xb_eqS (xd_var 2) xd_str) (by decide) S2 fun H3 S3 => WS.nil ?_)
    refine WS.cons (w_ifT (xb_eqS (xd_var 2) xd_str) (by decide) S3 fun H4 S4 => ?_)
    exact WS.cons (w_ret (xd_mod (xd_nu N Z hr (xd_var 0) x (xd_ixT (xd_var 1) xd_int rfl) hg h1 (by omega)) (xd_ixT (xd_var 1) xd_int rfl) h2) S4 S4.lim fun d v H3 p3 S3 => hq _ _ _ _ _ _ _ p3 S3)
  | ite c x y =>
    obtain ⟨h0, h1, h2⟩ : wfC n k i c ∧ wfT n k i x ∧ wfT n k i y := ht
    have hd' : max (dpC c) (max (dpT x) (dpT y)) + 1 < d + 1 := hd
    refine WS.cons (w_set 2 (xd_ixT (xd_var 1) xd_int rfl) S0 S0.lim (fun d σ1 H1 p1 S1 => ?_) scRek.nd)
    subst p1
    refine WS.cons (w_ifF (xb_eqS (xd_var 2) xd_str) (by decide) S1 fun H2 S2 => WS.nil ?_)
    refine WS.cons (w_ifF (xb_eqS (xd_var 2) xd_str) (by decide) S2 fun H3 S3 => WS.nil ?_)
    refine WS.cons (w_ifF (xb_eqS (xd_var 2) xd_str) (by decide) S3 fun H4 S4 => WS.nil ?_)
    have ev : val (.ite c x y) g = if hol c g then val x g else val y g := rfl
    cases hcv : hol c g with
    | true =>
      refine WS.cons (w_ifT (xb_val (xd_so N Z hr (xd_var 0) c (xd_ixT (xd_var 1) xd_int rfl) hg h0 (by omega))) hcv S4 fun H5 S5 => ?_)
      exact WS.cons (w_ret (xd_nu N Z hr (xd_var 0) x (xd_ixT (xd_var 1) xd_int rfl) hg h1 (by omega)) S5 S5.lim fun d v H3 p3 S3 => hq _ _ _ _ _ _ _ (by rw [p3]; show _ = Dt.int (val (.ite c x y) g); rw [ev, hcv]; rfl) S3)
    | false =>
      refine WS.cons (w_ifF (xb_val (xd_so N Z hr (xd_var 0) c (xd_ixT (xd_var 1) xd_int rfl) hg h0 (by omega))) hcv S4 fun H5 S5 => WS.nil ?_)
      exact WS.cons (w_ret (xd_nu N Z hr (xd_var 0) y (xd_ixT (xd_var 1) xd_int rfl) hg h2 (by omega)) S5 S5.lim fun d v H3 p3 S3 => hq _ _ _ _ _ _ _ (by rw [p3]; show _ = Dt.int (val (.ite c x y) g); rw [ev, hcv]; rfl) S3)
  | _ => cases hp
/-! number_at -/
abbrev sNum : Stmt := inClass clsS 5
theorem scNum : FnScope ["self", "term", "word", "one"] ["self", "term"] (defScope sNum) := ⟨rfl, rfl, rfl, by decide +kernel, rfl, by decide +kernel, by decide +kernel⟩
theorem ok_num {kk d : Nat} (F : Fun K "number_at" "Sight.number_at" sNum f fd) (Z : SgC K C) (M : Bi mg) (N : Both P w K mg base C kk d) (G1 : MDef P w K mg base CX0 kk C "plain" ["self", "term"] (spT K C fun t => isPl t = true))
    (G2 : MDef P w K mg base CX0 kk C "by_eye" ["self", "place", "box"] (spEye K C)) (G3 : MDef P w K mg base CX0 kk C "over_others" ["self"] (spOver K C)) (G4 : MDef P w K mg base CX0 kk C "reckoned" ["self", "term"] (spT K C fun t => isRk t = true ∧ dpT t < d + 1)) :
    FnOk P w K mg base CX0 (kk + 1) f fd ["self", "term"] (spT K C fun t => dpT t < d + 1) := by
  refine Fun.okD F scNum (fun y ds h => by obtain ⟨rfl, _⟩ := h; rfl) fun cdv A outer s H E hr y ds B σ Q p S0 hq => ?_
  obtain ⟨⟨n, k, i, g⟩, t⟩ := y
  obtain ⟨rfl, hg, ht, hd⟩ : ds = [enSg C g, enT t] ∧ WfSg n k i g ∧ wfT n k i t ∧ dpT t < d + 1 := p
  have pl : ∀ (wd : Str) (r : List Dt), enT t = .tup (.str wd :: r) → wd ∈ ([("num" : Str), "own", "me", "its", "it"] : List Str) → isPl t = true → WS (cxOf CX0 P w K mg base ["self", "term", "word", "one"] "Sight.number_at" (defScope sNum) f cdv A outer s H E).nox (defBody sNum) { nx := fun x H' => Q .non H', rt := Q } σ H := fun wd r e1 e2 e3 => by
    refine WS.cons (w_set 2 (xd_ixT (d := .str wd) (ds := .str wd :: r) (xd_is (xd_var 1) e1) xd_int (atI_nat (j := 0) rfl)) S0 S0.lim (fun d σ1 H1 p1 S1 => ?_) scNum.nd)
    subst p1
    refine WS.cons (w_ifT (xb_inS (ns := [("num" : Str), "own", "me", "its", "it"]) (xd_var 2) (xd_tup (xl_cons xd_str (xl_cons xd_str (xl_cons xd_str (xl_cons xd_str (xl_cons xd_str xl_nil))))))) (decide_eq_true e2) S1 fun H2 S2 => ?_)
    exact WS.cons (w_ret (xd_meth (⟨⟨n, k, i, g⟩, t⟩ : Tx1) (xd_var 0) Z.cls rfl G1 hr pass0 (xl_cons (xd_var 1) xl_nil) ⟨rfl, hg, ht, e3⟩ fun d' h => h) S2 S2.lim fun d v H3 p3 S3 => hq _ _ _ _ _ _ _ p3 S3)
  have rk : ∀ (wd : Str) (r : List Dt), enT t = .tup (.str wd :: r) → wd ∉ ([("num" : Str), "own", "me", "its", "it"] : List Str) → wd ≠ "eye" → wd ≠ "least" → wd ≠ "most" → wd ≠ "many" → isRk t = true → WS (cxOf CX0 P w K mg base ["self", "term", "word", "one"] "Sight.number_at" (defScope sNum) f cdv A outer s H E).nox (defBody sNum) { nx := fun x H' => Q .non H', rt := Q } σ H := fun wd r e1 e2 f1 f2 f3 f4 e3 => by
    refine WS.cons (w_set 2 (xd_ixT (d := .str wd) (ds := .str wd :: r) (xd_is (xd_var 1) e1) xd_int (atI_nat (j := 0) rfl)) S0 S0.lim (fun d σ1 H1 p1 S1 => ?_) scNum.nd)
    subst p1
    refine WS.cons (w_ifF (xb_inS (ns := [("num" : Str), "own", "me", "its", "it"]) (xd_var 2) (xd_tup (xl_cons xd_str (xl_cons xd_str (xl_cons xd_str (xl_cons xd_str (xl_cons xd_str xl_nil))))))) (decide_eq_false e2) S1 fun H2 S2 => WS.nil ?_)
    refine WS.cons (w_ifF (xb_eqS (xd_var 2) xd_str) (decide_eq_false f1) S2 fun H3 S3 => WS.nil ?_)
    refine WS.cons (w_ifF (xb_eqS (xd_var 2) xd_str) (decide_eq_false f2) S3 fun H4 S4 => WS.nil ?_)
    refine WS.cons (w_ifF (xb_eqS (xd_var 2) xd_str) (decide_eq_false f3) S4 fun H5 S5 => WS.nil ?_)
    refine WS.cons (w_ifF (xb_eqS (xd_var 2) xd_str) (decide_eq_false f4) S5 fun H6 S6 => WS.nil ?_)
    exact WS.cons (w_ret (xd_meth (⟨⟨n, k, i, g⟩, t⟩ : Tx1) (xd_var 0) Z.cls rfl G4 hr pass0 (xl_cons (xd_var 1) xl_nil) ⟨rfl, hg, ht, e3, hd⟩ fun d' h => h) S6 S6.lim fun d v H3 p3 S3 => hq _ _ _ _ _ _ _ p3 S3)
  cases t with
  | num z => exact pl _ _ rfl (by decide) rfl
  | own z => exact pl _ _ rfl (by decide) rfl
  | me => exact pl _ _ rfl (by decide) rfl
  | its z => exact pl _ _ rfl (by decide) rfl
  | it => exact pl _ _ rfl (by decide) rfl
  | plus x y => exact rk _ _ rfl (by decide) (by decide) (by decide) (by decide) (by decide) rfl
  | less x y => exact rk _ _ rfl (by decide) (by decide) (by decide) (by decide) (by decide) rfl
  | rest x y => exact rk _ _ rfl (by decide) (by decide) (by decide) (by decide) (by decide) rfl
  | ite c x y => exact rk _ _ rfl (by decide) (by decide) (by decide) (by decide) (by decide) rfl
  | eye e b =>
    refine WS.cons (w_set 2 (xd_ixT (xd_var 1) xd_int rfl) S0 S0.lim (fun d σ1 H1 p1 S1 => ?_) scNum.nd)
    subst p1
    refine WS.cons (w_ifF (xb_inS (ns := [("num" : Str), "own", "me", "its", "it"]) (xd_var 2) (xd_tup (xl_cons xd_str (xl_cons xd_str (xl_cons xd_str (xl_cons xd_str (xl_cons xd_str xl_nil))))))) (by decide) S1 fun H2 S2 => WS.nil ?_)
    refine WS.cons (w_ifT (xb_eqS (xd_var 2) xd_str) (by decide) S2 fun H3 S3 => ?_)
    exact WS.cons (w_ret (xd_meth (⟨⟨n, k, i, g⟩, e, b⟩ : Tx2) (xd_var 0) Z.cls rfl G2 hr pass0 (xl_cons (xd_ixT (xd_var 1) xd_int rfl) (xl_cons (xd_ixT (xd_var 1) xd_int rfl) xl_nil)) ⟨rfl, hg, ht⟩ fun d' h => h) S3 S3.lim fun d v H3 p3 S3 => hq _ _ _ _ _ _ _ p3 S3)
  | least x =>
    have hd' : dpT x + 1 < d + 1 := hd
    refine WS.cons (w_set 2 (xd_ixT (xd_var 1) xd_int rfl) S0 S0.lim (fun d σ1 H1 p1 S1 => ?_) scNum.nd)
    subst p1
    refine WS.cons (w_ifF (xb_inS (ns := [("num" : Str), "own", "me", "its", "it"]) (xd_var 2) (xd_tup (xl_cons xd_str (xl_cons xd_str (xl_cons xd_str (xl_cons xd_str (xl_cons xd_str xl_nil))))))) (by decide) S1 fun H2 S2 => WS.nil ?_)
    refine WS.cons (w_ifF (xb_eqS (xd_var 2) xd_str) (by decide) S2 fun H3 S3 => WS.nil ?_)
    refine WS.cons (w_ifT (xb_eqS (xd_var 2) xd_str) (by decide) S3 fun H4 S4 => ?_)
    refine WS.cons (w_ret (xd_minZ (ns := (seen g).map fun o => val x { g with other := some o }) rfl hr.units M.min (XD.ls (EvP.imp (xe_lcO rfl scNum.nd (blkOk_by (N := ["self", "term", "word", "one"]) (sc := defScope sNum) (own := [("one", 3)]) (by decide +kernel))
      (ev_lcD [("one", 3)] (fun o => enSg C { g with other := some o }) (fun _ => true) (fun o => .int (val x { g with other := some o })) (seen g) (ρt := fun o => [.d (enSg C g), .d (enT (.least x)), .d (.str "least"), .d (enSg C { g with other := some o })]) (is := [3])
        (xj_list (xd_meth0 (⟨n, k, i, g⟩ : Gx) (xd_var 0) Z.cls rfl G3 hr pass0 ⟨rfl, hg⟩ fun d' h => h)) (fun i h => h) (by have := hg.seen_few; omega) (fun o ho s H0 C cl fp => xg_name 3 scNum.nd) (fun o ho s H0 C cl fp => EvT.imp xts_nil fun b h => h)
        (fun o ho _ s H0 C cl fp => xd_nu N Z hr (xd_var 3) x (xd_ixT (xd_var 1) xd_int rfl) (hg.look ho) ht (by omega)))) (fun d h => by rw [h, filt_true, List.map_map]; rfl))) xd_int) S4 S4.lim fun d v H3 p3 S3 => hq _ _ _ _ _ _ _ p3 S3)
  | most x =>
    have hd' : dpT x + 1 < d + 1 := hd
    refine WS.cons (w_set 2 (xd_ixT (xd_var 1) xd_int rfl) S0 S0.lim (fun d σ1 H1 p1 S1 => ?_) scNum.nd)
    subst p1
    refine WS.cons (w_ifF (xb_inS (ns := [("num" : Str), "own", "me", "its", "it"]) (xd_var 2) (xd_tup (xl_cons xd_str (xl_cons xd_str (xl_cons xd_str (xl_cons xd_str (xl_cons xd_str xl_nil))))))) (by decide) S1 fun H2 S2 => WS.nil ?_)
    refine WS.cons (w_ifF (xb_eqS (xd_var 2) xd_str) (by decide) S2 fun H3 S3 => WS.nil ?_)
    refine WS.cons (w_ifF (xb_eqS (xd_var 2) xd_str) (by decide) S3 fun H3 S4 => WS.nil ?_)
    refine WS.cons (w_ifT (xb_eqS (xd_var 2) xd_str) (by decide) S4 fun H4 S5 => ?_)
    refine WS.cons (w_ret (xd_maxZ (ns := (seen g).map fun o => val x { g with other := some o }) rfl hr.units M.max (XD.ls (EvP.imp (xe_lcO rfl scNum.nd (blkOk_by (N := ["self", "term", "word", "one"]) (sc := defScope sNum) (own := [("one", 3)]) (by decide +kernel))
      (ev_lcD [("one", 3)] (fun o => enSg C { g with other := some o }) (fun _ => true) (fun o => .int (val x { g with other := some o })) (seen g) (ρt := fun o => [.d (enSg C g), .d (enT (.most x)), .d (.str "most"), .d (enSg C { g with other := some o })]) (is := [3])
        (xj_list (xd_meth0 (⟨n, k, i, g⟩ : Gx) (xd_var 0) Z.cls rfl G3 hr pass0 ⟨rfl, hg⟩ fun d' h => h)) (fun i h => h) (by have := hg.seen_few; omega) (fun o ho s H0 C cl fp => xg_name 3 scNum.nd) (fun o ho s H0 C cl fp => EvT.imp xts_nil fun b h => h)
        (fun o ho _ s H0 C cl fp => xd_nu N Z hr (xd_var 3) x (xd_ixT (xd_var 1) xd_int rfl) (hg.look ho) ht (by omega)))) (fun d h => by rw [h, filt_true, List.map_map]; rfl))) xd_int) S5 S5.lim fun d v H3 p3 S3 => hq _ _ _ _ _ _ _ p3 S3)
  | many c =>
    have hd' : dpC c + 1 < d + 1 := hd
    refine WS.cons (w_set 2 (xd_ixT (xd_var 1) xd_int rfl) S0 S0.lim (fun d σ1 H1 p1 S1 => ?_) scNum.nd)
    subst p1
    refine WS.cons (w_ifF (xb_inS (ns := [("num" : Str), "own", "me", "its", "it"]) (xd_var 2) (xd_tup (xl_cons xd_str (xl_cons xd_str (xl_cons xd_str (xl_cons xd_str (xl_cons xd_str xl_nil))))))) (by decide) S1 fun H2 S2 => WS.nil ?_)
    refine WS.cons (w_ifF (xb_eqS (xd_var 2) xd_str) (by decide) S2 fun H3 S3 => WS.nil ?_)
    refine WS.cons (w_ifF (xb_eqS (xd_var 2) xd_str) (by decide) S3 fun H3 S4 => WS.nil ?_)
    refine WS.cons (w_ifF (xb_eqS (xd_var 2) xd_str) (by decide) S4 fun H3 S5 => WS.nil ?_)
    refine WS.cons (w_ifT (xb_eqS (xd_var 2) xd_str) (by decide) S5 fun H4 S6 => ?_)
    refine WS.cons (w_ret (xd_len M.len (XD.ls (xe_lcO rfl scNum.nd (blkOk_by (N := ["self", "term", "word", "one"]) (sc := defScope sNum) (own := [("one", 3)]) (by decide +kernel))
      (ev_lcD [("one", 3)] (fun o => enSg C { g with other := some o }) (fun o => hol c { g with other := some o }) (fun o => enSg C { g with other := some o }) (seen g) (ρt := fun o => [.d (enSg C g), .d (enT (.many c)), .d (.str "many"), .d (enSg C { g with other := some o })]) (is := [3])
        (xj_list (xd_meth0 (⟨n, k, i, g⟩ : Gx) (xd_var 0) Z.cls rfl G3 hr pass0 ⟨rfl, hg⟩ fun d' h => h)) (fun i h => h) (by have := hg.seen_few; omega) (fun o ho s H0 C cl fp => xg_name 3 scNum.nd) (fun o ho s H0 C cl fp => xts_one (xb_val (xd_so N Z hr (xd_var 3) c (xd_ixT (xd_var 1) xd_int rfl) (hg.look ho) ht (by omega))))
        (fun o ho _ s H0 C cl fp => xd_var 3))))) S6 S6.lim fun d v H3 p3 S3 => hq _ _ _ _ _ _ _ (by rw [p3, List.length_map]; rfl) S3)
/-! is_so -/
abbrev sSo : Stmt := inClass clsS 6
theorem scSo : FnScope ["self", "claim", "word"] ["self", "claim"] (defScope sSo) := ⟨rfl, rfl, rfl, by decide +kernel, rfl, by decide +kernel, by decide +kernel⟩
theorem ok_so {kk d : Nat} (F : Fun K "is_so" "Sight.is_so" sSo f fd) (Z : SgC K C) (N : Both P w K mg base C kk d) : FnOk P w K mg base CX0 (kk + 1) f fd ["self", "claim"] (spC K C fun c => dpC c < d + 1) := by
  refine Fun.okD F scSo (fun y ds h => by obtain ⟨rfl, _⟩ := h; rfl) fun cdv A outer s H E hr y ds B σ Q p S0 hq => ?_
  obtain ⟨⟨n, k, i, g⟩, c⟩ := y
  obtain ⟨rfl, hg, ht, hd⟩ : ds = [enSg C g, enC c] ∧ WfSg n k i g ∧ wfC n k i c ∧ dpC c < d + 1 := p
  cases c with
  | yes =>
    refine WS.cons (w_set 2 (xd_ixT (xd_var 1) xd_int rfl) S0 S0.lim (fun d σ1 H1 p1 S1 => ?_) scSo.nd)
    subst p1
    refine WS.cons (w_ifT (xb_eqS (xd_var 2) xd_str) (by decide) S1 fun H2 S2 => ?_)
    exact WS.cons (w_ret xd_bl S2 S2.lim fun d v H3 p3 S3 => hq _ _ _ _ _ _ _ p3 S3)
  | like x y =>
    obtain ⟨h1, h2⟩ : wfT n k i x ∧ wfT n k i y := ht
    have hd' : max (dpT x) (dpT y) + 1 < d + 1 := hd
    refine WS.cons (w_set 2 (xd_ixT (xd_var 1) xd_int rfl) S0 S0.lim (fun d σ1 H1 p1 S1 => ?_) scSo.nd)
    subst p1
    refine WS.cons (w_ifF (xb_eqS (xd_var 2) xd_str) (by decide) S1 fun H2 S2 => WS.nil ?_)
    refine WS.cons (w_ifT (xb_eqS (xd_var 2) xd_str) (by decide) S2 fun H3 S3 => ?_)
    exact WS.cons (w_ret (xd_eq (xd_nu N Z hr (xd_var 0) x (xd_ixT (xd_var 1) xd_int rfl) hg h1 (by omega)) (xd_nu N Z hr (xd_var 0) y (xd_ixT (xd_var 1) xd_int rfl) hg h2 (by omega))) S3 S3.lim fun d v H3 p3 S3 => hq _ _ _ _ _ _ _ p3 S3)
  | blw x y =>
    obtain ⟨h1, h2⟩ : wfT n k i x ∧ wfT n k i y := ht
    have hd' : max (dpT x) (dpT y) + 1 < d + 1 := hd
    refine WS.cons (w_set 2 (xd_ixT (xd_var 1) xd_int rfl) S0 S0.lim (fun d σ1 H1 p1 S1 => ?_) scSo.nd)
    subst p1
    refine WS.cons (w_ifF (xb_eqS (xd_var 2) xd_str) (by decide) S1 fun H2 S2 => WS.nil ?_)
    refine WS.cons (w_ifF (xb_eqS (xd_var 2) xd_str) (by decide) S2 fun H3 S3 => WS.nil ?_)
    refine WS.cons (w_ifT (xb_eqS (xd_var 2) xd_str) (by decide) S3 fun H4 S4 => ?_)
    exact WS.cons (w_ret (xd_lt (xd_nu N Z hr (xd_var 0) x (xd_ixT (xd_var 1) xd_int rfl) hg h1 (by omega)) (xd_nu N Z hr (xd_var 0) y (xd_ixT (xd_var 1) xd_int rfl) hg h2 (by omega))) S4 S4.lim fun d v H3 p3 S3 => hq _ _ _ _ _ _ _ p3 S3)
  | neg c =>
    have hd' : dpC c + 1 < d + 1 := hd
    refine WS.cons (w_set 2 (xd_ixT (xd_var 1) xd_int rfl) S0 S0.lim (fun d σ1 H1 p1 S1 => ?_) scSo.nd)
    subst p1
    refine WS.cons (w_ifF (xb_eqS (xd_var 2) xd_str) (by decide) S1 fun H2 S2 => WS.nil ?_)
    refine WS.cons (w_ifF (xb_eqS (xd_var 2) xd_str) (by decide) S2 fun H3 S3 => WS.nil ?_)
    refine WS.cons (w_ifF (xb_eqS (xd_var 2) xd_str) (by decide) S3 fun H4 S4 => WS.nil ?_)
    refine WS.cons (w_ifT (xb_eqS (xd_var 2) xd_str) (by decide) S4 fun H5 S5 => ?_)
    exact WS.cons (w_ret (xd_notV (xd_so N Z hr (xd_var 0) c (xd_ixT (xd_var 1) xd_int rfl) hg ht (by omega))) S5 S5.lim fun d v H3 p3 S3 => hq _ _ _ _ _ _ _ p3 S3)
  | and c c2 =>
    obtain ⟨h1, h2⟩ : wfC n k i c ∧ wfC n k i c2 := ht
    have hd' : max (dpC c) (dpC c2) + 1 < d + 1 := hd
    refine WS.cons (w_set 2 (xd_ixT (xd_var 1) xd_int rfl) S0 S0.lim (fun d σ1 H1 p1 S1 => ?_) scSo.nd)
    subst p1
    refine WS.cons (w_ifF (xb_eqS (xd_var 2) xd_str) (by decide) S1 fun H2 S2 => WS.nil ?_)
    refine WS.cons (w_ifF (xb_eqS (xd_var 2) xd_str) (by decide) S2 fun H3 S3 => WS.nil ?_)
    refine WS.cons (w_ifF (xb_eqS (xd_var 2) xd_str) (by decide) S3 fun H4 S4 => WS.nil ?_)
    refine WS.cons (w_ifF (xb_eqS (xd_var 2) xd_str) (by decide) S4 fun H5 S5 => WS.nil ?_)
    refine WS.cons (w_ifT (xb_eqS (xd_var 2) xd_str) (by decide) S5 fun H5 S6 => ?_)
    exact WS.cons (w_ret (xd_andV (xd_so N Z hr (xd_var 0) c (xd_ixT (xd_var 1) xd_int rfl) hg h1 (by omega)) fun _ => xd_so N Z hr (xd_var 0) c2 (xd_ixT (xd_var 1) xd_int rfl) hg h2 (by omega)) S6 S6.lim fun d v H3 p3 S3 => hq _ _ _ _ _ _ _ p3 S3)
  | or c c2 =>
    obtain ⟨h1, h2⟩ : wfC n k i c ∧ wfC n k i c2 := ht
    have hd' : max (dpC c) (dpC c2) + 1 < d + 1 := hd
    refine WS.cons (w_set 2 (xd_ixT (xd_var 1) xd_int rfl) S0 S0.lim (fun d σ1 H1 p1 S1 => ?_) scSo.nd)
    subst p1
    refine WS.cons (w_ifF (xb_eqS (xd_var 2) xd_str) (by decide) S1 fun H2 S2 => WS.nil ?_)
    refine WS.cons (w_ifF (xb_eqS (xd_var 2) xd_str) (by decide) S2 fun H3 S3 => WS.nil ?_)
    refine WS.cons (w_ifF (xb_eqS (xd_var 2) xd_str) (by decide) S3 fun H4 S4 => WS.nil ?_)
    refine WS.cons (w_ifF (xb_eqS (xd_var 2) xd_str) (by decide) S4 fun H5 S5 => WS.nil ?_)
    refine WS.cons (w_ifF (xb_eqS (xd_var 2) xd_str) (by decide) S5 fun H5 S6 => WS.nil ?_)
    exact WS.cons (w_ret (xd_orV (xd_so N Z hr (xd_var 0) c (xd_ixT (xd_var 1) xd_int rfl) hg h1 (by omega)) fun _ => xd_so N Z hr (xd_var 0) c2 (xd_ixT (xd_var 1) xd_int rfl) hg h2 (by omega)) S6 S6.lim fun d v H3 p3 S3 => hq _ _ _ _ _ _ _ p3 S3)
/-! all depths -/
structure MF (K : PySem.W.Frag) (C : Addr) (m q : Str) (st : Stmt) (ps : List Str) : Prop where
  ex : ∃ f fd, Fun K m q st f fd ∧ Meth K C m f ∧ Binds K fd ps []
structure SgF (K : PySem.W.Frag) (C : Addr) : Prop where
  over : MF K C "over_others" "Sight.over_others" sOver ["self"]
  plain : MF K C "plain" "Sight.plain" sPlain ["self", "term"]
  eye : MF K C "by_eye" "Sight.by_eye" sEye ["self", "place", "box"]
  rek : MF K C "reckoned" "Sight.reckoned" sRek ["self", "term"]
  num : MF K C "number_at" "Sight.number_at" sNum ["self", "term"]
  so : MF K C "is_so" "Sight.is_so" sSo ["self", "claim"]
theorem both {k0 : Nat} (Z : SgC K C) (Y : SgM P w K mg base C k0) (M : Bi mg) (W : SgF K C) : ∀ d, Both P w K mg base C (k0 + 3 + 2 * d) d
  | 0 => by
    obtain ⟨f1, fd1, a1, a2, a3⟩ := W.num.ex
    obtain ⟨f2, fd2, b1, b2, b3⟩ := W.so.ex
    refine ⟨.of (Fun.okD (k := k0 + 2) a1 scNum (fun y ds h => absurd h.2.2.2 (Nat.not_lt_zero _)) fun cdv A outer s H E hr y ds B σ Q p S0 hq => absurd p.2.2.2 (Nat.not_lt_zero _)) a2 a3,
      .of (Fun.okD (k := k0 + 2) b1 scSo (fun y ds h => absurd h.2.2.2 (Nat.not_lt_zero _)) fun cdv A outer s H E hr y ds B σ Q p S0 hq => absurd p.2.2.2 (Nat.not_lt_zero _)) b2 b3⟩
  | d + 1 => by
    have N := both Z Y M W d
    obtain ⟨f1, fd1, a1, a2, a3⟩ := W.num.ex
    obtain ⟨f2, fd2, b1, b2, b3⟩ := W.so.ex
    obtain ⟨f3, fd3, c1, c2, c3⟩ := W.over.ex
    obtain ⟨f4, fd4, d1, d2, d3⟩ := W.plain.ex
    obtain ⟨f5, fd5, e1, e2, e3⟩ := W.eye.ex
    obtain ⟨f6, fd6, g1, g2, g3⟩ := W.rek.ex
    have N1 : Both P w K mg base C (k0 + 3 + 2 * d + 1) d := ⟨N.nu.mono (Nat.le_succ _), N.so.mono (Nat.le_succ _)⟩
    exact ⟨.of (ok_num a1 Z M N1 (.of ((ok_plain (kk := k0) d1 Z).mono (k := k0 + 3 + 2 * d + 1) (by omega)) d2 d3) (.of ((ok_eye (kk := k0) e1 Z M).mono (k := k0 + 3 + 2 * d + 1) (by omega)) e2 e3) (.of ((ok_over c1 Z Y).mono (k := k0 + 3 + 2 * d + 1) (by omega)) c2 c3) (.of (ok_rek g1 Z M N) g2 g3)) a2 a3, .of (ok_so b1 Z N1) b2 b3⟩
/-! value_at, holds_at -/
abbrev sVal : Stmt := top 15
theorem scVal : FnScope ["eyes", "stand", "hand", "term"] ["eyes", "stand", "hand", "term"] (defScope sVal) := ⟨rfl, rfl, rfl, by decide +kernel, rfl, by decide +kernel, by decide +kernel⟩
structure Vx where
  S : Sys
  st : Stand
  h : Nat
theorem wf_sgt {S : Sys} {st : Stand} {h : Nat} (hS : WfS S) (hst : WfSt S st) (hh : h < S.n) : WfSg S.n S.k false (sgt S st h) := ⟨hS.n2, rfl, hS.sees, hS.few, hst.len, hst.box, hh, fun z => by cases z⟩
structure Vt extends Vx where
  t : Mo.Tm
structure Vc extends Vx where
  c : Cl
abbrev spVal (K : PySem.W.Frag) : Sp := spD K (fun (x : Vt) ds => ds = [enEyes x.S.eyes, enSt x.st, nD x.h, enT x.t] ∧ WfS x.S ∧ WfSt x.S x.st ∧ x.h < x.S.n ∧ wfT x.S.n x.S.k false x.t ∧ dpT x.t ≤ DEP) fun x d => d = .int (val x.t (sgt x.S x.st x.h))
theorem ok_val {kk : Nat} (F : Fun K "value_at" "value_at" sVal f fd) (Z : SgC K C) (Y : SgM P w K mg base C kk) (N : Both P w K mg base C (kk + 1) (DEP + 1)) : FnOk P w K mg base CX0 (kk + 2) f fd ["eyes", "stand", "hand", "term"] (spVal K) := by
  refine Fun.okD F scVal (fun y ds h => by obtain ⟨rfl, _⟩ := h; rfl) fun cdv A outer s H E hr y ds B σ Q p S0 hq => ?_
  obtain ⟨⟨S, st, h⟩, t⟩ := y
  obtain ⟨rfl, hS, hst, hh, ht, hd⟩ : ds = [enEyes S.eyes, enSt st, nD h, enT t] ∧ WfS S ∧ WfSt S st ∧ h < S.n ∧ wfT S.n S.k false t ∧ dpT t ≤ DEP := p
  obtain ⟨fi, fdi, m1, m2, m3⟩ := Y.ini
  exact WS.cons (w_ret (xd_nu (g := sgt S st h) N Z hr (xd_is (xd_make (ds := [enEyes S.eyes, enSt st, nD h, .non]) m1 m2 hr Y.nm m3 pass0 (xl_cons (xd_var 0) (xl_cons (xd_var 1) (xl_cons (xd_var 2) (xl_cons xd_non xl_nil)))) rfl) rfl) t (xd_var 3) (wf_sgt hS hst hh) ht (Nat.lt_succ_of_le hd)) S0 S0.lim fun d v H3 p3 S3 => hq _ _ _ _ _ _ _ p3 S3)
abbrev sHol : Stmt := top 16
theorem scHol : FnScope ["eyes", "stand", "hand", "claim"] ["eyes", "stand", "hand", "claim"] (defScope sHol) := ⟨rfl, rfl, rfl, by decide +kernel, rfl, by decide +kernel, by decide +kernel⟩
abbrev spHol (K : PySem.W.Frag) : Sp := spD K (fun (x : Vc) ds => ds = [enEyes x.S.eyes, enSt x.st, nD x.h, enC x.c] ∧ WfS x.S ∧ WfSt x.S x.st ∧ x.h < x.S.n ∧ wfC x.S.n x.S.k false x.c ∧ dpC x.c ≤ DEP) fun x d => d = .bl (hol x.c (sgt x.S x.st x.h))
theorem ok_hol {kk : Nat} (F : Fun K "holds_at" "holds_at" sHol f fd) (Z : SgC K C) (Y : SgM P w K mg base C kk) (N : Both P w K mg base C (kk + 1) (DEP + 1)) : FnOk P w K mg base CX0 (kk + 2) f fd ["eyes", "stand", "hand", "claim"] (spHol K) := by
  refine Fun.okD F scHol (fun y ds h => by obtain ⟨rfl, _⟩ := h; rfl) fun cdv A outer s H E hr y ds B σ Q p S0 hq => ?_
  obtain ⟨⟨S, st, h⟩, t⟩ := y
  obtain ⟨rfl, hS, hst, hh, ht, hd⟩ : ds = [enEyes S.eyes, enSt st, nD h, enC t] ∧ WfS S ∧ WfSt S st ∧ h < S.n ∧ wfC S.n S.k false t ∧ dpC t ≤ DEP := p
  obtain ⟨fi, fdi, m1, m2, m3⟩ := Y.ini
  exact WS.cons (w_ret (xd_so (g := sgt S st h) N Z hr (xd_is (xd_make (ds := [enEyes S.eyes, enSt st, nD h, .non]) m1 m2 hr Y.nm m3 pass0 (xl_cons (xd_var 0) (xl_cons (xd_var 1) (xl_cons (xd_var 2) (xl_cons xd_non xl_nil)))) rfl) rfl) t (xd_var 3) (wf_sgt hS hst hh) ht (Nat.lt_succ_of_le hd)) S0 S0.lim fun d v H3 p3 S3 => hq _ _ _ _ _ _ _ p3 S3)
end
end Tx


set_option Elab.async false
set_option linter.all false
set_option maxRecDepth 100000
set_option maxHeartbeats 4000000
set_option autoImplicit false
/-! D5: webs, systems, aims. -/
namespace Tx
open PySem PySem.Spec L2 Lg Mo
section
variable {P : Program} {w : World} {K : PySem.W.Frag} {mg : Str → Option Value} {base : Heap} {f : Addr} {fd : FuncData}
/-! is_whole -/
abbrev sWhole : Stmt := top 18
theorem scWhole : FnScope ["thing"] ["thing"] (defScope sWhole) := ⟨rfl, rfl, rfl, by decide +kernel, rfl, by decide +kernel, by decide +kernel⟩
abbrev spWhole (K : PySem.W.Frag) : Sp := spD K (fun (z : Int) ds => ds = [.int z]) fun _ d => d = .bl true
theorem ok_whole {k : Nat} (F : Fun K "is_whole" "is_whole" sWhole f fd) (M : Bi mg) : FnOk P w K mg base CX0 (k + 1) f fd ["thing"] (spWhole K) := by
  refine Fun.okD F scWhole (fun y ds h => by subst h; rfl) fun cdv A outer s H E hr z ds B σ Q p S0 hq => ?_
  subst p
  exact WS.cons (w_ret (xd_andV (k := true) (l := true) (xd_isi M.isinstance (xd_var 0) rfl M.int (u := "int") (by decide +kernel) (kit_ty (by decide +kernel))) fun _ => xd_notV (xd_isi M.isinstance (xd_var 0) rfl M.bool (u := "bool") (r := false) (by decide +kernel) (kit_ty (by decide +kernel)))) S0 S0.lim fun d v H3 p3 S3 => hq _ _ _ _ _ _ _ p3 S3)
/-! ring_web, line_web -/
abbrev sRing : Stmt := top 19
theorem scRing : FnScope ["many", "found", "hand", "both", "one"] ["many"] (defScope sRing) := ⟨rfl, rfl, rfl, by decide +kernel, rfl, by decide +kernel, by decide +kernel⟩
def ringR (m h : Nat) : Dt := .tup [.int (((h : Int) - 1) % m), .int (((h : Int) + 1) % m)]
abbrev spRing (K : PySem.W.Frag) : Sp := spD K (fun (m : Nat) ds => ds = [nD m] ∧ 3 ≤ m ∧ m ≤ 10) fun m d => d = .tup ((List.range m).map (ringR m))
theorem ok_ring {k : Nat} (F : Fun K "ring_web" "ring_web" sRing f fd) (M : Bi mg) : FnOk P w K mg base CX0 (k + 1) f fd ["many"] (spRing K) := by
  refine Fun.okD F scRing (fun y ds h => by obtain ⟨rfl, _⟩ := h; rfl) fun cdv A outer s H E hr m ds B σ Q p S0 hq => ?_
  obtain ⟨rfl, h1, h2⟩ := p
  refine WS.cons (w_own 1 xn_nil S0 S0.lim (fun q w σ3 H3 pw S3 => ?_) scRing.nd)
  subst pw
  refine WS.cons (w_forN 2 nD (List.range m) (fun i O' ρ' => O' = [(q, .lst ((List.range i).map (ringR m)))] ∧ ∃ u v, ρ' = [.d (nD m), .o q, u, v, .u]) PassesOwn.never rfl scRing.nd (xj_range M.range (xd_var 0) (by omega)) S3 ⟨rfl, .u, .u, rfl⟩ (fun i y O' ρ' T' σ' H' N hy hI S4 kN => ?_) (fun O' ρ' σ' H' hI S4 => ?_))
  · obtain ⟨rfl, u, v, rfl⟩ := hI
    obtain ⟨h3, h4⟩ := List.getElem?_eq_some_iff.mp hy
    rw [List.getElem_range] at h4
    rw [List.length_range] at h3
    subst h4
    refine WS.cons (w_set 3 (xd_lst (ds := [.int (((i : Int) - 1) % m), .int (((i : Int) + 1) % m)]) (xl_cons (xd_mod (xd_sub (xd_var 2) xd_int) (xd_var 0) (by omega)) (xl_cons (xd_mod (xd_add (xd_var 2) xd_int) (xd_var 0) (by omega)) xl_nil))) S4 S4.lim (fun d σ5 H5 p5 S5 => ?_) scRing.nd)
    subst p5
    refine WS.cons (w_ifF (xb_lt (xd_var 0) xd_int) (decide_eq_false (by omega)) S5 fun H6 S6 => WS.nil ?_)
    refine WS.cons (w_append 1 (A := []) (C := []) (xd_tuple M.tuple (XD.ls (xd_var 3))) S6 S6.lim (by rw [List.length_map, List.length_range]; omega) (fun d H7 p7 S7 => WS.nil (kN _ _ _ _ ⟨?_, .d (nD i), _, rfl⟩ S7)))
    subst p7
    rw [List.range_succ, List.map_append]
    rfl
  · obtain ⟨rfl, u, v, rfl⟩ := hI
    rw [List.length_range] at S4
    exact WS.cons (w_ret (xd_tuple M.tuple (xs_own 1)) S4 S4.lim fun d v H3 p3 S3 => hq _ _ _ _ _ _ _ p3 S3)
abbrev sLine : Stmt := top 20
theorem scLine : FnScope ["many", "hand", "one"] ["many"] (defScope sLine) := ⟨rfl, rfl, rfl, by decide +kernel, rfl, by decide +kernel, by decide +kernel⟩
def lineN (m h : Nat) : List Int := ([(h : Int) - 1, (h : Int) + 1] : List Int).filter fun x => decide (0 ≤ x) && decide (x < (m : Int))
def lineR (m h : Nat) : Dt := .tup ((lineN m h).map Dt.int)
abbrev spLine (K : PySem.W.Frag) : Sp := spD K (fun (m : Nat) ds => ds = [nD m] ∧ m ≤ 10) fun m d => d = .tup ((List.range m).map (lineR m))
theorem ok_line {k : Nat} (F : Fun K "line_web" "line_web" sLine f fd) (M : Bi mg) : FnOk P w K mg base CX0 (k + 1) f fd ["many"] (spLine K) := by
  refine Fun.okD F scLine (fun y ds h => by obtain ⟨rfl, _⟩ := h; rfl) fun cdv A outer s H E hr m ds B σ Q p S0 hq => ?_
  obtain ⟨rfl, h1⟩ := p
  refine WS.cons (w_ret (xd_tuple M.tuple (XD.ls (xe_lcO rfl scLine.nd (blkOk_by (N := ["many", "hand", "one"]) (sc := defScope sLine) (own := [("hand", 1)]) (by decide +kernel))
    (ev_lcD [("hand", 1)] nD (fun _ => true) (lineR m) (List.range m) (ρt := fun h => [.d (nD m), .d (nD h), .u]) (is := [1])
      (xj_range M.range (xd_var 0) (by omega)) (fun i h => h) (by rw [List.length_range]; omega) (fun x hx s H0 C cl fp => xg_name 1 scLine.nd) (fun x hx s H0 C cl fp => EvT.imp xts_nil fun b h => h)
      (fun x hx _ s H0 C cl fp => ?_))))) S0 S0.lim fun d v H3 p3 S3 => hq _ _ _ _ _ _ _ (by rw [p3, filt_true]) S3)
  refine xd_tuple (ds := (lineN m x).map Dt.int) M.tuple (XD.ls (xe_lcO rfl scLine.nd (blkOk_by (own := [("one", 2)]) (by kernel_rfl)) ?_))
  refine ev_lcD [("one", 2)] Dt.int (fun z => decide (0 ≤ z) && decide (z < (m : Int))) Dt.int [(x : Int) - 1, (x : Int) + 1] (ρt := fun z => [.d (nD m), .d (nD x), .d (.int z)]) (is := [2])
          (xj_tup (xd_tup (xl_cons (xd_sub (xd_var 1) xd_int) (xl_cons (xd_add (xd_var 1) xd_int) xl_nil)))) (fun i h => h) (Nat.le_of_ble_eq_true rfl) (fun z hz s H0 C cl fp => xg_name 2 scLine.nd) (fun z hz s H0 C cl fp => xts_one (xb_chain xd_int (xd_var 2) (xd_var 0)))
          (fun z hz _ s H0 C cl fp => xd_var 2)
/-! rule_at -/
abbrev sRuleAt : Stmt := top 22
theorem scRuleAt : FnScope ["system", "stand", "hand", "eyes", "sizes", "kinds", "rules", "number", "rule"] ["system", "stand", "hand"] (defScope sRuleAt) := ⟨rfl, rfl, rfl, by decide +kernel, rfl, by decide +kernel, by decide +kernel⟩
/-- the rules of a hand -/
theorem rules_at {S : Sys} (hS : WfS S) {h : Nat} (hh : h < S.n) : ∃ d, (S.kinds.map nD)[h]? = some (nD d) ∧ (S.rules.map enRules)[d]? = some (enRules (rulesOf S h)) ∧ rulesOf S h ∈ S.rules := by
  have h1 : h < S.kinds.length := by rw [hS.kinds]; exact hh
  have h2 := hS.kind _ (List.getElem_mem h1)
  refine ⟨S.kinds[h], by rw [List.getElem?_map, List.getElem?_eq_getElem h1]; rfl, ?_⟩
  have e : rulesOf S h = S.rules[S.kinds[h]] := by
    unfold rulesOf
    rw [List.getD_eq_getElem?_getD (l := S.kinds), List.getElem?_eq_getElem h1]
    show S.rules.getD S.kinds[h] [] = _
    rw [List.getD_eq_getElem?_getD, List.getElem?_eq_getElem h2]
    rfl
  rw [e]
  exact ⟨by rw [List.getElem?_map, List.getElem?_eq_getElem h2]; rfl, List.getElem_mem h2⟩
theorem find_at {α : Type} {p : α → Bool} {xs : List α} {n : Nat} {y : α} (h : xs[n]? = some y) (hp : p y = true) (hb : ∀ m < n, ∀ z, xs[m]? = some z → p z = false) : xs.findIdx? p = some n := by
  obtain ⟨hl, rfl⟩ := List.getElem?_eq_some_iff.mp h
  refine List.findIdx?_eq_some_iff_getElem.mpr ⟨hl, hp, fun j hj => ?_⟩
  rw [hb j hj _ (List.getElem?_eq_getElem (Nat.lt_trans hj hl))]
  exact Bool.false_ne_true
theorem find_no {α : Type} {p : α → Bool} {xs : List α} (hb : ∀ m < xs.length, ∀ z, xs[m]? = some z → p z = false) : xs.findIdx? p = none := by
  refine List.findIdx?_eq_none_iff.mpr fun x hx => ?_
  obtain ⟨m, hm⟩ := List.mem_iff_getElem?.mp hx
  exact hb m (List.getElem?_eq_some_iff.mp hm).1 x hm
theorem ok_ruleAt {k : Nat} (F : Fun K "rule_at" "rule_at" sRuleAt f fd) (M : Bi mg) (G : Def P w K mg base CX0 k "holds_at" ["eyes", "stand", "hand", "claim"] (spHol K)) : FnOk P w K mg base CX0 (k + 1) f fd ["system", "stand", "hand"] (spRuleAt K) := by
  refine Fun.okD F scRuleAt (fun y ds h => by obtain ⟨rfl, _⟩ := h; rfl) fun cdv A outer s H E hr y ds B σ Q p S0 hq => ?_
  obtain ⟨S, st, h⟩ := y
  obtain ⟨rfl, hS, hst, hh⟩ : ds = [enS S, enSt st, nD h] ∧ WfS S ∧ WfSt S st ∧ h < S.n := p
  obtain ⟨d, r1, r2, r3⟩ := rules_at hS hh
  have hrl := hS.rules _ r3
  refine WS.cons (w_asg (ρ' := fun _ => [.d (enS S), .d (enSt st), .d (nD h), .d (enEyes S.eyes), .d (enNs S.sizes), .d (enNs S.kinds), .d (.tup (S.rules.map enRules)), .u, .u]) (xd_var 0) (fun d pd => by
    subst pd
    exact xg_four rfl (xg_name 3 scRuleAt.nd) (xg_name 4 scRuleAt.nd) (xg_name 5 scRuleAt.nd) (xg_name 6 scRuleAt.nd)) S0 S0.lim fun d' σ1 H1 p1 S1 => ?_)
  refine WS.cons (w_for2 7 8 (fun n _ => nD n) (fun _ r => enRule r) (rulesOf S h) (enD ((rulesOf S h).map enRule)) (fun n O' ρ' => O' = [] ∧ (∀ m < n, ∀ z, (rulesOf S h)[m]? = some z → hol z.1 (sgt S st h) = false) ∧ ∃ u v, ρ' = [.d (enS S), .d (enSt st), .d (nD h), .d (enEyes S.eyes), .d (enNs S.sizes), .d (enNs S.kinds), .d (.tup (S.rules.map enRules)), u, v]) PassesOwn.never rfl scRuleAt.nd
    (xj_enT M.enumerate (xd_ixT (xd_var 6) (xd_ixT (ds := S.kinds.map nD) (xd_var 5) (xd_var 2) (atI_nat r1)) (atI_nat r2))) (by rw [enD_len, List.length_map]) (fun n y hy => enD_get' enRule _ hy) S1 ⟨rfl, fun m hm => absurd hm (Nat.not_lt_zero _), .u, .u, rfl⟩ (fun i y O' ρ' T' σ' H' N hy hI S4 kN => ?_) (fun O' ρ' σ' H' hI S4 => ?_))
  · obtain ⟨rfl, hb, u, v, rfl⟩ := hI
    have hy1 := hrl.2 y (List.mem_of_getElem? hy)
    have hcall := hy1.1
    cases hv : hol y.1 (sgt S st h) with
    | true =>
      refine WS.cons (w_ifT (xb_val (xd_call (⟨⟨S, st, h⟩, y.1⟩ : Vc) G hr pass0 (xl_cons (xd_var 3) (xl_cons (xd_var 1) (xl_cons (xd_var 2) (xl_cons (xd_ixT (xd_var 8) xd_int rfl) xl_nil)))) ⟨rfl, hS, hst, hh, hy1.1, hy1.2.1⟩ fun d' h => h)) hv S4 fun H5 S5 => ?_)
      refine WS.cons (w_ret (xd_var 7) S5 S5.lim fun d v H3 p3 S3 => hq _ _ _ _ _ _ _ ?_ S3)
      rw [p3]
      show nD i = oN ((rulesOf S h).findIdx? fun r => hol r.1 (sgt S st h))
      rw [find_at hy hv hb]
      rfl
    | false =>
      refine WS.cons (w_ifF (xb_val (xd_call (⟨⟨S, st, h⟩, y.1⟩ : Vc) G hr pass0 (xl_cons (xd_var 3) (xl_cons (xd_var 1) (xl_cons (xd_var 2) (xl_cons (xd_ixT (xd_var 8) xd_int rfl) xl_nil)))) ⟨rfl, hS, hst, hh, hy1.1, hy1.2.1⟩ fun d' h => h)) hv S4 fun H5 S5 => WS.nil (WS.nil (kN _ _ _ _ ⟨rfl, ?_, _, _, rfl⟩ S5)))
      intro m hm z hz
      by_cases hmi : m < i
      · exact hb m hmi z hz
      · have e : m = i := by omega
        subst e
        rw [hy] at hz
        cases hz
        exact hv
  · obtain ⟨rfl, hb, u, v, rfl⟩ := hI
    refine WS.cons (w_ret xd_non S4 S4.lim fun d v H3 p3 S3 => hq _ _ _ _ _ _ _ ?_ S3)
    rw [p3]
    show Dt.non = oN ((rulesOf S h).findIdx? fun r => hol r.1 (sgt S st h))
    rw [find_no hb]
    rfl
/-! boxes_behind -/
abbrev sBehind : Stmt := top 24
theorem scBehind : FnScope ["system", "stand", "hand", "eyes", "sizes", "kinds", "rules", "boxes", "box", "term"] ["system", "stand", "hand"] (defScope sBehind) := ⟨rfl, rfl, rfl, by decide +kernel, rfl, by decide +kernel, by decide +kernel⟩
abbrev spBehind (K : PySem.W.Frag) : Sp := spD K (fun (x : Sys × Stand × Nat) ds => preSth x ds ∧ (ruleAt x.1 x.2.1 x.2.2).isSome = true) fun x d => d = enBx (behind x.1 x.2.1 x.2.2)
theorem find_get {α : Type} {p : α → Bool} {xs : List α} {n : Nat} (h : xs.findIdx? p = some n) : ∃ y, xs[n]? = some y ∧ p y = true := by
  obtain ⟨hl, hp, _⟩ := List.findIdx?_eq_some_iff_getElem.mp h
  exact ⟨xs[n], List.getElem?_eq_getElem hl, hp⟩
theorem ok_behind {k : Nat} (F : Fun K "boxes_behind" "boxes_behind" sBehind f fd) (M : Bi mg) (G : Def P w K mg base CX0 k "value_at" ["eyes", "stand", "hand", "term"] (spVal K)) (G2 : Def P w K mg base CX0 k "rule_at" ["system", "stand", "hand"] (spRuleAt K)) : FnOk P w K mg base CX0 (k + 1) f fd ["system", "stand", "hand"] (spBehind K) := by
  refine Fun.okD F scBehind (fun y ds h => by obtain ⟨⟨rfl, _⟩, _⟩ := h; rfl) fun cdv A outer s H E hr y ds B σ Q p S0 hq => ?_
  obtain ⟨S, st, h⟩ := y
  obtain ⟨⟨rfl, hS, hst, hh⟩, hsome⟩ : (ds = [enS S, enSt st, nD h] ∧ WfS S ∧ WfSt S st ∧ h < S.n) ∧ (ruleAt S st h).isSome = true := p
  obtain ⟨d, r1, r2, r3⟩ := rules_at hS hh
  have hrl := hS.rules _ r3
  obtain ⟨n, hn⟩ := Option.isSome_iff_exists.mp hsome
  obtain ⟨y, hy, _⟩ := find_get hn
  have hym := List.mem_of_getElem? hy
  have hy1 := hrl.2 y hym
  have hlays := hS.lays _ r3 y hym
  obtain ⟨row, w1, w2, w3⟩ := (wf_sgt hS hst hh).row hh
  have hrow : st.getD h [] = row := by
    have hl : h < st.length := by rw [hst.len]; exact hh
    have e : (st.map enBx)[h]? = some (enBx row) := w1
    rw [List.getElem?_map, List.getElem?_eq_getElem hl] at e
    rw [List.getD_eq_getElem?_getD, List.getElem?_eq_getElem hl]
    have e2 : enBx st[h] = enBx row := Option.some.inj e
    unfold enBx at e2
    have e3 : st[h].map Dt.int = row.map Dt.int := Dt.tup.inj e2
    exact (List.map_inj_right (fun a b z => Dt.int.inj z)).mp e3
  have hbe : ∀ (ls : List (Nat × Mo.Tm)) (b : List Int), (ls.foldl (fun b l => b.set l.1 (val l.2 (sgt S st h) % (S.sizes.getD l.1 1 : Nat))) b).length = b.length := by
    intro ls
    induction ls with
    | nil => intro b; rfl
    | cons l r ih => intro b; rw [List.foldl_cons, ih, List.length_set]
  have hbehind : behind S st h = y.2.foldl (fun b l => b.set l.1 (val l.2 (sgt S st h) % (S.sizes.getD l.1 1 : Nat))) row := by
    unfold behind
    rw [hrow, hn]
    show ((rulesOf S h).getD n _).2.foldl _ _ = _
    rw [List.getD_eq_getElem?_getD, hy]
    rfl
  refine WS.cons (w_asg (ρ' := fun _ => [.d (enS S), .d (enSt st), .d (nD h), .d (enEyes S.eyes), .d (enNs S.sizes), .d (enNs S.kinds), .d (.tup (S.rules.map enRules)), .u, .u, .u]) (xd_var 0) (fun d pd => by
    subst pd
    exact xg_four rfl (xg_name 3 scBehind.nd) (xg_name 4 scBehind.nd) (xg_name 5 scBehind.nd) (xg_name 6 scBehind.nd)) S0 S0.lim fun d' σ1 H1 p1 S1 => ?_)
  refine WS.cons (w_own 7 (xn_listT (ds := row.map Dt.int) M.list (xd_ixT (xd_var 1) (xd_var 2) (atI_nat w1))) S1 S1.lim (fun q w σ3 H3 pw S3 => ?_) scBehind.nd)
  subst pw
  refine WS.cons (w_for2 8 9 (fun _ l => nD l.1) (fun _ l => enT l.2) y.2 (y.2.map enLay) (fun n O' ρ' => O' = [(q, .lst (((y.2.take n).foldl (fun b l => b.set l.1 (val l.2 (sgt S st h) % (S.sizes.getD l.1 1 : Nat))) row).map Dt.int))] ∧ ∃ u v, ρ' = [.d (enS S), .d (enSt st), .d (nD h), .d (enEyes S.eyes), .d (enNs S.sizes), .d (enNs S.kinds), .d (.tup (S.rules.map enRules)), .o q, u, v]) PassesOwn.never rfl scBehind.nd
    (xj_tup (xd_ixT (ds := [enC y.1, .tup (y.2.map enLay)]) (xd_ixT (ds := (rulesOf S h).map enRule) (d := enRule y) (xd_ixT (xd_var 6) (xd_ixT (ds := S.kinds.map nD) (xd_var 5) (xd_var 2) (atI_nat r1)) (atI_nat r2)) (i := (n : Int)) (xd_call (S, st, h) G2 hr pass0 (xl_cons (xd_var 0) (xl_cons (xd_var 1) (xl_cons (xd_var 2) xl_nil))) ⟨rfl, hS, hst, hh⟩ fun d' hd => by rw [hd, hn]; rfl) (atI_nat (by rw [List.getElem?_map, hy]; rfl))) xd_int rfl)) (by rw [List.length_map]) (fun n z hz => by rw [List.getElem?_map, hz]; rfl) S3 ⟨rfl, .u, .u, rfl⟩ (fun i z O' ρ' T' σ' H' N hz hI S4 kN => ?_) (fun O' ρ' σ' H' hI S4 => ?_))
  · obtain ⟨rfl, u, v, rfl⟩ := hI
    obtain ⟨l1, l2, l3⟩ := hy1.2.2 z (List.mem_of_getElem? hz)
    have hsz : z.1 < S.sizes.length := l1
    have hs1 : (S.sizes.map nD)[z.1]? = some (nD (S.sizes.getD z.1 1)) := by
      rw [List.getElem?_map, List.getElem?_eq_getElem hsz, List.getD_eq_getElem?_getD, List.getElem?_eq_getElem hsz]
      rfl
    have hpos : 1 ≤ S.sizes.getD z.1 1 := by
      rw [List.getD_eq_getElem?_getD, List.getElem?_eq_getElem hsz]
      exact (hS.sz _ (List.getElem_mem hsz)).1
    refine WS.cons (w_setItem 7 (A := []) (C := []) (m := z.1) (xd_mod (xd_call (⟨⟨S, st, h⟩, z.2⟩ : Vt) G hr pass0 (xl_cons (xd_var 3) (xl_cons (xd_var 1) (xl_cons (xd_var 2) (xl_cons (xd_var 9) xl_nil)))) ⟨rfl, hS, hst, hh, l2, l3⟩ fun d' h => h) (xd_ixT (ds := S.sizes.map nD) (xd_var 4) (xd_var 8) (atI_nat hs1)) (by omega)) (xd_var 8) (by rw [List.length_map, hbe, w2]; exact l1) S4 S4.lim (fun d H7 p7 S7 => WS.nil (kN _ _ _ _ ⟨?_, _, _, rfl⟩ S7)))
    subst p7
    rw [List.take_succ, hz]
    show _ = [(q, Ow.lst ((((y.2.take i) ++ [z]).foldl _ row).map Dt.int))]
    rw [List.foldl_append, List.foldl_cons, List.foldl_nil, List.map_set]
    rfl
  · obtain ⟨rfl, u, v, rfl⟩ := hI
    rw [List.take_of_length_le (Nat.le_refl _)] at S4
    exact WS.cons (w_ret (xd_tuple M.tuple (xs_own 7)) S4 S4.lim fun d v H3 p3 S3 => hq _ _ _ _ _ _ _ (by rw [p3]; show _ = enBx (behind S st h); rw [hbehind]; rfl) S3)
end
end Tx


set_option Elab.async false
set_option linter.all false
set_option maxRecDepth 100000
set_option maxHeartbeats 4000000
set_option autoImplicit false
/-! D6: acting, aims. -/
namespace Lg
open PySem PySem.Spec L2
theorem xd_neg {X : Cx} {O : List (Addr × Ow)} {ρ : List Sl} {a : Expr} {pos : Pos} {i : Int} (h : XD X a O ρ (.int i)) : XD X (.UnaryOp .USub a pos) O ρ (.int (-i)) := xe_of (pe_un un_neg pe_s) fun B F T σ H Q hb S q => h B F T σ H _ hb S fun d v H2 p S2 => by
  subst p
  cases S2.dr List.mem_cons_self
  exact ⟨i, rfl, q _ _ _ rfl (S2.pop1.int _)⟩
end Lg
namespace Tx
open PySem PySem.Spec L2 Lg Mo
section
variable {P : Program} {w : World} {K : PySem.W.Frag} {mg : Str → Option Value} {base : Heap} {f : Addr} {fd : FuncData}
abbrev Hx := Sys × Stand × List Nat
def preAct (x : Hx) (ds : List Dt) : Prop := ds = [enS x.1, enSt x.2.1, enNs x.2.2] ∧ WfS x.1 ∧ WfSt x.1 x.2.1 ∧ x.2.2 ≠ [] ∧ x.2.2.Pairwise (· < ·) ∧ ∀ h ∈ x.2.2, h ∈ ready x.1 x.2.1
theorem ready_mem {S : Sys} {st : Stand} {h : Nat} : h ∈ ready S st ↔ h < st.length ∧ (ruleAt S st h).isSome = true := by
  unfold ready
  rw [List.mem_filter, List.mem_range]
theorem nD_ints (ns : List Nat) : ns.map nD = (ns.map fun n : Nat => (n : Int)).map Dt.int := by
  rw [List.map_map]
  rfl
theorem mem_cast {ns : List Nat} {h : Nat} : ((h : Nat) : Int) ∈ ns.map (fun n : Nat => (n : Int)) ↔ h ∈ ns := by
  rw [List.mem_map]
  constructor
  · rintro ⟨x, hx, e⟩
    have e' : x = h := by omega
    rw [← e']
    exact hx
  · exact fun hx => ⟨h, hx, rfl⟩
abbrev sAct0 : Stmt := top 25
theorem scAct0 : FnScope ["system", "stand", "hands", "able", "last", "place", "hand"] ["system", "stand", "hands"] (defScope sAct0) := ⟨rfl, rfl, rfl, by decide +kernel, rfl, by decide +kernel, by decide +kernel⟩
abbrev spAct0 (K : PySem.W.Frag) : Sp := spD K preAct fun _ d => d = .non
def lastOf (hs : List Nat) (i : Nat) : Int := match i with | 0 => -1 | i + 1 => ((hs.getD i 0 : Nat) : Int)
theorem ok_act0 {k : Nat} (F : Fun K "ask_acting" "ask_acting" sAct0 f fd) (M : Bi mg) (G1 : Def P w K mg base CX0 k "ready_hands" ["system", "stand"] (spReady K)) (G2 : Def P w K mg base CX0 k "is_whole" ["thing"] (spWhole K)) : FnOk P w K mg base CX0 (k + 1) f fd ["system", "stand", "hands"] (spAct0 K) := by
  refine Fun.okD F scAct0 (fun y ds h => by obtain ⟨rfl, _⟩ := h; rfl) fun cdv A outer s H E hr y ds B σ Q p S0 hq => ?_
  obtain ⟨S, st, hs⟩ := y
  obtain ⟨rfl, hS, hst, hne, hasc, hrd⟩ : ds = [enS S, enSt st, enNs hs] ∧ WfS S ∧ WfSt S st ∧ hs ≠ [] ∧ hs.Pairwise (· < ·) ∧ ∀ h ∈ hs, h ∈ ready S st := p
  have hl : 0 < hs.length := List.length_pos_iff.mpr hne
  refine WS.cons (w_ifF (xb_or2 (l := decide (((hs.map nD).length : Int) = 0)) (xb_not (xb_val (xd_isi M.isinstance (xd_var 2) rfl M.tuple (u := "tuple") (r := true) (by decide +kernel) (kit_ty (by decide +kernel))))) fun _ => xb_eq (xd_lenT M.len (ds := hs.map nD) (xd_var 2)) xd_int) (by
    rw [List.length_map]
    show (false || decide ((hs.length : Int) = 0)) = false
    rw [Bool.false_or]
    exact decide_eq_false (by omega)) S0 fun H2 S2 => WS.nil ?_)
  refine WS.cons (w_set 3 (xd_call (S, st) G1 hr pass0 (xl_cons (xd_var 0) (xl_cons (xd_var 1) xl_nil)) ⟨rfl, hS, hst⟩ fun d' h => h) S2 S2.lim (fun d σ3 H3 p3 S3 => ?_) scAct0.nd)
  subst p3
  refine WS.cons (w_set 4 (xd_neg xd_int) S3 S3.lim (fun d σ4 H4 p4 S4 => ?_) scAct0.nd)
  subst p4
  refine WS.cons (w_for2 5 6 (fun n _ => nD n) (fun _ h => nD h) hs (enD (hs.map nD)) (fun n O' ρ' => O' = [] ∧ ∃ u v, ρ' = [.d (enS S), .d (enSt st), .d (enNs hs), .d (.lst ((ready S st).map nD)), .d (.int (lastOf hs n)), u, v]) PassesOwn.never rfl scAct0.nd
    (xj_enT M.enumerate (xd_var 2)) (by rw [enD_len, List.length_map]) (fun n y hy => enD_get' nD _ hy) S4 ⟨rfl, .u, .u, rfl⟩ (fun i y O' ρ' T' σ' H' N hy hI S5 kN => ?_) (fun O' ρ' σ' H' hI S5 => ?_))
  · obtain ⟨rfl, u, v, rfl⟩ := hI
    have hmem := hrd y (List.mem_of_getElem? hy)
    have hlast : decide ((y : Int) ≤ lastOf hs i) = false := by
      refine decide_eq_false ?_
      cases i with
      | zero => show ¬ (y : Int) ≤ -1; omega
      | succ i =>
        obtain ⟨h1, h2⟩ := List.getElem?_eq_some_iff.mp hy
        have h3 : i < hs.length := Nat.lt_of_succ_lt h1
        have h4 := List.pairwise_iff_getElem.mp hasc i (i + 1) h3 h1 (Nat.lt_succ_self _)
        show ¬ (y : Int) ≤ ((hs.getD i 0 : Nat) : Int)
        rw [List.getD_eq_getElem?_getD, List.getElem?_eq_getElem h3]
        show ¬ (y : Int) ≤ ((hs[i] : Nat) : Int)
        omega
    refine WS.cons (w_ifF (xb_or3 (xb_not (xb_val (xd_call (y : Int) G2 hr pass0 (xl_cons (xd_var 6) xl_nil) rfl fun d' h => h))) (fun _ => xb_notIn (ns := (ready S st).map fun n : Nat => (n : Int)) (xd_var 6) (XD.ls (xd_is (xd_var 3) (by rw [nD_ints])))) fun _ _ => xb_le (xd_var 6) (xd_var 4)) (by
      rw [hlast, decide_eq_true (mem_cast.mpr hmem)]
      rfl) S5 fun H6 S6 => WS.nil ?_)
    refine WS.cons (w_set 4 (xd_var 6) S6 S6.lim (fun d σ7 H7 p7 S7 => WS.nil (kN _ _ _ _ ⟨rfl, .d (nD i), .d (nD y), ?_⟩ S7)) scAct0.nd)
    subst p7
    have e : lastOf hs (i + 1) = (y : Int) := by
      show ((hs.getD i 0 : Nat) : Int) = (y : Int)
      rw [List.getD_eq_getElem?_getD, hy]
      rfl
    rw [e]
    rfl
  · obtain ⟨HI, S5⟩ := S5
    exact WS.nil (hq .non .non _ _ _ _ _ rfl ⟨HI, S5.push .non⟩)
abbrev sActed : Stmt := top 26
theorem scActed : FnScope ["system", "stand", "hands", "found", "hand"] ["system", "stand", "hands"] (defScope sActed) := ⟨rfl, rfl, rfl, by decide +kernel, rfl, by decide +kernel, by decide +kernel⟩
abbrev spActed (K : PySem.W.Frag) : Sp := spD K preAct fun x d => d = enSt (act x.1 x.2.1 x.2.2)
theorem act_len (S : Sys) (st0 : Stand) (hs : List Nat) : ∀ st : Stand, (hs.foldl (fun f h => f.set h (behind S st0 h)) st).length = st.length := by
  induction hs with
  | nil => intro st; rfl
  | cons h r ih => intro st; rw [List.foldl_cons, ih, List.length_set]
theorem ok_acted {k : Nat} (F : Fun K "acted" "acted" sActed f fd) (M : Bi mg) (G1 : Def P w K mg base CX0 k "ask_acting" ["system", "stand", "hands"] (spAct0 K)) (G2 : Def P w K mg base CX0 k "boxes_behind" ["system", "stand", "hand"] (spBehind K)) : FnOk P w K mg base CX0 (k + 1) f fd ["system", "stand", "hands"] (spActed K) := by
  refine Fun.okD F scActed (fun y ds h => by obtain ⟨rfl, _⟩ := h; rfl) fun cdv A outer s H E hr y ds B σ Q p S0 hq => ?_
  obtain ⟨S, st, hs⟩ := y
  have p2 := p
  obtain ⟨rfl, hS, hst, hne, hasc, hrd⟩ : ds = [enS S, enSt st, enNs hs] ∧ WfS S ∧ WfSt S st ∧ hs ≠ [] ∧ hs.Pairwise (· < ·) ∧ ∀ h ∈ hs, h ∈ ready S st := p
  refine WS.cons (w_drop (xd_call (S, st, hs) G1 hr pass0 (xl_cons (xd_var 0) (xl_cons (xd_var 1) (xl_cons (xd_var 2) xl_nil))) p2 fun d' h => h) S0 S0.lim fun H1 S1 => ?_)
  refine WS.cons (w_own 3 (xn_listT (ds := st.map enBx) M.list (xd_var 1)) S1 S1.lim (fun q w σ3 H3 pw S3 => ?_) scActed.nd)
  subst pw
  refine WS.cons (w_forN 4 nD hs (fun i O' ρ' => O' = [(q, .lst (((hs.take i).foldl (fun f h => f.set h (behind S st h)) st).map enBx))] ∧ ∃ u, ρ' = [.d (enS S), .d (enSt st), .d (enNs hs), .o q, u]) PassesOwn.never rfl scActed.nd (xj_tup (xd_var 2)) S3 ⟨rfl, .u, rfl⟩ (fun i y O' ρ' T' σ' H' N hy hI S4 kN => ?_) (fun O' ρ' σ' H' hI S4 => ?_))
  · obtain ⟨rfl, u, rfl⟩ := hI
    obtain ⟨m1, m2⟩ := ready_mem.mp (hrd y (List.mem_of_getElem? hy))
    refine WS.cons (w_setItem 3 (A := []) (C := []) (m := y) (xd_call (S, st, y) G2 hr pass0 (xl_cons (xd_var 0) (xl_cons (xd_var 1) (xl_cons (xd_var 4) xl_nil))) ⟨⟨rfl, hS, hst, by rw [← hst.len]; exact m1⟩, m2⟩ fun d' h => h) (xd_var 4) (by rw [List.length_map, act_len]; exact m1) S4 S4.lim (fun d H7 p7 S7 => WS.nil (kN _ _ _ _ ⟨?_, _, rfl⟩ S7)))
    subst p7
    rw [List.take_succ, hy]
    show _ = [(q, Ow.lst ((((hs.take i) ++ [y]).foldl _ st).map enBx))]
    rw [List.foldl_append, List.foldl_cons, List.foldl_nil, List.map_set]
    rfl
  · obtain ⟨rfl, u, rfl⟩ := hI
    rw [List.take_of_length_le (Nat.le_refl _)] at S4
    exact WS.cons (w_ret (xd_tuple M.tuple (xs_own 3)) S4 S4.lim fun d v H3 p3 S3 => hq _ _ _ _ _ _ _ p3 S3)
/-! is_right -/
abbrev sRight : Stmt := top 28
theorem scRight : FnScope ["system", "goal", "stand", "word", "hands", "hand"] ["system", "goal", "stand"] (defScope sRight) := ⟨rfl, rfl, rfl, by decide +kernel, rfl, by decide +kernel, by decide +kernel⟩
abbrev Rx := Sys × Go × Stand
abbrev spRight (K : PySem.W.Frag) (d : Nat) : Sp := spD K (fun (x : Rx) ds => ds = [enS x.1, enG x.2.1, enSt x.2.2] ∧ WfS x.1 ∧ WfSt x.1 x.2.2 ∧ wfG x.1.n x.1.k x.2.1 ∧ dpG x.2.1 < d) fun x r => r = .bl (right x.1 x.2.1 x.2.2)
theorem ok_right0 {k : Nat} (F : Fun K "is_right" "is_right" sRight f fd) : FnOk P w K mg base CX0 (k + 1) f fd ["system", "goal", "stand"] (spRight K 0) :=
  Fun.okD F scRight (fun y ds h => absurd h.2.2.2.2 (Nat.not_lt_zero _)) fun cdv A outer s H E hr y ds B σ Q p S0 hq => absurd p.2.2.2.2 (Nat.not_lt_zero _)
theorem ok_right {k d : Nat} (F : Fun K "is_right" "is_right" sRight f fd) (M : Bi mg) (GI : Def P w K mg base CX0 k "is_right" ["system", "goal", "stand"] (spRight K d)) (G1 : Def P w K mg base CX0 k "ready_hands" ["system", "stand"] (spReady K)) (G2 : Def P w K mg base CX0 k "holds_at" ["eyes", "stand", "hand", "claim"] (spHol K)) :
    FnOk P w K mg base CX0 (k + 1) f fd ["system", "goal", "stand"] (spRight K (d + 1)) := by
  refine Fun.okD F scRight (fun y ds h => by obtain ⟨rfl, _⟩ := h; rfl) fun cdv A outer s H E hr y ds B σ Q p S0 hq => ?_
  obtain ⟨S, g, st⟩ := y
  obtain ⟨rfl, hS, hst, hg, hd⟩ : ds = [enS S, enG g, enSt st] ∧ WfS S ∧ WfSt S st ∧ wfG S.n S.k g ∧ dpG g < d + 1 := p
  have h4 := hS.n2
  cases g with
  | neg g =>
    have hd' : dpG g + 1 < d + 1 := hd
    refine WS.cons (w_set 3 (xd_ixT (xd_var 1) xd_int rfl) S0 S0.lim (fun d σ1 H1 p1 S1 => ?_) scRight.nd)
    subst p1
    refine WS.cons (w_ifT (xb_eqS (xd_var 3) xd_str) (by decide) S1 fun H2 S2 => ?_)
    exact WS.cons (w_ret (xd_notV (xd_call (S, g, st) GI hr pass0 (xl_cons (xd_var 0) (xl_cons (xd_ixT (xd_var 1) xd_int rfl) (xl_cons (xd_var 2) xl_nil))) ⟨rfl, hS, hst, hg, (by omega : dpG g < d)⟩ fun d' h => h)) S2 S2.lim fun d v H3 p3 S3 => hq _ _ _ _ _ _ _ p3 S3)
  | and g g2 =>
    have hd' : max (dpG g) (dpG g2) + 1 < d + 1 := hd
    obtain ⟨g1h, g2h⟩ : wfG S.n S.k g ∧ wfG S.n S.k g2 := hg
    refine WS.cons (w_set 3 (xd_ixT (xd_var 1) xd_int rfl) S0 S0.lim (fun d σ1 H1 p1 S1 => ?_) scRight.nd)
    subst p1
    refine WS.cons (w_ifF (xb_eqS (xd_var 3) xd_str) (by decide) S1 fun H2 S2 => WS.nil ?_)
    refine WS.cons (w_ifT (xb_eqS (xd_var 3) xd_str) (by decide) S2 fun H3 S3 => ?_)
    exact WS.cons (w_ret (xd_andV (xd_call (S, g, st) GI hr pass0 (xl_cons (xd_var 0) (xl_cons (xd_ixT (xd_var 1) xd_int rfl) (xl_cons (xd_var 2) xl_nil))) ⟨rfl, hS, hst, g1h, (by omega : dpG g < d)⟩ fun d' h => h) fun _ => xd_call (S, g2, st) GI hr pass0 (xl_cons (xd_var 0) (xl_cons (xd_ixT (xd_var 1) xd_int rfl) (xl_cons (xd_var 2) xl_nil))) ⟨rfl, hS, hst, g2h, (by omega : dpG g2 < d)⟩ fun d' h => h) S3 S3.lim fun d v H3 p3 S3 => hq _ _ _ _ _ _ _ p3 S3)
  | or g g2 =>
    have hd' : max (dpG g) (dpG g2) + 1 < d + 1 := hd
    obtain ⟨g1h, g2h⟩ : wfG S.n S.k g ∧ wfG S.n S.k g2 := hg
    refine WS.cons (w_set 3 (xd_ixT (xd_var 1) xd_int rfl) S0 S0.lim (fun d σ1 H1 p1 S1 => ?_) scRight.nd)
    subst p1
    refine WS.cons (w_ifF (xb_eqS (xd_var 3) xd_str) (by decide) S1 fun H2 S2 => WS.nil ?_)
    refine WS.cons (w_ifF (xb_eqS (xd_var 3) xd_str) (by decide) S2 fun H3 S3 => WS.nil ?_)
    refine WS.cons (w_ifT (xb_eqS (xd_var 3) xd_str) (by decide) S3 fun H4 S4 => ?_)
    exact WS.cons (w_ret (xd_orV (xd_call (S, g, st) GI hr pass0 (xl_cons (xd_var 0) (xl_cons (xd_ixT (xd_var 1) xd_int rfl) (xl_cons (xd_var 2) xl_nil))) ⟨rfl, hS, hst, g1h, (by omega : dpG g < d)⟩ fun d' h => h) fun _ => xd_call (S, g2, st) GI hr pass0 (xl_cons (xd_var 0) (xl_cons (xd_ixT (xd_var 1) xd_int rfl) (xl_cons (xd_var 2) xl_nil))) ⟨rfl, hS, hst, g2h, (by omega : dpG g2 < d)⟩ fun d' h => h) S4 S4.lim fun d v H3 p3 S3 => hq _ _ _ _ _ _ _ p3 S3)
  | ready z =>
    refine WS.cons (w_set 3 (xd_ixT (xd_var 1) xd_int rfl) S0 S0.lim (fun d σ1 H1 p1 S1 => ?_) scRight.nd)
    subst p1
    refine WS.cons (w_ifF (xb_eqS (xd_var 3) xd_str) (by decide) S1 fun H2 S2 => WS.nil ?_)
    refine WS.cons (w_ifF (xb_eqS (xd_var 3) xd_str) (by decide) S2 fun H3 S3 => WS.nil ?_)
    refine WS.cons (w_ifF (xb_eqS (xd_var 3) xd_str) (by decide) S3 fun H3 S4 => WS.nil ?_)
    refine WS.cons (w_ifT (xb_eqS (xd_var 3) xd_str) (by decide) S4 fun H4 S5 => ?_)
    exact WS.cons (w_ret (xd_eq (xd_len M.len (XD.ls (xd_call (S, st) G1 hr pass0 (xl_cons (xd_var 0) (xl_cons (xd_var 2) xl_nil)) ⟨rfl, hS, hst⟩ fun d' h => h))) (xd_ixT (xd_var 1) xd_int rfl)) S5 S5.lim fun d v H3 p3 S3 => hq _ _ _ _ _ _ _ (by rw [p3, List.length_map]; rfl) S3)
  | every c =>
    obtain ⟨hc1, hc2⟩ : wfC S.n S.k false c ∧ dpC c ≤ DEP := hg
    refine WS.cons (w_set 3 (xd_ixT (xd_var 1) xd_int rfl) S0 S0.lim (fun d σ1 H1 p1 S1 => ?_) scRight.nd)
    subst p1
    refine WS.cons (w_ifF (xb_eqS (xd_var 3) xd_str) (by decide) S1 fun H2 S2 => WS.nil ?_)
    refine WS.cons (w_ifF (xb_eqS (xd_var 3) xd_str) (by decide) S2 fun H3 S3 => WS.nil ?_)
    refine WS.cons (w_ifF (xb_eqS (xd_var 3) xd_str) (by decide) S3 fun H3 S4 => WS.nil ?_)
    refine WS.cons (w_ifF (xb_eqS (xd_var 3) xd_str) (by decide) S4 fun H3 S5 => WS.nil ?_)
    refine WS.cons (w_set 4 (xd_ite (d := .lst ((List.range S.n).map nD)) (xb_eqS (xd_var 3) xd_str) (fun _ => xd_listRg rfl M.list M.range (xd_is (xd_lenT M.len (ds := S.eyes.map enNs) (xd_ixT (xd_var 0) xd_int rfl)) (by rw [List.length_map]; rfl)) (by omega)) fun h => absurd h (by decide)) S5 S5.lim (fun d σ6 H6 p6 S6 => ?_) scRight.nd)
    subst p6
    refine WS.cons (w_ret (xd_all (bs := (List.range S.n).map fun h => hol c (sgt S st h)) rfl M.all (XD.ls (EvP.imp (xe_lcO rfl scRight.nd (blkOk_by (N := ["system", "goal", "stand", "word", "hands", "hand"]) (sc := defScope sRight) (own := [("hand", 5)]) (by decide +kernel))
      (ev_lcD [("hand", 5)] nD (fun _ => true) (fun h => .bl (hol c (sgt S st h))) (List.range S.n) (ρt := fun h => [.d (enS S), .d (enG (.every c)), .d (enSt st), .d (.str "every"), .d (.lst ((List.range S.n).map nD)), .d (nD h)]) (is := [5])
        (xj_list (xd_var 4)) (fun i h => h) (by rw [List.length_range]; omega) (fun h hh s H0 C cl fp => xg_name 5 scRight.nd) (fun h hh s H0 C cl fp => EvT.imp xts_nil fun b h => h)
        (fun h hh _ s H0 C cl fp => xd_call (⟨⟨S, st, h⟩, c⟩ : Vc) G2 hr pass0 (xl_cons (xd_ixT (xd_var 0) xd_int rfl) (xl_cons (xd_var 2) (xl_cons (xd_var 5) (xl_cons (xd_ixT (xd_var 1) (xd_neg xd_int) rfl) xl_nil)))) ⟨rfl, hS, hst, List.mem_range.mp hh, hc1, hc2⟩ fun d' h => h))) (fun d h => by rw [h, filt_true, List.map_map]; rfl)))) S6 S6.lim fun d v H3 p3 S3 => hq _ _ _ _ _ _ _ (by rw [p3, List.all_map]; rfl) S3)
  | «at» hs c =>
    obtain ⟨hh1, hh2, hc1, hc2⟩ : (∀ h ∈ hs, h < S.n) ∧ hs.length ≤ 24 ∧ wfC S.n S.k false c ∧ dpC c ≤ DEP := hg
    refine WS.cons (w_set 3 (xd_ixT (xd_var 1) xd_int rfl) S0 S0.lim (fun d σ1 H1 p1 S1 => ?_) scRight.nd)
    subst p1
    refine WS.cons (w_ifF (xb_eqS (xd_var 3) xd_str) (by decide) S1 fun H2 S2 => WS.nil ?_)
    refine WS.cons (w_ifF (xb_eqS (xd_var 3) xd_str) (by decide) S2 fun H3 S3 => WS.nil ?_)
    refine WS.cons (w_ifF (xb_eqS (xd_var 3) xd_str) (by decide) S3 fun H3 S4 => WS.nil ?_)
    refine WS.cons (w_ifF (xb_eqS (xd_var 3) xd_str) (by decide) S4 fun H3 S5 => WS.nil ?_)
    refine WS.cons (w_set 4 (xd_ite (d := .lst (hs.map nD)) (xb_eqS (xd_var 3) xd_str) (fun h => absurd h (by decide)) fun _ => xd_listT M.list (xd_ixT (xd_var 1) xd_int rfl)) S5 S5.lim (fun d σ6 H6 p6 S6 => ?_) scRight.nd)
    subst p6
    refine WS.cons (w_ret (xd_all (bs := hs.map fun h => hol c (sgt S st h)) rfl M.all (XD.ls (EvP.imp (xe_lcO rfl scRight.nd (blkOk_by (N := ["system", "goal", "stand", "word", "hands", "hand"]) (sc := defScope sRight) (own := [("hand", 5)]) (by decide +kernel))
      (ev_lcD [("hand", 5)] nD (fun _ => true) (fun h => .bl (hol c (sgt S st h))) hs (ρt := fun h => [.d (enS S), .d (enG (.at hs c)), .d (enSt st), .d (.str "at"), .d (.lst (hs.map nD)), .d (nD h)]) (is := [5])
        (xj_list (xd_var 4)) (fun i h => h) (by omega) (fun h hh s H0 C cl fp => xg_name 5 scRight.nd) (fun h hh s H0 C cl fp => EvT.imp xts_nil fun b h => h)
        (fun h hh _ s H0 C cl fp => xd_call (⟨⟨S, st, h⟩, c⟩ : Vc) G2 hr pass0 (xl_cons (xd_ixT (xd_var 0) xd_int rfl) (xl_cons (xd_var 2) (xl_cons (xd_var 5) (xl_cons (xd_ixT (xd_var 1) (xd_neg xd_int) rfl) xl_nil)))) ⟨rfl, hS, hst, hh1 h hh, hc1, hc2⟩ fun d' h => h))) (fun d h => by rw [h, filt_true, List.map_map]; rfl)))) S6 S6.lim fun d v H3 p3 S3 => hq _ _ _ _ _ _ _ (by rw [p3, List.all_map]; rfl) S3)
end
end Tx


set_option Elab.async false
set_option linter.all false
set_option maxRecDepth 100000
set_option maxHeartbeats 4000000
set_option autoImplicit false
/-! Pl1: the stands are all that stand well; acting leads to such. -/
namespace Mo
open PySem Lg
theorem prod_app (l : List Nat) (s a : Nat) : (l ++ [s]).foldl (· * ·) a = l.foldl (· * ·) a * s := by rw [List.foldl_append]; rfl
theorem rev_ind {α : Type} {P : List α → Prop} (h0 : P []) (h1 : ∀ l x, P l → P (l ++ [x])) (l : List α) : P l := by
  have h : ∀ m : List α, P m.reverse := fun m => by
    induction m with
    | nil => exact h0
    | cons x r ih => rw [List.reverse_cons]; exact h1 _ _ ih
  have := h l.reverse
  rwa [List.reverse_reverse] at this
theorem figs_len' (l : List Nat) (x : Nat) : (figs l.reverse x).length = l.length := by rw [Tx.figs_len, List.length_reverse]
theorem figs_bound (l : List Nat) : (∀ s ∈ l, 1 ≤ s) → ∀ (x j : Nat) (v : Int) (s : Nat), (figs l.reverse x)[j]? = some v → l[j]? = some s → 0 ≤ v ∧ v < (s : Int) := by
  refine rev_ind (P := fun l => (∀ s ∈ l, 1 ≤ s) → ∀ (x j : Nat) (v : Int) (s : Nat), (figs l.reverse x)[j]? = some v → l[j]? = some s → 0 ≤ v ∧ v < (s : Int)) (fun _ x j v s h1 h2 => by simp at h2) (fun l t ih hp x j v s h1 h2 => ?_) l
  rw [List.reverse_append] at h1
  have e : figs (t :: l.reverse) x = figs l.reverse (x / t) ++ [((x % t : Nat) : Int)] := rfl
  have h1' : (figs (t :: l.reverse) x)[j]? = some v := h1
  rw [e] at h1'
  have hl := figs_len' l (x / t)
  by_cases hj : j < l.length
  · rw [List.getElem?_append_left (by omega)] at h1'
    rw [List.getElem?_append_left hj] at h2
    exact ih (fun s hs => hp s (List.mem_append_left _ hs)) (x / t) j v s h1' h2
  · have hj2 := (List.getElem?_eq_some_iff.mp h2).1
    rw [List.length_append, List.length_singleton] at hj2
    have hj3 : j = l.length := by omega
    subst hj3
    rw [List.getElem?_append_right (by omega), hl, Nat.sub_self] at h1'
    rw [List.getElem?_append_right (Nat.le_refl _), Nat.sub_self] at h2
    cases h1'
    cases h2
    have ht : 1 ≤ t := hp t (List.mem_append_right _ List.mem_cons_self)
    have := Nat.mod_lt x ht
    omega
theorem figs_surj (l : List Nat) : (∀ s ∈ l, 1 ≤ s) → ∀ ds : List Int, ds.length = l.length → (∀ (j : Nat) (v : Int) (s : Nat), ds[j]? = some v → l[j]? = some s → 0 ≤ v ∧ v < (s : Int)) → ∃ x, x < l.foldl (· * ·) 1 ∧ figs l.reverse x = ds := by
  refine rev_ind (P := fun l => (∀ s ∈ l, 1 ≤ s) → ∀ ds : List Int, ds.length = l.length → (∀ (j : Nat) (v : Int) (s : Nat), ds[j]? = some v → l[j]? = some s → 0 ≤ v ∧ v < (s : Int)) → ∃ x, x < l.foldl (· * ·) 1 ∧ figs l.reverse x = ds) (fun _ ds hl _ => ⟨0, by decide, ?_⟩) (fun l t ih hp ds hl hb => ?_) l
  · cases ds with
    | nil => rfl
    | cons _ _ => cases hl
  · rw [List.length_append, List.length_singleton] at hl
    have hne : ds ≠ [] := by intro z; rw [z] at hl; simp at hl
    obtain ⟨ds', v, rfl⟩ : ∃ ds' v, ds = ds' ++ [v] := ⟨ds.dropLast, ds.getLast hne, (List.dropLast_concat_getLast hne).symm⟩
    rw [List.length_append, List.length_singleton] at hl
    have hl' : ds'.length = l.length := by omega
    obtain ⟨x, hx, ex⟩ := ih (fun s hs => hp s (List.mem_append_left _ hs)) ds' hl' fun j v s h1 h2 => by
      have a1 := (List.getElem?_eq_some_iff.mp h1).1
      have a2 := (List.getElem?_eq_some_iff.mp h2).1
      exact hb j v s (by rw [List.getElem?_append_left a1]; exact h1) (by rw [List.getElem?_append_left a2]; exact h2)
    have ht : 1 ≤ t := hp t (List.mem_append_right _ List.mem_cons_self)
    obtain ⟨b1, b2⟩ := hb l.length v t (by rw [← hl', List.getElem?_append_right (Nat.le_refl _), Nat.sub_self]; rfl) (by rw [List.getElem?_append_right (Nat.le_refl _), Nat.sub_self]; rfl)
    have hv : v.toNat < t := by omega
    refine ⟨x * t + v.toNat, ?_, ?_⟩
    · rw [prod_app]
      have h1 : (x + 1) * t ≤ l.foldl (· * ·) 1 * t := Nat.mul_le_mul_right t hx
      rw [Nat.add_mul, Nat.one_mul] at h1
      omega
    · rw [List.reverse_append]
      show figs l.reverse ((x * t + v.toNat) / t) ++ [(((x * t + v.toNat) % t : Nat) : Int)] = _
      have e1 : (x * t + v.toNat) / t = x := by
        rw [Nat.mul_comm, Nat.mul_add_div ht, Nat.div_eq_of_lt hv, Nat.add_zero]
      have e2 : (x * t + v.toNat) % t = v.toNat := by
        rw [Nat.mul_comm, Nat.mul_add_mod, Nat.mod_eq_of_lt hv]
      rw [e1, e2, ex]
      congr 2
      omega
theorem rep_at (k : Nat) (xs : List Nat) (hk : xs.length = k) : ∀ n i j, i < n → j < k → ((List.replicate n xs).flatten)[i * k + j]? = xs[j]?
  | 0, _, _, h, _ => absurd h (Nat.not_lt_zero _)
  | n + 1, 0, j, _, hj => by
    rw [List.replicate_succ, List.flatten_cons, Nat.zero_mul, Nat.zero_add, List.getElem?_append_left (by omega)]
  | n + 1, i + 1, j, hi, hj => by
    rw [List.replicate_succ, List.flatten_cons, List.getElem?_append_right (by rw [hk, Nat.add_mul]; omega), hk]
    have e : (i + 1) * k + j - k = i * k + j := by rw [Nat.add_mul, Nat.one_mul]; omega
    rw [e]
    exact rep_at k xs hk n i j (by omega) hj
theorem flat_row {α : Type} (k : Nat) : ∀ (st : List (List α)) (i : Nat) (b : List α), (∀ b ∈ st, b.length = k) → st[i]? = some b → (st.flatten.drop (i * k)).take k = b
  | [], _, _, _, h => by simp at h
  | r :: st, 0, b, hk, h => by
    have h' : r = b := by simpa using h
    subst h'
    have hr := hk r List.mem_cons_self
    rw [Nat.zero_mul, List.drop_zero, List.flatten_cons, List.take_append_of_le_length (by omega), List.take_of_length_le (by omega)]
  | r :: st, i + 1, b, hk, h => by
    have hr := hk r List.mem_cons_self
    rw [List.flatten_cons, Nat.add_mul, Nat.one_mul, List.drop_append, List.drop_eq_nil_of_le (by omega), List.nil_append, hr, Nat.add_sub_cancel]
    exact flat_row k st i b (fun b hb => hk b (List.mem_cons_of_mem _ hb)) (by simpa using h)
section
variable {S : Sys} {st : Stand}
theorem facs_pos (hS : WfS S) : ∀ s ∈ Tx.facs S, 1 ≤ s := fun s hs => by
  obtain ⟨j, hj⟩ := List.mem_iff_getElem?.mp hs
  exact (Tx.fac_le hS hj).1
theorem standOf_get {x h : Nat} {b : List Int} (e : (standOf S x)[h]? = some b) : h < S.n ∧ b = ((figs (Tx.facs S).reverse x).drop (h * S.k)).take S.k := by
  unfold standOf at e
  rw [List.getElem?_map] at e
  cases er : (List.range S.n)[h]? with
  | none => rw [er] at e; cases e
  | some y =>
    rw [er] at e
    obtain ⟨h1, h2⟩ := List.getElem?_eq_some_iff.mp er
    rw [List.getElem_range] at h2
    rw [List.length_range] at h1
    subst h2
    exact ⟨h1, (Option.some.inj e).symm⟩
theorem wf_standOf (hS : WfS S) (x : Nat) : WfSt S (standOf S x) := by
  have hlen : (figs (Tx.facs S).reverse x).length = S.n * S.k := by rw [figs_len', Tx.facs_len]
  refine ⟨by unfold standOf; rw [List.length_map, List.length_range], fun b hb => ?_, fun h i b v s h1 h2 h3 => ?_⟩
  · obtain ⟨h, hh⟩ := List.mem_iff_getElem?.mp hb
    obtain ⟨h1, rfl⟩ := standOf_get hh
    have hb : (h + 1) * S.k ≤ S.n * S.k := Nat.mul_le_mul_right _ h1
    rw [Nat.add_mul, Nat.one_mul] at hb
    rw [List.length_take, List.length_drop, hlen]
    omega
  · obtain ⟨g1, rfl⟩ := standOf_get h1
    have hi : i < S.k := (List.getElem?_eq_some_iff.mp h3).1
    rw [List.getElem?_take_of_lt hi, List.getElem?_drop] at h2
    exact figs_bound (Tx.facs S) (facs_pos hS) x (h * S.k + i) v s h2 (by rw [rep_at S.k S.sizes rfl S.n h i g1 hi]; exact h3)
theorem stand_found (hS : WfS S) (hst : WfSt S st) : ∃ x, x < many S ∧ standOf S x = st := by
  have hfl : st.flatten.length = S.n * S.k := by
    rw [List.length_flatten]
    have e : st.map List.length = List.replicate S.n S.k := by
      rw [← hst.len]
      exact List.eq_replicate_iff.mpr ⟨List.length_map .., fun b hb => by
        obtain ⟨r, hr, rfl⟩ := List.mem_map.mp hb
        exact hst.box r hr⟩
    rw [e, List.sum_replicate_nat]
  have hk1 := hS.k1
  obtain ⟨x, hx, ex⟩ := figs_surj (Tx.facs S) (facs_pos hS) st.flatten (by rw [hfl, Tx.facs_len]) fun j v s h1 h2 => by
    have hj : j < S.n * S.k := by rw [← hfl]; exact (List.getElem?_eq_some_iff.mp h1).1
    have hdm := Nat.div_add_mod j S.k
    have hm := Nat.mod_lt j hk1
    have hd : j / S.k < S.n := Nat.div_lt_of_lt_mul (by rw [Nat.mul_comm]; exact hj)
    have ej : j = (j / S.k) * S.k + j % S.k := by rw [Nat.mul_comm]; omega
    have hlt : j / S.k < st.length := by rw [hst.len]; exact hd
    have hrow := flat_row S.k st (j / S.k) _ hst.box (List.getElem?_eq_getElem hlt)
    rw [ej, rep_at S.k S.sizes rfl S.n _ _ hd hm] at h2
    refine hst.num (j / S.k) (j % S.k) st[j / S.k] v s (List.getElem?_eq_getElem hlt) ?_ h2
    rw [← hrow, List.getElem?_take_of_lt hm, List.getElem?_drop, ← ej]
    exact h1
  refine ⟨x, hx, ?_⟩
  unfold standOf
  rw [ex]
  refine List.ext_getElem? fun h => ?_
  by_cases hh : h < S.n
  · have hlt : h < st.length := by rw [hst.len]; exact hh
    rw [List.getElem?_map, List.getElem?_range hh, List.getElem?_eq_getElem hlt]
    show some ((st.flatten.drop (h * S.k)).take S.k) = some _
    rw [flat_row S.k st h _ hst.box (List.getElem?_eq_getElem hlt)]
  · rw [List.getElem?_eq_none (by rw [List.length_map, List.length_range]; omega), List.getElem?_eq_none (by rw [hst.len]; omega)]
theorem wf_stands (hS : WfS S) : ∀ st ∈ stands S, WfSt S st := fun st h => by
  obtain ⟨x, _, rfl⟩ := List.mem_map.mp h
  exact wf_standOf hS x
theorem mem_stands (hS : WfS S) (hst : WfSt S st) : st ∈ stands S := by
  obtain ⟨x, hx, rfl⟩ := stand_found hS hst
  exact List.mem_map.mpr ⟨x, List.mem_range.mpr hx, rfl⟩
theorem stands_len : (stands S).length = many S := by unfold stands; rw [List.length_map, List.length_range]
/-! acting -/
/-- one hand's boxes stand well -/
def OkB (S : Sys) (b : List Int) : Prop := b.length = S.k ∧ ∀ (i : Nat) (x : Int) (s : Nat), b[i]? = some x → S.sizes[i]? = some s → 0 ≤ x ∧ x < (s : Int)
theorem wf_okB (hst : WfSt S st) {b : List Int} (hb : b ∈ st) : OkB S b := by
  obtain ⟨h, hh⟩ := List.mem_iff_getElem?.mp hb
  exact ⟨hst.box b hb, fun i x s h1 h2 => hst.num h i b x s hh h1 h2⟩
theorem wf_of_okB (hl : st.length = S.n) (h : ∀ b ∈ st, OkB S b) : WfSt S st :=
  ⟨hl, fun b hb => (h b hb).1, fun hh i b x s h1 h2 h3 => (h b (List.mem_of_getElem? h1)).2 i x s h2 h3⟩
theorem behind_ok (hS : WfS S) (hst : WfSt S st) {h : Nat} (hh : h < S.n) (hr : (ruleAt S st h).isSome = true) : OkB S (behind S st h) := by
  obtain ⟨d, r1, r2, r3⟩ := Tx.rules_at hS hh
  obtain ⟨n, hn⟩ := Option.isSome_iff_exists.mp hr
  obtain ⟨y, hy, _⟩ := Tx.find_get hn
  have hl := ((hS.rules _ r3).2 y (List.mem_of_getElem? hy)).2.2
  have hlt : h < st.length := by rw [hst.len]; exact hh
  have e : behind S st h = y.2.foldl (fun b l => b.set l.1 (val l.2 (sgt S st h) % (S.sizes.getD l.1 1 : Nat))) st[h] := by
    unfold behind
    rw [hn]
    show ((rulesOf S h).getD n _).2.foldl _ _ = _
    rw [List.getD_eq_getElem?_getD (l := rulesOf S h), hy, List.getD_eq_getElem?_getD, List.getElem?_eq_getElem hlt]
    rfl
  rw [e]
  have gen : ∀ (ls : List (Nat × Tm)) (b : List Int), (∀ l ∈ ls, l.1 < S.k) → OkB S b → OkB S (ls.foldl (fun b l => b.set l.1 (val l.2 (sgt S st h) % (S.sizes.getD l.1 1 : Nat))) b) := by
    intro ls
    induction ls with
    | nil => exact fun b _ hb => hb
    | cons l r ih =>
      intro b h1 hb
      rw [List.foldl_cons]
      refine ih _ (fun x hx => h1 x (List.mem_cons_of_mem _ hx)) ⟨by rw [List.length_set]; exact hb.1, fun i x s g1 g2 => ?_⟩
      by_cases hi : l.1 = i
      · subst hi
        have hlb : l.1 < b.length := by rw [hb.1]; exact h1 l List.mem_cons_self
        rw [List.getElem?_set_self hlb] at g1
        cases g1
        have e2 : S.sizes.getD l.1 1 = s := by rw [List.getD_eq_getElem?_getD, g2]; rfl
        rw [e2]
        have hs : 1 ≤ s := (hS.sz s (List.mem_of_getElem? g2)).1
        exact ⟨Int.emod_nonneg _ (by omega), Int.emod_lt_of_pos _ (by omega)⟩
      · rw [List.getElem?_set_ne hi] at g1
        exact hb.2 i x s g1 g2
  exact gen _ _ (fun l hl' => (hl l hl').1) (wf_okB hst (List.getElem_mem hlt))
theorem wf_act (hS : WfS S) (hst : WfSt S st) {hs : List Nat} (hr : ∀ h ∈ hs, h ∈ ready S st) : WfSt S (act S st hs) := by
  have gen : ∀ (hs : List Nat) (f : Stand), (∀ h ∈ hs, h ∈ ready S st) → (∀ b ∈ f, OkB S b) → f.length = S.n → (∀ b ∈ hs.foldl (fun f h => f.set h (behind S st h)) f, OkB S b) ∧ (hs.foldl (fun f h => f.set h (behind S st h)) f).length = S.n := by
    intro hs
    induction hs with
    | nil => exact fun f _ h1 h2 => ⟨h1, h2⟩
    | cons h r ih =>
      intro f h1 h2 h3
      rw [List.foldl_cons]
      refine ih _ (fun x hx => h1 x (List.mem_cons_of_mem _ hx)) (fun b hb => ?_) (by rw [List.length_set]; exact h3)
      rcases List.mem_or_eq_of_mem_set hb with hb | rfl
      · exact h2 b hb
      · obtain ⟨m1, m2⟩ := Tx.ready_mem.mp (h1 h List.mem_cons_self)
        exact behind_ok hS hst (by rw [← hst.len]; exact m1) m2
  obtain ⟨g1, g2⟩ := gen hs st hr (fun b hb => wf_okB hst hb) hst.len
  exact wf_of_okB g2 g1
end
end Mo


set_option Elab.async false
set_option linter.all false
set_option maxRecDepth 100000
set_option maxHeartbeats 4000000
set_option autoImplicit false
/-! D7: choosing, tables. -/
namespace Tx
open PySem PySem.Spec L2 Lg Mo
section
variable {P : Program} {w : World} {K : PySem.W.Frag} {mg : Str → Option Value} {base : Heap} {f : Addr} {fd : FuncData}
/-- what a chooser may choose -/
def Ch (ch : Str) (rd hs : List Nat) : Prop := if ch = "all" then rd ≠ [] ∧ hs = rd else if ch = "some" then hs.Sublist rd ∧ hs ≠ [] else ∃ h ∈ rd, hs = [h]
def subs (l : List Nat) : List (List Nat) := l.foldl (fun f h => f ++ f.map (· ++ [h])) [[]]
theorem subs_snoc (l : List Nat) (h : Nat) : subs (l ++ [h]) = subs l ++ (subs l).map (· ++ [h]) := by unfold subs; rw [List.foldl_append]; rfl
theorem mem_subs (l : List Nat) : ∀ hs, hs ∈ subs l ↔ hs.Sublist l := by
  refine rev_ind (P := fun l => ∀ hs, hs ∈ subs l ↔ hs.Sublist l) (fun hs => ?_) (fun l x ih hs => ?_) l
  · show hs ∈ [[]] ↔ _
    rw [List.mem_singleton, List.sublist_nil]
  · rw [subs_snoc, List.mem_append, ih, List.mem_map, List.sublist_append_iff]
    constructor
    · rintro (h | ⟨t, ht, rfl⟩)
      · exact ⟨hs, [], (List.append_nil _).symm, h, List.nil_sublist _⟩
      · exact ⟨t, [x], rfl, (ih t).mp ht, List.Sublist.refl _⟩
    · rintro ⟨a, b, rfl, ha, hb⟩
      cases hb with
      | cons _ hb =>
        have hb' := List.sublist_nil.mp hb
        subst hb'
        exact .inl (by rw [List.append_nil]; exact ha)
      | cons_cons _ hb =>
        have hb' := List.sublist_nil.mp hb
        subst hb'
        exact .inr ⟨a, (ih a).mpr ha, rfl⟩
theorem subs_head (l : List Nat) : ∃ r, subs l = [] :: r ∧ ∀ x ∈ r, x ≠ [] := by
  refine rev_ind (P := fun l => ∃ r, subs l = [] :: r ∧ ∀ x ∈ r, x ≠ []) ⟨[], rfl, fun x hx => by cases hx⟩ (fun l x ih => ?_) l
  obtain ⟨r, h1, h2⟩ := ih
  refine ⟨r ++ (subs l).map (· ++ [x]), by rw [subs_snoc, h1]; rfl, fun y hy => ?_⟩
  rcases List.mem_append.mp hy with hy | hy
  · exact h2 y hy
  · obtain ⟨t, _, rfl⟩ := List.mem_map.mp hy
    simp
theorem subs_len (l : List Nat) : (subs l).length = 2 ^ l.length := by
  refine rev_ind (P := fun l => (subs l).length = 2 ^ l.length) rfl (fun l x ih => ?_) l
  rw [subs_snoc, List.length_append, List.length_map, ih, List.length_append, List.length_singleton, Nat.pow_succ]
  omega
theorem two_pow_le {n : Nat} (h : n ≤ 4) : 2 ^ n ≤ 16 := Nat.le_trans (Nat.pow_le_pow_right (by decide) h) (by decide)
theorem ready_asc (S : Sys) (st : Stand) : (ready S st).Pairwise (· < ·) := List.Pairwise.filter _ List.pairwise_lt_range
theorem ready_len {S : Sys} {st : Stand} (hS : WfS S) (hst : WfSt S st) : (ready S st).length ≤ 4 := by
  have h1 : (ready S st).length ≤ (List.range st.length).length := List.length_filter_le _ _
  rw [List.length_range, hst.len] at h1
  exact Nat.le_trans h1 hS.n2
theorem ch_ok {ch : Str} {rd hs : List Nat} (hp : rd.Pairwise (· < ·)) (h : Ch ch rd hs) : hs ≠ [] ∧ hs.Pairwise (· < ·) ∧ ∀ x ∈ hs, x ∈ rd := by
  unfold Ch at h
  by_cases h1 : ch = "all"
  · rw [if_pos h1] at h
    obtain ⟨h2, rfl⟩ := h
    exact ⟨h2, hp, fun x hx => hx⟩
  · rw [if_neg h1] at h
    by_cases h2 : ch = "some"
    · rw [if_pos h2] at h
      exact ⟨h.2, hp.sublist h.1, fun x hx => h.1.subset hx⟩
    · rw [if_neg h2] at h
      obtain ⟨x, hx, rfl⟩ := h
      exact ⟨by simp, List.pairwise_singleton _ _, fun y hy => by rw [List.mem_singleton.mp hy]; exact hx⟩
def Chs (ch : Str) (rd : List Nat) (L : List (List Nat)) : Prop := (∀ hs, hs ∈ L ↔ Ch ch rd hs) ∧ L.length ≤ 16
abbrev sCho : Stmt := top 31
theorem scCho : FnScope ["chooser", "ready", "found", "hand", "some"] ["chooser", "ready"] (defScope sCho) := ⟨rfl, rfl, rfl, by decide +kernel, rfl, by decide +kernel, by decide +kernel⟩
abbrev spCho (K : PySem.W.Frag) : Sp := spD K (fun (x : Str × List Nat) ds => ds = [.str x.1, .lst (x.2.map nD)] ∧ x.2.length ≤ 4) fun x d => ∃ L, Chs x.1 x.2 L ∧ d = .lst (L.map enNs)
theorem fits_nDs (ns : List Nat) : Fits 60 (.lst (ns.map nD)) := (Fits.lst (n := 0) fun d hd => by
  obtain ⟨n, _, rfl⟩ := List.mem_map.mp hd
  exact Fits.int _).le (by decide)
abbrev castL (ns : List Nat) : List Int := ns.map fun n : Nat => (n : Int)
theorem castL_en : (fun ns : List Int => Dt.tup (ns.map Dt.int)) ∘ castL = enNs := by
  funext ns
  show Dt.tup ((ns.map fun n : Nat => (n : Int)).map Dt.int) = Dt.tup (ns.map nD)
  rw [nD_ints]
theorem cut_tail (x : List Nat) (r : List (List Nat)) : Dt.lst (cutD ((x :: r).map enNs) (some 1) none) = Dt.lst ((r.map castL).map fun ns => .tup (ns.map Dt.int)) := by
  rw [List.map_map, castL_en]
  unfold cutD
  have e : HT.sIx ((x :: r).map enNs).length 0 (some 1) = 1 := by
    rw [show (some (1 : Int)) = some ((1 : Nat) : Int) from rfl, HT.sIx_nat, List.length_map, List.length_cons]
    omega
  rw [e, HT.sIx_none, List.map_cons, List.drop_one, List.tail_cons, List.take_of_length_le (by rw [List.length_cons]; omega)]
theorem perm_cast {out : List (List Int)} {r : List (List Nat)} (h : out.Perm (r.map castL)) : ∃ L : List (List Nat), L.Perm r ∧ out = L.map castL := by
  have inv : ∀ ns : List Nat, (castL ns).map Int.toNat = ns := fun ns => by
    rw [List.map_map]
    exact (List.map_congr_left fun n _ => Int.toNat_natCast n).trans (List.map_id ns)
  refine ⟨out.map fun ns => ns.map Int.toNat, ?_, ?_⟩
  · have h2 := h.map fun ns => ns.map Int.toNat
    rw [List.map_map] at h2
    have e : (r.map ((fun ns : List Int => ns.map Int.toNat) ∘ castL)) = r := (List.map_congr_left fun n _ => inv n).trans (List.map_id r)
    rw [e] at h2
    exact h2
  · rw [List.map_map]
    refine Eq.trans (List.map_id out).symm (List.map_congr_left fun ns hn => ?_)
    obtain ⟨t, _, rfl⟩ := List.mem_map.mp (h.mem_iff.mp hn)
    show castL t = castL ((castL t).map Int.toNat)
    rw [inv]
theorem ok_cho {k : Nat} (F : Fun K "choices" "choices" sCho f fd) (M : Bi mg) : FnOk P w K mg base CX0 (k + 1) f fd ["chooser", "ready"] (spCho K) := by
  refine Fun.okD F scCho (fun y ds h => by obtain ⟨rfl, _⟩ := h; rfl) fun cdv A outer s H E hr y ds B σ Q p S0 hq => ?_
  obtain ⟨ch, rd⟩ := y
  obtain ⟨rfl, hl⟩ : ds = [.str ch, .lst (rd.map nD)] ∧ rd.length ≤ 4 := p
  by_cases h1 : ch = "all"
  · subst h1
    refine WS.cons (w_ifT (xb_eqS (xd_var 0) xd_str) (by decide) S0 fun H1 S1 => ?_)
    cases rd with
    | nil =>
      refine WS.cons (w_ret (xd_ite (d := .lst []) (xb_neNil hr (fits_nDs []) (xd_var 1)) (fun h => absurd h (by decide)) fun _ => xd_lst xl_nil) S1 S1.lim fun d v H3 p3 S3 => hq _ _ _ _ _ _ _ ⟨[], ⟨fun hs => ?_, Nat.zero_le _⟩, p3⟩ S3)
      show hs ∈ ([] : List (List Nat)) ↔ (([] : List Nat) ≠ [] ∧ hs = [])
      exact ⟨fun h => absurd h List.not_mem_nil, fun h => absurd rfl h.1⟩
    | cons x r =>
      refine WS.cons (w_ret (xd_ite (d := .lst [enNs (x :: r)]) (xb_neNil hr (fits_nDs (x :: r)) (xd_var 1)) (fun _ => xd_lst (xl_cons (xd_tuple M.tuple (XD.ls (xd_var 1))) xl_nil)) fun h => absurd (show true = false from h) (by decide)) S1 S1.lim fun d v H3 p3 S3 => hq _ _ _ _ _ _ _ ⟨[x :: r], ⟨fun hs => ?_, by simp⟩, p3⟩ S3)
      rw [List.mem_singleton]
      show hs = x :: r ↔ (x :: r ≠ [] ∧ hs = x :: r)
      exact ⟨fun h => ⟨by simp, h⟩, fun h => h.2⟩
  · refine WS.cons (w_ifF (xb_eqS (xd_var 0) xd_str) (decide_eq_false h1) S0 fun H1 S1 => WS.nil ?_)
    by_cases h2 : ch = "some"
    · subst h2
      refine WS.cons (w_ifF (xb_neS (xd_var 0) xd_str) (by decide) S1 fun H2 S2 => WS.nil ?_)
      refine WS.cons (w_set 2 (xd_lst (xl_cons (xd_tup xl_nil) xl_nil)) S2 S2.lim (fun d σ3 H3 p3 S3 => ?_) scCho.nd)
      subst p3
      refine WS.cons (w_forN 3 nD rd (fun i O' ρ' => O' = [] ∧ ∃ u, ρ' = [.d (.str "some"), .d (.lst (rd.map nD)), .d (.lst ((subs (rd.take i)).map enNs)), u, .u]) PassesOwn.never rfl scCho.nd (xj_list (xd_var 1)) S3 ⟨rfl, .u, rfl⟩ (fun i y O' ρ' T' σ' H' N hy hI S4 kN => ?_) (fun O' ρ' σ' H' hI S4 => ?_))
      · obtain ⟨rfl, u, rfl⟩ := hI
        have hlen : (subs (rd.take i)).length ≤ 16 := by
          rw [subs_len]
          exact two_pow_le (by rw [List.length_take]; omega)
        have hcat : ∀ hs ∈ subs (rd.take i), (hs.map nD).length + [nD y].length ≤ 100000 := fun hs hh => by
          have h3 := ((mem_subs _ _).mp hh).length_le
          rw [List.length_take] at h3
          rw [List.length_map]
          show hs.length + 1 ≤ 100000
          omega
        refine WS.cons (w_set 2 (xd_cat (xd_var 2) (xe_lcO rfl scCho.nd (blkOk_by (N := ["chooser", "ready", "found", "hand", "some"]) (sc := defScope sCho) (own := [("some", 4)]) (by decide +kernel))
          (ev_lcD [("some", 4)] enNs (fun _ => true) (fun hs => enNs (hs ++ [y])) (subs (rd.take i)) (ρt := fun hs => [.d (.str "some"), .d (.lst (rd.map nD)), .d (.lst ((subs (rd.take i)).map enNs)), .d (nD y), .d (enNs hs)]) (is := [4])
            (xj_list (xd_var 2)) (fun i h => h) (by omega) (fun hs hh s H0 C cl fp => xg_name 4 scCho.nd) (fun hs hh s H0 C cl fp => EvT.imp xts_nil fun b h => h)
            (fun hs hh _ s H0 C cl fp => xd_is (xd_catT (xd_var 4) (xd_tup (xl_cons (xd_var 3) xl_nil)) (hcat hs hh)) (by unfold enNs; rw [List.map_append]; rfl)))) (by rw [List.length_map, filt_true, List.length_map]; omega)) S4 S4.lim (fun d σ5 H5 p5 S5 => WS.nil (kN _ _ _ _ ⟨rfl, .d (nD y), ?_⟩ S5)) scCho.nd)
        subst p5
        rw [List.take_succ, hy]
        show _ = [_, _, Sl.d (.lst ((subs (rd.take i ++ [y])).map enNs)), _, _]
        rw [subs_snoc, List.map_append, List.map_map, filt_true]
        rfl
      · obtain ⟨rfl, u, rfl⟩ := hI
        rw [List.take_of_length_le (Nat.le_refl _)] at S4
        obtain ⟨r, e1, e2⟩ := subs_head rd
        have hlen : (subs rd).length ≤ 16 := by rw [subs_len]; exact two_pow_le hl
        refine WS.cons (w_ret (xe_sortT (nss := r.map castL) hr M.sorted (XD.ls (xd_is (xd_slL (XD.ls (xd_var 2)) (xo_some xd_int) xo_none) (by rw [e1]; exact cut_tail _ _))) (.inl fun ns hn => ?_)) S4 S4.lim fun d v H3 p3 S3 => ?_)
        · obtain ⟨t, ht, rfl⟩ := List.mem_map.mp hn
          intro z
          exact e2 t ht (List.map_eq_nil_iff.mp z)
        · obtain ⟨out, rfl, ho, _⟩ := p3
          obtain ⟨L, hL, rfl⟩ := perm_cast ho
          refine hq _ _ _ _ _ _ _ ⟨L, ⟨fun hs => ?_, ?_⟩, by rw [List.map_map, castL_en]⟩ S3
          · rw [hL.mem_iff]
            show hs ∈ r ↔ (hs.Sublist rd ∧ hs ≠ [])
            rw [← mem_subs, e1, List.mem_cons]
            exact ⟨fun h => ⟨.inr h, e2 hs h⟩, fun h => h.1.resolve_left h.2⟩
          · rw [hL.length_eq]
            rw [e1, List.length_cons] at hlen
            omega
    · refine WS.cons (w_ifT (xb_neS (xd_var 0) xd_str) (decide_eq_true h2) S1 fun H2 S2 => ?_)
      refine WS.cons (w_ret (xe_lcO rfl scCho.nd (blkOk_by (N := ["chooser", "ready", "found", "hand", "some"]) (sc := defScope sCho) (own := [("hand", 3)]) (by decide +kernel))
          (ev_lcD [("hand", 3)] nD (fun _ => true) (fun h => enNs [h]) rd (ρt := fun h => [.d (.str ch), .d (.lst (rd.map nD)), .u, .d (nD h), .u]) (is := [3])
            (xj_list (xd_var 1)) (fun i h => h) (by omega) (fun hs hh s H0 C cl fp => xg_name 3 scCho.nd) (fun hs hh s H0 C cl fp => EvT.imp xts_nil fun b h => h)
            (fun hs hh _ s H0 C cl fp => xd_tup (xl_cons (xd_var 3) xl_nil)))) S2 S2.lim fun d v H3 p3 S3 => hq _ _ _ _ _ _ _ ⟨rd.map fun h => [h], ⟨fun hs => ?_, by rw [List.length_map]; omega⟩, by rw [p3, filt_true, List.map_map]; rfl⟩ S3)
      unfold Ch
      rw [if_neg h1, if_neg h2, List.mem_map]
      exact ⟨fun ⟨h, a, b⟩ => ⟨h, a, b.symm⟩, fun ⟨h, a, b⟩ => ⟨h, a, b.symm⟩⟩
end
end Tx


set_option Elab.async false
set_option linter.all false
set_option maxRecDepth 100000
set_option maxHeartbeats 4000000
set_option autoImplicit false
/-! D8: steps, tables. -/
namespace Tx
open PySem PySem.Spec L2 Lg Mo
section
variable {P : Program} {w : World} {K : PySem.W.Frag} {mg : Str → Option Value} {base : Heap} {f : Addr} {fd : FuncData}
abbrev sSteps : Stmt := top 32
theorem scSteps : FnScope ["system", "chooser", "stand", "ready", "hands"] ["system", "chooser", "stand"] (defScope sSteps) := ⟨rfl, rfl, rfl, by decide +kernel, rfl, by decide +kernel, by decide +kernel⟩
abbrev Sx := Sys × Str × Stand
def enStep (S : Sys) (st : Stand) (hs : List Nat) : Dt := .tup [enNs hs, enSt (act S st hs)]
abbrev spSteps (K : PySem.W.Frag) : Sp := spD K (fun (x : Sx) ds => ds = [enS x.1, .str x.2.1, enSt x.2.2] ∧ WfS x.1 ∧ WfSt x.1 x.2.2) fun x d => ∃ L, Chs x.2.1 (ready x.1 x.2.2) L ∧ d = .lst (L.map (enStep x.1 x.2.2))
theorem ok_steps {k : Nat} (F : Fun K "steps_at" "steps_at" sSteps f fd) (M : Bi mg) (Z : Nums mg) (G1 : Def P w K mg base CX0 k "ready_hands" ["system", "stand"] (spReady K)) (G2 : Def P w K mg base CX0 k "choices" ["chooser", "ready"] (spCho K)) (G3 : Def P w K mg base CX0 k "acted" ["system", "stand", "hands"] (spActed K)) :
    FnOk P w K mg base CX0 (k + 1) f fd ["system", "chooser", "stand"] (spSteps K) := by
  refine Fun.okD F scSteps (fun y ds h => by obtain ⟨rfl, _⟩ := h; rfl) fun cdv A outer s H E hr y ds B σ Q p S0 hq => ?_
  obtain ⟨S, ch, st⟩ := y
  obtain ⟨rfl, hS, hst⟩ : ds = [enS S, .str ch, enSt st] ∧ WfS S ∧ WfSt S st := p
  have hl := ready_len hS hst
  obtain ⟨t1, z1⟩ := Z.ready
  refine WS.cons (w_set 3 (xd_call (S, st) G1 hr pass0 (xl_cons (xd_var 0) (xl_cons (xd_var 2) xl_nil)) ⟨rfl, hS, hst⟩ fun d' h => h) S0 S0.lim (fun d σ1 H1 p1 S1 => ?_) scSteps.nd)
  subst p1
  refine WS.cons (w_ifF (xb_and2 (xb_eqS (xd_var 1) xd_str) fun _ => xb_gt (xd_len M.len (XD.ls (xd_var 3))) (xd_glob z1 (v := .int 10) ⟨t1, rfl⟩ fun H => .int 10)) (by
    rw [Bool.and_eq_false_iff]
    exact .inr (decide_eq_false (by rw [List.length_map]; show ¬ (10 : Int) < ((ready S st).length : Int); omega))) S1 fun H2 S2 => WS.nil ?_)
  refine WS.cons (w_ret (xe_lcO rfl scSteps.nd (blkOk_by (N := ["system", "chooser", "stand", "ready", "hands"]) (sc := defScope sSteps) (own := [("hands", 4)]) (by decide +kernel))
    (ev_lcR [("hands", 4)] enNs (fun _ => true) (enStep S st) (Chs ch (ready S st)) (ρt := fun hs => [.d (enS S), .d (.str ch), .d (enSt st), .d (.lst ((ready S st).map nD)), .d (enNs hs)]) (is := [4])
      (xi_list (xe_call G2 hr pass0 (xl_cons (xd_var 1) (xl_cons (xd_var 3) xl_nil)) fun ds hds => ⟨(ch, ready S st), ⟨hds, hl⟩, fun d h => h⟩) (fun d h => by obtain ⟨L, h1, rfl⟩ := h; exact ⟨_, rfl, L, rfl, h1⟩)) (fun i h => h) (fun L h => by have := h.2; omega) (fun L h hs hh s H0 C cl fp => xg_name 4 scSteps.nd) (fun L h hs hh s H0 C cl fp => EvT.imp xts_nil fun b h => h)
      (fun L h hs hh _ s H0 C cl fp => ?_))) S2 S2.lim fun d v H3 p3 S3 => hq _ _ _ _ _ _ _ (by obtain ⟨L, h1, h2⟩ := p3; exact ⟨L, h1, by rw [h2, filt_true]⟩) S3)
  obtain ⟨c1, c2, c3⟩ := ch_ok (ready_asc S st) ((h.1 hs).mp hh)
  exact xd_tup (xl_cons (xd_var 4) (xl_cons (xd_call (S, st, hs) G3 hr pass0 (xl_cons (xd_var 0) (xl_cons (xd_var 2) (xl_cons (xd_var 4) xl_nil))) ⟨rfl, hS, hst, c1, c2, c3⟩ fun d' h => h) xl_nil))
/-! is_count, is_layer -/
abbrev sCount : Stmt := top 34
theorem scCount : FnScope ["thing", "least", "most"] ["thing", "least", "most"] (defScope sCount) := ⟨rfl, rfl, rfl, by decide +kernel, rfl, by decide +kernel, by decide +kernel⟩
abbrev spCount (K : PySem.W.Frag) : Sp := spD K (fun (z : Int) ds => ds = [.int z, .int 0, .non]) fun z d => d = .bl (decide (0 ≤ z))
theorem ok_count {k : Nat} (F : Fun K "is_count" "is_count" sCount f fd) (M : Bi mg) : FnOk P w K mg base CX0 (k + 1) f fd ["thing", "least", "most"] (spCount K) := by
  refine Fun.okD F scCount (fun y ds h => by subst h; rfl) fun cdv A outer s H E hr z ds B σ Q p S0 hq => ?_
  subst p
  by_cases h : 0 ≤ z
  · refine WS.cons (w_ifF (xb_or3 (k := !true) (l := false) (m := decide (z < 0)) (xb_not (xb_val (xd_isi M.isinstance (xd_var 0) rfl M.int (u := "int") (by decide +kernel) (kit_ty (by decide +kernel))))) (fun _ => xb_val (xd_isi M.isinstance (xd_var 0) rfl M.bool (u := "bool") (by decide +kernel) (kit_ty (by decide +kernel)))) fun _ _ => xb_lt (xd_var 0) (xd_var 1)) (by
      rw [decide_eq_false (show ¬ z < 0 from by omega)]
      rfl) S0 fun H1 S1 => WS.nil ?_)
    refine WS.cons (w_ret (xd_orV (k := true) (l := true) (xd_isN (da := .non) (xd_var 2) xd_non) fun h => absurd h (by decide)) S1 S1.lim fun d v H3 p3 S3 => hq _ _ _ _ _ _ _ ?_ S3)
    rw [p3, decide_eq_true h]
    rfl
  · refine WS.cons (w_ifT (xb_or3 (k := !true) (l := false) (m := decide (z < 0)) (xb_not (xb_val (xd_isi M.isinstance (xd_var 0) rfl M.int (u := "int") (by decide +kernel) (kit_ty (by decide +kernel))))) (fun _ => xb_val (xd_isi M.isinstance (xd_var 0) rfl M.bool (u := "bool") (by decide +kernel) (kit_ty (by decide +kernel)))) fun _ _ => xb_lt (xd_var 0) (xd_var 1)) (by
      rw [decide_eq_true (show z < 0 from by omega)]
      rfl) S0 fun H1 S1 => ?_)
    refine WS.cons (w_ret xd_bl S1 S1.lim fun d v H3 p3 S3 => hq _ _ _ _ _ _ _ ?_ S3)
    rw [p3, decide_eq_false h]
/-- a paper's layer is a tuple of ints -/
abbrev sLay : Stmt := top 39
theorem scLay : FnScope ["many", "thing", "one"] ["many", "thing"] (defScope sLay) := ⟨rfl, rfl, rfl, by decide +kernel, rfl, by decide +kernel, by decide +kernel⟩
def isLay (m : Nat) (ns : List Int) : Bool := decide (ns.length = m) && ns.all fun z => decide (0 ≤ z)
abbrev enZs (ns : List Int) : Dt := .tup (ns.map .int)
abbrev spLay (K : PySem.W.Frag) : Sp := spD K (fun (x : Nat × List Int) ds => ds = [nD x.1, enZs x.2] ∧ x.2.length ≤ 10000) fun x d => d = .bl (isLay x.1 x.2)
theorem ok_lay {k : Nat} (F : Fun K "is_layer" "is_layer" sLay f fd) (M : Bi mg) (G : Def P w K mg base CX0 k "is_count" ["thing", "least", "most"] (spCount K)) : FnOk P w K mg base CX0 (k + 1) f fd ["many", "thing"] (spLay K) := by
  refine Fun.okD F scLay (fun y ds h => by obtain ⟨rfl, _⟩ := h; rfl) fun cdv A outer s H E hr y ds B σ Q p S0 hq => ?_
  obtain ⟨m, ns⟩ := y
  obtain ⟨rfl, hl⟩ : ds = [nD m, enZs ns] ∧ ns.length ≤ 10000 := p
  refine WS.cons (w_ret (xd_and3V (k := true) (l := decide (((ns.map Dt.int).length : Int) = (m : Int))) (m := (ns.map fun z => decide (0 ≤ z)).all id) (xd_isi M.isinstance (xd_var 1) rfl M.tuple (u := "tuple") (by decide +kernel) (kit_ty (by decide +kernel))) (fun _ => xd_eq (xd_lenT M.len (ds := ns.map Dt.int) (xd_var 1)) (xd_var 0)) fun _ _ => xd_all rfl M.all (XD.ls (EvP.imp (xe_lcO rfl scLay.nd (blkOk_by (N := ["many", "thing", "one"]) (sc := defScope sLay) (own := [("one", 2)]) (by decide +kernel))
    (ev_lcD [("one", 2)] Dt.int (fun _ => true) (fun z => .bl (decide (0 ≤ z))) ns (ρt := fun z => [.d (nD m), .d (enZs ns), .d (.int z)]) (is := [2])
      (xj_tup (xd_var 1)) (fun i h => h) hl (fun z hz s H0 C cl fp => xg_name 2 scLay.nd) (fun z hz s H0 C cl fp => EvT.imp xts_nil fun b h => h)
      (fun z hz _ s H0 C cl fp => xd_call z G hr pass0 (xl_cons (xd_var 2) (xl_cons xd_int (xl_cons xd_non xl_nil))) rfl fun d' h => h))) (fun d h => by rw [h, filt_true, List.map_map]; rfl)))) S0 S0.lim fun d v H3 p3 S3 => hq _ _ _ _ _ _ _ ?_ S3)
  rw [p3, List.length_map, List.all_map]
  unfold isLay
  have e : decide ((ns.length : Int) = (m : Int)) = decide (ns.length = m) := decide_eq_decide.mpr (by omega)
  rw [e]
  rfl
/-! right_flags -/
abbrev sFlags : Stmt := top 36
theorem scFlags : FnScope ["system", "goal", "stand"] ["system", "goal"] (defScope sFlags) := ⟨rfl, rfl, rfl, by decide +kernel, rfl, by decide +kernel, by decide +kernel⟩
def flags (S : Sys) (g : Go) : List Bool := (stands S).map (right S g)
abbrev enBs (bs : List Bool) : Dt := .lst (bs.map .bl)
abbrev spFlags (K : PySem.W.Frag) (d : Nat) : Sp := spD K (fun (x : Sys × Go) ds => ds = [enS x.1, enG x.2] ∧ WfS x.1 ∧ wfG x.1.n x.1.k x.2 ∧ dpG x.2 < d) fun x r => r = enBs (flags x.1 x.2)
theorem ok_flags {k d : Nat} (F : Fun K "right_flags" "right_flags" sFlags f fd) (G1 : Def P w K mg base CX0 k "all_stands" ["system"] (spAll K)) (G2 : Def P w K mg base CX0 k "is_right" ["system", "goal", "stand"] (spRight K d)) : FnOk P w K mg base CX0 (k + 1) f fd ["system", "goal"] (spFlags K d) := by
  refine Fun.okD F scFlags (fun y ds h => by obtain ⟨rfl, _⟩ := h; rfl) fun cdv A outer s H E hr y ds B σ Q p S0 hq => ?_
  obtain ⟨S, g⟩ := y
  obtain ⟨rfl, hS, hg, hd⟩ : ds = [enS S, enG g] ∧ WfS S ∧ wfG S.n S.k g ∧ dpG g < d := p
  have hsm := hS.small
  refine WS.cons (w_ret (xe_lcO rfl scFlags.nd (blkOk_by (N := ["system", "goal", "stand"]) (sc := defScope sFlags) (own := [("stand", 2)]) (by decide +kernel))
    (ev_lcD [("stand", 2)] enSt (fun _ => true) (fun st => .bl (right S g st)) (stands S) (ρt := fun st => [.d (enS S), .d (enG g), .d (enSt st)]) (is := [2])
      (xj_tup (xd_call S G1 hr pass0 (xl_cons (xd_var 0) xl_nil) ⟨rfl, hS⟩ fun d' h => h)) (fun i h => h) (by rw [stands_len]; omega) (fun z hz s H0 C cl fp => xg_name 2 scFlags.nd) (fun z hz s H0 C cl fp => EvT.imp xts_nil fun b h => h)
      (fun st hz _ s H0 C cl fp => xd_call (S, g, st) G2 hr pass0 (xl_cons (xd_var 0) (xl_cons (xd_var 1) (xl_cons (xd_var 2) xl_nil))) ⟨rfl, hS, wf_stands hS st hz, hg, hd⟩ fun d' h => h))) S0 S0.lim fun d v H3 p3 S3 => hq _ _ _ _ _ _ _ ?_ S3)
  rw [p3, filt_true]
  unfold flags
  rw [enBs, List.map_map]
  rfl
/-! step_numbers -/
abbrev sSn : Stmt := top 35
theorem scSn : FnScope ["system", "chooser", "stands", "numbers", "found", "stand", "number", "hands", "behind"] ["system", "chooser"] (defScope sSn) := ⟨rfl, rfl, rfl, by decide +kernel, rfl, by decide +kernel, by decide +kernel⟩
abbrev Row := List (List Nat × Nat)
def enRow (r : Row) : Dt := .lst (r.map fun p => .tup [enNs p.1, nD p.2])
/-- the steps of a stand, by numbers -/
structure RowOk (S : Sys) (ch : Str) (st : Stand) (r : Row) : Prop where
  all : ∀ hs, Ch ch (ready S st) hs → ∃ j, (hs, j) ∈ r
  is : ∀ p ∈ r, Ch ch (ready S st) p.1 ∧ (stands S)[p.2]? = some (act S st p.1)
  few : r.length ≤ 16
def RowsOk (S : Sys) (ch : Str) (rows : List Row) : Prop := ∀ (s : Nat) r st, rows[s]? = some r → (stands S)[s]? = some st → RowOk S ch st r
abbrev spSn (K : PySem.W.Frag) : Sp := spD K (fun (x : Sys × Str) ds => ds = [enS x.1, .str x.2] ∧ WfS x.1) fun x d => ∃ rows : List Row, rows.length = many x.1 ∧ RowsOk x.1 x.2 rows ∧ d = .lst (rows.map enRow)
theorem ok_sn {k : Nat} (F : Fun K "step_numbers" "step_numbers" sSn f fd) (M : Bi mg) (G1 : Def P w K mg base CX0 k "all_stands" ["system"] (spAll K)) (G2 : Def P w K mg base CX0 k "steps_at" ["system", "chooser", "stand"] (spSteps K)) : FnOk P w K mg base CX0 (k + 1) f fd ["system", "chooser"] (spSn K) := by
  refine Fun.okD F scSn (fun y ds h => by obtain ⟨rfl, _⟩ := h; rfl) fun cdv A outer s H E hr y ds B σ Q p S0 hq => ?_
  obtain ⟨S, ch⟩ := y
  obtain ⟨rfl, hS⟩ : ds = [enS S, .str ch] ∧ WfS S := p
  have hsm := hS.small
  have hsl := stands_len (S := S)
  refine WS.cons (w_set 2 (xd_call S G1 hr pass0 (xl_cons (xd_var 0) xl_nil) ⟨rfl, hS⟩ fun d' h => h) S0 S0.lim (fun d σ1 H1 p1 S1 => ?_) scSn.nd)
  subst p1
  let prs : List (List (List Int) × Int) := (List.range (stands S).length).map fun i => ((stands S).getD i [], (i : Int))
  refine WS.cons (w_nd 3 (prs := prs) hr M.dict (EvP.imp (xe_lcO rfl scSn.nd (blkOk_by (N := ["system", "chooser", "stands", "numbers", "found", "stand", "number", "hands", "behind"]) (sc := defScope sSn) (own := [("number", 6), ("stand", 5)]) (by decide +kernel))
    (ev_lcD [("number", 6), ("stand", 5)] (fun p : List (List Int) × Int => Dt.tup [.int p.2, enSt p.1]) (fun _ => true) (fun p => .tup [enSt p.1, .int p.2]) prs (ρt := fun p => [.d (enS S), .d (.str ch), .d (.tup ((stands S).map enSt)), .u, .u, .d (enSt p.1), .d (.int p.2), .u, .u]) (is := [6] ++ ([5] ++ []))
      (xj_is (xj_enT M.enumerate (xd_var 2)) (by
        show (List.range ((stands S).map enSt).length).map _ = List.map _ (List.map _ _)
        rw [List.length_map, List.map_map]
        refine List.map_congr_left fun i hi => ?_
        show Dt.tup [.int (i : Nat), ((stands S).map enSt).getD i .non] = Dt.tup [.int (i : Nat), enSt ((stands S).getD i [])]
        have hi' := List.mem_range.mp hi
        rw [List.getD_eq_getElem?_getD, List.getElem?_map, List.getElem?_eq_getElem hi', List.getD_eq_getElem?_getD, List.getElem?_eq_getElem hi']
        rfl)) (fun i h => h) (by show (List.map _ _).length ≤ _; rw [List.length_map, List.length_range]; omega) (fun p hp s H0 C cl fp => xg_two rfl (xg_name 6 scSn.nd) (xg_name 5 scSn.nd)) (fun z hz s H0 C cl fp => EvT.imp xts_nil fun b h => h)
      (fun p hp _ s H0 C cl fp => xd_tup (xl_cons (xd_var 5) (xl_cons (xd_var 6) xl_nil))))) (fun d h => by rw [h, filt_true]; rfl)) S1 (fun q m σ2 H2 hk S2 => ?_) scSn.nd)
  have hm : ∀ st ∈ stands S, ∃ j : Nat, m st = some (j : Int) ∧ (stands S)[j]? = some st := fun st hst => by
    obtain ⟨i, hi⟩ := List.mem_iff_getElem?.mp hst
    have hlt := (List.getElem?_eq_some_iff.mp hi).1
    obtain ⟨j, hj⟩ := hk.all (st, (i : Int)) (List.mem_map.mpr ⟨i, List.mem_range.mpr hlt, by rw [List.getD_eq_getElem?_getD, hi]; rfl⟩)
    obtain ⟨i', h1, h2⟩ := List.mem_map.mp (hk.is _ _ hj)
    have h3 := List.mem_range.mp h1
    rw [List.getD_eq_getElem?_getD, List.getElem?_eq_getElem h3] at h2
    cases h2
    exact ⟨i', hj, List.getElem?_eq_getElem h3⟩
  refine WS.cons (w_own 4 xn_nil S2 S2.lim (fun q2 w2 σ3 H3 pw S3 => ?_) scSn.nd)
  subst pw
  refine WS.cons (w_forN 5 enSt (stands S) (fun i O' ρ' => ∃ rows : List Row, rows.length = i ∧ RowsOk S ch rows ∧ O' = [(q2, .lst (rows.map enRow)), (q, .nd P w q m)] ∧ ∃ u, ρ' = [.d (enS S), .d (.str ch), .d (.tup ((stands S).map enSt)), .o q, .o q2, u, .u, .u, .u]) PassesOwn.never rfl scSn.nd (xj_tup (xd_var 2)) S3 ⟨[], rfl, fun s r st h => by simp at h, rfl, .u, rfl⟩ (fun i st O' ρ' T' σ' H' N hy hI S4 kN => ?_) (fun O' ρ' σ' H' hI S4 => ?_))
  · obtain ⟨rows, hl, hrows, rfl, u, rfl⟩ := hI
    have hst := List.mem_of_getElem? hy
    have hwf := wf_stands hS st hst
    have hil := (List.getElem?_eq_some_iff.mp hy).1
    let jOf : List Nat → Nat := fun hs => ((m (act S st hs)).getD 0).toNat
    refine WS.cons (w_append 4 (A := []) (C := [(q, .nd P w q m)]) (xe_lcO rfl scSn.nd (blkOk_by (N := ["system", "chooser", "stands", "numbers", "found", "stand", "number", "hands", "behind"]) (sc := defScope sSn) (own := [("hands", 7), ("behind", 8)]) (by decide +kernel))
      (ev_lcR [("hands", 7), ("behind", 8)] (enStep S st) (fun _ => true) (fun hs => .tup [enNs hs, nD (jOf hs)]) (Chs ch (ready S st)) (ρt := fun hs => [.d (enS S), .d (.str ch), .d (.tup ((stands S).map enSt)), .o q, .o q2, .d (enSt st), .u, .d (enNs hs), .d (enSt (act S st hs))]) (is := [7] ++ ([8] ++ []))
        (xi_list (xe_call G2 hr pass0 (xl_cons (xd_var 0) (xl_cons (xd_var 1) (xl_cons (xd_var 5) xl_nil))) fun ds hds => ⟨(S, ch, st), ⟨hds, hS, hwf⟩, fun d h => h⟩) (fun d h => by obtain ⟨L, h1, rfl⟩ := h; exact ⟨_, rfl, L, rfl, h1⟩)) (fun i h => h) (fun L h => by have := h.2; omega) (fun L h hs hh s H0 C cl fp => xg_two rfl (xg_name 7 scSn.nd) (xg_name 8 scSn.nd)) (fun L h hs hh s H0 C cl fp => EvT.imp xts_nil fun b h => h)
        (fun L h hs hh _ s H0 C cl fp => ?_))) S4 S4.lim (by rw [List.length_map]; omega) (fun d H7 p7 S7 => ?_))
    · obtain ⟨c1, c2, c3⟩ := ch_ok (ready_asc S st) ((h.1 hs).mp hh)
      obtain ⟨j, hj, _⟩ := hm (act S st hs) (mem_stands hS (wf_act hS hwf c3))
      have ej : jOf hs = j := by
        show ((m (act S st hs)).getD 0).toNat = j
        rw [hj]
        exact Int.toNat_natCast j
      rw [ej]
      exact xd_tup (xl_cons (xd_var 7) (xl_cons (xd_nd 3 (st := act S st hs) hr (xd_var 8) hj) xl_nil))
    · obtain ⟨L, hL, rfl⟩ := p7
      rw [filt_true] at S7
      refine WS.nil (kN _ _ _ _ ⟨rows ++ [L.map fun hs => (hs, jOf hs)], by rw [List.length_append, hl]; rfl, fun s r st' h1 h2 => ?_, ?_, .d (enSt st), rfl⟩ S7)
      · by_cases hs : s < rows.length
        · rw [List.getElem?_append_left hs] at h1
          exact hrows s r st' h1 h2
        · have h3 := (List.getElem?_eq_some_iff.mp h1).1
          rw [List.length_append, List.length_singleton] at h3
          have e : s = i := by omega
          subst e
          rw [List.getElem?_append_right (by omega), hl, Nat.sub_self] at h1
          cases h1
          rw [hy] at h2
          cases h2
          refine ⟨fun hs hh => ⟨jOf hs, List.mem_map.mpr ⟨hs, (hL.1 hs).mpr hh, rfl⟩⟩, fun p hp => ?_, by rw [List.length_map]; exact hL.2⟩
          obtain ⟨hs, hh, rfl⟩ := List.mem_map.mp hp
          have hc := (hL.1 hs).mp hh
          obtain ⟨c1, c2, c3⟩ := ch_ok (ready_asc S st) hc
          obtain ⟨j, hj, hj2⟩ := hm (act S st hs) (mem_stands hS (wf_act hS hwf c3))
          have ej : jOf hs = j := by
            show ((m (act S st hs)).getD 0).toNat = j
            rw [hj]
            exact Int.toNat_natCast j
          refine ⟨hc, ?_⟩
          show (stands S)[jOf hs]? = _
          rw [ej]
          exact hj2
      · rw [List.map_append]
        show _ = [(q2, Ow.lst (rows.map enRow ++ [enRow (L.map fun hs => (hs, jOf hs))])), _]
        unfold enRow
        rw [List.map_map]
        rfl
  · obtain ⟨rows, hl, hrows, rfl, u, rfl⟩ := hI
    exact WS.cons (w_retOwn 4 S4 fun v H5 S5 => hq _ _ _ _ _ _ _ ⟨rows, by rw [hl, hsl], hrows, rfl⟩ S5)
end
end Tx


set_option Elab.async false
set_option linter.all false
set_option maxRecDepth 100000
set_option maxHeartbeats 4000000
set_option autoImplicit false
/-! D9: longest_ways. -/
namespace Tx
open PySem PySem.Spec L2 Lg Mo
section
variable {P : Program} {w : World} {K : PySem.W.Frag} {mg : Str → Option Value} {base : Heap} {f : Addr} {fd : FuncData}
abbrev sWays : Stmt := top 37
theorem scWays : FnScope ["nexts", "pool", "found", "turned", "one", "other"] ["nexts", "pool"] (defScope sWays) := ⟨rfl, rfl, rfl, by decide +kernel, rfl, by decide +kernel, by decide +kernel⟩
abbrev KV := List (Key × Dt)
def enNx (nx : List (List Nat)) : Dt := .lst (nx.map fun r => .lst (r.map nD))
def poolK (pl : List Nat) : KV := pl.map fun s => (nK s, .bl true)
/-- all its values are ints -/
def Vi (fv : KV) : Prop := ∀ k d, lookD fv k = some d → ∃ z, d = .int z
theorem vi_nil : Vi [] := fun k d h => by cases h
def hasK (fv : KV) (s : Nat) : Bool := (lookD fv (nK s)).isSome
def zOf (fv : KV) (s : Nat) : Int := match lookD fv (nK s) with | some (.int z) => z | _ => 0
theorem zOf_get {fv : KV} (h : Vi fv) (s : Nat) : (lookD fv (nK s)).getD (.int 0) = .int (zOf fv s) := by
  unfold zOf
  cases e : lookD fv (nK s) with
  | none => rfl
  | some d =>
    obtain ⟨z, rfl⟩ := h _ _ e
    rfl
theorem lookD_app {fv : KV} {k k' : Key} {d : Dt} (h : lookD fv k = none) : lookD (fv ++ [(k, d)]) k' = if k = k' then some d else lookD fv k' := by
  induction fv with
  | nil => rfl
  | cons p r ih =>
    obtain ⟨x, e⟩ := p
    rw [lookD] at h
    by_cases hx : x = k
    · rw [if_pos hx] at h; cases h
    · rw [if_neg hx] at h
      rw [List.cons_append, lookD, lookD]
      by_cases hx' : x = k'
      · rw [if_pos hx', if_pos hx', if_neg fun z => hx (by rw [z, hx'])]
      · rw [if_neg hx', if_neg hx', ih h]
theorem look_pool (pl : List Nat) (s : Nat) : (lookD (poolK pl) (nK s)).isSome = decide (s ∈ pl) := by
  induction pl with
  | nil => rfl
  | cons x r ih =>
    show (if nK x = nK s then some (Dt.bl true) else lookD (poolK r) (nK s)).isSome = _
    by_cases h : x = s
    · rw [if_pos (by rw [h])]
      exact (decide_eq_true (by rw [h]; exact List.mem_cons_self)).symm
    · have hne : nK x ≠ nK s := fun z => h (Int.ofNat.inj (Sum.inl.inj z))
      rw [if_neg hne, ih]
      exact decide_eq_decide.mpr ⟨fun hr => List.mem_cons_of_mem _ hr, fun hr => (List.mem_cons.mp hr).resolve_left fun z => h z.symm⟩
def miss (pl : List Nat) (fv : KV) : Nat := (pl.filter fun s => !hasK fv s).length
theorem filt_le {α : Type} {p q : α → Bool} : ∀ {l : List α}, (∀ x ∈ l, q x = true → p x = true) → (l.filter q).length ≤ (l.filter p).length
  | [], _ => Nat.le_refl _
  | x :: l, h => by
    have ih := filt_le (l := l) fun y hy => h y (List.mem_cons_of_mem _ hy)
    rw [List.filter_cons, List.filter_cons]
    cases hq : q x with
    | true =>
      rw [if_pos rfl, if_pos (h x List.mem_cons_self hq), List.length_cons, List.length_cons]
      omega
    | false =>
      rw [if_neg Bool.false_ne_true]
      cases p x with
      | true => rw [if_pos rfl, List.length_cons]; omega
      | false => exact ih
theorem filt_lt {α : Type} {p q : α → Bool} : ∀ {l : List α} {a : α}, (∀ x ∈ l, q x = true → p x = true) → a ∈ l → p a = true → q a = false → (l.filter q).length < (l.filter p).length
  | [], _, _, ha, _, _ => absurd ha List.not_mem_nil
  | x :: l, a, h, ha, hp, hq => by
    have hl := filt_le (l := l) fun y hy => h y (List.mem_cons_of_mem _ hy)
    rw [List.filter_cons, List.filter_cons]
    rcases List.mem_cons.mp ha with rfl | ha
    · rw [if_neg (by rw [hq]; exact Bool.false_ne_true), if_pos hp, List.length_cons]
      omega
    · have ih := filt_lt (l := l) (fun y hy => h y (List.mem_cons_of_mem _ hy)) ha hp hq
      cases hqx : q x with
      | true =>
        rw [if_pos rfl, if_pos (h x List.mem_cons_self hqx), List.length_cons, List.length_cons]
        omega
      | false =>
        rw [if_neg Bool.false_ne_true]
        cases p x with
        | true => rw [if_pos rfl, List.length_cons]; omega
        | false => exact ih
theorem miss_put {pl : List Nat} {fv : KV} {s : Nat} {d : Dt} (hs : s ∈ pl) (hn : lookD fv (nK s) = none) : miss pl (fv ++ [(nK s, d)]) < miss pl fv := by
  unfold miss
  refine filt_lt (a := s) (fun x _ hx => ?_) hs ?_ ?_
  · unfold hasK at hx ⊢
    rw [lookD_app hn] at hx
    by_cases h : nK s = nK x
    · rw [if_pos h] at hx; cases hx
    · rw [if_neg h] at hx; exact hx
  · unfold hasK; rw [hn]; rfl
  · unfold hasK; rw [lookD_app hn, if_pos rfl]; rfl
/-- s is found, or leads to one of the pool that isn't -/
def Cl1 (nx : List (List Nat)) (pl : List Nat) (fv : KV) (s : Nat) : Prop := hasK fv s = true ∨ ∃ o ∈ nx.getD s [], hasK fv o = false ∧ o ∈ pl
abbrev spWays (K : PySem.W.Frag) : Sp := spD K (fun (x : List (List Nat) × List Nat) ds => ds = [enNx x.1, .dk (poolK x.2)] ∧ x.2.length ≤ 1000 ∧ (∀ s ∈ x.2, s < x.1.length) ∧ ∀ r ∈ x.1, r.length ≤ 1000) fun x d => ∃ fv : KV, d = .dk fv ∧ Vi fv ∧ ∀ s ∈ x.2, Cl1 x.1 x.2 fv s
theorem all_not {α : Type} {p : α → Bool} : ∀ {l : List α}, l.all p = false → ∃ x ∈ l, p x = false
  | [], h => by cases h
  | x :: l, h => by
    rw [List.all_cons, Bool.and_eq_false_iff] at h
    rcases h with h | h
    · exact ⟨x, List.mem_cons_self, h⟩
    · obtain ⟨y, h1, h2⟩ := all_not h
      exact ⟨y, List.mem_cons_of_mem _ h1, h2⟩
theorem ok_ways {k : Nat} (F : Fun K "longest_ways" "longest_ways" sWays f fd) (M : Bi mg) : FnOk P w K mg base CX0 (k + 1) f fd ["nexts", "pool"] (spWays K) := by
  refine Fun.okD F scWays (fun y ds h => by obtain ⟨rfl, _⟩ := h; rfl) fun cdv A outer s H E hr y ds B σ Q p S0 hq => ?_
  obtain ⟨nx, pl⟩ := y
  obtain ⟨rfl, hpl, hin, hrow⟩ : ds = [enNx nx, .dk (poolK pl)] ∧ pl.length ≤ 1000 ∧ (∀ s ∈ pl, s < nx.length) ∧ ∀ r ∈ nx, r.length ≤ 1000 := p
  have hu := hu_of hr
  refine WS.cons (w_own 2 xn_dnil S0 S0.lim (fun q w σ1 H1 pw S1 => ?_) scWays.nd)
  subst pw
  refine WS.cons (w_set 3 xd_bl S1 S1.lim (fun d σ2 H2 p2 S2 => ?_) scWays.nd)
  subst p2
  refine WS.cons (w_while (fun m B' O' ρ' => B' = (B.add 0).add 0 ∧ ∃ (fv : KV) (tb : Bool) (u : Sl), Vi fv ∧ fv.length + miss pl fv ≤ pl.length ∧ (tb = false → ∀ s ∈ pl, Cl1 nx pl fv s) ∧ m = miss pl fv + (if tb = true then 1 else 0) ∧ O' = [(q, .dk fv)] ∧ ρ' = [.d (enNx nx), .d (.dk (poolK pl)), .o q, .d (.bl tb), u, .u])
    (miss pl [] + 1) PassesOwn.never S2 ⟨rfl, [], true, .u, vi_nil, ?_, fun h => absurd h (by decide), rfl, rfl, rfl⟩ fun m B' O' ρ' hI => ?_)
  · show 0 + miss pl [] ≤ pl.length
    rw [Nat.zero_add]
    exact List.length_filter_le _ _
  · obtain ⟨rfl, fv0, tb0, u0, hvi0, hlen0, hcl0, rfl, rfl, rfl⟩ := hI
    refine ⟨tb0, xb_val (xd_var 3), fun ht T' σ' H' N S3 kN => ?_, fun ht σ' H' S3 => ?_⟩
    · subst ht
      refine WS.cons (w_set 3 xd_bl S3 S3.lim (fun d σ4 H4 p4 S4 => ?_) scWays.nd)
      subst p4
      refine WS.cons (w_forK (kvs := poolK pl) 4 1 (pl.map fun n : Nat => (n : Int)) (by unfold poolK; rw [List.map_map, List.map_map]; rfl) (fun i O' ρ' => ∃ (fv : KV) (tb : Bool) (u : Sl), Vi fv ∧ fv.length + miss pl fv ≤ pl.length ∧ (tb = false → fv = fv0 ∧ ∀ s ∈ pl.take i, Cl1 nx pl fv0 s) ∧ (tb = true → miss pl fv < miss pl fv0) ∧ O' = [(q, .dk fv)] ∧ ρ' = [.d (enNx nx), .d (.dk (poolK pl)), .o q, .d (.bl tb), u, .u])
        PassesOwn.never rfl scWays.nd S4 ⟨fv0, false, u0, hvi0, hlen0, fun _ => ⟨rfl, fun s hs => absurd hs List.not_mem_nil⟩, fun h => absurd h (by decide), rfl, rfl⟩ (fun D2 i kk B2 O' ρ' T2 σ5 H5 hk hI S5 kN2 => ?_) fun O' ρ' σ5 H5 hI S5 => ?_)
      · obtain ⟨fv, tb, u, hvi, hlen, hf, ht2, rfl, rfl⟩ := hI
        rw [List.getElem?_map] at hk
        cases es : pl[i]? with
        | none => rw [es] at hk; cases hk
        | some sx =>
          rw [es] at hk
          cases hk
          have hsm := List.mem_of_getElem? es
          have hsx := hin sx hsm
          have hrl := hrow _ (List.getElem_mem hsx)
          have hnx : (nx.map fun r => Dt.lst (r.map nD))[sx]? = some (.lst (nx[sx].map nD)) := by rw [List.getElem?_map, List.getElem?_eq_getElem hsx]; rfl
          have hgd : nx.getD sx [] = nx[sx] := by rw [List.getD_eq_getElem?_getD, List.getElem?_eq_getElem hsx]; rfl
          refine WS.cons (w_if (c := 0) (Pb := fun b => b = ((!hasK fv sx) && (nx[sx].map fun o => hasK fv o || !decide (o ∈ pl)).all id)) ?_ S5 S5.lim (fun H6 pb S6 => ?_) (fun H6 pb S6 => WS.nil (WS.nil (kN2 _ _ _ _ ?_ S6))))
          · refine xb_and2 (xbk_notIn hu (xd_var 4) (xk_own 2)) fun _ => xb_val (xd_all rfl M.all (XD.ls (xe_lcO rfl scWays.nd (blkOk_by (N := ["nexts", "pool", "found", "turned", "one", "other"]) (sc := defScope sWays) (own := [("other", 5)]) (by decide +kernel)) ?_)))
            refine EvP.imp (ev_lcD [("other", 5)] nD (fun _ => true) (fun o => .bl (hasK fv o || !decide (o ∈ pl))) nx[sx] (ρt := fun o => [.d (enNx nx), .d (.dk (poolK pl)), .o q, .d (.bl tb), .d (nD sx), .d (nD o)]) (is := [5])
              (xj_list (xd_ixL (ds := nx.map fun r => Dt.lst (r.map nD)) (XD.ls (xd_var 0)) (xd_var 4) (atI_nat hnx))) (fun i h => h) (by omega) (fun o ho s H0 C cl fp => xg_name 5 scWays.nd) (fun o ho s H0 C cl fp => EvT.imp xts_nil fun b h => h)
              (fun o ho _ s H0 C cl fp => xd_orV (xk_in hu (xd_var 5) (xk_own 2)) fun _ => xd_is (xk_notIn hu (xd_var 5) (XD.k (xd_var 1))) (by rw [look_pool]))) fun d h => by rw [h, filt_true, List.map_map]; rfl
          · have hb := pb.symm
            rw [Bool.and_eq_true] at hb
            have hnone : lookD fv (nK sx) = none := by
              have h1 := hb.1
              unfold hasK at h1
              cases e : lookD fv (nK sx) with
              | none => rfl
              | some d => rw [e] at h1; cases h1
            have hput := miss_put (d := .int (1 + maxD (nx[sx].map (zOf fv)))) hsm hnone
            refine WS.cons (w_dput 2 (A := []) (C := []) hu (xd_add xd_int (xd_maxZ (ns := nx[sx].map (zOf fv)) rfl hr.units M.max (XD.ls (EvP.imp (xe_lcO rfl scWays.nd (blkOk_by (N := ["nexts", "pool", "found", "turned", "one", "other"]) (sc := defScope sWays) (own := [("other", 5)]) (by decide +kernel))
              (ev_lcD [("other", 5)] nD (fun _ => true) (fun o => .int (zOf fv o)) nx[sx] (ρt := fun o => [.d (enNx nx), .d (.dk (poolK pl)), .o q, .d (.bl tb), .d (nD sx), .d (nD o)]) (is := [5])
                (xj_list (xd_ixL (ds := nx.map fun r => Dt.lst (r.map nD)) (XD.ls (xd_var 0)) (xd_var 4) (atI_nat hnx))) (fun i h => h) (by omega) (fun o ho s H0 C cl fp => xg_name 5 scWays.nd) (fun o ho s H0 C cl fp => EvT.imp xts_nil fun b h => h)
                (fun o ho _ s H0 C cl fp => xd_is (xk_get2 hu (xk_own 2) (xd_var 5) xd_int) (zOf_get hvi o)))) (fun d h => by rw [h, filt_true, List.map_map]; rfl))) xd_int)) (xd_var 4) hnone (by omega) S6 S6.lim (fun d H7 p7 S7 => ?_))
            subst p7
            refine WS.cons (w_set 3 xd_bl S7 S7.lim (fun d σ8 H8 p8 S8 => WS.nil (WS.nil (kN2 _ _ _ _ ⟨fv ++ [(nK sx, Dt.int (1 + maxD (nx[sx].map (zOf fv))))], true, .d (nD sx), fun k d h => ?_, ?_, fun h => absurd h (by decide), fun _ => ?_, rfl, ?_⟩ S8))) scWays.nd)
            · rw [lookD_app hnone] at h
              by_cases hk : nK sx = k
              · rw [if_pos hk] at h
                exact ⟨_, (Option.some.inj h).symm⟩
              · rw [if_neg hk] at h
                exact hvi k d h
            · rw [List.length_append, List.length_singleton]
              omega
            · cases tb with
              | true => have := ht2 rfl; omega
              | false => rw [(hf rfl).1] at hput ⊢; exact hput
            · subst p8
              rfl
          · refine ⟨fv, tb, .d (nD sx), hvi, hlen, fun htb => ⟨(hf htb).1, fun s hs => ?_⟩, ht2, rfl, rfl⟩
            rw [List.take_succ, es] at hs
            rcases List.mem_append.mp hs with hs | hs
            · exact (hf htb).2 s hs
            · have e : s = sx := by simpa using hs
              subst e
              have hff := (hf htb).1
              have hb := pb.symm
              rw [Bool.and_eq_false_iff] at hb
              rw [← hff]
              rcases hb with hb | hb
              · left
                cases e : hasK fv s with
                | true => rfl
                | false => rw [e] at hb; cases hb
              · right
                obtain ⟨x, hx, h2⟩ := all_not hb
                obtain ⟨o, ho, rfl⟩ := List.mem_map.mp hx
                have h3 : (hasK fv o || !decide (o ∈ pl)) = false := h2
                rw [Bool.or_eq_false_iff] at h3
                refine ⟨o, by rw [hgd]; exact ho, h3.1, ?_⟩
                have h4 := h3.2
                cases e : decide (o ∈ pl) with
                | true => exact of_decide_eq_true e
                | false => rw [e] at h4; cases h4
      · obtain ⟨fv, tb, u, hvi, hlen, hf, ht2, rfl, rfl⟩ := hI
        rw [List.length_map] at hf
        refine WS.nil (kN (miss pl fv + if tb = true then 1 else 0) _ _ _ _ _ ?_ ⟨rfl, fv, tb, u, hvi, hlen, fun htb => ?_, rfl, rfl, rfl⟩ S5)
        · cases tb with
          | true => have := ht2 rfl; simp; omega
          | false => rw [(hf rfl).1]; simp
        · obtain ⟨h1, h2⟩ := hf htb
          rw [List.take_of_length_le (Nat.le_refl _)] at h2
          rw [h1]
          exact h2
    · subst ht
      exact WS.cons (w_retOwnK 2 S3 fun v H5 S5 => hq _ _ _ _ _ _ _ ⟨fv0, rfl, hvi0, hcl0 rfl⟩ S5)
end
end Tx


set_option Elab.async false
set_option linter.all false
set_option maxRecDepth 100000
set_option maxHeartbeats 4000000
set_option autoImplicit false
/-! D10: stand_fault, leaving_pair, ring_among. -/
namespace Tx
open PySem PySem.Spec L2 Lg Mo
section
variable {P : Program} {w : World} {K : PySem.W.Frag} {mg : Str → Option Value} {base : Heap} {f : Addr} {fd : FuncData}
/-- what stand_fault tells -/
def sfW (row : Row) (wi ri : List Bool) (ns : List Int) (s : Nat) : Str :=
  if (decide (ns.getD s 0 = 0)) != (!wi.getD s false || ri.getD s false) then "number"
  else if (!wi.getD s false) = true then ""
  else if ri.getD s false = true then (if row.all (fun p => wi.getD p.2 false && ri.getD p.2 false) = true then "" else "leaves")
  else if row.length = 0 then "stuck"
  else if row.all (fun p => wi.getD p.2 false && decide (ns.getD p.2 0 < ns.getD s 0)) = true then "" else "falls"
structure Fx where
  row : Row
  wi : List Bool
  ri : List Bool
  ns : List Int
  s : Nat
abbrev sSf : Stmt := top 40
theorem scSf : FnScope ["steps", "within", "right", "numbers", "s", "rests", "stays", "hands", "other", "falls"] ["steps", "within", "right", "numbers", "s"] (defScope sSf) := ⟨rfl, rfl, rfl, by decide +kernel, rfl, by decide +kernel, by decide +kernel⟩
abbrev spSf (K : PySem.W.Frag) : Sp := spD K (fun (x : Fx) ds => ds = [enRow x.row, enBs x.wi, enBs x.ri, enZs x.ns, nD x.s] ∧ x.s < x.wi.length ∧ x.s < x.ri.length ∧ x.s < x.ns.length ∧ x.row.length ≤ 1000 ∧ ∀ p ∈ x.row, p.2 < x.wi.length ∧ p.2 < x.ri.length ∧ p.2 < x.ns.length) fun x d => d = .str (sfW x.row x.wi x.ri x.ns x.s)
theorem bs_at {bs : List Bool} {s : Nat} (h : s < bs.length) : (bs.map Dt.bl)[s]? = some (.bl (bs.getD s false)) := by
  rw [List.getElem?_map, List.getElem?_eq_getElem h, List.getD_eq_getElem?_getD, List.getElem?_eq_getElem h]
  rfl
theorem ns_at {ns : List Int} {s : Nat} (h : s < ns.length) : (ns.map Dt.int)[s]? = some (.int (ns.getD s 0)) := by
  rw [List.getElem?_map, List.getElem?_eq_getElem h, List.getD_eq_getElem?_getD, List.getElem?_eq_getElem h]
  rfl
theorem ok_sf {k : Nat} (F : Fun K "stand_fault" "stand_fault" sSf f fd) (M : Bi mg) : FnOk P w K mg base CX0 (k + 1) f fd ["steps", "within", "right", "numbers", "s"] (spSf K) := by
  refine Fun.okD F scSf (fun y ds h => by obtain ⟨rfl, _⟩ := h; rfl) fun cdv A outer s0 H E hr y ds B σ Q p S0 hq => ?_
  obtain ⟨row, wi, ri, ns, s⟩ := y
  obtain ⟨rfl, h1, h2, h3, hl, hp⟩ : ds = [enRow row, enBs wi, enBs ri, enZs ns, nD s] ∧ s < wi.length ∧ s < ri.length ∧ s < ns.length ∧ row.length ≤ 1000 ∧ ∀ p ∈ row, p.2 < wi.length ∧ p.2 < ri.length ∧ p.2 < ns.length := p
  have iw := fun (c : Nat) (hc : c < wi.length) => atI_nat (bs_at hc)
  have ir := fun (c : Nat) (hc : c < ri.length) => atI_nat (bs_at hc)
  have inn := fun (c : Nat) (hc : c < ns.length) => atI_nat (ns_at hc)
  refine WS.cons (w_set 5 (xd_orV (xd_notV (xd_ixL (XD.ls (xd_var 1)) (xd_var 4) (iw s h1))) fun _ => xd_ixL (XD.ls (xd_var 2)) (xd_var 4) (ir s h2)) S0 S0.lim (fun d σ1 H1 p1 S1 => ?_) scSf.nd)
  subst p1
  have hq' : ∀ (x : Str) d v O ρ T σ' H', d = .str x → x = sfW row wi ri ns s → Sat K B O ρ ((v, d) :: T) σ' H' → Q v H' := fun x d v O ρ T σ' H' e1 e2 S => hq d v O ρ T σ' H' (by rw [e1, e2]) S
  cases c1 : (decide (ns.getD s 0 = 0)) != (!wi.getD s false || ri.getD s false) with
  | true =>
    refine WS.cons (w_ifT (xb_neB (xd_eq (xd_ixT (ds := ns.map Dt.int) (xd_var 3) (xd_var 4) (inn s h3)) xd_int) (xd_var 5)) c1 S1 fun H2 S2 => ?_)
    exact WS.cons (w_ret xd_str S2 S2.lim fun d v H3 p3 S3 => hq' _ _ _ _ _ _ _ _ p3 (by unfold sfW; rw [if_pos c1]) S3)
  | false =>
    have n1 : ¬ ((decide (ns.getD s 0 = 0)) != (!wi.getD s false || ri.getD s false)) = true := by rw [c1]; exact Bool.false_ne_true
    refine WS.cons (w_ifF (xb_neB (xd_eq (xd_ixT (ds := ns.map Dt.int) (xd_var 3) (xd_var 4) (inn s h3)) xd_int) (xd_var 5)) c1 S1 fun H2 S2 => WS.nil ?_)
    cases c2 : !wi.getD s false with
    | true =>
      refine WS.cons (w_ifT (xb_not (xb_val (xd_ixL (XD.ls (xd_var 1)) (xd_var 4) (iw s h1)))) c2 S2 fun H3 S3 => ?_)
      exact WS.cons (w_ret xd_str S3 S3.lim fun d v H3 p3 S3 => hq' _ _ _ _ _ _ _ _ p3 (by unfold sfW; rw [if_neg n1, if_pos c2]) S3)
    | false =>
      have n2 : ¬ (!wi.getD s false) = true := by rw [c2]; exact Bool.false_ne_true
      refine WS.cons (w_ifF (xb_not (xb_val (xd_ixL (XD.ls (xd_var 1)) (xd_var 4) (iw s h1)))) c2 S2 fun H3 S3 => WS.nil ?_)
      cases c3 : ri.getD s false with
      | true =>
        refine WS.cons (w_ifT (xb_val (xd_ixL (XD.ls (xd_var 2)) (xd_var 4) (ir s h2))) c3 S3 fun H4 S4 => ?_)
        refine WS.cons (w_set 6 (xd_all (bs := row.map fun p => wi.getD p.2 false && ri.getD p.2 false) rfl M.all (XD.ls (xe_lcO rfl scSf.nd (blkOk_by (N := ["steps", "within", "right", "numbers", "s", "rests", "stays", "hands", "other", "falls"]) (sc := defScope sSf) (own := [("hands", 7), ("other", 8)]) (by decide +kernel)) (EvP.imp
          (ev_lcD [("hands", 7), ("other", 8)] (fun p : List Nat × Nat => Dt.tup [enNs p.1, nD p.2]) (fun _ => true) (fun p => .bl (wi.getD p.2 false && ri.getD p.2 false)) row (ρt := fun p => [.d (enRow row), .d (enBs wi), .d (enBs ri), .d (enZs ns), .d (nD s), .d (.bl (!wi.getD s false || ri.getD s false)), .u, .d (enNs p.1), .d (nD p.2), .u]) (is := [7] ++ ([8] ++ []))
            (xj_list (xd_var 0)) (fun i h => h) (by omega) (fun p hp s H0 C cl fp => xg_two rfl (xg_name 7 scSf.nd) (xg_name 8 scSf.nd)) (fun p hp s H0 C cl fp => EvT.imp xts_nil fun b h => h)
            (fun p hp' _ s H0 C cl fp => xd_andV (xd_ixL (XD.ls (xd_var 1)) (xd_var 8) (iw p.2 (hp p hp').1)) fun _ => xd_ixL (XD.ls (xd_var 2)) (xd_var 8) (ir p.2 (hp p hp').2.1))) fun d h => by rw [h, filt_true, List.map_map]; rfl)))) S4 S4.lim (fun d σ5 H5 p5 S5 => ?_) scSf.nd)
        subst p5
        have ea : (row.map fun p => wi.getD p.2 false && ri.getD p.2 false).all id = row.all (fun p => wi.getD p.2 false && ri.getD p.2 false) := by rw [List.all_map]; rfl
        refine WS.cons (w_ret (xd_ite (d := .str (if row.all (fun p => wi.getD p.2 false && ri.getD p.2 false) = true then "" else "leaves")) (xb_val (xd_var 6)) (fun h => xd_is xd_str (by rw [← ea, if_pos h])) fun h => xd_is xd_str (by rw [← ea, if_neg (by rw [h]; exact Bool.false_ne_true)])) S5 S5.lim fun d v H3 p3 S3 => hq' _ _ _ _ _ _ _ _ p3 (by unfold sfW; rw [if_neg n1, if_neg n2, if_pos c3]) S3)
      | false =>
        have n3 : ¬ ri.getD s false = true := by rw [c3]; exact Bool.false_ne_true
        refine WS.cons (w_ifF (xb_val (xd_ixL (XD.ls (xd_var 2)) (xd_var 4) (ir s h2))) c3 S3 fun H4 S4 => WS.nil ?_)
        by_cases c4 : row.length = 0
        · refine WS.cons (w_ifT (xb_eq (xd_len M.len (XD.ls (xd_var 0))) xd_int) (decide_eq_true (by rw [List.length_map]; show ((row.length : Nat) : Int) = 0; omega)) S4 fun H5 S5 => ?_)
          exact WS.cons (w_ret xd_str S5 S5.lim fun d v H3 p3 S3 => hq' _ _ _ _ _ _ _ _ p3 (by unfold sfW; rw [if_neg n1, if_neg n2, if_neg n3, if_pos c4]) S3)
        · refine WS.cons (w_ifF (xb_eq (xd_len M.len (XD.ls (xd_var 0))) xd_int) (decide_eq_false (by rw [List.length_map]; show ¬ ((row.length : Nat) : Int) = 0; omega)) S4 fun H5 S5 => WS.nil ?_)
          refine WS.cons (w_set 9 (xd_all (bs := row.map fun p => wi.getD p.2 false && decide (ns.getD p.2 0 < ns.getD s 0)) rfl M.all (XD.ls (xe_lcO rfl scSf.nd (blkOk_by (N := ["steps", "within", "right", "numbers", "s", "rests", "stays", "hands", "other", "falls"]) (sc := defScope sSf) (own := [("hands", 7), ("other", 8)]) (by decide +kernel)) (EvP.imp
            (ev_lcD [("hands", 7), ("other", 8)] (fun p : List Nat × Nat => Dt.tup [enNs p.1, nD p.2]) (fun _ => true) (fun p => .bl (wi.getD p.2 false && decide (ns.getD p.2 0 < ns.getD s 0))) row (ρt := fun p => [.d (enRow row), .d (enBs wi), .d (enBs ri), .d (enZs ns), .d (nD s), .d (.bl (!wi.getD s false || ri.getD s false)), .u, .d (enNs p.1), .d (nD p.2), .u]) (is := [7] ++ ([8] ++ []))
              (xj_list (xd_var 0)) (fun i h => h) (by omega) (fun p hp s H0 C cl fp => xg_two rfl (xg_name 7 scSf.nd) (xg_name 8 scSf.nd)) (fun p hp s H0 C cl fp => EvT.imp xts_nil fun b h => h)
              (fun p hp' _ s' H0 C cl fp => xd_andV (xd_ixL (XD.ls (xd_var 1)) (xd_var 8) (iw p.2 (hp p hp').1)) fun _ => xd_lt (xd_ixT (ds := ns.map Dt.int) (xd_var 3) (xd_var 8) (inn p.2 (hp p hp').2.2)) (xd_ixT (ds := ns.map Dt.int) (xd_var 3) (xd_var 4) (inn s h3)))) fun d h => by rw [h, filt_true, List.map_map]; rfl)))) S5 S5.lim (fun d σ6 H6 p6 S6 => ?_) scSf.nd)
          subst p6
          have ea : (row.map fun p => wi.getD p.2 false && decide (ns.getD p.2 0 < ns.getD s 0)).all id = row.all (fun p => wi.getD p.2 false && decide (ns.getD p.2 0 < ns.getD s 0)) := by rw [List.all_map]; rfl
          refine WS.cons (w_ret (xd_ite (d := .str (if row.all (fun p => wi.getD p.2 false && decide (ns.getD p.2 0 < ns.getD s 0)) = true then "" else "falls")) (xb_val (xd_var 9)) (fun h => xd_is xd_str (by rw [← ea, if_pos h])) fun h => xd_is xd_str (by rw [← ea, if_neg (by rw [h]; exact Bool.false_ne_true)])) S6 S6.lim fun d v H3 p3 S3 => hq' _ _ _ _ _ _ _ _ p3 (by unfold sfW; rw [if_neg n1, if_neg n2, if_neg n3, if_neg c4]) S3)
/-! leaving_pair -/
abbrev sLp : Stmt := top 43
theorem scLp : FnScope ["steps", "within", "right", "s", "hands", "other"] ["steps", "within", "right"] (defScope sLp) := ⟨rfl, rfl, rfl, by decide +kernel, rfl, by decide +kernel, by decide +kernel⟩
def enRows (rows : List Row) : Dt := .lst (rows.map enRow)
structure Lx where
  rows : List Row
  wi : List Bool
  ri : List Bool
/-- rows of m stands -/
def RowsIn (m : Nat) (rows : List Row) : Prop := rows.length = m ∧ m ≤ 1000 ∧ ∀ r ∈ rows, r.length ≤ 1000 ∧ ∀ p ∈ r, p.2 < m
def preLx (x : Lx) (ds : List Dt) : Prop := ds = [enRows x.rows, enBs x.wi, enBs x.ri] ∧ RowsIn x.rows.length x.rows ∧ x.wi.length = x.rows.length ∧ x.ri.length = x.rows.length
def LpOk (m : Nat) (d : Dt) : Prop := d = .non ∨ ∃ (s : Nat) (hs : List Nat), s < m ∧ d = .tup [nD s, enNs hs]
abbrev spLp (K : PySem.W.Frag) : Sp := spD K preLx fun x d => LpOk x.rows.length d
theorem rows_at {rows : List Row} {s : Nat} (h : s < rows.length) : (rows.map enRow)[s]? = some (enRow rows[s]) := by
  rw [List.getElem?_map, List.getElem?_eq_getElem h]
  rfl
theorem ok_lp {k : Nat} (F : Fun K "leaving_pair" "leaving_pair" sLp f fd) (M : Bi mg) : FnOk P w K mg base CX0 (k + 1) f fd ["steps", "within", "right"] (spLp K) := by
  refine Fun.okD F scLp (fun y ds h => by obtain ⟨rfl, _⟩ := h; rfl) fun cdv A outer s0 H E hr y ds B σ Q p S0 hq => ?_
  obtain ⟨rows, wi, ri⟩ := y
  obtain ⟨rfl, ⟨_, hm, hrows⟩, hw, hri⟩ : ds = [enRows rows, enBs wi, enBs ri] ∧ RowsIn rows.length rows ∧ wi.length = rows.length ∧ ri.length = rows.length := p
  refine WS.cons (w_forN 3 nD (List.range rows.length) (fun i O' ρ' => O' = [] ∧ ∃ u1 u2 u3, ρ' = [.d (enRows rows), .d (enBs wi), .d (enBs ri), u1, u2, u3]) PassesOwn.never rfl scLp.nd (xj_range M.range (xd_is (xd_len M.len (XD.ls (xd_var 0))) (by rw [List.length_map]; rfl)) (by omega)) S0 ⟨rfl, .u, .u, .u, rfl⟩ (fun i y O' ρ' T' σ' H' N hy hI S4 kN => ?_) (fun O' ρ' σ' H' hI S4 => ?_))
  · obtain ⟨rfl, u1, u2, u3, rfl⟩ := hI
    obtain ⟨h3, h4⟩ := List.getElem?_eq_some_iff.mp hy
    rw [List.getElem_range] at h4
    rw [List.length_range] at h3
    subst h4
    have hrow := hrows _ (List.getElem_mem h3)
    refine WS.cons (w_if (c := 0) (Pb := fun b => True) ?_ S4 S4.lim (fun H5 _ S5 => ?_) (fun H5 _ S5 => WS.nil (WS.nil (kN _ _ _ _ ⟨rfl, _, _, _, rfl⟩ S5))))
    · exact EvT.imp (xb_and2 (xb_val (xd_ixL (XD.ls (xd_var 1)) (xd_var 3) (atI_nat (bs_at (by omega : i < wi.length))))) fun _ => xb_val (xd_ixL (XD.ls (xd_var 2)) (xd_var 3) (atI_nat (bs_at (by omega : i < ri.length))))) fun _ _ => trivial
    · refine WS.cons (w_for2 4 5 (fun _ (p : List Nat × Nat) => enNs p.1) (fun _ p => nD p.2) rows[i] (rows[i].map fun p => Dt.tup [enNs p.1, nD p.2]) (fun n O' ρ' => O' = [] ∧ ∃ u2 u3, ρ' = [.d (enRows rows), .d (enBs wi), .d (enBs ri), .d (nD i), u2, u3]) PassesOwn.never rfl scLp.nd
        (xj_list (xd_ixL (ds := rows.map enRow) (XD.ls (xd_var 0)) (xd_var 3) (atI_nat (rows_at h3)))) (by rw [List.length_map]) (fun n y hy => by rw [List.getElem?_map, hy]; rfl) S5 ⟨rfl, _, _, rfl⟩ (fun j y O' ρ' T2 σ6 H6 N2 hy2 hI S6 kN2 => ?_) (fun O' ρ' σ6 H6 hI S6 => ?_))
      · obtain ⟨rfl, u2, u3, rfl⟩ := hI
        have hp2 := hrow.2 y (List.mem_of_getElem? hy2)
        refine WS.cons (w_if (c := 0) (Pb := fun b => True) ?_ S6 S6.lim (fun H7 _ S7 => ?_) (fun H7 _ S7 => WS.nil (WS.nil (kN2 _ _ _ _ ⟨rfl, _, _, rfl⟩ S7))))
        · exact EvT.imp (xb_not (xb_val (xd_ixL (XD.ls (xd_var 2)) (xd_var 5) (atI_nat (bs_at (by omega : y.2 < ri.length)))))) fun _ _ => trivial
        · exact WS.cons (w_ret (xd_tup (xl_cons (xd_var 3) (xl_cons (xd_var 4) xl_nil))) S7 S7.lim fun d v H3 p3 S3 => hq _ _ _ _ _ _ _ (.inr ⟨i, y.1, h3, p3⟩) S3)
      · obtain ⟨rfl, u2, u3, rfl⟩ := hI
        exact WS.nil (WS.nil (kN _ _ _ _ ⟨rfl, _, _, _, rfl⟩ S6))
  · obtain ⟨rfl, u1, u2, u3, rfl⟩ := hI
    exact WS.cons (w_ret xd_non S4 S4.lim fun d v H3 p3 S3 => hq _ _ _ _ _ _ _ (.inl p3) S3)
end
end Tx


set_option Elab.async false
set_option linter.all false
set_option maxRecDepth 100000
set_option maxHeartbeats 4000000
set_option autoImplicit false
/-! D11: ring_among, fault_of, layers_told. -/
namespace Tx
open PySem PySem.Spec L2 Lg Mo
section
variable {P : Program} {w : World} {K : PySem.W.Frag} {mg : Str → Option Value} {base : Heap} {f : Addr} {fd : FuncData}
abbrev sRi : Stmt := top 44
theorem scRi : FnScope ["steps", "pool", "line", "acts", "some", "first", "step"] ["steps", "pool"] (defScope sRi) := ⟨rfl, rfl, rfl, by decide +kernel, rfl, by decide +kernel, by decide +kernel⟩
abbrev enPr (p : List Nat × Nat) : Dt := .tup [enNs p.1, nD p.2]
abbrev spRi (K : PySem.W.Frag) : Sp := spD K (fun (x : List Row × List Nat) ds => ds = [enRows x.1, .lst (x.2.map nD)] ∧ RowsIn x.1.length x.1 ∧ x.2 ≠ [] ∧ ∀ s ∈ x.2, s < x.1.length ∧ ∃ p ∈ x.1.getD s [], p.2 ∈ x.2) fun x d => ∃ s ds, s < x.1.length ∧ d = .tup [nD s, .tup ds]
theorem first_at {x : Nat} : ∀ {l : List Nat}, x ∈ l → ∃ k : Nat, l[k]? = some x ∧ ∀ (m : Nat), m < k → ∀ z, l[m]? = some z → z ≠ x
  | [], h => absurd h List.not_mem_nil
  | y :: l, h => by
    by_cases hy : y = x
    · exact ⟨0, by rw [hy]; rfl, fun m hm => absurd hm (Nat.not_lt_zero _)⟩
    · obtain ⟨k, h1, h2⟩ := first_at (l := l) ((List.mem_cons.mp h).resolve_left fun z => hy z.symm)
      refine ⟨k + 1, by simpa using h1, fun m hm z hz => ?_⟩
      cases m with
      | zero => cases hz; exact hy
      | succ m => exact h2 m (by omega) z (by simpa using hz)
def un (m : Nat) (L : List Nat) : Nat := ((List.range m).filter fun s => !decide (s ∈ L)).length
theorem un_lt {m x : Nat} {L : List Nat} (hx : x < m) (h : x ∉ L) : un m (L ++ [x]) < un m L := by
  unfold un
  refine filt_lt (a := x) (fun y _ hy => ?_) (List.mem_range.mpr hx) (by rw [decide_eq_false h]; rfl) (by rw [decide_eq_true (List.mem_append_right _ List.mem_cons_self)]; rfl)
  have h2 : y ∉ L ++ [x] := fun z => by rw [decide_eq_true z] at hy; cases hy
  rw [decide_eq_false fun z => h2 (List.mem_append_left _ z)]
  rfl
theorem cut_last (L : List Nat) (x : Nat) : cutD ((L ++ [x]).map nD) none (some (-1)) = L.map nD := by
  unfold cutD
  have e : HT.sIx ((L ++ [x]).map nD).length ((L ++ [x]).map nD).length (some (-1)) = L.length := by
    show (if (-1 : Int) < 0 then ((-1 : Int) + (((L ++ [x]).map nD).length : Int)).toNat else min (-1 : Int).toNat ((L ++ [x]).map nD).length) = L.length
    rw [if_pos (by decide), List.length_map, List.length_append, List.length_singleton]
    omega
  rw [e, HT.sIx_none, List.drop_zero, Nat.sub_zero, List.map_append, List.take_append_of_le_length (by rw [List.length_map]; exact Nat.le_refl _), List.take_of_length_le (by rw [List.length_map]; exact Nat.le_refl _)]
theorem ok_ri {k : Nat} (F : Fun K "ring_among" "ring_among" sRi f fd) (M : Bi mg) : FnOk P w K mg base CX0 (k + 1) f fd ["steps", "pool"] (spRi K) := by
  refine Fun.okD F scRi (fun y ds h => by obtain ⟨rfl, _⟩ := h; rfl) fun cdv A outer s0 H E hr y ds B σ Q p S0 hq => ?_
  obtain ⟨rows, pool⟩ := y
  obtain ⟨rfl, ⟨_, hm, hrows⟩, hne, hpool⟩ : ds = [enRows rows, .lst (pool.map nD)] ∧ RowsIn rows.length rows ∧ pool ≠ [] ∧ ∀ s ∈ pool, s < rows.length ∧ ∃ p ∈ rows.getD s [], p.2 ∈ pool := p
  obtain ⟨x0, pr, rfl⟩ := List.exists_cons_of_ne_nil hne
  generalize hpl : x0 :: pr = pool at *
  have hx0 : x0 ∈ pool := by rw [← hpl]; exact List.mem_cons_self
  have hp0 : (pool.map nD)[0]? = some (nD x0) := by rw [← hpl]; rfl
  refine WS.cons (w_own 2 (xn_lst (Pw := fun w => w = .lst [nD x0]) (xl_cons (xd_ixL (XD.ls (xd_var 1)) xd_int (atI_nat (j := 0) hp0)) xl_nil) fun ds h => by subst h; exact ⟨Nat.le_of_ble_eq_true rfl, rfl⟩) S0 S0.lim (fun ql w1 σ1 H1 pw S1 => ?_) scRi.nd)
  subst pw
  refine WS.cons (w_own 3 xn_nil S1 S1.lim (fun qa w2 σ2 H2 pw S2 => ?_) scRi.nd)
  subst pw
  refine WS.cons (w_while (fun m B' O' ρ' => B' = (B.add 0).add 0 ∧ ∃ (L : List Nat) (x : Nat) (ac : List Dt) (u v : Sl), x ∈ pool ∧ ac.length = L.length ∧ L.length + un rows.length L ≤ rows.length ∧ m = un rows.length L ∧ O' = [(qa, .lst ac), (ql, .lst ((L ++ [x]).map nD))] ∧ ρ' = [.d (enRows rows), .d (.lst (pool.map nD)), .o ql, .o qa, u, .u, v])
    (un rows.length []) PassesOwn.never S2 ⟨rfl, [], x0, [], .u, .u, hx0, rfl, ?_, rfl, rfl, rfl⟩ fun m B' O' ρ' hI => ?_)
  · show 0 + un rows.length [] ≤ rows.length
    rw [Nat.zero_add]
    have h1 : un rows.length [] ≤ (List.range rows.length).length := List.length_filter_le _ _
    rw [List.length_range] at h1
    exact h1
  · obtain ⟨rfl, L, x, ac, u, v, hx, hal, hlen, rfl, rfl, rfl⟩ := hI
    obtain ⟨hxm, p0, hp1, hp2⟩ := hpool x hx
    have hlast : atI ((L ++ [x]).map nD) (-1) = some (nD x) := by rw [List.map_append]; exact atI_last _ _
    have hrow := hrows _ (List.getElem_mem hxm)
    have hgd : rows.getD x [] = rows[x] := by rw [List.getD_eq_getElem?_getD, List.getElem?_eq_getElem hxm]; rfl
    rw [hgd] at hp1
    refine ⟨!decide ((x : Int) ∈ L.map fun n : Nat => (n : Int)), xb_notIn (xd_ixL (xs_own 2) (xd_neg xd_int) hlast) (XD.ls (xd_is (xd_slL (xs_own 2) xo_none (xo_some (xd_neg xd_int))) (by rw [cut_last, nD_ints]))), fun ht T' σ' H' N S3 kN => ?_, fun ht σ' H' S3 => ?_⟩
    · have hxL : x ∉ L := fun z => by rw [decide_eq_true (mem_cast.mpr z)] at ht; cases ht
      obtain ⟨y, rest, hfil⟩ : ∃ y rest, rows[x].filter (fun p => decide (p.2 ∈ pool)) = y :: rest := by
        refine List.exists_cons_of_ne_nil fun z => ?_
        have : p0 ∈ rows[x].filter (fun p => decide (p.2 ∈ pool)) := List.mem_filter.mpr ⟨hp1, decide_eq_true hp2⟩
        rw [z] at this
        exact List.not_mem_nil this
      have hy : y ∈ rows[x] ∧ y.2 ∈ pool := by
        have : y ∈ rows[x].filter (fun p => decide (p.2 ∈ pool)) := by rw [hfil]; exact List.mem_cons_self
        have h := List.mem_filter.mp this
        exact ⟨h.1, of_decide_eq_true h.2⟩
      have hL : L.length ≤ 1000 := by omega
      refine WS.cons (w_setLc 4 rfl scRi.nd (blkOk_by (N := ["steps", "pool", "line", "acts", "some", "first", "step"]) (sc := defScope sRi) (own := [("step", 6)]) (by decide +kernel))
        (ev_lcD [("step", 6)] enPr (fun p => decide (p.2 ∈ pool)) enPr rows[x] (ρt := fun p => [.d (enRows rows), .d (.lst (pool.map nD)), .o ql, .o qa, u, .u, .d (enPr p)]) (is := [6])
          (xj_list (xd_ixL (ds := rows.map enRow) (XD.ls (xd_var 0)) (xd_ixL (xs_own 2) (xd_neg xd_int) hlast) (atI_nat (rows_at hxm)))) (fun i h => h) (by omega) (fun p hp s H0 C cl fp => xg_name 6 scRi.nd)
          (fun p hp s H0 C cl fp => xts_one (EvT.imp (xb_in (ns := pool.map fun n : Nat => (n : Int)) (xd_ixT (xd_var 6) xd_int rfl) (XD.ls (xd_is (xd_var 1) (by rw [nD_ints])))) fun b hb => by rw [hb]; exact decide_eq_decide.mpr mem_cast)) (fun p hp _ s H0 C cl fp => xd_var 6)) S3 S3.lim (fun d σ4 H4 p4 S4 => ?_))
      subst p4
      rw [hfil] at S4
      have h00 : atI ((y :: rest).map enPr) 0 = some (enPr y) := atI_nat (j := 0) rfl
      refine WS.cons (w_append 3 (A := []) (C := [(ql, .lst ((L ++ [x]).map nD))]) (xd_ixT (xd_ixL (XD.ls (xd_var 4)) xd_int h00) xd_int rfl) S4 S4.lim (by omega) (fun d H5 p5 S5 => ?_))
      subst p5
      refine WS.cons (w_append 2 (A := [(qa, .lst (ac ++ [enNs y.1]))]) (C := []) (xd_ixT (xd_ixL (XD.ls (xd_var 4)) xd_int h00) xd_int rfl) S5 S5.lim (by rw [List.length_map, List.length_append, List.length_singleton]; omega) (fun d H6 p6 S6 => WS.nil (kN (un rows.length (L ++ [x])) _ _ _ _ _ (un_lt hxm hxL) ⟨rfl, L ++ [x], y.2, ac ++ [enNs y.1], _, _, hy.2, ?_, ?_, rfl, ?_, rfl⟩ S6)))
      · rw [List.length_append, List.length_append, hal]; rfl
      · have := un_lt hxm hxL
        rw [List.length_append, List.length_singleton]
        omega
      · subst p6
        rw [List.map_append (l₁ := L ++ [x])]
        rfl
    · have hxL : x ∈ L ++ [x] := List.mem_append_right _ List.mem_cons_self
      obtain ⟨k, hk1, hk2⟩ := first_at hxL
      refine WS.cons (w_set 5 (xd_index (k := k) (ns := (L ++ [x]).map fun n : Nat => (n : Int)) (by rw [← nD_ints]; exact xs_own 2) (xd_ixL (xs_own 2) (xd_neg xd_int) hlast) (by rw [List.getElem?_map, hk1]; rfl) (fun m' z hm' hz => by
        have h9 := hk2 m' hm'
        rw [List.getElem?_map] at hz
        cases e : (L ++ [x])[m']? with
        | none => rw [e] at hz; cases hz
        | some y =>
          rw [e] at hz
          cases hz
          intro e2
          exact h9 y e (Int.ofNat.inj e2))) S3 S3.lim (fun d σ4 H4 p4 S4 => ?_) scRi.nd)
      subst p4
      exact WS.cons (w_ret (xd_tup (xl_cons (xd_ixL (xs_own 2) (xd_var 5) (atI_nat (by rw [List.getElem?_map, hk1]; rfl))) (xl_cons (xd_tuple M.tuple (XD.ls (xd_slL (xs_own 3) (xo_some (xd_var 5)) xo_none))) xl_nil))) S4 S4.lim fun d v H3 p3 S3 => hq _ _ _ _ _ _ _ ⟨x, _, hxm, p3⟩ S3)
/-! fault_of -/
abbrev sFa : Stmt := top 45
theorem scFa : FnScope ["system", "steps", "within", "right", "ways", "left", "rest", "s", "pool", "first", "acts"] ["system", "steps", "within", "right", "ways"] (defScope sFa) := ⟨rfl, rfl, rfl, by decide +kernel, rfl, by decide +kernel, by decide +kernel⟩
structure Fo where
  S : Sys
  rows : List Row
  wi : List Bool
  ri : List Bool
  fv : KV
/-- within, not right -/
def restOf (m : Nat) (wi ri : List Bool) : List Nat := (List.range m).filter fun s => wi.getD s false && !ri.getD s false
def nxOf (rows : List Row) : List (List Nat) := rows.map fun r => r.map (·.2)
abbrev spFa (K : PySem.W.Frag) : Sp := spD K (fun (x : Fo) ds => ds = [enS x.S, enRows x.rows, enBs x.wi, enBs x.ri, .dk x.fv] ∧ WfS x.S ∧ x.rows.length = many x.S ∧ RowsIn x.rows.length x.rows ∧ x.wi.length = x.rows.length ∧ x.ri.length = x.rows.length ∧ ∀ s ∈ restOf x.rows.length x.wi x.ri, Cl1 (nxOf x.rows) (restOf x.rows.length x.wi x.ri) x.fv s)
  fun x d => d = .non ∨ ∃ ds, d = .tup ds
theorem ok_fa {k : Nat} (F : Fun K "fault_of" "fault_of" sFa f fd) (M : Bi mg) (G1 : Def P w K mg base CX0 k "leaving_pair" ["steps", "within", "right"] (spLp K)) (G2 : Def P w K mg base CX0 k "stand_of" ["system", "number"] (spOf K)) (G3 : Def P w K mg base CX0 k "ring_among" ["steps", "pool"] (spRi K)) :
    FnOk P w K mg base CX0 (k + 1) f fd ["system", "steps", "within", "right", "ways"] (spFa K) := by
  refine Fun.okD F scFa (fun y ds h => by obtain ⟨rfl, _⟩ := h; rfl) fun cdv A outer s0 H E hr y ds B σ Q p S0 hq => ?_
  obtain ⟨S, rows, wi, ri, fv⟩ := y
  obtain ⟨rfl, hS, hmany, hR, hw, hri, hcl⟩ : ds = [enS S, enRows rows, enBs wi, enBs ri, .dk fv] ∧ WfS S ∧ rows.length = many S ∧ RowsIn rows.length rows ∧ wi.length = rows.length ∧ ri.length = rows.length ∧ ∀ s ∈ restOf rows.length wi ri, Cl1 (nxOf rows) (restOf rows.length wi ri) fv s := p
  have hu := hu_of hr
  have hm := hR.2.1
  have hrows := hR.2.2
  refine WS.cons (w_set 5 (P := LpOk rows.length) (xe_call G1 hr pass0 (xl_cons (xd_var 1) (xl_cons (xd_var 2) (xl_cons (xd_var 3) xl_nil))) fun ds hds => ⟨(⟨rows, wi, ri⟩ : Lx), ⟨hds, hR, hw, hri⟩, fun d h => h⟩) S0 S0.lim (fun d σ1 H1 p1 S1 => ?_) scFa.nd)
  rcases p1 with rfl | ⟨s, hs, hsm, rfl⟩
  · refine WS.cons (w_ifF (xb_notN (xd_var 5) xd_non) rfl S1 fun H2 S2 => WS.nil ?_)
    have hrest : ∀ s ∈ restOf rows.length wi ri, s < rows.length := fun s hs => List.mem_range.mp (List.mem_filter.mp hs).1
    refine WS.cons (w_setLc 6 rfl scFa.nd (blkOk_by (N := ["system", "steps", "within", "right", "ways", "left", "rest", "s", "pool", "first", "acts"]) (sc := defScope sFa) (own := [("s", 7)]) (by decide +kernel))
      (ev_lcD [("s", 7)] nD (fun s => wi.getD s false && !ri.getD s false) nD (List.range rows.length) (ρt := fun s => [.d (enS S), .d (enRows rows), .d (enBs wi), .d (enBs ri), .d (.dk fv), .d .non, .u, .d (nD s), .u, .u, .u]) (is := [7])
        (xj_range M.range (xd_is (xd_len M.len (XD.ls (xd_var 1))) (by rw [List.length_map]; rfl)) (by omega)) (fun i h => h) (by rw [List.length_range]; omega) (fun p hp s H0 C cl fp => xg_name 7 scFa.nd)
        (fun s hs s' H0 C cl fp => xts_one (xb_and2 (xb_val (xd_ixL (XD.ls (xd_var 2)) (xd_var 7) (atI_nat (bs_at (by have := List.mem_range.mp hs; omega))))) fun _ => xb_not (xb_val (xd_ixL (XD.ls (xd_var 3)) (xd_var 7) (atI_nat (bs_at (by have := List.mem_range.mp hs; omega))))))) (fun s hs _ s' H0 C cl fp => xd_var 7)) S2 S2.lim (fun d σ3 H3 p3 S3 => ?_))
    subst p3
    refine WS.cons (w_forN 7 nD (restOf rows.length wi ri) (fun i O' ρ' => O' = [] ∧ ∃ u, ρ' = [.d (enS S), .d (enRows rows), .d (enBs wi), .d (enBs ri), .d (.dk fv), .d .non, .d (.lst ((restOf rows.length wi ri).map nD)), u, .u, .u, .u]) PassesOwn.never rfl scFa.nd (xj_list (xd_var 6)) S3 ⟨rfl, .u, rfl⟩ (fun i y O' ρ' T' σ' H' N hy hI S4 kN => ?_) (fun O' ρ' σ' H' hI S4 => ?_))
    · obtain ⟨rfl, u, rfl⟩ := hI
      have hym := hrest y (List.mem_of_getElem? hy)
      refine WS.cons (w_if (c := 0) (Pb := fun b => True) ?_ S4 S4.lim (fun H5 _ S5 => ?_) (fun H5 _ S5 => WS.nil (WS.nil (kN _ _ _ _ ⟨rfl, _, rfl⟩ S5))))
      · exact EvT.imp (xb_eq (xd_len M.len (XD.ls (xd_ixL (ds := rows.map enRow) (XD.ls (xd_var 1)) (xd_var 7) (atI_nat (rows_at hym))))) xd_int) fun _ _ => trivial
      · exact WS.cons (w_ret (xd_tup (xl_cons xd_str (xl_cons (xd_call (S, y) G2 hr pass0 (xl_cons (xd_var 0) (xl_cons (xd_var 7) xl_nil)) ⟨rfl, hS, by rw [← hmany]; exact hym⟩ fun d' h => h) xl_nil))) S5 S5.lim fun d v H3 p3 S3 => hq _ _ _ _ _ _ _ (.inr ⟨_, p3⟩) S3)
    · obtain ⟨rfl, u, rfl⟩ := hI
      have hpl : ∀ s ∈ (restOf rows.length wi ri).filter (fun s => !hasK fv s), s < rows.length ∧ ∃ p ∈ rows.getD s [], p.2 ∈ (restOf rows.length wi ri).filter fun s => !hasK fv s := fun s hs => by
        obtain ⟨h1, h2⟩ := List.mem_filter.mp hs
        have hsm := hrest s h1
        refine ⟨hsm, ?_⟩
        rcases hcl s h1 with h3 | ⟨o, ho, h4, h5⟩
        · rw [h3] at h2; cases h2
        · have e : (nxOf rows).getD s [] = (rows.getD s []).map (·.2) := by
            unfold nxOf
            rw [List.getD_eq_getElem?_getD, List.getElem?_map, List.getElem?_eq_getElem hsm, List.getD_eq_getElem?_getD, List.getElem?_eq_getElem hsm]
            rfl
          rw [e] at ho
          obtain ⟨p, hp, rfl⟩ := List.mem_map.mp ho
          exact ⟨p, hp, List.mem_filter.mpr ⟨h5, by rw [h4]; rfl⟩⟩
      have hlen : (restOf rows.length wi ri).length ≤ 1000 := by
        have h1 : (restOf rows.length wi ri).length ≤ (List.range rows.length).length := List.length_filter_le _ _
        rw [List.length_range] at h1
        omega
      refine WS.cons (w_setLc 8 rfl scFa.nd (blkOk_by (N := ["system", "steps", "within", "right", "ways", "left", "rest", "s", "pool", "first", "acts"]) (sc := defScope sFa) (own := [("s", 7)]) (by decide +kernel))
        (ev_lcD [("s", 7)] nD (fun s => !hasK fv s) nD (restOf rows.length wi ri) (ρt := fun s => [.d (enS S), .d (enRows rows), .d (enBs wi), .d (enBs ri), .d (.dk fv), .d .non, .d (.lst ((restOf rows.length wi ri).map nD)), .d (nD s), .u, .u, .u]) (is := [7])
          (xj_list (xd_var 6)) (fun i h => h) (by omega) (fun p hp s H0 C cl fp => xg_name 7 scFa.nd)
          (fun s hs s' H0 C cl fp => xts_one (xbk_notIn hu (xd_var 7) (XD.k (xd_var 4)))) (fun s hs _ s' H0 C cl fp => xd_var 7)) S4 S4.lim (fun d σ5 H5 p5 S5 => ?_))
      subst p5
      by_cases hpe : (restOf rows.length wi ri).filter (fun s => !hasK fv s) = []
      · refine WS.cons (w_ifF (xb_gt (xd_len M.len (XD.ls (xd_var 8))) xd_int) (decide_eq_false (by rw [hpe]; decide)) S5 fun H6 S6 => WS.nil ?_)
        exact WS.cons (w_ret xd_non S6 S6.lim fun d v H3 p3 S3 => hq _ _ _ _ _ _ _ (.inl p3) S3)
      · have hlp := List.length_pos_iff.mpr hpe
        refine WS.cons (w_ifT (xb_gt (xd_len M.len (XD.ls (xd_var 8))) xd_int) (decide_eq_true (by rw [List.length_map]; omega)) S5 fun H6 S6 => ?_)
        refine WS.cons (w_asg (P := fun d => ∃ s ds, s < rows.length ∧ d = .tup [nD s, .tup ds]) (ρ' := fun d => match d with | .tup [a, b] => [.d (enS S), .d (enRows rows), .d (enBs wi), .d (enBs ri), .d (.dk fv), .d .non, .d (.lst ((restOf rows.length wi ri).map nD)), u, .d (.lst (((restOf rows.length wi ri).filter fun s => !hasK fv s).map nD)), .d a, .d b] | _ => []) (is := [9] ++ ([10] ++ [])) (xe_call G3 hr pass0 (xl_cons (xd_var 1) (xl_cons (xd_var 8) xl_nil)) fun ds hds => ⟨(rows, (restOf rows.length wi ri).filter fun s => !hasK fv s), ⟨hds, hR, hpe, hpl⟩, fun d h => h⟩) (fun d pd => by
          obtain ⟨s, ds, _, rfl⟩ := pd
          exact xg_two rfl (xg_name 9 scFa.nd) (xg_name 10 scFa.nd)) S6 S6.lim fun d σ7 H7 p7 S7 => ?_)
        obtain ⟨s, ds, hs, rfl⟩ := p7
        exact WS.cons (w_ret (xd_tup (xl_cons xd_str (xl_cons (xd_call (S, s) G2 hr pass0 (xl_cons (xd_var 0) (xl_cons (xd_var 9) xl_nil)) ⟨rfl, hS, by rw [← hmany]; exact hs⟩ fun d' h => h) (xl_cons (xd_var 10) xl_nil)))) S7 S7.lim fun d v H3 p3 S3 => hq _ _ _ _ _ _ _ (.inr ⟨_, p3⟩) S3)
  · refine WS.cons (w_ifT (xb_notN (xd_var 5) xd_non) rfl S1 fun H2 S2 => ?_)
    exact WS.cons (w_ret (xd_tup (xl_cons xd_str (xl_cons (xd_call (S, s) G2 hr pass0 (xl_cons (xd_var 0) (xl_cons (xd_ixT (xd_var 5) xd_int rfl) xl_nil)) ⟨rfl, hS, by rw [← hmany]; exact hsm⟩ fun d' h => h) (xl_cons (xd_ixT (xd_var 5) xd_int rfl) xl_nil)))) S2 S2.lim fun d v H3 p3 S3 => hq _ _ _ _ _ _ _ (.inr ⟨_, p3⟩) S3)
end
end Tx


set_option Elab.async false
set_option linter.all false
set_option maxRecDepth 100000
set_option maxHeartbeats 4000000
set_option autoImplicit false
/-! D12: layers_told. -/
namespace Tx
open PySem PySem.Spec L2 Lg Mo
section
variable {P : Program} {w : World} {K : PySem.W.Frag} {mg : Str → Option Value} {base : Heap} {f : Addr} {fd : FuncData}
abbrev sLt : Stmt := top 46
abbrev ltN : List Str := ["system", "chooser", "goals", "steps", "within", "paper", "most", "k", "goal", "right", "rest", "ways", "fault", "s", "some", "hands", "other"]
theorem scLt : FnScope ltN ["system", "chooser", "goals"] (defScope sLt) := ⟨rfl, rfl, rfl, by decide +kernel, rfl, by decide +kernel, by decide +kernel⟩
structure Lt where
  S : Sys
  ch : Str
  gs : List Go
def preLt (D : Nat) (x : Lt) (ds : List Dt) : Prop := ds = [enS x.S, .str x.ch, .lst (x.gs.map enG)] ∧ WfS x.S ∧ x.gs.length ≤ 100 ∧ ∀ g ∈ x.gs, wfG x.S.n x.S.k g ∧ dpG g < D
/-- papers -/
def enP (p : List (List Int)) : Dt := .tup (p.map enZs)
def PapOk (m n : Nat) (p : List (List Int)) : Prop := p.length = n ∧ ∀ l ∈ p, l.length = m
abbrev spLt (K : PySem.W.Frag) (D : Nat) : Sp := spD K (preLt D) fun x d => (∃ ds, d = .tup (.str "fails" :: ds)) ∨ ∃ p z, PapOk (many x.S) x.gs.length p ∧ d = .tup [.str "rights", enP p, .int z]
theorem ok_lt {k D : Nat} (F : Fun K "layers_told" "layers_told" sLt f fd) (M : Bi mg) (G1 : Def P w K mg base CX0 k "step_numbers" ["system", "chooser"] (spSn K)) (G2 : Def P w K mg base CX0 k "right_flags" ["system", "goal"] (spFlags K D)) (G3 : Def P w K mg base CX0 k "longest_ways" ["nexts", "pool"] (spWays K)) (G4 : Def P w K mg base CX0 k "fault_of" ["system", "steps", "within", "right", "ways"] (spFa K)) :
    FnOk P w K mg base CX0 (k + 1) f fd ["system", "chooser", "goals"] (spLt K D) := by
  refine Fun.okD F scLt (fun y ds h => by obtain ⟨rfl, _⟩ := h; rfl) fun cdv A outer s0 H E hr y ds B σ Q p S0 hq => ?_
  obtain ⟨S, ch, gs⟩ := y
  obtain ⟨rfl, hS, hgl, hgs⟩ : ds = [enS S, .str ch, .lst (gs.map enG)] ∧ WfS S ∧ gs.length ≤ 100 ∧ ∀ g ∈ gs, wfG S.n S.k g ∧ dpG g < D := p
  have hu := hu_of hr
  have hsm := hS.small
  refine WS.cons (w_set 3 (P := fun d => ∃ rows : List Row, rows.length = many S ∧ RowsOk S ch rows ∧ d = .lst (rows.map enRow)) (xe_call G1 hr pass0 (xl_cons (xd_var 0) (xl_cons (xd_var 1) xl_nil)) fun ds hds => ⟨(S, ch), ⟨hds, hS⟩, fun d h => h⟩) S0 S0.lim (fun d σ1 H1 p1 S1 => ?_) scLt.nd)
  obtain ⟨rows, hrl, hrows, rfl⟩ := p1
  have hRI : RowsIn rows.length rows := by
    refine ⟨rfl, by omega, fun r hr => ?_⟩
    obtain ⟨i, hi⟩ := List.mem_iff_getElem?.mp hr
    have hlt := (List.getElem?_eq_some_iff.mp hi).1
    have hok := hrows i r _ hi (List.getElem?_eq_getElem (by rw [stands_len]; omega))
    have hfew := hok.few
    refine ⟨by omega, fun p hp => ?_⟩
    have h2 := (List.getElem?_eq_some_iff.mp (hok.is p hp).2).1
    rw [stands_len] at h2
    omega
  have hm := hRI.2.1
  refine WS.cons (w_set 4 (xe_lcO rfl scLt.nd (blkOk_by (N := ltN) (sc := defScope sLt) (own := [("s", 13)]) (by decide +kernel))
    (ev_lcD [("s", 13)] nD (fun _ => true) (fun _ => .bl true) (List.range rows.length) (ρt := fun s => [.d (enS S), .d (.str ch), .d (.lst (gs.map enG)), .d (enRows rows), .u, .u, .u, .u, .u, .u, .u, .u, .u, .d (nD s), .u, .u, .u]) (is := [13])
      (xj_range M.range (xd_is (xd_len M.len (XD.ls (xd_var 3))) (by rw [List.length_map]; rfl)) (by omega)) (fun i h => h) (by rw [List.length_range]; omega) (fun p hp s H0 C cl fp => xg_name 13 scLt.nd) (fun p hp s H0 C cl fp => EvT.imp xts_nil fun b h => h) (fun s hs _ s' H0 C cl fp => xd_bl))) S1 S1.lim (fun d σ2 H2 p2 S2 => ?_) scLt.nd)
  have ew : d = enBs ((List.range rows.length).map fun _ => true) := by
    rw [p2, filt_true, enBs, List.map_map]
    rfl
  rw [ew] at S2
  refine WS.cons (w_own 5 xn_nil S2 S2.lim (fun q w σ3 H3 pw S3 => ?_) scLt.nd)
  subst pw
  refine WS.cons (w_set 6 xd_int S3 S3.lim (fun d' σ4 H4 p4 S4 => ?_) scLt.nd)
  subst p4
  refine WS.cons (w_for2 7 8 (fun n _ => nD n) (fun _ g => enG g) gs (enD (gs.map enG)) (fun n O' ρ' => ∃ (ps : List (List Int)) (wi : List Bool) (z : Int) (u1 u2 u3 u4 u5 u6 : Sl), PapOk (many S) n ps ∧ wi.length = rows.length ∧ O' = [(q, .lst (ps.map enZs))] ∧ ρ' = [.d (enS S), .d (.str ch), .d (.lst (gs.map enG)), .d (enRows rows), .d (enBs wi), .o q, .d (.int z), u1, u2, u3, u4, u5, u6, .u, .u, .u, .u])
    PassesOwn.never rfl scLt.nd (xj_enum M.enumerate (xd_var 2)) (by rw [enD_len, List.length_map]) (fun n y hy => enD_get' enG _ hy) S4 ⟨[], (List.range rows.length).map fun _ => true, 0, .u, .u, .u, .u, .u, .u, ⟨rfl, fun l hl => absurd hl List.not_mem_nil⟩, by rw [List.length_map, List.length_range], rfl, rfl⟩ (fun i g O' ρ' T' σ' H' N hy hI S5 kN => ?_) (fun O' ρ' σ' H' hI S5 => ?_))
  · obtain ⟨ps, wi, z, u1, u2, u3, u4, u5, u6, hps, hwi, rfl, rfl⟩ := hI
    obtain ⟨hgw, hgd⟩ := hgs g (List.mem_of_getElem? hy)
    have hfl : (flags S g).length = rows.length := by unfold flags; rw [List.length_map, stands_len, hrl]
    refine WS.cons (w_set 9 (xd_call (S, g) G2 hr pass0 (xl_cons (xd_var 0) (xl_cons (xd_var 8) xl_nil)) ⟨rfl, hS, hgw, hgd⟩ fun d' h => h) S5 S5.lim (fun d6 σ6 H6 p6 S6 => ?_) scLt.nd)
    subst p6
    have hrestlt : ∀ s ∈ restOf rows.length wi (flags S g), s < rows.length := fun s hs => List.mem_range.mp (List.mem_filter.mp hs).1
    have hrestlen : (restOf rows.length wi (flags S g)).length ≤ rows.length := by
      have h1 : (restOf rows.length wi (flags S g)).length ≤ (List.range rows.length).length := List.length_filter_le _ _
      rw [List.length_range] at h1
      exact h1
    refine WS.cons (w_set 10 (P := fun d => d = .dk (poolK (restOf rows.length wi (flags S g)))) (xd_dictP (xs := restOf rows.length wi (flags S g)) id (fun _ => .bl true) rfl M.dict (xe_lcO rfl scLt.nd (blkOk_by (N := ltN) (sc := defScope sLt) (own := [("s", 13)]) (by decide +kernel))
      (ev_lcD [("s", 13)] nD (fun s => wi.getD s false && !(flags S g).getD s false) (fun s => .tup [nD s, .bl true]) (List.range rows.length) (ρt := fun s => [.d (enS S), .d (.str ch), .d (.lst (gs.map enG)), .d (enRows rows), .d (enBs wi), .o q, .d (.int z), .d (nD i), .d (enG g), .d (enBs (flags S g)), u4, u5, u6, .d (nD s), .u, .u, .u]) (is := [13])
        (xj_range M.range (xd_is (xd_len M.len (XD.ls (xd_var 3))) (by rw [List.length_map]; rfl)) (by omega)) (fun i h => h) (by rw [List.length_range]; omega) (fun p hp s H0 C cl fp => xg_name 13 scLt.nd)
        (fun s hs s' H0 C cl fp => xts_one (xb_and2 (xb_val (xd_ixL (XD.ls (xd_var 4)) (xd_var 13) (atI_nat (bs_at (by have := List.mem_range.mp hs; omega))))) fun _ => xb_not (xb_val (xd_ixL (XD.ls (xd_var 9)) (xd_var 13) (atI_nat (bs_at (by have := List.mem_range.mp hs; omega))))))) (fun s hs _ s' H0 C cl fp => xd_tup (xl_cons (xd_var 13) (xl_cons xd_bl xl_nil))))) (by rw [List.map_id]; exact List.Pairwise.filter _ List.nodup_range)) S6 S6.lim (fun d7 σ7 H7 p7 S7 => ?_) scLt.nd)
    subst p7
    have hnl : (nxOf rows).length = rows.length := by unfold nxOf; rw [List.length_map]
    refine WS.cons (w_set 11 (P := fun d => ∃ fv : KV, d = .dk fv ∧ Vi fv ∧ ∀ s ∈ restOf rows.length wi (flags S g), Cl1 (nxOf rows) (restOf rows.length wi (flags S g)) fv s) (xe_call G3 hr pass0 (xl_cons (d := enNx (nxOf rows)) (xe_lcO rfl scLt.nd (blkOk_by (N := ltN) (sc := defScope sLt) (own := [("some", 14)]) (by decide +kernel)) (EvP.imp
      (ev_lcD [("some", 14)] enRow (fun _ => true) (fun r : Row => .lst ((r.map (·.2)).map nD)) rows (ρt := fun r => [.d (enS S), .d (.str ch), .d (.lst (gs.map enG)), .d (enRows rows), .d (enBs wi), .o q, .d (.int z), .d (nD i), .d (enG g), .d (enBs (flags S g)), .d (.dk (poolK (restOf rows.length wi (flags S g)))), u5, u6, .u, .d (enRow r), .u, .u]) (is := [14])
        (xj_list (xd_var 3)) (fun i h => h) (by omega) (fun p hp s H0 C cl fp => xg_name 14 scLt.nd) (fun p hp s H0 C cl fp => EvT.imp xts_nil fun b h => h) (fun r hr' _ s' H0 C cl fp => ?_)) fun d h => by rw [h, filt_true]; unfold enNx nxOf; rw [List.map_map]; rfl)) (xl_cons (xd_var 10) xl_nil)) fun ds hds => ⟨(nxOf rows, restOf rows.length wi (flags S g)), ⟨hds, Nat.le_trans hrestlen hm, fun s hs => by rw [hnl]; exact hrestlt s hs, fun r hr' => by
          obtain ⟨r0, h0, rfl⟩ := List.mem_map.mp hr'
          rw [List.length_map]
          exact (hRI.2.2 r0 h0).1⟩, fun d h => h⟩) S7 S7.lim (fun d8 σ8 H8 p8 S8 => ?_) scLt.nd)
    · refine xe_lcO rfl scLt.nd (blkOk_by (own := [("hands", 15), ("other", 16)]) (by kernel_rfl)) (EvP.imp
        (ev_lcD [("hands", 15), ("other", 16)] enPr (fun _ => true) (fun p : List Nat × Nat => nD p.2) r (ρt := fun p => [.d (enS S), .d (.str ch), .d (.lst (gs.map enG)), .d (enRows rows), .d (enBs wi), .o q, .d (.int z), .d (nD i), .d (enG g), .d (enBs (flags S g)), .d (.dk (poolK (restOf rows.length wi (flags S g)))), u5, u6, .u, .d (enRow r), .d (enNs p.1), .d (nD p.2)]) (is := [15] ++ ([16] ++ []))
          (xj_list (xd_var 14)) (fun i h => h) (by have := (hRI.2.2 r hr').1; omega) (fun p hp s H0 C cl fp => xg_two rfl (xg_name 15 scLt.nd) (xg_name 16 scLt.nd)) (fun p hp s H0 C cl fp => EvT.imp xts_nil fun b h => h) (fun p hp _ s' H0 C cl fp => xd_var 16)) fun d h => by rw [h, filt_true, List.map_map]; rfl)
    · obtain ⟨fv, rfl, hvi, hcl⟩ := p8
      refine WS.cons (w_set 12 (P := fun d => d = .non ∨ ∃ ds, d = .tup ds) (xe_call G4 hr pass0 (xl_cons (xd_var 0) (xl_cons (xd_var 3) (xl_cons (xd_var 4) (xl_cons (xd_var 9) (xl_cons (xd_var 11) xl_nil))))) fun ds hds => ⟨(⟨S, rows, wi, flags S g, fv⟩ : Fo), ⟨hds, hS, hrl, hRI, hwi, hfl, hcl⟩, fun d h => h⟩) S8 S8.lim (fun d9 σ9 H9 p9 S9 => ?_) scLt.nd)
      rcases p9 with rfl | ⟨dsf, rfl⟩
      · refine WS.cons (w_ifF (xb_notN (xd_var 12) xd_non) rfl S9 fun H10 S10 => WS.nil ?_)
        refine WS.cons (w_append 5 (A := []) (C := []) (xd_tuple (ds := ((List.range rows.length).map (zOf fv)).map Dt.int) M.tuple (XD.ls (xe_lcO rfl scLt.nd (blkOk_by (N := ltN) (sc := defScope sLt) (own := [("s", 13)]) (by decide +kernel)) (EvP.imp
          (ev_lcD [("s", 13)] nD (fun _ => true) (fun s => .int (zOf fv s)) (List.range rows.length) (ρt := fun s => [.d (enS S), .d (.str ch), .d (.lst (gs.map enG)), .d (enRows rows), .d (enBs wi), .o q, .d (.int z), .d (nD i), .d (enG g), .d (enBs (flags S g)), .d (.dk (poolK (restOf rows.length wi (flags S g)))), .d (.dk fv), .d .non, .d (nD s), .u, .u, .u]) (is := [13])
            (xj_range M.range (xd_is (xd_len M.len (XD.ls (xd_var 3))) (by rw [List.length_map]; rfl)) (by omega)) (fun i h => h) (by rw [List.length_range]; omega) (fun p hp s H0 C cl fp => xg_name 13 scLt.nd) (fun p hp s H0 C cl fp => EvT.imp xts_nil fun b h => h)
            (fun s hs _ s' H0 C cl fp => xd_is (xk_get2 hu (XD.k (xd_var 11)) (xd_var 13) xd_int) (zOf_get hvi s))) fun d h => by rw [h, filt_true, List.map_map]; rfl)))) S10 S10.lim (by rw [List.length_map, hps.1]; have := (List.getElem?_eq_some_iff.mp hy).1; omega) (fun d11 H11 p11 S11 => ?_))
        subst p11
        have hlst : atI (ps.map enZs ++ [Dt.tup (((List.range rows.length).map (zOf fv)).map Dt.int)]) (-1) = some (Dt.tup (((List.range rows.length).map (zOf fv)).map Dt.int)) := atI_last _ _
        have hmany1 : 1 ≤ rows.length := by
          have h1 := hS.small
          rw [hrl]
          have := (figs_surj (facs S) (facs_pos hS) ((facs S).map fun _ => 0) (by rw [List.length_map]) fun j v s h1 h2 => by
            rw [List.getElem?_map, h2] at h1
            cases h1
            have := facs_pos hS s (List.mem_of_getElem? h2)
            exact ⟨Int.le_refl _, by show (0 : Int) < (s : Int); omega⟩)
          obtain ⟨x, hx, _⟩ := this
          have hx' : x < many S := hx
          omega
        refine WS.cons (w_set 6 (xd_add (xd_var 6) (xd_maxT (ns := (List.range rows.length).map (zOf fv)) rfl hr.units M.max (xd_ixL (xs_own 5) (xd_neg xd_int) hlst) (by
          intro z
          have := congrArg List.length z
          rw [List.length_map, List.length_range] at this
          have h0 : rows.length = 0 := this
          omega))) S11 S11.lim (fun d12 σ12 H12 p12 S12 => ?_) scLt.nd)
        subst p12
        refine WS.cons (w_set 4 (xe_lcO rfl scLt.nd (blkOk_by (N := ltN) (sc := defScope sLt) (own := [("s", 13)]) (by decide +kernel))
          (ev_lcD [("s", 13)] nD (fun _ => true) (fun s => .bl (wi.getD s false && (flags S g).getD s false)) (List.range rows.length) (ρt := fun s => [.d (enS S), .d (.str ch), .d (.lst (gs.map enG)), .d (enRows rows), .d (enBs wi), .o q, .d (.int (z + maxD ((List.range rows.length).map (zOf fv)))), .d (nD i), .d (enG g), .d (enBs (flags S g)), .d (.dk (poolK (restOf rows.length wi (flags S g)))), .d (.dk fv), .d .non, .d (nD s), .u, .u, .u]) (is := [13])
            (xj_range M.range (xd_is (xd_len M.len (XD.ls (xd_var 3))) (by rw [List.length_map]; rfl)) (by omega)) (fun i h => h) (by rw [List.length_range]; omega) (fun p hp s H0 C cl fp => xg_name 13 scLt.nd) (fun p hp s H0 C cl fp => EvT.imp xts_nil fun b h => h)
            (fun s hs _ s' H0 C cl fp => xd_andV (xd_ixL (XD.ls (xd_var 4)) (xd_var 13) (atI_nat (bs_at (by have := List.mem_range.mp hs; omega)))) fun _ => xd_ixL (XD.ls (xd_var 9)) (xd_var 13) (atI_nat (bs_at (by have := List.mem_range.mp hs; omega)))))) S12 S12.lim (fun d13 σ13 H13 p13 S13 => ?_) scLt.nd)
        have ew2 : d13 = enBs ((List.range rows.length).map fun s => wi.getD s false && (flags S g).getD s false) := by
          rw [p13, filt_true, enBs, List.map_map]
          rfl
        rw [ew2] at S13
        refine WS.nil (kN _ _ _ _ ⟨ps ++ [(List.range rows.length).map (zOf fv)], (List.range rows.length).map fun s => wi.getD s false && (flags S g).getD s false, _, _, _, _, _, _, _, ⟨by rw [List.length_append, hps.1]; rfl, fun l hl => ?_⟩, by rw [List.length_map, List.length_range], ?_, rfl⟩ S13)
        · rcases List.mem_append.mp hl with hl | hl
          · exact hps.2 l hl
          · rw [List.mem_singleton.mp hl, List.length_map, List.length_range, hrl]
        · rw [List.map_append]
          rfl
      · refine WS.cons (w_ifT (xb_notN (xd_var 12) xd_non) rfl S9 fun H10 S10 => ?_)
        exact WS.cons (w_ret (xd_tup (xl_cons xd_str (xl_cons (xd_var 7) (xl_cons (xd_var 12) xl_nil)))) S10 S10.lim fun d v H3 p3 S3 => hq _ _ _ _ _ _ _ (.inl ⟨_, p3⟩) S3)
  · obtain ⟨ps, wi, z, u1, u2, u3, u4, u5, u6, hps, hwi, rfl, rfl⟩ := hI
    exact WS.cons (w_ret (xd_tup (xl_cons xd_str (xl_cons (xd_tuple M.tuple (xs_own 5)) (xl_cons (xd_var 6) xl_nil)))) S5 S5.lim fun d v H3 p3 S3 => hq _ _ _ _ _ _ _ (.inr ⟨ps, z, hps, p3⟩) S3)
end
end Tx


set_option Elab.async false
set_option linter.all false
set_option maxRecDepth 100000
set_option maxHeartbeats 4000000
set_option autoImplicit false
/-! Lg15: bare steps over values, at one state. -/
namespace Lg
open PySem PySem.Spec L2
def RE (X : Cx) (e : Expr) (σ : L2.St) (H : Hp) (v : V) : Prop := ∀ Q : VK, Q v H → sE X e σ H Q
def RT (X : Cx) (e : Expr) (σ : L2.St) (H : Hp) (b : Bool) : Prop := ∀ Q : Bool → Hp → Prop, Q b H → sT X e σ H Q
section
variable {X : Cx} {σ : L2.St} {H : Hp} {v : V} {a b e : Expr} {pos pos' p npos : Pos} {i j : Int} {k l : Bool} {D : Ends} {x : Str}
theorem re_var (n : Nat) (h : σ[n]? = some (some v) := by rfl) (hN : X.N[n]? = some x := by rfl) (hv : Vis X.env.scope x := by first | exact Or.inl rfl | exact Or.inr (Or.inl rfl) | exact Or.inr (Or.inr rfl)) (hd : (x == ("__debug__" : Str)) = false := by decide) (hcd : (x == ("__classdict__" : Str)) = false := by decide) :
    RE X (.Name x pos) σ H v := fun Q q => PE.s (pe_var hN hv hd hcd) ⟨v, h, q⟩
theorem re_int {kk : Nat} : RE X (.Constant (.int i) kk pos) σ H (.int i) := fun Q q => PE.s pe_int q
theorem re_bin {op : Operator} {r : R2} {x y z : V} (ho : OpR X (binaryOp op) r) (ha : RE X a σ H x) (hb : RE X b σ H y) (h : ∀ Q : VK, Q z H → r x y H Q) : RE X (.BinOp a op b pos) σ H z :=
  fun Q q => PE.s (pe_op ho pe_s pe_s) (ha _ (hb _ (h Q q)))
theorem re_add (ha : RE X a σ H (.int i)) (hb : RE X b σ H (.int j)) : RE X (.BinOp a .Add b pos) σ H (.int (i + j)) := re_bin op_add ha hb fun Q q => ⟨_, _, rfl, rfl, q⟩
theorem re_mul (ha : RE X a σ H (.int i)) (hb : RE X b σ H (.int j)) (h : CMul i j) : RE X (.BinOp a .Mult b pos) σ H (.int (i * j)) := re_bin op_mul ha hb fun Q q => ⟨_, _, rfl, rfl, h, q⟩
theorem re_mod (ha : RE X a σ H (.int i)) (hb : RE X b σ H (.int j)) (h : 0 < j) : RE X (.BinOp a .Mod b pos) σ H (.int (i % j)) := re_bin op_mod ha hb fun Q q => ⟨_, _, rfl, rfl, h, q⟩
theorem re_fdiv (ha : RE X a σ H (.int i)) (hb : RE X b σ H (.int j)) (h : CDiv i j) : RE X (.BinOp a .FloorDiv b pos) σ H (.int (i / j)) := re_bin op_fdiv ha hb fun Q q => ⟨_, _, rfl, rfl, h, q⟩
theorem re_pow (ha : RE X a σ H (.int i)) (hb : RE X b σ H (.int j)) (h : CPow i j) : RE X (.BinOp a .Pow b pos) σ H (.int (i ^ j.toNat)) := re_bin op_pow ha hb fun Q q => ⟨_, _, rfl, rfl, h, q⟩
theorem re_ix {p : Addr} {xs : List V} {z : V} (ha : RE X a σ H (.ref p)) (hq : SqL X.K H p xs) (hb : RE X b σ H (.int i)) (h : atI xs i = some z) (hs : PlainIx b := by intro _ _; rfl) : RE X (.Subscript a b pos) σ H z :=
  fun Q q => PE.s (pe_ix ix_list pe_s pe_s hs) (ha _ (hb _ ⟨p, xs, i, z, rfl, rfl, hq, h, q⟩))
theorem re_len {q : Addr} {xs : List V} (hm : X.mg "len" = none) (ha : RE X e σ H (.ref q)) (hq : SqL X.K H q xs) (hg : Gl X "len" := by rfl) (he : starEach [e] X.env = (false, eval e X.env) :: starEach [] X.env := by rfl) (hpl : (backTo pos (starEach [] X.env)).any (·.1) = false := by rfl) :
    RE X (.Call (.Name "len" p) [e] [] pos) σ H (.int xs.length) := fun Q qq => PE.s (pe_callB call_len_seq hg hm PySem.boot_len (pa_cons pe_s pa_nil he) (by decide) (by decide) he hpl) (ha _ ⟨q, xs, rfl, .inl hq, qq⟩)
theorem rt_cmp {op : CmpOp} {g : Int → Int → Bool} (ho : OpR X (compareOp op) (rI0 fun i j => .bl (g i j))) (hm : behindInMarks op b = false) (ha : RE X a σ H (.int i)) (hb : RE X b σ H (.int j)) : RT X (.Compare a [op] [b] pos) σ H (g i j) :=
  fun Q q => PT.s (pt_cmpR ho pe_s pe_s hm) (ha _ (hb _ ⟨i, j, rfl, rfl, _, rfl, q⟩))
theorem rt_gt (ha : RE X a σ H (.int i)) (hb : RE X b σ H (.int j)) : RT X (.Compare a [.Gt] [b] pos) σ H (decide (j < i)) := rt_cmp (g := fun i j => decide (j < i)) op_gt (nomark _) ha hb
theorem rt_lt (ha : RE X a σ H (.int i)) (hb : RE X b σ H (.int j)) : RT X (.Compare a [.Lt] [b] pos) σ H (decide (i < j)) := rt_cmp (g := fun i j => decide (i < j)) op_lt (nomark _) ha hb
theorem rt_ge (ha : RE X a σ H (.int i)) (hb : RE X b σ H (.int j)) : RT X (.Compare a [.GtE] [b] pos) σ H (decide (j ≤ i)) := rt_cmp (g := fun i j => decide (j ≤ i)) op_ge (nomark _) ha hb
theorem rt_and (ha : RT X a σ H k) (hb : k = true → RT X b σ H l) : RT X (.BoolOp .And [a, b] pos) σ H (k && l) := fun Q q => PT.s (pw_and pt_s (pw_and1 pt_s)).pt (ha _ (by
  cases k with
  | true => exact iteT (hb rfl _ (by rw [Bool.true_and] at q; exact q))
  | false => exact iteF q))
theorem r_if {c' : Expr} {th el : List Stmt} {b : Bool} (hc : RT X c' σ H b) (h1 : b = true → WS X th D σ H) (h2 : b = false → WS X el D σ H) : W1 X (.If c' th el pos) D σ H :=
  .of (ps_if pt_s pss_s pss_s) (hc _ (by
    cases b with
    | true => exact iteT (h1 rfl)
    | false => exact iteF (h2 rfl)))
theorem r_ret (hx : RE X e σ H v) (k : D.rt v H) : W1 X (.Return (some e) pos) D σ H := .of (ps_ret pe_s) (hx _ k)
theorem r_set (n : Nat) (hx : RE X e σ H v) (k : D.nx (σ.set n (some v)) H) (hN : X.N.Nodup) (hi : X.N[n]? = some x := by rfl) (hx' : Loc X.env.scope x := by first | exact Or.inl rfl | exact Or.inr rfl) (hs : swapsWith e (some (.Name x pos')) pos.line X.env = pure false := by rfl) (hf : X.fn x = true ∨ X.env.scope.names.lookup x = some .local := by first | exact .inl rfl | exact .inr rfl) :
    W1 X (.Assign [.Name x pos'] e pos) D σ H := .of (ps_set hN hi hx' pe_s hs hf) (hx _ k)
theorem r_setItem {q : Addr} {xs : List V} {n : Nat} {kk : Nat} (hx : RE X e σ H v) (hn : RE X (.Name x npos) σ H (.ref q)) (hq : H q = some (.lst xs)) (hlt : n < xs.length) (k : D.nx σ (upd H q (.lst (xs.set n v)))) (hs : swapsWithSole [.Subscript (.Name x npos) (.Constant (.int (n : Int)) kk p) pos'] e pos.line X.env = pure false := by rfl)
    (hw : swappedStores [.Subscript (.Name x npos) (.Constant (.int (n : Int)) kk p) pos'] e X.env = pure none := by rfl) (h1 : (assignEach [.Subscript (.Name x npos) (.Constant (.int (n : Int)) kk p) pos'] X.env).map (·.2) = [assign (.Subscript (.Name x npos) (.Constant (.int (n : Int)) kk p) pos') X.env] := by rfl)
    (ha : ∀ v, assign (.Subscript (.Name x npos) (.Constant (.int (n : Int)) kk p) pos') X.env v = (do
      let ov ← holding [v] (eval (.Name x npos) X.env)
      let iv ← holding [v, ov] (eval (.Constant (.int (n : Int)) kk p) X.env)
      standAt pos'
      holding [v, ov, iv] (setItem ov iv v)
      release [v, ov, iv] []) := by intro _; rfl) : W1 X (.Assign [.Subscript (.Name x npos) (.Constant (.int (n : Int)) kk p) pos'] e pos) D σ H :=
  .of (ps_asg pe_s (pg_sub pe_s pe_s set_list ha) hs hw h1) (hx _ (hn _ (re_int _ ⟨q, xs, (n : Int), n, rfl, rfl, hq, by
    unfold ixN
    rw [if_pos (by omega), if_pos (by omega)]
    rfl, k⟩)))
end
end Lg


set_option Elab.async false
set_option linter.all false
set_option maxRecDepth 100000
set_option maxHeartbeats 4000000
set_option autoImplicit false
/-! D13: drawing a number. -/
namespace Tx
open PySem PySem.Spec L2 Lg Mo
section
variable {P : Program} {w : World} {K : PySem.W.Frag} {mg : Str → Option Value} {base : Heap} {f : Addr} {fd : FuncData}
abbrev sTake : Stmt := top 67
abbrev tkN : List Str := ["_law_feed_here", "_law_many", "_law_found", "_law_spot", "_law_cell", "_law_mixed"]
theorem scTake : FnScope tkN ["_law_feed_here", "_law_many"] (defScope sTake) := ⟨rfl, rfl, rfl, by decide +kernel, rfl, by decide +kernel, by decide +kernel⟩
abbrev spTake (K : PySem.W.Frag) : Sp := spF K (fun _ : Nat => 1) (fun m ds => ds = [nD m] ∧ 1 ≤ m ∧ m ≤ 100000) fun m d => ∃ v : Nat, v < m ∧ d = nD v
theorem ok_take {k : Nat} (F : Fun K "_law_take" "_law_take" sTake f fd) (M : Bi mg) : FnOk P w K mg base CX0 (k + 1) f fd ["_law_feed_here", "_law_many"] (spTake K) := by
  refine F.ok scTake (fun vs H Q E h => ?_) (fun cdv A outer s H vs Q E hr h => ?_)
  · obtain ⟨HI, g, us, ds, n, o, y, rfl, _, _, _, _, _, r, p, _⟩ := h
    obtain ⟨rfl, _⟩ := p
    rw [List.length_cons, r.length]
    rfl
  · obtain ⟨HI, g, us, ds, n, o, m, rfl, hI, g1, g2, g3, hlim, r, p, q⟩ := h
    obtain ⟨rfl, hm1, hm2⟩ := p
    cases r with
    | cons r1 r2 =>
      cases r2
      cases r1
      obtain ⟨c, ns, spot, left, rfl, hc, hn1, hn2, hs0, hsn⟩ := g3
      have hLIM : LIM = 1000000000 := rfl
      have hcH : SqL K H c (ns.map V.int) := sqL_same hI hc
      have hfin : ∀ (z spot' left' : Int) (H' : Hp), 0 ≤ z → z < (m : Int) → 0 ≤ spot' → spot' ≤ (n : Int) + 1 → (∀ a u, H a = some u → a ≠ g → H' a = some u) → H' g = some (.lst [.ref c, .int spot', .int left']) → Q (.int z) H' := fun z spot' left' H' z1 z2 s1 s2 hk hg => by
        refine q (.int z) (.int z) H' _ ⟨z.toNat, by omega, by show Dt.int z = Dt.int (z.toNat : Int); rw [Int.toNat_of_nonneg z1]⟩ hk hg ⟨c, ns, spot', left', rfl, sqL_same (mx_same hI) hc, hn1, hn2, s1, by show spot' ≤ ((n + 1 : Nat) : Int); omega⟩ (.int z)
      have keep : ∀ (xs : List V) a u, H a = some u → a ≠ g → upd H g (.lst xs) a = some u := fun xs a u h1 h2 => by rw [upd_ne h2]; exact h1
      refine ⟨_, pss_s, ?_⟩
      have hz2 : ∀ {X : Cx} {σ : L2.St} {e : Expr} {pos : Pos} {kk : Nat} {kp : Pos}, X.K = K → RE X e σ H (.ref g) → RE X (.Subscript e (.Constant (.int 2) kk kp) pos) σ H (.int left) := fun hK he => re_ix he (by rw [hK]; exact .inl (.inl g2)) re_int (by rfl)
      have hmm : ∀ x : Int, 0 ≤ x % (m : Int) ∧ x % (m : Int) < (m : Int) := fun x => ⟨Int.emod_nonneg _ (by omega), Int.emod_lt_of_pos _ (by omega)⟩
      refine WS.cons (r_if (rt_gt (re_ix (re_var 0) (.inl (.inl g2)) re_int rfl) re_int) (fun _ => ?_) (fun _ => WS.nil ?_))
      · refine WS.cons (r_set 2 (re_mod (re_ix (re_var 0) (.inl (.inl g2)) re_int rfl) (re_var 1) (by omega)) ?_ scTake.nd)
        refine WS.cons (r_setItem (n := 2) (re_fdiv (re_ix (re_var 0) (.inl (.inl g2)) re_int rfl) (re_var 1) ⟨by omega, by omega⟩) (re_var 0) g2 (by show 2 < 3; decide) ?_)
        refine WS.cons (r_ret (re_var 2) ?_)
        exact hfin _ spot (left / m) _ (hmm left).1 (hmm left).2 hs0 (by omega) (keep _) (by rw [upd_same]; rfl)
      · refine WS.cons (r_set 3 (re_ix (re_var 0) (.inl (.inl g2)) re_int rfl) ?_ scTake.nd)
        refine WS.cons (r_setItem (n := 1) (re_add (re_var 3) re_int) (re_var 0) g2 (by show 1 < 3; decide) ?_)
        have g2' : upd H g (HO.lst [V.ref c, V.int (spot + 1), V.int left]) g = some (HO.lst [V.ref c, V.int (spot + 1), V.int left]) := upd_same
        have hcg : c ≠ g → True := fun _ => trivial
        have hc' : SqL K (upd H g (HO.lst [V.ref c, V.int (spot + 1), V.int left])) c (ns.map V.int) := by
          rcases hc with (hc | ⟨ob, hc⟩) | hc
          · have hne : c ≠ g := fun z => by rw [z, g1] at hc; cases hc
            exact .inl (.inl (by rw [upd_ne hne]; exact hI _ _ hc))
          · have hne : c ≠ g := fun z => by rw [z, g1] at hc; cases hc
            exact .inl (.inr ⟨ob, by rw [upd_ne hne]; exact hI _ _ hc⟩)
          · exact .inr hc
        have hlen : ((ns.map V.int).length : Int) = (ns.length : Int) := by rw [List.length_map]
        have hsl : 0 ≤ spot % ((ns.map V.int).length : Int) ∧ spot % ((ns.map V.int).length : Int) < (ns.length : Int) := by
          rw [hlen]
          exact ⟨Int.emod_nonneg _ (by omega), Int.emod_lt_of_pos _ (by omega)⟩
        obtain ⟨cell, hcell⟩ : ∃ cell : Int, atI (ns.map V.int) (spot % ((ns.map V.int).length : Int)) = some (.int cell) := by
          obtain ⟨j, hj, hjl⟩ : ∃ j : Nat, spot % ((ns.map V.int).length : Int) = (j : Int) ∧ j < ns.length := ⟨(spot % ((ns.map V.int).length : Int)).toNat, (Int.toNat_of_nonneg hsl.1).symm, by omega⟩
          rw [hj]
          exact ⟨ns[j], atI_nat (by rw [List.getElem?_map, List.getElem?_eq_getElem hjl]; rfl)⟩
        refine WS.cons (r_set 4 (re_ix (re_ix (re_var 0) (.inl (.inl g2')) re_int rfl) hc' (re_mod (re_var 3) (re_len M.len (re_ix (re_var 0) (.inl (.inl g2')) re_int rfl) hc') (by rw [hlen]; omega)) hcell) ?_ scTake.nd)
        refine WS.cons (r_if (rt_and (rt_ge (re_var 4) (re_pow re_int re_int ⟨by decide, by decide, by decide⟩)) fun _ => rt_lt (re_var 3) (re_len M.len (re_ix (re_var 0) (.inl (.inl g2')) re_int rfl) hc')) (fun _ => ?_) (fun _ => WS.nil ?_))
        · refine WS.cons (r_setItem (n := 2) (re_fdiv (re_var 4) (re_var 1) ⟨by omega, by omega⟩) (re_var 0) g2' (by show 2 < 3; decide) ?_)
          refine WS.cons (r_ret (re_mod (re_var 4) (re_var 1) (by omega)) ?_)
          refine hfin _ (spot + 1) (cell / m) _ (hmm _).1 (hmm _).2 (by omega) (by omega) (fun a u h1 h2 => by rw [upd_ne h2, upd_ne h2]; exact h1) (by rw [upd_same]; rfl)
        · have b1 : ∀ x : Int, 0 ≤ x % 2147483629 ∧ x % 2147483629 < 2147483629 := fun x => ⟨Int.emod_nonneg _ (by decide), Int.emod_lt_of_pos _ (by decide)⟩
          refine WS.cons (r_set 5 (re_mod (re_mul (re_add (re_add (re_add (re_mod (re_var 4) re_int (by decide)) (re_mul (re_mul re_int (re_var 3) (.inl ⟨by decide, by decide⟩)) (re_var 3) (.inr ⟨by omega, by omega⟩))) (re_mul re_int (re_var 3) (.inl ⟨by decide, by decide⟩))) re_int) re_int (.inr ⟨by decide, by decide⟩)) re_int (by decide)) ?_ scTake.nd)
          generalize hmx : ((cell % 1000003 + 37 * spot * spot + 11 * spot + 5) * 48271) % 2147483629 = mix
          have hb := b1 ((cell % 1000003 + 37 * spot * spot + 11 * spot + 5) * 48271)
          rw [hmx] at hb
          refine WS.cons (r_set 5 (re_mod (re_add (re_add (re_mul (re_var 5) (re_var 5) (.inl ⟨by omega, by omega⟩)) (re_mul re_int (re_var 3) (.inl ⟨by decide, by decide⟩))) re_int) re_int (by decide)) ?_ scTake.nd)
          refine WS.cons (r_ret (re_mod (re_mod (re_add (re_mul (re_var 5) re_int (.inr ⟨by decide, by decide⟩)) (re_var 3)) re_int (by decide)) (re_var 1) (by omega)) ?_)
          exact hfin _ (spot + 1) left _ (hmm _).1 (hmm _).2 (by omega) (by omega) (keep _) (by rw [upd_same]; rfl)
end
end Tx


set_option Elab.async false
set_option linter.all false
set_option maxRecDepth 100000
set_option maxHeartbeats 4000000
set_option autoImplicit false
/-! D14: drawing terms, claims. -/
namespace Lg
open PySem PySem.Spec L2
section
variable {X : Cx} {O : List (Addr × Ow)} {ρ : List Sl} {c c1 c2 c3 : Nat} {P Pa Pb Pc : Dt → Prop} {a b e e3 : Expr} {pos : Pos} {i : Int} {da : Dt}
/-- (s, e, e2), the second drawn -/
theorem xe_tup3' {kk : Nat} {db : Dt} (ha : XD X a O ρ da) (hb : XE X b O ρ c Pb) (hz : XD X e O ρ db) (h1 : starEach [a, b, e] X.env = (false, eval a X.env) :: starEach [b, e] X.env := by rfl) (h2 : starEach [b, e] X.env = (false, eval b X.env) :: starEach [e] X.env := by rfl) (h3 : starEach [e] X.env = (false, eval e X.env) :: starEach [] X.env := by rfl) :
    XE X (.Tuple [a, b, e] kk pos) O ρ c (fun d => ∃ x, Pb x ∧ d = .tup [da, x, db]) :=
  EvP.more (xe_tup (xa_cons ha (xa_cons hb (xl_cons hz xl_nil h3) (P := fun ds => ∃ x, Pb x ∧ ds = [x, db]) (fun d ds h1 h2 => ⟨d, h1, by rw [h2]⟩) h2)
    (P := fun ds => ∃ x, Pb x ∧ ds = [da, x, db]) (fun d ds h1 h2 => by obtain ⟨x, h3, rfl⟩ := h2; exact ⟨x, h3, by rw [h1]⟩) h1) fun ds h => by obtain ⟨x, h3, rfl⟩ := h; exact ⟨Nat.le_of_ble_eq_true rfl, x, h3, rfl⟩) (by omega)
/-- (s, e) -/
theorem xe_tup1 {kk : Nat} (ha : XD X a O ρ da) (hb : XE X b O ρ c Pb) (h1 : starEach [a, b] X.env = (false, eval a X.env) :: starEach [b] X.env := by rfl) (h2 : starEach [b] X.env = (false, eval b X.env) :: starEach [] X.env := by rfl) : XE X (.Tuple [a, b] kk pos) O ρ c (fun d => ∃ x, Pb x ∧ d = .tup [da, x]) :=
  EvP.more (xe_tup (xa_cons ha (xa_cons hb xl_nil (P := fun ds => ∃ x, Pb x ∧ ds = [x]) (fun d ds h1 h2 => ⟨d, h1, by rw [h2]⟩) h2) (P := fun ds => ∃ x, Pb x ∧ ds = [da, x]) (fun d ds h1 h2 => by obtain ⟨x, h3, rfl⟩ := h2; exact ⟨x, h3, by rw [h1]⟩) h1) fun ds h => by obtain ⟨x, h3, rfl⟩ := h; exact ⟨Nat.le_of_ble_eq_true rfl, x, h3, rfl⟩) (by omega)
theorem xe_tup2 {kk : Nat} (ha : XD X a O ρ da) (hb : XE X b O ρ c1 Pb) (hc : XE X e O ρ c2 Pc) (h1 : starEach [a, b, e] X.env = (false, eval a X.env) :: starEach [b, e] X.env := by rfl) (h2 : starEach [b, e] X.env = (false, eval b X.env) :: starEach [e] X.env := by rfl) (h3 : starEach [e] X.env = (false, eval e X.env) :: starEach [] X.env := by rfl) :
    XE X (.Tuple [a, b, e] kk pos) O ρ (c1 + c2) (fun d => ∃ x y, Pb x ∧ Pc y ∧ d = .tup [da, x, y]) :=
  EvP.more (xe_tup (xa_cons ha (xa_cons hb (xa_cons hc xl_nil (P := fun ds => ∃ y, Pc y ∧ ds = [y]) (fun d ds h1 h2 => ⟨d, h1, by rw [h2]⟩) h3) (P := fun ds => ∃ x y, Pb x ∧ Pc y ∧ ds = [x, y]) (fun d ds h1 h2 => by obtain ⟨y, h3, rfl⟩ := h2; exact ⟨d, y, h1, h3, rfl⟩) h2)
    (P := fun ds => ∃ x y, Pb x ∧ Pc y ∧ ds = [da, x, y]) (fun d ds h1 h2 => by obtain ⟨x, y, h3, h4, rfl⟩ := h2; exact ⟨x, y, h3, h4, by rw [h1]⟩) h1) fun ds h => by obtain ⟨x, y, h3, h4, rfl⟩ := h; exact ⟨Nat.le_of_ble_eq_true rfl, x, y, h3, h4, rfl⟩) (by omega)
theorem xe_tup3 {kk : Nat} {db : Dt} (ha : XD X a O ρ da) (hz : XD X b O ρ db) (hb : XE X e O ρ c1 Pb) (hc : XE X e3 O ρ c2 Pc) (h1 : starEach [a, b, e, e3] X.env = (false, eval a X.env) :: starEach [b, e, e3] X.env := by rfl) (h0 : starEach [b, e, e3] X.env = (false, eval b X.env) :: starEach [e, e3] X.env := by rfl) (h2 : starEach [e, e3] X.env = (false, eval e X.env) :: starEach [e3] X.env := by rfl) (h3 : starEach [e3] X.env = (false, eval e3 X.env) :: starEach [] X.env := by rfl) :
    XE X (.Tuple [a, b, e, e3] kk pos) O ρ (c1 + c2) (fun d => ∃ x y, Pb x ∧ Pc y ∧ d = .tup [da, db, x, y]) :=
  EvP.more (xe_tup (xa_cons ha (xa_cons hz (xa_cons hb (xa_cons hc xl_nil (P := fun ds => ∃ y, Pc y ∧ ds = [y]) (fun d ds h1 h2 => ⟨d, h1, by rw [h2]⟩) h3) (P := fun ds => ∃ x y, Pb x ∧ Pc y ∧ ds = [x, y]) (fun d ds h1 h2 => by obtain ⟨y, h3, rfl⟩ := h2; exact ⟨d, y, h1, h3, rfl⟩) h2)
    (P := fun ds => ∃ x y, Pb x ∧ Pc y ∧ ds = [db, x, y]) (fun d ds h1 h2 => by obtain ⟨x, y, h3, h4, rfl⟩ := h2; exact ⟨x, y, h3, h4, by rw [h1]⟩) h0)
    (P := fun ds => ∃ x y, Pb x ∧ Pc y ∧ ds = [da, db, x, y]) (fun d ds h1 h2 => by obtain ⟨x, y, h3, h4, rfl⟩ := h2; exact ⟨x, y, h3, h4, by rw [h1]⟩) h1) fun ds h => by obtain ⟨x, y, h3, h4, rfl⟩ := h; exact ⟨Nat.le_of_ble_eq_true rfl, x, y, h3, h4, rfl⟩) (by omega)
theorem xe_add {m : Nat} (ha : XD X a O ρ (.int (m : Int))) (hb : XE X b O ρ c (fun d => ∃ v : Nat, d = nD v ∧ P (nD (m + v)))) : XE X (.BinOp a .Add b pos) O ρ c P :=
  EvP.more (xe_op op_add ha hb fun da db p1 p2 => by
    subst p1
    obtain ⟨v, rfl, h⟩ := p2
    exact fun B F T σ H x y Q S q => rv_I0 (g := fun i j => .int (i + j)) (d := .int ((m : Int) + (v : Int))) (.int _) rfl B F T σ H x y Q S fun d v2 H2 pd S2 => q d v2 H2 (by
      subst pd
      have e : Dt.int ((m : Int) + (v : Int)) = nD (m + v) := by show _ = Dt.int ((m + v : Nat) : Int); rw [Int.natCast_add]
      rw [e]
      exact h) S2) (by omega)
end
end Lg
namespace Tx
open PySem PySem.Spec L2 Lg Mo
section
variable {P : Program} {w : World} {K : PySem.W.Frag} {mg : Str → Option Value} {base : Heap} {f : Addr} {fd : FuncData}
def cT (d : Nat) : Nat := if d = 0 then 3 else 15
def cC (d : Nat) : Nat := if d = 0 then 7 else 19
abbrev Zx := List Nat × Bool
def preZ (d : Nat) (x : Zx) (ds : List Dt) : Prop := ds = [enNs x.1, nD d, .bl x.2] ∧ 1 ≤ x.1.length ∧ x.1.length ≤ 3
def TmOk (k : Nat) (i : Bool) (m : Nat) (r : Dt) : Prop := ∃ t, r = enT t ∧ (∀ n, wfT n k i t) ∧ dpT t ≤ m
def ClOk (k : Nat) (i : Bool) (m : Nat) (r : Dt) : Prop := ∃ c, r = enC c ∧ (∀ n, wfC n k i c) ∧ dpC c ≤ m
abbrev spTerm (K : PySem.W.Frag) (d : Nat) : Sp := spF K (fun _ => cT d) (preZ d) fun x => TmOk x.1.length x.2 (2 * d)
abbrev spClaim (K : PySem.W.Frag) (d : Nat) : Sp := spF K (fun _ => cC d) (preZ d) fun x => ClOk x.1.length x.2 (2 * d + 1)
abbrev sTerm : Stmt := top 68
abbrev tmN : List Str := ["_law_feed_here", "_law_sizes", "_law_deep", "_law_inner", "_law_way", "_law_box", "_law_claim_here", "_law_word"]
theorem scTerm : FnScope tmN ["_law_feed_here", "_law_sizes", "_law_deep", "_law_inner"] (defScope sTerm) := ⟨rfl, rfl, rfl, by decide +kernel, rfl, by decide +kernel, by decide +kernel⟩
section
variable {X : Cx} {O : List (Addr × Ow)} {ρ : List Sl} {c : Nat} {P' : Dt → Prop} {pos p fpos : Pos} {e : Expr} {kk : Nat}
/-- _law_take(feed, e) -/
theorem xe_take (n : Nat) {fx : Str} {m : Nat} (G : Def X.prog X.w X.K X.mg X.base CX0 kk "_law_take" ["_law_feed_here", "_law_many"] (spTake X.K)) (hr : Room kk X.A) (he : XD X e O ρ (nD m)) (h1 : 1 ≤ m) (h2 : m ≤ 100000) (hP : ∀ v, v < m → P' (nD v))
    (hρ : ρ[n]? = some .fd := by rfl) (hN : X.N[n]? = some fx := by rfl) (hv : Vis X.env.scope fx := by first | exact Or.inl rfl | exact Or.inr (Or.inl rfl) | exact Or.inr (Or.inr rfl)) (hd : (fx == ("__debug__" : Str)) = false := by decide) (hcd : (fx == ("__classdict__" : Str)) = false := by decide)
    (hg : Gl X "_law_take" := by rfl) (hs : starEach [e] X.env = (false, eval e X.env) :: starEach [] X.env := by rfl) (hst : starEach [.Name fx fpos, e] X.env = (false, eval (.Name fx fpos) X.env) :: starEach [e] X.env := by rfl) (hpl : (backTo pos (starEach [e] X.env)).any (·.1) = false := by rfl) :
    XE X (.Call (.Name "_law_take" p) [.Name fx fpos, e] [] pos) O ρ 1 P' :=
  EvP.more (xe_callF n G hr pass0 (xl_cons he xl_nil hs) (fun ds q => ⟨m, ⟨q, h1, h2⟩, Nat.le_refl 1, fun d h => by obtain ⟨v, hv, rfl⟩ := h; exact hP v hv⟩) hρ hN hv hd hcd hg (by decide) hst hpl) (by omega)
/-- a call of _law_term, _law_claim -/
theorem xe_zc (n : Nat) {fx x : Str} {c0 d : Nat} {R : Zx → Dt → Prop} {sz : List Nat} {inn : Bool} {e1 e2 e3 : Expr} (G : Def X.prog X.w X.K X.mg X.base CX0 kk x ["_law_feed_here", "_law_sizes", "_law_deep", "_law_inner"] (spF X.K (fun _ => c0) (preZ d) R)) (hr : Room kk X.A)
    (h1 : XD X e1 O ρ (enNs sz)) (h2 : XD X e2 O ρ (nD d)) (h3 : XD X e3 O ρ (.bl inn)) (hk1 : 1 ≤ sz.length) (hk2 : sz.length ≤ 3)
    (hρ : ρ[n]? = some .fd := by rfl) (hN : X.N[n]? = some fx := by rfl) (hv : Vis X.env.scope fx := by first | exact Or.inl rfl | exact Or.inr (Or.inl rfl) | exact Or.inr (Or.inr rfl)) (hd : (fx == ("__debug__" : Str)) = false := by decide) (hcd : (fx == ("__classdict__" : Str)) = false := by decide)
    (hg : Gl X x := by rfl) (hdb : (x == ("__debug__" : Str)) = false := by decide) (g1 : starEach [e1, e2, e3] X.env = (false, eval e1 X.env) :: starEach [e2, e3] X.env := by rfl) (g2 : starEach [e2, e3] X.env = (false, eval e2 X.env) :: starEach [e3] X.env := by rfl) (g3 : starEach [e3] X.env = (false, eval e3 X.env) :: starEach [] X.env := by rfl)
    (hst : starEach [.Name fx fpos, e1, e2, e3] X.env = (false, eval (.Name fx fpos) X.env) :: starEach [e1, e2, e3] X.env := by rfl) (hpl : (backTo pos (starEach [e1, e2, e3] X.env)).any (·.1) = false := by rfl) :
    XE X (.Call (.Name x p) [.Name fx fpos, e1, e2, e3] [] pos) O ρ c0 (R (sz, inn)) :=
  EvP.more (xe_callF n G hr pass0 (xl_cons h1 (xl_cons h2 (xl_cons h3 xl_nil g3) g2) g1) (fun ds q => ⟨(sz, inn), ⟨q, hk1, hk2⟩, Nat.le_refl _, fun d h => h⟩) hρ hN hv hd hcd hg hdb hst hpl) (by omega)
end
theorem par1 {n : Nat} (h : n % 2 = 1) : Dt.int ((n : Int) % 2) = Dt.int 1 := by
  have e : (n : Int) % 2 = 1 := by omega
  rw [e]
theorem par0 {n : Nat} (h : ¬ n % 2 = 1) : Dt.int ((n : Int) % 2) = Dt.int 0 := by
  have e : (n : Int) % 2 = 0 := by omega
  rw [e]
theorem ok_term {k d : Nat} (hd : d = 0 ∨ d = 1) (F : Fun K "_law_term" "_law_term" sTerm f fd) (M : Bi mg) (G : Def P w K mg base CX0 k "_law_take" ["_law_feed_here", "_law_many"] (spTake K)) (GT : d = 1 → Def P w K mg base CX0 k "_law_term" ["_law_feed_here", "_law_sizes", "_law_deep", "_law_inner"] (spTerm K 0))
    (GC : d = 1 → Def P w K mg base CX0 k "_law_claim" ["_law_feed_here", "_law_sizes", "_law_deep", "_law_inner"] (spClaim K 0)) : FnOk P w K mg base CX0 (k + 1) f fd ["_law_feed_here", "_law_sizes", "_law_deep", "_law_inner"] (spTerm K d) := by
  refine Fun.okF F scTerm (by decide) (fun y ds h => by obtain ⟨rfl, _⟩ := h; rfl) fun cdv A outer s0 H E hr y ds B σ Q p hlim S0 hq => ?_
  obtain ⟨sz, inn⟩ := y
  obtain ⟨rfl, hk1, hk2⟩ : ds = [enNs sz, nD d, .bl inn] ∧ 1 ≤ sz.length ∧ sz.length ≤ 3 := p
  have hlim' : B.n + cT d ≤ LIM := hlim
  have hc3 : 3 ≤ cT d := by rcases hd with rfl | rfl <;> decide
  have ret : ∀ (t : Mo.Tm) {dd : Dt} {v O ρ T σ' H' n}, dd = enT t → (∀ n, wfT n sz.length inn t) → dpT t ≤ 2 * d → n ≤ B.n + cT d → Sat K ⟨B.H0, B.HI, B.f, n⟩ O ρ ((v, dd) :: T) σ' H' → Q v H' := fun t dd v O ρ T σ' H' n e h1 h2 h3 S => hq _ _ _ _ _ _ _ _ ⟨t, e, h1, h2⟩ h3 S
  let M0 : Nat := if d = 0 then 6 else 12
  have hM0 : 1 ≤ M0 ∧ M0 ≤ 12 := by rcases hd with rfl | rfl <;> decide
  refine WS.cons (w_set 4 (P := fun r => ∃ v, v < M0 ∧ r = nD v) (xe_take 0 (m := M0) G hr (xd_ixL (i := if d = 0 then 0 else 1) (XD.ls (xd_lst (ds := [nD 6, nD 12]) (xl_cons xd_int (xl_cons xd_int xl_nil)))) (xd_is (xd_intB M.int (xd_gt (xd_var 2) xd_int)) (by rcases hd with rfl | rfl <;> rfl)) (by rcases hd with rfl | rfl <;> rfl)) hM0.1 (by omega) fun v hv => ⟨v, hv, rfl⟩) S0 (by omega) (fun r σ1 H1 p1 S1 => ?_) scTerm.nd)
  obtain ⟨wy, hwy, rfl⟩ := p1
  refine WS.cons (w_set 5 (P := fun r => ∃ v, v < sz.length ∧ r = nD v) (xe_take 0 (m := sz.length) G hr (xd_is (xd_lenT M.len (ds := sz.map nD) (xd_var 1)) (by rw [List.length_map]; rfl)) hk1 (by omega) fun v hv => ⟨v, hv, rfl⟩) S1 (by show B.n + 1 + 1 ≤ _; omega) (fun r σ2 H2 p2 S2 => ?_) scTerm.nd)
  obtain ⟨bx, hbx, rfl⟩ := p2
  by_cases c0 : wy = 0
  · subst c0
    refine WS.cons (w_ifT (xb_eq (xd_var 4) xd_int) rfl S2 fun H3 S3 => ?_)
    refine WS.cons (w_ret (xe_tup1 xd_str (xe_take 0 (m := 4) (P' := fun r => ∃ v : Nat, r = nD v) G hr xd_int (by decide) (by decide) fun v _ => ⟨v, rfl⟩)) S3 (by show B.n + 1 + 1 + 1 ≤ _; omega) fun r v H4 p4 S4 => ?_)
    obtain ⟨x, ⟨z, rfl⟩, rfl⟩ := p4
    exact ret (.num z) rfl (fun n => trivial) (Nat.zero_le _) (by show B.n + 1 + 1 + 1 ≤ _; omega) S4
  refine WS.cons (w_ifF (xb_eq (xd_var 4) xd_int) (decide_eq_false (by omega)) S2 fun H3 S3 => WS.nil ?_)
  by_cases c1 : wy < 3
  · refine WS.cons (w_ifT (xb_lt (xd_var 4) xd_int) (decide_eq_true (by omega)) S3 fun H4 S4 => ?_)
    refine WS.cons (w_ret (xd_tup (xl_cons xd_str (xl_cons (xd_var 5) xl_nil))) S4 S4.lim fun r v H4 p4 S4 => ?_)
    exact ret (.own bx) p4 (fun n => hbx) (Nat.zero_le _) (by show B.n + 1 + 1 + 0 ≤ _; omega) S4
  refine WS.cons (w_ifF (xb_lt (xd_var 4) xd_int) (decide_eq_false (by omega)) S3 fun H4 S4 => WS.nil ?_)
  by_cases c2 : wy = 3
  · subst c2
    refine WS.cons (w_ifT (xb_eq (xd_var 4) xd_int) rfl S4 fun H5 S5 => ?_)
    cases inn with
    | true =>
      refine WS.cons (w_ret (xd_ixL (i := 1) (XD.ls (xd_lst (ds := [enT .me, enT .it]) (xl_cons (xd_tup (xl_cons xd_str xl_nil)) (xl_cons (xd_tup (xl_cons xd_str xl_nil)) xl_nil)))) (xd_is (xd_intB (k := true) M.int (xd_var 3)) rfl) rfl) S5 S5.lim fun r v H4 p4 S4 => ?_)
      exact ret .it p4 (fun n => rfl) (Nat.zero_le _) (by show B.n + 1 + 1 + 0 ≤ _; omega) S4
    | false =>
      refine WS.cons (w_ret (xd_ixL (i := 0) (XD.ls (xd_lst (ds := [enT .me, enT .it]) (xl_cons (xd_tup (xl_cons xd_str xl_nil)) (xl_cons (xd_tup (xl_cons xd_str xl_nil)) xl_nil)))) (xd_is (xd_intB (k := false) M.int (xd_var 3)) rfl) rfl) S5 S5.lim fun r v H4 p4 S4 => ?_)
      exact ret .me p4 (fun n => trivial) (Nat.zero_le _) (by show B.n + 1 + 1 + 0 ≤ _; omega) S4
  refine WS.cons (w_ifF (xb_eq (xd_var 4) xd_int) (decide_eq_false (by omega)) S4 fun H5 S5 => WS.nil ?_)
  by_cases c3 : wy < 6
  · refine WS.cons (w_ifT (xb_lt (xd_var 4) xd_int) (decide_eq_true (by omega)) S5 fun H6 S6 => ?_)
    refine WS.cons (w_ret (c := 1) (P := fun r => TmOk sz.length inn 0 r) (EvP.more (xe_ite (c2 := 1) (Pb := fun b => b = inn) (xb_val (xd_var 3)) (fun hb => EvP.more (EvP.imp (xd_tup (xl_cons xd_str (xl_cons (xd_var 5) xl_nil))) fun r hr' => ⟨.its bx, hr', fun n => ⟨hb.symm, hbx⟩, Nat.le_refl _⟩) (Nat.zero_le _)) (fun hb => EvP.imp (xe_tup3' xd_str (xe_take 0 (m := 2) (P' := fun r => ∃ v : Nat, r = nD v) G hr xd_int (by decide) (by decide) fun v _ => ⟨v, rfl⟩) (xd_var 5)) fun r hr' => by
      obtain ⟨x, ⟨z, rfl⟩, rfl⟩ := hr'
      exact ⟨.eye z bx, rfl, fun n => hbx, Nat.le_refl _⟩)) (by omega)) S6 (by show B.n + 1 + 1 + 1 ≤ _; omega) fun r v H4 p4 S4 => ?_)
    obtain ⟨t, e, h1, h2⟩ := p4
    exact ret t e h1 (by omega) (by show B.n + 1 + 1 + 1 ≤ _; omega) S4
  refine WS.cons (w_ifF (xb_lt (xd_var 4) xd_int) (decide_eq_false (by omega)) S5 fun H6 S6 => WS.nil ?_)
  have hd1 : d = 1 := by
    rcases hd with rfl | rfl
    · have : wy < 6 := hwy
      omega
    · rfl
  subst hd1
  have hc15 : cT 1 = 15 := rfl
  have T0 := GT rfl
  have C0 := GC rfl
  have e0 : Dt.int ((1 : Int) - 1) = nD 0 := rfl
  by_cases c4 : wy = 6
  · subst c4
    refine WS.cons (w_ifT (xb_eq (xd_var 4) xd_int) rfl S6 fun H7 S7 => ?_)
    refine WS.cons (w_ret (xe_tup2 xd_str (xe_zc 0 T0 hr (xd_var 1) (xd_is (xd_sub (xd_var 2) xd_int) e0) (xd_var 3) hk1 hk2) (xe_add (m := 1) (P := fun r => ∃ v : Nat, 1 ≤ v ∧ r = nD v) xd_int (xe_take 0 (m := 4) G hr xd_int (by decide) (by decide) fun v _ => ⟨v, rfl, 1 + v, by omega, rfl⟩))) S7 (by show B.n + 1 + 1 + (cT 0 + 1) ≤ _; have : cT 0 = 3 := rfl; omega) fun r v H8 p8 S8 => ?_)
    obtain ⟨x, y, ⟨t, rfl, h1, h2⟩, ⟨z, hz, rfl⟩, rfl⟩ := p8
    exact ret (.rest t z) rfl (fun n => ⟨h1 n, by omega⟩) (by show dpT t + 1 ≤ 2; have : dpT t ≤ 0 := h2; omega) (by show B.n + 1 + 1 + (cT 0 + 1) ≤ _; have : cT 0 = 3 := rfl; omega) S8
  refine WS.cons (w_ifF (xb_eq (xd_var 4) xd_int) (decide_eq_false (by omega)) S6 fun H7 S7 => WS.nil ?_)
  by_cases c5 : wy = 7
  · subst c5
    refine WS.cons (w_ifT (xb_eq (xd_var 4) xd_int) rfl S7 fun H8 S8 => ?_)
    refine WS.cons (w_set 6 (xe_zc 0 C0 hr (xd_var 1) (xd_is (xd_sub (xd_var 2) xd_int) e0) (xd_var 3) hk1 hk2) S8 (by show B.n + 1 + 1 + cC 0 ≤ _; have : cC 0 = 7 := rfl; omega) (fun r σ9 H9 p9 S9 => ?_) scTerm.nd)
    obtain ⟨c, rfl, h1, h2⟩ := p9
    refine WS.cons (w_ret (xe_tup3 xd_str (xd_var 6) (xe_zc 0 T0 hr (xd_var 1) (xd_is (xd_sub (xd_var 2) xd_int) e0) (xd_var 3) hk1 hk2) (xe_zc 0 T0 hr (xd_var 1) (xd_is (xd_sub (xd_var 2) xd_int) e0) (xd_var 3) hk1 hk2)) S9 (by show B.n + 1 + 1 + cC 0 + (cT 0 + cT 0) ≤ _; have : cC 0 = 7 := rfl; have : cT 0 = 3 := rfl; omega) fun r v H10 p10 S10 => ?_)
    obtain ⟨x, y, ⟨t, rfl, h3, h4⟩, ⟨u, rfl, h5, h6⟩, rfl⟩ := p10
    exact ret (.ite c t u) rfl (fun n => ⟨h1 n, h3 n, h5 n⟩) (by show max (dpC c) (max (dpT t) (dpT u)) + 1 ≤ 2; have a1 : dpC c ≤ 1 := h2; have a2 : dpT t ≤ 0 := h4; have a3 : dpT u ≤ 0 := h6; omega) (by show B.n + 1 + 1 + cC 0 + (cT 0 + cT 0) ≤ _; have : cC 0 = 7 := rfl; have : cT 0 = 3 := rfl; omega) S10
  refine WS.cons (w_ifF (xb_eq (xd_var 4) xd_int) (decide_eq_false (by omega)) S7 fun H8 S8 => WS.nil ?_)
  have plain : ∀ {H8 : Hp} (S8 : Sat K (((B.add 1).add 1)) [] [.fd, .d (enNs sz), .d (nD 1), .d (.bl inn), .d (nD wy), .d (nD bx), .u, .u] [] σ2 H8), WS (cxOf CX0 P w K mg base tmN "_law_term" (defScope sTerm) f cdv A outer s0 H E).nox ((defBody sTerm).drop 9) { nx := fun _ H' => Q .non H', rt := Q } σ2 H8 := fun {H8} S8 => by
    cases hpar : decide (wy % 2 = 1) with
    | true =>
      have e1 := of_decide_eq_true hpar
      refine WS.cons (w_set 7 (xd_ixL (i := 1) (d := .str "less") (XD.ls (xd_lst (xl_cons xd_str (xl_cons xd_str xl_nil)))) (xd_is (xd_mod (xd_var 4) xd_int (by decide)) (par1 e1)) rfl) S8 S8.lim (fun r σ9 H9 p9 S9 => ?_) scTerm.nd)
      subst p9
      refine WS.cons (w_ret (xe_tup2 (xd_var 7) (xe_zc 0 T0 hr (xd_var 1) (xd_is (xd_sub (xd_var 2) xd_int) e0) (xd_var 3) hk1 hk2) (xe_zc 0 T0 hr (xd_var 1) (xd_is (xd_sub (xd_var 2) xd_int) e0) (xd_var 3) hk1 hk2)) S9 (by show B.n + 1 + 1 + 0 + (cT 0 + cT 0) ≤ _; have : cT 0 = 3 := rfl; omega) fun r v H10 p10 S10 => ?_)
      obtain ⟨x, y, ⟨t, rfl, h3, h4⟩, ⟨u, rfl, h5, h6⟩, rfl⟩ := p10
      exact ret (.less t u) rfl (fun n => ⟨h3 n, h5 n⟩) (by show max (dpT t) (dpT u) + 1 ≤ 2; have a2 : dpT t ≤ 0 := h4; have a3 : dpT u ≤ 0 := h6; omega) (by show B.n + 1 + 1 + 0 + (cT 0 + cT 0) ≤ _; have : cT 0 = 3 := rfl; omega) S10
    | false =>
      have e1 := of_decide_eq_false hpar
      refine WS.cons (w_set 7 (xd_ixL (i := 0) (d := .str "plus") (XD.ls (xd_lst (xl_cons xd_str (xl_cons xd_str xl_nil)))) (xd_is (xd_mod (xd_var 4) xd_int (by decide)) (par0 e1)) rfl) S8 S8.lim (fun r σ9 H9 p9 S9 => ?_) scTerm.nd)
      subst p9
      refine WS.cons (w_ret (xe_tup2 (xd_var 7) (xe_zc 0 T0 hr (xd_var 1) (xd_is (xd_sub (xd_var 2) xd_int) e0) (xd_var 3) hk1 hk2) (xe_zc 0 T0 hr (xd_var 1) (xd_is (xd_sub (xd_var 2) xd_int) e0) (xd_var 3) hk1 hk2)) S9 (by show B.n + 1 + 1 + 0 + (cT 0 + cT 0) ≤ _; have : cT 0 = 3 := rfl; omega) fun r v H10 p10 S10 => ?_)
      obtain ⟨x, y, ⟨t, rfl, h3, h4⟩, ⟨u, rfl, h5, h6⟩, rfl⟩ := p10
      exact ret (.plus t u) rfl (fun n => ⟨h3 n, h5 n⟩) (by show max (dpT t) (dpT u) + 1 ≤ 2; have a2 : dpT t ≤ 0 := h4; have a3 : dpT u ≤ 0 := h6; omega) (by show B.n + 1 + 1 + 0 + (cT 0 + cT 0) ≤ _; have : cT 0 = 3 := rfl; omega) S10
  cases inn with
  | true => exact WS.cons (w_ifF (xb_and2 (l := !true) (xb_gt (xd_var 4) xd_int) fun _ => xb_not (xb_val (xd_var 3))) (by rw [Bool.and_eq_false_iff]; exact .inr rfl) S8 fun H9 S9 => WS.nil (plain S9))
  | false =>
    by_cases c6 : 9 < wy
    · refine WS.cons (w_ifT (xb_and2 (l := !false) (xb_gt (xd_var 4) xd_int) fun _ => xb_not (xb_val (xd_var 3))) (by rw [decide_eq_true (by omega)]; rfl) S8 fun H9 S9 => ?_)
      refine WS.cons (w_set 7 (P := fun r => r = .str "least" ∨ r = .str "most" ∨ r = .str "many") (xe_ixL (ds := [.str "least", .str "most", .str "many"]) (XD.ls (xd_lst (xl_cons xd_str (xl_cons xd_str (xl_cons xd_str xl_nil))))) (xe_take 0 (m := 3) (P' := fun r => ∃ v : Nat, v < 3 ∧ r = nD v) G hr xd_int (by decide) (by decide) fun v hv => ⟨v, hv, rfl⟩) (fun db h => by
        obtain ⟨v, hv, rfl⟩ := h
        match v, hv with
        | 0, _ => exact ⟨_, _, rfl, rfl, .inl rfl⟩
        | 1, _ => exact ⟨_, _, rfl, rfl, .inr (.inl rfl)⟩
        | 2, _ => exact ⟨_, _, rfl, rfl, .inr (.inr rfl)⟩)) S9 (by show B.n + 1 + 1 + 1 ≤ _; omega) (fun r σ10 H10 p10 S10 => ?_) scTerm.nd)
      rcases p10 with rfl | rfl | rfl
      · refine WS.cons (w_ifF (xb_eqS (xd_var 7) xd_str) (by decide) S10 fun H11 S11 => WS.nil ?_)
        refine WS.cons (w_ret (xe_tup1 (xd_var 7) (xe_zc 0 T0 hr (xd_var 1) (xd_is (xd_sub (xd_var 2) xd_int) e0) (xd_bl (b := true)) hk1 hk2)) S11 (by show B.n + 1 + 1 + 1 + cT 0 ≤ _; have : cT 0 = 3 := rfl; omega) fun r v H12 p12 S12 => ?_)
        obtain ⟨x, ⟨t, rfl, h3, h4⟩, rfl⟩ := p12
        exact ret (.least t) rfl (fun n => h3 n) (by show dpT t + 1 ≤ 2; have a2 : dpT t ≤ 0 := h4; omega) (by show B.n + 1 + 1 + 1 + cT 0 ≤ _; have : cT 0 = 3 := rfl; omega) S12
      · refine WS.cons (w_ifF (xb_eqS (xd_var 7) xd_str) (by decide) S10 fun H11 S11 => WS.nil ?_)
        refine WS.cons (w_ret (xe_tup1 (xd_var 7) (xe_zc 0 T0 hr (xd_var 1) (xd_is (xd_sub (xd_var 2) xd_int) e0) (xd_bl (b := true)) hk1 hk2)) S11 (by show B.n + 1 + 1 + 1 + cT 0 ≤ _; have : cT 0 = 3 := rfl; omega) fun r v H12 p12 S12 => ?_)
        obtain ⟨x, ⟨t, rfl, h3, h4⟩, rfl⟩ := p12
        exact ret (.most t) rfl (fun n => h3 n) (by show dpT t + 1 ≤ 2; have a2 : dpT t ≤ 0 := h4; omega) (by show B.n + 1 + 1 + 1 + cT 0 ≤ _; have : cT 0 = 3 := rfl; omega) S12
      · refine WS.cons (w_ifT (xb_eqS (xd_var 7) xd_str) (by decide) S10 fun H11 S11 => ?_)
        refine WS.cons (w_ret (xe_tup1 (xd_var 7) (xe_zc 0 C0 hr (xd_var 1) (xd_is (xd_sub (xd_var 2) xd_int) e0) (xd_bl (b := true)) hk1 hk2)) S11 (by show B.n + 1 + 1 + 1 + cC 0 ≤ _; have : cC 0 = 7 := rfl; omega) fun r v H12 p12 S12 => ?_)
        obtain ⟨x, ⟨t, rfl, h3, h4⟩, rfl⟩ := p12
        exact ret (.many t) rfl (fun n => h3 n) (by show dpC t + 1 ≤ 2; have a2 : dpC t ≤ 1 := h4; omega) (by show B.n + 1 + 1 + 1 + cC 0 ≤ _; have : cC 0 = 7 := rfl; omega) S12
    · exact WS.cons (w_ifF (xb_and2 (l := !false) (xb_gt (xd_var 4) xd_int) fun _ => xb_not (xb_val (xd_var 3))) (by rw [Bool.and_eq_false_iff]; exact .inl (decide_eq_false (by omega))) S8 fun H9 S9 => WS.nil (plain S9))
/-! _law_claim -/
abbrev sClaim : Stmt := top 69
abbrev clN : List Str := ["_law_feed_here", "_law_sizes", "_law_deep", "_law_inner", "_law_way", "_law_lower", "_law_word"]
theorem scClaim : FnScope clN ["_law_feed_here", "_law_sizes", "_law_deep", "_law_inner"] (defScope sClaim) := ⟨rfl, rfl, rfl, by decide +kernel, rfl, by decide +kernel, by decide +kernel⟩
theorem ok_claim {k d : Nat} (hd : d = 0 ∨ d = 1) (F : Fun K "_law_claim" "_law_claim" sClaim f fd) (M : Bi mg) (G : Def P w K mg base CX0 k "_law_take" ["_law_feed_here", "_law_many"] (spTake K)) (TD : Def P w K mg base CX0 k "_law_term" ["_law_feed_here", "_law_sizes", "_law_deep", "_law_inner"] (spTerm K d)) (T0 : Def P w K mg base CX0 k "_law_term" ["_law_feed_here", "_law_sizes", "_law_deep", "_law_inner"] (spTerm K 0))
    (GC : d = 1 → Def P w K mg base CX0 k "_law_claim" ["_law_feed_here", "_law_sizes", "_law_deep", "_law_inner"] (spClaim K 0)) : FnOk P w K mg base CX0 (k + 1) f fd ["_law_feed_here", "_law_sizes", "_law_deep", "_law_inner"] (spClaim K d) := by
  refine Fun.okF F scClaim (by decide) (fun y ds h => by obtain ⟨rfl, _⟩ := h; rfl) fun cdv A outer s0 H E hr y ds B σ Q p hlim S0 hq => ?_
  obtain ⟨sz, inn⟩ := y
  obtain ⟨rfl, hk1, hk2⟩ : ds = [enNs sz, nD d, .bl inn] ∧ 1 ≤ sz.length ∧ sz.length ≤ 3 := p
  have hlim' : B.n + cC d ≤ LIM := hlim
  have hcd : 1 + cT d + cT 0 ≤ cC d := by rcases hd with rfl | rfl <;> decide
  have ret : ∀ (t : Cl) {dd : Dt} {v O ρ T σ' H' n}, dd = enC t → (∀ n, wfC n sz.length inn t) → dpC t ≤ 2 * d + 1 → n ≤ B.n + cC d → Sat K ⟨B.H0, B.HI, B.f, n⟩ O ρ ((v, dd) :: T) σ' H' → Q v H' := fun t dd v O ρ T σ' H' n e h1 h2 h3 S => hq _ _ _ _ _ _ _ _ ⟨t, e, h1, h2⟩ h3 S
  let M0 : Nat := if d = 0 then 5 else 8
  have hM0 : 1 ≤ M0 ∧ M0 ≤ 8 := by rcases hd with rfl | rfl <;> decide
  refine WS.cons (w_set 4 (P := fun r => ∃ v, v < M0 ∧ r = nD v) (xe_take 0 (m := M0) G hr (xd_ixL (i := if d = 0 then 0 else 1) (XD.ls (xd_lst (ds := [nD 5, nD 8]) (xl_cons xd_int (xl_cons xd_int xl_nil)))) (xd_is (xd_intB M.int (xd_gt (xd_var 2) xd_int)) (by rcases hd with rfl | rfl <;> rfl)) (by rcases hd with rfl | rfl <;> rfl)) hM0.1 (by omega) fun v hv => ⟨v, hv, rfl⟩) S0 (by omega) (fun r σ1 H1 p1 S1 => ?_) scClaim.nd)
  obtain ⟨wy, hwy, rfl⟩ := p1
  refine WS.cons (w_set 5 (P := fun r => r = nD 0) (xd_is (xd_max2 rfl M.max xd_int (xd_sub (xd_var 2) xd_int)) (by rcases hd with rfl | rfl <;> rfl)) S1 S1.lim (fun r σ2 H2 p2 S2 => ?_) scClaim.nd)
  subst p2
  by_cases c0 : wy = 0
  · subst c0
    refine WS.cons (w_ifT (xb_eq (xd_var 4) xd_int) rfl S2 fun H3 S3 => ?_)
    refine WS.cons (w_ret (xd_tup (xl_cons xd_str xl_nil)) S3 S3.lim fun r v H4 p4 S4 => ?_)
    exact ret .yes p4 (fun n => trivial) (Nat.zero_le _) (by show B.n + 1 + 0 + 0 ≤ _; omega) S4
  refine WS.cons (w_ifF (xb_eq (xd_var 4) xd_int) (decide_eq_false (by omega)) S2 fun H3 S3 => WS.nil ?_)
  by_cases c1 : wy < 5
  · refine WS.cons (w_ifT (xb_lt (xd_var 4) xd_int) (decide_eq_true (by omega)) S3 fun H4 S4 => ?_)
    cases hpar : decide (wy % 2 = 1) with
    | true =>
      have e1 := of_decide_eq_true hpar
      refine WS.cons (w_set 6 (xd_ixL (i := 1) (d := .str "below") (XD.ls (xd_lst (xl_cons xd_str (xl_cons xd_str xl_nil)))) (xd_is (xd_mod (xd_var 4) xd_int (by decide)) (par1 e1)) rfl) S4 S4.lim (fun r σ9 H9 p9 S9 => ?_) scClaim.nd)
      subst p9
      refine WS.cons (w_ret (xe_tup2 (xd_var 6) (xe_zc 0 TD hr (xd_var 1) (xd_var 2) (xd_var 3) hk1 hk2) (xe_zc 0 T0 hr (xd_var 1) (xd_var 5) (xd_var 3) hk1 hk2)) S9 (by show B.n + 1 + 0 + 0 + (cT d + cT 0) ≤ _; omega) fun r v H10 p10 S10 => ?_)
      obtain ⟨x, y, ⟨t, rfl, h3, h4⟩, ⟨u, rfl, h5, h6⟩, rfl⟩ := p10
      exact ret (.blw t u) rfl (fun n => ⟨h3 n, h5 n⟩) (by show max (dpT t) (dpT u) + 1 ≤ _; have a2 : dpT t ≤ 2 * d := h4; have a3 : dpT u ≤ 0 := h6; omega) (by show B.n + 1 + 0 + 0 + (cT d + cT 0) ≤ _; omega) S10
    | false =>
      have e1 := of_decide_eq_false hpar
      refine WS.cons (w_set 6 (xd_ixL (i := 0) (d := .str "like") (XD.ls (xd_lst (xl_cons xd_str (xl_cons xd_str xl_nil)))) (xd_is (xd_mod (xd_var 4) xd_int (by decide)) (par0 e1)) rfl) S4 S4.lim (fun r σ9 H9 p9 S9 => ?_) scClaim.nd)
      subst p9
      refine WS.cons (w_ret (xe_tup2 (xd_var 6) (xe_zc 0 TD hr (xd_var 1) (xd_var 2) (xd_var 3) hk1 hk2) (xe_zc 0 T0 hr (xd_var 1) (xd_var 5) (xd_var 3) hk1 hk2)) S9 (by show B.n + 1 + 0 + 0 + (cT d + cT 0) ≤ _; omega) fun r v H10 p10 S10 => ?_)
      obtain ⟨x, y, ⟨t, rfl, h3, h4⟩, ⟨u, rfl, h5, h6⟩, rfl⟩ := p10
      exact ret (.like t u) rfl (fun n => ⟨h3 n, h5 n⟩) (by show max (dpT t) (dpT u) + 1 ≤ _; have a2 : dpT t ≤ 2 * d := h4; have a3 : dpT u ≤ 0 := h6; omega) (by show B.n + 1 + 0 + 0 + (cT d + cT 0) ≤ _; omega) S10
  refine WS.cons (w_ifF (xb_lt (xd_var 4) xd_int) (decide_eq_false (by omega)) S3 fun H4 S4 => WS.nil ?_)
  have hd1 : d = 1 := by
    rcases hd with rfl | rfl
    · have : wy < 5 := hwy
      omega
    · rfl
  subst hd1
  have C0 := GC rfl
  have a19 : cC 1 = 19 := rfl
  have a7 : cC 0 = 7 := rfl
  by_cases c2 : wy = 5
  · subst c2
    refine WS.cons (w_ifT (xb_eq (xd_var 4) xd_int) rfl S4 fun H5 S5 => ?_)
    refine WS.cons (w_ret (xe_tup1 xd_str (xe_zc 0 C0 hr (xd_var 1) (xd_var 5) (xd_var 3) hk1 hk2)) S5 (by show B.n + 1 + 0 + cC 0 ≤ _; omega) fun r v H12 p12 S12 => ?_)
    obtain ⟨x, ⟨t, rfl, h3, h4⟩, rfl⟩ := p12
    exact ret (.neg t) rfl (fun n => h3 n) (by show dpC t + 1 ≤ 3; have a2 : dpC t ≤ 1 := h4; omega) (by show B.n + 1 + 0 + cC 0 ≤ _; omega) S12
  refine WS.cons (w_ifF (xb_eq (xd_var 4) xd_int) (decide_eq_false (by omega)) S4 fun H5 S5 => WS.nil ?_)
  cases hpar : decide (wy % 2 = 1) with
  | true =>
    have e1 := of_decide_eq_true hpar
    refine WS.cons (w_set 6 (xd_ixL (i := 1) (d := .str "or") (XD.ls (xd_lst (xl_cons xd_str (xl_cons xd_str xl_nil)))) (xd_is (xd_mod (xd_var 4) xd_int (by decide)) (par1 e1)) rfl) S5 S5.lim (fun r σ9 H9 p9 S9 => ?_) scClaim.nd)
    subst p9
    refine WS.cons (w_ret (xe_tup2 (xd_var 6) (xe_zc 0 C0 hr (xd_var 1) (xd_var 5) (xd_var 3) hk1 hk2) (xe_zc 0 C0 hr (xd_var 1) (xd_var 5) (xd_var 3) hk1 hk2)) S9 (by show B.n + 1 + 0 + 0 + (cC 0 + cC 0) ≤ _; omega) fun r v H10 p10 S10 => ?_)
    obtain ⟨x, y, ⟨t, rfl, h3, h4⟩, ⟨u, rfl, h5, h6⟩, rfl⟩ := p10
    exact ret (.or t u) rfl (fun n => ⟨h3 n, h5 n⟩) (by show max (dpC t) (dpC u) + 1 ≤ 3; have a2 : dpC t ≤ 1 := h4; have a3 : dpC u ≤ 1 := h6; omega) (by show B.n + 1 + 0 + 0 + (cC 0 + cC 0) ≤ _; omega) S10
  | false =>
    have e1 := of_decide_eq_false hpar
    refine WS.cons (w_set 6 (xd_ixL (i := 0) (d := .str "and") (XD.ls (xd_lst (xl_cons xd_str (xl_cons xd_str xl_nil)))) (xd_is (xd_mod (xd_var 4) xd_int (by decide)) (par0 e1)) rfl) S5 S5.lim (fun r σ9 H9 p9 S9 => ?_) scClaim.nd)
    subst p9
    refine WS.cons (w_ret (xe_tup2 (xd_var 6) (xe_zc 0 C0 hr (xd_var 1) (xd_var 5) (xd_var 3) hk1 hk2) (xe_zc 0 C0 hr (xd_var 1) (xd_var 5) (xd_var 3) hk1 hk2)) S9 (by show B.n + 1 + 0 + 0 + (cC 0 + cC 0) ≤ _; omega) fun r v H10 p10 S10 => ?_)
    obtain ⟨x, y, ⟨t, rfl, h3, h4⟩, ⟨u, rfl, h5, h6⟩, rfl⟩ := p10
    exact ret (.and t u) rfl (fun n => ⟨h3 n, h5 n⟩) (by show max (dpC t) (dpC u) + 1 ≤ 3; have a2 : dpC t ≤ 1 := h4; have a3 : dpC u ≤ 1 := h6; omega) (by show B.n + 1 + 0 + 0 + (cC 0 + cC 0) ≤ _; omega) S10
end
end Tx


set_option Elab.async false
set_option linter.all false
set_option maxRecDepth 100000
set_option maxHeartbeats 4000000
set_option autoImplicit false
/-! D15: drawing rules, systems. -/
namespace Lg
open PySem PySem.Spec L2
section
variable {X : Cx} {O : List (Addr × Ow)} {ρ : List Sl} {c c1 c2 c3 : Nat} {P Pa Pb Pc : Dt → Prop} {a b e e3 : Expr} {pos pos' : Pos} {i j : Int} {da : Dt} {k : Bool}
theorem xt_eqE (ha : XE X a O ρ c (fun d => ∃ v : Nat, d = nD v)) (hb : XD X b O ρ (.int j)) : XT X (.Compare a [.Eq] [b] pos) O ρ c (fun _ => True) :=
  EvT.more (xt_cmp (Pb' := fun _ => True) op_eq (nomark _) ha hb fun da db p1 p2 => by
    subst p2
    obtain ⟨v, rfl⟩ := p1
    exact fun B F T σ H x y Q S q => rv_eqI B F T σ H x y Q S fun d v2 H2 pd S2 => q d v2 H2 ⟨_, pd, trivial⟩ S2) (by omega)
theorem xt_gtE (ha : XE X a O ρ c (fun d => ∃ v : Nat, d = nD v)) (hb : XD X b O ρ (.int j)) : XT X (.Compare a [.Gt] [b] pos) O ρ c (fun _ => True) :=
  EvT.more (xt_cmp (Pb' := fun _ => True) op_gt (nomark _) ha hb fun da db p1 p2 => by
    subst p2
    obtain ⟨v, rfl⟩ := p1
    exact fun B F T σ H x y Q S q => rv_I0 (g := fun i j => .bl (decide (j < i))) (d := .bl (decide (j < (v : Int)))) (.bl _) rfl B F T σ H x y Q S fun d v2 H2 pd S2 => q d v2 H2 ⟨_, pd, trivial⟩ S2) (by omega)
/-- tuple(e), e a list of which Pd is so -/
theorem xe_tupleE {p : Pos} {Pd : List Dt → Prop} (hm : X.mg "tuple" = none) (ha : XE X e O ρ c (fun d => ∃ ds, d = .lst ds ∧ Pd ds)) (hg : Gl X "tuple" := by rfl) (he : starEach [e] X.env = (false, eval e X.env) :: starEach [] X.env := by rfl) (hpl : (backTo pos (starEach [] X.env)).any (·.1) = false := by rfl) :
    XE X (.Call (.Name "tuple" p) [e] [] pos) O ρ c (fun d => ∃ ds, d = .tup ds ∧ Pd ds) :=
  EvP.more (xe_callTy (Pl := fun l => ∃ ds, l = [.lst ds] ∧ Pd ds) (c := c + 0) call_tuple_of hm (by decide +kernel) (xa_cons ha xl_nil (fun d ds h1 h2 => by obtain ⟨l, rfl, h3⟩ := h1; exact ⟨l, by rw [h2], h3⟩) he) (fun ds' hp B F T σ H HI vs Q S r k => by
    obtain ⟨l, rfl, h3⟩ := hp
    cases r with
    | cons r1 r2 =>
      cases r2
      cases r1 with
      | lst e1 r1 => exact ⟨_, _, rfl, .inl ⟨.inl (.inl (S.ex1 _ _ e1)), fun q hq => k _ _ _ ⟨l, rfl, h3⟩ ⟨_, (S.grow hq).push (.tup (.inl (.inl upd_same)) (r1.mono (same_upd (S.hi hq))))⟩⟩⟩) hg (by decide) (by decide) he hpl) (by omega)
theorem xt_andE (ha : XB X a O ρ k) (hb : k = true → XT X b O ρ c (fun _ => True)) : XT X (.BoolOp .And [a, b] pos) O ρ c (fun _ => True) :=
  xt_of (pw_and pt_s (pw_and1 pt_s)).pt fun B F T σ H Q hlim S q => ha B F T σ H _ S.lim S fun b1 H1 p1 S1 => by
    subst p1
    cases b1 with
    | true => exact iteT (hb rfl B F T σ H1 _ hlim S1 fun b2 H2 p2 S2 => q _ _ trivial S2)
    | false => exact iteF (q _ _ trivial (S1.raise (by show B.n + 0 ≤ B.n + c; omega) hlim))
end
section
variable {X : Cx} {O : List (Addr × Ow)} {ρ : List Sl} {pos pos' : Pos} {body : List Stmt} {D : Ends} {σ : L2.St} {H : Hp} {B : Bs} {T : List (V × Dt)}
/-- as w_forN, at a cost of c a turn -/
theorem w_forC {α : Type} (m c : Nat) {x : Str} {iter : Expr} (enc : α → Dt) (xs : List α) (I : Nat → List (Addr × Ow) → List Sl → Prop) (hp : PassesOwn (model X.prog X.w) X.A X.env X.xe) (hc : X.calm = true) (hN : X.N.Nodup)
    (hi : XJ X (.Name x pos') iter O ρ (xs.map enc)) (S : Sat X.K B O ρ T σ H) (hl : B.n + xs.length * c ≤ LIM) (h0 : I 0 O ρ)
    (hs : ∀ (n : Nat) y M O' ρ' T' σ' H' (N : L2.St → Hp → Prop), xs[n]? = some y → M + c ≤ B.n + xs.length * c → I n O' ρ' → Sat X.K ⟨B.H0, B.HI, B.f, M⟩ O' (ρ'.set m (.d (enc y))) T' σ' H' → (∀ M2 O2 ρ2 σ2 H2, M2 ≤ M + c → I (n + 1) O2 ρ2 → Sat X.K ⟨B.H0, B.HI, B.f, M2⟩ O2 ρ2 T' σ2 H2 → N σ2 H2) → WS X body { D with nx := N, ct := N, bk := D.nx } σ' H')
    (hd : ∀ O' ρ' σ' H', I xs.length O' ρ' → Sat X.K (B.add (xs.length * c)) O' ρ' T σ' H' → D.nx σ' H') (hm : X.N[m]? = some x := by rfl) (hx : Loc X.env.scope x := by first | exact Or.inl rfl | exact Or.inr rfl) (hf : X.fn x = true ∨ X.env.scope.names.lookup x = some .local := by first | exact .inl rfl | exact .inr rfl)
    (hfo : ∀ x, foldedSetIterable iter X.env x = pure x := by intro _; rfl) : W1 X (.For (.Name x pos') iter body [] pos) D σ H := by
  have get : ∀ (n : Nat) d, (xs.map enc)[n]? = some d → ∃ y, xs[n]? = some y ∧ d = enc y := fun n d h => by
    rw [List.getElem?_map] at h
    cases e : xs[n]? with
    | none => rw [e] at h; cases h
    | some y =>
      rw [e] at h
      exact ⟨y, rfl, (Option.some.inj h).symm⟩
  refine w_for (gt := fun ds n ρ' => ρ'.set m (.d (ds.getD n .non))) (is := [m]) (fun ds n B' O' ρ' => (∃ M, M ≤ B.n + n * c ∧ B' = ⟨B.H0, B.HI, B.f, M⟩) ∧ I n O' ρ') hp hc hi S S.lim (fun ds p => ⟨⟨B.n, by omega, rfl⟩, h0⟩) (fun ds n d B' O' ρ' p e hI => ?_) (fun ds n d B' O' ρ' T' σ' H' N p e hI S' kN => ?_) (fun ds B' O' ρ' σ' H' p hI S' => ?_) hfo
  · have e2 : ds.getD n .non = d := by rw [List.getD_eq_getElem?_getD, e] <;> rfl
    rw [e2]
    exact xg_name m hN hm hx hf
  · subst p
    obtain ⟨y, e1, rfl⟩ := get n d e
    obtain ⟨⟨M, hM, rfl⟩, hI⟩ := hI
    have e2 : (xs.map enc).getD n .non = enc y := by rw [List.getD_eq_getElem?_getD, e] <;> rfl
    rw [e2] at S'
    have hlt := (List.getElem?_eq_some_iff.mp e1).1
    have hmul : (n + 1) * c ≤ xs.length * c := Nat.mul_le_mul_right c hlt
    rw [Nat.add_mul, Nat.one_mul] at hmul
    exact hs n y M O' ρ' T' σ' H' N e1 (by omega) hI S' fun M2 O2 ρ2 σ2 H2 q0 q1 q2 => kN _ O2 ρ2 σ2 H2 ⟨⟨M2, by rw [Nat.add_mul, Nat.one_mul]; omega, rfl⟩, q1⟩ q2
  · subst p
    obtain ⟨⟨M, hM, rfl⟩, hI⟩ := hI
    rw [List.length_map] at hI hM
    exact hd O' ρ' σ' H' hI (S'.raise (m := B.n + xs.length * c) hM hl)
end
end Lg
namespace Tx
open PySem PySem.Spec L2 Lg Mo
section
variable {P : Program} {w : World} {K : PySem.W.Frag} {mg : Str → Option Value} {base : Heap} {f : Addr} {fd : FuncData}
/-! _law_rule -/
abbrev sRule : Stmt := top 70
abbrev ruN : List Str := ["_law_feed_here", "_law_sizes", "_law_boxes", "_law_some", "_law_claim_here", "_law_box"]
theorem scRule : FnScope ruN ["_law_feed_here", "_law_sizes", "_law_boxes"] (defScope sRule) := ⟨rfl, rfl, rfl, by decide +kernel, rfl, by decide +kernel, by decide +kernel⟩
def RuOk (k : Nat) (r : Mo.Rule) : Prop := (∀ n, wfC n k false r.1) ∧ dpC r.1 ≤ 3 ∧ r.2.length ≤ 3 ∧ ∀ l ∈ r.2, l.1 < k ∧ (∀ n, wfT n k false l.2) ∧ dpT l.2 ≤ 3
def preB (sz : List Nat) (ds : List Dt) : Prop := ds = [enNs sz, .lst ((List.range sz.length).map nD)] ∧ 1 ≤ sz.length ∧ sz.length ≤ 3
abbrev spRule (K : PySem.W.Frag) : Sp := spF K (fun _ => 67) preB fun sz d => ∃ r, d = enRule r ∧ RuOk sz.length r
theorem ok_rule {k : Nat} (F : Fun K "_law_rule" "_law_rule" sRule f fd) (M : Bi mg) (G : Def P w K mg base CX0 k "_law_take" ["_law_feed_here", "_law_many"] (spTake K)) (GT : Def P w K mg base CX0 k "_law_term" ["_law_feed_here", "_law_sizes", "_law_deep", "_law_inner"] (spTerm K 1)) (GC : Def P w K mg base CX0 k "_law_claim" ["_law_feed_here", "_law_sizes", "_law_deep", "_law_inner"] (spClaim K 1)) :
    FnOk P w K mg base CX0 (k + 1) f fd ["_law_feed_here", "_law_sizes", "_law_boxes"] (spRule K) := by
  refine Fun.okF F scRule (by decide) (fun y ds h => by obtain ⟨rfl, _⟩ := h; rfl) fun cdv A outer s0 H E hr sz ds B σ Q p hlim S0 hq => ?_
  obtain ⟨rfl, hk1, hk2⟩ := p
  have hlim' : B.n + 67 ≤ LIM := hlim
  have a19 : cC 1 = 19 := rfl
  have a15 : cT 1 = 15 := rfl
  refine WS.cons (w_set 3 (c := 3) (P := fun r => ∃ bs : List Nat, r = .lst (bs.map nD) ∧ bs.length ≤ 3 ∧ ∀ b ∈ bs, b < sz.length) (xe_orL (Pa := fun r => ∃ bs : List Nat, r = .lst (bs.map nD) ∧ bs.length ≤ 3 ∧ ∀ b ∈ bs, b < sz.length) (xe_lcO rfl scRule.nd (blkOk_by (N := ruN) (sc := defScope sRule) (own := [("_law_box", 5)]) (by decide +kernel))
    (ev_lcX [("_law_box", 5)] (c0 := 0) (c1 := 1) (c2 := 0) (Pl := fun ds => ds = (List.range sz.length).map nD) (ρt := fun ds i => [.fd, .d (enNs sz), .d (.lst ((List.range sz.length).map nD)), .u, .u, .d (nD i)]) (is := [5])
      (xj_list (xd_var 2)) (fun i h => h) (fun ds i acc => ∃ bs : List Nat, acc = bs.map nD ∧ bs.length ≤ i ∧ ∀ b ∈ bs, b < sz.length) (fun ds h => by rw [h, List.length_map, List.length_range]; omega) (by omega) (fun ds h => by rw [h, List.length_map, List.length_range]; omega) (fun _ _ _ => True) (fun ds i r => r = nD i)
      (fun ds i d h hd s H0 C cl fp => by
        subst h
        rw [List.getElem?_map] at hd
        cases e : (List.range sz.length)[i]? with
        | none => rw [e] at hd; cases hd
        | some y =>
          rw [e] at hd
          cases hd
          have e2 := (List.getElem?_eq_some_iff.mp e).2
          rw [List.getElem_range] at e2
          subst e2
          exact xg_name 5 scRule.nd)
      (fun ds i d h hd s H0 C cl fp => xts_one (xt_eqE (xe_take 0 (m := 2) G hr xd_int (by decide) (by decide) fun v _ => ⟨v, rfl⟩) xd_int)) (fun ds i d h hd _ s H0 C cl fp => xd_var 5) (fun ds h => ⟨[], rfl, Nat.le_refl _, fun b hb => absurd hb List.not_mem_nil⟩)
      (fun ds i d acc x h hd hG _ hx => by
        obtain ⟨bs, rfl, h1, h2⟩ := hG
        have hlt := (List.getElem?_eq_some_iff.mp hd).1
        rw [h, List.length_map, List.length_range] at hlt
        refine ⟨bs ++ [i], by rw [hx, List.map_append]; rfl, by rw [List.length_append, List.length_singleton]; omega, fun b hb => ?_⟩
        rcases List.mem_append.mp hb with hb | hb
        · exact h2 b hb
        · rw [List.mem_singleton.mp hb]; exact hlt)
      (fun ds i d acc h hd hG _ => by
        obtain ⟨bs, rfl, h1, h2⟩ := hG
        exact ⟨bs, rfl, by omega, h2⟩)
      (fun ds acc h hG => by
        obtain ⟨bs, rfl, h1, h2⟩ := hG
        rw [h, List.length_map, List.length_range] at h1
        exact ⟨bs, rfl, by omega, h2⟩)))
    (fun d hd => by
      obtain ⟨bs, rfl, h1, h2⟩ := hd
      exact ⟨_, rfl, fun _ => ⟨bs, rfl, h1, h2⟩⟩)
    (fun _ => EvP.imp (xd_slL (XD.ls (xd_var 2)) xo_none (xo_some xd_int)) fun d hd => ⟨[0], by
      rw [hd]
      obtain ⟨k', hk'⟩ : ∃ k', sz.length = k' + 1 := ⟨sz.length - 1, by omega⟩
      rw [hk', List.range_succ_eq_map]
      unfold cutD
      have e : HT.sIx ((0 :: (List.range k').map Nat.succ).map nD).length ((0 :: (List.range k').map Nat.succ).map nD).length (some 1) = 1 := by
        rw [show (some (1 : Int)) = some ((1 : Nat) : Int) from rfl, HT.sIx_nat, List.length_map, List.length_cons]
        omega
      rw [e, HT.sIx_none]
      rfl, by decide, fun b hb => by rw [List.mem_singleton.mp hb]; omega⟩)) S0 (by omega) (fun r σ1 H1 p1 S1 => ?_) scRule.nd)
  obtain ⟨bs, rfl, hbl, hbs⟩ := p1
  refine WS.cons (w_set 4 (xe_zc 0 GC hr (xd_var 1) (xd_is xd_int (d' := nD 1) rfl) (xd_bl (b := false)) hk1 hk2) S1 (by show B.n + 3 + cC 1 ≤ _; omega) (fun r σ2 H2 p2 S2 => ?_) scRule.nd)
  obtain ⟨cl0, rfl, hc1, hc2⟩ := p2
  have hc2' : dpC cl0 ≤ 3 := hc2
  refine WS.cons (w_ret (c := 0 + 45) (P := fun r => ∃ ru, r = enRule ru ∧ RuOk sz.length ru) (EvP.imp (xe_tup1 (xd_var 4) (xe_tupleE M.tuple (Pd := fun ds => ∃ ls : List (Nat × Mo.Tm), ds = ls.map enLay ∧ ls.length ≤ 3 ∧ ∀ l ∈ ls, l.1 < sz.length ∧ (∀ n, wfT n sz.length false l.2) ∧ dpT l.2 ≤ 3) (xe_lcO rfl scRule.nd (blkOk_by (N := ruN) (sc := defScope sRule) (own := [("_law_box", 5)]) (by decide +kernel))
    (ev_lcX [("_law_box", 5)] (c0 := 0) (c1 := 0) (c2 := cT 1) (Pl := fun ds => ds = bs.map nD) (ρt := fun ds i => [.fd, .d (enNs sz), .d (.lst ((List.range sz.length).map nD)), .d (.lst (bs.map nD)), .d (enC cl0), .d (nD (bs.getD i 0))]) (is := [5])
      (xj_list (xd_var 3)) (fun i h => h) (fun ds i acc => ∃ ls : List (Nat × Mo.Tm), acc = ls.map enLay ∧ ls.length ≤ i ∧ ∀ l ∈ ls, l.1 < sz.length ∧ (∀ n, wfT n sz.length false l.2) ∧ dpT l.2 ≤ 3) (fun ds h => by rw [h, List.length_map]; omega) (by omega) (fun ds h => by rw [h, List.length_map, a15]; omega) (fun _ _ _ => True) (fun ds i r => ∃ t, r = enLay (bs.getD i 0, t) ∧ (∀ n, wfT n sz.length false t) ∧ dpT t ≤ 3)
      (fun ds i d h hd s H0 C cl fp => by
        subst h
        rw [List.getElem?_map] at hd
        cases e : bs[i]? with
        | none => rw [e] at hd; cases hd
        | some y =>
          rw [e] at hd
          cases hd
          have e2 : bs.getD i 0 = y := by rw [List.getD_eq_getElem?_getD, e]; rfl
          show XG _ _ _ _ [.fd, _, _, _, _, .d (nD (bs.getD i 0))] _
          rw [e2]
          exact xg_name 5 scRule.nd)
      (fun ds i d h hd s H0 C cl fp => EvT.imp xts_nil fun _ _ => trivial) (fun ds i d h hd _ s H0 C cl fp => EvP.imp (xe_tup1 (xd_var 5) (xe_zc 0 GT hr (xd_var 1) (xd_is xd_int (d' := nD 1) rfl) (xd_bl (b := false)) hk1 hk2)) fun r hr' => by
        obtain ⟨x, ⟨t, rfl, h1, h2⟩, rfl⟩ := hr'
        exact ⟨t, rfl, h1, Nat.le_trans h2 (by decide)⟩) (fun ds h => ⟨[], rfl, Nat.le_refl _, fun b hb => absurd hb List.not_mem_nil⟩)
      (fun ds i d acc x h hd hG _ hx => by
        obtain ⟨ls, rfl, h1, h2⟩ := hG
        obtain ⟨t, rfl, h3, h4⟩ := hx
        have hlt := (List.getElem?_eq_some_iff.mp hd).1
        rw [h, List.length_map] at hlt
        refine ⟨ls ++ [(bs.getD i 0, t)], by rw [List.map_append]; rfl, by rw [List.length_append, List.length_singleton]; omega, fun l hl => ?_⟩
        rcases List.mem_append.mp hl with hl | hl
        · exact h2 l hl
        · rw [List.mem_singleton.mp hl]
          refine ⟨hbs _ ?_, h3, h4⟩
          show bs.getD i 0 ∈ bs
          rw [List.getD_eq_getElem?_getD, List.getElem?_eq_getElem hlt]
          exact List.getElem_mem hlt)
      (fun ds i d acc h hd hG _ => by
        obtain ⟨bs, rfl, h1, h2⟩ := hG
        exact ⟨bs, rfl, by omega, h2⟩)
      (fun ds acc h hG => by
        obtain ⟨ls, rfl, h1, h2⟩ := hG
        rw [h, List.length_map] at h1
        exact ⟨_, rfl, ls, rfl, by omega, h2⟩))))) fun r hr' => by
    obtain ⟨x, ⟨ds, rfl, ls, rfl, h1, h2⟩, rfl⟩ := hr'
    exact ⟨(cl0, ls), rfl, hc1, hc2', h1, h2⟩) S2 (by show B.n + 3 + cC 1 + (0 + 45) ≤ _; omega) fun r v H3 p3 S3 => ?_)
  exact hq _ _ _ _ _ _ _ _ p3 (by show B.n + 3 + cC 1 + (0 + 45) ≤ B.n + 67; omega) S3
/-! _law_rules -/
abbrev sRules : Stmt := top 71
abbrev rsN : List Str := ["_law_feed_here", "_law_sizes", "_law_boxes", "_law_most", "_law_many", "_law_kind", "_law_some", "_law_k"]
theorem scRules : FnScope rsN ["_law_feed_here", "_law_sizes", "_law_boxes", "_law_most"] (defScope sRules) := ⟨rfl, rfl, rfl, by decide +kernel, rfl, by decide +kernel, by decide +kernel⟩
def RsOk (k : Nat) (rs : List (List Mo.Rule)) : Prop := ∀ r ∈ rs, r.length ≤ 2 ∧ ∀ x ∈ r, RuOk k x
abbrev spRules (K : PySem.W.Frag) : Sp := spF K (fun _ => 270) (fun (sz : List Nat) ds => ds = [enNs sz, .lst ((List.range sz.length).map nD), nD 2] ∧ 1 ≤ sz.length ∧ sz.length ≤ 3) fun sz d => ∃ rs, d = .tup (rs.map enRules) ∧ rs.length = 2 ∧ RsOk sz.length rs
theorem ok_rules {k : Nat} (F : Fun K "_law_rules" "_law_rules" sRules f fd) (M : Bi mg) (G : Def P w K mg base CX0 k "_law_take" ["_law_feed_here", "_law_many"] (spTake K)) (GR : Def P w K mg base CX0 k "_law_rule" ["_law_feed_here", "_law_sizes", "_law_boxes"] (spRule K)) :
    FnOk P w K mg base CX0 (k + 1) f fd ["_law_feed_here", "_law_sizes", "_law_boxes", "_law_most"] (spRules K) := by
  refine Fun.okF F scRules (by decide) (fun y ds h => by obtain ⟨rfl, _⟩ := h; rfl) fun cdv A outer s0 H E hr sz ds B σ Q p hlim S0 hq => ?_
  obtain ⟨rfl, hk1, hk2⟩ := p
  have hlim' : B.n + 270 ≤ LIM := hlim
  refine WS.cons (w_setLc 4 (c := 2) (P := fun r => ∃ ms : List Nat, r = .lst (ms.map nD) ∧ ms.length = 2 ∧ ∀ b ∈ ms, b ≤ 2) rfl scRules.nd (blkOk_by (N := rsN) (sc := defScope sRules) (own := [("_law_kind", 5)]) (by decide +kernel))
    (ev_lcX [("_law_kind", 5)] (c0 := 0) (c1 := 0) (c2 := 1) (Pl := fun ds => ds = (List.range 2).map nD) (ρt := fun ds i => [.fd, .d (enNs sz), .d (.lst ((List.range sz.length).map nD)), .d (nD 2), .u, .d (nD i), .u, .u]) (is := [5])
      (xj_range M.range xd_int (by decide)) (fun i h => h) (fun ds i acc => ∃ ms : List Nat, acc = ms.map nD ∧ ms.length = i ∧ ∀ b ∈ ms, b ≤ 2) (fun ds h => by rw [h]; decide) (by omega) (fun ds h => by rw [h]; decide) (fun _ _ b => b = true) (fun ds i r => ∃ v : Nat, v < 3 ∧ r = nD v)
      (fun ds i d h hd s H0 C cl fp => by
        subst h
        rw [List.getElem?_map] at hd
        cases e : (List.range 2)[i]? with
        | none => rw [e] at hd; cases hd
        | some y =>
          rw [e] at hd
          cases hd
          have e2 := (List.getElem?_eq_some_iff.mp e).2
          rw [List.getElem_range] at e2
          subst e2
          exact xg_name 5 scRules.nd)
      (fun ds i d h hd s H0 C cl fp => xts_nil) (fun ds i d h hd _ s H0 C cl fp => xe_take 0 (m := 3) G hr (xd_is (xd_add (xd_var 3) xd_int) (d' := nD 3) rfl) (by decide) (by decide) fun v hv => ⟨v, hv, rfl⟩) (fun ds h => ⟨[], rfl, rfl, fun b hb => absurd hb List.not_mem_nil⟩)
      (fun ds i d acc x h hd hG _ hx => by
        obtain ⟨bs, rfl, h1, h2⟩ := hG
        obtain ⟨v, hv, rfl⟩ := hx
        refine ⟨bs ++ [v], by rw [List.map_append]; rfl, by rw [List.length_append, List.length_singleton, h1], fun b hb => ?_⟩
        rcases List.mem_append.mp hb with hb | hb
        · exact h2 b hb
        · rw [List.mem_singleton.mp hb]; omega)
      (fun ds i d acc h hd hG hb => by cases hb)
      (fun ds acc h hG => by
        obtain ⟨bs, rfl, h1, h2⟩ := hG
        rw [h, List.length_map, List.length_range] at h1
        exact ⟨bs, rfl, h1, h2⟩)) S0 (by omega) (fun r σ1 H1 p1 S1 => ?_))
  obtain ⟨ms, rfl, hml, hms⟩ := p1
  refine WS.cons (w_ret (c := 268) (P := fun r => ∃ ds, r = .tup ds ∧ ∃ rs : List (List Mo.Rule), ds = rs.map enRules ∧ rs.length = 2 ∧ RsOk sz.length rs) (xe_tupleE M.tuple (xe_lcO rfl scRules.nd (blkOk_by (N := rsN) (sc := defScope sRules) (own := [("_law_some", 6)]) (by decide +kernel))
    (ev_lcX [("_law_some", 6)] (c0 := 0) (c1 := 0) (c2 := 134) (Pl := fun ds => ds = ms.map nD) (ρt := fun ds i => [.fd, .d (enNs sz), .d (.lst ((List.range sz.length).map nD)), .d (nD 2), .d (.lst (ms.map nD)), .u, .d (nD (ms.getD i 0)), .u]) (is := [6])
      (xj_list (xd_var 4)) (fun i h => h) (fun ds i acc => ∃ rs : List (List Mo.Rule), acc = rs.map enRules ∧ rs.length = i ∧ RsOk sz.length rs) (fun ds h => by rw [h, List.length_map, hml]; decide) (by omega) (fun ds h => by rw [h, List.length_map, hml]; decide) (fun _ _ b => b = true) (fun ds i r => ∃ rs : List Mo.Rule, r = enRules rs ∧ rs.length ≤ 2 ∧ ∀ x ∈ rs, RuOk sz.length x)
      (fun ds i d h hd s H0 C cl fp => by
        subst h
        rw [List.getElem?_map] at hd
        cases e : ms[i]? with
        | none => rw [e] at hd; cases hd
        | some y =>
          rw [e] at hd
          cases hd
          have e2 : ms.getD i 0 = y := by rw [List.getD_eq_getElem?_getD, e]; rfl
          show XG _ _ _ _ [.fd, _, _, _, _, _, .d (nD (ms.getD i 0)), _] _
          rw [e2]
          exact xg_name 6 scRules.nd)
      (fun ds i d h hd s H0 C cl fp => xts_nil) (fun ds i d h hd _ s H0 C cl fp => ?_) (fun ds h => ⟨[], rfl, rfl, fun b hb => absurd hb List.not_mem_nil⟩)
      (fun ds i d acc x h hd hG _ hx => by
        obtain ⟨bs, rfl, h1, h2⟩ := hG
        obtain ⟨rs, rfl, h3, h4⟩ := hx
        refine ⟨bs ++ [rs], by rw [List.map_append]; rfl, by rw [List.length_append, List.length_singleton, h1], fun b hb => ?_⟩
        rcases List.mem_append.mp hb with hb | hb
        · exact h2 b hb
        · rw [List.mem_singleton.mp hb]; exact ⟨h3, h4⟩)
      (fun ds i d acc h hd hG hb => by cases hb)
      (fun ds acc h hG => by
        obtain ⟨bs, rfl, h1, h2⟩ := hG
        rw [h, List.length_map, hml] at h1
        exact ⟨_, rfl, bs, rfl, h1, h2⟩)))) S1 (by show B.n + 2 + 268 ≤ _; omega) fun r v H3 p3 S3 => ?_)
  · have hlt := (List.getElem?_eq_some_iff.mp hd).1
    rw [h, List.length_map] at hlt
    have hm2 : ms.getD i 0 ≤ 2 := by
      rw [List.getD_eq_getElem?_getD, List.getElem?_eq_getElem hlt]
      exact hms _ (List.getElem_mem hlt)
    refine EvP.imp (P := fun r => ∃ ds, r = .tup ds ∧ ∃ rs : List Mo.Rule, ds = rs.map enRule ∧ rs.length ≤ 2 ∧ ∀ x ∈ rs, RuOk sz.length x) (xe_tupleE M.tuple (xe_lcO rfl scRules.nd (blkOk_by (own := [("_law_k", 7)]) (by kernel_rfl)) ?_)) fun r hr' => by
      obtain ⟨ds, rfl, rs, rfl, h1, h2⟩ := hr'
      exact ⟨rs, rfl, h1, h2⟩
    refine ev_lcX [("_law_k", 7)] (c0 := 0) (c1 := 0) (c2 := 67) (Pl := fun ds => ds = (List.range (ms.getD i 0)).map nD) (ρt := fun ds j => [.fd, .d (enNs sz), .d (.lst ((List.range sz.length).map nD)), .d (nD 2), .d (.lst (ms.map nD)), .u, .d (nD (ms.getD i 0)), .d (nD j)]) (is := [7])
      (xj_range M.range (xd_var 6) (by omega)) (fun i h => h) (fun ds i acc => ∃ rs : List Mo.Rule, acc = rs.map enRule ∧ rs.length ≤ i ∧ ∀ x ∈ rs, RuOk sz.length x) (fun ds h => by rw [h, List.length_map, List.length_range]; omega) (by omega) (fun ds h => by rw [h, List.length_map, List.length_range]; omega) (fun _ _ b => b = true) (fun ds i r => ∃ ru, r = enRule ru ∧ RuOk sz.length ru)
      (fun ds i d h hd s H0 C cl fp => by
        subst h
        rw [List.getElem?_map] at hd
        cases e : (List.range (ms.getD _ 0))[i]? with
        | none => rw [e] at hd; cases hd
        | some y =>
          rw [e] at hd
          cases hd
          have e2 := (List.getElem?_eq_some_iff.mp e).2
          rw [List.getElem_range] at e2
          subst e2
          exact xg_name 7 scRules.nd)
      (fun ds i d h hd s H0 C cl fp => xts_nil) (fun ds i d h hd _ s H0 C cl fp => EvP.more (xe_callF 0 GR hr pass0 (xl_cons (xd_var 1) (xl_cons (xd_var 2) xl_nil)) (fun ds q => ⟨sz, ⟨q, hk1, hk2⟩, Nat.le_refl 67, fun d h => h⟩)) (by omega)) (fun ds h => ⟨[], rfl, Nat.le_refl _, fun b hb => absurd hb List.not_mem_nil⟩)
      (fun ds i d acc x h hd hG _ hx => by
        obtain ⟨bs, rfl, h1, h2⟩ := hG
        obtain ⟨rs, rfl, h3⟩ := hx
        refine ⟨bs ++ [rs], by rw [List.map_append]; rfl, by rw [List.length_append, List.length_singleton]; omega, fun b hb => ?_⟩
        rcases List.mem_append.mp hb with hb | hb
        · exact h2 b hb
        · rw [List.mem_singleton.mp hb]; exact h3)
      (fun ds i d acc h hd hG hb => by cases hb)
      (fun ds acc h hG => by
        obtain ⟨bs, rfl, h1, h2⟩ := hG
        rw [h, List.length_map, List.length_range] at h1
        exact ⟨_, rfl, bs, rfl, by omega, h2⟩)
  · obtain ⟨ds, rfl, rs, rfl, h1, h2⟩ := p3
    exact hq _ _ _ _ _ _ _ _ ⟨rs, rfl, h1, h2⟩ (by show B.n + 2 + 268 ≤ B.n + 270; omega) S3
end
end Tx


set_option Elab.async false
set_option linter.all false
set_option maxRecDepth 100000
set_option maxHeartbeats 4000000
set_option autoImplicit false
/-! D16: drawing a system. -/
namespace Lg
open PySem PySem.Spec L2
section
variable {X : Cx} {O : List (Addr × Ow)} {ρ : List Sl} {c : Nat} {P Pa : Dt → Prop} {a b e e3 : Expr} {pos : Pos} {da db dc : Dt}
theorem xe_tup4 {kk : Nat} (ha : XD X a O ρ da) (hb : XD X b O ρ db) (hc : XD X e O ρ dc) (hz : XE X e3 O ρ c Pa) (h1 : starEach [a, b, e, e3] X.env = (false, eval a X.env) :: starEach [b, e, e3] X.env := by rfl) (h0 : starEach [b, e, e3] X.env = (false, eval b X.env) :: starEach [e, e3] X.env := by rfl) (h2 : starEach [e, e3] X.env = (false, eval e X.env) :: starEach [e3] X.env := by rfl) (h3 : starEach [e3] X.env = (false, eval e3 X.env) :: starEach [] X.env := by rfl) :
    XE X (.Tuple [a, b, e, e3] kk pos) O ρ c (fun d => ∃ x, Pa x ∧ d = .tup [da, db, dc, x]) :=
  EvP.more (xe_tup (xa_cons ha (xa_cons hb (xa_cons hc (xa_cons hz xl_nil (P := fun ds => ∃ y, Pa y ∧ ds = [y]) (fun d ds h1 h2 => ⟨d, h1, by rw [h2]⟩) h3) (P := fun ds => ∃ y, Pa y ∧ ds = [dc, y]) (fun d ds h1 h2 => by obtain ⟨y, h3, rfl⟩ := h2; exact ⟨y, h3, by rw [h1]⟩) h2)
    (P := fun ds => ∃ y, Pa y ∧ ds = [db, dc, y]) (fun d ds h1 h2 => by obtain ⟨y, h3, rfl⟩ := h2; exact ⟨y, h3, by rw [h1]⟩) h0)
    (P := fun ds => ∃ y, Pa y ∧ ds = [da, db, dc, y]) (fun d ds h1 h2 => by obtain ⟨y, h3, rfl⟩ := h2; exact ⟨y, h3, by rw [h1]⟩) h1) fun ds h => by obtain ⟨y, h3, rfl⟩ := h; exact ⟨Nat.le_of_ble_eq_true rfl, y, h3, rfl⟩) (by omega)
end
end Lg
namespace Tx
open PySem PySem.Spec L2 Lg Mo
section
variable {P : Program} {w : World} {K : PySem.W.Frag} {mg : Str → Option Value} {base : Heap} {f : Addr} {fd : FuncData}
abbrev sDrawn : Stmt := top 72
abbrev drN : List Str := ["_law_feed_here", "_law_many", "_law_sizes", "_law_eyes", "_law_hand", "_law_one", "_law_kinds"]
theorem scDrawn : FnScope drN ["_law_feed_here"] (defScope sDrawn) := ⟨rfl, rfl, rfl, by decide +kernel, rfl, by decide +kernel, by decide +kernel⟩
abbrev spDrawn (K : PySem.W.Frag) : Sp := spF K (fun _ : Unit => 300) (fun _ ds => ds = []) fun _ d => ∃ S, d = enS S ∧ WfS S
def SzOk (n : Nat) (sz : List Nat) : Prop := sz = [2] ∨ (n < 3 ∧ (sz = [3] ∨ sz = [2, 2]))
theorem szOk_len {n : Nat} {sz : List Nat} (h : SzOk n sz) : 1 ≤ sz.length ∧ sz.length ≤ 2 := by
  rcases h with rfl | ⟨_, rfl | rfl⟩ <;> decide
theorem wf_drawn {n : Nat} {eyes : List (List Nat)} {sz ks : List Nat} {rs : List (List Mo.Rule)} (hn1 : 1 ≤ n) (hn2 : n ≤ 3) (he : eyes.length = n) (hs : ∀ r ∈ eyes, r.length ≤ 3 ∧ ∀ o ∈ r, o < n) (hz : SzOk n sz) (hk : ks.length = n) (hk2 : ∀ d ∈ ks, d < 2) (hr : rs.length = 2) (hr2 : RsOk sz.length rs) : WfS ⟨eyes, sz, ks, rs⟩ := by
  have hl := szOk_len hz
  refine ⟨by show 1 ≤ eyes.length; omega, by show eyes.length ≤ 4; omega, hl.1, by show sz.length ≤ 3; omega, fun s h o ho => by show o < eyes.length; rw [he]; exact (hs s h).2 o ho, fun s h => Nat.le_trans (hs s h).1 (by decide), fun s h => ?_, by show ks.length = eyes.length; omega, fun d h => by show d < rs.length; rw [hr]; exact hk2 d h, fun r h => ?_, fun r h x hx => ?_, ?_⟩
  · rcases hz with rfl | ⟨_, rfl | rfl⟩ <;> (simp at h; omega)
  · obtain ⟨h1, h2⟩ := hr2 r h
    refine ⟨by omega, fun x hx => ?_⟩
    obtain ⟨a1, a2, a3, a4⟩ := h2 x hx
    exact ⟨a1 _, Nat.le_trans a2 (by decide), fun l hl => ⟨(a4 l hl).1, (a4 l hl).2.1 _, Nat.le_trans (a4 l hl).2.2 (by decide)⟩⟩
  · obtain ⟨h1, h2⟩ := hr2 r h
    obtain ⟨a1, a2, a3, a4⟩ := h2 x hx
    omega
  · show (List.replicate eyes.length sz).flatten.foldl (· * ·) 1 ≤ 100
    rw [he]
    have : n = 1 ∨ n = 2 ∨ n = 3 := by omega
    rcases hz with rfl | ⟨hn3, rfl | rfl⟩ <;> rcases this with rfl | rfl | rfl <;> first | decide | omega
theorem ok_drawn {k : Nat} (F : Fun K "_law_drawn" "_law_drawn" sDrawn f fd) (M : Bi mg) (G : Def P w K mg base CX0 k "_law_take" ["_law_feed_here", "_law_many"] (spTake K)) (GR : Def P w K mg base CX0 k "_law_rules" ["_law_feed_here", "_law_sizes", "_law_boxes", "_law_most"] (spRules K)) :
    FnOk P w K mg base CX0 (k + 1) f fd ["_law_feed_here"] (spDrawn K) := by
  refine Fun.okF F scDrawn (by decide) (fun y ds h => by subst h; rfl) fun cdv A outer s0 H E hr y ds B σ Q p hlim S0 hq => ?_
  subst p
  have hlim' : B.n + 300 ≤ LIM := hlim
  refine WS.cons (w_set 1 (P := fun r => ∃ n : Nat, 1 ≤ n ∧ n ≤ 3 ∧ r = nD n) (xe_add (m := 1) xd_int (xe_take 0 (m := 3) G hr xd_int (by decide) (by decide) fun v hv => ⟨v, rfl, 1 + v, by omega, by omega, rfl⟩)) S0 (by omega) (fun r σ1 H1 p1 S1 => ?_) scDrawn.nd)
  obtain ⟨n, hn1, hn2, rfl⟩ := p1
  refine WS.cons (w_set 2 (P := fun r => r = enNs [2]) (xd_tup (xl_cons xd_int xl_nil)) S1 S1.lim (fun r σ2 H2 p2 S2 => ?_) scDrawn.nd)
  subst p2
  have cont : ∀ (sz : List Nat) σ3 H3 m3, SzOk n sz → m3 ≤ B.n + 2 → Sat K ⟨B.H0, B.HI, B.f, m3⟩ [] [.fd, .d (nD n), .d (enNs sz), .u, .u, .u, .u] [] σ3 H3 → WS (cxOf CX0 P w K mg base drN "_law_drawn" (defScope sDrawn) f cdv A outer s0 H E).nox ((defBody sDrawn).drop 3) { nx := fun _ H' => Q .non H', rt := Q } σ3 H3 := fun sz σ3 H3 m3 hz hm3 S3 => by
    have hszl := szOk_len hz
    refine WS.cons (w_own 3 xn_nil S3 S3.lim (fun q w4 σ4 H4 pw S4 => ?_) scDrawn.nd)
    subst pw
    refine WS.cons (w_forC 4 3 nD (List.range n) (fun i O' ρ' => ∃ eyes : List (List Nat), eyes.length = i ∧ (∀ r ∈ eyes, r.length ≤ 3 ∧ ∀ o ∈ r, o < n) ∧ O' = [(q, .lst (eyes.map enNs))] ∧ ∃ u, ρ' = [.fd, .d (nD n), .d (enNs sz), .o q, u, .u, .u]) PassesOwn.never rfl scDrawn.nd (xj_range M.range (xd_var 1) (by omega)) S4 (by rw [List.length_range]; show m3 + 0 + n * 3 ≤ _; omega) ⟨[], rfl, fun r hr => absurd hr List.not_mem_nil, rfl, .u, rfl⟩ (fun i y M1 O' ρ' T' σ' H' N hy hM hI S5 kN => ?_) (fun O' ρ' σ' H' hI S5 => ?_))
    · obtain ⟨eyes, hel, heo, rfl, u, rfl⟩ := hI
      have hylt := List.mem_range.mp (List.mem_of_getElem? hy)
      have hMl : M1 + 3 ≤ LIM := by rw [List.length_range] at hM; have hM' : M1 + 3 ≤ m3 + 0 + n * 3 := hM; omega
      refine WS.cons (w_append 3 (c := 3) (A := []) (C := []) (P := fun r => ∃ ds, r = .tup ds ∧ ∃ os : List Nat, ds = os.map nD ∧ os.length ≤ 3 ∧ ∀ o ∈ os, o < n) (xe_tupleE M.tuple (xe_lcO rfl scDrawn.nd (blkOk_by (N := drN) (sc := defScope sDrawn) (own := [("_law_one", 5)]) (by decide +kernel))
        (ev_lcX [("_law_one", 5)] (c0 := 0) (c1 := 1) (c2 := 0) (Pl := fun ds => ds = (List.range n).map nD) (ρt := fun ds j => [.fd, .d (nD n), .d (enNs sz), .o q, .d (nD y), .d (nD j), .u]) (is := [5])
          (xj_range M.range (xd_var 1) (by omega)) (fun i h => h) (fun ds i acc => ∃ os : List Nat, acc = os.map nD ∧ os.length ≤ i ∧ ∀ o ∈ os, o < n) (fun ds h => by rw [h, List.length_map, List.length_range]; omega) (by omega) (fun ds h => by rw [h, List.length_map, List.length_range]; omega) (fun _ _ _ => True) (fun ds j r => r = nD j)
          (fun ds i d h hd s H0 C cl fp => by
            subst h
            rw [List.getElem?_map] at hd
            cases e : (List.range n)[i]? with
            | none => rw [e] at hd; cases hd
            | some y =>
              rw [e] at hd
              cases hd
              have e2 := (List.getElem?_eq_some_iff.mp e).2
              rw [List.getElem_range] at e2
              subst e2
              exact xg_name 5 scDrawn.nd)
          (fun ds i d h hd s H0 C cl fp => xts_one (xt_andE (xb_ne (xd_var 5) (xd_var 4)) fun _ => xt_gtE (xe_take 0 (m := 4) G hr xd_int (by decide) (by decide) fun v _ => ⟨v, rfl⟩) xd_int)) (fun ds i d h hd _ s H0 C cl fp => xd_var 5) (fun ds h => ⟨[], rfl, Nat.le_refl _, fun b hb => absurd hb List.not_mem_nil⟩)
          (fun ds i d acc x h hd hG _ hx => by
            obtain ⟨bs, rfl, h1, h2⟩ := hG
            have hlt := (List.getElem?_eq_some_iff.mp hd).1
            rw [h, List.length_map, List.length_range] at hlt
            refine ⟨bs ++ [i], by rw [hx, List.map_append]; rfl, by rw [List.length_append, List.length_singleton]; omega, fun b hb => ?_⟩
            rcases List.mem_append.mp hb with hb | hb
            · exact h2 b hb
            · rw [List.mem_singleton.mp hb]; exact hlt)
          (fun ds i d acc h hd hG _ => by
            obtain ⟨bs, rfl, h1, h2⟩ := hG
            exact ⟨bs, rfl, by omega, h2⟩)
          (fun ds acc h hG => by
            obtain ⟨bs, rfl, h1, h2⟩ := hG
            rw [h, List.length_map, List.length_range] at h1
            exact ⟨_, rfl, bs, rfl, by omega, h2⟩)))) S5 hMl (by rw [List.length_map]; have := (List.getElem?_eq_some_iff.mp hy).1; rw [List.length_range] at this; omega) (fun d H6 p6 S6 => ?_))
      obtain ⟨ds, rfl, os, rfl, h1, h2⟩ := p6
      refine WS.nil (kN (M1 + 3) _ _ _ _ (Nat.le_refl _) ⟨eyes ++ [os], by rw [List.length_append, hel]; rfl, fun r hr' => ?_, ?_, .d (nD y), rfl⟩ S6)
      · rcases List.mem_append.mp hr' with hr' | hr'
        · exact heo r hr'
        · rw [List.mem_singleton.mp hr']; exact ⟨h1, h2⟩
      · rw [List.map_append]
        rfl
    · obtain ⟨eyes, hel, heo, rfl, u, rfl⟩ := hI
      rw [List.length_range] at hel S5
      have hb5 : m3 + 0 + n * 3 ≤ B.n + 11 := by omega
      refine WS.cons (w_set 6 (c := 3) (P := fun r => ∃ ds, r = .tup ds ∧ ∃ ks : List Nat, ds = ks.map nD ∧ ks.length = n ∧ ∀ b ∈ ks, b < 2) (xe_tupleE M.tuple (xe_lcO rfl scDrawn.nd (blkOk_by (N := drN) (sc := defScope sDrawn) (own := [("_law_hand", 4)]) (by decide +kernel))
        (ev_lcX [("_law_hand", 4)] (c0 := 0) (c1 := 0) (c2 := 1) (Pl := fun ds => ds = (List.range n).map nD) (ρt := fun ds j => [.fd, .d (nD n), .d (enNs sz), .o q, .d (nD j), .u, .u]) (is := [4])
          (xj_range M.range (xd_var 1) (by omega)) (fun i h => h) (fun ds i acc => ∃ ks : List Nat, acc = ks.map nD ∧ ks.length = i ∧ ∀ b ∈ ks, b < 2) (fun ds h => by rw [h, List.length_map, List.length_range]; omega) (by omega) (fun ds h => by rw [h, List.length_map, List.length_range]; omega) (fun _ _ b => b = true) (fun ds i r => ∃ v : Nat, v < 2 ∧ r = nD v)
          (fun ds i d h hd s H0 C cl fp => by
            subst h
            rw [List.getElem?_map] at hd
            cases e : (List.range n)[i]? with
            | none => rw [e] at hd; cases hd
            | some y =>
              rw [e] at hd
              cases hd
              have e2 := (List.getElem?_eq_some_iff.mp e).2
              rw [List.getElem_range] at e2
              subst e2
              exact xg_name 4 scDrawn.nd)
          (fun ds i d h hd s H0 C cl fp => xts_nil) (fun ds i d h hd _ s H0 C cl fp => xe_take 0 (m := 2) G hr xd_int (by decide) (by decide) fun v hv => ⟨v, hv, rfl⟩) (fun ds h => ⟨[], rfl, rfl, fun b hb => absurd hb List.not_mem_nil⟩)
          (fun ds i d acc x h hd hG _ hx => by
            obtain ⟨bs, rfl, h1, h2⟩ := hG
            obtain ⟨v, hv, rfl⟩ := hx
            refine ⟨bs ++ [v], by rw [List.map_append]; rfl, by rw [List.length_append, List.length_singleton, h1], fun b hb => ?_⟩
            rcases List.mem_append.mp hb with hb | hb
            · exact h2 b hb
            · rw [List.mem_singleton.mp hb]; exact hv)
          (fun ds i d acc h hd hG hb => by cases hb)
          (fun ds acc h hG => by
            obtain ⟨bs, rfl, h1, h2⟩ := hG
            rw [h, List.length_map, List.length_range] at h1
            exact ⟨_, rfl, bs, rfl, h1, h2⟩)))) S5 (by show m3 + 0 + n * 3 + 3 ≤ _; omega) (fun r σ6 H6 p6 S6 => ?_) scDrawn.nd)
      obtain ⟨ds, rfl, ks, rfl, hkl, hk2⟩ := p6
      refine WS.cons (w_ret (c := 270) (xe_tup4 (xd_tuple M.tuple (xs_own 3)) (xd_var 2) (xd_var 6) (EvP.more (xe_callF (m := 270) 0 GR hr pass0 (xl_cons (xd_var 2) (xl_cons (xd_listRg rfl M.list M.range (xd_is (xd_lenT M.len (ds := sz.map nD) (xd_var 2)) (by rw [List.length_map])) (by omega)) (xl_cons xd_int xl_nil))) (fun ds q => ⟨sz, ⟨q, hszl.1, by omega⟩, Nat.le_refl 270, fun d h => h⟩)) (by omega))) S6 (by show m3 + 0 + n * 3 + 3 + 270 ≤ _; omega) fun r v H7 p7 S7 => ?_)
      obtain ⟨x, ⟨rs, rfl, hr1, hr2⟩, rfl⟩ := p7
      exact hq _ _ _ _ _ _ _ _ ⟨⟨eyes, sz, ks, rs⟩, rfl, wf_drawn hn1 hn2 hel heo hz hkl hk2 hr1 hr2⟩ (by show m3 + 0 + n * 3 + 3 + 270 ≤ B.n + 300; omega) S7
  by_cases h3 : n < 3
  · refine WS.cons (w_ifT (xb_lt (xd_var 1) xd_int) (decide_eq_true (by omega)) S2 fun H3 S3 => ?_)
    refine WS.cons (w_set 2 (P := fun r => ∃ sz, SzOk n sz ∧ r = enNs sz) (xe_ixL (ds := [enNs [2], enNs [2], enNs [3], enNs [2, 2]]) (XD.ls (xd_lst (xl_cons (xd_tup (xl_cons xd_int xl_nil)) (xl_cons (xd_tup (xl_cons xd_int xl_nil)) (xl_cons (xd_tup (xl_cons xd_int xl_nil)) (xl_cons (xd_tup (xl_cons xd_int (xl_cons xd_int xl_nil))) xl_nil)))))) (xe_take 0 (m := 4) (P' := fun r => ∃ v : Nat, v < 4 ∧ r = nD v) G hr xd_int (by decide) (by decide) fun v hv => ⟨v, hv, rfl⟩) (fun db h => by
      obtain ⟨v, hv, rfl⟩ := h
      match v, hv with
      | 0, _ => exact ⟨_, _, rfl, rfl, [2], .inl rfl, rfl⟩
      | 1, _ => exact ⟨_, _, rfl, rfl, [2], .inl rfl, rfl⟩
      | 2, _ => exact ⟨_, _, rfl, rfl, [3], .inr ⟨h3, .inl rfl⟩, rfl⟩
      | 3, _ => exact ⟨_, _, rfl, rfl, [2, 2], .inr ⟨h3, .inr rfl⟩, rfl⟩)) S3 (by show B.n + 1 + 0 + 1 ≤ _; omega) (fun r σ4 H4 p4 S4 => ?_) scDrawn.nd)
    obtain ⟨sz, hz, rfl⟩ := p4
    exact WS.nil (cont sz _ _ (B.n + 1 + 0 + 1) hz (by omega) S4)
  · exact WS.cons (w_ifF (xb_lt (xd_var 1) xd_int) (decide_eq_false (by omega)) S2 fun H3 S3 => WS.nil (cont [2] _ _ (B.n + 1 + 0) (.inl rfl) (by omega) S3))
end
end Tx


set_option Elab.async false
set_option linter.all false
set_option maxRecDepth 100000
set_option maxHeartbeats 4000000
set_option autoImplicit false
/-! D17: drawing goals. -/
namespace Lg
open PySem PySem.Spec L2
section
variable {X : Cx} {O : List (Addr × Ow)} {ρ : List Sl} {c : Nat} {P Pa Pb : Dt → Prop} {a b e e3 : Expr} {pos : Pos} {da db dc : Dt}
/-- (s, e, e2), the third drawn -/
theorem xe_tup2b {kk : Nat} (ha : XD X a O ρ da) (hb : XD X b O ρ db) (hz : XE X e O ρ c Pb) (h1 : starEach [a, b, e] X.env = (false, eval a X.env) :: starEach [b, e] X.env := by rfl) (h2 : starEach [b, e] X.env = (false, eval b X.env) :: starEach [e] X.env := by rfl) (h3 : starEach [e] X.env = (false, eval e X.env) :: starEach [] X.env := by rfl) :
    XE X (.Tuple [a, b, e] kk pos) O ρ c (fun d => ∃ x, Pb x ∧ d = .tup [da, db, x]) :=
  EvP.more (xe_tup (xa_cons ha (xa_cons hb (xa_cons hz xl_nil (P := fun ds => ∃ x, Pb x ∧ ds = [x]) (fun d ds h1 h2 => ⟨d, h1, by rw [h2]⟩) h3) (P := fun ds => ∃ x, Pb x ∧ ds = [db, x]) (fun d ds h1 h2 => by obtain ⟨x, h3, rfl⟩ := h2; exact ⟨x, h3, by rw [h1]⟩) h2)
    (P := fun ds => ∃ x, Pb x ∧ ds = [da, db, x]) (fun d ds h1 h2 => by obtain ⟨x, h3, rfl⟩ := h2; exact ⟨x, h3, by rw [h1]⟩) h1) fun ds h => by obtain ⟨x, h3, rfl⟩ := h; exact ⟨Nat.le_of_ble_eq_true rfl, x, h3, rfl⟩) (by omega)
end
end Lg
namespace Tx
open PySem PySem.Spec L2 Lg Mo
section
variable {P : Program} {w : World} {K : PySem.W.Frag} {mg : Str → Option Value} {base : Heap} {f : Addr} {fd : FuncData}
def cG (d : Nat) : Nat := if d = 0 then 24 else 49
def GoOk (S : Sys) (d : Nat) (r : Dt) : Prop := ∃ g, r = enG g ∧ wfG S.n S.k g ∧ dpG g ≤ d
abbrev spGoal (K : PySem.W.Frag) (d : Nat) : Sp := spF K (fun _ : Sys => cG d) (fun S ds => ds = [enS S, nD d] ∧ WfS S) fun S => GoOk S d
abbrev sGoal : Stmt := top 75
abbrev goN : List Str := ["_law_feed_here", "_law_system_here", "_law_deep", "_law_way", "_law_many", "_law_hands", "_law_hand"]
theorem scGoal : FnScope goN ["_law_feed_here", "_law_system_here", "_law_deep"] (defScope sGoal) := ⟨rfl, rfl, rfl, by decide +kernel, rfl, by decide +kernel, by decide +kernel⟩
theorem ok_goal {k d : Nat} (hd : d = 0 ∨ d = 1) (F : Fun K "_law_goal" "_law_goal" sGoal f fd) (M : Bi mg) (G : Def P w K mg base CX0 k "_law_take" ["_law_feed_here", "_law_many"] (spTake K)) (GC : Def P w K mg base CX0 k "_law_claim" ["_law_feed_here", "_law_sizes", "_law_deep", "_law_inner"] (spClaim K 1))
    (GG : d = 1 → Def P w K mg base CX0 k "_law_goal" ["_law_feed_here", "_law_system_here", "_law_deep"] (spGoal K 0)) : FnOk P w K mg base CX0 (k + 1) f fd ["_law_feed_here", "_law_system_here", "_law_deep"] (spGoal K d) := by
  refine Fun.okF F scGoal (by decide) (fun y ds h => by obtain ⟨rfl, _⟩ := h; rfl) fun cdv A outer s0 H E hr S ds B σ Q p hlim S0 hq => ?_
  obtain ⟨rfl, hS⟩ := p
  have hlim' : B.n + cG d ≤ LIM := hlim
  have h24 : 24 ≤ cG d := by rcases hd with rfl | rfl <;> decide
  have a19 : cC 1 = 19 := rfl
  have hn1 := hS.n1
  have hn2 := hS.n2
  have hk1 : 1 ≤ S.sizes.length := hS.k1
  have hk2 : S.sizes.length ≤ 3 := hS.k2
  have ret : ∀ (g : Go) {dd : Dt} {v O ρ T σ' H' n}, dd = enG g → wfG S.n S.k g → dpG g ≤ d → n ≤ B.n + cG d → Sat K ⟨B.H0, B.HI, B.f, n⟩ O ρ ((v, dd) :: T) σ' H' → Q v H' := fun g dd v O ρ T σ' H' n e h1 h2 h3 S => hq _ _ _ _ _ _ _ _ ⟨g, e, h1, h2⟩ h3 S
  let M0 : Nat := if d = 0 then 4 else 7
  have hM0 : 1 ≤ M0 ∧ M0 ≤ 7 := by rcases hd with rfl | rfl <;> decide
  refine WS.cons (w_set 3 (P := fun r => ∃ v, v < M0 ∧ r = nD v) (xe_take 0 (m := M0) G hr (xd_ixL (i := if d = 0 then 0 else 1) (XD.ls (xd_lst (ds := [nD 4, nD 7]) (xl_cons xd_int (xl_cons xd_int xl_nil)))) (xd_is (xd_intB M.int (xd_gt (xd_var 2) xd_int)) (by rcases hd with rfl | rfl <;> rfl)) (by rcases hd with rfl | rfl <;> rfl)) hM0.1 (by omega) fun v hv => ⟨v, hv, rfl⟩) S0 (by omega) (fun r σ1 H1 p1 S1 => ?_) scGoal.nd)
  obtain ⟨wy, hwy, rfl⟩ := p1
  refine WS.cons (w_set 4 (P := fun r => r = nD S.n) (xd_is (xd_lenT M.len (ds := S.eyes.map enNs) (xd_ixT (xd_var 1) xd_int rfl)) (by rw [List.length_map]; rfl)) S1 S1.lim (fun r σ2 H2 p2 S2 => ?_) scGoal.nd)
  subst p2
  by_cases c1 : wy < 2
  · refine WS.cons (w_ifT (xb_lt (xd_var 3) xd_int) (decide_eq_true (by omega)) S2 fun H3 S3 => ?_)
    refine WS.cons (w_ret (xd_tup (xl_cons xd_str (xl_cons (xd_var 3) xl_nil))) S3 S3.lim fun r v H4 p4 S4 => ?_)
    exact ret (.ready wy) p4 trivial (Nat.zero_le _) (by show B.n + 1 + 0 + 0 ≤ _; omega) S4
  refine WS.cons (w_ifF (xb_lt (xd_var 3) xd_int) (decide_eq_false (by omega)) S2 fun H3 S3 => WS.nil ?_)
  by_cases c2 : wy = 2
  · subst c2
    refine WS.cons (w_ifT (xb_eq (xd_var 3) xd_int) rfl S3 fun H4 S4 => ?_)
    refine WS.cons (w_ret (xe_tup1 xd_str (xe_zc 0 GC hr (xd_ixT (d := enNs S.sizes) (xd_var 1) xd_int rfl) (xd_is xd_int (d' := nD 1) rfl) (xd_bl (b := false)) hk1 hk2)) S4 (by show B.n + 1 + 0 + cC 1 ≤ _; omega) fun r v H5 p5 S5 => ?_)
    obtain ⟨x, ⟨c, rfl, h1, h2⟩, rfl⟩ := p5
    exact ret (.every c) rfl ⟨h1 _, Nat.le_trans h2 (by decide)⟩ (Nat.zero_le _) (by show B.n + 1 + 0 + cC 1 ≤ _; omega) S5
  refine WS.cons (w_ifF (xb_eq (xd_var 3) xd_int) (decide_eq_false (by omega)) S3 fun H4 S4 => WS.nil ?_)
  by_cases c3 : wy = 3
  · subst c3
    refine WS.cons (w_ifT (xb_eq (xd_var 3) xd_int) rfl S4 fun H5 S5 => ?_)
    refine WS.cons (w_set 5 (c := 4) (P := fun r => ∃ hs : List Nat, r = .tup (hs.map nD) ∧ hs.length ≤ 4 ∧ ∀ b ∈ hs, b < S.n) (xe_orT (Pa := fun r => ∃ ds, r = .tup ds ∧ ∃ hs : List Nat, ds = hs.map nD ∧ hs.length ≤ 4 ∧ ∀ b ∈ hs, b < S.n) (xe_tupleE M.tuple (xe_lcO rfl scGoal.nd (blkOk_by (N := goN) (sc := defScope sGoal) (own := [("_law_hand", 6)]) (by decide +kernel))
      (ev_lcX [("_law_hand", 6)] (c0 := 0) (c1 := 1) (c2 := 0) (Pl := fun ds => ds = (List.range S.n).map nD) (ρt := fun ds j => [.fd, .d (enS S), .d (nD d), .d (nD 3), .d (nD S.n), .u, .d (nD j)]) (is := [6])
        (xj_range M.range (xd_var 4) (by omega)) (fun i h => h) (fun ds i acc => ∃ os : List Nat, acc = os.map nD ∧ os.length ≤ i ∧ ∀ o ∈ os, o < S.n) (fun ds h => by rw [h, List.length_map, List.length_range]; omega) (by omega) (fun ds h => by rw [h, List.length_map, List.length_range]; omega) (fun _ _ _ => True) (fun ds j r => r = nD j)
        (fun ds i d h hd s H0 C cl fp => by
          subst h
          rw [List.getElem?_map] at hd
          cases e : (List.range S.n)[i]? with
          | none => rw [e] at hd; cases hd
          | some y =>
            rw [e] at hd
            cases hd
            have e2 := (List.getElem?_eq_some_iff.mp e).2
            rw [List.getElem_range] at e2
            subst e2
            exact xg_name 6 scGoal.nd)
        (fun ds i d h hd s H0 C cl fp => xts_one (xt_eqE (xe_take 0 (m := 2) G hr xd_int (by decide) (by decide) fun v _ => ⟨v, rfl⟩) xd_int)) (fun ds i d h hd _ s H0 C cl fp => xd_var 6) (fun ds h => ⟨[], rfl, Nat.le_refl _, fun b hb => absurd hb List.not_mem_nil⟩)
        (fun ds i d acc x h hd hG _ hx => by
          obtain ⟨bs, rfl, h1, h2⟩ := hG
          have hlt := (List.getElem?_eq_some_iff.mp hd).1
          rw [h, List.length_map, List.length_range] at hlt
          refine ⟨bs ++ [i], by rw [hx, List.map_append]; rfl, by rw [List.length_append, List.length_singleton]; omega, fun b hb => ?_⟩
          rcases List.mem_append.mp hb with hb | hb
          · exact h2 b hb
          · rw [List.mem_singleton.mp hb]; exact hlt)
        (fun ds i d acc h hd hG _ => by
          obtain ⟨bs, rfl, h1, h2⟩ := hG
          exact ⟨bs, rfl, by omega, h2⟩)
        (fun ds acc h hG => by
          obtain ⟨bs, rfl, h1, h2⟩ := hG
          rw [h, List.length_map, List.length_range] at h1
          exact ⟨_, rfl, bs, rfl, by omega, h2⟩))))
      (fun dd hdd => by
        obtain ⟨ds, rfl, hs, rfl, h1, h2⟩ := hdd
        exact ⟨_, rfl, fun _ => ⟨hs, rfl, h1, h2⟩⟩)
      (fun _ => EvP.imp (xd_tup (xl_cons xd_int xl_nil)) fun r hr' => ⟨[0], hr', by decide, fun b hb => by rw [List.mem_singleton.mp hb]; omega⟩)) S5 (by show B.n + 1 + 0 + 4 ≤ _; omega) (fun r σ6 H6 p6 S6 => ?_) scGoal.nd)
    obtain ⟨hs, rfl, hl4, hlt⟩ := p6
    refine WS.cons (w_ret (xe_tup2b xd_str (xd_var 5) (xe_zc 0 GC hr (xd_ixT (d := enNs S.sizes) (xd_var 1) xd_int rfl) (xd_is xd_int (d' := nD 1) rfl) (xd_bl (b := false)) hk1 hk2)) S6 (by show B.n + 1 + 0 + 4 + cC 1 ≤ _; omega) fun r v H7 p7 S7 => ?_)
    obtain ⟨x, ⟨c, rfl, h1, h2⟩, rfl⟩ := p7
    exact ret (.at hs c) rfl ⟨hlt, by omega, h1 _, Nat.le_trans h2 (by decide)⟩ (Nat.zero_le _) (by show B.n + 1 + 0 + 4 + cC 1 ≤ _; omega) S7
  refine WS.cons (w_ifF (xb_eq (xd_var 3) xd_int) (decide_eq_false (by omega)) S4 fun H5 S5 => WS.nil ?_)
  have hd1 : d = 1 := by
    rcases hd with rfl | rfl
    · have : wy < 4 := hwy
      omega
    · rfl
  subst hd1
  have G0 := GG rfl
  have a24 : cG 0 = 24 := rfl
  have a49 : cG 1 = 49 := rfl
  have e0 : Dt.int ((1 : Int) - 1) = nD 0 := rfl
  by_cases c4 : wy = 4
  · subst c4
    refine WS.cons (w_ifT (xb_eq (xd_var 3) xd_int) rfl S5 fun H6 S6 => ?_)
    refine WS.cons (w_ret (xe_tup1 xd_str (EvP.more (xe_callF (m := cG 0) (P := GoOk S 0) 0 G0 hr pass0 (xl_cons (xd_var 1) (xl_cons (xd_is (xd_sub (xd_var 2) xd_int) e0) xl_nil)) (fun ds q => ⟨S, ⟨q, hS⟩, Nat.le_refl _, fun d h => h⟩)) (Nat.le_of_eq (Nat.zero_add _)))) S6 (by show B.n + 1 + 0 + cG 0 ≤ _; omega) fun r v H7 p7 S7 => ?_)
    obtain ⟨x, ⟨g, rfl, h1, h2⟩, rfl⟩ := p7
    exact ret (.neg g) rfl h1 (by show dpG g + 1 ≤ 1; omega) (by show B.n + 1 + 0 + cG 0 ≤ _; omega) S7
  refine WS.cons (w_ifF (xb_eq (xd_var 3) xd_int) (decide_eq_false (by omega)) S5 fun H6 S6 => WS.nil ?_)
  have hwy' : wy < 7 := hwy
  have fin : ∀ (s : Str) (cn : Go → Go → Go), (∀ g h, enG (cn g h) = .tup [.str s, enG g, enG h] ∧ (wfG S.n S.k (cn g h) ↔ wfG S.n S.k g ∧ wfG S.n S.k h) ∧ dpG (cn g h) = max (dpG g) (dpG h) + 1) → atI [Dt.str "and", .str "or"] ((wy : Int) - 5) = some (.str s) → WS (cxOf CX0 P w K mg base goN "_law_goal" (defScope sGoal) f cdv A outer s0 H E).nox ((defBody sGoal).drop 6) { nx := fun _ H' => Q .non H', rt := Q } σ2 H6 := fun s cn hcn hat => by
    refine WS.cons (w_ret (xe_tup2 (xd_ixL (d := .str s) (XD.ls (xd_lst (xl_cons xd_str (xl_cons xd_str xl_nil)))) (xd_sub (xd_var 3) xd_int) hat) (EvP.more (xe_callF (m := cG 0) (P := GoOk S 0) 0 G0 hr pass0 (xl_cons (xd_var 1) (xl_cons (xd_is (xd_sub (xd_var 2) xd_int) e0) xl_nil)) (fun ds q => ⟨S, ⟨q, hS⟩, Nat.le_refl _, fun d h => h⟩)) (Nat.le_of_eq (Nat.zero_add _))) (EvP.more (xe_callF (m := cG 0) (P := GoOk S 0) 0 G0 hr pass0 (xl_cons (xd_var 1) (xl_cons (xd_is (xd_sub (xd_var 2) xd_int) e0) xl_nil)) (fun ds q => ⟨S, ⟨q, hS⟩, Nat.le_refl _, fun d h => h⟩)) (Nat.le_of_eq (Nat.zero_add _)))) S6 (by show B.n + 1 + 0 + (cG 0 + cG 0) ≤ _; omega) fun r v H7 p7 S7 => ?_)
    obtain ⟨x, y, ⟨g, rfl, h1, h2⟩, ⟨h, rfl, h3, h4⟩, rfl⟩ := p7
    obtain ⟨q1, q2, q3⟩ := hcn g h
    exact ret (cn g h) q1.symm (q2.mpr ⟨h1, h3⟩) (by rw [q3]; omega) (by show B.n + 1 + 0 + (cG 0 + cG 0) ≤ _; omega) S7
  have h56 : wy = 5 ∨ wy = 6 := by omega
  rcases h56 with rfl | rfl
  · exact fin "and" .and (fun g h => ⟨rfl, Iff.rfl, rfl⟩) rfl
  · exact fin "or" .or (fun g h => ⟨rfl, Iff.rfl, rfl⟩) rfl
end
end Tx


set_option Elab.async false
set_option linter.all false
set_option maxRecDepth 100000
set_option maxHeartbeats 4000000
set_option autoImplicit false
/-! D18: systems of one's own making. -/
namespace Lg
open PySem PySem.Spec L2
/-- a module's constant that is data -/
def Cst (K : PySem.W.Frag) (mg : Str → Option Value) (x : Str) (d : Dt) : Prop := ∃ v u, mg x = some u ∧ RelV v u ∧ ∀ H, Dr K H v d
theorem xd_cst {X : Cx} {O : List (Addr × Ow)} {ρ : List Sl} {pos : Pos} {d : Dt} {x : Str} (h : Cst X.K X.mg x d) (hg : Gl X x := by rfl) (hdb : (x == ("__debug__" : Str)) = false := by decide) : XD X (.Name x pos) O ρ d := by
  obtain ⟨v, u, h1, h2, h3⟩ := h
  exact xd_glob h1 h2 h3 hg hdb
end Lg
namespace Tx
open PySem PySem.Spec L2 Lg Mo
def tO : Mo.Tm := .own 0
def tI : Mo.Tm := .its 0
def tAlike : Mo.Tm := .many (.like tI tO)
def tPosts : Mo.Tm := .many (.like tI (.num 1))
def cNoPosts : Cl := .like tPosts (.num 0)
structure Csts (K : PySem.W.Frag) (mg : Str → Option Value) : Prop where
  nought : Cst K mg "NOUGHT" (enT (.num 0))
  unit : Cst K mg "UNIT" (enT (.num 1))
  own : Cst K mg "OWN" (enT tO)
  its : Cst K mg "ITS" (enT tI)
  least : Cst K mg "ITS_LEAST" (enT (.least tI))
  alike : Cst K mg "ALIKE" (enT tAlike)
  none : Cst K mg "NONE_ALIKE" (enC (.like tAlike (.num 0)))
  posts : Cst K mg "POSTS" (enT tPosts)
  noposts : Cst K mg "NO_POSTS" (enC cNoPosts)
  atpost : Cst K mg "AT_POST" (enC (.like tO (.num 1)))
  posted : Cst K mg "POSTED" (enC (.like tO (.ite cNoPosts (.num 1) (.num 0))))
section
variable {P : Program} {w : World} {K : PySem.W.Frag} {mg : Str → Option Value} {base : Heap} {f : Addr} {fd : FuncData}
def EyOk (eyes : List (List Nat)) : Prop := 1 ≤ eyes.length ∧ eyes.length ≤ 4 ∧ ∀ r ∈ eyes, r.length ≤ 6 ∧ ∀ o ∈ r, o < eyes.length
def RuM (x : Mo.Rule) : Prop := (∀ n, wfC n 1 false x.1) ∧ dpC x.1 ≤ 8 ∧ x.2.length ≤ 8 ∧ ∀ l ∈ x.2, l.1 < 1 ∧ (∀ n, wfT n 1 false l.2) ∧ dpT l.2 ≤ 8
theorem wf_made {eyes : List (List Nat)} {s : Nat} {ks : List Nat} {rs : List (List Mo.Rule)} (he : EyOk eyes) (h1 : 1 ≤ s) (h3 : s ≤ 3) (hk : ks.length = eyes.length) (hk2 : ∀ d ∈ ks, d < rs.length) (hr : ∀ r ∈ rs, r.length ≤ 8 ∧ ∀ x ∈ r, RuM x) : WfS ⟨eyes, [s], ks, rs⟩ := by
  obtain ⟨n1, n2, h⟩ := he
  refine ⟨n1, n2, Nat.le_refl 1, by show 1 ≤ 3; decide, fun r hr' => (h r hr').2, fun r hr' => (h r hr').1, fun x hx => ?_, hk, hk2, fun r h' => ⟨(hr r h').1, fun x hx => ?_⟩, fun r h' x hx => ((hr r h').2 x hx).2.2.1, ?_⟩
  · rw [List.mem_singleton.mp hx]
    omega
  · obtain ⟨a1, a2, a3, a4⟩ := (hr r h').2 x hx
    exact ⟨a1 _, a2, fun l hl => ⟨(a4 l hl).1, (a4 l hl).2.1 _, (a4 l hl).2.2⟩⟩
  · show (List.replicate eyes.length [s]).flatten.foldl (· * ·) 1 ≤ 100
    have hn : eyes.length = 1 ∨ eyes.length = 2 ∨ eyes.length = 3 ∨ eyes.length = 4 := by omega
    have hs : s = 1 ∨ s = 2 ∨ s = 3 := by omega
    rcases hn with h | h | h | h <;> rcases hs with rfl | rfl | rfl <;> rw [h] <;> decide
/-- a system and its goal -/
def SgOk (m : Nat) (d : Dt) : Prop := ∃ S g, d = .tup [enS S, enG g] ∧ WfS S ∧ wfG S.n S.k g ∧ dpG g ≤ m
/-! least_free -/
abbrev sLf : Stmt := top 61
theorem scLf : FnScope ["many", "found", "number", "taken"] ["many"] (defScope sLf) := ⟨rfl, rfl, rfl, by decide +kernel, rfl, by decide +kernel, by decide +kernel⟩
def lf (l : List Int) : Mo.Tm := l.foldl (fun t n => .ite (.like (.many (.like tI (.num n))) (.num 0)) (.num n) t) (.num 2)
abbrev spLf (K : PySem.W.Frag) : Sp := spD K (fun (_ : Unit) ds => ds = [nD 3]) fun _ d => d = enT (lf [1, 0])
theorem ok_lf {k : Nat} (F : Fun K "least_free" "least_free" sLf f fd) (M : Bi mg) (Z : Csts K mg) : FnOk P w K mg base CX0 (k + 1) f fd ["many"] (spLf K) := by
  refine Fun.okD F scLf (fun y ds h => by subst h; rfl) fun cdv A outer s0 H E hr _ ds B σ Q p S0 hq => ?_
  subst p
  refine WS.cons (w_set 1 (P := fun r => r = enT (lf [])) (xd_is (xd_tup (xl_cons xd_str (xl_cons (xd_sub (i := 3) (j := 1) (xd_var 0) xd_int) xl_nil))) rfl) S0 S0.lim (fun r σ1 H1 p1 S1 => ?_) scLf.nd)
  subst p1
  refine WS.cons (w_forN 2 Dt.int [1, 0] (fun i O' ρ' => O' = [] ∧ ∃ u v, ρ' = [.d (nD 3), .d (enT (lf (([1, 0] : List Int).take i))), u, v]) PassesOwn.never rfl scLf.nd (xj_is (xj_rg3 (n := 2) M.range (xd_sub (xd_var 0) xd_int) (xd_neg xd_int) (xd_neg xd_int) ⟨by decide, by decide, by decide +kernel, by decide +kernel⟩) rfl) S1 ⟨rfl, .u, .u, rfl⟩ (fun i y O' ρ' T' σ' H' N hy hI S2 kN => ?_) (fun O' ρ' σ' H' hI S2 => ?_))
  · obtain ⟨rfl, u, v, rfl⟩ := hI
    refine WS.cons (w_set 3 (P := fun r => r = enT (.many (.like tI (.num y)))) (xd_tup (xl_cons xd_str (xl_cons (xd_tup (xl_cons xd_str (xl_cons (xd_cst Z.its) (xl_cons (xd_tup (xl_cons xd_str (xl_cons (xd_var 2) xl_nil))) xl_nil)))) xl_nil))) S2 S2.lim (fun r σ3 H3 p3 S3 => ?_) scLf.nd)
    subst p3
    refine WS.cons (w_set 1 (P := fun r => r = enT (lf (([1, 0] : List Int).take (i + 1)))) (xd_is (xd_tup (xl_cons xd_str (xl_cons (xd_tup (xl_cons xd_str (xl_cons (xd_var 3) (xl_cons (xd_cst Z.nought) xl_nil)))) (xl_cons (xd_tup (xl_cons xd_str (xl_cons (xd_var 2) xl_nil))) (xl_cons (xd_var 1) xl_nil))))) (by
      rw [List.take_succ, hy]
      unfold lf
      show _ = enT (List.foldl _ _ (List.take i [1, 0] ++ [y]))
      rw [List.foldl_append]
      rfl)) S3 S3.lim (fun r σ4 H4 p4 S4 => WS.nil (kN _ _ _ _ ⟨rfl, .d (.int y), .d (enT (.many (.like tI (.num y)))), ?_⟩ S4)) scLf.nd)
    subst p4
    rfl
  · obtain ⟨rfl, u, v, rfl⟩ := hI
    exact WS.cons (w_ret (xd_var 1) S2 S2.lim fun r v H3 p3 S3 => hq _ _ _ _ _ _ _ p3 S3)
/-! hues_system -/
abbrev sHu : Stmt := top 62
theorem scHu : FnScope ["eyes", "many", "rule"] ["eyes", "many"] (defScope sHu) := ⟨rfl, rfl, rfl, by decide +kernel, rfl, by decide +kernel, by decide +kernel⟩
abbrev spHu (K : PySem.W.Frag) : Sp := spD K (fun (eyes : List (List Nat)) ds => ds = [enEyes eyes, nD 3] ∧ EyOk eyes) fun _ d => SgOk 0 d
theorem rep_nD (n v : Nat) : Dt.tup (List.replicate n [nD v]).flatten = enNs (List.replicate n v) := by
  unfold enNs
  rw [List.map_replicate]
  congr 1
  induction n with
  | zero => rfl
  | succ n ih => rw [List.replicate_succ, List.flatten_cons, ih, List.replicate_succ]; rfl
theorem ok_hu {k : Nat} (F : Fun K "hues_system" "hues_system" sHu f fd) (M : Bi mg) (Z : Csts K mg) (G : Def P w K mg base CX0 k "least_free" ["many"] (spLf K)) : FnOk P w K mg base CX0 (k + 1) f fd ["eyes", "many"] (spHu K) := by
  refine Fun.okD F scHu (fun y ds h => by obtain ⟨rfl, _⟩ := h; rfl) fun cdv A outer s0 H E hr eyes ds B σ Q p S0 hq => ?_
  obtain ⟨rfl, he⟩ := p
  refine WS.cons (w_set 2 (P := fun r => r = enRule (.blw (.num 0) tAlike, [(0, lf [1, 0])])) (xd_tup (xl_cons (xd_tup (xl_cons xd_str (xl_cons (xd_cst Z.nought) (xl_cons (xd_cst Z.alike) xl_nil)))) (xl_cons (xd_tup (xl_cons (xd_tup (xl_cons xd_int (xl_cons (xd_call () G hr pass0 (xl_cons (xd_var 1) xl_nil) rfl fun d' h => h) xl_nil))) xl_nil)) xl_nil))) S0 S0.lim (fun r σ1 H1 p1 S1 => ?_) scHu.nd)
  subst p1
  refine WS.cons (w_ret (xd_tup (xl_cons (xd_tup (xl_cons (xd_var 0) (xl_cons (xd_tup (xl_cons (xd_var 1) xl_nil)) (xl_cons (xd_repT (k := eyes.length) (ds := [nD 0]) (xd_tup (xl_cons xd_int xl_nil)) (xd_is (xd_lenT M.len (ds := eyes.map enNs) (xd_var 0)) (by rw [List.length_map])) he.1 (by have := he.2.1; omega) (by simp) (Nat.le_of_ble_eq_true rfl)) (xl_cons (xd_tup (xl_cons (xd_tup (xl_cons (xd_var 2) xl_nil)) xl_nil)) xl_nil))))) (xl_cons (xd_tup (xl_cons xd_str (xl_cons (xd_cst Z.none) xl_nil))) xl_nil))) S1 S1.lim fun r v H3 p3 S3 => hq _ _ _ _ _ _ _ ⟨⟨eyes, [3], List.replicate eyes.length 0, [[(.blw (.num 0) tAlike, [(0, lf [1, 0])])]]⟩, .every (.like tAlike (.num 0)), ?_, ?_, ?_, Nat.le_refl _⟩ S3)
  · rw [p3, rep_nD]
    rfl
  · refine wf_made he (by decide) (by decide) (List.length_replicate ..) (fun d hd => by rw [(List.mem_replicate.mp hd).2]; decide) fun r hr' => ?_
    rw [List.mem_singleton.mp hr']
    refine ⟨by decide, fun x hx => ?_⟩
    rw [List.mem_singleton.mp hx]
    exact ⟨fun n => by simp [wfC, wfT, tAlike, tI, tO], by decide, by decide, fun l hl => by
      rw [List.mem_singleton.mp hl]
      exact ⟨Nat.lt_succ_self 0, fun n => by simp [lf, wfC, wfT, tI], by decide⟩⟩
  · exact ⟨by simp [wfC, wfT, tAlike, tI, tO, Sys.k], by decide⟩
/-! posts_system -/
abbrev sPo : Stmt := top 63
theorem scPo : FnScope ["eyes", "leave", "enter"] ["eyes"] (defScope sPo) := ⟨rfl, rfl, rfl, by decide +kernel, rfl, by decide +kernel, by decide +kernel⟩
abbrev spPo (K : PySem.W.Frag) : Sp := spD K (fun (eyes : List (List Nat)) ds => ds = [enEyes eyes] ∧ EyOk eyes) fun _ d => SgOk 0 d
def cAt : Cl := .like tO (.num 1)
def rLeave : Mo.Rule := (.and cAt (.blw (.num 0) tPosts), [(0, .num 0)])
def rEnter : Mo.Rule := (.and (.neg cAt) cNoPosts, [(0, .num 1)])
def cPosted : Cl := .like tO (.ite cNoPosts (.num 1) (.num 0))
theorem ok_po {k : Nat} (F : Fun K "posts_system" "posts_system" sPo f fd) (M : Bi mg) (Z : Csts K mg) : FnOk P w K mg base CX0 (k + 1) f fd ["eyes"] (spPo K) := by
  refine Fun.okD F scPo (fun y ds h => by obtain ⟨rfl, _⟩ := h; rfl) fun cdv A outer s0 H E hr eyes ds B σ Q p S0 hq => ?_
  obtain ⟨rfl, he⟩ := p
  refine WS.cons (w_set 1 (P := fun r => r = enRule rLeave) (xd_tup (xl_cons (xd_tup (xl_cons xd_str (xl_cons (xd_cst Z.atpost) (xl_cons (xd_tup (xl_cons xd_str (xl_cons (xd_cst Z.nought) (xl_cons (xd_cst Z.posts) xl_nil)))) xl_nil)))) (xl_cons (xd_tup (xl_cons (xd_tup (xl_cons xd_int (xl_cons (xd_cst Z.nought) xl_nil))) xl_nil)) xl_nil))) S0 S0.lim (fun r σ1 H1 p1 S1 => ?_) scPo.nd)
  subst p1
  refine WS.cons (w_set 2 (P := fun r => r = enRule rEnter) (xd_tup (xl_cons (xd_tup (xl_cons xd_str (xl_cons (xd_tup (xl_cons xd_str (xl_cons (xd_cst Z.atpost) xl_nil))) (xl_cons (xd_cst Z.noposts) xl_nil)))) (xl_cons (xd_tup (xl_cons (xd_tup (xl_cons xd_int (xl_cons (xd_cst Z.unit) xl_nil))) xl_nil)) xl_nil))) S1 S1.lim (fun r σ2 H2 p2 S2 => ?_) scPo.nd)
  subst p2
  refine WS.cons (w_ret (xd_tup (xl_cons (xd_tup (xl_cons (xd_var 0) (xl_cons (xd_tup (xl_cons xd_int xl_nil)) (xl_cons (xd_repT (k := eyes.length) (ds := [nD 0]) (xd_tup (xl_cons xd_int xl_nil)) (xd_is (xd_lenT M.len (ds := eyes.map enNs) (xd_var 0)) (by rw [List.length_map])) he.1 (by have := he.2.1; omega) (by simp) (Nat.le_of_ble_eq_true rfl)) (xl_cons (xd_tup (xl_cons (xd_tup (xl_cons (xd_var 1) (xl_cons (xd_var 2) xl_nil))) xl_nil)) xl_nil))))) (xl_cons (xd_tup (xl_cons xd_str (xl_cons (xd_cst Z.posted) xl_nil))) xl_nil))) S2 S2.lim fun r v H3 p3 S3 => hq _ _ _ _ _ _ _ ⟨⟨eyes, [2], List.replicate eyes.length 0, [[rLeave, rEnter]]⟩, .every cPosted, ?_, ?_, ?_, Nat.le_refl _⟩ S3)
  · rw [p3, rep_nD]
    rfl
  · refine wf_made he (by decide) (by decide) (List.length_replicate ..) (fun d hd => by rw [(List.mem_replicate.mp hd).2]; decide) fun r hr' => ?_
    rw [List.mem_singleton.mp hr']
    refine ⟨by decide, fun x hx => ?_⟩
    rcases List.mem_cons.mp hx with rfl | hx
    · exact ⟨fun n => by simp [rLeave, cAt, wfC, wfT, tPosts, tI, tO], by decide, by decide, fun l hl => by
        rw [List.mem_singleton.mp hl]
        exact ⟨Nat.lt_succ_self 0, fun n => by simp [wfT], by decide⟩⟩
    · rw [List.mem_singleton.mp hx]
      exact ⟨fun n => by simp [rEnter, cAt, cNoPosts, wfC, wfT, tPosts, tI, tO], by decide, by decide, fun l hl => by
        rw [List.mem_singleton.mp hl]
        exact ⟨Nat.lt_succ_self 0, fun n => by simp [wfT], by decide⟩⟩
  · exact ⟨by simp [cPosted, cNoPosts, wfC, wfT, tPosts, tI, tO, Sys.k], by decide⟩
/-! distances_system -/
abbrev sDi : Stmt := top 64
abbrev diN : List Str := ["eyes", "root", "most", "more", "due", "kinds", "first", "other", "hand"]
theorem scDi : FnScope diN ["eyes", "root", "most"] (defScope sDi) := ⟨rfl, rfl, rfl, by decide +kernel, rfl, by decide +kernel, by decide +kernel⟩
abbrev spDi (K : PySem.W.Frag) : Sp := spD K (fun (x : List (List Nat) × Nat) ds => ds = [enEyes x.1, nD x.2, nD 2] ∧ EyOk x.1) fun _ d => SgOk 0 d
def tMore : Mo.Tm := .plus (.least tI) (.num 1)
def tDue : Mo.Tm := .ite (.blw tMore (.num 2)) tMore (.num 2)
def rFirst : Mo.Rule := (.neg (.like tO (.num 0)), [(0, .num 0)])
def rOther : Mo.Rule := (.neg (.like tO tDue), [(0, tDue)])
theorem ok_di {k : Nat} (F : Fun K "distances_system" "distances_system" sDi f fd) (M : Bi mg) (Z : Csts K mg) : FnOk P w K mg base CX0 (k + 1) f fd ["eyes", "root", "most"] (spDi K) := by
  refine Fun.okD F scDi (fun y ds h => by obtain ⟨rfl, _⟩ := h; rfl) fun cdv A outer s0 H E hr y ds B σ Q p S0 hq => ?_
  obtain ⟨eyes, root⟩ := y
  obtain ⟨rfl, he⟩ : ds = [enEyes eyes, nD root, nD 2] ∧ EyOk eyes := p
  have h4 := he.2.1
  refine WS.cons (w_set 3 (P := fun r => r = enT tMore) (xd_tup (xl_cons xd_str (xl_cons (xd_cst Z.least) (xl_cons (xd_cst Z.unit) xl_nil)))) S0 S0.lim (fun r σ1 H1 p1 S1 => ?_) scDi.nd)
  subst p1
  refine WS.cons (w_set 4 (P := fun r => r = enT tDue) (xd_tup (xl_cons xd_str (xl_cons (xd_tup (xl_cons xd_str (xl_cons (xd_var 3) (xl_cons (xd_tup (xl_cons xd_str (xl_cons (xd_var 2) xl_nil))) xl_nil)))) (xl_cons (xd_var 3) (xl_cons (xd_tup (xl_cons xd_str (xl_cons (xd_var 2) xl_nil))) xl_nil))))) S1 S1.lim (fun r σ2 H2 p2 S2 => ?_) scDi.nd)
  subst p2
  refine WS.cons (w_set 5 (P := fun r => r = enNs ((List.range eyes.length).map fun h => if h ≠ root then 1 else 0)) (xd_is (xd_tuple (ds := (List.range eyes.length).map fun h : Nat => Dt.int (if decide ((h : Int) ≠ (root : Int)) = true then 1 else 0)) M.tuple (XD.ls (xe_lcO rfl scDi.nd (blkOk_by (N := diN) (sc := defScope sDi) (own := [("hand", 8)]) (by decide +kernel)) (EvP.imp
    (ev_lcD [("hand", 8)] nD (fun _ => true) (fun h : Nat => Dt.int (if decide ((h : Int) ≠ (root : Int)) = true then 1 else 0)) (List.range eyes.length) (ρt := fun h => [.d (enEyes eyes), .d (nD root), .d (nD 2), .d (enT tMore), .d (enT tDue), .u, .u, .u, .d (nD h)]) (is := [8])
      (xj_range M.range (xd_is (xd_lenT M.len (ds := eyes.map enNs) (xd_var 0)) (by rw [List.length_map]; rfl)) (by omega)) (fun i h => h) (by rw [List.length_range]; omega) (fun x hx s H0 C cl fp => xg_name 8 scDi.nd) (fun x hx s H0 C cl fp => EvT.imp xts_nil fun b h => h) (fun x hx _ s H0 C cl fp => xd_intB M.int (xd_ne (xd_var 8) (xd_var 1)))) fun d h => by rw [h, filt_true])))) (by
        unfold enNs
        rw [List.map_map]
        refine congrArg Dt.tup (List.map_congr_left fun h _ => ?_)
        show Dt.int _ = Dt.int ((if h ≠ root then 1 else 0 : Nat) : Int)
        by_cases hh : h = root
        · rw [if_neg (by simp [hh]), if_neg (by simp [hh])]; rfl
        · rw [if_pos (by simp; omega), if_pos hh]; rfl)) S2 S2.lim (fun r σ3 H3 p3 S3 => ?_) scDi.nd)
  subst p3
  refine WS.cons (w_set 6 (P := fun r => r = enRules [rFirst]) (xd_tup (xl_cons (xd_tup (xl_cons (xd_tup (xl_cons xd_str (xl_cons (xd_tup (xl_cons xd_str (xl_cons (xd_cst Z.own) (xl_cons (xd_cst Z.nought) xl_nil)))) xl_nil))) (xl_cons (xd_tup (xl_cons (xd_tup (xl_cons xd_int (xl_cons (xd_cst Z.nought) xl_nil))) xl_nil)) xl_nil))) xl_nil)) S3 S3.lim (fun r σ4 H4 p4 S4 => ?_) scDi.nd)
  subst p4
  refine WS.cons (w_set 7 (P := fun r => r = enRules [rOther]) (xd_tup (xl_cons (xd_tup (xl_cons (xd_tup (xl_cons xd_str (xl_cons (xd_tup (xl_cons xd_str (xl_cons (xd_cst Z.own) (xl_cons (xd_var 4) xl_nil)))) xl_nil))) (xl_cons (xd_tup (xl_cons (xd_tup (xl_cons xd_int (xl_cons (xd_var 4) xl_nil))) xl_nil)) xl_nil))) xl_nil)) S4 S4.lim (fun r σ5 H5 p5 S5 => ?_) scDi.nd)
  subst p5
  refine WS.cons (w_ret (P := fun r => r = .tup [enS ⟨eyes, [3], (List.range eyes.length).map fun h => if h ≠ root then 1 else 0, [[rFirst], [rOther]]⟩, enG (.ready 0)]) (xd_tup (xl_cons (xd_tup (xl_cons (xd_var 0) (xl_cons (xd_tup (xl_cons (xd_is (xd_add (i := 2) (j := 1) (xd_var 2) xd_int) (d' := nD 3) rfl) xl_nil)) (xl_cons (xd_var 5) (xl_cons (xd_tup (xl_cons (xd_var 6) (xl_cons (xd_var 7) xl_nil))) xl_nil))))) (xl_cons (xd_tup (xl_cons xd_str (xl_cons xd_int xl_nil))) xl_nil))) S5 S5.lim fun r v H3 p3 S3 => hq _ _ _ _ _ _ _ ⟨_, _, p3, ?_, trivial, Nat.le_refl _⟩ S3)
  refine wf_made he (by decide) (by decide) (by rw [List.length_map, List.length_range]) (fun d hd => ?_) fun r hr' => ?_
  · obtain ⟨h, _, rfl⟩ := List.mem_map.mp hd
    show (if h ≠ root then 1 else 0) < 2
    split <;> decide
  · rcases List.mem_cons.mp hr' with rfl | hr'
    · refine ⟨by decide, fun x hx => ?_⟩
      rw [List.mem_singleton.mp hx]
      exact ⟨fun n => by simp [rFirst, wfC, wfT, tO], by decide, by decide, fun l hl => by
        rw [List.mem_singleton.mp hl]
        exact ⟨Nat.lt_succ_self 0, fun n => by simp [wfT], by decide⟩⟩
    · rw [List.mem_singleton.mp hr']
      refine ⟨by decide, fun x hx => ?_⟩
      rw [List.mem_singleton.mp hx]
      exact ⟨fun n => by simp [rOther, tDue, tMore, wfC, wfT, tI, tO], by decide, by decide, fun l hl => by
        rw [List.mem_singleton.mp hl]
        exact ⟨Nat.lt_succ_self 0, fun n => by simp [tDue, tMore, wfC, wfT, tI], by decide⟩⟩
end
end Tx


set_option Elab.async false
set_option linter.all false
set_option maxRecDepth 100000
set_option maxHeartbeats 4000000
set_option autoImplicit false
/-! D19: ring_system, _law_own, _law_system. -/
namespace Tx
open PySem PySem.Spec L2 Lg Mo
section
variable {P : Program} {w : World} {K : PySem.W.Frag} {mg : Str → Option Value} {base : Heap} {f : Addr} {fd : FuncData}
abbrev sRs : Stmt := top 60
abbrev riN : List Str := ["many", "size", "eyes", "ahead", "same", "first", "other", "hand"]
theorem scRs : FnScope riN ["many", "size"] (defScope sRs) := ⟨rfl, rfl, rfl, by decide +kernel, rfl, by decide +kernel, by decide +kernel⟩
abbrev spRs (K : PySem.W.Frag) : Sp := spD K (fun (x : Nat × Nat) ds => ds = [nD x.1, nD x.2] ∧ 2 ≤ x.1 ∧ x.1 ≤ 3 ∧ 2 ≤ x.2 ∧ x.2 ≤ 3) fun _ d => SgOk 0 d
def tAhead : Mo.Tm := .eye 0 0
def cSame : Cl := .like tO tAhead
def rRing1 : Mo.Rule := (cSame, [(0, .plus tO (.num 1))])
def rRing2 : Mo.Rule := (.neg cSame, [(0, tAhead)])
def ringE (m : Nat) : List (List Nat) := [m - 1] :: (List.range (m - 1)).map fun i => [i]
theorem ok_rs {k : Nat} (F : Fun K "ring_system" "ring_system" sRs f fd) (M : Bi mg) (Z : Csts K mg) : FnOk P w K mg base CX0 (k + 1) f fd ["many", "size"] (spRs K) := by
  refine Fun.okD F scRs (fun y ds h => by obtain ⟨rfl, _⟩ := h; rfl) fun cdv A outer s0 H E hr y ds B σ Q p S0 hq => ?_
  obtain ⟨m, sz⟩ := y
  obtain ⟨rfl, m1, m2, s1, s2⟩ : ds = [nD m, nD sz] ∧ 2 ≤ m ∧ m ≤ 3 ∧ 2 ≤ sz ∧ sz ≤ 3 := p
  have em : ((m : Int) - 1) = ((m - 1 : Nat) : Int) := by omega
  refine WS.cons (w_set 2 (P := fun r => r = enEyes (ringE m)) (xd_is (xd_catT (ds := [enNs [m - 1]]) (es := (List.range (m - 1)).map fun i => enNs [i]) (xd_tup (xl_cons (xd_tup (xl_cons (xd_is (xd_sub (xd_var 0) xd_int) (d' := nD (m - 1)) (by rw [em]; rfl)) xl_nil)) xl_nil)) (xd_tuple M.tuple (XD.ls (xe_lcO rfl scRs.nd (blkOk_by (N := riN) (sc := defScope sRs) (own := [("hand", 7)]) (by decide +kernel)) (EvP.imp
    (ev_lcD [("hand", 7)] (fun i : Nat => Dt.int (1 + (i : Nat) * 1)) (fun _ => true) (fun i => enNs [i]) (List.range (m - 1)) (ρt := fun i => [.d (nD m), .d (nD sz), .u, .u, .u, .u, .u, .d (.int (1 + (i : Nat) * 1))]) (is := [7])
      (xj_is (xj_rg2 M.range xd_int (xd_var 0) (by decide) (by decide) (by omega) (by omega)) (by rw [show ((m : Int) - 1).toNat = m - 1 by omega]; rfl)) (fun i h => h) (by rw [List.length_range]; omega) (fun x hx s H0 C cl fp => xg_name 7 scRs.nd) (fun x hx s H0 C cl fp => EvT.imp xts_nil fun b h => h)
      (fun x hx _ s H0 C cl fp => xd_tup (xl_cons (xd_is (xd_sub (xd_var 7) xd_int) (d' := nD x) (by show Dt.int (1 + (x : Int) * 1 - 1) = Dt.int (x : Int); congr 1; omega)) xl_nil))) fun d h => by rw [h, filt_true])))) (by rw [List.length_map, List.length_range]; show 1 + (m - 1) ≤ 100000; omega)) (by
        unfold enEyes ringE
        rw [List.map_cons, List.map_map]
        rfl)) S0 S0.lim (fun r σ1 H1 p1 S1 => ?_) scRs.nd)
  subst p1
  refine WS.cons (w_set 3 (P := fun r => r = enT tAhead) (xd_tup (xl_cons xd_str (xl_cons xd_int (xl_cons xd_int xl_nil)))) S1 S1.lim (fun r σ2 H2 p2 S2 => ?_) scRs.nd)
  subst p2
  refine WS.cons (w_set 4 (P := fun r => r = enC cSame) (xd_tup (xl_cons xd_str (xl_cons (xd_cst Z.own) (xl_cons (xd_var 3) xl_nil)))) S2 S2.lim (fun r σ3 H3 p3 S3 => ?_) scRs.nd)
  subst p3
  refine WS.cons (w_set 5 (P := fun r => r = enRules [rRing1]) (xd_tup (xl_cons (xd_tup (xl_cons (xd_var 4) (xl_cons (xd_tup (xl_cons (xd_tup (xl_cons xd_int (xl_cons (xd_tup (xl_cons xd_str (xl_cons (xd_cst Z.own) (xl_cons (xd_cst Z.unit) xl_nil)))) xl_nil))) xl_nil)) xl_nil))) xl_nil)) S3 S3.lim (fun r σ4 H4 p4 S4 => ?_) scRs.nd)
  subst p4
  refine WS.cons (w_set 6 (P := fun r => r = enRules [rRing2]) (xd_tup (xl_cons (xd_tup (xl_cons (xd_tup (xl_cons xd_str (xl_cons (xd_var 4) xl_nil))) (xl_cons (xd_tup (xl_cons (xd_tup (xl_cons xd_int (xl_cons (xd_var 3) xl_nil))) xl_nil)) xl_nil))) xl_nil)) S4 S4.lim (fun r σ5 H5 p5 S5 => ?_) scRs.nd)
  subst p5
  refine WS.cons (w_ret (P := fun r => r = .tup [enS ⟨ringE m, [sz], 0 :: List.replicate (m - 1) 1, [[rRing1], [rRing2]]⟩, enG (.ready 1)]) (xd_tup (xl_cons (xd_tup (xl_cons (xd_var 2) (xl_cons (xd_tup (xl_cons (xd_var 1) xl_nil)) (xl_cons (xd_is (xd_catT (ds := [nD 0]) (xd_tup (xl_cons xd_int xl_nil)) (xd_repT (k := m - 1) (ds := [nD 1]) (xd_tup (xl_cons xd_int xl_nil)) (xd_is (xd_sub (xd_var 0) xd_int) (by rw [em])) (by omega) (by omega) (by simp) (Nat.le_of_ble_eq_true rfl)) (by
      have h := congrArg (fun d : Dt => match d with | .tup xs => xs.length | _ => 0) (rep_nD (m - 1) 1)
      have h' : (List.replicate (m - 1) [nD 1]).flatten.length = ((List.replicate (m - 1) 1).map nD).length := h
      rw [h', List.length_map, List.length_replicate]
      show 1 + (m - 1) ≤ 100000
      omega)) (d' := enNs (0 :: List.replicate (m - 1) 1)) (by
        have h := Dt.tup.inj (rep_nD (m - 1) 1)
        rw [h]
        rfl)) (xl_cons (xd_tup (xl_cons (xd_var 5) (xl_cons (xd_var 6) xl_nil))) xl_nil))))) (xl_cons (xd_tup (xl_cons xd_str (xl_cons xd_int xl_nil))) xl_nil))) S5 S5.lim fun r v H3 p3 S3 => hq _ _ _ _ _ _ _ ⟨_, _, p3, ?_, trivial, Nat.le_refl _⟩ S3)
  have hel : (ringE m).length = m := by unfold ringE; rw [List.length_cons, List.length_map, List.length_range]; omega
  refine wf_made ⟨by omega, by omega, fun r hr' => ?_⟩ (by omega) s2 (by rw [hel, List.length_cons, List.length_replicate]; omega) (fun d hd => ?_) fun r hr' => ?_
  · rw [hel]
    unfold ringE at hr'
    rcases List.mem_cons.mp hr' with rfl | hr'
    · exact ⟨Nat.le_of_ble_eq_true rfl, fun o ho => by rw [List.mem_singleton.mp ho]; omega⟩
    · obtain ⟨i, hi, rfl⟩ := List.mem_map.mp hr'
      have := List.mem_range.mp hi
      exact ⟨Nat.le_of_ble_eq_true rfl, fun o ho => by rw [List.mem_singleton.mp ho]; omega⟩
  · rcases List.mem_cons.mp hd with rfl | hd
    · show 0 < 2; decide
    · rw [(List.mem_replicate.mp hd).2]; show 1 < 2; decide
  · rcases List.mem_cons.mp hr' with rfl | hr'
    · refine ⟨by decide, fun x hx => ?_⟩
      rw [List.mem_singleton.mp hx]
      exact ⟨fun n => by simp [rRing1, cSame, tAhead, wfC, wfT, tO], by decide, by decide, fun l hl => by
        rw [List.mem_singleton.mp hl]
        exact ⟨Nat.lt_succ_self 0, fun n => by simp [wfT, tO], by decide⟩⟩
    · rw [List.mem_singleton.mp hr']
      refine ⟨by decide, fun x hx => ?_⟩
      rw [List.mem_singleton.mp hx]
      exact ⟨fun n => by simp [rRing2, cSame, tAhead, wfC, wfT, tO], by decide, by decide, fun l hl => by
        rw [List.mem_singleton.mp hl]
        exact ⟨Nat.lt_succ_self 0, fun n => by simp [tAhead, wfT], by decide⟩⟩
/-! _law_own -/
abbrev sOwn : Stmt := top 73
theorem scOwn : FnScope ["_law_feed_here", "_law_way", "_law_eyes"] ["_law_feed_here"] (defScope sOwn) := ⟨rfl, rfl, rfl, by decide +kernel, rfl, by decide +kernel, by decide +kernel⟩
abbrev spOwn (K : PySem.W.Frag) : Sp := spF K (fun _ : Unit => 10) (fun _ ds => ds = []) fun _ d => SgOk 0 d
def l2 : List (List Nat) := [[1], [0]]
def l3 : List (List Nat) := [[1], [0, 2], [1]]
def r3 : List (List Nat) := [[2, 1], [0, 2], [1, 0]]
def l4 : List (List Nat) := [[1], [0, 2], [1, 3], [2]]
theorem ey_l2 : EyOk l2 := by unfold EyOk; decide
theorem ey_l3 : EyOk l3 := by unfold EyOk; decide
theorem ey_r3 : EyOk r3 := by unfold EyOk; decide
theorem ey_l4 : EyOk l4 := by unfold EyOk; decide
theorem ok_own {k : Nat} (F : Fun K "_law_own" "_law_own" sOwn f fd) (M : Bi mg) (G : Def P w K mg base CX0 k "_law_take" ["_law_feed_here", "_law_many"] (spTake K)) (G1 : Def P w K mg base CX0 k "ring_system" ["many", "size"] (spRs K)) (G2 : Def P w K mg base CX0 k "line_web" ["many"] (spLine K)) (G3 : Def P w K mg base CX0 k "ring_web" ["many"] (spRing K))
    (G4 : Def P w K mg base CX0 k "hues_system" ["eyes", "many"] (spHu K)) (G5 : Def P w K mg base CX0 k "posts_system" ["eyes"] (spPo K)) (G6 : Def P w K mg base CX0 k "distances_system" ["eyes", "root", "most"] (spDi K)) : FnOk P w K mg base CX0 (k + 1) f fd ["_law_feed_here"] (spOwn K) := by
  refine Fun.okF F scOwn (by decide) (fun y ds h => by subst h; rfl) fun cdv A outer s0 H E hr _ ds B σ Q p hlim S0 hq => ?_
  subst p
  have hlim' : B.n + 10 ≤ LIM := hlim
  refine WS.cons (w_set 1 (P := fun r => ∃ v : Nat, v < 4 ∧ r = nD v) (xe_take 0 (m := 4) G hr xd_int (by decide) (by decide) fun v hv => ⟨v, hv, rfl⟩) S0 (by omega) (fun r σ1 H1 p1 S1 => ?_) scOwn.nd)
  obtain ⟨wy, hwy, rfl⟩ := p1
  by_cases c0 : wy = 0
  · subst c0
    refine WS.cons (w_ifT (xb_eq (xd_var 1) xd_int) rfl S1 fun H2 S2 => ?_)
    refine WS.cons (w_ret (c := 2) (P := SgOk 0) (xe_call G1 hr pass0 (xa_cons (Pr := fun ds => ∃ v : Nat, 2 ≤ v ∧ v ≤ 3 ∧ ds = [nD v]) (P := fun ds => ∃ a b : Nat, (2 ≤ a ∧ a ≤ 3) ∧ (2 ≤ b ∧ b ≤ 3) ∧ ds = [nD a, nD b]) (xe_add (m := 2) (P := fun r => ∃ v : Nat, 2 ≤ v ∧ v ≤ 3 ∧ r = nD v) xd_int (xe_take 0 (m := 2) G hr xd_int (by decide) (by decide) fun v hv => ⟨v, rfl, 2 + v, by omega, by omega, rfl⟩))
      (xa_cons (c2 := 0) (xe_add (m := 2) (P := fun r => ∃ v : Nat, 2 ≤ v ∧ v ≤ 3 ∧ r = nD v) xd_int (xe_take 0 (m := 2) G hr xd_int (by decide) (by decide) fun v hv => ⟨v, rfl, 2 + v, by omega, by omega, rfl⟩)) xl_nil (fun d ds h1 h2 => by obtain ⟨v, a, b, rfl⟩ := h1; exact ⟨v, a, b, by rw [h2]⟩))
      (fun d ds h1 h2 => by
        obtain ⟨v, a, b, rfl⟩ := h1
        obtain ⟨u, a', b', rfl⟩ := h2
        exact ⟨v, u, ⟨a, b⟩, ⟨a', b'⟩, rfl⟩)) fun ds hds => by
        obtain ⟨a, b, ⟨h1, h2⟩, ⟨h3, h4⟩, rfl⟩ := hds
        exact ⟨(a, b), ⟨rfl, h1, h2, h3, h4⟩, fun d h => h⟩) S2 (by show B.n + 1 + 2 ≤ _; omega) fun r v H3 p3 S3 => ?_)
    exact hq _ _ _ _ _ _ _ _ p3 (by show B.n + 1 + 2 ≤ B.n + 10; omega) S3
  refine WS.cons (w_ifF (xb_eq (xd_var 1) xd_int) (decide_eq_false (by omega)) S1 fun H2 S2 => WS.nil ?_)
  refine WS.cons (w_set 2 (P := fun r => ∃ ey, EyOk ey ∧ r = enEyes ey) (xe_ixL (ds := [enEyes l2, enEyes l3, enEyes r3]) (XD.ls (xd_lst (xl_cons (xd_call 2 G2 hr pass0 (xl_cons xd_int xl_nil) ⟨rfl, by decide⟩ fun d' h => h.trans rfl) (xl_cons (xd_call 3 G2 hr pass0 (xl_cons xd_int xl_nil) ⟨rfl, by decide⟩ fun d' h => h.trans rfl) (xl_cons (xd_call 3 G3 hr pass0 (xl_cons xd_int xl_nil) ⟨rfl, by decide, by decide⟩ fun d' h => h.trans rfl) xl_nil))))) (xe_take 0 (m := 3) (P' := fun r => ∃ v : Nat, v < 3 ∧ r = nD v) G hr xd_int (by decide) (by decide) fun v hv => ⟨v, hv, rfl⟩) (fun db h => by
      obtain ⟨v, hv, rfl⟩ := h
      match v, hv with
      | 0, _ => exact ⟨_, _, rfl, rfl, l2, ey_l2, rfl⟩
      | 1, _ => exact ⟨_, _, rfl, rfl, l3, ey_l3, rfl⟩
      | 2, _ => exact ⟨_, _, rfl, rfl, r3, ey_r3, rfl⟩)) S2 (by show B.n + 1 + 1 ≤ _; omega) (fun r σ3 H3 p3 S3 => ?_) scOwn.nd)
  obtain ⟨ey, hey, rfl⟩ := p3
  by_cases c1 : wy = 1
  · subst c1
    refine WS.cons (w_ifT (xb_eq (xd_var 1) xd_int) rfl S3 fun H4 S4 => ?_)
    refine WS.cons (w_ret (c := 0) (P := SgOk 0) (xe_call G4 hr pass0 (xl_cons (xd_var 2) (xl_cons xd_int xl_nil)) fun ds hds => ⟨ey, ⟨hds, hey⟩, fun d h => h⟩) S4 S4.lim fun r v H5 p5 S5 => ?_)
    exact hq _ _ _ _ _ _ _ _ p5 (by show B.n + 1 + 1 + 0 ≤ B.n + 10; omega) S5
  refine WS.cons (w_ifF (xb_eq (xd_var 1) xd_int) (decide_eq_false (by omega)) S3 fun H4 S4 => WS.nil ?_)
  by_cases c2 : wy = 2
  · subst c2
    refine WS.cons (w_ifT (xb_eq (xd_var 1) xd_int) rfl S4 fun H5 S5 => ?_)
    refine WS.cons (w_ret (c := 1) (P := SgOk 0) (xe_call G5 hr pass0 (xa_cons (c1 := 1) (c2 := 0) (P := fun ds => ∃ e, EyOk e ∧ ds = [enEyes e]) (xe_ite (c2 := 0) (Pb := fun _ => True) (P := fun r => ∃ e, EyOk e ∧ r = enEyes e) (xt_eqE (xe_take 0 (m := 4) G hr xd_int (by decide) (by decide) fun v _ => ⟨v, rfl⟩) xd_int)
      (fun _ => EvP.imp (xd_call 4 G2 hr pass0 (xl_cons xd_int xl_nil) ⟨rfl, by decide⟩ fun d' h => h.trans (rfl : _ = enEyes l4)) fun d h => ⟨l4, ey_l4, h⟩) fun _ => EvP.imp (xd_var 2) fun d h => ⟨ey, hey, h⟩) xl_nil (fun d ds h1 h2 => by obtain ⟨e, a, rfl⟩ := h1; exact ⟨e, a, by rw [h2]⟩)) fun ds hds => by
        obtain ⟨e, a, rfl⟩ := hds
        exact ⟨e, ⟨rfl, a⟩, fun d h => h⟩) S5 (by show B.n + 1 + 1 + 1 ≤ _; omega) fun r v H6 p6 S6 => ?_)
    exact hq _ _ _ _ _ _ _ _ p6 (by show B.n + 1 + 1 + 1 ≤ B.n + 10; omega) S6
  refine WS.cons (w_ifF (xb_eq (xd_var 1) xd_int) (decide_eq_false (by omega)) S4 fun H5 S5 => WS.nil ?_)
  refine WS.cons (w_ret (c := 1) (P := SgOk 0) (xe_call G6 hr pass0 (xa_cons (c1 := 0) (c2 := 1) (Pr := fun ds => ∃ v : Nat, ds = [nD v, nD 2]) (P := fun ds => ∃ v : Nat, ds = [enEyes ey, nD v, nD 2]) (xd_var 2) (xa_cons (c1 := 1) (c2 := 0) (xe_take 0 (m := ey.length) (P' := fun r => ∃ v : Nat, r = nD v) G hr (xd_is (xd_lenT M.len (ds := ey.map enNs) (xd_var 2)) (by rw [List.length_map]; rfl)) hey.1 (by have := hey.2.1; omega) fun v _ => ⟨v, rfl⟩) (xl_cons xd_int xl_nil) (fun d ds h1 h2 => by obtain ⟨v, rfl⟩ := h1; exact ⟨v, by rw [h2]; rfl⟩))
    (fun d ds h1 h2 => by obtain ⟨v, rfl⟩ := h2; exact ⟨v, by rw [h1]⟩)) fun ds hds => by
      obtain ⟨v, rfl⟩ := hds
      exact ⟨(ey, v), ⟨rfl, hey⟩, fun d h => h⟩) S5 (by show B.n + 1 + 1 + 1 ≤ _; omega) fun r v H6 p6 S6 => ?_)
  exact hq _ _ _ _ _ _ _ _ p6 (by show B.n + 1 + 1 + 1 ≤ B.n + 10; omega) S6
/-! _law_system -/
abbrev sSys : Stmt := top 74
theorem scSys : FnScope ["_law_feed_here", "_law_system_here"] ["_law_feed_here"] (defScope sSys) := ⟨rfl, rfl, rfl, by decide +kernel, rfl, by decide +kernel, by decide +kernel⟩
abbrev spSys (K : PySem.W.Frag) : Sp := spF K (fun _ : Unit => 360) (fun _ ds => ds = []) fun _ d => SgOk 1 d
theorem ok_sys {k : Nat} (F : Fun K "_law_system" "_law_system" sSys f fd) (M : Bi mg) (G : Def P w K mg base CX0 k "_law_take" ["_law_feed_here", "_law_many"] (spTake K)) (G1 : Def P w K mg base CX0 k "_law_own" ["_law_feed_here"] (spOwn K)) (G2 : Def P w K mg base CX0 k "_law_drawn" ["_law_feed_here"] (spDrawn K)) (G3 : Def P w K mg base CX0 k "_law_goal" ["_law_feed_here", "_law_system_here", "_law_deep"] (spGoal K 1)) :
    FnOk P w K mg base CX0 (k + 1) f fd ["_law_feed_here"] (spSys K) := by
  refine Fun.okF F scSys (by decide) (fun y ds h => by subst h; rfl) fun cdv A outer s0 H E hr _ ds B σ Q p hlim S0 hq => ?_
  subst p
  have hlim' : B.n + 360 ≤ LIM := hlim
  have a49 : cG 1 = 49 := rfl
  refine WS.cons (w_if (c := 1) (Pb := fun _ => True) (xt_eqE (xe_take 0 (m := 2) G hr xd_int (by decide) (by decide) fun v _ => ⟨v, rfl⟩) xd_int) S0 (by omega) (fun H1 _ S1 => ?_) fun H1 _ S1 => WS.nil ?_)
  · refine WS.cons (w_ret (c := 10) (P := SgOk 0) (EvP.more (xe_callF (m := 10) 0 G1 hr pass0 xl_nil (fun ds q => ⟨(), q, Nat.le_refl _, fun d h => h⟩)) (by omega)) S1 (by show B.n + 1 + 10 ≤ _; omega) fun r v H2 p2 S2 => ?_)
    obtain ⟨S, g, e, h1, h2, h3⟩ := p2
    exact hq _ _ _ _ _ _ _ _ ⟨S, g, e, h1, h2, by omega⟩ (by show B.n + 1 + 10 ≤ B.n + 360; omega) S2
  · refine WS.cons (w_set 1 (c := 300) (P := fun r => ∃ S, r = enS S ∧ WfS S) (EvP.more (xe_callF (m := 300) 0 G2 hr pass0 xl_nil (fun ds q => ⟨(), q, Nat.le_refl _, fun d h => h⟩)) (by omega)) S1 (by show B.n + 1 + 300 ≤ _; omega) (fun r σ2 H2 p2 S2 => ?_) scSys.nd)
    obtain ⟨S, rfl, hS⟩ := p2
    refine WS.cons (w_ret (c := cG 1) (xe_tup1 (xd_var 1) (EvP.more (xe_callF (m := cG 1) (P := GoOk S 1) 0 G3 hr pass0 (xl_cons (xd_var 1) (xl_cons xd_int xl_nil)) (fun ds q => ⟨S, ⟨q, hS⟩, Nat.le_refl _, fun d h => h⟩)) (Nat.le_of_eq (Nat.zero_add _)))) S2 (by show B.n + 1 + 300 + cG 1 ≤ _; omega) fun r v H3 p3 S3 => ?_)
    obtain ⟨x, ⟨g, rfl, h1, h2⟩, rfl⟩ := p3
    exact hq _ _ _ _ _ _ _ _ ⟨S, g, rfl, hS, h1, h2⟩ (by show B.n + 1 + 300 + cG 1 ≤ B.n + 360; omega) S3
end
end Tx


set_option Elab.async false
set_option linter.all false
set_option maxRecDepth 100000
set_option maxHeartbeats 4000000
set_option autoImplicit false
/-! D20: the law's own stands, sets, steps. -/
namespace Tx
open PySem PySem.Spec L2 Lg Mo
section
variable {P : Program} {w : World} {K : PySem.W.Frag} {mg : Str → Option Value} {base : Heap} {f : Addr} {fd : FuncData}
/-! _law_pairs -/
abbrev sPa : Stmt := top 77
theorem scPa : FnScope ["_law_some", "_law_others", "_law_found", "_law_one", "_law_other"] ["_law_some", "_law_others"] (defScope sPa) := ⟨rfl, rfl, rfl, by decide +kernel, rfl, by decide +kernel, by decide +kernel⟩
def prsD (ds es : List Dt) : List Dt := ds.flatMap fun a => es.map fun b => .tup [a, b]
theorem prs_len (ds es : List Dt) : (prsD ds es).length = ds.length * es.length := by
  unfold prsD
  induction ds with
  | nil => rw [List.length_nil, Nat.zero_mul]; rfl
  | cons d r ih => rw [List.flatMap_cons, List.length_append, ih, List.length_map, List.length_cons, Nat.add_mul, Nat.one_mul, Nat.add_comm]
abbrev spPa (K : PySem.W.Frag) : Sp := spD K (fun (x : List Dt × List Dt) ds => ds = [.lst x.1, .lst x.2] ∧ x.1.length * x.2.length ≤ 10000 ∧ x.2.length ≤ 10000) fun x d => d = .lst (prsD x.1 x.2)
theorem ok_pa {k : Nat} (F : Fun K "_law_pairs" "_law_pairs" sPa f fd) : FnOk P w K mg base CX0 (k + 1) f fd ["_law_some", "_law_others"] (spPa K) := by
  refine Fun.okD F scPa (fun y ds h => by obtain ⟨rfl, _⟩ := h; rfl) fun cdv A outer s0 H E hr y ds B σ Q p S0 hq => ?_
  obtain ⟨xs, es⟩ := y
  obtain ⟨rfl, hl, hl2⟩ : ds = [.lst xs, .lst es] ∧ xs.length * es.length ≤ 10000 ∧ es.length ≤ 10000 := p
  refine WS.cons (w_own 2 xn_nil S0 S0.lim (fun q w σ1 H1 pw S1 => ?_) scPa.nd)
  subst pw
  refine WS.cons (w_forN 3 id xs (fun i O' ρ' => O' = [(q, .lst (prsD (xs.take i) es))] ∧ ∃ u, ρ' = [.d (.lst xs), .d (.lst es), .o q, u, .u]) PassesOwn.never rfl scPa.nd (xj_is (xj_list (xd_var 0)) (List.map_id xs).symm) S1 ⟨rfl, .u, rfl⟩ (fun i y O' ρ' T' σ' H' N hy hI S2 kN => ?_) (fun O' ρ' σ' H' hI S2 => ?_))
  · obtain ⟨rfl, u, rfl⟩ := hI
    have hlt := (List.getElem?_eq_some_iff.mp hy).1
    refine WS.cons (w_extend 2 (A := []) (C := []) (Pl := fun l => l = es.map fun b => Dt.tup [y, b]) (EvP.imp (xe_lcO rfl scPa.nd (blkOk_by (N := ["_law_some", "_law_others", "_law_found", "_law_one", "_law_other"]) (sc := defScope sPa) (own := [("_law_other", 4)]) (by decide +kernel))
      (ev_lcD [("_law_other", 4)] id (fun _ => true) (fun b => Dt.tup [y, b]) es (ρt := fun b => [.d (.lst xs), .d (.lst es), .o q, .d y, .d b]) (is := [4])
        (xj_is (xj_list (xd_var 1)) (List.map_id es).symm) (fun i h => h) hl2 (fun x hx s H0 C cl fp => xg_name 4 scPa.nd) (fun x hx s H0 C cl fp => EvT.imp xts_nil fun b h => h) (fun x hx _ s H0 C cl fp => xd_tup (xl_cons (xd_var 3) (xl_cons (xd_var 4) xl_nil))))) fun d h => ⟨_, by rw [h, filt_true], rfl⟩) S2 S2.lim (fun l hl' => by
        rw [hl', prs_len, List.length_map, List.length_take]
        have h1 : (min i xs.length + 1) * es.length ≤ xs.length * es.length := Nat.mul_le_mul_right _ (by omega)
        rw [Nat.add_mul, Nat.one_mul] at h1
        omega) (fun l H3 hl' S3 => WS.nil (kN _ _ _ _ ⟨?_, .d y, rfl⟩ S3)))
    subst hl'
    have e : xs.take (i + 1) = xs.take i ++ [y] := by rw [List.take_succ, hy]; rfl
    rw [e]
    unfold prsD
    rw [List.flatMap_append]
    show _ = [(q, Ow.lst (_ ++ (List.flatMap _ [y])))]
    rw [List.flatMap_cons, List.flatMap_nil, List.append_nil]
    rfl
  · obtain ⟨rfl, u, rfl⟩ := hI
    rw [List.take_of_length_le (Nat.le_refl _)] at S2
    exact WS.cons (w_retOwn 2 S2 fun v H5 S5 => hq _ _ _ _ _ _ _ rfl S5)
/-! _law_all_right -/
abbrev sAr : Stmt := top 81
theorem scAr : FnScope ["_law_system_here", "_law_goals", "_law_stand", "_law_goal_here"] ["_law_system_here", "_law_goals", "_law_stand"] (defScope sAr) := ⟨rfl, rfl, rfl, by decide +kernel, rfl, by decide +kernel, by decide +kernel⟩
abbrev spAr (K : PySem.W.Frag) (D : Nat) : Sp := spD K (fun (x : Sys × List Go × Stand) ds => ds = [enS x.1, .lst (x.2.1.map enG), enSt x.2.2] ∧ WfS x.1 ∧ WfSt x.1 x.2.2 ∧ x.2.1.length ≤ 100 ∧ ∀ g ∈ x.2.1, wfG x.1.n x.1.k g ∧ dpG g < D) fun x d => d = .bl (x.2.1.all fun g => right x.1 g x.2.2)
theorem ok_ar {k D : Nat} (F : Fun K "_law_all_right" "_law_all_right" sAr f fd) (G : Def P w K mg base CX0 k "is_right" ["system", "goal", "stand"] (spRight K D)) : FnOk P w K mg base CX0 (k + 1) f fd ["_law_system_here", "_law_goals", "_law_stand"] (spAr K D) := by
  refine Fun.okD F scAr (fun y ds h => by obtain ⟨rfl, _⟩ := h; rfl) fun cdv A outer s0 H E hr y ds B σ Q p S0 hq => ?_
  obtain ⟨S, gs, st⟩ := y
  obtain ⟨rfl, hS, hst, hl, hg⟩ : ds = [enS S, .lst (gs.map enG), enSt st] ∧ WfS S ∧ WfSt S st ∧ gs.length ≤ 100 ∧ ∀ g ∈ gs, wfG S.n S.k g ∧ dpG g < D := p
  refine WS.cons (w_ret (P := fun r => r = .bl (!decide (false ∈ gs.map fun g => right S g st))) (xd_notInB (ns := gs.map fun g => right S g st) xd_bl (xe_lcO rfl scAr.nd (blkOk_by (N := ["_law_system_here", "_law_goals", "_law_stand", "_law_goal_here"]) (sc := defScope sAr) (own := [("_law_goal_here", 3)]) (by decide +kernel)) (EvP.imp
    (ev_lcD [("_law_goal_here", 3)] enG (fun _ => true) (fun g => .bl (right S g st)) gs (ρt := fun g => [.d (enS S), .d (.lst (gs.map enG)), .d (enSt st), .d (enG g)]) (is := [3])
      (xj_list (xd_var 1)) (fun i h => h) (by omega) (fun x hx s H0 C cl fp => xg_name 3 scAr.nd) (fun x hx s H0 C cl fp => EvT.imp xts_nil fun b h => h) (fun g hx _ s H0 C cl fp => xd_call (S, g, st) G hr pass0 (xl_cons (xd_var 0) (xl_cons (xd_var 3) (xl_cons (xd_var 2) xl_nil))) ⟨rfl, hS, hst, (hg g hx).1, (hg g hx).2⟩ fun d' h => h)) fun d h => by rw [h, filt_true, List.map_map]; rfl))) S0 S0.lim fun r v H3 p3 S3 => hq _ _ _ _ _ _ _ ?_ S3)
  rw [p3]
  congr 1
  show (!decide (false ∈ gs.map fun g => right S g st)) = gs.all fun g => right S g st
  cases hall : gs.all fun g => right S g st with
  | true =>
    rw [decide_eq_false]
    · rfl
    · intro hm
      obtain ⟨g, hgm, hgf⟩ := List.mem_map.mp hm
      rw [List.all_eq_true.mp hall g hgm] at hgf
      cases hgf
  | false =>
    rw [decide_eq_true]
    · rfl
    · obtain ⟨g, hgm, hgf⟩ := all_not hall
      exact List.mem_map.mpr ⟨g, hgm, hgf⟩
end
end Tx


set_option Elab.async false
set_option linter.all false
set_option maxRecDepth 100000
set_option maxHeartbeats 4000000
set_option autoImplicit false
/-! D21: the law's own sets, steps. -/
namespace Lg
open PySem PySem.Spec L2
section
variable {X : Cx} {O : List (Addr × Ow)} {ρ : List Sl} {c : Nat} {a : Expr} {pos p2 : Pos} {lo : Option Expr} {l : Option Int}
/-- e[lo:], e a list that is known in part -/
theorem xe_slL {Pd : List Dt → Prop} (ha : XE X a O ρ c (fun d => ∃ ds, d = .lst ds ∧ Pd ds)) (hl : XO X lo O ρ l) : XE X (.Subscript a (.Slice lo none none p2) pos) O ρ c (fun d => ∃ ds, Pd ds ∧ d = .lst (cutD ds l none)) :=
  xe_of (pe_slice sl_list pe_s po_s po_none) fun B F T σ H Q hb S k => by
    refine ha B F T σ H _ hb S fun d v H1 p1 S1 => ?_
    obtain ⟨ds, rfl, hd⟩ := p1
    refine hl (B.add c) F _ σ H1 _ S1.lim S1 fun o1 H2 p1 S2 => ?_
    subst p1
    obtain ⟨HI, S3⟩ := S2
    cases S3.tmp _ List.mem_cons_self with
    | lst e1 r1 => exact ⟨_, _, rfl, .inl (.inl (S3.ex1 _ _ e1)), fun q hq => k _ _ _ ⟨ds, hd, rfl⟩ ⟨_, ((S3.pop fun x hx => List.mem_cons_of_mem _ hx).grow hq).push (.lst upd_same ((drL_cut r1 _ _).mono (same_upd (S3.hi hq))))⟩⟩
end
end Lg
namespace Tx
open PySem PySem.Spec L2 Lg Mo
section
variable {P : Program} {w : World} {K : PySem.W.Frag} {mg : Str → Option Value} {base : Heap} {f : Addr} {fd : FuncData}
abbrev sSe : Stmt := top 78
theorem scSe : FnScope ["_law_hands", "_law_found", "_law_hand", "_law_one"] ["_law_hands"] (defScope sSe) := ⟨rfl, rfl, rfl, by decide +kernel, rfl, by decide +kernel, by decide +kernel⟩
abbrev spSe (K : PySem.W.Frag) : Sp := spD K (fun (rd : List Nat) ds => ds = [.lst (rd.map nD)] ∧ rd.length ≤ 4) fun rd d => ∃ L, Chs "some" rd L ∧ d = .lst (L.map enNs)
theorem ok_se {k : Nat} (F : Fun K "_law_sets" "_law_sets" sSe f fd) (M : Bi mg) : FnOk P w K mg base CX0 (k + 1) f fd ["_law_hands"] (spSe K) := by
  refine Fun.okD F scSe (fun y ds h => by obtain ⟨rfl, _⟩ := h; rfl) fun cdv A outer s H E hr rd ds B σ Q p S0 hq => ?_
  obtain ⟨rfl, hl⟩ := p
  refine WS.cons (w_set 1 (xd_lst (xl_cons (xd_tup xl_nil) xl_nil)) S0 S0.lim (fun d σ3 H3 p3 S3 => ?_) scSe.nd)
  subst p3
  refine WS.cons (w_forN 2 nD rd (fun i O' ρ' => O' = [] ∧ ∃ u, ρ' = [.d (.lst (rd.map nD)), .d (.lst ((subs (rd.take i)).map enNs)), u, .u]) PassesOwn.never rfl scSe.nd (xj_list (xd_var 0)) S3 ⟨rfl, .u, rfl⟩ (fun i y O' ρ' T' σ' H' N hy hI S4 kN => ?_) (fun O' ρ' σ' H' hI S4 => ?_))
  · obtain ⟨rfl, u, rfl⟩ := hI
    have hlen : (subs (rd.take i)).length ≤ 16 := by
      rw [subs_len]
      exact two_pow_le (by rw [List.length_take]; omega)
    have hcat : ∀ hs ∈ subs (rd.take i), (hs.map nD).length + [nD y].length ≤ 100000 := fun hs hh => by
      have h3 := ((mem_subs _ _).mp hh).length_le
      rw [List.length_take] at h3
      rw [List.length_map]
      show hs.length + 1 ≤ 100000
      omega
    refine WS.cons (w_set 1 (xd_cat (xd_var 1) (xe_lcO rfl scSe.nd (blkOk_by (N := ["_law_hands", "_law_found", "_law_hand", "_law_one"]) (sc := defScope sSe) (own := [("_law_one", 3)]) (by decide +kernel))
      (ev_lcD [("_law_one", 3)] enNs (fun _ => true) (fun hs => enNs (hs ++ [y])) (subs (rd.take i)) (ρt := fun hs => [.d (.lst (rd.map nD)), .d (.lst ((subs (rd.take i)).map enNs)), .d (nD y), .d (enNs hs)]) (is := [3])
        (xj_list (xd_var 1)) (fun i h => h) (by omega) (fun hs hh s H0 C cl fp => xg_name 3 scSe.nd) (fun hs hh s H0 C cl fp => EvT.imp xts_nil fun b h => h)
        (fun hs hh _ s H0 C cl fp => xd_is (xd_catT (xd_var 3) (xd_tup (xl_cons (xd_var 2) xl_nil)) (hcat hs hh)) (by unfold enNs; rw [List.map_append]; rfl)))) (by rw [List.length_map, filt_true, List.length_map]; omega)) S4 S4.lim (fun d σ5 H5 p5 S5 => WS.nil (kN _ _ _ _ ⟨rfl, .d (nD y), ?_⟩ S5)) scSe.nd)
    subst p5
    rw [List.take_succ, hy]
    show _ = [_, Sl.d (.lst ((subs (rd.take i ++ [y])).map enNs)), _, _]
    rw [subs_snoc, List.map_append, List.map_map, filt_true]
    rfl
  · obtain ⟨rfl, u, rfl⟩ := hI
    rw [List.take_of_length_le (Nat.le_refl _)] at S4
    obtain ⟨r, e1, e2⟩ := subs_head rd
    have hlen : (subs rd).length ≤ 16 := by rw [subs_len]; exact two_pow_le hl
    refine WS.cons (w_ret (xe_slL (Pd := fun ds => ∃ out : List (List Int), ds = out.map (fun ns => .tup (ns.map Dt.int)) ∧ out.Perm ((subs rd).map castL) ∧ ∃ r, out = [] :: r) (EvP.imp (xe_sortT (nss := (subs rd).map castL) hr M.sorted (XD.ls (xd_is (xd_var 1) (by rw [List.map_map, castL_en]))) (.inr ⟨r.map castL, by rw [e1]; rfl⟩)) fun d hd => by
      obtain ⟨out, rfl, h1, h2⟩ := hd
      exact ⟨_, rfl, out, rfl, h1, h2 ⟨r.map castL, by rw [e1]; rfl⟩⟩) (xo_some xd_int)) S4 S4.lim fun d v H3 p3 S3 => ?_)
    obtain ⟨ds, ⟨out, rfl, h1, r', rfl⟩, rfl⟩ := p3
    rw [e1, List.map_cons] at h1
    have h2 : r'.Perm (r.map castL) := List.Perm.cons_inv h1
    obtain ⟨L, hL, rfl⟩ := perm_cast h2
    refine hq _ _ _ _ _ _ _ ⟨L, ⟨fun hs => ?_, ?_⟩, ?_⟩ S3
    · rw [hL.mem_iff]
      show hs ∈ r ↔ (hs.Sublist rd ∧ hs ≠ [])
      rw [← mem_subs, e1, List.mem_cons]
      exact ⟨fun h => ⟨.inr h, e2 hs h⟩, fun h => h.1.resolve_left h.2⟩
    · rw [hL.length_eq]
      rw [e1, List.length_cons] at hlen
      omega
    · have h3 := cut_tail [] L
      rw [List.map_map, castL_en] at h3
      have e3 : (([] : List Int) :: L.map castL).map (fun ns => Dt.tup (ns.map Dt.int)) = ([] :: L).map enNs := by
        rw [List.map_cons, List.map_cons, List.map_map, castL_en]
        rfl
      rw [e3]
      exact h3
/-! _law_steps -/
abbrev sLs : Stmt := top 79
abbrev lsN : List Str := ["_law_system_here", "_law_chooser", "_law_stand", "_law_hands", "_law_some", "_law_hand", "_law_one"]
theorem scLs : FnScope lsN ["_law_system_here", "_law_chooser", "_law_stand"] (defScope sLs) := ⟨rfl, rfl, rfl, by decide +kernel, rfl, by decide +kernel, by decide +kernel⟩
theorem ok_ls {k : Nat} (F : Fun K "_law_steps" "_law_steps" sLs f fd) (M : Bi mg) (G1 : Def P w K mg base CX0 k "ready_hands" ["system", "stand"] (spReady K)) (G2 : Def P w K mg base CX0 k "_law_sets" ["_law_hands"] (spSe K)) (G3 : Def P w K mg base CX0 k "acted" ["system", "stand", "hands"] (spActed K)) :
    FnOk P w K mg base CX0 (k + 1) f fd ["_law_system_here", "_law_chooser", "_law_stand"] (spSteps K) := by
  refine Fun.okD F scLs (fun y ds h => by obtain ⟨rfl, _⟩ := h; rfl) fun cdv A outer s0 H E hr y ds B σ Q p S0 hq => ?_
  obtain ⟨S, ch, st⟩ := y
  obtain ⟨rfl, hS, hst⟩ : ds = [enS S, .str ch, enSt st] ∧ WfS S ∧ WfSt S st := p
  have hl := ready_len hS hst
  refine WS.cons (w_set 3 (xd_call (S, st) G1 hr pass0 (xl_cons (xd_var 0) (xl_cons (xd_var 2) xl_nil)) ⟨rfl, hS, hst⟩ fun d' h => h) S0 S0.lim (fun d σ1 H1 p1 S1 => ?_) scLs.nd)
  subst p1
  refine WS.cons (w_setLc 4 (P := fun d => d = .lst (((ready S st).map fun h => [h]).map enNs)) rfl scLs.nd (blkOk_by (N := lsN) (sc := defScope sLs) (own := [("_law_hand", 5)]) (by decide +kernel))
    (EvP.imp (ev_lcD [("_law_hand", 5)] nD (fun _ => true) (fun h => enNs [h]) (ready S st) (ρt := fun h => [.d (enS S), .d (.str ch), .d (enSt st), .d (.lst ((ready S st).map nD)), .u, .d (nD h), .u]) (is := [5])
      (xj_list (xd_var 3)) (fun i h => h) (by omega) (fun hs hh s H0 C cl fp => xg_name 5 scLs.nd) (fun hs hh s H0 C cl fp => EvT.imp xts_nil fun b h => h) (fun hs hh _ s H0 C cl fp => xd_tup (xl_cons (xd_var 5) xl_nil))) fun d h => by rw [h, filt_true, List.map_map]; rfl) S1 S1.lim (fun d σ2 H2 p2 S2 => ?_))
  subst p2
  have fin : ∀ (L : List (List Nat)) σ' H' (B' : Bs) (hB : B'.H0 = B.H0 ∧ B'.HI = B.HI ∧ B'.f = B.f ∧ B'.n = B.n), Chs ch (ready S st) L → Sat K B' [] [.d (enS S), .d (.str ch), .d (enSt st), .d (.lst ((ready S st).map nD)), .d (.lst (L.map enNs)), .u, .u] [] σ' H' → WS (cxOf CX0 P w K mg base lsN "_law_steps" (defScope sLs) f cdv A outer s0 H E).nox ((defBody sLs).drop 4) { nx := fun _ H' => Q .non H', rt := Q } σ' H' := fun L σ' H' B' hB hL S3 => by
    obtain ⟨b1, b2, b3, b4⟩ := hB
    obtain ⟨H0', HI', f', n'⟩ := B'
    cases b1
    cases b2
    cases b3
    cases b4
    refine WS.cons (w_ret (P := fun d => d = .lst (L.map (enStep S st))) (xe_lcO rfl scLs.nd (blkOk_by (N := lsN) (sc := defScope sLs) (own := [("_law_one", 6)]) (by decide +kernel)) (EvP.imp
      (ev_lcD [("_law_one", 6)] enNs (fun _ => true) (enStep S st) L (ρt := fun hs => [.d (enS S), .d (.str ch), .d (enSt st), .d (.lst ((ready S st).map nD)), .d (.lst (L.map enNs)), .u, .d (enNs hs)]) (is := [6])
        (xj_list (xd_var 4)) (fun i h => h) (by have := hL.2; omega) (fun hs hh s H0 C cl fp => xg_name 6 scLs.nd) (fun hs hh s H0 C cl fp => EvT.imp xts_nil fun b h => h) (fun hs hh _ s H0 C cl fp => ?_)) fun d h => by rw [h, filt_true])) S3 S3.lim fun d v H4 p4 S4 => hq _ _ _ _ _ _ _ ⟨L, hL, p4⟩ S4)
    obtain ⟨c1, c2, c3⟩ := ch_ok (ready_asc S st) ((hL.1 hs).mp hh)
    exact xd_tup (xl_cons (xd_var 6) (xl_cons (xd_call (S, st, hs) G3 hr pass0 (xl_cons (xd_var 0) (xl_cons (xd_var 2) (xl_cons (xd_var 6) xl_nil))) ⟨rfl, hS, hst, c1, c2, c3⟩ fun d' h => h) xl_nil))
  by_cases h1 : ch = "some"
  · subst h1
    refine WS.cons (w_ifT (xb_eqS (xd_var 1) xd_str) (by decide) S2 fun H3 S3 => ?_)
    refine WS.cons (w_set 4 (P := fun d => ∃ L, Chs "some" (ready S st) L ∧ d = .lst (L.map enNs)) (xe_call G2 hr pass0 (xl_cons (xd_var 3) xl_nil) fun ds hds => ⟨ready S st, ⟨hds, hl⟩, fun d h => h⟩) S3 S3.lim (fun d σ4 H4 p4 S4 => ?_) scLs.nd)
    obtain ⟨L, hL, rfl⟩ := p4
    refine WS.nil (WS.cons (w_ifF (xb_eqS (xd_var 1) xd_str) (by decide) S4 fun H5 S5 => WS.nil (fin L _ _ _ ⟨rfl, rfl, rfl, rfl⟩ hL S5)))
  · refine WS.cons (w_ifF (xb_eqS (xd_var 1) xd_str) (decide_eq_false h1) S2 fun H3 S3 => WS.nil ?_)
    by_cases h2 : ch = "all"
    · subst h2
      refine WS.cons (w_ifT (xb_eqS (xd_var 1) xd_str) (by decide) S3 fun H4 S4 => ?_)
      refine WS.cons (w_set 4 (P := fun d => ∃ L, Chs "all" (ready S st) L ∧ d = .lst (L.map enNs)) (EvP.imp (xd_ite (d := .lst ((if (ready S st) = [] then [] else [ready S st]).map enNs)) (xb_neNil hr (fits_nDs _) (xd_var 3)) (fun h => xd_is (xd_lst (xl_cons (xd_tuple M.tuple (XD.ls (xd_var 3))) xl_nil)) (by
        rw [if_neg (by intro z; rw [z] at h; cases h)]
        rfl)) fun h => xd_is (xd_lst xl_nil) (by
        rw [if_pos (by
          cases hrd : ready S st with
          | nil => rfl
          | cons x r => rw [hrd] at h; cases h)]
        rfl)) fun d hd => ⟨_, ⟨fun hs => ?_, by split <;> simp⟩, hd⟩) S4 S4.lim (fun d σ5 H5 p5 S5 => ?_) scLs.nd)
      · show hs ∈ (if ready S st = [] then [] else [ready S st]) ↔ (ready S st ≠ [] ∧ hs = ready S st)
        by_cases hz : ready S st = []
        · rw [if_pos hz]
          exact ⟨fun h => absurd h List.not_mem_nil, fun h => absurd hz h.1⟩
        · rw [if_neg hz, List.mem_singleton]
          exact ⟨fun h => ⟨hz, h⟩, fun h => h.2⟩
      · obtain ⟨L, hL, rfl⟩ := p5
        exact WS.nil (fin L _ _ _ ⟨rfl, rfl, rfl, rfl⟩ hL S5)
    · refine WS.cons (w_ifF (xb_eqS (xd_var 1) xd_str) (decide_eq_false h2) S3 fun H4 S4 => WS.nil (fin _ _ _ _ ⟨rfl, rfl, rfl, rfl⟩ ⟨fun hs => ?_, by rw [List.length_map]; omega⟩ S4))
      unfold Ch
      rw [if_neg h2, if_neg h1, List.mem_map]
      exact ⟨fun ⟨h, a, b⟩ => ⟨h, a, b.symm⟩, fun ⟨h, a, b⟩ => ⟨h, a, b.symm⟩⟩
end
end Tx


set_option Elab.async false
set_option linter.all false
set_option maxRecDepth 100000
set_option maxHeartbeats 4000000
set_option autoImplicit false
/-! D22: _law_stands. -/
namespace Mo
open PySem Lg
theorem mul_fold (l : List Nat) : ∀ a : Nat, l.foldl (· * ·) a = a * l.foldl (· * ·) 1 := by
  induction l with
  | nil => intro a; exact (Nat.mul_one a).symm
  | cons s r ih => intro a; rw [List.foldl_cons, List.foldl_cons, ih, ih (1 * s), Nat.one_mul, Nat.mul_assoc]
theorem prod_cat (l m : List Nat) : (l ++ m).foldl (· * ·) 1 = l.foldl (· * ·) 1 * m.foldl (· * ·) 1 := by rw [List.foldl_append, mul_fold]
theorem prod_pos {l : List Nat} (h : ∀ s ∈ l, 1 ≤ s) : 1 ≤ l.foldl (· * ·) 1 := by
  induction l with
  | nil => exact Nat.le_refl 1
  | cons s r ih =>
    rw [List.foldl_cons, mul_fold, Nat.one_mul]
    exact Nat.mul_pos (h s List.mem_cons_self) (ih fun x hx => h x (List.mem_cons_of_mem _ hx))
theorem many_pow (S : Sys) : many S = (S.sizes.foldl (· * ·) 1) ^ S.n := by
  unfold many
  generalize S.n = n
  induction n with
  | zero => rfl
  | succ n ih => rw [List.replicate_succ, List.flatten_cons, prod_cat, ih, Nat.pow_succ, Nat.mul_comm]
theorem pref_le {l : List Nat} (h : ∀ s ∈ l, 1 ≤ s) (i : Nat) : (l.take i).foldl (· * ·) 1 ≤ l.foldl (· * ·) 1 := by
  have e := prod_cat (l.take i) (l.drop i)
  rw [List.take_append_drop] at e
  rw [e]
  exact Nat.le_mul_of_pos_right _ (prod_pos fun s hs => h s (List.mem_of_mem_drop hs))
theorem prod_le_many {S : Sys} (hS : WfS S) : S.sizes.foldl (· * ·) 1 ≤ many S := by
  rw [many_pow]
  have h1 := prod_pos fun s hs => (hS.sz s hs).1
  have h2 := Nat.pow_le_pow_right h1 hS.n1
  rw [Nat.pow_one] at h2
  exact h2
end Mo
namespace Tx
open PySem PySem.Spec L2 Lg Mo
section
variable {P : Program} {w : World} {K : PySem.W.Frag} {mg : Str → Option Value} {base : Heap} {f : Addr} {fd : FuncData}
theorem prs_map {α β : Type} (g1 : α → Dt) (g2 : β → Dt) (xs : List α) (ys : List β) : prsD (xs.map g1) (ys.map g2) = (xs.flatMap fun a => ys.map fun b => (a, b)).map fun p => Dt.tup [g1 p.1, g2 p.2] := by
  unfold prsD
  induction xs with
  | nil => rfl
  | cons x r ih =>
    rw [List.map_cons, List.flatMap_cons, ih, List.flatMap_cons, List.map_append, List.map_map, List.map_map]
    rfl
theorem fm_len {α β : Type} (xs : List α) (ys : List β) : (xs.flatMap fun a => ys.map fun b => (a, b)).length = xs.length * ys.length := by
  induction xs with
  | nil => rw [List.length_nil, Nat.zero_mul]; rfl
  | cons d r ih => rw [List.flatMap_cons, List.length_append, ih, List.length_map, List.length_cons, Nat.add_mul, Nat.one_mul, Nat.add_comm]
theorem fm_mem {α β : Type} {xs : List α} {ys : List β} {p : α × β} (h : p ∈ xs.flatMap fun a => ys.map fun b => (a, b)) : p.1 ∈ xs ∧ p.2 ∈ ys := by
  obtain ⟨a, ha, h2⟩ := List.mem_flatMap.mp h
  obtain ⟨b, hb, rfl⟩ := List.mem_map.mp h2
  exact ⟨ha, hb⟩
abbrev sSt : Stmt := top 76
abbrev stN : List Str := ["_law_system_here", "_law_boxes", "_law_size", "_law_one", "_law_number", "_law_found", "_law_hand", "_law_lays"]
theorem scSt : FnScope stN ["_law_system_here"] (defScope sSt) := ⟨rfl, rfl, rfl, by decide +kernel, rfl, by decide +kernel, by decide +kernel⟩
abbrev spSt (K : PySem.W.Frag) : Sp := spD K preS fun S d => ∃ L : List Stand, d = .lst (L.map enSt) ∧ L.length = many S ∧ ∀ st ∈ L, WfSt S st
def PB (S : Sys) (i : Nat) (b : List Int) : Prop := b.length = i ∧ ∀ (j : Nat) (x : Int) (s : Nat), b[j]? = some x → S.sizes[j]? = some s → 0 ≤ x ∧ x < (s : Int)
theorem ok_st {k : Nat} (F : Fun K "_law_stands" "_law_stands" sSt f fd) (M : Bi mg) (G : Def P w K mg base CX0 k "_law_pairs" ["_law_some", "_law_others"] (spPa K)) : FnOk P w K mg base CX0 (k + 1) f fd ["_law_system_here"] (spSt K) := by
  refine Fun.okD F scSt (fun y ds h => by obtain ⟨rfl, _⟩ := h; rfl) fun cdv A outer s0 H E hr S ds B σ Q p S0 hq => ?_
  obtain ⟨rfl, hS⟩ := p
  have hsm := hS.small
  have hpos : ∀ s ∈ S.sizes, 1 ≤ s := fun s hs => (hS.sz s hs).1
  have hprod := prod_le_many hS
  have hn2 := hS.n2
  refine WS.cons (w_set 1 (P := fun d => d = .lst (([[]] : List (List Int)).map enBx)) (xd_lst (xl_cons (xd_tup xl_nil) xl_nil)) S0 S0.lim (fun d σ1 H1 p1 S1 => ?_) scSt.nd)
  subst p1
  refine WS.cons (w_forN 2 nD S.sizes (fun i O' ρ' => O' = [] ∧ ∃ (bs : List (List Int)) (u : Sl), (∀ b ∈ bs, PB S i b) ∧ bs.length = (S.sizes.take i).foldl (· * ·) 1 ∧ ρ' = [.d (enS S), .d (.lst (bs.map enBx)), u, .u, .u, .u, .u, .u]) PassesOwn.never rfl scSt.nd (xj_tup (xd_ixT (xd_var 0) xd_int rfl)) S1 ⟨rfl, [[]], .u, fun b hb => by rw [List.mem_singleton.mp hb]; exact ⟨rfl, fun j x s h => by simp at h⟩, rfl, rfl⟩ (fun i y O' ρ' T' σ' H' N hy hI S2 kN => ?_) (fun O' ρ' σ' H' hI S2 => ?_))
  · obtain ⟨rfl, bs, u, hbs, hbl, rfl⟩ := hI
    have hym := List.mem_of_getElem? hy
    have hy12 := hS.sz y hym
    have e : S.sizes.take (i + 1) = S.sizes.take i ++ [y] := by rw [List.take_succ, hy]; rfl
    have hpl := pref_le hpos (i + 1)
    have hnext : bs.length * y = (S.sizes.take (i + 1)).foldl (· * ·) 1 := by rw [e, prod_app, hbl]
    have hsz : bs.length * y ≤ 100 := by rw [hnext]; omega
    refine WS.cons (w_setLc 1 (P := fun d => d = .lst (((bs.flatMap fun a => (List.range y).map fun b => (a, b)).map fun p => p.1 ++ [(p.2 : Int)]).map enBx)) rfl scSt.nd (blkOk_by (N := stN) (sc := defScope sSt) (own := [("_law_one", 3), ("_law_number", 4)]) (by decide +kernel)) (EvP.imp
      (ev_lcD [("_law_one", 3), ("_law_number", 4)] (fun p : List Int × Nat => Dt.tup [enBx p.1, nD p.2]) (fun _ => true) (fun p => enBx (p.1 ++ [(p.2 : Int)])) (bs.flatMap fun a => (List.range y).map fun b => (a, b)) (ρt := fun p => [.d (enS S), .d (.lst (bs.map enBx)), .d (nD y), .d (enBx p.1), .d (nD p.2), .u, .u, .u]) (is := [3] ++ ([4] ++ []))
        (xj_is (xj_list (xd_call (bs.map enBx, (List.range y).map nD) G hr pass0 (xl_cons (xd_var 1) (xl_cons (xd_listRg rfl M.list M.range (xd_var 2) (by omega)) xl_nil)) ⟨rfl, by rw [List.length_map, List.length_map, List.length_range]; omega, by rw [List.length_map, List.length_range]; omega⟩ fun d' h => h)) (prs_map _ _ _ _)) (fun i h => h) (by rw [fm_len, List.length_range]; omega) (fun p hp s H0 C cl fp => xg_two rfl (xg_name 3 scSt.nd) (xg_name 4 scSt.nd)) (fun p hp s H0 C cl fp => EvT.imp xts_nil fun b h => h)
        (fun p hp _ s H0 C cl fp => xd_is (xd_catT (ds := p.1.map .int) (es := [nD p.2]) (xd_var 3) (xd_tup (xl_cons (xd_var 4) xl_nil)) (by
          have h3 := (hbs p.1 (fm_mem hp).1).1
          have hi3 := (List.getElem?_eq_some_iff.mp hy).1
          have hk2 : S.sizes.length ≤ 3 := hS.k2
          rw [List.length_map]
          show p.1.length + 1 ≤ 100000
          omega)) (by unfold enBx; rw [List.map_append]; rfl))) fun d h => by rw [h, filt_true, List.map_map (g := enBx)]; rfl) S2 S2.lim (fun d σ3 H3 p3 S3 => WS.nil (kN _ _ _ _ ⟨rfl, (bs.flatMap fun a => (List.range y).map fun b => (a, b)).map fun p => p.1 ++ [(p.2 : Int)], .d (nD y), fun b hb => ?_, ?_, ?_⟩ S3)))
    · obtain ⟨p, hp, rfl⟩ := List.mem_map.mp hb
      obtain ⟨h1, h2⟩ := fm_mem hp
      obtain ⟨h3, h4⟩ := hbs p.1 h1
      have h5 := List.mem_range.mp h2
      refine ⟨by rw [List.length_append, h3]; rfl, fun j x s g1 g2 => ?_⟩
      by_cases hj : j < p.1.length
      · rw [List.getElem?_append_left hj] at g1
        exact h4 j x s g1 g2
      · have hj2 := (List.getElem?_eq_some_iff.mp g1).1
        rw [List.length_append, List.length_singleton] at hj2
        have hje : j = i := by omega
        subst hje
        rw [List.getElem?_append_right (by omega), h3, Nat.sub_self] at g1
        rw [hy] at g2
        cases g1
        cases g2
        omega
    · rw [List.length_map, fm_len, List.length_range, hnext]
    · subst p3
      rfl
  · obtain ⟨rfl, bs, u, hbs, hbl, rfl⟩ := hI
    rw [List.take_of_length_le (Nat.le_refl _)] at hbl
    have hb1 : 1 ≤ bs.length := by rw [hbl]; exact prod_pos hpos
    have hpw : ∀ i, i ≤ S.n → bs.length ^ i ≤ 100 := fun i hi => by
      have h1 := Nat.pow_le_pow_right hb1 hi
      have h2 : bs.length ^ S.n = many S := by rw [hbl, many_pow]
      omega
    refine WS.cons (w_set 5 (P := fun d => d = .lst (([[]] : List Stand).map enSt)) (xd_lst (xl_cons (xd_tup xl_nil) xl_nil)) S2 S2.lim (fun d σ3 H3 p3 S3 => ?_) scSt.nd)
    subst p3
    refine WS.cons (w_forN 6 enNs S.eyes (fun i O' ρ' => O' = [] ∧ ∃ (fs : List Stand) (v : Sl), (∀ g ∈ fs, g.length = i ∧ ∀ b ∈ g, b ∈ bs) ∧ fs.length = bs.length ^ i ∧ ρ' = [.d (enS S), .d (.lst (bs.map enBx)), u, .u, .u, .d (.lst (fs.map enSt)), v, .u]) PassesOwn.never rfl scSt.nd (xj_tup (xd_ixT (xd_var 0) xd_int rfl)) S3 ⟨rfl, [[]], .u, fun g hg => by rw [List.mem_singleton.mp hg]; exact ⟨rfl, fun b hb => absurd hb List.not_mem_nil⟩, rfl, rfl⟩ (fun i y O' ρ' T' σ' H' N hy hI S4 kN => ?_) (fun O' ρ' σ' H' hI S4 => ?_))
    · obtain ⟨rfl, fs, v, hfs, hfl, rfl⟩ := hI
      have hi : i < S.n := (List.getElem?_eq_some_iff.mp hy).1
      have hsz : fs.length * bs.length ≤ 100 := by rw [hfl, ← Nat.pow_succ]; exact hpw _ hi
      have hb100 : bs.length ≤ 100 := by have := hpw 1 hS.n1; rw [Nat.pow_one] at this; exact this
      refine WS.cons (w_setLc 5 (P := fun d => d = .lst (((fs.flatMap fun a => bs.map fun b => (a, b)).map fun p => p.1 ++ [p.2]).map enSt)) rfl scSt.nd (blkOk_by (N := stN) (sc := defScope sSt) (own := [("_law_one", 3), ("_law_lays", 7)]) (by decide +kernel)) (EvP.imp
        (ev_lcD [("_law_one", 3), ("_law_lays", 7)] (fun p : Stand × List Int => Dt.tup [enSt p.1, enBx p.2]) (fun _ => true) (fun p => enSt (p.1 ++ [p.2])) (fs.flatMap fun a => bs.map fun b => (a, b)) (ρt := fun p => [.d (enS S), .d (.lst (bs.map enBx)), u, .d (enSt p.1), .u, .d (.lst (fs.map enSt)), .d (enNs y), .d (enBx p.2)]) (is := [3] ++ ([7] ++ []))
          (xj_is (xj_list (xd_call (fs.map enSt, bs.map enBx) G hr pass0 (xl_cons (xd_var 5) (xl_cons (xd_var 1) xl_nil)) ⟨rfl, by rw [List.length_map, List.length_map]; omega, by rw [List.length_map]; omega⟩ fun d' h => h)) (prs_map _ _ _ _)) (fun i h => h) (by rw [fm_len]; omega) (fun p hp s H0 C cl fp => xg_two rfl (xg_name 3 scSt.nd) (xg_name 7 scSt.nd)) (fun p hp s H0 C cl fp => EvT.imp xts_nil fun b h => h)
          (fun p hp _ s H0 C cl fp => xd_is (xd_catT (ds := p.1.map enBx) (es := [enBx p.2]) (xd_var 3) (xd_tup (xl_cons (xd_var 7) xl_nil)) (by
            have h3 := (hfs p.1 (fm_mem hp).1).1
            rw [List.length_map]
            show p.1.length + 1 ≤ 100000
            omega)) (by unfold enSt; rw [List.map_append]; rfl))) fun d h => by rw [h, filt_true, List.map_map (g := enSt)]; rfl) S4 S4.lim (fun d σ5 H5 p5 S5 => WS.nil (kN _ _ _ _ ⟨rfl, (fs.flatMap fun a => bs.map fun b => (a, b)).map fun p => p.1 ++ [p.2], .d (enNs y), fun g hg => ?_, ?_, ?_⟩ S5)))
      · obtain ⟨p, hp, rfl⟩ := List.mem_map.mp hg
        obtain ⟨h1, h2⟩ := fm_mem hp
        obtain ⟨h3, h4⟩ := hfs p.1 h1
        refine ⟨by rw [List.length_append, h3]; rfl, fun b hb => ?_⟩
        rcases List.mem_append.mp hb with hb | hb
        · exact h4 b hb
        · rw [List.mem_singleton.mp hb]; exact h2
      · rw [List.length_map, fm_len, hfl, Nat.pow_succ]
      · subst p5
        rfl
    · obtain ⟨rfl, fs, v, hfs, hfl, rfl⟩ := hI
      refine WS.cons (w_ret (xd_var 5) S4 S4.lim fun d v H5 p5 S5 => hq _ _ _ _ _ _ _ ⟨fs, p5, by rw [hfl, hbl, many_pow]; rfl, fun st hst => ?_⟩ S5)
      obtain ⟨h1, h2⟩ := hfs st hst
      exact wf_of_okB h1 fun b hb => ⟨(hbs b (h2 b hb)).1, (hbs b (h2 b hb)).2⟩
end
end Tx


set_option Elab.async false
set_option linter.all false
set_option maxRecDepth 100000
set_option maxHeartbeats 4000000
set_option autoImplicit false
/-! D23: the law's own walk through stands. -/
namespace Tx
open PySem PySem.Spec L2 Lg Mo
section
variable {P : Program} {w : World} {K : PySem.W.Frag} {mg : Str → Option Value} {base : Heap} {f : Addr} {fd : FuncData}
theorem fits_Bx (b : List Int) : Fits 1 (enBx b) := Fits.tup (n := 0) fun d hd => by
  obtain ⟨n, _, rfl⟩ := List.mem_map.mp hd
  exact Fits.int _
theorem fits_St (st : Stand) : Fits 2 (enSt st) := Fits.tup (n := 1) fun d hd => by
  obtain ⟨n, _, rfl⟩ := List.mem_map.mp hd
  exact fits_Bx _
theorem fits_Ns (ns : List Nat) : Fits 2 (enNs ns) := (Fits.tup (n := 0) fun d hd => by
  obtain ⟨n, _, rfl⟩ := List.mem_map.mp hd
  exact Fits.int _).le (by decide)
theorem fits_steps (S : Sys) (st : Stand) (L : List (List Nat)) : Fits 60 (.lst (L.map (enStep S st))) := (Fits.lst (n := 3) fun d hd => by
  obtain ⟨hs, _, rfl⟩ := List.mem_map.mp hd
  refine Fits.tup (n := 2) fun e he => ?_
  rcases List.mem_cons.mp he with rfl | he
  · exact fits_Ns _
  · rw [List.mem_singleton.mp he]; exact fits_St _).le (by decide)
abbrev ar (S : Sys) (gs : List Go) (st : Stand) : Bool := gs.all fun g => right S g st
/-- what the law's walk needs: all right stays; else a step is there, and each lowers Φ -/
def CoOk (S : Sys) (ch : Str) (gs : List Go) (most : Int) : Prop := ∃ Φ : Stand → Int, (∀ st, WfSt S st → 0 ≤ Φ st ∧ Φ st ≤ most) ∧
  (∀ st, WfSt S st → ar S gs st = true → ∀ hs, Ch ch (ready S st) hs → ar S gs (act S st hs) = true) ∧
  (∀ st, WfSt S st → ar S gs st = false → 0 < Φ st ∧ (∃ hs, Ch ch (ready S st) hs) ∧ ∀ hs, Ch ch (ready S st) hs → Φ (act S st hs) < Φ st)
def mu (S : Sys) (Φ : Stand → Int) (st : Stand) : Nat := ((stands S).filter fun s => decide (Φ s < Φ st)).length
theorem mu_le {S : Sys} (hS : WfS S) (Φ : Stand → Int) (st : Stand) : mu S Φ st ≤ 100 := by
  have h1 : mu S Φ st ≤ (stands S).length := List.length_filter_le _ _
  rw [stands_len] at h1
  have := hS.small
  omega
theorem mu_lt {S : Sys} (hS : WfS S) {Φ : Stand → Int} {st st' : Stand} (h' : WfSt S st') (h : Φ st' < Φ st) : mu S Φ st' < mu S Φ st :=
  filt_lt (fun x _ hx => decide_eq_true (Int.lt_trans (of_decide_eq_true hx) h)) (mem_stands hS h') (decide_eq_true h) (decide_eq_false (Int.lt_irrefl _))
abbrev sCo : Stmt := top 82
abbrev coN : List Str := ["_law_feed_here", "_law_system_here", "_law_chooser", "_law_goals", "_law_most", "_law_stands_here", "_law_here", "_law_count", "_law_later", "_law_some"]
theorem scCo : FnScope coN ["_law_feed_here", "_law_system_here", "_law_chooser", "_law_goals", "_law_most"] (defScope sCo) := ⟨rfl, rfl, rfl, by decide +kernel, rfl, by decide +kernel, by decide +kernel⟩
abbrev spCo (K : PySem.W.Frag) (D : Nat) : Sp := spF K (fun _ => 110) (fun (x : Sys × Str × List Go × Int) ds => ds = [enS x.1, .str x.2.1, .lst (x.2.2.1.map enG), .int x.2.2.2] ∧ WfS x.1 ∧ x.2.2.1.length ≤ 100 ∧ (∀ g ∈ x.2.2.1, wfG x.1.n x.1.k g ∧ dpG g < D) ∧ CoOk x.1 x.2.1 x.2.2.1 x.2.2.2) fun _ d => d = .bl true
theorem ok_co {k D : Nat} (F : Fun K "_law_comes" "_law_comes" sCo f fd) (M : Bi mg) (G : Def P w K mg base CX0 k "_law_take" ["_law_feed_here", "_law_many"] (spTake K)) (G1 : Def P w K mg base CX0 k "_law_stands" ["_law_system_here"] (spSt K)) (G2 : Def P w K mg base CX0 k "_law_all_right" ["_law_system_here", "_law_goals", "_law_stand"] (spAr K D))
    (G3 : Def P w K mg base CX0 k "_law_steps" ["_law_system_here", "_law_chooser", "_law_stand"] (spSteps K)) : FnOk P w K mg base CX0 (k + 1) f fd ["_law_feed_here", "_law_system_here", "_law_chooser", "_law_goals", "_law_most"] (spCo K D) := by
  refine Fun.okF F scCo (by decide) (fun y ds h => by obtain ⟨rfl, _⟩ := h; rfl) fun cdv A outer s0 H E hr y ds B σ Q p hlim S0 hq => ?_
  obtain ⟨S, ch, gs, most⟩ := y
  obtain ⟨rfl, hS, hl, hg, Φ, hΦ, hstay, hfall⟩ : ds = [enS S, .str ch, .lst (gs.map enG), .int most] ∧ WfS S ∧ gs.length ≤ 100 ∧ (∀ g ∈ gs, wfG S.n S.k g ∧ dpG g < D) ∧ CoOk S ch gs most := p
  have hlim' : B.n + 110 ≤ LIM := hlim
  refine WS.cons (w_set 5 (P := fun d => ∃ L : List Stand, d = .lst (L.map enSt) ∧ L.length = many S ∧ ∀ st ∈ L, WfSt S st) (xe_call G1 hr pass0 (xl_cons (xd_var 1) xl_nil) fun ds p => ⟨S, ⟨p, hS⟩, fun d h => h⟩) S0 S0.lim (fun d σ1 H1 p1 S1 => ?_) scCo.nd)
  obtain ⟨L, rfl, hL, hwf⟩ := p1
  have hm := hS.small
  have hm1 : 1 ≤ many S := by
    rw [many_pow]
    exact Nat.pow_pos (prod_pos fun s hs => (hS.sz s hs).1)
  refine WS.cons (w_set 6 (P := fun r => ∃ st, WfSt S st ∧ r = enSt st) (xe_ixL (ds := L.map enSt) (XD.ls (xd_var 5)) (xe_take 0 (m := many S) (P' := fun r => ∃ v : Nat, v < many S ∧ r = nD v) G hr (xd_is (xd_len M.len (ds := L.map enSt) (XD.ls (xd_var 5))) (by rw [List.length_map, hL]; rfl)) hm1 (by omega) fun v hv => ⟨v, hv, rfl⟩) fun db h => by
    obtain ⟨v, hv, rfl⟩ := h
    have hv2 : v < L.length := by omega
    refine ⟨v, enSt L[v], rfl, atI_nat ?_, L[v], hwf _ (List.getElem_mem hv2), rfl⟩
    rw [List.getElem?_map, List.getElem?_eq_getElem hv2]; rfl) S1 (by show B.n + 0 + 1 ≤ _; omega) (fun r σ2 H2 p2 S2 => ?_) scCo.nd)
  obtain ⟨st0, hst0, rfl⟩ := p2
  refine WS.cons (w_set 7 (P := fun d => d = .int 0) xd_int S2 S2.lim (fun d σ3 H3 p3 S3 => ?_) scCo.nd)
  subst p3
  refine WS.cons (w_set 8 (P := fun d => d = .int 0) xd_int S3 S3.lim (fun d σ4 H4 p4 S4 => ?_) scCo.nd)
  subst p4
  refine WS.cons (w_while (fun m B' O' ρ' => O' = [] ∧ ∃ (t : Nat) (st : Stand) (cn : Int) (la : Nat) (u : Sl), B' = B.add t ∧ t + m ≤ 107 ∧ WfSt S st ∧ la ≤ 4 ∧ (0 < la → ar S gs st = true) ∧ (la = 0 → cn + Φ st ≤ most) ∧ m = (if la = 0 then 5 + mu S Φ st else 4 - la) ∧ ρ' = [.fd, .d (enS S), .d (.str ch), .d (.lst (gs.map enG)), .d (.int most), .d (.lst (L.map enSt)), .d (enSt st), .d (.int cn), .d (nD la), u])
    (5 + mu S Φ st0) PassesOwn.never S4 ⟨rfl, 1, st0, 0, 0, .u, rfl, ?_, hst0, by decide, fun h => absurd h (by decide), fun _ => ?_, rfl, rfl⟩ fun m B' O' ρ' hI => ?_)
  · have := mu_le hS Φ st0
    omega
  · have := (hΦ st0 hst0).2
    omega
  · obtain ⟨rfl, t, st, cn, la, u, rfl, htm, hst, hla, hlar, hcn, rfl, rfl⟩ := hI
    refine ⟨decide ((la : Int) < 4), xb_lt (xd_var 8) xd_int, fun ht T' σ' H' N S5 kN => ?_, fun ht σ' H' S5 => ?_⟩
    · have hla4 : la < 4 := by have := of_decide_eq_true ht; omega
      have xar : ∀ (n : Nat), True := fun _ => trivial
      have lk : ∀ (Ls : List (List Nat)) (v : Nat), v < Ls.length → Chs ch (ready S st) Ls → ∃ hs, Ch ch (ready S st) hs ∧ WfSt S (act S st hs) ∧ (Ls.map (enStep S st))[v]? = some (enStep S st hs) := fun Ls v hv hLs => by
        have hc := (hLs.1 _).mp (List.getElem_mem hv)
        obtain ⟨c1, c2, c3⟩ := ch_ok (ready_asc S st) hc
        exact ⟨Ls[v], hc, wf_act hS hst c3, by rw [List.getElem?_map, List.getElem?_eq_getElem hv]; rfl⟩
      by_cases har : ar S gs st = true
      · -- all right
        refine WS.cons (w_ifT (xb_val (xd_call (S, gs, st) G2 hr pass0 (xl_cons (xd_var 1) (xl_cons (xd_var 3) (xl_cons (xd_var 6) xl_nil))) ⟨rfl, hS, hst, hl, hg⟩ fun d' h => h)) har S5 fun H6 S6 => ?_)
        refine WS.cons (w_set 8 (P := fun d => d = nD (la + 1)) (xd_is (xd_add (xd_var 8) xd_int) (by rfl)) S6 S6.lim (fun d σ7 H7 p7 S7 => WS.nil ?_) scCo.nd)
        subst p7
        refine WS.cons (w_set 9 (P := fun d => ∃ Ls, Chs ch (ready S st) Ls ∧ d = .lst (Ls.map (enStep S st))) (xe_call G3 hr pass0 (xl_cons (xd_var 1) (xl_cons (xd_var 2) (xl_cons (xd_var 6) xl_nil))) fun ds p => ⟨(S, ch, st), ⟨p, hS, hst⟩, fun d h => h⟩) S7 S7.lim (fun d σ8 H8 p8 S8 => ?_) scCo.nd)
        obtain ⟨Ls, hLs, rfl⟩ := p8
        by_cases hnil : Ls = []
        · refine WS.cons (w_ifT (xb_eqNil hr (fits_steps S st Ls) (xd_var 9)) (by rw [hnil]; rfl) S8 fun H9 S9 => ?_)
          exact WS.cons (w_ret (P := fun d => d = .bl true) (xd_call (S, gs, st) G2 hr pass0 (xl_cons (xd_var 1) (xl_cons (xd_var 3) (xl_cons (xd_var 6) xl_nil))) ⟨rfl, hS, hst, hl, hg⟩ fun d' h => by rw [h]; exact congrArg Dt.bl har) S9 S9.lim fun r v H10 p10 S10 => hq _ _ _ _ _ _ _ _ p10 (by show B.n + t + 0 ≤ B.n + 110; omega) S10)
        · refine WS.cons (w_ifF (xb_eqNil hr (fits_steps S st Ls) (xd_var 9)) (by cases Ls with | nil => exact absurd rfl hnil | cons a b => rfl) S8 fun H9 S9 => WS.nil ?_)
          have hLl : 1 ≤ Ls.length := by cases Ls with | nil => exact absurd rfl hnil | cons a b => exact Nat.succ_pos _
          refine WS.cons (w_set 6 (P := fun r => ∃ hs, Ch ch (ready S st) hs ∧ WfSt S (act S st hs) ∧ r = enSt (act S st hs)) (xe_ixT (Pa := fun r => ∃ hs, Ch ch (ready S st) hs ∧ WfSt S (act S st hs) ∧ r = enStep S st hs) (Pb := fun r => r = .int 1) (xe_ixL (ds := Ls.map (enStep S st)) (XD.ls (xd_var 9)) (xe_take 0 (m := Ls.length) (P' := fun r => ∃ v : Nat, v < Ls.length ∧ r = nD v) G hr (xd_is (xd_len M.len (ds := Ls.map (enStep S st)) (XD.ls (xd_var 9))) (by rw [List.length_map]; rfl)) hLl (by have := hLs.2; omega) fun v hv => ⟨v, hv, rfl⟩) fun db h => by
            obtain ⟨v, hv, rfl⟩ := h
            obtain ⟨hs, h1, h2, h3⟩ := lk Ls v hv hLs
            exact ⟨v, _, rfl, atI_nat h3, hs, h1, h2, rfl⟩) xd_int (fun da db h1 h2 => by
            obtain ⟨hs, g1, g2, rfl⟩ := h1
            exact ⟨_, 1, _, rfl, h2, rfl, hs, g1, g2, rfl⟩)) S9 (by show B.n + t + 0 + 1 ≤ _; omega) (fun r σ10 H10 p10 S10 => ?_) scCo.nd)
          obtain ⟨hs, hch, hwf', rfl⟩ := p10
          refine WS.cons (w_set 7 (P := fun d => d = .int cn) (xd_is (xd_add (xd_var 7) (xd_intB M.int (xd_eq (xd_var 8) xd_int))) (by rw [decide_eq_false (by omega : ¬ ((la + 1 : Nat) : Int) = 0)]; show Dt.int (cn + 0) = _; rw [Int.add_zero])) S10 S10.lim (fun d σ11 H11 p11 S11 => ?_) scCo.nd)
          subst p11
          refine WS.nil (kN (3 - la) _ _ _ _ _ (by split <;> omega) ⟨rfl, t + 1, act S st hs, cn, la + 1, _, rfl, ?_, hwf', by omega, fun _ => hstay st hst har hs hch, fun h => absurd h (by omega), by rw [if_neg (by omega)]; omega, rfl⟩ S11)
          split at htm <;> omega
      · have har' : ar S gs st = false := by cases h : ar S gs st with | true => exact absurd h har | false => rfl
        obtain ⟨f1, ⟨hs0, f2⟩, f3⟩ := hfall st hst har'
        have hla0 : la = 0 := by
          rcases Nat.eq_zero_or_pos la with h | h
          · exact h
          · exact absurd (hlar h) har
        subst hla0
        have hcn0 := hcn rfl
        refine WS.cons (w_ifF (xb_val (xd_call (S, gs, st) G2 hr pass0 (xl_cons (xd_var 1) (xl_cons (xd_var 3) (xl_cons (xd_var 6) xl_nil))) ⟨rfl, hS, hst, hl, hg⟩ fun d' h => h)) har' S5 fun H6 S6 => ?_)
        refine WS.cons (w_ifF (xb_or2 (xb_gt (xd_var 8) xd_int) fun _ => xb_eq (xd_var 7) (xd_var 4)) (by rw [decide_eq_false (by omega)]; exact decide_eq_false (by omega)) S6 fun H7 S7 => WS.nil (WS.nil ?_))
        refine WS.cons (w_set 9 (P := fun d => ∃ Ls, Chs ch (ready S st) Ls ∧ d = .lst (Ls.map (enStep S st))) (xe_call G3 hr pass0 (xl_cons (xd_var 1) (xl_cons (xd_var 2) (xl_cons (xd_var 6) xl_nil))) fun ds p => ⟨(S, ch, st), ⟨p, hS, hst⟩, fun d h => h⟩) S7 S7.lim (fun d σ8 H8 p8 S8 => ?_) scCo.nd)
        obtain ⟨Ls, hLs, rfl⟩ := p8
        have hnil : Ls ≠ [] := fun z => by
          have := (hLs.1 hs0).mpr f2
          rw [z] at this
          cases this
        refine WS.cons (w_ifF (xb_eqNil hr (fits_steps S st Ls) (xd_var 9)) (by cases Ls with | nil => exact absurd rfl hnil | cons a b => rfl) S8 fun H9 S9 => WS.nil ?_)
        have hLl : 1 ≤ Ls.length := by cases Ls with | nil => exact absurd rfl hnil | cons a b => exact Nat.succ_pos _
        refine WS.cons (w_set 6 (P := fun r => ∃ hs, Ch ch (ready S st) hs ∧ WfSt S (act S st hs) ∧ r = enSt (act S st hs)) (xe_ixT (Pa := fun r => ∃ hs, Ch ch (ready S st) hs ∧ WfSt S (act S st hs) ∧ r = enStep S st hs) (Pb := fun r => r = .int 1) (xe_ixL (ds := Ls.map (enStep S st)) (XD.ls (xd_var 9)) (xe_take 0 (m := Ls.length) (P' := fun r => ∃ v : Nat, v < Ls.length ∧ r = nD v) G hr (xd_is (xd_len M.len (ds := Ls.map (enStep S st)) (XD.ls (xd_var 9))) (by rw [List.length_map]; rfl)) hLl (by have := hLs.2; omega) fun v hv => ⟨v, hv, rfl⟩) fun db h => by
          obtain ⟨v, hv, rfl⟩ := h
          obtain ⟨hs, h1, h2, h3⟩ := lk Ls v hv hLs
          exact ⟨v, _, rfl, atI_nat h3, hs, h1, h2, rfl⟩) xd_int (fun da db h1 h2 => by
          obtain ⟨hs, g1, g2, rfl⟩ := h1
          exact ⟨_, 1, _, rfl, h2, rfl, hs, g1, g2, rfl⟩)) S9 (by show B.n + t + 0 + 1 ≤ _; omega) (fun r σ10 H10 p10 S10 => ?_) scCo.nd)
        obtain ⟨hs, hch, hwf', rfl⟩ := p10
        refine WS.cons (w_set 7 (P := fun d => d = .int (cn + 1)) (xd_is (xd_add (xd_var 7) (xd_intB M.int (xd_eq (xd_var 8) xd_int))) (by rfl)) S10 S10.lim (fun d σ11 H11 p11 S11 => ?_) scCo.nd)
        subst p11
        have hmu := mu_lt hS hwf' (f3 hs hch)
        rw [if_pos rfl] at htm
        refine WS.nil (kN (5 + mu S Φ (act S st hs)) _ _ _ _ _ (by rw [if_pos rfl]; omega) ⟨rfl, t + 1, act S st hs, cn + 1, 0, _, rfl, by omega, hwf', by decide, fun h => absurd h (by decide), fun _ => ?_, rfl, rfl⟩ S11)
        have := f3 hs hch
        omega
    · refine WS.cons (w_ret (P := fun d => d = .bl true) xd_bl S5 S5.lim fun r v H10 p10 S10 => hq _ _ _ _ _ _ _ _ p10 (by show B.n + t + 0 ≤ B.n + 110; omega) S10)
end
end Tx


set_option Elab.async false
set_option linter.all false
set_option maxRecDepth 100000
set_option maxHeartbeats 4000000
set_option autoImplicit false
/-! D24: the law's own papers. -/
namespace Tx
open PySem PySem.Spec L2 Lg Mo
theorem cut_to {α : Type} (xs : List α) {j : Nat} (h : j ≤ xs.length) : cutD xs none (some (j : Int)) = xs.take j := by
  unfold cutD
  rw [HT.sIx_nat, HT.sIx_none, List.drop_zero, Nat.sub_zero, Nat.min_eq_left h]
theorem cut_from {α : Type} (xs : List α) {j : Nat} (h : j ≤ xs.length) : cutD xs (some (j : Int)) none = xs.drop j := by
  unfold cutD
  rw [HT.sIx_nat, HT.sIx_none, Nat.min_eq_left h, List.take_of_length_le (by rw [List.length_drop]; omega)]
theorem fits_Zs (l : List Int) : Fits 1 (enZs l) := Fits.tup (n := 0) fun d hd => by
  obtain ⟨n, _, rfl⟩ := List.mem_map.mp hd
  exact Fits.int _
theorem fits_P (p : List (List Int)) : Fits 60 (enP p) := (Fits.tup (n := 1) fun d hd => by
  obtain ⟨l, _, rfl⟩ := List.mem_map.mp hd
  exact fits_Zs l).le (by decide)
section
variable {X : Cx} {O : List (Addr × Ow)} {ρ : List Sl} {c : Nat} {pos : Pos} {a b : Expr} {kk : Nat}
/-- a + e of numbers, e drawn -/
theorem xe_addZ {i : Int} (ha : XD X a O ρ (.int i)) (hb : XE X b O ρ c (fun d => ∃ j : Int, d = .int j)) : XE X (.BinOp a .Add b pos) O ρ c (fun d => ∃ j : Int, d = .int j) :=
  EvP.more (xe_op op_add ha hb fun da db p1 p2 => by
    subst p1
    obtain ⟨j, rfl⟩ := p2
    exact fun B F T σ H x y Q S q => rv_I0 (g := fun i j => .int (i + j)) (d := .int (i + j)) (.int _) rfl B F T σ H x y Q S fun d v2 H2 pd S2 => q d v2 H2 ⟨_, pd⟩ S2) (by omega)
/-- xs + t of tuples, t drawn -/
theorem xe_catR {ds : List Dt} {Pt : List Dt → Prop} (ha : XD X a O ρ (.tup ds)) (hb : XE X b O ρ c (fun d => ∃ es, d = .tup es ∧ Pt es)) (hl : ∀ es, Pt es → ds.length + es.length ≤ 100000) : XE X (.BinOp a .Add b pos) O ρ c (fun d => ∃ es, d = .tup (ds ++ es) ∧ Pt es) :=
  EvP.more (xe_op op_catA ha hb fun da db p1 p2 => by
    subst p1
    obtain ⟨es, rfl, h⟩ := p2
    exact fun B F T σ H x y Q S q => rv_catT (hl es h) B F T σ H x y Q S fun d v2 H2 pd S2 => q d v2 H2 ⟨es, pd, h⟩ S2) (by omega)
theorem xe_catL {es : List Dt} {Pt : List Dt → Prop} (ha : XE X a O ρ c (fun d => ∃ ds, d = .tup ds ∧ Pt ds)) (hb : XD X b O ρ (.tup es)) (hl : ∀ ds, Pt ds → ds.length + es.length ≤ 100000) : XE X (.BinOp a .Add b pos) O ρ c (fun d => ∃ ds, d = .tup (ds ++ es) ∧ Pt ds) :=
  EvP.more (xe_op op_catA ha hb fun da db p1 p2 => by
    subst p2
    obtain ⟨ds, rfl, h⟩ := p1
    exact fun B F T σ H x y Q S q => rv_catT (hl ds h) B F T σ H x y Q S fun d v2 H2 pd S2 => q d v2 H2 ⟨ds, pd, h⟩ S2) (by omega)
theorem xe_one {k : Nat} {P : Dt → Prop} (ha : XE X a O ρ c P) (hs : starEach [a] X.env = (false, eval a X.env) :: starEach [] X.env := by rfl) : XE X (.Tuple [a] k pos) O ρ c (fun d => ∃ es, d = .tup es ∧ ∃ x, P x ∧ es = [x]) :=
  EvP.more (xe_tup (xa_cons ha xl_nil (P := fun ds => ∃ x, P x ∧ ds = [x]) (fun d ds h1 h2 => ⟨d, h1, by rw [h2]⟩) hs) fun ds h => by obtain ⟨x, h3, rfl⟩ := h; exact ⟨Nat.le_of_ble_eq_true rfl, _, rfl, x, h3, rfl⟩) (by omega)
end
section
variable {P : Program} {w : World} {K : PySem.W.Frag} {mg : Str → Option Value} {base : Heap} {f : Addr} {fd : FuncData}
abbrev sPp : Stmt := top 83
abbrev ppN : List Str := ["_law_feed_here", "_law_found", "_law_paper", "_law_some", "_law_one", "_law_number", "_law_k", "_law_s", "_law_numbers"]
theorem scPp : FnScope ppN ["_law_feed_here", "_law_found"] (defScope sPp) := ⟨rfl, rfl, rfl, by decide +kernel, rfl, by decide +kernel, by decide +kernel⟩
def x3 (p : List (List Int)) : List (List Int) := p.map fun l => l.map fun n => 3 * n
theorem pap_x3 {m n : Nat} {p : List (List Int)} (h : PapOk m n p) : PapOk m n (x3 p) := ⟨by unfold x3; rw [List.length_map, h.1], fun l hl => by
  obtain ⟨l0, h0, rfl⟩ := List.mem_map.mp hl
  rw [List.length_map, h.2 l0 h0]⟩
def prePp (x : Nat × Nat) (ds : List Dt) : Prop := 1 ≤ x.1 ∧ x.1 ≤ 100 ∧ 1 ≤ x.2 ∧ x.2 ≤ 100 ∧ ∃ d, ds = [d] ∧ ((∃ ds, d = .tup (.str "fails" :: ds)) ∨ ∃ p z, PapOk x.1 x.2 p ∧ d = .tup [.str "rights", enP p, .int z])
abbrev spPp (K : PySem.W.Frag) : Sp := spF K (fun _ => 3) prePp fun x d => ∃ ps : List (List (List Int)), d = .lst (ps.map enP) ∧ ps.length ≤ 3 ∧ ∀ p ∈ ps, p = [] ∨ PapOk x.1 x.2 p
theorem ok_pp {k : Nat} (F : Fun K "_law_papers" "_law_papers" sPp f fd) (M : Bi mg) (G : Def P w K mg base CX0 k "_law_take" ["_law_feed_here", "_law_many"] (spTake K)) : FnOk P w K mg base CX0 (k + 1) f fd ["_law_feed_here", "_law_found"] (spPp K) := by
  refine Fun.okF F scPp (by decide) (fun y ds h => by obtain ⟨_, _, _, _, d, rfl, _⟩ := h; rfl) fun cdv A outer s0 H E hr y ds B σ Q p hlim S0 hq => ?_
  obtain ⟨m, n⟩ := y
  obtain ⟨hm1, hm2, hn1, hn2, dF, rfl, hF⟩ : 1 ≤ m ∧ m ≤ 100 ∧ 1 ≤ n ∧ n ≤ 100 ∧ ∃ d, ds = [d] ∧ ((∃ ds, d = .tup (.str "fails" :: ds)) ∨ ∃ p z, PapOk m n p ∧ d = .tup [.str "rights", enP p, .int z]) := p
  have hlim' : B.n + 3 ≤ LIM := hlim
  refine WS.cons (w_set 2 (P := fun r => ∃ p, (p = [] ∨ PapOk m n p) ∧ r = enP p) (c := 0) ?_ S0 S0.lim (fun d σ1 H1 p1 S1 => ?_) scPp.nd)
  · rcases hF with ⟨ds', rfl⟩ | ⟨p, z, hp, rfl⟩
    · exact EvP.imp (xd_ite (d := .tup []) (xb_eqS (x := "fails") (y := "rights") (xd_ixT (xd_var 1) xd_int (atI_nat (j := 0) rfl)) xd_str) (fun h => by cases h) (fun _ => xd_tup xl_nil)) fun r hr => ⟨[], .inl rfl, hr⟩
    · exact EvP.imp (xd_ite (d := enP p) (xb_eqS (x := "rights") (y := "rights") (xd_ixT (xd_var 1) xd_int rfl) xd_str) (fun _ => xd_ixT (xd_var 1) xd_int rfl) (fun h => by cases h)) fun r hr => ⟨p, .inr hp, hr⟩
  · obtain ⟨p, hp, rfl⟩ := p1
    have hpl : p.length ≤ 100 := by
      rcases hp with rfl | h
      · decide
      · rw [h.1]; exact hn2
    have hpr : ∀ l ∈ p, l.length ≤ 100 := fun l hl => by
      rcases hp with rfl | h
      · cases hl
      · rw [h.2 l hl]; exact hm2
    refine WS.cons (w_own 3 (Pw := fun w => w = .lst [enP p, enP (x3 p)]) (c := 0) (xn_lst (Pl := fun ds => ds = [enP p, enP (x3 p)]) (xl_cons (xd_var 2) (xl_cons (xd_tuple (ds := (x3 p).map enZs) M.tuple (XD.ls (xe_lcO rfl scPp.nd (blkOk_by (N := ppN) (sc := defScope sPp) (own := [("_law_one", 4)]) (by decide +kernel)) (EvP.imp
      (ev_lcD [("_law_one", 4)] enZs (fun _ => true) (fun l => enZs (l.map fun n => 3 * n)) p (ρt := fun l => [.fd, .d dF, .d (enP p), .u, .d (enZs l), .u, .u, .u, .u]) (is := [4])
        (xj_tup (xd_var 2)) (fun i h => h) (by omega) (fun l hl s H0 C cl fp => xg_name 4 scPp.nd) (fun l hl s H0 C cl fp => EvT.imp xts_nil fun b h => h) (fun l hl _ s H0 C cl fp => ?_)) fun d h => by rw [h, filt_true]; unfold x3; rw [List.map_map]; rfl)))) xl_nil)) fun ds h => by subst h; exact ⟨Nat.le_of_ble_eq_true rfl, rfl⟩) S1 S1.lim (fun q w1 σ2 H2 pw S2 => ?_) scPp.nd)
    · exact xd_tuple (ds := (l.map fun n => 3 * n).map Dt.int) M.tuple (XD.ls (xe_lcO rfl scPp.nd (blkOk_by (own := [("_law_number", 5)]) (by kernel_rfl)) (EvP.imp
        (ev_lcD [("_law_number", 5)] Dt.int (fun _ => true) (fun n => .int (3 * n)) l (ρt := fun n => [.fd, .d dF, .d (enP p), .u, .d (enZs l), .d (.int n), .u, .u, .u]) (is := [5])
          (xj_tup (xd_var 4)) (fun i h => h) (by have := hpr l hl; omega) (fun l hl s H0 C cl fp => xg_name 5 scPp.nd) (fun l hl s H0 C cl fp => EvT.imp xts_nil fun b h => h) (fun n hn _ s H0 C cl fp => xd_mul xd_int (xd_var 5) (.inl (by decide)))) fun d h => by rw [h, filt_true, List.map_map]; rfl)))
    · subst pw
      have fin : ∀ (ps : List (List (List Int))) (ρ' : List Sl) (t : Nat) σ' H', (∀ p ∈ ps, p = [] ∨ PapOk m n p) → ps.length ≤ 3 → t ≤ 3 → ρ'[3]? = some (.o q) → Sat K (B.add t) [(q, .lst (ps.map enP))] ρ' [] σ' H' → WS (cxOf CX0 P w K mg base ppN "_law_papers" (defScope sPp) f cdv A outer s0 H E).nox ((defBody sPp).drop 3) { nx := fun _ H' => Q .non H', rt := Q } σ' H' := fun ps ρ' t σ' H' h1 h2 h3 h4 S3 =>
        WS.cons (w_retOwn 3 S3 (fun v H5 S5 => hq _ _ _ _ _ _ _ _ ⟨ps, rfl, h2, h1⟩ (by show B.n + t ≤ B.n + 3; omega) S5) h4)
      have hx : ∀ r ∈ [p, x3 p], r = [] ∨ PapOk m n r := fun r hr => by
        rcases List.mem_cons.mp hr with rfl | hr
        · exact hp
        · rw [List.mem_singleton.mp hr]
          rcases hp with rfl | h
          · exact .inl rfl
          · exact .inr (pap_x3 h)
      rcases hp with rfl | hp
      · refine WS.cons (w_ifF (xb_neNilT hr (fits_P []) (xd_var 2)) rfl S2 fun H3 S3 => WS.nil ?_)
        exact fin [[], x3 []] _ 0 _ _ hx (by decide) (by decide) rfl S3
      · have hne : (!(p.map enZs).isEmpty) = true := by
          cases p with
          | nil => have := hp.1; simp at this; omega
          | cons a b => rfl
        refine WS.cons (w_ifT (xb_neNilT hr (fits_P p) (xd_var 2)) hne S2 fun H3 S3 => ?_)
        refine WS.cons (w_set 6 (P := fun r => ∃ v : Nat, v < n ∧ r = nD v) (xe_take 0 (m := n) G hr (xd_is (xd_lenT M.len (ds := p.map enZs) (xd_var 2)) (by rw [List.length_map, hp.1]; rfl)) hn1 (by omega) fun v hv => ⟨v, hv, rfl⟩) S3 (by show B.n + 0 + 0 + 0 + 1 ≤ _; omega) (fun r σ4 H4 p4 S4 => ?_) scPp.nd)
        obtain ⟨kk, hkk, rfl⟩ := p4
        have hkl : kk < p.length := by rw [hp.1]; exact hkk
        have hrow : ∀ {ρ' : List Sl}, (p.map enZs)[kk]? = some (enZs p[kk]) := fun {ρ'} => by rw [List.getElem?_map, List.getElem?_eq_getElem hkl]; rfl
        have hlen := hp.2 _ (List.getElem_mem hkl)
        refine WS.cons (w_set 7 (P := fun r => ∃ v : Nat, v < m ∧ r = nD v) (xe_take 0 (m := m) G hr (xd_is (xd_lenT M.len (ds := p[kk].map Dt.int) (xd_ixT (xd_var 2) (xd_var 6) (atI_nat (hrow (ρ' := []))))) (by rw [List.length_map, hlen]; rfl)) hm1 (by omega) fun v hv => ⟨v, hv, rfl⟩) S4 (by show B.n + 0 + 0 + 0 + 1 + 1 ≤ _; omega) (fun r σ5 H5 p5 S5 => ?_) scPp.nd)
        obtain ⟨ss, hss, rfl⟩ := p5
        have hsl : ss < p[kk].length := by rw [hlen]; exact hss
        have hsl' : ss < (p[kk].map Dt.int).length := by rw [List.length_map]; exact hsl
        refine WS.cons (w_set 8 (c := 1) (P := fun r => ∃ l : List Int, l.length = m ∧ r = enZs l) (EvP.imp (xe_catL (Pt := fun ds => ∃ z : Int, ds = (p[kk].map Dt.int).take ss ++ [.int z]) (es := (p[kk].map Dt.int).drop (ss + 1))
          (EvP.imp (xe_catR (ds := (p[kk].map Dt.int).take ss) (Pt := fun es => ∃ x, (∃ j : Int, x = .int j) ∧ es = [x]) (xd_is (xd_slT (xd_ixT (xd_var 2) (xd_var 6) (atI_nat (hrow (ρ' := [])))) xo_none (xo_some (xd_var 7))) (by rw [cut_to _ (Nat.le_of_lt hsl')]))
            (xe_one (xe_addZ (i := p[kk][ss]) (xd_ixT (xd_ixT (xd_var 2) (xd_var 6) (atI_nat (hrow (ρ' := [])))) (xd_var 7) (atI_nat (by rw [List.getElem?_map, List.getElem?_eq_getElem hsl]; rfl))) (xe_take 0 (m := 3) (P' := fun r => ∃ j : Int, r = .int j) G hr xd_int (by decide) (by decide) fun v hv => ⟨_, rfl⟩)))
            (fun es h => by obtain ⟨x, _, rfl⟩ := h; have := hpr _ (List.getElem_mem hkl); rw [List.length_take, List.length_map]; show _ + 1 ≤ _; omega)) (fun d h => by
              obtain ⟨es, rfl, x, ⟨z, rfl⟩, rfl⟩ := h
              exact ⟨_, rfl, z, rfl⟩))
          (xd_is (xd_slT (xd_ixT (xd_var 2) (xd_var 6) (atI_nat (hrow (ρ' := [])))) (xo_some (xd_is (xd_add (xd_var 7) xd_int) (d' := nD (ss + 1)) rfl)) xo_none) (by rw [cut_from _ hsl']))
          (fun ds h => by obtain ⟨z, rfl⟩ := h; have := hpr _ (List.getElem_mem hkl); rw [List.length_append, List.length_take, List.length_drop, List.length_map]; show _ + 1 + _ ≤ _; omega)) (fun d h => by
            obtain ⟨ds, rfl, z, rfl⟩ := h
            refine ⟨p[kk].take ss ++ [z] ++ p[kk].drop (ss + 1), by rw [List.length_append, List.length_append, List.length_take, List.length_drop, hlen]; show _ + 1 + _ = _; omega, ?_⟩
            show _ = Dt.tup _
            rw [List.map_append, List.map_append, List.map_take, List.map_drop]; rfl)) S5 (by show B.n + 0 + 0 + 0 + 1 + 1 + 1 ≤ _; omega) (fun r σ6 H6 p6 S6 => ?_) scPp.nd)
        obtain ⟨l, hll, rfl⟩ := p6
        have hkl' : kk < (p.map enZs).length := by rw [List.length_map]; exact hkl
        refine WS.cons (w_append 3 (A := []) (C := []) (P := fun d => d = enP (p.take kk ++ [l] ++ p.drop (kk + 1))) (c := 0) (xd_is (xd_catT (ds := (p.map enZs).take kk ++ [enZs l]) (es := (p.map enZs).drop (kk + 1)) (xd_catT (ds := (p.map enZs).take kk) (es := [enZs l]) (xd_is (xd_slT (xd_var 2) xo_none (xo_some (xd_var 6))) (by rw [cut_to _ (Nat.le_of_lt hkl')])) (xd_tup (xl_cons (xd_var 8) xl_nil)) (by rw [List.length_take, List.length_map]; show _ + 1 ≤ _; omega))
          (xd_is (xd_slT (xd_var 2) (xo_some (xd_is (xd_add (xd_var 6) xd_int) (d' := nD (kk + 1)) rfl)) xo_none) (by rw [cut_from _ hkl'])) (by rw [List.length_append, List.length_take, List.length_drop, List.length_map]; show _ + 1 + _ ≤ _; omega))
          (by unfold enP; rw [List.map_append, List.map_append, List.map_take, List.map_drop]; rfl)) S6 (by show B.n + 0 + 0 + 0 + 1 + 1 + 1 + 0 ≤ _; omega) (Nat.le_of_ble_eq_true rfl) (fun d H7 hd S7 => WS.nil ?_))
        subst hd
        refine fin [p, x3 p, p.take kk ++ [l] ++ p.drop (kk + 1)] _ 3 _ _ (fun r hr => ?_) (Nat.le_refl 3) (by decide) rfl S7
        rcases List.mem_cons.mp hr with rfl | hr
        · exact .inr hp
        rcases List.mem_cons.mp hr with rfl | hr
        · exact .inr (pap_x3 hp)
        rw [List.mem_singleton.mp hr]
        refine .inr ⟨by have := hp.1; rw [List.length_append, List.length_append, List.length_take, List.length_drop]; show _ + 1 + _ = _; omega, fun x hx => ?_⟩
        rcases List.mem_append.mp hx with hx | hx
        · rcases List.mem_append.mp hx with hx | hx
          · exact hp.2 x (List.mem_of_mem_take hx)
          · rw [List.mem_singleton.mp hx]; exact hll
        · exact hp.2 x (List.mem_of_mem_drop hx)
end
end Tx


set_option Elab.async false
set_option linter.all false
set_option maxRecDepth 100000
set_option maxHeartbeats 4000000
set_option autoImplicit false
/-! D25: an exception class above by its name: E.__init__(self, ..). -/
namespace Lg
open PySem PySem.Spec L2 PyProof.Rows
section
variable {X : Cx} {e : Expr} {es : List Expr} {ta : TA} {x : Str} {p p1 p2 pos : Pos} {C0 : Addr}
theorem method_ref {prog : Program} {w : World} {h₀ : Heap} {K : PySem.W.Frag} {A : Around} {s : Shared} {L : List Env} {m : List (Str × Value)} {name : Str} {v : Value} {E : Value → Shared → Prop} {pl : Sem Bool} {Q : Value × List Value → Shared → Prop} (X : K.In s.heap) (ho : PySem.W.nsIn K cStatics "thirdparty.any" = some none) (ht : PySem.W.typeIn K (.ref C0) = some (.type "type"))
    (e : PySem.W.findCls K (.ref C0) (.type "type") name = some (.val v)) (hh : PySem.W.handedIn v = true) (h : Q (v, []) { s with toks := s.toks + 1 }) : wpAny (model prog w) A (getMethod (.ref C0) name pl) Q E s := by
  have L0 : PySem.W.Looks (model prog w) s.heap (typeOf (.ref C0)) (.type "type") := PySem.W.looks_typeIn X ht
  have hg : PySem.W.findIn K (.type "type") "__getattribute__" = some (some (.builtin "type.__getattribute__")) := PySem.W.type_tga
  unfold getMethod specialOf
  refine wpAny_bind (wpAny_bind (L0.here ((PySem.W.looks_findIn X hg).here ?_)))
  dsimp only
  rw [if_pos PySem.W.canon_tga]
  refine wpAny_bind (wpAny_mono (Q := fun v => Q (v, [])) (E := E) ?_ (fun _ _ z => wpAny_pure z) fun _ _ z => z)
  refine PySem.W.cls_open X (PySem.W.looks_opaque X ho) L0 hg (PySem.W.looks_hook X (r := none) (by rfl)) (by show PySem.W.subIn K _ _ = _; rfl) e
    (wpAny_pure (by show wpAny _ _ (handedOut v) _ _ _; rw [PySem.W.handedOut_of hh]; exact wpAny_pure h))
/-- E.__init__(self, ..) where E is a class above whose __init__ is ValueError's -/
theorem pe_ceinit {pl : Sem Bool} (hg : Gl X x) (hm : X.mg x = some (.ref C0)) (ho : PySem.W.nsIn X.K cStatics "thirdparty.any" = some none) (ht : PySem.W.typeIn X.K (.ref C0) = some (.type "type"))
    (vV : PySem.W.findCls X.K (.ref C0) (.type "type") "__init__" = some (.val (.builtin "ValueError.__init__"))) (ha : PA X (e :: es) ta) (hdb : (x == ("__debug__" : Str)) = false := by decide)
    (hc : eval (.Call (.Attribute (.Name x p1) "__init__" p2) (e :: es) [] pos) X.env = (do
      let ov ← eval (.Name x p1) X.env
      standAt p2.atName
      let (f, first) ← holding [ov] (getMethod ov "__init__" pl)
      callWith pos f first (backTo pos (starEach (e :: es) X.env)) (backToKw pos (keywordEach [] X.env))) := by rfl)
    (he : starEach (e :: es) X.env = (false, eval e X.env) :: starEach es X.env := by rfl) (hpl : (backTo pos (starEach es X.env)).any (·.1) = false := by rfl) :
    PE X (.Call (.Attribute (.Name x p1) "__init__" p2) (e :: es) [] pos) (tVeI X.K ta) := by
  refine ⟨fun pins s σ H Q I h => ?_⟩
  refine PySem.W.methodCall_KW (ld_glob I hg hm ?_ hdb) hc
  refine method_ref (h₀ := X.base) (L := []) (m := []) I.kIn ho ht vV (by decide +kernel) ?_
  show wpAny _ _ (callWith pos (Value.builtin "ValueError.__init__") [] (backTo pos (starEach (e :: es) X.env)) []) _ _ _
  refine PyProof.Rows.callWith_method1 (thn (ha.run pos pins _ σ H _ (I.tok _) h) fun us s1 ⟨vs, H1, I1, r1, a, C, ws, ev, hl, T, ea, q⟩ => ?_) he hpl
  subst ev
  cases r1 with
  | @cons _ u0 _ ur ra rw' =>
    obtain rfl : u0 = Value.ref a := ra
    have hlen : ur.length ≤ sizeLine := by
      rw [← Paired.length rw', sizeLine_eq]
      omega
    exact oinit_ok T I1 ea hlen fun s' J => ⟨.non, H1, J, rfl, q⟩
end
end Lg


set_option Elab.async false
set_option linter.all false
set_option maxRecDepth 100000
set_option maxHeartbeats 4000000
set_option autoImplicit false
/-! D26: the error NoPaper, its making. -/
namespace Tx
open PySem PySem.Spec L2 Lg Mo
abbrev sNoC : Stmt := top 3
abbrev sNo : Stmt := inClass sNoC 0
theorem scNo : FnScope ["self", "word", "number"] ["self", "word", "number"] (defScope sNo) := ⟨rfl, rfl, rfl, by decide +kernel, rfl, by decide +kernel, by decide +kernel⟩
/-- what is known of the two classes: NoPaper at C, RightError at C0 -/
structure NoC (K : PySem.W.Frag) (mg : Str → Option Value) (C C0 : Addr) : Prop where
  oex : OexC K C
  n1 : PySem.W.findIn K (.ref C) "word" = some none
  n2 : PySem.W.findIn K (.ref C) "number" = some none
  g0 : mg "RightError" = some (.ref C0)
  ho : PySem.W.nsIn K cStatics "thirdparty.any" = some none
  t0 : PySem.W.typeIn K (.ref C0) = some (.type "type")
  vV : PySem.W.findCls K (.ref C0) (.type "type") "__init__" = some (.val (.builtin "ValueError.__init__"))
section
variable {P : Program} {w : World} {K : PySem.W.Frag} {mg : Str → Option Value} {base : Heap} {f : Addr} {fd : FuncData} {C C0 : Addr}
def noH (H : Hp) (a C dx : Addr) (y z : V) : Hp := upd (upd (upd H dx (exd dx [("word", y)])) a (exo a C (some dx))) dx (exd dx [("number", z), ("word", y)])
def spNo (C : Addr) : Sp := fun vs H Q _ => ∃ (a : Addr) (y z : V), vs = [.ref a, y, z] ∧ H a = some (exo a C none) ∧ ∀ dx, H dx = none → dx ≠ a → Q .non (noH H a C dx y z)
theorem ok_no {k : Nat} (F : Fun K "__init__" "NoPaper.__init__" sNo f fd) (Z : NoC K mg C C0) : FnOk P w K mg base CX0 (k + 1) f fd ["self", "word", "number"] (spNo C) := by
  refine F.ok scNo (fun vs H Q E h => ?_) (fun cdv A outer s H vs Q E hr h => ⟨_, pss_cons (ps_expr (pe_ceinit rfl Z.g0 Z.ho Z.t0 Z.vV (pa_cons (pv 0) (pa_cons pe_str pa_nil)))) (pss_cons (ps_ost (pv 0) (pv 1)) (pss_one (ps_ost (pv 0) (pv 2)))), ?_⟩)
  · obtain ⟨a, y, z, rfl, _⟩ := h
    rfl
  · obtain ⟨a, y, z, rfl, ha, q⟩ := h
    refine ⟨_, rfl, a, C, _, rfl, (by show 1 ≤ 1000; decide), Z.oex, ha, ?_⟩
    refine ⟨_, rfl, _, rfl, a, C, rfl, Z.oex, Z.n1, .inl ⟨ha, fun dx hx hne => ?_⟩⟩
    refine ⟨_, rfl, _, rfl, a, C, rfl, Z.oex, Z.n2, .inr ⟨dx, [("word", y)], upd_same, ?_, (by show 1 ≤ 900; decide), q dx hx hne⟩⟩
    rw [upd_ne hne, upd_same]
end
end Tx


set_option Elab.async false
set_option linter.all false
set_option maxRecDepth 100000
set_option maxHeartbeats 4000000
set_option autoImplicit false
/-! D27: lets_layers. -/
namespace Tx
open PySem PySem.Spec L2 Lg Mo
/-- a def that tells data, or raises NoPaper -/
def spN (K : PySem.W.Frag) (C : Addr) {ι : Type} (Pre : ι → List Dt → Prop) (R : ι → Dt → Prop) : Sp := fun vs H Q E => ∃ HI ds x, Same HI H ∧ DrL K HI vs ds ∧ Pre x ds ∧ (∀ d v H', R x d → Same H H' → Dr K (mx HI H H') v d → Q v H') ∧
  (∀ (dd : Addr) (y z : V) H', Same H H' → H' dd = none → E (.ref C) (some dd) (upd H' dd (.xd [("number", z), ("word", y)])))
section
variable {P : Program} {w : World} {K : PySem.W.Frag} {mg : Str → Option Value} {base : Heap} {C : Addr}
theorem okN {x qual : Str} {st : Stmt} {f : Addr} {fd : FuncData} {N ps : List Str} {k : Nat} {ι : Type} {Pre : ι → List Dt → Prop} {R : ι → Dt → Prop} (F : Fun K x qual st f fd) (S : FnScope N ps (defScope st)) (len : ∀ y ds, Pre y ds → ds.length = ps.length)
    (hbody : ∀ (cdv : Value) (A : Around) (outer : List Env) (s : Shared) (H : Hp) (E : XK), Room k (A.deeper (PyProof.Rows.envOfC qual (defScope st) s.heap.objs.size f cdv)) → ∀ (y : ι) (ds : List Dt) (B : Bs) (σ : L2.St) (Q : VK), Pre y ds → Sat K B [] (dsl N ds) [] σ H →
      (∀ d v O ρ T σ' H', R y d → Sat K B O ρ ((v, d) :: T) σ' H' → Q v H') → (∀ (dd : Addr) (v1 v2 : V) O ρ T σ' H', Sat K B O ρ T σ' H' → H' dd = none → E (.ref C) (some dd) (upd H' dd (.xd [("number", v2), ("word", v1)]))) →
      WS (cxOf (L2.CX P w) P w K mg base N qual (defScope st) f cdv A outer s H E) (defBody st) { nx := fun _ H' => Q .non H', rt := Q } σ H) : FnOk P w K mg base (L2.CX P w) (k + 1) f fd ps (spN K C Pre R) := by
  refine F.okX S (fun vs H Q E h => ?_) (fun cdv A outer s H vs Q E hr h => ?_)
  · obtain ⟨HI, ds, y, _, r, p, _⟩ := h
    rw [r.length]
    exact len y ds p
  · obtain ⟨HI, ds, y, hI, r, p, q, qb⟩ := h
    refine ⟨_, pss_s, ?_⟩
    have hsl := dsl_ok (N := N) (bf := none) r
    refine hbody cdv A outer s H E hr y ds ⟨H, HI, none, 0⟩ (L2.start N vs) Q p ⟨HI, fun a u h _ => h, fun a u h => h, hI, fun a _ h => h, fun e he => (by cases he), List.nodup_nil, fun f hf => (by cases hf), hsl.1, hsl.2, fun x hx => (by cases hx), Nat.zero_le _⟩ (fun d v O ρ T σ' H' hr2 S' => ?_) fun dd v1 v2 O ρ T σ' H' S' hd => ?_
    · obtain ⟨HI', S'⟩ := S'
      exact q d v H' hr2 (fun a u h => S'.keep a u h (fun z => by cases z)) ((S'.tmp _ List.mem_cons_self).mono (Sat.toMx S' hI))
    · obtain ⟨HI', S'⟩ := S'
      exact qb dd v1 v2 H' (fun a u h => S'.keep a u h (fun z => by cases z)) hd
end
/-- what the raise needs of NoPaper -/
structure NoF (P : Program) (w : World) (K : PySem.W.Frag) (mg : Str → Option Value) (base : Heap) (C : Addr) : Prop where
  oex : OexC K C
  gC : mg "NoPaper" = some (.ref C)
  ex : ∃ (fI : Addr) (fd : FuncData), PySem.W.findIn K (.ref C) "__init__" = some (some (.ref fI)) ∧ PySem.W.typeIn K (.ref fI) = some (.type "function") ∧ FnOk P w K mg base CX0 1 fI fd ["self", "word", "number"] (spNo C) ∧ Binds K fd ["self", "word", "number"] []
section
variable {X : Cx} {O : List (Addr × Ow)} {ρ : List Sl} {d1 d2 : Dt} {B : Bs} {T : List (V × Dt)} {σ : L2.St} {H : Hp} {D : Ends} {C : Addr} {e1 e2 : Expr} {p pos pos' : Pos} {W : WX}
/-- raise NoPaper(e1, e2) -/
theorem w_raiseN (Z : NoF X.prog X.w X.K X.mg X.base C) (hr : Room 2 X.A) (tk : Takes X W) (hc : X.calm = true) (ha : XL X [e1, e2] O ρ [d1, d2]) (S : Sat X.K B O ρ T σ H)
    (kk : ∀ (dd : Addr) (v1 v2 : V) T' H', Sat X.K B O ρ T' σ H' → H' dd = none → W (.ref C) (some dd) σ (upd H' dd (.xd [("number", v2), ("word", v1)])))
    (hg : Gl X "NoPaper" := by rfl) (he : starEach [e1, e2] X.env = (false, eval e1 X.env) :: starEach [e2] X.env := by rfl) (hpl : (backTo pos (starEach [e2] X.env)).any (·.1) = false := by rfl) : W1 X (.Raise (some (.Call (.Name "NoPaper" p) [e1, e2] [] pos)) none pos') D σ H := by
  obtain ⟨fI, fd, h1, h2, h3, h4⟩ := Z.ex
  refine .of (ps_raise hc tk (pmk_oex (CX := CX0) Z.oex h1 h2 h3 hr h4 .nil (fun _ _ _ _ _ _ _ h => h.elim) hg Z.gC pa_s (by decide) he hpl)) (ha B [] T σ H _ S.lim S fun ds vs H1 pl hl S1 => ?_)
  subst pl
  match vs, hl, S1 with
  | [v1, v2], _, S1 =>
    refine ⟨Nat.le_of_ble_eq_true rfl, fun a na => ⟨a, v1, v2, rfl, upd_same, fun dx hdx hne => ?_⟩⟩
    have hdx1 : H1 dx = none := by rw [upd_ne hne] at hdx; exact hdx
    refine ⟨rfl, dx, [("number", v2), ("word", v1)], ?_, upd_same, hdx1, ?_⟩
    · unfold noH
      rw [upd_ne (Ne.symm hne), upd_same]
    · have e : upd (del (noH (upd H1 a (exo a C none)) a C dx v1 v2) a) dx (.xd [("number", v2), ("word", v1)]) = upd H1 dx (.xd [("number", v2), ("word", v1)]) := by
        funext b
        by_cases hb : b = dx
        · rw [hb, upd_same, upd_same]
        · rw [upd_ne hb, upd_ne hb]
          by_cases hba : b = a
          · rw [hba, del_same, na]
          · rw [del_ne hba]
            unfold noH
            rw [upd_ne hb, upd_ne hba, upd_ne hb, upd_ne hba]
      rw [e]
      exact kk dx v1 v2 _ H1 S1 hdx1
end
/-! what is let by -/
/-- who is right by all these goals -/
def wiN (S : Sys) (gs : List Go) : List Bool := (List.range (many S)).map fun s => gs.all fun g => (flags S g).getD s false
theorem wiN_len (S : Sys) (gs : List Go) : (wiN S gs).length = many S := by unfold wiN; rw [List.length_map, List.length_range]
theorem wiN_get {S : Sys} {gs : List Go} {s : Nat} (h : s < many S) : (wiN S gs).getD s false = gs.all fun g => (flags S g).getD s false := by
  unfold wiN
  rw [List.getD_eq_getElem?_getD, List.getElem?_map, List.getElem?_range h]
  rfl
theorem flags_len (S : Sys) (g : Go) : (flags S g).length = many S := by unfold flags; rw [List.length_map, stands_len]
theorem wiN_next {S : Sys} {gs : List Go} {n : Nat} {g : Go} (h : gs[n]? = some g) : ((List.range (many S)).map fun s => (wiN S (gs.take n)).getD s false && (flags S g).getD s false) = wiN S (gs.take (n + 1)) := by
  show _ = (List.range (many S)).map fun s => (gs.take (n + 1)).all fun g => (flags S g).getD s false
  refine List.map_congr_left fun s hs => ?_
  rw [wiN_get (List.mem_range.mp hs), List.take_add_one, h, List.all_append]
  show _ = (_ && ([g].all _))
  rw [List.all_cons, List.all_nil, Bool.and_true]
def LayOk (S : Sys) (ch : Str) (gs : List Go) (p : List (List Int)) : Prop :=
  p.length = gs.length ∧ (∀ l ∈ p, isLay (many S) l = true) ∧ ∃ rows : List Row, rows.length = many S ∧ RowsOk S ch rows ∧ ∀ (k : Nat) g l, gs[k]? = some g → p[k]? = some l → ∀ (s : Nat) r, rows[s]? = some r → sfW r (wiN S (gs.take k)) (flags S g) l s = ""
section
variable {P : Program} {w : World} {K : PySem.W.Frag} {mg : Str → Option Value} {base : Heap} {f : Addr} {fd : FuncData} {C : Addr}
abbrev sLl : Stmt := top 41
abbrev llN : List Str := ["system", "chooser", "goals", "thing", "many", "steps", "within", "k", "goal", "right", "s", "word", "one"]
theorem scLl : FnScope llN ["system", "chooser", "goals", "thing"] (defScope sLl) := ⟨rfl, rfl, rfl, by decide +kernel, rfl, by decide +kernel, by decide +kernel⟩
structure Ll where
  S : Sys
  ch : Str
  gs : List Go
  p : List (List Int)
def preLl (D : Nat) (x : Ll) (ds : List Dt) : Prop := ds = [enS x.S, .str x.ch, .lst (x.gs.map enG), enP x.p] ∧ WfS x.S ∧ x.gs.length ≤ 100 ∧ (∀ g ∈ x.gs, wfG x.S.n x.S.k g ∧ dpG g < D) ∧ x.p.length ≤ 100 ∧ ∀ l ∈ x.p, l.length ≤ 10000
def resLl (x : Ll) (d : Dt) : Prop := d = .bl true ∧ LayOk x.S x.ch x.gs x.p
abbrev spLl (K : PySem.W.Frag) (C : Addr) (D : Nat) : Sp := spN K C (preLl D) resLl
theorem ok_ll {k D : Nat} (F : Fun K "lets_layers" "lets_layers" sLl f fd) (M : Bi mg) (Z : NoF P w K mg base C) (hk : 2 ≤ k) (G0 : Def P w K mg base CX0 k "how_many" ["system"] (spHow K)) (G1 : Def P w K mg base CX0 k "is_layer" ["many", "thing"] (spLay K)) (G2 : Def P w K mg base CX0 k "step_numbers" ["system", "chooser"] (spSn K)) (G3 : Def P w K mg base CX0 k "right_flags" ["system", "goal"] (spFlags K D))
    (G4 : Def P w K mg base CX0 k "stand_fault" ["steps", "within", "right", "numbers", "s"] (spSf K)) : FnOk P w K mg base (L2.CX P w) (k + 1) f fd ["system", "chooser", "goals", "thing"] (spLl K C D) := by
  refine okN F scLl (fun y ds h => by obtain ⟨rfl, _⟩ := h; rfl) fun cdv A outer s0 H E hr y ds B σ Q pr S0 hq hE => ?_
  obtain ⟨S, ch, gs, p⟩ := y
  obtain ⟨rfl, hS, hgl, hgs, hpl, hpr⟩ : ds = [enS S, .str ch, .lst (gs.map enG), enP p] ∧ WfS S ∧ gs.length ≤ 100 ∧ (∀ g ∈ gs, wfG S.n S.k g ∧ dpG g < D) ∧ p.length ≤ 100 ∧ ∀ l ∈ p, l.length ≤ 10000 := pr
  have hsm := hS.small
  have hr2 := hr.mono hk
  refine WS.cons (w_set 4 (xd_call S G0 hr pass0 (xl_cons (xd_var 0) xl_nil) ⟨rfl, hS⟩ fun d' h => h) S0 S0.lim (fun d σ1 H1 p1 S1 => ?_) scLl.nd)
  subst p1
  refine WS.cons (w_if (xb_or3 (k := !true) (l := decide (((p.map enZs).length : Int) ≠ ((gs.map enG).length : Int))) (m := !((p.map fun l => isLay (many S) l).all id)) (xb_not (xb_val (xd_isi M.isinstance (xd_var 3) rfl M.tuple (u := "tuple") (by decide +kernel) (kit_ty (by decide +kernel))))) (fun _ => xb_ne (xd_lenT M.len (ds := p.map enZs) (xd_var 3)) (xd_len M.len (XD.ls (xd_var 2)))) fun _ _ => xb_not (xb_val (xd_all rfl M.all (XD.ls (EvP.imp (xe_lcO rfl scLl.nd (blkOk_by (N := llN) (sc := defScope sLl) (own := [("one", 12)]) (by decide +kernel))
    (ev_lcD [("one", 12)] enZs (fun _ => true) (fun l => .bl (isLay (many S) l)) p (ρt := fun l => [.d (enS S), .d (.str ch), .d (.lst (gs.map enG)), .d (enP p), .d (nD (many S)), .u, .u, .u, .u, .u, .u, .u, .d (enZs l)]) (is := [12])
      (xj_tup (xd_var 3)) (fun i h => h) (by omega) (fun l hl s H0 C cl fp => xg_name 12 scLl.nd) (fun l hl s H0 C cl fp => EvT.imp xts_nil fun b h => h)
      (fun l hl _ s H0 C cl fp => xd_call (many S, l) G1 hr pass0 (xl_cons (xd_var 4) (xl_cons (xd_var 12) xl_nil)) ⟨rfl, hpr l hl⟩ fun d' h => h))) (fun d h => by rw [h, filt_true, List.map_map]; rfl)))))) S1 S1.lim (fun H2 pb S2 => ?_) fun H2 pb S2 => WS.nil ?_)
  · exact WS.cons (w_raiseN Z hr2 (takes_of rfl rfl rfl rfl) rfl (xl_cons xd_str (xl_cons xd_int xl_nil)) S2 fun dd v1 v2 T' H' S' hd => hE dd v1 v2 _ _ _ _ _ S' hd)
  have hb := pb.symm
  rw [Bool.or_eq_false_iff, Bool.or_eq_false_iff] at hb
  obtain ⟨_, hb1, hb2⟩ := hb
  have hlen : p.length = gs.length := by
    have := of_decide_eq_false hb1
    rw [List.length_map, List.length_map] at this
    omega
  have hlay : ∀ l ∈ p, isLay (many S) l = true := fun l hl => by
    have h : (p.map fun l => isLay (many S) l).all id = true := by
      cases h : (p.map fun l => isLay (many S) l).all id with
      | true => rfl
      | false => rw [h] at hb2; cases hb2
    exact List.all_eq_true.mp h _ (List.mem_map_of_mem hl)
  have hll : ∀ l ∈ p, l.length = many S := fun l hl => by
    have := hlay l hl
    rw [isLay, Bool.and_eq_true] at this
    exact of_decide_eq_true this.1
  refine WS.cons (w_set 5 (P := fun d => ∃ rows : List Row, rows.length = many S ∧ RowsOk S ch rows ∧ d = .lst (rows.map enRow)) (xe_call G2 hr pass0 (xl_cons (xd_var 0) (xl_cons (xd_var 1) xl_nil)) fun ds hds => ⟨(S, ch), ⟨hds, hS⟩, fun d h => h⟩) S2 S2.lim (fun d σ3 H3 p3 S3 => ?_) scLl.nd)
  obtain ⟨rows, hrl, hrows, rfl⟩ := p3
  refine WS.cons (w_set 6 (xe_lcO rfl scLl.nd (blkOk_by (N := llN) (sc := defScope sLl) (own := [("s", 10)]) (by decide +kernel))
    (ev_lcD [("s", 10)] nD (fun _ => true) (fun _ => .bl true) (List.range (many S)) (ρt := fun s => [.d (enS S), .d (.str ch), .d (.lst (gs.map enG)), .d (enP p), .d (nD (many S)), .d (enRows rows), .u, .u, .u, .u, .d (nD s), .u, .u]) (is := [10])
      (xj_range M.range (xd_var 4) (by omega)) (fun i h => h) (by rw [List.length_range]; omega) (fun p hp s H0 C cl fp => xg_name 10 scLl.nd) (fun p hp s H0 C cl fp => EvT.imp xts_nil fun b h => h) (fun s hs _ s' H0 C cl fp => xd_bl))) S3 S3.lim (fun d σ4 H4 p4 S4 => ?_) scLl.nd)
  have ew : d = enBs (wiN S (gs.take 0)) := by
    rw [p4, filt_true, enBs, wiN, List.map_map]
    rfl
  rw [ew] at S4
  have hrat : ∀ i, (hi : i < many S) → ∃ r, rows[i]? = some r ∧ r.length ≤ 1000 ∧ ∀ q ∈ r, q.2 < many S := fun i hi => by
    have hlt : i < rows.length := by omega
    refine ⟨rows[i], List.getElem?_eq_getElem hlt, ?_⟩
    have hok := hrows i rows[i] _ (List.getElem?_eq_getElem hlt) (List.getElem?_eq_getElem (by rw [stands_len]; exact hi))
    refine ⟨by have := hok.few; omega, fun q hq => ?_⟩
    have h2 := (List.getElem?_eq_some_iff.mp (hok.is q hq).2).1
    rw [stands_len] at h2
    exact h2
  refine WS.cons (w_for2 7 8 (fun n _ => nD n) (fun _ g => enG g) gs (enD (gs.map enG)) (fun n O' ρ' => ∃ u7 u8 u9 u10 u11, (∀ (k : Nat) g l, k < n → gs[k]? = some g → p[k]? = some l → ∀ (s : Nat) r, rows[s]? = some r → sfW r (wiN S (gs.take k)) (flags S g) l s = "") ∧ O' = [] ∧ ρ' = [.d (enS S), .d (.str ch), .d (.lst (gs.map enG)), .d (enP p), .d (nD (many S)), .d (enRows rows), .d (enBs (wiN S (gs.take n))), u7, u8, u9, u10, u11, .u])
    (passes_of rfl) rfl scLl.nd (xj_enum M.enumerate (xd_var 2)) (by rw [enD_len, List.length_map]) (fun n y hy => enD_get' enG _ hy) S4 ⟨.u, .u, .u, .u, .u, fun k g l hk => absurd hk (Nat.not_lt_zero k), rfl, rfl⟩ (fun i g O' ρ' T' σ' H' N hy hI S5 kN => ?_) (fun O' ρ' σ' H' hI S5 => ?_))
  · obtain ⟨u7, u8, u9, u10, u11, hdone, rfl, rfl⟩ := hI
    obtain ⟨hgw, hgd⟩ := hgs g (List.mem_of_getElem? hy)
    have hin : i < gs.length := (List.getElem?_eq_some_iff.mp hy).1
    have hip : i < p.length := by omega
    have hfl := flags_len S g
    have hwl := wiN_len S (gs.take i)
    have hpi := hll _ (List.getElem_mem hip)
    refine WS.cons (w_set 9 (xd_call (S, g) G3 hr pass0 (xl_cons (xd_var 0) (xl_cons (xd_var 8) xl_nil)) ⟨rfl, hS, hgw, hgd⟩ fun d' h => h) S5 S5.lim (fun d6 σ6 H6 p6 S6 => ?_) scLl.nd)
    subst p6
    refine WS.cons (w_forN 10 nD (List.range (many S)) (fun n O' ρ' => ∃ u10 u11, (∀ (s : Nat) r, s < n → rows[s]? = some r → sfW r (wiN S (gs.take i)) (flags S g) p[i] s = "") ∧ O' = [] ∧ ρ' = [.d (enS S), .d (.str ch), .d (.lst (gs.map enG)), .d (enP p), .d (nD (many S)), .d (enRows rows), .d (enBs (wiN S (gs.take i))), .d (nD i), .d (enG g), .d (enBs (flags S g)), u10, u11, .u])
      (passes_of rfl) rfl scLl.nd (xj_range M.range (xd_var 4) (by omega)) S6 ⟨u10, u11, fun s r hs => absurd hs (Nat.not_lt_zero s), rfl, rfl⟩ (fun j y O' ρ' T2 σ7 H7 N2 hy2 hI S7 kN2 => ?_) (fun O' ρ' σ7 H7 hI S7 => ?_))
    · obtain ⟨u10, u11, hdj, rfl, rfl⟩ := hI
      obtain ⟨hj, hj2⟩ := List.getElem?_eq_some_iff.mp hy2
      rw [List.getElem_range] at hj2
      rw [List.length_range] at hj
      subst hj2
      obtain ⟨r, hr1, hr3, hr4⟩ := hrat j hj
      have hrow : (rows.map enRow)[j]? = some (enRow r) := by rw [List.getElem?_map, hr1]; rfl
      have hpat : (p.map enZs)[i]? = some (enZs p[i]) := by rw [List.getElem?_map, List.getElem?_eq_getElem hip]; rfl
      refine WS.cons (w_set 11 (xd_call (⟨r, wiN S (gs.take i), flags S g, p[i], j⟩ : Fx) G4 hr pass0 (xl_cons (xd_ixL (ds := rows.map enRow) (XD.ls (xd_var 5)) (xd_var 10) (atI_nat hrow)) (xl_cons (xd_var 6) (xl_cons (xd_var 9) (xl_cons (xd_ixT (ds := p.map enZs) (xd_var 3) (xd_var 7) (atI_nat hpat)) (xl_cons (xd_var 10) xl_nil))))) ⟨rfl, hwl.symm ▸ hj, hfl.symm ▸ hj, hpi.symm ▸ hj, hr3, fun q hq => ⟨hwl.symm ▸ hr4 q hq, hfl.symm ▸ hr4 q hq, hpi.symm ▸ hr4 q hq⟩⟩ fun d' h => h) S7 S7.lim (fun d8 σ8 H8 p8 S8 => ?_) scLl.nd)
      subst p8
      refine WS.cons (w_if (xb_neS (xd_var 11) xd_str) S8 S8.lim (fun H9 pb S9 => ?_) fun H9 pb S9 => WS.nil (WS.nil ?_))
      · exact WS.cons (w_raiseN Z hr2 (takes_of rfl rfl rfl rfl) rfl (xl_cons (xd_var 11) (xl_cons (xd_add (xd_mul (i := (i : Int)) (j := (many S : Int)) (xd_var 7) (xd_var 4) (.inl ⟨by omega, by omega⟩)) (xd_var 10)) xl_nil)) S9 fun dd v1 v2 T' H' S' hd => hE dd v1 v2 _ _ _ _ _ S' hd)
      · have hw : sfW r (wiN S (gs.take i)) (flags S g) p[i] j = "" := Decidable.of_not_not (of_decide_eq_false pb.symm)
        refine kN2 _ _ _ _ ⟨_, _, fun s r' hs hr' => ?_, rfl, rfl⟩ S9
        by_cases e : s = j
        · subst e
          rw [hr1] at hr'
          cases hr'
          exact hw
        · exact hdj s r' (by omega) hr'
    · obtain ⟨u10', u11', hdj, rfl, rfl⟩ := hI
      refine WS.cons (w_set 6 (xe_lcO rfl scLl.nd (blkOk_by (N := llN) (sc := defScope sLl) (own := [("s", 10)]) (by decide +kernel))
        (ev_lcD [("s", 10)] nD (fun _ => true) (fun s => .bl ((wiN S (gs.take i)).getD s false && (flags S g).getD s false)) (List.range (many S)) (ρt := fun s => [.d (enS S), .d (.str ch), .d (.lst (gs.map enG)), .d (enP p), .d (nD (many S)), .d (enRows rows), .d (enBs (wiN S (gs.take i))), .d (nD i), .d (enG g), .d (enBs (flags S g)), .d (nD s), u11', .u]) (is := [10])
          (xj_range M.range (xd_var 4) (by omega)) (fun i h => h) (by rw [List.length_range]; omega) (fun p hp s H0 C cl fp => xg_name 10 scLl.nd) (fun p hp s H0 C cl fp => EvT.imp xts_nil fun b h => h)
          (fun s hs _ s' H0 C cl fp => xd_andV (xd_ixL (XD.ls (xd_var 6)) (xd_var 10) (atI_nat (bs_at (by have := List.mem_range.mp hs; omega)))) fun _ => xd_ixL (XD.ls (xd_var 9)) (xd_var 10) (atI_nat (bs_at (by have := List.mem_range.mp hs; omega)))))) S7 S7.lim (fun d8 σ8 H8 p8 S8 => ?_) scLl.nd)
      have ew2 : d8 = enBs (wiN S (gs.take (i + 1))) := by
        rw [p8, filt_true, ← wiN_next hy, enBs, List.map_map]
        rfl
      rw [ew2] at S8
      refine WS.nil (kN _ _ _ _ ⟨_, _, _, _, _, fun k' g' l' hk' hg' hl' s r hr' => ?_, rfl, rfl⟩ S8)
      by_cases e : k' = i
      · subst e
        rw [hy] at hg'
        cases hg'
        rw [List.getElem?_eq_getElem hip] at hl'
        cases hl'
        have hlt := (List.getElem?_eq_some_iff.mp hr').1
        rw [List.length_range] at hdj
        exact hdj s r (by omega) hr'
      · exact hdone k' g' l' (by omega) hg' hl' s r hr'
  · obtain ⟨u7, u8, u9, u10, u11, hdone, rfl, rfl⟩ := hI
    exact WS.cons (w_ret xd_bl S5 S5.lim fun d v H3 p3 S3 => hq _ _ _ _ _ _ _ ⟨p3, hlen, hlay, rows, hrl, hrows, fun k' g' l' hg' hl' => hdone k' g' l' (List.getElem?_eq_some_iff.mp hg').1 hg' hl'⟩ S3)
end
end Tx


set_option Elab.async false
set_option linter.all false
set_option maxRecDepth 100000
set_option maxHeartbeats 4000000
set_option autoImplicit false
/-! Pl2: what is let by comes and stays. -/
namespace Mo
open PySem Lg Tx
theorem fold_max : ∀ (r : List Int) (a : Int), a ≤ r.foldl max a ∧ ∀ y ∈ r, y ≤ r.foldl max a
  | [], a => ⟨Int.le_refl _, fun y hy => by cases hy⟩
  | b :: r, a => by
    rw [List.foldl_cons]
    obtain ⟨h1, h2⟩ := fold_max r (max a b)
    refine ⟨by omega, fun y hy => ?_⟩
    rcases List.mem_cons.mp hy with rfl | hy
    · omega
    · exact h2 y hy
theorem le_maxD {x : Int} {l : List Int} (h : x ∈ l) : x ≤ maxD l := by
  cases l with
  | nil => cases h
  | cons a r =>
    show x ≤ r.foldl max a
    obtain ⟨h1, h2⟩ := fold_max r a
    rcases List.mem_cons.mp h with rfl | h
    · exact h1
    · exact h2 x h
theorem maxD_nonneg {l : List Int} (h : ∀ x ∈ l, 0 ≤ x) : 0 ≤ maxD l := by
  cases l with
  | nil => exact Int.le_refl _
  | cons a r =>
    have h1 := h a List.mem_cons_self
    have h2 := le_maxD (l := a :: r) (x := a) List.mem_cons_self
    omega
theorem getD_le_maxD {l : List Int} (h : ∀ x ∈ l, 0 ≤ x) (s : Nat) : 0 ≤ l.getD s 0 ∧ l.getD s 0 ≤ maxD l := by
  rw [List.getD_eq_getElem?_getD]
  cases e : l[s]? with
  | none => exact ⟨Int.le_refl _, maxD_nonneg h⟩
  | some x =>
    have hx := List.mem_of_getElem? e
    exact ⟨h x hx, le_maxD hx⟩
/-- the steps that are still to come, at most -/
def psi (S : Sys) : List Go → List (List Int) → Nat → Int
  | g :: gs, l :: p, s => if (flags S g).getD s false = true then psi S gs p s else l.getD s 0 + (p.map maxD).sum
  | _, _, _ => 0
theorem sum_nonneg {p : List (List Int)} (h : ∀ l ∈ p, ∀ x ∈ l, 0 ≤ x) : 0 ≤ (p.map maxD).sum := by
  induction p with
  | nil => exact Int.le_refl _
  | cons l p ih =>
    rw [List.map_cons, List.sum_cons]
    have h1 := maxD_nonneg (h l List.mem_cons_self)
    have h2 := ih fun l hl => h l (List.mem_cons_of_mem _ hl)
    omega
theorem psi_le {S : Sys} : ∀ (gs : List Go) (p : List (List Int)) (s : Nat), (∀ l ∈ p, ∀ x ∈ l, 0 ≤ x) → 0 ≤ psi S gs p s ∧ psi S gs p s ≤ (p.map maxD).sum
  | [], p, s, h => ⟨Int.le_refl _, sum_nonneg h⟩
  | _ :: _, [], s, h => ⟨Int.le_refl _, Int.le_refl _⟩
  | g :: gs, l :: p, s, h => by
    have h1 := getD_le_maxD (h l List.mem_cons_self) s
    have h0 := maxD_nonneg (h l List.mem_cons_self)
    have h2 := psi_le (S := S) gs p s fun l hl => h l (List.mem_cons_of_mem _ hl)
    have h3 := sum_nonneg fun l hl => h l (List.mem_cons_of_mem _ hl)
    rw [List.map_cons, List.sum_cons, psi]
    by_cases c : (flags S g).getD s false = true
    · rw [if_pos c]; omega
    · rw [if_neg c]; omega
/-- what a stand's own numbers say -/
theorem sf_num {row : Row} {wi ri : List Bool} {ns : List Int} {s : Nat} (h : sfW row wi ri ns s = "") (hw : wi.getD s false = true) (hr : ri.getD s false = false) : ns.getD s 0 ≠ 0 ∧ row ≠ [] ∧ ∀ p ∈ row, wi.getD p.2 false = true ∧ ns.getD p.2 0 < ns.getD s 0 := by
  unfold sfW at h
  rw [hw, hr] at h
  by_cases c : ns.getD s 0 = 0
  · rw [if_pos (by rw [decide_eq_true c]; rfl)] at h
    exact absurd h (by decide)
  rw [if_neg (by rw [decide_eq_false c]; decide), if_neg (by decide), if_neg (by decide)] at h
  by_cases c2 : row.length = 0
  · rw [if_pos c2] at h
    exact absurd h (by decide)
  rw [if_neg c2] at h
  refine ⟨c, fun z => c2 (by rw [z]; rfl), ?_⟩
  by_cases c3 : row.all (fun p => wi.getD p.2 false && decide (ns.getD p.2 0 < ns.getD s 0)) = true
  · intro p hp
    have := List.all_eq_true.mp c3 p hp
    rw [Bool.and_eq_true] at this
    exact ⟨this.1, of_decide_eq_true this.2⟩
  · rw [if_neg c3] at h
    exact absurd h (by decide)
theorem sf_right {row : Row} {wi ri : List Bool} {ns : List Int} {s : Nat} (h : sfW row wi ri ns s = "") (hw : wi.getD s false = true) (hr : ri.getD s false = true) : ∀ p ∈ row, wi.getD p.2 false = true ∧ ri.getD p.2 false = true := by
  unfold sfW at h
  rw [hw, hr] at h
  by_cases c0 : ((decide (ns.getD s 0 = 0)) != (!true || true)) = true
  · rw [if_pos c0] at h
    exact absurd h (by decide)
  rw [if_neg c0, if_neg (by decide), if_pos rfl] at h
  by_cases c3 : row.all (fun p => wi.getD p.2 false && ri.getD p.2 false) = true
  · intro p hp
    have := List.all_eq_true.mp c3 p hp
    rw [Bool.and_eq_true] at this
    exact this
  · rw [if_neg c3] at h
    exact absurd h (by decide)
abbrev fl (S : Sys) (gs : List Go) (s : Nat) : Bool := gs.all fun g => (flags S g).getD s false
theorem fl_snoc (S : Sys) (gs : List Go) (g : Go) (s : Nat) : fl S (gs ++ [g]) s = (fl S gs s && (flags S g).getD s false) := by
  show (gs ++ [g]).all _ = _
  rw [List.all_append, List.all_cons, List.all_nil, Bool.and_true]
section
variable {S : Sys} {rows : List Row}
/-- the rest of the goals, behind pre -/
def RestOk (S : Sys) (rows : List Row) (pre gs : List Go) (p : List (List Int)) : Prop := ∀ (k : Nat) g l, gs[k]? = some g → p[k]? = some l → ∀ (s : Nat) r, rows[s]? = some r → sfW r (wiN S (pre ++ gs.take k)) (flags S g) l s = ""
theorem RestOk.tail {pre gs : List Go} {p : List (List Int)} {g : Go} {l : List Int} (h : RestOk S rows pre (g :: gs) (l :: p)) : RestOk S rows (pre ++ [g]) gs p := fun k g' l' hg hl s r hr => by
  have := h (k + 1) g' l' (by simpa using hg) (by simpa using hl) s r hr
  rw [List.take_succ_cons] at this
  rw [List.append_assoc]
  exact this
theorem psi_fall (hrl : rows.length = many S) : ∀ (gs : List Go) (p : List (List Int)) (pre : List Go) (s : Nat) (r : Row), p.length = gs.length → (∀ l ∈ p, ∀ x ∈ l, 0 ≤ x) → RestOk S rows pre gs p → rows[s]? = some r → (∀ q ∈ r, q.2 < many S) → fl S pre s = true → fl S gs s = false →
    0 < psi S gs p s ∧ r ≠ [] ∧ ∀ q ∈ r, psi S gs p q.2 < psi S gs p s
  | [], _, pre, s, r, _, _, _, _, _, _, h => by cases h
  | _ :: _, [], _, _, _, hl, _, _, _, _, _, _ => by cases hl
  | g :: gs, l :: p, pre, s, r, hl, hp, hR, hr, hq, hpre, hn => by
    have hs : s < many S := by rw [← hrl]; exact (List.getElem?_eq_some_iff.mp hr).1
    have h0 := hR 0 g l rfl rfl s r hr
    rw [List.take_zero, List.append_nil] at h0
    have hw : (wiN S pre).getD s false = true := by rw [wiN_get hs]; exact hpre
    have hp' : ∀ l ∈ p, ∀ x ∈ l, 0 ≤ x := fun l hl => hp l (List.mem_cons_of_mem _ hl)
    have hs0 := sum_nonneg hp'
    cases c : (flags S g).getD s false with
    | true =>
      have hall := sf_right h0 hw c
      have hn' : fl S gs s = false := by
        have hn2 : ((flags S g).getD s false && fl S gs s) = false := hn
        rw [c, Bool.true_and] at hn2
        exact hn2
      obtain ⟨i1, i2, i3⟩ := psi_fall hrl gs p (pre ++ [g]) s r (by simpa using hl) hp' hR.tail hr hq (by rw [fl_snoc, hpre, c]; rfl) hn'
      have e1 : psi S (g :: gs) (l :: p) s = psi S gs p s := by rw [psi, if_pos c]
      refine ⟨by rw [e1]; exact i1, i2, fun q hqr => ?_⟩
      have e2 : psi S (g :: gs) (l :: p) q.2 = psi S gs p q.2 := by rw [psi, if_pos (hall q hqr).2]
      rw [e1, e2]
      exact i3 q hqr
    | false =>
      obtain ⟨n1, n2, n3⟩ := sf_num h0 hw c
      have e1 : psi S (g :: gs) (l :: p) s = l.getD s 0 + (p.map maxD).sum := by rw [psi, if_neg (by rw [c]; exact Bool.false_ne_true)]
      have hpos := (getD_le_maxD (hp l List.mem_cons_self) s).1
      rw [e1]
      refine ⟨by omega, n2, fun q hqr => ?_⟩
      have h2 := (n3 q hqr).2
      have h3 := psi_le (S := S) gs p q.2 hp'
      have h4 := (getD_le_maxD (hp l List.mem_cons_self) q.2).1
      rw [psi]
      by_cases c2 : (flags S g).getD q.2 false = true
      · rw [if_pos c2]; omega
      · rw [if_neg c2]; omega
theorem fl_stay (hrl : rows.length = many S) {gs : List Go} {p : List (List Int)} {s : Nat} {r : Row} (hl : p.length = gs.length) (hR : RestOk S rows [] gs p) (hr : rows[s]? = some r) (h : fl S gs s = true) : ∀ q ∈ r, fl S gs q.2 = true := fun q hq => by
  have hs : s < many S := by rw [← hrl]; exact (List.getElem?_eq_some_iff.mp hr).1
  refine List.all_eq_true.mpr fun g hg => ?_
  obtain ⟨k, hk⟩ := List.mem_iff_getElem?.mp hg
  have hkl := (List.getElem?_eq_some_iff.mp hk).1
  have hk2 : k < p.length := by omega
  have h0 := hR k g _ hk (List.getElem?_eq_getElem hk2) s r hr
  have hw : (wiN S ([] ++ gs.take k)).getD s false = true := by
    rw [wiN_get hs]
    exact List.all_eq_true.mpr fun g' hg' => List.all_eq_true.mp h g' (List.mem_of_mem_take hg')
  exact (sf_right h0 hw (List.all_eq_true.mp h g hg) q hq).2
theorem flag_at {g : Go} {s : Nat} {st : Stand} (h : (stands S)[s]? = some st) : (flags S g).getD s false = right S g st := by
  unfold flags
  rw [List.getD_eq_getElem?_getD, List.getElem?_map, h]
  rfl
theorem fl_ar {gs : List Go} {s : Nat} {st : Stand} (h : (stands S)[s]? = some st) : fl S gs s = ar S gs st := by
  show gs.all _ = gs.all _
  congr 1
  funext g
  exact flag_at h
end
/-- the least of some -/
theorem least_of {Q : Nat → Prop} (f : Nat → Int) (h0 : ∀ s, 0 ≤ f s) (h : ∃ s, Q s) : ∃ s, Q s ∧ ∀ t, Q t → f s ≤ f t := by
  obtain ⟨s, hs⟩ := h
  have gen : ∀ (n : Nat) (s : Nat), (f s).toNat ≤ n → Q s → ∃ s, Q s ∧ ∀ t, Q t → f s ≤ f t := by
    intro n
    induction n with
    | zero => exact fun s hn hs => ⟨s, hs, fun t _ => by have := h0 t; have := h0 s; omega⟩
    | succ n ih =>
      intro s hn hs
      by_cases c : ∃ t, Q t ∧ f t < f s
      · obtain ⟨t, ht, hlt⟩ := c
        have := h0 t
        exact ih t (by omega) ht
      · refine ⟨s, hs, fun t ht => ?_⟩
        by_cases c2 : f t < f s
        · exact absurd ⟨t, ht, c2⟩ c
        · omega
  exact gen _ s (Nat.le_refl _) hs
open Classical in
/-- the least of its numbers -/
noncomputable def phi (S : Sys) (gs : List Go) (p : List (List Int)) (st : Stand) : Int :=
  if h : ∃ s, (stands S)[s]? = some st ∧ ∀ t, (stands S)[t]? = some st → psi S gs p s ≤ psi S gs p t then psi S gs p h.choose else 0
theorem lay_comes {S : Sys} {ch : Str} {gs : List Go} {p : List (List Int)} (hS : WfS S) (h : LayOk S ch gs p) : CoOk S ch gs ((p.map maxD).sum) := by
  obtain ⟨hl, hlay, rows, hrl, hrows, hall⟩ := h
  have hp : ∀ l ∈ p, ∀ x ∈ l, 0 ≤ x := fun l hl x hx => by
    have := hlay l hl
    rw [isLay, Bool.and_eq_true] at this
    exact of_decide_eq_true (List.all_eq_true.mp this.2 x hx)
  have hR : RestOk S rows [] gs p := fun k g l hg hl s r hr => hall k g l hg hl s r hr
  have hle := fun s => psi_le (S := S) gs p s hp
  have at_ : ∀ st, WfSt S st → ∃ s, (stands S)[s]? = some st ∧ (∀ t, (stands S)[t]? = some st → psi S gs p s ≤ psi S gs p t) ∧ phi S gs p st = psi S gs p s := fun st hst => by
    obtain ⟨s0, h0⟩ := List.mem_iff_getElem?.mp (mem_stands hS hst)
    have ex := least_of (Q := fun s => (stands S)[s]? = some st) (fun s => psi S gs p s) (fun s => (hle s).1) ⟨s0, h0⟩
    refine ⟨ex.choose, ex.choose_spec.1, ex.choose_spec.2, ?_⟩
    unfold phi
    rw [dif_pos ex]
  have row_ : ∀ s st, (stands S)[s]? = some st → ∃ r, rows[s]? = some r ∧ RowOk S ch st r ∧ ∀ q ∈ r, q.2 < many S := fun s st hs => by
    have hlt := (List.getElem?_eq_some_iff.mp hs).1
    rw [stands_len] at hlt
    have hlt2 : s < rows.length := by omega
    have hok := hrows s _ st (List.getElem?_eq_getElem hlt2) hs
    refine ⟨_, List.getElem?_eq_getElem hlt2, hok, fun q hq => ?_⟩
    have h2 := (List.getElem?_eq_some_iff.mp (hok.is q hq).2).1
    rw [stands_len] at h2
    exact h2
  refine ⟨phi S gs p, fun st hst => ?_, fun st hst har hs hch => ?_, fun st hst har => ?_⟩
  · obtain ⟨s, _, _, e⟩ := at_ st hst
    rw [e]
    exact hle s
  · obtain ⟨s, h1, _, _⟩ := at_ st hst
    obtain ⟨r, hr, hok, _⟩ := row_ s st h1
    obtain ⟨j, hj⟩ := hok.all hs hch
    have h2 := fl_stay hrl hl hR hr (by rw [fl_ar h1]; exact har) _ hj
    rw [← fl_ar (hok.is _ hj).2]
    exact h2
  · obtain ⟨s, h1, _, e⟩ := at_ st hst
    obtain ⟨r, hr, hok, hq⟩ := row_ s st h1
    obtain ⟨f1, f2, f3⟩ := psi_fall hrl gs p [] s r hl hp hR hr hq rfl (by rw [fl_ar h1]; exact har)
    refine ⟨by rw [e]; exact f1, ?_, fun hs hch => ?_⟩
    · cases r with
      | nil => exact absurd rfl f2
      | cons q r => exact ⟨q.1, (hok.is q List.mem_cons_self).1⟩
    · obtain ⟨j, hj⟩ := hok.all hs hch
      have h3 := (hok.is _ hj).2
      have hwf : WfSt S (act S st hs) := wf_stands hS _ (List.mem_of_getElem? h3)
      obtain ⟨t, _, t2, e2⟩ := at_ _ hwf
      rw [e, e2]
      have h4 := t2 j h3
      have h5 : psi S gs p j < psi S gs p s := f3 _ hj
      omega
end Mo


set_option Elab.async false
set_option linter.all false
set_option maxRecDepth 100000
set_option maxHeartbeats 4000000
set_option autoImplicit false
/-! D28: _law_let, _law_feed. -/
namespace Tx
open PySem PySem.Spec L2 Lg Mo
theorem Sat.callX {K : PySem.W.Frag} {B : Bs} {O : List (Addr × Ow)} {ρ : List Sl} {T : List (V × Dt)} {σ : L2.St} {H HI H' : Hp} (S : SatI K B O ρ T σ H HI) (hk : Same H H') : Sat K B O ρ T σ H' := by
  have S2 : SatI K (B.add 0) O ρ T σ H' (mx HI H H') := S.call (c := 0) (fun a u h _ => hk a u h) (fun f hf => by
    obtain ⟨_, _, o, g1, g2⟩ := S.feed f hf
    exact ⟨o, hk _ _ g1, g2.mono (mx_same S.ex1)⟩) S.lim
  exact ⟨_, S2⟩
section
variable {P : Program} {w : World} {K : PySem.W.Frag} {mg : Str → Option Value} {base : Heap} {f : Addr} {fd : FuncData} {C : Addr}
abbrev sLe : Stmt := top 80
abbrev leN : List Str := ["_law_system_here", "_law_chooser", "_law_goals", "_law_thing", "_law_found"]
theorem scLe : FnScope leN ["_law_system_here", "_law_chooser", "_law_goals", "_law_thing"] (defScope sLe) := ⟨rfl, rfl, rfl, by decide +kernel, rfl, by decide +kernel, by decide +kernel⟩
abbrev spLe (K : PySem.W.Frag) (D : Nat) : Sp := spD K (preLl D) fun x d => ∃ b, d = .bl b ∧ (b = true → LayOk x.S x.ch x.gs x.p)
theorem ok_le {k D : Nat} (F : Fun K "_law_let" "_law_let" sLe f fd) (gC : mg "NoPaper" = some (.ref C)) (ex : PySem.W.exmOne K (.ref C) (.ref C) = some true) (G : Def P w K mg base (L2.CX P w) k "lets_layers" ["system", "chooser", "goals", "thing"] (spLl K C D)) :
    FnOk P w K mg base CX0 (k + 1) f fd ["_law_system_here", "_law_chooser", "_law_goals", "_law_thing"] (spLe K D) := by
  refine Fun.okD F scLe (fun y ds h => by obtain ⟨rfl, _⟩ := h; rfl) fun cdv A outer s0 H E hr y ds B σ Q pr S0 hq => ?_
  obtain ⟨S, ch, gs, p⟩ := y
  obtain ⟨rfl, hpr⟩ : ds = [enS S, .str ch, .lst (gs.map enG), enP p] ∧ _ := pr
  obtain ⟨fL, fdL, g1, g2, g3, g4⟩ := G.ex
  refine WS.cons (w_set 4 xd_bl S0 S0.lim (fun d σ1 H1 p1 S1 => ?_) scLe.nd)
  subst p1
  have fin : ∀ (b : Bool) σ' H', (b = true → LayOk S ch gs p) → Sat K B [] [.d (enS S), .d (.str ch), .d (.lst (gs.map enG)), .d (enP p), .d (.bl b)] [] σ' H' → WS (cxOf CX0 P w K mg base leN "_law_let" (defScope sLe) f cdv A outer s0 H E).nox ((defBody sLe).drop 2) { nx := fun _ H' => Q .non H', rt := Q } σ' H' := fun b σ' H' hb S' =>
    WS.cons (w_ret (xd_var 4) S' S'.lim fun d v H3 p3 S3 => hq _ _ _ _ _ _ _ ⟨b, p3, hb⟩ S3)
  let X := (cxOf CX0 P w K mg base leN "_law_let" (defScope sLe) f cdv A outer s0 H E).nox
  refine WS.cons (W1.of (ps_try_only (tb := fun W D σ2 H2 => ∀ pn xe, Takes (X.tr pn xe) W → WS (X.tr pn xe) _ D σ2 H2) (ts := fun _ _ _ D σ2 H2 => D.nx (σ2.set 4 (some (.bl false))) H2) (Wout := fun _ _ _ _ => False) rfl rfl ⟨rfl, by decide, .inl gC⟩ takes0
    (fun W pn xe tk _ => ⟨fun pins s σ2 H2 D2 I h => (h pn xe tk).run pins s I⟩) (fun a oe cls d pn _ _ => pss_one (ps_set scLe.nd rfl (.inl rfl) pe_bl))) fun pn xe tk => ?_)
  refine WS.cons (W1.of (ps_set (i := 4) scLe.nd rfl (.inl rfl) (pe_callS (E := WE _) g1 hr rfl g2 g3 g4 (fun σ => passAt tk σ) pa_s)) ?_)
  refine (xl_cons (xd_var 0) (xl_cons (xd_var 1) (xl_cons (xd_var 2) (xl_cons (xd_var 3) xl_nil))) : XL ((cxOf CX0 P w K mg base leN "_law_let" (defScope sLe) f cdv A outer s0 H E).nox.tr pn xe) _ [] [.d (enS S), .d (.str ch), .d (.lst (gs.map enG)), .d (enP p), .d (.bl false)] [enS S, .str ch, .lst (gs.map enG), enP p]) B [] [] σ1 H1 _ S1.lim S1 fun ds vs H2 pl hl S2 => ?_
  subst pl
  obtain ⟨HI, S2⟩ := S2
  have S3 : SatI K B [] [.d (enS S), .d (.str ch), .d (.lst (gs.map enG)), .d (enP p), .d (.bl false)] [] σ1 H2 HI := S2.pop fun x hx => absurd hx List.not_mem_nil
  refine ⟨HI, _, (⟨S, ch, gs, p⟩ : Ll), S2.ex1, drs_zip hl fun x hx => S2.tmp x (List.mem_append_left _ hx), ⟨rfl, hpr⟩, fun d v H' hr2 hs r => ?_, fun dd y z H' hs hd => ?_⟩
  · obtain ⟨rfl, hlay⟩ : d = .bl true ∧ LayOk S ch gs p := hr2
    exact WS.nil (fin true _ _ (fun _ => hlay) ((Sat.callD S3 hs r).set 4))
  · exact ⟨true, ex, fun _ a ha => fin false _ _ (fun h => by cases h) (((Sat.callX S3 fun b u h => by rw [upd_ne (ne_of_none (hs b u h) hd)]; exact hs b u h).bl false).set 4), fun q => nomatch q⟩
/-! _law_feed -/
abbrev sFeed : Stmt := top 66
theorem scFeed : FnScope ["_law_script"] ["_law_script"] (defScope sFeed) := ⟨rfl, rfl, rfl, by decide +kernel, rfl, by decide +kernel, by decide +kernel⟩
def spFeed (K : PySem.W.Frag) : Sp := fun vs H Q _ => ∃ (a : Addr) (ns : List Int), vs = [.ref a] ∧ SqL K H a (ns.map V.int) ∧ ns.length ≤ 63 ∧
  ∀ (g c : Addr) (ms : List Int) H', H' g = some (.lst [.ref c, .int 0, .int 0]) → H' c = some (.lst (ms.map V.int)) → 0 < ms.length → ms.length ≤ 63 → Q (.ref g) H'
theorem fits_ints (ns : List Int) : Fits 60 (.lst (ns.map Dt.int)) := (Fits.lst (n := 0) fun d hd => by
  obtain ⟨n, _, rfl⟩ := List.mem_map.mp hd
  exact Fits.int _).le (by decide)
theorem cut63 {xs : List V} (h : xs.length ≤ 63) : cutV xs none (some 63) = xs := by
  unfold cutV
  rw [show (63 : Int) = ((63 : Nat) : Int) from rfl, HT.sIx_nat, HT.sIx_none, List.drop_zero, Nat.sub_zero, Nat.min_eq_right h, List.take_length]
theorem ok_feed {k : Nat} (F : Fun K "_law_feed" "_law_feed" sFeed f fd) (mI : mg "int" = none) : FnOk P w K mg base CX0 (k + 1) f fd ["_law_script"] (spFeed K) := by
  refine F.ok scFeed (fun vs H Q E h => ?_) (fun cdv A outer s H vs Q E hr h => ⟨_, pss_one (ps_ret (pe_lst (pa_cons (pe_op op_cat (pe_slice sl_list (pv 0) po_none (po_some pe_int)) (pe_op op_rep (pe_lst (pa_cons pe_int pa_nil)) (pe_callTy call_int1 rfl mI (by decide +kernel) (pa_cons (pe_cmpR (op_eqD hr.units) (pv 0) (pe_lst pa_nil) (nomark _)) pa_nil) (by decide) (by decide)))) (pa_cons pe_int (pa_cons pe_int pa_nil))))), ?_⟩)
  · obtain ⟨a, ns, rfl, _⟩ := h
    rfl
  · obtain ⟨a, ns, rfl, hS, hl, q⟩ := h
    refine ⟨.ref a, rfl, 63, rfl, a, ns.map V.int, rfl, hS, fun p1 hp1 => ?_⟩
    refine ⟨Nat.le_of_ble_eq_true rfl, fun p2 hp2 => ?_⟩
    refine ⟨.ref a, rfl, Nat.zero_le _, fun p3 hp3 => ?_⟩
    have hlen : (ns.map V.int).length ≤ 63 := by rw [List.length_map]; exact hl
    have k1 := same_upd (o := .lst (cutV (ns.map V.int) none (some 63))) hp1
    have k2 := same_upd (o := .lst [.int 0]) hp2
    have k3 := same_upd (o := .lst []) hp3
    have hS3 := sqL_same k3 (sqL_same k2 (sqL_same k1 hS))
    refine ⟨_, _, .lst hS3 (dps_of (DrL.of_ints ns) (fits_ints ns).1), .lst (.inl (.inl upd_same)) .nil, (fits_ints ns).shaped, (fits_ints []).shaped, ?_⟩
    refine .inr ⟨_, rfl, ?_⟩
    have eb : PyData.eqv (.list (toPs (ns.map Dt.int))) (.list []) = (ns.map Dt.int).isEmpty := eqv_nilL (ns.map Dt.int)
    rw [eb]
    have e1 := k3 _ _ (k2 _ _ (upd_same (H := H) (a := p1) (o := .lst (cutV (ns.map V.int) none (some 63)))))
    have e2 := k3 _ _ (upd_same (H := upd H p1 (.lst (cutV (ns.map V.int) none (some 63)))) (a := p2) (o := .lst [.int 0]))
    cases ns with
    | nil =>
      refine ⟨p2, 1, [.int 0], rfl, rfl, e2, by decide, by decide, by decide, fun p4 hp4 => ?_⟩
      have k4 := same_upd (o := .lst [.int 0]) hp4
      refine ⟨p1, p4, _, _, rfl, rfl, k4 _ _ e1, upd_same, by decide, fun p5 hp5 => ?_⟩
      refine ⟨Nat.le_of_ble_eq_true rfl, fun g hg => ?_⟩
      have hne : p5 ≠ g := fun z => by rw [← z, upd_same] at hg; cases hg
      exact q g p5 [0] _ upd_same (by rw [upd_ne hne, upd_same]; rfl) (by decide) (by decide)
    | cons n r =>
      refine ⟨p2, 0, [.int 0], rfl, rfl, e2, by decide, by decide, by decide, fun p4 hp4 => ?_⟩
      have k4 := same_upd (o := .lst []) hp4
      refine ⟨p1, p4, _, [], rfl, rfl, k4 _ _ e1, upd_same, ?_, fun p5 hp5 => ?_⟩
      · rw [cut63 hlen]
        exact Nat.le_trans (by show _ + 0 ≤ 63; exact hlen) (by decide)
      refine ⟨Nat.le_of_ble_eq_true rfl, fun g hg => ?_⟩
      have hne : p5 ≠ g := fun z => by rw [← z, upd_same] at hg; cases hg
      exact q g p5 (n :: r) _ upd_same (by rw [upd_ne hne, upd_same, cut63 hlen, List.append_nil]) (Nat.succ_pos _) hl
end
end Tx


set_option Elab.async false
set_option linter.all false
set_option maxRecDepth 100000
set_option maxHeartbeats 4000000
set_option autoImplicit false
/-! D29: the law. -/
namespace Lg
open PySem PySem.Spec L2
section
variable {X : Cx} {O : List (Addr × Ow)} {ρ : List Sl} {c : Nat} {a : Expr} {pos : Pos}
theorem xt_notE (h : XT X a O ρ c (fun b => b = true)) : XT X (.UnaryOp .Not a pos) O ρ c (fun b => b = false) := xt_of (pt_not pt_s) fun B F T σ H Q hb S q => h B F T σ H _ hb S fun b H2 p S2 => q _ _ (by rw [p]; rfl) S2
end
section
variable {X : Cx} {O : List (Addr × Ow)} {ρ : List Sl} {pos pos' : Pos} {body : List Stmt} {D : Ends} {σ : L2.St} {H : Hp} {B : Bs} {T : List (V × Dt)}
/-- over a drawn list of at most n, at a cost of c a turn -/
theorem w_forD {α : Type} (m c c0 n : Nat) {x : Str} {iter : Expr} (enc : α → Dt) (Px : α → Prop) (I : List (Addr × Ow) → List Sl → Prop) (hp : PassesOwn (model X.prog X.w) X.A X.env X.xe) (hc : X.calm = true) (hN : X.N.Nodup)
    (hi : XI X (.Name x pos') iter O ρ c0 (fun ds => ∃ xs : List α, ds = xs.map enc ∧ xs.length ≤ n ∧ ∀ y ∈ xs, Px y)) (S : Sat X.K B O ρ T σ H) (hl : B.n + c0 + n * c ≤ LIM) (h0 : I O ρ)
    (hs : ∀ y M O' ρ' T' σ' H' (N : L2.St → Hp → Prop), Px y → M + c ≤ B.n + c0 + n * c → I O' ρ' → Sat X.K ⟨B.H0, B.HI, B.f, M⟩ O' (ρ'.set m (.d (enc y))) T' σ' H' → (∀ M2 O2 ρ2 σ2 H2, M2 ≤ M + c → I O2 ρ2 → Sat X.K ⟨B.H0, B.HI, B.f, M2⟩ O2 ρ2 T' σ2 H2 → N σ2 H2) → WS X body { D with nx := N, ct := N, bk := D.nx } σ' H')
    (hd : ∀ O' ρ' σ' H', I O' ρ' → Sat X.K (B.add (c0 + n * c)) O' ρ' T σ' H' → D.nx σ' H') (hm : X.N[m]? = some x := by rfl) (hx : Loc X.env.scope x := by first | exact Or.inl rfl | exact Or.inr rfl) (hf : X.fn x = true ∨ X.env.scope.names.lookup x = some .local := by first | exact .inl rfl | exact .inr rfl)
    (hfo : ∀ x, foldedSetIterable iter X.env x = pure x := by intro _; rfl) : W1 X (.For (.Name x pos') iter body [] pos) D σ H := by
  have get : ∀ (xs : List α) (n : Nat) d, (xs.map enc)[n]? = some d → ∃ y, xs[n]? = some y ∧ d = enc y := fun xs n d h => by
    rw [List.getElem?_map] at h
    cases e : xs[n]? with
    | none => rw [e] at h; cases h
    | some y =>
      rw [e] at h
      exact ⟨y, rfl, (Option.some.inj h).symm⟩
  refine w_for (gt := fun ds k ρ' => ρ'.set m (.d (ds.getD k .non))) (is := [m]) (fun ds k B' O' ρ' => (∃ M, M ≤ B.n + c0 + k * c ∧ B' = ⟨B.H0, B.HI, B.f, M⟩) ∧ I O' ρ') hp hc hi S (by omega) (fun ds p => ⟨⟨B.n + c0, by omega, rfl⟩, h0⟩) (fun ds k d B' O' ρ' p e hI => ?_) (fun ds k d B' O' ρ' T' σ' H' N p e hI S' kN => ?_) (fun ds B' O' ρ' σ' H' p hI S' => ?_) hfo
  · have e2 : ds.getD k .non = d := by rw [List.getD_eq_getElem?_getD, e] <;> rfl
    rw [e2]
    exact xg_name m hN hm hx hf
  · obtain ⟨xs, rfl, hxs, hP⟩ := p
    obtain ⟨y, e1, rfl⟩ := get xs k d e
    obtain ⟨⟨M, hM, rfl⟩, hI⟩ := hI
    have e2 : (xs.map enc).getD k .non = enc y := by rw [List.getD_eq_getElem?_getD, e] <;> rfl
    rw [e2] at S'
    have hlt := (List.getElem?_eq_some_iff.mp e1).1
    have hmul : (k + 1) * c ≤ n * c := Nat.mul_le_mul_right c (Nat.le_trans hlt hxs)
    rw [Nat.add_mul, Nat.one_mul] at hmul
    exact hs y M O' ρ' T' σ' H' N (hP y (List.mem_of_getElem? e1)) (by omega) hI S' fun M2 O2 ρ2 σ2 H2 q0 q1 q2 => kN _ O2 ρ2 σ2 H2 ⟨⟨M2, by rw [Nat.add_mul, Nat.one_mul]; omega, rfl⟩, q1⟩ q2
  · obtain ⟨xs, rfl, hxs, hP⟩ := p
    obtain ⟨⟨M, hM, rfl⟩, hI⟩ := hI
    rw [List.length_map] at hM
    have hmul : xs.length * c ≤ n * c := Nat.mul_le_mul_right c hxs
    exact hd O' ρ' σ' H' hI (S'.raise (m := B.n + (c0 + n * c)) (by show M ≤ _; omega) (by omega))
end
end Lg
namespace Tx
open PySem PySem.Spec L2 Lg Mo
section
variable {P : Program} {w : World} {K : PySem.W.Frag} {mg : Str → Option Value} {base : Heap} {f : Addr} {fd : FuncData}
abbrev sLaw : Stmt := top 84
abbrev laN : List Str := ["_law_script", "_law_feed_here", "_law_turn", "_law_system_here", "_law_goal_here", "_law_k", "_law_some", "_law_goals", "_law_chooser", "_law_thing", "_law_most", "_law_one", "_law_numbers"]
theorem scLaw : FnScope laN ["_law_script"] (defScope sLaw) := ⟨rfl, rfl, rfl, by decide +kernel, rfl, by decide +kernel, by decide +kernel⟩
def spLaw (K : PySem.W.Frag) : Sp := fun vs H Q _ => ∃ (a : Addr) (ns : List Int), vs = [.ref a] ∧ SqL K H a (ns.map V.int) ∧ ns.length ≤ 63 ∧ ∀ H', Q (.bl true) H'
/-- a new feed: from here on all that stands but the feed is as it was -/
theorem sat_start {H : Hp} {g c : Addr} {ms : List Int} {σ : L2.St} {ρ : List Sl} (e1 : H g = some (.lst [.ref c, .int 0, .int 0])) (e2 : H c = some (.lst (ms.map V.int))) (h0 : 0 < ms.length) (h63 : ms.length ≤ 63) (hl : σ.length = ρ.length)
    (hs : ∀ (i : Nat) (s : Sl), ρ[i]? = some s → ∃ v, σ[i]? = some v ∧ SlOk K (del H g) (some g) s v) : Sat K ⟨H, del H g, some g, 0⟩ [] ρ [] σ H := by
  have hne : c ≠ g := fun z => by
    rw [z, e1] at e2
    have e3 := HO.lst.inj (Option.some.inj e2)
    cases ms with
    | nil => cases e3
    | cons m r => cases e3
  have hsub : Same (del H g) H := fun a u h => by
    by_cases ha : a = g
    · rw [ha, del_same] at h; cases h
    · rw [del_ne ha] at h; exact h
  exact ⟨del H g, fun a u h _ => h, fun a u h => h, hsub, fun a _ h => h, fun e he => (by cases he), List.nodup_nil, fun f hf => (by
    cases hf
    exact ⟨by show H g ≠ none; rw [e1]; exact fun z => (by cases z), del_same, _, e1, c, ms, 0, 0, rfl, .inl (.inl (by rw [del_ne hne]; exact e2)), h0, h63, Int.le_refl _, Int.le_refl _⟩), hl, hs, fun x hx => (by cases hx), Nat.zero_le _⟩
theorem many_pos {S : Sys} (hS : WfS S) : 1 ≤ many S := by
  rw [many_pow]
  exact Nat.pow_pos (prod_pos fun s hs => (hS.sz s hs).1)
theorem ok_law {k : Nat} (F : Fun K "law" "law" sLaw f fd) (M : Bi mg) (G0 : Def P w K mg base CX0 k "_law_feed" ["_law_script"] (spFeed K)) (G : Def P w K mg base CX0 k "_law_take" ["_law_feed_here", "_law_many"] (spTake K)) (G1 : Def P w K mg base CX0 k "_law_system" ["_law_feed_here"] (spSys K))
    (G2 : Def P w K mg base CX0 k "_law_goal" ["_law_feed_here", "_law_system_here", "_law_deep"] (spGoal K 1)) (G3 : Def P w K mg base CX0 k "layers_told" ["system", "chooser", "goals"] (spLt K 3)) (G4 : Def P w K mg base CX0 k "_law_papers" ["_law_feed_here", "_law_found"] (spPp K))
    (G5 : Def P w K mg base CX0 k "_law_let" ["_law_system_here", "_law_chooser", "_law_goals", "_law_thing"] (spLe K 3)) (G6 : Def P w K mg base CX0 k "_law_comes" ["_law_feed_here", "_law_system_here", "_law_chooser", "_law_goals", "_law_most"] (spCo K 3)) :
    FnOk P w K mg base CX0 (k + 1) f fd ["_law_script"] (spLaw K) := by
  refine F.ok scLaw (fun vs H Q E h => ?_) (fun cdv A outer s0 H0 vs Q E hr h => ?_)
  · obtain ⟨a, ns, rfl, _⟩ := h
    rfl
  obtain ⟨a, ns, rfl, hS0, hl0, hq⟩ := h
  refine ⟨_, pss_s, ?_⟩
  obtain ⟨f0, fd0, a1, a2, a3, a4⟩ := G0.ex
  have cG1 : cG 1 = 49 := rfl
  refine WS.cons (W1.of (ps_set (i := 1) scLaw.nd rfl (.inr rfl) (pe_call a1 hr rfl a2 a3 a4 .nil pass0 (pa_cons (pv 0) pa_nil))) ?_)
  refine ⟨.ref a, rfl, a, ns, rfl, hS0, hl0, fun g c ms H e1 e2 h0 h63 => ?_⟩
  have S0 : Sat K ⟨H, del H g, some g, 0⟩ [] [.u, .fd, .u, .u, .u, .u, .u, .u, .u, .u, .u, .u, .u] [] [some (.ref a), some (.ref g), none, none, none, none, none, none, none, none, none, none, none] H := sat_start e1 e2 h0 h63 rfl fun i s e => by
    match i, e with
    | 0, e => cases e; exact ⟨_, rfl, trivial⟩
    | 1, e => cases e; exact ⟨_, rfl, g, rfl, rfl⟩
    | 2, e => cases e; exact ⟨_, rfl, trivial⟩
    | 3, e => cases e; exact ⟨_, rfl, trivial⟩
    | 4, e => cases e; exact ⟨_, rfl, trivial⟩
    | 5, e => cases e; exact ⟨_, rfl, trivial⟩
    | 6, e => cases e; exact ⟨_, rfl, trivial⟩
    | 7, e => cases e; exact ⟨_, rfl, trivial⟩
    | 8, e => cases e; exact ⟨_, rfl, trivial⟩
    | 9, e => cases e; exact ⟨_, rfl, trivial⟩
    | 10, e => cases e; exact ⟨_, rfl, trivial⟩
    | 11, e => cases e; exact ⟨_, rfl, trivial⟩
    | 12, e => cases e; exact ⟨_, rfl, trivial⟩
    | n + 13, e => exact absurd (List.getElem?_eq_some_iff.mp e).1 (by show ¬ n + 13 < 13; omega)
  show WS _ _ _ [some (.ref a), some (.ref g), none, none, none, none, none, none, none, none, none, none, none] H
  refine WS.cons (w_forC 2 1500 nD (List.range 2) (fun n O' ρ' => O' = [] ∧ ∃ u2 u3 u4 u5 u6 u7 u8 u9 u10, ρ' = [.u, .fd, u2, u3, u4, u5, u6, u7, u8, u9, u10, .u, .u]) PassesOwn.never rfl scLaw.nd (xj_range M.range xd_int (by decide)) S0 (Nat.le_of_ble_eq_true rfl) ⟨rfl, .u, .u, .u, .u, .u, .u, .u, .u, .u, rfl⟩ (fun i y M1 O' ρ' T' σ' H' N hy hM hI S1 kN => ?_) (fun O' ρ' σ' H' hI S1 => ?_))
  · obtain ⟨rfl, u2, u3, u4, u5, u6, u7, u8, u9, u10, rfl⟩ := hI
    have hM' : M1 + 1500 ≤ 0 + 2 * 1500 := hM
    have hLIM : M1 + 1500 ≤ LIM := Nat.le_trans hM' (by decide)
    refine WS.cons (w_asg (c := 360) (P := SgOk 1) (ρ' := fun d => match d with | .tup [a, b] => [.u, .fd, .d (nD y), .d a, .d b, u5, u6, u7, u8, u9, u10, .u, .u] | _ => []) (is := [3] ++ ([4] ++ [])) (EvP.more (xe_callF (m := 360) 1 G1 hr pass0 xl_nil (fun ds q => ⟨(), q, Nat.le_refl _, fun d h => h⟩)) (by omega)) (fun d pd => by
      obtain ⟨S, g, rfl, _⟩ := pd
      exact xg_two rfl (xg_name 3 scLaw.nd) (xg_name 4 scLaw.nd)) S1 (by show M1 + 360 ≤ _; omega) fun d σ2 H2 p2 S2 => ?_)
    obtain ⟨S, gl, rfl, hS, hgw, hgd⟩ := p2
    have hm1 := many_pos hS
    have hsm := hS.small
    refine WS.cons (w_setLc 6 (c := 50) (P := fun r => ∃ os : List Go, r = .lst (os.map enG) ∧ os.length ≤ 1 ∧ ∀ h ∈ os, wfG S.n S.k h ∧ dpG h ≤ 1) rfl scLaw.nd (blkOk_by (N := laN) (sc := defScope sLaw) (own := [("_law_k", 5)]) (by decide +kernel))
      (ev_lcX [("_law_k", 5)] (c0 := 1) (c1 := 0) (c2 := 49) (Pl := fun ds => ∃ v : Nat, v < 2 ∧ ds = (List.range v).map nD) (ρt := fun ds j => [.u, .fd, .d (nD y), .d (enS S), .d (enG gl), .d (nD j), u6, u7, u8, u9, u10, .u, .u]) (is := [5])
        (xi_rg1 (n := 0) M.range (xe_take 1 (m := 2) (P' := fun r => ∃ v : Nat, v < 2 ∧ r = nD v) G hr xd_int (by decide) (by decide) fun v hv => ⟨v, hv, rfl⟩) fun d h => by obtain ⟨v, hv, rfl⟩ := h; exact ⟨v, rfl, by omega, v, hv, rgF_nD v⟩) (fun i h => h) (fun ds i acc => ∃ os : List Go, acc = os.map enG ∧ os.length ≤ i ∧ ∀ h ∈ os, wfG S.n S.k h ∧ dpG h ≤ 1)
        (fun ds h => by obtain ⟨v, hv, rfl⟩ := h; rw [List.length_map, List.length_range]; omega) (by omega) (fun ds h => by obtain ⟨v, hv, rfl⟩ := h; rw [List.length_map, List.length_range]; omega) (fun _ _ b => b = true) (fun ds i r => GoOk S 1 r)
        (fun ds i d h hd s H0 C cl fp => by
          obtain ⟨v, hv, rfl⟩ := h
          rw [List.getElem?_map] at hd
          cases e : (List.range v)[i]? with
          | none => rw [e] at hd; cases hd
          | some y =>
            rw [e] at hd
            cases hd
            have e2 := (List.getElem?_eq_some_iff.mp e).2
            rw [List.getElem_range] at e2
            subst e2
            exact xg_name 5 scLaw.nd)
        (fun ds i d h hd s H0 C cl fp => xts_nil) (fun ds i d h hd _ s H0 C cl fp => EvP.more (xe_callF (m := 49) 1 G2 hr pass0 (xl_cons (xd_var 3) (xl_cons xd_int xl_nil)) (fun ds q => ⟨S, ⟨q, hS⟩, Nat.le_refl _, fun d h => h⟩)) (by omega)) (fun ds h => ⟨[], rfl, Nat.le_refl _, fun b hb => absurd hb List.not_mem_nil⟩)
        (fun ds i d acc x h hd hG _ hx => by
          obtain ⟨bs, rfl, h1, h2⟩ := hG
          obtain ⟨g', rfl, h3, h4⟩ := hx
          refine ⟨bs ++ [g'], by rw [List.map_append]; rfl, by rw [List.length_append, List.length_singleton]; omega, fun b hb => ?_⟩
          rcases List.mem_append.mp hb with hb | hb
          · exact h2 b hb
          · rw [List.mem_singleton.mp hb]; exact ⟨h3, h4⟩)
        (fun ds i d acc h hd hG hb => by cases hb)
        (fun ds acc h hG => by
          obtain ⟨v, hv, rfl⟩ := h
          obtain ⟨bs, rfl, h1, h2⟩ := hG
          rw [List.length_map, List.length_range] at h1
          exact ⟨bs, rfl, by omega, h2⟩)) S2 (by show M1 + 360 + 50 ≤ _; omega) (fun r σ3 H3 p3 S3 => ?_))
    obtain ⟨os, rfl, hol, hos⟩ := p3
    have hg0 : wfG S.n S.k gl ∧ dpG gl < 3 := ⟨hgw, by omega⟩
    have hos3 : ∀ h ∈ os, wfG S.n S.k h ∧ dpG h < 3 := fun h hh => ⟨(hos h hh).1, by have := (hos h hh).2; omega⟩
    refine WS.cons (w_set 7 (c := 1) (P := fun r => ∃ gs : List Go, r = .lst (gs.map enG) ∧ 1 ≤ gs.length ∧ gs.length ≤ 2 ∧ ∀ h ∈ gs, wfG S.n S.k h ∧ dpG h < 3) (xe_ixL (ds := [.lst ([gl].map enG), .lst ((gl :: os).map enG), .lst ((os.map (fun h => Go.or gl h) ++ [gl]).map enG)]) (XD.ls (xd_lst (xl_cons (xd_lst (xl_cons (xd_var 4) xl_nil)) (xl_cons (xd_is (xd_cat (ds := [enG gl]) (es := os.map enG) (xd_lst (xl_cons (xd_var 4) xl_nil)) (xd_var 6) (by rw [List.length_map]; show 1 + _ ≤ _; omega)) rfl)
      (xl_cons (xd_is (xd_cat (ds := os.map fun h => enG (.or gl h)) (es := [enG gl]) (xe_lcO rfl scLaw.nd (blkOk_by (N := laN) (sc := defScope sLaw) (own := [("_law_one", 11)]) (by decide +kernel)) (EvP.imp
        (ev_lcD [("_law_one", 11)] enG (fun _ => true) (fun h => enG (.or gl h)) os (ρt := fun h => [.u, .fd, .d (nD y), .d (enS S), .d (enG gl), u5, .d (.lst (os.map enG)), u7, u8, u9, u10, .d (enG h), .u]) (is := [11])
          (xj_list (xd_var 6)) (fun i h => h) (by omega) (fun p hp s H0 C cl fp => xg_name 11 scLaw.nd) (fun p hp s H0 C cl fp => EvT.imp xts_nil fun b h => h) (fun h hh _ s' H0 C cl fp => xd_tup (xl_cons xd_str (xl_cons (xd_var 4) (xl_cons (xd_var 11) xl_nil))))) fun d h => by rw [h, filt_true])) (xd_lst (xl_cons (xd_var 4) xl_nil)) (by rw [List.length_map]; show _ + 1 ≤ _; omega)) (by rw [List.map_append, List.map_map]; rfl)) xl_nil)))))
      (xe_take 1 (m := 3) (P' := fun r => ∃ v : Nat, v < 3 ∧ r = nD v) G hr xd_int (by decide) (by decide) fun v hv => ⟨v, hv, rfl⟩) (fun db h => by
        obtain ⟨v, hv, rfl⟩ := h
        match v, hv with
        | 0, _ => exact ⟨_, _, rfl, rfl, [gl], rfl, Nat.le_refl 1, Nat.le_succ 1, fun h hh => by rw [List.mem_singleton.mp hh]; exact hg0⟩
        | 1, _ => exact ⟨_, _, rfl, rfl, gl :: os, rfl, Nat.succ_pos _, by rw [List.length_cons]; omega, fun h hh => by
            rcases List.mem_cons.mp hh with rfl | hh
            · exact hg0
            · exact hos3 h hh⟩
        | 2, _ => exact ⟨_, _, rfl, rfl, _, rfl, by rw [List.length_append, List.length_singleton]; omega, by rw [List.length_append, List.length_singleton, List.length_map]; omega, fun h hh => by
            rcases List.mem_append.mp hh with hh | hh
            · obtain ⟨h', hh', rfl⟩ := List.mem_map.mp hh
              refine ⟨⟨hgw, (hos h' hh').1⟩, ?_⟩
              have := (hos h' hh').2
              show max (dpG gl) (dpG h') + 1 < 3
              omega
            · rw [List.mem_singleton.mp hh]; exact hg0⟩)) S3 (by show M1 + 360 + 50 + 1 ≤ _; omega) (fun r σ4 H4 p4 S4 => ?_) scLaw.nd)
    obtain ⟨gs, rfl, hg1, hg2, hgs⟩ := p4
    refine WS.cons (w_set 8 (c := 1) (P := fun r => ∃ ch : Str, r = .str ch) (xe_ixL (ds := [.str "one", .str "some", .str "all"]) (XD.ls (xd_lst (xl_cons xd_str (xl_cons xd_str (xl_cons xd_str xl_nil))))) (xe_take 1 (m := 3) (P' := fun r => ∃ v : Nat, v < 3 ∧ r = nD v) G hr xd_int (by decide) (by decide) fun v hv => ⟨v, hv, rfl⟩) (fun db h => by
        obtain ⟨v, hv, rfl⟩ := h
        match v, hv with
        | 0, _ => exact ⟨_, _, rfl, rfl, _, rfl⟩
        | 1, _ => exact ⟨_, _, rfl, rfl, _, rfl⟩
        | 2, _ => exact ⟨_, _, rfl, rfl, _, rfl⟩)) S4 (by show M1 + 360 + 50 + 1 + 1 ≤ _; omega) (fun r σ5 H5 p5 S5 => ?_) scLaw.nd)
    obtain ⟨ch, rfl⟩ := p5
    refine WS.cons (w_forD 9 330 3 3 enP (fun p => p = [] ∨ PapOk (many S) gs.length p) (fun O' ρ' => O' = [] ∧ ∃ u5 u9 u10, ρ' = [.u, .fd, .d (nD y), .d (enS S), .d (enG gl), u5, .d (.lst (os.map enG)), .d (.lst (gs.map enG)), .d (.str ch), u9, u10, .u, .u]) PassesOwn.never rfl scLaw.nd
      (xi_list (EvP.more (xe_callF (m := 3) 1 G4 hr pass0 (xa_cons (c1 := 0) (c2 := 0) (P := fun ds => ∃ d, ds = [d] ∧ ((∃ ds, d = .tup (.str "fails" :: ds)) ∨ ∃ p z, PapOk (many S) gs.length p ∧ d = .tup [.str "rights", enP p, .int z])) (xe_call G3 hr pass0 (xl_cons (xd_var 3) (xl_cons (xd_var 8) (xl_cons (xd_var 7) xl_nil))) fun ds q => ⟨(⟨S, ch, gs⟩ : Lt), ⟨q, hS, by show gs.length ≤ 100; omega, hgs⟩, fun d h => h⟩) xl_nil (fun d ds h1 h2 => ⟨d, by rw [h2], h1⟩))
        (fun ds q => ⟨(many S, gs.length), ⟨hm1, hsm, hg1, by show gs.length ≤ 100; omega, q⟩, Nat.le_refl _, fun d h => h⟩)) (by omega)) fun d h => by obtain ⟨ps, rfl, h1, h2⟩ := h; exact ⟨_, rfl, ps, rfl, h1, h2⟩)
      S5 (by show M1 + 360 + 50 + 1 + 1 + 3 + 3 * 330 ≤ _; omega) ⟨rfl, _, _, _, rfl⟩ (fun p M2 O' ρ' T6 σ6 H6 N6 hp hM2 hI S6 kN6 => ?_) (fun O' ρ' σ6 H6 hI S6 => ?_))
    · obtain ⟨rfl, u5', u9', u10', rfl⟩ := hI
      have hM2' : M2 + 330 ≤ LIM := Nat.le_trans hM2 (by show M1 + 360 + 50 + 1 + 1 + 3 + 3 * 330 ≤ _; omega)
      have hpl : p.length ≤ 100 := by
        rcases hp with rfl | h
        · decide
        · rw [h.1]; omega
      have hpr : ∀ l ∈ p, l.length ≤ 10000 := fun l hl => by
        rcases hp with rfl | h
        · cases hl
        · rw [h.2 l hl]; omega
      refine WS.cons (w_if (c := 0) (Pb := fun b => b = true → LayOk S ch gs p) (xt_val (xe_call G5 hr pass0 (xl_cons (xd_var 3) (xl_cons (xd_var 8) (xl_cons (xd_var 7) (xl_cons (xd_var 9) xl_nil)))) fun ds q => ⟨(⟨S, ch, gs, p⟩ : Ll), ⟨q, hS, by show gs.length ≤ 100; omega, hgs, hpl, hpr⟩, fun d h => h⟩) fun d h => h) S6 S6.lim (fun H7 hb S7 => ?_) (fun H7 _ S7 => WS.nil (WS.nil (kN6 M2 _ _ _ _ (by omega) ⟨rfl, _, _, _, rfl⟩ S7))))
      have hlay := hb rfl
      have hco := lay_comes hS hlay
      have hne : ∀ l ∈ p, l ≠ [] := fun l hl z => by
        have h1 := hlay.2.1 l hl
        rw [isLay, Bool.and_eq_true] at h1
        have h2 := of_decide_eq_true h1.1
        rw [z] at h2
        have h3 : 0 = many S := h2
        omega
      refine WS.cons (w_set 10 (P := fun r => r = .int (p.map maxD).sum) (xd_sum rfl M.sum (XD.ls (EvP.imp (xe_lcO rfl scLaw.nd (blkOk_by (N := laN) (sc := defScope sLaw) (own := [("_law_numbers", 12)]) (by decide +kernel))
        (ev_lcD [("_law_numbers", 12)] enZs (fun _ => true) (fun l => .int (maxD l)) p (ρt := fun l => [.u, .fd, .d (nD y), .d (enS S), .d (enG gl), u5', .d (.lst (os.map enG)), .d (.lst (gs.map enG)), .d (.str ch), .d (enP p), u10', .u, .d (enZs l)]) (is := [12])
          (xj_tup (xd_var 9)) (fun i h => h) (by omega) (fun p hp s H0 C cl fp => xg_name 12 scLaw.nd) (fun p hp s H0 C cl fp => EvT.imp xts_nil fun b h => h) (fun l hl _ s' H0 C cl fp => xd_maxT (ns := l) rfl hr.units M.max (xd_var 12) (hne l hl)))) fun d h => by rw [h, filt_true, List.map_map]; rfl))) S7 S7.lim (fun r σ8 H8 p8 S8 => ?_) scLaw.nd)
      subst p8
      refine WS.cons (w_forC 5 110 nD (List.range 3) (fun n O' ρ' => O' = [] ∧ ∃ u5, ρ' = [.u, .fd, .d (nD y), .d (enS S), .d (enG gl), u5, .d (.lst (os.map enG)), .d (.lst (gs.map enG)), .d (.str ch), .d (enP p), .d (.int (p.map maxD).sum), .u, .u]) PassesOwn.never rfl scLaw.nd (xj_range M.range xd_int (by decide)) S8 (by show M2 + 0 + 0 + 3 * 110 ≤ _; omega) ⟨rfl, _, rfl⟩ (fun i3 y3 M3 O' ρ' T9 σ9 H9 N9 hy3 hM3 hI S9 kN9 => ?_) (fun O' ρ' σ9 H9 hI S9 => ?_))
      · obtain ⟨rfl, u5'', rfl⟩ := hI
        have hM3' : M3 + 110 ≤ LIM := Nat.le_trans hM3 (by show M2 + 0 + 0 + 3 * 110 ≤ _; omega)
        refine WS.cons (w_if (c := 110) (Pb := fun b => b = false) (xt_notE (xt_val (P := fun d => d = .bl true) (EvP.more (xe_callF (m := 110) 1 G6 hr pass0 (xl_cons (xd_var 3) (xl_cons (xd_var 8) (xl_cons (xd_var 7) (xl_cons (xd_var 10) xl_nil)))) (fun ds q => ⟨(S, ch, gs, (p.map maxD).sum), ⟨q, hS, by show gs.length ≤ 100; omega, hgs, hco⟩, Nat.le_refl _, fun d h => h⟩)) (by omega)) fun d h => ⟨true, h, rfl⟩)) S9 hM3' (fun H10 hb S10 => by cases hb) (fun H10 _ S10 => WS.nil (WS.nil (kN9 (M3 + 110) _ _ _ _ (Nat.le_refl _) ⟨rfl, _, rfl⟩ S10))))
      · obtain ⟨rfl, u5'', rfl⟩ := hI
        exact WS.nil (WS.nil (kN6 (M2 + 330) _ _ _ _ (Nat.le_refl _) ⟨rfl, _, _, _, rfl⟩ S9))
    · obtain ⟨rfl, u5', u9', u10', rfl⟩ := hI
      exact WS.nil (kN _ _ _ _ _ (by show M1 + 360 + 50 + 1 + 1 + (3 + 3 * 330) ≤ _; omega) ⟨rfl, _, _, _, _, _, _, _, _, _, rfl⟩ S6)
  · refine WS.cons (w_ret (P := fun d => d = .bl true) xd_bl S1 S1.lim fun d v H3 p3 S3 => ?_)
    subst p3
    cases S3.dr List.mem_cons_self
    exact hq _
end
end Tx


set_option Elab.async false
set_option linter.all false
set_option maxRecDepth 100000
set_option maxHeartbeats 0
/-! Hd1: the head: what the top leaves, by one run in the kernel. -/
namespace Hd
open PySem PySem.Spec PyProof.Rows L2 Lg

def d_how_many : He.DefD := ⟨("how_many", none), "how_many", "how_many", defArgs (Tx.top 8), defBody (Tx.top 8), defScope (Tx.top 8), [], []⟩
def d_is_small : He.DefD := ⟨("is_small", none), "is_small", "is_small", defArgs (Tx.top 9), defBody (Tx.top 9), defScope (Tx.top 9), [], []⟩
def d_ask_small : He.DefD := ⟨("ask_small", none), "ask_small", "ask_small", defArgs (Tx.top 10), defBody (Tx.top 10), defScope (Tx.top 10), [], []⟩
def d_stand_of : He.DefD := ⟨("stand_of", none), "stand_of", "stand_of", defArgs (Tx.top 11), defBody (Tx.top 11), defScope (Tx.top 11), [], []⟩
def d_all_stands : He.DefD := ⟨("all_stands", none), "all_stands", "all_stands", defArgs (Tx.top 12), defBody (Tx.top 12), defScope (Tx.top 12), [], []⟩
def d_value_at : He.DefD := ⟨("value_at", none), "value_at", "value_at", defArgs (Tx.top 15), defBody (Tx.top 15), defScope (Tx.top 15), [], []⟩
def d_holds_at : He.DefD := ⟨("holds_at", none), "holds_at", "holds_at", defArgs (Tx.top 16), defBody (Tx.top 16), defScope (Tx.top 16), [], []⟩
def d_is_whole : He.DefD := ⟨("is_whole", none), "is_whole", "is_whole", defArgs (Tx.top 18), defBody (Tx.top 18), defScope (Tx.top 18), [], []⟩
def d_ring_web : He.DefD := ⟨("ring_web", none), "ring_web", "ring_web", defArgs (Tx.top 19), defBody (Tx.top 19), defScope (Tx.top 19), [], []⟩
def d_line_web : He.DefD := ⟨("line_web", none), "line_web", "line_web", defArgs (Tx.top 20), defBody (Tx.top 20), defScope (Tx.top 20), [], []⟩
def d_rule_at : He.DefD := ⟨("rule_at", none), "rule_at", "rule_at", defArgs (Tx.top 22), defBody (Tx.top 22), defScope (Tx.top 22), [], []⟩
def d_ready_hands : He.DefD := ⟨("ready_hands", none), "ready_hands", "ready_hands", defArgs (Tx.top 23), defBody (Tx.top 23), defScope (Tx.top 23), [], []⟩
def d_boxes_behind : He.DefD := ⟨("boxes_behind", none), "boxes_behind", "boxes_behind", defArgs (Tx.top 24), defBody (Tx.top 24), defScope (Tx.top 24), [], []⟩
def d_ask_acting : He.DefD := ⟨("ask_acting", none), "ask_acting", "ask_acting", defArgs (Tx.top 25), defBody (Tx.top 25), defScope (Tx.top 25), [], []⟩
def d_acted : He.DefD := ⟨("acted", none), "acted", "acted", defArgs (Tx.top 26), defBody (Tx.top 26), defScope (Tx.top 26), [], []⟩
def d_is_right : He.DefD := ⟨("is_right", none), "is_right", "is_right", defArgs (Tx.top 28), defBody (Tx.top 28), defScope (Tx.top 28), [], []⟩
def d_choices : He.DefD := ⟨("choices", none), "choices", "choices", defArgs (Tx.top 31), defBody (Tx.top 31), defScope (Tx.top 31), [], []⟩
def d_steps_at : He.DefD := ⟨("steps_at", none), "steps_at", "steps_at", defArgs (Tx.top 32), defBody (Tx.top 32), defScope (Tx.top 32), [], []⟩
def d_is_count : He.DefD := ⟨("is_count", none), "is_count", "is_count", defArgs (Tx.top 34), defBody (Tx.top 34), defScope (Tx.top 34), [], []⟩
def d_step_numbers : He.DefD := ⟨("step_numbers", none), "step_numbers", "step_numbers", defArgs (Tx.top 35), defBody (Tx.top 35), defScope (Tx.top 35), [], []⟩
def d_right_flags : He.DefD := ⟨("right_flags", none), "right_flags", "right_flags", defArgs (Tx.top 36), defBody (Tx.top 36), defScope (Tx.top 36), [], []⟩
def d_longest_ways : He.DefD := ⟨("longest_ways", none), "longest_ways", "longest_ways", defArgs (Tx.top 37), defBody (Tx.top 37), defScope (Tx.top 37), [], []⟩
def d_is_layer : He.DefD := ⟨("is_layer", none), "is_layer", "is_layer", defArgs (Tx.top 39), defBody (Tx.top 39), defScope (Tx.top 39), [], []⟩
def d_stand_fault : He.DefD := ⟨("stand_fault", none), "stand_fault", "stand_fault", defArgs (Tx.top 40), defBody (Tx.top 40), defScope (Tx.top 40), [], []⟩
def d_lets_layers : He.DefD := ⟨("lets_layers", none), "lets_layers", "lets_layers", defArgs (Tx.top 41), defBody (Tx.top 41), defScope (Tx.top 41), [], []⟩
def d_leaving_pair : He.DefD := ⟨("leaving_pair", none), "leaving_pair", "leaving_pair", defArgs (Tx.top 43), defBody (Tx.top 43), defScope (Tx.top 43), [], []⟩
def d_ring_among : He.DefD := ⟨("ring_among", none), "ring_among", "ring_among", defArgs (Tx.top 44), defBody (Tx.top 44), defScope (Tx.top 44), [], []⟩
def d_fault_of : He.DefD := ⟨("fault_of", none), "fault_of", "fault_of", defArgs (Tx.top 45), defBody (Tx.top 45), defScope (Tx.top 45), [], []⟩
def d_layers_told : He.DefD := ⟨("layers_told", none), "layers_told", "layers_told", defArgs (Tx.top 46), defBody (Tx.top 46), defScope (Tx.top 46), [], []⟩
def d_ring_system : He.DefD := ⟨("ring_system", none), "ring_system", "ring_system", defArgs (Tx.top 60), defBody (Tx.top 60), defScope (Tx.top 60), [], []⟩
def d_least_free : He.DefD := ⟨("least_free", none), "least_free", "least_free", defArgs (Tx.top 61), defBody (Tx.top 61), defScope (Tx.top 61), [], []⟩
def d_hues_system : He.DefD := ⟨("hues_system", none), "hues_system", "hues_system", defArgs (Tx.top 62), defBody (Tx.top 62), defScope (Tx.top 62), [], []⟩
def d_posts_system : He.DefD := ⟨("posts_system", none), "posts_system", "posts_system", defArgs (Tx.top 63), defBody (Tx.top 63), defScope (Tx.top 63), [], []⟩
def d_distances_system : He.DefD := ⟨("distances_system", none), "distances_system", "distances_system", defArgs (Tx.top 64), defBody (Tx.top 64), defScope (Tx.top 64), [], []⟩
def d__law_feed : He.DefD := ⟨("_law_feed", none), "_law_feed", "_law_feed", defArgs (Tx.top 66), defBody (Tx.top 66), defScope (Tx.top 66), [], []⟩
def d__law_take : He.DefD := ⟨("_law_take", none), "_law_take", "_law_take", defArgs (Tx.top 67), defBody (Tx.top 67), defScope (Tx.top 67), [], []⟩
def d__law_term : He.DefD := ⟨("_law_term", none), "_law_term", "_law_term", defArgs (Tx.top 68), defBody (Tx.top 68), defScope (Tx.top 68), [], []⟩
def d__law_claim : He.DefD := ⟨("_law_claim", none), "_law_claim", "_law_claim", defArgs (Tx.top 69), defBody (Tx.top 69), defScope (Tx.top 69), [], []⟩
def d__law_rule : He.DefD := ⟨("_law_rule", none), "_law_rule", "_law_rule", defArgs (Tx.top 70), defBody (Tx.top 70), defScope (Tx.top 70), [], []⟩
def d__law_rules : He.DefD := ⟨("_law_rules", none), "_law_rules", "_law_rules", defArgs (Tx.top 71), defBody (Tx.top 71), defScope (Tx.top 71), [], []⟩
def d__law_drawn : He.DefD := ⟨("_law_drawn", none), "_law_drawn", "_law_drawn", defArgs (Tx.top 72), defBody (Tx.top 72), defScope (Tx.top 72), [], []⟩
def d__law_own : He.DefD := ⟨("_law_own", none), "_law_own", "_law_own", defArgs (Tx.top 73), defBody (Tx.top 73), defScope (Tx.top 73), [], []⟩
def d__law_system : He.DefD := ⟨("_law_system", none), "_law_system", "_law_system", defArgs (Tx.top 74), defBody (Tx.top 74), defScope (Tx.top 74), [], []⟩
def d__law_goal : He.DefD := ⟨("_law_goal", none), "_law_goal", "_law_goal", defArgs (Tx.top 75), defBody (Tx.top 75), defScope (Tx.top 75), [], []⟩
def d__law_stands : He.DefD := ⟨("_law_stands", none), "_law_stands", "_law_stands", defArgs (Tx.top 76), defBody (Tx.top 76), defScope (Tx.top 76), [], []⟩
def d__law_pairs : He.DefD := ⟨("_law_pairs", none), "_law_pairs", "_law_pairs", defArgs (Tx.top 77), defBody (Tx.top 77), defScope (Tx.top 77), [], []⟩
def d__law_sets : He.DefD := ⟨("_law_sets", none), "_law_sets", "_law_sets", defArgs (Tx.top 78), defBody (Tx.top 78), defScope (Tx.top 78), [], []⟩
def d__law_steps : He.DefD := ⟨("_law_steps", none), "_law_steps", "_law_steps", defArgs (Tx.top 79), defBody (Tx.top 79), defScope (Tx.top 79), [], []⟩
def d__law_let : He.DefD := ⟨("_law_let", none), "_law_let", "_law_let", defArgs (Tx.top 80), defBody (Tx.top 80), defScope (Tx.top 80), [], []⟩
def d__law_all_right : He.DefD := ⟨("_law_all_right", none), "_law_all_right", "_law_all_right", defArgs (Tx.top 81), defBody (Tx.top 81), defScope (Tx.top 81), [], []⟩
def d__law_comes : He.DefD := ⟨("_law_comes", none), "_law_comes", "_law_comes", defArgs (Tx.top 82), defBody (Tx.top 82), defScope (Tx.top 82), [], []⟩
def d__law_papers : He.DefD := ⟨("_law_papers", none), "_law_papers", "_law_papers", defArgs (Tx.top 83), defBody (Tx.top 83), defScope (Tx.top 83), [], []⟩
def d_law : He.DefD := ⟨("law", none), "law", "law", defArgs (Tx.top 84), defBody (Tx.top 84), defScope (Tx.top 84), [], []⟩
def d_NoPaper___init__ : He.DefD := ⟨("NoPaper", some "__init__"), "__init__", "NoPaper.__init__", defArgs (inClass (Tx.top 3) 0), defBody (inClass (Tx.top 3) 0), defScope (inClass (Tx.top 3) 0), [], []⟩
def d_Sight___init__ : He.DefD := ⟨("Sight", some "__init__"), "__init__", "Sight.__init__", defArgs (inClass (Tx.top 14) 0), defBody (inClass (Tx.top 14) 0), defScope (inClass (Tx.top 14) 0), [], []⟩
def d_Sight_over_others : He.DefD := ⟨("Sight", some "over_others"), "over_others", "Sight.over_others", defArgs (inClass (Tx.top 14) 1), defBody (inClass (Tx.top 14) 1), defScope (inClass (Tx.top 14) 1), [], []⟩
def d_Sight_plain : He.DefD := ⟨("Sight", some "plain"), "plain", "Sight.plain", defArgs (inClass (Tx.top 14) 2), defBody (inClass (Tx.top 14) 2), defScope (inClass (Tx.top 14) 2), [], []⟩
def d_Sight_by_eye : He.DefD := ⟨("Sight", some "by_eye"), "by_eye", "Sight.by_eye", defArgs (inClass (Tx.top 14) 3), defBody (inClass (Tx.top 14) 3), defScope (inClass (Tx.top 14) 3), [], []⟩
def d_Sight_reckoned : He.DefD := ⟨("Sight", some "reckoned"), "reckoned", "Sight.reckoned", defArgs (inClass (Tx.top 14) 4), defBody (inClass (Tx.top 14) 4), defScope (inClass (Tx.top 14) 4), [], []⟩
def d_Sight_number_at : He.DefD := ⟨("Sight", some "number_at"), "number_at", "Sight.number_at", defArgs (inClass (Tx.top 14) 5), defBody (inClass (Tx.top 14) 5), defScope (inClass (Tx.top 14) 5), [], []⟩
def d_Sight_is_so : He.DefD := ⟨("Sight", some "is_so"), "is_so", "Sight.is_so", defArgs (inClass (Tx.top 14) 6), defBody (inClass (Tx.top 14) 6), defScope (inClass (Tx.top 14) 6), [], []⟩
def fn0 : List He.DefD := [d_how_many, d_is_small, d_ask_small, d_stand_of, d_all_stands, d_value_at, d_holds_at, d_is_whole, d_ring_web, d_line_web, d_rule_at, d_ready_hands, d_boxes_behind, d_ask_acting, d_acted, d_is_right, d_choices, d_steps_at, d_is_count, d_step_numbers, d_right_flags, d_longest_ways, d_is_layer, d_stand_fault, d_lets_layers, d_leaving_pair, d_ring_among, d_fault_of, d_layers_told, d_ring_system]
def fn1 : List He.DefD := [d_least_free, d_hues_system, d_posts_system, d_distances_system, d__law_feed, d__law_take, d__law_term, d__law_claim, d__law_rule, d__law_rules, d__law_drawn, d__law_own, d__law_system, d__law_goal, d__law_stands, d__law_pairs, d__law_sets, d__law_steps, d__law_let, d__law_all_right, d__law_comes, d__law_papers, d_law, d_NoPaper___init__, d_Sight___init__, d_Sight_over_others, d_Sight_plain, d_Sight_by_eye, d_Sight_reckoned, d_Sight_number_at]
def fn2 : List He.DefD := [d_Sight_is_so]
def fn : List He.DefD := fn0 ++ (fn1 ++ (fn2))
def fa0 : List He.Fa := [.glo "how_many", .glo "is_small", .glo "ask_small", .glo "stand_of", .glo "all_stands", .glo "value_at", .glo "holds_at", .glo "is_whole", .glo "ring_web", .glo "line_web", .glo "rule_at", .glo "ready_hands", .glo "boxes_behind", .glo "ask_acting", .glo "acted", .glo "is_right", .glo "choices", .glo "steps_at", .glo "is_count", .glo "step_numbers", .glo "right_flags", .glo "longest_ways", .glo "is_layer", .glo "stand_fault", .glo "lets_layers", .glo "leaving_pair", .glo "ring_among", .glo "fault_of", .glo "layers_told", .glo "ring_system"]
def fa1 : List He.Fa := [.glo "least_free", .glo "hues_system", .glo "posts_system", .glo "distances_system", .glo "_law_feed", .glo "_law_take", .glo "_law_term", .glo "_law_claim", .glo "_law_rule", .glo "_law_rules", .glo "_law_drawn", .glo "_law_own", .glo "_law_system", .glo "_law_goal", .glo "_law_stands", .glo "_law_pairs", .glo "_law_sets", .glo "_law_steps", .glo "_law_let", .glo "_law_all_right", .glo "_law_comes", .glo "_law_papers", .glo "law", .glo "RightError", .glo "NoStep", .glo "NoPaper", .glo "TooMany", .glo "Sight", .free "len", .free "range"]
def fa2 : List He.Fa := [.free "tuple", .free "list", .free "reversed", .free "enumerate", .free "int", .free "bool", .free "isinstance", .free "max", .free "min", .free "all", .free "sum", .free "sorted", .free "dict", .int "MOST_HANDS" 6, .int "MOST_STANDS" 4096, .int "MOST_READY" 10, .cls "Sight", .noat "Sight" "eyes_told", .noat "Sight" "stand_told", .noat "Sight" "own_hand", .noat "Sight" "looked_at", .meth "Sight" "over_others", .meth "Sight" "plain", .meth "Sight" "by_eye", .meth "Sight" "reckoned", .meth "Sight" "number_at", .meth "Sight" "is_so", .mkr "Sight", .noat "NoPaper" "word", .noat "NoPaper" "number"]
def fa3 : List He.Fa := [.exm "NoPaper" "NoPaper" true]
def fa : List He.Fa := fa0 ++ (fa1 ++ (fa2 ++ (fa3)))
def names0 : List PySem.Str := ["RightError", "NoStep", "NoPaper", "TooMany", "MOST_HANDS", "MOST_STANDS", "how_many", "is_small", "ask_small", "stand_of", "all_stands", "Sight", "value_at", "holds_at", "is_whole", "ring_web", "line_web", "rule_at", "ready_hands", "boxes_behind", "ask_acting", "acted", "is_right", "MOST_READY", "choices", "steps_at", "is_count", "step_numbers", "right_flags", "longest_ways"]
def names1 : List PySem.Str := ["is_layer", "stand_fault", "lets_layers", "leaving_pair", "ring_among", "fault_of", "layers_told", "NOUGHT", "UNIT", "OWN", "ITS", "ITS_LEAST", "LIKE_OWN", "ALIKE", "NONE_ALIKE", "POSTS", "NO_POSTS", "AT_POST", "POSTED", "ring_system", "least_free", "hues_system", "posts_system", "distances_system", "_law_feed", "_law_take", "_law_term", "_law_claim", "_law_rule", "_law_rules"]
def names2 : List PySem.Str := ["_law_drawn", "_law_own", "_law_system", "_law_goal", "_law_stands", "_law_pairs", "_law_sets", "_law_steps", "_law_let", "_law_all_right", "_law_comes", "_law_papers"]
def names : List PySem.Str := names0 ++ (names1 ++ (names2))
/-! facts of one's own: an exception class with an __init__ of its own; constants that are data -/
def excB (K : PySem.W.Frag) (C : Addr) : Bool := match K.lookup C with
  | some ⟨.type "type", _, .cls cd, sl⟩ => (match cd.mro, sl.toList with
    | .ref C' :: bm, [_, _, _, _, some (.builtin n), _] => C' == C && (n == "ValueError.__new__" && (!cd.hasDel && (cd.hasDict && PySem.HandSPX.refsVE bm)))
    | _, _ => false)
  | _ => false
mutual
def cstB (K : PySem.W.Frag) : Dt → Value → Bool
  | .int i, .int j _ => decide (i = j)
  | .str x, .str y _ => decide (x = y)
  | .tup ds, .ref a => (match K.lookup a with
    | some ⟨.type c, _, .seq its _, _⟩ => decide (c = "tuple") && (decide (its.size ≤ sizeLine) && cstsB K ds its.toList)
    | _ => false)
  | _, _ => false
def cstsB (K : PySem.W.Frag) : List Dt → List Value → Bool
  | [], [] => true
  | d :: ds, v :: vs => cstB K d v && cstsB K ds vs
  | _, _ => false
end
def gloB (K : PySem.W.Frag) (x : Str) (d : Dt) : Bool := match PySem.W.nsIn K mainGlobals x with
  | some (some v) => cstB K d v
  | _ => false
def tN (n : Int) : Dt := .tup [.str "num", .int n]
def tOwn : Dt := .tup [.str "own", .int 0]
def tIts : Dt := .tup [.str "its", .int 0]
def tAl : Dt := .tup [.str "many", .tup [.str "like", tIts, tOwn]]
def tPo : Dt := .tup [.str "many", .tup [.str "like", tIts, tN 1]]
def tNp : Dt := .tup [.str "like", tPo, tN 0]
def csts : List (PySem.Str × Dt) := [("NOUGHT", tN 0), ("UNIT", tN 1), ("OWN", tOwn), ("ITS", tIts), ("ITS_LEAST", .tup [.str "least", tIts]), ("ALIKE", tAl), ("NONE_ALIKE", .tup [.str "like", tAl, tN 0]), ("POSTS", tPo), ("NO_POSTS", tNp), ("AT_POST", .tup [.str "like", tOwn, tN 1]), ("POSTED", .tup [.str "like", tOwn, .tup [.str "if", tNp, tN 1, tN 0]])]
def veB (K : PySem.W.Frag) (C0 : Addr) : Bool := match PySem.W.findCls K (.ref C0) (.type "type") "__init__" with
  | some (.val (.builtin n)) => n == "ValueError.__init__"
  | _ => false
def noB (K : PySem.W.Frag) (C C0 : Addr) : Bool :=
  excB K C && (He.eqO (PySem.W.findIn K (.ref C) "__setattr__") (some (some (.builtin "object.__setattr__"))) && (decide (PySem.W.subIn K (.ref C) (.type "BaseException") = some true) && (decide (PySem.W.typeIn K (.ref C) = some (.type "type")) && (PySem.W.keepIn K (.ref C) &&
  (He.eqO (PySem.W.findIn K (.ref C) "__init__") (some (some (.ref (He.ma K C "__init__")))) && (decide (PySem.W.typeIn K (.ref (He.ma K C "__init__")) = some (.type "function")) && (decide (PySem.W.typeIn K (.ref C0) = some (.type "type")) && veB K C0)))))))
def exB (K : PySem.W.Frag) : Bool := noB K (He.ga K "NoPaper") (He.ga K "RightError") && (He.eqO (PySem.W.nsIn K cStatics "thirdparty.any") (some none) && csts.all fun q => gloB K q.1 q.2)
/-! the Hook -/
def asX (g : Addr → Option Obj) : Nat → List Addr
  | 0 => [mainGlobals, cStatics]
  | n + 1 => He.growD g (asX g n)
def obsX (K : PySem.W.Frag) : Bool × He.AlD := (exB K, He.obsD fa fn K)
def valX : Bool × He.AlD := (true, He.valD fn)
def obsXG (n : Nat) (g : Addr → Option Obj) : Bool × He.AlD := obsX (He.frG g (asX g n))
def SaysX (K : PySem.W.Frag) : Prop := obsX K = valX
def hookX (n : Nat) : PySem.W.Hook where
  α := Bool × He.AlD
  obs := fun s => obsXG n s.heap.get?
  val := fun _ => valX
  says := fun _ h => ∃ K : PySem.W.Frag, K.In h ∧ SaysX K
  of := fun _ _ e => ⟨_, He.frG_in, e⟩
  keeps := fun _ _ _ ⟨K, hK, c⟩ k => ⟨K, PySem.W.Frag.In.keeps hK k, c⟩
theorem obsXG_eq {n : Nat} {g : Addr → Option Obj} {s : Shared} (h : ∀ a, g a = s.heap.get? a) : obsXG n g = (hookX n).obs s := by
  have e : g = s.heap.get? := funext h
  rw [e] <;> rfl
abbrev R : PySem.W.OpenRow := PySem.W.OpenLaw.row PySem.Challenge.rw_selfrights_k78_whole_layers_come_and_sta
abbrev hk : PySem.W.Hook := hookX 5
def ob (s : PySem.W.SharedT) : Bool × He.AlD := obsXG 5 (HandSHeadRun.getT s)
theorem ob_eq (s : PySem.W.SharedT) : ob s = hk.obs s.abs := obsXG_eq (HandSHeadRun.getT_eq s)
theorem run (w : World) : HandSHeadRun.RunEq R (PySem.W.view R.prog [84]) hk ob 6000 names w := by
  intro os
  kernel_rfl
end Hd



set_option Elab.async false
set_option linter.all false
set_option maxRecDepth 100000
set_option maxHeartbeats 4000000
set_option autoImplicit false
/-! D30: all facts collected; the end. -/
namespace Tx
open PySem PySem.Spec PyProof.Rows L2 Lg Mo
theorem toFun {K : PySem.W.Frag} {x q : Str} {st : Stmt} {f : Addr} {fd : FuncData} (F : FunD K x q (defArgs st) (defBody st) (defScope st) [] [] f fd) : Fun K x q st f fd := by
  obtain ⟨oc, od, dV, kV, doc, pm, an, cdv, ct, osl, rfl, lk, hcd, hD, hK⟩ := F.ex
  rcases hD with ⟨_, rfl⟩ | ⟨e, _⟩
  · exact ⟨⟨oc, od, kV, doc, pm, an, cdv, ct, osl, rfl, lk, hcd⟩, F.kp⟩
  · exact absurd rfl e
/-- a def as it stands behind the top -/
structure Got (K : PySem.W.Frag) (mg : Str → Option Value) (x : Str) (st : Stmt) (ps : List Str) : Prop where
  ex : ∃ (f : Addr) (fd : FuncData), Fun K x x st f fd ∧ mg x = some (.ref f) ∧ PySem.W.keepIn K (.ref f) = true ∧ Binds K fd ps []
theorem got {K : PySem.W.Frag} {h : Heap} {mg : Str → Option Value} {x : Str} {st : Stmt} {ps : List Str} (X : K.In h) (G : h.Ns mainGlobals mg) (c : ∃ fd, FunD K x x (defArgs st) (defBody st) (defScope st) [] [] (He.ga K x) fd) (g : (He.Fa.glo x).ok K = true)
    (hb : ∀ (kV doc pm : Value) (an : Option Addr) (cdv ct : Value) (us : List Value), us.length = ps.length → bindArgs (PySem.W.fnOf x x (defArgs st) (defBody st) (defScope st) .none kV doc pm an cdv ct) ⟨us, []⟩ = pure (ps.zip us)) : Got K mg x st ps := by
  obtain ⟨fd, F⟩ := c
  exact ⟨_, fd, toFun F, He.glo_ok X G g, F.kp, F.bindsN hb⟩
theorem Got.to {P : Program} {w : World} {K : PySem.W.Frag} {mg : Str → Option Value} {base : Heap} {CX : CXT} {x : Str} {st : Stmt} {ps : List Str} {sp : Sp} (g : Got K mg x st ps) (k : Nat) (q : ∀ f fd, Fun K x x st f fd → FnOk P w K mg base CX k f fd ps sp) : Def P w K mg base CX k x ps sp := by
  obtain ⟨f, fd, F, h1, h2, h3⟩ := g.ex
  exact ⟨f, fd, q f fd F, h1, h2, h3⟩
theorem mf {K : PySem.W.Frag} {C f : Addr} {m q : Str} {st : Stmt} {ps : List Str} (c : ∃ fd, FunD K m q (defArgs st) (defBody st) (defScope st) [] [] f fd) (h : Meth K C m f)
    (hb : ∀ (kV doc pm : Value) (an : Option Addr) (cdv ct : Value) (us : List Value), us.length = ps.length → bindArgs (PySem.W.fnOf m q (defArgs st) (defBody st) (defScope st) .none kV doc pm an cdv ct) ⟨us, []⟩ = pure (ps.zip us)) : MF K C m q st ps := by
  obtain ⟨fd, F⟩ := c
  exact ⟨_, fd, toFun F, h, F.bindsN hb⟩
/-! the class of the error -/
theorem excB_ok {K : PySem.W.Frag} {C : Addr} (q : Hd.excB K C = true) : ∃ nm qn N bs bm sn sub ab col dd k0 k1 k2 k3 k5, K.lookup C = some (excClassObj nm qn C N bs bm true sn sub ab col dd k0 k1 k2 k3 k5 "ValueError.__new__") ∧ PySem.HandSPX.refsVE bm = true := by
  unfold Hd.excB at q
  split at q
  · rename_i dd cd sl ho
    split at q
    · rename_i C' bm k0 k1 k2 k3 n k5 hm hs
      simp only [Bool.and_eq_true, beq_iff_eq, Bool.not_eq_true'] at q
      obtain ⟨rfl, rfl, hdel, hdict, ht⟩ := q
      obtain ⟨nm, bs, mro, ns, qn, hd, sn, sub, ab, col, del⟩ := cd
      dsimp only at hm hdel hdict
      subst hm hdel hdict
      have hsl : sl = #[k0, k1, k2, k3, some (.builtin "ValueError.__new__"), k5] := by
        obtain ⟨l⟩ := sl
        simp only at hs
        rw [hs]
      subst hsl
      exact ⟨nm, qn, ns, bs, bm, sn, sub, ab, col, dd, k0, k1, k2, k3, k5, ho, ht⟩
    · cases q
  · cases q
theorem veB_ok {K : PySem.W.Frag} {C0 : Addr} (q : Hd.veB K C0 = true) : PySem.W.findCls K (.ref C0) (.type "type") "__init__" = some (.val (.builtin "ValueError.__init__")) := by
  unfold Hd.veB at q
  split at q
  · rename_i n h
    rw [h, beq_iff_eq.mp q]
  · cases q
theorem noB_ok {K : PySem.W.Frag} {C C0 : Addr} (q : Hd.noB K C C0 = true) : OexC K C ∧ PySem.W.findIn K (.ref C) "__init__" = some (some (.ref (He.ma K C "__init__"))) ∧ PySem.W.typeIn K (.ref (He.ma K C "__init__")) = some (.type "function") ∧ PySem.W.typeIn K (.ref C0) = some (.type "type") ∧
    PySem.W.findCls K (.ref C0) (.type "type") "__init__" = some (.val (.builtin "ValueError.__init__")) := by
  obtain ⟨q1, q⟩ := He.ba q
  obtain ⟨q2, q⟩ := He.ba q
  obtain ⟨q3, q⟩ := He.ba q
  obtain ⟨q4, q⟩ := He.ba q
  obtain ⟨q5, q⟩ := He.ba q
  obtain ⟨q6, q⟩ := He.ba q
  obtain ⟨q7, q⟩ := He.ba q
  obtain ⟨q8, q9⟩ := He.ba q
  exact ⟨⟨excB_ok q1, He.eqO_ok q2, of_decide_eq_true q3, of_decide_eq_true q4, q5⟩, He.eqO_ok q6, of_decide_eq_true q7, of_decide_eq_true q8, veB_ok q9⟩
/-! constants that are data -/
mutual
theorem cstB_ok {K : PySem.W.Frag} : ∀ (d : Dt) (u : Value), Hd.cstB K d u = true → ∃ v, RelV v u ∧ ∀ H, Dr K H v d
  | .int i, u, h => by
    cases u with
    | int j t =>
      rw [Hd.cstB] at h
      have e := of_decide_eq_true h
      subst e
      exact ⟨.int i, ⟨t, rfl⟩, fun H => .int i⟩
    | _ => simp [Hd.cstB] at h
  | .str x, u, h => by
    cases u with
    | str j t =>
      rw [Hd.cstB] at h
      have e := of_decide_eq_true h
      subst e
      exact ⟨.str x, ⟨t, rfl⟩, fun H => .str x⟩
    | _ => simp [Hd.cstB] at h
  | .tup ds, u, h => by
    cases u with
    | ref a =>
      rw [Hd.cstB] at h
      split at h
      · rename_i c dd its n sl q
        obtain ⟨h1, h2⟩ := He.ba h
        obtain ⟨h3, h4⟩ := He.ba h2
        obtain ⟨vs, r, hd⟩ := cstsB_ok ds its.toList h4
        exact ⟨.ref a, rfl, fun H => .tup (.inr ⟨_, its, n, q, congrArg Value.type (of_decide_eq_true h1), rfl, of_decide_eq_true h3, r⟩) (hd H)⟩
      · cases h
    | _ => simp [Hd.cstB] at h
  | .non, u, h => by cases u <;> simp [Hd.cstB] at h
  | .bl _, u, h => by cases u <;> simp [Hd.cstB] at h
  | .lst _, u, h => by cases u <;> simp [Hd.cstB] at h
  | .ob _ _, u, h => by cases u <;> simp [Hd.cstB] at h
  | .dk _, u, h => by cases u <;> simp [Hd.cstB] at h
theorem cstsB_ok {K : PySem.W.Frag} : ∀ (ds : List Dt) (us : List Value), Hd.cstsB K ds us = true → ∃ vs, Vals vs us ∧ ∀ H, DrL K H vs ds
  | [], [], _ => ⟨[], .nil, fun H => .nil⟩
  | [], _ :: _, h => by simp [Hd.cstsB] at h
  | _ :: _, [], h => by simp [Hd.cstsB] at h
  | d :: ds, u :: us, h => by
    rw [Hd.cstsB] at h
    obtain ⟨h1, h2⟩ := He.ba h
    obtain ⟨v, r1, d1⟩ := cstB_ok d u h1
    obtain ⟨vs, r2, d2⟩ := cstsB_ok ds us h2
    exact ⟨v :: vs, .cons r1 r2, fun H => .cons (d1 H) (d2 H)⟩
end
theorem gloB_ok {K : PySem.W.Frag} {h : Heap} {mg : Str → Option Value} {x : Str} {d : Dt} (X : K.In h) (G : h.Ns mainGlobals mg) (q : Hd.gloB K x d = true) : Cst K mg x d := by
  unfold Hd.gloB at q
  split at q
  · rename_i u e
    obtain ⟨v, r, hd⟩ := cstB_ok d u q
    exact ⟨v, u, PySem.W.mg_of X G e, r, hd⟩
  · cases q

structure Gs (K : PySem.W.Frag) (mg : Str → Option Value) : Prop where
  g_how : Got K mg "how_many" (top 8) ["system"]
  g_small : Got K mg "is_small" (top 9) ["system"]
  g_ask : Got K mg "ask_small" (top 10) ["system"]
  g_of : Got K mg "stand_of" (top 11) ["system", "number"]
  g_all : Got K mg "all_stands" (top 12) ["system"]
  g_val : Got K mg "value_at" (top 15) ["eyes", "stand", "hand", "term"]
  g_hol : Got K mg "holds_at" (top 16) ["eyes", "stand", "hand", "claim"]
  g_whole : Got K mg "is_whole" (top 18) ["thing"]
  g_ring : Got K mg "ring_web" (top 19) ["many"]
  g_line : Got K mg "line_web" (top 20) ["many"]
  g_ruleAt : Got K mg "rule_at" (top 22) ["system", "stand", "hand"]
  g_ready : Got K mg "ready_hands" (top 23) ["system", "stand"]
  g_behind : Got K mg "boxes_behind" (top 24) ["system", "stand", "hand"]
  g_act0 : Got K mg "ask_acting" (top 25) ["system", "stand", "hands"]
  g_acted : Got K mg "acted" (top 26) ["system", "stand", "hands"]
  g_right : Got K mg "is_right" (top 28) ["system", "goal", "stand"]
  g_cho : Got K mg "choices" (top 31) ["chooser", "ready"]
  g_steps : Got K mg "steps_at" (top 32) ["system", "chooser", "stand"]
  g_count : Got K mg "is_count" (top 34) ["thing", "least", "most"]
  g_sn : Got K mg "step_numbers" (top 35) ["system", "chooser"]
  g_flags : Got K mg "right_flags" (top 36) ["system", "goal"]
  g_ways : Got K mg "longest_ways" (top 37) ["nexts", "pool"]
  g_lay : Got K mg "is_layer" (top 39) ["many", "thing"]
  g_sf : Got K mg "stand_fault" (top 40) ["steps", "within", "right", "numbers", "s"]
  g_ll : Got K mg "lets_layers" (top 41) ["system", "chooser", "goals", "thing"]
  g_lp : Got K mg "leaving_pair" (top 43) ["steps", "within", "right"]
  g_ri : Got K mg "ring_among" (top 44) ["steps", "pool"]
  g_fa : Got K mg "fault_of" (top 45) ["system", "steps", "within", "right", "ways"]
  g_lt : Got K mg "layers_told" (top 46) ["system", "chooser", "goals"]
  g_rs : Got K mg "ring_system" (top 60) ["many", "size"]
  g_lf : Got K mg "least_free" (top 61) ["many"]
  g_hu : Got K mg "hues_system" (top 62) ["eyes", "many"]
  g_po : Got K mg "posts_system" (top 63) ["eyes"]
  g_di : Got K mg "distances_system" (top 64) ["eyes", "root", "most"]
  g_feed : Got K mg "_law_feed" (top 66) ["_law_script"]
  g_take : Got K mg "_law_take" (top 67) ["_law_feed_here", "_law_many"]
  g_term : Got K mg "_law_term" (top 68) ["_law_feed_here", "_law_sizes", "_law_deep", "_law_inner"]
  g_claim : Got K mg "_law_claim" (top 69) ["_law_feed_here", "_law_sizes", "_law_deep", "_law_inner"]
  g_rule : Got K mg "_law_rule" (top 70) ["_law_feed_here", "_law_sizes", "_law_boxes"]
  g_rules : Got K mg "_law_rules" (top 71) ["_law_feed_here", "_law_sizes", "_law_boxes", "_law_most"]
  g_drawn : Got K mg "_law_drawn" (top 72) ["_law_feed_here"]
  g_own : Got K mg "_law_own" (top 73) ["_law_feed_here"]
  g_sys : Got K mg "_law_system" (top 74) ["_law_feed_here"]
  g_goal : Got K mg "_law_goal" (top 75) ["_law_feed_here", "_law_system_here", "_law_deep"]
  g_st : Got K mg "_law_stands" (top 76) ["_law_system_here"]
  g_pa : Got K mg "_law_pairs" (top 77) ["_law_some", "_law_others"]
  g_se : Got K mg "_law_sets" (top 78) ["_law_hands"]
  g_ls : Got K mg "_law_steps" (top 79) ["_law_system_here", "_law_chooser", "_law_stand"]
  g_le : Got K mg "_law_let" (top 80) ["_law_system_here", "_law_chooser", "_law_goals", "_law_thing"]
  g_ar : Got K mg "_law_all_right" (top 81) ["_law_system_here", "_law_goals", "_law_stand"]
  g_co : Got K mg "_law_comes" (top 82) ["_law_feed_here", "_law_system_here", "_law_chooser", "_law_goals", "_law_most"]
  g_pp : Got K mg "_law_papers" (top 83) ["_law_feed_here", "_law_found"]
  g_law : Got K mg "law" (top 84) ["_law_script"]
theorem gs {K : PySem.W.Frag} {h : Heap} {mg : Str → Option Value} (X : K.In h) (G : h.Ns mainGlobals mg) (c : He.SaysD Hd.fa Hd.fn K) : Gs K mg where
  g_how := got X G (c.def_ 0 (d := Hd.d_how_many)) (c.fact 0 (f := .glo "how_many")) fun _ _ _ _ _ _ us hl => match us, hl with | [_], _ => rfl
  g_small := got X G (c.def_ 1 (d := Hd.d_is_small)) (c.fact 1 (f := .glo "is_small")) fun _ _ _ _ _ _ us hl => match us, hl with | [_], _ => rfl
  g_ask := got X G (c.def_ 2 (d := Hd.d_ask_small)) (c.fact 2 (f := .glo "ask_small")) fun _ _ _ _ _ _ us hl => match us, hl with | [_], _ => rfl
  g_of := got X G (c.def_ 3 (d := Hd.d_stand_of)) (c.fact 3 (f := .glo "stand_of")) fun _ _ _ _ _ _ us hl => match us, hl with | [_, _], _ => rfl
  g_all := got X G (c.def_ 4 (d := Hd.d_all_stands)) (c.fact 4 (f := .glo "all_stands")) fun _ _ _ _ _ _ us hl => match us, hl with | [_], _ => rfl
  g_val := got X G (c.def_ 5 (d := Hd.d_value_at)) (c.fact 5 (f := .glo "value_at")) fun _ _ _ _ _ _ us hl => match us, hl with | [_, _, _, _], _ => rfl
  g_hol := got X G (c.def_ 6 (d := Hd.d_holds_at)) (c.fact 6 (f := .glo "holds_at")) fun _ _ _ _ _ _ us hl => match us, hl with | [_, _, _, _], _ => rfl
  g_whole := got X G (c.def_ 7 (d := Hd.d_is_whole)) (c.fact 7 (f := .glo "is_whole")) fun _ _ _ _ _ _ us hl => match us, hl with | [_], _ => rfl
  g_ring := got X G (c.def_ 8 (d := Hd.d_ring_web)) (c.fact 8 (f := .glo "ring_web")) fun _ _ _ _ _ _ us hl => match us, hl with | [_], _ => rfl
  g_line := got X G (c.def_ 9 (d := Hd.d_line_web)) (c.fact 9 (f := .glo "line_web")) fun _ _ _ _ _ _ us hl => match us, hl with | [_], _ => rfl
  g_ruleAt := got X G (c.def_ 10 (d := Hd.d_rule_at)) (c.fact 10 (f := .glo "rule_at")) fun _ _ _ _ _ _ us hl => match us, hl with | [_, _, _], _ => rfl
  g_ready := got X G (c.def_ 11 (d := Hd.d_ready_hands)) (c.fact 11 (f := .glo "ready_hands")) fun _ _ _ _ _ _ us hl => match us, hl with | [_, _], _ => rfl
  g_behind := got X G (c.def_ 12 (d := Hd.d_boxes_behind)) (c.fact 12 (f := .glo "boxes_behind")) fun _ _ _ _ _ _ us hl => match us, hl with | [_, _, _], _ => rfl
  g_act0 := got X G (c.def_ 13 (d := Hd.d_ask_acting)) (c.fact 13 (f := .glo "ask_acting")) fun _ _ _ _ _ _ us hl => match us, hl with | [_, _, _], _ => rfl
  g_acted := got X G (c.def_ 14 (d := Hd.d_acted)) (c.fact 14 (f := .glo "acted")) fun _ _ _ _ _ _ us hl => match us, hl with | [_, _, _], _ => rfl
  g_right := got X G (c.def_ 15 (d := Hd.d_is_right)) (c.fact 15 (f := .glo "is_right")) fun _ _ _ _ _ _ us hl => match us, hl with | [_, _, _], _ => rfl
  g_cho := got X G (c.def_ 16 (d := Hd.d_choices)) (c.fact 16 (f := .glo "choices")) fun _ _ _ _ _ _ us hl => match us, hl with | [_, _], _ => rfl
  g_steps := got X G (c.def_ 17 (d := Hd.d_steps_at)) (c.fact 17 (f := .glo "steps_at")) fun _ _ _ _ _ _ us hl => match us, hl with | [_, _, _], _ => rfl
  g_count := got X G (c.def_ 18 (d := Hd.d_is_count)) (c.fact 18 (f := .glo "is_count")) fun _ _ _ _ _ _ us hl => match us, hl with | [_, _, _], _ => rfl
  g_sn := got X G (c.def_ 19 (d := Hd.d_step_numbers)) (c.fact 19 (f := .glo "step_numbers")) fun _ _ _ _ _ _ us hl => match us, hl with | [_, _], _ => rfl
  g_flags := got X G (c.def_ 20 (d := Hd.d_right_flags)) (c.fact 20 (f := .glo "right_flags")) fun _ _ _ _ _ _ us hl => match us, hl with | [_, _], _ => rfl
  g_ways := got X G (c.def_ 21 (d := Hd.d_longest_ways)) (c.fact 21 (f := .glo "longest_ways")) fun _ _ _ _ _ _ us hl => match us, hl with | [_, _], _ => rfl
  g_lay := got X G (c.def_ 22 (d := Hd.d_is_layer)) (c.fact 22 (f := .glo "is_layer")) fun _ _ _ _ _ _ us hl => match us, hl with | [_, _], _ => rfl
  g_sf := got X G (c.def_ 23 (d := Hd.d_stand_fault)) (c.fact 23 (f := .glo "stand_fault")) fun _ _ _ _ _ _ us hl => match us, hl with | [_, _, _, _, _], _ => rfl
  g_ll := got X G (c.def_ 24 (d := Hd.d_lets_layers)) (c.fact 24 (f := .glo "lets_layers")) fun _ _ _ _ _ _ us hl => match us, hl with | [_, _, _, _], _ => rfl
  g_lp := got X G (c.def_ 25 (d := Hd.d_leaving_pair)) (c.fact 25 (f := .glo "leaving_pair")) fun _ _ _ _ _ _ us hl => match us, hl with | [_, _, _], _ => rfl
  g_ri := got X G (c.def_ 26 (d := Hd.d_ring_among)) (c.fact 26 (f := .glo "ring_among")) fun _ _ _ _ _ _ us hl => match us, hl with | [_, _], _ => rfl
  g_fa := got X G (c.def_ 27 (d := Hd.d_fault_of)) (c.fact 27 (f := .glo "fault_of")) fun _ _ _ _ _ _ us hl => match us, hl with | [_, _, _, _, _], _ => rfl
  g_lt := got X G (c.def_ 28 (d := Hd.d_layers_told)) (c.fact 28 (f := .glo "layers_told")) fun _ _ _ _ _ _ us hl => match us, hl with | [_, _, _], _ => rfl
  g_rs := got X G (c.def_ 29 (d := Hd.d_ring_system)) (c.fact 29 (f := .glo "ring_system")) fun _ _ _ _ _ _ us hl => match us, hl with | [_, _], _ => rfl
  g_lf := got X G (c.def_ 30 (d := Hd.d_least_free)) (c.fact 30 (f := .glo "least_free")) fun _ _ _ _ _ _ us hl => match us, hl with | [_], _ => rfl
  g_hu := got X G (c.def_ 31 (d := Hd.d_hues_system)) (c.fact 31 (f := .glo "hues_system")) fun _ _ _ _ _ _ us hl => match us, hl with | [_, _], _ => rfl
  g_po := got X G (c.def_ 32 (d := Hd.d_posts_system)) (c.fact 32 (f := .glo "posts_system")) fun _ _ _ _ _ _ us hl => match us, hl with | [_], _ => rfl
  g_di := got X G (c.def_ 33 (d := Hd.d_distances_system)) (c.fact 33 (f := .glo "distances_system")) fun _ _ _ _ _ _ us hl => match us, hl with | [_, _, _], _ => rfl
  g_feed := got X G (c.def_ 34 (d := Hd.d__law_feed)) (c.fact 34 (f := .glo "_law_feed")) fun _ _ _ _ _ _ us hl => match us, hl with | [_], _ => rfl
  g_take := got X G (c.def_ 35 (d := Hd.d__law_take)) (c.fact 35 (f := .glo "_law_take")) fun _ _ _ _ _ _ us hl => match us, hl with | [_, _], _ => rfl
  g_term := got X G (c.def_ 36 (d := Hd.d__law_term)) (c.fact 36 (f := .glo "_law_term")) fun _ _ _ _ _ _ us hl => match us, hl with | [_, _, _, _], _ => rfl
  g_claim := got X G (c.def_ 37 (d := Hd.d__law_claim)) (c.fact 37 (f := .glo "_law_claim")) fun _ _ _ _ _ _ us hl => match us, hl with | [_, _, _, _], _ => rfl
  g_rule := got X G (c.def_ 38 (d := Hd.d__law_rule)) (c.fact 38 (f := .glo "_law_rule")) fun _ _ _ _ _ _ us hl => match us, hl with | [_, _, _], _ => rfl
  g_rules := got X G (c.def_ 39 (d := Hd.d__law_rules)) (c.fact 39 (f := .glo "_law_rules")) fun _ _ _ _ _ _ us hl => match us, hl with | [_, _, _, _], _ => rfl
  g_drawn := got X G (c.def_ 40 (d := Hd.d__law_drawn)) (c.fact 40 (f := .glo "_law_drawn")) fun _ _ _ _ _ _ us hl => match us, hl with | [_], _ => rfl
  g_own := got X G (c.def_ 41 (d := Hd.d__law_own)) (c.fact 41 (f := .glo "_law_own")) fun _ _ _ _ _ _ us hl => match us, hl with | [_], _ => rfl
  g_sys := got X G (c.def_ 42 (d := Hd.d__law_system)) (c.fact 42 (f := .glo "_law_system")) fun _ _ _ _ _ _ us hl => match us, hl with | [_], _ => rfl
  g_goal := got X G (c.def_ 43 (d := Hd.d__law_goal)) (c.fact 43 (f := .glo "_law_goal")) fun _ _ _ _ _ _ us hl => match us, hl with | [_, _, _], _ => rfl
  g_st := got X G (c.def_ 44 (d := Hd.d__law_stands)) (c.fact 44 (f := .glo "_law_stands")) fun _ _ _ _ _ _ us hl => match us, hl with | [_], _ => rfl
  g_pa := got X G (c.def_ 45 (d := Hd.d__law_pairs)) (c.fact 45 (f := .glo "_law_pairs")) fun _ _ _ _ _ _ us hl => match us, hl with | [_, _], _ => rfl
  g_se := got X G (c.def_ 46 (d := Hd.d__law_sets)) (c.fact 46 (f := .glo "_law_sets")) fun _ _ _ _ _ _ us hl => match us, hl with | [_], _ => rfl
  g_ls := got X G (c.def_ 47 (d := Hd.d__law_steps)) (c.fact 47 (f := .glo "_law_steps")) fun _ _ _ _ _ _ us hl => match us, hl with | [_, _, _], _ => rfl
  g_le := got X G (c.def_ 48 (d := Hd.d__law_let)) (c.fact 48 (f := .glo "_law_let")) fun _ _ _ _ _ _ us hl => match us, hl with | [_, _, _, _], _ => rfl
  g_ar := got X G (c.def_ 49 (d := Hd.d__law_all_right)) (c.fact 49 (f := .glo "_law_all_right")) fun _ _ _ _ _ _ us hl => match us, hl with | [_, _, _], _ => rfl
  g_co := got X G (c.def_ 50 (d := Hd.d__law_comes)) (c.fact 50 (f := .glo "_law_comes")) fun _ _ _ _ _ _ us hl => match us, hl with | [_, _, _, _, _], _ => rfl
  g_pp := got X G (c.def_ 51 (d := Hd.d__law_papers)) (c.fact 51 (f := .glo "_law_papers")) fun _ _ _ _ _ _ us hl => match us, hl with | [_, _], _ => rfl
  g_law := got X G (c.def_ 52 (d := Hd.d_law)) (c.fact 52 (f := .glo "law")) fun _ _ _ _ _ _ us hl => match us, hl with | [_], _ => rfl
theorem bi {K : PySem.W.Frag} {h : Heap} {mg : Str → Option Value} (X : K.In h) (G : h.Ns mainGlobals mg) (c : He.SaysD Hd.fa Hd.fn K) : Bi mg :=
  ⟨He.free_ok X G (c.fact 58 (f := .free "len")), He.free_ok X G (c.fact 59 (f := .free "range")), He.free_ok X G (c.fact 60 (f := .free "tuple")), He.free_ok X G (c.fact 61 (f := .free "list")), He.free_ok X G (c.fact 62 (f := .free "reversed")), He.free_ok X G (c.fact 63 (f := .free "enumerate")), He.free_ok X G (c.fact 64 (f := .free "int")), He.free_ok X G (c.fact 65 (f := .free "bool")), He.free_ok X G (c.fact 66 (f := .free "isinstance")), He.free_ok X G (c.fact 67 (f := .free "max")), He.free_ok X G (c.fact 68 (f := .free "min")), He.free_ok X G (c.fact 69 (f := .free "all")), He.free_ok X G (c.fact 70 (f := .free "sum")), He.free_ok X G (c.fact 71 (f := .free "sorted")), He.free_ok X G (c.fact 72 (f := .free "dict"))⟩
theorem nums {K : PySem.W.Frag} {h : Heap} {mg : Str → Option Value} (X : K.In h) (G : h.Ns mainGlobals mg) (c : He.SaysD Hd.fa Hd.fn K) : Nums mg :=
  ⟨He.int_ok X G (c.fact 73 (f := .int "MOST_HANDS" 6)), He.int_ok X G (c.fact 74 (f := .int "MOST_STANDS" 4096)), He.int_ok X G (c.fact 75 (f := .int "MOST_READY" 10))⟩
theorem sgC {K : PySem.W.Frag} (c : He.SaysD Hd.fa Hd.fn K) : SgC K (He.ga K "Sight") :=
  ⟨He.cls_ok (c.fact 76 (f := .cls "Sight")), He.noat_ok (c.fact 77 (f := .noat "Sight" "eyes_told")), He.noat_ok (c.fact 78 (f := .noat "Sight" "stand_told")), He.noat_ok (c.fact 79 (f := .noat "Sight" "own_hand")), He.noat_ok (c.fact 80 (f := .noat "Sight" "looked_at"))⟩
theorem sgF {K : PySem.W.Frag} (c : He.SaysD Hd.fa Hd.fn K) : SgF K (He.ga K "Sight") where
  over := mf (c.def_ 55 (d := Hd.d_Sight_over_others)) (He.meth_ok (c.fact 81 (f := .meth "Sight" "over_others"))) fun _ _ _ _ _ _ us hl => match us, hl with | [_], _ => rfl
  plain := mf (c.def_ 56 (d := Hd.d_Sight_plain)) (He.meth_ok (c.fact 82 (f := .meth "Sight" "plain"))) fun _ _ _ _ _ _ us hl => match us, hl with | [_, _], _ => rfl
  eye := mf (c.def_ 57 (d := Hd.d_Sight_by_eye)) (He.meth_ok (c.fact 83 (f := .meth "Sight" "by_eye"))) fun _ _ _ _ _ _ us hl => match us, hl with | [_, _, _], _ => rfl
  rek := mf (c.def_ 58 (d := Hd.d_Sight_reckoned)) (He.meth_ok (c.fact 84 (f := .meth "Sight" "reckoned"))) fun _ _ _ _ _ _ us hl => match us, hl with | [_, _], _ => rfl
  num := mf (c.def_ 59 (d := Hd.d_Sight_number_at)) (He.meth_ok (c.fact 85 (f := .meth "Sight" "number_at"))) fun _ _ _ _ _ _ us hl => match us, hl with | [_, _], _ => rfl
  so := mf (c.def_ 60 (d := Hd.d_Sight_is_so)) (He.meth_ok (c.fact 86 (f := .meth "Sight" "is_so"))) fun _ _ _ _ _ _ us hl => match us, hl with | [_, _], _ => rfl
theorem sgM {P : Program} {w : World} {K : PySem.W.Frag} {h : Heap} {mg : Str → Option Value} {base : Heap} (X : K.In h) (G : h.Ns mainGlobals mg) (c : He.SaysD Hd.fa Hd.fn K) (k : Nat) : SgM P w K mg base (He.ga K "Sight") (k + 1) := by
  obtain ⟨fd, F⟩ := c.def_ 54 (d := Hd.d_Sight___init__)
  exact ⟨He.glo_ok X G (c.fact 57 (f := .glo "Sight")), _, fd, He.mkr_ok (c.fact 87 (f := .mkr "Sight")), ok_ini (kk := k) (toFun F) (sgC c), FunD.bindsN F fun _ _ _ _ _ _ us hl => match us, hl with | [_, _, _, _, _], _ => rfl⟩
theorem noC {K : PySem.W.Frag} {h : Heap} {mg : Str → Option Value} (X : K.In h) (G : h.Ns mainGlobals mg) (c : He.SaysD Hd.fa Hd.fn K) (e : Hd.exB K = true) : NoC K mg (He.ga K "NoPaper") (He.ga K "RightError") := by
  obtain ⟨e1, e2⟩ := He.ba e
  obtain ⟨ho, _⟩ := He.ba e2
  obtain ⟨oex, _, _, t0, ve⟩ := noB_ok e1
  exact ⟨oex, He.noat_ok (c.fact 88 (f := .noat "NoPaper" "word")), He.noat_ok (c.fact 89 (f := .noat "NoPaper" "number")), He.glo_ok X G (c.fact 53 (f := .glo "RightError")), He.eqO_ok ho, t0, ve⟩
theorem noF {P : Program} {w : World} {K : PySem.W.Frag} {h : Heap} {mg : Str → Option Value} {base : Heap} (X : K.In h) (G : h.Ns mainGlobals mg) (c : He.SaysD Hd.fa Hd.fn K) (e : Hd.exB K = true) : NoF P w K mg base (He.ga K "NoPaper") := by
  have Z := noC X G c e
  obtain ⟨e1, _⟩ := He.ba e
  obtain ⟨oex, i1, i2, _, _⟩ := noB_ok e1
  obtain ⟨fd, F⟩ := c.def_ 53 (d := Hd.d_NoPaper___init__)
  exact ⟨oex, He.glo_ok X G (c.fact 55 (f := .glo "NoPaper")), _, fd, i1, i2, ok_no (k := 0) (toFun F) Z, FunD.bindsN F fun _ _ _ _ _ _ us hl => match us, hl with | [_, _, _], _ => rfl⟩
theorem cstsOk {K : PySem.W.Frag} {h : Heap} {mg : Str → Option Value} (X : K.In h) (G : h.Ns mainGlobals mg) (e : Hd.exB K = true) : Csts K mg := by
  obtain ⟨_, e2⟩ := He.ba e
  obtain ⟨_, e3⟩ := He.ba e2
  have q : ∀ (i : Nat) x d, Hd.csts[i]? = some (x, d) → Cst K mg x d := fun i x d hi => gloB_ok X G (List.all_eq_true.mp e3 (x, d) (List.mem_of_getElem? hi))
  exact ⟨q 0 "NOUGHT" _ rfl, q 1 "UNIT" _ rfl, q 2 "OWN" _ rfl, q 3 "ITS" _ rfl, q 4 "ITS_LEAST" _ rfl, q 5 "ALIKE" _ rfl, q 6 "NONE_ALIKE" _ rfl, q 7 "POSTS" _ rfl, q 8 "NO_POSTS" _ rfl, q 9 "AT_POST" _ rfl, q 10 "POSTED" _ rfl⟩
theorem facts {P : Program} {w : World} {K : PySem.W.Frag} {h : Heap} {mg : Str → Option Value} {f : Addr} (X : K.In h) (G : h.Ns mainGlobals mg) (hfa : mg ("law" : Str) = some (.ref f)) (c0 : Hd.SaysX K) :
    ∃ fd : FuncData, (∀ (s : Shared) (v : Value), BindsTo s fd ⟨[v], []⟩ [("_law_script", v)]) ∧ ∀ base : Heap, K.In base → base.Ns mainGlobals mg → FnOk P w K mg base CX0 41 f fd ["_law_script"] (spLaw K) := by
  have e : Hd.exB K = true := congrArg Prod.fst c0
  have c : He.SaysD Hd.fa Hd.fn K := congrArg Prod.snd c0
  have M := bi X G c
  have Z := nums X G c
  have Zc := cstsOk X G e
  have g := gs X G c
  have hex := He.exm_ok (c.fact 90 (f := .exm "NoPaper" "NoPaper" true))
  obtain ⟨fd, F⟩ := c.def_ 52 (d := Hd.d_law)
  have ef := hfa.symm.trans (He.glo_ok X G (c.fact 52 (f := .glo "law")))
  cases ef
  have b := FunD.bindsA (ps := ["_law_script"]) F fun _ _ _ _ _ _ us hl => match us, hl with | [_], _ => rfl
  refine ⟨fd, fun s v => b s [v] rfl, fun base _ _ => ?_⟩
  have hn := noF (P := P) (w := w) (base := base) X G c e
  have SC := sgC c
  have BO : Both P w K mg base (He.ga K "Sight") (21 + 1) (DEP + 1) := both (k0 := 1) SC (sgM X G c 0) M (sgF c) (DEP + 1)
  have Y : SgM P w K mg base (He.ga K "Sight") 21 := sgM X G c 20
  have how := g.g_how.to (P := P) (w := w) (base := base) 1 fun f fd F => ok_how (k := 0) F M
  have small := g.g_small.to (P := P) (w := w) (base := base) 2 fun f fd F => ok_small (k := 1) F M Z how
  have ask := g.g_ask.to (P := P) (w := w) (base := base) 3 fun f fd F => ok_ask (k := 2) F small
  have of_ := g.g_of.to (P := P) (w := w) (base := base) 2 fun f fd F => ok_of (k := 1) F M how
  have all_ := g.g_all.to (P := P) (w := w) (base := base) 4 fun f fd F => ok_all (k := 3) F M ask (of_.mono (by decide)) (how.mono (by decide))
  have val_ := g.g_val.to (P := P) (w := w) (base := base) 23 fun f fd F => ok_val (kk := 21) F SC Y BO
  have hol_ := g.g_hol.to (P := P) (w := w) (base := base) 23 fun f fd F => ok_hol (kk := 21) F SC Y BO
  have whole := g.g_whole.to (P := P) (w := w) (base := base) 1 fun f fd F => ok_whole (k := 0) F M
  have ring := g.g_ring.to (P := P) (w := w) (base := base) 1 fun f fd F => ok_ring (k := 0) F M
  have line := g.g_line.to (P := P) (w := w) (base := base) 1 fun f fd F => ok_line (k := 0) F M
  have ruleAt_ := g.g_ruleAt.to (P := P) (w := w) (base := base) 24 fun f fd F => ok_ruleAt (k := 23) F M hol_
  have ready_ := g.g_ready.to (P := P) (w := w) (base := base) 25 fun f fd F => ok_ready (k := 24) F ruleAt_ M.len M.range
  have behind_ := g.g_behind.to (P := P) (w := w) (base := base) 25 fun f fd F => ok_behind (k := 24) F M (val_.mono (by decide)) ruleAt_
  have act0_ := g.g_act0.to (P := P) (w := w) (base := base) 26 fun f fd F => ok_act0 (k := 25) F M ready_ (whole.mono (by decide))
  have acted_ := g.g_acted.to (P := P) (w := w) (base := base) 27 fun f fd F => ok_acted (k := 26) F M act0_ (behind_.mono (by decide))
  have right0 := g.g_right.to (P := P) (w := w) (base := base) 25 fun f fd F => ok_right0 (k := 24) F
  have right1 := g.g_right.to (P := P) (w := w) (base := base) 26 fun f fd F => ok_right (k := 25) F M right0 ready_ (hol_.mono (by decide))
  have right2 := g.g_right.to (P := P) (w := w) (base := base) 27 fun f fd F => ok_right (k := 26) F M right1 (ready_.mono (by decide)) (hol_.mono (by decide))
  have right3 := g.g_right.to (P := P) (w := w) (base := base) 28 fun f fd F => ok_right (k := 27) F M right2 (ready_.mono (by decide)) (hol_.mono (by decide))
  have cho := g.g_cho.to (P := P) (w := w) (base := base) 1 fun f fd F => ok_cho (k := 0) F M
  have steps_ := g.g_steps.to (P := P) (w := w) (base := base) 28 fun f fd F => ok_steps (k := 27) F M Z (ready_.mono (by decide)) (cho.mono (by decide)) acted_
  have count_ := g.g_count.to (P := P) (w := w) (base := base) 1 fun f fd F => ok_count (k := 0) F M
  have lay_ := g.g_lay.to (P := P) (w := w) (base := base) 2 fun f fd F => ok_lay (k := 1) F M count_
  have sn := g.g_sn.to (P := P) (w := w) (base := base) 29 fun f fd F => ok_sn (k := 28) F M (all_.mono (by decide)) steps_
  have flags_ := g.g_flags.to (P := P) (w := w) (base := base) 29 fun f fd F => ok_flags (k := 28) F (all_.mono (by decide)) right3
  have ways := g.g_ways.to (P := P) (w := w) (base := base) 1 fun f fd F => ok_ways (k := 0) F M
  have sf := g.g_sf.to (P := P) (w := w) (base := base) 1 fun f fd F => ok_sf (k := 0) F M
  have ll := g.g_ll.to (P := P) (w := w) (base := base) 30 fun f fd F => ok_ll (k := 29) F M hn (by decide) (how.mono (by decide)) (lay_.mono (by decide)) sn flags_ (sf.mono (by decide))
  have lp := g.g_lp.to (P := P) (w := w) (base := base) 2 fun f fd F => ok_lp (k := 1) F M
  have ri := g.g_ri.to (P := P) (w := w) (base := base) 2 fun f fd F => ok_ri (k := 1) F M
  have fa_ := g.g_fa.to (P := P) (w := w) (base := base) 3 fun f fd F => ok_fa (k := 2) F M lp of_ ri
  have lt_ := g.g_lt.to (P := P) (w := w) (base := base) 30 fun f fd F => ok_lt (k := 29) F M sn flags_ (ways.mono (by decide)) (fa_.mono (by decide))
  have rs := g.g_rs.to (P := P) (w := w) (base := base) 2 fun f fd F => ok_rs (k := 1) F M Zc
  have lf_ := g.g_lf.to (P := P) (w := w) (base := base) 1 fun f fd F => ok_lf (k := 0) F M Zc
  have hu := g.g_hu.to (P := P) (w := w) (base := base) 2 fun f fd F => ok_hu (k := 1) F M Zc lf_
  have po := g.g_po.to (P := P) (w := w) (base := base) 2 fun f fd F => ok_po (k := 1) F M Zc
  have di := g.g_di.to (P := P) (w := w) (base := base) 2 fun f fd F => ok_di (k := 1) F M Zc
  have feed_ := g.g_feed.to (P := P) (w := w) (base := base) 1 fun f fd F => ok_feed (k := 0) F M.int
  have take_ := g.g_take.to (P := P) (w := w) (base := base) 1 fun f fd F => ok_take (k := 0) F M
  have term0 := g.g_term.to (P := P) (w := w) (base := base) 2 fun f fd F => ok_term (k := 1) (d := 0) (.inl rfl) F M take_ (fun z => nomatch z) (fun z => nomatch z)
  have claim0 := g.g_claim.to (P := P) (w := w) (base := base) 3 fun f fd F => ok_claim (k := 2) (d := 0) (.inl rfl) F M (take_.mono (by decide)) term0 term0 (fun z => nomatch z)
  have term1 := g.g_term.to (P := P) (w := w) (base := base) 4 fun f fd F => ok_term (k := 3) (d := 1) (.inr rfl) F M (take_.mono (by decide)) (fun _ => term0.mono (by decide)) (fun _ => claim0)
  have claim1 := g.g_claim.to (P := P) (w := w) (base := base) 5 fun f fd F => ok_claim (k := 4) (d := 1) (.inr rfl) F M (take_.mono (by decide)) term1 (term0.mono (by decide)) (fun _ => claim0.mono (by decide))
  have rule_ := g.g_rule.to (P := P) (w := w) (base := base) 6 fun f fd F => ok_rule (k := 5) F M (take_.mono (by decide)) (term1.mono (by decide)) claim1
  have rules_ := g.g_rules.to (P := P) (w := w) (base := base) 7 fun f fd F => ok_rules (k := 6) F M (take_.mono (by decide)) rule_
  have drawn := g.g_drawn.to (P := P) (w := w) (base := base) 8 fun f fd F => ok_drawn (k := 7) F M (take_.mono (by decide)) rules_
  have goal0 := g.g_goal.to (P := P) (w := w) (base := base) 6 fun f fd F => ok_goal (k := 5) (d := 0) (.inl rfl) F M (take_.mono (by decide)) claim1 (fun z => nomatch z)
  have goal1 := g.g_goal.to (P := P) (w := w) (base := base) 7 fun f fd F => ok_goal (k := 6) (d := 1) (.inr rfl) F M (take_.mono (by decide)) (claim1.mono (by decide)) (fun _ => goal0)
  have own := g.g_own.to (P := P) (w := w) (base := base) 3 fun f fd F => ok_own (k := 2) F M (take_.mono (by decide)) rs (line.mono (by decide)) (ring.mono (by decide)) hu po di
  have sys := g.g_sys.to (P := P) (w := w) (base := base) 9 fun f fd F => ok_sys (k := 8) F M (take_.mono (by decide)) (own.mono (by decide)) drawn (goal1.mono (by decide))
  have pa := g.g_pa.to (P := P) (w := w) (base := base) 1 fun f fd F => ok_pa (k := 0) F
  have st_ := g.g_st.to (P := P) (w := w) (base := base) 2 fun f fd F => ok_st (k := 1) F M pa
  have se := g.g_se.to (P := P) (w := w) (base := base) 1 fun f fd F => ok_se (k := 0) F M
  have ls := g.g_ls.to (P := P) (w := w) (base := base) 28 fun f fd F => ok_ls (k := 27) F M (ready_.mono (by decide)) (se.mono (by decide)) acted_
  have le := g.g_le.to (P := P) (w := w) (base := base) 31 fun f fd F => ok_le (k := 30) F hn.gC hex ll
  have ar_ := g.g_ar.to (P := P) (w := w) (base := base) 29 fun f fd F => ok_ar (k := 28) F right3
  have co := g.g_co.to (P := P) (w := w) (base := base) 30 fun f fd F => ok_co (k := 29) F M (take_.mono (by decide)) (st_.mono (by decide)) ar_ (ls.mono (by decide))
  have pp := g.g_pp.to (P := P) (w := w) (base := base) 2 fun f fd F => ok_pp (k := 1) F M take_
  exact ok_law (k := 40) (toFun F) M (feed_.mono (by decide)) (take_.mono (by decide)) (sys.mono (by decide)) (goal1.mono (by decide)) (lt_.mono (by decide)) (pp.mono (by decide)) (le.mono (by decide)) (co.mono (by decide))
end Tx
open PySem PySem.W PySem.Calls PyProof.Rows
theorem PySem.Challenge.cw_selfrights_k78_whole_layers_come_and_sta_holds : PySem.Challenge.rw_selfrights_k78_whole_layers_come_and_sta.Holds := by
  w_on; o_law
  refine HandSHeadRun.head_any (r := OpenLaw.row PySem.Challenge.rw_selfrights_k78_whole_layers_come_and_sta) (q := view (OpenLaw.row PySem.Challenge.rw_selfrights_k78_whole_layers_come_and_sta).prog [84]) (H := Hd.hk) (ob := Hd.ob) (M := 6000) (loose := Hd.names) (d := HandSHeadRun.topDef (OpenLaw.row PySem.Challenge.rw_selfrights_k78_whole_layers_come_and_sta).prog 84) (kwd := []) Hd.ob_eq
    (by kernel_rfl) (fun s => by kernel_rfl) Hd.run (by kernel_rfl) (by kernel_rfl) (by kernel_rfl) (by rfl) (by first | assumption | decide +kernel) (by decide +kernel) ⟨rfl, rfl, rfl, rfl, rfl, by decide +kernel⟩ ?hw ?hc
  case hw => w_witness2
  case hc =>
    refine L2.walk_ofE (l := PySem.Challenge.rw_selfrights_k78_whole_layers_come_and_sta) (n := 63) (k := 41) (x := "_law_script") (CX := L2.CX0) rfl (by decide) (by kernel_rfl) ⟨rfl, by decide, by decide⟩ ?F (fun _ _ _ _ z => z)
    intro w mg fa h Y G hmg0
    obtain ⟨K, KX, c⟩ := Y
    have hmg : mg ("law" : PySem.Str) = some (.ref fa) := by
      have e : (HandSHeadRun.topDef (OpenLaw.row PySem.Challenge.rw_selfrights_k78_whole_layers_come_and_sta).prog 84).name = ("law" : PySem.Str) := by kernel_rfl
      rw [← e]
      exact hmg0
    obtain ⟨fd, hb, hF⟩ := Tx.facts (P := (PySem.Challenge.rw_selfrights_k78_whole_layers_come_and_sta).prog) (w := w) KX G hmg c
    exact ⟨K, fd, Tx.spLaw K, KX, hb, fun H a ns hl _ hS => ⟨a, ns, rfl, hS, hl, fun _ => rfl⟩, hF⟩


