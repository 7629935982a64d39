import PyProof.Rows.All
import Wide.All
import OpenK.AllK
import Wide.FinOn
import HandS.ForMost
import HandS.ForExc
import HandS.Evl
import HandS.DictComp
import HandS.IsInst
import HandS.TupAny
import HandS.Defaults
import HandS.Wide
import HandS.TryMany
import HandS.ExcField
import HandS.ExcIs
import HandS.ExcInit
import KE.SortKeyHeap
import KE.KSortKey
import HandS.SortKw
import HandS.WordsDict
import HandS.Conv
import HandS.Head0
import HandS.Head1
import HandS.Head2
import HandS.HeadEnd
import HandS.HeadHook1
import HandS.HeadHook2
import HandS.HeadHook3
import PyProof.ListStr
import PyProof.CollectStr
import HandS.OwnEq
import HandS.OwnIter
import KE.KStateDown
import PySem.Challenge.RW_outweighed_k80_verdicts_that_are_refused
set_option Elab.async false
set_option linter.all false
set_option maxRecDepth 100000
set_option maxHeartbeats 2000000
/-! # The data layer: what a Python value IS, apart from where it stands -/
namespace DL
open PySem PySem.Spec PyProof.Rows L2

/-- plain data; ins: an object that is never changed -/
inductive Dat where
  | non | bl (b : Bool) | int (i : Int) | str (x : Str)
  | lst (xs : List Dat) | tup (xs : List Dat) | dct (kvs : List (Key × Dat)) | ins (C : Addr) (fs : List (Str × Dat))

abbrev Ext (H H' : Hp) : Prop := ∀ a o, H a = some o → H' a = some o
theorem Ext.rfl' (H : Hp) : Ext H H := fun _ _ e => e
theorem Ext.tr {H H1 H2 : Hp} (a : Ext H H1) (b : Ext H1 H2) : Ext H H2 := fun c o e => b c o (a c o e)
theorem Ext.none_of {H H' : Hp} (e : Ext H H') {a : Addr} (h : H' a = none) : H a = none := by
  cases q : H a with
  | none => rfl
  | some o => rw [e a o q] at h; cases h
theorem Ext.put {H : Hp} {p : Addr} {o : HO} (h : H p = none) : Ext H (upd H p o) := fun a u e => by
  rw [upd_ne (ne_of_none e h)]; exact e
theorem Ext.seqL {K : PySem.W.Frag} {H H' : Hp} (e : Ext H H') {a : Addr} {xs : List V} (h : SqL K H a xs) : SqL K H' a xs := Evl.ex_l e h
theorem Ext.seqT {K : PySem.W.Frag} {H H' : Hp} (e : Ext H H') {a : Addr} {xs : List V} (h : SqT K H a xs) : SqT K H' a xs := Evl.ex_t e h
theorem Ext.rd {H H' : Hp} (e : Ext H H') {a : Addr} {u : HO} (h : Rd H a u) : Rd H' a u := Evl.ex_rd e h

/-! ### a value stands for data, over the part P of the heap that never changes -/
section
variable (K : PySem.W.Frag) (P : Hp)
mutual
inductive Rp : V → Dat → Prop
  | non : Rp .non .non
  | bl (b : Bool) : Rp (.bl b) (.bl b)
  | int (i : Int) : Rp (.int i) (.int i)
  | str (x : Str) : Rp (.str x) (.str x)
  | lst {a : Addr} {xs : List V} {ds : List Dat} : P a = some (.lst xs) → RpA xs ds → Rp (.ref a) (.lst ds)
  | tup {a : Addr} {xs : List V} {ds : List Dat} : SqT K P a xs → RpA xs ds → Rp (.ref a) (.tup ds)
  | dct {a : Addr} {xs : List (Key × V)} {ds : List (Key × Dat)} : P a = some (.dK xs) → RpK xs ds → Rp (.ref a) (.dct ds)
  | ins {a C dx : Addr} {xs : List (Str × V)} {ds : List (Str × Dat)} : P a = some (.ins C dx xs) → RpF xs ds → Rp (.ref a) (.ins C ds)
inductive RpA : List V → List Dat → Prop
  | nil : RpA [] []
  | cons {v : V} {vs : List V} {d : Dat} {ds : List Dat} : Rp v d → RpA vs ds → RpA (v :: vs) (d :: ds)
inductive RpK : List (Key × V) → List (Key × Dat) → Prop
  | nil : RpK [] []
  | cons {k : Key} {v : V} {vs : List (Key × V)} {d : Dat} {ds : List (Key × Dat)} : Rp v d → RpK vs ds → RpK ((k, v) :: vs) ((k, d) :: ds)
inductive RpF : List (Str × V) → List (Str × Dat) → Prop
  | nil : RpF [] []
  | cons {k : Str} {v : V} {vs : List (Str × V)} {d : Dat} {ds : List (Str × Dat)} : Rp v d → RpF vs ds → RpF ((k, v) :: vs) ((k, d) :: ds)
end
end
section
variable {K : PySem.W.Frag} {P P' : Hp}
mutual
theorem Rp.mono (e : Ext P P') : ∀ {v : V} {d : Dat}, Rp K P v d → Rp K P' v d
  | _, _, .non => .non
  | _, _, .bl b => .bl b
  | _, _, .int i => .int i
  | _, _, .str x => .str x
  | _, _, .lst h r => .lst (e _ _ h) (RpA.mono e r)
  | _, _, .tup h r => .tup (e.seqT h) (RpA.mono e r)
  | _, _, .dct h r => .dct (e _ _ h) (RpK.mono e r)
  | _, _, .ins h r => .ins (e _ _ h) (RpF.mono e r)
theorem RpA.mono (e : Ext P P') : ∀ {vs : List V} {ds : List Dat}, RpA K P vs ds → RpA K P' vs ds
  | _, _, .nil => .nil
  | _, _, .cons h r => .cons (Rp.mono e h) (RpA.mono e r)
theorem RpK.mono (e : Ext P P') : ∀ {vs : List (Key × V)} {ds : List (Key × Dat)}, RpK K P vs ds → RpK K P' vs ds
  | _, _, .nil => .nil
  | _, _, .cons h r => .cons (Rp.mono e h) (RpK.mono e r)
theorem RpF.mono (e : Ext P P') : ∀ {vs : List (Str × V)} {ds : List (Str × Dat)}, RpF K P vs ds → RpF K P' vs ds
  | _, _, .nil => .nil
  | _, _, .cons h r => .cons (Rp.mono e h) (RpF.mono e r)
end
theorem RpA.length : ∀ {vs : List V} {ds : List Dat}, RpA K P vs ds → vs.length = ds.length
  | _, _, .nil => rfl
  | _, _, .cons _ r => by simp [RpA.length r]
theorem RpA.get : ∀ {vs : List V} {ds : List Dat} {i : Nat} {d : Dat}, RpA K P vs ds → ds[i]? = some d → ∃ v, vs[i]? = some v ∧ Rp K P v d
  | _, _, i, d, .nil, e => by simp at e
  | _, _, 0, d, .cons h _, e => by simp at e; subst e; exact ⟨_, rfl, h⟩
  | _, _, i + 1, d, .cons _ r, e => by
    obtain ⟨v, h1, h2⟩ := RpA.get (i := i) (d := d) r (by simpa using e)
    exact ⟨v, by simpa using h1, h2⟩
theorem RpA.getV : ∀ {vs : List V} {ds : List Dat} {i : Nat} {v : V}, RpA K P vs ds → vs[i]? = some v → ∃ d, ds[i]? = some d ∧ Rp K P v d
  | _, _, i, v, .nil, e => by simp at e
  | _, _, 0, v, .cons h _, e => by simp at e; subst e; exact ⟨_, rfl, h⟩
  | _, _, i + 1, v, .cons _ r, e => by
    obtain ⟨d, h1, h2⟩ := RpA.getV (i := i) (v := v) r (by simpa using e)
    exact ⟨d, by simpa using h1, h2⟩
theorem RpA.append : ∀ {vs ws : List V} {ds es : List Dat}, RpA K P vs ds → RpA K P ws es → RpA K P (vs ++ ws) (ds ++ es)
  | _, _, _, _, .nil, s => s
  | _, _, _, _, .cons h r, s => .cons h (RpA.append r s)
theorem RpA.one {v : V} {d : Dat} (h : Rp K P v d) : RpA K P [v] [d] := .cons h .nil
theorem RpA.take : ∀ {vs : List V} {ds : List Dat} (n : Nat), RpA K P vs ds → RpA K P (vs.take n) (ds.take n)
  | _, _, 0, _ => .nil
  | _, _, _ + 1, .nil => .nil
  | _, _, n + 1, .cons h r => .cons h (RpA.take n r)
theorem RpA.drop : ∀ {vs : List V} {ds : List Dat} (n : Nat), RpA K P vs ds → RpA K P (vs.drop n) (ds.drop n)
  | _, _, 0, r => r
  | _, _, _ + 1, .nil => .nil
  | _, _, n + 1, .cons _ r => RpA.drop n r
theorem RpA.eraseIdx : ∀ {vs : List V} {ds : List Dat} (n : Nat), RpA K P vs ds → RpA K P (vs.eraseIdx n) (ds.eraseIdx n)
  | _, _, _, .nil => .nil
  | _, _, 0, .cons _ r => r
  | _, _, n + 1, .cons h r => .cons h (RpA.eraseIdx n r)
theorem RpA.dropLast : ∀ {vs : List V} {ds : List Dat}, RpA K P vs ds → RpA K P vs.dropLast ds.dropLast
  | _, _, .nil => .nil
  | _, _, .cons h .nil => .nil
  | _, _, .cons h (.cons h' r) => .cons h (RpA.dropLast (.cons h' r))
theorem RpA.strs : ∀ xs : List Str, RpA K P (xs.map V.str) (xs.map Dat.str)
  | [] => .nil
  | x :: r => .cons (.str x) (RpA.strs r)
theorem RpA.ints : ∀ xs : List Int, RpA K P (xs.map V.int) (xs.map Dat.int)
  | [] => .nil
  | x :: r => .cons (.int x) (RpA.ints r)
theorem RpA.bls : ∀ xs : List Bool, RpA K P (xs.map V.bl) (xs.map Dat.bl)
  | [] => .nil
  | x :: r => .cons (.bl x) (RpA.bls r)
theorem RpA.of_strs : ∀ {vs : List V} {xs : List Str}, RpA K P vs (xs.map Dat.str) → vs = xs.map V.str
  | _, [], .nil => rfl
  | _, x :: r, .cons h t => by cases h; rw [RpA.of_strs t]; rfl
theorem RpA.of_ints : ∀ {vs : List V} {xs : List Int}, RpA K P vs (xs.map Dat.int) → vs = xs.map V.int
  | _, [], .nil => rfl
  | _, x :: r, .cons h t => by cases h; rw [RpA.of_ints t]; rfl
theorem RpA.of_bls : ∀ {vs : List V} {xs : List Bool}, RpA K P vs (xs.map Dat.bl) → vs = xs.map V.bl
  | _, [], .nil => rfl
  | _, x :: r, .cons h t => by cases h; rw [RpA.of_bls t]; rfl
theorem RpF.look : ∀ {vs : List (Str × V)} {ds : List (Str × Dat)} {f : Str} {d : Dat}, RpF K P vs ds → ds.lookup f = some d → ∃ v, vs.lookup f = some v ∧ Rp K P v d
  | _, _, f, d, .nil, e => by simp [List.lookup] at e
  | _, _, f, d, .cons (k := k) h r, e => by
    simp only [List.lookup] at e ⊢
    by_cases q : (f == k) = true
    · rw [q] at e ⊢
      simp only [Option.some.injEq] at e
      subst e; exact ⟨_, rfl, h⟩
    · have q' : (f == k) = false := by simpa using q
      rw [q'] at e ⊢
      exact RpF.look r e
theorem RpF.look_none : ∀ {vs : List (Str × V)} {ds : List (Str × Dat)} {f : Str}, RpF K P vs ds → ds.lookup f = none → vs.lookup f = none
  | _, _, f, .nil, _ => rfl
  | _, _, f, .cons (k := k) h r, e => by
    simp only [List.lookup] at e ⊢
    by_cases q : (f == k) = true
    · rw [q] at e; cases e
    · have q' : (f == k) = false := by simpa using q
      rw [q'] at e ⊢
      exact RpF.look_none r e
/-- a dict's answer at a key -/
def getD (ds : List (Key × Dat)) (k : Key) : Option Dat := (ds.find? fun kv => decide (kv.1 = k)).map (·.2)
theorem RpK.get : ∀ {vs : List (Key × V)} {ds : List (Key × Dat)} (k : Key), RpK K P vs ds → (∃ v d, valV vs k = some v ∧ getD ds k = some d ∧ Rp K P v d) ∨ (valV vs k = none ∧ getD ds k = none)
  | _, _, k, .nil => .inr ⟨rfl, rfl⟩
  | _, _, k, .cons (k := j) (v := v) (d := d) h r => by
    by_cases e : j = k
    · exact .inl ⟨v, d, by rw [valV_pos e], by simp [getD, e], h⟩
    · rcases RpK.get k r with ⟨v', d', h1, h2, h3⟩ | ⟨h1, h2⟩
      · exact .inl ⟨v', d', by rw [valV_neg e]; exact h1, by simpa [getD, e] using h2, h3⟩
      · exact .inr ⟨by rw [valV_neg e]; exact h1, by simpa [getD, e] using h2⟩
theorem RpK.length : ∀ {vs : List (Key × V)} {ds : List (Key × Dat)}, RpK K P vs ds → vs.length = ds.length
  | _, _, .nil => rfl
  | _, _, .cons _ r => by simp [RpK.length r]
theorem RpK.at_ : ∀ {vs : List (Key × V)} {ds : List (Key × Dat)} {i : Nat} {k : Key} {d : Dat}, RpK K P vs ds → ds[i]? = some (k, d) → ∃ v, vs[i]? = some (k, v) ∧ Rp K P v d
  | _, _, i, k, d, .nil, e => by simp at e
  | _, _, 0, k, d, .cons h _, e => by simp at e; obtain ⟨rfl, rfl⟩ := e; exact ⟨_, rfl, h⟩
  | _, _, i + 1, k, d, .cons _ r, e => by
    obtain ⟨v, h1, h2⟩ := RpK.at_ (i := i) (k := k) (d := d) r (by simpa using e)
    exact ⟨v, by simpa using h1, h2⟩
/-- d[k] = v -/
def putD (ds : List (Key × Dat)) (k : Key) (d : Dat) : List (Key × Dat) :=
  if (ds.any fun kv => decide (kv.1 = k)) = true then ds.map (fun kv => if kv.1 = k then (kv.1, d) else kv) else ds ++ [(k, d)]
theorem RpK.any : ∀ {vs : List (Key × V)} {ds : List (Key × Dat)} (k : Key), RpK K P vs ds → (vs.any fun kv => decide (kv.1 = k)) = (ds.any fun kv => decide (kv.1 = k))
  | _, _, k, .nil => rfl
  | _, _, k, .cons h r => by simp [RpK.any k r]
theorem RpK.repl {v : V} {d : Dat} (h : Rp K P v d) (k : Key) : ∀ {vs : List (Key × V)} {ds : List (Key × Dat)}, RpK K P vs ds → RpK K P (vs.map fun kv => if kv.1 = k then (kv.1, v) else kv) (ds.map fun kv => if kv.1 = k then (kv.1, d) else kv)
  | _, _, .nil => .nil
  | _, _, .cons (k := j) h' r => by
    simp only [List.map_cons]
    by_cases e : j = k
    · simp only [if_pos e]; exact .cons h (RpK.repl h k r)
    · simp only [if_neg e]; exact .cons h' (RpK.repl h k r)
theorem RpK.snoc {v : V} {d : Dat} {k : Key} (h : Rp K P v d) : ∀ {vs : List (Key × V)} {ds : List (Key × Dat)}, RpK K P vs ds → RpK K P (vs ++ [(k, v)]) (ds ++ [(k, d)])
  | _, _, .nil => .cons h .nil
  | _, _, .cons h' r => .cons h' (RpK.snoc h r)
theorem RpK.put {vs : List (Key × V)} {ds : List (Key × Dat)} {k : Key} {v : V} {d : Dat} (r : RpK K P vs ds) (h : Rp K P v d) : RpK K P (putK vs k v) (putD ds k d) := by
  unfold putK putD
  rw [RpK.any k r]
  by_cases e : (ds.any fun kv => decide (kv.1 = k)) = true
  · rw [if_pos e, if_pos e]; exact RpK.repl h k r
  · rw [if_neg e, if_neg e]; exact RpK.snoc h r
end

/-! ### steps: P grows, the heap is kept but at A; what is new in P is new -/
structure Stp (A : List Addr) (P H P' H' : Hp) : Prop where
  pp : Ext P P'
  ph : Ext P' H'
  hh : ∀ a o, a ∉ A → H a = some o → H' a = some o
  nw : ∀ a, a ∉ A → P a = none → P' a ≠ none → H a = none
  dm : ∀ a, H a ≠ none → H' a ≠ none
section
variable {A A1 A2 : List Addr} {P H P1 H1 P2 H2 : Hp}
theorem Stp.refl (h : Ext P H) : Stp A P H P H := ⟨.rfl' _, h, fun _ _ _ e => e, fun _ _ e n => absurd e n, fun _ e => e⟩
theorem Stp.trans (x : Stp A P H P1 H1) (y : Stp A1 P1 H1 P2 H2) (hA : ∀ a ∈ A1, a ∈ A ∨ H a = none) : Stp A P H P2 H2 where
  pp := x.pp.tr y.pp
  ph := y.ph
  hh := fun a o n e => y.hh a o (fun m => (hA a m).elim n fun z => by rw [z] at e; cases e) (x.hh a o n e)
  nw := fun a n e q => by
    by_cases z : P1 a = none
    · by_cases m : a ∈ A1
      · exact (hA a m).elim (fun k => absurd k n) id
      · have := y.nw a m z q
        cases w : H a with
        | none => rfl
        | some o => rw [x.hh a o n w] at this; cases this
    · exact x.nw a n e z
  dm := fun a e => y.dm a (x.dm a e)
theorem Stp.tr (x : Stp A P H P1 H1) (y : Stp A P1 H1 P2 H2) : Stp A P H P2 H2 := x.trans y fun _ m => .inl m
theorem Stp.tr0 (x : Stp A P H P1 H1) (y : Stp [] P1 H1 P2 H2) : Stp A P H P2 H2 := x.trans y fun _ m => nomatch m
theorem Stp.mono (x : Stp A P H P1 H1) (h : ∀ a ∈ A, a ∈ A1 ∨ H a = none) : Stp A1 P H P1 H1 where
  pp := x.pp
  ph := x.ph
  hh := fun a o n e => x.hh a o (fun m => (h a m).elim n fun z => by rw [z] at e; cases e) e
  nw := fun a n e q => by
    by_cases m : a ∈ A
    · exact (h a m).elim (fun k => absurd k n) id
    · exact x.nw a m e q
  dm := x.dm
/-- all is kept -/
theorem Stp.hExt (x : Stp [] P H P1 H1) : Ext H H1 := fun a o e => x.hh a o (by simp) e
theorem Stp.keepNone (x : Stp A P H P1 H1) {a : Addr} (n : a ∉ A) (hp : P a = none) (hh : H a ≠ none) : P1 a = none := by
  cases w : P1 a with
  | none => rfl
  | some o => exact absurd (x.nw a n hp (by rw [w]; exact nofun)) hh
/-- a new object that never changes -/
theorem Stp.new {o : HO} {p : Addr} (h : Ext P H) (n : H p = none) : Stp A P H (upd P p o) (upd H p o) where
  pp := Ext.put (h.none_of n)
  ph := fun a u e => by
    by_cases z : a = p
    · subst z; rw [upd_same] at e ⊢; exact e
    · rw [upd_ne z] at e ⊢; exact h a u e
  hh := fun a u _ e => Ext.put n a u e
  nw := fun a _ e q => by
    by_cases z : a = p
    · subst z; exact n
    · rw [upd_ne z] at q; exact absurd e q
  dm := fun a e => by
    by_cases z : a = p
    · subst z; rw [upd_same]; exact nofun
    · rw [upd_ne z]; exact e
/-- a new object that may change -/
theorem Stp.newM {o : HO} {p : Addr} (h : Ext P H) (n : H p = none) : Stp A P H P (upd H p o) where
  pp := .rfl' _
  ph := h.tr (Ext.put n)
  hh := fun a u _ e => Ext.put n a u e
  nw := fun a _ e q => absurd e q
  dm := fun a e => by
    by_cases z : a = p
    · subst z; rw [upd_same]; exact nofun
    · rw [upd_ne z]; exact e
/-- an object that may change is changed -/
theorem Stp.set {o : HO} {p : Addr} (h : Ext P H) (n : P p = none) (m : p ∈ A) : Stp A P H P (upd H p o) where
  pp := .rfl' _
  ph := fun a u e => by rw [upd_ne (ne_of_none e n)]; exact h a u e
  hh := fun a u q e => by
    have z : a ≠ p := fun z => q (z ▸ m)
    rw [upd_ne z]; exact e
  nw := fun a _ e q => absurd e q
  dm := fun a e => by
    by_cases z : a = p
    · subst z; rw [upd_same]; exact nofun
    · rw [upd_ne z]; exact e
/-- .. is changed no more -/
theorem Stp.freeze {o : HO} {p : Addr} (h : Ext P H) (n : H p = some o) (np : P p = none) (m : p ∈ A) : Stp A P H (upd P p o) H where
  pp := Ext.put np
  ph := fun a u e => by
    by_cases z : a = p
    · subst z; rw [upd_same] at e; rw [n]; exact e
    · rw [upd_ne z] at e; exact h a u e
  hh := fun _ _ _ e => e
  nw := fun a q e r => by
    by_cases z : a = p
    · subst z; exact absurd m q
    · rw [upd_ne z] at r; exact absurd e r
  dm := fun _ e => e
end
end DL
namespace DL
open PySem PySem.Spec PyProof.Rows L2
/-! ### what may change: the owned objects, by address -/
/-- a slot: not known, data, an owned object, the script -/
inductive Sl where
  | un | dat (d : Dat) | adr (a : Addr) | scr (ns : List Int)
/-- an owned object: a list, a dict of data, a dict of owned objects, an instance, the law's store -/
inductive Mu where
  | mls (ds : List Dat) | mdc (kvs : List (Key × Dat)) | mdl (kvs : List (Key × Addr)) | mis (C dx : Addr) (fs : List (Str × Sl)) | sto
abbrev Mem := List (Addr × Mu)
abbrev adrs (μ : Mem) : List Addr := μ.map (·.1)
section
variable (K : PySem.W.Frag)
def RelS (P : Hp) (v : V) : Sl → Prop
  | .un => True
  | .dat d => Rp K P v d
  | .adr a => v = .ref a
  | .scr ns => ∃ a, v = .ref a ∧ SqL K P a (ns.map V.int)
def RelSs (P : Hp) : List V → List Sl → Prop
  | [], [] => True
  | v :: vs, s :: ss => RelS K P v s ∧ RelSs P vs ss
  | _, _ => False
def SlotOk (P : Hp) (o : Option V) : Sl → Prop
  | .un => True
  | .dat d => ∃ v, o = some v ∧ Rp K P v d
  | .adr a => o = some (.ref a)
  | .scr ns => ∃ a, o = some (.ref a) ∧ SqL K P a (ns.map V.int)
def EnvOk (P : Hp) : L2.St → List Sl → Prop
  | [], [] => True
  | o :: σ, s :: Γ => SlotOk K P o s ∧ EnvOk P σ Γ
  | _, _ => False
/-- fields of an owned instance -/
def RelF (P : Hp) : List (Str × V) → List (Str × Sl) → Prop
  | [], [] => True
  | (f, v) :: vs, (g, s) :: ss => f = g ∧ RelS K P v s ∧ RelF P vs ss
  | _, _ => False
/-- the law's store -/
def StoOk (P : Hp) (kvs : List (Key × V)) : Prop := ∃ (c : V) (ns : List Int) (i r t z : Int), Rp K P c (.lst (ns.map Dat.int)) ∧ ns.length ≤ 100000 ∧ 0 ≤ i ∧ 0 ≤ r ∧
  kvs = [(.inr "cells", c), (.inr "at", .int i), (.inr "rest", .int r), (.inr "turn", .int t), (.inr "seed", .int z)]
def MuOk (P H : Hp) (a : Addr) : Mu → Prop
  | .mls ds => ∃ xs, H a = some (.lst xs) ∧ RpA K P xs ds
  | .mdc kvs => ∃ vs, H a = some (.dK vs) ∧ RpK K P vs kvs
  | .mdl kvs => H a = some (.dK (kvs.map fun p => (p.1, V.ref p.2)))
  | .mis C dx fs => ∃ vs, H a = some (.ins C dx vs) ∧ RelF K P vs fs
  | .sto => ∃ kvs, H a = some (.dK kvs) ∧ StoOk K P kvs
def StOk (P H : Hp) (μ : Mem) : Prop := (∀ p ∈ μ, P p.1 = none ∧ MuOk K P H p.1 p.2) ∧ (adrs μ).Nodup
structure Go (P H : Hp) (μ : Mem) (P' H' : Hp) (μ' : Mem) : Prop where
  stp : Stp (adrs μ) P H P' H'
  ok : StOk K P' H' μ'
  new : ∀ a ∈ adrs μ', a ∈ adrs μ ∨ H a = none
end
section
variable {K : PySem.W.Frag} {P P' P1 P2 H H' H1 H2 : Hp} {μ μ' μ1 μ2 : Mem} {Γ : List Sl} {σ : L2.St} {v : V} {s : Sl} {a : Addr}
theorem RelS.mono (e : Ext P P') : ∀ {s : Sl}, RelS K P v s → RelS K P' v s
  | .un, h => h
  | .dat _, h => Rp.mono e h
  | .adr _, h => h
  | .scr _, ⟨a, h1, h2⟩ => ⟨a, h1, e.seqL h2⟩
theorem RelSs.mono (e : Ext P P') : ∀ {vs : List V} {ss : List Sl}, RelSs K P vs ss → RelSs K P' vs ss
  | [], [], h => h
  | _ :: _, _ :: _, h => ⟨h.1.mono e, RelSs.mono e h.2⟩
  | [], _ :: _, h => h
  | _ :: _, [], h => h
theorem RelSs.len : ∀ {vs : List V} {ss : List Sl}, RelSs K P vs ss → vs.length = ss.length
  | [], [], h => rfl
  | _ :: _, _ :: _, h => by simp [RelSs.len h.2]
  | [], _ :: _, h => h.elim
  | _ :: _, [], h => h.elim
theorem SlotOk.mono (e : Ext P P') {o : Option V} : ∀ {s : Sl}, SlotOk K P o s → SlotOk K P' o s
  | .un, h => h
  | .dat _, ⟨v, h1, h2⟩ => ⟨v, h1, h2.mono e⟩
  | .adr _, h => h
  | .scr _, ⟨a, h1, h2⟩ => ⟨a, h1, e.seqL h2⟩
theorem SlotOk.of {v : V} : ∀ {s : Sl}, RelS K P v s → SlotOk K P (some v) s
  | .un, _ => trivial
  | .dat _, h => ⟨_, rfl, h⟩
  | .adr _, h => congrArg some h
  | .scr _, ⟨a, h1, h2⟩ => ⟨a, congrArg some h1, h2⟩
theorem EnvOk.mono (e : Ext P P') : ∀ {σ : L2.St} {Γ : List Sl}, EnvOk K P σ Γ → EnvOk K P' σ Γ
  | [], [], h => h
  | _ :: _, _ :: _, h => ⟨h.1.mono e, EnvOk.mono e h.2⟩
  | [], _ :: _, h => h
  | _ :: _, [], h => h
theorem EnvOk.get : ∀ {σ : L2.St} {Γ : List Sl} {i : Nat} {s : Sl}, EnvOk K P σ Γ → Γ[i]? = some s → ∃ o, σ[i]? = some o ∧ SlotOk K P o s
  | [], [], i, s, h, e => by simp at e
  | o :: σ, _ :: Γ, 0, s, h, e => by simp at e; subst e; exact ⟨o, rfl, h.1⟩
  | _ :: σ, _ :: Γ, i + 1, s, h, e => by
    obtain ⟨o, h1, h2⟩ := EnvOk.get (i := i) (s := s) h.2 (by simpa using e)
    exact ⟨o, by simpa using h1, h2⟩
  | [], _ :: _, _, _, h, _ => h.elim
  | _ :: _, [], _, _, h, _ => h.elim
theorem EnvOk.setO : ∀ {σ : L2.St} {Γ : List Sl} {o : Option V} {s : Sl} (i : Nat), EnvOk K P σ Γ → SlotOk K P o s → EnvOk K P (σ.set i o) (Γ.set i s)
  | [], [], _, _, _, h, _ => h
  | _ :: _, _ :: _, _, _, 0, h, q => ⟨q, h.2⟩
  | _ :: _, _ :: _, _, _, i + 1, h, q => ⟨h.1, EnvOk.setO i h.2 q⟩
  | [], _ :: _, _, _, _, h, _ => h.elim
  | _ :: _, [], _, _, _, h, _ => h.elim
theorem EnvOk.set {i : Nat} {v : V} {s : Sl} (h : EnvOk K P σ Γ) (q : RelS K P v s) : EnvOk K P (σ.set i (some v)) (Γ.set i s) := h.setO i (.of q)
theorem EnvOk.len : ∀ {σ : L2.St} {Γ : List Sl}, EnvOk K P σ Γ → σ.length = Γ.length
  | [], [], _ => rfl
  | _ :: _, _ :: _, h => by simp [EnvOk.len h.2]
  | [], _ :: _, h => h.elim
  | _ :: _, [], h => h.elim
theorem RelF.mono (e : Ext P P') : ∀ {vs : List (Str × V)} {ss : List (Str × Sl)}, RelF K P vs ss → RelF K P' vs ss
  | [], [], h => h
  | (_, _) :: _, (_, _) :: _, h => ⟨h.1, h.2.1.mono e, RelF.mono e h.2.2⟩
  | [], _ :: _, h => h.elim
  | _ :: _, [], h => h.elim
theorem RelF.look : ∀ {vs : List (Str × V)} {ss : List (Str × Sl)} {f : Str} {s : Sl}, RelF K P vs ss → ss.lookup f = some s → ∃ v, vs.lookup f = some v ∧ RelS K P v s
  | [], [], _, _, _, e => by simp [List.lookup] at e
  | (g, v) :: vs, (g', s') :: ss, f, s, h, e => by
    obtain ⟨rfl, h1, h2⟩ := h
    simp only [List.lookup] at e ⊢
    by_cases q : (f == g) = true
    · rw [q] at e ⊢
      simp only [Option.some.injEq] at e
      subst e; exact ⟨v, rfl, h1⟩
    · have q' : (f == g) = false := by simpa using q
      rw [q'] at e ⊢
      exact RelF.look h2 e
  | [], _ :: _, _, _, h, _ => h.elim
  | _ :: _, [], _, _, h, _ => h.elim
theorem RelF.look_none : ∀ {vs : List (Str × V)} {ss : List (Str × Sl)} {f : Str}, RelF K P vs ss → ss.lookup f = none → vs.lookup f = none
  | [], [], _, _, _ => rfl
  | (g, v) :: vs, (g', s') :: ss, f, h, e => by
    obtain ⟨rfl, h1, h2⟩ := h
    simp only [List.lookup] at e ⊢
    by_cases q : (f == g) = true
    · rw [q] at e; cases e
    · have q' : (f == g) = false := by simpa using q
      rw [q'] at e ⊢
      exact RelF.look_none h2 e
  | [], _ :: _, _, h, _ => h.elim
  | _ :: _, [], _, h, _ => h.elim
def putS (f : Str) (s : Sl) : List (Str × Sl) → List (Str × Sl)
  | [] => [(f, s)]
  | (g, x) :: r => if g = f then (g, s) :: r else (g, x) :: putS f s r
theorem RelF.put {f : Str} {v : V} {s : Sl} (r : RelS K P v s) : ∀ {vs : List (Str × V)} {ss : List (Str × Sl)}, RelF K P vs ss → RelF K P (putF f v vs) (putS f s ss)
  | [], [], _ => ⟨rfl, r, trivial⟩
  | (g, w) :: vs, (g', x) :: ss, h => by
    obtain ⟨rfl, h1, h2⟩ := h
    unfold putF putS
    by_cases q : g = f
    · rw [if_pos q, if_pos q]; exact ⟨rfl, r, h2⟩
    · rw [if_neg q, if_neg q]; exact ⟨rfl, h1, RelF.put r h2⟩
  | [], _ :: _, h => h.elim
  | _ :: _, [], h => h.elim
theorem RelF.len : ∀ {vs : List (Str × V)} {ss : List (Str × Sl)}, RelF K P vs ss → vs.length = ss.length
  | [], [], _ => rfl
  | (_, _) :: _, (_, _) :: _, h => by simp [RelF.len h.2.2]
  | [], _ :: _, h => h.elim
  | _ :: _, [], h => h.elim
theorem MuOk.mono (e : Ext P P') (q : H' a = H a) : ∀ {m : Mu}, MuOk K P H a m → MuOk K P' H' a m
  | .mls _, ⟨xs, h1, h2⟩ => ⟨xs, q.trans h1, h2.mono e⟩
  | .mdc _, ⟨xs, h1, h2⟩ => ⟨xs, q.trans h1, h2.mono e⟩
  | .mdl _, h => q.trans h
  | .mis _ _ _, ⟨xs, h1, h2⟩ => ⟨xs, q.trans h1, h2.mono e⟩
  | .sto, ⟨kvs, h1, c, ns, i, r, t, z, h2, h3⟩ => ⟨kvs, q.trans h1, c, ns, i, r, t, z, h2.mono e, h3⟩
theorem MuOk.there : ∀ {m : Mu}, MuOk K P H a m → H a ≠ none
  | .mls _, ⟨_, h, _⟩ => by rw [h]; exact nofun
  | .mdc _, ⟨_, h, _⟩ => by rw [h]; exact nofun
  | .mdl _, h => by
    have h' : H a = some _ := h
    rw [h']; exact nofun
  | .mis _ _ _, ⟨_, h, _⟩ => by rw [h]; exact nofun
  | .sto, ⟨_, h, _⟩ => by rw [h]; exact nofun
theorem StOk.nil : StOk K P H [] := ⟨fun _ h => absurd h List.not_mem_nil, List.nodup_nil⟩
/-- what a step that does not touch them leaves -/
theorem StOk.kept {A : List Addr} (h : StOk K P H μ) (x : Stp A P H P' H') (d : ∀ a ∈ adrs μ, a ∉ A) : StOk K P' H' μ := by
  refine ⟨fun p hp => ?_, h.2⟩
  obtain ⟨h1, h2⟩ := h.1 p hp
  have n := d p.1 (List.mem_map.mpr ⟨p, hp, rfl⟩)
  have t := h2.there
  refine ⟨x.keepNone n h1 t, h2.mono x.pp ?_⟩
  cases w : H p.1 with
  | none => exact absurd w t
  | some o => exact x.hh _ _ n w
theorem StOk.kept0 (h : StOk K P H μ) (x : Stp [] P H P' H') : StOk K P' H' μ := h.kept x fun _ _ => List.not_mem_nil
theorem StOk.get (h : StOk K P H μ) {m : Mu} (q : (a, m) ∈ μ) : P a = none ∧ MuOk K P H a m := h.1 (a, m) q
theorem Go.refl (e : Ext P H) (h : StOk K P H μ) : Go K P H μ P H μ := ⟨.refl e, h, fun _ m => .inl m⟩
theorem Go.trans (x : Go K P H μ P1 H1 μ1) (y : Go K P1 H1 μ1 P2 H2 μ2) : Go K P H μ P2 H2 μ2 :=
  ⟨x.stp.trans y.stp x.new, y.ok, fun a m => (y.new a m).elim (x.new a) fun n => .inr (by
    cases w : H a with
    | none => rfl
    | some o => exact absurd n (x.stp.dm a (by rw [w]; exact nofun)))⟩
theorem Go.of0 (x : Stp [] P H P' H') (h : StOk K P H μ) : Go K P H μ P' H' μ := ⟨x.mono (fun _ m => absurd m List.not_mem_nil), h.kept0 x, fun _ m => .inl m⟩
theorem Go.pp (x : Go K P H μ P' H' μ') : Ext P P' := x.stp.pp
theorem Go.ph (x : Go K P H μ P' H' μ') : Ext P' H' := x.stp.ph
/-- the others beside what a callee is given -/
def without (μ μf : Mem) : Mem := μ.filter fun p => decide (p.1 ∉ adrs μf)
theorem Go.frame {μf μf' : Mem} (h : StOk K P H μ) (sub : ∀ p ∈ μf, p ∈ μ) (x : Go K P H μf P' H' μf') : Go K P H μ P' H' (μf' ++ without μ μf) where
  stp := x.stp.mono fun a m => .inl (by
    obtain ⟨p, hp, rfl⟩ := List.mem_map.mp m
    exact List.mem_map.mpr ⟨p, sub p hp, rfl⟩)
  ok := by
    refine ⟨fun p hp => ?_, ?_⟩
    · rcases List.mem_append.mp hp with hp | hp
      · exact x.ok.1 p hp
      · obtain ⟨h1, h2⟩ := List.mem_filter.mp hp
        have n : p.1 ∉ adrs μf := of_decide_eq_true h2
        have hr : StOk K P H [p] := ⟨fun q hq => by
          have : q = p := by simpa using hq
          subst this; exact h.1 _ h1, by simp⟩
        exact (hr.kept x.stp (fun a ha => by
          have : a = p.1 := by simpa using ha
          subst this; exact n)).1 p (by simp)
    · show (List.map (·.1) (μf' ++ without μ μf)).Nodup
      rw [List.map_append, List.nodup_append]
      refine ⟨x.ok.2, ?_, fun a ha b hb => ?_⟩
      · exact List.Nodup.sublist (List.Sublist.map _ List.filter_sublist) h.2
      · rintro rfl
        obtain ⟨p, hp, rfl⟩ := List.mem_map.mp hb
        obtain ⟨h1, h2⟩ := List.mem_filter.mp hp
        have n : p.1 ∉ adrs μf := of_decide_eq_true h2
        rcases x.new p.1 ha with z | z
        · exact n z
        · exact absurd z (h.1 p h1).2.there
  new := fun a ha => by
    obtain ⟨p, hp, rfl⟩ := List.mem_map.mp ha
    rcases List.mem_append.mp hp with hp | hp
    · rcases x.new p.1 (List.mem_map.mpr ⟨p, hp, rfl⟩) with z | z
      · obtain ⟨q, hq, e⟩ := List.mem_map.mp z
        exact .inl (List.mem_map.mpr ⟨q, sub q hq, e⟩)
      · exact .inr z
    · exact .inl (List.mem_map.mpr ⟨p, (List.mem_filter.mp hp).1, rfl⟩)
theorem uniqA : ∀ {μ : Mem} {p q : Addr × Mu}, (adrs μ).Nodup → p ∈ μ → q ∈ μ → p.1 = q.1 → p = q
  | r :: μ, p, q, n, hp, hq, e => by
    have n1 : r.1 ∉ adrs μ := (List.nodup_cons.mp n).1
    have n2 : (adrs μ).Nodup := (List.nodup_cons.mp n).2
    rcases List.mem_cons.mp hp with ep | hp'
    · rcases List.mem_cons.mp hq with eq | hq'
      · exact ep.trans eq.symm
      · exact absurd (List.mem_map.mpr ⟨q, hq', (ep ▸ e).symm⟩) n1
    · rcases List.mem_cons.mp hq with eq | hq'
      · exact absurd (show r.1 ∈ adrs μ from List.mem_map.mpr ⟨p, hp', eq ▸ e⟩) n1
      · exact uniqA n2 hp' hq' e
theorem Go.frame0 {μf : Mem} (h : StOk K P H μ) (sub : ∀ p ∈ μf, p ∈ μ) (x : Go K P H μf P' H' μf) : Go K P H μ P' H' μ := by
  have y := Go.frame h sub x
  refine ⟨y.stp, ⟨fun p hp => ?_, h.2⟩, fun _ m => .inl m⟩
  by_cases z : p.1 ∈ adrs μf
  · obtain ⟨q, hq, e⟩ := List.mem_map.mp z
    have : q = p := uniqA h.2 (sub q hq) hp e
    subst this
    exact y.ok.1 q (List.mem_append.mpr (.inl hq))
  · exact y.ok.1 p (List.mem_append.mpr (.inr (List.mem_filter.mpr ⟨hp, decide_eq_true z⟩)))
end
end DL
namespace DL
open PySem PySem.Spec PyProof.Rows L2
/-! ### judgements: what an expression, a test, arguments give, from slots Γ and owned objects μ -/
section
variable (K : PySem.W.Frag)
def Ev (te : TE) (Γ : List Sl) (μ : Mem) (R : Sl → Prop) : Prop := ∀ (σ : L2.St) (P H : Hp), EnvOk K P σ Γ → Ext P H → StOk K P H μ → ∀ Q : VK,
  (∀ v P' H' s, Go K P H μ P' H' μ → RelS K P' v s → R s → Q v H') → te σ H Q
abbrev EvD (te : TE) (Γ : List Sl) (μ : Mem) (d : Dat) : Prop := Ev K te Γ μ (fun s => s = .dat d)
def EvT (tt : TT) (Γ : List Sl) (μ : Mem) (R : Bool → Prop) : Prop := ∀ (σ : L2.St) (P H : Hp), EnvOk K P σ Γ → Ext P H → StOk K P H μ → ∀ Q : Bool → Hp → Prop,
  (∀ b P' H', Go K P H μ P' H' μ → R b → Q b H') → tt σ H Q
abbrev EvB (tt : TT) (Γ : List Sl) (μ : Mem) (b : Bool) : Prop := EvT K tt Γ μ (fun c => c = b)
def EvA (ta : TA) (Γ : List Sl) (μ : Mem) (R : List Sl → Prop) : Prop := ∀ (σ : L2.St) (P H : Hp), EnvOk K P σ Γ → Ext P H → StOk K P H μ → ∀ Q : List V → Hp → Prop,
  (∀ vs P' H' ss, Go K P H μ P' H' μ → RelSs K P' vs ss → R ss → Q vs H') → ta σ H Q
abbrev EvAs (ta : TA) (Γ : List Sl) (μ : Mem) (ss : List Sl) : Prop := EvA K ta Γ μ (fun s => s = ss)
/-- an operation on values -/
def OpS (μ : Mem) (r : R2) (sa sb : Sl) (R : Sl → Prop) : Prop := ∀ (P H : Hp) (x y : V), Ext P H → StOk K P H μ → RelS K P x sa → RelS K P y sb → ∀ Q : VK,
  (∀ v P' H' s, Stp [] P H P' H' → RelS K P' v s → R s → Q v H') → r x y H Q
/-- a built-in called -/
def CbS (μ : Mem) (r : List V → Hp → VK → Prop) (ss : List Sl) (R : Sl → Prop) : Prop := ∀ (P H : Hp) (xs : List V), Ext P H → StOk K P H μ → RelSs K P xs ss → ∀ Q : VK,
  (∀ v P' H' s, Stp [] P H P' H' → RelS K P' v s → R s → Q v H') → r xs H Q
/-- a built-in's method called: what is kept, what is owned may change -/
def MtS (μ : Mem) (r : V → List V → Hp → VK → Prop) (s : Sl) (ss : List Sl) (R : Sl → Mem → Prop) : Prop := ∀ (P H : Hp) (x : V) (xs : List V), Ext P H → StOk K P H μ → RelS K P x s → RelSs K P xs ss → ∀ Q : VK,
  (∀ v P' H' s μ', Go K P H μ P' H' μ' → RelS K P' v s → R s μ' → Q v H') → r x xs H Q
/-- a def's promise -/
def spD (pre : List Sl → Mem → (Sl → Mem → Prop) → Prop) : Sp := fun vs H Q _ => ∃ (P : Hp) (μ : Mem) (ss : List Sl) (R : Sl → Mem → Prop), Ext P H ∧ StOk K P H μ ∧ RelSs K P vs ss ∧ pre ss μ R ∧
  ∀ v P' H' s μ', Go K P H μ P' H' μ' → RelS K P' v s → R s μ' → Q v H'
end
section
variable {K : PySem.W.Frag} {Γ : List Sl} {μ : Mem} {ta tb te tx : TE} {t u : TT} {R R' : Sl → Prop} {d d1 d2 : Dat} {s : Sl}
theorem Ev.imp (h : Ev K te Γ μ R) (k : ∀ s, R s → R' s) : Ev K te Γ μ R' := fun σ P H e x m Q q => h σ P H e x m Q fun v P' H' s g r hr => q v P' H' s g r (k s hr)
theorem EvT.imp {R R' : Bool → Prop} (h : EvT K t Γ μ R) (k : ∀ b, R b → R' b) : EvT K t Γ μ R' := fun σ P H e x m Q q => h σ P H e x m Q fun b P' H' g hr => q b P' H' g (k b hr)
theorem EvA.imp {ta : TA} {R R' : List Sl → Prop} (h : EvA K ta Γ μ R) (k : ∀ s, R s → R' s) : EvA K ta Γ μ R' := fun σ P H e x m Q q => h σ P H e x m Q fun v P' H' s g r hr => q v P' H' s g r (k s hr)
theorem ev_slot {i : Nat} (h : Γ[i]? = some s) (hn : s ≠ .un) : Ev K (tVar i) Γ μ (fun z => z = s) := fun σ P H e x m Q q => by
  obtain ⟨o, h1, h2⟩ := e.get h
  cases s with
  | un => exact absurd rfl hn
  | dat d => obtain ⟨v, rfl, r⟩ := h2; exact ⟨v, h1, q v P H (.dat d) (.refl x m) r rfl⟩
  | adr a =>
    have h2' : o = some (.ref a) := h2
    subst h2'
    exact ⟨_, h1, q _ P H (.adr a) (.refl x m) rfl rfl⟩
  | scr ns => obtain ⟨a, rfl, r⟩ := h2; exact ⟨_, h1, q _ P H (.scr ns) (.refl x m) ⟨a, rfl, r⟩ rfl⟩
theorem ev_var {i : Nat} (h : Γ[i]? = some (.dat d)) : EvD K (tVar i) Γ μ d := ev_slot h nofun
theorem ev_adr {i : Nat} {a : Addr} (h : Γ[i]? = some (.adr a)) : Ev K (tVar i) Γ μ (fun z => z = .adr a) := ev_slot h nofun
/-- scalars -/
def SV : V → Dat → Prop
  | .non, .non => True
  | .bl b, .bl c => b = c
  | .int i, .int j => i = j
  | .str x, .str y => x = y
  | _, _ => False
theorem SV.rp {P : Hp} : ∀ {v : V} {d : Dat}, SV v d → Rp K P v d
  | .non, .non, _ => .non
  | .bl _, .bl _, h => by cases h; exact .bl _
  | .int _, .int _, h => by cases h; exact .int _
  | .str _, .str _, h => by cases h; exact .str _
theorem ev_c {v : V} (h : SV v d) : EvD K (tC v) Γ μ d := fun σ P H e x m Q q => q v P H (.dat d) (.refl x m) (h.rp (P := P)) rfl
theorem ev_cV {v : V} (h : ∀ P, RelS K P v s) : Ev K (tC v) Γ μ (fun z => z = s) := fun σ P H e x m Q q => q v P H _ (.refl x m) (h P) rfl
theorem ev_op {r : R2} {Ra Rb : Sl → Prop} (ha : Ev K ta Γ μ Ra) (hb : Ev K tb Γ μ Rb) (hr : ∀ sa sb, Ra sa → Rb sb → OpS K μ r sa sb R) : Ev K (tOp r ta tb) Γ μ R := fun σ P H e x m Q q =>
  ha σ P H e x m _ fun v1 P1 H1 s1 g1 r1 h1 => hb σ P1 H1 (e.mono g1.pp) g1.ph g1.ok _ fun v2 P2 H2 s2 g2 r2 h2 =>
    hr s1 s2 h1 h2 P2 H2 v1 v2 g2.ph g2.ok (r1.mono g2.pp) r2 _ fun v P' H' s x' r' hr' => q v P' H' s ((g1.trans g2).trans (.of0 x' g2.ok)) r' hr'
theorem evd_op {r : R2} {da db : Dat} (ha : EvD K ta Γ μ da) (hb : EvD K tb Γ μ db) (hr : OpS K μ r (.dat da) (.dat db) R) : Ev K (tOp r ta tb) Γ μ R :=
  ev_op ha hb fun _ _ h1 h2 => h1 ▸ h2 ▸ hr
theorem ev_un {r : V → Hp → VK → Prop} (ha : EvD K ta Γ μ d1) (hr : ∀ (P H : Hp) (x : V) (Q : VK), Rp K P x d1 → (∀ v, Rp K P v d → Q v H) → r x H Q) : EvD K (tUn r ta) Γ μ d := fun σ P H e x m Q q =>
  ha σ P H e x m _ fun v1 P1 H1 s1 g1 r1 h1 => by subst h1; exact hr P1 H1 v1 _ r1 fun v rv => q v P1 H1 (.dat d) g1 rv rfl
/-! ### tests -/
theorem et_test {b : Bool → Prop} (h : Ev K te Γ μ (fun s => ∃ c, s = .dat (.bl c) ∧ b c)) : EvT K (tTest te) Γ μ b := fun σ P H e x m Q q =>
  h σ P H e x m _ fun v P' H' s g r hr => by
    obtain ⟨c, rfl, hc⟩ := hr
    cases r
    exact ⟨c, rfl, q c P' H' g hc⟩
theorem et_testD {b : Bool} (h : EvD K te Γ μ (.bl b)) : EvB K (tTest te) Γ μ b := et_test (h.imp fun _ e => ⟨b, e, rfl⟩)
theorem et_B {b : Bool → Prop} (h : Ev K te Γ μ (fun s => ∃ c, s = .dat (.bl c) ∧ b c)) : EvT K (tB te) Γ μ b := fun σ P H e x m Q q =>
  h σ P H e x m _ fun v P' H' s g r hr => by
    obtain ⟨c, rfl, hc⟩ := hr
    cases r
    exact ⟨c, rfl, q c P' H' g hc⟩
theorem et_BD {b : Bool} (h : EvD K te Γ μ (.bl b)) : EvB K (tB te) Γ μ b := et_B (h.imp fun _ e => ⟨b, e, rfl⟩)
theorem et_and {b c : Bool} (h1 : EvB K t Γ μ b) (h2 : b = true → EvB K u Γ μ c) : EvB K (tAnd t u) Γ μ (b && c) := fun σ P H e x m Q q =>
  h1 σ P H e x m _ fun b' P1 H1 g1 r1 => by
    subst r1
    cases b' with
    | false => rw [if_neg Bool.false_ne_true]; exact q _ P1 H1 g1 rfl
    | true => rw [if_pos rfl]; exact h2 rfl σ P1 H1 (e.mono g1.pp) g1.ph g1.ok _ fun c' P2 H2 g2 r2 => q c' P2 H2 (g1.trans g2) r2
theorem et_or {b c : Bool} (h1 : EvB K t Γ μ b) (h2 : b = false → EvB K u Γ μ c) : EvB K (tOr t u) Γ μ (b || c) := fun σ P H e x m Q q =>
  h1 σ P H e x m _ fun b' P1 H1 g1 r1 => by
    subst r1
    cases b' with
    | true => rw [if_pos rfl]; exact q _ P1 H1 g1 rfl
    | false => rw [if_neg Bool.false_ne_true]; exact h2 rfl σ P1 H1 (e.mono g1.pp) g1.ph g1.ok _ fun c' P2 H2 g2 r2 => q c' P2 H2 (g1.trans g2) r2
theorem et_not {b : Bool} (h1 : EvB K t Γ μ b) : EvB K (tNot t) Γ μ (!b) := fun σ P H e x m Q q => h1 σ P H e x m _ fun b' P1 H1 g1 r1 => q _ P1 H1 g1 (by rw [r1])
theorem et_notR {R : Bool → Prop} (h1 : EvT K t Γ μ fun b => R (!b)) : EvT K (tNot t) Γ μ R := fun σ P H e x m Q q => h1 σ P H e x m _ fun b' P1 H1 g1 r1 => q _ P1 H1 g1 r1
theorem et_is {b c : Bool} (h : EvB K t Γ μ b) (e : b = c) : EvB K t Γ μ c := e ▸ h
theorem ev_is {R : Sl → Prop} (h : EvD K te Γ μ d) (e : R (.dat d)) : Ev K te Γ μ R := h.imp fun _ z => z ▸ e
theorem evd_is (h : EvD K te Γ μ d) (e : d = d2) : EvD K te Γ μ d2 := e ▸ h
/-- a test of a value's truth -/
def tTruth (K : PySem.W.Frag) (te : TE) : TT := fun σ H Q => te σ H fun x H' => ∃ k, TruV K x H' k ∧ Q k H'
def truD : Dat → Bool
  | .non => false
  | .bl b => b
  | .int i => i != 0
  | .str x => (x.length : Int) != 0
  | .lst xs => !xs.isEmpty
  | .tup xs => !xs.isEmpty
  | .dct xs => !xs.isEmpty
  | _ => true
def truS : Dat → Prop
  | .str x => x.length ≤ sizeLine
  | .ins _ _ => False
  | _ => True
theorem RpA.empty {P : Hp} {xs : List V} {ds : List Dat} (h : RpA K P xs ds) : (!xs.isEmpty) = !ds.isEmpty := by cases h <;> rfl
theorem RpK.empty {P : Hp} {xs : List (Key × V)} {ds : List (Key × Dat)} (h : RpK K P xs ds) : (!xs.isEmpty) = !ds.isEmpty := by cases h <;> rfl
theorem truV_of {P H : Hp} (x : Ext P H) {v : V} (r : Rp K P v d) (hs : truS d) : TruV K v H (truD d) := by
  cases r with
  | non => rfl
  | bl b => rfl
  | int i => rfl
  | str y => exact ⟨hs, rfl⟩
  | lst h r => exact .inl ⟨_, .of (x _ _ h), (RpA.empty r).symm⟩
  | tup h r => exact .inr (.inl ⟨_, x.seqT h, (RpA.empty r).symm⟩)
  | dct h r => exact .inr (.inr ⟨_, x _ _ h, (RpK.empty r).symm⟩)
  | ins h r => exact hs.elim
theorem et_tru (h : EvD K te Γ μ d) (hs : truS d) : EvB K (tTruth K te) Γ μ (truD d) := fun σ P H e x m Q q =>
  h σ P H e x m _ fun v P' H' s g r hr => by
    subst hr
    exact ⟨_, truV_of g.ph r hs, q _ P' H' g rfl⟩
/-! ### values by tests -/
theorem ev_andV {b : Bool} (h1 : EvD K ta Γ μ (.bl b)) (h2 : b = true → EvD K tb Γ μ d) (h0 : b = false → d = .bl false) : EvD K (tAndV ta tb) Γ μ d := fun σ P H e x m Q q =>
  h1 σ P H e x m _ fun v P1 H1 s g1 r1 hs => by
    subst hs; cases r1
    refine ⟨b, rfl, ?_⟩
    cases b with
    | false => rw [if_neg Bool.false_ne_true]; exact q _ P1 H1 (.dat (.bl false)) g1 (Rp.bl false) (by rw [h0 rfl])
    | true => rw [if_pos rfl]; exact h2 rfl σ P1 H1 (e.mono g1.pp) g1.ph g1.ok _ fun v P2 H2 s2 g2 r2 hs => q v P2 H2 s2 (g1.trans g2) r2 hs
theorem ev_and {b c : Bool} (h1 : EvD K ta Γ μ (.bl b)) (h2 : b = true → EvD K tb Γ μ (.bl c)) : EvD K (tAndV ta tb) Γ μ (.bl (b && c)) :=
  ev_andV h1 (fun e => by rw [e]; exact h2 e) fun e => by rw [e]; rfl
theorem ev_or {b c : Bool} (h1 : EvD K ta Γ μ (.bl b)) (h2 : b = false → EvD K tb Γ μ (.bl c)) : EvD K (tOrV ta tb) Γ μ (.bl (b || c)) := fun σ P H e x m Q q =>
  h1 σ P H e x m _ fun v P1 H1 s g1 r1 hs => by
    subst hs; cases r1
    refine ⟨b, rfl, ?_⟩
    cases b with
    | true => rw [if_pos rfl]; exact q _ P1 H1 (.dat (.bl true)) g1 (Rp.bl true) rfl
    | false => rw [if_neg Bool.false_ne_true]; exact h2 rfl σ P1 H1 (e.mono g1.pp) g1.ph g1.ok _ fun v P2 H2 s2 g2 r2 hs => q v P2 H2 s2 (g1.trans g2) r2 hs
theorem ev_notV {b : Bool} (h1 : EvD K ta Γ μ (.bl b)) : EvD K (tNotV ta) Γ μ (.bl (!b)) := fun σ P H e x m Q q =>
  h1 σ P H e x m _ fun v P1 H1 s g1 r1 hs => by
    subst hs; cases r1
    exact ⟨b, rfl, q _ P1 H1 (.dat (.bl _)) g1 (Rp.bl _) rfl⟩
theorem ev_if {Rb : Bool → Prop} (h : EvT K t Γ μ Rb) (h1 : Rb true → Ev K ta Γ μ R) (h2 : Rb false → Ev K tb Γ μ R) : Ev K (tIf t ta tb) Γ μ R := fun σ P H e x m Q q =>
  h σ P H e x m _ fun b P1 H1 g1 r1 => by
    cases b with
    | true => rw [if_pos rfl]; exact h1 r1 σ P1 H1 (e.mono g1.pp) g1.ph g1.ok _ fun v P2 H2 s2 g2 r2 hs => q v P2 H2 s2 (g1.trans g2) r2 hs
    | false => rw [if_neg Bool.false_ne_true]; exact h2 r1 σ P1 H1 (e.mono g1.pp) g1.ph g1.ok _ fun v P2 H2 s2 g2 r2 hs => q v P2 H2 s2 (g1.trans g2) r2 hs
/-! ### arguments, displays -/
theorem ea_nil : EvAs K tNil Γ μ [] := fun σ P H e x m Q q => q [] P H [] (.refl x m) trivial rfl
theorem ea_consR {tr : TA} {R1 : Sl → Prop} {Rr : List Sl → Prop} (h : Ev K te Γ μ R1) (hr : EvA K tr Γ μ Rr) : EvA K (tCons te tr) Γ μ (fun ss => ∃ s r, ss = s :: r ∧ R1 s ∧ Rr r) := fun σ P H e x m Q q =>
  h σ P H e x m _ fun v P1 H1 s g1 r1 h1 => hr σ P1 H1 (e.mono g1.pp) g1.ph g1.ok _ fun vs P2 H2 ss g2 r2 h2 => q (v :: vs) P2 H2 (s :: ss) (g1.trans g2) ⟨r1.mono g2.pp, r2⟩ ⟨s, ss, rfl, h1, h2⟩
theorem ea_cons {tr : TA} {ss : List Sl} (h : Ev K te Γ μ (fun z => z = s)) (hr : EvAs K tr Γ μ ss) : EvAs K (tCons te tr) Γ μ (s :: ss) := (ea_consR h hr).imp fun _ ⟨_, _, e, e1, e2⟩ => e1 ▸ e2 ▸ e
theorem relSs_dat {P : Hp} : ∀ {vs : List V} {ds : List Dat}, RelSs K P vs (ds.map .dat) → RpA K P vs ds
  | [], [], _ => .nil
  | _ :: _, _ :: _, h => .cons h.1 (relSs_dat h.2)
  | [], _ :: _, h => h.elim
  | _ :: _, [], h => h.elim
theorem ev_tup {ta : TA} {ds : List Dat} (h : EvAs K ta Γ μ (ds.map .dat)) (hl : ds.length ≤ 1000000) : EvD K (tTup ta) Γ μ (.tup ds) := fun σ P H e x m Q q =>
  h σ P H e x m _ fun vs P1 H1 ss g1 r1 h1 => by
    subst h1
    have r := relSs_dat r1
    refine ⟨by rw [r.length]; exact Nat.le_trans hl (by decide), fun p hp => ?_⟩
    have st : Stp [] P1 H1 (upd P1 p (.tup vs)) (upd H1 p (.tup vs)) := .new g1.ph hp
    exact q (.ref p) _ _ (.dat (.tup ds)) (g1.trans (.of0 st g1.ok)) (Rp.tup (.of upd_same) (r.mono st.pp)) rfl
theorem ev_lst {ta : TA} {ds : List Dat} (h : EvAs K ta Γ μ (ds.map .dat)) (hl : ds.length ≤ 1000000) : EvD K (tLst ta) Γ μ (.lst ds) := fun σ P H e x m Q q =>
  h σ P H e x m _ fun vs P1 H1 ss g1 r1 h1 => by
    subst h1
    have r := relSs_dat r1
    refine ⟨by rw [r.length]; exact Nat.le_trans hl (by decide), fun p hp => ?_⟩
    have st : Stp [] P1 H1 (upd P1 p (.lst vs)) (upd H1 p (.lst vs)) := .new g1.ph hp
    exact q (.ref p) _ _ (.dat (.lst ds)) (g1.trans (.of0 st g1.ok)) (Rp.lst upd_same (r.mono st.pp)) rfl
/-! ### calls -/
theorem ev_cb {r : List V → Hp → VK → Prop} {ta : TA} {Ra : List Sl → Prop} (h : EvA K ta Γ μ Ra) (hr : ∀ ss, Ra ss → CbS K μ r ss R) : Ev K (tCB r ta) Γ μ R := fun σ P H e x m Q q =>
  h σ P H e x m _ fun vs P1 H1 ss g1 r1 h1 => hr ss h1 P1 H1 vs g1.ph g1.ok r1 _ fun v P' H' s x' r' hs => q v P' H' s (g1.trans (.of0 x' g1.ok)) r' hs
theorem evd_cb {r : List V → Hp → VK → Prop} {ta : TA} {ss : List Sl} (h : EvAs K ta Γ μ ss) (hr : CbS K μ r ss R) : Ev K (tCB r ta) Γ μ R := ev_cb h fun _ e => e ▸ hr
/-- a def that leaves the owned objects (those of μf that it is given) as data as they are -/
theorem ev_callR {pre : List Sl → Mem → (Sl → Mem → Prop) → Prop} {E : XK} {ta : TA} {Ra : List Sl → Prop} (h : EvA K ta Γ μ Ra) (hr : ∀ ss, Ra ss → ∃ μf, (∀ p ∈ μf, p ∈ μ) ∧ (adrs μf).Nodup ∧ pre ss μf (fun s μ' => μ' = μf ∧ R s)) : Ev K (tCall (spD K pre) [] E ta) Γ μ R := fun σ P H e x m Q q =>
  h σ P H e x m _ fun vs P1 H1 ss g1 r1 h1 => by
    obtain ⟨μf, sub, nd, hp⟩ := hr ss h1
    show spD K pre (vs ++ []) H1 Q E
    rw [List.append_nil]
    refine ⟨P1, μf, ss, _, g1.ph, ⟨fun p hp => g1.ok.1 p (sub p hp), nd⟩, r1, hp, fun v P' H' s μ' g r hs => ?_⟩
    obtain ⟨rfl, hs⟩ := hs
    exact q v P' H' s (g1.trans (.frame0 g1.ok sub g)) r hs
theorem ev_call {pre : List Sl → Mem → (Sl → Mem → Prop) → Prop} {E : XK} {ta : TA} {ss : List Sl} (h : EvAs K ta Γ μ ss) (hp : pre ss [] (fun s μ' => μ' = [] ∧ R s)) : Ev K (tCall (spD K pre) [] E ta) Γ μ R :=
  ev_callR h fun _ e => ⟨[], fun _ m => absurd m List.not_mem_nil, List.nodup_nil, e ▸ hp⟩
end
end DL
namespace DL
open PySem PySem.Spec PyProof.Rows L2
/-! ### statements -/
/-- what is wanted behind a statement -/
structure Ou where
  nx : List Sl → Mem → Prop
  rt : Sl → Mem → Prop
  bk : List Sl → Mem → Prop := fun _ _ => False
  ct : List Sl → Mem → Prop := fun _ _ => False
section
variable (K : PySem.W.Frag)
/-- an expression that may change what is owned -/
def EvM (te : TE) (Γ : List Sl) (μ : Mem) (R : Sl → Mem → Prop) : Prop := ∀ (σ : L2.St) (P H : Hp), EnvOk K P σ Γ → Ext P H → StOk K P H μ → ∀ Q : VK,
  (∀ v P' H' s μ', Go K P H μ P' H' μ' → RelS K P' v s → R s μ' → Q v H') → te σ H Q
def EvTM (tt : TT) (Γ : List Sl) (μ : Mem) (R : Bool → Mem → Prop) : Prop := ∀ (σ : L2.St) (P H : Hp), EnvOk K P σ Γ → Ext P H → StOk K P H μ → ∀ Q : Bool → Hp → Prop,
  (∀ b P' H' μ', Go K P H μ P' H' μ' → R b μ' → Q b H') → tt σ H Q
def SW (t : TS) (Γ : List Sl) (μ : Mem) (O : Ou) : Prop := ∀ (σ : L2.St) (P H : Hp), EnvOk K P σ Γ → Ext P H → StOk K P H μ → ∀ D : Ends,
  (∀ σ' P' H' Γ' μ', Go K P H μ P' H' μ' → EnvOk K P' σ' Γ' → O.nx Γ' μ' → D.nx σ' H') →
  (∀ v P' H' s μ', Go K P H μ P' H' μ' → RelS K P' v s → O.rt s μ' → D.rt v H') →
  (∀ σ' P' H' Γ' μ', Go K P H μ P' H' μ' → EnvOk K P' σ' Γ' → O.bk Γ' μ' → D.bk σ' H') →
  (∀ σ' P' H' Γ' μ', Go K P H μ P' H' μ' → EnvOk K P' σ' Γ' → O.ct Γ' μ' → D.ct σ' H') → t D σ H
/-- a target: the slots behind; tg: the slots that it may set -/
def GA (g : TG) (tg : List Nat) (d : Dat) (Γ Γ' : List Sl) : Prop := ∀ (σ : L2.St) (P H : Hp) (v : V), EnvOk K P σ Γ → Ext P H → Rp K P v d → ∀ Q : L2.St → Hp → Prop,
  (∀ σ', EnvOk K P σ' Γ' → σ'.length = σ.length ∧ (∀ i, i ∉ tg → σ'[i]? = σ[i]?) → Q σ' H) → g v σ H Q
def GAs (g : TGs) (tg : List Nat) (ds : List Dat) (Γ Γ' : List Sl) : Prop := ∀ (σ : L2.St) (P H : Hp) (vs : List V), EnvOk K P σ Γ → Ext P H → RpA K P vs ds → ∀ Q : L2.St → Hp → Prop,
  (∀ σ', EnvOk K P σ' Γ' → σ'.length = σ.length ∧ (∀ i, i ∉ tg → σ'[i]? = σ[i]?) → Q σ' H) → g vs σ H Q
/-- an iterator that gives ds, while G -/
def Yields (J : It) (G : Hp → Hp → Prop) (ds : List Dat) : Prop := ∀ (i : Nat) (P H : Hp), Ext P H → G P H →
  (∀ d, ds[i]? = some d → J.go i H ∧ ∀ x H', J.yld i H x H' → ∃ P', Stp [] P H P' H' ∧ Rp K P' x d) ∧ (ds.length ≤ i → J.stop i H)
/-- what is walked -/
def EvI (wi : TI) (Γ : List Sl) (μ : Mem) (Wt : Mem → Prop) (Rd : List Dat → Prop) : Prop := ∀ (σ : L2.St) (P H : Hp), EnvOk K P σ Γ → Ext P H → StOk K P H μ → ∀ R : It → Hp → Prop,
  (∀ J P' H' ds, Go K P H μ P' H' μ → Rd ds → Yields K J (fun P2 H2 => Ext P' P2 ∧ ∃ μ2, StOk K P2 H2 μ2 ∧ Wt μ2) ds → R J H') → wi σ H R
end
section
variable {K : PySem.W.Frag} {Γ Γ' : List Sl} {μ μ' : Mem} {te ta tb : TE} {tt : TT} {t u a b : TS} {g : TG} {R : Sl → Prop} {RM : Sl → Mem → Prop} {d : Dat} {s : Sl} {O O' : Ou} {i : Nat} {ds : List Dat}
theorem Ev.m (h : Ev K te Γ μ R) : EvM K te Γ μ (fun s μ' => μ' = μ ∧ R s) := fun σ P H e x m Q q => h σ P H e x m Q fun v P' H' s g r hr => q v P' H' s μ g r ⟨rfl, hr⟩
theorem EvM.imp {R' : Sl → Mem → Prop} (h : EvM K te Γ μ RM) (k : ∀ s μ', RM s μ' → R' s μ') : EvM K te Γ μ R' := fun σ P H e x m Q q => h σ P H e x m Q fun v P' H' s μ' g r hr => q v P' H' s μ' g r (k s μ' hr)
theorem SW.imp (h : SW K t Γ μ O) (h1 : ∀ Γ' μ', O.nx Γ' μ' → O'.nx Γ' μ') (h2 : ∀ s μ', O.rt s μ' → O'.rt s μ') (h3 : ∀ Γ' μ', O.bk Γ' μ' → O'.bk Γ' μ') (h4 : ∀ Γ' μ', O.ct Γ' μ' → O'.ct Γ' μ') : SW K t Γ μ O' :=
  fun σ P H e x m D n r bk ct => h σ P H e x m D (fun σ' P' H' Γ' μ' g e' z => n σ' P' H' Γ' μ' g e' (h1 _ _ z)) (fun v P' H' s μ' g r' z => r v P' H' s μ' g r' (h2 _ _ z)) (fun σ' P' H' Γ' μ' g e' z => bk σ' P' H' Γ' μ' g e' (h3 _ _ z)) fun σ' P' H' Γ' μ' g e' z => ct σ' P' H' Γ' μ' g e' (h4 _ _ z)
theorem sw_seq (h : SW K t Γ μ { O with nx := fun Γ' μ' => SW K u Γ' μ' O }) : SW K (tSeq t u) Γ μ O := fun σ P H e x m D n r bk ct =>
  h σ P H e x m { D with nx := u D } (fun σ' P' H' Γ' μ' g e' z => z σ' P' H' e' g.ph g.ok D (fun σ2 P2 H2 Γ2 μ2 g2 => n σ2 P2 H2 Γ2 μ2 (g.trans g2)) (fun v P2 H2 s μ2 g2 => r v P2 H2 s μ2 (g.trans g2)) (fun σ2 P2 H2 Γ2 μ2 g2 => bk σ2 P2 H2 Γ2 μ2 (g.trans g2))
    fun σ2 P2 H2 Γ2 μ2 g2 => ct σ2 P2 H2 Γ2 μ2 (g.trans g2)) r bk ct
theorem sw_next (h : O.nx Γ μ) : SW K tNext Γ μ O := fun σ P H e x m D n r bk ct => n σ P H Γ μ (.refl x m) e h
theorem sw_brk (h : O.bk Γ μ) : SW K tBreak Γ μ O := fun σ P H e x m D n r bk ct => bk σ P H Γ μ (.refl x m) e h
theorem sw_cont (h : O.ct Γ μ) : SW K tCont Γ μ O := fun σ P H e x m D n r bk ct => ct σ P H Γ μ (.refl x m) e h
/-! targets -/
theorem ga_name {j : Nat} : GA K (gName j) [j] d Γ (Γ.set j (.dat d)) := fun σ P H v e x r Q q => q _ (e.set (s := .dat d) r) ⟨List.length_set, fun k hk => by
  have hk' : k ≠ j := by simpa using hk
  exact List.getElem?_set_ne (Ne.symm hk')⟩
theorem gas_nil : GAs K gNil [] [] Γ Γ := fun σ P H vs e x r Q q => by
  cases r
  exact ⟨rfl, q σ e ⟨rfl, fun _ _ => rfl⟩⟩
theorem gas_cons {g1 : TG} {gr : TGs} {tg tgr : List Nat} {Γ1 Γ2 : List Sl} {d : Dat} {ds : List Dat} (h1 : GA K g1 tg d Γ Γ1) (h2 : GAs K gr tgr ds Γ1 Γ2) : GAs K (gCons g1 gr) (tg ++ tgr) (d :: ds) Γ Γ2 := fun σ P H vs e x r Q q => by
  cases r with
  | cons rv rr =>
    refine ⟨_, _, rfl, h1 σ P H _ e x rv _ fun σ1 e1 k1 => h2 σ1 P H _ e1 x rr _ fun σ2 e2 k2 => q σ2 e2 ⟨k2.1.trans k1.1, fun k hk => ?_⟩⟩
    have hk' : k ∉ tg ∧ k ∉ tgr := by simpa [List.mem_append, not_or] using hk
    exact (k2.2 k hk'.2).trans (k1.2 k hk'.1)
theorem ga_tup {gs : TGs} {tg : List Nat} {ds : List Dat} {n : Nat} (h : GAs K gs tg ds Γ Γ') (hn : ds.length = n) : GA K (gTup K n gs) tg (.tup ds) Γ Γ' := fun σ P H v e x r Q q => by
  cases r with
  | tup hs ra => exact ⟨_, _, rfl, x.seqT hs, ra.length.trans hn, h σ P H _ e x ra Q q⟩
/-! assignments -/
theorem sw_asgM {j : Nat} (h : EvM K te Γ μ RM) (k : ∀ s μ', RM s μ' → O.nx (Γ.set j s) μ') : SW K (tAsg te (gName j)) Γ μ O := fun σ P H e x m D n r bk ct =>
  h σ P H e x m _ fun v P' H' s μ' g rv hr => n _ P' H' _ μ' g ((e.mono g.pp).set rv) (k s μ' hr)
theorem sw_asgR {j : Nat} (h : Ev K te Γ μ R) (k : ∀ s, R s → O.nx (Γ.set j s) μ) : SW K (tAsg te (gName j)) Γ μ O := sw_asgM h.m fun s μ' z => by rw [z.1]; exact k s z.2
theorem sw_asg {j : Nat} (h : EvD K te Γ μ d) (k : O.nx (Γ.set j (.dat d)) μ) : SW K (tAsg te (gName j)) Γ μ O := sw_asgR h fun s z => z ▸ k
theorem sw_asgG {tg : List Nat} (h : EvD K te Γ μ d) (hg : GA K g tg d Γ Γ') (k : O.nx Γ' μ) : SW K (tAsg te g) Γ μ O := fun σ P H e x m D n r bk ct =>
  h σ P H e x m _ fun v P' H' s g1 rv hr => by
    subst hr
    exact hg σ P' H' v (e.mono g1.pp) g1.ph rv _ fun σ' e' _ => n σ' P' H' Γ' μ g1 e' k
theorem sw_asgGM {tg : List Nat} (h : EvM K te Γ μ RM) (k : ∀ s μ', RM s μ' → ∃ d Γ', s = .dat d ∧ GA K g tg d Γ Γ' ∧ O.nx Γ' μ') : SW K (tAsg te g) Γ μ O := fun σ P H e x m D n r bk ct =>
  h σ P H e x m _ fun v P' H' s μ' g1 rv hr => by
    obtain ⟨d, Γ', rfl, hg, z⟩ := k s μ' hr
    exact hg σ P' H' v (e.mono g1.pp) g1.ph rv _ fun σ' e' _ => n σ' P' H' Γ' μ' g1 e' z
theorem sw_retM (h : EvM K te Γ μ RM) (k : ∀ s μ', RM s μ' → O.rt s μ') : SW K (tRet te) Γ μ O := fun σ P H e x m D n r bk ct =>
  h σ P H e x m _ fun v P' H' s μ' g rv hr => r v P' H' s μ' g rv (k s μ' hr)
theorem sw_retR (h : Ev K te Γ μ R) (k : ∀ s, R s → O.rt s μ) : SW K (tRet te) Γ μ O := sw_retM h.m fun s μ' z => by rw [z.1]; exact k s z.2
theorem sw_ret (h : EvD K te Γ μ d) (k : O.rt (.dat d) μ) : SW K (tRet te) Γ μ O := sw_retR h fun s z => z ▸ k
theorem sw_retN (k : O.rt (.dat .non) μ) : SW K tRetN Γ μ O := fun σ P H e x m D n r bk ct => r .non P H (.dat .non) μ (.refl x m) Rp.non k
theorem sw_dropM (h : EvM K te Γ μ RM) (k : ∀ s μ', RM s μ' → O.nx Γ μ') : SW K (tDrop te) Γ μ O := fun σ P H e x m D n r bk ct =>
  h σ P H e x m _ fun v P' H' s μ' g rv hr => n σ P' H' Γ μ' g (e.mono g.pp) (k s μ' hr)
theorem sw_ifM {RT : Bool → Mem → Prop} (h : EvTM K tt Γ μ RT) (h1 : ∀ μ', RT true μ' → SW K a Γ μ' O) (h2 : ∀ μ', RT false μ' → SW K b Γ μ' O) : SW K (tIfS tt a b) Γ μ O := fun σ P H e x m D n r bk ct =>
  h σ P H e x m _ fun c P' H' μ' g hr => by
    have go : ∀ {z : TS}, SW K z Γ μ' O → z D σ H' := fun z => z σ P' H' (e.mono g.pp) g.ph g.ok D (fun σ2 P2 H2 Γ2 μ2 g2 => n σ2 P2 H2 Γ2 μ2 (g.trans g2)) (fun v P2 H2 s μ2 g2 => r v P2 H2 s μ2 (g.trans g2)) (fun σ2 P2 H2 Γ2 μ2 g2 => bk σ2 P2 H2 Γ2 μ2 (g.trans g2))
      fun σ2 P2 H2 Γ2 μ2 g2 => ct σ2 P2 H2 Γ2 μ2 (g.trans g2)
    cases c with
    | true => rw [if_pos rfl]; exact go (h1 μ' hr)
    | false => rw [if_neg Bool.false_ne_true]; exact go (h2 μ' hr)
theorem EvT.m {R : Bool → Prop} (h : EvT K tt Γ μ R) : EvTM K tt Γ μ (fun b μ' => μ' = μ ∧ R b) := fun σ P H e x m Q q => h σ P H e x m Q fun b P' H' g hr => q b P' H' μ g ⟨rfl, hr⟩
theorem sw_ifR {RT : Bool → Prop} (h : EvT K tt Γ μ RT) (h1 : RT true → SW K a Γ μ O) (h2 : RT false → SW K b Γ μ O) : SW K (tIfS tt a b) Γ μ O := sw_ifM h.m (fun _ z => by rw [z.1]; exact h1 z.2) fun _ z => by rw [z.1]; exact h2 z.2
theorem sw_if {c : Bool} (h : EvB K tt Γ μ c) (h1 : c = true → SW K a Γ μ O) (h2 : c = false → SW K b Γ μ O) : SW K (tIfS tt a b) Γ μ O := sw_ifR h (fun z => h1 z.symm) fun z => h2 z.symm
/-- x op= e, whole numbers -/
theorem sw_augI {f : Int → Int → Int} {j : Nat} {x y : Int} (hx : Γ[j]? = some (.dat (.int x))) (h : EvD K te Γ μ (.int y)) (k : O.nx (Γ.set j (.dat (.int (f x y)))) μ) : SW K (tAug j te (ipI f)) Γ μ O := fun σ P H e xt m D n r bk ct => by
  obtain ⟨o, h1, v, rfl, rv⟩ := e.get hx
  cases rv
  refine ⟨_, h1, h σ P H e xt m _ fun v P' H' s g rv hr => ?_⟩
  subst hr; cases rv
  exact ⟨x, y, rfl, rfl, n _ P' H' _ μ g ((e.mono g.pp).set (s := .dat (.int (f x y))) (Rp.int _)) k⟩
/-- forgetting owned objects -/
theorem Go.sub {P H P' H' : Hp} {μ1 : Mem} (x : Go K P H μ P' H' μ') (h : ∀ p ∈ μ1, p ∈ μ') (nd : (adrs μ1).Nodup) : Go K P H μ P' H' μ1 :=
  ⟨x.stp, ⟨fun p hp => x.ok.1 p (h p hp), nd⟩, fun a ha => by
    obtain ⟨p, hp, e⟩ := List.mem_map.mp ha
    exact x.new a (List.mem_map.mpr ⟨p, h p hp, e⟩)⟩
theorem SW.forget (h : SW K t Γ μ O) (h1 : ∀ Γ' μ', O.nx Γ' μ' → O'.nx Γ' μ') (h2 : ∀ s μ', O.rt s μ' → ∃ μ1 : Mem, (∀ p ∈ μ1, p ∈ μ') ∧ (adrs μ1).Nodup ∧ O'.rt s μ1) (h3 : ∀ Γ' μ', O.bk Γ' μ' → O'.bk Γ' μ') (h4 : ∀ Γ' μ', O.ct Γ' μ' → O'.ct Γ' μ') : SW K t Γ μ O' :=
  fun σ P H e x m D n r bk ct => h σ P H e x m D (fun σ' P' H' Γ' μ' g e' z => n σ' P' H' Γ' μ' g e' (h1 _ _ z)) (fun v P' H' s μ' g r' z => by
    obtain ⟨μ1, a1, a2, a3⟩ := h2 _ _ z
    exact r v P' H' s μ1 (g.sub a1 a2) r' a3) (fun σ' P' H' Γ' μ' g e' z => bk σ' P' H' Γ' μ' g e' (h3 _ _ z)) fun σ' P' H' Γ' μ' g e' z => ct σ' P' H' Γ' μ' g e' (h4 _ _ z)
/-! for -/
/-- what a loop over ds keeps: I by the turn -/
structure ForOk (K : PySem.W.Frag) (g : TG) (b : TS) (Γ : List Sl) (μ : Mem) (O : Ou) (Wt : Mem → Prop) (ds : List Dat) (I : Nat → List Sl → Mem → Prop) : Prop where
  h0 : I 0 Γ μ
  hw : ∀ i Γ' μ', i ≤ ds.length → I i Γ' μ' → Wt μ'
  hs : ∀ i d Γ' μ', ds[i]? = some d → I i Γ' μ' → ∃ tg Γ2, GA K g tg d Γ' Γ2 ∧ SW K b Γ2 μ' { nx := I (i + 1), rt := O.rt, bk := O.nx, ct := I (i + 1) }
  hd : ∀ Γ' μ', I ds.length Γ' μ' → O.nx Γ' μ'
theorem sw_forR {wi : TI} {Wt : Mem → Prop} {Rd : List Dat → Prop} (hi : EvI K wi Γ μ Wt Rd) (k : ∀ ds, Rd ds → ∃ I, ForOk K g b Γ μ O Wt ds I) : SW K (tFor wi g b) Γ μ O := fun σ P H e x m D n r bk ct =>
  hi σ P H e x m _ fun J P1 H1 ds g1 hR Y => by
    obtain ⟨I, h0, hw, hs, hd⟩ := k ds hR
    refine ⟨fun i k σ' H' => k = ds.length - i ∧ i ≤ ds.length ∧ ∃ P' Γ' μ', Go K P1 H1 μ P' H' μ' ∧ EnvOk K P' σ' Γ' ∧ I i Γ' μ', ⟨_, rfl, Nat.zero_le _, P1, Γ, μ, .refl g1.ph g1.ok, e.mono g1.pp, h0⟩, fun i k σ' H' z => ?_⟩
    obtain ⟨hk, hle, P2, Γ2, μ2, g2, e2, hI⟩ := z
    have Yi := Y i P2 H' g2.ph ⟨g2.pp, μ2, g2.ok, hw i Γ2 μ2 hle hI⟩
    by_cases hlt : i < ds.length
    · obtain ⟨d, hd'⟩ : ∃ d, ds[i]? = some d := ⟨_, List.getElem?_eq_getElem hlt⟩
      obtain ⟨go, y⟩ := Yi.1 d hd'
      refine .inr ⟨go, fun σ3 H3 => ∃ P' Γ' μ', Go K P1 H1 μ P' H3 μ' ∧ EnvOk K P' σ3 Γ' ∧ I (i + 1) Γ' μ', fun σ3 H3 z => ⟨ds.length - (i + 1), by omega, rfl, hlt, z⟩, fun x3 H3 hy => ?_⟩
      obtain ⟨P3, st, rx⟩ := y x3 H3 hy
      have g3 := g2.trans (.of0 st g2.ok)
      obtain ⟨tg, Γ3, hg, hb⟩ := hs i d Γ2 μ2 hd' hI
      refine hg σ' P3 H3 x3 (e2.mono st.pp) st.ph rx _ fun σ4 e4 _ => hb σ4 P3 H3 e4 g3.ph g3.ok _ (fun σ5 P5 H5 Γ5 μ5 g5 e5 z => ⟨P5, Γ5, μ5, g3.trans g5, e5, z⟩) (fun v P5 H5 s μ5 g5 r5 z => r v P5 H5 s μ5 (g1.trans (g3.trans g5)) r5 z)
        (fun σ5 P5 H5 Γ5 μ5 g5 e5 z => n σ5 P5 H5 Γ5 μ5 (g1.trans (g3.trans g5)) e5 z) (fun σ5 P5 H5 Γ5 μ5 g5 e5 z => ⟨P5, Γ5, μ5, g3.trans g5, e5, z⟩)
    · have hi' : i = ds.length := by omega
      refine .inl ⟨Yi.2 (by omega), n σ' P2 H' Γ2 μ2 (g1.trans g2) e2 (hd Γ2 μ2 (hi' ▸ hI))⟩
/-! what is walked -/
theorem sw_for {wi : TI} {Wt : Mem → Prop} (hi : EvI K wi Γ μ Wt (fun z => z = ds)) (I : Nat → List Sl → Mem → Prop) (h0 : I 0 Γ μ) (hw : ∀ i Γ' μ', i ≤ ds.length → I i Γ' μ' → Wt μ')
    (hs : ∀ i d Γ' μ', ds[i]? = some d → I i Γ' μ' → ∃ tg Γ2, GA K g tg d Γ' Γ2 ∧ SW K b Γ2 μ' { nx := I (i + 1), rt := O.rt, bk := O.nx, ct := I (i + 1) })
    (hd : ∀ Γ' μ', I ds.length Γ' μ' → O.nx Γ' μ') : SW K (tFor wi g b) Γ μ O := sw_forR hi fun ds' e => by
  subst e
  exact ⟨I, h0, hw, hs, hd⟩
theorem yields_of {J : It} {G : Hp → Hp → Prop} (h : ∀ (i : Nat) (P H : Hp), Ext P H → G P H → (∀ d, ds[i]? = some d → J.go i H ∧ ∀ x H', J.yld i H x H' → H' = H ∧ Rp K P x d) ∧ (ds.length ≤ i → J.stop i H)) : Yields K J G ds := fun i P H x hg =>
  ⟨fun d hd => ⟨((h i P H x hg).1 d hd).1, fun y H' hy => by
    obtain ⟨rfl, rd⟩ := ((h i P H x hg).1 d hd).2 y H' hy
    exact ⟨P, .refl x, rd⟩⟩, (h i P H x hg).2⟩
/-- a list or a tuple of data, a text -/
def itD : Dat → Option (List Dat)
  | .lst ds => some ds
  | .tup ds => some ds
  | .str x => some (x.cps.toList.map fun c => .str ⟨#[c]⟩)
  | _ => none
theorem ei_lst (h : EvD K te Γ μ (.lst ds)) : EvI K (iList K te) Γ μ (fun _ => True) (fun z => z = ds) := fun σ P H e x m R q =>
  h σ P H e x m _ fun v P1 H1 s g1 r1 hs => by
    subst hs
    cases r1 with
    | lst hl ra =>
      rename_i a xs
      refine ⟨a, rfl, ⟨xs, .of (g1.ph _ _ hl)⟩, q _ P1 H1 ds g1 rfl (yields_of fun i P2 H2 x2 hg => ?_)⟩
      have hl' : SqL K H2 a xs := .of (x2 _ _ (hg.1 _ _ hl))
      refine ⟨fun d hd => ?_, fun h => ⟨xs, hl', by rw [ra.length]; exact h⟩⟩
      obtain ⟨v, h1, h2⟩ := ra.get hd
      refine ⟨⟨xs, v, hl', h1⟩, fun y H' hy => ⟨hy.1, ?_⟩⟩
      have := hy.2 xs hl'
      rw [h1] at this
      cases this
      exact h2.mono hg.1
theorem ei_tup (h : EvD K te Γ μ (.tup ds)) : EvI K (iTup K te) Γ μ (fun _ => True) (fun z => z = ds) := fun σ P H e x m R q =>
  h σ P H e x m _ fun v P1 H1 s g1 r1 hs => by
    subst hs
    cases r1 with
    | tup hl ra =>
      rename_i a xs
      refine ⟨a, rfl, ⟨xs, g1.ph.seqT hl⟩, q _ P1 H1 ds g1 rfl (yields_of fun i P2 H2 x2 hg => ?_)⟩
      have hl' : SqT K H2 a xs := x2.seqT (hg.1.seqT hl)
      refine ⟨fun d hd => ?_, fun h => ⟨xs, hl', by rw [ra.length]; exact h⟩⟩
      obtain ⟨v, h1, h2⟩ := ra.get hd
      refine ⟨⟨xs, v, hl', h1⟩, fun y H' hy => ⟨hy.1, ?_⟩⟩
      have := hy.2 xs hl'
      rw [h1] at this
      cases this
      exact h2.mono hg.1
/-- the signs of a text, as data -/
def chs (l : List Nat) : List Dat := l.map fun c => .str ⟨#[c]⟩
theorem ei_str {l : List Nat} (h : EvD K te Γ μ (.str ⟨l.toArray⟩)) : EvI K (iStr te) Γ μ (fun _ => True) (fun z => z = chs l) := fun σ P H e x m R q =>
  h σ P H e x m _ fun v P1 H1 s g1 r1 hs => by
    subst hs
    cases r1
    refine ⟨_, rfl, q _ P1 H1 _ g1 rfl (yields_of fun i P2 H2 x2 hg => ⟨fun d hd => ?_, fun h => ?_⟩)⟩
    · obtain ⟨c, hc, rfl⟩ : ∃ c, l[i]? = some c ∧ d = .str ⟨#[c]⟩ := by
        unfold chs at hd
        rw [List.getElem?_map] at hd
        cases w : l[i]? with
        | none => rw [w] at hd; cases hd
        | some c => rw [w] at hd; exact ⟨c, rfl, (Option.some.inj hd).symm⟩
      have hi : i < l.length := (List.getElem?_eq_some_iff.mp hc).1
      refine ⟨(show i < (l.toArray).size by simpa using hi), fun y H' hy => ⟨hy.1, ?_⟩⟩
      obtain ⟨c', h1, rfl⟩ := hy.2
      have : c' = c := by
        have h1' : l[i]? = some c' := by simpa using h1
        rw [hc] at h1'; exact (Option.some.inj h1').symm
      subst this
      exact .str _
    · show (l.toArray).size ≤ i
      simpa [chs] using h
/-- an owned list, which the loop leaves -/
theorem ei_own {a : Addr} (h : Ev K te Γ μ (fun z => z = .adr a)) (hm : (a, Mu.mls ds) ∈ μ) : EvI K (iList K te) Γ μ (fun μ2 => (a, Mu.mls ds) ∈ μ2) (fun z => z = ds) := fun σ P H e x m R q =>
  h σ P H e x m _ fun v P1 H1 s g1 r1 hs => by
    subst hs
    have r1' : v = .ref a := r1
    subst r1'
    obtain ⟨_, xs, hl, ra⟩ := g1.ok.get hm
    refine ⟨a, rfl, ⟨xs, .of hl⟩, q _ P1 H1 ds g1 rfl (yields_of fun i P2 H2 x2 hg => ?_)⟩
    obtain ⟨_, μ2, ok2, hm2⟩ := hg
    obtain ⟨_, ys, hl2, rb⟩ := ok2.get hm2
    refine ⟨fun d hd => ?_, fun h => ⟨ys, .of hl2, by rw [rb.length]; exact h⟩⟩
    obtain ⟨v, h1, h2⟩ := rb.get hd
    refine ⟨⟨ys, v, .of hl2, h1⟩, fun y H' hy => ⟨hy.1, ?_⟩⟩
    have := hy.2 ys (.of hl2)
    rw [h1] at this
    cases this
    exact h2
def rgD (lo : Int) (n : Nat) : List Dat := (List.range n).map fun (i : Nat) => .int (lo + i)
theorem rgD_get {lo : Int} {n i : Nat} {d : Dat} (h : (rgD lo n)[i]? = some d) : i < n ∧ d = .int (lo + i) := by
  unfold rgD at h
  rw [List.getElem?_map] at h
  cases w : (List.range n)[i]? with
  | none => rw [w] at h; cases h
  | some c =>
    obtain ⟨h1, h2⟩ := List.getElem?_eq_some_iff.mp w
    rw [w] at h
    rw [List.getElem_range] at h2
    subst h2
    exact ⟨by simpa using h1, (Option.some.inj h).symm⟩
theorem rgD_len {lo : Int} {n : Nat} : (rgD lo n).length = n := by simp [rgD]
theorem yields_rng {lo : Int} {n : Nat} {G : Hp → Hp → Prop} : Yields K (Itr lo n) G (rgD lo n) := yields_of fun i P2 H2 x2 hg => ⟨fun d hd => by
    obtain ⟨h1, rfl⟩ := rgD_get hd
    refine ⟨h1, fun y H' hy => ⟨hy.1, ?_⟩⟩
    obtain ⟨_, rfl⟩ := hy
    exact .int _, fun h => by rw [rgD_len] at h; exact h⟩
theorem ei_rng1 {ta : TA} {Rn : Int → Prop} (h : EvA K ta Γ μ (fun ss => ∃ n, ss = [.dat (.int n)] ∧ Rn n ∧ -1000000 ≤ n ∧ n ≤ 1000000)) : EvI K (iRng1 ta) Γ μ (fun _ => True) (fun z => ∃ n, Rn n ∧ z = rgD 0 n.toNat) := fun σ P H e x m R q =>
  h σ P H e x m _ fun vs P1 H1 ss g1 r1 hs => by
    obtain ⟨n, rfl, hn, h1, h2⟩ := hs
    match vs, r1 with
    | [v], ⟨rv, _⟩ =>
      cases rv
      exact ⟨n, rfl, by omega, by omega, q _ P1 H1 _ g1 ⟨n, hn, rfl⟩ yields_rng⟩
theorem ei_rng1D {ta : TA} {n : Int} (h : EvAs K ta Γ μ [.dat (.int n)]) (h1 : -1000000 ≤ n) (h2 : n ≤ 1000000) : EvI K (iRng1 ta) Γ μ (fun _ => True) (fun z => z = rgD 0 n.toNat) := fun σ P H e x m R q =>
  ei_rng1 (Rn := fun k => k = n) (h.imp fun _ z => ⟨n, z, rfl, h1, h2⟩) σ P H e x m R fun J P' H' ds g ⟨k, hk, z⟩ => q J P' H' ds g (hk ▸ z)
end
end DL
namespace DL
open PySem PySem.Spec PyProof.Rows L2
/-! ### operations on data -/
/-- a text, by its signs -/
abbrev tx (l : List Nat) : Dat := .str ⟨l.toArray⟩
section
variable {K : PySem.W.Frag} {Γ Γ' : List Sl} {μ μ' : Mem} {te ta tb : TE} {R : Sl → Prop} {d : Dat} {s : Sl} {ds es : List Dat}
theorem fin_lst {P H : Hp} {p : Addr} {xs : List V} {Q : VK} (xt : Ext P H) (hp : H p = none) (r : RpA K P xs ds) (q : ∀ v P' H' s, Stp [] P H P' H' → RelS K P' v s → s = .dat (.lst ds) → Q v H') : Q (.ref p) (upd H p (.lst xs)) := by
  have st : Stp [] P H (upd P p (.lst xs)) (upd H p (.lst xs)) := .new xt hp
  exact q (.ref p) _ _ (.dat (.lst ds)) st (Rp.lst upd_same (r.mono st.pp)) rfl
theorem fin_tup {P H : Hp} {p : Addr} {xs : List V} {Q : VK} (xt : Ext P H) (hp : H p = none) (r : RpA K P xs ds) (q : ∀ v P' H' s, Stp [] P H P' H' → RelS K P' v s → s = .dat (.tup ds) → Q v H') : Q (.ref p) (upd H p (.tup xs)) := by
  have st : Stp [] P H (upd P p (.tup xs)) (upd H p (.tup xs)) := .new xt hp
  exact q (.ref p) _ _ (.dat (.tup ds)) st (Rp.tup (.of upd_same) (r.mono st.pp)) rfl
theorem OpS.val {r : R2} {da db : Dat} (h : ∀ (P H : Hp) (x y : V) (Q : VK), Ext P H → Rp K P x da → Rp K P y db → (∀ v, SV v d → Q v H) → r x y H Q) : OpS K μ r (.dat da) (.dat db) (fun s => s = .dat d) := fun P H x y xt m ra rb Q q =>
  h P H x y Q xt ra rb fun v hv => q v P H (.dat d) (.refl xt) (hv.rp (P := P)) rfl
theorem ops_I0 {g : Int → Int → V} {i j : Int} (h : SV (g i j) d) : OpS K μ (rI0 g) (.dat (.int i)) (.dat (.int j)) (fun s => s = .dat d) := .val fun P H x y Q xt ra rb q => by
  cases ra; cases rb
  exact ⟨i, j, rfl, rfl, q _ h⟩
theorem ops_I {C : Int → Int → Prop} {g : Int → Int → V} {i j : Int} (hc : C i j) (h : SV (g i j) d) : OpS K μ (rI C g) (.dat (.int i)) (.dat (.int j)) (fun s => s = .dat d) := .val fun P H x y Q xt ra rb q => by
  cases ra; cases rb
  exact ⟨i, j, rfl, rfl, hc, q _ h⟩
theorem ops_addI {i j : Int} : OpS K μ (rI0 fun i j => .int (i + j)) (.dat (.int i)) (.dat (.int j)) (fun s => s = .dat (.int (i + j))) := ops_I0 rfl
theorem ops_subI {i j : Int} : OpS K μ (rI0 fun i j => .int (i - j)) (.dat (.int i)) (.dat (.int j)) (fun s => s = .dat (.int (i - j))) := ops_I0 rfl
theorem ops_andI {i j : Int} : OpS K μ (rI0 fun i j => .int (Builtin.bitAnd i j)) (.dat (.int i)) (.dat (.int j)) (fun s => s = .dat (.int (Builtin.bitAnd i j))) := ops_I0 rfl
theorem ops_orI {i j : Int} : OpS K μ (rI0 fun i j => .int (Builtin.bitOr i j)) (.dat (.int i)) (.dat (.int j)) (fun s => s = .dat (.int (Builtin.bitOr i j))) := ops_I0 rfl
theorem ops_cmpI {p : Int → Int → Bool} {i j : Int} : OpS K μ (rI0 fun i j => .bl (p i j)) (.dat (.int i)) (.dat (.int j)) (fun s => s = .dat (.bl (p i j))) := ops_I0 rfl
/-! texts -/
theorem tl_cat (l m : List Nat) : ((⟨l.toArray⟩ : Str) ++ (⟨m.toArray⟩ : Str)) = ⟨(l ++ m).toArray⟩ := TL.ext_tl (by rw [TL.tl_append, TL.tl_mk, TL.tl_mk, TL.tl_mk])
theorem len_tx (l : List Nat) : (⟨l.toArray⟩ : Str).length = l.length := by rw [TL.len_tl, TL.tl_mk]
theorem str_inj {l m : List Nat} (h : (⟨l.toArray⟩ : Str) = ⟨m.toArray⟩) : l = m := by
  have := congrArg TL.tl h
  rwa [TL.tl_mk, TL.tl_mk] at this
def rAddS' : R2 := fun x y H Q => ∃ i j, x = .str i ∧ y = .str j ∧ i.length + j.length ≤ sizeLine ∧ Q (.str (i ++ j)) H
theorem ops_addS {l m : List Nat} (h : l.length + m.length ≤ 1000000) : OpS K μ (fun x y H Q => ∃ i j, x = .str i ∧ y = .str j ∧ i.length + j.length ≤ sizeLine ∧ Q (.str (i ++ j)) H) (.dat (tx l)) (.dat (tx m)) (fun s => s = .dat (tx (l ++ m))) := .val fun P H x y Q xt ra rb q => by
  cases ra; cases rb
  refine ⟨_, _, rfl, rfl, ?_, q _ ?_⟩
  · rw [len_tx, len_tx]; exact Nat.le_trans h (by decide)
  · exact tl_cat l m
/-- scalars, whether they are alike as == has it (kinds apart from bool and int mixed) -/
def eqSc : Dat → Dat → Option Bool
  | .str x, .str y => some (decide (x = y))
  | .int i, .int j => some (decide (i = j))
  | .bl i, .bl j => some (decide (i = j))
  | .non, .non => some true
  | .non, .int _ => some false
  | .int _, .non => some false
  | .str _, .int _ => some false
  | .int _, .str _ => some false
  | .str _, .non => some false
  | .non, .str _ => some false
  | _, _ => none
theorem ops_eq {da db : Dat} {b : Bool} (h : eqSc da db = some b) : OpS K μ rEq (.dat da) (.dat db) (fun s => s = .dat (.bl b)) := .val fun P H x y Q xt ra rb q => by
  cases ra <;> cases rb <;> simp only [eqSc, Option.some.injEq, reduceCtorEq] at h <;> subst h <;> refine ⟨rfl, q _ ?_⟩ <;> simp [SV, V.int.injEq, V.str.injEq, V.bl.injEq]
theorem ops_ne {da db : Dat} {b : Bool} (h : eqSc da db = some b) : OpS K μ rNe (.dat da) (.dat db) (fun s => s = .dat (.bl (!b))) := .val fun P H x y Q xt ra rb q => by
  cases ra <;> cases rb <;> simp only [eqSc, Option.some.injEq, reduceCtorEq] at h <;> subst h <;> refine ⟨rfl, q _ ?_⟩ <;> simp [SV, V.int.injEq, V.str.injEq, V.bl.injEq]
theorem eqSc_tx (l m : List Nat) : eqSc (tx l) (tx m) = some (decide (l = m)) := by
  show some (decide ((⟨l.toArray⟩ : Str) = ⟨m.toArray⟩)) = _
  congr 1
  by_cases h : l = m
  · subst h; simp
  · rw [decide_eq_false h, decide_eq_false (fun e => h (str_inj e))]
theorem ops_eqT {l m : List Nat} : OpS K μ rEq (.dat (tx l)) (.dat (tx m)) (fun s => s = .dat (.bl (decide (l = m)))) := ops_eq (eqSc_tx l m)
theorem ops_neT {l m : List Nat} : OpS K μ rNe (.dat (tx l)) (.dat (tx m)) (fun s => s = .dat (.bl (!decide (l = m)))) := ops_ne (eqSc_tx l m)
theorem ops_eqI {i j : Int} : OpS K μ rEq (.dat (.int i)) (.dat (.int j)) (fun s => s = .dat (.bl (decide (i = j)))) := ops_eq rfl
theorem ops_neI {i j : Int} : OpS K μ rNe (.dat (.int i)) (.dat (.int j)) (fun s => s = .dat (.bl (!decide (i = j)))) := ops_ne rfl
theorem ops_inC {c : Nat} {l : List Nat} : OpS K μ (fun x y H Q => ∃ (c : Nat) (z : Str), x = .str ⟨#[c]⟩ ∧ y = .str z ∧ Q (.bl (decide (c ∈ z.cps.toList))) H) (.dat (.str ⟨#[c]⟩)) (.dat (tx l)) (fun s => s = .dat (.bl (decide (c ∈ l)))) := .val fun P H x y Q xt ra rb q => by
  cases ra; cases rb
  exact ⟨c, _, rfl, rfl, q _ rfl⟩
theorem ops_ninC {c : Nat} {l : List Nat} : OpS K μ (fun x y H Q => ∃ (c : Nat) (z : Str), x = .str ⟨#[c]⟩ ∧ y = .str z ∧ Q (.bl (!decide (c ∈ z.cps.toList))) H) (.dat (.str ⟨#[c]⟩)) (.dat (tx l)) (fun s => s = .dat (.bl (!decide (c ∈ l)))) := .val fun P H x y Q xt ra rb q => by
  cases ra; cases rb
  exact ⟨c, _, rfl, rfl, q _ rfl⟩
theorem ops_isN {neg : Bool} {da : Dat} {b : Bool} (h : (match da with | .non => true | _ => false) = b) : OpS K μ (fun x y H Q => y = .non ∧ Q (.bl (decide (x = .non))) H) (.dat da) (.dat .non) (fun s => s = .dat (.bl b)) := .val fun P H x y Q xt ra rb q => by
  cases rb
  refine ⟨rfl, q _ ?_⟩
  subst h
  cases ra <;> rfl
theorem ops_notN {da : Dat} {b : Bool} (h : (match da with | .non => false | _ => true) = b) : OpS K μ (fun x y H Q => y = .non ∧ Q (.bl (!decide (x = .non))) H) (.dat da) (.dat .non) (fun s => s = .dat (.bl b)) := .val fun P H x y Q xt ra rb q => by
  cases rb
  refine ⟨rfl, q _ ?_⟩
  subst h
  cases ra <;> rfl
/-! x in xs -/
theorem inV_strs (z : Str) : ∀ xs : List Str, inV (.str z) (xs.map V.str) = decide (z ∈ xs)
  | [] => rfl
  | y :: r => by
    have ih := inV_strs z r
    unfold inV at ih ⊢
    rw [List.map_cons, List.any_cons, ih]
    show ((y == z) || decide (z ∈ r)) = decide (z ∈ y :: r)
    by_cases h : y = z
    · subst h; simp
    · have h' : ¬ z = y := fun e => h e.symm
      simp [h, h']
theorem inV_ints (z : Int) : ∀ xs : List Int, inV (.int z) (xs.map V.int) = decide (z ∈ xs)
  | [] => rfl
  | y :: r => by
    have ih := inV_ints z r
    unfold inV at ih ⊢
    rw [List.map_cons, List.any_cons, ih]
    show ((y == z) || decide (z ∈ r)) = decide (z ∈ y :: r)
    by_cases h : y = z
    · subst h; simp
    · have h' : ¬ z = y := fun e => h e.symm
      simp [h, h']
theorem all_strs : ∀ xs : List Str, (xs.map V.str).all flatV = true
  | [] => rfl
  | _ :: r => by simp [flatV]
theorem all_ints : ∀ xs : List Int, (xs.map V.int).all flatV = true
  | [] => rfl
  | _ :: r => by simp [flatV]
theorem seq_of {P H : Hp} (x : Ext P H) {v : V} {d : Dat} (hd : d = .lst ds ∨ d = .tup ds) (r : Rp K P v d) : ∃ a xs, v = .ref a ∧ (SqL K H a xs ∨ SqT K H a xs) ∧ RpA K P xs ds := by
  rcases hd with rfl | rfl
  · cases r with
    | lst h ra => exact ⟨_, _, rfl, .inl (.of (x _ _ h)), ra⟩
  · cases r with
    | tup h ra => exact ⟨_, _, rfl, .inr (x.seqT h), ra⟩
theorem ops_inStrs {neg : Bool} {z : Str} {xs : List Str} {db : Dat} (hd : db = .lst (xs.map Dat.str) ∨ db = .tup (xs.map Dat.str)) : OpS K μ (rIn K neg) (.dat (.str z)) (.dat db) (fun s => s = .dat (.bl (if neg then !decide (z ∈ xs) else decide (z ∈ xs)))) := .val fun P H x y Q xt ra rb q => by
  cases ra
  obtain ⟨a, ys, rfl, hs, hr⟩ := seq_of xt hd rb
  have e := RpA.of_strs hr
  subst e
  refine ⟨a, _, rfl, hs, rfl, all_strs xs, q _ ?_⟩
  show (if neg then !inV (.str z) (xs.map V.str) else inV (.str z) (xs.map V.str)) = _
  rw [inV_strs]
theorem ops_inInts {neg : Bool} {z : Int} {xs : List Int} {db : Dat} (hd : db = .lst (xs.map Dat.int) ∨ db = .tup (xs.map Dat.int)) : OpS K μ (rIn K neg) (.dat (.int z)) (.dat db) (fun s => s = .dat (.bl (if neg then !decide (z ∈ xs) else decide (z ∈ xs)))) := .val fun P H x y Q xt ra rb q => by
  cases ra
  obtain ⟨a, ys, rfl, hs, hr⟩ := seq_of xt hd rb
  have e := RpA.of_ints hr
  subst e
  refine ⟨a, _, rfl, hs, rfl, all_ints xs, q _ ?_⟩
  show (if neg then !inV (.int z) (xs.map V.int) else inV (.int z) (xs.map V.int)) = _
  rw [inV_ints]
/-! places -/
theorem at_of {P : Hp} {xs : List V} (r : RpA K P xs ds) {i : Int} {d : Dat} (h : atI ds i = some d) : ∃ v, atI xs i = some v ∧ Rp K P v d := by
  unfold atI at h ⊢
  rw [r.length]
  cases w : ixN ds.length i with
  | none => rw [w] at h; cases h
  | some j =>
    rw [w] at h
    exact r.get (show ds[j]? = some d from h)
theorem ops_ix {i : Int} {da : Dat} (hd : da = .lst ds ∨ da = .tup ds) (h : atI ds i = some d) : OpS K μ (rIx K) (.dat da) (.dat (.int i)) (fun s => s = .dat d) := fun P H x y xt m ra rb Q q => by
  have rb' : Rp K P y (.int i) := rb
  cases rb'
  obtain ⟨a, xs, rfl, hs, hr⟩ := seq_of xt hd ra
  obtain ⟨v, h1, h2⟩ := at_of hr h
  rcases hs with hs | hs
  · exact .inl ⟨a, xs, i, v, rfl, rfl, hs, h1, q v P H (.dat d) (.refl xt) h2 rfl⟩
  · exact .inr (.inl ⟨a, xs, i, v, rfl, rfl, hs, h1, q v P H (.dat d) (.refl xt) h2 rfl⟩)
theorem ops_ixT {i : Int} {l : List Nat} {c : Nat} (hl : l.length ≤ 1000000) (h : atI l i = some c) : OpS K μ (rIx K) (.dat (tx l)) (.dat (.int i)) (fun s => s = .dat (.str ⟨#[c]⟩)) := .val fun P H x y Q xt ra rb q => by
  cases ra; cases rb
  exact .inr (.inr ⟨_, i, c, rfl, rfl, by rw [len_tx]; exact Nat.le_trans hl (by decide), h, q _ rfl⟩)
theorem ops_ixO {i : Int} {a : Addr} (hm : (a, Mu.mls ds) ∈ μ) (h : atI ds i = some d) : OpS K μ (rIx K) (.adr a) (.dat (.int i)) (fun s => s = .dat d) := fun P H x y xt m ra rb Q q => by
  have rb' : Rp K P y (.int i) := rb
  cases rb'
  have ra' : x = .ref a := ra
  subst ra'
  obtain ⟨_, xs, hl, hr⟩ := m.get hm
  obtain ⟨v, h1, h2⟩ := at_of hr h
  exact .inl ⟨a, xs, i, v, rfl, rfl, .of hl, h1, q v P H (.dat d) (.refl xt) h2 rfl⟩
/-! xs + ys, new -/
theorem ops_cat {es : List Dat} (hz : ds.length + es.length ≤ 1000000) : OpS K μ rCat (.dat (.lst ds)) (.dat (.lst es)) (fun s => s = .dat (.lst (ds ++ es))) := fun P H x y xt m ra rb Q q => by
  have ra' : Rp K P x (.lst ds) := ra
  have rb' : Rp K P y (.lst es) := rb
  cases ra' with
  | lst h1 r1 =>
    cases rb' with
    | lst h2 r2 =>
      refine ⟨_, _, _, _, rfl, rfl, xt _ _ h1, xt _ _ h2, by rw [r1.length, r2.length]; exact Nat.le_trans hz (by decide), fun p hp => fin_lst xt hp (r1.append r2) q⟩
theorem ops_catO {es : List Dat} {a : Addr} (hm : (a, Mu.mls ds) ∈ μ) (hz : ds.length + es.length ≤ 1000000) : OpS K μ rCat (.adr a) (.dat (.lst es)) (fun s => s = .dat (.lst (ds ++ es))) := fun P H x y xt m ra rb Q q => by
  have ra' : x = .ref a := ra
  subst ra'
  have rb' : Rp K P y (.lst es) := rb
  obtain ⟨_, xs, h1, r1⟩ := m.get hm
  cases rb' with
  | lst h2 r2 =>
    refine ⟨_, _, _, _, rfl, rfl, h1, xt _ _ h2, by rw [r1.length, r2.length]; exact Nat.le_trans hz (by decide), fun p hp => fin_lst xt hp (r1.append r2) q⟩
theorem ops_catT {es : List Dat} (hne : ds ≠ []) (hz : ds.length + es.length ≤ 1000000) : OpS K μ (rCatT K) (.dat (.tup ds)) (.dat (.tup es)) (fun s => s = .dat (.tup (ds ++ es))) := fun P H x y xt m ra rb Q q => by
  have ra' : Rp K P x (.tup ds) := ra
  have rb' : Rp K P y (.tup es) := rb
  cases ra' with
  | tup h1 r1 =>
    cases rb' with
    | tup h2 r2 =>
      refine ⟨_, _, _, _, rfl, rfl, xt.seqT h1, xt.seqT h2, ?_, by rw [r1.length, r2.length]; exact Nat.le_trans hz (by decide), fun e => ?_, fun e p hp => ?_⟩
      · rintro rfl; cases r1; exact hne rfl
      · subst e; cases r2
        exact q _ P H (.dat (.tup (ds ++ []))) (.refl xt) (Rp.tup h1 (by rw [List.append_nil]; exact r1)) rfl
      · exact fin_tup xt hp (r1.append r2) q
/-! built-ins -/
theorem CbS.val {r : List V → Hp → VK → Prop} {ss : List Sl} (h : ∀ (P H : Hp) (xs : List V) (Q : VK), Ext P H → StOk K P H μ → RelSs K P xs ss → (∀ v, SV v d → Q v H) → r xs H Q) : CbS K μ r ss (fun s => s = .dat d) := fun P H xs xt m rs Q q =>
  h P H xs Q xt m rs fun v hv => q v P H (.dat d) (.refl xt) (hv.rp (P := P)) rfl
theorem one_of {P : Hp} {xs : List V} (h : RelSs K P xs [.dat d]) : ∃ v, xs = [v] ∧ Rp K P v d := match xs, h with | [v], ⟨r, _⟩ => ⟨v, rfl, r⟩
theorem oneS {P : Hp} {xs : List V} (h : RelSs K P xs [s]) : ∃ v, xs = [v] ∧ RelS K P v s := match xs, h with | [v], ⟨r, _⟩ => ⟨v, rfl, r⟩
theorem two_of {P : Hp} {xs : List V} {d e : Dat} (h : RelSs K P xs [.dat d, .dat e]) : ∃ v w, xs = [v, w] ∧ Rp K P v d ∧ Rp K P w e := match xs, h with | [v, w], ⟨r, r', _⟩ => ⟨v, w, rfl, r, r'⟩
def lenD : Dat → Option Nat
  | .lst ds => some ds.length
  | .tup ds => some ds.length
  | .str x => some x.length
  | _ => none
theorem cb_len {d : Dat} {n : Nat} (h : lenD d = some n) (hz : n ≤ 1000000) : CbS K μ (fun xs H Q => ∃ x n, xs = [x] ∧ LenV K x H n ∧ Q (.int n) H) [.dat d] (fun s => s = .dat (.int n)) := .val fun P H xs Q xt m rs q => by
  obtain ⟨v, rfl, r⟩ := one_of rs
  cases r <;> simp only [lenD, Option.some.injEq, reduceCtorEq] at h
  · subst h
    exact ⟨_, _, rfl, ⟨Nat.le_trans hz (by decide), rfl⟩, q _ rfl⟩
  · rename_i h1 r1
    exact ⟨_, _, rfl, .inl ⟨_, .of (xt _ _ h1), rfl⟩, q _ (by rw [r1.length, h]; rfl)⟩
  · rename_i h1 r1
    exact ⟨_, _, rfl, .inr ⟨_, xt.seqT h1, rfl⟩, q _ (by rw [r1.length, h]; rfl)⟩
theorem cb_lenO {a : Addr} (hm : (a, Mu.mls ds) ∈ μ) : CbS K μ (fun xs H Q => ∃ x n, xs = [x] ∧ LenV K x H n ∧ Q (.int n) H) [.adr a] (fun s => s = .dat (.int ds.length)) := .val fun P H xs Q xt m rs q => by
  obtain ⟨v, rfl, r⟩ := oneS rs
  have r' : v = .ref a := r
  subst r'
  obtain ⟨_, ys, h1, r1⟩ := m.get hm
  exact ⟨_, _, rfl, .inl ⟨_, .of h1, rfl⟩, q _ (by rw [r1.length]; rfl)⟩
theorem cb_all {bs : List Bool} : CbS K μ (rAll K) [.dat (.lst (bs.map Dat.bl))] (fun s => s = .dat (.bl (bs.all id))) := .val fun P H xs Q xt m rs q => by
  obtain ⟨v, rfl, r⟩ := one_of rs
  cases r with
  | lst h1 r1 =>
    have e := RpA.of_bls r1
    subst e
    exact ⟨_, bs, rfl, .of (xt _ _ h1), q _ rfl⟩
theorem cb_any {bs : List Bool} : CbS K μ (rAny K) [.dat (.lst (bs.map Dat.bl))] (fun s => s = .dat (.bl (bs.any id))) := .val fun P H xs Q xt m rs q => by
  obtain ⟨v, rfl, r⟩ := one_of rs
  cases r with
  | lst h1 r1 =>
    have e := RpA.of_bls r1
    subst e
    exact ⟨_, bs, rfl, .of (xt _ _ h1), q _ rfl⟩
theorem cb_sum {ns : List Int} : CbS K μ (rSum K) [.dat (.lst (ns.map Dat.int))] (fun s => s = .dat (.int ns.sum)) := .val fun P H xs Q xt m rs q => by
  obtain ⟨v, rfl, r⟩ := one_of rs
  cases r with
  | lst h1 r1 =>
    have e := RpA.of_ints r1
    subst e
    exact ⟨_, ns, rfl, .of (xt _ _ h1), q _ rfl⟩
theorem cb_min {ns : List Int} {n : Int} (hn : n ∈ ns) (hl : ∀ y ∈ ns, n ≤ y) : CbS K μ (rMin K) [.dat (.lst (ns.map Dat.int))] (fun s => s = .dat (.int n)) := .val fun P H xs Q xt m rs q => by
  obtain ⟨v, rfl, r⟩ := one_of rs
  cases r with
  | lst h1 r1 =>
    have e := RpA.of_ints r1
    subst e
    refine ⟨_, ns, rfl, .of (xt _ _ h1), List.length_pos_of_mem hn, fun k hk hk' => ?_⟩
    have : k = n := Int.le_antisymm (hk' n hn) (hl k hk)
    subst this
    exact q _ rfl
theorem cb_tup {d : Dat} (hd : d = .lst ds ∨ d = .tup ds) : CbS K μ (fun xs H Q => ∃ p ys, xs = [.ref p] ∧ ((SqL K H p ys ∧ ∀ l, H l = none → Q (.ref l) (upd H l (.tup ys))) ∨ (SqT K H p ys ∧ Q (.ref p) H))) [.dat d] (fun s => s = .dat (.tup ds)) := fun P H xs xt m rs Q q => by
  obtain ⟨v, rfl, r⟩ := one_of rs
  rcases hd with rfl | rfl
  · cases r with
    | lst h1 r1 =>
      refine ⟨_, _, rfl, .inl ⟨.of (xt _ _ h1), fun p hp => fin_tup xt hp r1 q⟩⟩
  · cases r with
    | tup h1 r1 => exact ⟨_, _, rfl, .inr ⟨xt.seqT h1, q _ P H (.dat (.tup ds)) (.refl xt) (Rp.tup h1 r1) rfl⟩⟩
theorem cb_list {d : Dat} (hd : d = .lst ds ∨ d = .tup ds) : CbS K μ (fun xs H Q => ∃ p ys, xs = [.ref p] ∧ (SqL K H p ys ∨ SqT K H p ys) ∧ ∀ l, H l = none → Q (.ref l) (upd H l (.lst ys))) [.dat d] (fun s => s = .dat (.lst ds)) := fun P H xs xt m rs Q q => by
  obtain ⟨v, rfl, r⟩ := one_of rs
  obtain ⟨a, ys, rfl, hs, hr⟩ := seq_of xt hd r
  exact ⟨_, _, rfl, hs, fun p hp => fin_lst xt hp hr q⟩
theorem cb_listO {a : Addr} (hm : (a, Mu.mls ds) ∈ μ) : CbS K μ (fun xs H Q => ∃ p ys, xs = [.ref p] ∧ (SqL K H p ys ∨ SqT K H p ys) ∧ ∀ l, H l = none → Q (.ref l) (upd H l (.lst ys))) [.adr a] (fun s => s = .dat (.lst ds)) := fun P H xs xt m rs Q q => by
  obtain ⟨v, rfl, r⟩ := oneS rs
  have r' : v = .ref a := r
  subst r'
  obtain ⟨_, ys, h1, hr⟩ := m.get hm
  exact ⟨_, _, rfl, .inl (.of h1), fun p hp => fin_lst xt hp hr q⟩
theorem cb_int {i : Int} : CbS K μ (fun xs H Q => (∃ i, xs = [.int i] ∧ Q (.int i) H) ∨ ∃ k, xs = [.bl k] ∧ Q (.int (if k then 1 else 0)) H) [.dat (.int i)] (fun s => s = .dat (.int i)) := .val fun P H xs Q xt m rs q => by
  obtain ⟨v, rfl, r⟩ := one_of rs
  cases r
  exact .inl ⟨i, rfl, q _ rfl⟩
end
end DL
namespace DL
open PySem PySem.Spec PyProof.Rows L2
/-! ### comprehensions -/
def wipeS (Γ : List Sl) : List Nat → List Sl
  | [] => Γ
  | v :: vs => (wipeS Γ vs).set v .un
theorem getElem?_wipe (σ : L2.St) (i : Nat) : ∀ vs : List Nat, (wipe σ vs)[i]? = if i ∈ vs then (if i < σ.length then some none else none) else σ[i]?
  | [] => by simp [wipe]
  | v :: vs => by
    have ih := getElem?_wipe σ i vs
    unfold wipe
    by_cases h : v = i
    · subst h
      rw [List.getElem?_set_self']
      simp only [List.mem_cons, true_or, if_true]
      rw [ih]
      by_cases hv : v ∈ vs
      · rw [if_pos hv]; split <;> rfl
      · rw [if_neg hv]
        by_cases hl : v < σ.length
        · rw [if_pos hl, List.getElem?_eq_getElem hl]; rfl
        · rw [if_neg hl, List.getElem?_eq_none (Nat.le_of_not_lt hl)]; rfl
    · rw [List.getElem?_set_ne h, ih]
      have e : i ∈ v :: vs ↔ i ∈ vs := by simp [List.mem_cons, Ne.symm h]
      simp only [e]
theorem wipe_same {σ σ' : L2.St} {vs : List Nat} (hl : σ'.length = σ.length) (h : ∀ i, i ∉ vs → σ'[i]? = σ[i]?) : wipe σ' vs = wipe σ vs := by
  apply List.ext_getElem?
  intro i
  rw [getElem?_wipe, getElem?_wipe, hl]
  by_cases e : i ∈ vs
  · rw [if_pos e, if_pos e]
  · rw [if_neg e, if_neg e, h i e]
section
variable {K : PySem.W.Frag} {P H : Hp} {Γ Γ' : List Sl} {μ μ' : Mem} {te ta tb tk : TE} {tt : TT} {g : TG} {wi : TI} {R : Sl → Prop} {d : Dat} {s : Sl} {ds es : List Dat} {σ : L2.St}
theorem EnvOk.wipe (h : EnvOk K P σ Γ) : ∀ vs : List Nat, EnvOk K P (L2.wipe σ vs) (wipeS Γ vs)
  | [] => h
  | v :: vs => (EnvOk.wipe h vs).setO v trivial
/-- what is being made at D, apart from all -/
theorem StOk.apart (m : StOk K P H μ) {D : Addr} (n : H D = none) : D ∉ adrs μ := fun z => by
  obtain ⟨p, hp, e⟩ := List.mem_map.mp z
  exact (m.1 p hp).2.there (e ▸ n)
theorem go_made {P1 H1 P2 H2 : Hp} {D : Addr} {o : HO} (m1 : StOk K P1 H1 μ) (n1 : H1 D = none) (n2 : P2 D = none) (g : Go K P1 H1 μ P2 H2 μ) : Go K P1 H1 μ P2 (upd H2 D o) μ := by
  have st : Stp [D] P2 H2 P2 (upd H2 D o) := .set g.ph n2 List.mem_cons_self
  have hD := m1.apart n1
  exact ⟨g.stp.trans st (fun a ha => .inr (by rw [List.mem_singleton.mp ha]; exact n1)), g.ok.kept st (fun a ha z => hD (by rw [← List.mem_singleton.mp z]; exact ha)), g.new⟩
/-- it is made -/
theorem go_end {P1 H1 P2 H2 : Hp} {D : Addr} {o : HO} (m1 : StOk K P1 H1 μ) (n1 : H1 D = none) (n2 : P2 D = none) (h2 : H2 D = some o) (g : Go K P1 H1 μ P2 H2 μ) : Go K P1 H1 μ (upd P2 D o) H2 μ := by
  have st : Stp [D] P2 H2 (upd P2 D o) H2 := .freeze g.ph h2 n2 List.mem_cons_self
  have hD := m1.apart n1
  exact ⟨g.stp.trans st (fun a ha => .inr (by rw [List.mem_singleton.mp ha]; exact n1)), g.ok.kept st (fun a ha z => hD (by rw [← List.mem_singleton.mp z]; exact ha)), g.new⟩
theorem Go.keepD {P1 H1 P2 H2 : Hp} {D : Addr} {o : HO} (g : Go K P1 H1 μ P2 H2 μ') (hD : D ∉ adrs μ) (n1 : P1 D = none) (h1 : H1 D = some o) : P2 D = none ∧ H2 D = some o :=
  ⟨g.stp.keepNone hD n1 (by rw [h1]; exact nofun), g.stp.hh D o hD h1⟩
theorem ev_lc {α : Type} {xs : List α} {φ : α → Dat} {vs tg : List Nat} {Wt : Mem → Prop} (hi : EvI K wi Γ μ Wt (fun z => z = xs.map φ)) (hWt : Wt μ) (p : α → Bool) (f : α → Dat) (htg : ∀ i ∈ tg, i ∈ vs) (hz : xs.length ≤ 1000000)
    (hb : ∀ a ∈ xs, ∃ Γ2, GA K g tg (φ a) (wipeS Γ vs) Γ2 ∧ EvB K tt Γ2 μ (p a) ∧ (p a = true → EvD K te Γ2 μ (f a))) : EvD K (tLc wi g tt te vs) Γ μ (.lst ((xs.filter p).map f)) := fun σ P H e x m Q q =>
  hi σ P H e x m _ fun J P1 H1 ds g1 hds Y D hD => by
    subst hds
    have hDm := g1.ok.apart hD
    refine ⟨fun i k H' => k = xs.length - i ∧ i ≤ xs.length ∧ ∃ P' acc, Go K P1 H1 μ P' H' μ ∧ P' D = none ∧ H' D = some (.lst acc) ∧ RpA K P' acc (((xs.take i).filter p).map f),
      ⟨_, rfl, Nat.zero_le _, P1, [], go_made g1.ok hD (g1.ph.none_of hD) (.refl g1.ph g1.ok), g1.ph.none_of hD, upd_same, .nil⟩, fun i k H' z => ?_⟩
    obtain ⟨hk, hle, P2, acc, g2, n2, h2, ra⟩ := z
    have Yi := Y i P2 H' g2.ph ⟨g2.pp, μ, g2.ok, hWt⟩
    have hlm : (xs.map φ).length = xs.length := List.length_map _
    by_cases hlt : i < xs.length
    · have hxi : xs[i]? = some xs[i] := List.getElem?_eq_getElem hlt
      have hdi : (xs.map φ)[i]? = some (φ xs[i]) := by rw [List.getElem?_map, hxi]; rfl
      have htk : xs.take (i + 1) = xs.take i ++ [xs[i]] := by rw [List.take_add_one, hxi]; rfl
      obtain ⟨go, y⟩ := Yi.1 _ hdi
      refine .inr ⟨go, fun H3 => ∃ P' acc, Go K P1 H1 μ P' H3 μ ∧ P' D = none ∧ H3 D = some (.lst acc) ∧ RpA K P' acc (((xs.take (i + 1)).filter p).map f), fun H3 z => ⟨xs.length - (i + 1), by omega, rfl, hlt, z⟩, fun x3 H3 hy => ?_⟩
      obtain ⟨P3, st, rx⟩ := y x3 H3 hy
      have g3 : Go K P2 H' μ P3 H3 μ := .of0 st g2.ok
      obtain ⟨n3, h3⟩ := g3.keepD hDm n2 h2
      obtain ⟨Γ2, hg, ht, hf⟩ := hb xs[i] (List.getElem_mem hlt)
      have e3 : EnvOk K P3 (L2.wipe σ vs) (wipeS Γ vs) := EnvOk.wipe (e.mono (g1.pp.tr (g2.pp.tr g3.pp))) vs
      refine hg _ P3 H3 x3 e3 g3.ph rx _ fun σ4 e4 k4 => ⟨?_, ?_⟩
      · have hl4 : σ4.length = σ.length := by rw [k4.1, wipe_length]
        refine wipe_same hl4 fun i hi => ?_
        rw [k4.2 i (fun z => hi (htg i z)), getElem?_wipe, if_neg hi]
      · refine ht σ4 P3 H3 e4 g3.ph g3.ok _ fun b P4 H4 g4 hbv => ?_
        subst hbv
        obtain ⟨n4, h4⟩ := g4.keepD hDm n3 h3
        have g14 := g2.trans (g3.trans g4)
        by_cases hp : p xs[i] = true
        · rw [if_pos hp]
          refine hf hp σ4 P4 H4 (e4.mono g4.pp) g4.ph g4.ok _ fun v P5 H5 s g5 rv hs => ?_
          subst hs
          obtain ⟨n5, h5⟩ := g5.keepD hDm n4 h4
          have g15 := g14.trans g5
          have r5 : RpA K P5 acc (((xs.take i).filter p).map f) := ra.mono (g3.pp.tr (g4.pp.tr g5.pp))
          refine ⟨acc, h5, ?_, P5, acc ++ [v], go_made g1.ok hD n5 g15, n5, upd_same, ?_⟩
          · rw [ra.length, List.length_map]
            refine Nat.lt_of_le_of_lt (Nat.le_trans (List.length_filter_le _ _) (Nat.le_trans (List.length_take_le _ _) (Nat.le_trans hle hz))) (by decide)
          · rw [htk, List.filter_append, List.map_append]
            refine r5.append ?_
            simp only [List.filter_cons, hp, if_true, List.filter_nil, List.map_cons, List.map_nil]
            exact .one rv
        · have hp' : p xs[i] = false := by simpa using hp
          rw [if_neg hp]
          refine ⟨P4, acc, g14, n4, h4, ?_⟩
          rw [htk, List.filter_append, List.map_append]
          simp only [List.filter_cons, hp', List.filter_nil, List.map_nil, List.append_nil, Bool.false_eq_true, if_false]
          exact ra.mono (g3.pp.tr g4.pp)
    · have hi' : i = xs.length := by omega
      refine .inl ⟨Yi.2 (by omega), ?_⟩
      rw [hi', List.take_length] at ra
      have ge := go_end g1.ok hD n2 h2 g2
      exact q (.ref D) _ _ (.dat (.lst ((xs.filter p).map f))) (g1.trans ge) (Rp.lst upd_same (ra.mono (Ext.put n2))) rfl
end
end DL
namespace DL
open PySem PySem.Spec PyProof.Rows L2
section
variable {K : PySem.W.Frag} {Pg : Program} {w : World} {mg : Str → Option Value} {base : Heap} {P H : Hp}
theorem envOk_none : ∀ n : Nat, EnvOk K P (List.replicate n none) (List.replicate n .un)
  | 0 => trivial
  | n + 1 => ⟨trivial, envOk_none n⟩
theorem envOk_start {vs : List V} {ss : List Sl} (n : Nat) : RelSs K P vs ss → EnvOk K P (vs.map some ++ List.replicate n none) (ss ++ List.replicate n .un) := by
  induction vs generalizing ss with
  | nil =>
    intro r
    cases ss with
    | nil => exact envOk_none n
    | cons => exact r.elim
  | cons v vs ih =>
    intro r
    cases ss with
    | nil => exact r.elim
    | cons s ss => exact ⟨.of r.1, ih r.2⟩
/-- a def keeps its promise, by its body's reading -/
theorem fn_sw {x qual : Str} {params : Arguments} {body : List Stmt} {scope : Scope} {f : Addr} {fd : FuncData} {N ps : List Str} {k : Nat} {pre : List Sl → Mem → (Sl → Mem → Prop) → Prop} (F : FunD K x qual params body scope [] [] f fd) (S : FnScope N ps scope)
    (hl : ∀ ss μ R, pre ss μ R → ss.length = ps.length)
    (hb : ∀ (cdv : Value) (A : Around) (outer : List Env) (s : Shared) (H : Hp) (E : XK), Room k (A.deeper (envOfC qual scope s.heap.objs.size f cdv)) →
      ∃ t, PSs (cxOf CX0 Pg w K mg base N qual scope f cdv A outer s H E).nox body t ∧ ∀ ss μ R, pre ss μ R → SW K t (ss ++ List.replicate (N.length - ss.length) .un) μ { nx := fun _ μ' => R (.dat .non) μ', rt := R }) :
    FnOk Pg w K mg base CX0 (k + 1) f fd ps (spD K pre) := by
  refine F.ok S (fun vs H Q E h => ?_) (fun cdv A outer s H vs Q E hr h => ?_)
  · obtain ⟨P, μ, ss, R, _, _, r, hp, _⟩ := h
    rw [r.len]; exact hl ss μ R hp
  · obtain ⟨P, μ, ss, R, xt, m, r, hp, q⟩ := h
    obtain ⟨t, ht, hs⟩ := hb cdv A outer s H E hr
    refine ⟨t, ht.nox, hs ss μ R hp (L2.start N vs) P H ?_ xt m _ (fun σ' P' H' Γ' μ' g e z => ?_) (fun v P' H' s μ' g rv z => q v P' H' s μ' g rv z) (fun _ _ _ _ _ _ _ z => z.elim) fun _ _ _ _ _ _ _ z => z.elim⟩
    · unfold L2.start
      rw [r.len]
      exact envOk_start _ r
    · exact q .non P' H' (.dat .non) μ' g Rp.non z
/-- plain promises: on data f, where C holds -/
def preF (C : List Dat → Prop) (f : List Dat → Dat) : List Sl → Mem → (Sl → Mem → Prop) → Prop := fun ss μ R => ∃ ds, ss = ds.map .dat ∧ C ds ∧ ∀ μ', μ' = μ → R (.dat (f ds)) μ'
end
/-! ### further operations -/
section
variable {K : PySem.W.Frag} {P H : Hp} {Γ Γ' : List Sl} {μ μ' : Mem} {te ta tb tk to : TE} {tt : TT} {g : TG} {R : Sl → Prop} {RM : Sl → Mem → Prop} {d : Dat} {s : Sl} {ds es : List Dat} {O : Ou}
/-! slices -/
def EvO (K : PySem.W.Frag) (t : TO) (Γ : List Sl) (μ : Mem) (Rn : Option Int → Prop) : Prop := ∀ (σ : L2.St) (P H : Hp), EnvOk K P σ Γ → Ext P H → StOk K P H μ → ∀ Q : Option Int → Hp → Prop,
  (∀ o P' H', Go K P H μ P' H' μ → Rn o → Q o H') → t σ H Q
theorem eo_none : EvO K tNoPart Γ μ (fun o => o = none) := fun σ P H e x m Q q => q none P H (.refl x m) rfl
theorem eo_some {i : Int} (h : EvD K te Γ μ (.int i)) : EvO K (tPart te) Γ μ (fun o => o = some i) := fun σ P H e x m Q q =>
  h σ P H e x m _ fun v P' H' s g r hs => by
    subst hs; cases r
    exact ⟨i, rfl, q _ P' H' g rfl⟩
def cutD (ds : List Dat) (lo hi : Option Int) : List Dat := (ds.drop (HT.sIx ds.length 0 lo)).take (HT.sIx ds.length ds.length hi - HT.sIx ds.length 0 lo)
theorem RpA.cut {xs : List V} (r : RpA K P xs ds) (lo hi : Option Int) : RpA K P (cutV xs lo hi) (cutD ds lo hi) := by
  unfold cutV cutD
  rw [r.length]
  exact (r.drop _).take _
theorem ev_slL {tl th : TO} {lo hi : Option Int} (h : EvD K te Γ μ (.lst ds)) (h1 : EvO K tl Γ μ (fun o => o = lo)) (h2 : EvO K th Γ μ (fun o => o = hi)) : EvD K (tSl (rSlL K) te tl th) Γ μ (.lst (cutD ds lo hi)) := fun σ P H e x m Q q =>
  h σ P H e x m _ fun v P1 H1 s g1 r1 hs => h1 σ P1 H1 (e.mono g1.pp) g1.ph g1.ok _ fun o P2 H2 g2 ho => h2 σ P2 H2 (e.mono (g1.pp.tr g2.pp)) g2.ph g2.ok _ fun o' P3 H3 g3 ho' => by
    subst hs; subst ho; subst ho'
    have r3 : Rp K P3 v (.lst ds) := RelS.mono (s := .dat (.lst ds)) (g2.pp.tr g3.pp) r1
    cases r3 with
    | lst hl ra => exact ⟨_, _, rfl, .of (g3.ph _ _ hl), fun p hp => fin_lst g3.ph hp (ra.cut o o') fun v P' H' s st r hs => q v P' H' s ((g1.trans (g2.trans g3)).trans (.of0 st g3.ok)) r hs⟩
theorem ev_slS {tl th : TO} {lo hi : Option Int} {l : List Nat} (h : EvD K te Γ μ (tx l)) (hz : l.length ≤ 1000000) (h1 : EvO K tl Γ μ (fun o => o = lo)) (h2 : EvO K th Γ μ (fun o => o = hi)) :
    EvD K (tSl rSlS te tl th) Γ μ (tx ((l.drop (HT.sIx l.length 0 lo)).take (HT.sIx l.length l.length hi - HT.sIx l.length 0 lo))) := fun σ P H e x m Q q =>
  h σ P H e x m _ fun v P1 H1 s g1 r1 hs => h1 σ P1 H1 (e.mono g1.pp) g1.ph g1.ok _ fun o P2 H2 g2 ho => h2 σ P2 H2 (e.mono (g1.pp.tr g2.pp)) g2.ph g2.ok _ fun o' P3 H3 g3 ho' => by
    subst hs; subst ho; subst ho'
    have r3 : Rp K P3 v (tx l) := RelS.mono (s := .dat (tx l)) (g2.pp.tr g3.pp) r1
    cases r3
    refine ⟨_, rfl, by rw [len_tx]; exact Nat.le_trans hz (by decide), q _ P3 H3 _ (g1.trans (g2.trans g3)) (show RelS K P3 _ (.dat (tx _)) from ?_) rfl⟩
    have ec : cutS ⟨l.toArray⟩ o o' = ⟨((l.drop (HT.sIx l.length 0 o)).take (HT.sIx l.length l.length o' - HT.sIx l.length 0 o)).toArray⟩ := by
      unfold cutS
      rw [len_tx]
    rw [ec]
    exact Rp.str _
/-! texts joined: parts of one sign -/
theorem join_flat (ps : List (List Nat)) : TL.joinL [] ps = ps.flatten := by
  induction ps with
  | nil => rfl
  | cons p r ih =>
    cases r with
    | nil => simp [TL.joinL]
    | cons q r => simp only [TL.joinL, List.nil_append, ih, List.flatten_cons]
theorem join_chs (l : List Nat) : Txt.join ⟨#[]⟩ (l.map fun c => (⟨#[c]⟩ : Str)) = ⟨l.toArray⟩ := by
  rw [TL.join_eq]
  apply TL.ext_tl
  rw [TL.tl_join, TL.tl_mk]
  show TL.joinL [] _ = _
  rw [join_flat]
  induction l with
  | nil => rfl
  | cons c r ih => simp only [List.map_cons, List.flatten_cons] at ih ⊢; rw [ih]; rfl
def rJoin (K : PySem.W.Frag) : V → List V → Hp → VK → Prop := fun x xs H Q => ∃ a p, ∃ ys : List Str, x = .str a ∧ xs = [.ref p] ∧ (SqL K H p (ys.map V.str) ∨ SqT K H p (ys.map V.str)) ∧
  (ys.map (·.length)).sum + ys.length * a.length ≤ 16777216 ∧ Q (.str (Txt.join a ys)) H
theorem ev_join {l : List Nat} (h0 : EvD K to Γ μ (.str ⟨#[]⟩)) (h : EvD K te Γ μ (.lst (chs l))) (hz : l.length ≤ 1000000) : EvD K (tM1 (fun x xs H Q => ∃ a p, ∃ ys : List Str, x = .str a ∧ xs = [.ref p] ∧ (SqL K H p (ys.map V.str) ∨ SqT K H p (ys.map V.str)) ∧
    (ys.map (·.length)).sum + ys.length * a.length ≤ 16777216 ∧ Q (.str (Txt.join a ys)) H) to te) Γ μ (tx l) := fun σ P H e x m Q q => by
  refine h0 σ P H e x m _ fun v P1 H1 s g1 r1 hs => ?_
  subst hs; cases r1
  refine ⟨⟨_, rfl⟩, h σ P1 H1 (e.mono g1.pp) g1.ph g1.ok _ fun v P2 H2 s g2 r2 hs => ?_⟩
  subst hs
  cases r2 with
  | lst hl ra =>
    have e1 : chs l = (l.map fun c => (⟨#[c]⟩ : Str)).map Dat.str := by simp [chs]
    rw [e1] at ra
    have e2 := RpA.of_strs ra
    subst e2
    refine ⟨_, _, l.map fun c => (⟨#[c]⟩ : Str), rfl, rfl, .inl (.of (g2.ph _ _ hl)), ?_, ?_⟩
    · have e3 : ((l.map fun c => (⟨#[c]⟩ : Str)).map (·.length)).sum = l.length := by
        clear ra hl e1 hz h q
        induction l with
        | nil => rfl
        | cons c r ih => simp only [List.map_cons, List.sum_cons, List.length_cons] at ih ⊢; rw [ih]; show 1 + r.length = _; omega
      rw [e3]
      show l.length + _ * 0 ≤ _
      omega
    · rw [join_chs]
      exact q _ P2 H2 (.dat (tx l)) (g1.trans g2) (Rp.str _) rfl
end
end DL
namespace DL
open PySem PySem.Spec PyProof.Rows L2
/-! ### a def of the text as its callers take it -/
def Callee (Pg : Program) (w : World) (K : PySem.W.Frag) (mg : Str → Option Value) (base : Heap) (k : Nat) (x : Str) (ps : List Str) (sp : Sp) : Prop :=
  ∃ f fd, mg x = some (.ref f) ∧ PySem.W.keepIn K (.ref f) = true ∧ Binds K fd ps [] ∧ FnOk Pg w K mg base CX0 k f fd ps sp
def MCallee (Pg : Program) (w : World) (K : PySem.W.Frag) (mg : Str → Option Value) (base : Heap) (k : Nat) (C : Addr) (m : Str) (ps : List Str) (sp : Sp) : Prop :=
  Cls K C ∧ ∃ f fd, Meth K C m f ∧ Binds K fd ps [] ∧ FnOk Pg w K mg base CX0 k f fd ps sp
/-- a class, by its __init__ -/
def NCallee (Pg : Program) (w : World) (K : PySem.W.Frag) (mg : Str → Option Value) (base : Heap) (k : Nat) (x : Str) (C : Addr) (ps : List Str) (sp : Sp) : Prop :=
  ∃ f fd, mg x = some (.ref C) ∧ Mk K C f ∧ Binds K fd ps [] ∧ FnOk Pg w K mg base CX0 k f fd ps sp
section
variable {X : Cx} {j k : Nat} {C : Addr} {ps : List Str} {sp : Sp} {x m : Str} {p pos apos : Pos} {e o : Expr} {es : List Expr} {ta : TE} {t : TA}
theorem pe_callC (h : Callee X.prog X.w X.K X.mg X.base k x ps sp) (hr : Room j X.A) (hg : Gl X x) (ha : PA X (e :: es) t) (hj : k ≤ j := by decide)
    (hdb : (x == ("__debug__" : Str)) = false := by decide) (he : starEach (e :: es) X.env = (false, eval e X.env) :: starEach es X.env := by rfl) (hpl : (backTo pos (starEach es X.env)).any (·.1) = false := by rfl) :
    PE X (.Call (.Name x p) (e :: es) [] pos) (tCall sp [] E0 t) := by
  obtain ⟨f, fd, h1, h2, h3, h4⟩ := h
  exact pe_call h4 (hr.mono hj) hg h1 h2 h3 .nil pass0 ha hdb he hpl
theorem pe_methC {pl : Sem Bool} (ho : PE X o ta) (h : MCallee X.prog X.w X.K X.mg X.base k C m ps sp) (hr : Room j X.A) (ha : PA X (e :: es) t) (hj : k ≤ j := by decide)
    (hst : starEach (e :: es) X.env = (false, eval e X.env) :: starEach es X.env := by rfl) (hpl : (backTo pos (starEach es X.env)).any (·.1) = false := by rfl)
    (ht : eval (.Call (.Attribute o m apos) (e :: es) [] pos) X.env = (do let ov ← eval o X.env; standAt apos.atName; let (f, first) ← holding [ov] (getMethod ov m pl); callWith pos f first (backTo pos (starEach (e :: es) X.env)) (backToKw pos (keywordEach [] X.env))) := by rfl) :
    PE X (.Call (.Attribute o m apos) (e :: es) [] pos) (tMeth C m sp [] E0 ta t) := by
  obtain ⟨c, f, fd, h1, h3, h4⟩ := h
  exact pe_meth ho c h1 h4 (hr.mono hj) h3 .nil pass0 ha hst hpl ht
theorem pe_methC0 {pl : Sem Bool} (ho : PE X o ta) (h : MCallee X.prog X.w X.K X.mg X.base k C m ps sp) (hr : Room j X.A) (hj : k ≤ j := by decide)
    (ht : eval (.Call (.Attribute o m apos) [] [] pos) X.env = (do let ov ← eval o X.env; standAt apos.atName; let (f, first) ← holding [ov] (getMethod ov m pl); callWith pos f first (backTo pos (starEach [] X.env)) (backToKw pos (keywordEach [] X.env))) := by rfl) :
    PE X (.Call (.Attribute o m apos) [] [] pos) (tMeth C m sp [] E0 ta tNil) := by
  obtain ⟨c, f, fd, h1, h3, h4⟩ := h
  exact pe_meth0 ho c h1 h4 (hr.mono hj) h3 .nil pass0 ht
theorem pe_makeC (h : NCallee X.prog X.w X.K X.mg X.base k x C ps sp) (hr : Room j X.A) (hg : Gl X x) (ha : PA X (e :: es) t) (hj : k + 1 ≤ j := by decide)
    (hdb : (x == ("__debug__" : Str)) = false := by decide) (he : starEach (e :: es) X.env = (false, eval e X.env) :: starEach es X.env := by rfl) (hpl : (backTo pos (starEach es X.env)).any (·.1) = false := by rfl) :
    PE X (.Call (.Name x p) (e :: es) [] pos) (tMake C sp [] E0 t) := by
  obtain ⟨f, fd, h1, h2, h3, h4⟩ := h
  exact pe_make h2 h4 (hr.mono hj) hg h1 h3 .nil pass0 ha hdb he hpl
end
/-! ### the rules with the written part named -/
section
variable {X : Cx} (K : PySem.W.Frag)
theorem ix_seqK (h : X.K = K := by rfl) : IxR X (rIx K) := h ▸ ix_seq
theorem ix_kdictK (w : World) (h : X.K = K := by rfl) (h2 : X.w = w := by rfl) : IxR X (rIxD K w) := h ▸ h2 ▸ ix_kdict
theorem op_in_seqK (h : X.K = K := by rfl) : OpR X (compareOp .In) (rIn K false) := h ▸ op_in_seq
theorem op_notIn_seqK (h : X.K = K := by rfl) : OpR X (compareOp .NotIn) (rIn K true) := h ▸ op_notIn_seq
theorem op_catTK (h : X.K = K := by rfl) : OpR X (binaryOp .Add) (rCatA K) := h ▸ op_catA
abbrev rLen (K : PySem.W.Frag) : List V → Hp → VK → Prop := fun xs H Q => ∃ x n, xs = [x] ∧ LenV K x H n ∧ Q (.int n) H
theorem call_lenK (h : X.K = K := by rfl) : CallR X (.builtin "len") (rLen K) := by subst h; exact call_len
theorem cr_allK (h : X.K = K := by rfl) (hc : X.calm = true := by rfl) : CallR X (.builtin "all") (rAll K) := by subst h; exact cr_all hc
theorem cr_anyK (h : X.K = K := by rfl) (hc : X.calm = true := by rfl) : CallR X (.builtin "any") (rAny K) := by subst h; exact cr_any hc
theorem cr_sumK (h : X.K = K := by rfl) (hc : X.calm = true := by rfl) : CallR X (.builtin "sum") (rSum K) := by subst h; exact cr_sum hc
theorem cr_minK (h : X.K = K := by rfl) (hc : X.calm = true := by rfl) : CallR X (.builtin "min") (rMin K) := by subst h; exact cr_min hc
theorem cr_sortedSK (h : X.K = K := by rfl) : CallR X (.builtin "sorted") (rSortedS K) := by subst h; exact cr_sortedS
abbrev rTupOf (K : PySem.W.Frag) : List V → Hp → VK → Prop := fun xs H Q => ∃ p ys, xs = [.ref p] ∧ ((SqL K H p ys ∧ ∀ l, H l = none → Q (.ref l) (upd H l (.tup ys))) ∨ (SqT K H p ys ∧ Q (.ref p) H))
theorem call_tuple_ofK (h : X.K = K := by rfl) : CallR X (.type "tuple") (rTupOf K) := by subst h; exact call_tuple_of
abbrev rLstOf (K : PySem.W.Frag) : List V → Hp → VK → Prop := fun xs H Q => ∃ p ys, xs = [.ref p] ∧ (SqL K H p ys ∨ SqT K H p ys) ∧ ∀ l, H l = none → Q (.ref l) (upd H l (.lst ys))
theorem call_list_ofK (h : X.K = K := by rfl) : CallR X (.type "list") (rLstOf K) := by subst h; exact call_list_of
theorem call_isiK' (h : X.K = K := by rfl) : CallR X (.builtin "isinstance") (rIsi K) := by subst h; exact call_isi
theorem call_isiTK (h : X.K = K := by rfl) : CallR X (.builtin "isinstance") (rIsiT K) := by subst h; exact call_isiT
theorem sl_listK (h : X.K = K := by rfl) : SlR X (rSlL K) := h ▸ sl_list
theorem sl_tupK (h : X.K = K := by rfl) : SlR X (rSlA K) := h ▸ sl_tupA
theorem pi_listK {tg l : Expr} {tl : TE} (hl : PE X l tl) (h : X.K = K := by rfl) : PI X tg l (iList K tl) := h ▸ pi_list hl
theorem pi_tupK {tg l : Expr} {tl : TE} (hl : PE X l tl) (h : X.K = K := by rfl) : PI X tg l (iTup K tl) := h ▸ pi_tup hl
theorem pi_enumK {e : Expr} {ta : TA} {p pos tpos : Pos} {elts : List Expr} {kk : Nat} (hg : Gl X "enumerate") (hm : X.mg "enumerate" = none) (ha : PA X [e] ta) (h : X.K = K := by rfl) (hs : starEach [e] X.env = [(false, eval e X.env)] := by rfl) :
    PI X (.Tuple elts kk tpos) (.Call (.Name "enumerate" p) [e] [] pos) (iEnum K ta) := by subst h; exact pi_enum hg hm ha hs
theorem pg_tupK {es : List Expr} {k : Nat} {pos : Pos} {t : TGs} (n : Nat) (h : PGs X es t) (hK : X.K = K := by rfl) (hc : X.calm = true := by rfl) (hn : (assignEach es X.env).length = n := by rfl) (hst : (assignEach es X.env).findIdx? (·.1) = none := by rfl) : PG X (.Tuple es k pos) (gTup K n t) := by
  subst hK; exact pg_tup hc h hn hst
theorem pt_truthK {a : Expr} {ta : TE} (ha : PE X a ta) (he : ∀ whole, isTrue a X.env whole = (do let v ← whole; standAt a.pos; holding [v] (truthy v)) := by intro _; rfl) (h : X.K = K := by rfl) : PT X a (tTruth K ta) := by subst h; exact pt_truth ha he
theorem pe_fldK {e : Expr} {f : Str} {pos : Pos} {ta : TE} (he : PE X e ta) (h : X.K = K := by rfl) (hb : attributeBase e f X.env (eval e X.env) = eval e X.env := by rfl) : PE X (.Attribute e f pos) (tFld K ta f) := by subst h; exact pe_fld he hb
theorem ps_fldK {o value : Expr} {f : Str} {pos pos' : Pos} {ta tv : TE} (ha : PE X o ta) (hv : PE X value tv) (h : X.K = K := by rfl) (hs : swapsWith value (some (.Attribute o f pos')) pos.line X.env = pure false := by rfl) : PS X (.Assign [.Attribute o f pos'] value pos) (sFld K ta tv f) := by subst h; exact ps_fld ha hv hs
abbrev rJn (K : PySem.W.Frag) : V → List V → Hp → VK → Prop := fun x xs H Q => ∃ a p, ∃ ys : List Str, x = .str a ∧ xs = [.ref p] ∧ (SqL K H p (ys.map V.str) ∨ SqT K H p (ys.map V.str)) ∧ (ys.map (·.length)).sum + ys.length * a.length ≤ 16777216 ∧ Q (.str (Txt.join a ys)) H
theorem pe_joinK {o e : Expr} {to te : TE} {apos pos : Pos} (ho : PE X o to) (he : PE X e te) (h : X.K = K := by rfl) (hs : starEach [e] X.env = [(false, eval e X.env)] := by rfl) (hbase : attributeBase o "join" X.env (eval o X.env) = eval o X.env := by rfl) (hline : (apos.endLine == pos.line) = true := by rfl) :
    PE X (.Call (.Attribute o "join" apos) [e] [] pos) (tM1 (rJn K) to te) := by subst h; exact pe_join ho he hs hbase hline
theorem pe_appendK {o e : Expr} {to : TE} {t : TA} {apos pos : Pos} (ho : PE X o to) (ha : PA X [e] t) (h : X.K = K := by rfl) (hbase : attributeBase o "append" X.env (eval o X.env) = eval o X.env := by rfl)
    (hfew : ((backTo pos (starEach [e] X.env)).all (fun x => !x.1) && (backToKw pos (keywordEach [] X.env)).all (fun x => x.1.isSome) && decide (([e] : List Expr).length + ([] : List Keyword).length + (if ([] : List Keyword).isEmpty then 0 else 1) < 30)) = true := by rfl)
    (hline : (apos.endLine == pos.line) = true := by rfl) (hs : starEach [e] X.env = (false, eval e X.env) :: starEach [] X.env := by rfl) (hplain : (backTo pos (starEach [] X.env)).any (·.1) = false := by rfl) :
    PE X (.Call (.Attribute o "append" apos) [e] [] pos) (tBM K "list" rAppend to t) := by
  subst h; exact pe_bm PySem.F.plainAttrs_list PySem.F.slot_list_append PySem.F.type_list_append mt_append ho ha hbase hfew hline hs hplain
theorem pe_popK {o : Expr} {to : TE} {apos pos : Pos} (ho : PE X o to) (h : X.K = K := by rfl) (hbase : attributeBase o "pop" X.env (eval o X.env) = eval o X.env := by rfl) (hline : (apos.endLine == pos.line) = true := by rfl) :
    PE X (.Call (.Attribute o "pop" apos) [] [] pos) (tBM0 K "list" rPop to) := by
  subst h; exact pe_bm0 PySem.F.plainAttrs_list PySem.F.slot_list_pop PySem.F.type_list_pop mt_pop ho hbase hline
theorem pe_popAtK {o e : Expr} {to : TE} {t : TA} {apos pos : Pos} (ho : PE X o to) (ha : PA X [e] t) (h : X.K = K := by rfl) (hbase : attributeBase o "pop" X.env (eval o X.env) = eval o X.env := by rfl)
    (hfew : ((backTo pos (starEach [e] X.env)).all (fun x => !x.1) && (backToKw pos (keywordEach [] X.env)).all (fun x => x.1.isSome) && decide (([e] : List Expr).length + ([] : List Keyword).length + (if ([] : List Keyword).isEmpty then 0 else 1) < 30)) = true := by rfl)
    (hline : (apos.endLine == pos.line) = true := by rfl) (hs : starEach [e] X.env = (false, eval e X.env) :: starEach [] X.env := by rfl) (hplain : (backTo pos (starEach [] X.env)).any (·.1) = false := by rfl) :
    PE X (.Call (.Attribute o "pop" apos) [e] [] pos) (tBM K "list" rPopAt to t) := by
  subst h; exact pe_bm PySem.F.plainAttrs_list PySem.F.slot_list_pop PySem.F.type_list_pop mt_popAt ho ha hbase hfew hline hs hplain
end
/-- name = {k: v for ..} on one line, the name a local -/
theorem ps_setDc {X : Cx} {i : Nat} {y : Str} {py : Pos} {kx vx tg iter : Expr} {ifs : List Expr} {scope : Scope} {own : List (Str × Nat)} {pos spos : Pos} {wi : TI} {g : TG} {tt : TT} {tk tv : TE} (hc : X.calm = true) (hN : X.N.Nodup) (hy : X.N[i]? = some y) (hyl : X.env.scope.names.lookup y = some .local)
    (hsw : swapsWith (.DictComp kx vx [⟨tg, iter, ifs, 0⟩] scope pos) (some (.Name y py)) spos.line X.env = pure true) (hi : PI X tg iter wi) (ok : BlkOk X.N X.env.scope scope own)
    (hg : ∀ s H C cl fp, PG (X.blk s H scope (compEnvC scope cl C X.env) fp) tg g) (ht : ∀ s H C cl fp, PTs (X.blk s H scope (compEnvC scope cl C X.env) fp) ifs tt)
    (hk : ∀ s H C cl fp, PE (X.blk s H scope (compEnvC scope cl C X.env) fp) kx tk) (he : ∀ s H C cl fp, PE (X.blk s H scope (compEnvC scope cl C X.env) fp) vx tv) (hs : ∀ x, foldedSetIterable iter X.env x = pure x := by intro _; rfl) :
    PS X (.Assign [.Name y py] (.DictComp kx vx [⟨tg, iter, ifs, 0⟩] scope pos) spos) (tAsg (tDc wi g tt tk tv (own.map (·.2))) (gName i)) := by
  constructor
  intro pins s σ H D I h
  rw [exec_Assign_Name_used _ _ _ _ hsw]
  apply wpAny_bind; apply wpAny_standAt; apply wpAny_bind
  show wpAny _ X.A (do let _ ← comprehension (.DictComp kx vx [⟨tg, iter, ifs, 0⟩] scope pos) scope X.env (firstIterPos [⟨tg, iter, ifs, 0⟩] pos) newDict false (eval iter X.env) (some (assign (.Name y py) X.env))) _ _ s
  have h : tDc wi g tt tk tv (own.map (·.2)) σ H (fun x H1 => gName i x σ H1 D.nx) := h
  apply wpAny_bind
  refine thn (dc_core (Qf := fun _ z => SP X pins D .next z) hc hN I hi ok hg ht hk he hs h fun L C s1 m H1 I1 q hn f => ?_) fun _ z hq => wpAny_pure (wpAny_pure hq)
  show wpAny _ _ (assign (.Name y py) X.env (.ref L)) _ _ _
  apply wpAny_assign_Name
  refine store_ok2 (v := V.ref L) I1 hN hy (.inl hyl) rfl (fun s2 I2 ⟨a, sb, ha⟩ => ?_) (.inr hyl)
  have haC : C ≠ a := fun e => ha.elim (fun z => f.2.1 (e.trans z)) fun z => f.2.2.2.2.1 y a z e.symm
  exact ⟨m, hn.sameBut sb haC, fun h3 sb3 => ⟨_, H1, I2.turned (t' := s2.toks) (fun b o hb e => (sb3.2 b hb).trans e) f.1 f.2.1 f.2.2.2.1 f.2.2.2.2.1 f.2.2.2.2.2, q⟩⟩
theorem sw_trueD {kx vx : Expr} {gs : List Comprehension} {scope : Scope} {pos py : Pos} {y : Str} {l : Nat} {env : Env} (hk : env.scope.kind = .function) (hy : env.scope.names.lookup y = some .local) (hl : (py.line == pos.line) = true)
    (ha : (scope.names.any fun (n, k) => n == y && (k == .local || k == .cell)) = false) : swapsWith (.DictComp kx vx gs scope pos) (some (.Name y py)) l env = pure true := by
  have e := sw_true (elt := kx) (gs := gs) (l := l) (pos := pos) hk hy hl ha
  exact e
end DL
namespace DL
open PySem PySem.Spec PyProof.Rows L2 PySem.W
/-- a text's key: (its length, itself) -/
def kdat (x : Str) : PyData := .tuple [.int x.length, .str x]
def leK : Str → Str → Bool := dataLe false kdat
/-- a call of f with a text keeps all and gives its key -/
def KeyFn (Pg : Program) (w : World) (K : Frag) (mg : Str → Option Value) (f : Addr) : Prop := ∀ (A : Around) (s : Shared) (x : Str) (t : Tok), K.In s.heap → s.heap.NoLimit → A.depth < recursionLimit → x.length ≤ sizeLine →
  s.heap.Ns mainGlobals mg → (∃ mb, s.heap.Ns builtinsNs mb ∧ ∀ z : Str, z ≠ "__name__" → mb z = bootBuiltins z) → wpAny (model Pg w) A (call (.ref f) [.str x t]) (KeyPure (kdat x) s) (fun _ _ => False) s
/-- def f(lot): return (len(lot), lot) -/
def keyBody (p1 p2 p3 p4 p5 p6 : Pos) (k : Nat) : List Stmt := [.Return (some (.Tuple [.Call (.Name "len" p1) [.Name "lot" p2] [] p3, .Name "lot" p4] k p5)) p6]
theorem key_call {Pg : Program} {w : World} {K : Frag} {mg : Str → Option Value} {f : Addr} {fd : FuncData} {x qual : Str} {params : Arguments} {scope : Scope} {p1 p2 p3 p4 p5 p6 : Pos} {k : Nat}
    (F : FunD K x qual params (keyBody p1 p2 p3 p4 p5 p6 k) scope [] [] f fd) (hb : ∀ (kV doc pm : Value) (an : Option Addr) (cdv ct u : Value), bindArgs (fnOf x qual params (keyBody p1 p2 p3 p4 p5 p6 k) scope .none kV doc pm an cdv ct) ⟨[u], []⟩ = pure [(("lot" : Str), u)])
    (hsc : scope.names.lookup ("lot" : Str) = some .local) (hlen : ∀ (n : Nat) (c : Value), (envOfC qual scope n f c).kindOf "len" = some .globalImplicit) (hkind : scope.kind = .function) (hco : scope.isCoroutine = false) (hgen : scope.isGenerator = false) (m_len : mg "len" = none) : KeyFn Pg w K mg f := by
  intro A s z t X hlim hroom hz hg hblt
  obtain ⟨oc, od, dV, kV, doc, pm, an, cdv, ct, osl, rfl, ho, hcd, hd, _⟩ := F.ex
  have hdV : dV = .none := by
    rcases hd with ⟨_, h⟩ | ⟨h, _⟩
    · exact h
    · exact absurd rfl h
  subst hdV
  have hl : ∀ (n : Nat) (c : Value), (envOfC qual scope n f c).kindOf "lot" = some .local := fun n c => hsc
  refine wpAny_call ?_
  refine Att.call_fn (binds := [(("lot" : Str), .str z t)]) X hlim ho hcd hroom (BindsTo.of_eq (hb ..)) (by simp [hsc]) (fun s₁ IC => ?_) hco hgen hkind
  obtain ⟨h₁, tk₁, rfl⟩ := IC.toInCall.same
  have hk : ∀ b o, s.heap.get? b = some o → h₁.get? b = some o := IC.toInCall.keep
  have hn := IC.toInCall.ns
  have hv : bindL (envOfC qual scope s.heap.objs.size f cdv).kindOf [(("lot" : Str), .str z t)] (fun _ => none) "lot" = some (.str z t) := bindL_get (P := [("lot" : Str)]) (vs := [.str z t]) (i := 0) (by simp) rfl rfl (hl _ _)
  -- the frame's name, the built-in
  have ld : ∀ {tk : Nat} {Q : Value → Shared → Prop} {E' : Value → Shared → Prop} {pos : Pos} {A' : Around}, Q (.str z t) { s with heap := h₁, toks := tk } → wpAny (model Pg w) A' (eval (.Name "lot" pos) (envOfC qual scope s.heap.objs.size f cdv)) Q E' { s with heap := h₁, toks := tk } := fun {tk Q E' pos A'} q =>
    wpAny_Name (wpAny_loadName_local hkind (hl _ _) hn hv q) (by decide)
  refine wpAny_execs_cons (wpAny_Return_some (wpAny_Tuple_spliced ?_))
  refine Calls.spliced_cons ?_
  obtain ⟨mb, b1, b2⟩ := hblt
  have hs63 : ¬ ((z.length : Nat) : Int) ≥ 2 ^ 63 := by
    have h1 : sizeLine = 16777216 := sizeLine_eq
    omega
  refine wpAny_Call_Name_kw (Calls.Name_function_global hkind (hlen _ _) (Calls.loadGlobal_builtin (hg.keeps hk) m_len (b1.keeps hk) ((b2 "len" (by decide)).trans boot_len) ?_) (by decide))
  refine PyProof.Rows.callWith_builtin1 (Calls.spliced_cons (ld (Calls.spliced_nil ?_))) rfl rfl
  refine PySem.P.len_str hs63 ?_
  refine Calls.spliced_cons (ld (Calls.spliced_nil ⟨(show 2 ≤ sizeLine by decide), ?_⟩))
  refine ⟨_, _, rfl, fun b o e => Heap.get?_push_of_some _ (hk b o e), ?_⟩
  exact Reads.tuple (as := []) (Heap.get?_push_size _ rfl) rfl rfl (.cons (as := []) (bs := []) (.int _ _) (.cons (as := []) (bs := []) (.str _ _) .nil))
/-! ### sorted(texts, key=f) -/
theorem leK_total : TotalLe leK := sortLe_total (listOrd itemOrd) false fun b => keyToks (kdat b)
theorem leK_len {a b : Str} (h : leK a b = true) : a.length ≤ b.length := by
  refine Classical.byContradiction fun c => ?_
  have hlt : (b.length : Int) < (a.length : Int) := by omega
  have e : leK a b = !(PyProof.Rows.lexLt itemOrd (keyToks (kdat b)) (keyToks (kdat a))) := rfl
  rw [e] at h
  have : PyProof.Rows.lexLt itemOrd (keyToks (kdat b)) (keyToks (kdat a)) = true := by
    simp [kdat, keyToks, keyToksAll, PyProof.Rows.lexLt, itemLt, hlt]
  rw [this] at h
  cases h
def rSortK (K : Frag) (f : Addr) : List V → List V → Hp → VK → Prop := fun vs zs H Q => ∃ (a : Addr) (xs : List Str), vs = [V.ref a] ∧ zs = [V.ref f] ∧ SqL K H a (xs.map V.str) ∧ (∀ x ∈ xs, x.length ≤ sizeLine) ∧ ∀ p, H p = none → Q (.ref p) (upd H p (.lst ((xs.mergeSort leK).map V.str)))
theorem each_vals : ∀ {xs : List Str} {us : List Value}, Vals (xs.map V.str) us → EachIs (fun v x => ∃ t, v = Value.str x t) us xs
  | [], _, r => by cases r; exact .nil
  | x :: xs, _, r => by
    cases r with
    | cons r1 r2 => exact .cons r1 (each_vals r2)
theorem vals_each : ∀ {xs : List Str} {us : List Value}, EachIs (fun v x => ∃ t, v = Value.str x t) us xs → Vals (xs.map V.str) us
  | [], _, r => by cases r; exact .nil
  | x :: xs, _, r => by
    cases r with
    | cons r1 r2 => exact .cons r1 (vals_each r2)
theorem cr_sortedK {X : Cx} {f : Addr} {k : Nat} (hr : Room (k + 1) X.A) (hf : KeyFn X.prog X.w X.K X.mg f) : CallRK X (.builtin "sorted") [Str.ofString "key"] (rSortK X.K f) := by
  intro pins s σ H vs zs us ws Q I r rz h
  obtain ⟨a, xs, rfl, rfl, hs, hlen, q⟩ := h
  obtain ⟨its, rv, hl, hsz⟩ := I.list hs
  rw [Vals.ref1 r, Vals.ref1 rz]
  have hxl : xs.length = its.length := by rw [← rv.length, List.length_map]
  have hx : xs.length ≤ sizeLine := by rw [List.length_map] at hsz; exact hsz
  refine sorted_key_data (b := false) (f := .ref f) (R := fun v x => ∃ t, v = Value.str x t) kdat hl.isList (each_vals rv) (fun d hd d' hd' => ?_) (.inl fun d hd => ?_) hx (fun x _ => ?_) (ksk_s1 _ _) (fun _ => ksk_l1 _ _) (fun _ => ksk_t1 _ _) (fun v x hv hxm h tk hk => ?_) (fun out c h' tk hk hn hD ho he => ?_)
  · obtain ⟨x, _, rfl⟩ := List.mem_map.mp hd
    obtain ⟨y, _, rfl⟩ := List.mem_map.mp hd'
    rfl
  · obtain ⟨x, _, rfl⟩ := List.mem_map.mp hd
    exact ⟨_, _, rfl⟩
  · have := hr.un
    have e2 : (kdat x).depth ≤ 3 := by simp [kdat, PyData.depth, PyData.depthAll]
    omega
  · obtain ⟨t, rfl⟩ := hv
    refine hf X.A.in1.in1 _ x t ?_ ?_ ?_ (hlen x hxm) ?_ ?_
    · exact I.kIn.keeps hk
    · exact I.nolimit.keeps hk
    · have := hr.dp
      show X.A.depth < recursionLimit
      omega
    · exact (I.mod.glob.keeps I.bk).keeps hk
    · obtain ⟨mb, b1, b2⟩ := I.mod.blt
      exact ⟨mb, (b1.keeps I.bk).keeps hk, b2⟩
  · have hz : ((xs.mergeSort leK).map V.str).length ≤ sizeLine := by rw [List.length_map, List.length_mergeSort]; exact hx
    exact ⟨.ref _, upd H (s.heap.objs.size + 1) (.lst ((xs.mergeSort leK).map V.str)), I.laid (t' := tk) hk (Nat.le_succ _) ⟨hz, out, c, vals_each he, hD⟩, rfl, q _ (I.hok.fresh (Nat.le_succ _))⟩
section
variable {X : Cx} (K : Frag)
theorem pe_sortedK {f : Addr} {j : Nat} {p pos kp kpos : Pos} {e : Expr} {es : List Expr} {t : TA} {x : Str} (hf : KeyFn X.prog X.w X.K X.mg f) (hx : X.mg x = some (.ref f)) (hr : Room j X.A) (hm : X.mg "sorted" = none) (ha : PA X (e :: es) t) (hK : X.K = K := by rfl) (hj : 1 ≤ j := by decide) (hg : Gl X "sorted" := by rfl) (hgx : Gl X x := by rfl)
    (hdx : (x == ("__debug__" : Str)) = false := by decide) (he : backTo pos (starEach (e :: es) X.env) = (false, eval e X.env) :: backTo pos (starEach es X.env) := by rfl) (hpl : (backTo pos (starEach (e :: es) X.env)).any (·.1) = false := by rfl) :
    PE X (.Call (.Name "sorted" p) (e :: es) [⟨some "key", .Name x kp, kpos⟩] pos) (tCKw (rSortK K f) t (tCons (tC (.ref f)) tNil)) := by
  subst hK
  have hr1 : Room (0 + 1) X.A := hr.mono hj
  exact pe_callBK (cr_sortedK hr1 hf) hg hm (by decide +kernel) ha (pk_cons (pe_glob hgx hx rfl hdx) pk_nil) (by decide) (by decide) he hpl rfl rfl rfl
end
section
variable {K : Frag} {Γ : List Sl} {μ : Mem} {ta : TA} {f : Addr}
/-- the lots in ascending order -/
theorem ev_sortK {xs : List Str} (h : EvAs K ta Γ μ [.dat (.lst (xs.map Dat.str))]) (hl : ∀ x ∈ xs, x.length ≤ 1000000) : EvD K (tCKw (rSortK K f) ta (tCons (tC (.ref f)) tNil)) Γ μ (.lst ((xs.mergeSort leK).map Dat.str)) := fun σ P H e x m Q q =>
  h σ P H e x m _ fun vs P1 H1 ss g1 r1 hs => by
    subst hs
    obtain ⟨v, rfl, r⟩ := one_of r1
    cases r with
    | lst h1 ra =>
      have e1 := RpA.of_strs ra
      subst e1
      exact ⟨_, xs, rfl, rfl, .of (g1.ph _ _ h1), fun x hx => Nat.le_trans (hl x hx) (by decide), fun p hp => fin_lst g1.ph hp (RpA.strs _) fun v P' H' s st r hs => q v P' H' s (g1.trans (.of0 st g1.ok)) r hs⟩
end
end DL
namespace DL
open PySem PySem.Spec PyProof.Rows L2
section
variable {K : PySem.W.Frag} {w : World} {P H : Hp} {Γ Γ' : List Sl} {μ μ' : Mem} {te ta tb tk tv to td ty : TE} {tt : TT} {t : TA} {g : TG} {R : Sl → Prop} {RM : Sl → Mem → Prop} {d : Dat} {s : Sl} {ds es : List Dat} {O : Ou} {i : Nat} {a l x : Addr} {C dx : Addr} {f : Str}
/-! ### fields -/
theorem ev_fldD {fs : List (Str × Dat)} (h : EvD K ta Γ μ (.ins C fs)) (hc : Cls K C) (hn : NoAttr K C f) (hl : fs.lookup f = some d) : EvD K (tFld K ta f) Γ μ d := fun σ P H e xt m Q q =>
  h σ P H e xt m _ fun v P1 H1 s g1 r1 hs => by
    subst hs
    cases r1 with
    | ins h1 rf =>
      obtain ⟨v, h2, h3⟩ := rf.look hl
      exact ⟨_, _, _, _, v, rfl, g1.ph _ _ h1, hc, hn, h2, q v P1 H1 (.dat d) g1 h3 rfl⟩
theorem ev_fldO {fs : List (Str × Sl)} (h : Ev K ta Γ μ (fun z => z = .adr a)) (hm : (a, Mu.mis C dx fs) ∈ μ) (hc : Cls K C) (hn : NoAttr K C f) (hl : fs.lookup f = some s) : Ev K (tFld K ta f) Γ μ (fun z => z = s) := fun σ P H e xt m Q q =>
  h σ P H e xt m _ fun v P1 H1 s' g1 r1 hs => by
    subst hs
    have r1' : v = .ref a := r1
    subst r1'
    obtain ⟨_, vs, h1, rf⟩ := g1.ok.get hm
    obtain ⟨v, h2, h3⟩ := rf.look hl
    exact ⟨a, C, dx, vs, v, rfl, h1, hc, hn, h2, q v P1 H1 s g1 h3 rfl⟩
/-! ### dicts -/
def keyD : Key → Dat
  | .inl i => .int i
  | .inr x => .str x
theorem rp_key {v : V} {k : Key} (r : Rp K P v (keyD k)) : v = kV k := by
  cases k <;> cases r <;> rfl
theorem ops_kd {z : Str} {n : Int} (h : KDct K w a z (.int n)) : OpS K μ (rIxD K w) (.adr a) (.dat (.str z)) (fun s => s = .dat (.int n)) := fun P H x y xt m ra rb Q q => by
  have ra' : x = .ref a := ra
  subst ra'
  have rb' : Rp K P y (.str z) := rb
  cases rb'
  exact ⟨a, z, .int n, rfl, rfl, h, q _ P H (.dat (.int n)) (.refl xt) (Rp.int n) rfl⟩
theorem ev_ref : Ev K (tC (.ref a)) Γ μ (fun z => z = .adr a) := ev_cV fun _ => rfl
theorem ev_dget {kvs : List (Key × Dat)} {k : Key} (hd : EvD K td Γ μ (.dct kvs)) (hk : EvD K ty Γ μ (keyD k)) (h : getD kvs k = some d) : EvD K (tDGet td ty) Γ μ d := fun σ P H e xt m Q q =>
  hd σ P H e xt m _ fun v1 P1 H1 s g1 r1 hs => hk σ P1 H1 (e.mono g1.pp) g1.ph g1.ok _ fun v2 P2 H2 s2 g2 r2 hs2 => by
    subst hs; subst hs2
    have r1' : Rp K P2 v1 (.dct kvs) := RelS.mono (s := .dat (.dct kvs)) g2.pp r1
    have e2 := rp_key r2
    subst e2
    cases r1' with
    | dct h1 rk =>
      rcases rk.get k with ⟨v, d', h3, h4, h5⟩ | ⟨_, h4⟩
      · rw [h] at h4; cases h4
        exact ⟨_, v, rfl, .inl ⟨_, k, .inl (g2.ph _ _ h1), rfl, h3.symm⟩, q v P2 H2 (.dat d) (g1.trans g2) h5 rfl⟩
      · rw [h] at h4; cases h4
theorem ev_dgetL {kvs : List (Key × Addr)} {k : Key} (hd : Ev K td Γ μ (fun z => z = .adr a)) (hm : (a, Mu.mdl kvs) ∈ μ) (hk : EvD K ty Γ μ (keyD k)) (h : kvs.find? (fun p => decide (p.1 = k)) = some (k, l)) : Ev K (tDGet td ty) Γ μ (fun z => z = .adr l) := fun σ P H e xt m Q q =>
  hd σ P H e xt m _ fun v1 P1 H1 s g1 r1 hs => hk σ P1 H1 (e.mono g1.pp) g1.ph g1.ok _ fun v2 P2 H2 s2 g2 r2 hs2 => by
    subst hs; subst hs2
    have r1' : v1 = .ref a := r1
    subst r1'
    have e2 := rp_key r2
    subst e2
    obtain ⟨_, h1⟩ := g2.ok.get hm
    have h1' : H2 a = some (.dK (kvs.map fun p => (p.1, V.ref p.2))) := h1
    refine ⟨a, .ref l, rfl, .inl ⟨_, k, .inl h1', rfl, ?_⟩, q _ P2 H2 (.adr l) (g1.trans g2) rfl rfl⟩
    unfold valV
    rw [List.find?_map]
    have e3 : ((fun kv : Key × V => decide (kv.1 = k)) ∘ fun p : Key × Addr => (p.1, V.ref p.2)) = fun p => decide (p.1 = k) := rfl
    rw [e3, h]
    rfl
theorem RpK.isSome {vs : List (Key × V)} {kvs : List (Key × Dat)} (rk : RpK K P vs kvs) (k : Key) : (valV vs k).isSome = (getD kvs k).isSome := by
  rcases rk.get k with ⟨v, d', h3, h4, h5⟩ | ⟨h3, h4⟩ <;> rw [h3, h4] <;> rfl
theorem ev_din {kvs : List (Key × Dat)} {k : Key} (hk : EvD K ty Γ μ (keyD k)) (hd : EvD K td Γ μ (.dct kvs)) : EvD K (tDIn ty td) Γ μ (.bl (getD kvs k).isSome) := fun σ P H e xt m Q q =>
  hk σ P H e xt m _ fun v1 P1 H1 s g1 r1 hs => hd σ P1 H1 (e.mono g1.pp) g1.ph g1.ok _ fun v2 P2 H2 s2 g2 r2 hs2 => by
    subst hs; subst hs2
    have e2 := rp_key r1
    subst e2
    cases r2 with
    | dct h1 rk =>
      refine ⟨_, valV _ k, rfl, .inl ⟨_, k, .inl (g2.ph _ _ h1), rfl, rfl⟩, ?_⟩
      rw [rk.isSome k]
      exact q _ P2 H2 (.dat (.bl _)) (g1.trans g2) (Rp.bl _) rfl
theorem ev_dnotin {kvs : List (Key × Dat)} {k : Key} (hk : EvD K ty Γ μ (keyD k)) (hd : EvD K td Γ μ (.dct kvs)) : EvD K (tDNotIn ty td) Γ μ (.bl (!(getD kvs k).isSome)) := fun σ P H e xt m Q q =>
  hk σ P H e xt m _ fun v1 P1 H1 s g1 r1 hs => hd σ P1 H1 (e.mono g1.pp) g1.ph g1.ok _ fun v2 P2 H2 s2 g2 r2 hs2 => by
    subst hs; subst hs2
    have e2 := rp_key r1
    subst e2
    cases r2 with
    | dct h1 rk =>
      refine ⟨_, valV _ k, rfl, .inl ⟨_, k, .inl (g2.ph _ _ h1), rfl, rfl⟩, ?_⟩
      rw [rk.isSome k]
      exact q _ P2 H2 (.dat (.bl _)) (g1.trans g2) (Rp.bl _) rfl
/-- the keys of a dict, as a list -/
theorem cb_listD {kvs : List (Key × Dat)} : CbS K μ rListD [.dat (.dct kvs)] (fun s => s = .dat (.lst (kvs.map fun p => keyD p.1))) := fun P H xs xt m rs Q q => by
  obtain ⟨v, rfl, r⟩ := one_of rs
  cases r with
  | dct h1 rk =>
    refine ⟨_, _, rfl, xt _ _ h1, fun p hp => ?_⟩
    have hr : ∀ {vs : List (Key × V)} {ds : List (Key × Dat)}, RpK K P vs ds → RpA K P (vs.map fun kv => kV kv.1) (ds.map fun p => keyD p.1) := by
      intro vs ds r
      induction vs generalizing ds with
      | nil => cases r; exact .nil
      | cons v vs ih =>
        cases r with
        | cons h r =>
          refine .cons ?_ (ih r)
          rename_i k _ _ _
          cases k
          · exact .int _
          · exact .str _
    exact fin_lst xt hp (hr rk) q
/-- {k: v for ..}: the keys are unlike -/
theorem ev_dc {α : Type} {wi : TI} {xs : List α} {φ : α → Dat} {vs tg : List Nat} {Wt : Mem → Prop} (hi : EvI K wi Γ μ Wt (fun z => z = xs.map φ)) (hWt : Wt μ) (kf : α → Key) (vf : α → Dat) (htg : ∀ i ∈ tg, i ∈ vs) (hz : xs.length ≤ 1000000) (hnd : (xs.map kf).Nodup)
    (hb : ∀ a ∈ xs, ∃ Γ2, GA K g tg (φ a) (wipeS Γ vs) Γ2 ∧ EvD K tk Γ2 μ (keyD (kf a)) ∧ EvD K tv Γ2 μ (vf a)) : EvD K (tDc wi g tYes tk tv vs) Γ μ (.dct (xs.map fun a => (kf a, vf a))) := fun σ P H e x m Q q =>
  hi σ P H e x m _ fun J P1 H1 ds g1 hds Y D hD => by
    subst hds
    have hDm := g1.ok.apart hD
    refine ⟨fun i k H' => k = xs.length - i ∧ i ≤ xs.length ∧ ∃ P' acc, Go K P1 H1 μ P' H' μ ∧ P' D = none ∧ H' D = some (.dK acc) ∧ RpK K P' acc ((xs.take i).map fun a => (kf a, vf a)),
      ⟨_, rfl, Nat.zero_le _, P1, [], go_made g1.ok hD (g1.ph.none_of hD) (.refl g1.ph g1.ok), g1.ph.none_of hD, upd_same, .nil⟩, fun i k H' z => ?_⟩
    obtain ⟨hk, hle, P2, acc, g2, n2, h2, ra⟩ := z
    have Yi := Y i P2 H' g2.ph ⟨g2.pp, μ, g2.ok, hWt⟩
    have hlm : (xs.map φ).length = xs.length := List.length_map _
    by_cases hlt : i < xs.length
    · have hxi : xs[i]? = some xs[i] := List.getElem?_eq_getElem hlt
      have hdi : (xs.map φ)[i]? = some (φ xs[i]) := by rw [List.getElem?_map, hxi]; rfl
      have htk : xs.take (i + 1) = xs.take i ++ [xs[i]] := by rw [List.take_add_one, hxi]; rfl
      obtain ⟨go, y⟩ := Yi.1 _ hdi
      refine .inr ⟨go, fun H3 => ∃ P' acc, Go K P1 H1 μ P' H3 μ ∧ P' D = none ∧ H3 D = some (.dK acc) ∧ RpK K P' acc ((xs.take (i + 1)).map fun a => (kf a, vf a)), fun H3 z => ⟨xs.length - (i + 1), by omega, rfl, hlt, z⟩, fun x3 H3 hy => ?_⟩
      obtain ⟨P3, st, rx⟩ := y x3 H3 hy
      have g3 : Go K P2 H' μ P3 H3 μ := .of0 st g2.ok
      obtain ⟨n3, h3⟩ := g3.keepD hDm n2 h2
      obtain ⟨Γ2, hg, hkk, hvv⟩ := hb xs[i] (List.getElem_mem hlt)
      have e3 : EnvOk K P3 (L2.wipe σ vs) (wipeS Γ vs) := EnvOk.wipe (e.mono (g1.pp.tr (g2.pp.tr g3.pp))) vs
      refine hg _ P3 H3 x3 e3 g3.ph rx _ fun σ4 e4 k4 => ⟨?_, ?_⟩
      · have hl4 : σ4.length = σ.length := by rw [k4.1, wipe_length]
        refine wipe_same hl4 fun i hi => ?_
        rw [k4.2 i (fun z => hi (htg i z)), getElem?_wipe, if_neg hi]
      · refine (show ∀ {F : Bool → Hp → Prop}, F true H3 → tYes σ4 H3 F from fun h => h) ?_
        simp only [if_true]
        refine hkk σ4 P3 H3 e4 g3.ph g3.ok _ fun v4 P4 H4 s4 g4 rv4 hs4 => ?_
        subst hs4
        obtain ⟨n4, h4⟩ := g4.keepD hDm n3 h3
        refine hvv σ4 P4 H4 (e4.mono g4.pp) g4.ph g4.ok _ fun v P5 H5 s g5 rv hs => ?_
        subst hs
        obtain ⟨n5, h5⟩ := g5.keepD hDm n4 h4
        have g15 := g2.trans (g3.trans (g4.trans g5))
        have r5 : RpK K P5 acc ((xs.take i).map fun a => (kf a, vf a)) := ra.mono (g3.pp.tr (g4.pp.tr g5.pp))
        refine ⟨acc, kf xs[i], rp_key rv4, h5, ?_, P5, putK acc (kf xs[i]) v, go_made g1.ok hD n5 g15, n5, upd_same, ?_⟩
        · rw [ra.length, List.length_map]
          exact Nat.lt_of_le_of_lt (Nat.le_trans (List.length_take_le _ _) (Nat.le_trans hle hz)) (by decide)
        · have hnew : putD ((xs.take i).map fun a => (kf a, vf a)) (kf xs[i]) (vf xs[i]) = (xs.take (i + 1)).map fun a => (kf a, vf a) := by
            unfold putD
            rw [if_neg, htk, List.map_append]
            · rfl
            · intro z
              rw [List.any_map, List.any_eq_true] at z
              obtain ⟨a, ha, hk⟩ := z
              have hk' : kf a = kf xs[i] := of_decide_eq_true hk
              obtain ⟨j, hj, rfl⟩ := List.getElem_of_mem ha
              rw [List.length_take] at hj
              have hji : j < i := by omega
              rw [List.getElem_take] at hk'
              have := (List.nodup_iff_pairwise_ne.mp hnd)
              rw [List.pairwise_iff_getElem] at this
              refine this j i (by rw [List.length_map]; omega) (by rw [List.length_map]; omega) hji ?_
              rw [List.getElem_map, List.getElem_map]; exact hk'
          rw [← hnew]
          exact r5.put rv
    · have hi' : i = xs.length := by omega
      refine .inl ⟨Yi.2 (by omega), ?_⟩
      rw [hi', List.take_length] at ra
      have ge := go_end g1.ok hD n2 h2 g2
      exact q (.ref D) _ _ (.dat (.dct _)) (g1.trans ge) (Rp.dct upd_same (ra.mono (Ext.put n2))) rfl
/-! ### isinstance -/
def tyN : Dat → Option String
  | .non => some "NoneType" | .bl _ => some "bool" | .int _ => some "int" | .str _ => some "str" | .lst _ => some "list" | .tup _ => some "tuple" | .dct _ => some "dict" | .ins _ _ => none
theorem tyX_of {v : V} {n : String} (xt : Ext P H) (r : Rp K P v d) (h : tyN d = some n) : TyX K H v (.type n) := by
  cases r <;> simp only [tyN, Option.some.injEq, reduceCtorEq] at h <;> subst h
  · exact .base .non
  · exact .base (.bl _)
  · exact .base (.int _)
  · exact .base (.str _)
  · rename_i h1 _; exact .base (.lst (xt _ _ h1))
  · rename_i h1 _
    rcases h1 with h1 | ⟨o, its, n, h2, h3, _⟩
    · rcases h1 with h1 | ⟨o, h1⟩
      · exact .base (.tup (xt _ _ h1))
      · exact .fTuple (xt _ _ h1)
    · exact .kTuple h2 h3
  · rename_i h1 _; exact .base (.dK (xt _ _ h1))
theorem ev_isi {n m : String} {b : Bool} (h : EvD K ta Γ μ d) (hn : tyN d = some n) (hk : kitB n m = some b) : EvD K (tCB (rIsi K) (tCons ta (tCons (tC (.ty m)) tNil))) Γ μ (.bl b) := fun σ P H e xt m' Q q =>
  h σ P H e xt m' _ fun v P1 H1 s g1 r1 hs => by
    subst hs
    exact ⟨v, .ty m, .type n, .type m, b, rfl, .ty m, tyX_of g1.ph r1 hn, kit_ty hk, q _ P1 H1 (.dat (.bl b)) g1 (Rp.bl b) rfl⟩
theorem ev_isi2 {n m1 m2 : String} {b1 b2 : Bool} (h : EvD K ta Γ μ d) (hn : tyN d = some n) (hk1 : kitB n m1 = some b1) (hk2 : kitB n m2 = some b2) : EvD K (tCB (rIsiT K) (tCons ta (tCons (tTup (tCons (tC (.ty m1)) (tCons (tC (.ty m2)) tNil))) tNil))) Γ μ (.bl (b1 || b2)) := fun σ P H e xt m' Q q =>
  h σ P H e xt m' _ fun v P1 H1 s g1 r1 hs => by
    subst hs
    refine ⟨by show 2 ≤ sizeLine; decide, fun p hp => ?_⟩
    have st : Stp [] P1 H1 (upd P1 p (.tup [.ty m1, .ty m2])) (upd H1 p (.tup [.ty m1, .ty m2])) := .new g1.ph hp
    have g2 := g1.trans (.of0 st g1.ok)
    refine ⟨v, p, [.ty m1, .ty m2], .type n, [.type m1, .type m2], b1 || b2, rfl, upd_same, .cons (.ty _) (.cons (.ty _) .nil), tyX_of st.ph (RelS.mono (s := .dat d) st.pp r1) hn, ?_, q _ _ _ (.dat (.bl _)) g2 (Rp.bl _) rfl⟩
    refine kitAny_cons (kit_ty hk1) (fun e1 => ?_) fun e1 => by rw [e1]; rfl
    refine kitAny_cons (kit_ty hk2) (fun e2 => ?_) fun e2 => by rw [e2, Bool.or_true]
    rw [e1, e2]; exact kitAny_nil
end
end DL
namespace DL
open PySem PySem.Spec PyProof.Rows L2
/-- an owned object's content is changed -/
def setMu (μ : Mem) (l : Addr) (m : Mu) : Mem := μ.map fun p => if p.1 = l then (l, m) else p
section
variable {K : PySem.W.Frag} {w : World} {P H P' H' : Hp} {Γ Γ' : List Sl} {μ μ' : Mem} {te ta tb tk tv to td ty : TE} {tt : TT} {t : TA} {b tu : TS} {g : TG} {R : Sl → Prop} {RM : Sl → Mem → Prop} {d : Dat} {s : Sl} {ds es : List Dat} {O : Ou} {i : Nat} {a l x : Addr} {C dx : Addr} {f : Str} {m m' : Mu}
theorem MuOk.lst {xs : List V} (h : H a = some (.lst xs)) (r : RpA K P xs ds) : MuOk K P H a (.mls ds) := ⟨xs, h, r⟩
theorem MuOk.ins {vs : List (Str × V)} {fs : List (Str × Sl)} (h : H a = some (.ins C dx vs)) (r : RelF K P vs fs) : MuOk K P H a (.mis C dx fs) := ⟨vs, h, r⟩
theorem RelSs.more {v : V} {vs : List V} {ss : List Sl} (h : RelS K P v s) (r : RelSs K P vs ss) : RelSs K P (v :: vs) (s :: ss) := ⟨h, r⟩
theorem setMu_adrs : adrs (setMu μ l m) = adrs μ := by
  unfold adrs setMu
  rw [List.map_map]
  apply List.map_congr_left
  intro p hp
  by_cases e : p.1 = l
  · simp [e]
  · simp [e]
theorem setMu_mem {p : Addr × Mu} (h : p ∈ setMu μ l m) : (p = (l, m) ∧ l ∈ adrs μ) ∨ (p ∈ μ ∧ p.1 ≠ l) := by
  obtain ⟨q, hq, e⟩ := List.mem_map.mp h
  by_cases z : q.1 = l
  · rw [if_pos z] at e; exact .inl ⟨e.symm, List.mem_map.mpr ⟨q, hq, z⟩⟩
  · rw [if_neg z] at e; subst e; exact .inr ⟨hq, z⟩
theorem mem_setMu (h : (l, m) ∈ μ) : (l, m') ∈ setMu μ l m' := List.mem_map.mpr ⟨(l, m), h, by simp⟩
theorem mem_setMu_ne {p : Addr × Mu} (h : p ∈ μ) (n : p.1 ≠ l) : p ∈ setMu μ l m := List.mem_map.mpr ⟨p, h, by simp [n]⟩
theorem mem_adrs (h : (l, m) ∈ μ) : l ∈ adrs μ := List.mem_map.mpr ⟨_, h, rfl⟩
/-- the owned object at l is written -/
theorem Go.write {o : HO} (xt : Ext P H) (ok : StOk K P H μ) (hm : (l, m) ∈ μ) (new : MuOk K P (upd H l o) l m') : Go K P H μ P (upd H l o) (setMu μ l m') where
  stp := .set xt (ok.get hm).1 (mem_adrs hm)
  ok := by
    refine ⟨fun p hp => ?_, by rw [setMu_adrs]; exact ok.2⟩
    rcases setMu_mem hp with ⟨rfl, _⟩ | ⟨h1, h2⟩
    · exact ⟨(ok.get hm).1, new⟩
    · obtain ⟨n, k⟩ := ok.1 p h1
      exact ⟨n, k.mono (.rfl' _) (upd_ne h2)⟩
  new := fun a ha => .inl (by rw [setMu_adrs] at ha; exact ha)
theorem Go.alloc {o : HO} {p : Addr} (xt : Ext P H) (ok : StOk K P H μ) (hp : H p = none) (new : MuOk K P (upd H p o) p m) : Go K P H μ P (upd H p o) ((p, m) :: μ) where
  stp := .newM xt hp
  ok := by
    refine ⟨fun q hq => ?_, ?_⟩
    · rcases List.mem_cons.mp hq with rfl | hq
      · exact ⟨xt.none_of hp, new⟩
      · have st : Stp [] P H P (upd H p o) := .newM xt hp
        exact (ok.kept0 st).1 q hq
    · exact List.nodup_cons.mpr ⟨ok.apart hp, ok.2⟩
  new := fun a ha => by
    rcases List.mem_cons.mp ha with rfl | ha
    · exact .inr hp
    · exact .inl ha
/-! ### lists that are owned -/
/-- [] to be owned -/
theorem em_newL : EvM K (tLst tNil) Γ μ (fun s μ' => ∃ l, l ∉ adrs μ ∧ s = .adr l ∧ μ' = (l, .mls []) :: μ) := fun σ P H e xt ok Q q =>
  ⟨Nat.zero_le _, fun p hp => q (.ref p) P _ (.adr p) _ (.alloc xt ok hp (MuOk.lst upd_same .nil)) rfl ⟨p, ok.apart hp, rfl, rfl⟩⟩
theorem sw_newL {j : Nat} (k : ∀ l, l ∉ adrs μ → O.nx (Γ.set j (.adr l)) ((l, .mls []) :: μ)) : SW K (tAsg (tLst tNil) (gName j)) Γ μ O :=
  sw_asgM em_newL fun s μ' ⟨l, h1, h2, h3⟩ => by subst h2; subst h3; exact k l h1
/-- a list of data, made to be owned (a copy, a display, a comprehension: whatever is new) -/
theorem em_own (h : ∀ (σ : L2.St) (P H : Hp), EnvOk K P σ Γ → Ext P H → StOk K P H μ → ∀ Q : VK, (∀ P1 H1 p xs, Go K P H μ P1 H1 μ → H1 p = none → RpA K P1 xs ds → Q (.ref p) (upd H1 p (.lst xs))) → te σ H Q) :
    EvM K te Γ μ (fun s μ' => ∃ l, l ∉ adrs μ ∧ s = .adr l ∧ μ' = (l, .mls ds) :: μ) := fun σ P H e xt ok Q q =>
  h σ P H e xt ok Q fun P1 H1 p xs g1 hp ra => q (.ref p) P1 _ (.adr p) _ (g1.trans (.alloc g1.ph g1.ok hp (MuOk.lst upd_same ra))) rfl ⟨p, g1.ok.apart hp, rfl, rfl⟩
theorem em_ownList (h : EvA K t Γ μ (fun ss => ss = [.dat (.lst ds)] ∨ ss = [.dat (.tup ds)])) : EvM K (tCB (rLstOf K) t) Γ μ (fun s μ' => ∃ l, l ∉ adrs μ ∧ s = .adr l ∧ μ' = (l, .mls ds) :: μ) := em_own fun σ P H e xt ok Q q =>
  h σ P H e xt ok _ fun vs P1 H1 ss g1 r1 hs => by
    obtain ⟨d, rfl, hd⟩ : ∃ d, ss = [.dat d] ∧ (d = .lst ds ∨ d = .tup ds) := by
      rcases hs with e | e
      · exact ⟨_, e, .inl rfl⟩
      · exact ⟨_, e, .inr rfl⟩
    obtain ⟨v, rfl, r⟩ := one_of r1
    obtain ⟨a, ys, rfl, hs', hr⟩ := seq_of g1.ph hd r
    exact ⟨_, _, rfl, hs', fun p hp => q P1 H1 p ys g1 hp hr⟩
theorem em_ownDisp (h : EvAs K t Γ μ (ds.map .dat)) (hz : ds.length ≤ 1000000) : EvM K (tLst t) Γ μ (fun s μ' => ∃ l, l ∉ adrs μ ∧ s = .adr l ∧ μ' = (l, .mls ds) :: μ) := em_own fun σ P H e xt ok Q q =>
  h σ P H e xt ok _ fun vs P1 H1 ss g1 r1 hs => by
    subst hs
    have r := relSs_dat r1
    exact ⟨by rw [r.length]; exact Nat.le_trans hz (by decide), fun p hp => q P1 H1 p vs g1 hp r⟩
/-- to.append(te) -/
theorem em_append (ho : Ev K to Γ μ (fun z => z = .adr l)) (he : EvM K te Γ μ RM) (hl : ∀ s μ', RM s μ' → ∃ d ds, s = .dat d ∧ (l, Mu.mls ds) ∈ μ' ∧ ds.length < 1000000) (hm : ∃ ds, (l, Mu.mls ds) ∈ μ) :
    EvM K (tBM K "list" rAppend to (tCons te tNil)) Γ μ (fun s μ' => s = .dat .non ∧ ∃ d ds μ1, RM (.dat d) μ1 ∧ (l, Mu.mls ds) ∈ μ1 ∧ μ' = setMu μ1 l (.mls (ds ++ [d]))) := fun σ P H e xt ok Q q =>
  ho σ P H e xt ok _ fun v P1 H1 s1 g1 r1 hs => by
    subst hs
    have r1' : v = .ref l := r1
    subst r1'
    obtain ⟨ds0, hm0⟩ := hm
    obtain ⟨_, xs0, h0, _⟩ := g1.ok.get hm0
    refine ⟨.inl ⟨rfl, xs0, .of h0⟩, he σ P1 H1 (e.mono g1.pp) g1.ph g1.ok _ fun v2 P2 H2 s2 μ2 g2 r2 hr => ?_⟩
    obtain ⟨d, ds, rfl, hm2, hlen⟩ := hl s2 μ2 hr
    obtain ⟨_, xs, h1, ra⟩ := g2.ok.get hm2
    refine ⟨l, xs, v2, rfl, rfl, h1, by rw [ra.length]; exact Nat.lt_of_lt_of_le hlen (by decide), ?_⟩
    exact q .non P2 _ (.dat .non) _ ((g1.trans g2).trans (.write g2.ph g2.ok hm2 (MuOk.lst upd_same (ra.append (.one r2))))) Rp.non ⟨rfl, d, ds, μ2, hr, hm2, rfl⟩
theorem sw_append (ho : Ev K to Γ μ (fun z => z = .adr l)) (he : EvD K te Γ μ d) (hm : (l, Mu.mls ds) ∈ μ) (hz : ds.length < 1000000) (nd : (adrs μ).Nodup) (k : O.nx Γ (setMu μ l (.mls (ds ++ [d])))) : SW K (tDrop (tBM K "list" rAppend to (tCons te tNil))) Γ μ O :=
  sw_dropM (em_append ho he.m (fun s μ' z => by
    obtain ⟨rfl, rfl⟩ := z
    exact ⟨d, ds, rfl, hm, hz⟩) ⟨ds, hm⟩) fun s μ' ⟨_, d', ds', μ1, z, hm', e⟩ => by
    obtain ⟨rfl, z⟩ := z
    cases z
    have : (l, Mu.mls ds') = (l, Mu.mls ds) := uniqA nd hm' hm rfl
    cases this
    rw [e]; exact k
/-- to.pop() -/
theorem em_pop {ds : List Dat} {d : Dat} (ho : Ev K to Γ μ (fun z => z = .adr l)) (hm : (l, Mu.mls (ds ++ [d])) ∈ μ) : EvM K (tBM0 K "list" rPop to) Γ μ (fun s μ' => s = .dat d ∧ μ' = setMu μ l (.mls ds)) := fun σ P H e xt ok Q q =>
  ho σ P H e xt ok _ fun v P1 H1 s1 g1 r1 hs => by
    subst hs
    have r1' : v = .ref l := r1
    subst r1'
    obtain ⟨_, xs, h1, ra⟩ := g1.ok.get hm
    obtain ⟨y, h2, h3⟩ := ra.get (i := ds.length) (d := d) (by simp)
    have hlen := ra.length
    rw [List.length_append, List.length_singleton] at hlen
    refine ⟨.inl ⟨rfl, xs, .of h1⟩, l, xs, y, rfl, rfl, h1, by rw [hlen]; exact h2, ?_⟩
    have rd := ra.dropLast
    rw [List.dropLast_concat] at rd
    exact q y P1 _ (.dat d) _ (g1.trans (.write g1.ph g1.ok hm (MuOk.lst upd_same rd))) h3 ⟨rfl, rfl⟩
/-- to.pop(te), a place in it -/
theorem em_popAt {ds : List Dat} (ho : Ev K to Γ μ (fun z => z = .adr l)) (hm : (l, Mu.mls ds) ∈ μ) (hz : ds.length ≤ 1000000) (he : Ev K te Γ μ (fun s => ∃ j : Nat, s = .dat (.int j) ∧ j < ds.length)) :
    EvM K (tBM K "list" rPopAt to (tCons te tNil)) Γ μ (fun s μ' => ∃ (j : Nat) (d : Dat), ds[j]? = some d ∧ s = .dat d ∧ μ' = setMu μ l (.mls (ds.eraseIdx j))) := fun σ P H e xt ok Q q =>
  ho σ P H e xt ok _ fun v P1 H1 s1 g1 r1 hs => by
    subst hs
    have r1' : v = .ref l := r1
    subst r1'
    obtain ⟨_, xs0, h0, _⟩ := g1.ok.get hm
    refine ⟨.inl ⟨rfl, xs0, .of h0⟩, he σ P1 H1 (e.mono g1.pp) g1.ph g1.ok _ fun v2 P2 H2 s2 g2 r2 hr => ?_⟩
    obtain ⟨j, rfl, hj⟩ := hr
    cases r2
    obtain ⟨_, xs, h1, ra⟩ := g2.ok.get hm
    have hd : ds[j]? = some ds[j] := List.getElem?_eq_getElem hj
    obtain ⟨y, h2, h3⟩ := ra.get hd
    have hlen := ra.length
    refine ⟨l, xs, j, j, y, rfl, rfl, h1, by omega, by omega, ?_, h2, ?_⟩
    · have hjx : j < xs.length := by omega
      have := (ixN_seq (n := xs.length) (i := (j : Int)) (j := j) (by unfold ixN; rw [if_pos (by omega), if_pos (by omega)]; rfl)).1
      exact this
    · exact q y P2 _ (.dat ds[j]) _ ((g1.trans g2).trans (.write g2.ph g2.ok hm (MuOk.lst upd_same (ra.eraseIdx j)))) h3 ⟨j, _, hd, rfl, rfl⟩
/-! ### what is owned is changed no more -/
def dropMu (μ : Mem) (l : Addr) : Mem := μ.filter fun p => decide (p.1 ≠ l)
theorem dropMu_sub : ∀ p ∈ dropMu μ l, p ∈ μ := fun p hp => (List.mem_filter.mp hp).1
theorem dropMu_nd (h : (adrs μ).Nodup) : (adrs (dropMu μ l)).Nodup := List.Nodup.sublist (List.Sublist.map _ List.filter_sublist) h
theorem Go.freeze {o : HO} (xt : Ext P H) (ok : StOk K P H μ) (hm : (l, m) ∈ μ) (h : H l = some o) : Go K P H μ (upd P l o) H (dropMu μ l) where
  stp := .freeze xt h (ok.get hm).1 (mem_adrs hm)
  ok := by
    refine ⟨fun p hp => ?_, dropMu_nd ok.2⟩
    obtain ⟨h1, h2⟩ := List.mem_filter.mp hp
    have n : p.1 ≠ l := of_decide_eq_true h2
    obtain ⟨k1, k2⟩ := ok.1 p h1
    exact ⟨by rw [upd_ne n]; exact k1, k2.mono (Ext.put (ok.get hm).1) rfl⟩
  new := fun a ha => by
    obtain ⟨p, hp, rfl⟩ := List.mem_map.mp ha
    exact .inl (List.mem_map.mpr ⟨p, dropMu_sub p hp, rfl⟩)
/-- an owned list as a result: data from now on -/
theorem em_freeze (h : EvM K te Γ μ RM) (hr : ∀ s μ', RM s μ' → ∃ l ds, s = .adr l ∧ (l, Mu.mls ds) ∈ μ') : EvM K te Γ μ (fun s μ' => ∃ l ds μ1, RM (.adr l) μ1 ∧ (l, Mu.mls ds) ∈ μ1 ∧ s = .dat (.lst ds) ∧ μ' = dropMu μ1 l) := fun σ P H e xt ok Q q =>
  h σ P H e xt ok _ fun v P1 H1 s1 μ1 g1 r1 hr1 => by
    obtain ⟨l, ds, rfl, hm⟩ := hr s1 μ1 hr1
    have r1' : v = .ref l := r1
    subst r1'
    obtain ⟨np, xs, h1, ra⟩ := g1.ok.get hm
    exact q (.ref l) _ _ (.dat (.lst ds)) _ (g1.trans (.freeze g1.ph g1.ok hm h1)) (Rp.lst upd_same (ra.mono (Ext.put np))) ⟨l, ds, μ1, hr1, hm, rfl, rfl⟩
/-- return xs, xs an owned list of the def's own -/
theorem sw_retO (h : Ev K te Γ μ (fun z => z = .adr l)) (hm : (l, Mu.mls ds) ∈ μ) (nd : (adrs μ).Nodup) (k : O.rt (.dat (.lst ds)) (dropMu μ l)) : SW K (tRet te) Γ μ O :=
  sw_retM (em_freeze h.m fun s μ' z => ⟨l, ds, z.2, z.1 ▸ hm⟩) fun s μ' ⟨l', ds', μ1, z, hm', e1, e2⟩ => by
    obtain ⟨rfl, z⟩ := z
    cases z
    have : (l, Mu.mls ds') = (l, Mu.mls ds) := uniqA nd hm' hm rfl
    cases this
    rw [e1, e2]; exact k
/-- a slot's list is data from now on -/
theorem sw_freeze {j : Nat} (hj : Γ[j]? = some (.adr l)) (hm : (l, Mu.mls ds) ∈ μ) (k : SW K b (Γ.set j (.dat (.lst ds))) (dropMu μ l) O) : SW K b Γ μ O := fun σ P H e xt ok D n r bk ct => by
  obtain ⟨np, xs, h1, ra⟩ := ok.get hm
  have g1 : Go K P H μ (upd P l (.lst xs)) H (dropMu μ l) := .freeze xt ok hm h1
  have e1 : EnvOk K (upd P l (.lst xs)) σ (Γ.set j (.dat (.lst ds))) := by
    obtain ⟨o, ho, so⟩ := e.get hj
    have so' : o = some (.ref l) := so
    subst so'
    have e2 := (e.mono g1.pp).setO (o := some (.ref l)) (s := .dat (.lst ds)) j ⟨_, rfl, Rp.lst upd_same (ra.mono g1.pp)⟩
    have : σ.set j (some (.ref l)) = σ := by
      apply List.ext_getElem?
      intro i
      by_cases h : j = i
      · subst h
        rw [List.getElem?_set_self']
        rw [ho]; rfl
      · rw [List.getElem?_set_ne h]
    rwa [this] at e2
  exact k σ _ H e1 g1.ph g1.ok D (fun σ2 P2 H2 Γ2 μ2 g2 => n σ2 P2 H2 Γ2 μ2 (g1.trans g2)) (fun v P2 H2 s μ2 g2 => r v P2 H2 s μ2 (g1.trans g2)) (fun σ2 P2 H2 Γ2 μ2 g2 => bk σ2 P2 H2 Γ2 μ2 (g1.trans g2)) fun σ2 P2 H2 Γ2 μ2 g2 => ct σ2 P2 H2 Γ2 μ2 (g1.trans g2)
/-! ### instances -/
/-- self.f = te -/
theorem sw_fld {j : Nat} {fs : List (Str × Sl)} (hv : EvM K tv Γ μ RM) (hj : Γ[j]? = some (.adr x)) (hc : Cls K C) (hn : NoAttr K C f) (k : ∀ s μ', RM s μ' → ∃ fs dx, (x, Mu.mis C dx fs) ∈ μ' ∧ fs.length < 900 ∧ O.nx Γ (setMu μ' x (.mis C dx (putS f s fs)))) : SW K (sFld K (tVar j) tv f) Γ μ O := fun σ P H e xt ok D n r bk ct =>
  hv σ P H e xt ok _ fun v P1 H1 s1 μ1 g1 r1 hr => by
    obtain ⟨fs, dx, hm, hlen, z⟩ := k s1 μ1 hr
    obtain ⟨o, ho, so⟩ := e.get hj
    have so' : o = some (.ref x) := so
    subst so'
    obtain ⟨_, vs, h1, rf⟩ := g1.ok.get hm
    refine ⟨_, ho, x, C, dx, vs, rfl, h1, hc, hn, by rw [rf.len]; omega, ?_⟩
    exact n σ P1 _ Γ _ (g1.trans (.write g1.ph g1.ok hm (MuOk.ins upd_same (rf.put r1)))) (e.mono g1.pp) z
def datF (fs : List (Str × Dat)) : List (Str × Sl) := fs.map fun p => (p.1, .dat p.2)
theorem relF_dat : ∀ {vs : List (Str × V)} {fs : List (Str × Dat)}, RelF K P vs (datF fs) → RpF K P vs fs
  | [], [], _ => .nil
  | (_, _) :: _, (_, _) :: _, h => by
    obtain ⟨rfl, h1, h2⟩ := h
    exact .cons h1 (relF_dat h2)
  | [], _ :: _, h => h.elim
  | _ :: _, [], h => h.elim
/-- C(..): an object whose fields are data when __init__ is through, and that never changes behind it -/
theorem ev_make {pre : List Sl → Mem → (Sl → Mem → Prop) → Prop} {E : XK} {ss : List Sl} {fs : List (Str × Dat)} (h : EvAs K t Γ μ ss) (hp : ∀ x dx, pre (.adr x :: ss) [(x, .mis C dx [])] (fun s μ' => s = .dat .non ∧ μ' = [(x, .mis C dx (datF fs))])) : EvD K (tMake C (spD K pre) [] E t) Γ μ (.ins C fs) := fun σ P H e xt ok Q q =>
  h σ P H e xt ok _ fun vs P1 H1 ss1 g1 r1 hs x dx hx hdx hne => by
    subst hs
    rw [List.append_nil]
    have np : P1 x = none := g1.ph.none_of hx
    have a1 : Stp [] P1 H1 P1 (upd H1 dx (.own x)) := .newM g1.ph hdx
    have hx1 : (upd H1 dx (.own x)) x = none := by rw [upd_ne (Ne.symm hne)]; exact hx
    have a2 : Stp [] P1 (upd H1 dx (.own x)) P1 (upd (upd H1 dx (.own x)) x (.ins C dx [])) := .newM a1.ph hx1
    have a12 := a1.tr0 a2
    have ok0 : StOk K P1 (upd (upd H1 dx (.own x)) x (.ins C dx [])) [(x, .mis C dx [])] := ⟨fun p hp => by
      have : p = (x, .mis C dx []) := by simpa using hp
      subst this
      exact ⟨np, [], upd_same, trivial⟩, by simp⟩
    refine ⟨P1, _, _, _, a2.ph, ok0, RelSs.more (s := .adr x) rfl r1, hp x dx, fun v P2 H2 s2 μ2 g2 r2 hr => ?_⟩
    obtain ⟨rfl, rfl⟩ := hr
    cases r2
    refine ⟨rfl, ?_⟩
    obtain ⟨np2, vs2, h2, rf⟩ := g2.ok.1 _ (List.mem_singleton.mpr rfl)
    have hx0 : x ∉ adrs μ := g1.ok.apart hx
    have g12 : Go K P1 H1 μ P2 H2 μ := ⟨(a12.mono fun a m => absurd m List.not_mem_nil).trans g2.stp (fun a ha => .inr (by
      have : a = x := by simpa using ha
      rw [this]; exact hx)), (g1.ok.kept0 a12).kept g2.stp (fun a ha z => hx0 (by
      have : a = x := by simpa using z
      exact this ▸ ha)), fun _ m => .inl m⟩
    have g3 := go_end g1.ok hx np2 h2 g12
    exact q (.ref x) _ _ (.dat (.ins C fs)) (g1.trans g3) (Rp.ins upd_same (RpF.mono (Ext.put np2) (relF_dat rf))) rfl
/-! ### methods -/
/-- o.m(..) on data -/
theorem ev_meth {pre : List Sl → Mem → (Sl → Mem → Prop) → Prop} {E : XK} {ss : List Sl} {fs : List (Str × Dat)} {mn : Str} (ho : EvD K ta Γ μ (.ins C fs)) (hl : fs.lookup mn = none) (h : EvAs K t Γ μ ss) (hp : pre (.dat (.ins C fs) :: ss) [] (fun s μ' => μ' = [] ∧ R s)) : Ev K (tMeth C mn (spD K pre) [] E ta t) Γ μ R := fun σ P H e xt ok Q q =>
  ho σ P H e xt ok _ fun v P1 H1 s1 g1 r1 hs => by
    subst hs
    have rr : Rp K P1 v (.ins C fs) := r1
    cases r1 with
    | ins h1 rf =>
      refine ⟨_, _, _, rfl, g1.ph _ _ h1, rf.look_none hl, h σ P1 H1 (e.mono g1.pp) g1.ph g1.ok _ fun vs P2 H2 ss2 g2 r2 hs2 => ?_⟩
      subst hs2
      rw [List.append_nil]
      refine ⟨P2, [], _, _, g2.ph, .nil, RelSs.more (RelS.mono (s := .dat (.ins C fs)) g2.pp rr) r2, hp, fun v P' H' s μ' g r hs => ?_⟩
      obtain ⟨rfl, hs⟩ := hs
      exact q v P' H' s ((g1.trans g2).trans (.frame0 g2.ok (fun _ m => absurd m List.not_mem_nil) g)) r hs
/-- o.m(..) on an owned object: μf is what the method is given -/
theorem em_methO {pre : List Sl → Mem → (Sl → Mem → Prop) → Prop} {E : XK} {ss : List Sl} {fs : List (Str × Sl)} {mn : Str} {μf : Mem} {Rf : Sl → Mem → Prop} (ho : Ev K ta Γ μ (fun z => z = .adr x)) (hm : (x, Mu.mis C dx fs) ∈ μ) (hl : fs.lookup mn = none) (h : EvAs K t Γ μ ss)
    (sub : ∀ p ∈ μf, p ∈ μ) (nd : (adrs μf).Nodup) (hp : pre (.adr x :: ss) μf Rf) : EvM K (tMeth C mn (spD K pre) [] E ta t) Γ μ (fun s μ' => ∃ μ2, Rf s μ2 ∧ μ' = μ2 ++ without μ μf) := fun σ P H e xt ok Q q =>
  ho σ P H e xt ok _ fun v P1 H1 s1 g1 r1 hs => by
    subst hs
    have r1' : v = .ref x := r1
    subst r1'
    obtain ⟨_, vs, h1, rf⟩ := g1.ok.get hm
    refine ⟨x, dx, vs, rfl, h1, rf.look_none hl, h σ P1 H1 (e.mono g1.pp) g1.ph g1.ok _ fun vs P2 H2 ss2 g2 r2 hs2 => ?_⟩
    subst hs2
    rw [List.append_nil]
    refine ⟨P2, μf, _, Rf, g2.ph, ⟨fun p hp => g2.ok.1 p (sub p hp), nd⟩, RelSs.more (s := .adr x) rfl r2, hp, fun v P' H' s μ' g r hs => ?_⟩
    exact q v P' H' s _ ((g1.trans g2).trans (.frame g2.ok sub g)) r ⟨μ', hs, rfl⟩
/-- f(..) with owned objects -/
theorem em_callO {pre : List Sl → Mem → (Sl → Mem → Prop) → Prop} {E : XK} {ss : List Sl} {μf : Mem} {Rf : Sl → Mem → Prop} (h : EvAs K t Γ μ ss) (sub : ∀ p ∈ μf, p ∈ μ) (nd : (adrs μf).Nodup) (hp : pre ss μf Rf) :
    EvM K (tCall (spD K pre) [] E t) Γ μ (fun s μ' => ∃ μ2, Rf s μ2 ∧ μ' = μ2 ++ without μ μf) := fun σ P H e xt ok Q q =>
  h σ P H e xt ok _ fun vs P2 H2 ss2 g2 r2 hs2 => by
    subst hs2
    show spD K pre (vs ++ []) H2 Q E
    rw [List.append_nil]
    refine ⟨P2, μf, _, Rf, g2.ph, ⟨fun p hp => g2.ok.1 p (sub p hp), nd⟩, r2, hp, fun v P' H' s μ' g r hs => ?_⟩
    exact q v P' H' s _ (g2.trans (.frame g2.ok sub g)) r ⟨μ', hs, rfl⟩
end
end DL
namespace DL
open PySem PySem.Spec PyProof.Rows L2
/-! ### promises of plain defs: n data in, data out -/
def preP (n : Nat) (rel : List Dat → Dat → Prop) : List Sl → Mem → (Sl → Mem → Prop) → Prop := fun ss μ R => ∃ ds d, ss = ds.map .dat ∧ ds.length = n ∧ rel ds d ∧ μ = [] ∧ R (.dat d) []
section
variable {K : PySem.W.Frag} {Pg : Program} {w : World} {mg : Str → Option Value} {base : Heap} {P H : Hp} {Γ : List Sl} {μ : Mem} {ta : TA} {E : XK} {n : Nat} {rel : List Dat → Dat → Prop} {d : Dat} {ds : List Dat} {O : Ou} {b : TS}
theorem ev_callP (h : EvAs K ta Γ μ (ds.map .dat)) (hn : ds.length = n) (hr : rel ds d) : EvD K (tCall (spD K (preP n rel)) [] E ta) Γ μ d :=
  ev_call h ⟨ds, d, rfl, hn, hr, rfl, rfl, rfl⟩
theorem ev_methP {to : TE} {C : Addr} {fs : List (Str × Dat)} {mn : Str} (ho : EvD K to Γ μ (.ins C fs)) (hl : fs.lookup mn = none) (h : EvAs K ta Γ μ (ds.map .dat)) (hn : (Dat.ins C fs :: ds).length = n) (hr : rel (.ins C fs :: ds) d) : EvD K (tMeth C mn (spD K (preP n rel)) [] E to ta) Γ μ d :=
  ev_meth ho hl h ⟨_, d, rfl, hn, hr, rfl, rfl, rfl⟩
theorem fn_swP {x qual : Str} {params : Arguments} {body : List Stmt} {scope : Scope} {f : Addr} {fd : FuncData} {N ps : List Str} {k : Nat} (F : FunD K x qual params body scope [] [] f fd) (S : FnScope N ps scope) (hn : n = ps.length)
    (hb : ∀ (cdv : Value) (A : Around) (outer : List Env) (s : Shared) (H : Hp) (E : XK), Room k (A.deeper (envOfC qual scope s.heap.objs.size f cdv)) →
      ∃ t, PSs (cxOf CX0 Pg w K mg base N qual scope f cdv A outer s H E).nox body t ∧ ∀ ds d, ds.length = n → rel ds d → SW K t (ds.map .dat ++ List.replicate (N.length - n) .un) [] { nx := fun _ _ => d = .non, rt := fun s _ => s = .dat d }) :
    FnOk Pg w K mg base CX0 (k + 1) f fd ps (spD K (preP n rel)) :=
  fn_sw F S (fun ss μ R ⟨ds, d, h1, h2, _⟩ => by rw [h1, List.length_map, h2, hn]) fun cdv A outer s H E hr => by
    obtain ⟨t, ht, hs⟩ := hb cdv A outer s H E hr
    refine ⟨t, ht, fun ss μ R ⟨ds, d, h1, h2, h3, h4, h5⟩ => ?_⟩
    subst h1; subst h4
    rw [List.length_map, h2]
    have nil_ok : ∀ μ' : Mem, (∀ p ∈ ([] : Mem), p ∈ μ') ∧ (adrs ([] : Mem)).Nodup := fun μ' => ⟨fun _ m => absurd m List.not_mem_nil, List.nodup_nil⟩
    intro σ P H e xt ok D nx rt bk ct
    refine hs ds d h2 h3 σ P H e xt ok D (fun σ' P' H' Γ' μ' g e' z => ?_) (fun v P' H' s μ' g rv z => ?_) (fun _ _ _ _ _ _ _ z => z.elim) fun _ _ _ _ _ _ _ z => z.elim
    · exact nx σ' P' H' Γ' [] (g.sub (nil_ok μ').1 (nil_ok μ').2) e' (by rw [z] at h5; exact h5)
    · exact rt v P' H' s [] (g.sub (nil_ok μ').1 (nil_ok μ').2) rv (by rw [z]; exact h5)
theorem sw_never (h : False) : SW K b Γ μ O := h.elim
end
/-! ### a loop over the pairs of a dict that an object keeps: for k, v in self.f.items(), all slots that are read again scalars -/
def scD : Dat → Bool
  | .non => true | .bl _ => true | .int _ => true | .str _ => true | _ => false
def scS : Sl → Bool
  | .un => true
  | .dat d => scD d
  | .adr _ => false
  | .scr _ => false
theorem scD_rp {K : PySem.W.Frag} {P P' : Hp} : ∀ {v : V} {d : Dat}, scD d = true → Rp K P v d → Rp K P' v d
  | _, .non, _, h => by cases h; exact .non
  | _, .bl _, _, h => by cases h; exact .bl _
  | _, .int _, _, h => by cases h; exact .int _
  | _, .str _, _, h => by cases h; exact .str _
theorem scS_env {K : PySem.W.Frag} {P P' : Hp} : ∀ {σ : L2.St} {Γ : List Sl}, Γ.all scS = true → EnvOk K P σ Γ → EnvOk K P' σ Γ
  | [], [], _, h => h
  | o :: σ, s :: Γ, hs, h => by
    rw [List.all_cons, Bool.and_eq_true] at hs
    refine ⟨?_, scS_env hs.2 h.2⟩
    cases s with
    | un => exact h.1
    | dat d => obtain ⟨v, h1, h2⟩ := h.1; exact ⟨v, h1, scD_rp hs.1 h2⟩
    | adr a => cases hs.1
    | scr ns => cases hs.1
  | [], _ :: _, _, h => h.elim
  | _ :: _, [], _, h => h.elim
/-- what is known only of scalars -/
def scG (Γ : List Sl) : List Sl := Γ.map fun s => if scS s then s else .un
theorem scG_all : ∀ Γ : List Sl, (scG Γ).all scS = true
  | [] => rfl
  | s :: Γ => by
    have ih := scG_all Γ
    unfold scG at ih ⊢
    rw [List.map_cons, List.all_cons, ih, Bool.and_true]
    by_cases h : scS s = true
    · rw [if_pos h]; exact h
    · rw [if_neg h]; rfl
theorem scG_env {K : PySem.W.Frag} {P : Hp} : ∀ {σ : L2.St} {Γ : List Sl}, EnvOk K P σ Γ → EnvOk K P σ (scG Γ)
  | [], [], h => h
  | o :: σ, s :: Γ, h => by
    refine ⟨?_, scG_env h.2⟩
    show SlotOk K P o (if scS s then s else .un)
    by_cases e : scS s = true
    · rw [if_pos e]; exact h.1
    · rw [if_neg e]; trivial
  | [], _ :: _, h => h.elim
  | _ :: _, [], h => h.elim
section
variable {K : PySem.W.Frag} {Γ : List Sl} {O : Ou} {b : TS} {C : Addr} {f : Str} {i : Nat} {g : TG} {fs : List (Str × Dat)} {kvs : List (Key × Dat)}
abbrev hp0 : Hp := fun _ => none
theorem sw_items (hi : Γ[i]? = some (.dat (.ins C fs))) (hc : Cls K C) (hn : NoAttr K C f) (hl : fs.lookup f = some (.dct kvs)) (hk : kvs.all (fun p => scD p.2) = true) (I : Nat → List Sl → Prop) (h0 : I 0 (scG Γ))
    (hs : ∀ i p Γ', kvs[i]? = some p → I i Γ' → ∃ tg Γ2, GA K g tg (.tup [keyD p.1, p.2]) Γ' Γ2 ∧ SW K b Γ2 [] { nx := fun Γ3 μ3 => Γ3.all scS = true ∧ I (i + 1) Γ3, rt := fun s μ3 => ∃ d, s = .dat d ∧ scD d = true ∧ O.rt s [], bk := fun _ _ => False, ct := fun _ _ => False })
    (hsc : ∀ i Γ', I i Γ' → Γ'.all scS = true)
    (hd : ∀ Γ', I kvs.length Γ' → O.nx Γ' []) : SW K (tLock (tFor (iItems (tFld K (tVar i) f)) g b)) Γ [] O := fun σ P H e xt ok D n r bk ct => by
  obtain ⟨o, ho, v, rfl, rv⟩ := e.get hi
  cases rv with
  | ins h1 rf =>
    rename_i a dx vs
    obtain ⟨vd, h2, h3⟩ := rf.look hl
    cases h3 with
    | dct h3 rk =>
      rename_i dd xs
      have hdd : H dd = some (.dK xs) := xt _ _ h3
      have ha : H a = some (.ins C dx vs) := xt _ _ h1
      have hne : a ≠ dd := fun z => by rw [z, hdd] at ha; cases ha
      refine ⟨dd, .dK xs, hdd, trivial, fun od => ?_⟩
      -- the world without the dict's own data: nothing is kept but scalars
      have hH : (upd H dd (.frz od (.dK xs))) a = some (.ins C dx vs) := by rw [upd_ne hne]; exact ha
      refine ⟨_, ho, a, C, dx, vs, .ref dd, rfl, hH, hc, hn, h2, dd, od, xs, rfl, upd_same, ?_⟩
      have key : ∀ {P' H' : Hp}, Go K hp0 (upd H dd (.frz od (.dK xs))) [] P' H' [] → H' dd = some (.frz od (.dK xs)) ∧ Go K P H [] P (upd H' dd (.dK xs)) [] := by
        intro P' H' gg
        have q1 : H' dd = some (.frz od (.dK xs)) := gg.stp.hh dd _ (by simp) upd_same
        have hk' : ∀ a o, H a = some o → (upd H' dd (.dK xs)) a = some o := fun a o e => by
          by_cases z : a = dd
          · subst z; rw [upd_same, ← hdd]; exact e
          · rw [upd_ne z]; exact gg.stp.hh a o (by simp) (by rw [upd_ne z]; exact e)
        refine ⟨q1, ⟨⟨.rfl' _, xt.tr hk', fun a o _ e => hk' a o e, fun a _ e q => absurd e q, fun a e => ?_⟩, .nil, fun _ m => absurd m List.not_mem_nil⟩⟩
        cases w : H a with
        | none => exact absurd w e
        | some o => rw [hk' a o w]; exact nofun
      have start : Ext hp0 (upd H dd (.frz od (.dK xs))) := fun _ _ e => nomatch e
      have scRp : ∀ {P' : Hp} {vs : List (Key × V)} {ds : List (Key × Dat)}, ds.all (fun p => scD p.2) = true → RpK K P vs ds → RpK K P' vs ds := by
        intro P' vs ds hs r
        induction vs generalizing ds with
        | nil => cases r; exact .nil
        | cons v vs ih =>
          cases r with
          | cons h r =>
            rw [List.all_cons, Bool.and_eq_true] at hs
            exact .cons (scD_rp hs.1 h) (ih hs.2 r)
      have hlen := rk.length
      refine ⟨fun j k σ' H' => k = kvs.length - j ∧ j ≤ kvs.length ∧ ∃ P' Γ', Go K hp0 (upd H dd (.frz od (.dK xs))) [] P' H' [] ∧ EnvOk K P' σ' Γ' ∧ I j Γ',
        ⟨_, rfl, Nat.zero_le _, hp0, scG Γ, .refl start .nil, scS_env (scG_all Γ) (scG_env e), h0⟩, fun j k σ' H' z => ?_⟩
      obtain ⟨hkk, hle, P2, Γ2, g2, e2, hI⟩ := z
      obtain ⟨q1, q2⟩ := key g2
      by_cases hlt : j < kvs.length
      · have hp : kvs[j]? = some kvs[j] := List.getElem?_eq_getElem hlt
        obtain ⟨vj, hx, hrj⟩ := rk.at_ (i := j) (k := kvs[j].1) (d := kvs[j].2) hp
        refine .inr ⟨⟨q1, by rw [hlen]; exact hlt⟩, fun σ3 H3 => ∃ P' Γ', Go K hp0 (upd H dd (.frz od (.dK xs))) [] P' H3 [] ∧ EnvOk K P' σ3 Γ' ∧ I (j + 1) Γ', fun σ3 H3 z => ⟨kvs.length - (j + 1), by omega, rfl, hlt, z⟩, fun y H3 hy => ?_⟩
        obtain ⟨T, k', v', h4, rfl, hT, rfl⟩ := hy
        rw [hx] at h4
        cases h4
        have st : Stp [] P2 H' (upd P2 T (.tup [kV kvs[j].1, vj])) (upd H' T (.tup [kV kvs[j].1, vj])) := .new g2.ph hT
        have g3 := g2.trans (.of0 st g2.ok)
        have hscj : scD kvs[j].2 = true := List.all_eq_true.mp hk _ (List.getElem_mem hlt)
        have rt : Rp K (upd P2 T (.tup [kV kvs[j].1, vj])) (.ref T) (.tup [keyD kvs[j].1, kvs[j].2]) := Rp.tup (.of upd_same) (.cons (by
          cases kvs[j].1
          · exact .int _
          · exact .str _) (.cons (scD_rp hscj hrj) .nil))
        obtain ⟨tg, Γ3, hg, hb⟩ := hs j _ Γ2 hp hI
        refine hg σ' _ _ _ (e2.mono st.pp) st.ph rt _ fun σ4 e4 _ => hb σ4 _ _ e4 g3.ph .nil _ (fun σ5 P5 H5 Γ5 μ5 g5 e5 z => ?_) (fun v P5 H5 s μ5 g5 r5 z => ?_) (fun _ _ _ _ _ _ _ z => z.elim) fun _ _ _ _ _ _ _ z => z.elim
        · have g6 : Go K hp0 (upd H dd (.frz od (.dK xs))) [] P5 H5 [] := (g3.trans g5).sub (fun _ m => absurd m List.not_mem_nil) List.nodup_nil
          exact ⟨P5, Γ5, g6, e5, z.2⟩
        · obtain ⟨d, rfl, hsd, hO⟩ := z
          have g6 : Go K hp0 (upd H dd (.frz od (.dK xs))) [] P5 H5 [] := (g3.trans g5).sub (fun _ m => absurd m List.not_mem_nil) List.nodup_nil
          obtain ⟨w1, w2⟩ := key g6
          exact ⟨w1, r v P _ (.dat d) [] w2 (scD_rp (P := P5) hsd r5) hO⟩
      · have hj : j = kvs.length := by omega
        refine .inl ⟨⟨q1, by rw [hlen]; omega⟩, q1, n σ' P _ Γ2 [] q2 (scS_env (hsc _ _ hI) e2) (hd Γ2 (hj ▸ hI))⟩
end
end DL
set_option autoImplicit false
/-! # Lots, told cases, listings, closures: the mathematics, without any program -/
namespace M80
abbrev Lot := List Nat
abbrev Case := Lot × Lot
/-- the six letters -/
def AB : Lot := [97, 98, 99, 100, 101, 102]
theorem len_le {α : Type} [DecidableEq α] : ∀ {l m : List α}, l.Nodup → (∀ x ∈ l, x ∈ m) → l.length ≤ m.length
  | [], _, _, _ => Nat.zero_le _
  | x :: l, m, n, h => by
    have hx : x ∈ m := h x List.mem_cons_self
    have hn : x ∉ l := (List.nodup_cons.mp n).1
    have ih := len_le (l := l) (m := m.erase x) (List.nodup_cons.mp n).2 fun y hy => (List.mem_erase_of_ne (fun (e : y = x) => hn (e ▸ hy))).mpr (h y (List.mem_cons_of_mem _ hy))
    rw [List.length_erase_of_mem hx] at ih
    have : 0 < m.length := List.length_pos_of_mem hx
    simp only [List.length_cons]; omega
theorem all_of_len {α : Type} [DecidableEq α] {l m : List α} (n : l.Nodup) (h : ∀ x ∈ l, x ∈ m) (e : m.length ≤ l.length) : ∀ x ∈ m, x ∈ l := fun x hx => Classical.byContradiction fun c => by
  have := len_le (l := x :: l) (m := m) (List.nodup_cons.mpr ⟨c, n⟩) fun y hy => by
    rcases List.mem_cons.mp hy with rfl | hy
    · exact hx
    · exact h y hy
  simp only [List.length_cons] at this; omega
/-- a sublist of a list without doubles is what it holds of it -/
theorem filter_sub {α : Type} [DecidableEq α] : ∀ {l m : List α}, m.Nodup → l.Sublist m → m.filter (fun x => decide (x ∈ l)) = l
  | _, [], _, h => by cases h; rfl
  | l, y :: m, n, h => by
    have n1 : y ∉ m := (List.nodup_cons.mp n).1
    have n2 := (List.nodup_cons.mp n).2
    cases h with
    | cons _ h' =>
      have hy : y ∉ l := fun z => n1 (h'.subset z)
      rw [List.filter_cons, if_neg (by simpa using hy)]
      exact filter_sub n2 h'
    | cons_cons _ h' =>
      rename_i l'
      rw [List.filter_cons, if_pos (by simp)]
      congr 1
      have e := filter_sub n2 h'
      rw [← e]
      apply List.filter_congr
      intro x hx
      have hxy : x ≠ y := fun z => n1 (z ▸ hx)
      simp only [e]
      simp [hxy]
theorem sub_ext {α : Type} [DecidableEq α] {l l' m : List α} (n : m.Nodup) (h : l.Sublist m) (h' : l'.Sublist m) (e : ∀ x ∈ m, x ∈ l ↔ x ∈ l') : l = l' := by
  rw [← filter_sub n h, ← filter_sub n h']
  apply List.filter_congr
  intro x hx
  simp only [e x hx]
/-! ### listings -/
/-- may f be listed behind r, apart from A? -/
def ad (T : List Case) (A r : Lot) (f : Nat) : Bool := !decide (f ∈ r) && !decide (f ∈ A) && T.all fun c => !decide (f ∈ c.2) || c.1.any fun x => decide (x ∈ r)
def Ad (T : List Case) (A r : Lot) (f : Nat) : Prop := f ∉ r ∧ f ∉ A ∧ ∀ c ∈ T, f ∈ c.2 → ∃ x ∈ c.1, x ∈ r
theorem ad_iff {T : List Case} {A r : Lot} {f : Nat} : ad T A r f = true ↔ Ad T A r f := by
  unfold ad Ad
  simp only [Bool.and_eq_true, Bool.not_eq_true', decide_eq_false_iff_not, List.all_eq_true, Bool.or_eq_true, List.any_eq_true, decide_eq_true_eq, and_assoc]
  constructor
  · rintro ⟨h1, h2, h3⟩
    exact ⟨h1, h2, fun c hc hf => (h3 c hc).resolve_left fun z => z hf⟩
  · rintro ⟨h1, h2, h3⟩
    refine ⟨h1, h2, fun c hc => ?_⟩
    by_cases hf : f ∈ c.2
    · exact .inr (h3 c hc hf)
    · exact .inl hf
inductive Lg (F : Lot) (T : List Case) (A : Lot) : Lot → Prop
  | nil : Lg F T A []
  | snoc {r : Lot} {f : Nat} : Lg F T A r → f ∈ F → Ad T A r f → Lg F T A (r ++ [f])
def Mx (F : Lot) (T : List Case) (A r : Lot) : Prop := ∀ f ∈ F, ¬ Ad T A r f
section
variable {F : Lot} {T : List Case} {A B r s : Lot}
theorem Lg.sub (h : Lg F T A r) : ∀ x ∈ r, x ∈ F := by
  induction h with
  | nil => simp
  | snoc _ hf _ ih =>
    intro x hx
    rcases List.mem_append.mp hx with hx | hx
    · exact ih x hx
    · rw [List.mem_singleton.mp hx]; exact hf
theorem Lg.apart (h : Lg F T A r) : ∀ x ∈ r, x ∉ A := by
  induction h with
  | nil => simp
  | snoc _ _ ha ih =>
    intro x hx
    rcases List.mem_append.mp hx with hx | hx
    · exact ih x hx
    · rw [List.mem_singleton.mp hx]; exact ha.2.1
theorem Lg.nodup (h : Lg F T A r) : r.Nodup := by
  induction h with
  | nil => exact List.nodup_nil
  | snoc _ _ ha ih =>
    rw [List.nodup_append]
    refine ⟨ih, by simp, fun a h1 b h2 e => ?_⟩
    rw [List.mem_singleton.mp h2] at e
    exact ha.1 (e ▸ h1)
/-- what is legal lies within what can't be made longer -/
theorem Lg.within (h : Lg F T A r) (hA : ∀ x, x ∈ B → x ∈ A) (m : Mx F T B s) : ∀ x ∈ r, x ∈ s := by
  induction h with
  | nil => simp
  | @snoc r f _ hf ha ih =>
    intro x hx
    rcases List.mem_append.mp hx with hx | hx
    · exact ih x hx
    · rw [List.mem_singleton.mp hx]
      refine Classical.byContradiction fun c => m f hf ⟨c, fun z => ha.2.1 (hA f z), fun k hk hfk => ?_⟩
      obtain ⟨y, h1, h2⟩ := ha.2.2 k hk hfk
      exact ⟨y, h1, ih y h2⟩
theorem Lg.mono (h : Lg F T A r) (hA : ∀ x, x ∈ r → x ∉ B) : Lg F T B r := by
  induction h with
  | nil => exact .nil
  | @snoc r f _ hf ha ih =>
    exact .snoc (ih fun x hx => hA x (List.mem_append.mpr (.inl hx))) hf ⟨ha.1, hA f (by simp), ha.2.2⟩
/-! the walk -/
def nextF (F : Lot) (T : List Case) (A r : Lot) : Option Nat := F.find? (ad T A r)
def walkN (F : Lot) (T : List Case) (A : Lot) : Nat → Lot → Lot
  | 0, r => r
  | n + 1, r => match nextF F T A r with
    | none => r
    | some f => walkN F T A n (r ++ [f])
def walk (F : Lot) (T : List Case) (A : Lot) : Lot := walkN F T A F.length []
theorem next_some {f : Nat} (h : nextF F T A r = some f) : f ∈ F ∧ Ad T A r f := ⟨List.mem_of_find?_eq_some h, ad_iff.mp (List.find?_some h)⟩
theorem next_none (h : nextF F T A r = none) : Mx F T A r := fun f hf z => by
  have := List.find?_eq_none.mp h f hf
  exact this (ad_iff.mpr z)
theorem walkN_lg : ∀ (n : Nat) {r : Lot}, Lg F T A r → Lg F T A (walkN F T A n r)
  | 0, _, h => h
  | n + 1, r, h => by
    unfold walkN
    cases e : nextF F T A r with
    | none => exact h
    | some f => exact walkN_lg n (.snoc h (next_some e).1 (next_some e).2)
theorem walkN_end : ∀ (n : Nat) {r : Lot}, Mx F T A (walkN F T A n r) ∨ (walkN F T A n r).length = r.length + n
  | 0, _ => .inr rfl
  | n + 1, r => by
    unfold walkN
    cases e : nextF F T A r with
    | none => exact .inl (next_none e)
    | some f =>
      rcases walkN_end n (r := r ++ [f]) with h | h
      · exact .inl h
      · refine .inr ?_
        show (walkN F T A n (r ++ [f])).length = _
        rw [h, List.length_append, List.length_singleton]; omega
theorem walk_lg : Lg F T A (walk F T A) := walkN_lg _ .nil
theorem walk_mx : Mx F T A (walk F T A) := by
  rcases walkN_end (F := F) (T := T) (A := A) F.length (r := []) with h | h
  · exact h
  · intro f hf z
    have lg : Lg F T A (walk F T A) := walk_lg
    have hl : F.length ≤ (walk F T A).length := by
      show F.length ≤ (walkN F T A F.length []).length
      rw [h]; simp
    exact z.1 (all_of_len lg.nodup lg.sub hl f hf)
/-- what can't be made longer: one set -/
theorem same_of (h : Lg F T A r) (m : Mx F T A r) : ∀ x, x ∈ r ↔ x ∈ walk F T A :=
  fun x => ⟨h.within (fun _ z => z) walk_mx x, (walk_lg (F := F) (T := T) (A := A)).within (fun _ z => z) m x⟩
/-! closures -/
def others (F l : Lot) : Lot := F.filter fun x => !decide (x ∈ l)
theorem mem_others {x : Nat} {l : Lot} : x ∈ others F l ↔ x ∈ F ∧ x ∉ l := by simp [others]
def cl (F : Lot) (T : List Case) (A : Lot) : Lot := others F (walk F T A)
theorem mem_cl {x : Nat} : x ∈ cl F T A ↔ x ∈ F ∧ x ∉ walk F T A := mem_others
theorem cl_sub : (cl F T A).Sublist F := List.filter_sublist
theorem cl_holds {x : Nat} (hA : x ∈ A) (hF : x ∈ F) : x ∈ cl F T A := mem_cl.mpr ⟨hF, fun z => (walk_lg (F := F) (T := T) (A := A)).apart x z hA⟩
theorem cl_mono (h : ∀ x ∈ A, x ∈ B) {x : Nat} (hx : x ∈ cl F T A) : x ∈ cl F T B := by
  obtain ⟨h1, h2⟩ := mem_cl.mp hx
  exact mem_cl.mpr ⟨h1, fun z => h2 ((walk_lg (F := F) (T := T) (A := B)).within (fun y hy => h y hy) walk_mx x z)⟩
/-- why a field that is not to be avoided is held -/
theorem why_held {x : Nat} (hx : x ∈ cl F T A) (hA : x ∉ A) : ∃ c ∈ T, x ∈ c.2 ∧ ∀ y ∈ c.1, y ∉ walk F T A := by
  obtain ⟨h1, h2⟩ := mem_cl.mp hx
  have m := walk_mx (F := F) (T := T) (A := A) x h1
  refine Classical.byContradiction fun c => m ⟨h2, hA, fun k hk hxk => Classical.byContradiction fun d => c ⟨k, hk, hxk, fun y hy z => d ⟨y, hy, z⟩⟩⟩
/-- closed -/
def Cd (F : Lot) (T : List Case) (A : Lot) : Prop := ∀ x ∈ F, x ∉ A → x ∈ walk F T A
def Ends (F : Lot) (T : List Case) : Prop := ∀ x ∈ F, x ∈ walk F T []
theorem cl_of_cd (h : Cd F T A) {x : Nat} (hx : x ∈ cl F T A) : x ∈ A := by
  obtain ⟨h1, h2⟩ := mem_cl.mp hx
  exact Classical.byContradiction fun c => h2 (h x h1 c)
theorem cd_cl : Cd F T (cl F T A) := fun x hx hn => by
  have hw : x ∈ walk F T A := Classical.byContradiction fun c => hn (mem_cl.mpr ⟨hx, c⟩)
  have lg : Lg F T (cl F T A) (walk F T A) := (walk_lg (F := F) (T := T) (A := A)).mono fun y hy z => (mem_cl.mp z).2 hy
  exact lg.within (fun _ z => z) walk_mx x hw
theorem cd_nil (h : Ends F T) : Cd F T [] := fun x hx _ => h x hx
theorem cd_all : Cd F T F := fun x hx n => absurd hx n
theorem cd_common (hA : Cd F T A) (hB : Cd F T B) : Cd F T (A.filter fun x => decide (x ∈ B)) := fun x hx hn => by
  by_cases h : x ∈ A
  · have hb : x ∉ B := fun z => hn (by simp [h, z])
    exact (walk_lg (F := F) (T := T) (A := B)).within (fun y hy => by simpa using (List.mem_filter.mp hy).2) walk_mx x (hB x hx hb)
  · exact (walk_lg (F := F) (T := T) (A := A)).within (fun y hy => (List.mem_filter.mp hy).1) walk_mx x (hA x hx h)
/-- a closed lot that is not all: one field more is closed -/
theorem cd_step (hA : Cd F T A) (hne : ∃ x ∈ F, x ∉ A) : ∃ a ∈ F, a ∉ A ∧ ∀ B : Lot, (∀ x, x ∈ B ↔ x ∈ A ∨ x = a) → Cd F T B := by
  have key : ∀ {r : Lot}, Lg F T A r → r ≠ [] → ∃ r' a, r = r' ++ [a] ∧ Lg F T A r' ∧ a ∈ F ∧ Ad T A r' a := by
    intro r h hn
    cases h with
    | nil => exact absurd rfl hn
    | snoc h hf ha => exact ⟨_, _, rfl, h, hf, ha⟩
  obtain ⟨x0, hx0, hx0A⟩ := hne
  have hw : walk F T A ≠ [] := fun e => by
    have := hA x0 hx0 hx0A
    rw [e] at this; simp at this
  obtain ⟨r', a, e, lg, ha, had⟩ := key (walk_lg (F := F) (T := T) (A := A)) hw
  refine ⟨a, ha, had.2.1, fun B hB x hx hn => ?_⟩
  have hxA : x ∉ A := fun z => hn ((hB x).mpr (.inl z))
  have hxa : x ≠ a := fun z => hn ((hB x).mpr (.inr z))
  have hx' : x ∈ r' := by
    have := hA x hx hxA
    rw [e] at this
    rcases List.mem_append.mp this with h | h
    · exact h
    · exact absurd (List.mem_singleton.mp h) hxa
  refine (lg.mono (B := B) fun y hy z => ?_).within (fun _ z => z) walk_mx x hx'
  rcases (hB y).mp z with z | z
  · exact lg.apart y hy z
  · exact had.1 (z ▸ hy)
end
end M80
/-! # lots as masks -/
namespace M80
open PySem PySem.Spec
def subs : List Nat → List Lot
  | [] => [[]]
  | x :: r => subs r ++ (subs r).map (x :: ·)
theorem mem_subs : ∀ {m l : List Nat}, l.Sublist m → l ∈ subs m
  | [], l, h => by cases h; simp [subs]
  | x :: r, l, h => by
    unfold subs
    cases h with
    | cons _ h => exact List.mem_append.mpr (.inl (mem_subs h))
    | cons_cons _ h => exact List.mem_append.mpr (.inr (List.mem_map.mpr ⟨_, mem_subs h, rfl⟩))
def wt (c : Nat) : Int := match c with
  | 97 => 1 | 98 => 2 | 99 => 4 | 100 => 8 | 101 => 16 | 102 => 32 | _ => 0
def msk (l : Lot) : Int := (l.map wt).sum
theorem msk_cons (c : Nat) (l : Lot) : msk (c :: l) = wt c + msk l := by simp [msk]
theorem msk_snoc (l : Lot) (c : Nat) : msk (l ++ [c]) = msk l + wt c := by simp [msk]
theorem msk_perm {l m : Lot} (h : l.Perm m) : msk l = msk m := by
  induction h with
  | nil => rfl
  | cons x _ ih => rw [msk_cons, msk_cons, ih]
  | swap x y l => simp only [msk_cons]; omega
  | trans _ _ h1 h2 => exact h1.trans h2
/-- a lot in order -/
def srt (r : Lot) : Lot := AB.filter fun x => decide (x ∈ r)
theorem srt_sub (r : Lot) : (srt r).Sublist AB := List.filter_sublist
theorem mem_srt {r : Lot} (h : ∀ x ∈ r, x ∈ AB) {x : Nat} : x ∈ srt r ↔ x ∈ r := by
  unfold srt
  rw [List.mem_filter, decide_eq_true_iff]
  exact ⟨fun z => z.2, fun z => ⟨h x z, z⟩⟩
theorem srt_perm {r : Lot} (n : r.Nodup) (h : ∀ x ∈ r, x ∈ AB) : r.Perm (srt r) := (List.perm_ext_iff_of_nodup n ((srt_sub r).nodup (by decide))).mpr fun _ => (mem_srt h).symm
theorem msk_srt {r : Lot} (n : r.Nodup) (h : ∀ x ∈ r, x ∈ AB) : msk r = msk (srt r) := msk_perm (srt_perm n h)
/-! facts of the 64 lots -/
theorem and_dec : ((subs AB).all fun a => (subs AB).all fun b => decide (Builtin.bitAnd (msk a) (msk b) = msk (a.filter fun x => decide (x ∈ b)))) = true := by decide +kernel
theorem or_dec : ((subs AB).all fun a => (subs AB).all fun b => decide (Builtin.bitOr (msk a) (msk b) = msk (AB.filter fun x => decide (x ∈ a ∨ x ∈ b)))) = true := by decide +kernel
theorem inj_dec : ((subs AB).all fun a => (subs AB).all fun b => !decide (msk a = msk b) || decide (a = b)) = true := by decide +kernel
theorem bit_dec : ((subs AB).all fun a => AB.all fun x => decide (Builtin.bitAnd (msk a) (wt x) = 0) == !decide (x ∈ a)) = true := by decide +kernel
theorem bit_dec' : ((subs AB).all fun a => AB.all fun x => decide (Builtin.bitAnd (wt x) (msk a) = 0) == !decide (x ∈ a)) = true := by decide +kernel
theorem msk_and {a b : Lot} (ha : a.Sublist AB) (hb : b.Sublist AB) : Builtin.bitAnd (msk a) (msk b) = msk (a.filter fun x => decide (x ∈ b)) :=
  of_decide_eq_true (List.all_eq_true.mp (List.all_eq_true.mp and_dec a (mem_subs ha)) b (mem_subs hb))
theorem msk_or {a b : Lot} (ha : a.Sublist AB) (hb : b.Sublist AB) : Builtin.bitOr (msk a) (msk b) = msk (AB.filter fun x => decide (x ∈ a ∨ x ∈ b)) :=
  of_decide_eq_true (List.all_eq_true.mp (List.all_eq_true.mp or_dec a (mem_subs ha)) b (mem_subs hb))
theorem msk_inj {a b : Lot} (ha : a.Sublist AB) (hb : b.Sublist AB) (e : msk a = msk b) : a = b := by
  have := List.all_eq_true.mp (List.all_eq_true.mp inj_dec a (mem_subs ha)) b (mem_subs hb)
  simpa [e] using this
theorem msk_bit {a : Lot} {x : Nat} (ha : a.Sublist AB) (hx : x ∈ AB) : (Builtin.bitAnd (msk a) (wt x) = 0) ↔ x ∉ a := by
  have := List.all_eq_true.mp (List.all_eq_true.mp bit_dec a (mem_subs ha)) x hx
  have e := eq_of_beq this
  by_cases h : x ∈ a <;> simp [h] at e ⊢ <;> exact e
theorem msk_bit' {a : Lot} {x : Nat} (ha : a.Sublist AB) (hx : x ∈ AB) : (Builtin.bitAnd (wt x) (msk a) = 0) ↔ x ∉ a := by
  have := List.all_eq_true.mp (List.all_eq_true.mp bit_dec' a (mem_subs ha)) x hx
  have e := eq_of_beq this
  by_cases h : x ∈ a <;> simp [h] at e ⊢ <;> exact e
theorem msk_nonneg : ∀ l : Lot, 0 ≤ msk l
  | [] => by decide
  | c :: r => by
    have := msk_nonneg r
    have h : 0 ≤ wt c := by unfold wt; split <;> decide
    rw [msk_cons]; omega
theorem wt_pos {c : Nat} (h : c ∈ AB) : 0 < wt c := by
  have : (AB.all fun c => decide (0 < wt c)) = true := by decide
  exact of_decide_eq_true (List.all_eq_true.mp this c h)
/-- common and not: a nodup list r against a lot -/
theorem and_zero {a r : Lot} (ha : a.Sublist AB) (n : r.Nodup) (h : ∀ x ∈ r, x ∈ AB) : (Builtin.bitAnd (msk a) (msk r) = 0) ↔ ∀ x ∈ a, x ∉ r := by
  rw [msk_srt n h, msk_and ha (srt_sub r)]
  constructor
  · intro e x hx hr
    have h0 : a.filter (fun x => decide (x ∈ srt r)) = [] := msk_inj (List.Sublist.trans List.filter_sublist ha) (List.nil_sublist _) (e.trans (by decide))
    have := List.filter_eq_nil_iff.mp h0 x hx
    exact this (by simpa using (mem_srt h).mpr hr)
  · intro z
    have : a.filter (fun x => decide (x ∈ srt r)) = [] := List.filter_eq_nil_iff.mpr fun x hx => by simpa using fun q => z x hx ((mem_srt h).mp q)
    rw [this]; decide
theorem free_zero {A r : Lot} {f : Nat} (hA : A.Sublist AB) (n : r.Nodup) (h : ∀ x ∈ r, x ∈ AB) (hf : f ∈ AB) : (Builtin.bitAnd (wt f) (Builtin.bitOr (msk r) (msk A)) = 0) ↔ f ∉ r ∧ f ∉ A := by
  rw [msk_srt n h, msk_or (srt_sub r) hA, msk_bit' List.filter_sublist hf]
  simp only [List.mem_filter, decide_eq_true_eq, mem_srt h, hf, true_and, not_or]
theorem step_msk {a b : Lot} {x : Nat} (ha : a.Sublist AB) (hb : b.Sublist AB) (hx : x ∈ AB) (hn : x ∉ a) (e : ∀ y, y ∈ b ↔ y ∈ a ∨ y = x) : msk a + wt x = msk b := by
  rw [← msk_snoc]
  refine msk_perm ((List.perm_ext_iff_of_nodup ?_ (hb.nodup (by decide))).mpr fun y => ?_)
  · rw [List.nodup_append]
    refine ⟨ha.nodup (by decide), by simp, fun u hu v hv q => ?_⟩
    rw [List.mem_singleton.mp hv] at q
    exact hn (q ▸ hu)
  · rw [List.mem_append, List.mem_singleton, e]
end M80
namespace DL
open PySem PySem.Spec PyProof.Rows L2 M80
section
variable {K : PySem.W.Frag} {P H : Hp} {Γ Γ' : List Sl} {μ μ' : Mem} {te ta tb tk to : TE} {tt : TT} {t : TA} {g : TG} {R : Sl → Prop} {RM : Sl → Mem → Prop} {d : Dat} {s : Sl} {ds es : List Dat} {O : Ou}
theorem et_yes : EvB K tYes Γ μ true := fun σ P H e x m Q q => q true P H (.refl x m) rfl
theorem ev_dnew : EvD K tDNewK Γ μ (.dct []) := fun σ P H e x m Q q => fun p hp => by
  have st : Stp [] P H (upd P p (.dK [])) (upd H p (.dK [])) := .new x hp
  exact q (.ref p) _ _ (.dat (.dct [])) (.of0 st m) (Rp.dct upd_same .nil) rfl
def enD (ds : List Dat) : List Dat := ds.mapIdx fun i d => .tup [.int (i : Nat), d]
theorem enD_get {i : Nat} {d : Dat} (h : (enD ds)[i]? = some d) : ∃ e, ds[i]? = some e ∧ d = .tup [.int (i : Nat), e] := by
  unfold enD at h
  rw [List.getElem?_mapIdx] at h
  cases w : ds[i]? with
  | none => rw [w] at h; cases h
  | some e => rw [w] at h; exact ⟨e, rfl, (Option.some.inj h).symm⟩
theorem ei_enum (h : EvAs K t Γ μ [.dat (.lst ds)]) : EvI K (iEnum K t) Γ μ (fun _ => True) (fun z => z = enD ds) := fun σ P H e x m R q =>
  h σ P H e x m _ fun vs P1 H1 ss g1 r1 hs => by
    subst hs
    obtain ⟨v, rfl, r⟩ := one_of r1
    cases r with
    | lst hl ra =>
      rename_i a xs
      refine ⟨a, xs, rfl, .of (g1.ph _ _ hl), q _ P1 H1 _ g1 rfl fun i P2 H2 x2 hg => ⟨fun d hd => ?_, fun hi => ?_⟩⟩
      · have hl' : SqL K H2 a xs := .of (x2 _ _ (hg.1 _ _ hl))
        obtain ⟨e', he, rfl⟩ := enD_get hd
        obtain ⟨v, h1, h2⟩ := ra.get he
        refine ⟨⟨xs, v, hl', h1⟩, fun y H' hy => ?_⟩
        obtain ⟨T, x', rfl, hT, rfl, hx⟩ := hy
        have := hx xs hl'
        rw [h1] at this
        cases this
        have st : Stp [] P2 H2 (upd P2 T (.tup [.int (i : Nat), v])) (upd H2 T (.tup [.int (i : Nat), v])) := .new x2 hT
        exact ⟨_, st, Rp.tup (.of upd_same) (.cons (.int _) (.cons ((h2.mono hg.1).mono st.pp) .nil))⟩
      · have hl' : SqL K H2 a xs := .of (x2 _ _ (hg.1 _ _ hl))
        refine ⟨xs, hl', ?_⟩
        rw [ra.length]
        simpa [enD] using hi
theorem chs_get {l : List Nat} {i : Nat} {d : Dat} (h : (chs l)[i]? = some d) : ∃ c, l[i]? = some c ∧ d = tx [c] := by
  unfold chs at h
  rw [List.getElem?_map] at h
  cases w : l[i]? with
  | none => rw [w] at h; cases h
  | some c => rw [w] at h; exact ⟨c, rfl, (Option.some.inj h).symm⟩
theorem chs_len {l : List Nat} : (chs l).length = l.length := by simp [chs]
/-! lots in ascending order -/
abbrev st (l : List Nat) : Str := ⟨l.toArray⟩
def leL (a b : List Nat) : Bool := leK (st a) (st b)
def sortL (ls : List Lot) : List Lot := ls.mergeSort leL
theorem sort_txs (ls : List Lot) : ((ls.map st).mergeSort leK).map Dat.str = (sortL ls).map tx := by
  unfold sortL
  rw [← List.map_mergeSort (r := leL) (s := leK) (f := st) (fun _ _ _ _ => rfl), List.map_map]
  rfl
theorem ev_sortL {f : Addr} {ls : List Lot} (h : EvAs K t Γ μ [.dat (.lst (ls.map tx))]) (hl : ∀ x ∈ ls, x.length ≤ 1000000) : EvD K (tCKw (rSortK K f) t (tCons (tC (.ref f)) tNil)) Γ μ (.lst ((sortL ls).map tx)) := by
  rw [← sort_txs]
  refine ev_sortK (xs := ls.map st) ?_ fun x hx => ?_
  · rw [List.map_map]; exact h
  · obtain ⟨l, hl', rfl⟩ := List.mem_map.mp hx
    rw [len_tx]; exact hl l hl'
theorem sortL_perm (ls : List Lot) : (sortL ls).Perm ls := List.mergeSort_perm ..
theorem mem_sortL {ls : List Lot} {l : Lot} : l ∈ sortL ls ↔ l ∈ ls := (sortL_perm ls).mem_iff
theorem sortL_len {ls : List Lot} : (sortL ls).length = ls.length := (sortL_perm ls).length_eq
theorem sortL_nodup {ls : List Lot} (h : ls.Nodup) : (sortL ls).Nodup := (sortL_perm ls).nodup_iff.mpr h
end
end DL
/-! ### a hook whose fragment is made by hand, its list forced: what the module's names reach: defs, classes, their namespaces, methods, code objects -/
namespace HM
open PySem PySem.Spec PyProof.Rows L2
def frAddr {α : Type} (l : List Addr) (k : List Addr → α) : α := match l with
  | [] => k []
  | a :: r => HandSHeadRun.frNat a fun a => frAddr r fun r => k (a :: r)
theorem frAddr_eq {α : Type} : ∀ (l : List Addr) (k : List Addr → α), frAddr l k = k l
  | [], _ => rfl
  | a :: r, k => by
    show HandSHeadRun.frNat a (fun a => frAddr r fun r => k (a :: r)) = k (a :: r)
    rw [HandSHeadRun.frNat_eq, frAddr_eq r]
def frFrag {α : Type} (g : Addr → Option Obj) (l : List Addr) (k : PySem.W.Frag → α) : α := match l with
  | [] => k []
  | a :: r => match g a with
    | some ⟨c, d, dt, s⟩ => frFrag g r fun K => k ((a, ⟨c, d, dt, s⟩) :: K)
    | none => frFrag g r k
theorem frFrag_eq {α : Type} (g : Addr → Option Obj) : ∀ (l : List Addr) (k : PySem.W.Frag → α), frFrag g l k = k (He.frG g l)
  | [], _ => rfl
  | a :: r, k => by
    show (match g a with
      | some ⟨c, d, dt, s⟩ => frFrag g r fun K => k ((a, ⟨c, d, dt, s⟩) :: K)
      | none => frFrag g r k) = k (He.frG g (a :: r))
    have e : He.frG g (a :: r) = match g a with
      | some o => (a, o) :: He.frG g r
      | none => He.frG g r := by
      unfold He.frG
      rw [List.filterMap_cons]
      cases g a <;> rfl
    rw [e]
    cases g a with
    | none => exact frFrag_eq g r k
    | some o => obtain ⟨c, d, dt, s⟩ := o; exact frFrag_eq g r _
def refsA (g : Addr → Option Obj) (a : Addr) : List Addr := match g a with
  | some o => He.refsO o
  | none => []
def nsA (g : Addr → Option Obj) (a : Addr) : List Addr := match g a with
  | some o => (match o.data with
    | .cls cd => [cd.ns]
    | _ => [])
  | none => []
def codeA (g : Addr → Option Obj) (a : Addr) : List Addr := match g a with
  | some o => (match o.data with
    | .func fd => He.refV fd.code
    | _ => [])
  | none => []
def obsM {α : Type} (ob : PySem.W.Frag → α) (g : Addr → Option Obj) : α :=
  frAddr (refsA g mainGlobals) fun l1 => frAddr (l1.flatMap (nsA g)) fun l2 => frAddr (l2.flatMap (refsA g)) fun l3 => frAddr ((l1 ++ l3).flatMap (codeA g)) fun l4 =>
    frFrag g (mainGlobals :: l1 ++ l2 ++ l3 ++ l4) ob
theorem obsM_ex {α : Type} (ob : PySem.W.Frag → α) (g : Addr → Option Obj) : ∃ as, obsM ob g = ob (He.frG g as) := by
  unfold obsM
  rw [frAddr_eq, frAddr_eq, frAddr_eq, frAddr_eq, frFrag_eq]
  exact ⟨_, rfl⟩
/-- the facts: names, defs, tables, one more Bool -/
abbrev AlM : Type := He.AlT × Bool
def obM (fa : List He.Fa) (fn : List He.DefD) (ts : List He.Tab) (ex : PySem.W.Frag → Bool) (K : PySem.W.Frag) : AlM := (He.obsT fa fn ts K, ex K)
def valM (fn : List He.DefD) (ts : List He.Tab) (w : World) : AlM := (He.valT fn ts w, true)
def SaysM (fa : List He.Fa) (fn : List He.DefD) (ts : List He.Tab) (ex : PySem.W.Frag → Bool) (w : World) (K : PySem.W.Frag) : Prop := obM fa fn ts ex K = valM fn ts w
def hookM (fa : List He.Fa) (fn : List He.DefD) (ts : List He.Tab) (ex : PySem.W.Frag → Bool) : PySem.W.Hook where
  α := AlM
  obs := fun s => obsM (obM fa fn ts ex) s.heap.get?
  val := fun w => valM fn ts w
  says := fun w h => ∃ K : PySem.W.Frag, K.In h ∧ SaysM fa fn ts ex w K
  of := fun w s e => by
    obtain ⟨as, ha⟩ := obsM_ex (obM fa fn ts ex) s.heap.get?
    exact ⟨_, He.frG_in, ha.symm.trans e⟩
  keeps := fun _ _ _ ⟨K, hK, c⟩ k => ⟨K, PySem.W.Frag.In.keeps hK k, c⟩
theorem obsM_eq {fa : List He.Fa} {fn : List He.DefD} {ts : List He.Tab} {ex : PySem.W.Frag → Bool} {s : PySem.W.SharedT} : obsM (obM fa fn ts ex) (HandSHeadRun.getT s) = (hookM fa fn ts ex).obs s.abs := by
  have e : HandSHeadRun.getT s = s.abs.heap.get? := funext fun a => HandSHeadRun.getT_eq s a
  show _ = obsM (obM fa fn ts ex) s.abs.heap.get?
  rw [e]
end HM
namespace KH
open PySem PySem.Spec PyProof.Rows L2
-- printed by gen_head.py
/-! ### the text by places -/
def top (i : Nat) : Stmt := PySem.Challenge.pw_outweighed_k80_verdicts_that_are_refused.main.body.getD i (.Pass ⟨0, 0, 0, 0⟩)
abbrev s_m_OutweighedError_init : Stmt := inClass (top 2) 0
abbrev s_f_lot_on : Stmt := top 14
abbrev s_f_shared : Stmt := top 15
abbrev s_f_lot_place : Stmt := top 16
abbrev s_f_parts_of : Stmt := top 17
abbrev s_f_check_fields : Stmt := top 18
abbrev s_f_check_lot : Stmt := top 19
abbrev s_f_sort_lots : Stmt := top 20
abbrev s_f_sublots : Stmt := top 21
abbrev s_f_case_on : Stmt := top 23
abbrev s_f_check_case : Stmt := top 24
abbrev s_f_check_own : Stmt := top 25
abbrev s_f_lot_mask : Stmt := top 29
abbrev s_f_mask_lot : Stmt := top 30
abbrev s_f_missing_commons : Stmt := top 31
abbrev s_f_stepless_masks : Stmt := top 32
abbrev s_f_check_frame : Stmt := top 33
abbrev s_f_common_lots : Stmt := top 34
abbrev s_m_Steady_init : Stmt := inClass (top 35) 0
abbrev s_m_Steady_closed : Stmt := inClass (top 35) 2
abbrev s_m_Steady_cl : Stmt := inClass (top 35) 3
abbrev s_m_Steady_says : Stmt := inClass (top 35) 6
abbrev s_m_Steady_len : Stmt := inClass (top 35) 8
abbrev s_m_Steady_iter : Stmt := inClass (top 35) 9
abbrev s_m_Steady_contains : Stmt := inClass (top 35) 10
abbrev s_m_Steady_eq : Stmt := inClass (top 35) 11
abbrev s_m_Steady_and : Stmt := inClass (top 35) 12
abbrev s_f_check_told : Stmt := top 39
abbrev s_f_mark_of : Stmt := top 40
abbrev s_f_needs_of : Stmt := top 41
abbrev s_f_next_field : Stmt := top 42
abbrev s_f_walk_on : Stmt := top 43
abbrev s_f_walk_avoiding : Stmt := top 44
abbrev s_f_others_of : Stmt := top 45
abbrev s_f_unlisted : Stmt := top 46
abbrev s_f_check_ends : Stmt := top 48
abbrev s_f_rule_over : Stmt := top 49
abbrev s_f_over : Stmt := top 50
abbrev s_f_all_within : Stmt := top 51
abbrev s_f_check_claim : Stmt := top 52
abbrev s_f_reason_index : Stmt := top 53
abbrev s_f_reasons_for : Stmt := top 54
abbrev s_f_claim_paper : Stmt := top 55
abbrev s_f_stuck_paper : Stmt := top 56
abbrev s_f_said_paper : Stmt := top 59
abbrev s_f_against_paper : Stmt := top 60
abbrev s_m_Asked_init : Stmt := inClass (top 61) 0
abbrev s_m_Asked_len : Stmt := inClass (top 61) 2
abbrev s_m_Asked_verdicts : Stmt := inClass (top 61) 3
abbrev s_m_Asked_yes_cases : Stmt := inClass (top 61) 4
abbrev s_m_Asked_no_cases : Stmt := inClass (top 61) 5
abbrev s_m_Asked_tell : Stmt := inClass (top 61) 6
abbrev s_m_Asked_take_back : Stmt := inClass (top 61) 7
abbrev s_m_Asked_least : Stmt := inClass (top 61) 8
abbrev s_f_is_whole : Stmt := top 64
abbrev s_f_is_place : Stmt := top 65
abbrev s_f_is_several : Stmt := top 66
abbrev s_f_has_form : Stmt := top 67
abbrev s_f_mask_in : Stmt := top 68
abbrev s_f_is_field_lot : Stmt := top 69
abbrev s_f_is_case_in : Stmt := top 70
abbrev s_f_is_told_in : Stmt := top 71
abbrev s_f_holds_all : Stmt := top 72
abbrev s_f_reasons_fit : Stmt := top 73
abbrev s_f_shows_hold : Stmt := top 75
abbrev s_f_shows_stuck : Stmt := top 76
abbrev s_f__law_mix : Stmt := top 78
abbrev s_f__law_store : Stmt := top 79
abbrev s_f__law_take : Stmt := top 80
abbrev s_f__law_pick : Stmt := top 81
abbrev s_f__law_shuffled : Stmt := top 82
abbrev s_f__law_common : Stmt := top 83
abbrev s_f__law_less : Stmt := top 84
abbrev s_f__law_part : Stmt := top 85
abbrev s_f__law_lot_key : Stmt := top 86
abbrev s_f__law_sublots : Stmt := top 87
abbrev s_f__law_case : Stmt := top 88
abbrev s_f__law_claim : Stmt := top 89
abbrev s_f__law_listing : Stmt := top 90
abbrev s_f__law_same : Stmt := top 91
abbrev s_f__law_same_plain : Stmt := top 92
abbrev s_f__law_letters : Stmt := top 93
abbrev s_f__law_why : Stmt := top 94
abbrev s_f__law_yes_list : Stmt := top 95
abbrev s_f__law_due : Stmt := top 96
abbrev s_f__law_tell : Stmt := top 97
abbrev s_f__law_judged : Stmt := top 98
abbrev s_f__law_stays : Stmt := top 99
abbrev s_f__law_step : Stmt := top 100
abbrev s_f__law_least_holds : Stmt := top 101
abbrev s_f__law_steps : Stmt := top 102
abbrev s_f__law_first_steps : Stmt := top 103
abbrev s_f_law : Stmt := top 104
/-! ### facts by names -/
def d_m_OutweighedError_init : He.DefD := ⟨("OutweighedError", some "__init__"), "__init__", "OutweighedError.__init__", defArgs s_m_OutweighedError_init, defBody s_m_OutweighedError_init, defScope s_m_OutweighedError_init, [], []⟩
def d_f_lot_on : He.DefD := ⟨("lot_on", none), "lot_on", "lot_on", defArgs s_f_lot_on, defBody s_f_lot_on, defScope s_f_lot_on, [], []⟩
def d_f_shared : He.DefD := ⟨("shared", none), "shared", "shared", defArgs s_f_shared, defBody s_f_shared, defScope s_f_shared, [], []⟩
def d_f_lot_place : He.DefD := ⟨("lot_place", none), "lot_place", "lot_place", defArgs s_f_lot_place, defBody s_f_lot_place, defScope s_f_lot_place, [], []⟩
def d_f_parts_of : He.DefD := ⟨("parts_of", none), "parts_of", "parts_of", defArgs s_f_parts_of, defBody s_f_parts_of, defScope s_f_parts_of, [], []⟩
def d_f_check_fields : He.DefD := ⟨("check_fields", none), "check_fields", "check_fields", defArgs s_f_check_fields, defBody s_f_check_fields, defScope s_f_check_fields, [], []⟩
def d_f_check_lot : He.DefD := ⟨("check_lot", none), "check_lot", "check_lot", defArgs s_f_check_lot, defBody s_f_check_lot, defScope s_f_check_lot, [], []⟩
def d_f_sort_lots : He.DefD := ⟨("sort_lots", none), "sort_lots", "sort_lots", defArgs s_f_sort_lots, defBody s_f_sort_lots, defScope s_f_sort_lots, [], []⟩
def d_f_sublots : He.DefD := ⟨("sublots", none), "sublots", "sublots", defArgs s_f_sublots, defBody s_f_sublots, defScope s_f_sublots, [], []⟩
def d_f_case_on : He.DefD := ⟨("case_on", none), "case_on", "case_on", defArgs s_f_case_on, defBody s_f_case_on, defScope s_f_case_on, [], []⟩
def d_f_check_case : He.DefD := ⟨("check_case", none), "check_case", "check_case", defArgs s_f_check_case, defBody s_f_check_case, defScope s_f_check_case, [], []⟩
def d_f_check_own : He.DefD := ⟨("check_own", none), "check_own", "check_own", defArgs s_f_check_own, defBody s_f_check_own, defScope s_f_check_own, [], []⟩
def d_f_lot_mask : He.DefD := ⟨("lot_mask", none), "lot_mask", "lot_mask", defArgs s_f_lot_mask, defBody s_f_lot_mask, defScope s_f_lot_mask, [], []⟩
def d_f_mask_lot : He.DefD := ⟨("mask_lot", none), "mask_lot", "mask_lot", defArgs s_f_mask_lot, defBody s_f_mask_lot, defScope s_f_mask_lot, [], []⟩
def d_f_missing_commons : He.DefD := ⟨("missing_commons", none), "missing_commons", "missing_commons", defArgs s_f_missing_commons, defBody s_f_missing_commons, defScope s_f_missing_commons, [], []⟩
def d_f_stepless_masks : He.DefD := ⟨("stepless_masks", none), "stepless_masks", "stepless_masks", defArgs s_f_stepless_masks, defBody s_f_stepless_masks, defScope s_f_stepless_masks, [], []⟩
def d_f_check_frame : He.DefD := ⟨("check_frame", none), "check_frame", "check_frame", defArgs s_f_check_frame, defBody s_f_check_frame, defScope s_f_check_frame, [], []⟩
def d_f_common_lots : He.DefD := ⟨("common_lots", none), "common_lots", "common_lots", defArgs s_f_common_lots, defBody s_f_common_lots, defScope s_f_common_lots, [], []⟩
def d_m_Steady_init : He.DefD := ⟨("Steady", some "__init__"), "__init__", "Steady.__init__", defArgs s_m_Steady_init, defBody s_m_Steady_init, defScope s_m_Steady_init, [], []⟩
def d_m_Steady_closed : He.DefD := ⟨("Steady", some "closed"), "closed", "Steady.closed", defArgs s_m_Steady_closed, defBody s_m_Steady_closed, defScope s_m_Steady_closed, [], []⟩
def d_m_Steady_cl : He.DefD := ⟨("Steady", some "cl"), "cl", "Steady.cl", defArgs s_m_Steady_cl, defBody s_m_Steady_cl, defScope s_m_Steady_cl, [], []⟩
def d_m_Steady_says : He.DefD := ⟨("Steady", some "says"), "says", "Steady.says", defArgs s_m_Steady_says, defBody s_m_Steady_says, defScope s_m_Steady_says, [], []⟩
def d_m_Steady_len : He.DefD := ⟨("Steady", some "__len__"), "__len__", "Steady.__len__", defArgs s_m_Steady_len, defBody s_m_Steady_len, defScope s_m_Steady_len, [], []⟩
def d_m_Steady_iter : He.DefD := ⟨("Steady", some "__iter__"), "__iter__", "Steady.__iter__", defArgs s_m_Steady_iter, defBody s_m_Steady_iter, defScope s_m_Steady_iter, [], []⟩
def d_m_Steady_contains : He.DefD := ⟨("Steady", some "__contains__"), "__contains__", "Steady.__contains__", defArgs s_m_Steady_contains, defBody s_m_Steady_contains, defScope s_m_Steady_contains, [], []⟩
def d_m_Steady_eq : He.DefD := ⟨("Steady", some "__eq__"), "__eq__", "Steady.__eq__", defArgs s_m_Steady_eq, defBody s_m_Steady_eq, defScope s_m_Steady_eq, [], []⟩
def d_m_Steady_and : He.DefD := ⟨("Steady", some "__and__"), "__and__", "Steady.__and__", defArgs s_m_Steady_and, defBody s_m_Steady_and, defScope s_m_Steady_and, [], []⟩
def d_f_check_told : He.DefD := ⟨("check_told", none), "check_told", "check_told", defArgs s_f_check_told, defBody s_f_check_told, defScope s_f_check_told, [], []⟩
def d_f_mark_of : He.DefD := ⟨("mark_of", none), "mark_of", "mark_of", defArgs s_f_mark_of, defBody s_f_mark_of, defScope s_f_mark_of, [], []⟩
def d_f_needs_of : He.DefD := ⟨("needs_of", none), "needs_of", "needs_of", defArgs s_f_needs_of, defBody s_f_needs_of, defScope s_f_needs_of, [], []⟩
def d_f_next_field : He.DefD := ⟨("next_field", none), "next_field", "next_field", defArgs s_f_next_field, defBody s_f_next_field, defScope s_f_next_field, [], []⟩
def d_f_walk_on : He.DefD := ⟨("walk_on", none), "walk_on", "walk_on", defArgs s_f_walk_on, defBody s_f_walk_on, defScope s_f_walk_on, [], []⟩
def d_f_walk_avoiding : He.DefD := ⟨("walk_avoiding", none), "walk_avoiding", "walk_avoiding", defArgs s_f_walk_avoiding, defBody s_f_walk_avoiding, defScope s_f_walk_avoiding, [], []⟩
def d_f_others_of : He.DefD := ⟨("others_of", none), "others_of", "others_of", defArgs s_f_others_of, defBody s_f_others_of, defScope s_f_others_of, [], []⟩
def d_f_unlisted : He.DefD := ⟨("unlisted", none), "unlisted", "unlisted", defArgs s_f_unlisted, defBody s_f_unlisted, defScope s_f_unlisted, [], []⟩
def d_f_check_ends : He.DefD := ⟨("check_ends", none), "check_ends", "check_ends", defArgs s_f_check_ends, defBody s_f_check_ends, defScope s_f_check_ends, [], []⟩
def d_f_rule_over : He.DefD := ⟨("rule_over", none), "rule_over", "rule_over", defArgs s_f_rule_over, defBody s_f_rule_over, defScope s_f_rule_over, [], []⟩
def d_f_over : He.DefD := ⟨("over", none), "over", "over", defArgs s_f_over, defBody s_f_over, defScope s_f_over, [], []⟩
def d_f_all_within : He.DefD := ⟨("all_within", none), "all_within", "all_within", defArgs s_f_all_within, defBody s_f_all_within, defScope s_f_all_within, [], []⟩
def d_f_check_claim : He.DefD := ⟨("check_claim", none), "check_claim", "check_claim", defArgs s_f_check_claim, defBody s_f_check_claim, defScope s_f_check_claim, [], []⟩
def d_f_reason_index : He.DefD := ⟨("reason_index", none), "reason_index", "reason_index", defArgs s_f_reason_index, defBody s_f_reason_index, defScope s_f_reason_index, [], []⟩
def d_f_reasons_for : He.DefD := ⟨("reasons_for", none), "reasons_for", "reasons_for", defArgs s_f_reasons_for, defBody s_f_reasons_for, defScope s_f_reasons_for, [], []⟩
def d_f_claim_paper : He.DefD := ⟨("claim_paper", none), "claim_paper", "claim_paper", defArgs s_f_claim_paper, defBody s_f_claim_paper, defScope s_f_claim_paper, [], []⟩
def d_f_stuck_paper : He.DefD := ⟨("stuck_paper", none), "stuck_paper", "stuck_paper", defArgs s_f_stuck_paper, defBody s_f_stuck_paper, defScope s_f_stuck_paper, [], []⟩
def d_f_said_paper : He.DefD := ⟨("said_paper", none), "said_paper", "said_paper", defArgs s_f_said_paper, defBody s_f_said_paper, defScope s_f_said_paper, [], []⟩
def d_f_against_paper : He.DefD := ⟨("against_paper", none), "against_paper", "against_paper", defArgs s_f_against_paper, defBody s_f_against_paper, defScope s_f_against_paper, [], []⟩
def d_m_Asked_init : He.DefD := ⟨("Asked", some "__init__"), "__init__", "Asked.__init__", defArgs s_m_Asked_init, defBody s_m_Asked_init, defScope s_m_Asked_init, [], []⟩
def d_m_Asked_len : He.DefD := ⟨("Asked", some "__len__"), "__len__", "Asked.__len__", defArgs s_m_Asked_len, defBody s_m_Asked_len, defScope s_m_Asked_len, [], []⟩
def d_m_Asked_verdicts : He.DefD := ⟨("Asked", some "verdicts"), "verdicts", "Asked.verdicts", defArgs s_m_Asked_verdicts, defBody s_m_Asked_verdicts, defScope s_m_Asked_verdicts, [], []⟩
def d_m_Asked_yes_cases : He.DefD := ⟨("Asked", some "yes_cases"), "yes_cases", "Asked.yes_cases", defArgs s_m_Asked_yes_cases, defBody s_m_Asked_yes_cases, defScope s_m_Asked_yes_cases, [], []⟩
def d_m_Asked_no_cases : He.DefD := ⟨("Asked", some "no_cases"), "no_cases", "Asked.no_cases", defArgs s_m_Asked_no_cases, defBody s_m_Asked_no_cases, defScope s_m_Asked_no_cases, [], []⟩
def d_m_Asked_tell : He.DefD := ⟨("Asked", some "tell"), "tell", "Asked.tell", defArgs s_m_Asked_tell, defBody s_m_Asked_tell, defScope s_m_Asked_tell, [], []⟩
def d_m_Asked_take_back : He.DefD := ⟨("Asked", some "take_back"), "take_back", "Asked.take_back", defArgs s_m_Asked_take_back, defBody s_m_Asked_take_back, defScope s_m_Asked_take_back, [], []⟩
def d_m_Asked_least : He.DefD := ⟨("Asked", some "least"), "least", "Asked.least", defArgs s_m_Asked_least, defBody s_m_Asked_least, defScope s_m_Asked_least, [], []⟩
def d_f_is_whole : He.DefD := ⟨("is_whole", none), "is_whole", "is_whole", defArgs s_f_is_whole, defBody s_f_is_whole, defScope s_f_is_whole, [], []⟩
def d_f_is_place : He.DefD := ⟨("is_place", none), "is_place", "is_place", defArgs s_f_is_place, defBody s_f_is_place, defScope s_f_is_place, [], []⟩
def d_f_is_several : He.DefD := ⟨("is_several", none), "is_several", "is_several", defArgs s_f_is_several, defBody s_f_is_several, defScope s_f_is_several, [], []⟩
def d_f_has_form : He.DefD := ⟨("has_form", none), "has_form", "has_form", defArgs s_f_has_form, defBody s_f_has_form, defScope s_f_has_form, [], []⟩
def d_f_mask_in : He.DefD := ⟨("mask_in", none), "mask_in", "mask_in", defArgs s_f_mask_in, defBody s_f_mask_in, defScope s_f_mask_in, [], []⟩
def d_f_is_field_lot : He.DefD := ⟨("is_field_lot", none), "is_field_lot", "is_field_lot", defArgs s_f_is_field_lot, defBody s_f_is_field_lot, defScope s_f_is_field_lot, [], []⟩
def d_f_is_case_in : He.DefD := ⟨("is_case_in", none), "is_case_in", "is_case_in", defArgs s_f_is_case_in, defBody s_f_is_case_in, defScope s_f_is_case_in, [], []⟩
def d_f_is_told_in : He.DefD := ⟨("is_told_in", none), "is_told_in", "is_told_in", defArgs s_f_is_told_in, defBody s_f_is_told_in, defScope s_f_is_told_in, [], []⟩
def d_f_holds_all : He.DefD := ⟨("holds_all", none), "holds_all", "holds_all", defArgs s_f_holds_all, defBody s_f_holds_all, defScope s_f_holds_all, [], []⟩
def d_f_reasons_fit : He.DefD := ⟨("reasons_fit", none), "reasons_fit", "reasons_fit", defArgs s_f_reasons_fit, defBody s_f_reasons_fit, defScope s_f_reasons_fit, [], []⟩
def d_f_shows_hold : He.DefD := ⟨("shows_hold", none), "shows_hold", "shows_hold", defArgs s_f_shows_hold, defBody s_f_shows_hold, defScope s_f_shows_hold, [], []⟩
def d_f_shows_stuck : He.DefD := ⟨("shows_stuck", none), "shows_stuck", "shows_stuck", defArgs s_f_shows_stuck, defBody s_f_shows_stuck, defScope s_f_shows_stuck, [], []⟩
def d_f__law_mix : He.DefD := ⟨("_law_mix", none), "_law_mix", "_law_mix", defArgs s_f__law_mix, defBody s_f__law_mix, defScope s_f__law_mix, [], []⟩
def d_f__law_store : He.DefD := ⟨("_law_store", none), "_law_store", "_law_store", defArgs s_f__law_store, defBody s_f__law_store, defScope s_f__law_store, [], []⟩
def d_f__law_take : He.DefD := ⟨("_law_take", none), "_law_take", "_law_take", defArgs s_f__law_take, defBody s_f__law_take, defScope s_f__law_take, [], []⟩
def d_f__law_pick : He.DefD := ⟨("_law_pick", none), "_law_pick", "_law_pick", defArgs s_f__law_pick, defBody s_f__law_pick, defScope s_f__law_pick, [], []⟩
def d_f__law_shuffled : He.DefD := ⟨("_law_shuffled", none), "_law_shuffled", "_law_shuffled", defArgs s_f__law_shuffled, defBody s_f__law_shuffled, defScope s_f__law_shuffled, [], []⟩
def d_f__law_common : He.DefD := ⟨("_law_common", none), "_law_common", "_law_common", defArgs s_f__law_common, defBody s_f__law_common, defScope s_f__law_common, [], []⟩
def d_f__law_less : He.DefD := ⟨("_law_less", none), "_law_less", "_law_less", defArgs s_f__law_less, defBody s_f__law_less, defScope s_f__law_less, [], []⟩
def d_f__law_part : He.DefD := ⟨("_law_part", none), "_law_part", "_law_part", defArgs s_f__law_part, defBody s_f__law_part, defScope s_f__law_part, [], []⟩
def d_f__law_lot_key : He.DefD := ⟨("_law_lot_key", none), "_law_lot_key", "_law_lot_key", defArgs s_f__law_lot_key, defBody s_f__law_lot_key, defScope s_f__law_lot_key, [], []⟩
def d_f__law_sublots : He.DefD := ⟨("_law_sublots", none), "_law_sublots", "_law_sublots", defArgs s_f__law_sublots, defBody s_f__law_sublots, defScope s_f__law_sublots, [], []⟩
def d_f__law_case : He.DefD := ⟨("_law_case", none), "_law_case", "_law_case", defArgs s_f__law_case, defBody s_f__law_case, defScope s_f__law_case, [], []⟩
def d_f__law_claim : He.DefD := ⟨("_law_claim", none), "_law_claim", "_law_claim", defArgs s_f__law_claim, defBody s_f__law_claim, defScope s_f__law_claim, [], []⟩
def d_f__law_listing : He.DefD := ⟨("_law_listing", none), "_law_listing", "_law_listing", defArgs s_f__law_listing, defBody s_f__law_listing, defScope s_f__law_listing, [], []⟩
def d_f__law_same : He.DefD := ⟨("_law_same", none), "_law_same", "_law_same", defArgs s_f__law_same, defBody s_f__law_same, defScope s_f__law_same, [], []⟩
def d_f__law_same_plain : He.DefD := ⟨("_law_same_plain", none), "_law_same_plain", "_law_same_plain", defArgs s_f__law_same_plain, defBody s_f__law_same_plain, defScope s_f__law_same_plain, [], []⟩
def d_f__law_letters : He.DefD := ⟨("_law_letters", none), "_law_letters", "_law_letters", defArgs s_f__law_letters, defBody s_f__law_letters, defScope s_f__law_letters, [], []⟩
def d_f__law_why : He.DefD := ⟨("_law_why", none), "_law_why", "_law_why", defArgs s_f__law_why, defBody s_f__law_why, defScope s_f__law_why, [], []⟩
def d_f__law_yes_list : He.DefD := ⟨("_law_yes_list", none), "_law_yes_list", "_law_yes_list", defArgs s_f__law_yes_list, defBody s_f__law_yes_list, defScope s_f__law_yes_list, [], []⟩
def d_f__law_due : He.DefD := ⟨("_law_due", none), "_law_due", "_law_due", defArgs s_f__law_due, defBody s_f__law_due, defScope s_f__law_due, [], []⟩
def d_f__law_tell : He.DefD := ⟨("_law_tell", none), "_law_tell", "_law_tell", defArgs s_f__law_tell, defBody s_f__law_tell, defScope s_f__law_tell, [], []⟩
def d_f__law_judged : He.DefD := ⟨("_law_judged", none), "_law_judged", "_law_judged", defArgs s_f__law_judged, defBody s_f__law_judged, defScope s_f__law_judged, [], []⟩
def d_f__law_stays : He.DefD := ⟨("_law_stays", none), "_law_stays", "_law_stays", defArgs s_f__law_stays, defBody s_f__law_stays, defScope s_f__law_stays, [], []⟩
def d_f__law_step : He.DefD := ⟨("_law_step", none), "_law_step", "_law_step", defArgs s_f__law_step, defBody s_f__law_step, defScope s_f__law_step, [], []⟩
def d_f__law_least_holds : He.DefD := ⟨("_law_least_holds", none), "_law_least_holds", "_law_least_holds", defArgs s_f__law_least_holds, defBody s_f__law_least_holds, defScope s_f__law_least_holds, [], []⟩
def d_f__law_steps : He.DefD := ⟨("_law_steps", none), "_law_steps", "_law_steps", defArgs s_f__law_steps, defBody s_f__law_steps, defScope s_f__law_steps, [], []⟩
def d_f__law_first_steps : He.DefD := ⟨("_law_first_steps", none), "_law_first_steps", "_law_first_steps", defArgs s_f__law_first_steps, defBody s_f__law_first_steps, defScope s_f__law_first_steps, [], []⟩
def d_f_law : He.DefD := ⟨("law", none), "law", "law", defArgs s_f_law, defBody s_f_law, defScope s_f_law, [], []⟩
def fn0 : List He.DefD := [d_m_OutweighedError_init, d_f_lot_on, d_f_shared, d_f_lot_place, d_f_parts_of, d_f_check_fields, d_f_check_lot, d_f_sort_lots, d_f_sublots, d_f_case_on, d_f_check_case, d_f_check_own, d_f_lot_mask, d_f_mask_lot, d_f_missing_commons, d_f_stepless_masks, d_f_check_frame, d_f_common_lots, d_m_Steady_init, d_m_Steady_closed]
def fn1 : List He.DefD := [d_m_Steady_cl, d_m_Steady_says, d_m_Steady_len, d_m_Steady_iter, d_m_Steady_contains, d_m_Steady_eq, d_m_Steady_and, d_f_check_told, d_f_mark_of, d_f_needs_of, d_f_next_field, d_f_walk_on, d_f_walk_avoiding, d_f_others_of, d_f_unlisted, d_f_check_ends, d_f_rule_over, d_f_over, d_f_all_within, d_f_check_claim]
def fn2 : List He.DefD := [d_f_reason_index, d_f_reasons_for, d_f_claim_paper, d_f_stuck_paper, d_f_said_paper, d_f_against_paper, d_m_Asked_init, d_m_Asked_len, d_m_Asked_verdicts, d_m_Asked_yes_cases, d_m_Asked_no_cases, d_m_Asked_tell, d_m_Asked_take_back, d_m_Asked_least, d_f_is_whole, d_f_is_place, d_f_is_several, d_f_has_form, d_f_mask_in, d_f_is_field_lot]
def fn3 : List He.DefD := [d_f_is_case_in, d_f_is_told_in, d_f_holds_all, d_f_reasons_fit, d_f_shows_hold, d_f_shows_stuck, d_f__law_mix, d_f__law_store, d_f__law_take, d_f__law_pick, d_f__law_shuffled, d_f__law_common, d_f__law_less, d_f__law_part, d_f__law_lot_key, d_f__law_sublots, d_f__law_case, d_f__law_claim, d_f__law_listing, d_f__law_same]
def fn4 : List He.DefD := [d_f__law_same_plain, d_f__law_letters, d_f__law_why, d_f__law_yes_list, d_f__law_due, d_f__law_tell, d_f__law_judged, d_f__law_stays, d_f__law_step, d_f__law_least_holds, d_f__law_steps, d_f__law_first_steps, d_f_law]
def fn : List He.DefD := fn0 ++ fn1 ++ fn2 ++ fn3 ++ fn4
def fa0 : List He.Fa := [.glo "lot_on", .glo "shared", .glo "lot_place", .glo "parts_of", .glo "check_fields", .glo "check_lot", .glo "sort_lots", .glo "sublots", .glo "case_on", .glo "check_case", .glo "check_own", .glo "lot_mask", .glo "mask_lot", .glo "missing_commons", .glo "stepless_masks", .glo "check_frame", .glo "common_lots", .glo "check_told", .glo "mark_of", .glo "needs_of"]
def fa1 : List He.Fa := [.glo "next_field", .glo "walk_on", .glo "walk_avoiding", .glo "others_of", .glo "unlisted", .glo "check_ends", .glo "rule_over", .glo "over", .glo "all_within", .glo "check_claim", .glo "reason_index", .glo "reasons_for", .glo "claim_paper", .glo "stuck_paper", .glo "said_paper", .glo "against_paper", .glo "is_whole", .glo "is_place", .glo "is_several", .glo "has_form"]
def fa2 : List He.Fa := [.glo "mask_in", .glo "is_field_lot", .glo "is_case_in", .glo "is_told_in", .glo "holds_all", .glo "reasons_fit", .glo "shows_hold", .glo "shows_stuck", .glo "_law_mix", .glo "_law_store", .glo "_law_take", .glo "_law_pick", .glo "_law_shuffled", .glo "_law_common", .glo "_law_less", .glo "_law_part", .glo "_law_lot_key", .glo "_law_sublots", .glo "_law_case", .glo "_law_claim"]
def fa3 : List He.Fa := [.glo "_law_listing", .glo "_law_same", .glo "_law_same_plain", .glo "_law_letters", .glo "_law_why", .glo "_law_yes_list", .glo "_law_due", .glo "_law_tell", .glo "_law_judged", .glo "_law_stays", .glo "_law_step", .glo "_law_least_holds", .glo "_law_steps", .glo "_law_first_steps", .glo "law", .glo "OutweighedError", .glo "BadLot", .glo "BadCase", .glo "PlainCase", .glo "WrongFields"]
def fa4 : List He.Fa := [.glo "NothingThere", .glo "TooMany", .glo "NotFrame", .glo "RoundRule", .glo "Against", .glo "Steady", .glo "Asked", .free "NotImplemented", .free "ValueError", .free "all", .free "bool", .free "dict", .free "enumerate", .free "int", .free "isinstance", .free "iter", .free "len", .free "list", .free "min", .free "property"]
def fa5 : List He.Fa := [.free "range", .free "sorted", .free "str", .free "sum", .free "tuple", .str "FIELDS" "abcdef", .str "LETTERS" "abcdef", .int "MOST_TOLD" 60, .int "MOST_VERDICTS" 60, .glo "WEIGHTS", .glo "MARKS", .glo "WEIGHT_OF", .cls "Steady", .mkr "Steady", .meth "Steady" "__init__", .meth "Steady" "closed", .meth "Steady" "cl", .meth "Steady" "says", .meth "Steady" "__len__", .meth "Steady" "__iter__"]
def fa6 : List He.Fa := [.meth "Steady" "__contains__", .meth "Steady" "__eq__", .meth "Steady" "__and__", .noat "Steady" "frame_fields", .noat "Steady" "frame_lots", .noat "Steady" "frame_masks", .cls "Asked", .mkr "Asked", .meth "Asked" "__init__", .meth "Asked" "__len__", .meth "Asked" "verdicts", .meth "Asked" "yes_cases", .meth "Asked" "no_cases", .meth "Asked" "tell", .meth "Asked" "take_back", .meth "Asked" "least", .noat "Asked" "own_fields", .noat "Asked" "kept_verdicts"]
def fa : List He.Fa := fa0 ++ fa1 ++ fa2 ++ fa3 ++ fa4 ++ fa5 ++ fa6
def ts : List He.Tab := [((fun K => He.ga K "WEIGHTS"), ["a", "b", "c", "d", "e", "f"]), ((fun K => He.ga K "MARKS"), ["a", "b", "c", "d", "e", "f"]), ((fun K => He.ga K "WEIGHT_OF"), ["a", "b", "c", "d", "e", "f"])]
def names : List PySem.Str := []
def loose0 : List PySem.Str := ["lot_on", "shared", "lot_place", "parts_of", "check_fields", "check_lot", "sort_lots", "sublots", "case_on", "check_case", "check_own", "lot_mask", "mask_lot", "missing_commons", "stepless_masks", "check_frame", "common_lots", "check_told", "mark_of", "needs_of"]
def loose1 : List PySem.Str := ["next_field", "walk_on", "walk_avoiding", "others_of", "unlisted", "check_ends", "rule_over", "over", "all_within", "check_claim", "reason_index", "reasons_for", "claim_paper", "stuck_paper", "said_paper", "against_paper", "is_whole", "is_place", "is_several", "has_form"]
def loose2 : List PySem.Str := ["mask_in", "is_field_lot", "is_case_in", "is_told_in", "holds_all", "reasons_fit", "shows_hold", "shows_stuck", "_law_mix", "_law_store", "_law_take", "_law_pick", "_law_shuffled", "_law_common", "_law_less", "_law_part", "_law_lot_key", "_law_sublots", "_law_case", "_law_claim"]
def loose3 : List PySem.Str := ["_law_listing", "_law_same", "_law_same_plain", "_law_letters", "_law_why", "_law_yes_list", "_law_due", "_law_tell", "_law_judged", "_law_stays", "_law_step", "_law_least_holds", "_law_steps", "_law_first_steps", "OutweighedError", "BadLot", "BadCase", "PlainCase", "WrongFields", "NothingThere"]
def loose4 : List PySem.Str := ["TooMany", "NotFrame", "RoundRule", "Against", "Steady", "Asked", "FIELDS", "LETTERS", "MOST_TOLD", "MOST_VERDICTS", "WEIGHTS", "MARKS", "WEIGHT_OF", "_wall"]
def loose : List PySem.Str := loose0 ++ loose1 ++ loose2 ++ loose3 ++ loose4
-- excs: ['OutweighedError', 'BadLot', 'BadCase', 'PlainCase', 'WrongFields', 'NothingThere', 'TooMany', 'NotFrame', 'RoundRule', 'Against']
-- law at 104
end KH
namespace DL
open PySem PySem.Spec PyProof.Rows L2 M80
/-! ### a dict of owned lists, keyed by letters -/
def lsF (A : Nat → Addr) (F : Lot) (nd : Nat → List Dat) : Mem := F.map fun c => (A c, Mu.mls (nd c))
def ksF (A : Nat → Addr) (F : Lot) : List (Key × Addr) := F.map fun c => ((.inr (st [c]) : Key), A c)
def muF (D : Addr) (A : Nat → Addr) (F : Lot) (nd : Nat → List Dat) : Mem := (D, .mdl (ksF A F)) :: lsF A F nd
section
variable {K : PySem.W.Frag} {P H : Hp} {Γ Γ' : List Sl} {μ μ' : Mem} {te ta tb tk to : TE} {tt : TT} {t : TA} {g : TG} {wi : TI} {R : Sl → Prop} {RM : Sl → Mem → Prop} {d : Dat} {s : Sl} {ds es : List Dat} {O : Ou}
theorem adrs_muF {D : Addr} {A : Nat → Addr} {F : Lot} {nd : Nat → List Dat} : adrs (muF D A F nd) = D :: F.map A := by
  simp [muF, lsF, adrs, Function.comp_def]
theorem muF_congr {D : Addr} {A B : Nat → Addr} {F : Lot} {nd : Nat → List Dat} (h : ∀ c ∈ F, A c = B c) : muF D A F nd = muF D B F nd := by
  unfold muF lsF ksF
  congr 1
  · congr 2
    exact List.map_congr_left fun c hc => by rw [h c hc]
  · exact List.map_congr_left fun c hc => by rw [h c hc]
theorem inj1 {c e : Nat} (h : (.inr (st [c]) : Key) = .inr (st [e])) : c = e := by
  have := str_inj (Sum.inr.inj h)
  simpa using this
theorem em_dcL {F : Lot} {vs tg : List Nat} {Wt : Mem → Prop} (hi : EvI K wi Γ [] Wt (fun z => z = chs F)) (hWt : ∀ μ, Wt μ) (htg : ∀ i ∈ tg, i ∈ vs) (hF : F.Nodup) (hz : F.length ≤ 1000)
    (hb : ∀ c ∈ F, ∃ Γ2, GA K g tg (tx [c]) (wipeS Γ vs) Γ2 ∧ ∀ μ, EvD K tk Γ2 μ (tx [c])) :
    EvM K (tDc wi g tYes tk (tLst tNil) vs) Γ [] (fun s μ' => ∃ D A, s = .adr D ∧ μ' = muF D A F (fun _ => []) ∧ (D :: F.map A).Nodup) := fun σ P H e x m Q q =>
  hi σ P H e x m _ fun J P1 H1 ds g1 hds Y D hD => by
    subst hds
    refine ⟨fun i k H' => k = F.length - i ∧ i ≤ F.length ∧ ∃ P' A, Go K P1 H1 [] P' H' (muF D A (F.take i) fun _ => []),
      ⟨_, rfl, Nat.zero_le _, P1, fun _ => 0, .alloc g1.ph g1.ok hD (m := .mdl []) upd_same⟩, fun i k H' z => ?_⟩
    obtain ⟨hk, hle, P2, A, g2⟩ := z
    have Yi := Y i P2 H' g2.ph ⟨g2.pp, _, g2.ok, hWt _⟩
    have hlm : (chs F).length = F.length := chs_len
    by_cases hlt : i < F.length
    · have hxi : F[i]? = some F[i] := List.getElem?_eq_getElem hlt
      have hdi : (chs F)[i]? = some (tx [F[i]]) := by unfold chs; rw [List.getElem?_map, hxi]; rfl
      have htk : F.take (i + 1) = F.take i ++ [F[i]] := by rw [List.take_add_one, hxi]; rfl
      have hnew : F[i] ∉ F.take i := fun z => by
        have h2 : (F.take (i + 1)).Nodup := (List.take_sublist _ _).nodup hF
        rw [htk, List.nodup_append] at h2
        exact h2.2.2 _ z _ (by simp) rfl
      obtain ⟨go, y⟩ := Yi.1 _ hdi
      refine .inr ⟨go, fun H3 => ∃ P' A, Go K P1 H1 [] P' H3 (muF D A (F.take (i + 1)) fun _ => []), fun H3 z => ⟨F.length - (i + 1), by omega, rfl, hlt, z⟩, fun x3 H3 hy => ?_⟩
      obtain ⟨P3, stp, rx⟩ := y x3 H3 hy
      have g3 : Go K P2 H' _ P3 H3 _ := .of0 stp g2.ok
      obtain ⟨Γ2, hg, hkk⟩ := hb F[i] (List.getElem_mem hlt)
      have e3 : EnvOk K P3 (L2.wipe σ vs) (wipeS Γ vs) := EnvOk.wipe (e.mono (g1.pp.tr (g2.pp.tr g3.pp))) vs
      refine hg _ P3 H3 x3 e3 g3.ph rx _ fun σ4 e4 k4 => ⟨?_, ?_⟩
      · have hl4 : σ4.length = σ.length := by rw [k4.1, wipe_length]
        refine wipe_same hl4 fun i hi => ?_
        rw [k4.2 i (fun z => hi (htg i z)), getElem?_wipe, if_neg hi]
      · refine (show ∀ {F : Bool → Hp → Prop}, F true H3 → tYes σ4 H3 F from fun h => h) ?_
        simp only [if_true]
        refine hkk _ σ4 P3 H3 e4 g3.ph g3.ok _ fun v4 P4 H4 s4 g4 rv4 hs4 => ?_
        subst hs4
        refine ⟨Nat.zero_le _, fun p hp => ?_⟩
        have g5 := Go.alloc (m := .mls []) g4.ph g4.ok hp (MuOk.lst upd_same .nil)
        have g15 := g2.trans (g3.trans (g4.trans g5))
        have hmD : (D, Mu.mdl (ksF A (F.take i))) ∈ (p, Mu.mls []) :: muF D A (F.take i) (fun _ => []) := .tail _ (.head _)
        have hD5 : (upd H4 p (.lst [])) D = some (.dK ((ksF A (F.take i)).map fun p => (p.1, V.ref p.2))) := (g5.ok.get hmD).2
        have eS : kV (.inr (st [F[i]])) = kV (.inr (st [F[i]])) := rfl
        refine ⟨_, .inr (st [F[i]]), rp_key (k := .inr (st [F[i]])) rv4, hD5, ?_, P4, fun c => if c = F[i] then p else A c, ?_⟩
        · rw [List.length_map]
          unfold ksF
          rw [List.length_map]
          exact Nat.lt_of_le_of_lt (Nat.le_trans (List.length_take_le _ _) (Nat.le_trans hle hz)) (by decide)
        · have hput : putK ((ksF A (F.take i)).map fun p => (p.1, V.ref p.2)) (.inr (st [F[i]])) (.ref p) = (ksF (fun c => if c = F[i] then p else A c) (F.take (i + 1))).map fun p => (p.1, V.ref p.2) := by
            unfold putK
            rw [if_neg, htk]
            · unfold ksF
              rw [List.map_append, List.map_append]
              congr 1
              · congr 1
                refine List.map_congr_left fun c hc => ?_
                have hne : c ≠ F[i] := fun z => hnew (z ▸ hc)
                show (_, A c) = (_, if c = F[i] then p else A c)
                rw [if_neg hne]
              · simp
            · intro z
              rw [List.any_map, List.any_eq_true] at z
              obtain ⟨a, ha, hk⟩ := z
              have hk' : a.1 = .inr (st [F[i]]) := of_decide_eq_true hk
              obtain ⟨c, hc, rfl⟩ := List.mem_map.mp ha
              exact hnew (inj1 hk' ▸ hc)
          have g6 := Go.write (m' := .mdl (ksF (fun c => if c = F[i] then p else A c) (F.take (i + 1)))) g5.ph g5.ok hmD (o := .dK (putK ((ksF A (F.take i)).map fun p => (p.1, V.ref p.2)) (.inr (st [F[i]])) (.ref p))) (by rw [hput]; exact upd_same)
          have g7 := g15.trans g6
          have hnd : (adrs ((p, Mu.mls []) :: muF D A (F.take i) (fun _ => []))).Nodup := g5.ok.2
          have hnd' : (p :: D :: (F.take i).map A).Nodup := by
            have e : adrs ((p, Mu.mls []) :: muF D A (F.take i) (fun _ => [])) = p :: adrs (muF D A (F.take i) (fun _ => [])) := rfl
            rw [e, adrs_muF] at hnd; exact hnd
          have hnp : p ≠ D := fun z => (List.nodup_cons.mp hnd').1 (z ▸ .head _)
          have hA : ∀ c ∈ F.take i, A c ≠ D := fun c hc z => (List.nodup_cons.mp (List.nodup_cons.mp hnd').2).1 (z ▸ List.mem_map.mpr ⟨c, hc, rfl⟩)
          refine g7.sub (fun r hr => ?_) ?_
          · unfold muF at hr
            rcases List.mem_cons.mp hr with rfl | hr
            · exact mem_setMu hmD
            · obtain ⟨c, hc, rfl⟩ := List.mem_map.mp hr
              rw [htk, List.mem_append] at hc
              rcases hc with hc | hc
              · have hne : c ≠ F[i] := fun z => hnew (z ▸ hc)
                show ((if c = F[i] then p else A c), Mu.mls []) ∈ _
                rw [if_neg hne]
                refine mem_setMu_ne (.tail _ (.tail _ (List.mem_map.mpr ⟨c, hc, rfl⟩))) (hA c hc)
              · rw [List.mem_singleton.mp hc]
                show ((if F[i] = F[i] then p else A F[i]), Mu.mls []) ∈ _
                rw [if_pos rfl]
                exact mem_setMu_ne (.head _) hnp
          · rw [adrs_muF, htk, List.map_append]
            have e1 : (F.take i).map (fun c => if c = F[i] then p else A c) = (F.take i).map A := List.map_congr_left fun c hc => by
              have hne : c ≠ F[i] := fun z => hnew (z ▸ hc)
              rw [if_neg hne]
            rw [e1]
            simp only [List.map_cons, List.map_nil, if_pos]
            obtain ⟨n1, n2⟩ := List.nodup_cons.mp hnd'
            obtain ⟨n3, n4⟩ := List.nodup_cons.mp n2
            refine List.nodup_cons.mpr ⟨fun z => ?_, ?_⟩
            · rcases List.mem_append.mp z with z | z
              · exact n3 z
              · exact hnp (List.mem_singleton.mp z).symm
            · rw [List.nodup_append]
              refine ⟨n4, by simp, fun u hu v hv w => n1 ?_⟩
              rw [List.mem_singleton.mp hv] at w
              exact .tail _ (w ▸ hu)
    · have hi' : i = F.length := by omega
      rw [hi', List.take_length] at g2
      exact .inl ⟨Yi.2 (by omega), q (.ref D) P2 H' (.adr D) _ (g1.trans g2) rfl ⟨D, A, rfl, rfl, by
        have := g2.ok.2
        rwa [adrs_muF] at this⟩⟩
theorem ops_inIntsO {neg : Bool} {z : Int} {xs : List Int} {a : Addr} (hm : (a, Mu.mls (xs.map Dat.int)) ∈ μ) : OpS K μ (rIn K neg) (.dat (.int z)) (.adr a) (fun s => s = .dat (.bl (if neg then !decide (z ∈ xs) else decide (z ∈ xs)))) := fun P H x y xt m ra rb Q q => by
  have ra' : Rp K P x (.int z) := ra
  cases ra'
  have rb' : y = .ref a := rb
  subst rb'
  obtain ⟨_, ys, hl, hr⟩ := m.get hm
  have e := RpA.of_ints hr
  subst e
  refine ⟨a, _, rfl, .inl (.of hl), rfl, all_ints xs, q _ P H (.dat (.bl _)) (.refl xt) ?_ rfl⟩
  have e2 : (if neg = true then !inV (V.int z) (xs.map V.int) else inV (V.int z) (xs.map V.int)) = (if neg then !decide (z ∈ xs) else decide (z ∈ xs)) := by rw [inV_ints]
  show RelS K P (.bl (if neg = true then !inV (V.int z) (xs.map V.int) else inV (V.int z) (xs.map V.int))) (.dat (.bl (if neg then !decide (z ∈ xs) else decide (z ∈ xs))))
  rw [e2]
  exact Rp.bl _
theorem ksF_find {A : Nat → Addr} {F : Lot} {c : Nat} (h : c ∈ F) : (ksF A F).find? (fun p => decide (p.1 = (.inr (st [c]) : Key))) = some (.inr (st [c]), A c) := by
  induction F with
  | nil => cases h
  | cons e r ih =>
    unfold ksF at ih ⊢
    rw [List.map_cons, List.find?_cons]
    by_cases q : e = c
    · subst q; simp
    · have : ¬ (.inr (st [e]) : Key) = .inr (st [c]) := fun z => q (inj1 z)
      simp only [this, decide_false]
      exact ih ((List.mem_cons.mp h).resolve_left fun z => q z.symm)
/-- needs[c] -/
theorem ev_muF {D : Addr} {A : Nat → Addr} {F : Lot} {nd : Nat → List Dat} {c : Nat} {td ty : TE} (hd : Ev K td Γ (muF D A F nd) (fun z => z = .adr D)) (hk : EvD K ty Γ (muF D A F nd) (tx [c])) (h : c ∈ F) : Ev K (tDGet td ty) Γ (muF D A F nd) (fun z => z = .adr (A c)) :=
  ev_dgetL (k := .inr (st [c])) hd (.head _) hk (ksF_find h)
theorem mem_muF {D : Addr} {A : Nat → Addr} {F : Lot} {nd : Nat → List Dat} {c : Nat} (h : c ∈ F) : (A c, Mu.mls (nd c)) ∈ muF D A F nd := .tail _ (List.mem_map.mpr ⟨c, h, rfl⟩)
theorem set_muF {D : Addr} {A : Nat → Addr} {F : Lot} {nd : Nat → List Dat} {c : Nat} {ds : List Dat} (hn : (D :: F.map A).Nodup) (h : c ∈ F) : setMu (muF D A F nd) (A c) (.mls ds) = muF D A F (fun x => if x = c then ds else nd x) := by
  obtain ⟨n1, n2⟩ := List.nodup_cons.mp hn
  have hD : D ≠ A c := fun z => n1 (z ▸ List.mem_map.mpr ⟨c, h, rfl⟩)
  have inj : ∀ e ∈ F, A e = A c → e = c := by
    intro e he z
    rw [List.nodup_iff_pairwise_ne, List.pairwise_map] at n2
    refine Classical.byContradiction fun q => ?_
    obtain ⟨i, hi, rfl⟩ := List.getElem_of_mem he
    obtain ⟨j, hj, rfl⟩ := List.getElem_of_mem h
    have hp := List.pairwise_iff_getElem.mp n2
    rcases Nat.lt_trichotomy i j with w | w | w
    · exact hp i j hi hj w z
    · subst w; exact q rfl
    · exact hp j i hj hi w z.symm
  unfold setMu muF lsF
  rw [List.map_cons, if_neg hD, List.map_map]
  congr 1
  refine List.map_congr_left fun e he => ?_
  show (if A e = A c then (A c, Mu.mls ds) else (A e, Mu.mls (nd e))) = (A e, Mu.mls (if e = c then ds else nd e))
  by_cases q : e = c
  · subst q; simp
  · rw [if_neg (fun z => q (inj e he z)), if_neg q]
def needsD (F : Lot) (nd : Nat → List Dat) : Dat := .dct (F.map fun c => ((.inr (st [c]) : Key), .lst (nd c)))
theorem freeze_all {D : Addr} {A : Nat → Addr} {nd : Nat → List Dat} {kvs : List (Key × Addr)} : ∀ {G : Lot} {P : Hp}, Ext P H → StOk K P H ((D, .mdl kvs) :: lsF A G nd) → ∃ P2, Go K P H ((D, .mdl kvs) :: lsF A G nd) P2 H [(D, .mdl kvs)] ∧ ∀ c ∈ G, Rp K P2 (.ref (A c)) (.lst (nd c))
  | [], P, xt, ok => ⟨P, .refl xt ok, fun c h => by cases h⟩
  | e :: G, P, xt, ok => by
    have hm : (A e, Mu.mls (nd e)) ∈ (D, Mu.mdl kvs) :: lsF A (e :: G) nd := .tail _ (.head _)
    obtain ⟨np, xs, h1, ra⟩ := ok.get hm
    have g1 : Go K P H _ (upd P (A e) (.lst xs)) H _ := .freeze xt ok hm h1
    have hnd := ok.2
    have hne : D ≠ A e ∧ A e ∉ adrs (lsF A G nd) := by
      have : (D :: A e :: adrs (lsF A G nd)).Nodup := hnd
      obtain ⟨a1, a2⟩ := List.nodup_cons.mp this
      exact ⟨fun z => a1 (z ▸ .head _), (List.nodup_cons.mp a2).1⟩
    have g2 := g1.sub (μ1 := (D, .mdl kvs) :: lsF A G nd) (fun p hp => by
      refine List.mem_filter.mpr ⟨?_, decide_eq_true ?_⟩
      · rcases List.mem_cons.mp hp with rfl | hp
        · exact .head _
        · exact .tail _ (.tail _ hp)
      · rcases List.mem_cons.mp hp with rfl | hp
        · exact hne.1
        · exact fun z => hne.2 (z ▸ List.mem_map.mpr ⟨p, hp, rfl⟩)) (by
      have : (D :: A e :: adrs (lsF A G nd)).Nodup := hnd
      obtain ⟨a1, a2⟩ := List.nodup_cons.mp this
      exact List.nodup_cons.mpr ⟨fun z => a1 (.tail _ z), (List.nodup_cons.mp a2).2⟩)
    obtain ⟨P2, g3, hall⟩ := freeze_all (G := G) g2.ph g2.ok
    refine ⟨P2, g2.trans g3, fun c hc => ?_⟩
    rcases List.mem_cons.mp hc with rfl | hc
    · exact (Rp.lst upd_same (ra.mono (Ext.put np))).mono g3.pp
    · exact hall c hc
/-- return needs -/
theorem sw_retDL {D : Addr} {A : Nat → Addr} {F : Lot} {nd : Nat → List Dat} (h : Ev K te Γ (muF D A F nd) (fun z => z = .adr D)) (k : O.rt (.dat (needsD F nd)) []) : SW K (tRet te) Γ (muF D A F nd) O := fun σ P H e xt ok D' n r bk ct =>
  h σ P H e xt ok _ fun v P1 H1 s g1 r1 hs => by
    subst hs
    have r1' : v = .ref D := r1
    subst r1'
    obtain ⟨P2, g2, hall⟩ := freeze_all g1.ph (show StOk K P1 H1 ((D, .mdl (ksF A F)) :: lsF A F nd) from g1.ok)
    obtain ⟨np, hD⟩ := g2.ok.get (.head _)
    have g3 : Go K P2 H1 _ (upd P2 D _) H1 _ := .freeze g2.ph g2.ok (.head _) hD
    have g4 := (g1.trans (g2.trans g3)).sub (μ1 := []) (fun p hp => by cases hp) .nil
    refine r (.ref D) _ _ (.dat (needsD F nd)) [] g4 ?_ k
    refine Rp.dct upd_same ?_
    have ex : Ext P2 (upd P2 D (.dK ((ksF A F).map fun p => (p.1, V.ref p.2)))) := Ext.put np
    have key : ∀ G : Lot, (∀ c ∈ G, c ∈ F) → RpK K (upd P2 D (.dK ((ksF A F).map fun p => (p.1, V.ref p.2)))) ((ksF A G).map fun p => (p.1, V.ref p.2)) (G.map fun c => ((.inr (st [c]) : Key), .lst (nd c))) := by
      intro G
      induction G with
      | nil => intro _; exact .nil
      | cons c G ih => intro hG; exact .cons ((hall c (hG c (.head _))).mono ex) (ih fun x hx => hG x (.tail _ hx))
    exact key F fun _ h => h
end
end DL
namespace DL
open PySem PySem.Spec PyProof.Rows L2 M80
/-! ### list(text), sorted(text) -/
theorem signs_vals {x : Str} {acc : Array Value} (h : ItemsOf (SignAt x) acc x.cps.size) : Vals ((x.cps.toList.map fun c => (⟨#[c]⟩ : Str)).map V.str) acc.toList := by
  have el : acc.toList.length = acc.size := by simp
  refine vals_of_at (by rw [List.length_map, List.length_map, el, h.1]; simp) fun j y w h1 h2 => ?_
  obtain ⟨c, u, hc, rfl⟩ := h.2 j w (by rw [← Array.getElem?_toList]; exact h2)
  rw [List.map_map, List.getElem?_map, Array.getElem?_toList, hc] at h1
  cases h1
  exact ⟨u, rfl⟩
def rLstStr : List V → Hp → VK → Prop := fun vs H Q => ∃ x : Str, vs = [.str x] ∧ x.cps.size ≤ 1000000 ∧ ∀ l, H l = none → Q (.ref l) (upd H l (.lst ((x.cps.toList.map fun c => (⟨#[c]⟩ : Str)).map V.str)))
theorem call_list_strC {X : Cx} (hc : X.calm = true) : CallR X (.type "list") rLstStr := by
  intro pins s σ H xs us Q I r h
  obtain ⟨x, e, hz, q⟩ := h
  subst e
  obtain ⟨u, eu, rx⟩ := vals1 r
  subst eu
  obtain ⟨t, rfl⟩ := rx
  have hz' : x.cps.size ≤ sizeLine := Nat.le_trans hz (by decide)
  refine PySem.call_list_str (I.ok.hd hc) x t (fun h' tk acc' c' hk hS hacc => ?_) hz'
  have hl : ((x.cps.toList.map fun c => (⟨#[c]⟩ : Str)).map V.str).length ≤ sizeLine := by simpa using hz'
  exact ⟨.ref s.heap.objs.size, _, I.laid (t' := tk) hk (Nat.le_refl _) (show ObjOk X.prog X.w _ h' _ (.lst ((x.cps.toList.map fun c => (⟨#[c]⟩ : Str)).map V.str)) from ⟨hl, acc'.toList, c', signs_vals hacc, hS⟩), rfl, q _ (I.hok.fresh (Nat.le_refl _))⟩
/-- a text's signs, collected: the new list stands where the heap ended -/
theorem collect_signs {prog : Program} {w : World} {A : Around} {E : Value → Shared → Prop} {s : Shared} {Q : List Value → Shared → Prop} (hh : A.handled = none) (x : Str) (t : Tok) (hn : x.cps.size ≤ sizeLine)
    (hQ : ∀ s' acc, (∀ b o, s.heap.get? b = some o → s'.heap.get? b = some o) → s.heap.objs.size ≤ s'.heap.objs.size → s'.gens = s.gens → s'.drawn = s.drawn → s'.os = s.os → ItemsOf (SignAt x) acc x.cps.size → Q acc.toList s') : wpAny (model prog w) A (collect (.str x t)) Q E s := by
  unfold collect; refine wpAny_bind (wpAny_runValue (codeAny_builtin F.entry_proto_collect ?_)); rw [Around.under_plainId F.plain_proto_collect _]
  show wpAny _ A.in1 (newList [] >>= fun l => again (.builtin "list.__iadd__" ⟨[l, .str x t], []⟩)) _ _ s; refine wpAny_bind (wpAny_newObj_type (wpAny_pure ⟨plainId_quiet F.plain_list_iadd _, codeAny_builtin F.entry_list_iadd ?_⟩))
  rw [Around.under_plainId F.plain_list_iadd _]; show wpAny _ A.in1 (Builtin.List.listExtendWith (.ref s.heap.objs.size) (.str x t) (.ref s.heap.objs.size)) _ _ _
  unfold Builtin.List.listExtendWith; refine wpAny_bind (wpAny_typeOf (T := "str") (v := .str x t) rfl ?_)
  have h1 : Builtin.List.listSameRef (.ref s.heap.objs.size) (.str x t) = false := rfl; have h2 : (Value.type "str" == Value.type "list") = false := (by decide)
  have h3 : (Value.type "str" == Value.type "tuple") = false := (by decide)
  simp only [h1, h2, h3, Bool.or_false, Bool.false_eq_true, if_false]
  refine wpAny_bind (wpAny_pyIter_str fun o St W hst => wpAny_bind (wpAny_holding ?_)); unfold Builtin.List.listLengthHint
  refine wpAny_bind (wpAny_specialOf (T := "str") (v := .str x t) rfl F.str_len ?_); wp_delta
  refine wpAny_bind (wpAny_isInstance (T := "str") (v := .str x t) (b := true) rfl (by rw [isSubtype_type]; kernel_rfl) ?_); show wpAny _ A.in1 (typeOf (Value.str x t) >>= _) _ _ _
  refine wpAny_bind (wpAny_typeOf (T := "str") (v := .str x t) rfl (wpAny_pure ?_)); rw [if_neg (by decide)]
  generalize hH : s.heap.push { cls := .type "list", data := .seq ([] : List Value).toArray } = H at W hst ⊢; have hHs : H.objs.size = s.heap.objs.size + 1 := by rw [← hH, Heap.size_push]
  have hSf : s.heap.objs.size ∉ [H.objs.size] := fun hm => by rw [List.mem_singleton, hHs] at hm; omega
  have hS : (H.push o).get? s.heap.objs.size = some { cls := .type "list", data := .seq ([] : List Value).toArray } := by rw [← hH]; exact Heap.get?_push_of_some _ (Heap.get?_push_size _ rfl)
  refine wpAny_pure ⟨plainId_quiet F.plain_extend_loop _, codeAny_extend_loopS (W A.in1 hh).toS hn _ hSf _ x.cps.size 0 _ _ _ rfl (Nat.zero_le _) hst hS (.nil _) fun s' acc' c' hm hS' hacc => wpAny_bind (wpAny_load hS' ?_)⟩
  refine wpAny_pure (hQ s' acc' (fun b ob e => hm.heap b ob (fun hb => ?_) (Heap.get?_push_of_some _ (by rw [← hH]; exact Heap.get?_push_of_some _ e))) (Nat.le_of_lt (Heap.lt_size hS')) hm.gens hm.drawn hm.os hacc)
  have hlt := Heap.lt_size e
  rcases List.mem_cons.mp hb with h4 | h4
  · rw [h4] at hlt; exact Nat.lt_irrefl _ hlt
  · rw [List.mem_singleton.mp h4, hHs] at hlt; exact Nat.lt_irrefl _ (Nat.lt_of_succ_lt hlt)
def rSortStr : List V → Hp → VK → Prop := fun vs H Q => ∃ x : Str, vs = [.str x] ∧ x.cps.size < 64 ∧ ∀ (ys : List Str) (p : Addr), ys.Perm (x.cps.toList.map fun c => (⟨#[c]⟩ : Str)) → sortedS ys = true → H p = none → Q (.ref p) (upd H p (.lst (ys.map V.str)))
theorem cr_sortedStr {X : Cx} (hc : X.calm = true) : CallR X (.builtin "sorted") rSortStr := by
  intro pins s σ H xs us Q I r h
  obtain ⟨x, e, h64, q⟩ := h
  subst e
  obtain ⟨u, eu, rx⟩ := vals1 r
  subst eu
  obtain ⟨t, rfl⟩ := rx
  refine Calls.call_function_entry kind_sorted plain_sorted entry_sorted (args_sorted1 _) ?_
  unfold Builtin.«sorted»
  refine wpAny_bind (m := checkCount "sorted" 1 1 _) (wpAny_pure ?_)
  have hhd : X.A.in1.handled = none := I.ok.hd hc
  refine wpAny_bind (collect_signs hhd x t (Nat.le_trans (Nat.le_of_lt h64) (by decide)) fun s' acc hk hsz hg hd ho hacc => ?_)
  have hv := signs_vals hacc
  have hS : StrsAre acc.toList (x.cps.toList.map fun c => (⟨#[c]⟩ : Str)) := hv.strs
  have hlen : acc.toList.length < 64 := by
    have : acc.toList.length = acc.size := by simp
    rw [this, hacc.1]; exact h64
  obtain ⟨hp', gs', dr', tk', os'⟩ := s'
  obtain rfl : gs' = s.gens := hg
  obtain rfl : dr' = s.drawn := hd
  obtain rfl : os' = s.os := ho
  refine wpAny_bind (wpAny_newList ?_)
  have hoL : (hp'.push (seqObj "list" acc.toList.toArray 0)).get? hp'.objs.size = some (seqObj "list" acc.toList.toArray 0) := Heap.get?_push_size _ rfl
  refine wpAny_bind (wpAny_holding (wpAny_call_entry slot_list_sort ⟨_, hoL, rfl⟩ entry_list_sort (list_sort_treeK strKind_oneLt hoL hS.keysOf (fun v₁ v₂ rest e => keyKind_strs (by rw [← e]; exact hS)) hlen fun st' a1 a2 => ⟨_, rfl, ?_⟩) (args_list_sort _)))
  obtain ⟨ys, h1, h2, h3⟩ := sorted_out_str hS a1 a2
  obtain ⟨ep, he'⟩ := PyProof.Rows.sortedHeap_at (vs := acc.toList) (out := (arrOf st').map (·.2)) hoL
  have hzl : (ys.map V.str).length ≤ sizeLine := by
    rw [List.length_map, h2.length_eq, List.length_map]
    have : x.cps.toList.length = x.cps.size := by simp
    rw [this]; exact Nat.le_trans (Nat.le_of_lt h64) (by decide)
  refine wpAny_pure ⟨_, rfl, .ref hp'.objs.size, upd H hp'.objs.size (.lst (ys.map V.str)), I.laid (t' := tk') (fun b o e => ?_) hsz ⟨hzl, _, ep, vals_of_strs h1, he'⟩, rfl, q ys _ h2 h3 (I.hok.fresh hsz)⟩
  have hb := hk b o e
  have hlt := Heap.lt_size hb
  rw [sortedHeap_old (Nat.ne_of_lt hlt) (Nat.lt_of_lt_of_le hlt (by rw [size_push']; omega))]
  exact Heap.get?_push_of_some _ hb
end DL
namespace DL
open PySem PySem.Spec PyProof.Rows L2 M80
section
variable {K : PySem.W.Frag} {P H : Hp} {Γ Γ' : List Sl} {μ μ' : Mem} {te ta tb tk to : TE} {tt : TT} {t : TA} {g : TG} {R : Sl → Prop} {RM : Sl → Mem → Prop} {d : Dat} {s : Sl} {ds es : List Dat} {O : Ou}
theorem chs_strs (l : List Nat) : chs l = (l.map fun c => st [c]).map Dat.str := by simp [chs]
theorem ltCps_one {a b : Nat} : ltCps [a] [b] = decide (a < b) := by
  rw [ltCps_eq]
  by_cases h : a < b
  · rw [decide_eq_true h]; exact decide_eq_true (List.cons_lt_cons_iff.mpr (.inl h))
  · rw [decide_eq_false h]
    refine decide_eq_false fun z => ?_
    rcases List.cons_lt_cons_iff.mp z with z | ⟨_, z⟩
    · exact h z
    · exact absurd z (List.not_lt_nil _)
theorem rising_pw : ∀ (l : List Nat) (p : Nat), risingS (st [p]) (l.map fun c => st [c]) = true → (p :: l).Pairwise (· ≤ ·)
  | [], p, _ => by simp
  | c :: l, p, h => by
    have h' : (!ltCps (st [c]).cps.toList (st [p]).cps.toList && risingS (st [c]) (l.map fun c => st [c])) = true := h
    rw [Bool.and_eq_true] at h'
    obtain ⟨h1, h2⟩ := h'
    have ih := rising_pw l c h2
    have e : ltCps [c] [p] = false := by simpa using h1
    rw [ltCps_one] at e
    have hpc : p ≤ c := Nat.le_of_not_lt (of_decide_eq_false e)
    refine List.pairwise_cons.mpr ⟨fun x hx => ?_, ih⟩
    rcases List.mem_cons.mp hx with rfl | hx
    · exact hpc
    · exact Nat.le_trans hpc ((List.pairwise_cons.mp ih).1 x hx)
theorem sorted_srt {r : Lot} {ys : List Str} (hn : r.Nodup) (hr : ∀ x ∈ r, x ∈ AB) (hp : ys.Perm (r.map fun c => st [c])) (hs : sortedS ys = true) : ys = (srt r).map fun c => st [c] := by
  obtain ⟨zs, hz, rfl⟩ : ∃ zs : List Nat, zs.Perm r ∧ ys = zs.map fun c => st [c] := by
    have h1 : ∀ y ∈ ys, ∃ c, y = st [c] := fun y hy => by
      obtain ⟨c, _, rfl⟩ := List.mem_map.mp (hp.mem_iff.mp hy)
      exact ⟨c, rfl⟩
    have e : ∀ zs : List Str, (∀ y ∈ zs, ∃ c, y = st [c]) → (zs.map fun y => y.cps.toList.headD 0).map (fun c => st [c]) = zs := by
      intro zs
      induction zs with
      | nil => intro _; rfl
      | cons y zs ih =>
        intro h
        obtain ⟨c, rfl⟩ := h y (.head _)
        rw [List.map_cons, List.map_cons, ih fun y hy => h y (.tail _ hy)]
        rfl
    refine ⟨ys.map fun y => y.cps.toList.headD 0, ?_, (e ys h1).symm⟩
    have := hp.map fun y => y.cps.toList.headD 0
    rw [List.map_map] at this
    have e2 : r.map ((fun y : Str => y.cps.toList.headD 0) ∘ fun c => st [c]) = r := by
      have : ((fun y : Str => y.cps.toList.headD 0) ∘ fun c => st [c]) = id := rfl
      rw [this, List.map_id]
    rwa [e2] at this
  congr 1
  have hzs : zs.Pairwise (· ≤ ·) := by
    cases zs with
    | nil => exact .nil
    | cons z zs => exact rising_pw zs z hs
  have h2 : (srt r).Pairwise (· ≤ ·) := (List.Pairwise.sublist (srt_sub r) (by decide : AB.Pairwise (· ≤ ·)))
  exact List.Perm.eq_of_pairwise (fun a b _ _ h1 h2 => Nat.le_antisymm h1 h2) hzs h2 (hz.trans (srt_perm hn hr))
theorem cb_sortStr {r : Lot} (hn : r.Nodup) (hr : ∀ x ∈ r, x ∈ AB) (hz : r.length < 64) : CbS K μ rSortStr [.dat (tx r)] (fun s => s = .dat (.lst (chs (srt r)))) := fun P H xs xt m rs Q q => by
  obtain ⟨v, rfl, r1⟩ := one_of rs
  cases r1
  refine ⟨_, rfl, (by simpa using hz), fun ys p hp hs hf => ?_⟩
  have e := sorted_srt hn hr (by simpa using hp) hs
  refine fin_lst xt hf ?_ q
  rw [e, chs_strs]
  exact RpA.strs _
theorem cb_sortLst {r : Lot} (hn : r.Nodup) (hr : ∀ x ∈ r, x ∈ AB) (hz : r.length < 64) : CbS K μ (rSortedS K) [.dat (.lst (chs r))] (fun s => s = .dat (.lst (chs (srt r)))) := fun P H xs xt m rs Q q => by
  obtain ⟨v, rfl, r1⟩ := one_of rs
  cases r1 with
  | lst h1 ra =>
    rw [chs_strs] at ra
    have e1 := RpA.of_strs ra
    subst e1
    refine ⟨_, r.map fun c => st [c], rfl, .of (xt _ _ h1), by simpa using hz, fun ys p hp hs hf => ?_⟩
    have e := sorted_srt hn hr hp hs
    refine fin_lst xt hf ?_ q
    rw [e, chs_strs]
    exact RpA.strs _
theorem cb_listStr {l : List Nat} (hz : l.length ≤ 1000000) : CbS K μ rLstStr [.dat (tx l)] (fun s => s = .dat (.lst (chs l))) := fun P H xs xt m rs Q q => by
  obtain ⟨v, rfl, r1⟩ := one_of rs
  cases r1
  refine ⟨_, rfl, (by simpa using hz), fun p hf => ?_⟩
  refine fin_lst xt hf ?_ q
  rw [chs_strs]
  exact RpA.strs _
/-- list(text), to be owned -/
theorem em_ownStr {l : List Nat} (h : EvAs K t Γ μ [.dat (tx l)]) (hz : l.length ≤ 1000000) : EvM K (tCB rLstStr t) Γ μ (fun s μ' => ∃ p, p ∉ adrs μ ∧ s = .adr p ∧ μ' = (p, .mls (chs l)) :: μ) := em_own fun σ P H e xt ok Q q =>
  h σ P H e xt ok _ fun vs P1 H1 ss g1 r1 hs => by
    subst hs
    obtain ⟨v, rfl, r⟩ := one_of r1
    cases r
    refine ⟨_, rfl, (by simpa using hz), fun p hp => q P1 H1 p _ g1 hp ?_⟩
    rw [chs_strs]
    exact RpA.strs _
/-! ### a plain def called with what is owned, its answer a scalar -/
/-- the slots as data: an owned list stands for its items -/
def lentS (μ : Mem) : Sl → Dat → Prop
  | .dat d, e => d = e
  | .adr a, e => ∃ ds, e = .lst ds ∧ (a, Mu.mls ds) ∈ μ
  | .un, _ => False
  | .scr _, _ => False
def lentSs (μ : Mem) : List Sl → List Dat → Prop
  | [], [] => True
  | s :: ss, e :: es => lentS μ s e ∧ lentSs μ ss es
  | _, _ => False
/-- the heap part with all owned lists held still -/
noncomputable def lentP (P H : Hp) (μ : Mem) : Hp := fun a => if a ∈ adrs μ then H a else P a
theorem lentP_ext (xt : Ext P H) : Ext (lentP P H μ) H := fun a o e => by
  unfold lentP at e
  by_cases q : a ∈ adrs μ
  · rw [if_pos q] at e; exact e
  · rw [if_neg q] at e; exact xt a o e
theorem lentP_up (ok : StOk K P H μ) : Ext P (lentP P H μ) := fun a o e => by
  unfold lentP
  by_cases q : a ∈ adrs μ
  · obtain ⟨p, hp, rfl⟩ := List.mem_map.mp q
    rw [(ok.1 p hp).1] at e; cases e
  · rw [if_neg q]; exact e
theorem lent_rel (ok : StOk K P H μ) {v : V} {e : Dat} (h : lentS μ s e) (r : RelS K P v s) : Rp K (lentP P H μ) v e := by
  cases s with
  | un => exact h.elim
  | scr ns => exact h.elim
  | dat d =>
    cases h
    exact Rp.mono (lentP_up ok) r
  | adr a =>
    obtain ⟨ds, rfl, hm⟩ := h
    have r' : v = .ref a := r
    subst r'
    obtain ⟨_, xs, h1, ra⟩ := ok.get hm
    refine Rp.lst ?_ (ra.mono (lentP_up ok))
    unfold lentP
    rw [if_pos (List.mem_map.mpr ⟨_, hm, rfl⟩)]; exact h1
theorem lent_rels (ok : StOk K P H μ) : ∀ {vs : List V} {ss : List Sl} {es : List Dat}, lentSs μ ss es → RelSs K P vs ss → RelSs K (lentP P H μ) vs (es.map .dat)
  | [], [], [], _, _ => trivial
  | v :: vs, s :: ss, e :: es, h, r => ⟨lent_rel ok h.1 r.1, lent_rels ok h.2 r.2⟩
theorem ev_lent {E : XK} {n : Nat} {rel : List Dat → Dat → Prop} {ss : List Sl} (h : EvAs K t Γ μ ss) (hl : lentSs μ ss ds) (hn : ds.length = n) (hr : rel ds d) (hsc : scD d = true) : EvD K (tCall (spD K (preP n rel)) [] E t) Γ μ d := fun σ P H e xt ok Q q =>
  h σ P H e xt ok _ fun vs P1 H1 ss1 g1 r1 hs => by
    subst hs
    show spD K (preP n rel) (vs ++ []) H1 Q E
    rw [List.append_nil]
    refine ⟨lentP P1 H1 μ, [], ds.map .dat, fun s μ' => s = .dat d ∧ μ' = [], lentP_ext g1.ph, .nil, lent_rels g1.ok hl r1, ⟨ds, d, rfl, hn, hr, rfl, rfl, rfl⟩, fun v P' H' s μ' g r z => ?_⟩
    obtain ⟨rfl, rfl⟩ := z
    have hk : ∀ a o, H1 a = some o → H' a = some o := fun a o e => g.stp.hh a o (by simp) e
    have st : Stp [] P1 H1 P1 H' := ⟨.rfl' _, fun a o e => hk a o (g1.ph a o e), fun a o _ e => hk a o e, fun a _ e q => absurd e q, fun a e => by
      cases w : H1 a with
      | none => exact absurd w e
      | some o => rw [hk a o w]; exact nofun⟩
    exact q v P1 H' (.dat d) (g1.trans (.of0 st g1.ok)) (scD_rp (P := P') hsc r) rfl
end
end DL
namespace DL
open PySem PySem.Spec PyProof.Rows L2 M80
section
variable {K : PySem.W.Frag} {P H : Hp} {Γ Γ' : List Sl} {μ μ' : Mem} {te ta tb tk to : TE} {tt : TT} {t : TA} {g : TG} {R : Sl → Prop} {RM : Sl → Mem → Prop} {d : Dat} {s : Sl} {ds es : List Dat} {O : Ou}
/-! tuples: parts, concatenated -/
theorem ops_catA {es : List Dat} (hz : ds.length + es.length ≤ 1000000) : OpS K μ (rCatA K) (.dat (.tup ds)) (.dat (.tup es)) (fun s => s = .dat (.tup (ds ++ es))) := fun P H x y xt m ra rb Q q => by
  have ra' : Rp K P x (.tup ds) := ra
  have rb' : Rp K P y (.tup es) := rb
  cases ra' with
  | tup h1 r1 =>
    cases rb' with
    | tup h2 r2 =>
      refine ⟨_, _, _, _, rfl, rfl, xt.seqT h1, xt.seqT h2, by rw [r1.length, r2.length]; exact Nat.le_trans hz (by decide), fun e => ?_, fun _ e => ?_, fun _ _ p hp => fin_tup xt hp (r1.append r2) q⟩
      · subst e; cases r1
        exact q _ P H (.dat (.tup ([] ++ es))) (.refl xt) (Rp.tup h2 r2) rfl
      · subst e; cases r2
        exact q _ P H (.dat (.tup (ds ++ []))) (.refl xt) (Rp.tup h1 (by rw [List.append_nil]; exact r1)) rfl
theorem ev_slT {tl th : TO} {lo hi : Option Int} (h : EvD K te Γ μ (.tup ds)) (h1 : EvO K tl Γ μ (fun o => o = lo)) (h2 : EvO K th Γ μ (fun o => o = hi)) : EvD K (tSl (rSlA K) te tl th) Γ μ (.tup (cutD ds lo hi)) := fun σ P H e x m Q q =>
  h σ P H e x m _ fun v P1 H1 s g1 r1 hs => h1 σ P1 H1 (e.mono g1.pp) g1.ph g1.ok _ fun o P2 H2 g2 ho => h2 σ P2 H2 (e.mono (g1.pp.tr g2.pp)) g2.ph g2.ok _ fun o' P3 H3 g3 ho' => by
    subst hs; subst ho; subst ho'
    have r3 : Rp K P3 v (.tup ds) := RelS.mono (s := .dat (.tup ds)) (g2.pp.tr g3.pp) r1
    have g13 := g1.trans (g2.trans g3)
    cases r3 with
    | tup hl ra =>
      refine ⟨_, _, rfl, g3.ph.seqT hl, fun w => ?_, fun _ p hp => fin_tup g3.ph hp (ra.cut o o') fun v P' H' s st r hs => q v P' H' s (g13.trans (.of0 st g3.ok)) r hs⟩
      have e1 : cutD ds o o' = ds := by
        unfold cutD
        rw [← ra.length, w.1, w.2]
        simp [ra.length]
      exact q _ P3 H3 (.dat (.tup (cutD ds o o'))) g13 (by rw [e1]; exact Rp.tup hl ra) rfl
theorem cut_from1 {α : Type} {l : List α} : (l.drop (HT.sIx l.length 0 (some 1))).take (HT.sIx l.length l.length none - HT.sIx l.length 0 (some 1)) = l.drop 1 := by
  cases l with
  | nil => rfl
  | cons a r =>
    have e : HT.sIx (a :: r).length 0 (some 1) = 1 := by simp [HT.sIx]
    have e2 : HT.sIx (a :: r).length (a :: r).length none = (a :: r).length := rfl
    rw [e, e2]; simp
theorem cut_to1 {α : Type} {l : List α} : (l.drop (HT.sIx l.length 0 none)).take (HT.sIx l.length l.length (some 1) - HT.sIx l.length 0 none) = l.take 1 := by
  cases l with
  | nil => rfl
  | cons a r =>
    have e : HT.sIx (a :: r).length (a :: r).length (some 1) = 1 := by simp [HT.sIx]
    have e2 : HT.sIx (a :: r).length 0 none = 0 := rfl
    rw [e, e2]; simp
theorem cutD_from1 : cutD ds (some 1) none = ds.drop 1 := cut_from1
theorem cutD_to1 : cutD ds none (some 1) = ds.take 1 := cut_to1
end
end DL
namespace DL
open PySem PySem.Spec PyProof.Rows L2 M80
/-! ### len(o), o's class has an own __len__ -/
def rLenOwn (C : Addr) (sp : Sp) : List V → Hp → VK → Prop := fun vs H Q => ∃ (a dx : Addr) (fs : List (Str × V)), vs = [.ref a] ∧ H a = some (.ins C dx fs) ∧ sp [.ref a] H (fun v H' => ∃ n : Nat, v = .int n ∧ n ≤ 1000000 ∧ Q (.int n) H') (fun _ _ _ => False)
theorem call_lenOwn {X : Cx} {C f : Addr} {fd : FuncData} {ps : List Str} {sp : Sp} {n : Nat} (hl : PySem.W.findIn X.K (.ref C) "__len__" = some (some (.ref f))) (hf : PySem.W.isFn X.K (.ref f) = true)
    (FN : FnOk X.prog X.w X.K X.mg X.base CX0 n f fd ps sp) (bN : Binds X.K fd ps []) (hr : Room (n + 1) X.A) : CallR X (.builtin "len") (rLenOwn C sp) := by
  intro pins s σ H vs us Q I r h
  obtain ⟨a, dx, fs, rfl, ha, hsp⟩ := h
  rw [Vals.ref1 r]
  have sb : Sub X n X.A.in1 := ⟨hr.in1, rfl⟩
  obtain ⟨mA, J, _⟩ := ins_get I.hok ha
  obtain ⟨od, J, _⟩ := J.look
  refine Calls.call_function_entry kind_len plain_len entry_len (args_len1 _) ?_
  unfold Builtin.«len»
  refine wpAny_bind (m := oneArg "len" _) (wpAny_pure ?_)
  have e0 : Env0 X.prog X.w X.K X.mg X.base X.A.in1 X.stack s H := by
    have e := I.env0
    exact ⟨by rw [sb.fr]; exact e.frames, e.mod, e.bs, e.bsz, e.funs, e.frf, e.hok, e.bare⟩
  have hlen := FN.len _ _ _ _ hsp
  have r2 : Vals [V.ref a] [Value.ref a] := .cons rfl .nil
  refine wpAny_bind (m := callSpecial? (.ref a) (Str.ofString "__len__")) (PySem.W.special_fn (name := "__len__") (args := []) I.kIn J hl (beq_iff_eq.mp hf) ?_)
  refine wpAny_call (codeAny_mono (FN.run X.A.in1 X.stack s H ⟨[.ref a], []⟩ [.ref a] [.ref a] _ _ sb.room e0 (by
    have := bN s [.ref a] I.kIn (by simpa using hlen)
    simpa using this) r2 hsp) fun r s' hq => ?_)
  cases r with
  | error e => exact hq.elim
  | ok fl =>
    cases fl with
    | ret u =>
      obtain ⟨v, H', I', rv, m, rfl, hm, q⟩ := I.after hq
      obtain ⟨t, rfl⟩ := rv
      have hs : sizeLine = 16777216 := sizeLine_eq
      refine wpAny_bind (wpAny_holding (wpAny_pure ?_))
      refine wpAny_bind (wpAny_letGo ?_)
      show wpAny _ _ (if ((m : Nat) : Int) < 0 then _ else _) _ _ _
      rw [if_neg (by omega)]
      show wpAny _ _ (if ((m : Nat) : Int) ≥ 2 ^ 63 then _ else _) _ _ _
      rw [if_neg (by omega)]
      exact wpAny_bind (wpAny_mkInt (wpAny_pure ⟨_, rfl, .int m, H', I'.tok _, ⟨_, rfl⟩, q⟩))
    | next => exact False.elim hq
    | brk => exact False.elim hq
    | cont => exact False.elim hq
end DL
namespace DL
open PySem PySem.Spec PyProof.Rows L2 M80
section
variable {K : PySem.W.Frag} {P H : Hp} {Γ Γ' : List Sl} {μ μ' : Mem} {te ta tb tk to : TE} {tt : TT} {t : TA} {g : TG} {R : Sl → Prop} {RM : Sl → Mem → Prop} {d : Dat} {s : Sl} {ds es : List Dat} {O : Ou} {C x dx : Addr}
theorem without_one {m : Mu} (h : x ∉ adrs μ) : without ((x, m) :: μ) [(x, m)] = μ := by
  unfold without
  rw [List.filter_cons, if_neg (by simp)]
  refine List.filter_eq_self.mpr fun p hp => decide_eq_true fun z => h ?_
  have : p.1 = x := by simpa using z
  exact this ▸ List.mem_map.mpr ⟨p, hp, rfl⟩
theorem without_self (h : ∀ p ∈ μ, p ∈ μ') : without μ μ' = [] := by
  unfold without
  refine List.filter_eq_nil_iff.mpr fun p hp => ?_
  simp only [decide_eq_true_eq, Classical.not_not]
  exact List.mem_map.mpr ⟨p, h p hp, rfl⟩
/-- C(..): an object that stays owned, and what its __init__ makes -/
theorem em_makeO {pre : List Sl → Mem → (Sl → Mem → Prop) → Prop} {E : XK} {ss : List Sl} {RI : Addr → Addr → Mem → Prop} (h : EvAs K t Γ μ ss) (hp : ∀ x dx, pre (.adr x :: ss) [(x, .mis C dx [])] (fun s μ2 => s = .dat .non ∧ RI x dx μ2)) :
    EvM K (tMake C (spD K pre) [] E t) Γ μ (fun s μ' => ∃ x dx μ2, s = .adr x ∧ RI x dx μ2 ∧ μ' = μ2 ++ μ) := fun σ P H e xt ok Q q =>
  h σ P H e xt ok _ fun vs P1 H1 ss1 g1 r1 hs x dx hx hdx hne => by
    subst hs
    rw [List.append_nil]
    have a1 : Stp [] P1 H1 P1 (upd H1 dx (.own x)) := .newM g1.ph hdx
    have g2 := g1.trans (.of0 a1 g1.ok)
    have hx1 : (upd H1 dx (.own x)) x = none := by rw [upd_ne (Ne.symm hne)]; exact hx
    have g3 : Go K P1 (upd H1 dx (.own x)) μ P1 (upd (upd H1 dx (.own x)) x (.ins C dx [])) ((x, .mis C dx []) :: μ) := Go.alloc a1.ph g2.ok hx1 (MuOk.ins upd_same trivial)
    have hx0 : x ∉ adrs μ := g1.ok.apart hx
    refine ⟨P1, [(x, .mis C dx [])], _, _, g3.ph, ⟨fun p hp => g3.ok.1 p (List.mem_singleton.mp hp ▸ .head _), by simp⟩, RelSs.more (s := .adr x) rfl r1, hp x dx, fun v P2 H2 s2 μ2 g4 r2 hr => ?_⟩
    obtain ⟨rfl, hr⟩ := hr
    cases r2
    refine ⟨rfl, ?_⟩
    have g5 := Go.frame g3.ok (fun p hp => List.mem_singleton.mp hp ▸ .head _) g4
    rw [without_one hx0] at g5
    exact q (.ref x) P2 H2 (.adr x) _ (g2.trans (g3.trans g5)) rfl ⟨x, dx, μ2, rfl, hr, rfl⟩
/-- len(o) by its own __len__ -/
theorem ev_lenOwn {pre : List Sl → Mem → (Sl → Mem → Prop) → Prop} {fs : List (Str × Sl)} {μf : Mem} {n : Nat} (ho : Ev K te Γ μ (fun z => z = .adr x)) (hm : (x, Mu.mis C dx fs) ∈ μ) (sub : ∀ p ∈ μf, p ∈ μ) (nd : (adrs μf).Nodup) (hn : n ≤ 1000000)
    (hp : pre [.adr x] μf (fun s μ' => s = .dat (.int (n : Nat)) ∧ μ' = μf)) : EvD K (tCB (rLenOwn C (spD K pre)) (tCons te tNil)) Γ μ (.int (n : Nat)) := fun σ P H e xt ok Q q =>
  ho σ P H e xt ok _ fun v P1 H1 s1 g1 r1 hs => by
    subst hs
    have r1' : v = .ref x := r1
    subst r1'
    obtain ⟨_, vs, h1, rf⟩ := g1.ok.get hm
    refine ⟨x, dx, vs, rfl, h1, P1, μf, [.adr x], _, g1.ph, ⟨fun p hp => g1.ok.1 p (sub p hp), nd⟩, ⟨rfl, trivial⟩, hp, fun v P2 H2 s2 μ2 g2 r2 hr => ?_⟩
    obtain ⟨rfl, rfl⟩ := hr
    cases r2
    exact ⟨n, rfl, hn, q (.int (n : Nat)) P2 H2 (.dat (.int (n : Nat))) (g1.trans (.frame0 g1.ok sub g2)) (Rp.int _) rfl⟩
/-- o.m(..) on an owned object, all that is owned given, read only -/
theorem ev_methO {pre : List Sl → Mem → (Sl → Mem → Prop) → Prop} {E : XK} {ss : List Sl} {fs : List (Str × Sl)} {mn : Str} {μf : Mem} (ho : Ev K ta Γ μ (fun z => z = .adr x)) (hm : (x, Mu.mis C dx fs) ∈ μ) (hl : fs.lookup mn = none) (h : EvAs K t Γ μ ss)
    (sub : ∀ p ∈ μf, p ∈ μ) (nd : (adrs μf).Nodup) (hp : pre (.adr x :: ss) μf (fun s μ' => μ' = μf ∧ R s)) : Ev K (tMeth C mn (spD K pre) [] E ta t) Γ μ R := fun σ P H e xt ok Q q =>
  ho σ P H e xt ok _ fun v P1 H1 s1 g1 r1 hs => by
    subst hs
    have r1' : v = .ref x := r1
    subst r1'
    obtain ⟨_, vs, h1, rf⟩ := g1.ok.get hm
    refine ⟨x, dx, vs, rfl, h1, rf.look_none hl, h σ P1 H1 (e.mono g1.pp) g1.ph g1.ok _ fun vs P2 H2 ss2 g2 r2 hs2 => ?_⟩
    subst hs2
    rw [List.append_nil]
    refine ⟨P2, μf, _, _, g2.ph, ⟨fun p hp => g2.ok.1 p (sub p hp), nd⟩, RelSs.more (s := .adr x) rfl r2, hp, fun v P' H' s μ' g r hs => ?_⟩
    obtain ⟨rfl, hs⟩ := hs
    exact q v P' H' s ((g1.trans g2).trans (.frame0 g2.ok sub g)) r hs
end
end DL
namespace DL
open PySem PySem.Spec PyProof.Rows L2
theorem pe_lenOwn {X : Cx} {C : Addr} {sp : Sp} {ps : List Str} {n j : Nat} {p pos : Pos} {e : Expr} {t : TA} (h : MCallee X.prog X.w X.K X.mg X.base n C "__len__" ps sp) (hr : Room j X.A) (hm : X.mg "len" = none) (ha : PA X [e] t) (hj : n + 1 ≤ j := by decide) (hg : Gl X "len" := by rfl)
    (he : starEach [e] X.env = (false, eval e X.env) :: starEach [] X.env := by rfl) (hpl : (backTo pos (starEach [] X.env)).any (·.1) = false := by rfl) : PE X (.Call (.Name "len" p) [e] [] pos) (tCB (rLenOwn C sp) t) := by
  obtain ⟨c, f, fd, h1, h3, h4⟩ := h
  exact pe_callB (call_lenOwn h1.at_ h1.fn h4 h3 (hr.mono hj)) hg hm (by decide +kernel) ha (by decide) (by decide) he hpl
end DL
namespace DL
open PySem PySem.Spec PyProof.Rows L2 M80
section
variable {K : PySem.W.Frag} {P H P' H' : Hp} {Γ Γ' : List Sl} {μ μ' : Mem} {te ta tb tk to td ty tv : TE} {tt : TT} {t : TA} {b : TS} {g : TG} {R : Sl → Prop} {RM : Sl → Mem → Prop} {d : Dat} {s : Sl} {ds es : List Dat} {O : Ou} {a : Addr} {kvs : List (Key × Dat)} {k : Key}
/-! ### an owned dict of data -/
theorem ev_dgetO (hd : Ev K td Γ μ (fun z => z = .adr a)) (hm : (a, Mu.mdc kvs) ∈ μ) (hk : EvD K ty Γ μ (keyD k)) (h : getD kvs k = some d) : EvD K (tDGet td ty) Γ μ d := fun σ P H e xt m Q q =>
  hd σ P H e xt m _ fun v1 P1 H1 s g1 r1 hs => hk σ P1 H1 (e.mono g1.pp) g1.ph g1.ok _ fun v2 P2 H2 s2 g2 r2 hs2 => by
    subst hs; subst hs2
    have r1' : v1 = .ref a := r1
    subst r1'
    have e2 := rp_key r2
    subst e2
    obtain ⟨_, vs, h1, rk⟩ := g2.ok.get hm
    rcases rk.get k with ⟨v, d', h3, h4, h5⟩ | ⟨_, h4⟩
    · rw [h] at h4; cases h4
      exact ⟨_, v, rfl, .inl ⟨_, k, .inl h1, rfl, h3.symm⟩, q v P2 H2 (.dat d) (g1.trans g2) h5 rfl⟩
    · rw [h] at h4; cases h4
theorem sw_dputO (hv : EvD K tv Γ μ d) (hd : Ev K td Γ μ (fun z => z = .adr a)) (hm : (a, Mu.mdc kvs) ∈ μ) (hk : EvD K ty Γ μ (keyD k)) (hz : kvs.length ≤ 1000) (q : O.nx Γ (setMu μ a (.mdc (putD kvs k d)))) : SW K (sDPut td ty tv) Γ μ O := fun σ P H e xt m D n r bk ct =>
  hv σ P H e xt m _ fun v P1 H1 s g1 rv hs => hd σ P1 H1 (e.mono g1.pp) g1.ph g1.ok _ fun v1 P2 H2 s1 g2 r1 hs1 => hk σ P2 H2 (e.mono (g1.pp.tr g2.pp)) g2.ph g2.ok _ fun v2 P3 H3 s2 g3 r2 hs2 => by
    subst hs; subst hs1; subst hs2
    have r1' : v1 = .ref a := r1
    subst r1'
    have e2 := rp_key r2
    subst e2
    obtain ⟨np, vs, h1, rk⟩ := g3.ok.get hm
    have rv3 : Rp K P3 v d := RelS.mono (s := .dat d) (g2.pp.tr g3.pp) rv
    have g4 : Go K P3 H3 μ P3 (upd H3 a (.dK (putK vs k v))) (setMu μ a (.mdc (putD kvs k d))) := Go.write g3.ph g3.ok hm ⟨_, upd_same, rk.put rv3⟩
    have g14 := g1.trans (g2.trans (g3.trans g4))
    refine ⟨a, _, rfl, ?_, n σ P3 _ Γ _ g14 (e.mono g14.pp) q⟩
    exact DPut.k h1 (by rw [rk.length]; exact Nat.lt_of_le_of_lt hz (by decide))
end
/-! ### the law's store, opened -/
def stoD (ns : List Int) (i r t z : Int) : List (Key × Dat) := [(.inr "cells", .lst (ns.map Dat.int)), (.inr "at", .int i), (.inr "rest", .int r), (.inr "turn", .int t), (.inr "seed", .int z)]
section
variable {K : PySem.W.Frag} {P H P' H' : Hp} {Γ Γ' : List Sl} {μ μ' : Mem} {t : TS} {O : Ou} {a : Addr}
theorem sto_open {l : Mem} (h : StOk K P H ((a, .sto) :: l)) : ∃ ns i r t z, ns.length ≤ 100000 ∧ 0 ≤ i ∧ 0 ≤ r ∧ StOk K P H ((a, .mdc (stoD ns i r t z)) :: l) := by
  obtain ⟨h1, h2⟩ := h
  obtain ⟨np, kvs, e1, c, ns, i, r, t, z, e2, e3, e4, e5, e6⟩ := h1 _ (.head _)
  subst e6
  refine ⟨ns, i, r, t, z, e3, e4, e5, fun p hp => ?_, h2⟩
  rcases List.mem_cons.mp hp with rfl | hp
  · exact ⟨np, _, e1, .cons e2 (.cons (.int _) (.cons (.int _) (.cons (.int _) (.cons (.int _) .nil))))⟩
  · exact h1 p (.tail _ hp)
theorem sto_close {l : Mem} {ns : List Int} {i r t z : Int} (h1 : ns.length ≤ 100000) (h2 : 0 ≤ i) (h3 : 0 ≤ r) (h : StOk K P H ((a, .mdc (stoD ns i r t z)) :: l)) : StOk K P H ((a, .sto) :: l) := by
  obtain ⟨k1, k2⟩ := h
  refine ⟨fun p hp => ?_, k2⟩
  rcases List.mem_cons.mp hp with rfl | hp
  · obtain ⟨np, vs, e1, rk⟩ := k1 _ (.head _)
    refine ⟨np, vs, e1, ?_⟩
    cases rk with
    | cons c rk =>
      cases rk with
      | cons v1 rk =>
        cases rk with
        | cons v2 rk =>
          cases rk with
          | cons v3 rk =>
            cases rk with
            | cons v4 rk =>
              cases rk
              cases v1; cases v2; cases v3; cases v4
              exact ⟨_, ns, i, r, t, z, c, h1, h2, h3, rfl⟩
  · exact k1 p (.tail _ hp)
theorem sw_sto (h : ∀ ns i r tn z, ns.length ≤ 100000 → 0 ≤ i → 0 ≤ r → SW K t Γ [(a, .mdc (stoD ns i r tn z))] { nx := fun _ _ => False, rt := fun s μ' => ∃ (ns : List Int) (i r tn z : Int), ns.length ≤ 100000 ∧ 0 ≤ i ∧ 0 ≤ r ∧ μ' = [(a, .mdc (stoD ns i r tn z))] ∧ O.rt s [(a, .sto)] }) : SW K t Γ [(a, .sto)] O := fun σ P H e xt ok D n r bk ct => by
  obtain ⟨ns, i, rr, tn, z, h1, h2, h3, ok'⟩ := sto_open ok
  refine h ns i rr tn z h1 h2 h3 σ P H e xt ok' D (fun _ _ _ _ _ _ _ z => z.elim) (fun v P' H' s μ' g rv hr => ?_) (fun _ _ _ _ _ _ _ z => z.elim) fun _ _ _ _ _ _ _ z => z.elim
  obtain ⟨ns', i', r', tn', z', k1, k2, k3, rfl, ho⟩ := hr
  exact r v P' H' s _ ⟨g.stp, sto_close k1 k2 k3 g.ok, g.new⟩ rv ho
end
end DL
namespace DL
open PySem PySem.Spec PyProof.Rows L2 M80
section
variable {K : PySem.W.Frag} {P H P' H' : Hp} {Γ Γ' : List Sl} {μ μ' : Mem} {te ta tb tk to td ty tv : TE} {t : TA} {R : Sl → Prop} {d : Dat} {s : Sl} {ds es : List Dat} {O : Ou} {a : Addr}
theorem atI_nat {α : Type} {l : List α} {i : Nat} {e : α} (h : l[i]? = some e) : atI l ((i : Nat) : Int) = some e := by
  have hi := (List.getElem?_eq_some_iff.mp h).1
  unfold atI ixN
  rw [if_pos (by omega), if_pos (by omega)]
  show l[((i : Nat) : Int).toNat]? = _
  rw [Int.toNat_natCast]; exact h
theorem ev_tupR {RD : List Dat → Prop} (h : EvA K t Γ μ (fun ss => ∃ ds, ss = ds.map .dat ∧ ds.length ≤ 1000000 ∧ RD ds)) : Ev K (tTup t) Γ μ (fun z => ∃ ds, RD ds ∧ z = .dat (.tup ds)) := fun σ P H e x m Q q =>
  h σ P H e x m _ fun vs P1 H1 ss g1 r1 hs => by
    obtain ⟨ds, rfl, hl, hr⟩ := hs
    have r := relSs_dat r1
    refine ⟨by rw [r.length]; exact Nat.le_trans hl (by decide), fun p hp => fin_tup g1.ph hp r fun v P' H' s st rv e => q v P' H' s (g1.trans (.of0 st g1.ok)) rv ⟨ds, hr, e⟩⟩
theorem ev_slLR {tl th : TO} {lo hi : Option Int} {RD : List Dat → Prop} (h : Ev K te Γ μ (fun z => ∃ ds, RD ds ∧ z = .dat (.lst ds))) (h1 : EvO K tl Γ μ (fun o => o = lo)) (h2 : EvO K th Γ μ (fun o => o = hi)) : Ev K (tSl (rSlL K) te tl th) Γ μ (fun z => ∃ ds, RD ds ∧ z = .dat (.lst (cutD ds lo hi))) := fun σ P H e x m Q q =>
  h σ P H e x m _ fun v P1 H1 s g1 r1 hs => h1 σ P1 H1 (e.mono g1.pp) g1.ph g1.ok _ fun o P2 H2 g2 ho => h2 σ P2 H2 (e.mono (g1.pp.tr g2.pp)) g2.ph g2.ok _ fun o' P3 H3 g3 ho' => by
    obtain ⟨ds, hr, rfl⟩ := hs
    subst ho; subst ho'
    have r3 : Rp K P3 v (.lst ds) := RelS.mono (s := .dat (.lst ds)) (g2.pp.tr g3.pp) r1
    cases r3 with
    | lst hl ra => exact ⟨_, _, rfl, .of (g3.ph _ _ hl), fun p hp => fin_lst g3.ph hp (ra.cut o o') fun v P' H' s st r hs => q v P' H' s ((g1.trans (g2.trans g3)).trans (.of0 st g3.ok)) r ⟨ds, hr, hs⟩⟩
theorem ev_joinR {RL : Lot → Prop} (h0 : EvD K to Γ μ (.str ⟨#[]⟩)) (h : Ev K te Γ μ (fun z => ∃ l, RL l ∧ l.length ≤ 1000000 ∧ z = .dat (.lst (chs l)))) : Ev K (tM1 (rJn K) to te) Γ μ (fun z => ∃ l, RL l ∧ z = .dat (tx l)) := fun σ P H e x m Q q => by
  refine h0 σ P H e x m _ fun v P1 H1 s g1 r1 hs => ?_
  subst hs; cases r1
  refine ⟨⟨_, rfl⟩, h σ P1 H1 (e.mono g1.pp) g1.ph g1.ok _ fun v P2 H2 s g2 r2 hs => ?_⟩
  obtain ⟨l, hr, hz, rfl⟩ := hs
  cases r2 with
  | lst hl ra =>
    have e1 : chs l = (l.map fun c => (⟨#[c]⟩ : Str)).map Dat.str := by simp [chs]
    rw [e1] at ra
    have e2 := RpA.of_strs ra
    subst e2
    refine ⟨_, _, l.map fun c => (⟨#[c]⟩ : Str), rfl, rfl, .inl (.of (g2.ph _ _ hl)), ?_, ?_⟩
    · have e3 : ∀ l : Lot, ((l.map fun c => (⟨#[c]⟩ : Str)).map (·.length)).sum = l.length := fun l => by
        induction l with
        | nil => rfl
        | cons c r ih => simp only [List.map_cons, List.sum_cons, List.length_cons] at ih ⊢; rw [ih]; show 1 + r.length = _; omega
      rw [e3]
      show l.length + _ * 0 ≤ _
      omega
    · rw [join_chs]
      exact q _ P2 H2 (.dat (tx l)) (g1.trans g2) (Rp.str _) ⟨l, hr, rfl⟩
end
end DL
set_option maxHeartbeats 4000000
namespace DL
open PySem PySem.Spec PyProof.Rows L2
/-! ### several clauses `except X as n`, one name n in slot i -/
/-- behind a suite the name is gone -/
abbrev goneE (i : Nat) (D : Ends) : Ends := { nx := fun σ' H' => D.nx (σ'.set i none) H', rt := D.rt, bk := fun σ' H' => D.bk (σ'.set i none) H', ct := fun σ' H' => D.ct (σ'.set i none) H' }
def wManyAs (K : PySem.W.Frag) (i : Nat) (Wout : WX) (D : Ends) : List (Value × (Addr → Value → Option Addr → TS)) → WX
  | [] => Wout
  | (c, ts) :: r => fun cls d σ H => ∃ b, PySem.W.exmOne K cls c = some b ∧ (b = true → ∀ a, H a = none → ts a cls d (goneE i D) (σ.set i (some (.ref a))) H) ∧ (b = false → wManyAs K i Wout D r cls d σ H)
inductive HdsAs (X : Cx) (n : Str) : List ExceptHandler → List (Value × (Addr → Value → Option Addr → TS)) → Prop
  | nil : HdsAs X n [] []
  | cons {x : Str} {c : Value} {ts : Addr → Value → Option Addr → TS} {b₀ : Stmt} {suite : List Stmt} {np pos' : Pos} {hds : List ExceptHandler} {l : List (Value × (Addr → Value → Option Addr → TS))} (hc : Names X x c) (hsu : ∀ (a : Addr) (oe : Obj) (cls : Value) (d : Option Addr) (pn : List (Addr × Obj)), Zc cls d oe → (∃ vs, oe.data = .fields vs) → PSs (X.suite a ((a, oe) :: pn)) (b₀ :: suite) (ts a cls d)) (r : HdsAs X n hds l) :
      HdsAs X n (.ExceptHandler (some (.Name x np)) (some n) (b₀ :: suite) pos' :: hds) ((c, ts) :: l)
theorem ps_try_manyAs {X : Cx} {n : Str} {i : Nat} {body : List Stmt} {h₀ : ExceptHandler} {hds : List ExceptHandler} {l : List (Value × (Addr → Value → Option Addr → TS))} {pos : Pos} {tb : WX → TS} {Wout : WX} (hs : X.stack = X.env :: X.outer) (hf : X.env.frame = some X.env.locals) (hN : X.N.Nodup) (hi : X.N[i]? = some n) (hln : X.env.kindOf n = some .local) (tk : Takes X Wout)
    (hb : ∀ (W : WX) (pn : List (Addr × Obj)) (xe : Value → Shared → Prop), Takes (X.tr pn xe) W → PassesOwn (model X.prog X.w) X.A X.env xe → PSs (X.tr pn xe) body (tb W)) (hh : HdsAs X n (h₀ :: hds) l) : PS X (.Try body (h₀ :: hds) [] [] pos) (fun D σ H => tb (wManyAs X.K i Wout D l) D σ H) := by
  refine ⟨fun pins s σ H D I h => ?_⟩; have ok := I.ok; have hfr : X.A.frames = some (X.env :: X.outer) := by rw [ok.frames, hs]
  have hloc : Loc X.env.scope n := .inl hln; refine wpAny_Try_except ?_
  refine wpAny_mono ((hb (wManyAs X.K i Wout D l) (X.pn ++ pins) (fun e s₁ => wpAny (model X.prog X.w) X.A (noteFrame e X.env) (fun _ s₂ => wpAny (model X.prog X.w) X.A (setFlight e none) (fun _ s₃ => wpAny (model X.prog X.w) X.A (handleBy e X.env (h₀ :: hds)) (SP X pins D) X.xe s₃) X.xe s₂) X.xe s₁) (fun u s' xx => ?_) PassesOwn.looking).run [] s σ H D (I.toTry _) h) (fun f s1 hsp => ?_) (fun e s1 he => he)
  · obtain ⟨a, B, sI, pins', σ', H', cls, d, rfl, J', nb, up, sky, na, os, ag, w⟩ := xx; have J : Inv X pins σ' H' sI := J'.ofTry ok
    have sky' : Sky B (X.env :: X.outer) a (Zc cls d) X.env.locals s'.heap := by rw [← hs]; exact sky
    show wpAny (model X.prog X.w) X.A (noteFrame (.ref a) X.env) _ _ _; refine Sky.land Zc.steady hfr hf sky' fun h3 fl3 up3 => ?_
    have J3 : Inv X pins σ' H' { s' with heap := h3 } := J.landed nb fl3.1 (up.trans up3) os ag; obtain ⟨oe3, vs3, he3, hz3, hd3⟩ := fl3.there
    have nfr : a ∉ frs (X.env :: X.outer) := fun hm => by
      obtain ⟨_, o', e', hnf⟩ := fl3.2.2.1.mem hm; rw [he3] at e'; cases e'; exact hnf _ hd3
    have nL : a ≠ X.env.locals := fun z => nfr (List.mem_filterMap.mpr ⟨X.env, .head _, by rw [hf, z]⟩)
    have nF : a ∉ X.fs := fun hm => let ⟨e, he, q⟩ := List.mem_filterMap.mp hm; nfr (List.mem_filterMap.mpr ⟨e, .tail _ he, q⟩)
    have S3 := J3.suite he3 hd3 na nL nF
    have go : ∀ {hds' : List ExceptHandler} {l' : List (Value × (Addr → Value → Option Addr → TS))}, HdsAs X n hds' l' → wManyAs X.K i Wout D l' cls d σ' H' → wpAny (model X.prog X.w) X.A (handleBy (.ref a) X.env hds') (SP X pins D) X.xe { s' with heap := h3 } := by
      intro hds' l' hk; induction hk with
      | nil =>
        intro w; refine wpAny_handleBy_nil ?_; obtain ⟨k1, k2, k3, oe, vs, T, oT, ts', he, hz, hd, h1, hr⟩ := id fl3
        unfold PySem.passOn; refine wpAny_bind (wpAny_field he hd h1 ?_); rw [if_neg (show ¬ ((Value.ref T == Value.none) = true) from by simp)]
        have fin : wpAny (model X.prog X.w) X.A (setFlight (.ref a) X.env.frame) (fun _ s4 => wpAny (model X.prog X.w) X.A (throw (.ref a) : Sem Flow) (SP X pins D) X.xe s4) X.xe { s' with heap := h3 } := by
          rw [hf]; exact HandSPX.setFlight_upZ fl3 fun h4 hh4 up4 => wpAny_throw (tk _ _ ⟨a, B, sI, pins, σ', H', cls, d, rfl, J, nb, (up.trans up3).trans up4, .inr (.inr (by rw [hs]; exact hh4)), na, os, ag, w⟩)
        first | exact wpAny_bind (wpAny_pure (wpAny_bind fin)) | exact wpAny_bind fin
      | @cons x c ts b₀ suite np pos' hds2 l2 hc hsu r ih =>
        intro w; obtain ⟨b, hb1, hyes, hno⟩ := w; refine wpAny_handleBy_cons (codeAny_handlers_test ?_) (by intro q; cases q)
        have LT : PySem.W.Looks (model X.prog X.w) h3 (typeOf (.ref a)) cls := fun A Q E s k q => wpAny_typeOf_ref (k _ _ he3) (by rw [hz3.1]; exact q)
        have LM := PySem.W.exm_one (M := model X.prog X.w) (J3.kIn) LT hb1
        have test : ∀ {Q : Value → Shared → Prop} {E : Value → Shared → Prop}, Q c { s' with heap := h3 } → wpAny (model X.prog X.w) (X.A.mark (some (.ref a))) (eval (.Name x np) X.env) Q E { s' with heap := h3 } := fun {Q E} q => by
          obtain ⟨hg, hdbg, hm | ⟨hm, hv, hnn⟩⟩ := hc; exact ld_glob (X := X.suite a ((a, oe3) :: (X.pn ++ pins))) S3 hg hm q hdbg; exact ld_blt (X := X.suite a ((a, oe3) :: (X.pn ++ pins))) S3 hg hm hv q hnn hdbg
        refine test (LM.here ?_); cases b with
        | true =>
          refine codeAny_handlers_suite_as (HandSPX.lands_againZ fl3 fun h4 fl4 up4 => ?_)
          have J4 : Inv X pins σ' H' { s' with heap := h4 } := J.landed nb fl4.1 ((up.trans up3).trans up4) os ag; obtain ⟨oe4, vs4, he4, hz4, hd4⟩ := fl4.there
          refine store_ok (X := X.suite a ((a, oe4) :: (X.pn ++ pins))) (v := .ref a) (J4.suite he4 hd4 na nL nF) hN hi hloc rfl (fun s5 S5 => ?_) (.inr hln)
          refine wpAny_mono ((hsu a oe4 cls d (X.pn ++ pins) hz4 ⟨_, hd4⟩).run [] s5 _ H' _ S5 (hyes rfl a na)) (fun f s6 hsp => ?_) (fun _ _ z => False.elim z)
          have end_ : ∀ {σ6 : L2.St} {H6 : Hp} {Q : Shared → Prop}, Inv (X.suite a ((a, oe4) :: (X.pn ++ pins))) [] σ6 H6 s6 → (∀ s7, Inv X pins (σ6.set i none) H6 s7 → Q s7) → wpAny (model X.prog X.w) X.A (do bindName X.env n .none; unbindBehindTheSuite X.env n pos') (fun _ s7 => Q s7) X.xe s6 := fun S6 hq => gone_ok (S6.unsuite ok) hN hi hln hq
          cases f with
          | ret u => obtain ⟨v6, σ6, H6, S6, r6, q6⟩ := hsp; exact end_ S6 fun s7 J7 => ⟨_, _, _, J7, r6, q6⟩
          | next => obtain ⟨σ6, H6, S6, q6⟩ := hsp; exact end_ S6 fun s7 J7 => ⟨_, _, J7, q6⟩
          | brk => obtain ⟨σ6, H6, S6, q6⟩ := hsp; exact end_ S6 fun s7 J7 => ⟨_, _, J7, q6⟩
          | cont => obtain ⟨σ6, H6, S6, q6⟩ := hsp; exact end_ S6 fun s7 J7 => ⟨_, _, J7, q6⟩
        | false => show wpAny _ X.A (handleBy (.ref a) X.env hds2) _ _ _; exact ih (hno rfl)
    exact go hh w
  · cases f with
    | ret u => obtain ⟨v, σ', H', J', r, q⟩ := hsp; exact ⟨v, σ', H', J'.ofTry ok, r, q⟩
    | next => obtain ⟨σ', H', J', q⟩ := hsp; exact wpAny_execs_nil ⟨σ', H', J'.ofTry ok, q⟩
    | brk => obtain ⟨σ', H', J', q⟩ := hsp; exact ⟨σ', H', J'.ofTry ok, q⟩
    | cont => obtain ⟨σ', H', J', q⟩ := hsp; exact ⟨σ', H', J'.ofTry ok, q⟩
end DL
/-! isinstance of a caught error of an own class whose instances have a dict -/
namespace PySem.W
open PySem PySem.Spec PySem.Calls PyProof.Rows
section
variable {prog : Program} {w : World} {A : Around} {E : Value → Shared → Prop} {s : Shared} {K : Frag} {x D : Addr} {ox : Obj} {od : Option Obj}
theorem findObj_od {C : Addr} {name : Str} {a g : Value} (hc : (clsIn K C).isSome = true) (ha : findIn K (.ref C) name = some (some a)) (hg : specialIn K a "__get__" = some (some g)) (ht : takesIn K a = some true) : findObj K C od name = some (.bind g a) := by
  obtain ⟨cd, hc⟩ := Option.isSome_iff_exists.mp hc; unfold findObj
  rw [hc, Option.bind_some, ha, Option.bind_some]; simp [hg, ht]
theorem kin_classD {Q : Option Value → Shared → Prop} (hga : findIn K (.ref D) "__getattribute__" = some (some (.builtin "BaseException.__getattribute__"))) (hsub : subIn K (.ref D) (.type "BaseException") = some true) (hgt : findIn K (.ref D) "__getattr__" = some none) (hdct : hasDictIn K D = true) (ha : findIn K (.ref D) "__class__" = some (some (.builtin "object.__class__"))) (hn : specialIn K (.builtin "object.__class__") "__get__" = some (some (.builtin "getset_descriptor.__get__")))
    (htk : takesIn K (.builtin "object.__class__") = some true) (hm : mroIn K D (.type "object") = some true) (X : K.In s.heap) (I : InstAt s.heap x ox D od) (h : Q (some (.ref D)) { s with toks := s.toks + 1 }) : wpAny (model prog w) A (getAttr? (.ref x) "__class__") Q E s := by
  have hf : findObj K D od "__class__" = some (.bind (.builtin "getset_descriptor.__get__") (.builtin "object.__class__")) := findObj_od (by obtain ⟨cd, hc, _⟩ := any_some hdct; rw [hc]; rfl) ha hn htk; obtain ⟨hp, g, d, t, os⟩ := s; have L0 := I.type (M := model prog w)
  have L1 := looks_findIn (M := model prog w) X hga; have L2 := looks_findIn (M := model prog w) X hgt; have L3 := looks_find (M := model prog w) X I hf
  have sub : Looks (model prog w) hp (isInstance (.ref x) (.type "BaseException")) true := L0.andThen (looks_subIn X hsub); have hx0 : (false && onTheHeap (Value.builtin "BaseException.__getattribute__")) = false := rfl; have hx2 : (Value.builtin "BaseException.__getattribute__" == Value.builtin "object.__getattribute__") = false := by decide +kernel
  (have hx1 : (onTheHeap (Value.ref D) && Value.builtin "BaseException.__getattribute__" == Value.builtin "object.__getattribute__") = false := by rw [hx2]; rfl); unfold getAttr? getAttrBy? getAttrBy; refine wpAny_bind (wpAny_mkText (wpAny_bind (wpAny_attempt (wpAny_holding (wpAny_bind (L0.at (wpAny_bind (L1.at ?_))))))))
  show wpAny _ _ (if (onTheHeap (Value.ref D) && Value.builtin "BaseException.__getattribute__" == Value.builtin "object.__getattribute__") = true then _ else _) _ _ _; rw [hx1, if_neg Bool.false_ne_true]; unfold getAttrByItsOwn hookBefore
  refine wpAny_bind ?_; rw [if_pos (show onTheHeap (Value.ref D) = true from rfl)]; refine L2.at ?_
  refine wpAny_bind (wpAny_attempt (wpAny_holding ?_)); unfold callGetattribute; rw [hx0, if_neg Bool.false_ne_true]
  unfold boundAndCalled; rw [PySem.F.excAttr_ValueError.ga.bind (.ref x)]; refine wpAny_bind (wpAny_pure ?_)
  show wpAny _ _ (call (.builtin "BaseException.__getattribute__") [.ref x, .str "__class__" t]) _ _ _; refine wpAny_call (codeAny_call_builtin PySem.F.excAttr_ValueError.ga.plain PySem.F.entry_bexc_ga ?_); refine @check_slot (model prog w) _ _ ⟨hp, g, d, t + 1, os⟩ "BaseException.__getattribute__" "BaseException" "__getattribute__" (.ref x) [.str "__class__" t] [] _ (by decide +kernel) (by decide +kernel) sub (PySem.F.args_bexc_ga (.ref x) (.str "__class__" t)) ?_
  unfold Builtin.«object.__getattribute__»; refine wpAny_bind (wpAny_of_eq (a := ((Value.ref x : Value), [Value.str "__class__" t])) (by first | rfl | (simp only [slotArgs]; rfl)) ?_); refine wpAny_bind (wpAny_pure (wpAny_bind (L0.at (wpAny_bind (L3.at ?_)))))
  show wpAny _ _ (holding [Value.builtin "object.__class__"] (call (.builtin "getset_descriptor.__get__") [.builtin "object.__class__", .ref x, .ref D]) >>= ret) _ _ _; refine wpAny_bind (wpAny_holding (wpAny_call (class_get (s := ⟨hp, g, d, t + 1, os⟩) (ox := ox) (od := od) X I hm ?_))); refine wpAny_pure ?_
  show wpAny _ _ (handedOut (.ref D)) _ _ _; rw [handedOut_of (v := .ref D) rfl]; (first | exact wpAny_pure (wpAny_pure h) | exact wpAny_pure h | exact wpAny_pure (wpAny_bind (wpAny_pure (wpAny_pure h))))
theorem kitx_excD (hga : findIn K (.ref D) "__getattribute__" = some (some (.builtin "BaseException.__getattribute__"))) (hsub : subIn K (.ref D) (.type "BaseException") = some true) (hgt : findIn K (.ref D) "__getattr__" = some none) (hdct : hasDictIn K D = true) (ha : findIn K (.ref D) "__class__" = some (some (.builtin "object.__class__"))) (hn : specialIn K (.builtin "object.__class__") "__get__" = some (some (.builtin "getset_descriptor.__get__")))
    (htk : takesIn K (.builtin "object.__class__") = some true) (hm : mroIn K D (.type "object") = some true) : KitX K (.ref x) (.ref D) (fun h => InstAt h x ox D od) where
  ty := fun _ _ _ I => I.type
  it := fun _ _ X _ => by
    obtain ⟨cdD, hcD, _⟩ := any_some hdct; unfold clsIn at hcD; split at hcD
    · rename_i c' d' cd' sl' ho; intro A' Q' E' s' k q; unfold isType loadHead; exact wpAny_bind (wpAny_loadPart (k _ _ (X _ _ ho)) (wpAny_pure q))
    · cases hcD
  ne := fun h tp dd its n sl X htp => by
    obtain ⟨cdD, hcD, _⟩ := any_some hdct; refine Bool.eq_false_iff.mpr fun q => ?_; have e : D = tp := Value.ref.inj (beq_iff_eq.mp q); subst e; unfold clsIn at hcD; split at hcD
    · rename_i c' d' cd' sl' ho; have z := (X _ _ ho).symm.trans htp; cases z
    · cases hcD
  ca := fun X I k => kin_classD hga hsub hgt hdct ha hn htk hm X I k
end
end PySem.W
namespace DL
open PySem PySem.Spec PyProof.Rows L2
/-- isinstance(e, c) and isinstance(e, (c, ..)), e the caught exception at a, of the class at D, with its dict -/
def rIsD (K : PySem.W.Frag) (D a : Addr) (d : Option Addr) (cls : Value) : List V → Hp → VK → Prop := fun xs H Q => cls = .ref D ∧ ∃ (dd : Addr) (fs : List (Str × V)), d = some dd ∧ H dd = some (.xd fs) ∧
  ((∃ (c : V) (cv : Value) (b : Bool), xs = [.ref a, c] ∧ (∀ u, RelV c u → u = cv) ∧ PySem.W.kitOne K (.ref D) cv = some b ∧ Q (.bl b) H) ∨
    ∃ (tp : Addr) (cs : List V) (ws : List Value) (b : Bool), xs = [.ref a, .ref tp] ∧ H tp = some (.tup cs) ∧ (∀ us, Vals cs us → us = ws) ∧ PySem.W.kitAny K (.ref D) ws = some b ∧ Q (.bl b) H)
theorem call_isD {X : Cx} {a D : Addr} {oe : Obj} {cls : Value} {d : Option Addr} {pn : List (Addr × Obj)} (C : ExcC X.K D) (hz : Zc cls d oe) (hf : ∃ vs, oe.data = .fields vs) : CallR (X.suite a ((a, oe) :: pn)) (.builtin "isinstance") (rIsD X.K D a d cls) := by
  intro pins s σ H xs us Q I r h
  obtain ⟨rfl, dd, fs, rfl, hdd, h⟩ := h
  obtain ⟨hget, _⟩ := I.pin (a, oe) (List.mem_append.mpr (.inl (.head _)))
  obtain ⟨vs, hv⟩ := hf
  have hx : ObjOk X.prog X.w H s.heap dd (.xd fs) := I.hok dd _ hdd
  obtain ⟨mA, hns, hr⟩ := hx
  obtain ⟨od, ho, hl⟩ := lookIn_ns hns
  have J : PySem.W.InstAt s.heap a oe D (some od) := ⟨hget, hz.1, by unfold PySem.W.notCls; rw [hv], by rw [hz.2]; exact ho⟩
  have Z := PySem.W.kitx_excD (K := X.K) (x := a) (ox := oe) (od := some od) C.hg C.hs C.hk C.hd C.ha C.hn C.ht C.hm
  rcases h with ⟨c, cv, b, rfl, hcv, e, q⟩ | ⟨tp, cs, ws, b, rfl, htp, hws, e, q⟩
  · obtain ⟨u1, u2, rfl, r1, r2⟩ := vals2 r
    cases (show u1 = Value.ref a from r1)
    have ec := hcv _ r2
    subst ec
    exact PySem.W.kia_one Z I.kIn J e (fun z => nomatch z) fun tk => ⟨.bl b, H, I.kept (t' := tk) fun _ _ z => z, rfl, q⟩
  · obtain ⟨u1, u2, rfl, r1, r2⟩ := vals2 r
    cases (show u1 = Value.ref a from r1)
    cases (show u2 = Value.ref tp from r2)
    obtain ⟨_, its, rv, o, k1, k2, n, k3⟩ := (show ObjOk X.prog X.w H s.heap tp (.tup cs) from I.hok tp _ htp)
    have e3 := hws _ rv
    subst e3
    obtain ⟨oc, odi, dt, sl⟩ := o
    simp only at k2 k3
    subst k2 k3
    exact PySem.W.kia_tup Z I.kIn J k1 e (fun z => nomatch z) fun tk => ⟨.bl b, H, I.kept (t' := tk) fun _ _ z => z, rfl, q⟩
end DL
namespace DL
open PySem PySem.Spec PyProof.Rows L2
/-! ### an own exception class over ValueError whose __init__ is at fI and keeps the field f -/
structure XCls (K : PySem.W.Frag) (C fI : Addr) (f : Str) : Prop where
  o : OexC K C
  x : XfC K C
  e : ExcC K C
  no : PySem.W.findIn K (.ref C) f = some none
  ini : PySem.W.findIn K (.ref C) "__init__" = some (some (.ref fI))
  ty : PySem.W.typeIn K (.ref fI) = some (.type "function")
def oexB (K : PySem.W.Frag) (C : Addr) : Bool := match K.lookup C with
  | some ⟨.type "type", _, .cls cd, sl⟩ => (match cd.mro, sl.toList with
    | .ref C' :: bm, [_, _, _, _, some (.builtin n), _] => decide (C' = C) && (decide (n = "ValueError.__new__") && (!cd.hasDel && (PySem.HandSPX.refsVE bm && cd.hasDict)))
    | _, _ => false)
  | _ => false
theorem oexB_ok {K : PySem.W.Frag} {C : Addr} (h : oexB K C = true) : ∃ nm q N bs bm sn sub ab col dd k0 k1 k2 k3 k5, K.lookup C = some (excClassObj nm q C N bs bm true sn sub ab col dd k0 k1 k2 k3 k5 "ValueError.__new__") ∧ PySem.HandSPX.refsVE bm = true := by
  unfold oexB at h
  split at h
  · rename_i dd cd sl hl
    split at h
    · rename_i C' bm s0 s1 s2 s3 n s5 hm hs
      simp only [Bool.and_eq_true, decide_eq_true_eq, Bool.not_eq_true'] at h
      obtain ⟨rfl, rfl, h1, h2, h3⟩ := h
      obtain ⟨nm, bs, mro, N, q, hd, sn, sub, ab, col, del⟩ := cd
      simp only at hm h1 h3
      subst hm h1 h3
      have e : sl = #[s0, s1, s2, s3, some (.builtin "ValueError.__new__"), s5] := Array.toList_inj.mp hs
      subst e
      exact ⟨nm, q, N, bs, bm, sn, sub, ab, col, dd, s0, s1, s2, s3, s5, hl, h2⟩
    · cases h
  · cases h
def xclsB (K : PySem.W.Frag) (C fI : Addr) (f : Str) : Bool := oexB K C && (He.eqO (PySem.W.findIn K (.ref C) "__setattr__") (some (some (.builtin "object.__setattr__"))) && (decide (PySem.W.subIn K (.ref C) (.type "BaseException") = some true) && (decide (PySem.W.typeIn K (.ref C) = some (.type "type")) && (PySem.W.keepIn K (.ref C) &&
  (He.eqO (PySem.W.findIn K (.ref C) "__getattribute__") (some (some (.builtin "BaseException.__getattribute__"))) && (He.eqO (PySem.W.findIn K (.ref C) "__getattr__") (some none) && (PySem.W.hasDictIn K C && (He.eqO (PySem.W.findIn K (.ref C) "__class__") (some (some (.builtin "object.__class__"))) &&
  (He.eqO (PySem.W.specialIn K (.builtin "object.__class__") "__get__") (some (some (.builtin "getset_descriptor.__get__"))) && (decide (PySem.W.takesIn K (.builtin "object.__class__") = some true) && (decide (PySem.W.mroIn K C (.type "object") = some true) && (He.eqO (PySem.W.findIn K (.ref C) f) (some none) &&
  (He.eqO (PySem.W.findIn K (.ref C) "__init__") (some (some (.ref fI))) && decide (PySem.W.typeIn K (.ref fI) = some (.type "function")))))))))))))))
theorem xclsB_ok {K : PySem.W.Frag} {C fI : Addr} {f : Str} (h : xclsB K C fI f = true) : XCls K C fI f := by
  unfold xclsB at h
  obtain ⟨a1, h⟩ := He.ba h
  obtain ⟨a2, h⟩ := He.ba h
  obtain ⟨a3, h⟩ := He.ba h
  obtain ⟨a4, h⟩ := He.ba h
  obtain ⟨a5, h⟩ := He.ba h
  obtain ⟨a6, h⟩ := He.ba h
  obtain ⟨a7, h⟩ := He.ba h
  obtain ⟨a8, h⟩ := He.ba h
  obtain ⟨a9, h⟩ := He.ba h
  obtain ⟨b1, h⟩ := He.ba h
  obtain ⟨b2, h⟩ := He.ba h
  obtain ⟨b3, h⟩ := He.ba h
  obtain ⟨b4, h⟩ := He.ba h
  obtain ⟨b5, b6⟩ := He.ba h
  have c3 := of_decide_eq_true a3
  exact ⟨⟨oexB_ok a1, He.eqO_ok a2, c3, of_decide_eq_true a4, a5⟩, ⟨He.eqO_ok a6, He.eqO_ok a7, c3, a8⟩, ⟨He.eqO_ok a6, He.eqO_ok a7, c3, a8, He.eqO_ok a9, He.eqO_ok b1, of_decide_eq_true b2, of_decide_eq_true b3⟩, He.eqO_ok b4, He.eqO_ok b5, of_decide_eq_true b6⟩
end DL
set_option maxHeartbeats 2000000
namespace KH
open PySem PySem.Spec PyProof.Rows L2 DL
/-! ### what the head tells -/
def wts : List (Str × He.Dv) := [("a", .int 1), ("b", .int 2), ("c", .int 4), ("d", .int 8), ("e", .int 16), ("f", .int 32)]
def exT (K : PySem.W.Frag) : Bool := He.valsB K (He.ga K "WEIGHTS") wts && (He.valsB K (He.ga K "MARKS") wts && He.valsB K (He.ga K "WEIGHT_OF") wts)
/-- OutweighedError.__init__ -/
def fOut (K : PySem.W.Frag) : Addr := He.ma K (He.ga K "OutweighedError") "__init__"
def vG (K : PySem.W.Frag) (x : Str) : Value := .ref (He.ga K x)
def exX (K : PySem.W.Frag) : Bool := xclsB K (He.ga K "TooMany") (fOut K) "at" && (xclsB K (He.ga K "Against") (fOut K) "at" && (decide (PySem.W.exmOne K (vG K "TooMany") (vG K "TooMany") = some true) && (decide (PySem.W.exmOne K (vG K "Against") (vG K "TooMany") = some false) && (decide (PySem.W.exmOne K (vG K "Against") (vG K "Against") = some true) &&
  (decide (PySem.W.kitAny K (vG K "TooMany") [vG K "Against", vG K "BadCase", vG K "RoundRule"] = some false) && (decide (PySem.W.kitAny K (vG K "Against") [vG K "TooMany", vG K "BadCase", vG K "PlainCase", vG K "RoundRule"] = some false) && decide (PySem.W.kitOne K (vG K "Against") (vG K "OutweighedError") = some true)))))))
def ex (K : PySem.W.Frag) : Bool := exT K && exX K
structure Txt (w : World) (K : PySem.W.Frag) (mg : Str → Option Value) : Prop where
  says : HM.SaysM fa fn ts ex w K
  ns : ∃ h : Heap, K.In h ∧ h.Ns mainGlobals mg
section
variable {w : World} {K : PySem.W.Frag} {mg : Str → Option Value}
theorem Txt.t (T : Txt w K mg) : He.SaysT fa fn ts w K := congrArg (fun z : HM.AlM => z.1) T.says
theorem Txt.exA (T : Txt w K mg) : ex K = true := congrArg (fun z : HM.AlM => z.2) T.says
theorem Txt.exB (T : Txt w K mg) : exT K = true := (He.ba T.exA).1
theorem Txt.exC (T : Txt w K mg) : exX K = true := (He.ba T.exA).2
theorem Txt.fact (T : Txt w K mg) (i : Nat) {f : He.Fa} (h : fa[i]? = some f) : f.ok K = true := T.t.d.fact i h
theorem Txt.def_ (T : Txt w K mg) (i : Nat) {d : He.DefD} (h : fn[i]? = some d) : ∃ fd, FunD K d.name d.qual d.params d.body d.scope (d.dvs K) (d.kws K) (He.fAd K d.at_) fd := T.t.d.def_ i h
theorem Txt.glo (T : Txt w K mg) (i : Nat) {x : Str} (h : fa[i]? = some (.glo x)) : mg x = some (.ref (He.ga K x)) := by
  obtain ⟨hp, X, G⟩ := T.ns
  exact He.glo_ok X G (T.fact i h)
theorem Txt.free (T : Txt w K mg) (i : Nat) {x : Str} (h : fa[i]? = some (.free x)) : mg x = none := by
  obtain ⟨hp, X, G⟩ := T.ns
  exact He.free_ok X G (T.fact i h)
theorem Txt.int_ (T : Txt w K mg) (i : Nat) {x : Str} {n : Int} (h : fa[i]? = some (.int x n)) : ∃ t, mg x = some (.int n t) := by
  obtain ⟨hp, X, G⟩ := T.ns
  exact He.int_ok X G (T.fact i h)
theorem Txt.str_ (T : Txt w K mg) (i : Nat) {x z : Str} (h : fa[i]? = some (.str x z)) : ∃ t, mg x = some (.str z t) := by
  obtain ⟨hp, X, G⟩ := T.ns
  exact He.str_ok X G (T.fact i h)
theorem Txt.kd (T : Txt w K mg) (i : Nat) {t : He.Tab} (h : ts[i]? = some t) (hv : He.valsB K (t.1 K) wts = true) {x : Str} {n : Int} (hx : (x, He.Dv.int n) ∈ wts) : KDct K w (t.1 K) x (.int n) := by
  obtain ⟨es, m, D⟩ := T.t.tab i h
  obtain ⟨u, h1, h2⟩ := He.valsB_ok hv hx
  exact ⟨es, m, u, D.at_, D.lit, h1, h2⟩
theorem Txt.kdW (T : Txt w K mg) {x : Str} {n : Int} (hx : (x, He.Dv.int n) ∈ wts) : KDct K w (He.ga K "WEIGHTS") x (.int n) := T.kd 0 rfl (He.ba T.exB).1 hx
theorem Txt.kdM (T : Txt w K mg) {x : Str} {n : Int} (hx : (x, He.Dv.int n) ∈ wts) : KDct K w (He.ga K "MARKS") x (.int n) := T.kd 1 rfl (He.ba (He.ba T.exB).2).1 hx
theorem Txt.kdO (T : Txt w K mg) {x : Str} {n : Int} (hx : (x, He.Dv.int n) ∈ wts) : KDct K w (He.ga K "WEIGHT_OF") x (.int n) := T.kd 2 rfl (He.ba (He.ba T.exB).2).2 hx
end
/-! ### defs, methods as their callers take them -/
section
variable {Pg : Program} {w : World} {K : PySem.W.Frag} {mg : Str → Option Value} {base : Heap} {N ps : List Str} {k : Nat}
abbrev BindOk (st : Stmt) (x qual : Str) (ps : List Str) : Prop := ∀ (kV doc pm : Value) (an : Option Addr) (cdv ct : Value) (us : List Value), us.length = ps.length → bindArgs (PySem.W.fnOf x qual (defArgs st) (defBody st) (defScope st) .none kV doc pm an cdv ct) ⟨us, []⟩ = pure (ps.zip us)
/-- the body of a def, read -/
abbrev BodyOk (Pg : Program) (w : World) (K : PySem.W.Frag) (mg : Str → Option Value) (base : Heap) (k : Nat) (N ps : List Str) (qual : Str) (st : Stmt) (f : Addr) (fd : FuncData) (pre : List Sl → Mem → (Sl → Mem → Prop) → Prop) : Prop :=
  ∀ (cdv : Value) (A : Around) (outer : List Env) (s : Shared) (H : Hp) (E : XK), Room k (A.deeper (envOfC qual (defScope st) s.heap.objs.size f cdv)) →
    ∃ t, PSs (cxOf CX0 Pg w K mg base N qual (defScope st) f cdv A outer s H E).nox (defBody st) t ∧ ∀ ss μ R, pre ss μ R → SW K t (ss ++ List.replicate (N.length - ss.length) .un) μ { nx := fun _ μ' => R (.dat .non) μ', rt := R }
abbrev BodyP (Pg : Program) (w : World) (K : PySem.W.Frag) (mg : Str → Option Value) (base : Heap) (k n : Nat) (N : List Str) (qual : Str) (st : Stmt) (f : Addr) (rel : List Dat → Dat → Prop) : Prop :=
  ∀ (cdv : Value) (A : Around) (outer : List Env) (s : Shared) (H : Hp) (E : XK), Room k (A.deeper (envOfC qual (defScope st) s.heap.objs.size f cdv)) →
    ∃ t, PSs (cxOf CX0 Pg w K mg base N qual (defScope st) f cdv A outer s H E).nox (defBody st) t ∧ ∀ ds d, ds.length = n → rel ds d → SW K t (ds.map .dat ++ List.replicate (N.length - n) .un) [] { nx := fun _ _ => d = .non, rt := fun s _ => s = .dat d }
theorem Txt.calleeP (T : Txt w K mg) {x qual : Str} {st : Stmt} {rel : List Dat → Dat → Prop} {n : Nat} (i j : Nat) (hi : fn[i]? = some ⟨(x, none), x, qual, defArgs st, defBody st, defScope st, [], []⟩) (hj : fa[j]? = some (.glo x))
    (S : FnScope N ps (defScope st)) (hn : n = ps.length) (hb : BindOk st x qual ps) (h : BodyP Pg w K mg base k n N qual st (He.ga K x) rel) : Callee Pg w K mg base (k + 1) x ps (spD K (preP n rel)) := by
  obtain ⟨fd, F⟩ := T.def_ i hi
  exact ⟨_, fd, T.glo j hj, F.kp, F.bindsN hb, fn_swP F S hn h⟩
theorem Txt.callee (T : Txt w K mg) {x qual : Str} {st : Stmt} {pre : List Sl → Mem → (Sl → Mem → Prop) → Prop} (i j : Nat) (hi : fn[i]? = some ⟨(x, none), x, qual, defArgs st, defBody st, defScope st, [], []⟩) (hj : fa[j]? = some (.glo x))
    (S : FnScope N ps (defScope st)) (hl : ∀ ss μ R, pre ss μ R → ss.length = ps.length) (hb : BindOk st x qual ps) (h : ∀ fd, BodyOk Pg w K mg base k N ps qual st (He.ga K x) fd pre) : Callee Pg w K mg base (k + 1) x ps (spD K pre) := by
  obtain ⟨fd, F⟩ := T.def_ i hi
  exact ⟨_, fd, T.glo j hj, F.kp, F.bindsN hb, fn_sw F S hl (h fd)⟩
theorem Txt.mcalleeP (T : Txt w K mg) {C m qual : Str} {st : Stmt} {rel : List Dat → Dat → Prop} {n : Nat} (i j l : Nat) (hi : fn[i]? = some ⟨(C, some m), m, qual, defArgs st, defBody st, defScope st, [], []⟩) (hj : fa[j]? = some (.meth C m)) (hc : fa[l]? = some (.cls C))
    (S : FnScope N ps (defScope st)) (hn : n = ps.length) (hb : BindOk st m qual ps) (h : BodyP Pg w K mg base k n N qual st (He.ma K (He.ga K C) m) rel) : MCallee Pg w K mg base (k + 1) (He.ga K C) m ps (spD K (preP n rel)) := by
  obtain ⟨fd, F⟩ := T.def_ i hi
  exact ⟨He.cls_ok (T.fact l hc), _, fd, He.meth_ok (T.fact j hj), F.bindsN hb, fn_swP F S hn h⟩
theorem Txt.mcallee (T : Txt w K mg) {C m qual : Str} {st : Stmt} {pre : List Sl → Mem → (Sl → Mem → Prop) → Prop} (i j l : Nat) (hi : fn[i]? = some ⟨(C, some m), m, qual, defArgs st, defBody st, defScope st, [], []⟩) (hj : fa[j]? = some (.meth C m)) (hc : fa[l]? = some (.cls C))
    (S : FnScope N ps (defScope st)) (hl : ∀ ss μ R, pre ss μ R → ss.length = ps.length) (hb : BindOk st m qual ps) (h : ∀ fd, BodyOk Pg w K mg base k N ps qual st (He.ma K (He.ga K C) m) fd pre) : MCallee Pg w K mg base (k + 1) (He.ga K C) m ps (spD K pre) := by
  obtain ⟨fd, F⟩ := T.def_ i hi
  exact ⟨He.cls_ok (T.fact l hc), _, fd, He.meth_ok (T.fact j hj), F.bindsN hb, fn_sw F S hl (h fd)⟩
/-- a class, by its __init__ -/
theorem Txt.ncallee (T : Txt w K mg) {C qual : Str} {st : Stmt} {pre : List Sl → Mem → (Sl → Mem → Prop) → Prop} (i j l : Nat) (hi : fn[i]? = some ⟨(C, some "__init__"), "__init__", qual, defArgs st, defBody st, defScope st, [], []⟩) (hj : fa[j]? = some (.mkr C)) (hc : fa[l]? = some (.glo C))
    (S : FnScope N ps (defScope st)) (hl : ∀ ss μ R, pre ss μ R → ss.length = ps.length) (hb : BindOk st "__init__" qual ps) (h : ∀ fd, BodyOk Pg w K mg base k N ps qual st (He.ma K (He.ga K C) "__init__") fd pre) : NCallee Pg w K mg base (k + 1) C (He.ga K C) ps (spD K pre) := by
  obtain ⟨fd, F⟩ := T.def_ i hi
  exact ⟨_, fd, T.glo l hc, He.mkr_ok (T.fact j hj), F.bindsN hb, fn_sw F S hl (h fd)⟩
end
end KH
set_option maxHeartbeats 0
namespace KH
open PySem PySem.Spec PyProof.Rows L2
abbrev R : PySem.W.OpenRow := PySem.W.OpenLaw.row PySem.Challenge.rw_outweighed_k80_verdicts_that_are_refused
abbrev hk : PySem.W.Hook := HM.hookM fa fn ts ex
def ob (s : PySem.W.SharedT) : HM.AlM := HM.obsM (HM.obM fa fn ts ex) (HandSHeadRun.getT s)
theorem ob_eq (s : PySem.W.SharedT) : ob s = hk.obs s.abs := HM.obsM_eq
theorem runF (w : World) : HandSHeadRun.RunEq R (PySem.W.view R.prog [104]) hk ob 60000 loose (w.withFollow "special-get-raises" false) := by
  intro os
  kernel_rfl
theorem runT (w : World) : HandSHeadRun.RunEq R (PySem.W.view R.prog [104]) hk ob 60000 loose (w.withFollow "special-get-raises" true) := by
  intro os
  kernel_rfl
end KH
set_option maxHeartbeats 2000000
namespace KH
open PySem PySem.Spec PyProof.Rows L2 DL M80
section
variable {Pg : Program} {w : World} {K : PySem.W.Frag} {mg : Str → Option Value} {base : Heap}
/-! ### lots and cases as data -/
def txs (ls : List Lot) : Dat := .lst (ls.map tx)
def caseD (c : Case) : Dat := .tup [tx c.1, tx c.2]
def casesD (T : List Case) : Dat := .lst (T.map caseD)
/-- the fields of a law's run -/
structure FOk (F : Lot) : Prop where
  sub : F.Sublist AB
  ne : F ≠ []
theorem ab_nodup : AB.Nodup := by decide
theorem len6 {F : Lot} (h : F.Sublist AB) : F.length ≤ 6 := h.length_le
theorem nodupAB {F : Lot} (h : F.Sublist AB) : F.Nodup := h.nodup ab_nodup
theorem FOk.nodup {F : Lot} (h : FOk F) : F.Nodup := nodupAB h.sub
theorem FOk.len {F : Lot} (h : FOk F) : F.length ≤ 6 := len6 h.sub
structure CaseOk (F : Lot) (c : Case) : Prop where
  l1 : c.1.Sublist F
  l2 : c.2.Sublist F
  ap : ∀ x ∈ c.1, x ∉ c.2
theorem abOk : FOk AB := ⟨List.Sublist.refl _, by decide⟩
theorem sub6 {F l : Lot} (h : FOk F) (s : l.Sublist F) : l.length ≤ 6 := Nat.le_trans s.length_le h.len
theorem sv_ab : SV (.str "abcdef") (tx AB) := by
  show (Str.ofString "abcdef") = st AB
  decide +kernel
theorem filter_yes {α : Type} (l : List α) : l.filter (fun _ => true) = l := List.filter_eq_self.mpr fun _ _ => rfl
theorem mil {n : Nat} (h : n ≤ 6) : n ≤ 1000000 := Nat.le_trans h (by decide)
abbrev nm_f_lot_on : List Str := ["fields", "text", "field"]
theorem sc_f_lot_on : FnScope nm_f_lot_on ["fields", "text"] (defScope s_f_lot_on) := ⟨rfl, rfl, rfl, by decide +kernel, rfl, by decide +kernel, by decide +kernel⟩
def rel_f_lot_on : List Dat → Dat → Prop := fun ds d => ∃ F l : Lot, ds = [tx F, tx l] ∧ F.Sublist AB ∧ l.Sublist F ∧ d = .bl true
theorem ok_f_lot_on (T : Txt w K mg) : Callee Pg w K mg base 1 "lot_on" ["fields", "text"] (spD K (preP 2 rel_f_lot_on)) := by
  have m_isinstance := T.free 94 (x := "isinstance") rfl
  have m_len := T.free 96 (x := "len") rfl
  have m_str := T.free 102 (x := "str") rfl
  refine T.calleeP (N := nm_f_lot_on) (st := s_f_lot_on) 1 0 rfl rfl sc_f_lot_on rfl (fun _ _ _ _ _ _ us hl => match us, hl with | [_, _], _ => rfl) fun cdv A outer s H E hr => ⟨_, (pss_cons (ps_if (PW.pt (pw_or (pt_not (pt_val (pe_callB (call_isiK' K) (by rfl) m_isinstance (by decide +kernel) (pa_cons (pv 1) (pa_cons (pe_bltn (v := .ty "str") (by rfl) m_str (by decide +kernel) rfl) pa_nil))))) (pw_or1 (pt_cmpR op_gt (pe_callB (call_lenK K) (by rfl) m_len (by decide +kernel) (pa_cons (pv 1) pa_nil)) (pe_callB (call_lenK K) (by rfl) m_len (by decide +kernel) (pa_cons (pv 0) pa_nil)) (nomark _))))) (pss_one (ps_ret pe_bl)) pss_nil)
    (pss_one (ps_ret (pe_cmpR op_eq (pe_joinK K pe_str (pe_lc (own := [("field", 2)]) rfl sc_f_lot_on.nd (pi_str (pv 0)) (blkOk_by (N := nm_f_lot_on) (sc := defScope s_f_lot_on) (by decide +kernel)) (fun _ _ _ _ _ => by exact (pg_name (i := 2) sc_f_lot_on.nd rfl (Or.inl rfl))) (fun _ _ _ _ _ => by exact (pts_one (pt_cmpR op_in_sign (pv 2) (pv 1) (by rfl)))) (fun _ _ _ _ _ => by exact (pv 2)))) (pv 1) (nomark _))))), ?_⟩
  rintro ds d hn ⟨F, l, rfl, hF, hl, rfl⟩
  have h6 := len6 hF
  have hl6 := Nat.le_trans hl.length_le h6
  refine sw_seq (sw_if (c := false) ?_ nofun fun _ => sw_next ?_)
  · refine et_is (et_or (et_not (et_testD (ev_isi (n := "str") (ev_var rfl) rfl rfl))) fun _ => et_testD (evd_op (evd_cb (ea_cons (ev_var rfl) ea_nil) (cb_len rfl (by rw [len_tx]; omega))) (evd_cb (ea_cons (ev_var rfl) ea_nil) (cb_len rfl (by rw [len_tx]; omega))) ops_cmpI)) ?_
    have := hl.length_le
    rw [len_tx, len_tx]
    simp
    omega
  · refine sw_ret (evd_is (evd_op (ev_join (l := F.filter fun c => decide (c ∈ l)) (ev_c rfl) ?_ ?_) (ev_var rfl) ops_eqT) ?_) rfl
    · exact ev_lc (xs := F) (φ := fun c => .str ⟨#[c]⟩) (ei_str (ev_var rfl)) trivial (fun c => decide (c ∈ l)) (fun c => .str ⟨#[c]⟩) (tg := [2]) (by decide) (by omega) fun c hc => ⟨_, ga_name, et_testD (evd_op (ev_var rfl) (ev_var rfl) ops_inC), fun _ => ev_var rfl⟩
    · exact Nat.le_trans (List.length_filter_le _ _) (by omega)
    · rw [filter_sub (nodupAB hF) hl]; simp
abbrev nm_f_shared : List Str := ["one", "two", "field"]
theorem sc_f_shared : FnScope nm_f_shared ["one", "two"] (defScope s_f_shared) := ⟨rfl, rfl, rfl, by decide +kernel, rfl, by decide +kernel, by decide +kernel⟩
def rel_f_shared : List Dat → Dat → Prop := fun ds d => ∃ l m : List Nat, ds = [tx l, tx m] ∧ l.length ≤ 1000000 ∧ d = tx (l.filter fun c => decide (c ∈ m))
theorem ok_f_shared (T : Txt w K mg) : Callee Pg w K mg base 1 "shared" ["one", "two"] (spD K (preP 2 rel_f_shared)) := by
  refine T.calleeP (N := nm_f_shared) (st := s_f_shared) 2 1 rfl rfl sc_f_shared rfl (fun _ _ _ _ _ _ us hl => match us, hl with | [_, _], _ => rfl) fun cdv A outer s H E hr => ⟨_, (pss_one (ps_ret (pe_joinK K pe_str (pe_lc (own := [("field", 2)]) rfl sc_f_shared.nd (pi_str (pv 0)) (blkOk_by (N := nm_f_shared) (sc := defScope s_f_shared) (by decide +kernel)) (fun _ _ _ _ _ => by exact (pg_name (i := 2) sc_f_shared.nd rfl (Or.inl rfl))) (fun _ _ _ _ _ => by exact (pts_one (pt_cmpR op_in_sign (pv 2) (pv 1) (by rfl)))) (fun _ _ _ _ _ => by exact (pv 2)))))), ?_⟩
  rintro ds d hn ⟨l, m, rfl, hz, rfl⟩
  refine sw_ret (ev_join (l := l.filter fun c => decide (c ∈ m)) (ev_c rfl) ?_ (Nat.le_trans (List.length_filter_le _ _) hz)) rfl
  exact ev_lc (xs := l) (φ := fun c => .str ⟨#[c]⟩) (ei_str (ev_var rfl)) trivial (fun c => decide (c ∈ m)) (fun c => .str ⟨#[c]⟩) (tg := [2]) (by decide) hz fun c hc => ⟨_, ga_name, et_testD (evd_op (ev_var rfl) (ev_var rfl) ops_inC), fun _ => ev_var rfl⟩
theorem key_lot_place (T : Txt w K mg) : ∃ f, mg "lot_place" = some (.ref f) ∧ KeyFn Pg w K mg f := by
  obtain ⟨fd, F⟩ := T.def_ 3 (d := d_f_lot_place) rfl
  have m_len := T.free 96 (x := "len") rfl
  exact ⟨_, T.glo 2 (x := "lot_place") rfl, key_call F (fun _ _ _ _ _ _ _ => rfl) (by decide +kernel) (fun _ _ => rfl) rfl rfl rfl m_len⟩
/-- all lots of F, as the doubling makes them -/
def stepL (ls : List Lot) (c : Nat) : List Lot := ls ++ ls.map fun l => l ++ [c]
def allL (F : Lot) : List Lot := F.foldl stepL [[]]
def partsL (F : Lot) : List Lot := sortL (allL F)
theorem allL_snoc (F : Lot) (c : Nat) : allL (F ++ [c]) = stepL (allL F) c := by simp [allL]
theorem take_snoc {α : Type} {l : List α} {i : Nat} {c : α} (h : l[i]? = some c) : l.take (i + 1) = l.take i ++ [c] := by
  rw [List.take_succ, h]; rfl
theorem snoc_ind {α : Type} {p : List α → Prop} (h0 : p []) (h1 : ∀ l a, p l → p (l ++ [a])) (l : List α) : p l := by
  have : ∀ r : List α, p r.reverse := fun r => by
    induction r with
    | nil => exact h0
    | cons a r ih => rw [List.reverse_cons]; exact h1 _ _ ih
  have := this l.reverse
  rwa [List.reverse_reverse] at this
theorem allL_mem : ∀ {F l : Lot}, l ∈ allL F ↔ l.Sublist F := by
  intro F
  induction F using snoc_ind with
  | h0 => intro l; simp [allL]
  | h1 F c ih =>
    intro l
    rw [allL_snoc]
    unfold stepL
    rw [List.mem_append, List.mem_map, ih]
    constructor
    · rintro (h | ⟨m, hm, rfl⟩)
      · exact h.trans (List.sublist_append_left _ _)
      · exact (ih.mp hm).append (List.Sublist.refl _)
    · intro h
      rcases List.sublist_append_iff.mp h with ⟨l1, l2, rfl, h1, h2⟩
      cases l2 with
      | nil => left; rw [List.append_nil]; exact h1
      | cons x r =>
        right
        have : x = c ∧ r = [] := by
          cases h2 with
          | cons _ h2 => cases h2
          | cons_cons _ h2 => cases h2; exact ⟨rfl, rfl⟩
        obtain ⟨rfl, rfl⟩ := this
        exact ⟨l1, ih.mpr h1, rfl⟩
theorem allL_len (F : Lot) : (allL F).length = 2 ^ F.length := by
  induction F using snoc_ind with
  | h0 => rfl
  | h1 F c ih =>
    rw [allL_snoc, List.length_append, List.length_singleton]
    unfold stepL
    rw [List.length_append, List.length_map, ih, Nat.pow_succ]; omega
theorem allL_nodup {F : Lot} (h : F.Nodup) : (allL F).Nodup := by
  induction F using snoc_ind with
  | h0 => simp [allL]
  | h1 F c ih =>
    rw [List.nodup_append] at h
    have ih := ih h.1
    rw [allL_snoc]
    unfold stepL
    rw [List.nodup_append]
    refine ⟨ih, ?_, fun a ha b hb e => ?_⟩
    · rw [List.nodup_iff_pairwise_ne, List.pairwise_map]
      exact (List.nodup_iff_pairwise_ne.mp ih).imp fun hne e => hne (List.append_cancel_right e)
    · obtain ⟨m, hm, rfl⟩ := List.mem_map.mp hb
      have h1 := allL_mem.mp ha
      have h2 : c ∈ F := h1.subset (e ▸ by simp)
      exact h.2.2 c h2 c (by simp) rfl
theorem partsL_mem {F l : Lot} : l ∈ partsL F ↔ l.Sublist F := mem_sortL.trans allL_mem
theorem partsL_nodup {F : Lot} (h : F.Nodup) : (partsL F).Nodup := sortL_nodup (allL_nodup h)
theorem pow6 {n : Nat} (h : n ≤ 6) : 2 ^ n ≤ 64 := Nat.pow_le_pow_right (by decide) h
theorem partsL_len {F : Lot} (h : F.length ≤ 6) : (partsL F).length ≤ 64 := by
  unfold partsL
  rw [sortL_len, allL_len]; exact pow6 h
abbrev nm_f_parts_of : List Str := ["lot", "lots", "field", "part"]
theorem sc_f_parts_of : FnScope nm_f_parts_of ["lot"] (defScope s_f_parts_of) := ⟨rfl, rfl, rfl, by decide +kernel, rfl, by decide +kernel, by decide +kernel⟩
def rel_f_parts_of : List Dat → Dat → Prop := fun ds d => ∃ F : Lot, ds = [tx F] ∧ F.length ≤ 6 ∧ d = txs (partsL F)
theorem ok_f_parts_of (T : Txt w K mg) : Callee Pg w K mg base 2 "parts_of" ["lot"] (spD K (preP 1 rel_f_parts_of)) := by
  obtain ⟨f_lot_place, x_lot_place, c_lot_place⟩ := key_lot_place (Pg := Pg) T
  have m_sorted := T.free 101 (x := "sorted") rfl
  refine T.calleeP (N := nm_f_parts_of) (st := s_f_parts_of) 4 3 rfl rfl sc_f_parts_of rfl (fun _ _ _ _ _ _ us hl => match us, hl with | [_], _ => rfl) fun cdv A outer s H E hr => ⟨_, (pss_cons (ps_set (i := 1) sc_f_parts_of.nd rfl (Or.inl rfl) (pe_lst (pa_cons pe_str pa_nil)))
    (pss_cons (ps_for PassesOwn.never rfl (pi_str (pv 0)) (pg_name (i := 2) sc_f_parts_of.nd rfl (Or.inr rfl)) (pss_one (ps_set (i := 1) sc_f_parts_of.nd rfl (Or.inl rfl) (pe_op op_cat (pv 1) (pe_lc (own := [("part", 3)]) rfl sc_f_parts_of.nd (pi_listK K (pv 1)) (blkOk_by (N := nm_f_parts_of) (sc := defScope s_f_parts_of) (by decide +kernel)) (fun _ _ _ _ _ => by exact (pg_name (i := 3) sc_f_parts_of.nd rfl (Or.inl rfl))) (fun _ _ _ _ _ => by exact pts_nil) (fun _ _ _ _ _ => by exact (pe_op op_add_str (pv 3) (pv 2))))))))
    (pss_one (ps_ret (pe_sortedK K c_lot_place x_lot_place hr m_sorted (pa_cons (pv 1) pa_nil)))))), ?_⟩
  rintro ds d hn ⟨F, rfl, h6, rfl⟩
  refine sw_seq (sw_asg (ev_lst (ds := [tx []]) (ea_cons (ev_c rfl) ea_nil) (by decide)) ?_)
  have hlen : ∀ i, (allL (F.take i)).length ≤ 64 := fun i => by
    rw [allL_len]; exact pow6 (Nat.le_trans (by rw [List.length_take]; omega) h6)
  have hel : ∀ i, ∀ l ∈ allL (F.take i), l.length ≤ 6 := fun i l hl => Nat.le_trans (allL_mem.mp hl).length_le (by rw [List.length_take]; omega)
  refine sw_seq (sw_for (ei_str (ev_var rfl)) (fun i Γ' μ' => μ' = [] ∧ ∃ s, Γ' = [.dat (tx F), .dat (txs (allL (F.take i))), s, .un]) ⟨rfl, _, rfl⟩ (fun _ _ _ _ _ => trivial) (fun i e Γ' μ' he hI => ?_) fun Γ' μ' hI => ?_)
  · obtain ⟨c, hc, rfl⟩ := chs_get he
    obtain ⟨rfl, s, rfl⟩ := hI
    refine ⟨[2], _, ga_name, sw_asg (evd_op (ev_var rfl) (ev_lc (xs := allL (F.take i)) (φ := tx) (ei_lst (ev_var rfl)) trivial (fun _ => true) (fun l => tx (l ++ [c])) (tg := [3]) (by decide) (Nat.le_trans (hlen i) (by decide)) fun l hl =>
      ⟨_, ga_name, et_yes, fun _ => evd_op (ev_var rfl) (ev_var rfl) (ops_addS ?_)⟩) (ops_cat ?_)) ⟨rfl, .dat (tx [c]), ?_⟩⟩
    · have := hel i l hl
      simp only [List.length_singleton]; omega
    · have := hlen i
      rw [List.length_map, List.length_map]
      rw [filter_yes]; omega
    · rw [take_snoc hc, allL_snoc]
      rw [filter_yes]
      simp [txs, stepL, Function.comp_def]
  · obtain ⟨rfl, s, rfl⟩ := hI
    rw [chs_len, List.take_length]
    refine sw_ret (ev_sortL (ls := allL F) (ea_cons (ev_var rfl) ea_nil) fun x hx => mil (Nat.le_trans (allL_mem.mp hx).length_le h6)) rfl
abbrev nm_f_check_fields : List Str := ["fields"]
theorem sc_f_check_fields : FnScope nm_f_check_fields ["fields"] (defScope s_f_check_fields) := ⟨rfl, rfl, rfl, by decide +kernel, rfl, by decide +kernel, by decide +kernel⟩
def rel_f_check_fields : List Dat → Dat → Prop := fun ds d => ∃ F : Lot, ds = [tx F] ∧ FOk F ∧ d = tx F
theorem ok_f_check_fields (T : Txt w K mg) : Callee Pg w K mg base 2 "check_fields" ["fields"] (spD K (preP 1 rel_f_check_fields)) := by
  have c_lot_on := ok_f_lot_on (Pg := Pg) (base := base) T
  obtain ⟨t_FIELDS, g_FIELDS⟩ := T.str_ 105 (x := "FIELDS") (z := "abcdef") rfl
  refine T.calleeP (N := nm_f_check_fields) (st := s_f_check_fields) 5 4 rfl rfl sc_f_check_fields rfl (fun _ _ _ _ _ _ us hl => match us, hl with | [_], _ => rfl) fun cdv A outer s H E hr => ⟨_, (pss_cons (ps_if (PW.pt (pw_or (pt_not (pt_val (pe_callC c_lot_on hr (by rfl) (pa_cons (pe_glob (v := .str "abcdef") rfl g_FIELDS ⟨_, rfl⟩) (pa_cons (pv 0) pa_nil))))) (pw_or1 (pt_cmpR op_eq (pv 0) pe_str (nomark _))))) (pss_one ps_never) pss_nil)
    (pss_one (ps_ret (pv 0)))), ?_⟩
  rintro ds d hn ⟨F, rfl, hF, rfl⟩
  refine sw_seq (sw_if (c := false) ?_ nofun fun _ => sw_next (sw_ret (ev_var rfl) rfl))
  refine et_is (et_or (et_not (et_testD (ev_callP (ds := [tx AB, tx F]) (d := .bl true) (ea_cons (ev_c sv_ab) (ea_cons (ev_var rfl) ea_nil)) rfl ⟨AB, F, rfl, List.Sublist.refl _, hF.sub, rfl⟩))) fun _ => et_testD (evd_op (ev_var rfl) (ev_c (d := tx []) rfl) ops_eqT)) ?_
  simp [hF.ne]
abbrev nm_f_check_lot : List Str := ["fields", "lot"]
theorem sc_f_check_lot : FnScope nm_f_check_lot ["fields", "lot"] (defScope s_f_check_lot) := ⟨rfl, rfl, rfl, by decide +kernel, rfl, by decide +kernel, by decide +kernel⟩
def rel_f_check_lot : List Dat → Dat → Prop := fun ds d => ∃ F l : Lot, ds = [tx F, tx l] ∧ FOk F ∧ l.Sublist F ∧ d = tx l
theorem ok_f_check_lot (T : Txt w K mg) : Callee Pg w K mg base 3 "check_lot" ["fields", "lot"] (spD K (preP 2 rel_f_check_lot)) := by
  have c_check_fields := ok_f_check_fields (Pg := Pg) (base := base) T
  have c_lot_on := ok_f_lot_on (Pg := Pg) (base := base) T
  refine T.calleeP (N := nm_f_check_lot) (st := s_f_check_lot) 6 5 rfl rfl sc_f_check_lot rfl (fun _ _ _ _ _ _ us hl => match us, hl with | [_, _], _ => rfl) fun cdv A outer s H E hr => ⟨_, (pss_cons (ps_expr (pe_callC c_check_fields hr (by rfl) (pa_cons (pv 0) pa_nil)))
    (pss_cons (ps_if (pt_not (pt_val (pe_callC c_lot_on hr (by rfl) (pa_cons (pv 0) (pa_cons (pv 1) pa_nil))))) (pss_one ps_never) pss_nil)
    (pss_one (ps_ret (pv 1))))), ?_⟩
  rintro ds d hn ⟨F, l, rfl, hF, hl, rfl⟩
  refine sw_seq (sw_dropM (ev_callP (ds := [tx F]) (ea_cons (ev_var rfl) ea_nil) rfl ⟨F, rfl, hF, rfl⟩).m fun s μ' z => ?_)
  obtain ⟨rfl, _⟩ := z
  refine sw_seq (sw_if (c := false) ?_ nofun fun _ => sw_next (sw_ret (ev_var rfl) rfl))
  exact et_is (et_not (et_testD (ev_callP (ds := [tx F, tx l]) (d := .bl true) (ea_cons (ev_var rfl) (ea_cons (ev_var rfl) ea_nil)) rfl ⟨F, l, rfl, hF.sub, hl, rfl⟩))) rfl
end
end KH
namespace KH
open PySem PySem.Spec PyProof.Rows L2 DL M80
section
variable {Pg : Program} {w : World} {K : PySem.W.Frag} {mg : Str → Option Value} {base : Heap}
theorem wts_mem {c : Nat} (h : c ∈ AB) : (st [c], He.Dv.int (wt c)) ∈ wts := by
  have e1 : Str.ofString "a" = st [97] := by decide +kernel
  have e2 : Str.ofString "b" = st [98] := by decide +kernel
  have e3 : Str.ofString "c" = st [99] := by decide +kernel
  have e4 : Str.ofString "d" = st [100] := by decide +kernel
  have e5 : Str.ofString "e" = st [101] := by decide +kernel
  have e6 : Str.ofString "f" = st [102] := by decide +kernel
  unfold wts
  rw [e1, e2, e3, e4, e5, e6]
  simp only [AB, List.mem_cons, List.not_mem_nil, or_false] at h
  rcases h with rfl | rfl | rfl | rfl | rfl | rfl
  · exact .head _
  · exact .tail _ (.head _)
  · exact .tail _ (.tail _ (.head _))
  · exact .tail _ (.tail _ (.tail _ (.head _)))
  · exact .tail _ (.tail _ (.tail _ (.tail _ (.head _))))
  · exact .tail _ (.tail _ (.tail _ (.tail _ (.tail _ (.head _)))))
theorem ev_kd {Γ : List Sl} {μ : Mem} {te : TE} {a : Addr} {z : Str} {n : Int} (hk : KDct K w a z (.int n)) (h : EvD K te Γ μ (.str z)) : EvD K (tOp (rIxD K w) (tC (.ref a)) te) Γ μ (.int n) :=
  ev_op ev_ref h fun sa sb h1 h2 => by subst h1; subst h2; exact ops_kd hk
theorem inj_st {l m : Lot} (h : (.inr (st l) : Key) = .inr (st m)) : l = m := by
  have := Sum.inr.inj h
  exact str_inj this
abbrev nm_f_sort_lots : List Str := ["lots", "lot", "known"]
theorem sc_f_sort_lots : FnScope nm_f_sort_lots ["lots"] (defScope s_f_sort_lots) := ⟨rfl, rfl, rfl, by decide +kernel, rfl, by decide +kernel, by decide +kernel⟩
def rel_f_sort_lots : List Dat → Dat → Prop := fun ds d => ∃ ls : List Lot, ds = [txs ls] ∧ ls.Nodup ∧ (∀ l ∈ ls, l.Sublist AB) ∧ ls.length ≤ 64 ∧ d = txs (sortL ls)
theorem ok_f_sort_lots (T : Txt w K mg) : Callee Pg w K mg base 4 "sort_lots" ["lots"] (spD K (preP 1 rel_f_sort_lots)) := by
  have c_check_lot := ok_f_check_lot (Pg := Pg) (base := base) T
  obtain ⟨f_lot_place, x_lot_place, c_lot_place⟩ := key_lot_place (Pg := Pg) T
  have m_list := T.free 97 (x := "list") rfl
  have m_sorted := T.free 101 (x := "sorted") rfl
  obtain ⟨t_FIELDS, g_FIELDS⟩ := T.str_ 105 (x := "FIELDS") (z := "abcdef") rfl
  refine T.calleeP (N := nm_f_sort_lots) (st := s_f_sort_lots) 7 6 rfl rfl sc_f_sort_lots rfl (fun _ _ _ _ _ _ us hl => match us, hl with | [_], _ => rfl) fun cdv A outer s H E hr => ⟨_, (pss_cons (ps_for PassesOwn.never rfl (pi_listK K (pv 0)) (pg_name (i := 1) sc_f_sort_lots.nd rfl (Or.inl rfl)) (pss_one (ps_expr (pe_callC c_check_lot hr (by rfl) (pa_cons (pe_glob (v := .str "abcdef") rfl g_FIELDS ⟨_, rfl⟩) (pa_cons (pv 1) pa_nil))))))
    (pss_cons (ps_setDc (i := 2) (own := [("lot", 1)]) rfl sc_f_sort_lots.nd rfl rfl (sw_trueD rfl rfl rfl (by decide +kernel)) (pi_listK K (pv 0)) (blkOk_by (N := nm_f_sort_lots) (sc := defScope s_f_sort_lots) (by decide +kernel)) (fun _ _ _ _ _ => by exact (pg_name (i := 1) sc_f_sort_lots.nd rfl (Or.inl rfl))) (fun _ _ _ _ _ => by exact pts_nil) (fun _ _ _ _ _ => by exact (pv 1)) (fun _ _ _ _ _ => by exact pe_bl))
    (pss_one (ps_ret (pe_sortedK K c_lot_place x_lot_place hr m_sorted (pa_cons (pe_callTy (call_list_dK rfl) (by rfl) m_list (by decide +kernel) (pa_cons (pv 2) pa_nil)) pa_nil)))))), ?_⟩
  rintro ds d hn ⟨ls, rfl, hn, hl, hz, rfl⟩
  refine sw_seq (sw_for (ei_lst (ev_var rfl)) (fun i Γ' μ' => μ' = [] ∧ ∃ s, Γ' = [.dat (txs ls), s, .un]) ⟨rfl, _, rfl⟩ (fun _ _ _ _ _ => trivial) (fun i e Γ' μ' he hI => ?_) fun Γ' μ' hI => ?_)
  · rw [List.getElem?_map] at he
    cases q : ls[i]? with
    | none => rw [q] at he; cases he
    | some l =>
      rw [q] at he
      cases Option.some.inj he
      obtain ⟨rfl, s, rfl⟩ := hI
      refine ⟨[1], _, ga_name, sw_dropM (ev_callP (ds := [tx AB, tx l]) (ea_cons (ev_c sv_ab) (ea_cons (ev_var rfl) ea_nil)) rfl ⟨AB, l, rfl, abOk, hl l (List.mem_of_getElem? q), rfl⟩).m fun s μ' z => ?_⟩
      obtain ⟨rfl, _⟩ := z
      exact ⟨rfl, _, rfl⟩
  · obtain ⟨rfl, s, rfl⟩ := hI
    refine sw_seq (sw_asg (ev_dc (xs := ls) (φ := tx) (ei_lst (ev_var rfl)) trivial (fun l => .inr (st l)) (fun _ => .bl true) (tg := [1]) (by decide) (Nat.le_trans hz (by decide)) ?_ fun l hl => ⟨_, ga_name, ev_var rfl, ev_c rfl⟩) ?_)
    · rw [List.nodup_iff_pairwise_ne, List.pairwise_map]
      exact (List.nodup_iff_pairwise_ne.mp hn).imp fun h e => h (inj_st e)
    · refine sw_ret (ev_sortL (ls := ls) (ea_cons (evd_is (evd_cb (ea_cons (ev_var rfl) ea_nil) cb_listD) ?_) ea_nil) fun x hx => mil (len6 (hl x hx))) rfl
      rw [List.map_map]; rfl
abbrev nm_f_sublots : List Str := ["fields"]
theorem sc_f_sublots : FnScope nm_f_sublots ["fields"] (defScope s_f_sublots) := ⟨rfl, rfl, rfl, by decide +kernel, rfl, by decide +kernel, by decide +kernel⟩
def rel_f_sublots : List Dat → Dat → Prop := fun ds d => ∃ F : Lot, ds = [tx F] ∧ FOk F ∧ d = txs (partsL F)
theorem ok_f_sublots (T : Txt w K mg) : Callee Pg w K mg base 3 "sublots" ["fields"] (spD K (preP 1 rel_f_sublots)) := by
  have c_check_fields := ok_f_check_fields (Pg := Pg) (base := base) T
  have c_parts_of := ok_f_parts_of (Pg := Pg) (base := base) T
  refine T.calleeP (N := nm_f_sublots) (st := s_f_sublots) 8 7 rfl rfl sc_f_sublots rfl (fun _ _ _ _ _ _ us hl => match us, hl with | [_], _ => rfl) fun cdv A outer s H E hr => ⟨_, (pss_cons (ps_expr (pe_callC c_check_fields hr (by rfl) (pa_cons (pv 0) pa_nil)))
    (pss_one (ps_ret (pe_callC c_parts_of hr (by rfl) (pa_cons (pv 0) pa_nil))))), ?_⟩
  rintro ds d hn ⟨F, rfl, hF, rfl⟩
  refine sw_seq (sw_dropM (ev_callP (ds := [tx F]) (ea_cons (ev_var rfl) ea_nil) rfl ⟨F, rfl, hF, rfl⟩).m fun s μ' z => ?_)
  obtain ⟨rfl, _⟩ := z
  exact sw_ret (ev_callP (ds := [tx F]) (ea_cons (ev_var rfl) ea_nil) rfl ⟨F, rfl, hF.len, rfl⟩) rfl
abbrev nm_f_case_on : List Str := ["fields", "case", "ahead", "behind"]
theorem sc_f_case_on : FnScope nm_f_case_on ["fields", "case"] (defScope s_f_case_on) := ⟨rfl, rfl, rfl, by decide +kernel, rfl, by decide +kernel, by decide +kernel⟩
def rel_f_case_on : List Dat → Dat → Prop := fun ds d => ∃ (F : Lot) (c : Case), ds = [tx F, caseD c] ∧ FOk F ∧ CaseOk F c ∧ d = .bl true
theorem ok_f_case_on (T : Txt w K mg) : Callee Pg w K mg base 2 "case_on" ["fields", "case"] (spD K (preP 2 rel_f_case_on)) := by
  have c_shared := ok_f_shared (Pg := Pg) (base := base) T
  have c_lot_on := ok_f_lot_on (Pg := Pg) (base := base) T
  have m_isinstance := T.free 94 (x := "isinstance") rfl
  have m_len := T.free 96 (x := "len") rfl
  have m_tuple := T.free 104 (x := "tuple") rfl
  refine T.calleeP (N := nm_f_case_on) (st := s_f_case_on) 9 8 rfl rfl sc_f_case_on rfl (fun _ _ _ _ _ _ us hl => match us, hl with | [_, _], _ => rfl) fun cdv A outer s H E hr => ⟨_, (pss_cons (ps_if (PW.pt (pw_or (pt_not (pt_val (pe_callB (call_isiK' K) (by rfl) m_isinstance (by decide +kernel) (pa_cons (pv 1) (pa_cons (pe_bltn (v := .ty "tuple") (by rfl) m_tuple (by decide +kernel) rfl) pa_nil))))) (pw_or1 (pt_cmpR op_ne (pe_callB (call_lenK K) (by rfl) m_len (by decide +kernel) (pa_cons (pv 1) pa_nil)) pe_int (nomark _))))) (pss_one (ps_ret pe_bl)) pss_nil)
    (pss_cons (ps_asg (pv 1) (pg_tupK K 2 (pgs_cons (pg_name (i := 2) sc_f_case_on.nd rfl (Or.inl rfl)) (pgs_cons (pg_name (i := 3) sc_f_case_on.nd rfl (Or.inl rfl)) pgs_nil))))
    (pss_one (ps_ret (pe_and (pe_callC c_lot_on hr (by rfl) (pa_cons (pv 0) (pa_cons (pv 2) pa_nil))) (pe_and (pe_callC c_lot_on hr (by rfl) (pa_cons (pv 0) (pa_cons (pv 3) pa_nil))) (pe_one (pe_cmpR op_eq (pe_callC c_shared hr (by rfl) (pa_cons (pv 2) (pa_cons (pv 3) pa_nil))) pe_str (nomark _))))))))), ?_⟩
  rintro ds d hn ⟨F, ⟨a, b⟩, rfl, hF, hc, rfl⟩
  refine sw_seq (sw_if (c := false) ?_ nofun fun _ => sw_next ?_)
  · exact et_is (et_or (et_not (et_testD (ev_isi (n := "tuple") (ev_var rfl) rfl rfl))) fun _ => et_testD (evd_op (evd_cb (ea_cons (ev_var rfl) ea_nil) (cb_len (n := 2) rfl (by decide))) (ev_c (d := .int 2) rfl) ops_neI)) rfl
  · refine sw_seq (sw_asgG (ev_var rfl) (ga_tup (gas_cons ga_name (gas_cons ga_name gas_nil)) rfl) ?_)
    refine sw_ret (evd_is (ev_and (ev_callP (ds := [tx F, tx a]) (d := .bl true) (ea_cons (ev_var rfl) (ea_cons (ev_var rfl) ea_nil)) rfl ⟨F, a, rfl, hF.sub, hc.l1, rfl⟩) fun _ => ev_and (ev_callP (ds := [tx F, tx b]) (d := .bl true) (ea_cons (ev_var rfl) (ea_cons (ev_var rfl) ea_nil)) rfl ⟨F, b, rfl, hF.sub, hc.l2, rfl⟩) fun _ =>
      evd_op (ev_callP (ds := [tx a, tx b]) (ea_cons (ev_var rfl) (ea_cons (ev_var rfl) ea_nil)) rfl ⟨a, b, rfl, mil (sub6 hF hc.l1), rfl⟩) (ev_c (d := tx []) rfl) ops_eqT) ?_) rfl
    have : a.filter (fun c => decide (c ∈ b)) = [] := List.filter_eq_nil_iff.mpr fun x hx => by simpa using hc.ap x hx
    rw [this]; rfl
abbrev nm_f_check_case : List Str := ["fields", "case"]
theorem sc_f_check_case : FnScope nm_f_check_case ["fields", "case"] (defScope s_f_check_case) := ⟨rfl, rfl, rfl, by decide +kernel, rfl, by decide +kernel, by decide +kernel⟩
def rel_f_check_case : List Dat → Dat → Prop := fun ds d => ∃ (F : Lot) (c : Case), ds = [tx F, caseD c] ∧ FOk F ∧ CaseOk F c ∧ d = caseD c
theorem ok_f_check_case (T : Txt w K mg) : Callee Pg w K mg base 3 "check_case" ["fields", "case"] (spD K (preP 2 rel_f_check_case)) := by
  have c_check_fields := ok_f_check_fields (Pg := Pg) (base := base) T
  have c_case_on := ok_f_case_on (Pg := Pg) (base := base) T
  refine T.calleeP (N := nm_f_check_case) (st := s_f_check_case) 10 9 rfl rfl sc_f_check_case rfl (fun _ _ _ _ _ _ us hl => match us, hl with | [_, _], _ => rfl) fun cdv A outer s H E hr => ⟨_, (pss_cons (ps_expr (pe_callC c_check_fields hr (by rfl) (pa_cons (pv 0) pa_nil)))
    (pss_cons (ps_if (pt_not (pt_val (pe_callC c_case_on hr (by rfl) (pa_cons (pv 0) (pa_cons (pv 1) pa_nil))))) (pss_one ps_never) pss_nil)
    (pss_one (ps_ret (pv 1))))), ?_⟩
  rintro ds d hn ⟨F, c, rfl, hF, hc, rfl⟩
  refine sw_seq (sw_dropM (ev_callP (ds := [tx F]) (ea_cons (ev_var rfl) ea_nil) rfl ⟨F, rfl, hF, rfl⟩).m fun s μ' z => ?_)
  obtain ⟨rfl, _⟩ := z
  refine sw_seq (sw_if (c := false) (et_is (et_not (et_testD (ev_callP (ds := [tx F, caseD c]) (d := .bl true) (ea_cons (ev_var rfl) (ea_cons (ev_var rfl) ea_nil)) rfl ⟨F, c, rfl, hF, hc, rfl⟩))) rfl) nofun fun _ => sw_next (sw_ret (ev_var rfl) rfl))
structure ToldOk (F : Lot) (T : List Case) : Prop where
  ok : ∀ c ∈ T, CaseOk F c
  ne : ∀ c ∈ T, c.2 ≠ []
  len : T.length ≤ 60
theorem map_get {α β : Type} {f : α → β} {l : List α} {i : Nat} {b : β} (h : (l.map f)[i]? = some b) : ∃ a, l[i]? = some a ∧ b = f a := by
  rw [List.getElem?_map] at h
  cases q : l[i]? with
  | none => rw [q] at h; cases h
  | some a => rw [q] at h; exact ⟨a, rfl, (Option.some.inj h).symm⟩
abbrev nm_f_check_own : List Str := ["fields", "own", "cases", "case"]
theorem sc_f_check_own : FnScope nm_f_check_own ["fields", "own"] (defScope s_f_check_own) := ⟨rfl, rfl, rfl, by decide +kernel, rfl, by decide +kernel, by decide +kernel⟩
def rel_f_check_own : List Dat → Dat → Prop := fun ds d => ∃ (F : Lot) (T : List Case), ds = [tx F, casesD T] ∧ FOk F ∧ ToldOk F T ∧ d = casesD T
theorem ok_f_check_own (T : Txt w K mg) : Callee Pg w K mg base 3 "check_own" ["fields", "own"] (spD K (preP 2 rel_f_check_own)) := by
  have c_check_fields := ok_f_check_fields (Pg := Pg) (base := base) T
  have c_case_on := ok_f_case_on (Pg := Pg) (base := base) T
  refine T.calleeP (N := nm_f_check_own) (st := s_f_check_own) 11 10 rfl rfl sc_f_check_own rfl (fun _ _ _ _ _ _ us hl => match us, hl with | [_, _], _ => rfl) fun cdv A outer s H E hr => ⟨_, (pss_cons (ps_expr (pe_callC c_check_fields hr (by rfl) (pa_cons (pv 0) pa_nil)))
    (pss_cons (ps_set (i := 2) sc_f_check_own.nd rfl (Or.inl rfl) (pe_lst pa_nil))
    (pss_cons (ps_for PassesOwn.never rfl (pi_listK K (pv 1)) (pg_name (i := 3) sc_f_check_own.nd rfl (Or.inl rfl)) (pss_cons (ps_if (pt_not (pt_val (pe_callC c_case_on hr (by rfl) (pa_cons (pv 0) (pa_cons (pv 3) pa_nil))))) (pss_one ps_never) pss_nil)
    (pss_cons (ps_if (pt_cmpR op_eq (pe_ix (ix_seqK K) (pv 3) pe_int (fun _ _ => rfl)) pe_str (nomark _)) (pss_one ps_never) pss_nil)
    (pss_one (ps_expr (pe_appendK K (pv 2) (pa_cons (pv 3) pa_nil)))))))
    (pss_one (ps_ret (pv 2)))))), ?_⟩
  rintro ds d hn ⟨F, T, rfl, hF, hT, rfl⟩
  refine sw_seq (sw_dropM (ev_callP (ds := [tx F]) (ea_cons (ev_var rfl) ea_nil) rfl ⟨F, rfl, hF, rfl⟩).m fun s μ' z => ?_)
  obtain ⟨rfl, _⟩ := z
  refine sw_seq (sw_newL fun l hl => ?_)
  refine sw_seq (sw_for (ei_lst (ev_var rfl)) (fun i Γ' μ' => μ' = [(l, .mls ((T.take i).map caseD))] ∧ ∃ s, Γ' = [.dat (tx F), .dat (casesD T), .adr l, s]) ⟨rfl, _, rfl⟩ (fun _ _ _ _ _ => trivial) (fun i e Γ' μ' he hI => ?_) fun Γ' μ' hI => ?_)
  · obtain ⟨c, hc, rfl⟩ := map_get he
    have hm := List.mem_of_getElem? hc
    obtain ⟨rfl, s, rfl⟩ := hI
    refine ⟨[3], _, ga_name, ?_⟩
    refine sw_seq (sw_if (c := false) (et_is (et_not (et_testD (ev_callP (ds := [tx F, caseD c]) (d := .bl true) (ea_cons (ev_var rfl) (ea_cons (ev_var rfl) ea_nil)) rfl ⟨F, c, rfl, hF, hT.ok c hm, rfl⟩))) rfl) nofun fun _ => sw_next ?_)
    refine sw_seq (sw_if (c := false) (et_is (et_testD (evd_op (evd_op (ev_var (d := caseD c) rfl) (ev_c (d := .int 1) rfl) (ops_ix (.inr rfl) rfl)) (ev_c (d := tx []) rfl) ops_eqT)) (decide_eq_false (hT.ne c hm))) nofun fun _ => sw_next ?_)
    refine sw_append (ev_adr rfl) (ev_var rfl) (.head _) ?_ (by simp) ⟨?_, _, rfl⟩
    · have := hT.len
      rw [List.length_map, List.length_take]; omega
    · rw [take_snoc hc]
      simp [setMu]
  · obtain ⟨rfl, s, rfl⟩ := hI
    refine sw_retO (ev_adr rfl) (.head _) (by simp) ?_
    rw [List.length_map, List.take_length]; rfl
abbrev nm_f_lot_mask : List Str := ["lot", "letter"]
theorem sc_f_lot_mask : FnScope nm_f_lot_mask ["lot"] (defScope s_f_lot_mask) := ⟨rfl, rfl, rfl, by decide +kernel, rfl, by decide +kernel, by decide +kernel⟩
def rel_f_lot_mask : List Dat → Dat → Prop := fun ds d => ∃ l : Lot, ds = [tx l] ∧ l.Sublist AB ∧ d = .int (msk l)
theorem ok_f_lot_mask (T : Txt w K mg) : Callee Pg w K mg base 1 "lot_mask" ["lot"] (spD K (preP 1 rel_f_lot_mask)) := by
  have m_sum := T.free 103 (x := "sum") rfl
  have g_WEIGHTS := T.glo 109 (x := "WEIGHTS") rfl
  refine T.calleeP (N := nm_f_lot_mask) (st := s_f_lot_mask) 12 11 rfl rfl sc_f_lot_mask rfl (fun _ _ _ _ _ _ us hl => match us, hl with | [_], _ => rfl) fun cdv A outer s H E hr => ⟨_, (pss_one (ps_ret (pe_callB (cr_sumK K) (by rfl) m_sum (by decide +kernel) (pa_cons (pe_lc (own := [("letter", 1)]) rfl sc_f_lot_mask.nd (pi_str (pv 0)) (blkOk_by (N := nm_f_lot_mask) (sc := defScope s_f_lot_mask) (by decide +kernel)) (fun _ _ _ _ _ => by exact (pg_name (i := 1) sc_f_lot_mask.nd rfl (Or.inl rfl))) (fun _ _ _ _ _ => by exact pts_nil) (fun _ _ _ _ _ => by exact (pe_ix (ix_kdictK K w) (pe_glob (v := .ref (He.ga K "WEIGHTS")) rfl g_WEIGHTS rfl) (pv 1) (fun _ _ => rfl)))) pa_nil)))), ?_⟩
  rintro ds d hn ⟨l, rfl, hl, rfl⟩
  refine sw_ret (evd_is (evd_cb (ea_cons (evd_is (ev_lc (xs := l) (φ := fun c => .str ⟨#[c]⟩) (ei_str (ev_var rfl)) trivial (fun _ => true) (fun c => .int (wt c)) (tg := [1]) (by decide) (mil (len6 hl)) fun c hc => ⟨_, ga_name, et_yes, fun _ => ev_kd (T.kdW (wts_mem (hl.subset hc))) (ev_var rfl)⟩) ?_) ea_nil) (cb_sum (ns := l.map wt))) rfl) rfl
  rw [filter_yes, List.map_map]; rfl
end
end KH
namespace KH
open PySem PySem.Spec PyProof.Rows L2 DL M80
section
variable {Pg : Program} {w : World} {K : PySem.W.Frag} {mg : Str → Option Value} {base : Heap}
theorem cutD_mem {ds : List Dat} {lo hi : Option Int} {e : Dat} (h : e ∈ cutD ds lo hi) : e ∈ ds := List.mem_of_mem_drop (List.mem_of_mem_take h)
theorem getD_ints {ms : List Int} {v : Dat} {i : Int} : (getD (ms.map fun m => ((.inl m : Key), v)) (.inl i)).isSome = decide (i ∈ ms) := by
  induction ms with
  | nil => rfl
  | cons m r ih =>
    unfold getD at ih ⊢
    rw [List.map_cons, List.find?_cons]
    by_cases h : m = i
    · subst h; simp
    · have h1 : ¬ (Sum.inl m : Key) = .inl i := fun e => h (Sum.inl.inj e)
      have h2 : ¬ i = m := fun e => h e.symm
      simp only [h1, decide_false, List.mem_cons, h2, false_or]
      exact ih
theorem nd_ints {α : Type} {xs : List α} {f : α → Int} (h : (xs.map f).Nodup) : (xs.map fun a => (.inl (f a) : Key)).Nodup := by
  rw [List.nodup_iff_pairwise_ne, List.pairwise_map] at h ⊢
  exact h.imp fun hne e => hne (Sum.inl.inj e)
theorem map_id' {α : Type} {l : List α} {f : α → α} (h : ∀ a, f a = a) : l.map f = l := by
  induction l with
  | nil => rfl
  | cons a r ih => rw [List.map_cons, h a, ih]
abbrev nm_f_missing_commons : List Str := ["masks", "present", "missing", "place", "one", "two", "mask"]
theorem sc_f_missing_commons : FnScope nm_f_missing_commons ["masks"] (defScope s_f_missing_commons) := ⟨rfl, rfl, rfl, by decide +kernel, rfl, by decide +kernel, by decide +kernel⟩
def rel_f_missing_commons : List Dat → Dat → Prop := fun ds d => ∃ ms : List Int, ds = [.lst (ms.map Dat.int)] ∧ ms.Nodup ∧ (∀ a ∈ ms, ∀ b ∈ ms, Builtin.bitAnd a b ∈ ms) ∧ ms.length ≤ 64 ∧ d = .lst []
theorem ok_f_missing_commons (T : Txt w K mg) : Callee Pg w K mg base 1 "missing_commons" ["masks"] (spD K (preP 1 rel_f_missing_commons)) := by
  have m_enumerate := T.free 92 (x := "enumerate") rfl
  have m_list := T.free 97 (x := "list") rfl
  refine T.calleeP (N := nm_f_missing_commons) (st := s_f_missing_commons) 14 13 rfl rfl sc_f_missing_commons rfl (fun _ _ _ _ _ _ us hl => match us, hl with | [_], _ => rfl) fun cdv A outer s H E hr => ⟨_, (pss_cons (ps_setDc (i := 1) (own := [("mask", 6)]) rfl sc_f_missing_commons.nd rfl rfl (sw_trueD rfl rfl rfl (by decide +kernel)) (pi_listK K (pv 0)) (blkOk_by (N := nm_f_missing_commons) (sc := defScope s_f_missing_commons) (by decide +kernel)) (fun _ _ _ _ _ => by exact (pg_name (i := 6) sc_f_missing_commons.nd rfl (Or.inl rfl))) (fun _ _ _ _ _ => by exact pts_nil) (fun _ _ _ _ _ => by exact (pv 6)) (fun _ _ _ _ _ => by exact pe_bl))
    (pss_cons (ps_set (i := 2) sc_f_missing_commons.nd rfl (Or.inl rfl) pe_dnewK)
    (pss_cons (ps_for PassesOwn.never rfl (pi_enumK K (by rfl) m_enumerate (pa_cons (pv 0) pa_nil)) (pg_tupK K 2 (pgs_cons (pg_name (i := 3) sc_f_missing_commons.nd rfl (Or.inl rfl)) (pgs_cons (pg_name (i := 4) sc_f_missing_commons.nd rfl (Or.inl rfl)) pgs_nil))) (pss_one (ps_for PassesOwn.never rfl (pi_listK K (pe_slice (sl_listK K) (pv 0) po_none (po_some (pv 3)))) (pg_name (i := 5) sc_f_missing_commons.nd rfl (Or.inl rfl)) (pss_one (ps_if (pt_cmp (pc_dnotin (hu_of hr) (pe_op op_and (pv 4) (pv 5)) (pv 1)) rfl) (pss_one (ps_dput (hu_of hr) (pv 2) (pe_op op_and (pv 4) (pv 5)) pe_bl rfl)) pss_nil)))))
    (pss_one (ps_ret (pe_callTy (call_list_dK rfl) (by rfl) m_list (by decide +kernel) (pa_cons (pv 2) pa_nil))))))), ?_⟩
  rintro ds d hn ⟨ms, rfl, hnd, hc, hz, rfl⟩
  refine sw_seq (sw_asg (ev_dc (xs := ms) (φ := Dat.int) (ei_lst (ev_var rfl)) trivial (fun m => .inl m) (fun _ => .bl true) (tg := [6]) (by decide) (Nat.le_trans hz (by decide)) (nd_ints (f := id) (by rw [List.map_id]; exact hnd)) fun m hm => ⟨_, ga_name, ev_var rfl, ev_c rfl⟩) ?_)
  refine sw_seq (sw_asg ev_dnew ?_)
  refine sw_seq (sw_for (ei_enum (ea_cons (ev_var rfl) ea_nil)) (fun i Γ' μ' => μ' = [] ∧ ∃ s3 s4 s5, Γ' = [.dat (.lst (ms.map Dat.int)), .dat (.dct (ms.map fun m => ((.inl m : Key), .bl true))), .dat (.dct []), s3, s4, s5, .un]) ⟨rfl, _, _, _, rfl⟩ (fun _ _ _ _ _ => trivial) (fun i e Γ' μ' he hI => ?_) fun Γ' μ' hI => ?_)
  · obtain ⟨e1, he1, rfl⟩ := enD_get he
    obtain ⟨a, ha, rfl⟩ := map_get he1
    have ha := List.mem_of_getElem? ha
    obtain ⟨rfl, s3, s4, s5, rfl⟩ := hI
    refine ⟨_, _, ga_tup (gas_cons ga_name (gas_cons ga_name gas_nil)) rfl, ?_⟩
    refine sw_for (ei_lst (ev_slL (ev_var rfl) eo_none (eo_some (ev_var rfl)))) (fun i' Γ' μ' => μ' = [] ∧ ∃ s5, Γ' = [.dat (.lst (ms.map Dat.int)), .dat (.dct (ms.map fun m => ((.inl m : Key), .bl true))), .dat (.dct []), .dat (.int (i : Nat)), .dat (.int a), s5, .un]) ⟨rfl, _, rfl⟩ (fun _ _ _ _ _ => trivial) (fun i' e2 Γ' μ' he2 hI => ?_) fun Γ' μ' hI => ?_
    · obtain ⟨b, hb, rfl⟩ := List.mem_map.mp (cutD_mem (List.mem_of_getElem? he2))
      obtain ⟨rfl, s5, rfl⟩ := hI
      refine ⟨_, _, ga_name, sw_if (c := false) (et_is (et_testD (ev_dnotin (k := .inl (Builtin.bitAnd a b)) (evd_op (ev_var rfl) (ev_var rfl) ops_andI) (ev_var rfl))) ?_) nofun fun _ => sw_next ⟨rfl, _, rfl⟩⟩
      rw [getD_ints, decide_eq_true (hc a ha b hb)]; rfl
    · obtain ⟨rfl, s5, rfl⟩ := hI
      exact ⟨rfl, _, _, _, rfl⟩
  · obtain ⟨rfl, s3, s4, s5, rfl⟩ := hI
    exact sw_ret (evd_cb (ea_cons (ev_var rfl) ea_nil) cb_listD) rfl
abbrev nm_f_stepless_masks : List Str := ["fields", "masks", "present", "whole", "weights", "found", "mask", "steps", "letter", "one"]
theorem sc_f_stepless_masks : FnScope nm_f_stepless_masks ["fields", "masks"] (defScope s_f_stepless_masks) := ⟨rfl, rfl, rfl, by decide +kernel, rfl, by decide +kernel, by decide +kernel⟩
def rel_f_stepless_masks : List Dat → Dat → Prop := fun ds d => ∃ (F : Lot) (ms : List Int), ds = [tx F, .lst (ms.map Dat.int)] ∧ F.Sublist AB ∧ ms.Nodup ∧ (∀ a ∈ ms, a ≠ msk F → ∃ x ∈ F, Builtin.bitAnd a (wt x) = 0 ∧ a + wt x ∈ ms) ∧ ms.length ≤ 64 ∧ d = .lst []
theorem ok_f_stepless_masks (T : Txt w K mg) : Callee Pg w K mg base 2 "stepless_masks" ["fields", "masks"] (spD K (preP 2 rel_f_stepless_masks)) := by
  have c_lot_mask := ok_f_lot_mask (Pg := Pg) (base := base) T
  have m_len := T.free 96 (x := "len") rfl
  have g_WEIGHTS := T.glo 109 (x := "WEIGHTS") rfl
  refine T.calleeP (N := nm_f_stepless_masks) (st := s_f_stepless_masks) 15 14 rfl rfl sc_f_stepless_masks rfl (fun _ _ _ _ _ _ us hl => match us, hl with | [_, _], _ => rfl) fun cdv A outer s H E hr => ⟨_, (pss_cons (ps_set (i := 2) sc_f_stepless_masks.nd rfl (Or.inr rfl) (pe_dc (own := [("mask", 6)]) rfl sc_f_stepless_masks.nd (pi_listK K (pv 1)) (blkOk_by (N := nm_f_stepless_masks) (sc := defScope s_f_stepless_masks) (by decide +kernel)) (fun _ _ _ _ _ => by exact (pg_name (i := 6) sc_f_stepless_masks.nd rfl (Or.inl rfl))) (fun _ _ _ _ _ => by exact pts_nil) (fun _ _ _ _ _ => by exact (pv 6)) (fun _ _ _ _ _ => by exact pe_bl)))
    (pss_cons (ps_set (i := 3) sc_f_stepless_masks.nd rfl (Or.inl rfl) (pe_callC c_lot_mask hr (by rfl) (pa_cons (pv 0) pa_nil)))
    (pss_cons (ps_setLc (i := 4) (own := [("letter", 8)]) rfl sc_f_stepless_masks.nd rfl rfl (sw_true rfl rfl rfl (by decide +kernel)) (pi_str (pv 0)) (blkOk_by (N := nm_f_stepless_masks) (sc := defScope s_f_stepless_masks) (by decide +kernel)) (fun _ _ _ _ _ => by exact (pg_name (i := 8) sc_f_stepless_masks.nd rfl (Or.inl rfl))) (fun _ _ _ _ _ => by exact pts_nil) (fun _ _ _ _ _ => by exact (pe_ix (ix_kdictK K w) (pe_glob (v := .ref (He.ga K "WEIGHTS")) rfl g_WEIGHTS rfl) (pv 8) (fun _ _ => rfl))))
    (pss_cons (ps_set (i := 5) sc_f_stepless_masks.nd rfl (Or.inl rfl) (pe_lst pa_nil))
    (pss_cons (ps_for PassesOwn.never rfl (pi_listK K (pv 1)) (pg_name (i := 6) sc_f_stepless_masks.nd rfl (Or.inr rfl)) (pss_cons (ps_setLc (i := 7) (own := [("one", 9)]) rfl sc_f_stepless_masks.nd rfl rfl (sw_true rfl rfl rfl (by decide +kernel)) (pi_listK K (pv 4)) (blkOk_by (N := nm_f_stepless_masks) (sc := defScope s_f_stepless_masks) (by decide +kernel)) (fun _ _ _ _ _ => by exact (pg_name (i := 9) sc_f_stepless_masks.nd rfl (Or.inl rfl))) (fun _ _ _ _ _ => by exact (pts_one (PW.pt (pw_and (pt_cmpR op_eq (pe_op op_and (pv 6) (pv 9)) pe_int (nomark _)) (pw_and1 (pt_cmp (pc_din (hu_of hr) (pe_op op_add (pv 6) (pv 9)) (pv 2)) rfl)))))) (fun _ _ _ _ _ => by exact (pv 9)))
    (pss_one (ps_if (PW.pt (pw_and (pt_cmpR op_ne (pv 6) (pv 3) (nomark _)) (pw_and1 (pt_cmpR op_eq (pe_callB (call_lenK K) (by rfl) m_len (by decide +kernel) (pa_cons (pv 7) pa_nil)) pe_int (nomark _))))) (pss_one (ps_expr (pe_appendK K (pv 5) (pa_cons (pv 6) pa_nil)))) pss_nil))))
    (pss_one (ps_ret (pv 5)))))))), ?_⟩
  rintro ds d hn ⟨F, ms, rfl, hF, hnd, hc, hz, rfl⟩
  refine sw_seq (sw_asg (ev_dc (xs := ms) (φ := Dat.int) (ei_lst (ev_var rfl)) trivial (fun m => .inl m) (fun _ => .bl true) (tg := [6]) (by decide) (Nat.le_trans hz (by decide)) (nd_ints (f := id) (by rw [List.map_id]; exact hnd)) fun m hm => ⟨_, ga_name, ev_var rfl, ev_c rfl⟩) ?_)
  refine sw_seq (sw_asg (ev_callP (ds := [tx F]) (ea_cons (ev_var rfl) ea_nil) rfl ⟨F, rfl, hF, rfl⟩) ?_)
  refine sw_seq (sw_asg (ev_lc (xs := F) (φ := fun c => .str ⟨#[c]⟩) (ei_str (ev_var rfl)) trivial (fun _ => true) (fun c => .int (wt c)) (tg := [8]) (by decide) (mil (len6 hF)) fun c hc => ⟨_, ga_name, et_yes, fun _ => ev_kd (T.kdW (wts_mem (hF.subset hc))) (ev_var rfl)⟩) ?_)
  refine sw_seq (sw_asg (ev_lst (ds := []) ea_nil (by decide)) ?_)
  rw [filter_yes]
  refine sw_seq (sw_for (ei_lst (ev_var rfl)) (fun i Γ' μ' => μ' = [] ∧ ∃ s6 s7, Γ' = [.dat (tx F), .dat (.lst (ms.map Dat.int)), .dat (.dct (ms.map fun m => ((.inl m : Key), .bl true))), .dat (.int (msk F)), .dat (.lst (F.map fun c => .int (wt c))), .dat (.lst []), s6, s7, .un, .un]) ⟨rfl, _, _, rfl⟩ (fun _ _ _ _ _ => trivial) (fun i e Γ' μ' he hI => ?_) fun Γ' μ' hI => ?_)
  · obtain ⟨a, ha, rfl⟩ := map_get he
    have ha := List.mem_of_getElem? ha
    obtain ⟨rfl, s6, s7, rfl⟩ := hI
    refine ⟨_, _, ga_name, ?_⟩
    refine sw_seq (sw_asg (ev_lc (xs := F) (φ := fun c => .int (wt c)) (ei_lst (ev_var rfl)) trivial (fun c => decide (Builtin.bitAnd a (wt c) = 0) && decide (a + wt c ∈ ms)) (fun c => .int (wt c)) (tg := [9]) (by decide) (mil (len6 hF)) fun c hc => ⟨_, ga_name, et_and (et_testD (evd_op (evd_op (ev_var rfl) (ev_var rfl) ops_andI) (ev_c (d := .int 0) rfl) ops_eqI)) fun _ => et_is (et_testD (ev_din (k := .inl (a + wt c)) (evd_op (ev_var rfl) (ev_var rfl) ops_addI) (ev_var rfl))) getD_ints, fun _ => ev_var rfl⟩) ?_)
    refine sw_if (c := false) (et_is (et_and (et_testD (evd_op (ev_var rfl) (ev_var rfl) ops_neI)) fun _ => et_testD (evd_op (evd_cb (ea_cons (ev_var rfl) ea_nil) (cb_len rfl ?_)) (ev_c (d := .int 0) rfl) ops_eqI)) ?_) nofun fun _ => sw_next ⟨rfl, _, _, rfl⟩
    · rw [List.length_map]; exact Nat.le_trans (List.length_filter_le _ _) (mil (len6 hF))
    · by_cases h : a = msk F
      · simp [h]
      · obtain ⟨x, h1, h2, h3⟩ := hc a ha h
        have : x ∈ F.filter fun c => decide (Builtin.bitAnd a (wt c) = 0) && decide (a + wt c ∈ ms) := List.mem_filter.mpr ⟨h1, by simp [h2, h3]⟩
        have h4 := List.length_pos_of_mem this
        rw [List.length_map]
        simp [h]
        exact ⟨x, h1, h2, h3⟩
  · obtain ⟨rfl, s6, s7, rfl⟩ := hI
    exact sw_ret (ev_var rfl) rfl
structure FrameOk (F : Lot) (ls : List Lot) : Prop where
  sub : ∀ l ∈ ls, l.Sublist F
  nd : ls.Nodup
  len : ls.length ≤ 64
  nil : [] ∈ ls
  all : F ∈ ls
  com : ∀ a ∈ ls, ∀ b ∈ ls, (a.filter fun x => decide (x ∈ b)) ∈ ls
  step : ∀ a ∈ ls, a ≠ F → ∃ x ∈ F, x ∉ a ∧ ∃ b ∈ ls, ∀ y, y ∈ b ↔ y ∈ a ∨ y = x
theorem FrameOk.msk_nd {F : Lot} {ls : List Lot} (hF : FOk F) (h : FrameOk F ls) : (ls.map msk).Nodup := by
  rw [List.nodup_iff_pairwise_ne, List.pairwise_map]
  have h1 := List.nodup_iff_pairwise_ne.mp h.nd
  refine (List.Pairwise.and_mem.mp h1).imp fun {a b} z e => ?_
  exact z.2.2 (msk_inj ((h.sub _ z.1).trans hF.sub) ((h.sub _ z.2.1).trans hF.sub) e)
theorem map_txs (ls : List Lot) : ls.map tx = (ls.map st).map Dat.str := by rw [List.map_map]; rfl
theorem mem_st {l : Lot} {ls : List Lot} : (st l ∈ ls.map st) ↔ l ∈ ls := by
  rw [List.mem_map]
  exact ⟨fun ⟨m, h1, h2⟩ => str_inj h2 ▸ h1, fun h => ⟨l, h, rfl⟩⟩
abbrev nm_f_check_frame : List Str := ["fields", "lots", "masks", "missing", "stepless", "lot", "mask"]
theorem sc_f_check_frame : FnScope nm_f_check_frame ["fields", "lots"] (defScope s_f_check_frame) := ⟨rfl, rfl, rfl, by decide +kernel, rfl, by decide +kernel, by decide +kernel⟩
def rel_f_check_frame : List Dat → Dat → Prop := fun ds d => ∃ (F : Lot) (ls : List Lot), ds = [tx F, txs ls] ∧ FOk F ∧ FrameOk F ls ∧ d = .non
theorem ok_f_check_frame (T : Txt w K mg) : Callee Pg w K mg base 3 "check_frame" ["fields", "lots"] (spD K (preP 2 rel_f_check_frame)) := by
  have c_lot_mask := ok_f_lot_mask (Pg := Pg) (base := base) T
  have c_missing_commons := ok_f_missing_commons (Pg := Pg) (base := base) T
  have c_stepless_masks := ok_f_stepless_masks (Pg := Pg) (base := base) T
  have m_len := T.free 96 (x := "len") rfl
  refine T.calleeP (N := nm_f_check_frame) (st := s_f_check_frame) 16 15 rfl rfl sc_f_check_frame rfl (fun _ _ _ _ _ _ us hl => match us, hl with | [_, _], _ => rfl) fun cdv A outer s H E hr => ⟨_, (pss_cons (ps_if (pt_cmpR (op_notIn_seqK K) pe_str (pv 1) (by rfl)) (pss_one ps_never) pss_nil)
    (pss_cons (ps_if (pt_cmpR (op_notIn_seqK K) (pv 0) (pv 1) (by rfl)) (pss_one ps_never) pss_nil)
    (pss_cons (ps_setLc (i := 2) (own := [("lot", 5)]) rfl sc_f_check_frame.nd rfl rfl (sw_true rfl rfl rfl (by decide +kernel)) (pi_listK K (pv 1)) (blkOk_by (N := nm_f_check_frame) (sc := defScope s_f_check_frame) (by decide +kernel)) (fun _ _ _ _ _ => by exact (pg_name (i := 5) sc_f_check_frame.nd rfl (Or.inl rfl))) (fun _ _ _ _ _ => by exact pts_nil) (fun _ _ _ _ _ => by exact (pe_callC c_lot_mask hr (by rfl) (pa_cons (pv 5) pa_nil))))
    (pss_cons (ps_set (i := 3) sc_f_check_frame.nd rfl (Or.inl rfl) (pe_callC c_missing_commons hr (by rfl) (pa_cons (pv 2) pa_nil)))
    (pss_cons (ps_if (pt_cmpR op_gt (pe_callB (call_lenK K) (by rfl) m_len (by decide +kernel) (pa_cons (pv 3) pa_nil)) pe_int (nomark _)) (pss_one ps_never) pss_nil)
    (pss_cons (ps_set (i := 4) sc_f_check_frame.nd rfl (Or.inl rfl) (pe_callC c_stepless_masks hr (by rfl) (pa_cons (pv 0) (pa_cons (pv 2) pa_nil))))
    (pss_one (ps_if (pt_cmpR op_gt (pe_callB (call_lenK K) (by rfl) m_len (by decide +kernel) (pa_cons (pv 4) pa_nil)) pe_int (nomark _)) (pss_one ps_never) pss_nil)))))))), ?_⟩
  rintro ds d hn ⟨F, ls, rfl, hF, hl, rfl⟩
  have en : ∀ l : Lot, l ∈ ls → (if true = true then !decide (st l ∈ ls.map st) else decide (st l ∈ ls.map st)) = false := fun l h => by rw [if_pos rfl, decide_eq_true (mem_st.mpr h)]; rfl
  refine sw_seq (sw_if (c := false) (et_is (et_testD (evd_op (ev_c (d := .str (st [])) rfl) (ev_var rfl) (ops_inStrs (xs := ls.map st) (.inl (by rw [← map_txs]; rfl))))) (en _ hl.nil)) nofun fun _ => sw_next ?_)
  refine sw_seq (sw_if (c := false) (et_is (et_testD (evd_op (ev_var rfl) (ev_var rfl) (ops_inStrs (xs := ls.map st) (.inl (by rw [← map_txs]; rfl))))) (en _ hl.all)) nofun fun _ => sw_next ?_)
  refine sw_seq (sw_asg (evd_is (ev_lc (xs := ls) (φ := tx) (ei_lst (ev_var rfl)) trivial (fun _ => true) (fun l => .int (msk l)) (tg := [5]) (by decide) (Nat.le_trans hl.len (by decide)) fun l hm => ⟨_, ga_name, et_yes, fun _ => ev_callP (ds := [tx l]) (ea_cons (ev_var rfl) ea_nil) rfl ⟨l, rfl, (hl.sub l hm).trans hF.sub, rfl⟩⟩) (d2 := .lst ((ls.map msk).map Dat.int)) (by rw [filter_yes, List.map_map]; rfl)) ?_)
  have hz : (ls.map msk).length ≤ 64 := by rw [List.length_map]; exact hl.len
  have c1 : ∀ a ∈ ls.map msk, ∀ b ∈ ls.map msk, Builtin.bitAnd a b ∈ ls.map msk := by
    intro a ha b hb
    obtain ⟨l, h1, rfl⟩ := List.mem_map.mp ha
    obtain ⟨m, h2, rfl⟩ := List.mem_map.mp hb
    rw [msk_and ((hl.sub l h1).trans hF.sub) ((hl.sub m h2).trans hF.sub)]
    exact List.mem_map.mpr ⟨_, hl.com l h1 m h2, rfl⟩
  have c2 : ∀ a ∈ ls.map msk, a ≠ msk F → ∃ x ∈ F, Builtin.bitAnd a (wt x) = 0 ∧ a + wt x ∈ ls.map msk := by
    intro a ha hne
    obtain ⟨l, h1, rfl⟩ := List.mem_map.mp ha
    obtain ⟨x, h2, h3, b, h4, h5⟩ := hl.step l h1 fun e => hne (by rw [e])
    have s1 := (hl.sub l h1).trans hF.sub
    refine ⟨x, h2, (msk_bit s1 (hF.sub.subset h2)).mpr h3, ?_⟩
    rw [step_msk s1 ((hl.sub b h4).trans hF.sub) (hF.sub.subset h2) h3 h5]
    exact List.mem_map.mpr ⟨b, h4, rfl⟩
  refine sw_seq (sw_asg (ev_callP (ds := [.lst ((ls.map msk).map Dat.int)]) (ea_cons (ev_var rfl) ea_nil) rfl ⟨ls.map msk, rfl, hl.msk_nd hF, c1, hz, rfl⟩) ?_)
  refine sw_seq (sw_if (c := false) (et_is (et_testD (evd_op (evd_cb (ea_cons (ev_var rfl) ea_nil) (cb_len (n := 0) rfl (by decide))) (ev_c (d := .int 0) rfl) ops_cmpI)) rfl) nofun fun _ => sw_next ?_)
  refine sw_seq (sw_asg (ev_callP (ds := [tx F, .lst ((ls.map msk).map Dat.int)]) (ea_cons (ev_var rfl) (ea_cons (ev_var rfl) ea_nil)) rfl ⟨F, ls.map msk, rfl, hF.sub, hl.msk_nd hF, c2, hz, rfl⟩) ?_)
  exact sw_if (c := false) (et_is (et_testD (evd_op (evd_cb (ea_cons (ev_var rfl) ea_nil) (cb_len (n := 0) rfl (by decide))) (ev_c (d := .int 0) rfl) ops_cmpI)) rfl) nofun fun _ => sw_next rfl
end
end KH
namespace KH
open PySem PySem.Spec PyProof.Rows L2 DL M80
section
variable {Pg : Program} {w : World} {K : PySem.W.Frag} {mg : Str → Option Value} {base : Heap}
def steadyF (F : Lot) (ls : List Lot) : List (Str × Dat) := [("frame_fields", tx F), ("frame_lots", txs ls), ("frame_masks", .dct (ls.map fun l => ((.inr (st l) : Key), .int (msk l))))]
def steadyD (K : PySem.W.Frag) (F : Lot) (ls : List Lot) : Dat := .ins (He.ga K "Steady") (steadyF F ls)
theorem setMu_one {l : Addr} {m m2 : Mu} : setMu [(l, m)] l m2 = [(l, m2)] := by simp [setMu]
abbrev nm_m_Steady_init : List Str := ["self", "fields", "lots", "lot", "ascending"]
theorem sc_m_Steady_init : FnScope nm_m_Steady_init ["self", "fields", "lots"] (defScope s_m_Steady_init) := ⟨rfl, rfl, rfl, by decide +kernel, rfl, by decide +kernel, by decide +kernel⟩
def pre_m_Steady_init (K : PySem.W.Frag) : List Sl → Mem → (Sl → Mem → Prop) → Prop := fun ss μ R => ∃ (x dx : Addr) (F : Lot) (ls : List Lot), ss = [.adr x, .dat (tx F), .dat (txs ls)] ∧ μ = [(x, .mis (He.ga K "Steady") dx [])] ∧ FOk F ∧ FrameOk F (sortL ls) ∧ R (.dat .non) [(x, .mis (He.ga K "Steady") dx (datF (steadyF F (sortL ls))))]
theorem ok_m_Steady_init (T : Txt w K mg) : NCallee Pg w K mg base 5 "Steady" (He.ga K "Steady") ["self", "fields", "lots"] (spD K (pre_m_Steady_init K)) := by
  have c_check_fields := ok_f_check_fields (Pg := Pg) (base := base) T
  have c_check_lot := ok_f_check_lot (Pg := Pg) (base := base) T
  have c_sort_lots := ok_f_sort_lots (Pg := Pg) (base := base) T
  have c_check_frame := ok_f_check_frame (Pg := Pg) (base := base) T
  have c_lot_mask := ok_f_lot_mask (Pg := Pg) (base := base) T
  refine T.ncallee (N := nm_m_Steady_init) (st := s_m_Steady_init) 18 113 85 rfl rfl rfl sc_m_Steady_init ?_ (fun _ _ _ _ _ _ us hl => match us, hl with | [_, _, _], _ => rfl) fun fd cdv A outer s H E hr => ⟨_, (pss_cons (ps_expr (pe_callC c_check_fields hr (by rfl) (pa_cons (pv 1) pa_nil)))
    (pss_cons (ps_for PassesOwn.never rfl (pi_listK K (pv 2)) (pg_name (i := 3) sc_m_Steady_init.nd rfl (Or.inl rfl)) (pss_one (ps_expr (pe_callC c_check_lot hr (by rfl) (pa_cons (pv 1) (pa_cons (pv 3) pa_nil))))))
    (pss_cons (ps_set (i := 4) sc_m_Steady_init.nd rfl (Or.inl rfl) (pe_callC c_sort_lots hr (by rfl) (pa_cons (pv 2) pa_nil)))
    (pss_cons (ps_expr (pe_callC c_check_frame hr (by rfl) (pa_cons (pv 1) (pa_cons (pv 4) pa_nil))))
    (pss_cons (ps_fldK K (pv 0) (pv 1))
    (pss_cons (ps_fldK K (pv 0) (pv 4))
    (pss_one (ps_fldK K (pv 0) (pe_dc (own := [("lot", 3)]) rfl sc_m_Steady_init.nd (pi_listK K (pv 4)) (blkOk_by (N := nm_m_Steady_init) (sc := defScope s_m_Steady_init) (by decide +kernel)) (fun _ _ _ _ _ => by exact (pg_name (i := 3) sc_m_Steady_init.nd rfl (Or.inl rfl))) (fun _ _ _ _ _ => by exact pts_nil) (fun _ _ _ _ _ => by exact (pv 3)) (fun _ _ _ _ _ => by exact (pe_callC c_lot_mask hr (by rfl) (pa_cons (pv 3) pa_nil)))))))))))), ?_⟩
  · rintro ss μ R ⟨x, dx, F, ls, rfl, rfl, hF, hl, hR⟩
    rfl
  rintro ss μ R ⟨x, dx, F, ls, rfl, rfl, hF, hl, hR⟩
  have cC := He.cls_ok (T.fact 112 (f := .cls "Steady") rfl)
  have n1 := He.noat_ok (T.fact 123 (f := .noat "Steady" "frame_fields") rfl)
  have n2 := He.noat_ok (T.fact 124 (f := .noat "Steady" "frame_lots") rfl)
  have n3 := He.noat_ok (T.fact 125 (f := .noat "Steady" "frame_masks") rfl)
  refine sw_seq (sw_dropM (ev_callP (ds := [tx F]) (ea_cons (ev_var rfl) ea_nil) rfl ⟨F, rfl, hF, rfl⟩).m fun s μ' z => ?_)
  obtain ⟨rfl, _⟩ := z
  have hm : ∀ l, l ∈ ls ↔ l ∈ sortL ls := fun l => mem_sortL.symm
  refine sw_seq (sw_for (ei_lst (ev_var rfl)) (fun i Γ' μ' => μ' = [(x, Mu.mis (He.ga K "Steady") dx [])] ∧ ∃ s, Γ' = [.adr x, .dat (tx F), .dat (txs ls), s, .un]) ⟨rfl, _, rfl⟩ (fun _ _ _ _ _ => trivial) (fun i e Γ' μ' he hI => ?_) fun Γ' μ' hI => ?_)
  · obtain ⟨l, hl1, rfl⟩ := map_get he
    obtain ⟨rfl, s, rfl⟩ := hI
    refine ⟨_, _, ga_name, sw_dropM (ev_callP (ds := [tx F, tx l]) (ea_cons (ev_var rfl) (ea_cons (ev_var rfl) ea_nil)) rfl ⟨F, l, rfl, hF, hl.sub l ((hm l).mp (List.mem_of_getElem? hl1)), rfl⟩).m fun s μ' z => ?_⟩
    obtain ⟨rfl, _⟩ := z
    exact ⟨rfl, _, rfl⟩
  obtain ⟨rfl, s, rfl⟩ := hI
  have hn : ls.Nodup := (sortL_perm ls).nodup_iff.mp hl.nd
  have hz : ls.length ≤ 64 := by rw [← sortL_len]; exact hl.len
  refine sw_seq (sw_asg (ev_callP (ds := [txs ls]) (ea_cons (ev_var rfl) ea_nil) rfl ⟨ls, rfl, hn, fun l h => (hl.sub l ((hm l).mp h)).trans hF.sub, hz, rfl⟩) ?_)
  refine sw_seq (sw_dropM (ev_callP (ds := [tx F, txs (sortL ls)]) (ea_cons (ev_var rfl) (ea_cons (ev_var rfl) ea_nil)) rfl ⟨F, _, rfl, hF, hl, rfl⟩).m fun s μ' z => ?_)
  obtain ⟨rfl, _⟩ := z
  refine sw_seq (sw_fld (fs := []) (ev_var rfl).m rfl cC n1 fun s μ' z => ?_)
  obtain ⟨rfl, rfl⟩ := z
  refine ⟨_, dx, .head _, by show (0 : Nat) < 900; decide, ?_⟩
  refine sw_seq (sw_fld (fs := []) (ev_var rfl).m rfl cC n2 fun s μ' z => ?_)
  obtain ⟨rfl, rfl⟩ := z
  rw [setMu_one]
  refine ⟨_, dx, .head _, by show (1 : Nat) < 900; decide, ?_⟩
  refine sw_fld (fs := []) (Ev.m (ev_dc (xs := sortL ls) (φ := tx) (ei_lst (ev_var rfl)) trivial (fun l => .inr (st l)) (fun l => .int (msk l)) (tg := [3]) (by decide) (Nat.le_trans hl.len (by decide)) ?_ fun l h => ⟨_, ga_name, ev_var rfl, ev_callP (ds := [tx l]) (ea_cons (ev_var rfl) ea_nil) rfl ⟨l, rfl, (hl.sub l h).trans hF.sub, rfl⟩⟩)) rfl cC n3 fun s μ' z => ?_
  · rw [List.nodup_iff_pairwise_ne, List.pairwise_map]
    exact (List.nodup_iff_pairwise_ne.mp hl.nd).imp fun h e => h (inj_st e)
  obtain ⟨rfl, rfl⟩ := z
  rw [setMu_one]
  refine ⟨_, dx, .head _, by show (2 : Nat) < 900; decide, ?_⟩
  rw [setMu_one]
  exact hR
abbrev nm_m_Steady_closed : List Str := ["self"]
theorem sc_m_Steady_closed : FnScope nm_m_Steady_closed ["self"] (defScope s_m_Steady_closed) := ⟨rfl, rfl, rfl, by decide +kernel, rfl, by decide +kernel, by decide +kernel⟩
def rel_m_Steady_closed (K : PySem.W.Frag) : List Dat → Dat → Prop := fun ds d => ∃ (F : Lot) (ls : List Lot), ds = [steadyD K F ls] ∧ d = txs ls
theorem ok_m_Steady_closed (T : Txt w K mg) : MCallee Pg w K mg base 1 (He.ga K "Steady") "closed" ["self"] (spD K (preP 1 (rel_m_Steady_closed K))) := by
  have m_list := T.free 97 (x := "list") rfl
  refine T.mcalleeP (N := nm_m_Steady_closed) (st := s_m_Steady_closed) 19 115 112 rfl rfl rfl sc_m_Steady_closed rfl (fun _ _ _ _ _ _ us hl => match us, hl with | [_], _ => rfl) fun cdv A outer s H E hr => ⟨_, (pss_one (ps_ret (pe_callTy (call_list_ofK K) (by rfl) m_list (by decide +kernel) (pa_cons (pe_fldK K (pv 0)) pa_nil)))), ?_⟩
  rintro ds d hn ⟨F, ls, rfl, rfl⟩
  have cC := He.cls_ok (T.fact 112 (f := .cls "Steady") rfl)
  have n2 := He.noat_ok (T.fact 124 (f := .noat "Steady" "frame_lots") rfl)
  exact sw_ret (evd_cb (ea_cons (ev_fldD (ev_var rfl) cC n2 rfl) ea_nil) (cb_list (.inl rfl))) rfl
abbrev nm_m_Steady_cl : List Str := ["self", "lot", "inner", "held", "mask"]
theorem sc_m_Steady_cl : FnScope nm_m_Steady_cl ["self", "lot"] (defScope s_m_Steady_cl) := ⟨rfl, rfl, rfl, by decide +kernel, rfl, by decide +kernel, by decide +kernel⟩
def rel_m_Steady_cl (K : PySem.W.Frag) : List Dat → Dat → Prop := fun ds d => ∃ (F : Lot) (ls : List Lot) (l h : Lot), ds = [steadyD K F ls, tx l] ∧ FOk F ∧ (∀ m ∈ ls, m.Sublist F) ∧ l.Sublist F ∧ ls.find? (fun m => l.all fun x => decide (x ∈ m)) = some h ∧ d = tx h
theorem ok_m_Steady_cl (T : Txt w K mg) : MCallee Pg w K mg base 4 (He.ga K "Steady") "cl" ["self", "lot"] (spD K (preP 2 (rel_m_Steady_cl K))) := by
  have c_check_lot := ok_f_check_lot (Pg := Pg) (base := base) T
  have c_lot_mask := ok_f_lot_mask (Pg := Pg) (base := base) T
  refine T.mcalleeP (N := nm_m_Steady_cl) (st := s_m_Steady_cl) 20 116 112 rfl rfl rfl sc_m_Steady_cl rfl (fun _ _ _ _ _ _ us hl => match us, hl with | [_, _], _ => rfl) fun cdv A outer s H E hr => ⟨_, (pss_cons (ps_expr (pe_callC c_check_lot hr (by rfl) (pa_cons (pe_fldK K (pv 0)) (pa_cons (pv 1) pa_nil))))
    (pss_cons (ps_set (i := 2) sc_m_Steady_cl.nd rfl (Or.inl rfl) (pe_callC c_lot_mask hr (by rfl) (pa_cons (pv 1) pa_nil)))
    (pss_cons (ps_lock (ps_for PassesOwn.never rfl (pi_items (pe_fldK K (pv 0))) (pg_tupK K 2 (pgs_cons (pg_name (i := 3) sc_m_Steady_cl.nd rfl (Or.inl rfl)) (pgs_cons (pg_name (i := 4) sc_m_Steady_cl.nd rfl (Or.inl rfl)) pgs_nil))) (pss_one (ps_if (pt_cmpR op_eq (pe_op op_and (pv 4) (pv 2)) (pv 2) (nomark _)) (pss_one (ps_ret (pv 3))) pss_nil))))
    (pss_one (ps_ret (pe_fldK K (pv 0))))))), ?_⟩
  rintro ds d hn ⟨F, ls, l, h, rfl, hF, hls, hl, hh, rfl⟩
  have cC := He.cls_ok (T.fact 112 (f := .cls "Steady") rfl)
  have n1 := He.noat_ok (T.fact 123 (f := .noat "Steady" "frame_fields") rfl)
  have n3 := He.noat_ok (T.fact 125 (f := .noat "Steady" "frame_masks") rfl)
  refine sw_seq (sw_dropM (ev_callP (ds := [tx F, tx l]) (ea_cons (ev_fldD (ev_var rfl) cC n1 rfl) (ea_cons (ev_var rfl) ea_nil)) rfl ⟨F, l, rfl, hF, hl, rfl⟩).m fun s μ' z => ?_)
  obtain ⟨rfl, _⟩ := z
  refine sw_seq (sw_asg (ev_callP (ds := [tx l]) (ea_cons (ev_var rfl) ea_nil) rfl ⟨l, rfl, hl.trans hF.sub, rfl⟩) ?_)
  refine sw_seq (sw_items (kvs := ls.map fun l => ((.inr (st l) : Key), .int (msk l))) rfl cC n3 rfl ?_ (fun i Γ' => (∀ j, j < i → ∀ m, ls[j]? = some m → (l.all fun x => decide (x ∈ m)) = false) ∧ ∃ s3 s4, scS s3 = true ∧ scS s4 = true ∧ Γ' = [.un, .dat (tx l), .dat (.int (msk l)), s3, s4]) ⟨fun j hj => absurd hj (Nat.not_lt_zero j), .un, .un, rfl, rfl, rfl⟩ (fun i p Γ' hp hI => ?_) (fun i Γ' hI => ?_) fun Γ' hI => ?_)
  · rw [List.all_map, List.all_eq_true]; intro m _; rfl
  · obtain ⟨m, hm, rfl⟩ := map_get hp
    obtain ⟨hno, s3, s4, q3, q4, rfl⟩ := hI
    have sm := (hls m (List.mem_of_getElem? hm)).trans hF.sub
    have sl := hl.trans hF.sub
    refine ⟨_, _, ga_tup (gas_cons ga_name (gas_cons ga_name gas_nil)) rfl, ?_⟩
    refine sw_if (c := l.all fun x => decide (x ∈ m)) (et_is (et_testD (evd_op (evd_op (ev_var rfl) (ev_var rfl) ops_andI) (ev_var rfl) ops_eqI)) ?_) (fun hc => ?_) fun hc => sw_next ⟨rfl, fun j hj m' hm' => ?_, _, _, rfl, rfl, rfl⟩
    · rw [msk_and sm sl]
      by_cases q : (l.all fun x => decide (x ∈ m)) = true
      · rw [q]
        have e : m.filter (fun x => decide (x ∈ l)) = l := by
          refine sub_ext ab_nodup (List.filter_sublist.trans sm) sl fun x _ => ?_
          rw [List.mem_filter, decide_eq_true_iff]
          refine ⟨fun z => z.2, fun z => ⟨?_, z⟩⟩
          simpa using List.all_eq_true.mp q x z
        rw [e]; simp
      · have q' : (l.all fun x => decide (x ∈ m)) = false := by simpa using q
        rw [q']
        refine decide_eq_false fun e => q ?_
        have e2 := msk_inj (List.filter_sublist.trans sm) sl e
        rw [List.all_eq_true]
        intro x hx
        rw [← e2] at hx
        simpa using (List.mem_filter.mp hx).1
    · refine sw_ret (d := tx m) (ev_var rfl) ⟨_, rfl, rfl, ?_⟩
      have : ls.find? (fun m => l.all fun x => decide (x ∈ m)) = some m := by
        rw [List.find?_eq_some_iff_getElem]
        refine ⟨hc, i, (List.getElem?_eq_some_iff.mp hm).1, (List.getElem?_eq_some_iff.mp hm).2, fun j hj => ?_⟩
        have := hno j hj _ (List.getElem?_eq_getElem (Nat.lt_trans hj (List.getElem?_eq_some_iff.mp hm).1))
        rw [this]; rfl
      rw [hh] at this
      cases this
      rfl
    · rcases Nat.lt_succ_iff_lt_or_eq.mp hj with hj | rfl
      · exact hno j hj m' hm'
      · rw [hm] at hm'; cases hm'; exact hc
  · obtain ⟨_, s3, s4, q3, q4, rfl⟩ := hI
    have e0 : scS .un = true := rfl
    have e1 : scS (.dat (tx l)) = true := rfl
    have e2 : scS (.dat (.int (msk l))) = true := rfl
    rw [List.all_cons, List.all_cons, List.all_cons, List.all_cons, List.all_cons, e0, e1, e2, q3, q4]; rfl
  · obtain ⟨hno, _⟩ := hI
    exfalso
    obtain ⟨q, j, hj, e, _⟩ := List.find?_eq_some_iff_getElem.mp hh
    have := hno j (by rw [List.length_map]; exact hj) h (by rw [List.getElem?_eq_getElem hj, e])
    rw [q] at this; cases this
abbrev nm_m_Steady_says : List Str := ["self", "case", "ahead", "behind", "closure", "letter"]
theorem sc_m_Steady_says : FnScope nm_m_Steady_says ["self", "case"] (defScope s_m_Steady_says) := ⟨rfl, rfl, rfl, by decide +kernel, rfl, by decide +kernel, by decide +kernel⟩
def rel_m_Steady_says (K : PySem.W.Frag) : List Dat → Dat → Prop := fun ds d => ∃ (F : Lot) (ls : List Lot) (c : Case) (h : Lot), ds = [steadyD K F ls, caseD c] ∧ FOk F ∧ (∀ m ∈ ls, m.Sublist F) ∧ CaseOk F c ∧ ls.find? (fun m => c.1.all fun x => decide (x ∈ m)) = some h ∧ d = .bl (!decide (c.1 = []) && c.2.all fun x => decide (x ∈ h))
theorem ok_m_Steady_says (T : Txt w K mg) : MCallee Pg w K mg base 5 (He.ga K "Steady") "says" ["self", "case"] (spD K (preP 2 (rel_m_Steady_says K))) := by
  have c_check_case := ok_f_check_case (Pg := Pg) (base := base) T
  have c_Steady_cl := ok_m_Steady_cl (Pg := Pg) (base := base) T
  have m_all := T.free 89 (x := "all") rfl
  refine T.mcalleeP (N := nm_m_Steady_says) (st := s_m_Steady_says) 21 117 112 rfl rfl rfl sc_m_Steady_says rfl (fun _ _ _ _ _ _ us hl => match us, hl with | [_, _], _ => rfl) fun cdv A outer s H E hr => ⟨_, (pss_cons (ps_asg (pe_callC c_check_case hr (by rfl) (pa_cons (pe_fldK K (pv 0)) (pa_cons (pv 1) pa_nil))) (pg_tupK K 2 (pgs_cons (pg_name (i := 2) sc_m_Steady_says.nd rfl (Or.inl rfl)) (pgs_cons (pg_name (i := 3) sc_m_Steady_says.nd rfl (Or.inl rfl)) pgs_nil))))
    (pss_cons (ps_if (pt_cmpR op_eq (pv 2) pe_str (nomark _)) (pss_one (ps_ret pe_bl)) pss_nil)
    (pss_cons (ps_set (i := 4) sc_m_Steady_says.nd rfl (Or.inr rfl) (pe_methC (pv 0) c_Steady_cl hr (pa_cons (pv 2) pa_nil)))
    (pss_one (ps_ret (pe_callB (cr_allK K) (by rfl) m_all (by decide +kernel) (pa_cons (pe_lc (own := [("letter", 5)]) rfl sc_m_Steady_says.nd (pi_str (pv 3)) (blkOk_by (N := nm_m_Steady_says) (sc := defScope s_m_Steady_says) (by decide +kernel)) (fun _ _ _ _ _ => by exact (pg_name (i := 5) sc_m_Steady_says.nd rfl (Or.inl rfl))) (fun _ _ _ _ _ => by exact pts_nil) (fun _ _ _ _ _ => by exact (pe_cmpR op_in_sign (pv 5) (pv 4) (by rfl)))) pa_nil))))))), ?_⟩
  rintro ds d hn ⟨F, ls, ⟨a, b⟩, h, rfl, hF, hls, hc, hh, rfl⟩
  have cC := He.cls_ok (T.fact 112 (f := .cls "Steady") rfl)
  have n1 := He.noat_ok (T.fact 123 (f := .noat "Steady" "frame_fields") rfl)
  refine sw_seq (sw_asgG (ev_callP (ds := [tx F, caseD (a, b)]) (ea_cons (ev_fldD (ev_var rfl) cC n1 rfl) (ea_cons (ev_var rfl) ea_nil)) rfl ⟨F, (a, b), rfl, hF, hc, rfl⟩) (ga_tup (gas_cons ga_name (gas_cons ga_name gas_nil)) rfl) ?_)
  refine sw_seq (sw_if (c := decide (a = [])) (et_testD (evd_op (ev_var rfl) (ev_c (d := tx []) rfl) ops_eqT)) (fun q => sw_ret (d := .bl false) (ev_c rfl) ?_) fun q => sw_next ?_)
  · rw [show decide ((a, b).1 = []) = true from q]; rfl
  · refine sw_seq (sw_asg (ev_methP (ds := [tx a]) (ev_var rfl) rfl (ea_cons (ev_var rfl) ea_nil) rfl ⟨F, ls, a, h, rfl, hF, hls, hc.l1, hh, rfl⟩) ?_)
    refine sw_ret (evd_is (evd_cb (ea_cons (evd_is (ev_lc (xs := b) (φ := fun c => .str ⟨#[c]⟩) (ei_str (ev_var rfl)) trivial (fun _ => true) (fun c => .bl (decide (c ∈ h))) (tg := [5]) (by decide) (mil (sub6 hF hc.l2)) fun c hc => ⟨_, ga_name, et_yes, fun _ => evd_op (ev_var rfl) (ev_var rfl) ops_inC⟩) (d2 := .lst ((b.map fun c => decide (c ∈ h)).map Dat.bl)) (by rw [filter_yes, List.map_map]; rfl)) ea_nil) cb_all) rfl) ?_
    rw [show decide ((a, b).1 = []) = false from q, List.all_map]; rfl
end
end KH
namespace KH
open PySem PySem.Spec PyProof.Rows L2 DL M80
section
variable {Pg : Program} {w : World} {K : PySem.W.Frag} {mg : Str → Option Value} {base : Heap}
abbrev nm_f_check_told : List Str := ["fields", "told"]
theorem sc_f_check_told : FnScope nm_f_check_told ["fields", "told"] (defScope s_f_check_told) := ⟨rfl, rfl, rfl, by decide +kernel, rfl, by decide +kernel, by decide +kernel⟩
def rel_f_check_told : List Dat → Dat → Prop := fun ds d => ∃ (F : Lot) (T : List Case), ds = [tx F, casesD T] ∧ FOk F ∧ ToldOk F T ∧ d = casesD T
theorem ok_f_check_told (T : Txt w K mg) : Callee Pg w K mg base 4 "check_told" ["fields", "told"] (spD K (preP 2 rel_f_check_told)) := by
  have c_check_fields := ok_f_check_fields (Pg := Pg) (base := base) T
  have c_check_own := ok_f_check_own (Pg := Pg) (base := base) T
  have m_len := T.free 96 (x := "len") rfl
  obtain ⟨t_MOST_TOLD, g_MOST_TOLD⟩ := T.int_ 107 (x := "MOST_TOLD") (n := 60) rfl
  refine T.calleeP (N := nm_f_check_told) (st := s_f_check_told) 27 17 rfl rfl sc_f_check_told rfl (fun _ _ _ _ _ _ us hl => match us, hl with | [_, _], _ => rfl) fun cdv A outer s H E hr => ⟨_, (pss_cons (ps_expr (pe_callC c_check_fields hr (by rfl) (pa_cons (pv 0) pa_nil)))
    (pss_cons (ps_if (pt_cmpR op_gt (pe_callB (call_lenK K) (by rfl) m_len (by decide +kernel) (pa_cons (pv 1) pa_nil)) (pe_glob (v := .int 60) rfl g_MOST_TOLD ⟨_, rfl⟩) (nomark _)) (pss_one ps_never) pss_nil)
    (pss_one (ps_ret (pe_callC c_check_own hr (by rfl) (pa_cons (pv 0) (pa_cons (pv 1) pa_nil))))))), ?_⟩
  rintro ds d hn ⟨F, T, rfl, hF, hT, rfl⟩
  refine sw_seq (sw_dropM (ev_callP (ds := [tx F]) (ea_cons (ev_var rfl) ea_nil) rfl ⟨F, rfl, hF, rfl⟩).m fun s μ' z => ?_)
  obtain ⟨rfl, _⟩ := z
  have hl := hT.len
  refine sw_seq (sw_if (c := false) (et_is (et_testD (evd_op (evd_cb (ea_cons (ev_var rfl) ea_nil) (cb_len rfl (by rw [List.length_map]; omega))) (ev_c (d := .int 60) rfl) ops_cmpI)) ?_) nofun fun _ => sw_next ?_)
  · rw [List.length_map]; exact decide_eq_false (by omega)
  · exact sw_ret (ev_callP (ds := [tx F, casesD T]) (ea_cons (ev_var rfl) (ea_cons (ev_var rfl) ea_nil)) rfl ⟨F, T, rfl, hF, hT, rfl⟩) rfl
abbrev nm_f_mark_of : List Str := ["letters", "mark", "field"]
theorem sc_f_mark_of : FnScope nm_f_mark_of ["letters"] (defScope s_f_mark_of) := ⟨rfl, rfl, rfl, by decide +kernel, rfl, by decide +kernel, by decide +kernel⟩
def rel_f_mark_of : List Dat → Dat → Prop := fun ds d => ∃ l : Lot, ds = [tx l] ∧ (∀ x ∈ l, x ∈ AB) ∧ d = .int (msk l)
theorem ok_f_mark_of (T : Txt w K mg) : Callee Pg w K mg base 1 "mark_of" ["letters"] (spD K (preP 1 rel_f_mark_of)) := by
  have g_MARKS := T.glo 110 (x := "MARKS") rfl
  refine T.calleeP (N := nm_f_mark_of) (st := s_f_mark_of) 28 18 rfl rfl sc_f_mark_of rfl (fun _ _ _ _ _ _ us hl => match us, hl with | [_], _ => rfl) fun cdv A outer s H E hr => ⟨_, (pss_cons (ps_set (i := 1) sc_f_mark_of.nd rfl (Or.inl rfl) pe_int)
    (pss_cons (ps_for PassesOwn.never rfl (pi_str (pv 0)) (pg_name (i := 2) sc_f_mark_of.nd rfl (Or.inl rfl)) (pss_one (ps_set (i := 1) sc_f_mark_of.nd rfl (Or.inl rfl) (pe_op op_add (pv 1) (pe_ix (ix_kdictK K w) (pe_glob (v := .ref (He.ga K "MARKS")) rfl g_MARKS rfl) (pv 2) (fun _ _ => rfl))))))
    (pss_one (ps_ret (pv 1))))), ?_⟩
  rintro ds d hn ⟨l, rfl, hl, rfl⟩
  refine sw_seq (sw_asg (ev_c (d := .int 0) rfl) ?_)
  refine sw_seq (sw_for (ei_str (ev_var rfl)) (fun i Γ' μ' => μ' = [] ∧ ∃ s, Γ' = [.dat (tx l), .dat (.int (msk (l.take i))), s]) ⟨rfl, _, rfl⟩ (fun _ _ _ _ _ => trivial) (fun i e Γ' μ' he hI => ?_) fun Γ' μ' hI => ?_)
  · obtain ⟨c, hc, rfl⟩ := chs_get he
    obtain ⟨rfl, s, rfl⟩ := hI
    refine ⟨_, _, ga_name, sw_asg (evd_op (ev_var rfl) (ev_kd (T.kdM (wts_mem (hl c (List.mem_of_getElem? hc)))) (ev_var rfl)) ops_addI) ⟨rfl, .dat (tx [c]), ?_⟩⟩
    rw [take_snoc hc, msk_snoc]; rfl
  · obtain ⟨rfl, s, rfl⟩ := hI
    rw [chs_len, List.take_length]
    exact sw_ret (ev_var rfl) rfl
/-! ### what the fields need -/
def nst (m : Int) (nd : Nat → List Int) (c : Nat) : Nat → List Int := fun x => if x = c then (if m ∈ nd c then nd c else nd c ++ [m]) else nd x
def needsF (T : List Case) : Nat → List Int := T.foldl (fun nd t => t.2.foldl (nst (msk t.1)) nd) fun _ => []
theorem nst_mem {m k : Int} {nd : Nat → List Int} {c x : Nat} : k ∈ nst m nd c x ↔ k ∈ nd x ∨ (x = c ∧ k = m) := by
  unfold nst
  by_cases h : x = c
  · subst h
    rw [if_pos rfl]
    by_cases q : m ∈ nd x
    · rw [if_pos q]
      exact ⟨.inl, fun z => z.elim id fun w => w.2 ▸ q⟩
    · rw [if_neg q]; simp
  · rw [if_neg h]; simp [h]
theorem nsts_mem {m k : Int} {x : Nat} : ∀ {l : Lot} {nd : Nat → List Int}, k ∈ l.foldl (nst m) nd x ↔ k ∈ nd x ∨ (x ∈ l ∧ k = m)
  | [], nd => by simp
  | c :: l, nd => by
    rw [List.foldl_cons, nsts_mem (l := l), nst_mem, List.mem_cons]
    constructor
    · rintro ((h | ⟨rfl, rfl⟩) | ⟨h1, h2⟩)
      · exact .inl h
      · exact .inr ⟨.inl rfl, rfl⟩
      · exact .inr ⟨.inr h1, h2⟩
    · rintro (h | ⟨rfl | h, h2⟩)
      · exact .inl (.inl h)
      · exact .inl (.inr ⟨rfl, h2⟩)
      · exact .inr ⟨h, h2⟩
theorem needsAux_mem {k : Int} {x : Nat} : ∀ {T : List Case} {nd : Nat → List Int}, k ∈ T.foldl (fun nd t => t.2.foldl (nst (msk t.1)) nd) nd x ↔ k ∈ nd x ∨ ∃ t ∈ T, x ∈ t.2 ∧ k = msk t.1
  | [], nd => by simp
  | t :: T, nd => by
    rw [List.foldl_cons, needsAux_mem (T := T), nsts_mem]
    constructor
    · rintro ((h | ⟨h1, h2⟩) | ⟨u, h1, h2⟩)
      · exact .inl h
      · exact .inr ⟨t, .head _, h1, h2⟩
      · exact .inr ⟨u, .tail _ h1, h2⟩
    · rintro (h | ⟨u, h1, h2⟩)
      · exact .inl (.inl h)
      · rcases List.mem_cons.mp h1 with rfl | h1
        · exact .inl (.inr h2)
        · exact .inr ⟨u, h1, h2⟩
theorem needsF_mem {k : Int} {x : Nat} {T : List Case} : k ∈ needsF T x ↔ ∃ t ∈ T, x ∈ t.2 ∧ k = msk t.1 := by
  unfold needsF
  rw [needsAux_mem]; simp
theorem nst_len {m : Int} {nd : Nat → List Int} {c x : Nat} : (nst m nd c x).length ≤ (nd x).length + 1 := by
  unfold nst
  by_cases h : x = c
  · subst h
    rw [if_pos rfl]
    by_cases q : m ∈ nd x
    · rw [if_pos q]; omega
    · rw [if_neg q, List.length_append, List.length_singleton]; omega
  · rw [if_neg h]; omega
theorem nsts_len {m : Int} {x : Nat} : ∀ {l : Lot} {nd : Nat → List Int}, (l.foldl (nst m) nd x).length ≤ (nd x).length + l.length
  | [], nd => by simp
  | c :: l, nd => by
    rw [List.foldl_cons]
    have h1 := nsts_len (m := m) (x := x) (l := l) (nd := nst m nd c)
    have h2 := nst_len (m := m) (nd := nd) (c := c) (x := x)
    simp only [List.length_cons]; omega
theorem needsAux_len {x : Nat} : ∀ {T : List Case} {nd : Nat → List Int}, (∀ t ∈ T, t.2.length ≤ 6) → (T.foldl (fun nd t => t.2.foldl (nst (msk t.1)) nd) nd x).length ≤ (nd x).length + 6 * T.length
  | [], nd, _ => by simp
  | t :: T, nd, h => by
    rw [List.foldl_cons]
    have h1 := needsAux_len (x := x) (T := T) (nd := t.2.foldl (nst (msk t.1)) nd) fun u hu => h u (.tail _ hu)
    have h2 := nsts_len (m := msk t.1) (nd := nd) (l := t.2) (x := x)
    have h3 := h t (.head _)
    simp only [List.length_cons]; omega
theorem needsF_len {x : Nat} {T : List Case} (h : ∀ t ∈ T, t.2.length ≤ 6) : (needsF T x).length ≤ 6 * T.length := by
  have := needsAux_len (x := x) (nd := fun _ => []) h
  simpa [needsF] using this
abbrev ndI (nd : Nat → List Int) : Nat → List Dat := fun c => (nd c).map Dat.int
theorem ndI_nst {m : Int} {nd : Nat → List Int} {c : Nat} (h : m ∉ nd c) : (fun x => if x = c then ndI nd c ++ [.int m] else ndI nd x) = ndI (nst m nd c) := by
  funext x
  unfold ndI nst
  by_cases q : x = c
  · subst q; simp [h]
  · simp [q]
theorem nst_same {m : Int} {nd : Nat → List Int} {c : Nat} (h : m ∈ nd c) : nst m nd c = nd := by
  funext x
  unfold nst
  by_cases q : x = c
  · subst q; simp [h]
  · simp [q]
structure CasesOk (F : Lot) (T : List Case) : Prop where
  ok : ∀ c ∈ T, CaseOk F c
  len : T.length ≤ 60
theorem ToldOk.cases {F : Lot} {T : List Case} (h : ToldOk F T) : CasesOk F T := ⟨h.ok, h.len⟩
theorem CasesOk.six {F : Lot} {T : List Case} (hF : FOk F) (h : CasesOk F T) : ∀ t ∈ T, t.2.length ≤ 6 := fun t ht => sub6 hF (h.ok t ht).l2
abbrev nm_f_needs_of : List Str := ["fields", "cases", "needs", "ahead", "behind", "mark", "field"]
theorem sc_f_needs_of : FnScope nm_f_needs_of ["fields", "cases"] (defScope s_f_needs_of) := ⟨rfl, rfl, rfl, by decide +kernel, rfl, by decide +kernel, by decide +kernel⟩
def rel_f_needs_of : List Dat → Dat → Prop := fun ds d => ∃ (F : Lot) (T : List Case), ds = [tx F, casesD T] ∧ FOk F ∧ CasesOk F T ∧ d = needsD F (ndI (needsF T))
theorem ok_f_needs_of (T : Txt w K mg) : Callee Pg w K mg base 2 "needs_of" ["fields", "cases"] (spD K (preP 2 rel_f_needs_of)) := by
  have c_mark_of := ok_f_mark_of (Pg := Pg) (base := base) T
  refine T.calleeP (N := nm_f_needs_of) (st := s_f_needs_of) 29 19 rfl rfl sc_f_needs_of rfl (fun _ _ _ _ _ _ us hl => match us, hl with | [_, _], _ => rfl) fun cdv A outer s H E hr => ⟨_, (pss_cons (ps_setDc (i := 2) (own := [("field", 6)]) rfl sc_f_needs_of.nd rfl rfl (sw_trueD rfl rfl rfl (by decide +kernel)) (pi_str (pv 0)) (blkOk_by (N := nm_f_needs_of) (sc := defScope s_f_needs_of) (by decide +kernel)) (fun _ _ _ _ _ => by exact (pg_name (i := 6) sc_f_needs_of.nd rfl (Or.inl rfl))) (fun _ _ _ _ _ => by exact pts_nil) (fun _ _ _ _ _ => by exact (pv 6)) (fun _ _ _ _ _ => by exact (pe_lst pa_nil)))
    (pss_cons (ps_for PassesOwn.never rfl (pi_listK K (pv 1)) (pg_tupK K 2 (pgs_cons (pg_name (i := 3) sc_f_needs_of.nd rfl (Or.inl rfl)) (pgs_cons (pg_name (i := 4) sc_f_needs_of.nd rfl (Or.inl rfl)) pgs_nil))) (pss_cons (ps_set (i := 5) sc_f_needs_of.nd rfl (Or.inl rfl) (pe_callC c_mark_of hr (by rfl) (pa_cons (pv 3) pa_nil)))
    (pss_one (ps_for PassesOwn.never rfl (pi_str (pv 4)) (pg_name (i := 6) sc_f_needs_of.nd rfl (Or.inl rfl)) (pss_one (ps_if (pt_cmpR (op_notIn_seqK K) (pv 5) (pe_dget (hu_of hr) (pv 2) (pv 6) (fun _ _ => rfl)) (by rfl)) (pss_one (ps_expr (pe_appendK K (pe_dget (hu_of hr) (pv 2) (pv 6) (fun _ _ => rfl)) (pa_cons (pv 5) pa_nil)))) pss_nil))))))
    (pss_one (ps_ret (pv 2))))), ?_⟩
  rintro ds d hn ⟨F, U, rfl, hF, hT, rfl⟩
  refine sw_seq (sw_asgM (em_dcL (F := F) (ei_str (ev_var rfl)) (fun _ => trivial) (tg := [6]) (by decide) hF.nodup (Nat.le_trans hF.len (by decide)) fun c hc => ⟨_, ga_name, fun μ => ev_var rfl⟩) fun s μ' z => ?_)
  obtain ⟨D, A, rfl, rfl, hnd⟩ := z
  have hA : ∀ c ∈ U, ∀ x ∈ c.2, x ∈ F := fun c hc x hx => (hT.ok c hc).l2.subset hx
  refine sw_seq (sw_for (ei_lst (ev_var rfl)) (fun i Γ' μ' => μ' = muF D A F (ndI (needsF (U.take i))) ∧ ∃ s3 s4 s5 s6, Γ' = [.dat (tx F), .dat (casesD U), .adr D, s3, s4, s5, s6]) ⟨rfl, _, _, _, _, rfl⟩ (fun _ _ _ _ _ => trivial) (fun i e Γ' μ' he hI => ?_) fun Γ' μ' hI => ?_)
  · obtain ⟨⟨a, b⟩, hc, rfl⟩ := map_get he
    have hm := List.mem_of_getElem? hc
    obtain ⟨rfl, s3, s4, s5, s6, rfl⟩ := hI
    refine ⟨_, _, ga_tup (gas_cons ga_name (gas_cons ga_name gas_nil)) rfl, ?_⟩
    refine sw_seq (sw_asg (ev_callP (ds := [tx a]) (ea_cons (ev_var rfl) ea_nil) rfl ⟨a, rfl, fun x hx => hF.sub.subset ((hT.ok _ hm).l1.subset hx), rfl⟩) ?_)
    refine sw_for (ei_str (ev_var rfl)) (fun j Γ' μ' => μ' = muF D A F (ndI ((b.take j).foldl (nst (msk a)) (needsF (U.take i)))) ∧ ∃ s6, Γ' = [.dat (tx F), .dat (casesD U), .adr D, .dat (tx a), .dat (tx b), .dat (.int (msk a)), s6]) ⟨rfl, _, rfl⟩ (fun _ _ _ _ _ => trivial) (fun j e Γ' μ' he hI => ?_) fun Γ' μ' hI => ?_
    · obtain ⟨x, hx, rfl⟩ := chs_get he
      have hxF := hA _ hm x (List.mem_of_getElem? hx)
      obtain ⟨rfl, s6, rfl⟩ := hI
      refine ⟨_, _, ga_name, ?_⟩
      have hlen : (((b.take j).foldl (nst (msk a)) (needsF (U.take i))) x).length ≤ 366 := by
        have h1 := nsts_len (m := msk a) (x := x) (l := b.take j) (nd := needsF (U.take i))
        have h2 := needsF_len (x := x) (T := U.take i) fun t ht => hT.six hF t (List.mem_of_mem_take ht)
        have h3 := hT.six hF _ hm
        have h4 := hT.len
        rw [List.length_take] at h1 h2
        have h5 : b.length ≤ 6 := h3
        omega
      refine sw_if (c := !decide (msk a ∈ ((b.take j).foldl (nst (msk a)) (needsF (U.take i))) x)) (et_testD (ev_op (ev_var (d := .int (msk a)) rfl) (ev_muF (ev_adr rfl) (ev_var rfl) hxF) fun sa sb h1 h2 => by subst h1; subst h2; exact ops_inIntsO (mem_muF hxF))) (fun hq => ?_) fun hq => sw_next ?_
      · have hq' : msk a ∉ ((b.take j).foldl (nst (msk a)) (needsF (U.take i))) x := by simpa using hq
        refine sw_append (ev_muF (ev_adr rfl) (ev_var rfl) hxF) (ev_var (d := .int (msk a)) rfl) (mem_muF hxF) ?_ (by rw [adrs_muF]; exact hnd) ⟨?_, _, rfl⟩
        · rw [List.length_map]; omega
        · rw [set_muF hnd hxF, ndI_nst hq', take_snoc hx, List.foldl_append]; rfl
      · have hq' : msk a ∈ ((b.take j).foldl (nst (msk a)) (needsF (U.take i))) x := by simpa using hq
        refine ⟨?_, _, rfl⟩
        rw [take_snoc hx, List.foldl_append]
        show _ = muF D A F (ndI (nst (msk a) _ x))
        rw [nst_same hq']
    · obtain ⟨rfl, s6, rfl⟩ := hI
      refine ⟨?_, _, _, _, _, rfl⟩
      rw [chs_len, List.take_length, take_snoc hc]
      unfold needsF
      rw [List.foldl_append]; rfl
  · obtain ⟨rfl, s3, s4, s5, s6, rfl⟩ := hI
    rw [List.length_map, List.take_length]
    exact sw_retDL (ev_adr rfl) rfl
theorem getD_needs {F : Lot} {nd : Nat → List Dat} {c : Nat} (h : c ∈ F) : getD (F.map fun c => ((.inr (st [c]) : Key), .lst (nd c))) (.inr (st [c])) = some (.lst (nd c)) := by
  induction F with
  | nil => cases h
  | cons e r ih =>
    unfold getD at ih ⊢
    rw [List.map_cons, List.find?_cons]
    by_cases q : e = c
    · subst q; simp
    · have : ¬ (.inr (st [e]) : Key) = .inr (st [c]) := fun z => q (inj1 z)
      simp only [this, decide_false]
      exact ih ((List.mem_cons.mp h).resolve_left fun z => q z.symm)
def optT : Option Nat → Dat
  | some f => tx [f]
  | none => tx []
theorem bool_eq {a b : Bool} (h : a = true ↔ b = true) : a = b := by cases a <;> cases b <;> simp_all
abbrev nm_f_next_field : List Str := ["fields", "needs", "done", "barred", "field", "free", "need"]
theorem sc_f_next_field : FnScope nm_f_next_field ["fields", "needs", "done", "barred"] (defScope s_f_next_field) := ⟨rfl, rfl, rfl, by decide +kernel, rfl, by decide +kernel, by decide +kernel⟩
def rel_f_next_field : List Dat → Dat → Prop := fun ds d => ∃ (F : Lot) (T : List Case) (A r : Lot), ds = [tx F, needsD F (ndI (needsF T)), .int (msk r), .int (msk A)] ∧ FOk F ∧ CasesOk F T ∧ A.Sublist F ∧ r.Nodup ∧ (∀ x ∈ r, x ∈ F) ∧ d = optT (nextF F T A r)
theorem ok_f_next_field (T : Txt w K mg) : Callee Pg w K mg base 1 "next_field" ["fields", "needs", "done", "barred"] (spD K (preP 4 rel_f_next_field)) := by
  have m_all := T.free 89 (x := "all") rfl
  have g_MARKS := T.glo 110 (x := "MARKS") rfl
  refine T.calleeP (N := nm_f_next_field) (st := s_f_next_field) 30 20 rfl rfl sc_f_next_field rfl (fun _ _ _ _ _ _ us hl => match us, hl with | [_, _, _, _], _ => rfl) fun cdv A outer s H E hr => ⟨_, (pss_cons (ps_for PassesOwn.never rfl (pi_str (pv 0)) (pg_name (i := 4) sc_f_next_field.nd rfl (Or.inl rfl)) (pss_cons (ps_set (i := 5) sc_f_next_field.nd rfl (Or.inl rfl) (pe_cmpR op_eq (pe_op op_and (pe_ix (ix_kdictK K w) (pe_glob (v := .ref (He.ga K "MARKS")) rfl g_MARKS rfl) (pv 4) (fun _ _ => rfl)) (pe_op op_or (pv 2) (pv 3))) pe_int (nomark _)))
    (pss_one (ps_if (PW.pt (pw_and (pt_val (pv 5)) (pw_and1 (pt_val (pe_callB (cr_allK K) (by rfl) m_all (by decide +kernel) (pa_cons (pe_lc (own := [("need", 6)]) rfl sc_f_next_field.nd (pi_listK K (pe_dget (hu_of hr) (pv 1) (pv 4) (fun _ _ => rfl))) (blkOk_by (N := nm_f_next_field) (sc := defScope s_f_next_field) (by decide +kernel)) (fun _ _ _ _ _ => by exact (pg_name (i := 6) sc_f_next_field.nd rfl (Or.inl rfl))) (fun _ _ _ _ _ => by exact pts_nil) (fun _ _ _ _ _ => by exact (pe_cmpR op_ne (pe_op op_and (pv 6) (pv 2)) pe_int (nomark _)))) pa_nil)))))) (pss_one (ps_ret (pv 4))) pss_nil))))
    (pss_one (ps_ret pe_str))), ?_⟩
  rintro ds d hn ⟨F, U, A, r, rfl, hF, hT, hA, hr1, hr2, rfl⟩
  have hr3 : ∀ x ∈ r, x ∈ AB := fun x hx => hF.sub.subset (hr2 x hx)
  refine sw_seq (sw_for (ei_str (ev_var rfl)) (fun i Γ' μ' => μ' = [] ∧ (∀ x ∈ F.take i, ad U A r x = false) ∧ ∃ s4 s5, Γ' = [.dat (tx F), .dat (needsD F (ndI (needsF U))), .dat (.int (msk r)), .dat (.int (msk A)), s4, s5, .un]) ⟨rfl, (fun x hx => nomatch hx), _, _, rfl⟩ (fun _ _ _ _ _ => trivial) (fun i e Γ' μ' he hI => ?_) fun Γ' μ' hI => ?_)
  · obtain ⟨c, hc, rfl⟩ := chs_get he
    have hcF := List.mem_of_getElem? hc
    have hcA := hF.sub.subset hcF
    obtain ⟨rfl, hno, s4, s5, rfl⟩ := hI
    refine ⟨_, _, ga_name, ?_⟩
    refine sw_seq (sw_asg (evd_op (evd_op (ev_kd (T.kdM (wts_mem hcA)) (ev_var rfl)) (evd_op (ev_var rfl) (ev_var rfl) ops_orI) ops_andI) (ev_c (d := .int 0) rfl) ops_eqI) ?_)
    refine sw_if (c := ad U A r c) (et_is (et_and (et_BD (ev_var rfl)) fun _ => et_BD (evd_cb (ea_cons (evd_is (ev_lc (xs := needsF U c) (φ := Dat.int) (ei_lst (ev_dget (k := .inr (st [c])) (ev_var rfl) (ev_var rfl) (getD_needs hcF))) trivial (fun _ => true) (fun m => .bl (!decide (Builtin.bitAnd m (msk r) = 0))) (tg := [6]) (by decide) ?_ fun m hm => ⟨_, ga_name, et_yes, fun _ => evd_op (evd_op (ev_var rfl) (ev_var rfl) ops_andI) (ev_c (d := .int 0) rfl) ops_neI⟩) (d2 := .lst (((needsF U c).map fun m => !decide (Builtin.bitAnd m (msk r) = 0)).map Dat.bl)) (by rw [filter_yes, List.map_map]; rfl)) ea_nil) cb_all)) ?_) (fun hq => ?_) fun hq => sw_next ⟨rfl, fun x hx => ?_, _, _, rfl⟩
    · have h2 := needsF_len (x := c) (T := U) (hT.six hF)
      have h3 := hT.len
      omega
    · refine bool_eq ?_
      rw [ad_iff, Bool.and_eq_true, decide_eq_true_iff, free_zero (hA.trans hF.sub) hr1 hr3 hcA, List.all_map, List.all_eq_true]
      unfold Ad
      rw [and_assoc]
      refine and_congr Iff.rfl (and_congr Iff.rfl ?_)
      constructor
      · intro h t ht hct
        have h1 := h (msk t.1) (needsF_mem.mpr ⟨t, ht, hct, rfl⟩)
        have h2 : ¬ Builtin.bitAnd (msk t.1) (msk r) = 0 := by simpa using h1
        rw [and_zero ((hT.ok t ht).l1.trans hF.sub) hr1 hr3] at h2
        refine Classical.byContradiction fun q => h2 fun x hx hxr => q ⟨x, hx, hxr⟩
      · intro h m hm
        obtain ⟨t, ht, hct, rfl⟩ := needsF_mem.mp hm
        obtain ⟨x, hx, hxr⟩ := h t ht hct
        have : ¬ Builtin.bitAnd (msk t.1) (msk r) = 0 := by
          rw [and_zero ((hT.ok t ht).l1.trans hF.sub) hr1 hr3]
          exact fun z => z x hx hxr
        simpa using this
    · refine sw_ret (d := tx [c]) (ev_var rfl) ?_
      have : nextF F U A r = some c := by
        unfold nextF
        rw [List.find?_eq_some_iff_getElem]
        obtain ⟨hi, e⟩ := List.getElem?_eq_some_iff.mp hc
        refine ⟨hq, i, hi, e, fun j hj => ?_⟩
        have := hno F[j] (List.mem_take_iff_getElem.mpr ⟨j, by omega, rfl⟩)
        rw [this]; rfl
      rw [this]; rfl
    · rw [take_snoc hc, List.mem_append, List.mem_singleton] at hx
      rcases hx with hx | rfl
      · exact hno x hx
      · exact hq
  · obtain ⟨rfl, hno, s4, s5, rfl⟩ := hI
    rw [chs_len, List.take_length] at hno
    refine sw_ret (d := tx []) (ev_c rfl) ?_
    have : nextF F U A r = none := List.find?_eq_none.mpr fun x hx => by rw [hno x hx]; exact nofun
    rw [this]; rfl
abbrev nm_f_walk_on : List Str := ["fields", "needs", "start", "avoid", "route", "done", "barred", "step", "field"]
theorem sc_f_walk_on : FnScope nm_f_walk_on ["fields", "needs", "start", "avoid"] (defScope s_f_walk_on) := ⟨rfl, rfl, rfl, by decide +kernel, rfl, by decide +kernel, by decide +kernel⟩
def rel_f_walk_on : List Dat → Dat → Prop := fun ds d => ∃ (F : Lot) (T : List Case) (A : Lot), ds = [tx F, needsD F (ndI (needsF T)), tx [], tx A] ∧ FOk F ∧ CasesOk F T ∧ A.Sublist F ∧ d = tx (walk F T A)
theorem ok_f_walk_on (T : Txt w K mg) : Callee Pg w K mg base 2 "walk_on" ["fields", "needs", "start", "avoid"] (spD K (preP 4 rel_f_walk_on)) := by
  have c_mark_of := ok_f_mark_of (Pg := Pg) (base := base) T
  have c_next_field := ok_f_next_field (Pg := Pg) (base := base) T
  have g_MARKS := T.glo 110 (x := "MARKS") rfl
  refine T.calleeP (N := nm_f_walk_on) (st := s_f_walk_on) 31 21 rfl rfl sc_f_walk_on rfl (fun _ _ _ _ _ _ us hl => match us, hl with | [_, _, _, _], _ => rfl) fun cdv A outer s H E hr => ⟨_, (pss_cons (ps_set (i := 4) sc_f_walk_on.nd rfl (Or.inl rfl) (pv 2))
    (pss_cons (ps_set (i := 5) sc_f_walk_on.nd rfl (Or.inl rfl) (pe_callC c_mark_of hr (by rfl) (pa_cons (pv 2) pa_nil)))
    (pss_cons (ps_set (i := 6) sc_f_walk_on.nd rfl (Or.inl rfl) (pe_callC c_mark_of hr (by rfl) (pa_cons (pv 3) pa_nil)))
    (pss_cons (ps_for PassesOwn.never rfl (pi_str (pv 0)) (pg_name (i := 7) sc_f_walk_on.nd rfl (Or.inl rfl)) (pss_cons (ps_set (i := 8) sc_f_walk_on.nd rfl (Or.inl rfl) (pe_callC c_next_field hr (by rfl) (pa_cons (pv 0) (pa_cons (pv 1) (pa_cons (pv 5) (pa_cons (pv 6) pa_nil))))))
    (pss_cons (ps_if (pt_cmpR op_eq (pv 8) pe_str (nomark _)) (pss_one ps_break) pss_nil)
    (pss_cons (ps_set (i := 4) sc_f_walk_on.nd rfl (Or.inl rfl) (pe_op op_add_str (pv 4) (pv 8)))
    (pss_one (ps_set (i := 5) sc_f_walk_on.nd rfl (Or.inl rfl) (pe_op op_add (pv 5) (pe_ix (ix_kdictK K w) (pe_glob (v := .ref (He.ga K "MARKS")) rfl g_MARKS rfl) (pv 8) (fun _ _ => rfl)))))))))
    (pss_one (ps_ret (pv 4))))))), ?_⟩
  rintro ds d hn ⟨F, U, A, rfl, hF, hT, hA, rfl⟩
  refine sw_seq (sw_asg (ev_var rfl) ?_)
  refine sw_seq (sw_asg (ev_callP (ds := [tx []]) (ea_cons (ev_var rfl) ea_nil) rfl ⟨[], rfl, (fun x hx => nomatch hx), rfl⟩) ?_)
  refine sw_seq (sw_asg (ev_callP (ds := [tx A]) (ea_cons (ev_var rfl) ea_nil) rfl ⟨A, rfl, fun x hx => hF.sub.subset (hA.subset hx), rfl⟩) ?_)
  refine sw_seq (sw_for (ei_str (ev_var rfl)) (fun i Γ' μ' => μ' = [] ∧ ∃ r, Lg F U A r ∧ walkN F U A (F.length - i) r = walk F U A ∧ ∃ s7 s8, Γ' = [.dat (tx F), .dat (needsD F (ndI (needsF U))), .dat (tx []), .dat (tx A), .dat (tx r), .dat (.int (msk r)), .dat (.int (msk A)), s7, s8]) ⟨rfl, [], .nil, rfl, _, _, rfl⟩ (fun _ _ _ _ _ => trivial) (fun i e Γ' μ' he hI => ?_) fun Γ' μ' hI => ?_)
  · obtain ⟨c, hc, rfl⟩ := chs_get he
    have hi : i < F.length := (List.getElem?_eq_some_iff.mp hc).1
    obtain ⟨rfl, r, hlg, hwk, s7, s8, rfl⟩ := hI
    have hr6 : r.length ≤ 6 := Nat.le_trans (len_le hlg.nodup hlg.sub) hF.len
    have e1 : F.length - i = (F.length - (i + 1)) + 1 := by omega
    rw [e1] at hwk
    refine ⟨_, _, ga_name, ?_⟩
    refine sw_seq (sw_asg (ev_callP (ds := [tx F, needsD F (ndI (needsF U)), .int (msk r), .int (msk A)]) (ea_cons (ev_var rfl) (ea_cons (ev_var rfl) (ea_cons (ev_var rfl) (ea_cons (ev_var rfl) ea_nil)))) rfl ⟨F, U, A, r, rfl, hF, hT, hA, hlg.nodup, hlg.sub, rfl⟩) ?_)
    unfold walkN at hwk
    cases hq : nextF F U A r with
    | none =>
      rw [hq] at hwk
      refine sw_seq (sw_if (c := true) (et_testD (evd_op (ev_var (d := tx []) rfl) (ev_c (d := tx []) rfl) ops_eqT)) (fun _ => sw_brk ?_) nofun)
      refine sw_ret (d := tx r) (ev_var rfl) ?_
      rw [← hwk]
    | some f =>
      rw [hq] at hwk
      obtain ⟨hf, had⟩ := next_some hq
      refine sw_seq (sw_if (c := false) (et_is (et_testD (evd_op (ev_var (d := tx [f]) rfl) (ev_c (d := tx []) rfl) ops_eqT)) (decide_eq_false (by simp))) nofun fun _ => sw_next ?_)
      refine sw_seq (sw_asg (evd_op (ev_var rfl) (ev_var rfl) (ops_addS ?_)) ?_)
      · simp only [List.length_singleton]; omega
      refine sw_asg (evd_op (ev_var rfl) (ev_kd (T.kdM (wts_mem (hF.sub.subset hf))) (ev_var rfl)) ops_addI) ⟨rfl, r ++ [f], .snoc hlg hf had, hwk, .dat (tx [c]), .dat (tx [f]), ?_⟩
      rw [msk_snoc]; rfl
  · obtain ⟨rfl, r, hlg, hwk, s7, s8, rfl⟩ := hI
    rw [chs_len, Nat.sub_self] at hwk
    refine sw_ret (d := tx r) (ev_var rfl) ?_
    rw [← hwk]; rfl
abbrev nm_f_walk_avoiding : List Str := ["fields", "cases", "avoid"]
theorem sc_f_walk_avoiding : FnScope nm_f_walk_avoiding ["fields", "cases", "avoid"] (defScope s_f_walk_avoiding) := ⟨rfl, rfl, rfl, by decide +kernel, rfl, by decide +kernel, by decide +kernel⟩
def rel_f_walk_avoiding : List Dat → Dat → Prop := fun ds d => ∃ (F : Lot) (T : List Case) (A : Lot), ds = [tx F, casesD T, tx A] ∧ FOk F ∧ CasesOk F T ∧ A.Sublist F ∧ d = tx (walk F T A)
theorem ok_f_walk_avoiding (T : Txt w K mg) : Callee Pg w K mg base 3 "walk_avoiding" ["fields", "cases", "avoid"] (spD K (preP 3 rel_f_walk_avoiding)) := by
  have c_walk_on := ok_f_walk_on (Pg := Pg) (base := base) T
  have c_needs_of := ok_f_needs_of (Pg := Pg) (base := base) T
  refine T.calleeP (N := nm_f_walk_avoiding) (st := s_f_walk_avoiding) 32 22 rfl rfl sc_f_walk_avoiding rfl (fun _ _ _ _ _ _ us hl => match us, hl with | [_, _, _], _ => rfl) fun cdv A outer s H E hr => ⟨_, (pss_one (ps_ret (pe_callC c_walk_on hr (by rfl) (pa_cons (pv 0) (pa_cons (pe_callC c_needs_of hr (by rfl) (pa_cons (pv 0) (pa_cons (pv 1) pa_nil))) (pa_cons pe_str (pa_cons (pv 2) pa_nil))))))), ?_⟩
  rintro ds d hn ⟨F, U, A, rfl, hF, hT, hA, rfl⟩
  exact sw_ret (ev_callP (ds := [tx F, needsD F (ndI (needsF U)), tx [], tx A]) (ea_cons (ev_var rfl) (ea_cons (ev_callP (ds := [tx F, casesD U]) (ea_cons (ev_var rfl) (ea_cons (ev_var rfl) ea_nil)) rfl ⟨F, U, rfl, hF, hT, rfl⟩) (ea_cons (ev_c (d := tx []) rfl) (ea_cons (ev_var rfl) ea_nil)))) rfl ⟨F, U, A, rfl, hF, hT, hA, rfl⟩) rfl
abbrev nm_f_others_of : List Str := ["fields", "letters", "field"]
theorem sc_f_others_of : FnScope nm_f_others_of ["fields", "letters"] (defScope s_f_others_of) := ⟨rfl, rfl, rfl, by decide +kernel, rfl, by decide +kernel, by decide +kernel⟩
def rel_f_others_of : List Dat → Dat → Prop := fun ds d => ∃ F l : Lot, ds = [tx F, tx l] ∧ F.length ≤ 1000 ∧ d = tx (others F l)
theorem ok_f_others_of (T : Txt w K mg) : Callee Pg w K mg base 1 "others_of" ["fields", "letters"] (spD K (preP 2 rel_f_others_of)) := by
  refine T.calleeP (N := nm_f_others_of) (st := s_f_others_of) 33 23 rfl rfl sc_f_others_of rfl (fun _ _ _ _ _ _ us hl => match us, hl with | [_, _], _ => rfl) fun cdv A outer s H E hr => ⟨_, (pss_one (ps_ret (pe_joinK K pe_str (pe_lc (own := [("field", 2)]) rfl sc_f_others_of.nd (pi_str (pv 0)) (blkOk_by (N := nm_f_others_of) (sc := defScope s_f_others_of) (by decide +kernel)) (fun _ _ _ _ _ => by exact (pg_name (i := 2) sc_f_others_of.nd rfl (Or.inl rfl))) (fun _ _ _ _ _ => by exact (pts_one (pt_cmpR op_notIn_sign (pv 2) (pv 1) (by rfl)))) (fun _ _ _ _ _ => by exact (pv 2)))))), ?_⟩
  rintro ds d hn ⟨F, l, rfl, hF, rfl⟩
  refine sw_ret (ev_join (l := others F l) (ev_c rfl) ?_ (Nat.le_trans (List.length_filter_le _ _) (Nat.le_trans hF (by decide)))) rfl
  exact ev_lc (xs := F) (φ := fun c => .str ⟨#[c]⟩) (ei_str (ev_var rfl)) trivial (fun c => !decide (c ∈ l)) (fun c => .str ⟨#[c]⟩) (tg := [2]) (by decide) (Nat.le_trans hF (by decide)) fun c hc => ⟨_, ga_name, et_testD (evd_op (ev_var rfl) (ev_var rfl) ops_ninC), fun _ => ev_var rfl⟩
abbrev nm_f_unlisted : List Str := ["fields", "cases", "avoid"]
theorem sc_f_unlisted : FnScope nm_f_unlisted ["fields", "cases", "avoid"] (defScope s_f_unlisted) := ⟨rfl, rfl, rfl, by decide +kernel, rfl, by decide +kernel, by decide +kernel⟩
def rel_f_unlisted : List Dat → Dat → Prop := fun ds d => ∃ (F : Lot) (T : List Case) (A : Lot), ds = [tx F, casesD T, tx A] ∧ FOk F ∧ CasesOk F T ∧ A.Sublist F ∧ d = tx (cl F T A)
theorem ok_f_unlisted (T : Txt w K mg) : Callee Pg w K mg base 4 "unlisted" ["fields", "cases", "avoid"] (spD K (preP 3 rel_f_unlisted)) := by
  have c_others_of := ok_f_others_of (Pg := Pg) (base := base) T
  have c_walk_avoiding := ok_f_walk_avoiding (Pg := Pg) (base := base) T
  refine T.calleeP (N := nm_f_unlisted) (st := s_f_unlisted) 34 24 rfl rfl sc_f_unlisted rfl (fun _ _ _ _ _ _ us hl => match us, hl with | [_, _, _], _ => rfl) fun cdv A outer s H E hr => ⟨_, (pss_one (ps_ret (pe_callC c_others_of hr (by rfl) (pa_cons (pv 0) (pa_cons (pe_callC c_walk_avoiding hr (by rfl) (pa_cons (pv 0) (pa_cons (pv 1) (pa_cons (pv 2) pa_nil)))) pa_nil))))), ?_⟩
  rintro ds d hn ⟨F, U, A, rfl, hF, hT, hA, rfl⟩
  exact sw_ret (ev_callP (ds := [tx F, tx (walk F U A)]) (ea_cons (ev_var rfl) (ea_cons (ev_callP (ds := [tx F, casesD U, tx A]) (ea_cons (ev_var rfl) (ea_cons (ev_var rfl) (ea_cons (ev_var rfl) ea_nil))) rfl ⟨F, U, A, rfl, hF, hT, hA, rfl⟩) ea_nil)) rfl ⟨F, _, rfl, Nat.le_trans hF.len (by decide), rfl⟩) rfl
end
end KH
namespace KH
open PySem PySem.Spec PyProof.Rows L2 DL M80
section
variable {Pg : Program} {w : World} {K : PySem.W.Frag} {mg : Str → Option Value} {base : Heap}
/-! ### closed lots -/
theorem cl_nil_iff {F : Lot} {T : List Case} : cl F T [] = [] ↔ M80.Ends F T := by
  unfold cl others M80.Ends
  rw [List.filter_eq_nil_iff]
  simp
def cdB (F : Lot) (T : List Case) (A : Lot) : Bool := decide ((walk F T A).length + A.length = F.length)
theorem cd_iff {F A : Lot} {T : List Case} (hF : F.Nodup) (hA : A.Sublist F) : cdB F T A = true ↔ Cd F T A := by
  unfold cdB
  rw [decide_eq_true_iff]
  have lg := walk_lg (F := F) (T := T) (A := A)
  have hn : (walk F T A ++ A).Nodup := by
    rw [List.nodup_append]
    exact ⟨lg.nodup, hA.nodup hF, fun a ha b hb e => lg.apart a ha (e ▸ hb)⟩
  have hs : ∀ x ∈ walk F T A ++ A, x ∈ F := fun x hx => (List.mem_append.mp hx).elim (lg.sub x) fun z => hA.subset z
  constructor
  · intro e x hx hxA
    have := all_of_len hn hs (by rw [List.length_append]; omega) x hx
    exact (List.mem_append.mp this).resolve_right hxA
  · intro h
    have h1 := len_le hn hs
    have h2 := len_le hF fun x hx => show x ∈ walk F T A ++ A from by
      by_cases q : x ∈ A
      · exact List.mem_append.mpr (.inr q)
      · exact List.mem_append.mpr (.inl (h x hx q))
    rw [List.length_append] at h1 h2; omega
def closedL (F : Lot) (T : List Case) : List Lot := (partsL F).filter (cdB F T)
theorem closedL_mem {F A : Lot} {T : List Case} (hF : F.Nodup) : A ∈ closedL F T ↔ A.Sublist F ∧ Cd F T A := by
  unfold closedL
  rw [List.mem_filter, partsL_mem]
  exact ⟨fun z => ⟨z.1, (cd_iff hF z.1).mp z.2⟩, fun z => ⟨z.1, (cd_iff hF z.1).mpr z.2⟩⟩
theorem leL_trans {a b c : Lot} (h1 : leL a b = true) (h2 : leL b c = true) : leL a c = true := leK_total.trans _ _ _ h1 h2
theorem leL_total (a b : Lot) : (leL a b || leL b a) = true := by
  rw [Bool.or_eq_true]; exact leK_total.total _ _
theorem sortL_pw (ls : List Lot) : (sortL ls).Pairwise (fun a b => leL a b = true) := List.pairwise_mergeSort (le := leL) (fun _ _ _ => leL_trans) leL_total ls
theorem closedL_pw (F : Lot) (T : List Case) : (closedL F T).Pairwise (fun a b => leL a b = true) := (sortL_pw _).filter _
theorem sort_closedL (F : Lot) (T : List Case) : sortL (closedL F T) = closedL F T := List.mergeSort_of_pairwise (closedL_pw F T)
theorem closedL_frame {F : Lot} {T : List Case} (hF : FOk F) (he : M80.Ends F T) : FrameOk F (closedL F T) where
  sub := fun l hl => ((closedL_mem hF.nodup).mp hl).1
  nd := (partsL_nodup hF.nodup).filter _
  len := Nat.le_trans (List.length_filter_le _ _) (partsL_len hF.len)
  nil := (closedL_mem hF.nodup).mpr ⟨List.nil_sublist _, cd_nil he⟩
  all := (closedL_mem hF.nodup).mpr ⟨List.Sublist.refl _, cd_all⟩
  com := fun a ha b hb => by
    obtain ⟨a1, a2⟩ := (closedL_mem hF.nodup).mp ha
    obtain ⟨b1, b2⟩ := (closedL_mem hF.nodup).mp hb
    exact (closedL_mem hF.nodup).mpr ⟨List.filter_sublist.trans a1, cd_common a2 b2⟩
  step := fun a ha hne => by
    obtain ⟨a1, a2⟩ := (closedL_mem hF.nodup).mp ha
    have : ∃ x ∈ F, x ∉ a := Classical.byContradiction fun q => hne (sub_ext hF.nodup a1 (List.Sublist.refl _) fun x hx => ⟨fun _ => hx, fun _ => Classical.byContradiction fun z => q ⟨x, hx, z⟩⟩)
    obtain ⟨x, h1, h2, h3⟩ := cd_step a2 this
    have hb : ∀ y, y ∈ F.filter (fun y => decide (y ∈ a ∨ y = x)) ↔ y ∈ a ∨ y = x := fun y => by
      rw [List.mem_filter, decide_eq_true_iff]
      exact ⟨fun z => z.2, fun z => ⟨z.elim (fun z => a1.subset z) fun z => z ▸ h1, z⟩⟩
    exact ⟨x, h1, h2, _, (closedL_mem hF.nodup).mpr ⟨List.filter_sublist, h3 _ hb⟩, hb⟩
theorem cl_sublist {F A : Lot} {T : List Case} : (cl F T A).Sublist F := cl_sub
/-- the least closed lot that holds a -/
theorem find_cl {F A : Lot} {T : List Case} (hF : FOk F) (hA : A.Sublist F) : (closedL F T).find? (fun m => A.all fun x => decide (x ∈ m)) = some (cl F T A) := by
  have hcl : cl F T A ∈ closedL F T := (closedL_mem hF.nodup).mpr ⟨cl_sub, cd_cl⟩
  have hh : (A.all fun x => decide (x ∈ cl F T A)) = true := List.all_eq_true.mpr fun x hx => decide_eq_true (cl_holds hx (hA.subset hx))
  cases q : (closedL F T).find? (fun m => A.all fun x => decide (x ∈ m)) with
  | none => exact absurd hh (List.find?_eq_none.mp q _ hcl)
  | some h =>
    obtain ⟨p, i, hi, e, hlt⟩ := List.find?_eq_some_iff_getElem.mp q
    obtain ⟨h1, h2⟩ := (closedL_mem hF.nodup).mp (List.mem_of_find?_eq_some q)
    have hsub : ∀ x ∈ cl F T A, x ∈ h := fun x hx => cl_of_cd h2 (cl_mono (fun y hy => of_decide_eq_true (List.all_eq_true.mp p y hy)) hx)
    obtain ⟨j, hj, ej⟩ := List.getElem_of_mem hcl
    have hlen : h.length ≤ (cl F T A).length := by
      rcases Nat.lt_trichotomy i j with w | w | w
      · have := List.pairwise_iff_getElem.mp (closedL_pw F T) i j hi hj w
        rw [e, ej] at this
        have := leK_len this
        rwa [len_tx, len_tx] at this
      · subst w; rw [e] at ej; rw [ej]; exact Nat.le_refl _
      · have := hlt j w
        rw [ej, hh] at this; cases this
    have hall := all_of_len (cl_sub.nodup hF.nodup) hsub hlen
    exact congrArg some (sub_ext hF.nodup h1 cl_sub fun x _ => ⟨hall x, hsub x⟩)
abbrev nm_f_check_ends : List Str := ["fields", "cases", "stuck"]
theorem sc_f_check_ends : FnScope nm_f_check_ends ["fields", "cases"] (defScope s_f_check_ends) := ⟨rfl, rfl, rfl, by decide +kernel, rfl, by decide +kernel, by decide +kernel⟩
def rel_f_check_ends : List Dat → Dat → Prop := fun ds d => ∃ (F : Lot) (T : List Case), ds = [tx F, casesD T] ∧ FOk F ∧ CasesOk F T ∧ M80.Ends F T ∧ d = .non
theorem ok_f_check_ends (T : Txt w K mg) : Callee Pg w K mg base 5 "check_ends" ["fields", "cases"] (spD K (preP 2 rel_f_check_ends)) := by
  have c_unlisted := ok_f_unlisted (Pg := Pg) (base := base) T
  refine T.calleeP (N := nm_f_check_ends) (st := s_f_check_ends) 35 25 rfl rfl sc_f_check_ends rfl (fun _ _ _ _ _ _ us hl => match us, hl with | [_, _], _ => rfl) fun cdv A outer s H E hr => ⟨_, (pss_cons (ps_set (i := 2) sc_f_check_ends.nd rfl (Or.inl rfl) (pe_callC c_unlisted hr (by rfl) (pa_cons (pv 0) (pa_cons (pv 1) (pa_cons pe_str pa_nil)))))
    (pss_one (ps_if (pt_cmpR op_ne (pv 2) pe_str (nomark _)) (pss_one ps_never) pss_nil))), ?_⟩
  rintro ds d hn ⟨F, U, rfl, hF, hT, hE, rfl⟩
  refine sw_seq (sw_asg (ev_callP (ds := [tx F, casesD U, tx []]) (ea_cons (ev_var rfl) (ea_cons (ev_var rfl) (ea_cons (ev_c rfl) ea_nil))) rfl ⟨F, U, [], rfl, hF, hT, List.nil_sublist _, rfl⟩) ?_)
  refine sw_if (c := false) (et_is (et_testD (evd_op (ev_var rfl) (ev_c (d := tx []) rfl) ops_neT)) ?_) nofun fun _ => sw_next rfl
  rw [cl_nil_iff.mpr hE]; rfl
abbrev nm_f_rule_over : List Str := ["fields", "cases", "needs", "lots", "lot"]
theorem sc_f_rule_over : FnScope nm_f_rule_over ["fields", "cases"] (defScope s_f_rule_over) := ⟨rfl, rfl, rfl, by decide +kernel, rfl, by decide +kernel, by decide +kernel⟩
def rel_f_rule_over (K : PySem.W.Frag) : List Dat → Dat → Prop := fun ds d => ∃ (F : Lot) (T : List Case), ds = [tx F, casesD T] ∧ FOk F ∧ CasesOk F T ∧ M80.Ends F T ∧ d = steadyD K F (closedL F T)
theorem ok_f_rule_over (T : Txt w K mg) : Callee Pg w K mg base 7 "rule_over" ["fields", "cases"] (spD K (preP 2 (rel_f_rule_over K))) := by
  have c_check_ends := ok_f_check_ends (Pg := Pg) (base := base) T
  have c_needs_of := ok_f_needs_of (Pg := Pg) (base := base) T
  have c_sublots := ok_f_sublots (Pg := Pg) (base := base) T
  have c_walk_on := ok_f_walk_on (Pg := Pg) (base := base) T
  have c_Steady := ok_m_Steady_init (Pg := Pg) (base := base) T
  have m_len := T.free 96 (x := "len") rfl
  refine T.calleeP (N := nm_f_rule_over) (st := s_f_rule_over) 36 26 rfl rfl sc_f_rule_over rfl (fun _ _ _ _ _ _ us hl => match us, hl with | [_, _], _ => rfl) fun cdv A outer s H E hr => ⟨_, (pss_cons (ps_expr (pe_callC c_check_ends hr (by rfl) (pa_cons (pv 0) (pa_cons (pv 1) pa_nil))))
    (pss_cons (ps_set (i := 2) sc_f_rule_over.nd rfl (Or.inl rfl) (pe_callC c_needs_of hr (by rfl) (pa_cons (pv 0) (pa_cons (pv 1) pa_nil))))
    (pss_cons (ps_set (i := 3) sc_f_rule_over.nd rfl (Or.inl rfl) (pe_lst pa_nil))
    (pss_cons (ps_for PassesOwn.never rfl (pi_listK K (pe_callC c_sublots hr (by rfl) (pa_cons (pv 0) pa_nil))) (pg_name (i := 4) sc_f_rule_over.nd rfl (Or.inl rfl)) (pss_one (ps_if (pt_cmpR op_eq (pe_op op_add (pe_callB (call_lenK K) (by rfl) m_len (by decide +kernel) (pa_cons (pe_callC c_walk_on hr (by rfl) (pa_cons (pv 0) (pa_cons (pv 2) (pa_cons pe_str (pa_cons (pv 4) pa_nil))))) pa_nil)) (pe_callB (call_lenK K) (by rfl) m_len (by decide +kernel) (pa_cons (pv 4) pa_nil))) (pe_callB (call_lenK K) (by rfl) m_len (by decide +kernel) (pa_cons (pv 0) pa_nil)) (nomark _)) (pss_one (ps_expr (pe_appendK K (pv 3) (pa_cons (pv 4) pa_nil)))) pss_nil)))
    (pss_one (ps_ret (pe_makeC c_Steady hr (by rfl) (pa_cons (pv 0) (pa_cons (pv 3) pa_nil))))))))), ?_⟩
  rintro ds d hn ⟨F, U, rfl, hF, hT, hE, rfl⟩
  refine sw_seq (sw_dropM (ev_callP (ds := [tx F, casesD U]) (ea_cons (ev_var rfl) (ea_cons (ev_var rfl) ea_nil)) rfl ⟨F, U, rfl, hF, hT, hE, rfl⟩).m fun s μ' z => ?_)
  obtain ⟨rfl, _⟩ := z
  refine sw_seq (sw_asg (ev_callP (ds := [tx F, casesD U]) (ea_cons (ev_var rfl) (ea_cons (ev_var rfl) ea_nil)) rfl ⟨F, U, rfl, hF, hT, rfl⟩) ?_)
  refine sw_seq (sw_newL fun l hl => ?_)
  refine sw_seq (sw_for (ei_lst (ds := (partsL F).map tx) (ev_callP (ds := [tx F]) (ea_cons (ev_var rfl) ea_nil) rfl ⟨F, rfl, hF, rfl⟩)) (fun i Γ' μ' => μ' = [(l, .mls ((((partsL F).take i).filter (cdB F U)).map tx))] ∧ ∃ s, Γ' = [.dat (tx F), .dat (casesD U), .dat (needsD F (ndI (needsF U))), .adr l, s]) ⟨rfl, _, rfl⟩ (fun _ _ _ _ _ => trivial) (fun i e Γ' μ' he hI => ?_) fun Γ' μ' hI => ?_)
  · obtain ⟨A, hA, rfl⟩ := map_get he
    have sA := partsL_mem.mp (List.mem_of_getElem? hA)
    have h6 := sub6 hF sA
    have hF6 := hF.len
    obtain ⟨rfl, s, rfl⟩ := hI
    have hw : (walk F U A).length ≤ 6 := Nat.le_trans (len_le walk_lg.nodup walk_lg.sub) hF.len
    refine ⟨_, _, ga_name, ?_⟩
    refine sw_if (c := cdB F U A) (et_is (et_testD (evd_op (evd_op (evd_cb (ea_cons (ev_callP (ds := [tx F, needsD F (ndI (needsF U)), tx [], tx A]) (ea_cons (ev_var rfl) (ea_cons (ev_var rfl) (ea_cons (ev_c (d := tx []) rfl) (ea_cons (ev_var rfl) ea_nil)))) rfl ⟨F, U, A, rfl, hF, hT, sA, rfl⟩) ea_nil) (cb_len rfl (by rw [len_tx]; omega))) (evd_cb (ea_cons (ev_var rfl) ea_nil) (cb_len rfl (by rw [len_tx]; omega))) ops_addI) (evd_cb (ea_cons (ev_var rfl) ea_nil) (cb_len rfl (by rw [len_tx]; omega))) ops_eqI)) ?_) (fun hq => ?_) fun hq => sw_next ⟨?_, _, rfl⟩
    · rw [len_tx, len_tx, len_tx]
      unfold cdB
      refine bool_eq ?_
      rw [decide_eq_true_iff, decide_eq_true_iff]; omega
    · refine sw_append (ev_adr rfl) (ev_var (d := tx A) rfl) (.head _) ?_ (by simp) ⟨?_, _, rfl⟩
      · have h2 := partsL_len hF.len
        have h3 := List.length_filter_le (cdB F U) ((partsL F).take i)
        rw [List.length_take] at h3
        rw [List.length_map]; omega
      · rw [setMu_one, take_snoc hA, List.filter_append, List.map_append, List.filter_cons, if_pos hq]; rfl
    · rw [take_snoc hA, List.filter_append, List.filter_cons, if_neg (by rw [hq]; exact nofun), List.filter_nil, List.append_nil]
  · obtain ⟨rfl, s, rfl⟩ := hI
    rw [List.length_map, List.take_length]
    refine sw_freeze (j := 3) rfl (.head _) ?_
    have e0 : dropMu [(l, Mu.mls (((partsL F).filter (cdB F U)).map tx))] l = [] := by simp [dropMu]
    rw [e0]
    refine sw_ret (ev_make (fs := steadyF F (closedL F U)) (ea_cons (ev_var rfl) (ea_cons (ev_var (d := txs (closedL F U)) rfl) ea_nil)) fun x dx => ⟨x, dx, F, closedL F U, rfl, rfl, hF, ?_, rfl, ?_⟩) rfl
    · rw [sort_closedL]; exact closedL_frame hF hE
    · rw [sort_closedL]
abbrev nm_f_over : List Str := ["fields", "told", "cases"]
theorem sc_f_over : FnScope nm_f_over ["fields", "told"] (defScope s_f_over) := ⟨rfl, rfl, rfl, by decide +kernel, rfl, by decide +kernel, by decide +kernel⟩
def rel_f_over (K : PySem.W.Frag) : List Dat → Dat → Prop := fun ds d => ∃ (F : Lot) (T : List Case), ds = [tx F, casesD T] ∧ FOk F ∧ ToldOk F T ∧ M80.Ends F T ∧ d = steadyD K F (closedL F T)
theorem ok_f_over (T : Txt w K mg) : Callee Pg w K mg base 8 "over" ["fields", "told"] (spD K (preP 2 (rel_f_over K))) := by
  have c_check_told := ok_f_check_told (Pg := Pg) (base := base) T
  have c_rule_over := ok_f_rule_over (Pg := Pg) (base := base) T
  refine T.calleeP (N := nm_f_over) (st := s_f_over) 37 27 rfl rfl sc_f_over rfl (fun _ _ _ _ _ _ us hl => match us, hl with | [_, _], _ => rfl) fun cdv A outer s H E hr => ⟨_, (pss_cons (ps_set (i := 2) sc_f_over.nd rfl (Or.inl rfl) (pe_callC c_check_told hr (by rfl) (pa_cons (pv 0) (pa_cons (pv 1) pa_nil))))
    (pss_one (ps_ret (pe_callC c_rule_over hr (by rfl) (pa_cons (pv 0) (pa_cons (pv 2) pa_nil)))))), ?_⟩
  rintro ds d hn ⟨F, U, rfl, hF, hT, hE, rfl⟩
  refine sw_seq (sw_asg (ev_callP (ds := [tx F, casesD U]) (ea_cons (ev_var rfl) (ea_cons (ev_var rfl) ea_nil)) rfl ⟨F, U, rfl, hF, hT, rfl⟩) ?_)
  exact sw_ret (ev_callP (ds := [tx F, casesD U]) (ea_cons (ev_var rfl) (ea_cons (ev_var rfl) ea_nil)) rfl ⟨F, U, rfl, hF, hT.cases, hE, rfl⟩) rfl
abbrev nm_f_all_within : List Str := ["letters", "lot", "field"]
theorem sc_f_all_within : FnScope nm_f_all_within ["letters", "lot"] (defScope s_f_all_within) := ⟨rfl, rfl, rfl, by decide +kernel, rfl, by decide +kernel, by decide +kernel⟩
def rel_f_all_within : List Dat → Dat → Prop := fun ds d => ∃ l m : Lot, ds = [tx l, tx m] ∧ l.length ≤ 1000 ∧ d = .bl (l.all fun x => decide (x ∈ m))
theorem ok_f_all_within (T : Txt w K mg) : Callee Pg w K mg base 1 "all_within" ["letters", "lot"] (spD K (preP 2 rel_f_all_within)) := by
  have m_all := T.free 89 (x := "all") rfl
  refine T.calleeP (N := nm_f_all_within) (st := s_f_all_within) 38 28 rfl rfl sc_f_all_within rfl (fun _ _ _ _ _ _ us hl => match us, hl with | [_, _], _ => rfl) fun cdv A outer s H E hr => ⟨_, (pss_one (ps_ret (pe_callB (cr_allK K) (by rfl) m_all (by decide +kernel) (pa_cons (pe_lc (own := [("field", 2)]) rfl sc_f_all_within.nd (pi_str (pv 0)) (blkOk_by (N := nm_f_all_within) (sc := defScope s_f_all_within) (by decide +kernel)) (fun _ _ _ _ _ => by exact (pg_name (i := 2) sc_f_all_within.nd rfl (Or.inl rfl))) (fun _ _ _ _ _ => by exact pts_nil) (fun _ _ _ _ _ => by exact (pe_cmpR op_in_sign (pv 2) (pv 1) (by rfl)))) pa_nil)))), ?_⟩
  rintro ds d hn ⟨l, m, rfl, hl, rfl⟩
  refine sw_ret (evd_is (evd_cb (ea_cons (evd_is (ev_lc (xs := l) (φ := fun c => .str ⟨#[c]⟩) (ei_str (ev_var rfl)) trivial (fun _ => true) (fun c => .bl (decide (c ∈ m))) (tg := [2]) (by decide) (Nat.le_trans hl (by decide)) fun c hc => ⟨_, ga_name, et_yes, fun _ => evd_op (ev_var rfl) (ev_var rfl) ops_inC⟩) (d2 := .lst ((l.map fun c => decide (c ∈ m)).map Dat.bl)) (by rw [filter_yes, List.map_map]; rfl)) ea_nil) cb_all) rfl) ?_
  rw [List.all_map]; rfl
abbrev nm_f_check_claim : List Str := ["fields", "told", "case", "cases"]
theorem sc_f_check_claim : FnScope nm_f_check_claim ["fields", "told", "case"] (defScope s_f_check_claim) := ⟨rfl, rfl, rfl, by decide +kernel, rfl, by decide +kernel, by decide +kernel⟩
def rel_f_check_claim : List Dat → Dat → Prop := fun ds d => ∃ (F : Lot) (T : List Case) (c : Case), ds = [tx F, casesD T, caseD c] ∧ FOk F ∧ ToldOk F T ∧ CaseOk F c ∧ c.1 ≠ [] ∧ M80.Ends F T ∧ d = casesD T
theorem ok_f_check_claim (T : Txt w K mg) : Callee Pg w K mg base 6 "check_claim" ["fields", "told", "case"] (spD K (preP 3 rel_f_check_claim)) := by
  have c_check_told := ok_f_check_told (Pg := Pg) (base := base) T
  have c_check_case := ok_f_check_case (Pg := Pg) (base := base) T
  have c_check_ends := ok_f_check_ends (Pg := Pg) (base := base) T
  refine T.calleeP (N := nm_f_check_claim) (st := s_f_check_claim) 39 29 rfl rfl sc_f_check_claim rfl (fun _ _ _ _ _ _ us hl => match us, hl with | [_, _, _], _ => rfl) fun cdv A outer s H E hr => ⟨_, (pss_cons (ps_set (i := 3) sc_f_check_claim.nd rfl (Or.inl rfl) (pe_callC c_check_told hr (by rfl) (pa_cons (pv 0) (pa_cons (pv 1) pa_nil))))
    (pss_cons (ps_expr (pe_callC c_check_case hr (by rfl) (pa_cons (pv 0) (pa_cons (pv 2) pa_nil))))
    (pss_cons (ps_if (pt_cmpR op_eq (pe_ix (ix_seqK K) (pv 2) pe_int (fun _ _ => rfl)) pe_str (nomark _)) (pss_one ps_never) pss_nil)
    (pss_cons (ps_expr (pe_callC c_check_ends hr (by rfl) (pa_cons (pv 0) (pa_cons (pv 3) pa_nil))))
    (pss_one (ps_ret (pv 3))))))), ?_⟩
  rintro ds d hn ⟨F, U, ⟨a, b⟩, rfl, hF, hT, hc, hne, hE, rfl⟩
  refine sw_seq (sw_asg (ev_callP (ds := [tx F, casesD U]) (ea_cons (ev_var rfl) (ea_cons (ev_var rfl) ea_nil)) rfl ⟨F, U, rfl, hF, hT, rfl⟩) ?_)
  refine sw_seq (sw_dropM (ev_callP (ds := [tx F, caseD (a, b)]) (ea_cons (ev_var rfl) (ea_cons (ev_var rfl) ea_nil)) rfl ⟨F, (a, b), rfl, hF, hc, rfl⟩).m fun s μ' z => ?_)
  obtain ⟨rfl, _⟩ := z
  refine sw_seq (sw_if (c := false) (et_is (et_testD (evd_op (evd_op (ev_var (d := caseD (a, b)) rfl) (ev_c (d := .int 0) rfl) (ops_ix (.inr rfl) rfl)) (ev_c (d := tx []) rfl) ops_eqT)) (decide_eq_false hne)) nofun fun _ => sw_next ?_)
  refine sw_seq (sw_dropM (ev_callP (ds := [tx F, casesD U]) (ea_cons (ev_var rfl) (ea_cons (ev_var rfl) ea_nil)) rfl ⟨F, U, rfl, hF, hT.cases, hE, rfl⟩).m fun s μ' z => ?_)
  obtain ⟨rfl, _⟩ := z
  exact sw_ret (ev_var rfl) rfl
end
end KH
namespace KH
open PySem PySem.Spec PyProof.Rows L2 DL M80
section
variable {Pg : Program} {w : World} {K : PySem.W.Frag} {mg : Str → Option Value} {base : Heap}
/-! ### reasons -/
def en (T : List Case) : List (Nat × Case) := T.mapIdx fun i c => (i, c)
def fitB (f : Nat) (lot : Lot) (c : Case) : Bool := decide (f ∈ c.2) && c.1.all fun x => decide (x ∈ lot)
def ixR (T : List Case) (f : Nat) (lot : Lot) : Nat := T.findIdx (fitB f lot)
def pairD (p : Nat × Nat) : Dat := .tup [tx [p.1], .int (p.2 : Nat)]
def reasonsD (rs : List (Nat × Nat)) : Dat := .tup (rs.map pairD)
def whyL (T : List Case) (l m : Lot) : List (Nat × Nat) := l.map fun f => (f, ixR T f m)
theorem en_get {T : List Case} {i : Nat} : (en T)[i]? = (T[i]?).map fun c => (i, c) := by
  unfold en; rw [List.getElem?_mapIdx]
theorem en_mem {T : List Case} {i : Nat} {c : Case} : (i, c) ∈ en T ↔ T[i]? = some c := by
  rw [List.mem_iff_getElem?]
  constructor
  · rintro ⟨j, hj⟩
    rw [en_get] at hj
    cases q : T[j]? with
    | none => rw [q] at hj; cases hj
    | some e => rw [q] at hj; cases hj; exact q
  · intro h
    exact ⟨i, by rw [en_get, h]; rfl⟩
theorem en_pw (T : List Case) : (en T).Pairwise (fun a b => a.1 < b.1) := by
  rw [List.pairwise_iff_getElem]
  intro i j hi hj hij
  simp [en, hij]
theorem en_enD (T : List Case) : enD (T.map caseD) = (en T).map fun p => .tup [.int (p.1 : Nat), caseD p.2] := by
  apply List.ext_getElem?
  intro i
  rw [List.getElem?_map, en_get]
  unfold enD
  rw [List.getElem?_mapIdx, List.getElem?_map]
  cases T[i]? <;> rfl
theorem en_len (T : List Case) : (en T).length = T.length := by simp [en]
/-- the places that fit -/
def fits (T : List Case) (f : Nat) (lot : Lot) : List Nat := ((en T).filter fun p => fitB f lot p.2).map (·.1)
theorem fits_mem {T : List Case} {f : Nat} {lot : Lot} {i : Nat} : i ∈ fits T f lot ↔ ∃ c, T[i]? = some c ∧ fitB f lot c = true := by
  unfold fits
  rw [List.mem_map]
  constructor
  · rintro ⟨⟨j, c⟩, h, rfl⟩
    obtain ⟨h1, h2⟩ := List.mem_filter.mp h
    exact ⟨c, en_mem.mp h1, h2⟩
  · rintro ⟨c, h1, h2⟩
    exact ⟨(i, c), List.mem_filter.mpr ⟨en_mem.mpr h1, h2⟩, rfl⟩
theorem fits_pw (T : List Case) (f : Nat) (lot : Lot) : (fits T f lot).Pairwise (· < ·) := by
  unfold fits
  rw [List.pairwise_map]
  exact (en_pw T).filter _
theorem ixR_mem {T : List Case} {f : Nat} {lot : Lot} (h : ∃ c ∈ T, fitB f lot c = true) : ixR T f lot ∈ fits T f lot := by
  have hlt : T.findIdx (fitB f lot) < T.length := List.findIdx_lt_length_of_exists h
  exact fits_mem.mpr ⟨T[T.findIdx (fitB f lot)], List.getElem?_eq_getElem hlt, List.findIdx_getElem⟩
theorem ixR_le {T : List Case} {f : Nat} {lot : Lot} {i : Nat} (h : i ∈ fits T f lot) : ixR T f lot ≤ i := by
  obtain ⟨c, h1, h2⟩ := fits_mem.mp h
  refine Nat.le_of_not_lt fun z => ?_
  have := List.not_of_lt_findIdx z
  obtain ⟨hi, e⟩ := List.getElem?_eq_some_iff.mp h1
  rw [e, h2] at this
  cases this
theorem fits_head {T : List Case} {f : Nat} {lot : Lot} (h : ∃ c ∈ T, fitB f lot c = true) : (fits T f lot)[0]? = some (ixR T f lot) := by
  have hm := ixR_mem h
  cases q : fits T f lot with
  | nil => rw [q] at hm; cases hm
  | cons a r =>
    have h1 : ixR T f lot ≤ a := ixR_le (by rw [q]; exact .head _)
    have h2 : a ≤ ixR T f lot := by
      rw [q] at hm
      rcases List.mem_cons.mp hm with e | e
      · rw [e]; exact Nat.le_refl _
      · have := fits_pw T f lot
        rw [q] at this
        exact Nat.le_of_lt ((List.pairwise_cons.mp this).1 _ e)
    rw [Nat.le_antisymm h1 h2]; rfl
theorem ga_en {g1 g2 g3 : Nat} {p : Nat × Case} {Γ : List Sl} : GA K (gTup K 2 (gCons (gName g1) (gCons (gTup K 2 (gCons (gName g2) (gCons (gName g3) gNil))) gNil))) ([g1] ++ (([g2] ++ ([g3] ++ [])) ++ [])) (.tup [.int (p.1 : Nat), caseD p.2]) Γ (((Γ.set g1 (.dat (.int (p.1 : Nat)))).set g2 (.dat (tx p.2.1))).set g3 (.dat (tx p.2.2))) :=
  ga_tup (gas_cons ga_name (gas_cons (ga_tup (gas_cons ga_name (gas_cons ga_name gas_nil)) rfl) gas_nil)) rfl
abbrev nm_f_reason_index : List Str := ["cases", "field", "lot", "at", "ahead", "behind"]
theorem sc_f_reason_index : FnScope nm_f_reason_index ["cases", "field", "lot"] (defScope s_f_reason_index) := ⟨rfl, rfl, rfl, by decide +kernel, rfl, by decide +kernel, by decide +kernel⟩
def rel_f_reason_index : List Dat → Dat → Prop := fun ds d => ∃ (T : List Case) (f : Nat) (m : Lot), ds = [casesD T, tx [f], tx m] ∧ T.length ≤ 60 ∧ (∀ c ∈ T, c.1.length ≤ 6) ∧ (∃ c ∈ T, fitB f m c = true) ∧ d = .int (ixR T f m : Nat)
theorem ok_f_reason_index (T : Txt w K mg) : Callee Pg w K mg base 2 "reason_index" ["cases", "field", "lot"] (spD K (preP 3 rel_f_reason_index)) := by
  have c_all_within := ok_f_all_within (Pg := Pg) (base := base) T
  have m_enumerate := T.free 92 (x := "enumerate") rfl
  have m_min := T.free 98 (x := "min") rfl
  refine T.calleeP (N := nm_f_reason_index) (st := s_f_reason_index) 40 30 rfl rfl sc_f_reason_index rfl (fun _ _ _ _ _ _ us hl => match us, hl with | [_, _, _], _ => rfl) fun cdv A outer s H E hr => ⟨_, (pss_one (ps_ret (pe_callB (cr_minK K) (by rfl) m_min (by decide +kernel) (pa_cons (pe_lc (own := [("at", 3), ("ahead", 4), ("behind", 5)]) rfl sc_f_reason_index.nd (pi_enumK K (by rfl) m_enumerate (pa_cons (pv 0) pa_nil)) (blkOk_by (N := nm_f_reason_index) (sc := defScope s_f_reason_index) (by decide +kernel)) (fun _ _ _ _ _ => by exact (pg_tupK K 2 (pgs_cons (pg_name (i := 3) sc_f_reason_index.nd rfl (Or.inl rfl)) (pgs_cons (pg_tupK K 2 (pgs_cons (pg_name (i := 4) sc_f_reason_index.nd rfl (Or.inl rfl)) (pgs_cons (pg_name (i := 5) sc_f_reason_index.nd rfl (Or.inl rfl)) pgs_nil))) pgs_nil)))) (fun _ _ _ _ _ => by exact (pts_one (PW.pt (pw_and (pt_cmpR op_in_sign (pv 1) (pv 5) (by rfl)) (pw_and1 (pt_val (pe_callC c_all_within hr (by rfl) (pa_cons (pv 4) (pa_cons (pv 2) pa_nil))))))))) (fun _ _ _ _ _ => by exact (pv 3))) pa_nil)))), ?_⟩
  rintro ds d hn ⟨U, f, m, rfl, hz, h6, hex, rfl⟩
  refine sw_ret (evd_is (evd_cb (ea_cons (evd_is (ev_lc (xs := en U) (φ := fun p => .tup [.int (p.1 : Nat), caseD p.2]) (show EvI K _ _ _ _ (fun z => z = _) from en_enD U ▸ ei_enum (ea_cons (ev_var rfl) ea_nil)) trivial (fun p => fitB f m p.2) (fun p => .int (p.1 : Nat)) (tg := [3] ++ (([4] ++ ([5] ++ [])) ++ [])) (by decide) (by rw [en_len]; omega) fun p hp => ⟨_, ga_en, et_and (et_testD (evd_op (ev_var rfl) (ev_var rfl) ops_inC)) fun _ => et_BD (ev_callP (ds := [tx p.2.1, tx m]) (ea_cons (ev_var rfl) (ea_cons (ev_var rfl) ea_nil)) rfl ⟨p.2.1, m, rfl, ?_, rfl⟩), fun _ => ev_var rfl⟩) (d2 := .lst (((fits U f m).map fun i => ((i : Nat) : Int)).map Dat.int)) ?_) ea_nil) (cb_min (n := (ixR U f m : Nat)) (List.mem_map.mpr ⟨_, ixR_mem hex, rfl⟩) fun y hy => ?_)) rfl) rfl
  · exact Nat.le_trans (h6 _ (List.mem_of_getElem? (en_mem.mp (show (p.1, p.2) ∈ en U from hp)))) (by decide)
  · unfold fits; rw [List.map_map, List.map_map]; rfl
  · obtain ⟨i, hi, rfl⟩ := List.mem_map.mp hy
    have := ixR_le hi
    omega
abbrev nm_f_reasons_for : List Str := ["cases", "letters", "lot", "field"]
theorem sc_f_reasons_for : FnScope nm_f_reasons_for ["cases", "letters", "lot"] (defScope s_f_reasons_for) := ⟨rfl, rfl, rfl, by decide +kernel, rfl, by decide +kernel, by decide +kernel⟩
def rel_f_reasons_for : List Dat → Dat → Prop := fun ds d => ∃ (T : List Case) (l m : Lot), ds = [casesD T, tx l, tx m] ∧ T.length ≤ 60 ∧ (∀ c ∈ T, c.1.length ≤ 6) ∧ l.length ≤ 6 ∧ (∀ f ∈ l, ∃ c ∈ T, fitB f m c = true) ∧ d = reasonsD (whyL T l m)
theorem ok_f_reasons_for (T : Txt w K mg) : Callee Pg w K mg base 3 "reasons_for" ["cases", "letters", "lot"] (spD K (preP 3 rel_f_reasons_for)) := by
  have c_reason_index := ok_f_reason_index (Pg := Pg) (base := base) T
  have m_tuple := T.free 104 (x := "tuple") rfl
  refine T.calleeP (N := nm_f_reasons_for) (st := s_f_reasons_for) 41 31 rfl rfl sc_f_reasons_for rfl (fun _ _ _ _ _ _ us hl => match us, hl with | [_, _, _], _ => rfl) fun cdv A outer s H E hr => ⟨_, (pss_one (ps_ret (pe_callTy (call_tuple_ofK K) (by rfl) m_tuple (by decide +kernel) (pa_cons (pe_lc (own := [("field", 3)]) rfl sc_f_reasons_for.nd (pi_str (pv 1)) (blkOk_by (N := nm_f_reasons_for) (sc := defScope s_f_reasons_for) (by decide +kernel)) (fun _ _ _ _ _ => by exact (pg_name (i := 3) sc_f_reasons_for.nd rfl (Or.inl rfl))) (fun _ _ _ _ _ => by exact pts_nil) (fun _ _ _ _ _ => by exact (pe_tup (pa_cons (pv 3) (pa_cons (pe_callC c_reason_index hr (by rfl) (pa_cons (pv 0) (pa_cons (pv 3) (pa_cons (pv 2) pa_nil)))) pa_nil))))) pa_nil)))), ?_⟩
  rintro ds d hn ⟨U, l, m, rfl, hz, h6, hl, hex, rfl⟩
  refine sw_ret (evd_cb (ea_cons (evd_is (ev_lc (xs := l) (φ := fun c => .str ⟨#[c]⟩) (ei_str (ev_var rfl)) trivial (fun _ => true) (fun f => pairD (f, ixR U f m)) (tg := [3]) (by decide) (mil hl) fun f hf => ⟨_, ga_name, et_yes, fun _ => ev_tup (ds := [tx [f], .int (ixR U f m : Nat)]) (ea_cons (ev_var rfl) (ea_cons (ev_callP (ds := [casesD U, tx [f], tx m]) (ea_cons (ev_var rfl) (ea_cons (ev_var rfl) (ea_cons (ev_var rfl) ea_nil))) rfl ⟨U, f, m, rfl, hz, h6, hex f hf, rfl⟩) ea_nil)) (by simp)⟩) (d2 := .lst ((whyL U l m).map pairD)) (by rw [filter_yes]; unfold whyL; rw [List.map_map]; rfl)) ea_nil) (cb_tup (.inl rfl))) rfl
def holdP (F : Lot) (T : List Case) (a : Lot) : Dat := .tup [.str "hold", tx (cl F T a), reasonsD (whyL T (others (cl F T a) a) (cl F T a))]
theorem ToldOk.six {F : Lot} {T : List Case} (hF : FOk F) (h : ToldOk F T) : ∀ t ∈ T, t.1.length ≤ 6 := fun t ht => sub6 hF (h.ok t ht).l1
theorem why_ex {F : Lot} {T : List Case} {a : Lot} (hT : ∀ c ∈ T, CaseOk F c) : ∀ f ∈ others (cl F T a) a, ∃ c ∈ T, fitB f (cl F T a) c = true := fun f hf => by
  obtain ⟨h1, h2⟩ := mem_others.mp hf
  obtain ⟨c, hc, h3, h4⟩ := why_held h1 h2
  refine ⟨c, hc, ?_⟩
  unfold fitB
  rw [decide_eq_true h3, Bool.true_and, List.all_eq_true]
  exact fun y hy => decide_eq_true (mem_cl.mpr ⟨(hT c hc).l1.subset hy, h4 y hy⟩)
theorem others_len {F l : Lot} : (others F l).length ≤ F.length := List.length_filter_le _ _
abbrev nm_f_claim_paper : List Str := ["fields", "told", "case", "cases", "ahead", "behind", "needs", "route", "held"]
theorem sc_f_claim_paper : FnScope nm_f_claim_paper ["fields", "told", "case"] (defScope s_f_claim_paper) := ⟨rfl, rfl, rfl, by decide +kernel, rfl, by decide +kernel, by decide +kernel⟩
def rel_f_claim_paper : List Dat → Dat → Prop := fun ds d => ∃ (F : Lot) (T : List Case) (c : Case), ds = [tx F, casesD T, caseD c] ∧ FOk F ∧ ToldOk F T ∧ CaseOk F c ∧ c.1 ≠ [] ∧ M80.Ends F T ∧ (c.2.all fun x => decide (x ∈ cl F T c.1)) = true ∧ d = holdP F T c.1
theorem ok_f_claim_paper (T : Txt w K mg) : Callee Pg w K mg base 7 "claim_paper" ["fields", "told", "case"] (spD K (preP 3 rel_f_claim_paper)) := by
  have c_check_claim := ok_f_check_claim (Pg := Pg) (base := base) T
  have c_needs_of := ok_f_needs_of (Pg := Pg) (base := base) T
  have c_walk_on := ok_f_walk_on (Pg := Pg) (base := base) T
  have c_others_of := ok_f_others_of (Pg := Pg) (base := base) T
  have c_all_within := ok_f_all_within (Pg := Pg) (base := base) T
  have c_reasons_for := ok_f_reasons_for (Pg := Pg) (base := base) T
  refine T.calleeP (N := nm_f_claim_paper) (st := s_f_claim_paper) 42 32 rfl rfl sc_f_claim_paper rfl (fun _ _ _ _ _ _ us hl => match us, hl with | [_, _, _], _ => rfl) fun cdv A outer s H E hr => ⟨_, (pss_cons (ps_set (i := 3) sc_f_claim_paper.nd rfl (Or.inl rfl) (pe_callC c_check_claim hr (by rfl) (pa_cons (pv 0) (pa_cons (pv 1) (pa_cons (pv 2) pa_nil)))))
    (pss_cons (ps_asg (pv 2) (pg_tupK K 2 (pgs_cons (pg_name (i := 4) sc_f_claim_paper.nd rfl (Or.inl rfl)) (pgs_cons (pg_name (i := 5) sc_f_claim_paper.nd rfl (Or.inl rfl)) pgs_nil))))
    (pss_cons (ps_set (i := 6) sc_f_claim_paper.nd rfl (Or.inl rfl) (pe_callC c_needs_of hr (by rfl) (pa_cons (pv 0) (pa_cons (pv 3) pa_nil))))
    (pss_cons (ps_set (i := 7) sc_f_claim_paper.nd rfl (Or.inl rfl) (pe_callC c_walk_on hr (by rfl) (pa_cons (pv 0) (pa_cons (pv 6) (pa_cons pe_str (pa_cons (pv 4) pa_nil))))))
    (pss_cons (ps_set (i := 8) sc_f_claim_paper.nd rfl (Or.inl rfl) (pe_callC c_others_of hr (by rfl) (pa_cons (pv 0) (pa_cons (pv 7) pa_nil))))
    (pss_cons (ps_if (pt_val (pe_callC c_all_within hr (by rfl) (pa_cons (pv 5) (pa_cons (pv 8) pa_nil)))) (pss_one (ps_ret (pe_tup (pa_cons pe_str (pa_cons (pv 8) (pa_cons (pe_callC c_reasons_for hr (by rfl) (pa_cons (pv 3) (pa_cons (pe_callC c_others_of hr (by rfl) (pa_cons (pv 8) (pa_cons (pv 4) pa_nil))) (pa_cons (pv 8) pa_nil)))) pa_nil)))))) pss_nil)
    (pss_one (ps_ret (pe_tup (pa_cons pe_str (pa_cons (pe_callC c_walk_on hr (by rfl) (pa_cons (pv 0) (pa_cons (pv 6) (pa_cons (pv 7) (pa_cons pe_str pa_nil))))) pa_nil))))))))))), ?_⟩
  rintro ds d hn ⟨F, U, ⟨a, b⟩, rfl, hF, hT, hc, hne, hE, hh, rfl⟩
  refine sw_seq (sw_asg (ev_callP (ds := [tx F, casesD U, caseD (a, b)]) (ea_cons (ev_var rfl) (ea_cons (ev_var rfl) (ea_cons (ev_var rfl) ea_nil))) rfl ⟨F, U, (a, b), rfl, hF, hT, hc, hne, hE, rfl⟩) ?_)
  refine sw_seq (sw_asgG (ev_var (d := caseD (a, b)) rfl) (ga_tup (gas_cons ga_name (gas_cons ga_name gas_nil)) rfl) ?_)
  refine sw_seq (sw_asg (ev_callP (ds := [tx F, casesD U]) (ea_cons (ev_var rfl) (ea_cons (ev_var rfl) ea_nil)) rfl ⟨F, U, rfl, hF, hT.cases, rfl⟩) ?_)
  refine sw_seq (sw_asg (ev_callP (ds := [tx F, needsD F (ndI (needsF U)), tx [], tx a]) (ea_cons (ev_var rfl) (ea_cons (ev_var rfl) (ea_cons (ev_c (d := tx []) rfl) (ea_cons (ev_var rfl) ea_nil)))) rfl ⟨F, U, a, rfl, hF, hT.cases, hc.l1, rfl⟩) ?_)
  refine sw_seq (sw_asg (ev_callP (ds := [tx F, tx (walk F U a)]) (ea_cons (ev_var rfl) (ea_cons (ev_var rfl) ea_nil)) rfl ⟨F, _, rfl, Nat.le_trans hF.len (by decide), rfl⟩) ?_)
  have hcl6 : (cl F U a).length ≤ 6 := sub6 hF cl_sub
  refine sw_seq (sw_if (c := true) (et_is (et_BD (ev_callP (ds := [tx b, tx (cl F U a)]) (ea_cons (ev_var rfl) (ea_cons (ev_var rfl) ea_nil)) rfl ⟨b, _, rfl, Nat.le_trans (sub6 hF hc.l2) (by decide), rfl⟩)) hh) (fun _ => ?_) nofun)
  refine sw_ret (ev_tup (ds := [.str "hold", tx (cl F U a), reasonsD (whyL U (others (cl F U a) a) (cl F U a))]) (ea_cons (ev_c (by exact rfl)) (ea_cons (ev_var rfl) (ea_cons (ev_callP (ds := [casesD U, tx (others (cl F U a) a), tx (cl F U a)]) (ea_cons (ev_var rfl) (ea_cons (ev_callP (ds := [tx (cl F U a), tx a]) (ea_cons (ev_var rfl) (ea_cons (ev_var rfl) ea_nil)) rfl ⟨_, _, rfl, Nat.le_trans hcl6 (by decide), rfl⟩) (ea_cons (ev_var rfl) ea_nil))) rfl ⟨U, _, _, rfl, hT.len, hT.six hF, Nat.le_trans others_len hcl6, why_ex hT.ok, rfl⟩) ea_nil))) (by simp)) rfl
def stuckP (F : Lot) (T : List Case) : Dat := .tup [.str "stuck", tx (cl F T []), reasonsD (whyL T (cl F T []) (cl F T []))]
theorem others_nil {F : Lot} : others F [] = F := List.filter_eq_self.mpr fun _ _ => rfl
abbrev nm_f_stuck_paper : List Str := ["fields", "told", "cases", "stuck"]
theorem sc_f_stuck_paper : FnScope nm_f_stuck_paper ["fields", "told"] (defScope s_f_stuck_paper) := ⟨rfl, rfl, rfl, by decide +kernel, rfl, by decide +kernel, by decide +kernel⟩
def rel_f_stuck_paper : List Dat → Dat → Prop := fun ds d => ∃ (F : Lot) (T : List Case), ds = [tx F, casesD T] ∧ FOk F ∧ ToldOk F T ∧ d = if cl F T [] = [] then .non else stuckP F T
theorem ok_f_stuck_paper (T : Txt w K mg) : Callee Pg w K mg base 5 "stuck_paper" ["fields", "told"] (spD K (preP 2 rel_f_stuck_paper)) := by
  have c_check_told := ok_f_check_told (Pg := Pg) (base := base) T
  have c_unlisted := ok_f_unlisted (Pg := Pg) (base := base) T
  have c_reasons_for := ok_f_reasons_for (Pg := Pg) (base := base) T
  refine T.calleeP (N := nm_f_stuck_paper) (st := s_f_stuck_paper) 43 33 rfl rfl sc_f_stuck_paper rfl (fun _ _ _ _ _ _ us hl => match us, hl with | [_, _], _ => rfl) fun cdv A outer s H E hr => ⟨_, (pss_cons (ps_set (i := 2) sc_f_stuck_paper.nd rfl (Or.inl rfl) (pe_callC c_check_told hr (by rfl) (pa_cons (pv 0) (pa_cons (pv 1) pa_nil))))
    (pss_cons (ps_set (i := 3) sc_f_stuck_paper.nd rfl (Or.inl rfl) (pe_callC c_unlisted hr (by rfl) (pa_cons (pv 0) (pa_cons (pv 2) (pa_cons pe_str pa_nil)))))
    (pss_cons (ps_if (pt_cmpR op_eq (pv 3) pe_str (nomark _)) (pss_one (ps_ret pe_non)) pss_nil)
    (pss_one (ps_ret (pe_tup (pa_cons pe_str (pa_cons (pv 3) (pa_cons (pe_callC c_reasons_for hr (by rfl) (pa_cons (pv 2) (pa_cons (pv 3) (pa_cons (pv 3) pa_nil)))) pa_nil))))))))), ?_⟩
  rintro ds d hn ⟨F, U, rfl, hF, hT, rfl⟩
  refine sw_seq (sw_asg (ev_callP (ds := [tx F, casesD U]) (ea_cons (ev_var rfl) (ea_cons (ev_var rfl) ea_nil)) rfl ⟨F, U, rfl, hF, hT, rfl⟩) ?_)
  refine sw_seq (sw_asg (ev_callP (ds := [tx F, casesD U, tx []]) (ea_cons (ev_var rfl) (ea_cons (ev_var rfl) (ea_cons (ev_c (d := tx []) rfl) ea_nil))) rfl ⟨F, U, [], rfl, hF, hT.cases, List.nil_sublist _, rfl⟩) ?_)
  have hcl6 : (cl F U []).length ≤ 6 := sub6 hF cl_sub
  refine sw_seq (sw_if (c := decide (cl F U [] = [])) (et_testD (evd_op (ev_var rfl) (ev_c (d := tx []) rfl) ops_eqT)) (fun hq => sw_ret (d := .non) (ev_c (by exact trivial)) ?_) fun hq => sw_next ?_)
  · rw [if_pos (of_decide_eq_true hq)]
  · rw [if_neg (of_decide_eq_false hq)]
    refine sw_ret (ev_tup (ds := [.str "stuck", tx (cl F U []), reasonsD (whyL U (cl F U []) (cl F U []))]) (ea_cons (ev_c (by exact rfl)) (ea_cons (ev_var rfl) (ea_cons (ev_callP (ds := [casesD U, tx (cl F U []), tx (cl F U [])]) (ea_cons (ev_var rfl) (ea_cons (ev_var rfl) (ea_cons (ev_var rfl) ea_nil))) rfl ⟨U, _, _, rfl, hT.len, hT.six hF, hcl6, ?_, rfl⟩) ea_nil))) (by simp)) rfl
    have := why_ex (a := []) hT.ok
    rwa [others_nil] at this
/-- is the case's behind held by its ahead? -/
def heldB (F : Lot) (T : List Case) (c : Case) : Bool := !decide (c.1 = []) && c.2.all fun x => decide (x ∈ cl F T c.1)
def saidP (F : Lot) (T : List Case) (c : Case) : Dat := .tup [.str "said", caseD c, tx (cl F T c.1), reasonsD (whyL T (others (cl F T c.1) c.1) (cl F T c.1))]
def saidD (F : Lot) (T Rf : List Case) : Dat := match Rf.find? (heldB F T) with
  | some c => saidP F T c
  | none => .non
abbrev nm_f_said_paper : List Str := ["fields", "told", "refused", "least", "case", "hold"]
theorem sc_f_said_paper : FnScope nm_f_said_paper ["fields", "told", "refused"] (defScope s_f_said_paper) := ⟨rfl, rfl, rfl, by decide +kernel, rfl, by decide +kernel, by decide +kernel⟩
def rel_f_said_paper : List Dat → Dat → Prop := fun ds d => ∃ (F : Lot) (T Rf : List Case), ds = [tx F, casesD T, casesD Rf] ∧ FOk F ∧ ToldOk F T ∧ M80.Ends F T ∧ (∀ c ∈ Rf, CaseOk F c) ∧ d = saidD F T Rf
theorem ok_f_said_paper (T : Txt w K mg) : Callee Pg w K mg base 9 "said_paper" ["fields", "told", "refused"] (spD K (preP 3 rel_f_said_paper)) := by
  have c_over := ok_f_over (Pg := Pg) (base := base) T
  have c_Steady_says := ok_m_Steady_says (Pg := Pg) (base := base) T
  have c_claim_paper := ok_f_claim_paper (Pg := Pg) (base := base) T
  refine T.calleeP (N := nm_f_said_paper) (st := s_f_said_paper) 44 34 rfl rfl sc_f_said_paper rfl (fun _ _ _ _ _ _ us hl => match us, hl with | [_, _, _], _ => rfl) fun cdv A outer s H E hr => ⟨_, (pss_cons (ps_set (i := 3) sc_f_said_paper.nd rfl (Or.inl rfl) (pe_callC c_over hr (by rfl) (pa_cons (pv 0) (pa_cons (pv 1) pa_nil))))
    (pss_cons (ps_for PassesOwn.never rfl (pi_listK K (pv 2)) (pg_name (i := 4) sc_f_said_paper.nd rfl (Or.inl rfl)) (pss_one (ps_if (pt_val (pe_methC (pv 3) c_Steady_says hr (pa_cons (pv 4) pa_nil))) (pss_cons (ps_set (i := 5) sc_f_said_paper.nd rfl (Or.inl rfl) (pe_callC c_claim_paper hr (by rfl) (pa_cons (pv 0) (pa_cons (pv 1) (pa_cons (pv 4) pa_nil)))))
    (pss_one (ps_ret (pe_tup (pa_cons pe_str (pa_cons (pv 4) (pa_cons (pe_ix (ix_seqK K) (pv 5) pe_int (fun _ _ => rfl)) (pa_cons (pe_ix (ix_seqK K) (pv 5) pe_int (fun _ _ => rfl)) pa_nil)))))))) pss_nil)))
    (pss_one (ps_ret pe_non)))), ?_⟩
  rintro ds d hn ⟨F, U, Rf, rfl, hF, hT, hE, hR, rfl⟩
  refine sw_seq (sw_asg (ev_callP (ds := [tx F, casesD U]) (ea_cons (ev_var rfl) (ea_cons (ev_var rfl) ea_nil)) rfl ⟨F, U, rfl, hF, hT, hE, rfl⟩) ?_)
  have hls : ∀ m ∈ closedL F U, m.Sublist F := fun m hm => ((closedL_mem hF.nodup).mp hm).1
  refine sw_seq (sw_for (ei_lst (ev_var rfl)) (fun i Γ' μ' => μ' = [] ∧ (∀ c ∈ Rf.take i, heldB F U c = false) ∧ ∃ s4 s5, Γ' = [.dat (tx F), .dat (casesD U), .dat (casesD Rf), .dat (steadyD K F (closedL F U)), s4, s5]) ⟨rfl, (fun c hc => nomatch hc), _, _, rfl⟩ (fun _ _ _ _ _ => trivial) (fun i e Γ' μ' he hI => ?_) fun Γ' μ' hI => ?_)
  · obtain ⟨⟨a, b⟩, hc, rfl⟩ := map_get he
    have hm := List.mem_of_getElem? hc
    have hok := hR _ hm
    obtain ⟨rfl, hno, s4, s5, rfl⟩ := hI
    refine ⟨_, _, ga_name, ?_⟩
    refine sw_if (c := heldB F U (a, b)) (et_BD (ev_methP (ds := [caseD (a, b)]) (ev_var rfl) rfl (ea_cons (ev_var rfl) ea_nil) rfl ⟨F, closedL F U, (a, b), cl F U a, rfl, hF, hls, hok, find_cl hF hok.l1, rfl⟩)) (fun hq => ?_) fun hq => sw_next ⟨rfl, fun c hc' => ?_, _, _, rfl⟩
    · have hq' := hq
      unfold heldB at hq'
      rw [Bool.and_eq_true] at hq'
      have hne : a ≠ [] := by simpa using hq'.1
      refine sw_seq (sw_asg (ev_callP (ds := [tx F, casesD U, caseD (a, b)]) (ea_cons (ev_var rfl) (ea_cons (ev_var rfl) (ea_cons (ev_var rfl) ea_nil))) rfl ⟨F, U, (a, b), rfl, hF, hT, hok, hne, hE, hq'.2, rfl⟩) ?_)
      refine sw_ret (ev_tup (ds := [.str "said", caseD (a, b), tx (cl F U a), reasonsD (whyL U (others (cl F U a) a) (cl F U a))]) (ea_cons (ev_c (by exact rfl)) (ea_cons (ev_var rfl) (ea_cons (evd_op (ev_var (d := holdP F U a) rfl) (ev_c (d := .int 1) rfl) (ops_ix (.inr rfl) rfl)) (ea_cons (evd_op (ev_var (d := holdP F U a) rfl) (ev_c (d := .int 2) rfl) (ops_ix (.inr rfl) rfl)) ea_nil)))) (by simp)) ?_
      have : Rf.find? (heldB F U) = some (a, b) := by
        rw [List.find?_eq_some_iff_getElem]
        obtain ⟨hi, e⟩ := List.getElem?_eq_some_iff.mp hc
        refine ⟨hq, i, hi, e, fun j hj => ?_⟩
        rw [hno Rf[j] (List.mem_take_iff_getElem.mpr ⟨j, by omega, rfl⟩)]; rfl
      unfold saidD
      rw [this]; rfl
    · rw [take_snoc hc, List.mem_append, List.mem_singleton] at hc'
      rcases hc' with hc' | rfl
      · exact hno c hc'
      · exact hq
  · obtain ⟨rfl, hno, s4, s5, rfl⟩ := hI
    rw [List.length_map, List.take_length] at hno
    refine sw_ret (d := .non) (ev_c (by exact trivial)) ?_
    have : Rf.find? (heldB F U) = none := List.find?_eq_none.mpr fun c hc => by rw [hno c hc]; exact nofun
    unfold saidD
    rw [this]
def againstD (F : Lot) (T Rf : List Case) (c : Case) (y : Bool) : Dat :=
  if y = true ∧ c.1 = [] then .tup [.str "never", caseD c] else if c.1 ≠ [] ∧ y = false ∧ c.2 = [] then .tup [.str "plain", caseD c] else if c.1 = [] ∨ c.2 = [] then .non
  else if y = false then saidD F T (Rf ++ [c]) else if cl F (T ++ [c]) [] ≠ [] then stuckP F (T ++ [c]) else saidD F (T ++ [c]) Rf
theorem truD_tx (l : Lot) : truD (tx l) = !decide (l = []) := by
  cases l with
  | nil => rfl
  | cons a r =>
    show (((st (a :: r)).length : Int) != 0) = _
    rw [len_tx]
    simp
    omega
theorem truS_tx {l : Lot} (h : l.length ≤ 6) : truS (tx l) := by
  show (st l).length ≤ sizeLine
  rw [len_tx]
  exact Nat.le_trans h (by decide)
theorem ToldOk.snoc {F : Lot} {T : List Case} {c : Case} (h : ToldOk F T) (hc : CaseOk F c) (hne : c.2 ≠ []) (hz : T.length < 60) : ToldOk F (T ++ [c]) where
  ok := fun x hx => (List.mem_append.mp hx).elim (h.ok x) fun z => List.mem_singleton.mp z ▸ hc
  ne := fun x hx => (List.mem_append.mp hx).elim (h.ne x) fun z => List.mem_singleton.mp z ▸ hne
  len := by rw [List.length_append, List.length_singleton]; omega
abbrev nm_f_against_paper : List Str := ["fields", "told", "refused", "case", "yes", "ahead", "behind", "longer", "stuck"]
theorem sc_f_against_paper : FnScope nm_f_against_paper ["fields", "told", "refused", "case", "yes"] (defScope s_f_against_paper) := ⟨rfl, rfl, rfl, by decide +kernel, rfl, by decide +kernel, by decide +kernel⟩
def rel_f_against_paper : List Dat → Dat → Prop := fun ds d => ∃ (F : Lot) (T Rf : List Case) (c : Case) (y : Bool), ds = [tx F, casesD T, casesD Rf, caseD c, .bl y] ∧ FOk F ∧ ToldOk F T ∧ T.length < 60 ∧ M80.Ends F T ∧ (∀ c ∈ Rf, CaseOk F c) ∧ Rf.length ≤ 60 ∧ CaseOk F c ∧ d = againstD F T Rf c y
theorem ok_f_against_paper (T : Txt w K mg) : Callee Pg w K mg base 10 "against_paper" ["fields", "told", "refused", "case", "yes"] (spD K (preP 5 rel_f_against_paper)) := by
  have c_said_paper := ok_f_said_paper (Pg := Pg) (base := base) T
  have c_stuck_paper := ok_f_stuck_paper (Pg := Pg) (base := base) T
  refine T.calleeP (N := nm_f_against_paper) (st := s_f_against_paper) 45 35 rfl rfl sc_f_against_paper rfl (fun _ _ _ _ _ _ us hl => match us, hl with | [_, _, _, _, _], _ => rfl) fun cdv A outer s H E hr => ⟨_, (pss_cons (ps_asg (pv 3) (pg_tupK K 2 (pgs_cons (pg_name (i := 5) sc_f_against_paper.nd rfl (Or.inl rfl)) (pgs_cons (pg_name (i := 6) sc_f_against_paper.nd rfl (Or.inl rfl)) pgs_nil))))
    (pss_cons (ps_if (PW.pt (pw_and (pt_val (pv 4)) (pw_and1 (pt_not (pt_truthK K (pv 5)))))) (pss_one (ps_ret (pe_tup (pa_cons pe_str (pa_cons (pv 3) pa_nil))))) pss_nil)
    (pss_cons (ps_if (PW.pt (pw_and (pt_truthK K (pv 5)) (pw_and (pt_not (pt_val (pv 4))) (pw_and1 (pt_not (pt_truthK K (pv 6))))))) (pss_one (ps_ret (pe_tup (pa_cons pe_str (pa_cons (pv 3) pa_nil))))) pss_nil)
    (pss_cons (ps_if (PW.pt (pw_or (pt_not (pt_truthK K (pv 5))) (pw_or1 (pt_not (pt_truthK K (pv 6)))))) (pss_one (ps_ret pe_non)) pss_nil)
    (pss_cons (ps_if (pt_not (pt_val (pv 4))) (pss_one (ps_ret (pe_callC c_said_paper hr (by rfl) (pa_cons (pv 0) (pa_cons (pv 1) (pa_cons (pe_op op_cat (pv 2) (pe_lst (pa_cons (pv 3) pa_nil))) pa_nil)))))) pss_nil)
    (pss_cons (ps_set (i := 7) sc_f_against_paper.nd rfl (Or.inl rfl) (pe_op op_cat (pv 1) (pe_lst (pa_cons (pv 3) pa_nil))))
    (pss_cons (ps_set (i := 8) sc_f_against_paper.nd rfl (Or.inl rfl) (pe_callC c_stuck_paper hr (by rfl) (pa_cons (pv 0) (pa_cons (pv 7) pa_nil))))
    (pss_cons (ps_if (pt_cmpR op_notN (pv 8) pe_non (nomark _)) (pss_one (ps_ret (pv 8))) pss_nil)
    (pss_one (ps_ret (pe_callC c_said_paper hr (by rfl) (pa_cons (pv 0) (pa_cons (pv 7) (pa_cons (pv 2) pa_nil)))))))))))))), ?_⟩
  rintro ds d hn ⟨F, U, Rf, ⟨a, b⟩, y, rfl, hF, hT, hz, hE, hR, hRz, hc, rfl⟩
  have ta := truS_tx (sub6 hF hc.l1)
  have tb := truS_tx (sub6 hF hc.l2)
  refine sw_seq (sw_asgG (ev_var (d := caseD (a, b)) rfl) (ga_tup (gas_cons ga_name (gas_cons ga_name gas_nil)) rfl) ?_)
  refine sw_seq (sw_if (c := y && decide (a = [])) (et_is (et_and (et_BD (ev_var rfl)) fun _ => et_not (et_tru (ev_var rfl) ta)) ?_) (fun hq => ?_) fun hq => sw_next ?_)
  · rw [truD_tx, Bool.not_not]
  · rw [Bool.and_eq_true, decide_eq_true_iff] at hq
    refine sw_ret (ev_tup (ds := [.str "never", caseD (a, b)]) (ea_cons (ev_c (by exact rfl)) (ea_cons (ev_var rfl) ea_nil)) (by simp)) ?_
    unfold againstD
    rw [if_pos ⟨hq.1, hq.2⟩]
  · have h1 : ¬ (y = true ∧ a = []) := fun z => by rw [z.1, decide_eq_true z.2] at hq; cases hq
    refine sw_seq (sw_if (c := !decide (a = []) && (!y && decide (b = []))) (et_is (et_and (et_tru (ev_var rfl) ta) fun _ => et_and (et_not (et_BD (ev_var rfl))) fun _ => et_not (et_tru (ev_var rfl) tb)) ?_) (fun hq => ?_) fun hq => sw_next ?_)
    · rw [truD_tx, truD_tx, Bool.not_not]
    · have h2 : a ≠ [] ∧ y = false ∧ b = [] := by simpa using hq
      refine sw_ret (ev_tup (ds := [.str "plain", caseD (a, b)]) (ea_cons (ev_c (by exact rfl)) (ea_cons (ev_var rfl) ea_nil)) (by simp)) ?_
      unfold againstD
      rw [if_neg h1, if_pos h2]
    · have h2 : ¬ (a ≠ [] ∧ y = false ∧ b = []) := fun z => by simp [z.1, z.2.1, z.2.2] at hq
      refine sw_seq (sw_if (c := decide (a = []) || decide (b = [])) (et_is (et_or (et_not (et_tru (ev_var rfl) ta)) fun _ => et_not (et_tru (ev_var rfl) tb)) ?_) (fun hq => ?_) fun hq => sw_next ?_)
      · rw [truD_tx, truD_tx, Bool.not_not, Bool.not_not]
      · have h3 : a = [] ∨ b = [] := by simpa using hq
        refine sw_ret (d := .non) (ev_c (by exact trivial)) ?_
        unfold againstD
        rw [if_neg h1, if_neg h2, if_pos h3]
      · have h3 : ¬ (a = [] ∨ b = []) := by simpa using hq
        have hb : b ≠ [] := fun z => h3 (.inr z)
        refine sw_seq (sw_if (c := !y) (et_not (et_BD (ev_var rfl))) (fun hq => ?_) fun hq => sw_next ?_)
        · have hy : y = false := by simpa using hq
          refine sw_ret (ev_callP (ds := [tx F, casesD U, casesD (Rf ++ [(a, b)])]) (ea_cons (ev_var rfl) (ea_cons (ev_var rfl) (ea_cons (evd_is (evd_op (ev_var rfl) (ev_lst (ds := [caseD (a, b)]) (ea_cons (ev_var rfl) ea_nil) (by simp)) (ops_cat ?_)) ?_) ea_nil))) rfl ⟨F, U, Rf ++ [(a, b)], rfl, hF, hT, hE, fun c hc' => ?_, rfl⟩) ?_
          · rw [List.length_map]; simp only [List.length_singleton]; omega
          · unfold casesD; rw [List.map_append]; rfl
          · exact (List.mem_append.mp hc').elim (hR c) fun z => List.mem_singleton.mp z ▸ hc
          · unfold againstD
            rw [if_neg h1, if_neg h2, if_neg h3, if_pos hy]
        · have hy : ¬ y = false := by simpa using hq
          refine sw_seq (sw_asg (d := casesD (U ++ [(a, b)])) (evd_is (evd_op (ev_var rfl) (ev_lst (ds := [caseD (a, b)]) (ea_cons (ev_var rfl) ea_nil) (by simp)) (ops_cat ?_)) ?_) ?_)
          · rw [List.length_map]; simp only [List.length_singleton]; omega
          · unfold casesD; rw [List.map_append]; rfl
          have hT' := hT.snoc hc hb hz
          refine sw_seq (sw_asg (ev_callP (ds := [tx F, casesD (U ++ [(a, b)])]) (ea_cons (ev_var rfl) (ea_cons (ev_var rfl) ea_nil)) rfl ⟨F, _, rfl, hF, hT', rfl⟩) ?_)
          by_cases q : cl F (U ++ [(a, b)]) [] = []
          · rw [if_pos q]
            refine sw_seq (sw_if (c := false) (et_testD (evd_op (ev_var rfl) (ev_c (d := .non) (by exact trivial)) (ops_notN rfl))) nofun fun _ => sw_next ?_)
            refine sw_ret (ev_callP (ds := [tx F, casesD (U ++ [(a, b)]), casesD Rf]) (ea_cons (ev_var rfl) (ea_cons (ev_var rfl) (ea_cons (ev_var rfl) ea_nil))) rfl ⟨F, _, Rf, rfl, hF, hT', cl_nil_iff.mp q, hR, rfl⟩) ?_
            unfold againstD
            rw [if_neg h1, if_neg h2, if_neg h3, if_neg hy, if_neg (fun z => z q)]
          · rw [if_neg q]
            refine sw_seq (sw_if (c := true) (et_testD (evd_op (ev_var rfl) (ev_c (d := .non) (by exact trivial)) (ops_notN rfl))) (fun _ => sw_ret (ev_var rfl) ?_) nofun)
            unfold againstD
            rw [if_neg h1, if_neg h2, if_neg h3, if_neg hy, if_pos q]
end
end KH
namespace KH
open PySem PySem.Spec PyProof.Rows L2 DL M80
section
variable {Pg : Program} {w : World} {K : PySem.W.Frag} {mg : Str → Option Value} {base : Heap}
abbrev nm_f_is_whole : List Str := ["thing"]
theorem sc_f_is_whole : FnScope nm_f_is_whole ["thing"] (defScope s_f_is_whole) := ⟨rfl, rfl, rfl, by decide +kernel, rfl, by decide +kernel, by decide +kernel⟩
def rel_f_is_whole : List Dat → Dat → Prop := fun ds d => ∃ i : Int, ds = [.int i] ∧ d = .bl true
theorem ok_f_is_whole (T : Txt w K mg) : Callee Pg w K mg base 1 "is_whole" ["thing"] (spD K (preP 1 rel_f_is_whole)) := by
  have m_bool := T.free 90 (x := "bool") rfl
  have m_int := T.free 93 (x := "int") rfl
  have m_isinstance := T.free 94 (x := "isinstance") rfl
  refine T.calleeP (N := nm_f_is_whole) (st := s_f_is_whole) 54 36 rfl rfl sc_f_is_whole rfl (fun _ _ _ _ _ _ us hl => match us, hl with | [_], _ => rfl) fun cdv A outer s H E hr => ⟨_, (pss_one (ps_ret (pe_and (pe_callB (call_isiK' K) (by rfl) m_isinstance (by decide +kernel) (pa_cons (pv 0) (pa_cons (pe_bltn (v := .ty "int") (by rfl) m_int (by decide +kernel) rfl) pa_nil))) (pe_one (pe_not (pe_callB (call_isiK' K) (by rfl) m_isinstance (by decide +kernel) (pa_cons (pv 0) (pa_cons (pe_bltn (v := .ty "bool") (by rfl) m_bool (by decide +kernel) rfl) pa_nil)))))))), ?_⟩
  rintro ds d hn ⟨i, rfl, rfl⟩
  exact sw_ret (evd_is (ev_and (ev_isi (n := "int") (ev_var rfl) rfl rfl) fun _ => ev_notV (ev_isi (n := "int") (ev_var rfl) rfl rfl)) rfl) rfl
abbrev nm_f_is_place : List Str := ["many", "thing"]
theorem sc_f_is_place : FnScope nm_f_is_place ["many", "thing"] (defScope s_f_is_place) := ⟨rfl, rfl, rfl, by decide +kernel, rfl, by decide +kernel, by decide +kernel⟩
def rel_f_is_place : List Dat → Dat → Prop := fun ds d => ∃ n i : Int, ds = [.int n, .int i] ∧ d = .bl (decide (0 ≤ i) && decide (i < n))
theorem ok_f_is_place (T : Txt w K mg) : Callee Pg w K mg base 2 "is_place" ["many", "thing"] (spD K (preP 2 rel_f_is_place)) := by
  have c_is_whole := ok_f_is_whole (Pg := Pg) (base := base) T
  refine T.calleeP (N := nm_f_is_place) (st := s_f_is_place) 55 37 rfl rfl sc_f_is_place rfl (fun _ _ _ _ _ _ us hl => match us, hl with | [_, _], _ => rfl) fun cdv A outer s H E hr => ⟨_, (pss_one (ps_ret (pe_and (pe_callC c_is_whole hr (by rfl) (pa_cons (pv 1) pa_nil)) (pe_and (pe_cmpR op_le pe_int (pv 1) (nomark _)) (pe_one (pe_cmpR op_lt (pv 1) (pv 0) (nomark _))))))), ?_⟩
  rintro ds d hn ⟨n, i, rfl, rfl⟩
  exact sw_ret (evd_is (ev_and (ev_callP (ds := [.int i]) (ea_cons (ev_var rfl) ea_nil) rfl ⟨i, rfl, rfl⟩) fun _ => ev_and (evd_op (ev_c (d := .int 0) rfl) (ev_var rfl) ops_cmpI) fun _ => evd_op (ev_var rfl) (ev_var rfl) ops_cmpI) rfl) rfl
abbrev nm_f_is_several : List Str := ["thing"]
theorem sc_f_is_several : FnScope nm_f_is_several ["thing"] (defScope s_f_is_several) := ⟨rfl, rfl, rfl, by decide +kernel, rfl, by decide +kernel, by decide +kernel⟩
def rel_f_is_several : List Dat → Dat → Prop := fun ds d => ∃ e : Dat, ds = [e] ∧ (tyN e = some "list" ∨ tyN e = some "tuple") ∧ d = .bl true
theorem ok_f_is_several (T : Txt w K mg) : Callee Pg w K mg base 1 "is_several" ["thing"] (spD K (preP 1 rel_f_is_several)) := by
  have m_isinstance := T.free 94 (x := "isinstance") rfl
  have m_list := T.free 97 (x := "list") rfl
  have m_tuple := T.free 104 (x := "tuple") rfl
  refine T.calleeP (N := nm_f_is_several) (st := s_f_is_several) 56 38 rfl rfl sc_f_is_several rfl (fun _ _ _ _ _ _ us hl => match us, hl with | [_], _ => rfl) fun cdv A outer s H E hr => ⟨_, (pss_one (ps_ret (pe_callB (call_isiTK K) (by rfl) m_isinstance (by decide +kernel) (pa_cons (pv 0) (pa_cons (pe_tup (pa_cons (pe_bltn (v := .ty "list") (by rfl) m_list (by decide +kernel) rfl) (pa_cons (pe_bltn (v := .ty "tuple") (by rfl) m_tuple (by decide +kernel) rfl) pa_nil))) pa_nil))))), ?_⟩
  rintro ds d hn ⟨e, rfl, he, rfl⟩
  rcases he with he | he
  · exact sw_ret (ev_isi2 (n := "list") (b1 := true) (b2 := false) (ev_var rfl) he rfl rfl) rfl
  · exact sw_ret (ev_isi2 (n := "tuple") (b1 := false) (b2 := true) (ev_var rfl) he rfl rfl) rfl
abbrev nm_f_has_form : List Str := ["paper", "kind", "parts"]
theorem sc_f_has_form : FnScope nm_f_has_form ["paper", "kind", "parts"] (defScope s_f_has_form) := ⟨rfl, rfl, rfl, by decide +kernel, rfl, by decide +kernel, by decide +kernel⟩
def rel_f_has_form : List Dat → Dat → Prop := fun ds d => ∃ (k kind : Str) (rest : List Dat) (n : Int), ds = [.tup (.str k :: rest), .str kind, .int n] ∧ rest.length ≤ 10 ∧ d = .bl (decide (((rest.length + 1 : Nat) : Int) = n) && decide (k = kind))
theorem ok_f_has_form (T : Txt w K mg) : Callee Pg w K mg base 1 "has_form" ["paper", "kind", "parts"] (spD K (preP 3 rel_f_has_form)) := by
  have m_isinstance := T.free 94 (x := "isinstance") rfl
  have m_len := T.free 96 (x := "len") rfl
  have m_str := T.free 102 (x := "str") rfl
  have m_tuple := T.free 104 (x := "tuple") rfl
  refine T.calleeP (N := nm_f_has_form) (st := s_f_has_form) 57 39 rfl rfl sc_f_has_form rfl (fun _ _ _ _ _ _ us hl => match us, hl with | [_, _, _], _ => rfl) fun cdv A outer s H E hr => ⟨_, (pss_cons (ps_if (PW.pt (pw_or (pt_not (pt_val (pe_callB (call_isiK' K) (by rfl) m_isinstance (by decide +kernel) (pa_cons (pv 0) (pa_cons (pe_bltn (v := .ty "tuple") (by rfl) m_tuple (by decide +kernel) rfl) pa_nil))))) (pw_or1 (pt_cmpR op_ne (pe_callB (call_lenK K) (by rfl) m_len (by decide +kernel) (pa_cons (pv 0) pa_nil)) (pv 2) (nomark _))))) (pss_one (ps_ret pe_bl)) pss_nil)
    (pss_one (ps_ret (pe_and (pe_callB (call_isiK' K) (by rfl) m_isinstance (by decide +kernel) (pa_cons (pe_ix (ix_seqK K) (pv 0) pe_int (fun _ _ => rfl)) (pa_cons (pe_bltn (v := .ty "str") (by rfl) m_str (by decide +kernel) rfl) pa_nil))) (pe_one (pe_cmpR op_eq (pe_ix (ix_seqK K) (pv 0) pe_int (fun _ _ => rfl)) (pv 1) (nomark _))))))), ?_⟩
  rintro ds d hn ⟨k, kind, rest, n, rfl, hz, rfl⟩
  refine sw_seq (sw_if (c := !decide (((rest.length + 1 : Nat) : Int) = n)) (et_is (et_or (et_not (et_testD (ev_isi (n := "tuple") (ev_var rfl) rfl rfl))) fun _ => et_testD (evd_op (evd_cb (ea_cons (ev_var rfl) ea_nil) (cb_len (n := rest.length + 1) rfl (by omega))) (ev_var rfl) ops_neI)) rfl) (fun hq => sw_ret (d := .bl false) (ev_c rfl) ?_) fun hq => sw_next ?_)
  · have : decide (((rest.length + 1 : Nat) : Int) = n) = false := by simpa using hq
    rw [this]; rfl
  · have : decide (((rest.length + 1 : Nat) : Int) = n) = true := by simpa using hq
    refine sw_ret (evd_is (ev_and (ev_isi (n := "str") (evd_op (ev_var rfl) (ev_c (d := .int 0) rfl) (ops_ix (d := .str k) (.inr rfl) ?_)) rfl rfl) fun _ => evd_op (evd_op (ev_var rfl) (ev_c (d := .int 0) rfl) (ops_ix (d := .str k) (.inr rfl) ?_)) (ev_var rfl) (ops_eq rfl)) ?_) rfl
    · simp [atI, ixN]
    · simp [atI, ixN]
    · rw [this]
def lastL (l : Lot) : Lot := match l.getLast? with
  | none => []
  | some c => [c]
theorem lastL_snoc (l : Lot) (c : Nat) : lastL (l ++ [c]) = [c] := by simp [lastL]
theorem lastL_lt {l : Lot} {c : Nat} (h : ∀ x ∈ l, x < c) : lastL l < [c] := by
  unfold lastL
  cases q : l.getLast? with
  | none => exact List.nil_lt_cons _ _
  | some x => exact List.cons_lt_cons_iff.mpr (.inl (h x (List.mem_of_getLast? q)))
theorem ab_pw : AB.Pairwise (· < ·) := by decide
theorem lt_of_take {l : Lot} {i c : Nat} (h : l.Sublist AB) (hc : l[i]? = some c) : ∀ x ∈ l.take i, x < c := fun x hx => by
  have hp : l.Pairwise (· < ·) := ab_pw.sublist h
  obtain ⟨j, hj, e⟩ := List.mem_take_iff_getElem.mp hx
  obtain ⟨hi, e2⟩ := List.getElem?_eq_some_iff.mp hc
  have := List.pairwise_iff_getElem.mp hp j i (by omega) hi (by omega)
  rw [e, e2] at this; exact this
theorem ops_leS {μ : Mem} {l m : List Nat} : OpS K μ (fun x y H Q => ∃ i j, x = .str i ∧ y = .str j ∧ Q (.bl (!decide (j.cps.toList < i.cps.toList))) H) (.dat (tx l)) (.dat (tx m)) (fun s => s = .dat (.bl (!decide (m < l)))) := .val fun P H x y Q xt ra rb q => by
  cases ra; cases rb
  exact ⟨_, _, rfl, rfl, q _ rfl⟩
abbrev nm_f_mask_in : List Str := ["fields", "thing", "total", "last", "letter"]
theorem sc_f_mask_in : FnScope nm_f_mask_in ["fields", "thing"] (defScope s_f_mask_in) := ⟨rfl, rfl, rfl, by decide +kernel, rfl, by decide +kernel, by decide +kernel⟩
def rel_f_mask_in : List Dat → Dat → Prop := fun ds d => ∃ F l : Lot, ds = [tx F, tx l] ∧ F.Sublist AB ∧ l.Sublist F ∧ d = .int (msk l)
theorem ok_f_mask_in (T : Txt w K mg) : Callee Pg w K mg base 1 "mask_in" ["fields", "thing"] (spD K (preP 2 rel_f_mask_in)) := by
  have m_isinstance := T.free 94 (x := "isinstance") rfl
  have m_str := T.free 102 (x := "str") rfl
  have g_WEIGHT_OF := T.glo 111 (x := "WEIGHT_OF") rfl
  refine T.calleeP (N := nm_f_mask_in) (st := s_f_mask_in) 58 40 rfl rfl sc_f_mask_in rfl (fun _ _ _ _ _ _ us hl => match us, hl with | [_, _], _ => rfl) fun cdv A outer s H E hr => ⟨_, (pss_cons (ps_if (pt_not (pt_val (pe_callB (call_isiK' K) (by rfl) m_isinstance (by decide +kernel) (pa_cons (pv 1) (pa_cons (pe_bltn (v := .ty "str") (by rfl) m_str (by decide +kernel) rfl) pa_nil))))) (pss_one (ps_ret (pe_un un_neg pe_int))) pss_nil)
    (pss_cons (ps_set (i := 2) sc_f_mask_in.nd rfl (Or.inl rfl) pe_int)
    (pss_cons (ps_set (i := 3) sc_f_mask_in.nd rfl (Or.inl rfl) pe_str)
    (pss_cons (ps_for PassesOwn.never rfl (pi_str (pv 1)) (pg_name (i := 4) sc_f_mask_in.nd rfl (Or.inl rfl)) (pss_cons (ps_if (PW.pt (pw_or (pt_cmpR op_le_str (pv 4) (pv 3) (nomark _)) (pw_or1 (pt_cmpR op_notIn_sign (pv 4) (pv 0) (by rfl))))) (pss_one (ps_ret (pe_un un_neg pe_int))) pss_nil)
    (pss_cons (ps_aug (i := 2) sc_f_mask_in.nd rfl (Or.inl rfl) (pe_ix (ix_kdictK K w) (pe_glob (v := .ref (He.ga K "WEIGHT_OF")) rfl g_WEIGHT_OF rfl) (pv 4) (fun _ _ => rfl)) ip_add)
    (pss_one (ps_set (i := 3) sc_f_mask_in.nd rfl (Or.inl rfl) (pv 4))))))
    (pss_one (ps_ret (pv 2))))))), ?_⟩
  rintro ds d hn ⟨F, l, rfl, hF, hl, rfl⟩
  refine sw_seq (sw_if (c := false) (et_is (et_not (et_testD (ev_isi (n := "str") (ev_var rfl) rfl rfl))) rfl) nofun fun _ => sw_next ?_)
  refine sw_seq (sw_asg (ev_c (d := .int 0) rfl) ?_)
  refine sw_seq (sw_asg (ev_c (d := tx []) rfl) ?_)
  refine sw_seq (sw_for (ei_str (ev_var rfl)) (fun i Γ' μ' => μ' = [] ∧ ∃ s, Γ' = [.dat (tx F), .dat (tx l), .dat (.int (msk (l.take i))), .dat (tx (lastL (l.take i))), s]) ⟨rfl, _, rfl⟩ (fun _ _ _ _ _ => trivial) (fun i e Γ' μ' he hI => ?_) fun Γ' μ' hI => ?_)
  · obtain ⟨c, hc, rfl⟩ := chs_get he
    have hcl := List.mem_of_getElem? hc
    have hcF := hl.subset hcl
    obtain ⟨rfl, s, rfl⟩ := hI
    refine ⟨_, _, ga_name, ?_⟩
    refine sw_seq (sw_if (c := false) (et_is (et_or (et_testD (evd_op (ev_var rfl) (ev_var rfl) ops_leS)) fun _ => et_testD (evd_op (ev_var rfl) (ev_var rfl) ops_ninC)) ?_) nofun fun _ => sw_next ?_)
    · rw [decide_eq_true (lastL_lt (lt_of_take (hl.trans hF) hc)), decide_eq_true hcF]; rfl
    · refine sw_seq (sw_augI rfl (ev_kd (T.kdO (wts_mem (hF.subset hcF))) (ev_var rfl)) (sw_asg (ev_var rfl) ⟨rfl, .dat (tx [c]), ?_⟩))
      rw [take_snoc hc, msk_snoc, lastL_snoc]; rfl
  · obtain ⟨rfl, s, rfl⟩ := hI
    rw [chs_len, List.take_length]
    exact sw_ret (ev_var rfl) rfl
theorem msk_pos {l : Lot} (h : l.Sublist AB) : decide (msk l > 0) = !decide (l = []) := by
  cases l with
  | nil => rfl
  | cons c r =>
    have h1 := wt_pos (h.subset (.head _))
    have h2 := msk_nonneg r
    rw [msk_cons]
    simp
    omega
abbrev nm_f_is_field_lot : List Str := ["thing"]
theorem sc_f_is_field_lot : FnScope nm_f_is_field_lot ["thing"] (defScope s_f_is_field_lot) := ⟨rfl, rfl, rfl, by decide +kernel, rfl, by decide +kernel, by decide +kernel⟩
def rel_f_is_field_lot : List Dat → Dat → Prop := fun ds d => ∃ F : Lot, ds = [tx F] ∧ FOk F ∧ d = .bl true
theorem ok_f_is_field_lot (T : Txt w K mg) : Callee Pg w K mg base 2 "is_field_lot" ["thing"] (spD K (preP 1 rel_f_is_field_lot)) := by
  have c_mask_in := ok_f_mask_in (Pg := Pg) (base := base) T
  refine T.calleeP (N := nm_f_is_field_lot) (st := s_f_is_field_lot) 59 41 rfl rfl sc_f_is_field_lot rfl (fun _ _ _ _ _ _ us hl => match us, hl with | [_], _ => rfl) fun cdv A outer s H E hr => ⟨_, (pss_one (ps_ret (pe_cmpR op_gt (pe_callC c_mask_in hr (by rfl) (pa_cons pe_str (pa_cons (pv 0) pa_nil))) pe_int (nomark _)))), ?_⟩
  rintro ds d hn ⟨F, rfl, hF, rfl⟩
  refine sw_ret (evd_is (evd_op (ev_callP (ds := [tx AB, tx F]) (ea_cons (ev_c sv_ab) (ea_cons (ev_var rfl) ea_nil)) rfl ⟨AB, F, rfl, List.Sublist.refl _, hF.sub, rfl⟩) (ev_c (d := .int 0) rfl) ops_cmpI) ?_) rfl
  rw [msk_pos hF.sub]
  simp [hF.ne]
abbrev nm_f_is_case_in : List Str := ["fields", "thing", "ahead", "behind"]
theorem sc_f_is_case_in : FnScope nm_f_is_case_in ["fields", "thing"] (defScope s_f_is_case_in) := ⟨rfl, rfl, rfl, by decide +kernel, rfl, by decide +kernel, by decide +kernel⟩
def rel_f_is_case_in : List Dat → Dat → Prop := fun ds d => ∃ (F : Lot) (c : Case), ds = [tx F, caseD c] ∧ FOk F ∧ CaseOk F c ∧ d = .bl true
theorem ok_f_is_case_in (T : Txt w K mg) : Callee Pg w K mg base 2 "is_case_in" ["fields", "thing"] (spD K (preP 2 rel_f_is_case_in)) := by
  have c_mask_in := ok_f_mask_in (Pg := Pg) (base := base) T
  have m_isinstance := T.free 94 (x := "isinstance") rfl
  have m_len := T.free 96 (x := "len") rfl
  have m_tuple := T.free 104 (x := "tuple") rfl
  refine T.calleeP (N := nm_f_is_case_in) (st := s_f_is_case_in) 60 42 rfl rfl sc_f_is_case_in rfl (fun _ _ _ _ _ _ us hl => match us, hl with | [_, _], _ => rfl) fun cdv A outer s H E hr => ⟨_, (pss_cons (ps_if (PW.pt (pw_or (pt_not (pt_val (pe_callB (call_isiK' K) (by rfl) m_isinstance (by decide +kernel) (pa_cons (pv 1) (pa_cons (pe_bltn (v := .ty "tuple") (by rfl) m_tuple (by decide +kernel) rfl) pa_nil))))) (pw_or1 (pt_cmpR op_ne (pe_callB (call_lenK K) (by rfl) m_len (by decide +kernel) (pa_cons (pv 1) pa_nil)) pe_int (nomark _))))) (pss_one (ps_ret pe_bl)) pss_nil)
    (pss_cons (ps_set (i := 2) sc_f_is_case_in.nd rfl (Or.inl rfl) (pe_callC c_mask_in hr (by rfl) (pa_cons (pv 0) (pa_cons (pe_ix (ix_seqK K) (pv 1) pe_int (fun _ _ => rfl)) pa_nil))))
    (pss_cons (ps_set (i := 3) sc_f_is_case_in.nd rfl (Or.inl rfl) (pe_callC c_mask_in hr (by rfl) (pa_cons (pv 0) (pa_cons (pe_ix (ix_seqK K) (pv 1) pe_int (fun _ _ => rfl)) pa_nil))))
    (pss_one (ps_ret (pe_and (pe_cmpR op_ge (pv 2) pe_int (nomark _)) (pe_and (pe_cmpR op_ge (pv 3) pe_int (nomark _)) (pe_one (pe_cmpR op_eq (pe_op op_and (pv 2) (pv 3)) pe_int (nomark _)))))))))), ?_⟩
  rintro ds d hn ⟨F, ⟨a, b⟩, rfl, hF, hc, rfl⟩
  refine sw_seq (sw_if (c := false) (et_is (et_or (et_not (et_testD (ev_isi (n := "tuple") (ev_var (d := caseD (a, b)) rfl) rfl rfl))) fun _ => et_testD (evd_op (evd_cb (ea_cons (ev_var (d := caseD (a, b)) rfl) ea_nil) (cb_len (n := 2) rfl (by show (2 : Nat) ≤ 1000000; decide))) (ev_c (d := .int 2) rfl) ops_neI)) rfl) nofun fun _ => sw_next ?_)
  refine sw_seq (sw_asg (ev_callP (ds := [tx F, tx a]) (ea_cons (ev_var rfl) (ea_cons (evd_op (ev_var (d := caseD (a, b)) rfl) (ev_c (d := .int 0) rfl) (ops_ix (.inr rfl) rfl)) ea_nil)) rfl ⟨F, a, rfl, hF.sub, hc.l1, rfl⟩) ?_)
  refine sw_seq (sw_asg (ev_callP (ds := [tx F, tx b]) (ea_cons (ev_var rfl) (ea_cons (evd_op (ev_var (d := caseD (a, b)) rfl) (ev_c (d := .int 1) rfl) (ops_ix (.inr rfl) rfl)) ea_nil)) rfl ⟨F, b, rfl, hF.sub, hc.l2, rfl⟩) ?_)
  refine sw_ret (evd_is (ev_and (evd_op (ev_var rfl) (ev_c (d := .int 0) rfl) ops_cmpI) fun _ => ev_and (evd_op (ev_var rfl) (ev_c (d := .int 0) rfl) ops_cmpI) fun _ => evd_op (evd_op (ev_var rfl) (ev_var rfl) ops_andI) (ev_c (d := .int 0) rfl) ops_eqI) ?_) rfl
  have e : a.filter (fun c => decide (c ∈ b)) = [] := List.filter_eq_nil_iff.mpr fun x hx => by simpa using hc.ap x hx
  rw [msk_and (hc.l1.trans hF.sub) (hc.l2.trans hF.sub), e]
  have h1 := msk_nonneg a
  have h2 := msk_nonneg b
  have h3 : msk [] = 0 := rfl
  simp [h1, h2, h3]
abbrev nm_f_is_told_in : List Str := ["fields", "told", "case"]
theorem sc_f_is_told_in : FnScope nm_f_is_told_in ["fields", "told"] (defScope s_f_is_told_in) := ⟨rfl, rfl, rfl, by decide +kernel, rfl, by decide +kernel, by decide +kernel⟩
def rel_f_is_told_in : List Dat → Dat → Prop := fun ds d => ∃ (F : Lot) (T : List Case), ds = [tx F, casesD T] ∧ FOk F ∧ ToldOk F T ∧ d = .bl true
theorem ok_f_is_told_in (T : Txt w K mg) : Callee Pg w K mg base 3 "is_told_in" ["fields", "told"] (spD K (preP 2 rel_f_is_told_in)) := by
  have c_is_several := ok_f_is_several (Pg := Pg) (base := base) T
  have c_is_case_in := ok_f_is_case_in (Pg := Pg) (base := base) T
  have m_all := T.free 89 (x := "all") rfl
  refine T.calleeP (N := nm_f_is_told_in) (st := s_f_is_told_in) 61 43 rfl rfl sc_f_is_told_in rfl (fun _ _ _ _ _ _ us hl => match us, hl with | [_, _], _ => rfl) fun cdv A outer s H E hr => ⟨_, (pss_cons (ps_if (pt_not (pt_val (pe_callC c_is_several hr (by rfl) (pa_cons (pv 1) pa_nil)))) (pss_one (ps_ret pe_bl)) pss_nil)
    (pss_one (ps_ret (pe_callB (cr_allK K) (by rfl) m_all (by decide +kernel) (pa_cons (pe_lc (own := [("case", 2)]) rfl sc_f_is_told_in.nd (pi_listK K (pv 1)) (blkOk_by (N := nm_f_is_told_in) (sc := defScope s_f_is_told_in) (by decide +kernel)) (fun _ _ _ _ _ => by exact (pg_name (i := 2) sc_f_is_told_in.nd rfl (Or.inl rfl))) (fun _ _ _ _ _ => by exact pts_nil) (fun _ _ _ _ _ => by exact (pe_and (pe_callC c_is_case_in hr (by rfl) (pa_cons (pv 0) (pa_cons (pv 2) pa_nil))) (pe_one (pe_cmpR op_ne (pe_ix (ix_seqK K) (pv 2) pe_int (fun _ _ => rfl)) pe_str (nomark _)))))) pa_nil))))), ?_⟩
  rintro ds d hn ⟨F, U, rfl, hF, hT, rfl⟩
  refine sw_seq (sw_if (c := false) (et_is (et_not (et_BD (ev_callP (ds := [casesD U]) (ea_cons (ev_var rfl) ea_nil) rfl ⟨_, rfl, .inl rfl, rfl⟩))) rfl) nofun fun _ => sw_next ?_)
  have hz := hT.len
  refine sw_ret (evd_is (evd_cb (ea_cons (evd_is (ev_lc (xs := U) (φ := caseD) (ei_lst (ev_var rfl)) trivial (fun _ => true) (fun c => .bl true) (tg := [2]) (by decide) (by omega) fun c hc => ⟨_, ga_name, et_yes, fun _ => evd_is (ev_and (ev_callP (ds := [tx F, caseD c]) (ea_cons (ev_var rfl) (ea_cons (ev_var rfl) ea_nil)) rfl ⟨F, c, rfl, hF, hT.ok c hc, rfl⟩) fun _ => evd_op (evd_op (ev_var (d := caseD c) rfl) (ev_c (d := .int 1) rfl) (ops_ix (.inr rfl) rfl)) (ev_c (d := tx []) rfl) ops_neT) (by rw [decide_eq_false (hT.ne c hc)]; rfl)⟩) (d2 := .lst ((U.map fun _ => true).map Dat.bl)) (by rw [filter_yes, List.map_map]; rfl)) ea_nil) cb_all) (by simp)) rfl
abbrev nm_f_holds_all : List Str := ["outer", "inner", "letter"]
theorem sc_f_holds_all : FnScope nm_f_holds_all ["outer", "inner"] (defScope s_f_holds_all) := ⟨rfl, rfl, rfl, by decide +kernel, rfl, by decide +kernel, by decide +kernel⟩
def rel_f_holds_all : List Dat → Dat → Prop := fun ds d => ∃ m l : Lot, ds = [tx m, tx l] ∧ l.length ≤ 1000 ∧ d = .bl (l.all fun x => decide (x ∈ m))
theorem ok_f_holds_all (T : Txt w K mg) : Callee Pg w K mg base 1 "holds_all" ["outer", "inner"] (spD K (preP 2 rel_f_holds_all)) := by
  have m_all := T.free 89 (x := "all") rfl
  refine T.calleeP (N := nm_f_holds_all) (st := s_f_holds_all) 62 44 rfl rfl sc_f_holds_all rfl (fun _ _ _ _ _ _ us hl => match us, hl with | [_, _], _ => rfl) fun cdv A outer s H E hr => ⟨_, (pss_one (ps_ret (pe_callB (cr_allK K) (by rfl) m_all (by decide +kernel) (pa_cons (pe_lc (own := [("letter", 2)]) rfl sc_f_holds_all.nd (pi_str (pv 1)) (blkOk_by (N := nm_f_holds_all) (sc := defScope s_f_holds_all) (by decide +kernel)) (fun _ _ _ _ _ => by exact (pg_name (i := 2) sc_f_holds_all.nd rfl (Or.inl rfl))) (fun _ _ _ _ _ => by exact pts_nil) (fun _ _ _ _ _ => by exact (pe_cmpR op_in_sign (pv 2) (pv 0) (by rfl)))) pa_nil)))), ?_⟩
  rintro ds d hn ⟨m, l, rfl, hl, rfl⟩
  refine sw_ret (evd_is (evd_cb (ea_cons (evd_is (ev_lc (xs := l) (φ := fun c => .str ⟨#[c]⟩) (ei_str (ev_var rfl)) trivial (fun _ => true) (fun c => .bl (decide (c ∈ m))) (tg := [2]) (by decide) (Nat.le_trans hl (by decide)) fun c hc => ⟨_, ga_name, et_yes, fun _ => evd_op (ev_var rfl) (ev_var rfl) ops_inC⟩) (d2 := .lst ((l.map fun c => decide (c ∈ m)).map Dat.bl)) (by rw [filter_yes, List.map_map]; rfl)) ea_nil) cb_all) rfl) ?_
  rw [List.all_map]; rfl
def fitS (T : List Case) (cl n : Lot) : Lot → List (Nat × Nat) → Bool
  | _, [] => true
  | seen, p :: r => decide (p.1 ∈ n) && !decide (p.1 ∈ seen) && (match T[p.2]? with
      | some c => fitB p.1 cl c
      | none => false) && fitS T cl n (seen ++ [p.1]) r
theorem fitS_cons {T : List Case} {cl n seen : Lot} {p : Nat × Nat} {r : List (Nat × Nat)} : fitS T cl n seen (p :: r) = (decide (p.1 ∈ n) && !decide (p.1 ∈ seen) && (match T[p.2]? with
      | some c => fitB p.1 cl c
      | none => false) && fitS T cl n (seen ++ [p.1]) r) := rfl
def fitR (T : List Case) (cl n : Lot) (rs : List (Nat × Nat)) : Bool := decide (rs.length = n.length) && fitS T cl n [] rs
abbrev nm_f_reasons_fit : List Str := ["told", "closed", "needed", "reasons", "seen", "pair", "field", "at"]
theorem sc_f_reasons_fit : FnScope nm_f_reasons_fit ["told", "closed", "needed", "reasons"] (defScope s_f_reasons_fit) := ⟨rfl, rfl, rfl, by decide +kernel, rfl, by decide +kernel, by decide +kernel⟩
def rel_f_reasons_fit : List Dat → Dat → Prop := fun ds d => ∃ (T : List Case) (m n : Lot) (rs : List (Nat × Nat)), ds = [casesD T, tx m, tx n, reasonsD rs] ∧ T.length ≤ 60 ∧ (∀ c ∈ T, c.1.length ≤ 6) ∧ n.length ≤ 1000 ∧ rs.length ≤ 1000 ∧ d = .bl (fitR T m n rs)
theorem ok_f_reasons_fit (T : Txt w K mg) : Callee Pg w K mg base 3 "reasons_fit" ["told", "closed", "needed", "reasons"] (spD K (preP 4 rel_f_reasons_fit)) := by
  have c_is_several := ok_f_is_several (Pg := Pg) (base := base) T
  have c_is_place := ok_f_is_place (Pg := Pg) (base := base) T
  have c_holds_all := ok_f_holds_all (Pg := Pg) (base := base) T
  have m_isinstance := T.free 94 (x := "isinstance") rfl
  have m_len := T.free 96 (x := "len") rfl
  have m_str := T.free 102 (x := "str") rfl
  have m_tuple := T.free 104 (x := "tuple") rfl
  refine T.calleeP (N := nm_f_reasons_fit) (st := s_f_reasons_fit) 63 45 rfl rfl sc_f_reasons_fit rfl (fun _ _ _ _ _ _ us hl => match us, hl with | [_, _, _, _], _ => rfl) fun cdv A outer s H E hr => ⟨_, (pss_cons (ps_if (PW.pt (pw_or (pt_not (pt_val (pe_callC c_is_several hr (by rfl) (pa_cons (pv 3) pa_nil)))) (pw_or1 (pt_cmpR op_ne (pe_callB (call_lenK K) (by rfl) m_len (by decide +kernel) (pa_cons (pv 3) pa_nil)) (pe_callB (call_lenK K) (by rfl) m_len (by decide +kernel) (pa_cons (pv 2) pa_nil)) (nomark _))))) (pss_one (ps_ret pe_bl)) pss_nil)
    (pss_cons (ps_set (i := 4) sc_f_reasons_fit.nd rfl (Or.inl rfl) pe_str)
    (pss_cons (ps_for PassesOwn.never rfl (pi_tupK K (pv 3)) (pg_name (i := 5) sc_f_reasons_fit.nd rfl (Or.inl rfl)) (pss_cons (ps_if (PW.pt (pw_or (pt_not (pt_val (pe_callB (call_isiK' K) (by rfl) m_isinstance (by decide +kernel) (pa_cons (pv 5) (pa_cons (pe_bltn (v := .ty "tuple") (by rfl) m_tuple (by decide +kernel) rfl) pa_nil))))) (pw_or1 (pt_cmpR op_ne (pe_callB (call_lenK K) (by rfl) m_len (by decide +kernel) (pa_cons (pv 5) pa_nil)) pe_int (nomark _))))) (pss_one (ps_ret pe_bl)) pss_nil)
    (pss_cons (ps_asg (pv 5) (pg_tupK K 2 (pgs_cons (pg_name (i := 6) sc_f_reasons_fit.nd rfl (Or.inl rfl)) (pgs_cons (pg_name (i := 7) sc_f_reasons_fit.nd rfl (Or.inl rfl)) pgs_nil))))
    (pss_cons (ps_if (PW.pt (pw_or (pt_not (pt_val (pe_callB (call_isiK' K) (by rfl) m_isinstance (by decide +kernel) (pa_cons (pv 6) (pa_cons (pe_bltn (v := .ty "str") (by rfl) m_str (by decide +kernel) rfl) pa_nil))))) (pw_or1 (pt_cmpR op_ne (pe_callB (call_lenK K) (by rfl) m_len (by decide +kernel) (pa_cons (pv 6) pa_nil)) pe_int (nomark _))))) (pss_one (ps_ret pe_bl)) pss_nil)
    (pss_cons (ps_if (PW.pt (pw_or (pt_cmpR op_notIn_sign (pv 6) (pv 2) (by rfl)) (pw_or (pt_cmpR op_in_sign (pv 6) (pv 4) (by rfl)) (pw_or1 (pt_not (pt_val (pe_callC c_is_place hr (by rfl) (pa_cons (pe_callB (call_lenK K) (by rfl) m_len (by decide +kernel) (pa_cons (pv 0) pa_nil)) (pa_cons (pv 7) pa_nil))))))))) (pss_one (ps_ret pe_bl)) pss_nil)
    (pss_cons (ps_if (PW.pt (pw_or (pt_cmpR op_notIn_sign (pv 6) (pe_ix (ix_seqK K) (pe_ix (ix_seqK K) (pv 0) (pv 7) (fun _ _ => rfl)) pe_int (fun _ _ => rfl)) (by rfl)) (pw_or1 (pt_not (pt_val (pe_callC c_holds_all hr (by rfl) (pa_cons (pv 1) (pa_cons (pe_ix (ix_seqK K) (pe_ix (ix_seqK K) (pv 0) (pv 7) (fun _ _ => rfl)) pe_int (fun _ _ => rfl)) pa_nil)))))))) (pss_one (ps_ret pe_bl)) pss_nil)
    (pss_one (ps_set (i := 4) sc_f_reasons_fit.nd rfl (Or.inl rfl) (pe_op op_add_str (pv 4) (pv 6))))))))))
    (pss_one (ps_ret pe_bl))))), ?_⟩
  rintro ds d hn ⟨U, m, n, rs, rfl, hU, h6, hn6, hrs, rfl⟩
  refine sw_seq (sw_if (c := !decide (rs.length = n.length)) (et_is (et_or (et_not (et_BD (ev_callP (ds := [reasonsD rs]) (ea_cons (ev_var rfl) ea_nil) rfl ⟨_, rfl, .inr rfl, rfl⟩))) fun _ => et_testD (evd_op (evd_cb (ea_cons (ev_var rfl) ea_nil) (cb_len (n := rs.length) (by show some _ = _; rw [List.length_map]) (by omega))) (evd_cb (ea_cons (ev_var rfl) ea_nil) (cb_len (n := n.length) (by show some _ = _; rw [len_tx]) (by omega))) ops_neI)) ?_) (fun hq => sw_ret (d := .bl false) (ev_c rfl) ?_) fun hq => sw_next ?_)
  · show (!true || !decide ((rs.length : Int) = (n.length : Int))) = !decide (rs.length = n.length)
    have : ((rs.length : Int) = (n.length : Int)) ↔ rs.length = n.length := by omega
    simp only [this]; rfl
  · have : decide (rs.length = n.length) = false := by simpa using hq
    unfold fitR
    rw [this]; rfl
  have hlen : decide (rs.length = n.length) = true := by simpa using hq
  refine sw_seq (sw_asg (ev_c (d := tx []) rfl) ?_)
  refine sw_seq (sw_for (ei_tup (ev_var rfl)) (fun i Γ' μ' => μ' = [] ∧ ∃ seen : Lot, seen.length = i ∧ fitS U m n seen (rs.drop i) = fitS U m n [] rs ∧ ∃ s5 s6 s7, Γ' = [.dat (casesD U), .dat (tx m), .dat (tx n), .dat (reasonsD rs), .dat (tx seen), s5, s6, s7]) ⟨rfl, [], rfl, rfl, _, _, _, rfl⟩ (fun _ _ _ _ _ => trivial) (fun i e Γ' μ' he hI => ?_) fun Γ' μ' hI => ?_)
  · obtain ⟨⟨f, at_⟩, hp, rfl⟩ := map_get he
    obtain ⟨hi, ep⟩ := List.getElem?_eq_some_iff.mp hp
    obtain ⟨rfl, seen, hsl, hfs, s5, s6, s7, rfl⟩ := hI
    rw [List.drop_eq_getElem_cons hi, ep, fitS_cons] at hfs
    refine ⟨_, _, ga_name, ?_⟩
    refine sw_seq (sw_if (c := false) (et_is (et_or (et_not (et_testD (ev_isi (n := "tuple") (ev_var (d := pairD (f, at_)) rfl) rfl rfl))) fun _ => et_testD (evd_op (evd_cb (ea_cons (ev_var (d := pairD (f, at_)) rfl) ea_nil) (cb_len (n := 2) rfl (by show (2 : Nat) ≤ 1000000; decide))) (ev_c (d := .int 2) rfl) ops_neI)) rfl) nofun fun _ => sw_next ?_)
    refine sw_seq (sw_asgG (ev_var (d := pairD (f, at_)) rfl) (ga_tup (gas_cons ga_name (gas_cons ga_name gas_nil)) rfl) ?_)
    refine sw_seq (sw_if (c := false) (et_is (et_or (et_not (et_testD (ev_isi (n := "str") (ev_var (d := tx [f]) rfl) rfl rfl))) fun _ => et_testD (evd_op (evd_cb (ea_cons (ev_var (d := tx [f]) rfl) ea_nil) (cb_len (n := 1) rfl (by decide))) (ev_c (d := .int 1) rfl) ops_neI)) rfl) nofun fun _ => sw_next ?_)
    have ret0 : ∀ {Γ : List Sl} {O : Ou}, O.rt = (fun s _ => s = .dat (.bl (fitR U m n rs))) → fitS U m n [] rs = false → SW K (tRet (tC (.bl false))) Γ [] O := fun hO hf => sw_ret (d := .bl false) (ev_c rfl) (by
      rw [hO]
      unfold fitR
      rw [hf, Bool.and_false])
    refine sw_seq (sw_if (c := !decide (f ∈ n) || (decide (f ∈ seen) || !decide (at_ < U.length))) (et_is (et_or (et_testD (evd_op (ev_var (d := tx [f]) rfl) (ev_var (d := tx n) rfl) ops_ninC)) fun _ => et_or (et_testD (evd_op (ev_var (d := tx [f]) rfl) (ev_var (d := tx seen) rfl) ops_inC)) fun _ => et_not (et_BD (ev_callP (ds := [.int (U.length : Nat), .int (at_ : Nat)]) (ea_cons (evd_cb (ea_cons (ev_var (d := casesD U) rfl) ea_nil) (cb_len (n := U.length) (by show some _ = _; rw [List.length_map]) (by omega))) (ea_cons (ev_var rfl) ea_nil)) rfl ⟨_, _, rfl, rfl⟩))) ?_) (fun hq => ?_) fun hq => sw_next ?_)
    · have : (decide (0 ≤ ((at_ : Nat) : Int)) && decide (((at_ : Nat) : Int) < ((U.length : Nat) : Int))) = decide (at_ < U.length) := by
        rw [decide_eq_true (by omega : (0 : Int) ≤ ((at_ : Nat) : Int)), Bool.true_and]
        have : (((at_ : Nat) : Int) < ((U.length : Nat) : Int)) ↔ at_ < U.length := by omega
        simp only [this]
      rw [this]
    · refine ret0 rfl ?_
      rw [← hfs]
      by_cases h1 : f ∈ n
      · by_cases h2 : f ∈ seen
        · simp [h2]
        · have h3 : ¬ at_ < U.length := by simpa [h1, h2] using hq
          have : U[at_]? = none := List.getElem?_eq_none (by omega)
          simp [this]
      · simp [h1]
    · have h1 : f ∈ n ∧ f ∉ seen ∧ at_ < U.length := by simpa [not_or] using hq
      obtain ⟨h1, h2, h3⟩ := h1
      have hat : U[at_]? = some U[at_] := List.getElem?_eq_getElem h3
      have hix : atI (U.map caseD) ((at_ : Nat) : Int) = some (caseD U[at_]) := by
        unfold atI ixN
        rw [List.length_map, if_pos (by omega), if_pos (by omega)]
        show (U.map caseD)[((at_ : Nat) : Int).toNat]? = _
        rw [Int.toNat_natCast, List.getElem?_map, hat]; rfl
      have hfb : fitS U m n [] rs = (fitB f m U[at_] && fitS U m n (seen ++ [f]) (rs.drop (i + 1))) := by
        rw [← hfs]
        simp only [hat, decide_eq_true h1, decide_eq_false h2, Bool.not_false, Bool.true_and]
      refine sw_seq (sw_if (c := !fitB f m U[at_]) (et_is (et_or (et_testD (evd_op (ev_var (d := tx [f]) rfl) (evd_op (evd_op (ev_var (d := casesD U) rfl) (ev_var rfl) (ops_ix (.inl rfl) hix)) (ev_c (d := .int 1) rfl) (ops_ix (d := tx U[at_].2) (.inr rfl) rfl)) ops_ninC)) fun _ => et_not (et_BD (ev_callP (ds := [tx m, tx U[at_].1]) (ea_cons (ev_var rfl) (ea_cons (evd_op (evd_op (ev_var (d := casesD U) rfl) (ev_var rfl) (ops_ix (.inl rfl) hix)) (ev_c (d := .int 0) rfl) (ops_ix (d := tx U[at_].1) (.inr rfl) rfl)) ea_nil)) rfl ⟨m, _, rfl, Nat.le_trans (h6 _ (List.getElem_mem h3)) (by decide), rfl⟩))) ?_) (fun hq => ?_) fun hq => sw_next ?_)
      · unfold fitB
        rw [Bool.not_and]
      · refine ret0 rfl ?_
        have : fitB f m U[at_] = false := by simpa using hq
        rw [hfb, this]; rfl
      · have hfit : fitB f m U[at_] = true := by simpa using hq
        refine sw_asg (evd_op (ev_var (d := tx seen) rfl) (ev_var (d := tx [f]) rfl) (ops_addS ?_)) ⟨rfl, seen ++ [f], by rw [List.length_append, hsl]; rfl, ?_, _, _, _, rfl⟩
        · simp only [List.length_singleton]; omega
        · rw [hfb, hfit, Bool.true_and]
  · obtain ⟨rfl, seen, hsl, hfs, s5, s6, s7, rfl⟩ := hI
    rw [List.length_map, List.drop_length] at hfs
    refine sw_ret (d := .bl true) (ev_c rfl) ?_
    unfold fitR
    rw [hlen, ← hfs]; rfl
abbrev nm_f_shows_hold : List Str := ["fields", "told", "case", "paper", "closed", "needed", "field"]
theorem sc_f_shows_hold : FnScope nm_f_shows_hold ["fields", "told", "case", "paper"] (defScope s_f_shows_hold) := ⟨rfl, rfl, rfl, by decide +kernel, rfl, by decide +kernel, by decide +kernel⟩
def rel_f_shows_hold : List Dat → Dat → Prop := fun ds d => ∃ (F : Lot) (T : List Case) (c : Case) (k : Str) (m : Lot) (rs : List (Nat × Nat)), ds = [tx F, casesD T, caseD c, .tup [.str k, tx m, reasonsD rs]] ∧ FOk F ∧ ToldOk F T ∧ CaseOk F c ∧ m.Sublist F ∧ rs.length ≤ 1000 ∧ d = .bl (!decide (c.1 = []) && (decide (k = "hold") && ((c.1 ++ c.2).all (fun x => decide (x ∈ m)) && fitR T m (others m c.1) rs)))
theorem ok_f_shows_hold (T : Txt w K mg) : Callee Pg w K mg base 4 "shows_hold" ["fields", "told", "case", "paper"] (spD K (preP 4 rel_f_shows_hold)) := by
  have c_is_told_in := ok_f_is_told_in (Pg := Pg) (base := base) T
  have c_is_field_lot := ok_f_is_field_lot (Pg := Pg) (base := base) T
  have c_has_form := ok_f_has_form (Pg := Pg) (base := base) T
  have c_is_case_in := ok_f_is_case_in (Pg := Pg) (base := base) T
  have c_holds_all := ok_f_holds_all (Pg := Pg) (base := base) T
  have c_mask_in := ok_f_mask_in (Pg := Pg) (base := base) T
  have c_reasons_fit := ok_f_reasons_fit (Pg := Pg) (base := base) T
  refine T.calleeP (N := nm_f_shows_hold) (st := s_f_shows_hold) 64 46 rfl rfl sc_f_shows_hold rfl (fun _ _ _ _ _ _ us hl => match us, hl with | [_, _, _, _], _ => rfl) fun cdv A outer s H E hr => ⟨_, (pss_cons (ps_if (PW.pt (pw_or (pt_not (pt_val (pe_callC c_is_field_lot hr (by rfl) (pa_cons (pv 0) pa_nil)))) (pw_or1 (pt_not (pt_val (pe_callC c_is_told_in hr (by rfl) (pa_cons (pv 0) (pa_cons (pv 1) pa_nil)))))))) (pss_one (ps_ret pe_bl)) pss_nil)
    (pss_cons (ps_if (PW.pt (pw_or (pt_not (pt_val (pe_callC c_is_case_in hr (by rfl) (pa_cons (pv 0) (pa_cons (pv 2) pa_nil))))) (pw_or (pt_cmpR op_eq (pe_ix (ix_seqK K) (pv 2) pe_int (fun _ _ => rfl)) pe_str (nomark _)) (pw_or1 (pt_not (pt_val (pe_callC c_has_form hr (by rfl) (pa_cons (pv 3) (pa_cons pe_str (pa_cons pe_int pa_nil)))))))))) (pss_one (ps_ret pe_bl)) pss_nil)
    (pss_cons (ps_set (i := 4) sc_f_shows_hold.nd rfl (Or.inl rfl) (pe_ix (ix_seqK K) (pv 3) pe_int (fun _ _ => rfl)))
    (pss_cons (ps_if (PW.pt (pw_or (pt_cmpR op_lt (pe_callC c_mask_in hr (by rfl) (pa_cons (pv 0) (pa_cons (pv 4) pa_nil))) pe_int (nomark _)) (pw_or1 (pt_not (pt_val (pe_callC c_holds_all hr (by rfl) (pa_cons (pv 4) (pa_cons (pe_op op_add_str (pe_ix (ix_seqK K) (pv 2) pe_int (fun _ _ => rfl)) (pe_ix (ix_seqK K) (pv 2) pe_int (fun _ _ => rfl))) pa_nil)))))))) (pss_one (ps_ret pe_bl)) pss_nil)
    (pss_cons (ps_set (i := 5) sc_f_shows_hold.nd rfl (Or.inl rfl) (pe_joinK K pe_str (pe_lc (own := [("field", 6)]) rfl sc_f_shows_hold.nd (pi_str (pv 4)) (blkOk_by (N := nm_f_shows_hold) (sc := defScope s_f_shows_hold) (by decide +kernel)) (fun _ _ _ _ _ => by exact (pg_name (i := 6) sc_f_shows_hold.nd rfl (Or.inl rfl))) (fun _ _ _ _ _ => by exact (pts_one (pt_cmpR op_notIn_sign (pv 6) (pe_ix (ix_seqK K) (pv 2) pe_int (fun _ _ => rfl)) (by rfl)))) (fun _ _ _ _ _ => by exact (pv 6)))))
    (pss_one (ps_ret (pe_callC c_reasons_fit hr (by rfl) (pa_cons (pv 1) (pa_cons (pv 4) (pa_cons (pv 5) (pa_cons (pe_ix (ix_seqK K) (pv 3) pe_int (fun _ _ => rfl)) pa_nil)))))))))))), ?_⟩
  rintro ds d hn ⟨F, U, ⟨a, b⟩, k, m, rs, rfl, hF, hT, hc, hm, hrs, rfl⟩
  have hm6 := sub6 hF hm
  have ha6 : a.length ≤ 6 := sub6 hF hc.l1
  have hb6 : b.length ≤ 6 := sub6 hF hc.l2
  refine sw_seq (sw_if (c := false) (et_is (et_or (et_not (et_BD (ev_callP (ds := [tx F]) (ea_cons (ev_var rfl) ea_nil) rfl ⟨F, rfl, hF, rfl⟩))) fun _ => et_not (et_BD (ev_callP (ds := [tx F, casesD U]) (ea_cons (ev_var rfl) (ea_cons (ev_var rfl) ea_nil)) rfl ⟨F, U, rfl, hF, hT, rfl⟩))) rfl) nofun fun _ => sw_next ?_)
  refine sw_seq (sw_if (c := decide (a = []) || !decide (k = "hold")) (et_is (et_or (et_not (et_BD (ev_callP (ds := [tx F, caseD (a, b)]) (ea_cons (ev_var rfl) (ea_cons (ev_var rfl) ea_nil)) rfl ⟨F, _, rfl, hF, hc, rfl⟩))) fun _ => et_or (et_testD (evd_op (evd_op (ev_var (d := caseD (a, b)) rfl) (ev_c (d := .int 0) rfl) (ops_ix (.inr rfl) rfl)) (ev_c (d := tx []) rfl) ops_eqT)) fun _ => et_not (et_BD (ev_callP (ds := [.tup [.str k, tx m, reasonsD rs], .str "hold", .int 3]) (ea_cons (ev_var rfl) (ea_cons (ev_c (by exact rfl)) (ea_cons (ev_c (by exact rfl)) ea_nil))) rfl ⟨k, "hold", [tx m, reasonsD rs], 3, rfl, by simp, rfl⟩))) ?_) (fun hq => sw_ret (d := .bl false) (ev_c rfl) ?_) fun hq => sw_next ?_)
  · rfl
  · by_cases h1 : a = []
    · rw [show decide ((a, b).1 = []) = true from decide_eq_true h1]; rfl
    · have h2 : ¬ k = "hold" := by simpa [h1] using hq
      rw [decide_eq_false h2, Bool.false_and, Bool.and_false]
  have hq1 : a ≠ [] ∧ k = "hold" := by simpa [not_or] using hq
  refine sw_seq (sw_asg (evd_op (ev_var (d := .tup [.str k, tx m, reasonsD rs]) rfl) (ev_c (d := .int 1) rfl) (ops_ix (.inr rfl) rfl)) ?_)
  refine sw_seq (sw_if (c := !((a ++ b).all fun x => decide (x ∈ m))) (et_is (et_or (et_testD (evd_op (ev_callP (ds := [tx F, tx m]) (ea_cons (ev_var rfl) (ea_cons (ev_var rfl) ea_nil)) rfl ⟨F, m, rfl, hF.sub, hm, rfl⟩) (ev_c (d := .int 0) rfl) ops_cmpI)) fun _ => et_not (et_BD (ev_callP (ds := [tx m, tx (a ++ b)]) (ea_cons (ev_var rfl) (ea_cons (evd_op (evd_op (ev_var (d := caseD (a, b)) rfl) (ev_c (d := .int 0) rfl) (ops_ix (.inr rfl) rfl)) (evd_op (ev_var (d := caseD (a, b)) rfl) (ev_c (d := .int 1) rfl) (ops_ix (.inr rfl) rfl)) (ops_addS (by show a.length + b.length ≤ 1000000; omega))) ea_nil)) rfl ⟨m, a ++ b, rfl, by rw [List.length_append]; omega, rfl⟩))) ?_) (fun hq => sw_ret (d := .bl false) (ev_c rfl) ?_) fun hq => sw_next ?_)
  · have := msk_nonneg m
    rw [decide_eq_false (by omega : ¬ msk m < 0)]; rfl
  · have : ((a, b).1 ++ (a, b).2).all (fun x => decide (x ∈ m)) = false := by rw [Bool.not_eq_true'] at hq; exact hq
    rw [this, Bool.false_and, Bool.and_false, Bool.and_false]
  have hq2 : ((a, b).1 ++ (a, b).2).all (fun x => decide (x ∈ m)) = true := by simpa using hq
  refine sw_seq (sw_asg (d := tx (others m a)) (ev_join (l := others m a) (ev_c rfl) (ev_lc (xs := m) (φ := fun c => .str ⟨#[c]⟩) (ei_str (ev_var rfl)) trivial (fun c => !decide (c ∈ a)) (fun c => .str ⟨#[c]⟩) (tg := [6]) (by decide) (mil hm6) fun c hc' => ⟨_, ga_name, et_testD (evd_op (ev_var rfl) (evd_op (ev_var (d := caseD (a, b)) rfl) (ev_c (d := .int 0) rfl) (ops_ix (.inr rfl) rfl)) ops_ninC), fun _ => ev_var rfl⟩) (Nat.le_trans others_len (mil hm6))) ?_)
  refine sw_ret (ev_callP (ds := [casesD U, tx m, tx (others m a), reasonsD rs]) (ea_cons (ev_var rfl) (ea_cons (ev_var rfl) (ea_cons (ev_var rfl) (ea_cons (evd_op (ev_var (d := .tup [.str k, tx m, reasonsD rs]) rfl) (ev_c (d := .int 2) rfl) (ops_ix (.inr rfl) rfl)) ea_nil)))) rfl ⟨U, m, _, rs, rfl, hT.len, hT.six hF, Nat.le_trans (Nat.le_trans others_len hm6) (by decide), hrs, rfl⟩) ?_
  rw [hq2, decide_eq_true hq1.2, show decide ((a, b).1 = []) = false from decide_eq_false hq1.1]; rfl
abbrev nm_f_shows_stuck : List Str := ["fields", "told", "paper"]
theorem sc_f_shows_stuck : FnScope nm_f_shows_stuck ["fields", "told", "paper"] (defScope s_f_shows_stuck) := ⟨rfl, rfl, rfl, by decide +kernel, rfl, by decide +kernel, by decide +kernel⟩
def rel_f_shows_stuck : List Dat → Dat → Prop := fun ds d => ∃ (F : Lot) (T : List Case) (k : Str) (m : Lot) (rs : List (Nat × Nat)), ds = [tx F, casesD T, .tup [.str k, tx m, reasonsD rs]] ∧ FOk F ∧ ToldOk F T ∧ m.Sublist F ∧ rs.length ≤ 1000 ∧ d = .bl (decide (k = "stuck") && (!decide (m = []) && fitR T m m rs))
theorem ok_f_shows_stuck (T : Txt w K mg) : Callee Pg w K mg base 4 "shows_stuck" ["fields", "told", "paper"] (spD K (preP 3 rel_f_shows_stuck)) := by
  have c_is_told_in := ok_f_is_told_in (Pg := Pg) (base := base) T
  have c_is_field_lot := ok_f_is_field_lot (Pg := Pg) (base := base) T
  have c_mask_in := ok_f_mask_in (Pg := Pg) (base := base) T
  have c_has_form := ok_f_has_form (Pg := Pg) (base := base) T
  have c_reasons_fit := ok_f_reasons_fit (Pg := Pg) (base := base) T
  refine T.calleeP (N := nm_f_shows_stuck) (st := s_f_shows_stuck) 65 47 rfl rfl sc_f_shows_stuck rfl (fun _ _ _ _ _ _ us hl => match us, hl with | [_, _, _], _ => rfl) fun cdv A outer s H E hr => ⟨_, (pss_cons (ps_if (PW.pt (pw_or (pt_not (pt_val (pe_callC c_is_field_lot hr (by rfl) (pa_cons (pv 0) pa_nil)))) (pw_or1 (pt_not (pt_val (pe_callC c_is_told_in hr (by rfl) (pa_cons (pv 0) (pa_cons (pv 1) pa_nil)))))))) (pss_one (ps_ret pe_bl)) pss_nil)
    (pss_cons (ps_if (PW.pt (pw_or (pt_not (pt_val (pe_callC c_has_form hr (by rfl) (pa_cons (pv 2) (pa_cons pe_str (pa_cons pe_int pa_nil)))))) (pw_or1 (pt_cmpR op_le (pe_callC c_mask_in hr (by rfl) (pa_cons (pv 0) (pa_cons (pe_ix (ix_seqK K) (pv 2) pe_int (fun _ _ => rfl)) pa_nil))) pe_int (nomark _))))) (pss_one (ps_ret pe_bl)) pss_nil)
    (pss_one (ps_ret (pe_callC c_reasons_fit hr (by rfl) (pa_cons (pv 1) (pa_cons (pe_ix (ix_seqK K) (pv 2) pe_int (fun _ _ => rfl)) (pa_cons (pe_ix (ix_seqK K) (pv 2) pe_int (fun _ _ => rfl)) (pa_cons (pe_ix (ix_seqK K) (pv 2) pe_int (fun _ _ => rfl)) pa_nil))))))))), ?_⟩
  rintro ds d hn ⟨F, U, k, m, rs, rfl, hF, hT, hm, hrs, rfl⟩
  have hm6 := sub6 hF hm
  refine sw_seq (sw_if (c := false) (et_is (et_or (et_not (et_BD (ev_callP (ds := [tx F]) (ea_cons (ev_var rfl) ea_nil) rfl ⟨F, rfl, hF, rfl⟩))) fun _ => et_not (et_BD (ev_callP (ds := [tx F, casesD U]) (ea_cons (ev_var rfl) (ea_cons (ev_var rfl) ea_nil)) rfl ⟨F, U, rfl, hF, hT, rfl⟩))) rfl) nofun fun _ => sw_next ?_)
  refine sw_seq (sw_if (c := !decide (k = "stuck") || decide (m = [])) (et_is (et_or (et_not (et_BD (ev_callP (ds := [.tup [.str k, tx m, reasonsD rs], .str "stuck", .int 3]) (ea_cons (ev_var rfl) (ea_cons (ev_c (by exact rfl)) (ea_cons (ev_c (by exact rfl)) ea_nil))) rfl ⟨k, "stuck", [tx m, reasonsD rs], 3, rfl, by simp, rfl⟩))) fun _ => et_testD (evd_op (ev_callP (ds := [tx F, tx m]) (ea_cons (ev_var rfl) (ea_cons (evd_op (ev_var (d := .tup [.str k, tx m, reasonsD rs]) rfl) (ev_c (d := .int 1) rfl) (ops_ix (.inr rfl) rfl)) ea_nil)) rfl ⟨F, m, rfl, hF.sub, hm, rfl⟩) (ev_c (d := .int 0) rfl) ops_cmpI)) ?_) (fun hq => sw_ret (d := .bl false) (ev_c rfl) ?_) fun hq => sw_next ?_)
  · have h1 := msk_pos (hm.trans hF.sub)
    have h2 : decide (msk m ≤ 0) = !decide (msk m > 0) := by
      by_cases q : msk m ≤ 0
      · rw [decide_eq_true q, decide_eq_false (by omega)]; rfl
      · rw [decide_eq_false q, decide_eq_true (by omega)]; rfl
    rw [h2, h1, Bool.not_not]; rfl
  · by_cases h1 : k = "stuck"
    · have h2 : m = [] := by simpa [h1] using hq
      rw [decide_eq_true h2]; simp
    · rw [decide_eq_false h1]; rfl
  have hq1 : k = "stuck" ∧ m ≠ [] := by simpa [not_or] using hq
  refine sw_ret (ev_callP (ds := [casesD U, tx m, tx m, reasonsD rs]) (ea_cons (ev_var rfl) (ea_cons (evd_op (ev_var (d := .tup [.str k, tx m, reasonsD rs]) rfl) (ev_c (d := .int 1) rfl) (ops_ix (.inr rfl) rfl)) (ea_cons (evd_op (ev_var (d := .tup [.str k, tx m, reasonsD rs]) rfl) (ev_c (d := .int 1) rfl) (ops_ix (.inr rfl) rfl)) (ea_cons (evd_op (ev_var (d := .tup [.str k, tx m, reasonsD rs]) rfl) (ev_c (d := .int 2) rfl) (ops_ix (.inr rfl) rfl)) ea_nil)))) rfl ⟨U, m, m, rs, rfl, hT.len, hT.six hF, Nat.le_trans hm6 (by decide), hrs, rfl⟩) ?_
  rw [decide_eq_true hq1.1, decide_eq_false hq1.2]; rfl
end
end KH
namespace KH
open PySem PySem.Spec PyProof.Rows L2 DL M80
section
variable {Pg : Program} {w : World} {K : PySem.W.Frag} {mg : Str → Option Value} {base : Heap}
theorem et_truO {Γ : List Sl} {μ : Mem} {te : TE} {a : Addr} {ds : List Dat} (h : Ev K te Γ μ (fun z => z = .adr a)) (hm : (a, Mu.mls ds) ∈ μ) : EvB K (tTruth K te) Γ μ (!ds.isEmpty) := fun σ P H e x m Q q =>
  h σ P H e x m _ fun v P' H' s g r hr => by
    subst hr
    have r' : v = .ref a := r
    subst r'
    obtain ⟨_, xs, h1, ra⟩ := g.ok.get hm
    exact ⟨_, .inl ⟨xs, .of h1, (RpA.empty ra).symm⟩, q _ P' H' g rfl⟩
theorem srt_eq {l m : Lot} (hl : ∀ x ∈ l, x ∈ AB) (hm : m.Sublist AB) (h : ∀ x, x ∈ l ↔ x ∈ m) : srt l = m :=
  sub_ext ab_nodup (srt_sub l) hm fun x _ => (mem_srt hl).trans (h x)
theorem others_congr {F l m : Lot} (h : ∀ x, x ∈ l ↔ x ∈ m) : others F l = others F m := List.filter_congr fun x _ => by simp only [h x]
theorem others_srt {F l : Lot} (hl : ∀ x ∈ l, x ∈ AB) : others F (srt l) = others F l := others_congr fun _ => mem_srt hl
abbrev nm_f__law_common : List Str := ["one", "two", "field"]
theorem sc_f__law_common : FnScope nm_f__law_common ["one", "two"] (defScope s_f__law_common) := ⟨rfl, rfl, rfl, by decide +kernel, rfl, by decide +kernel, by decide +kernel⟩
def rel_f__law_common : List Dat → Dat → Prop := fun ds d => ∃ l m : List Nat, ds = [tx l, tx m] ∧ l.length ≤ 1000000 ∧ d = tx (l.filter fun c => decide (c ∈ m))
theorem ok_f__law_common (T : Txt w K mg) : Callee Pg w K mg base 1 "_law_common" ["one", "two"] (spD K (preP 2 rel_f__law_common)) := by
  refine T.calleeP (N := nm_f__law_common) (st := s_f__law_common) 71 53 rfl rfl sc_f__law_common rfl (fun _ _ _ _ _ _ us hl => match us, hl with | [_, _], _ => rfl) fun cdv A outer s H E hr => ⟨_, (pss_one (ps_ret (pe_joinK K pe_str (pe_lc (own := [("field", 2)]) rfl sc_f__law_common.nd (pi_str (pv 0)) (blkOk_by (N := nm_f__law_common) (sc := defScope s_f__law_common) (by decide +kernel)) (fun _ _ _ _ _ => by exact (pg_name (i := 2) sc_f__law_common.nd rfl (Or.inl rfl))) (fun _ _ _ _ _ => by exact (pts_one (pt_cmpR op_in_sign (pv 2) (pv 1) (by rfl)))) (fun _ _ _ _ _ => by exact (pv 2)))))), ?_⟩
  rintro ds d hn ⟨l, m, rfl, hz, rfl⟩
  refine sw_ret (ev_join (l := l.filter fun c => decide (c ∈ m)) (ev_c rfl) ?_ (Nat.le_trans (List.length_filter_le _ _) hz)) rfl
  exact ev_lc (xs := l) (φ := fun c => .str ⟨#[c]⟩) (ei_str (ev_var rfl)) trivial (fun c => decide (c ∈ m)) (fun c => .str ⟨#[c]⟩) (tg := [2]) (by decide) hz fun c hc => ⟨_, ga_name, et_testD (evd_op (ev_var rfl) (ev_var rfl) ops_inC), fun _ => ev_var rfl⟩
abbrev nm_f__law_less : List Str := ["one", "two", "field"]
theorem sc_f__law_less : FnScope nm_f__law_less ["one", "two"] (defScope s_f__law_less) := ⟨rfl, rfl, rfl, by decide +kernel, rfl, by decide +kernel, by decide +kernel⟩
def rel_f__law_less : List Dat → Dat → Prop := fun ds d => ∃ F l : Lot, ds = [tx F, tx l] ∧ F.length ≤ 1000 ∧ d = tx (others F l)
theorem ok_f__law_less (T : Txt w K mg) : Callee Pg w K mg base 1 "_law_less" ["one", "two"] (spD K (preP 2 rel_f__law_less)) := by
  refine T.calleeP (N := nm_f__law_less) (st := s_f__law_less) 72 54 rfl rfl sc_f__law_less rfl (fun _ _ _ _ _ _ us hl => match us, hl with | [_, _], _ => rfl) fun cdv A outer s H E hr => ⟨_, (pss_one (ps_ret (pe_joinK K pe_str (pe_lc (own := [("field", 2)]) rfl sc_f__law_less.nd (pi_str (pv 0)) (blkOk_by (N := nm_f__law_less) (sc := defScope s_f__law_less) (by decide +kernel)) (fun _ _ _ _ _ => by exact (pg_name (i := 2) sc_f__law_less.nd rfl (Or.inl rfl))) (fun _ _ _ _ _ => by exact (pts_one (pt_cmpR op_notIn_sign (pv 2) (pv 1) (by rfl)))) (fun _ _ _ _ _ => by exact (pv 2)))))), ?_⟩
  rintro ds d hn ⟨F, l, rfl, hF, rfl⟩
  refine sw_ret (ev_join (l := others F l) (ev_c rfl) ?_ (Nat.le_trans (List.length_filter_le _ _) (Nat.le_trans hF (by decide)))) rfl
  exact ev_lc (xs := F) (φ := fun c => .str ⟨#[c]⟩) (ei_str (ev_var rfl)) trivial (fun c => !decide (c ∈ l)) (fun c => .str ⟨#[c]⟩) (tg := [2]) (by decide) (Nat.le_trans hF (by decide)) fun c hc => ⟨_, ga_name, et_testD (evd_op (ev_var rfl) (ev_var rfl) ops_ninC), fun _ => ev_var rfl⟩
abbrev nm_f__law_part : List Str := ["one", "two", "field"]
theorem sc_f__law_part : FnScope nm_f__law_part ["one", "two"] (defScope s_f__law_part) := ⟨rfl, rfl, rfl, by decide +kernel, rfl, by decide +kernel, by decide +kernel⟩
def rel_f__law_part : List Dat → Dat → Prop := fun ds d => ∃ l m : Lot, ds = [tx l, tx m] ∧ l.length ≤ 1000 ∧ d = .bl (l.all fun x => decide (x ∈ m))
theorem ok_f__law_part (T : Txt w K mg) : Callee Pg w K mg base 1 "_law_part" ["one", "two"] (spD K (preP 2 rel_f__law_part)) := by
  have m_len := T.free 96 (x := "len") rfl
  refine T.calleeP (N := nm_f__law_part) (st := s_f__law_part) 73 55 rfl rfl sc_f__law_part rfl (fun _ _ _ _ _ _ us hl => match us, hl with | [_, _], _ => rfl) fun cdv A outer s H E hr => ⟨_, (pss_one (ps_ret (pe_cmpR op_eq (pe_callB (call_lenK K) (by rfl) m_len (by decide +kernel) (pa_cons (pe_lc (own := [("field", 2)]) rfl sc_f__law_part.nd (pi_str (pv 0)) (blkOk_by (N := nm_f__law_part) (sc := defScope s_f__law_part) (by decide +kernel)) (fun _ _ _ _ _ => by exact (pg_name (i := 2) sc_f__law_part.nd rfl (Or.inl rfl))) (fun _ _ _ _ _ => by exact (pts_one (pt_cmpR op_notIn_sign (pv 2) (pv 1) (by rfl)))) (fun _ _ _ _ _ => by exact (pv 2))) pa_nil)) pe_int (nomark _)))), ?_⟩
  rintro ds d hn ⟨l, m, rfl, hl, rfl⟩
  refine sw_ret (evd_is (evd_op (evd_cb (ea_cons (ev_lc (xs := l) (φ := fun c => .str ⟨#[c]⟩) (ei_str (ev_var rfl)) trivial (fun c => !decide (c ∈ m)) (fun c => .str ⟨#[c]⟩) (tg := [2]) (by decide) (Nat.le_trans hl (by decide)) fun c hc => ⟨_, ga_name, et_testD (evd_op (ev_var rfl) (ev_var rfl) ops_ninC), fun _ => ev_var rfl⟩) ea_nil) (cb_len (n := (l.filter fun c => !decide (c ∈ m)).length) (by show some _ = _; rw [List.length_map]) (Nat.le_trans (List.length_filter_le _ _) (Nat.le_trans hl (by decide))))) (ev_c (d := .int 0) rfl) ops_eqI) ?_) rfl
  refine congrArg Dat.bl (bool_eq ?_)
  rw [decide_eq_true_iff, List.all_eq_true]
  constructor
  · intro h x hx
    have h0 : (l.filter fun c => !decide (c ∈ m)) = [] := List.length_eq_zero_iff.mp (by omega)
    have := List.filter_eq_nil_iff.mp h0 x hx
    simpa using this
  · intro h
    have h0 : (l.filter fun c => !decide (c ∈ m)) = [] := List.filter_eq_nil_iff.mpr fun x hx => by simpa using h x hx
    rw [h0]; rfl
theorem key__law_lot_key (T : Txt w K mg) : ∃ f, mg "_law_lot_key" = some (.ref f) ∧ KeyFn Pg w K mg f := by
  obtain ⟨fd, F⟩ := T.def_ 74 (d := d_f__law_lot_key) rfl
  have m_len := T.free 96 (x := "len") rfl
  exact ⟨_, T.glo 56 (x := "_law_lot_key") rfl, key_call F (fun _ _ _ _ _ _ _ => rfl) (by decide +kernel) (fun _ _ => rfl) rfl rfl rfl m_len⟩
abbrev nm_f__law_sublots : List Str := ["fields", "lots", "field", "lot"]
theorem sc_f__law_sublots : FnScope nm_f__law_sublots ["fields"] (defScope s_f__law_sublots) := ⟨rfl, rfl, rfl, by decide +kernel, rfl, by decide +kernel, by decide +kernel⟩
def rel_f__law_sublots : List Dat → Dat → Prop := fun ds d => ∃ F : Lot, ds = [tx F] ∧ F.length ≤ 6 ∧ d = txs (partsL F)
theorem ok_f__law_sublots (T : Txt w K mg) : Callee Pg w K mg base 2 "_law_sublots" ["fields"] (spD K (preP 1 rel_f__law_sublots)) := by
  obtain ⟨f__law_lot_key, x__law_lot_key, c__law_lot_key⟩ := key__law_lot_key (Pg := Pg) T
  have m_sorted := T.free 101 (x := "sorted") rfl
  refine T.calleeP (N := nm_f__law_sublots) (st := s_f__law_sublots) 75 57 rfl rfl sc_f__law_sublots rfl (fun _ _ _ _ _ _ us hl => match us, hl with | [_], _ => rfl) fun cdv A outer s H E hr => ⟨_, (pss_cons (ps_set (i := 1) sc_f__law_sublots.nd rfl (Or.inl rfl) (pe_lst (pa_cons pe_str pa_nil)))
    (pss_cons (ps_for PassesOwn.never rfl (pi_str (pv 0)) (pg_name (i := 2) sc_f__law_sublots.nd rfl (Or.inr rfl)) (pss_one (ps_set (i := 1) sc_f__law_sublots.nd rfl (Or.inl rfl) (pe_op op_cat (pv 1) (pe_lc (own := [("lot", 3)]) rfl sc_f__law_sublots.nd (pi_listK K (pv 1)) (blkOk_by (N := nm_f__law_sublots) (sc := defScope s_f__law_sublots) (by decide +kernel)) (fun _ _ _ _ _ => by exact (pg_name (i := 3) sc_f__law_sublots.nd rfl (Or.inl rfl))) (fun _ _ _ _ _ => by exact pts_nil) (fun _ _ _ _ _ => by exact (pe_op op_add_str (pv 3) (pv 2))))))))
    (pss_one (ps_ret (pe_sortedK K c__law_lot_key x__law_lot_key hr m_sorted (pa_cons (pv 1) pa_nil)))))), ?_⟩
  rintro ds d hn ⟨F, rfl, h6, rfl⟩
  refine sw_seq (sw_asg (ev_lst (ds := [tx []]) (ea_cons (ev_c rfl) ea_nil) (by decide)) ?_)
  have hlen : ∀ i, (allL (F.take i)).length ≤ 64 := fun i => by
    rw [allL_len]; exact pow6 (Nat.le_trans (by rw [List.length_take]; omega) h6)
  have hel : ∀ i, ∀ l ∈ allL (F.take i), l.length ≤ 6 := fun i l hl => Nat.le_trans (allL_mem.mp hl).length_le (by rw [List.length_take]; omega)
  refine sw_seq (sw_for (ei_str (ev_var rfl)) (fun i Γ' μ' => μ' = [] ∧ ∃ s, Γ' = [.dat (tx F), .dat (txs (allL (F.take i))), s, .un]) ⟨rfl, _, rfl⟩ (fun _ _ _ _ _ => trivial) (fun i e Γ' μ' he hI => ?_) fun Γ' μ' hI => ?_)
  · obtain ⟨c, hc, rfl⟩ := chs_get he
    obtain ⟨rfl, s, rfl⟩ := hI
    refine ⟨[2], _, ga_name, sw_asg (evd_op (ev_var rfl) (ev_lc (xs := allL (F.take i)) (φ := tx) (ei_lst (ev_var rfl)) trivial (fun _ => true) (fun l => tx (l ++ [c])) (tg := [3]) (by decide) (Nat.le_trans (hlen i) (by decide)) fun l hl =>
      ⟨_, ga_name, et_yes, fun _ => evd_op (ev_var rfl) (ev_var rfl) (ops_addS ?_)⟩) (ops_cat ?_)) ⟨rfl, .dat (tx [c]), ?_⟩⟩
    · have := hel i l hl
      simp only [List.length_singleton]; omega
    · have := hlen i
      rw [List.length_map, List.length_map]
      rw [filter_yes]; omega
    · rw [take_snoc hc, allL_snoc]
      rw [filter_yes]
      simp [txs, stepL, Function.comp_def]
  · obtain ⟨rfl, s, rfl⟩ := hI
    rw [chs_len, List.take_length]
    refine sw_ret (ev_sortL (ls := allL F) (ea_cons (ev_var rfl) ea_nil) fun x hx => mil (Nat.le_trans (allL_mem.mp hx).length_le h6)) rfl
/-- what the law may be told: valid cases, not too many -/
structure CsOk (F : Lot) (T : List Case) : Prop where
  ok : ∀ c ∈ T, CaseOk F c
  len : T.length ≤ 1000
def barB (r : Lot) (f : Nat) (c : Case) : Bool := decide (f ∈ c.2) && decide (c.1.filter (fun x => decide (x ∈ r)) = [])
theorem ad_bars {T : List Case} {A r : Lot} {f : Nat} : (!decide (f ∈ r) && (!decide (f ∈ A) && !!(T.filter (barB r f)).isEmpty)) = ad T A r f := by
  refine bool_eq ?_
  rw [ad_iff]
  unfold Ad
  simp only [Bool.and_eq_true, Bool.not_eq_true', decide_eq_false_iff_not, Bool.not_not, List.isEmpty_iff]
  refine and_congr Iff.rfl (and_congr Iff.rfl ?_)
  rw [List.filter_eq_nil_iff]
  constructor
  · intro h c hc hf
    have h1 := h c hc
    unfold barB at h1
    rw [decide_eq_true hf, Bool.true_and, decide_eq_true_iff, List.filter_eq_nil_iff] at h1
    refine Classical.byContradiction fun q => h1 fun x hx z => q ⟨x, hx, of_decide_eq_true z⟩
  · intro h c hc hb
    unfold barB at hb
    rw [Bool.and_eq_true, decide_eq_true_iff, decide_eq_true_iff, List.filter_eq_nil_iff] at hb
    obtain ⟨x, h1, h2⟩ := h c hc hb.1
    exact hb.2 x h1 (decide_eq_true h2)
abbrev nm_f__law_listing : List Str := ["fields", "told", "without", "row", "count", "field", "bars", "case"]
theorem sc_f__law_listing : FnScope nm_f__law_listing ["fields", "told", "without"] (defScope s_f__law_listing) := ⟨rfl, rfl, rfl, by decide +kernel, rfl, by decide +kernel, by decide +kernel⟩
def rel_f__law_listing : List Dat → Dat → Prop := fun ds d => ∃ (F : Lot) (T : List Case) (A : Lot), ds = [tx F, casesD T, tx A] ∧ FOk F ∧ CsOk F T ∧ d = tx (srt (walk F T A))
theorem ok_f__law_listing (T : Txt w K mg) : Callee Pg w K mg base 2 "_law_listing" ["fields", "told", "without"] (spD K (preP 3 rel_f__law_listing)) := by
  have c__law_common := ok_f__law_common (Pg := Pg) (base := base) T
  have m_len := T.free 96 (x := "len") rfl
  have m_range := T.free 100 (x := "range") rfl
  have m_sorted := T.free 101 (x := "sorted") rfl
  refine T.calleeP (N := nm_f__law_listing) (st := s_f__law_listing) 78 60 rfl rfl sc_f__law_listing rfl (fun _ _ _ _ _ _ us hl => match us, hl with | [_, _, _], _ => rfl) fun cdv A outer s H E hr => ⟨_, (pss_cons (ps_set (i := 3) sc_f__law_listing.nd rfl (Or.inr rfl) pe_str)
    (pss_cons (ps_for PassesOwn.never rfl (pi_range1 (by rfl) m_range (pa_cons (pe_callB (call_lenK K) (by rfl) m_len (by decide +kernel) (pa_cons (pv 0) pa_nil)) pa_nil)) (pg_name (i := 4) sc_f__law_listing.nd rfl (Or.inl rfl)) (pss_one (ps_for PassesOwn.never rfl (pi_str (pv 0)) (pg_name (i := 5) sc_f__law_listing.nd rfl (Or.inr rfl)) (pss_cons (ps_setLc (i := 6) (own := [("case", 7)]) rfl sc_f__law_listing.nd rfl rfl (sw_true rfl rfl rfl (by decide +kernel)) (pi_listK K (pv 1)) (blkOk_by (N := nm_f__law_listing) (sc := defScope s_f__law_listing) (by decide +kernel)) (fun _ _ _ _ _ => by exact (pg_name (i := 7) sc_f__law_listing.nd rfl (Or.inl rfl))) (fun _ _ _ _ _ => by exact (pts_one (PW.pt (pw_and (pt_cmpR op_in_sign (pv 5) (pe_ix (ix_seqK K) (pv 7) pe_int (fun _ _ => rfl)) (by rfl)) (pw_and1 (pt_cmpR op_eq (pe_callC c__law_common hr (by rfl) (pa_cons (pe_ix (ix_seqK K) (pv 7) pe_int (fun _ _ => rfl)) (pa_cons (pv 3) pa_nil))) pe_str (nomark _))))))) (fun _ _ _ _ _ => by exact (pv 7)))
    (pss_one (ps_if (PW.pt (pw_and (pt_cmpR op_notIn_sign (pv 5) (pv 3) (by rfl)) (pw_and (pt_cmpR op_notIn_sign (pv 5) (pv 2) (by rfl)) (pw_and1 (pt_not (pt_truthK K (pv 6))))))) (pss_one (ps_set (i := 3) sc_f__law_listing.nd rfl (Or.inr rfl) (pe_op op_add_str (pv 3) (pv 5)))) pss_nil))))))
    (pss_one (ps_ret (pe_joinK K pe_str (pe_callB (cr_sortedStr rfl) (by rfl) m_sorted (by decide +kernel) (pa_cons (pv 3) pa_nil))))))), ?_⟩
  rintro ds d hn ⟨F, U, A, rfl, hF, hT, rfl⟩
  have hlF := hF.len
  refine sw_seq (sw_asg (ev_c (d := tx []) rfl) ?_)
  refine sw_seq (sw_for (ei_rng1D (n := (F.length : Nat)) (ea_cons (evd_cb (ea_cons (ev_var rfl) ea_nil) (cb_len (n := F.length) (by show some _ = _; rw [len_tx]) (by omega))) ea_nil) (by omega) (by omega)) (fun i Γ' μ' => μ' = [] ∧ ∃ r, Lg F U A r ∧ (Mx F U A r ∨ i ≤ r.length) ∧ ∃ s4 s5 s6, Γ' = [.dat (tx F), .dat (casesD U), .dat (tx A), .dat (tx r), s4, s5, s6, .un]) ⟨rfl, [], .nil, .inr (Nat.zero_le _), _, _, _, rfl⟩ (fun _ _ _ _ _ => trivial) (fun i e Γ' μ' he hI => ?_) fun Γ' μ' hI => ?_)
  · obtain ⟨rfl, r0, hlg, hmx, s4, s5, s6, rfl⟩ := hI
    refine ⟨_, _, ga_name, ?_⟩
    refine sw_for (ei_str (ev_var rfl)) (fun j Γ' μ' => μ' = [] ∧ ∃ r, Lg F U A r ∧ (Mx F U A r0 → r = r0) ∧ ((r = r0 ∧ ∀ x ∈ F.take j, ad U A r0 x = false) ∨ r0.length < r.length) ∧ ∃ s5 s6, Γ' = [.dat (tx F), .dat (casesD U), .dat (tx A), .dat (tx r), .dat e, s5, s6, .un]) ⟨rfl, r0, hlg, fun _ => rfl, .inl ⟨rfl, fun x hx => nomatch hx⟩, _, _, rfl⟩ (fun _ _ _ _ _ => trivial) (fun j e' Γ' μ' he' hI => ?_) fun Γ' μ' hI => ?_
    · obtain ⟨f, hf, rfl⟩ := chs_get he'
      have hfF := List.mem_of_getElem? hf
      obtain ⟨rfl, r, hlg, hmx0, hst, s5, s6, rfl⟩ := hI
      have hr6 : r.length ≤ 6 := Nat.le_trans (len_le hlg.nodup hlg.sub) hF.len
      refine ⟨_, _, ga_name, ?_⟩
      refine sw_seq (sw_asg (ev_lc (xs := U) (φ := caseD) (ei_lst (ev_var rfl)) trivial (barB r f) caseD (tg := [7]) (by decide) (Nat.le_trans hT.len (by decide)) fun c hc => ⟨_, ga_name, et_and (et_testD (evd_op (ev_var rfl) (evd_op (ev_var (d := caseD c) rfl) (ev_c (d := .int 1) rfl) (ops_ix (d := tx c.2) (.inr rfl) rfl)) ops_inC)) fun _ => et_testD (evd_op (ev_callP (ds := [tx c.1, tx r]) (ea_cons (evd_op (ev_var (d := caseD c) rfl) (ev_c (d := .int 0) rfl) (ops_ix (d := tx c.1) (.inr rfl) rfl)) (ea_cons (ev_var rfl) ea_nil)) rfl ⟨c.1, r, rfl, mil (sub6 hF (hT.ok c hc).l1), rfl⟩) (ev_c (d := tx []) rfl) ops_eqT), fun _ => ev_var rfl⟩) ?_)
      refine sw_if (c := ad U A r f) (et_is (et_and (et_testD (evd_op (ev_var (d := tx [f]) rfl) (ev_var (d := tx r) rfl) ops_ninC)) fun _ => et_and (et_testD (evd_op (ev_var (d := tx [f]) rfl) (ev_var (d := tx A) rfl) ops_ninC)) fun _ => et_not (et_tru (ev_var rfl) trivial)) ?_) (fun hq => ?_) fun hq => sw_next ⟨rfl, r, hlg, hmx0, ?_, _, _, rfl⟩
      · show (!decide (f ∈ r) && (!decide (f ∈ A) && !!((U.filter (barB r f)).map caseD).isEmpty)) = _
        rw [List.isEmpty_map]; exact ad_bars
      · have had := ad_iff.mp hq
        refine sw_asg (evd_op (ev_var (d := tx r) rfl) (ev_var (d := tx [f]) rfl) (ops_addS (by simp only [List.length_singleton]; omega))) ⟨rfl, r ++ [f], .snoc hlg hfF had, fun m => ?_, .inr ?_, _, _, rfl⟩
        · have e := hmx0 m
          exact absurd (e ▸ had) (m f hfF)
        · rw [List.length_append, List.length_singleton]
          rcases hst with ⟨e, _⟩ | h
          · rw [e]; omega
          · omega
      · rcases hst with ⟨rfl, h⟩ | h
        · refine .inl ⟨rfl, fun x hx => ?_⟩
          rw [take_snoc hf, List.mem_append, List.mem_singleton] at hx
          rcases hx with hx | rfl
          · exact h x hx
          · exact hq
        · exact .inr h
    · obtain ⟨rfl, r, hlg, hmx0, hst, s5, s6, rfl⟩ := hI
      rw [chs_len, List.take_length] at hst
      refine ⟨rfl, r, hlg, ?_, _, _, _, rfl⟩
      rcases hst with ⟨rfl, h⟩ | h
      · refine .inl fun f hf z => ?_
        have := h f hf
        rw [ad_iff.mpr z] at this; cases this
      · rcases hmx with m | m
        · exact absurd (hmx0 m) (fun e => by rw [e] at h; exact Nat.lt_irrefl _ h)
        · exact .inr (by omega)
  · obtain ⟨rfl, r, hlg, hmx, s4, s5, s6, rfl⟩ := hI
    have hr6 : r.length ≤ 6 := Nat.le_trans (len_le hlg.nodup hlg.sub) hF.len
    have hr3 : ∀ x ∈ r, x ∈ AB := fun x hx => hF.sub.subset (hlg.sub x hx)
    have hm : Mx F U A r := by
      rcases hmx with m | m
      · exact m
      · rw [rgD_len] at m
        intro f hf z
        exact z.1 (all_of_len hlg.nodup hlg.sub (by omega) f hf)
    refine sw_ret (ev_join (l := srt r) (ev_c rfl) (evd_cb (ea_cons (ev_var rfl) ea_nil) (cb_sortStr hlg.nodup hr3 (by omega))) (mil (len6 (srt_sub r)))) ?_
    have : srt r = srt (walk F U A) := srt_eq hr3 (srt_sub _) fun x => (same_of hlg hm x).trans (mem_srt (fun y hy => hF.sub.subset (walk_lg.sub y hy))).symm
    rw [this]
abbrev nm_f__law_why : List Str := ["told", "closure", "lot", "found", "field", "fits", "at", "case"]
theorem sc_f__law_why : FnScope nm_f__law_why ["told", "closure", "lot"] (defScope s_f__law_why) := ⟨rfl, rfl, rfl, by decide +kernel, rfl, by decide +kernel, by decide +kernel⟩
def rel_f__law_why : List Dat → Dat → Prop := fun ds d => ∃ (T : List Case) (m l : Lot), ds = [casesD T, tx m, tx l] ∧ T.length ≤ 1000 ∧ (∀ c ∈ T, c.1.length ≤ 6) ∧ l.length ≤ 6 ∧ (∀ f ∈ l, ∃ c ∈ T, fitB f m c = true) ∧ d = reasonsD (whyL T l m)
theorem ok_f__law_why (T : Txt w K mg) : Callee Pg w K mg base 2 "_law_why" ["told", "closure", "lot"] (spD K (preP 3 rel_f__law_why)) := by
  have c__law_part := ok_f__law_part (Pg := Pg) (base := base) T
  have m_enumerate := T.free 92 (x := "enumerate") rfl
  have m_tuple := T.free 104 (x := "tuple") rfl
  refine T.calleeP (N := nm_f__law_why) (st := s_f__law_why) 82 64 rfl rfl sc_f__law_why rfl (fun _ _ _ _ _ _ us hl => match us, hl with | [_, _, _], _ => rfl) fun cdv A outer s H E hr => ⟨_, (pss_cons (ps_set (i := 3) sc_f__law_why.nd rfl (Or.inl rfl) (pe_lst pa_nil))
    (pss_cons (ps_for PassesOwn.never rfl (pi_str (pv 2)) (pg_name (i := 4) sc_f__law_why.nd rfl (Or.inr rfl)) (pss_cons (ps_setLc (i := 5) (own := [("at", 6), ("case", 7)]) rfl sc_f__law_why.nd rfl rfl (sw_true rfl rfl rfl (by decide +kernel)) (pi_enumK K (by rfl) m_enumerate (pa_cons (pv 0) pa_nil)) (blkOk_by (N := nm_f__law_why) (sc := defScope s_f__law_why) (by decide +kernel)) (fun _ _ _ _ _ => by exact (pg_tupK K 2 (pgs_cons (pg_name (i := 6) sc_f__law_why.nd rfl (Or.inl rfl)) (pgs_cons (pg_name (i := 7) sc_f__law_why.nd rfl (Or.inl rfl)) pgs_nil)))) (fun _ _ _ _ _ => by exact (pts_one (PW.pt (pw_and (pt_cmpR op_in_sign (pv 4) (pe_ix (ix_seqK K) (pv 7) pe_int (fun _ _ => rfl)) (by rfl)) (pw_and1 (pt_val (pe_callC c__law_part hr (by rfl) (pa_cons (pe_ix (ix_seqK K) (pv 7) pe_int (fun _ _ => rfl)) (pa_cons (pv 1) pa_nil))))))))) (fun _ _ _ _ _ => by exact (pv 6)))
    (pss_one (ps_expr (pe_appendK K (pv 3) (pa_cons (pe_tup (pa_cons (pv 4) (pa_cons (pe_ix (ix_seqK K) (pv 5) pe_int (fun _ _ => rfl)) pa_nil))) pa_nil))))))
    (pss_one (ps_ret (pe_callTy (call_tuple_ofK K) (by rfl) m_tuple (by decide +kernel) (pa_cons (pv 3) pa_nil)))))), ?_⟩
  rintro ds d hn ⟨U, m, l, rfl, hz, h6, hl, hex, rfl⟩
  refine sw_seq (sw_newL fun a ha => ?_)
  refine sw_seq (sw_for (ei_str (ev_var rfl)) (fun i Γ' μ' => μ' = [(a, .mls ((whyL U (l.take i) m).map pairD))] ∧ ∃ s4 s5, Γ' = [.dat (casesD U), .dat (tx m), .dat (tx l), .adr a, s4, s5, .un, .un]) ⟨rfl, _, _, rfl⟩ (fun _ _ _ _ _ => trivial) (fun i e Γ' μ' he hI => ?_) fun Γ' μ' hI => ?_)
  · obtain ⟨f, hf, rfl⟩ := chs_get he
    have hfl := List.mem_of_getElem? hf
    obtain ⟨rfl, s4, s5, rfl⟩ := hI
    refine ⟨_, _, ga_name, ?_⟩
    refine sw_seq (sw_asg (evd_is (ev_lc (xs := en U) (φ := fun p => .tup [.int (p.1 : Nat), caseD p.2]) (show EvI K _ _ _ _ (fun z => z = _) from en_enD U ▸ ei_enum (ea_cons (ev_var rfl) ea_nil)) trivial (fun p => fitB f m p.2) (fun p => .int (p.1 : Nat)) (tg := [6] ++ ([7] ++ [])) (by decide) (by rw [en_len]; omega) fun p hp => ⟨_, ga_tup (gas_cons ga_name (gas_cons ga_name gas_nil)) rfl, et_and (et_testD (evd_op (ev_var (d := tx [f]) rfl) (evd_op (ev_var (d := caseD p.2) rfl) (ev_c (d := .int 1) rfl) (ops_ix (d := tx p.2.2) (.inr rfl) rfl)) ops_inC)) fun _ => et_BD (ev_callP (ds := [tx p.2.1, tx m]) (ea_cons (evd_op (ev_var (d := caseD p.2) rfl) (ev_c (d := .int 0) rfl) (ops_ix (d := tx p.2.1) (.inr rfl) rfl)) (ea_cons (ev_var rfl) ea_nil)) rfl ⟨p.2.1, m, rfl, ?_, rfl⟩), fun _ => ev_var rfl⟩) (d2 := .lst ((fits U f m).map fun i => Dat.int ((i : Nat) : Int))) ?_) ?_)
    · exact Nat.le_trans (h6 _ (List.mem_of_getElem? (en_mem.mp (show (p.1, p.2) ∈ en U from hp)))) (by decide)
    · unfold fits; rw [List.map_map]; rfl
    · have hix : atI ((fits U f m).map fun i => Dat.int ((i : Nat) : Int)) 0 = some (.int (ixR U f m : Nat)) := by
        have h0 := fits_head (hex f hfl)
        have hlt : 0 < (fits U f m).length := (List.getElem?_eq_some_iff.mp h0).1
        unfold atI ixN
        rw [List.length_map, if_pos (by omega), if_pos (by omega)]
        show ((fits U f m).map fun i => Dat.int ((i : Nat) : Int))[(0 : Int).toNat]? = _
        rw [List.getElem?_map]
        show ((fits U f m)[0]?).map _ = _
        rw [h0]; rfl
      refine sw_append (ev_adr rfl) (ev_tup (ds := [tx [f], .int (ixR U f m : Nat)]) (ea_cons (ev_var rfl) (ea_cons (evd_op (ev_var rfl) (ev_c (d := .int 0) rfl) (ops_ix (.inl rfl) hix)) ea_nil)) (by simp)) (.head _) ?_ (by simp) ⟨?_, _, _, rfl⟩
      · unfold whyL
        rw [List.length_map, List.length_map, List.length_take]; omega
      · rw [setMu_one, take_snoc hf]
        unfold whyL
        rw [List.map_append, List.map_append]; rfl
  · obtain ⟨rfl, s4, s5, rfl⟩ := hI
    rw [chs_len, List.take_length]
    refine sw_freeze (j := 3) rfl (.head _) ?_
    have e0 : dropMu [(a, Mu.mls ((whyL U l m).map pairD))] a = [] := by simp [dropMu]
    rw [e0]
    exact sw_ret (evd_cb (ea_cons (ev_var rfl) ea_nil) (cb_tup (.inl rfl))) rfl
/-! ### verdicts -/
abbrev Ver := Case × Bool
def verD (v : Ver) : Dat := .tup [caseD v.1, .bl v.2]
def versD (V : List Ver) : Dat := .lst (V.map verD)
def yesL (V : List Ver) : List Case := (V.filter fun v => v.2 && !decide (v.1.2 = [])).map (·.1)
def noL (V : List Ver) : List Case := (V.filter fun v => !v.2 && !decide (v.1.1 = [])).map (·.1)
theorem yesL_snoc (V : List Ver) (c : Case) (y : Bool) : yesL (V ++ [(c, y)]) = yesL V ++ (if y && !decide (c.2 = []) then [c] else []) := by
  unfold yesL
  rw [List.filter_append, List.map_append, List.filter_cons]
  split <;> simp_all
theorem noL_snoc (V : List Ver) (c : Case) (y : Bool) : noL (V ++ [(c, y)]) = noL V ++ (if !y && !decide (c.1 = []) then [c] else []) := by
  unfold noL
  rw [List.filter_append, List.map_append, List.filter_cons]
  split <;> simp_all
theorem yesL_mem {V : List Ver} {c : Case} (h : c ∈ yesL V) : (c, true) ∈ V ∧ c.2 ≠ [] := by
  unfold yesL at h
  obtain ⟨⟨c', y⟩, h1, rfl⟩ := List.mem_map.mp h
  obtain ⟨h2, h3⟩ := List.mem_filter.mp h1
  rw [Bool.and_eq_true] at h3
  obtain ⟨h4, h5⟩ := h3
  have h4' : y = true := h4
  subst h4'
  exact ⟨h2, by simpa using h5⟩
theorem yesL_len {V : List Ver} : (yesL V).length ≤ V.length := by
  unfold yesL; rw [List.length_map]; exact List.length_filter_le _ _
theorem noL_len {V : List Ver} : (noL V).length ≤ V.length := by
  unfold noL; rw [List.length_map]; exact List.length_filter_le _ _
structure VOk (F : Lot) (V : List Ver) : Prop where
  ok : ∀ v ∈ V, CaseOk F v.1
  len : V.length ≤ 900
theorem VOk.cs {F : Lot} {V : List Ver} (h : VOk F V) : CsOk F (yesL V) := ⟨fun c hc => h.ok _ (yesL_mem hc).1, Nat.le_trans yesL_len (Nat.le_trans h.len (by decide))⟩
/-- a verdict in two names -/
theorem ga_ver {g1 g2 : Nat} {v : Ver} {Γ : List Sl} : GA K (gTup K 2 (gCons (gName g1) (gCons (gName g2) gNil))) ([g1] ++ ([g2] ++ [])) (verD v) Γ ((Γ.set g1 (.dat (caseD v.1))).set g2 (.dat (.bl v.2))) := ga_tup (gas_cons ga_name (gas_cons ga_name gas_nil)) rfl
abbrev nm_f__law_yes_list : List Str := ["verdicts", "case", "yes"]
theorem sc_f__law_yes_list : FnScope nm_f__law_yes_list ["verdicts"] (defScope s_f__law_yes_list) := ⟨rfl, rfl, rfl, by decide +kernel, rfl, by decide +kernel, by decide +kernel⟩
def pre_f__law_yes_list : List Sl → Mem → (Sl → Mem → Prop) → Prop := fun ss μ R => ∃ V : List Ver, V.length ≤ 1000 ∧ R (.dat (casesD (yesL V))) μ ∧ ((ss = [.dat (versD V)] ∧ μ = []) ∨ ∃ a, ss = [.adr a] ∧ μ = [(a, .mls (V.map verD))])
theorem ok_f__law_yes_list (T : Txt w K mg) : Callee Pg w K mg base 1 "_law_yes_list" ["verdicts"] (spD K pre_f__law_yes_list) := by
  refine T.callee (N := nm_f__law_yes_list) (st := s_f__law_yes_list) 83 65 rfl rfl sc_f__law_yes_list ?_ (fun _ _ _ _ _ _ us hl => match us, hl with | [_], _ => rfl) fun fd cdv A outer s H E hr => ⟨_, (pss_one (ps_ret (pe_lc (own := [("case", 1), ("yes", 2)]) rfl sc_f__law_yes_list.nd (pi_listK K (pv 0)) (blkOk_by (N := nm_f__law_yes_list) (sc := defScope s_f__law_yes_list) (by decide +kernel)) (fun _ _ _ _ _ => by exact (pg_tupK K 2 (pgs_cons (pg_name (i := 1) sc_f__law_yes_list.nd rfl (Or.inl rfl)) (pgs_cons (pg_name (i := 2) sc_f__law_yes_list.nd rfl (Or.inl rfl)) pgs_nil)))) (fun _ _ _ _ _ => by exact (pts_one (PW.pt (pw_and (pt_val (pv 2)) (pw_and1 (pt_cmpR op_ne (pe_ix (ix_seqK K) (pv 1) pe_int (fun _ _ => rfl)) pe_str (nomark _))))))) (fun _ _ _ _ _ => by exact (pv 1))))), ?_⟩
  · rintro ss μ R ⟨V, hz, hR, h⟩
    rcases h with ⟨rfl, _⟩ | ⟨a, rfl, _⟩ <;> rfl
  rintro ss μ R ⟨V, hz, hR, h⟩
  have hb : ∀ (Γ : List Sl), Γ.length = 3 → ∀ v ∈ V, ∃ Γ2, GA K (gTup K 2 (gCons (gName 1) (gCons (gName 2) gNil))) ([1] ++ ([2] ++ [])) (verD v) (wipeS Γ [1, 2]) Γ2 ∧ (Γ2[1]? = some (.dat (caseD v.1)) ∧ Γ2[2]? = some (.dat (.bl v.2))) := fun Γ hΓ v hv => ⟨_, ga_ver, by simp [wipeS, hΓ]⟩
  have key : ∀ {Wt : Mem → Prop} {Γ : List Sl} {μ : Mem} {wi : TI}, Γ.length = 3 → Wt μ → EvI K wi Γ μ Wt (fun z => z = V.map verD) → EvD K (tLc wi (gTup K 2 (gCons (gName 1) (gCons (gName 2) gNil))) (tAnd (tB (tVar 2)) (tTest (tOp rNe (tOp (rIx K) (tVar 1) (tC (.int 1))) (tC (.str ""))))) (tVar 1) [1, 2]) Γ μ (casesD (yesL V)) := by
    intro Wt Γ μ wi hΓ hW hi
    refine evd_is (ev_lc (xs := V) (φ := verD) hi hW (fun v => v.2 && !decide (v.1.2 = [])) (fun v => caseD v.1) (tg := [1] ++ ([2] ++ [])) (by decide) (Nat.le_trans hz (by decide)) fun v hv => ?_) ?_
    · obtain ⟨Γ2, h1, h2, h3⟩ := hb Γ hΓ v hv
      exact ⟨Γ2, h1, et_and (et_BD (ev_var h3)) fun _ => et_testD (evd_op (evd_op (ev_var h2) (ev_c (d := .int 1) rfl) (ops_ix (d := tx v.1.2) (.inr rfl) rfl)) (ev_c (d := tx []) rfl) ops_neT), fun _ => ev_var h2⟩
    · unfold casesD yesL
      rw [List.map_map]; rfl
  rcases h with ⟨rfl, rfl⟩ | ⟨a, rfl, rfl⟩
  · exact sw_ret (key rfl trivial (ei_lst (ev_var rfl))) hR
  · exact sw_ret (key (Wt := fun μ2 => (a, Mu.mls (V.map verD)) ∈ μ2) rfl (.head _) (ei_own (ev_adr rfl) (.head _))) hR
end
end KH
namespace KH
open PySem PySem.Spec PyProof.Rows L2 DL M80
section
variable {Pg : Program} {w : World} {K : PySem.W.Frag} {mg : Str → Option Value} {base : Heap}
/-- what the law says must come -/
def dueD (F : Lot) (V : List Ver) (c : Case) (y : Bool) : Dat :=
  if y = true ∧ c.1 = [] then .tup [.str "never", caseD c] else if y = false ∧ c.1 ≠ [] ∧ c.2 = [] then .tup [.str "plain", caseD c]
  else if cl F (yesL (V ++ [(c, y)])) [] ≠ [] then stuckP F (yesL (V ++ [(c, y)]))
  else match (V ++ [(c, y)]).find? (fun v => !v.2 && heldB F (yesL (V ++ [(c, y)])) v.1) with
    | some v => saidP F (yesL (V ++ [(c, y)])) v.1
    | none => .non
theorem lst_cl {F A : Lot} {T : List Case} (hF : FOk F) : others F (srt (walk F T A)) = cl F T A := others_srt fun x hx => hF.sub.subset (walk_lg.sub x hx)
theorem CsOk.six {F : Lot} {T : List Case} (hF : FOk F) (h : CsOk F T) : ∀ t ∈ T, t.1.length ≤ 6 := fun t ht => sub6 hF (h.ok t ht).l1
theorem VOk.snoc {F : Lot} {V : List Ver} {c : Case} {y : Bool} (h : VOk F V) (hc : CaseOk F c) (hz : V.length < 900) : VOk F (V ++ [(c, y)]) where
  ok := fun v hv => (List.mem_append.mp hv).elim (h.ok v) fun z => by rw [List.mem_singleton.mp z]; exact hc
  len := by rw [List.length_append, List.length_singleton]; omega
abbrev nm_f__law_due : List Str := ["fields", "verdicts", "case", "yes", "told", "stuck", "other", "said", "closure"]
theorem sc_f__law_due : FnScope nm_f__law_due ["fields", "verdicts", "case", "yes"] (defScope s_f__law_due) := ⟨rfl, rfl, rfl, by decide +kernel, rfl, by decide +kernel, by decide +kernel⟩
def pre_f__law_due : List Sl → Mem → (Sl → Mem → Prop) → Prop := fun ss μ R => ∃ (F : Lot) (V : List Ver) (c : Case) (y : Bool) (a : Addr), ss = [.dat (tx F), .adr a, .dat (caseD c), .dat (.bl y)] ∧ μ = [(a, .mls (V.map verD))] ∧ FOk F ∧ VOk F V ∧ V.length < 900 ∧ CaseOk F c ∧ R (.dat (dueD F V c y)) μ
theorem ok_f__law_due (T : Txt w K mg) : Callee Pg w K mg base 3 "_law_due" ["fields", "verdicts", "case", "yes"] (spD K pre_f__law_due) := by
  have c__law_yes_list := ok_f__law_yes_list (Pg := Pg) (base := base) T
  have c__law_less := ok_f__law_less (Pg := Pg) (base := base) T
  have c__law_listing := ok_f__law_listing (Pg := Pg) (base := base) T
  have c__law_why := ok_f__law_why (Pg := Pg) (base := base) T
  have c__law_part := ok_f__law_part (Pg := Pg) (base := base) T
  refine T.callee (N := nm_f__law_due) (st := s_f__law_due) 84 66 rfl rfl sc_f__law_due ?_ (fun _ _ _ _ _ _ us hl => match us, hl with | [_, _, _, _], _ => rfl) fun fd cdv A outer s H E hr => ⟨_, (pss_cons (ps_set (i := 4) sc_f__law_due.nd rfl (Or.inl rfl) (pe_callC c__law_yes_list hr (by rfl) (pa_cons (pe_op op_cat (pv 1) (pe_lst (pa_cons (pe_tup (pa_cons (pv 2) (pa_cons (pv 3) pa_nil))) pa_nil))) pa_nil)))
    (pss_cons (ps_if (PW.pt (pw_and (pt_val (pv 3)) (pw_and1 (pt_cmpR op_eq (pe_ix (ix_seqK K) (pv 2) pe_int (fun _ _ => rfl)) pe_str (nomark _))))) (pss_one (ps_ret (pe_tup (pa_cons pe_str (pa_cons (pv 2) pa_nil))))) pss_nil)
    (pss_cons (ps_if (PW.pt (pw_and (pt_not (pt_val (pv 3))) (pw_and (pt_cmpR op_ne (pe_ix (ix_seqK K) (pv 2) pe_int (fun _ _ => rfl)) pe_str (nomark _)) (pw_and1 (pt_cmpR op_eq (pe_ix (ix_seqK K) (pv 2) pe_int (fun _ _ => rfl)) pe_str (nomark _)))))) (pss_one (ps_ret (pe_tup (pa_cons pe_str (pa_cons (pv 2) pa_nil))))) pss_nil)
    (pss_cons (ps_set (i := 5) sc_f__law_due.nd rfl (Or.inl rfl) (pe_callC c__law_less hr (by rfl) (pa_cons (pv 0) (pa_cons (pe_callC c__law_listing hr (by rfl) (pa_cons (pv 0) (pa_cons (pv 4) (pa_cons pe_str pa_nil)))) pa_nil))))
    (pss_cons (ps_if (pt_cmpR op_ne (pv 5) pe_str (nomark _)) (pss_one (ps_ret (pe_tup (pa_cons pe_str (pa_cons (pv 5) (pa_cons (pe_callC c__law_why hr (by rfl) (pa_cons (pv 4) (pa_cons (pv 5) (pa_cons (pv 5) pa_nil)))) pa_nil)))))) pss_nil)
    (pss_cons (ps_for PassesOwn.never rfl (pi_listK K (pe_op op_cat (pv 1) (pe_lst (pa_cons (pe_tup (pa_cons (pv 2) (pa_cons (pv 3) pa_nil))) pa_nil)))) (pg_tupK K 2 (pgs_cons (pg_name (i := 6) sc_f__law_due.nd rfl (Or.inl rfl)) (pgs_cons (pg_name (i := 7) sc_f__law_due.nd rfl (Or.inl rfl)) pgs_nil))) (pss_one (ps_if (PW.pt (pw_and (pt_not (pt_val (pv 7))) (pw_and1 (pt_cmpR op_ne (pe_ix (ix_seqK K) (pv 6) pe_int (fun _ _ => rfl)) pe_str (nomark _))))) (pss_cons (ps_set (i := 8) sc_f__law_due.nd rfl (Or.inl rfl) (pe_callC c__law_less hr (by rfl) (pa_cons (pv 0) (pa_cons (pe_callC c__law_listing hr (by rfl) (pa_cons (pv 0) (pa_cons (pv 4) (pa_cons (pe_ix (ix_seqK K) (pv 6) pe_int (fun _ _ => rfl)) pa_nil)))) pa_nil))))
    (pss_one (ps_if (pt_val (pe_callC c__law_part hr (by rfl) (pa_cons (pe_ix (ix_seqK K) (pv 6) pe_int (fun _ _ => rfl)) (pa_cons (pv 8) pa_nil)))) (pss_one (ps_ret (pe_tup (pa_cons pe_str (pa_cons (pv 6) (pa_cons (pv 8) (pa_cons (pe_callC c__law_why hr (by rfl) (pa_cons (pv 4) (pa_cons (pv 8) (pa_cons (pe_callC c__law_less hr (by rfl) (pa_cons (pv 8) (pa_cons (pe_ix (ix_seqK K) (pv 6) pe_int (fun _ _ => rfl)) pa_nil))) pa_nil)))) pa_nil))))))) pss_nil))) pss_nil)))
    (pss_one (ps_ret pe_non)))))))), ?_⟩
  · rintro ss μ R ⟨F, V, c, y, a, rfl, rfl, hF, hV, hz, hc, hR⟩
    rfl
  rintro ss μ R ⟨F, V, c, y, a, rfl, rfl, hF, hV, hz, hc, hR⟩
  have hW := hV.snoc (y := y) hc hz
  have hU := hW.cs
  generalize hWd : V ++ [(c, y)] = W at hW hU
  generalize hUd : yesL W = U at hU
  have hlF := hF.len
  have hdue : dueD F V c y = if y = true ∧ c.1 = [] then .tup [.str "never", caseD c] else if y = false ∧ c.1 ≠ [] ∧ c.2 = [] then .tup [.str "plain", caseD c] else if cl F U [] ≠ [] then stuckP F U else match W.find? (fun v => !v.2 && heldB F U v.1) with
      | some v => saidP F U v.1
      | none => .non := by
    unfold dueD
    rw [hWd, hUd]
  have evW : ∀ {Γ : List Sl}, Γ[1]? = some (.adr a) → Γ[2]? = some (.dat (caseD c)) → Γ[3]? = some (.dat (.bl y)) → EvD K (tOp rCat (tVar 1) (tLst (tCons (tTup (tCons (tVar 2) (tCons (tVar 3) tNil))) tNil))) Γ [(a, Mu.mls (V.map verD))] (versD W) := fun h1 h2 h3 =>
    evd_is (ev_op (ev_adr h1) (ev_lst (ds := [verD (c, y)]) (ea_cons (ev_tup (ds := [caseD c, .bl y]) (ea_cons (ev_var h2) (ea_cons (ev_var h3) ea_nil)) (by simp)) ea_nil) (by simp)) fun sa sb e1 e2 => by
      subst e1; subst e2
      exact ops_catO (.head _) (by rw [List.length_map]; simp only [List.length_singleton]; omega)) (by rw [← hWd]; unfold versD; rw [List.map_append]; rfl)
  have evL : ∀ {Γ : List Sl} {te : TE} {A : Lot} {μ : Mem}, Γ[0]? = some (.dat (tx F)) → Γ[4]? = some (.dat (casesD U)) → EvD K te Γ μ (tx A) → EvD K (tCall (spD K (preP 2 rel_f__law_less)) [] E0 (tCons (tVar 0) (tCons (tCall (spD K (preP 3 rel_f__law_listing)) [] E0 (tCons (tVar 0) (tCons (tVar 4) (tCons te tNil)))) tNil))) Γ μ (tx (cl F U A)) := fun h1 h2 h3 =>
    ev_callP (ds := [tx F, tx (srt (walk F U _))]) (ea_cons (ev_var h1) (ea_cons (ev_callP (ds := [tx F, casesD U, tx _]) (ea_cons (ev_var h1) (ea_cons (ev_var h2) (ea_cons h3 ea_nil))) rfl ⟨F, U, _, rfl, hF, hU, rfl⟩) ea_nil)) rfl ⟨F, _, rfl, by omega, by rw [lst_cl hF]⟩
  refine sw_seq (sw_asg (d := casesD U) (ev_call (ss := [.dat (versD W)]) (ea_cons (evW rfl rfl rfl) ea_nil) ⟨W, Nat.le_trans hW.len (by decide), ⟨rfl, by rw [hUd]⟩, .inl ⟨rfl, rfl⟩⟩) ?_)
  refine sw_seq (sw_if (c := y && decide (c.1 = [])) (et_and (et_BD (ev_var rfl)) fun _ => et_testD (evd_op (evd_op (ev_var (d := caseD c) rfl) (ev_c (d := .int 0) rfl) (ops_ix (d := tx c.1) (.inr rfl) rfl)) (ev_c (d := tx []) rfl) ops_eqT)) (fun hq => ?_) fun hq => sw_next ?_)
  · have hq' : y = true ∧ c.1 = [] := by simpa using hq
    refine sw_ret (ev_tup (ds := [.str "never", caseD c]) (ea_cons (ev_c (by exact rfl)) (ea_cons (ev_var rfl) ea_nil)) (by simp)) ?_
    rw [hdue, if_pos hq'] at hR; exact hR
  have h1 : ¬ (y = true ∧ c.1 = []) := fun z => by rw [z.1, decide_eq_true z.2] at hq; cases hq
  rw [hdue, if_neg h1] at hR
  refine sw_seq (sw_if (c := !y && (!decide (c.1 = []) && decide (c.2 = []))) (et_and (et_not (et_BD (ev_var rfl))) fun _ => et_and (et_testD (evd_op (evd_op (ev_var (d := caseD c) rfl) (ev_c (d := .int 0) rfl) (ops_ix (d := tx c.1) (.inr rfl) rfl)) (ev_c (d := tx []) rfl) ops_neT)) fun _ => et_testD (evd_op (evd_op (ev_var (d := caseD c) rfl) (ev_c (d := .int 1) rfl) (ops_ix (d := tx c.2) (.inr rfl) rfl)) (ev_c (d := tx []) rfl) ops_eqT)) (fun hq => ?_) fun hq => sw_next ?_)
  · have hq' : y = false ∧ c.1 ≠ [] ∧ c.2 = [] := by simpa using hq
    refine sw_ret (ev_tup (ds := [.str "plain", caseD c]) (ea_cons (ev_c (by exact rfl)) (ea_cons (ev_var rfl) ea_nil)) (by simp)) ?_
    rw [if_pos hq'] at hR; exact hR
  have h2 : ¬ (y = false ∧ c.1 ≠ [] ∧ c.2 = []) := fun z => by simp [z.1, z.2.1, z.2.2] at hq
  rw [if_neg h2] at hR
  refine sw_seq (sw_asg (evL (A := []) rfl rfl (ev_c rfl)) ?_)
  refine sw_seq (sw_if (c := !decide (cl F U [] = [])) (et_testD (evd_op (ev_var rfl) (ev_c (d := tx []) rfl) ops_neT)) (fun hq => ?_) fun hq => sw_next ?_)
  · have hq' : cl F U [] ≠ [] := by simpa using hq
    rw [if_pos hq'] at hR
    refine sw_ret (ev_tup (ds := [.str "stuck", tx (cl F U []), reasonsD (whyL U (cl F U []) (cl F U []))]) (ea_cons (ev_c (by exact rfl)) (ea_cons (ev_var rfl) (ea_cons (ev_callP (ds := [casesD U, tx (cl F U []), tx (cl F U [])]) (ea_cons (ev_var rfl) (ea_cons (ev_var rfl) (ea_cons (ev_var rfl) ea_nil))) rfl ⟨U, _, _, rfl, hU.len, hU.six hF, sub6 hF cl_sub, ?_, rfl⟩) ea_nil))) (by simp)) hR
    have := why_ex (a := []) hU.ok
    rwa [others_nil] at this
  have h3 : ¬ cl F U [] ≠ [] := fun z => by simp [z] at hq
  rw [if_neg h3] at hR
  refine sw_seq (sw_for (ei_lst (evW rfl rfl rfl)) (fun i Γ' μ' => μ' = [(a, Mu.mls (V.map verD))] ∧ (∀ v ∈ W.take i, (!v.2 && heldB F U v.1) = false) ∧ ∃ s6 s7 s8, Γ' = [.dat (tx F), .adr a, .dat (caseD c), .dat (.bl y), .dat (casesD U), .dat (tx (cl F U [])), s6, s7, s8]) ⟨rfl, (fun v hv => nomatch hv), _, _, _, rfl⟩ (fun _ _ _ _ _ => trivial) (fun i e Γ' μ' he hI => ?_) fun Γ' μ' hI => ?_)
  · obtain ⟨⟨⟨p, b⟩, w⟩, hv, rfl⟩ := map_get he
    have hmem := List.mem_of_getElem? hv
    have hok : CaseOk F (p, b) := hW.ok _ hmem
    have hb6 := sub6 hF hok.l2
    obtain ⟨rfl, hno, s6, s7, s8, rfl⟩ := hI
    refine ⟨_, _, ga_ver, ?_⟩
    have hnext : (!w && heldB F U (p, b)) = false → ∀ v ∈ W.take (i + 1), (!v.2 && heldB F U v.1) = false := fun h v hv' => by
      rw [take_snoc hv, List.mem_append, List.mem_singleton] at hv'
      rcases hv' with hv' | rfl
      · exact hno v hv'
      · exact h
    refine sw_if (c := !w && !decide (p = [])) (et_and (et_not (et_BD (ev_var rfl))) fun _ => et_testD (evd_op (evd_op (ev_var (d := caseD (p, b)) rfl) (ev_c (d := .int 0) rfl) (ops_ix (d := tx p) (.inr rfl) rfl)) (ev_c (d := tx []) rfl) ops_neT)) (fun hq => ?_) fun hq => sw_next ⟨rfl, hnext ?_, _, _, _, rfl⟩
    · refine sw_seq (sw_asg (evL (A := p) rfl rfl (evd_op (ev_var (d := caseD (p, b)) rfl) (ev_c (d := .int 0) rfl) (ops_ix (.inr rfl) rfl))) ?_)
      have hq' : w = false ∧ p ≠ [] := by simpa using hq
      have hheld : (!w && heldB F U (p, b)) = b.all fun x => decide (x ∈ cl F U p) := by
        rw [hq'.1]
        unfold heldB
        rw [show decide ((p, b).1 = []) = false from decide_eq_false hq'.2]; rfl
      refine sw_if (c := b.all fun x => decide (x ∈ cl F U p)) (et_BD (ev_callP (ds := [tx b, tx (cl F U p)]) (ea_cons (evd_op (ev_var (d := caseD (p, b)) rfl) (ev_c (d := .int 1) rfl) (ops_ix (.inr rfl) rfl)) (ea_cons (ev_var rfl) ea_nil)) rfl ⟨b, _, rfl, Nat.le_trans hb6 (by decide), rfl⟩)) (fun hh => ?_) fun hh => sw_next ⟨rfl, hnext (by rw [hheld]; exact hh), _, _, _, rfl⟩
      have hfind : W.find? (fun v => !v.2 && heldB F U v.1) = some ((p, b), w) := by
        rw [List.find?_eq_some_iff_getElem]
        obtain ⟨hi, e⟩ := List.getElem?_eq_some_iff.mp hv
        refine ⟨by rw [hheld]; exact hh, i, hi, e, fun j hj => ?_⟩
        rw [hno W[j] (List.mem_take_iff_getElem.mpr ⟨j, by omega, rfl⟩)]; rfl
      rw [hfind] at hR
      have hcl6 : (cl F U p).length ≤ 6 := sub6 hF cl_sub
      refine sw_ret (ev_tup (ds := [.str "said", caseD (p, b), tx (cl F U p), reasonsD (whyL U (others (cl F U p) p) (cl F U p))]) (ea_cons (ev_c (by exact rfl)) (ea_cons (ev_var rfl) (ea_cons (ev_var rfl) (ea_cons (ev_callP (ds := [casesD U, tx (cl F U p), tx (others (cl F U p) p)]) (ea_cons (ev_var rfl) (ea_cons (ev_var rfl) (ea_cons (ev_callP (ds := [tx (cl F U p), tx p]) (ea_cons (ev_var rfl) (ea_cons (evd_op (ev_var (d := caseD (p, b)) rfl) (ev_c (d := .int 0) rfl) (ops_ix (.inr rfl) rfl)) ea_nil)) rfl ⟨_, _, rfl, Nat.le_trans hcl6 (by decide), rfl⟩) ea_nil))) rfl ⟨U, _, _, rfl, hU.len, hU.six hF, Nat.le_trans others_len hcl6, why_ex hU.ok, rfl⟩) ea_nil)))) (by simp)) hR
    · show (!w && heldB F U (p, b)) = false
      unfold heldB
      show (!w && (!decide (p = []) && _)) = false
      rw [← Bool.and_assoc, hq]; rfl
  · obtain ⟨rfl, hno, s6, s7, s8, rfl⟩ := hI
    rw [List.length_map, List.take_length] at hno
    have hfind : W.find? (fun v => !v.2 && heldB F U v.1) = none := List.find?_eq_none.mpr fun v hv => by rw [hno v hv]; exact nofun
    rw [hfind] at hR
    exact sw_ret (d := .non) (ev_c (by exact trivial)) hR
def isNonB : Dat → Bool
  | .non => true
  | _ => false
theorem ops_isNB {μ : Mem} {e : Dat} {b : Bool} (h : isNonB e = b) : OpS K μ (fun x y H Q => y = .non ∧ Q (.bl (decide (x = .non))) H) (.dat e) (.dat .non) (fun s => s = .dat (.bl b)) := ops_isN (neg := false) (by cases e <;> exact h)
abbrev nm_f__law_same_plain : List Str := ["x", "y"]
theorem sc_f__law_same_plain : FnScope nm_f__law_same_plain ["x", "y"] (defScope s_f__law_same_plain) := ⟨rfl, rfl, rfl, by decide +kernel, rfl, by decide +kernel, by decide +kernel⟩
def rel_f__law_same_plain : List Dat → Dat → Prop := fun ds d => ∃ e : Dat, ds = [e, e] ∧ scD e = true ∧ d = .bl true
theorem ok_f__law_same_plain (T : Txt w K mg) : Callee Pg w K mg base 1 "_law_same_plain" ["x", "y"] (spD K (preP 2 rel_f__law_same_plain)) := by
  have m_bool := T.free 90 (x := "bool") rfl
  have m_int := T.free 93 (x := "int") rfl
  have m_isinstance := T.free 94 (x := "isinstance") rfl
  have m_str := T.free 102 (x := "str") rfl
  refine T.calleeP (N := nm_f__law_same_plain) (st := s_f__law_same_plain) 80 62 rfl rfl sc_f__law_same_plain rfl (fun _ _ _ _ _ _ us hl => match us, hl with | [_, _], _ => rfl) fun cdv A outer s H E hr => ⟨_, (pss_cons (ps_if (PW.pt (pw_or (pt_cmpR op_isN (pv 1) pe_non (nomark _)) (pw_or1 (pt_cmpR op_isN (pv 0) pe_non (nomark _))))) (pss_one (ps_ret (pe_and (pe_cmpR op_isN (pv 0) pe_non (nomark _)) (pe_one (pe_cmpR op_isN (pv 1) pe_non (nomark _)))))) pss_nil)
    (pss_cons (ps_if (PW.pt (pw_or (pt_val (pe_callB (call_isiK' K) (by rfl) m_isinstance (by decide +kernel) (pa_cons (pv 0) (pa_cons (pe_bltn (v := .ty "bool") (by rfl) m_bool (by decide +kernel) rfl) pa_nil)))) (pw_or1 (pt_val (pe_callB (call_isiK' K) (by rfl) m_isinstance (by decide +kernel) (pa_cons (pv 1) (pa_cons (pe_bltn (v := .ty "bool") (by rfl) m_bool (by decide +kernel) rfl) pa_nil))))))) (pss_one (ps_ret (pe_and (pe_callB (call_isiK' K) (by rfl) m_isinstance (by decide +kernel) (pa_cons (pv 0) (pa_cons (pe_bltn (v := .ty "bool") (by rfl) m_bool (by decide +kernel) rfl) pa_nil))) (pe_and (pe_callB (call_isiK' K) (by rfl) m_isinstance (by decide +kernel) (pa_cons (pv 1) (pa_cons (pe_bltn (v := .ty "bool") (by rfl) m_bool (by decide +kernel) rfl) pa_nil))) (pe_one (pe_cmpR op_eq (pv 0) (pv 1) (nomark _))))))) pss_nil)
    (pss_cons (ps_if (pt_val (pe_callB (call_isiK' K) (by rfl) m_isinstance (by decide +kernel) (pa_cons (pv 1) (pa_cons (pe_bltn (v := .ty "int") (by rfl) m_int (by decide +kernel) rfl) pa_nil)))) (pss_one (ps_ret (pe_and (pe_callB (call_isiK' K) (by rfl) m_isinstance (by decide +kernel) (pa_cons (pv 0) (pa_cons (pe_bltn (v := .ty "int") (by rfl) m_int (by decide +kernel) rfl) pa_nil))) (pe_one (pe_cmpR op_eq (pv 0) (pv 1) (nomark _)))))) pss_nil)
    (pss_one (ps_ret (pe_and (pe_callB (call_isiK' K) (by rfl) m_isinstance (by decide +kernel) (pa_cons (pv 0) (pa_cons (pe_bltn (v := .ty "str") (by rfl) m_str (by decide +kernel) rfl) pa_nil))) (pe_and (pe_callB (call_isiK' K) (by rfl) m_isinstance (by decide +kernel) (pa_cons (pv 1) (pa_cons (pe_bltn (v := .ty "str") (by rfl) m_str (by decide +kernel) rfl) pa_nil))) (pe_one (pe_cmpR op_eq (pv 0) (pv 1) (nomark _)))))))))), ?_⟩
  rintro ds d hn ⟨e, rfl, he, rfl⟩
  have no : ∀ {b : Bool}, isNonB e = b → EvB K (tOr (tTest (tOp (fun x y H Q => y = .non ∧ Q (.bl (decide (x = .non))) H) (tVar 1) (tC .non))) (tTest (tOp (fun x y H Q => y = .non ∧ Q (.bl (decide (x = .non))) H) (tVar 0) (tC .non)))) [.dat e, .dat e] [] b := fun {b} hb =>
    et_is (et_or (et_testD (evd_op (ev_var (d := e) rfl) (ev_c (d := .non) (by exact trivial)) (ops_isNB hb))) fun _ => et_testD (evd_op (ev_var (d := e) rfl) (ev_c (d := .non) (by exact trivial)) (ops_isNB hb))) (by cases b <;> rfl)
  cases e with
  | non =>
    refine sw_seq (sw_if (c := true) (no rfl) (fun _ => ?_) nofun)
    exact sw_ret (evd_is (ev_and (evd_op (ev_var (d := .non) rfl) (ev_c (d := .non) (by exact trivial)) (ops_isN (neg := false) rfl)) fun _ => evd_op (ev_var (d := .non) rfl) (ev_c (d := .non) (by exact trivial)) (ops_isN (neg := false) rfl)) rfl) rfl
  | bl b =>
    refine sw_seq (sw_if (c := false) (no rfl) nofun fun _ => sw_next ?_)
    refine sw_seq (sw_if (c := true) (et_is (et_or (et_BD (ev_isi (n := "bool") (ev_var (d := .bl b) rfl) rfl rfl)) fun _ => et_BD (ev_isi (n := "bool") (ev_var (d := .bl b) rfl) rfl rfl)) rfl) (fun _ => ?_) nofun)
    exact sw_ret (evd_is (ev_and (ev_isi (n := "bool") (ev_var (d := .bl b) rfl) rfl rfl) fun _ => ev_and (ev_isi (n := "bool") (ev_var (d := .bl b) rfl) rfl rfl) fun _ => evd_op (ev_var (d := .bl b) rfl) (ev_var (d := .bl b) rfl) (ops_eq rfl)) (by simp)) rfl
  | int i =>
    refine sw_seq (sw_if (c := false) (no rfl) nofun fun _ => sw_next ?_)
    refine sw_seq (sw_if (c := false) (et_is (et_or (et_BD (ev_isi (n := "int") (ev_var (d := .int i) rfl) rfl rfl)) fun _ => et_BD (ev_isi (n := "int") (ev_var (d := .int i) rfl) rfl rfl)) rfl) nofun fun _ => sw_next ?_)
    refine sw_seq (sw_if (c := true) (et_BD (ev_isi (n := "int") (ev_var (d := .int i) rfl) rfl rfl)) (fun _ => ?_) nofun)
    exact sw_ret (evd_is (ev_and (ev_isi (n := "int") (ev_var (d := .int i) rfl) rfl rfl) fun _ => evd_op (ev_var (d := .int i) rfl) (ev_var (d := .int i) rfl) ops_eqI) (by simp)) rfl
  | str x =>
    refine sw_seq (sw_if (c := false) (no rfl) nofun fun _ => sw_next ?_)
    refine sw_seq (sw_if (c := false) (et_is (et_or (et_BD (ev_isi (n := "str") (ev_var (d := .str x) rfl) rfl rfl)) fun _ => et_BD (ev_isi (n := "str") (ev_var (d := .str x) rfl) rfl rfl)) rfl) nofun fun _ => sw_next ?_)
    refine sw_seq (sw_if (c := false) (et_BD (ev_isi (n := "str") (ev_var (d := .str x) rfl) rfl rfl)) nofun fun _ => sw_next ?_)
    exact sw_ret (evd_is (ev_and (ev_isi (n := "str") (ev_var (d := .str x) rfl) rfl rfl) fun _ => ev_and (ev_isi (n := "str") (ev_var (d := .str x) rfl) rfl rfl) fun _ => evd_op (ev_var (d := .str x) rfl) (ev_var (d := .str x) rfl) (ops_eq rfl)) (by simp)) rfl
  | lst _ => cases he
  | tup _ => cases he
  | dct _ => cases he
  | ins _ _ => cases he
/-! ### sizes of data -/
mutual
def szD : Dat → Nat
  | .lst xs => szL xs + 1
  | .tup xs => szL xs + 1
  | _ => 1
def szL : List Dat → Nat
  | [] => 0
  | x :: r => szD x + szL r
end
mutual
def flD : Dat → Bool
  | .lst xs => flL xs
  | .tup xs => flL xs
  | .dct _ => false
  | .ins _ _ => false
  | _ => true
def flL : List Dat → Bool
  | [] => true
  | x :: r => flD x && flL r
end
theorem szL_append : ∀ l m : List Dat, szL (l ++ m) = szL l + szL m
  | [], m => by simp [szL]
  | x :: l, m => by rw [List.cons_append]; simp only [szL]; rw [szL_append l m]; omega
theorem flL_append : ∀ l m : List Dat, flL (l ++ m) = (flL l && flL m)
  | [], m => by simp [flL]
  | x :: l, m => by rw [List.cons_append]; simp only [flL]; rw [flL_append l m, Bool.and_assoc]
theorem szD_pos : ∀ d : Dat, 1 ≤ szD d
  | .lst _ => by simp [szD]
  | .tup _ => by simp [szD]
  | .non => by simp [szD]
  | .bl _ => by simp [szD]
  | .int _ => by simp [szD]
  | .str _ => by simp [szD]
  | .dct _ => by simp [szD]
  | .ins _ _ => by simp [szD]
theorem szL_len : ∀ l : List Dat, l.length ≤ szL l
  | [] => by simp [szL]
  | x :: l => by
    have h1 := szL_len l
    have h2 := szD_pos x
    simp only [szL, List.length_cons]; omega
theorem szL_get {l : List Dat} {i : Nat} {e : Dat} (h : l[i]? = some e) : flL l = true → flD e = true := by
  induction l generalizing i with
  | nil => simp at h
  | cons x r ih =>
    intro hf
    simp only [flL, Bool.and_eq_true] at hf
    cases i with
    | zero => simp at h; rw [← h]; exact hf.1
    | succ i => exact ih (by simpa using h) hf.2
/-- a thing, beside itself -/
def prD (e : Dat) : Dat := .tup [e, e]
abbrev nm_f__law_same : List Str := ["answer", "due", "waiting", "count", "x", "y", "at", "key"]
theorem sc_f__law_same : FnScope nm_f__law_same ["answer", "due"] (defScope s_f__law_same) := ⟨rfl, rfl, rfl, by decide +kernel, rfl, by decide +kernel, by decide +kernel⟩
def rel_f__law_same : List Dat → Dat → Prop := fun ds d => ∃ e : Dat, ds = [e, e] ∧ flD e = true ∧ szD e < 200000 ∧ d = .bl true
theorem ok_f__law_same (T : Txt w K mg) : Callee Pg w K mg base 2 "_law_same" ["answer", "due"] (spD K (preP 2 rel_f__law_same)) := by
  have c__law_same_plain := ok_f__law_same_plain (Pg := Pg) (base := base) T
  have m_dict := T.free 91 (x := "dict") rfl
  have m_isinstance := T.free 94 (x := "isinstance") rfl
  have m_len := T.free 96 (x := "len") rfl
  have m_list := T.free 97 (x := "list") rfl
  have m_range := T.free 100 (x := "range") rfl
  have m_tuple := T.free 104 (x := "tuple") rfl
  refine T.calleeP (N := nm_f__law_same) (st := s_f__law_same) 79 61 rfl rfl sc_f__law_same rfl (fun _ _ _ _ _ _ us hl => match us, hl with | [_, _], _ => rfl) fun cdv A outer s H E hr => ⟨_, (pss_cons (ps_set (i := 2) sc_f__law_same.nd rfl (Or.inl rfl) (pe_lst (pa_cons (pe_tup (pa_cons (pv 0) (pa_cons (pv 1) pa_nil))) pa_nil)))
    (pss_cons (ps_for PassesOwn.never rfl (pi_range1 (by rfl) m_range (pa_cons pe_int pa_nil)) (pg_name (i := 3) sc_f__law_same.nd rfl (Or.inl rfl)) (pss_cons (ps_if (pt_not (pt_truthK K (pv 2))) (pss_one (ps_ret pe_bl)) pss_nil)
    (pss_cons (ps_asg (pe_popK K (pv 2)) (pg_tupK K 2 (pgs_cons (pg_name (i := 4) sc_f__law_same.nd rfl (Or.inl rfl)) (pgs_cons (pg_name (i := 5) sc_f__law_same.nd rfl (Or.inl rfl)) pgs_nil))))
    (pss_one (ps_if (pt_val (pe_callB (call_isiTK K) (by rfl) m_isinstance (by decide +kernel) (pa_cons (pv 5) (pa_cons (pe_tup (pa_cons (pe_bltn (v := .ty "list") (by rfl) m_list (by decide +kernel) rfl) (pa_cons (pe_bltn (v := .ty "tuple") (by rfl) m_tuple (by decide +kernel) rfl) pa_nil))) pa_nil)))) (pss_cons (ps_if (PW.pt (pw_or (pt_cmpR op_ne (pe_callB (call_isiK' K) (by rfl) m_isinstance (by decide +kernel) (pa_cons (pv 4) (pa_cons (pe_bltn (v := .ty "list") (by rfl) m_list (by decide +kernel) rfl) pa_nil))) (pe_callB (call_isiK' K) (by rfl) m_isinstance (by decide +kernel) (pa_cons (pv 5) (pa_cons (pe_bltn (v := .ty "list") (by rfl) m_list (by decide +kernel) rfl) pa_nil))) (nomark _)) (pw_or1 (pt_cmpR op_ne (pe_callB (call_isiK' K) (by rfl) m_isinstance (by decide +kernel) (pa_cons (pv 4) (pa_cons (pe_bltn (v := .ty "tuple") (by rfl) m_tuple (by decide +kernel) rfl) pa_nil))) (pe_callB (call_isiK' K) (by rfl) m_isinstance (by decide +kernel) (pa_cons (pv 5) (pa_cons (pe_bltn (v := .ty "tuple") (by rfl) m_tuple (by decide +kernel) rfl) pa_nil))) (nomark _))))) (pss_one (ps_ret pe_bl)) pss_nil)
    (pss_cons (ps_if (pt_cmpR op_ne (pe_callB (call_lenK K) (by rfl) m_len (by decide +kernel) (pa_cons (pv 4) pa_nil)) (pe_callB (call_lenK K) (by rfl) m_len (by decide +kernel) (pa_cons (pv 5) pa_nil)) (nomark _)) (pss_one (ps_ret pe_bl)) pss_nil)
    (pss_one (ps_for PassesOwn.never rfl (pi_range1 (by rfl) m_range (pa_cons (pe_callB (call_lenK K) (by rfl) m_len (by decide +kernel) (pa_cons (pv 5) pa_nil)) pa_nil)) (pg_name (i := 6) sc_f__law_same.nd rfl (Or.inl rfl)) (pss_one (ps_expr (pe_appendK K (pv 2) (pa_cons (pe_tup (pa_cons (pe_ix (ix_seqK K) (pv 4) (pv 6) (fun _ _ => rfl)) (pa_cons (pe_ix (ix_seqK K) (pv 5) (pv 6) (fun _ _ => rfl)) pa_nil))) pa_nil)))))))) (pss_one (ps_if (pt_val (pe_callB (call_isiK' K) (by rfl) m_isinstance (by decide +kernel) (pa_cons (pv 5) (pa_cons (pe_bltn (v := .ty "dict") (by rfl) m_dict (by decide +kernel) rfl) pa_nil)))) (pss_cons (ps_if (PW.pt (pw_or (pt_not (pt_val (pe_callB (call_isiK' K) (by rfl) m_isinstance (by decide +kernel) (pa_cons (pv 4) (pa_cons (pe_bltn (v := .ty "dict") (by rfl) m_dict (by decide +kernel) rfl) pa_nil))))) (pw_or1 (pt_cmpR op_ne (pe_callB call_lenD (by rfl) m_len (by decide +kernel) (pa_cons (pv 4) pa_nil)) (pe_callB call_lenD (by rfl) m_len (by decide +kernel) (pa_cons (pv 5) pa_nil)) (nomark _))))) (pss_one (ps_ret pe_bl)) pss_nil)
    (pss_cons (ps_expr (pe_appendK K (pv 2) (pa_cons (pe_tup (pa_cons (pe_callTy (call_list_dK rfl) (by rfl) m_list (by decide +kernel) (pa_cons (pv 4) pa_nil)) (pa_cons (pe_callTy (call_list_dK rfl) (by rfl) m_list (by decide +kernel) (pa_cons (pv 5) pa_nil)) pa_nil))) pa_nil)))
    (pss_one (ps_for PassesOwn.never rfl (pi_keys (pv 5)) (pg_name (i := 7) sc_f__law_same.nd rfl (Or.inl rfl)) (pss_cons (ps_if (pt_cmp (pc_dnotin (hu_of hr) (pv 7) (pv 4)) rfl) (pss_one (ps_ret pe_bl)) pss_nil)
    (pss_one (ps_expr (pe_appendK K (pv 2) (pa_cons (pe_tup (pa_cons (pe_dget (hu_of hr) (pv 4) (pv 7) (fun _ _ => rfl)) (pa_cons (pe_dget (hu_of hr) (pv 5) (pv 7) (fun _ _ => rfl)) pa_nil))) pa_nil))))))))) (pss_one (ps_if (pt_not (pt_val (pe_callC c__law_same_plain hr (by rfl) (pa_cons (pv 4) (pa_cons (pv 5) pa_nil))))) (pss_one (ps_ret pe_bl)) pss_nil)))))))))
    (pss_one (ps_ret pe_bl)))), ?_⟩
  rintro ds d hn ⟨e0, rfl, hfl0, hsz0, rfl⟩
  refine sw_seq (sw_asgM (em_ownDisp (ds := [prD e0]) (ea_cons (ev_tup (ds := [e0, e0]) (ea_cons (ev_var rfl) (ea_cons (ev_var rfl) ea_nil)) (by simp)) ea_nil) (by simp)) fun s μ' z => ?_)
  obtain ⟨a, ha, rfl, rfl⟩ := z
  refine sw_seq (sw_for (ei_rng1D (n := 200000) (ea_cons (ev_c rfl) ea_nil) (by decide) (by decide)) (fun i Γ' μ' => ∃ es : List Dat, μ' = [(a, Mu.mls (es.map prD))] ∧ flL es = true ∧ szL es + i = szD e0 ∧ ∃ s3 s4 s5 s6 s7, Γ' = [.dat e0, .dat e0, .adr a, s3, s4, s5, s6, s7]) ⟨[e0], rfl, by simp [flL, hfl0], by simp [szL], _, _, _, _, _, rfl⟩ (fun _ _ _ _ _ => trivial) (fun i e Γ' μ' he hI => ?_) fun Γ' μ' hI => ?_)
  · obtain ⟨es, rfl, hfl, hsz, s3, s4, s5, s6, s7, rfl⟩ := hI
    refine ⟨_, _, ga_name, ?_⟩
    rcases List.eq_nil_or_concat es with rfl | ⟨es, x, rfl⟩
    · exact sw_seq (sw_if (c := true) (et_is (et_not (et_truO (ev_adr rfl) (.head _))) rfl) (fun _ => sw_ret (d := .bl true) (ev_c rfl) rfl) nofun)
    rw [List.concat_eq_append] at hfl hsz ⊢
    rw [flL_append, Bool.and_eq_true] at hfl
    have hflx : flD x = true := by simpa [flL] using hfl.2
    rw [szL_append] at hsz
    have hszx : szL [x] = szD x := by simp [szL]
    have hmap : (es ++ [x]).map prD = es.map prD ++ [prD x] := by rw [List.map_append]; rfl
    rw [hmap]
    refine sw_seq (sw_if (c := false) (et_is (et_not (et_truO (ev_adr rfl) (.head _))) (by simp)) nofun fun _ => sw_next ?_)
    refine sw_seq (sw_asgGM (tg := [4] ++ ([5] ++ [])) (em_pop (ds := es.map prD) (d := prD x) (ev_adr rfl) (.head _)) fun s μ' z => ?_)
    obtain ⟨rfl, rfl⟩ := z
    refine ⟨_, _, rfl, ga_tup (gas_cons ga_name (gas_cons ga_name gas_nil)) rfl, ?_⟩
    rw [setMu_one]
    have cls : (∃ n : String, tyN x = some n ∧ kitB n "list" = some false ∧ kitB n "tuple" = some false ∧ kitB n "dict" = some false ∧ scD x = true ∧ szD x = 1) ∨
        ∃ (n : String) (b1 b2 : Bool) (xs : List Dat), (x = .lst xs ∨ x = .tup xs) ∧ tyN x = some n ∧ kitB n "list" = some b1 ∧ kitB n "tuple" = some b2 ∧ (b1 || b2) = true := by
      cases x with
      | non => exact .inl ⟨"NoneType", rfl, rfl, rfl, rfl, rfl, by simp [szD]⟩
      | bl b => exact .inl ⟨"bool", rfl, rfl, rfl, rfl, rfl, by simp [szD]⟩
      | int i => exact .inl ⟨"int", rfl, rfl, rfl, rfl, rfl, by simp [szD]⟩
      | str z => exact .inl ⟨"str", rfl, rfl, rfl, rfl, rfl, by simp [szD]⟩
      | lst xs => exact .inr ⟨"list", true, false, xs, .inl rfl, rfl, rfl, rfl, rfl⟩
      | tup xs => exact .inr ⟨"tuple", false, true, xs, .inr rfl, rfl, rfl, rfl, rfl⟩
      | dct _ => simp [flD] at hflx
      | ins _ _ => simp [flD] at hflx
    rcases cls with ⟨n, h1, h2, h3, h4, h5, h6⟩ | ⟨n, b1, b2, xs, hx, h1, h2, h3, h4⟩
    · skip
      refine sw_if (c := false) (et_is (et_BD (ev_isi2 (n := n) (b1 := false) (b2 := false) (ev_var rfl) h1 h2 h3)) rfl) nofun fun _ => ?_
      refine sw_if (c := false) (et_BD (ev_isi (n := n) (ev_var rfl) h1 h4)) nofun fun _ => ?_
      refine sw_if (c := false) (et_is (et_not (et_BD (ev_callP (ds := [x, x]) (ea_cons (ev_var rfl) (ea_cons (ev_var rfl) ea_nil)) rfl ⟨x, rfl, h5, rfl⟩))) rfl) nofun fun _ => sw_next ?_
      exact ⟨es, rfl, hfl.1, by omega, _, _, _, _, _, rfl⟩
    · skip
      have hfx : flL xs = true := by rcases hx with rfl | rfl <;> simpa [flD] using hflx
      have hzx : szD x = szL xs + 1 := by rcases hx with rfl | rfl <;> simp [szD]
      have hlx := szL_len xs
      have hln : lenD x = some xs.length := by rcases hx with rfl | rfl <;> rfl
      refine sw_if (c := true) (et_is (et_BD (ev_isi2 (n := n) (ev_var rfl) h1 h2 h3)) h4) (fun _ => ?_) nofun
      refine sw_seq (sw_if (c := false) (et_is (et_or (et_testD (evd_op (ev_isi (n := n) (ev_var rfl) h1 h2) (ev_isi (n := n) (ev_var rfl) h1 h2) (ops_ne rfl))) fun _ => et_testD (evd_op (ev_isi (n := n) (ev_var rfl) h1 h3) (ev_isi (n := n) (ev_var rfl) h1 h3) (ops_ne rfl))) (by simp)) nofun fun _ => sw_next ?_)
      refine sw_seq (sw_if (c := false) (et_is (et_testD (evd_op (evd_cb (ea_cons (ev_var rfl) ea_nil) (cb_len hln (by omega))) (evd_cb (ea_cons (ev_var rfl) ea_nil) (cb_len hln (by omega))) ops_neI)) (by simp)) nofun fun _ => sw_next ?_)
      refine sw_for (ei_rng1D (n := (xs.length : Nat)) (ea_cons (evd_cb (ea_cons (ev_var rfl) ea_nil) (cb_len hln (by omega))) ea_nil) (by omega) (by omega)) (fun j Γ' μ' => μ' = [(a, Mu.mls ((es ++ xs.take j).map prD))] ∧ ∃ s6, Γ' = [.dat e0, .dat e0, .adr a, .dat e, .dat x, .dat x, s6, s7]) ⟨by simp, _, rfl⟩ (fun _ _ _ _ _ => trivial) (fun j e' Γ' μ' he' hI => ?_) fun Γ' μ' hI => ?_
      · obtain ⟨hj, rfl⟩ := rgD_get he'
        obtain ⟨rfl, s6, rfl⟩ := hI
        have hj' : j < xs.length := by omega
        have hxj : xs[j]? = some xs[j] := List.getElem?_eq_getElem hj'
        have hix : atI xs ((0 : Int) + (j : Nat)) = some xs[j] := by
          unfold atI ixN
          rw [if_pos (by omega), if_pos (by omega)]
          show xs[((0 : Int) + (j : Nat)).toNat]? = _
          rw [show ((0 : Int) + (j : Nat)).toNat = j by omega]; exact hxj
        refine ⟨_, _, ga_name, ?_⟩
        have hx' : x = .lst xs ∨ x = .tup xs := hx
        refine sw_append (ev_adr rfl) (ev_tup (ds := [xs[j], xs[j]]) (ea_cons (evd_op (ev_var (d := x) rfl) (ev_var rfl) (ops_ix hx' hix)) (ea_cons (evd_op (ev_var (d := x) rfl) (ev_var rfl) (ops_ix hx' hix)) ea_nil)) (by simp)) (.head _) ?_ (by simp) ⟨?_, _, rfl⟩
        · have := szL_len es
          rw [List.length_map, List.length_append, List.length_take]; omega
        · rw [setMu_one, take_snoc hxj, ← List.append_assoc, List.map_append (l₂ := [xs[j]])]; rfl
      · obtain ⟨rfl, s6, rfl⟩ := hI
        rw [rgD_len, Int.toNat_natCast, List.take_length]
        refine ⟨es ++ xs, rfl, by rw [flL_append, hfl.1, hfx]; rfl, by rw [szL_append]; omega, _, _, _, _, _, rfl⟩
  · obtain ⟨es, rfl, hfl, hsz, _⟩ := hI
    exfalso
    rw [rgD_len] at hsz
    have : (200000 : Int).toNat = 200000 := rfl
    omega
end
end KH
namespace KH
open PySem PySem.Spec PyProof.Rows L2 DL M80
section
variable {Pg : Program} {w : World} {K : PySem.W.Frag} {mg : Str → Option Value} {base : Heap}
theorem fits_why {T : List Case} {m n : Lot} : ∀ {l seen : Lot}, (seen ++ l).Nodup → (∀ f ∈ l, f ∈ n) → (∀ f ∈ l, ∃ c ∈ T, fitB f m c = true) → fitS T m n seen (whyL T l m) = true
  | [], _, _, _, _ => rfl
  | f :: l, seen, hn, h1, h2 => by
    have e : whyL T (f :: l) m = (f, ixR T f m) :: whyL T l m := rfl
    rw [e, fitS_cons]
    obtain ⟨c, hc, hfc⟩ := fits_mem.mp (ixR_mem (h2 f (.head _)))
    have hns : f ∉ seen := fun z => (List.nodup_append.mp hn).2.2 f z f (.head _) rfl
    have ih := fits_why (T := T) (m := m) (n := n) (l := l) (seen := seen ++ [f]) (by rw [List.append_assoc]; exact hn) (fun g hg => h1 g (.tail _ hg)) fun g hg => h2 g (.tail _ hg)
    have hc' : T[(f, ixR T f m).2]? = some c := hc
    rw [hc', ih]
    show (decide (f ∈ n) && !decide (f ∈ seen) && fitB f m c && true) = true
    rw [decide_eq_true (h1 f (.head _)), decide_eq_false hns, hfc]; rfl
theorem fit_why {T : List Case} {m n : Lot} (hn : n.Nodup) (h : ∀ f ∈ n, ∃ c ∈ T, fitB f m c = true) : fitR T m n (whyL T n m) = true := by
  unfold fitR
  rw [fits_why (l := n) (seen := []) (by simpa using hn) (fun _ z => z) h]
  simp [whyL]
theorem fit_len {T : List Case} {m n : Lot} {rs : List (Nat × Nat)} (h : rs.length ≠ n.length) : fitR T m n rs = false := by
  unfold fitR; rw [decide_eq_false h]; rfl
theorem fit_nil {m n : Lot} {rs : List (Nat × Nat)} (h : rs ≠ []) : fitR [] m n rs = false := by
  cases rs with
  | nil => exact absurd rfl h
  | cons p r =>
    unfold fitR
    rw [fitS_cons]; simp
theorem why_len {T : List Case} {l m : Lot} : (whyL T l m).length = l.length := by simp [whyL]
theorem toldOk_nil {F : Lot} : ToldOk F [] := ⟨(fun _ h => nomatch h), (fun _ h => nomatch h), by decide⟩
theorem reasons_drop {rs : List (Nat × Nat)} : Dat.tup (cutD (rs.map pairD) (some 1) none) = reasonsD (rs.drop 1) := by
  rw [cutD_from1]; unfold reasonsD; rw [List.map_drop]
theorem reasons_more {rs : List (Nat × Nat)} : Dat.tup (rs.map pairD ++ cutD (rs.map pairD) none (some 1)) = reasonsD (rs ++ rs.take 1) := by
  rw [cutD_to1]; unfold reasonsD; rw [List.map_append, List.map_take]
abbrev nm_f__law_judged : List Str := ["fields", "told", "paper", "shown", "good", "z", "closure", "reasons", "answer"]
theorem sc_f__law_judged : FnScope nm_f__law_judged ["fields", "told", "paper"] (defScope s_f__law_judged) := ⟨rfl, rfl, rfl, by decide +kernel, rfl, by decide +kernel, by decide +kernel⟩
def rel_f__law_judged : List Dat → Dat → Prop := fun ds d => ∃ (F : Lot) (T : List Case) (p : Dat), ds = [tx F, casesD T, p] ∧ FOk F ∧ ToldOk F T ∧ ((p = stuckP F T ∧ cl F T [] ≠ []) ∨ ∃ z, p = saidP F T z ∧ CaseOk F z ∧ heldB F T z = true ∧ z.2 ≠ []) ∧ d = .bl true
theorem ok_f__law_judged (T : Txt w K mg) : Callee Pg w K mg base 5 "_law_judged" ["fields", "told", "paper"] (spD K (preP 3 rel_f__law_judged)) := by
  have c_shows_stuck := ok_f_shows_stuck (Pg := Pg) (base := base) T
  have c_shows_hold := ok_f_shows_hold (Pg := Pg) (base := base) T
  have c__law_same := ok_f__law_same (Pg := Pg) (base := base) T
  have m_len := T.free 96 (x := "len") rfl
  refine T.calleeP (N := nm_f__law_judged) (st := s_f__law_judged) 86 68 rfl rfl sc_f__law_judged rfl (fun _ _ _ _ _ _ us hl => match us, hl with | [_, _, _], _ => rfl) fun cdv A outer s H E hr => ⟨_, (pss_cons (ps_if (pt_cmpR op_eq (pe_ix (ix_seqK K) (pv 2) pe_int (fun _ _ => rfl)) pe_str (nomark _)) (pss_cons (ps_set (i := 3) sc_f__law_judged.nd rfl (Or.inl rfl) (pe_lst (pa_cons (pe_callC c_shows_stuck hr (by rfl) (pa_cons (pv 0) (pa_cons (pv 1) (pa_cons (pe_tup (pa_cons pe_str (pa_cons (pe_ix (ix_seqK K) (pv 2) pe_int (fun _ _ => rfl)) (pa_cons (pe_slice (sl_tupK K) (pe_ix (ix_seqK K) (pv 2) pe_int (fun _ _ => rfl)) (po_some pe_int) po_none) pa_nil)))) pa_nil)))) (pa_cons (pe_callC c_shows_stuck hr (by rfl) (pa_cons (pv 0) (pa_cons (pv 1) (pa_cons (pe_tup (pa_cons pe_str (pa_cons (pe_ix (ix_seqK K) (pv 2) pe_int (fun _ _ => rfl)) (pa_cons (pe_op (op_catTK K) (pe_ix (ix_seqK K) (pv 2) pe_int (fun _ _ => rfl)) (pe_slice (sl_tupK K) (pe_ix (ix_seqK K) (pv 2) pe_int (fun _ _ => rfl)) po_none (po_some pe_int))) pa_nil)))) pa_nil)))) (pa_cons (pe_callC c_shows_stuck hr (by rfl) (pa_cons (pv 0) (pa_cons (pe_lst pa_nil) (pa_cons (pv 2) pa_nil)))) (pa_cons (pe_callC c_shows_stuck hr (by rfl) (pa_cons (pv 0) (pa_cons (pv 1) (pa_cons (pe_tup (pa_cons pe_str (pa_cons pe_str (pa_cons (pe_tup pa_nil) pa_nil)))) pa_nil)))) pa_nil))))))
    (pss_one (ps_set (i := 4) sc_f__law_judged.nd rfl (Or.inl rfl) (pe_callC c_shows_stuck hr (by rfl) (pa_cons (pv 0) (pa_cons (pv 1) (pa_cons (pv 2) pa_nil))))))) (pss_cons (ps_asg (pe_slice (sl_tupK K) (pv 2) (po_some pe_int) po_none) (pg_tupK K 3 (pgs_cons (pg_name (i := 5) sc_f__law_judged.nd rfl (Or.inl rfl)) (pgs_cons (pg_name (i := 6) sc_f__law_judged.nd rfl (Or.inl rfl)) (pgs_cons (pg_name (i := 7) sc_f__law_judged.nd rfl (Or.inl rfl)) pgs_nil)))))
    (pss_cons (ps_set (i := 3) sc_f__law_judged.nd rfl (Or.inl rfl) (pe_lst (pa_cons (pe_callC c_shows_hold hr (by rfl) (pa_cons (pv 0) (pa_cons (pv 1) (pa_cons (pv 5) (pa_cons (pe_tup (pa_cons pe_str (pa_cons (pv 6) (pa_cons (pe_op (op_catTK K) (pv 7) (pe_slice (sl_tupK K) (pv 7) po_none (po_some pe_int))) pa_nil)))) pa_nil))))) (pa_cons (pe_callC c_shows_hold hr (by rfl) (pa_cons (pv 0) (pa_cons (pv 1) (pa_cons (pv 5) (pa_cons (pe_tup (pa_cons pe_str (pa_cons (pv 6) (pa_cons (pe_slice (sl_tupK K) (pv 7) (po_some pe_int) po_none) pa_nil)))) pa_nil))))) (pa_cons (pe_callC c_shows_hold hr (by rfl) (pa_cons (pv 0) (pa_cons (pe_lst pa_nil) (pa_cons (pv 5) (pa_cons (pe_tup (pa_cons pe_str (pa_cons (pv 6) (pa_cons (pv 7) pa_nil)))) pa_nil))))) (pa_cons (pe_callC c_shows_hold hr (by rfl) (pa_cons (pv 0) (pa_cons (pv 1) (pa_cons (pv 5) (pa_cons (pe_tup (pa_cons pe_str (pa_cons (pe_ix (ix_seqK K) (pv 5) pe_int (fun _ _ => rfl)) (pa_cons (pv 7) pa_nil)))) pa_nil))))) (pa_cons (pe_callC c_shows_hold hr (by rfl) (pa_cons (pv 0) (pa_cons (pv 1) (pa_cons (pe_tup (pa_cons pe_str (pa_cons (pe_ix (ix_seqK K) (pv 5) pe_int (fun _ _ => rfl)) pa_nil))) (pa_cons (pe_tup (pa_cons pe_str (pa_cons (pv 6) (pa_cons (pv 7) pa_nil)))) pa_nil))))) (pa_cons (pe_callC c_shows_hold hr (by rfl) (pa_cons (pv 0) (pa_cons (pv 1) (pa_cons (pv 5) (pa_cons (pe_tup (pa_cons pe_str (pa_cons (pv 6) (pa_cons (pv 7) pa_nil)))) pa_nil))))) pa_nil))))))))
    (pss_one (ps_set (i := 4) sc_f__law_judged.nd rfl (Or.inl rfl) (pe_callC c_shows_hold hr (by rfl) (pa_cons (pv 0) (pa_cons (pv 1) (pa_cons (pv 5) (pa_cons (pe_tup (pa_cons pe_str (pa_cons (pv 6) (pa_cons (pv 7) pa_nil)))) pa_nil))))))))))
    (pss_one (ps_ret (pe_and (pe_callC c__law_same hr (by rfl) (pa_cons (pv 4) (pa_cons pe_bl pa_nil))) (pe_one (pe_cmpR op_eq (pe_callB (call_lenK K) (by rfl) m_len (by decide +kernel) (pa_cons (pe_lc (own := [("answer", 8)]) rfl sc_f__law_judged.nd (pi_listK K (pv 3)) (blkOk_by (N := nm_f__law_judged) (sc := defScope s_f__law_judged) (by decide +kernel)) (fun _ _ _ _ _ => by exact (pg_name (i := 8) sc_f__law_judged.nd rfl (Or.inl rfl))) (fun _ _ _ _ _ => by exact (pts_one (pt_not (pt_val (pe_callC c__law_same hr (by rfl) (pa_cons (pv 8) (pa_cons pe_bl pa_nil))))))) (fun _ _ _ _ _ => by exact (pv 8))) pa_nil)) pe_int (nomark _))))))), ?_⟩
  rintro ds d hn ⟨F, U, p, rfl, hF, hT, hp, rfl⟩
  have sStuck : ∀ {te : TE} {Γ : List Sl} {T : List Case} {m : Lot} {rs : List (Nat × Nat)} {b : Bool} {t2 : TE}, ToldOk F T → m.Sublist F → rs.length ≤ 1000 → Γ[0]? = some (.dat (tx F)) → EvD K t2 Γ [] (casesD T) → EvD K te Γ [] (.tup [.str "stuck", tx m, reasonsD rs]) → (!decide (m = []) && fitR T m m rs) = b → EvD K (tCall (spD K (preP 3 rel_f_shows_stuck)) [] E0 (tCons (tVar 0) (tCons t2 (tCons te tNil)))) Γ [] (.bl b) := fun {te Γ T m rs b t2} h0 h1 h2 h3 h4 h5 h6 =>
    ev_callP (ds := [tx F, casesD T, .tup [.str "stuck", tx m, reasonsD rs]]) (ea_cons (ev_var h3) (ea_cons h4 (ea_cons h5 ea_nil))) rfl ⟨F, T, "stuck", m, rs, rfl, hF, h0, h1, h2, by rw [decide_eq_true rfl, Bool.true_and, h6]⟩
  have sHold : ∀ {te tz : TE} {Γ : List Sl} {T : List Case} {c : Case} {k : Str} {m : Lot} {rs : List (Nat × Nat)} {b : Bool} {t2 : TE}, ToldOk F T → CaseOk F c → m.Sublist F → rs.length ≤ 1000 → Γ[0]? = some (.dat (tx F)) → EvD K t2 Γ [] (casesD T) → EvD K tz Γ [] (caseD c) → EvD K te Γ [] (.tup [.str k, tx m, reasonsD rs]) → (!decide (c.1 = []) && (decide (k = "hold") && ((c.1 ++ c.2).all (fun x => decide (x ∈ m)) && fitR T m (others m c.1) rs))) = b → EvD K (tCall (spD K (preP 4 rel_f_shows_hold)) [] E0 (tCons (tVar 0) (tCons t2 (tCons tz (tCons te tNil))))) Γ [] (.bl b) := fun {te tz Γ T c k m rs b t2} h0 hc h1 h2 h3 h4 hz h5 h6 =>
    ev_callP (ds := [tx F, casesD T, caseD c, .tup [.str k, tx m, reasonsD rs]]) (ea_cons (ev_var h3) (ea_cons h4 (ea_cons hz (ea_cons h5 ea_nil)))) rfl ⟨F, T, c, k, m, rs, rfl, hF, h0, hc, h1, h2, by rw [h6]⟩
  refine sw_seq (SW.imp (O := { nx := fun Γ' μ' => μ' = [] ∧ ∃ (n : Nat) (s5 s6 s7 : Sl), n ≤ 10 ∧ Γ' = [.dat (tx F), .dat (casesD U), .dat p, .dat (.lst ((List.replicate n false).map Dat.bl)), .dat (.bl true), s5, s6, s7, .un], rt := fun _ _ => False }) ?_ (fun Γ' μ' hI => ?_) (fun _ _ z => z.elim) (fun _ _ z => z.elim) fun _ _ z => z.elim)
  · rcases hp with ⟨rfl, hne⟩ | ⟨z, rfl, hz, hh, hzne⟩
    · have hs : (cl F U []).Sublist F := cl_sub
      have hs6 := sub6 hF hs
      have hrl : (whyL U (cl F U []) (cl F U [])).length = (cl F U []).length := why_len
      have hpos : 0 < (cl F U []).length := List.length_pos_iff.mpr hne
      have hrne : whyL U (cl F U []) (cl F U []) ≠ [] := fun e => by rw [e] at hrl; simp at hrl; omega
      have hrz : (whyL U (cl F U []) (cl F U [])).length ≤ 1000 := by omega
      have hex : ∀ f ∈ cl F U [], ∃ c ∈ U, fitB f (cl F U []) c = true := by
        have := why_ex (a := []) hT.ok
        rwa [others_nil] at this
      refine sw_if (c := true) (et_is (et_testD (evd_op (evd_op (ev_var (d := stuckP F U) rfl) (ev_c (d := .int 0) rfl) (ops_ix (d := .str "stuck") (.inr rfl) rfl)) (ev_c (d := .str "stuck") (by exact rfl)) (ops_eq rfl))) (decide_eq_true rfl)) (fun _ => ?_) nofun
      have i1 : ∀ {Γ : List Sl}, Γ[2]? = some (.dat (stuckP F U)) → EvD K (tOp (rIx K) (tVar 2) (tC (.int 1))) Γ [] (tx (cl F U [])) := fun h => evd_op (ev_var h) (ev_c (d := .int 1) rfl) (ops_ix (.inr rfl) rfl)
      have i2 : ∀ {Γ : List Sl}, Γ[2]? = some (.dat (stuckP F U)) → EvD K (tOp (rIx K) (tVar 2) (tC (.int 2))) Γ [] (reasonsD (whyL U (cl F U []) (cl F U []))) := fun h => evd_op (ev_var h) (ev_c (d := .int 2) rfl) (ops_ix (.inr rfl) rfl)
      have cS : ∀ {Γ : List Sl} {μ : Mem}, EvD K (tC (.str "stuck")) Γ μ (.str "stuck") := ev_c (by exact rfl)
      refine sw_seq (sw_asg (ev_lst (ds := [.bl false, .bl false, .bl false, .bl false]) (ea_cons (sStuck (m := cl F U []) (rs := (whyL U (cl F U []) (cl F U [])).drop 1) hT hs (by rw [List.length_drop]; omega) rfl (ev_var rfl) (ev_tup (ds := [.str "stuck", tx (cl F U []), reasonsD ((whyL U (cl F U []) (cl F U [])).drop 1)]) (ea_cons cS (ea_cons (i1 rfl) (ea_cons (evd_is (ev_slT (i2 rfl) (eo_some (ev_c (d := .int 1) rfl)) eo_none) reasons_drop) ea_nil))) (by simp)) ?_)
        (ea_cons (sStuck (m := cl F U []) (rs := whyL U (cl F U []) (cl F U []) ++ (whyL U (cl F U []) (cl F U [])).take 1) hT hs (by rw [List.length_append, List.length_take]; omega) rfl (ev_var rfl) (ev_tup (ds := [.str "stuck", tx (cl F U []), reasonsD (whyL U (cl F U []) (cl F U []) ++ (whyL U (cl F U []) (cl F U [])).take 1)]) (ea_cons cS (ea_cons (i1 rfl) (ea_cons (evd_is (evd_op (i2 rfl) (ev_slT (i2 rfl) eo_none (eo_some (ev_c (d := .int 1) rfl))) (ops_catA ?_)) reasons_more) ea_nil))) (by simp)) ?_)
        (ea_cons (sStuck (T := []) (m := cl F U []) (rs := whyL U (cl F U []) (cl F U [])) toldOk_nil hs hrz rfl (ev_lst (ds := []) ea_nil (by decide)) (ev_var rfl) ?_)
        (ea_cons (sStuck (m := []) (rs := []) hT (List.nil_sublist _) (by decide) rfl (ev_var rfl) (ev_tup (ds := [.str "stuck", tx [], reasonsD []]) (ea_cons cS (ea_cons (ev_c (d := tx []) rfl) (ea_cons (ev_tup (ds := []) ea_nil (by decide)) ea_nil))) (by simp)) rfl) ea_nil)))) (by simp)) ?_)
      · rw [fit_len (by rw [List.length_drop]; omega), Bool.and_false]
      · have e1 : ((whyL U (cl F U []) (cl F U [])).map pairD).length = (cl F U []).length := by rw [List.length_map, hrl]
        rw [cutD_to1, e1]
        have := List.length_take_le 1 ((whyL U (cl F U []) (cl F U [])).map pairD)
        omega
      · rw [fit_len (by rw [List.length_append, List.length_take]; omega), Bool.and_false]
      · rw [fit_nil hrne, Bool.and_false]
      · refine sw_asg (sStuck (m := cl F U []) (rs := whyL U (cl F U []) (cl F U [])) hT hs hrz rfl (ev_var rfl) (ev_var rfl) ?_) ⟨rfl, 4, _, _, _, by decide, rfl⟩
        rw [fit_why (hs.nodup hF.nodup) hex, decide_eq_false hne]; rfl
    · obtain ⟨a, b⟩ := z
      have hh' := hh
      unfold heldB at hh'
      rw [Bool.and_eq_true] at hh'
      have hane : a ≠ [] := by simpa using hh'.1
      have hbm : ∀ x ∈ b, x ∈ cl F U a := fun x hx => of_decide_eq_true (List.all_eq_true.mp hh'.2 x hx)
      have hm : (cl F U a).Sublist F := cl_sub
      have hm6 := sub6 hF hm
      have hb0 : ∃ x, x ∈ b := by
        cases b with
        | nil => exact absurd rfl hzne
        | cons x r => exact ⟨x, .head _⟩
      obtain ⟨x0, hx0⟩ := hb0
      have hx0a : x0 ∉ a := fun z => hz.ap x0 z hx0
      have hn0 : x0 ∈ others (cl F U a) a := mem_others.mpr ⟨hbm x0 hx0, hx0a⟩
      have hrl : (whyL U (others (cl F U a) a) (cl F U a)).length = (others (cl F U a) a).length := why_len
      have hol : (others (cl F U a) a).length ≤ (cl F U a).length := others_len
      have hpos : 0 < (others (cl F U a) a).length := List.length_pos_of_mem hn0
      have hrne : whyL U (others (cl F U a) a) (cl F U a) ≠ [] := fun e => by rw [e] at hrl; simp at hrl; omega
      have hrz : (whyL U (others (cl F U a) a) (cl F U a)).length ≤ 1000 := by omega
      refine sw_if (c := false) (et_is (et_testD (evd_op (evd_op (ev_var (d := saidP F U (a, b)) rfl) (ev_c (d := .int 0) rfl) (ops_ix (d := .str "said") (.inr rfl) rfl)) (ev_c (d := .str "stuck") (by exact rfl)) (ops_eq rfl))) (by decide)) nofun fun _ => ?_
      refine sw_seq (sw_asgG (evd_is (ev_slT (ev_var (d := saidP F U (a, b)) rfl) (eo_some (ev_c (d := .int 1) rfl)) eo_none) (congrArg Dat.tup cutD_from1)) (ga_tup (ds := [caseD (a, b), tx (cl F U a), reasonsD (whyL U (others (cl F U a) a) (cl F U a))]) (gas_cons ga_name (gas_cons ga_name (gas_cons ga_name gas_nil))) rfl) ?_)
      have cH : ∀ {Γ : List Sl} {μ : Mem}, EvD K (tC (.str "hold")) Γ μ (.str "hold") := ev_c (by exact rfl)
      have hall : ((a, b).1 ++ (a, b).2).all (fun x => decide (x ∈ cl F U a)) = true := by
        rw [List.all_eq_true]
        intro x hx
        exact decide_eq_true ((List.mem_append.mp hx).elim (fun h => cl_holds h (hz.l1.subset h)) (hbm x))
      have evz : ∀ {Γ : List Sl} {i : Nat} {e : Dat} {v : V}, Γ[5]? = some (.dat (caseD (a, b))) → SV v (.int (i : Nat)) → atI [tx a, tx b] ((i : Nat) : Int) = some e → EvD K (tOp (rIx K) (tVar 5) (tC v)) Γ [] e := fun h1 h2 h3 => evd_op (ev_var h1) (ev_c h2) (ops_ix (.inr rfl) h3)
      have e2 : others (cl F U a) (a, b).1 = others (cl F U a) a := rfl
      have hz0 : CaseOk F ([], b) := ⟨List.nil_sublist _, hz.l2, fun x hx => nomatch hx⟩
      refine sw_seq (sw_asg (ev_lst (ds := [.bl false, .bl false, .bl false, .bl false, .bl false, .bl false]) (ea_cons (sHold (c := (a, b)) (k := "hold") (m := cl F U a) (rs := whyL U (others (cl F U a) a) (cl F U a) ++ (whyL U (others (cl F U a) a) (cl F U a)).take 1) hT hz hm (by rw [List.length_append, List.length_take]; omega) rfl (ev_var rfl) (ev_var rfl) (ev_tup (ds := [.str "hold", tx (cl F U a), reasonsD (whyL U (others (cl F U a) a) (cl F U a) ++ (whyL U (others (cl F U a) a) (cl F U a)).take 1)]) (ea_cons cH (ea_cons (ev_var rfl) (ea_cons (evd_is (evd_op (ev_var rfl) (ev_slT (ev_var rfl) eo_none (eo_some (ev_c (d := .int 1) rfl))) (ops_catA ?_)) reasons_more) ea_nil))) (by simp)) ?_)
        (ea_cons (sHold (c := (a, b)) (k := "hold") (m := cl F U a) (rs := (whyL U (others (cl F U a) a) (cl F U a)).drop 1) hT hz hm (by rw [List.length_drop]; omega) rfl (ev_var rfl) (ev_var rfl) (ev_tup (ds := [.str "hold", tx (cl F U a), reasonsD ((whyL U (others (cl F U a) a) (cl F U a)).drop 1)]) (ea_cons cH (ea_cons (ev_var rfl) (ea_cons (evd_is (ev_slT (ev_var rfl) (eo_some (ev_c (d := .int 1) rfl)) eo_none) reasons_drop) ea_nil))) (by simp)) ?_)
        (ea_cons (sHold (T := []) (c := (a, b)) (k := "hold") (m := cl F U a) (rs := whyL U (others (cl F U a) a) (cl F U a)) toldOk_nil hz hm hrz rfl (ev_lst (ds := []) ea_nil (by decide)) (ev_var rfl) (ev_tup (ds := [.str "hold", tx (cl F U a), reasonsD (whyL U (others (cl F U a) a) (cl F U a))]) (ea_cons cH (ea_cons (ev_var rfl) (ea_cons (ev_var rfl) ea_nil))) (by simp)) ?_)
        (ea_cons (sHold (c := (a, b)) (k := "hold") (m := a) (rs := whyL U (others (cl F U a) a) (cl F U a)) hT hz hz.l1 hrz rfl (ev_var rfl) (ev_var rfl) (ev_tup (ds := [.str "hold", tx a, reasonsD (whyL U (others (cl F U a) a) (cl F U a))]) (ea_cons cH (ea_cons (evz (i := 0) rfl rfl rfl) (ea_cons (ev_var rfl) ea_nil))) (by simp)) ?_)
        (ea_cons (sHold (c := ([], b)) (k := "hold") (m := cl F U a) (rs := whyL U (others (cl F U a) a) (cl F U a)) hT hz0 hm hrz rfl (ev_var rfl) (ev_tup (ds := [tx [], tx b]) (ea_cons (ev_c (d := tx []) rfl) (ea_cons (evz (i := 1) rfl rfl rfl) ea_nil)) (by simp)) (ev_tup (ds := [.str "hold", tx (cl F U a), reasonsD (whyL U (others (cl F U a) a) (cl F U a))]) (ea_cons cH (ea_cons (ev_var rfl) (ea_cons (ev_var rfl) ea_nil))) (by simp)) rfl)
        (ea_cons (sHold (c := (a, b)) (k := "said") (m := cl F U a) (rs := whyL U (others (cl F U a) a) (cl F U a)) hT hz hm hrz rfl (ev_var rfl) (ev_var rfl) (ev_tup (ds := [.str "said", tx (cl F U a), reasonsD (whyL U (others (cl F U a) a) (cl F U a))]) (ea_cons (ev_c (by exact rfl)) (ea_cons (ev_var rfl) (ea_cons (ev_var rfl) ea_nil))) (by simp)) ?_) ea_nil)))))) (by simp)) ?_)
      · have e1 : ((whyL U (others (cl F U a) a) (cl F U a)).map pairD).length = (others (cl F U a) a).length := by rw [List.length_map, hrl]
        rw [cutD_to1, e1]
        have := List.length_take_le 1 ((whyL U (others (cl F U a) a) (cl F U a)).map pairD)
        omega
      · rw [e2, fit_len (by rw [List.length_append, List.length_take]; omega)]; simp
      · rw [e2, fit_len (by rw [List.length_drop]; omega)]; simp
      · rw [fit_nil hrne]; simp
      · have : ((a, b).1 ++ (a, b).2).all (fun x => decide (x ∈ a)) = false := by
          rw [List.all_eq_false]
          exact ⟨x0, List.mem_append.mpr (.inr hx0), by simpa using hx0a⟩
        rw [this]; simp
      · have : decide (("said" : Str) = "hold") = false := by decide
        rw [this]; simp
      · refine sw_asg (sHold (c := (a, b)) (k := "hold") (m := cl F U a) (rs := whyL U (others (cl F U a) a) (cl F U a)) hT hz hm hrz rfl (ev_var rfl) (ev_var rfl) (ev_tup (ds := [.str "hold", tx (cl F U a), reasonsD (whyL U (others (cl F U a) a) (cl F U a))]) (ea_cons cH (ea_cons (ev_var rfl) (ea_cons (ev_var rfl) ea_nil))) (by simp)) ?_) ⟨rfl, 6, _, _, _, by decide, rfl⟩
        rw [hall, e2, fit_why (n := others (cl F U a) a) ((List.filter_sublist.trans hm).nodup hF.nodup) (why_ex hT.ok), decide_eq_true rfl, show decide ((a, b).1 = []) = false from decide_eq_false hane]; rfl
  obtain ⟨rfl, n, s5, s6, s7, hn10, rfl⟩ := hI
  have same : ∀ {Γ : List Sl} {t1 : TE} {b : Bool} {v : V}, SV v (.bl b) → EvD K t1 Γ [] (.bl b) → EvD K (tCall (spD K (preP 2 rel_f__law_same)) [] E0 (tCons t1 (tCons (tC v) tNil))) Γ [] (.bl true) := fun {Γ t1 b v} hv h => ev_callP (ds := [.bl b, .bl b]) (ea_cons h (ea_cons (ev_c hv) ea_nil)) rfl ⟨.bl b, rfl, rfl, by simp [szD], rfl⟩
  refine sw_ret (evd_is (ev_and (same rfl (ev_var rfl)) fun _ => evd_op (evd_cb (ea_cons (ev_lc (xs := List.replicate n false) (φ := Dat.bl) (ei_lst (ev_var rfl)) trivial (fun _ => false) (fun b => .bl b) (tg := [8]) (by decide) (by rw [List.length_replicate]; omega) fun b hb => ⟨_, ga_name, et_is (et_not (et_BD (same (b := false) rfl (evd_is (ev_var rfl) (by rw [(List.mem_replicate.mp hb).2]))))) rfl, nofun⟩) ea_nil) (cb_len (n := 0) (by simp [lenD]) (by decide))) (ev_c (d := .int 0) rfl) ops_eqI) rfl) rfl
end
end KH
namespace KH
open PySem PySem.Spec PyProof.Rows L2 DL M80
section
variable {Pg : Program} {w : World} {K : PySem.W.Frag} {mg : Str → Option Value} {base : Heap}
/-! ### an Asked: its fields, its verdicts -/
def askF (F : Lot) (l : Addr) : List (Str × Sl) := [("own_fields", .dat (tx F)), ("kept_verdicts", .adr l)]
def askM (C x dx l : Addr) (F : Lot) (V : List Ver) : Mem := [(l, .mls (V.map verD)), (x, .mis C dx (askF F l))]
abbrev cA (K : PySem.W.Frag) : Addr := He.ga K "Asked"
theorem askM_nd {C x dx l : Addr} {F : Lot} {V : List Ver} (h : l ≠ x) : (adrs (askM C x dx l F V)).Nodup := by
  simp [askM, h]
theorem ev_own {Γ : List Sl} {μ : Mem} {te : TE} {x dx l : Addr} {F : Lot} (T : Txt w K mg) (h : Ev K te Γ μ (fun z => z = .adr x)) (hm : (x, Mu.mis (cA K) dx (askF F l)) ∈ μ) : EvD K (tFld K te "own_fields") Γ μ (tx F) :=
  ev_fldO h hm (He.cls_ok (T.fact 126 (f := .cls "Asked") rfl)) (He.noat_ok (T.fact 136 (f := .noat "Asked" "own_fields") rfl)) rfl
theorem ev_kept {Γ : List Sl} {μ : Mem} {te : TE} {x dx l : Addr} {F : Lot} (T : Txt w K mg) (h : Ev K te Γ μ (fun z => z = .adr x)) (hm : (x, Mu.mis (cA K) dx (askF F l)) ∈ μ) : Ev K (tFld K te "kept_verdicts") Γ μ (fun z => z = .adr l) :=
  ev_fldO h hm (He.cls_ok (T.fact 126 (f := .cls "Asked") rfl)) (He.noat_ok (T.fact 137 (f := .noat "Asked" "kept_verdicts") rfl)) rfl
abbrev nm_m_Asked_init : List Str := ["self", "fields"]
theorem sc_m_Asked_init : FnScope nm_m_Asked_init ["self", "fields"] (defScope s_m_Asked_init) := ⟨rfl, rfl, rfl, by decide +kernel, rfl, by decide +kernel, by decide +kernel⟩
def pre_m_Asked_init (K : PySem.W.Frag) : List Sl → Mem → (Sl → Mem → Prop) → Prop := fun ss μ R => ∃ (x dx : Addr) (F : Lot), ss = [.adr x, .dat (tx F)] ∧ μ = [(x, .mis (cA K) dx [])] ∧ FOk F ∧ ∀ l, l ≠ x → R (.dat .non) (askM (cA K) x dx l F [])
theorem ok_m_Asked_init (T : Txt w K mg) : NCallee Pg w K mg base 3 "Asked" (He.ga K "Asked") ["self", "fields"] (spD K (pre_m_Asked_init K)) := by
  have c_check_fields := ok_f_check_fields (Pg := Pg) (base := base) T
  refine T.ncallee (N := nm_m_Asked_init) (st := s_m_Asked_init) 46 127 86 rfl rfl rfl sc_m_Asked_init ?_ (fun _ _ _ _ _ _ us hl => match us, hl with | [_, _], _ => rfl) fun fd cdv A outer s H E hr => ⟨_, (pss_cons (ps_fldK K (pv 0) (pe_callC c_check_fields hr (by rfl) (pa_cons (pv 1) pa_nil)))
    (pss_one (ps_fldK K (pv 0) (pe_lst pa_nil)))), ?_⟩
  · rintro ss μ R ⟨x, dx, F, rfl, rfl, hF, hR⟩
    rfl
  rintro ss μ R ⟨x, dx, F, rfl, rfl, hF, hR⟩
  have cC := He.cls_ok (T.fact 126 (f := .cls "Asked") rfl)
  have n1 := He.noat_ok (T.fact 136 (f := .noat "Asked" "own_fields") rfl)
  have n2 := He.noat_ok (T.fact 137 (f := .noat "Asked" "kept_verdicts") rfl)
  refine sw_seq (sw_fld (fs := []) (Ev.m (ev_callP (ds := [tx F]) (ea_cons (ev_var rfl) ea_nil) rfl ⟨F, rfl, hF, rfl⟩)) rfl cC n1 fun s μ' z => ?_)
  obtain ⟨rfl, rfl⟩ := z
  refine ⟨_, dx, .head _, by show (0 : Nat) < 900; decide, ?_⟩
  rw [setMu_one]
  refine sw_fld (fs := []) em_newL rfl cC n2 fun s μ' z => ?_
  obtain ⟨l, hl, rfl, rfl⟩ := z
  have hlx : l ≠ x := fun e => hl (by simp [e])
  refine ⟨_, dx, .tail _ (.head _), by show (1 : Nat) < 900; decide, ?_⟩
  have e : setMu [(l, Mu.mls []), (x, Mu.mis (cA K) dx (putS "own_fields" (.dat (tx F)) []))] x (.mis (cA K) dx (putS "kept_verdicts" (.adr l) (putS "own_fields" (.dat (tx F)) []))) = askM (cA K) x dx l F [] := by
    unfold setMu
    rw [List.map_cons, List.map_cons, List.map_nil, if_neg hlx, if_pos rfl]
    rfl
  rw [e]
  exact hR l hlx
theorem ask_l {C x dx l : Addr} {F : Lot} {V : List Ver} : (l, Mu.mls (V.map verD)) ∈ askM C x dx l F V := .head _
theorem ask_x {C x dx l : Addr} {F : Lot} {V : List Ver} : (x, Mu.mis C dx (askF F l)) ∈ askM C x dx l F V := .tail _ (.head _)
theorem ask_set {C x dx l : Addr} {F : Lot} {V W : List Ver} (h : l ≠ x) : setMu (askM C x dx l F V) l (.mls (W.map verD)) = askM C x dx l F W := by
  unfold askM setMu
  rw [List.map_cons, List.map_cons, List.map_nil, if_pos rfl, if_neg (Ne.symm h)]
abbrev nm_m_Asked_len : List Str := ["self"]
theorem sc_m_Asked_len : FnScope nm_m_Asked_len ["self"] (defScope s_m_Asked_len) := ⟨rfl, rfl, rfl, by decide +kernel, rfl, by decide +kernel, by decide +kernel⟩
def pre_m_Asked_len (K : PySem.W.Frag) : List Sl → Mem → (Sl → Mem → Prop) → Prop := fun ss μ R => ∃ (x dx l : Addr) (F : Lot) (V : List Ver), ss = [.adr x] ∧ l ≠ x ∧ μ = askM (cA K) x dx l F V ∧ R (.dat (.int (V.length : Nat))) (askM (cA K) x dx l F V)
theorem ok_m_Asked_len (T : Txt w K mg) : MCallee Pg w K mg base 1 (He.ga K "Asked") "__len__" ["self"] (spD K (pre_m_Asked_len K)) := by
  have m_len := T.free 96 (x := "len") rfl
  refine T.mcallee (N := nm_m_Asked_len) (st := s_m_Asked_len) 47 129 126 rfl rfl rfl sc_m_Asked_len ?_ (fun _ _ _ _ _ _ us hl => match us, hl with | [_], _ => rfl) fun fd cdv A outer s H E hr => ⟨_, (pss_one (ps_ret (pe_callB (call_lenK K) (by rfl) m_len (by decide +kernel) (pa_cons (pe_fldK K (pv 0)) pa_nil)))), ?_⟩
  · rintro ss μ R ⟨x, dx, l, F, V, rfl, hlx, rfl, hR⟩
    rfl
  rintro ss μ R ⟨x, dx, l, F, V, rfl, hlx, rfl, hR⟩
  refine sw_ret (evd_is (ev_cb (R := fun s => s = .dat (.int ((V.map verD).length : Nat))) (ea_consR (ev_kept T (ev_adr rfl) ask_x) ea_nil) fun ss h => ?_) (by rw [List.length_map])) hR
  obtain ⟨s, r, rfl, rfl, rfl⟩ := h
  exact cb_lenO ask_l
abbrev nm_m_Asked_verdicts : List Str := ["self"]
theorem sc_m_Asked_verdicts : FnScope nm_m_Asked_verdicts ["self"] (defScope s_m_Asked_verdicts) := ⟨rfl, rfl, rfl, by decide +kernel, rfl, by decide +kernel, by decide +kernel⟩
def pre_m_Asked_verdicts (K : PySem.W.Frag) : List Sl → Mem → (Sl → Mem → Prop) → Prop := fun ss μ R => ∃ (x dx l : Addr) (F : Lot) (V : List Ver), ss = [.adr x] ∧ l ≠ x ∧ μ = askM (cA K) x dx l F V ∧ R (.dat (versD V)) (askM (cA K) x dx l F V)
theorem ok_m_Asked_verdicts (T : Txt w K mg) : MCallee Pg w K mg base 1 (He.ga K "Asked") "verdicts" ["self"] (spD K (pre_m_Asked_verdicts K)) := by
  have m_list := T.free 97 (x := "list") rfl
  refine T.mcallee (N := nm_m_Asked_verdicts) (st := s_m_Asked_verdicts) 48 130 126 rfl rfl rfl sc_m_Asked_verdicts ?_ (fun _ _ _ _ _ _ us hl => match us, hl with | [_], _ => rfl) fun fd cdv A outer s H E hr => ⟨_, (pss_one (ps_ret (pe_callTy (call_list_ofK K) (by rfl) m_list (by decide +kernel) (pa_cons (pe_fldK K (pv 0)) pa_nil)))), ?_⟩
  · rintro ss μ R ⟨x, dx, l, F, V, rfl, hlx, rfl, hR⟩
    rfl
  rintro ss μ R ⟨x, dx, l, F, V, rfl, hlx, rfl, hR⟩
  refine sw_ret (ev_cb (R := fun s => s = .dat (versD V)) (ea_consR (ev_kept T (ev_adr rfl) ask_x) ea_nil) fun ss h => ?_) hR
  obtain ⟨s, r, rfl, rfl, rfl⟩ := h
  exact cb_listO ask_l
abbrev nm_m_Asked_yes_cases : List Str := ["self", "case", "yes"]
theorem sc_m_Asked_yes_cases : FnScope nm_m_Asked_yes_cases ["self"] (defScope s_m_Asked_yes_cases) := ⟨rfl, rfl, rfl, by decide +kernel, rfl, by decide +kernel, by decide +kernel⟩
def pre_m_Asked_yes_cases (K : PySem.W.Frag) : List Sl → Mem → (Sl → Mem → Prop) → Prop := fun ss μ R => ∃ (x dx l : Addr) (F : Lot) (V : List Ver), ss = [.adr x] ∧ l ≠ x ∧ μ = askM (cA K) x dx l F V ∧ FOk F ∧ VOk F V ∧ R (.dat (casesD (yesL V))) (askM (cA K) x dx l F V)
theorem ok_m_Asked_yes_cases (T : Txt w K mg) : MCallee Pg w K mg base 1 (He.ga K "Asked") "yes_cases" ["self"] (spD K (pre_m_Asked_yes_cases K)) := by
  refine T.mcallee (N := nm_m_Asked_yes_cases) (st := s_m_Asked_yes_cases) 49 131 126 rfl rfl rfl sc_m_Asked_yes_cases ?_ (fun _ _ _ _ _ _ us hl => match us, hl with | [_], _ => rfl) fun fd cdv A outer s H E hr => ⟨_, (pss_one (ps_ret (pe_lc (own := [("case", 1), ("yes", 2)]) rfl sc_m_Asked_yes_cases.nd (pi_listK K (pe_fldK K (pv 0))) (blkOk_by (N := nm_m_Asked_yes_cases) (sc := defScope s_m_Asked_yes_cases) (by decide +kernel)) (fun _ _ _ _ _ => by exact (pg_tupK K 2 (pgs_cons (pg_name (i := 1) sc_m_Asked_yes_cases.nd rfl (Or.inl rfl)) (pgs_cons (pg_name (i := 2) sc_m_Asked_yes_cases.nd rfl (Or.inl rfl)) pgs_nil)))) (fun _ _ _ _ _ => by exact (pts_one (PW.pt (pw_and (pt_val (pv 2)) (pw_and1 (pt_truthK K (pe_ix (ix_seqK K) (pv 1) pe_int (fun _ _ => rfl)))))))) (fun _ _ _ _ _ => by exact (pv 1))))), ?_⟩
  · rintro ss μ R ⟨x, dx, l, F, V, rfl, hlx, rfl, hF, hV, hR⟩
    rfl
  rintro ss μ R ⟨x, dx, l, F, V, rfl, hlx, rfl, hF, hV, hR⟩
  refine sw_ret (evd_is (ev_lc (xs := V) (φ := verD) (Wt := fun μ2 => (l, Mu.mls (V.map verD)) ∈ μ2) (ei_own (ev_kept T (ev_adr rfl) ask_x) ask_l) ask_l (fun v => v.2 && !decide (v.1.2 = [])) (fun v => caseD v.1) (tg := [1] ++ ([2] ++ [])) (by decide) (Nat.le_trans hV.len (by decide)) fun v hv => ⟨_, ga_ver, et_is (et_and (et_BD (ev_var rfl)) fun _ => et_tru (evd_op (ev_var (d := caseD v.1) rfl) (ev_c (d := .int 1) rfl) (ops_ix (d := tx v.1.2) (.inr rfl) rfl)) (truS_tx (sub6 hF (hV.ok v hv).l2))) (by rw [truD_tx]), fun _ => ev_var rfl⟩) ?_) hR
  unfold casesD yesL
  rw [List.map_map]; rfl
abbrev nm_m_Asked_no_cases : List Str := ["self", "case", "yes"]
theorem sc_m_Asked_no_cases : FnScope nm_m_Asked_no_cases ["self"] (defScope s_m_Asked_no_cases) := ⟨rfl, rfl, rfl, by decide +kernel, rfl, by decide +kernel, by decide +kernel⟩
def pre_m_Asked_no_cases (K : PySem.W.Frag) : List Sl → Mem → (Sl → Mem → Prop) → Prop := fun ss μ R => ∃ (x dx l : Addr) (F : Lot) (V : List Ver), ss = [.adr x] ∧ l ≠ x ∧ μ = askM (cA K) x dx l F V ∧ FOk F ∧ VOk F V ∧ R (.dat (casesD (noL V))) (askM (cA K) x dx l F V)
theorem ok_m_Asked_no_cases (T : Txt w K mg) : MCallee Pg w K mg base 1 (He.ga K "Asked") "no_cases" ["self"] (spD K (pre_m_Asked_no_cases K)) := by
  refine T.mcallee (N := nm_m_Asked_no_cases) (st := s_m_Asked_no_cases) 50 132 126 rfl rfl rfl sc_m_Asked_no_cases ?_ (fun _ _ _ _ _ _ us hl => match us, hl with | [_], _ => rfl) fun fd cdv A outer s H E hr => ⟨_, (pss_one (ps_ret (pe_lc (own := [("case", 1), ("yes", 2)]) rfl sc_m_Asked_no_cases.nd (pi_listK K (pe_fldK K (pv 0))) (blkOk_by (N := nm_m_Asked_no_cases) (sc := defScope s_m_Asked_no_cases) (by decide +kernel)) (fun _ _ _ _ _ => by exact (pg_tupK K 2 (pgs_cons (pg_name (i := 1) sc_m_Asked_no_cases.nd rfl (Or.inl rfl)) (pgs_cons (pg_name (i := 2) sc_m_Asked_no_cases.nd rfl (Or.inl rfl)) pgs_nil)))) (fun _ _ _ _ _ => by exact (pts_one (PW.pt (pw_and (pt_truthK K (pe_ix (ix_seqK K) (pv 1) pe_int (fun _ _ => rfl))) (pw_and1 (pt_not (pt_val (pv 2)))))))) (fun _ _ _ _ _ => by exact (pv 1))))), ?_⟩
  · rintro ss μ R ⟨x, dx, l, F, V, rfl, hlx, rfl, hF, hV, hR⟩
    rfl
  rintro ss μ R ⟨x, dx, l, F, V, rfl, hlx, rfl, hF, hV, hR⟩
  refine sw_ret (evd_is (ev_lc (xs := V) (φ := verD) (Wt := fun μ2 => (l, Mu.mls (V.map verD)) ∈ μ2) (ei_own (ev_kept T (ev_adr rfl) ask_x) ask_l) ask_l (fun v => !v.2 && !decide (v.1.1 = [])) (fun v => caseD v.1) (tg := [1] ++ ([2] ++ [])) (by decide) (Nat.le_trans hV.len (by decide)) fun v hv => ⟨_, ga_ver, et_is (et_and (et_tru (evd_op (ev_var (d := caseD v.1) rfl) (ev_c (d := .int 0) rfl) (ops_ix (d := tx v.1.1) (.inr rfl) rfl)) (truS_tx (sub6 hF (hV.ok v hv).l1))) fun _ => et_not (et_BD (ev_var rfl))) (by rw [truD_tx, Bool.and_comm]), fun _ => ev_var rfl⟩) ?_) hR
  unfold casesD noL
  rw [List.map_map]; rfl
abbrev nm_m_Asked_take_back : List Str := ["self"]
theorem sc_m_Asked_take_back : FnScope nm_m_Asked_take_back ["self"] (defScope s_m_Asked_take_back) := ⟨rfl, rfl, rfl, by decide +kernel, rfl, by decide +kernel, by decide +kernel⟩
def pre_m_Asked_take_back (K : PySem.W.Frag) : List Sl → Mem → (Sl → Mem → Prop) → Prop := fun ss μ R => ∃ (x dx l : Addr) (F : Lot) (V : List Ver) (v : Ver), ss = [.adr x] ∧ l ≠ x ∧ μ = askM (cA K) x dx l F (V ++ [v]) ∧ R (.dat (verD v)) (askM (cA K) x dx l F V)
theorem ok_m_Asked_take_back (T : Txt w K mg) : MCallee Pg w K mg base 1 (He.ga K "Asked") "take_back" ["self"] (spD K (pre_m_Asked_take_back K)) := by
  refine T.mcallee (N := nm_m_Asked_take_back) (st := s_m_Asked_take_back) 52 134 126 rfl rfl rfl sc_m_Asked_take_back ?_ (fun _ _ _ _ _ _ us hl => match us, hl with | [_], _ => rfl) fun fd cdv A outer s H E hr => ⟨_, (pss_cons (ps_if (pt_not (pt_truthK K (pe_fldK K (pv 0)))) (pss_one ps_never) pss_nil)
    (pss_one (ps_ret (pe_popK K (pe_fldK K (pv 0)))))), ?_⟩
  · rintro ss μ R ⟨x, dx, l, F, V, v, rfl, hlx, rfl, hR⟩
    rfl
  rintro ss μ R ⟨x, dx, l, F, V, v, rfl, hlx, rfl, hR⟩
  refine sw_seq (sw_if (c := false) (et_is (et_not (et_truO (ev_kept T (ev_adr rfl) ask_x) ask_l)) (by simp)) nofun fun _ => sw_next ?_)
  have hm : (l, Mu.mls (V.map verD ++ [verD v])) ∈ askM (cA K) x dx l F (V ++ [v]) := by
    have : (V ++ [v]).map verD = V.map verD ++ [verD v] := by rw [List.map_append]; rfl
    rw [← this]; exact ask_l
  refine sw_retM (em_pop (ds := V.map verD) (d := verD v) (ev_kept T (ev_adr rfl) ask_x) hm) fun s μ' z => ?_
  obtain ⟨rfl, rfl⟩ := z
  rw [ask_set hlx]; exact hR
abbrev nm_m_Asked_least : List Str := ["self"]
theorem sc_m_Asked_least : FnScope nm_m_Asked_least ["self"] (defScope s_m_Asked_least) := ⟨rfl, rfl, rfl, by decide +kernel, rfl, by decide +kernel, by decide +kernel⟩
def pre_m_Asked_least (K : PySem.W.Frag) : List Sl → Mem → (Sl → Mem → Prop) → Prop := fun ss μ R => ∃ (x dx l : Addr) (F : Lot) (V : List Ver), ss = [.adr x] ∧ l ≠ x ∧ μ = askM (cA K) x dx l F V ∧ FOk F ∧ VOk F V ∧ V.length ≤ 60 ∧ M80.Ends F (yesL V) ∧ R (.dat (steadyD K F (closedL F (yesL V)))) (askM (cA K) x dx l F V)
theorem ok_m_Asked_least (T : Txt w K mg) : MCallee Pg w K mg base 9 (He.ga K "Asked") "least" ["self"] (spD K (pre_m_Asked_least K)) := by
  have c_over := ok_f_over (Pg := Pg) (base := base) T
  have c_Asked_yes_cases := ok_m_Asked_yes_cases (Pg := Pg) (base := base) T
  refine T.mcallee (N := nm_m_Asked_least) (st := s_m_Asked_least) 53 135 126 rfl rfl rfl sc_m_Asked_least ?_ (fun _ _ _ _ _ _ us hl => match us, hl with | [_], _ => rfl) fun fd cdv A outer s H E hr => ⟨_, (pss_one (ps_ret (pe_callC c_over hr (by rfl) (pa_cons (pe_fldK K (pv 0)) (pa_cons (pe_methC0 (pv 0) c_Asked_yes_cases hr) pa_nil))))), ?_⟩
  · rintro ss μ R ⟨x, dx, l, F, V, rfl, hlx, rfl, hF, hV, hz, hE, hR⟩
    rfl
  rintro ss μ R ⟨x, dx, l, F, V, rfl, hlx, rfl, hF, hV, hz, hE, hR⟩
  refine sw_ret (ev_callP (ds := [tx F, casesD (yesL V)]) (ea_cons (ev_own T (ev_adr rfl) ask_x) (ea_cons (ev_methO (μf := askM (cA K) x dx l F V) (ev_adr rfl) ask_x rfl ea_nil (fun _ h => h) (askM_nd hlx) ⟨x, dx, l, F, V, rfl, hlx, rfl, hF, hV, rfl, rfl⟩) ea_nil)) rfl ⟨F, yesL V, rfl, hF, ⟨fun c hc => hV.ok _ (yesL_mem hc).1, fun c hc => (yesL_mem hc).2, Nat.le_trans yesL_len hz⟩, hE, rfl⟩) hR
abbrev nm_m_Asked_tell : List Str := ["self", "case", "yes", "paper"]
theorem sc_m_Asked_tell : FnScope nm_m_Asked_tell ["self", "case", "yes"] (defScope s_m_Asked_tell) := ⟨rfl, rfl, rfl, by decide +kernel, rfl, by decide +kernel, by decide +kernel⟩
def pre_m_Asked_tell (K : PySem.W.Frag) : List Sl → Mem → (Sl → Mem → Prop) → Prop := fun ss μ R => ∃ (x dx l : Addr) (F : Lot) (V : List Ver) (c : Case) (y : Bool), ss = [.adr x, .dat (caseD c), .dat (.bl y)] ∧ l ≠ x ∧ μ = askM (cA K) x dx l F V ∧ FOk F ∧ VOk F V ∧ V.length < 60 ∧ M80.Ends F (yesL V) ∧ CaseOk F c ∧ againstD F (yesL V) (noL V) c y = .non ∧ R (.dat .non) (askM (cA K) x dx l F (V ++ [(c, y)]))
theorem ok_m_Asked_tell (T : Txt w K mg) : MCallee Pg w K mg base 11 (He.ga K "Asked") "tell" ["self", "case", "yes"] (spD K (pre_m_Asked_tell K)) := by
  have c_check_case := ok_f_check_case (Pg := Pg) (base := base) T
  have c_against_paper := ok_f_against_paper (Pg := Pg) (base := base) T
  have c_Asked_no_cases := ok_m_Asked_no_cases (Pg := Pg) (base := base) T
  have c_Asked_yes_cases := ok_m_Asked_yes_cases (Pg := Pg) (base := base) T
  have m_len := T.free 96 (x := "len") rfl
  obtain ⟨t_MOST_VERDICTS, g_MOST_VERDICTS⟩ := T.int_ 108 (x := "MOST_VERDICTS") (n := 60) rfl
  refine T.mcallee (N := nm_m_Asked_tell) (st := s_m_Asked_tell) 51 133 126 rfl rfl rfl sc_m_Asked_tell ?_ (fun _ _ _ _ _ _ us hl => match us, hl with | [_, _, _], _ => rfl) fun fd cdv A outer s H E hr => ⟨_, (pss_cons (ps_expr (pe_callC c_check_case hr (by rfl) (pa_cons (pe_fldK K (pv 0)) (pa_cons (pv 1) pa_nil))))
    (pss_cons (ps_if (pt_cmpR op_ge (pe_callB (call_lenK K) (by rfl) m_len (by decide +kernel) (pa_cons (pe_fldK K (pv 0)) pa_nil)) (pe_glob (v := .int 60) rfl g_MOST_VERDICTS ⟨_, rfl⟩) (nomark _)) (pss_one ps_never) pss_nil)
    (pss_cons (ps_set (i := 3) sc_m_Asked_tell.nd rfl (Or.inl rfl) (pe_callC c_against_paper hr (by rfl) (pa_cons (pe_fldK K (pv 0)) (pa_cons (pe_methC0 (pv 0) c_Asked_yes_cases hr) (pa_cons (pe_methC0 (pv 0) c_Asked_no_cases hr) (pa_cons (pv 1) (pa_cons (pv 2) pa_nil)))))))
    (pss_cons (ps_if (pt_cmpR op_notN (pv 3) pe_non (nomark _)) (pss_one ps_never) pss_nil)
    (pss_one (ps_expr (pe_appendK K (pe_fldK K (pv 0)) (pa_cons (pe_tup (pa_cons (pv 1) (pa_cons (pv 2) pa_nil))) pa_nil)))))))), ?_⟩
  · rintro ss μ R ⟨x, dx, l, F, V, c, y, rfl, hlx, rfl, hF, hV, hz, hE, hc, hag, hR⟩
    rfl
  rintro ss μ R ⟨x, dx, l, F, V, c, y, rfl, hlx, rfl, hF, hV, hz, hE, hc, hag, hR⟩
  have hT : ToldOk F (yesL V) := ⟨fun c hc => hV.ok _ (yesL_mem hc).1, fun c hc => (yesL_mem hc).2, Nat.le_trans yesL_len (by omega)⟩
  refine sw_seq (sw_dropM (ev_callP (ds := [tx F, caseD c]) (ea_cons (ev_own T (ev_adr rfl) ask_x) (ea_cons (ev_var rfl) ea_nil)) rfl ⟨F, c, rfl, hF, hc, rfl⟩).m fun s μ' z => ?_)
  obtain ⟨rfl, _⟩ := z
  refine sw_seq (sw_if (c := false) (et_is (et_testD (evd_op (ev_cb (R := fun s => s = .dat (.int ((V.map verD).length : Nat))) (ea_consR (ev_kept T (ev_adr rfl) ask_x) ea_nil) fun ss h => ?_) (ev_c (d := .int 60) rfl) ops_cmpI)) ?_) nofun fun _ => sw_next ?_)
  · obtain ⟨s, r, rfl, rfl, rfl⟩ := h
    exact cb_lenO ask_l
  · rw [List.length_map]; exact decide_eq_false (by omega)
  refine sw_seq (sw_asg (ev_callP (ds := [tx F, casesD (yesL V), casesD (noL V), caseD c, .bl y]) (ea_cons (ev_own T (ev_adr rfl) ask_x) (ea_cons (ev_methO (μf := askM (cA K) x dx l F V) (ev_adr rfl) ask_x rfl ea_nil (fun _ h => h) (askM_nd hlx) ⟨x, dx, l, F, V, rfl, hlx, rfl, hF, hV, rfl, rfl⟩) (ea_cons (ev_methO (μf := askM (cA K) x dx l F V) (ev_adr rfl) ask_x rfl ea_nil (fun _ h => h) (askM_nd hlx) ⟨x, dx, l, F, V, rfl, hlx, rfl, hF, hV, rfl, rfl⟩) (ea_cons (ev_var rfl) (ea_cons (ev_var rfl) ea_nil))))) rfl ⟨F, yesL V, noL V, c, y, rfl, hF, hT, Nat.lt_of_le_of_lt yesL_len hz, hE, ?_, Nat.le_trans noL_len (by omega), hc, rfl⟩) ?_)
  · intro c' hc'
    unfold noL at hc'
    obtain ⟨v, hv, rfl⟩ := List.mem_map.mp hc'
    exact hV.ok v (List.mem_filter.mp hv).1
  rw [hag]
  refine sw_seq (sw_if (c := false) (et_testD (evd_op (ev_var (d := .non) rfl) (ev_c (d := .non) (by exact trivial)) (ops_notN rfl))) nofun fun _ => sw_next ?_)
  refine sw_append (ev_kept T (ev_adr rfl) ask_x) (ev_tup (ds := [caseD c, .bl y]) (ea_cons (ev_var rfl) (ea_cons (ev_var rfl) ea_nil)) (by simp)) ask_l (by rw [List.length_map]; omega) (askM_nd hlx) ?_
  have e : V.map verD ++ [.tup [caseD c, .bl y]] = (V ++ [(c, y)]).map verD := by rw [List.map_append]; rfl
  rw [e, ask_set hlx]
  exact hR
end
end KH
namespace KH
open PySem PySem.Spec PyProof.Rows L2 DL M80
section
variable {Pg : Program} {w : World} {K : PySem.W.Frag} {mg : Str → Option Value} {base : Heap}
theorem sz_tx (l : Lot) : szD (tx l) = 1 := by simp [szD]
theorem sz_case (c : Case) : szD (caseD c) = 3 := by simp [caseD, szD, szL]
theorem sz_ver (v : Ver) : szD (verD v) = 5 := by simp [verD, szD, szL, sz_case]
theorem szL_map {α : Type} {f : α → Dat} {n : Nat} (h : ∀ a, szD (f a) = n) : ∀ l : List α, szL (l.map f) = n * l.length
  | [] => by simp [szL]
  | a :: l => by rw [List.map_cons]; simp only [szL, List.length_cons]; rw [h a, szL_map h l, Nat.mul_add]; omega
theorem flL_map {α : Type} {f : α → Dat} (h : ∀ a, flD (f a) = true) : ∀ l : List α, flL (l.map f) = true
  | [] => rfl
  | a :: l => by rw [List.map_cons]; simp only [flL]; rw [h a, flL_map h l]; rfl
theorem fl_case (c : Case) : flD (caseD c) = true := rfl
theorem fl_ver (v : Ver) : flD (verD v) = true := rfl
theorem sz_vers (V : List Ver) : szD (versD V) = 5 * V.length + 1 := by
  unfold versD; simp only [szD]; rw [szL_map sz_ver]
theorem fl_vers (V : List Ver) : flD (versD V) = true := by
  unfold versD; simp only [flD]; exact flL_map fl_ver V
theorem sz_cases (T : List Case) : szD (casesD T) = 3 * T.length + 1 := by
  unfold casesD; simp only [szD]; rw [szL_map sz_case]
theorem fl_cases (T : List Case) : flD (casesD T) = true := by
  unfold casesD; simp only [flD]; exact flL_map fl_case T
theorem sz_txs (ls : List Lot) : szD (txs ls) = 1 * ls.length + 1 := by
  unfold txs; simp only [szD]; rw [szL_map sz_tx]
theorem fl_txs (ls : List Lot) : flD (txs ls) = true := by
  unfold txs; simp only [flD]; exact flL_map (fun _ => rfl) ls
/-- the two that a turn owns: the asked one, the law's list -/
def lawM (C x dx l b : Addr) (F : Lot) (V W : List Ver) : Mem := (b, .mls (W.map verD)) :: askM C x dx l F V
structure Apart (x l b : Addr) : Prop where
  lx : l ≠ x
  bl : b ≠ l
  bx : b ≠ x
theorem lawM_nd {C x dx l b : Addr} {F : Lot} {V W : List Ver} (h : Apart x l b) : (adrs (lawM C x dx l b F V W)).Nodup := by
  simp [lawM, askM, h.lx, h.bl, h.bx]
theorem law_sub {C x dx l b : Addr} {F : Lot} {V W : List Ver} : ∀ p ∈ askM C x dx l F V, p ∈ lawM C x dx l b F V W := fun p h => .tail _ h
theorem law_x {C x dx l b : Addr} {F : Lot} {V W : List Ver} : (x, Mu.mis C dx (askF F l)) ∈ lawM C x dx l b F V W := .tail _ ask_x
theorem law_b {C x dx l b : Addr} {F : Lot} {V W : List Ver} : (b, Mu.mls (W.map verD)) ∈ lawM C x dx l b F V W := .head _
theorem same_ok {e : Dat} (h1 : flD e = true) (h2 : szD e < 200000) : rel_f__law_same [e, e] (.bl true) := ⟨e, rfl, h1, h2, rfl⟩
theorem ev_yesO {Γ : List Sl} {μ : Mem} {te : TE} {b : Addr} {W : List Ver} {E : XK} (h : Ev K te Γ μ (fun z => z = .adr b)) (hm : (b, Mu.mls (W.map verD)) ∈ μ) (hz : W.length ≤ 1000) : EvD K (tCall (spD K pre_f__law_yes_list) [] E (tCons te tNil)) Γ μ (casesD (yesL W)) :=
  ev_callR (Ra := fun ss => ss = [.adr b]) (ea_cons h ea_nil) fun ss e => by
    subst e
    exact ⟨[(b, .mls (W.map verD))], fun p hp => List.mem_singleton.mp hp ▸ hm, by simp, W, hz, ⟨rfl, rfl⟩, .inr ⟨b, rfl, rfl⟩⟩
abbrev nm_f__law_stays : List Str := ["asked", "verdicts", "case", "yes"]
theorem sc_f__law_stays : FnScope nm_f__law_stays ["asked", "verdicts"] (defScope s_f__law_stays) := ⟨rfl, rfl, rfl, by decide +kernel, rfl, by decide +kernel, by decide +kernel⟩
def pre_f__law_stays (K : PySem.W.Frag) : List Sl → Mem → (Sl → Mem → Prop) → Prop := fun ss μ R => ∃ (x dx l b : Addr) (F : Lot) (V : List Ver), ss = [.adr x, .adr b] ∧ Apart x l b ∧ μ = lawM (cA K) x dx l b F V V ∧ FOk F ∧ VOk F V ∧ R (.dat (.bl true)) (lawM (cA K) x dx l b F V V)
theorem ok_f__law_stays (T : Txt w K mg) : Callee Pg w K mg base 3 "_law_stays" ["asked", "verdicts"] (spD K (pre_f__law_stays K)) := by
  have c__law_same := ok_f__law_same (Pg := Pg) (base := base) T
  have c_Asked_len := ok_m_Asked_len (Pg := Pg) (base := base) T
  have c_Asked_verdicts := ok_m_Asked_verdicts (Pg := Pg) (base := base) T
  have c__law_yes_list := ok_f__law_yes_list (Pg := Pg) (base := base) T
  have c_Asked_yes_cases := ok_m_Asked_yes_cases (Pg := Pg) (base := base) T
  have c_Asked_no_cases := ok_m_Asked_no_cases (Pg := Pg) (base := base) T
  have m_len := T.free 96 (x := "len") rfl
  refine T.callee (N := nm_f__law_stays) (st := s_f__law_stays) 87 69 rfl rfl sc_f__law_stays ?_ (fun _ _ _ _ _ _ us hl => match us, hl with | [_, _], _ => rfl) fun fd cdv A outer s H E hr => ⟨_, (pss_cons (ps_if (PW.pt (pw_or (pt_not (pt_val (pe_callC c__law_same hr (by rfl) (pa_cons (pe_methC0 (pv 0) c_Asked_verdicts hr) (pa_cons (pv 1) pa_nil))))) (pw_or1 (pt_not (pt_val (pe_callC c__law_same hr (by rfl) (pa_cons (pe_lenOwn c_Asked_len hr m_len (pa_cons (pv 0) pa_nil)) (pa_cons (pe_callB (call_lenK K) (by rfl) m_len (by decide +kernel) (pa_cons (pv 1) pa_nil)) pa_nil)))))))) (pss_one (ps_ret pe_bl)) pss_nil)
    (pss_cons (ps_if (pt_not (pt_val (pe_callC c__law_same hr (by rfl) (pa_cons (pe_methC0 (pv 0) c_Asked_yes_cases hr) (pa_cons (pe_callC c__law_yes_list hr (by rfl) (pa_cons (pv 1) pa_nil)) pa_nil))))) (pss_one (ps_ret pe_bl)) pss_nil)
    (pss_one (ps_ret (pe_callC c__law_same hr (by rfl) (pa_cons (pe_methC0 (pv 0) c_Asked_no_cases hr) (pa_cons (pe_lc (own := [("case", 2), ("yes", 3)]) rfl sc_f__law_stays.nd (pi_listK K (pv 1)) (blkOk_by (N := nm_f__law_stays) (sc := defScope s_f__law_stays) (by decide +kernel)) (fun _ _ _ _ _ => by exact (pg_tupK K 2 (pgs_cons (pg_name (i := 2) sc_f__law_stays.nd rfl (Or.inl rfl)) (pgs_cons (pg_name (i := 3) sc_f__law_stays.nd rfl (Or.inl rfl)) pgs_nil)))) (fun _ _ _ _ _ => by exact (pts_one (PW.pt (pw_and (pt_not (pt_val (pv 3))) (pw_and1 (pt_cmpR op_ne (pe_ix (ix_seqK K) (pv 2) pe_int (fun _ _ => rfl)) pe_str (nomark _))))))) (fun _ _ _ _ _ => by exact (pv 2))) pa_nil))))))), ?_⟩
  · rintro ss μ R ⟨x, dx, l, b, F, V, rfl, hap, rfl, hF, hV, hR⟩
    rfl
  rintro ss μ R ⟨x, dx, l, b, F, V, rfl, hap, rfl, hF, hV, hR⟩
  have hz := hV.len
  have hlx := hap.lx
  have nd := askM_nd (C := cA K) (dx := dx) (F := F) (V := V) hlx
  have hyl := yesL_len (V := V)
  have hnl := noL_len (V := V)
  refine sw_seq (sw_if (c := false) (et_is (et_or (et_not (et_BD (ev_lent (ds := [versD V, versD V]) (ea_cons (ev_methO (μf := askM (cA K) x dx l F V) (R := fun s => s = .dat (versD V)) (ev_adr rfl) law_x rfl ea_nil law_sub nd ⟨x, dx, l, F, V, rfl, hlx, rfl, rfl, rfl⟩) (ea_cons (ev_adr rfl) ea_nil)) ⟨rfl, ⟨_, rfl, law_b⟩, trivial⟩ rfl (same_ok (fl_vers V) (by rw [sz_vers]; omega)) rfl))) fun _ =>
    et_not (et_BD (ev_callP (ds := [.int (V.length : Nat), .int (V.length : Nat)]) (ea_cons (ev_lenOwn (μf := askM (cA K) x dx l F V) (n := V.length) (ev_adr rfl) law_x law_sub nd (by omega) ⟨x, dx, l, F, V, rfl, hlx, rfl, rfl, rfl⟩) (ea_cons (evd_is (ev_cb (R := fun s => s = .dat (.int ((V.map verD).length : Nat))) (ea_consR (ev_adr rfl) ea_nil) fun ss h => by
      obtain ⟨s, r, rfl, rfl, rfl⟩ := h
      exact cb_lenO law_b) (by rw [List.length_map])) ea_nil)) rfl (same_ok rfl (by simp [szD]))))) rfl) nofun fun _ => sw_next ?_)
  refine sw_seq (sw_if (c := false) (et_is (et_not (et_BD (ev_callP (ds := [casesD (yesL V), casesD (yesL V)]) (ea_cons (ev_methO (μf := askM (cA K) x dx l F V) (R := fun s => s = .dat (casesD (yesL V))) (ev_adr rfl) law_x rfl ea_nil law_sub nd ⟨x, dx, l, F, V, rfl, hlx, rfl, hF, hV, rfl, rfl⟩) (ea_cons (ev_yesO (ev_adr rfl) law_b (by omega)) ea_nil)) rfl (same_ok (fl_cases _) (by rw [sz_cases]; omega))))) rfl) nofun fun _ => sw_next ?_)
  refine sw_ret (ev_callP (ds := [casesD (noL V), casesD (noL V)]) (ea_cons (ev_methO (μf := askM (cA K) x dx l F V) (R := fun s => s = .dat (casesD (noL V))) (ev_adr rfl) law_x rfl ea_nil law_sub nd ⟨x, dx, l, F, V, rfl, hlx, rfl, hF, hV, rfl, rfl⟩) (ea_cons (evd_is (ev_lc (xs := V) (φ := verD) (Wt := fun μ2 => (b, Mu.mls (V.map verD)) ∈ μ2) (ei_own (ev_adr rfl) law_b) law_b (fun v => !v.2 && !decide (v.1.1 = [])) (fun v => caseD v.1) (tg := [2] ++ ([3] ++ [])) (by decide) (by omega) fun v hv => ⟨_, ga_ver, et_and (et_not (et_BD (ev_var rfl))) fun _ => et_testD (evd_op (evd_op (ev_var (d := caseD v.1) rfl) (ev_c (d := .int 0) rfl) (ops_ix (d := tx v.1.1) (.inr rfl) rfl)) (ev_c (d := tx []) rfl) ops_neT), fun _ => ev_var rfl⟩) ?_) ea_nil)) rfl (same_ok (fl_cases _) (by rw [sz_cases]; omega))) hR
  unfold casesD noL
  rw [List.map_map]; rfl
theorem cl_fix {F A : Lot} {T : List Case} (hF : FOk F) (hA : A.Sublist F) : decide (cl F T A = A) = cdB F T A := by
  refine bool_eq ?_
  rw [decide_eq_true_iff, cd_iff hF.nodup hA]
  constructor
  · intro e
    have := cd_cl (F := F) (T := T) (A := A)
    rwa [e] at this
  · intro h
    exact sub_ext hF.nodup cl_sub hA fun x hx => ⟨fun z => cl_of_cd h z, fun z => cl_holds z hx⟩
abbrev nm_f__law_least_holds : List Str := ["asked", "fields", "verdicts", "told", "due", "lot"]
theorem sc_f__law_least_holds : FnScope nm_f__law_least_holds ["asked", "fields", "verdicts"] (defScope s_f__law_least_holds) := ⟨rfl, rfl, rfl, by decide +kernel, rfl, by decide +kernel, by decide +kernel⟩
def pre_f__law_least_holds (K : PySem.W.Frag) : List Sl → Mem → (Sl → Mem → Prop) → Prop := fun ss μ R => ∃ (x dx l b : Addr) (F : Lot) (V : List Ver), ss = [.adr x, .dat (tx F), .adr b] ∧ Apart x l b ∧ μ = lawM (cA K) x dx l b F V V ∧ FOk F ∧ VOk F V ∧ V.length ≤ 60 ∧ M80.Ends F (yesL V) ∧ R (.dat (.bl true)) (lawM (cA K) x dx l b F V V)
theorem ok_f__law_least_holds (T : Txt w K mg) : Callee Pg w K mg base 10 "_law_least_holds" ["asked", "fields", "verdicts"] (spD K (pre_f__law_least_holds K)) := by
  have c__law_yes_list := ok_f__law_yes_list (Pg := Pg) (base := base) T
  have c__law_sublots := ok_f__law_sublots (Pg := Pg) (base := base) T
  have c__law_less := ok_f__law_less (Pg := Pg) (base := base) T
  have c__law_listing := ok_f__law_listing (Pg := Pg) (base := base) T
  have c__law_same := ok_f__law_same (Pg := Pg) (base := base) T
  have c_Steady_closed := ok_m_Steady_closed (Pg := Pg) (base := base) T
  have c_Asked_least := ok_m_Asked_least (Pg := Pg) (base := base) T
  refine T.callee (N := nm_f__law_least_holds) (st := s_f__law_least_holds) 89 71 rfl rfl sc_f__law_least_holds ?_ (fun _ _ _ _ _ _ us hl => match us, hl with | [_, _, _], _ => rfl) fun fd cdv A outer s H E hr => ⟨_, (pss_cons (ps_set (i := 3) sc_f__law_least_holds.nd rfl (Or.inr rfl) (pe_callC c__law_yes_list hr (by rfl) (pa_cons (pv 2) pa_nil)))
    (pss_cons (ps_setLc (i := 4) (own := [("lot", 5)]) rfl sc_f__law_least_holds.nd rfl rfl (sw_true rfl rfl rfl (by decide +kernel)) (pi_listK K (pe_callC c__law_sublots hr (by rfl) (pa_cons (pv 1) pa_nil))) (blkOk_by (N := nm_f__law_least_holds) (sc := defScope s_f__law_least_holds) (by decide +kernel)) (fun _ _ _ _ _ => by exact (pg_name (i := 5) sc_f__law_least_holds.nd rfl (Or.inl rfl))) (fun _ _ _ _ _ => by exact (pts_one (pt_cmpR op_eq (pe_callC c__law_less hr (by rfl) (pa_cons (pv 1) (pa_cons (pe_callC c__law_listing hr (by rfl) (pa_cons (pv 1) (pa_cons (pv 3) (pa_cons (pv 5) pa_nil)))) pa_nil))) (pv 5) (nomark _)))) (fun _ _ _ _ _ => by exact (pv 5)))
    (pss_one (ps_ret (pe_callC c__law_same hr (by rfl) (pa_cons (pe_methC0 (pe_methC0 (pv 0) c_Asked_least hr) c_Steady_closed hr) (pa_cons (pv 4) pa_nil))))))), ?_⟩
  · rintro ss μ R ⟨x, dx, l, b, F, V, rfl, hap, rfl, hF, hV, hz, hE, hR⟩
    rfl
  rintro ss μ R ⟨x, dx, l, b, F, V, rfl, hap, rfl, hF, hV, hz, hE, hR⟩
  have nd := askM_nd (C := cA K) (dx := dx) (F := F) (V := V) hap.lx
  have hz2 := hV.len
  refine sw_seq (sw_asg (ev_yesO (ev_adr rfl) law_b (by omega)) ?_)
  refine sw_seq (sw_asg (d := txs (closedL F (yesL V))) (evd_is (ev_lc (xs := partsL F) (φ := tx) (ei_lst (ev_callP (ds := [tx F]) (ea_cons (ev_var rfl) ea_nil) rfl ⟨F, rfl, hF.len, rfl⟩)) trivial (fun A => decide (cl F (yesL V) A = A)) tx (tg := [5]) (by decide) (Nat.le_trans (partsL_len hF.len) (by decide)) fun A hA => ⟨_, ga_name, et_testD (evd_op (ev_callP (ds := [tx F, tx (srt (walk F (yesL V) A))]) (ea_cons (ev_var rfl) (ea_cons (ev_callP (ds := [tx F, casesD (yesL V), tx A]) (ea_cons (ev_var rfl) (ea_cons (ev_var rfl) (ea_cons (ev_var rfl) ea_nil))) rfl ⟨F, yesL V, A, rfl, hF, hV.cs, rfl⟩) ea_nil)) rfl ⟨F, _, rfl, Nat.le_trans hF.len (by decide), by rw [lst_cl hF]⟩) (ev_var rfl) ops_eqT), fun _ => ev_var rfl⟩) ?_) ?_)
  · unfold txs closedL
    have : (partsL F).filter (fun A => decide (cl F (yesL V) A = A)) = (partsL F).filter (cdB F (yesL V)) := List.filter_congr fun A hA => cl_fix hF (partsL_mem.mp hA)
    rw [this]
  have hcl : (closedL F (yesL V)).length ≤ 64 := Nat.le_trans (List.length_filter_le _ _) (partsL_len hF.len)
  exact sw_ret (ev_callP (ds := [txs (closedL F (yesL V)), txs (closedL F (yesL V))]) (ea_cons (ev_methP (ds := []) (fs := steadyF F (closedL F (yesL V))) (ev_methO (μf := askM (cA K) x dx l F V) (R := fun s => s = .dat (steadyD K F (closedL F (yesL V)))) (ev_adr rfl) law_x rfl ea_nil law_sub nd ⟨x, dx, l, F, V, rfl, hap.lx, rfl, hF, hV, hz, hE, rfl, rfl⟩) rfl ea_nil rfl ⟨F, _, rfl, rfl⟩) (ea_cons (ev_var rfl) ea_nil)) rfl (same_ok (fl_txs _) (by rw [sz_txs]; omega))) hR
end
end KH
namespace KH
open PySem PySem.Spec PyProof.Rows L2 DL M80
section
variable {Pg : Program} {w : World} {K : PySem.W.Frag} {mg : Str → Option Value} {base : Heap}
theorem ops_mulI {μ : Mem} {i j : Int} (h : CMul i j) : OpS K μ (rI CMul fun i j => .int (i * j)) (.dat (.int i)) (.dat (.int j)) (fun s => s = .dat (.int (i * j))) := ops_I h rfl
theorem ops_mulWI {μ : Mem} {i j : Int} (h : CMulW i j) : OpS K μ (rI CMulW fun i j => .int (i * j)) (.dat (.int i)) (.dat (.int j)) (fun s => s = .dat (.int (i * j))) := ops_I h rfl
theorem ops_modI {μ : Mem} {i j : Int} (h : 0 < j) : OpS K μ (rI (fun _ j => 0 < j) fun i j => .int (i % j)) (.dat (.int i)) (.dat (.int j)) (fun s => s = .dat (.int (i % j))) := ops_I h rfl
theorem ops_divI {μ : Mem} {i j : Int} (h : CDivW i j) : OpS K μ (rI CDivW fun i j => .int (i / j)) (.dat (.int i)) (.dat (.int j)) (fun s => s = .dat (.int (i / j))) := ops_I h rfl
theorem ops_powI {μ : Mem} {i j : Int} (h : CPow i j) : OpS K μ (rI CPow fun i j => .int (i ^ j.toNat)) (.dat (.int i)) (.dat (.int j)) (fun s => s = .dat (.int (i ^ j.toNat))) := ops_I h rfl
def mixS (m : Int) : Int := ((m + m / 1073741824) * (m % 1073741824 + 2862933555777941757)) % 2305843009213693951
def mixF (n : Int) : Int := mixS (mixS ((n * 6364136223846793005 + 1442695040888963407) % 2305843009213693951)) / 512
abbrev nm_f__law_mix : List Str := ["number", "mixed", "turn"]
theorem sc_f__law_mix : FnScope nm_f__law_mix ["number"] (defScope s_f__law_mix) := ⟨rfl, rfl, rfl, by decide +kernel, rfl, by decide +kernel, by decide +kernel⟩
def rel_f__law_mix : List Dat → Dat → Prop := fun ds d => ∃ n : Int, ds = [.int n] ∧ d = .int (mixF n)
theorem ok_f__law_mix (T : Txt w K mg) : Callee Pg w K mg base 1 "_law_mix" ["number"] (spD K (preP 1 rel_f__law_mix)) := by
  have m_int := T.free 93 (x := "int") rfl
  have m_range := T.free 100 (x := "range") rfl
  refine T.calleeP (N := nm_f__law_mix) (st := s_f__law_mix) 66 48 rfl rfl sc_f__law_mix rfl (fun _ _ _ _ _ _ us hl => match us, hl with | [_], _ => rfl) fun cdv A outer s H E hr => ⟨_, (pss_cons (ps_set (i := 1) sc_f__law_mix.nd rfl (Or.inl rfl) (pe_op op_mod (pe_callTy call_int1 (by rfl) m_int (by decide +kernel) (pa_cons (pe_op op_add (pe_op op_mul (pv 0) pe_int) pe_int) pa_nil)) pe_int))
    (pss_cons (ps_for PassesOwn.never rfl (pi_range1 (by rfl) m_range (pa_cons pe_int pa_nil)) (pg_name (i := 2) sc_f__law_mix.nd rfl (Or.inl rfl)) (pss_one (ps_set (i := 1) sc_f__law_mix.nd rfl (Or.inl rfl) (pe_op op_mod (pe_callTy call_int1 (by rfl) m_int (by decide +kernel) (pa_cons (pe_op op_mul (pe_op op_add (pv 1) (pe_op op_fdivW (pv 1) pe_int)) (pe_op op_add (pe_op op_mod (pv 1) pe_int) pe_int)) pa_nil)) pe_int))))
    (pss_one (ps_ret (pe_op op_fdivW (pv 1) pe_int))))), ?_⟩
  rintro ds d hn ⟨n, rfl, rfl⟩
  refine sw_seq (sw_asg (evd_op (evd_cb (ea_cons (evd_op (evd_op (ev_var rfl) (ev_c (d := .int 6364136223846793005) rfl) (ops_mulI (.inr (by decide)))) (ev_c (d := .int 1442695040888963407) rfl) ops_addI) ea_nil) cb_int) (ev_c (d := .int 2305843009213693951) rfl) (ops_modI (by decide))) ?_)
  refine sw_seq (sw_for (ei_rng1D (n := 2) (ea_cons (ev_c rfl) ea_nil) (by decide) (by decide)) (fun i Γ' μ' => μ' = [] ∧ ∃ (m : Int) (s : Sl), (i = 0 ∧ m = (n * 6364136223846793005 + 1442695040888963407) % 2305843009213693951 ∨ i = 1 ∧ m = mixS ((n * 6364136223846793005 + 1442695040888963407) % 2305843009213693951) ∨ i = 2 ∧ m = mixS (mixS ((n * 6364136223846793005 + 1442695040888963407) % 2305843009213693951))) ∧ Γ' = [.dat (.int n), .dat (.int m), s]) ⟨rfl, _, _, .inl ⟨rfl, rfl⟩, rfl⟩ (fun _ _ _ _ _ => trivial) (fun i e Γ' μ' he hI => ?_) fun Γ' μ' hI => ?_)
  · obtain ⟨hi, rfl⟩ := rgD_get he
    obtain ⟨rfl, m, s, hm, rfl⟩ := hI
    refine ⟨_, _, ga_name, sw_asg (evd_op (evd_cb (ea_cons (evd_op (evd_op (ev_var rfl) (evd_op (ev_var rfl) (ev_c (d := .int 1073741824) rfl) (ops_divI ⟨by decide, by decide +kernel⟩)) ops_addI) (evd_op (evd_op (ev_var rfl) (ev_c (d := .int 1073741824) rfl) (ops_modI (by decide))) (ev_c (d := .int 2862933555777941757) rfl) ops_addI) (ops_mulI (.inr ?_))) ea_nil) cb_int) (ev_c (d := .int 2305843009213693951) rfl) (ops_modI (by decide))) ⟨rfl, mixS m, _, ?_, rfl⟩⟩
    · have h1 := Int.emod_nonneg m (show (1073741824 : Int) ≠ 0 by decide)
      have h2 := Int.emod_lt_of_pos m (show (0 : Int) < 1073741824 by decide)
      omega
    · have hi2 : i < 2 := hi
      rcases hm with ⟨rfl, rfl⟩ | ⟨rfl, rfl⟩ | ⟨rfl, _⟩
      · exact .inr (.inl ⟨rfl, rfl⟩)
      · exact .inr (.inr ⟨rfl, rfl⟩)
      · omega
  · obtain ⟨rfl, m, s, hm, rfl⟩ := hI
    rw [rgD_len] at hm
    have h2 : (2 : Int).toNat = 2 := rfl
    have hm' : m = mixS (mixS ((n * 6364136223846793005 + 1442695040888963407) % 2305843009213693951)) := by
      rcases hm with ⟨h, _⟩ | ⟨h, _⟩ | ⟨_, h⟩
      · omega
      · omega
      · exact h
    subst hm'
    exact sw_ret (evd_op (ev_var rfl) (ev_c (d := .int 512) rfl) (ops_divI ⟨by decide, by decide +kernel⟩)) rfl
theorem sto_cells {ns : List Int} {i r t z : Int} : getD (stoD ns i r t z) (.inr "cells") = some (.lst (ns.map Dat.int)) := rfl
theorem sto_at {ns : List Int} {i r t z : Int} : getD (stoD ns i r t z) (.inr "at") = some (.int i) := rfl
theorem sto_rest {ns : List Int} {i r t z : Int} : getD (stoD ns i r t z) (.inr "rest") = some (.int r) := rfl
theorem sto_turn {ns : List Int} {i r t z : Int} : getD (stoD ns i r t z) (.inr "turn") = some (.int t) := rfl
theorem sto_seed {ns : List Int} {i r t z : Int} : getD (stoD ns i r t z) (.inr "seed") = some (.int z) := rfl
theorem put_at {ns : List Int} {i r t z j : Int} : putD (stoD ns i r t z) (.inr "at") (.int j) = stoD ns j r t z := rfl
theorem put_rest {ns : List Int} {i r t z j : Int} : putD (stoD ns i r t z) (.inr "rest") (.int j) = stoD ns i j t z := rfl
theorem put_turn {ns : List Int} {i r t z j : Int} : putD (stoD ns i r t z) (.inr "turn") (.int j) = stoD ns i r j z := rfl
abbrev nm_f__law_take : List Str := ["store", "many", "cells", "number", "cell", "rest"]
theorem sc_f__law_take : FnScope nm_f__law_take ["store", "many"] (defScope s_f__law_take) := ⟨rfl, rfl, rfl, by decide +kernel, rfl, by decide +kernel, by decide +kernel⟩
def pre_f__law_take : List Sl → Mem → (Sl → Mem → Prop) → Prop := fun ss μ R => ∃ (s : Addr) (n : Int), ss = [.adr s, .dat (.int n)] ∧ μ = [(s, .sto)] ∧ n ≤ 1000000 ∧ ∀ r : Int, 0 ≤ r → (r < n ∨ r = 0) → R (.dat (.int r)) [(s, .sto)]
theorem ok_f__law_take (T : Txt w K mg) : Callee Pg w K mg base 2 "_law_take" ["store", "many"] (spD K pre_f__law_take) := by
  have c__law_mix := ok_f__law_mix (Pg := Pg) (base := base) T
  have m_int := T.free 93 (x := "int") rfl
  have m_len := T.free 96 (x := "len") rfl
  refine T.callee (N := nm_f__law_take) (st := s_f__law_take) 68 50 rfl rfl sc_f__law_take ?_ (fun _ _ _ _ _ _ us hl => match us, hl with | [_, _], _ => rfl) fun fd cdv A outer s H E hr => ⟨_, (pss_cons (ps_if (pt_cmpR op_lt (pv 1) pe_int (nomark _)) (pss_one (ps_ret pe_int)) pss_nil)
    (pss_cons (ps_set (i := 2) sc_f__law_take.nd rfl (Or.inl rfl) (pe_dget (hu_of hr) (pv 0) pe_str (fun _ _ => rfl)))
    (pss_cons (ps_set (i := 3) sc_f__law_take.nd rfl (Or.inl rfl) pe_int)
    (pss_cons (ps_if (PW.pt (pw_and (pt_cmpR op_eq (pe_dget (hu_of hr) (pv 0) pe_str (fun _ _ => rfl)) pe_int (nomark _)) (pw_and1 (pt_cmpR op_lt (pe_dget (hu_of hr) (pv 0) pe_str (fun _ _ => rfl)) (pe_callB (call_lenK K) (by rfl) m_len (by decide +kernel) (pa_cons (pv 2) pa_nil)) (nomark _))))) (pss_cons (ps_set (i := 4) sc_f__law_take.nd rfl (Or.inl rfl) (pe_callTy call_int1 (by rfl) m_int (by decide +kernel) (pa_cons (pe_ix (ix_seqK K) (pv 2) (pe_dget (hu_of hr) (pv 0) pe_str (fun _ _ => rfl)) (fun _ _ => rfl)) pa_nil)))
    (pss_cons (ps_dput (hu_of hr) (pv 0) pe_str (pe_op op_add (pe_dget (hu_of hr) (pv 0) pe_str (fun _ _ => rfl)) pe_int) rfl)
    (pss_one (ps_if (pt_cmpR op_ge (pv 4) (pe_op op_pow pe_int pe_int) (nomark _)) (pss_one (ps_dput (hu_of hr) (pv 0) pe_str (pe_op op_mod (pv 4) (pe_op op_mulW (pe_op op_mulW (pe_op op_mulW (pe_op op_pow pe_int pe_int) (pe_op op_pow pe_int pe_int)) (pe_op op_pow pe_int pe_int)) (pe_op op_pow pe_int pe_int))) rfl)) (pss_one (ps_set (i := 3) sc_f__law_take.nd rfl (Or.inl rfl) (pe_op op_add pe_int (pe_op op_mod (pv 4) pe_int)))))))) pss_nil)
    (pss_cons (ps_set (i := 5) sc_f__law_take.nd rfl (Or.inl rfl) (pe_callTy call_int1 (by rfl) m_int (by decide +kernel) (pa_cons (pe_dget (hu_of hr) (pv 0) pe_str (fun _ _ => rfl)) pa_nil)))
    (pss_cons (ps_if (pt_cmpR op_gt (pv 5) pe_int (nomark _)) (pss_cons (ps_dput (hu_of hr) (pv 0) pe_str (pe_op op_fdivW (pv 5) (pv 1)) rfl)
    (pss_one (ps_ret (pe_op op_mod (pv 5) (pv 1))))) pss_nil)
    (pss_cons (ps_dput (hu_of hr) (pv 0) pe_str (pe_op op_add (pe_dget (hu_of hr) (pv 0) pe_str (fun _ _ => rfl)) pe_int) rfl)
    (pss_one (ps_ret (pe_op op_mod (pe_callTy call_int1 (by rfl) m_int (by decide +kernel) (pa_cons (pe_callC c__law_mix hr (by rfl) (pa_cons (pe_op op_add (pe_op op_add (pe_dget (hu_of hr) (pv 0) pe_str (fun _ _ => rfl)) (pe_op op_mul (pe_dget (hu_of hr) (pv 0) pe_str (fun _ _ => rfl)) pe_int)) (pe_op op_mul (pv 3) pe_int)) pa_nil)) pa_nil)) (pv 1))))))))))), ?_⟩
  · rintro ss μ R ⟨s, n, rfl, rfl, hn, hR⟩
    rfl
  rintro ss μ R ⟨s, n, rfl, rfl, hn, hR⟩
  refine sw_sto fun ns i r tn z h1 h2 h3 => ?_
  have hz : (stoD ns i r tn z).length ≤ 1000 := by simp [stoD]
  refine sw_seq (sw_if (c := decide (n < 2)) (et_testD (evd_op (ev_var rfl) (ev_c (d := .int 2) rfl) ops_cmpI)) (fun _ => sw_ret (d := .int 0) (ev_c rfl) ⟨ns, i, r, tn, z, h1, h2, h3, rfl, hR 0 (by omega) (.inr rfl)⟩) fun hq => sw_next ?_)
  have hn2 : 2 ≤ n := by
    have := of_decide_eq_false hq
    omega
  have gS : ∀ {Γ : List Sl} {ns : List Int} {i r tn z : Int} {k : Str} {d : Dat}, Γ[0]? = some (.adr s) → getD (stoD ns i r tn z) (.inr k) = some d → EvD K (tDGet (tVar 0) (tC (.str k))) Γ [(s, .mdc (stoD ns i r tn z))] d := fun {Γ ns i r tn z k d} e h => ev_dgetO (k := .inr k) (ev_adr e) (.head _) (ev_c (by exact rfl)) h
  have dP : ∀ {Γ : List Sl} {ns : List Int} {i r tn z : Int} {tv : TE} {k : Str} {d : Dat} {O : Ou}, Γ[0]? = some (.adr s) → EvD K tv Γ [(s, .mdc (stoD ns i r tn z))] d → O.nx Γ [(s, .mdc (putD (stoD ns i r tn z) (.inr k) d))] → SW K (sDPut (tVar 0) (tC (.str k)) tv) Γ [(s, .mdc (stoD ns i r tn z))] O := fun {Γ ns i r tn z tv k d O} e hv h => sw_dputO (k := .inr k) hv (ev_adr e) (.head _) (ev_c (by exact rfl)) (by simp [stoD]) (by rw [setMu_one]; exact h)
  refine sw_seq (sw_asg (gS rfl sto_cells) ?_)
  refine sw_seq (sw_asg (ev_c (d := .int 0) rfl) ?_)
  have hnz : ∀ x : Int, 0 ≤ x % n ∧ x % n < n := fun x => ⟨Int.emod_nonneg x (by omega), Int.emod_lt_of_pos x (by omega)⟩
  have hdivn : ∀ x : Int, CDivW x n := fun x => wide_div (b := 30) (by omega) (Nat.lt_of_le_of_lt (show n.natAbs ≤ 1000000 by omega) (by decide)) (by decide) (by decide)
  refine sw_seq (SW.imp (O := { nx := fun Γ' μ' => ∃ (ns : List Int) (i r tn z m : Int) (s4 s5 : Sl), ns.length ≤ 100000 ∧ 0 ≤ i ∧ 0 ≤ r ∧ μ' = [(s, .mdc (stoD ns i r tn z))] ∧ Γ' = [.adr s, .dat (.int n), .dat (.lst (ns.map Dat.int)), .dat (.int m), s4, s5], rt := fun _ _ => False }) ?_ (fun Γ' μ' hI => ?_) (fun _ _ z => z.elim) (fun _ _ z => z.elim) fun _ _ z => z.elim)
  · refine sw_if (c := decide (r = 0) && decide (i < (ns.length : Nat))) (et_and (et_testD (evd_op (gS rfl sto_rest) (ev_c (d := .int 0) rfl) ops_eqI)) fun _ => et_testD (evd_op (gS rfl sto_at) (evd_cb (ea_cons (ev_var rfl) ea_nil) (cb_len (n := ns.length) (by show some _ = _; rw [List.length_map]) (by omega))) ops_cmpI)) (fun hq => ?_) fun hq => sw_next ⟨ns, i, r, tn, z, _, _, _, h1, h2, h3, rfl, rfl⟩
    rw [Bool.and_eq_true, decide_eq_true_iff, decide_eq_true_iff] at hq
    have hlt : i.toNat < ns.length := by omega
    have hix : atI (ns.map Dat.int) i = some (.int ns[i.toNat]) := by
      unfold atI ixN
      rw [List.length_map, if_pos h2, if_pos (by omega)]
      show (ns.map Dat.int)[i.toNat]? = _
      rw [List.getElem?_map, List.getElem?_eq_getElem hlt]; rfl
    refine sw_seq (sw_asg (evd_cb (ea_cons (evd_op (ev_var (d := .lst (ns.map Dat.int)) rfl) (gS rfl sto_at) (ops_ix (.inl rfl) hix)) ea_nil) cb_int) ?_)
    refine sw_seq (dP rfl (evd_op (gS rfl sto_at) (ev_c (d := .int 1) rfl) ops_addI) ?_)
    rw [put_at]
    refine sw_if (c := decide (ns[i.toNat] ≥ 10 ^ 18)) (et_testD (evd_op (ev_var rfl) (evd_op (ev_c (d := .int 10) rfl) (ev_c (d := .int 18) rfl) (ops_powI ⟨by decide, by decide, by decide +kernel⟩)) ops_cmpI)) (fun _ => ?_) fun _ => ?_
    · have p64 : ∀ {Γ : List Sl} {μ : Mem}, EvD K (tOp (rI CPow fun i j => .int (i ^ j.toNat)) (tC (.int 10)) (tC (.int 64))) Γ μ (.int (10 ^ 64)) := evd_op (ev_c (d := .int 10) rfl) (ev_c (d := .int 64) rfl) (ops_powI ⟨by decide, by decide, by decide +kernel⟩)
      refine dP rfl (evd_op (ev_var rfl) (evd_op (evd_op (evd_op p64 p64 (ops_mulWI (by unfold CMulW; decide +kernel))) p64 (ops_mulWI (by unfold CMulW; decide +kernel))) p64 (ops_mulWI (by unfold CMulW; decide +kernel))) (ops_modI (by decide +kernel))) ?_
      rw [put_rest]
      exact ⟨ns, i + 1, _, tn, z, _, _, _, h1, by omega, Int.emod_nonneg _ (by decide +kernel), rfl, rfl⟩
    · exact sw_asg (evd_op (ev_c (d := .int 1) rfl) (evd_op (ev_var rfl) (ev_c (d := .int 2305843009213693951) rfl) (ops_modI (by decide))) ops_addI) ⟨ns, i + 1, r, tn, z, _, _, _, h1, by omega, h3, rfl, rfl⟩
  obtain ⟨ns, i, r, tn, z, m, s4, s5, h1, h2, h3, rfl, rfl⟩ := hI
  refine sw_seq (sw_asg (evd_cb (ea_cons (gS rfl sto_rest) ea_nil) cb_int) ?_)
  refine sw_seq (sw_if (c := decide (r > 0)) (et_testD (evd_op (ev_var rfl) (ev_c (d := .int 0) rfl) ops_cmpI)) (fun hq => ?_) fun hq => sw_next ?_)
  · refine sw_seq (dP rfl (evd_op (ev_var rfl) (ev_var rfl) (ops_divI (hdivn r))) ?_)
    rw [put_rest]
    exact sw_ret (evd_op (ev_var rfl) (ev_var rfl) (ops_modI (by omega))) ⟨ns, i, r / n, tn, z, h1, h2, Int.ediv_nonneg h3 (by omega), rfl, hR _ (hnz r).1 (.inl (hnz r).2)⟩
  · refine sw_seq (dP rfl (evd_op (gS rfl sto_turn) (ev_c (d := .int 1) rfl) ops_addI) ?_)
    rw [put_turn]
    refine sw_ret (evd_op (evd_cb (ea_cons (ev_callP (ds := [.int (z + (tn + 1) * 2147483647 + m * 16807)]) (ea_cons (evd_op (evd_op (gS rfl sto_seed) (evd_op (gS rfl sto_turn) (ev_c (d := .int 2147483647) rfl) (ops_mulI (.inr (by decide)))) ops_addI) (evd_op (ev_var rfl) (ev_c (d := .int 16807) rfl) (ops_mulI (.inr (by decide)))) ops_addI) ea_nil) rfl ⟨_, rfl, rfl⟩) ea_nil) cb_int) (ev_var rfl) (ops_modI (by omega))) ⟨ns, i, r, tn + 1, z, h1, h2, h3, rfl, hR _ (hnz _).1 (.inl (hnz _).2)⟩
end
end KH
namespace KH
open PySem PySem.Spec PyProof.Rows L2 DL M80
section
variable {Pg : Program} {w : World} {K : PySem.W.Frag} {mg : Str → Option Value} {base : Heap}
theorem ev_take {Γ : List Sl} {μ : Mem} {ts tn : TE} {s : Addr} {n : Int} {E : XK} (hs : Ev K ts Γ μ (fun z => z = .adr s)) (hm : (s, Mu.sto) ∈ μ) (hn : EvD K tn Γ μ (.int n)) (hz : n ≤ 1000000) :
    Ev K (tCall (spD K pre_f__law_take) [] E (tCons ts (tCons tn tNil))) Γ μ (fun z => ∃ r : Int, z = .dat (.int r) ∧ 0 ≤ r ∧ (r < n ∨ r = 0)) :=
  ev_callR (Ra := fun ss => ss = [.adr s, .dat (.int n)]) (ea_cons hs (ea_cons hn ea_nil)) fun ss e => by
    subst e
    exact ⟨[(s, .sto)], fun p hp => List.mem_singleton.mp hp ▸ hm, by simp, s, n, rfl, rfl, hz, fun r h1 h2 => ⟨rfl, r, rfl, h1, h2⟩⟩
theorem ev_imp {Γ : List Sl} {μ : Mem} {te : TE} {R R' : Sl → Prop} (h : Ev K te Γ μ R) (k : ∀ s, R s → R' s) : Ev K te Γ μ R' := h.imp k
abbrev nm_f__law_pick : List Str := ["store", "things"]
theorem sc_f__law_pick : FnScope nm_f__law_pick ["store", "things"] (defScope s_f__law_pick) := ⟨rfl, rfl, rfl, by decide +kernel, rfl, by decide +kernel, by decide +kernel⟩
def pre_f__law_pick : List Sl → Mem → (Sl → Mem → Prop) → Prop := fun ss μ R => ∃ (s : Addr), (∃ l : Lot, ss = [.adr s, .dat (tx l)] ∧ μ = [(s, .sto)] ∧ l ≠ [] ∧ l.length ≤ 6 ∧ ∀ c ∈ l, R (.dat (tx [c])) [(s, .sto)]) ∨ ∃ (b : Addr) (ds : List Dat), ss = [.adr s, .adr b] ∧ μ = [(s, .sto), (b, .mls ds)] ∧ ds ≠ [] ∧ ds.length ≤ 1000 ∧ ∀ e ∈ ds, R (.dat e) [(s, .sto), (b, .mls ds)]
theorem ok_f__law_pick (T : Txt w K mg) : Callee Pg w K mg base 3 "_law_pick" ["store", "things"] (spD K pre_f__law_pick) := by
  have c__law_take := ok_f__law_take (Pg := Pg) (base := base) T
  have m_len := T.free 96 (x := "len") rfl
  refine T.callee (N := nm_f__law_pick) (st := s_f__law_pick) 69 51 rfl rfl sc_f__law_pick ?_ (fun _ _ _ _ _ _ us hl => match us, hl with | [_, _], _ => rfl) fun fd cdv A outer s H E hr => ⟨_, (pss_one (ps_ret (pe_ix (ix_seqK K) (pv 1) (pe_callC c__law_take hr (by rfl) (pa_cons (pv 0) (pa_cons (pe_callB (call_lenK K) (by rfl) m_len (by decide +kernel) (pa_cons (pv 1) pa_nil)) pa_nil))) (fun _ _ => rfl)))), ?_⟩
  · rintro ss μ R ⟨s, hcase⟩
    rcases hcase with ⟨l, rfl, _⟩ | ⟨b, ds, rfl, _⟩ <;> rfl
  rintro ss μ R ⟨s, hcase⟩
  rcases hcase with ⟨l, rfl, rfl, hne, h6, hR⟩ | ⟨b, ds, rfl, rfl, hne, h6, hR⟩
  · have hpos : 0 < l.length := List.length_pos_iff.mpr hne
    refine sw_retR (ev_op (R := fun z => ∃ c ∈ l, z = .dat (tx [c])) (ev_var (d := tx l) rfl) (ev_take (ev_adr rfl) (.head _) (evd_cb (ea_cons (ev_var (d := tx l) rfl) ea_nil) (cb_len (n := l.length) (by show some _ = _; rw [len_tx]) (by omega))) (by omega)) fun sa sb h1 h2 => ?_) fun z ⟨c, hc, e⟩ => by rw [e]; exact hR c hc
    obtain ⟨r, rfl, h3, h4⟩ := h2
    subst h1
    have hlt : r.toNat < l.length := by omega
    have hix : atI l r = some l[r.toNat] := by
      unfold atI ixN
      rw [if_pos h3, if_pos (by omega)]
      exact List.getElem?_eq_getElem hlt
    intro P H x y xt m ra rb Q q
    exact ops_ixT (by omega) hix P H x y xt m ra rb Q fun v P' H' s' st rv e => q v P' H' s' st rv ⟨_, List.getElem_mem hlt, e⟩
  · have hpos : 0 < ds.length := List.length_pos_iff.mpr hne
    refine sw_retR (ev_op (R := fun z => ∃ e ∈ ds, z = .dat e) (ev_adr rfl) (ev_take (ev_adr rfl) (.head _) (ev_cb (R := fun s => s = .dat (.int (ds.length : Nat))) (ea_consR (ev_adr rfl) ea_nil) fun ss h => ?_) (by omega)) fun sa sb h1 h2 => ?_) fun z ⟨c, hc, e⟩ => by rw [e]; exact hR c hc
    · obtain ⟨s, r, rfl, rfl, rfl⟩ := h
      exact cb_lenO (.tail _ (.head _))
    obtain ⟨r, rfl, h3, h4⟩ := h2
    subst h1
    have hlt : r.toNat < ds.length := by omega
    have hix : atI ds r = some ds[r.toNat] := by
      unfold atI ixN
      rw [if_pos h3, if_pos (by omega)]
      exact List.getElem?_eq_getElem hlt
    intro P H x y xt m ra rb Q q
    exact ops_ixO (.tail _ (.head _)) hix P H x y xt m ra rb Q fun v P' H' s' st rv e => q v P' H' s' st rv ⟨_, List.getElem_mem hlt, e⟩
theorem chs_erase : ∀ {l : Lot} {j : Nat}, (chs l).eraseIdx j = chs (l.eraseIdx j)
  | [], _ => rfl
  | c :: l, 0 => rfl
  | c :: l, j + 1 => by
    have := chs_erase (l := l) (j := j)
    show tx [c] :: (chs l).eraseIdx j = tx [c] :: chs (l.eraseIdx j)
    rw [this]
theorem perm_erase : ∀ {l : Lot} {j : Nat} {c : Nat}, l[j]? = some c → (c :: l.eraseIdx j).Perm l
  | [], _, _, h => by simp at h
  | a :: l, 0, c, h => by
    have e : a = c := by simpa using h
    rw [e]; exact List.Perm.refl _
  | a :: l, j + 1, c, h => by
    have ih := perm_erase (l := l) (j := j) (c := c) (by simpa using h)
    exact (List.Perm.swap a c _).trans (ih.cons a)
abbrev nm_f__law_shuffled : List Str := ["store", "things", "left", "found", "count"]
theorem sc_f__law_shuffled : FnScope nm_f__law_shuffled ["store", "things"] (defScope s_f__law_shuffled) := ⟨rfl, rfl, rfl, by decide +kernel, rfl, by decide +kernel, by decide +kernel⟩
def pre_f__law_shuffled : List Sl → Mem → (Sl → Mem → Prop) → Prop := fun ss μ R => ∃ (s : Addr) (l : Lot), ss = [.adr s, .dat (tx l)] ∧ μ = [(s, .sto)] ∧ l.length ≤ 6 ∧ ∀ p : Lot, p.Perm l → R (.dat (.lst (chs p))) [(s, .sto)]
theorem ok_f__law_shuffled (T : Txt w K mg) : Callee Pg w K mg base 3 "_law_shuffled" ["store", "things"] (spD K pre_f__law_shuffled) := by
  have c__law_take := ok_f__law_take (Pg := Pg) (base := base) T
  have m_len := T.free 96 (x := "len") rfl
  have m_list := T.free 97 (x := "list") rfl
  have m_range := T.free 100 (x := "range") rfl
  refine T.callee (N := nm_f__law_shuffled) (st := s_f__law_shuffled) 70 52 rfl rfl sc_f__law_shuffled ?_ (fun _ _ _ _ _ _ us hl => match us, hl with | [_, _], _ => rfl) fun fd cdv A outer s H E hr => ⟨_, (pss_cons (ps_set (i := 2) sc_f__law_shuffled.nd rfl (Or.inl rfl) (pe_callTy (call_list_strC rfl) (by rfl) m_list (by decide +kernel) (pa_cons (pv 1) pa_nil)))
    (pss_cons (ps_set (i := 3) sc_f__law_shuffled.nd rfl (Or.inl rfl) (pe_lst pa_nil))
    (pss_cons (ps_for PassesOwn.never rfl (pi_range1 (by rfl) m_range (pa_cons (pe_callB (call_lenK K) (by rfl) m_len (by decide +kernel) (pa_cons (pv 1) pa_nil)) pa_nil)) (pg_name (i := 4) sc_f__law_shuffled.nd rfl (Or.inl rfl)) (pss_one (ps_expr (pe_appendK K (pv 3) (pa_cons (pe_popAtK K (pv 2) (pa_cons (pe_callC c__law_take hr (by rfl) (pa_cons (pv 0) (pa_cons (pe_callB (call_lenK K) (by rfl) m_len (by decide +kernel) (pa_cons (pv 2) pa_nil)) pa_nil))) pa_nil)) pa_nil)))))
    (pss_one (ps_ret (pv 3)))))), ?_⟩
  · rintro ss μ R ⟨s, l, rfl, rfl, h6, hR⟩
    rfl
  rintro ss μ R ⟨s, l, rfl, rfl, h6, hR⟩
  refine SW.forget (O := { nx := fun _ _ => False, rt := fun z μ' => R z [(s, .sto)] ∧ (s, .sto) ∈ μ' }) ?_ (fun _ _ z => z.elim) (fun z μ' h => ⟨[(s, .sto)], fun p hp => List.mem_singleton.mp hp ▸ h.2, by simp, h.1⟩) (fun _ _ z => z) fun _ _ z => z
  refine sw_seq (sw_asgM (em_ownStr (l := l) (ea_cons (ev_var rfl) ea_nil) (by omega)) fun z μ' h => ?_)
  obtain ⟨a, ha, rfl, rfl⟩ := h
  refine sw_seq (sw_newL fun f hf => ?_)
  have has : a ≠ s := fun e => ha (by simp [e])
  have hfa : f ≠ a := fun e => hf (by simp [e])
  have hfs : f ≠ s := fun e => hf (by simp [e])
  have hnd : ∀ {m1 m2 : Mu}, (adrs [(f, m1), (a, m2), (s, Mu.sto)]).Nodup := by
    intro m1 m2
    simp [hfa, hfs, has]
  refine sw_seq (sw_for (ei_rng1D (n := (l.length : Nat)) (ea_cons (evd_cb (ea_cons (ev_var rfl) ea_nil) (cb_len (n := l.length) (by show some _ = _; rw [len_tx]) (by omega))) ea_nil) (by omega) (by omega)) (fun i Γ' μ' => ∃ (p r : Lot) (s4 : Sl), (p ++ r).Perm l ∧ p.length = i ∧ μ' = [(f, .mls (chs p)), (a, .mls (chs r)), (s, .sto)] ∧ Γ' = [.adr s, .dat (tx l), .adr a, .adr f, s4]) ⟨[], l, _, List.Perm.refl _, rfl, rfl, rfl⟩ (fun _ _ _ _ _ => trivial) (fun i e Γ' μ' he hI => ?_) fun Γ' μ' hI => ?_)
  · obtain ⟨hi, rfl⟩ := rgD_get he
    obtain ⟨p, r, s4, hp, hpl, rfl, rfl⟩ := hI
    have hlen := hp.length_eq
    rw [List.length_append] at hlen
    refine ⟨_, _, ga_name, ?_⟩
    refine sw_dropM (em_append (l := f) (ev_adr rfl) (em_popAt (l := a) (ds := chs r) (ev_adr rfl) (.tail _ (.head _)) (by rw [chs_len]; omega) (ev_imp (ev_take (n := (r.length : Nat)) (ev_adr rfl) (.tail _ (.tail _ (.head _))) (ev_cb (R := fun s => s = .dat (.int (r.length : Nat))) (ea_consR (ev_adr rfl) ea_nil) fun ss h => ?_) (by omega)) fun z h => ?_)) (fun z μ' h => ?_) ⟨chs p, .head _⟩) fun z μ' h => ?_
    · obtain ⟨s, rr, rfl, rfl, rfl⟩ := h
      intro P H xs xt m rs Q q
      refine cb_lenO (ds := chs r) (.tail _ (.head _)) P H xs xt m rs Q fun v P' H' s' st rv e => q v P' H' s' st rv ?_
      rw [e, chs_len]
    · obtain ⟨k, rfl, h1, h2⟩ := h
      refine ⟨k.toNat, by rw [Int.toNat_of_nonneg h1], ?_⟩
      rw [chs_len]; omega
    · obtain ⟨j, d, h1, rfl, rfl⟩ := h
      refine ⟨d, chs p, rfl, ?_, by rw [chs_len]; omega⟩
      exact mem_setMu_ne (.head _) hfa
    · obtain ⟨rfl, d, ds, μ1, ⟨j, d', h1, e1, rfl⟩, h2, rfl⟩ := h
      cases e1
      obtain ⟨c, hc, rfl⟩ := chs_get h1
      obtain ⟨hj, ec⟩ := List.getElem?_eq_some_iff.mp hc
      have e2 : setMu [(f, Mu.mls (chs p)), (a, .mls (chs r)), (s, .sto)] a (.mls ((chs r).eraseIdx j)) = [(f, .mls (chs p)), (a, .mls (chs (r.eraseIdx j))), (s, .sto)] := by
        rw [chs_erase]
        simp [setMu, hfa, Ne.symm has]
      rw [e2] at h2 ⊢
      have e3 : ds = chs p := by
        have := uniqA hnd h2 (.head _) rfl
        cases this; rfl
      subst e3
      refine ⟨p ++ [c], r.eraseIdx j, _, ?_, by rw [List.length_append, hpl]; rfl, ?_, rfl⟩
      · refine List.Perm.trans ?_ hp
        rw [List.append_assoc]
        refine List.Perm.append_left p ?_
        exact perm_erase hc
      · simp [setMu, Ne.symm hfa, Ne.symm hfs, chs]
  · obtain ⟨p, r, s4, hp, hpl, rfl, rfl⟩ := hI
    rw [rgD_len, Int.toNat_natCast] at hpl
    have hlen := hp.length_eq
    rw [List.length_append] at hlen
    have hr : r = [] := List.length_eq_zero_iff.mp (by omega)
    subst hr
    rw [List.append_nil] at hp
    refine sw_retO (ev_adr rfl) (.head _) hnd ⟨hR p hp, ?_⟩
    refine List.mem_filter.mpr ⟨.tail _ (.tail _ (.head _)), by simpa using Ne.symm hfs⟩
end
end KH
namespace KH
open PySem PySem.Spec PyProof.Rows L2 DL M80
section
variable {Pg : Program} {w : World} {K : PySem.W.Frag} {mg : Str → Option Value} {base : Heap}
theorem ev_shuf {Γ : List Sl} {μ : Mem} {ts tl : TE} {s : Addr} {l : Lot} {E : XK} (hs : Ev K ts Γ μ (fun z => z = .adr s)) (hm : (s, Mu.sto) ∈ μ) (hl : EvD K tl Γ μ (tx l)) (h6 : l.length ≤ 6) :
    Ev K (tCall (spD K pre_f__law_shuffled) [] E (tCons ts (tCons tl tNil))) Γ μ (fun z => ∃ p : Lot, p.Perm l ∧ z = .dat (.lst (chs p))) :=
  ev_callR (Ra := fun ss => ss = [.adr s, .dat (tx l)]) (ea_cons hs (ea_cons hl ea_nil)) fun ss e => by
    subst e
    exact ⟨[(s, .sto)], fun p hp => List.mem_singleton.mp hp ▸ hm, by simp, s, l, rfl, rfl, h6, fun p hp => ⟨rfl, p, hp, rfl⟩⟩
theorem ev_pickF {Γ : List Sl} {μ : Mem} {ts tl : TE} {s : Addr} {l : Lot} {E : XK} (hs : Ev K ts Γ μ (fun z => z = .adr s)) (hm : (s, Mu.sto) ∈ μ) (hl : EvD K tl Γ μ (tx l)) (hne : l ≠ []) (h6 : l.length ≤ 6) :
    Ev K (tCall (spD K pre_f__law_pick) [] E (tCons ts (tCons tl tNil))) Γ μ (fun z => ∃ c ∈ l, z = .dat (tx [c])) :=
  ev_callR (Ra := fun ss => ss = [.adr s, .dat (tx l)]) (ea_cons hs (ea_cons hl ea_nil)) fun ss e => by
    subst e
    exact ⟨[(s, .sto)], fun p hp => List.mem_singleton.mp hp ▸ hm, by simp, s, .inl ⟨l, rfl, rfl, hne, h6, fun c hc => ⟨rfl, c, hc, rfl⟩⟩⟩
theorem chs_at {p : Lot} {i c : Nat} (h : p[i]? = some c) : (chs p)[i]? = some (tx [c]) := by
  unfold chs; rw [List.getElem?_map, h]; rfl
theorem case_nil {F : Lot} : CaseOk F ([], []) := ⟨List.nil_sublist _, List.nil_sublist _, fun _ h => nomatch h⟩
theorem case_l {F a : Lot} (h : a.Sublist F) : CaseOk F (a, []) := ⟨h, List.nil_sublist _, fun _ _ h => nomatch h⟩
theorem case_r {F a : Lot} (h : a.Sublist F) : CaseOk F ([], a) := ⟨List.nil_sublist _, h, fun _ h => nomatch h⟩
theorem case_two {F : Lot} {a b : Nat} (ha : a ∈ F) (hb : b ∈ F) (h : a ≠ b) : CaseOk F ([a], [b]) := ⟨List.singleton_sublist.mpr ha, List.singleton_sublist.mpr hb, fun x hx hy => h (by rw [← List.mem_singleton.mp hx, List.mem_singleton.mp hy])⟩
abbrev nm_f__law_case : List Str := ["store", "fields", "kind", "pair", "ahead", "behind", "field", "sign"]
theorem sc_f__law_case : FnScope nm_f__law_case ["store", "fields"] (defScope s_f__law_case) := ⟨rfl, rfl, rfl, by decide +kernel, rfl, by decide +kernel, by decide +kernel⟩
def pre_f__law_case : List Sl → Mem → (Sl → Mem → Prop) → Prop := fun ss μ R => ∃ (s : Addr) (F : Lot), ss = [.adr s, .dat (tx F)] ∧ μ = [(s, .sto)] ∧ FOk F ∧ ∀ c, CaseOk F c → R (.dat (caseD c)) [(s, .sto)]
theorem ok_f__law_case (T : Txt w K mg) : Callee Pg w K mg base 4 "_law_case" ["store", "fields"] (spD K pre_f__law_case) := by
  have c__law_take := ok_f__law_take (Pg := Pg) (base := base) T
  have c__law_shuffled := ok_f__law_shuffled (Pg := Pg) (base := base) T
  have m_len := T.free 96 (x := "len") rfl
  refine T.callee (N := nm_f__law_case) (st := s_f__law_case) 76 58 rfl rfl sc_f__law_case ?_ (fun _ _ _ _ _ _ us hl => match us, hl with | [_, _], _ => rfl) fun fd cdv A outer s H E hr => ⟨_, (pss_cons (ps_set (i := 2) sc_f__law_case.nd rfl (Or.inl rfl) (pe_callC c__law_take hr (by rfl) (pa_cons (pv 0) (pa_cons pe_int pa_nil))))
    (pss_cons (ps_if (pt_cmpR op_lt (pv 2) pe_int (nomark _)) (pss_one (ps_ret (pe_ix (ix_seqK K) (pe_tup (pa_cons (pe_tup (pa_cons pe_str (pa_cons pe_str pa_nil))) (pa_cons (pe_tup (pa_cons (pv 1) (pa_cons pe_str pa_nil))) (pa_cons (pe_tup (pa_cons pe_str (pa_cons (pv 1) pa_nil))) pa_nil)))) (pv 2) (fun _ _ => rfl)))) pss_nil)
    (pss_cons (ps_if (PW.pt (pw_and (pt_cmpR op_lt (pv 2) pe_int (nomark _)) (pw_and1 (pt_cmpR op_gt (pe_callB (call_lenK K) (by rfl) m_len (by decide +kernel) (pa_cons (pv 1) pa_nil)) pe_int (nomark _))))) (pss_cons (ps_set (i := 3) sc_f__law_case.nd rfl (Or.inl rfl) (pe_callC c__law_shuffled hr (by rfl) (pa_cons (pv 0) (pa_cons (pv 1) pa_nil))))
    (pss_one (ps_ret (pe_tup (pa_cons (pe_ix (ix_seqK K) (pv 3) pe_int (fun _ _ => rfl)) (pa_cons (pe_ix (ix_seqK K) (pv 3) pe_int (fun _ _ => rfl)) pa_nil)))))) pss_nil)
    (pss_cons (ps_set (i := 4) sc_f__law_case.nd rfl (Or.inl rfl) pe_str)
    (pss_cons (ps_set (i := 5) sc_f__law_case.nd rfl (Or.inl rfl) pe_str)
    (pss_cons (ps_for PassesOwn.never rfl (pi_str (pv 1)) (pg_name (i := 6) sc_f__law_case.nd rfl (Or.inl rfl)) (pss_cons (ps_set (i := 7) sc_f__law_case.nd rfl (Or.inl rfl) (pe_callC c__law_take hr (by rfl) (pa_cons (pv 0) (pa_cons pe_int pa_nil))))
    (pss_cons (ps_if (pt_cmpR op_eq (pv 7) pe_int (nomark _)) (pss_one (ps_set (i := 4) sc_f__law_case.nd rfl (Or.inl rfl) (pe_op op_add_str (pv 4) (pv 6)))) pss_nil)
    (pss_one (ps_if (pt_cmpR op_eq (pv 7) pe_int (nomark _)) (pss_one (ps_set (i := 5) sc_f__law_case.nd rfl (Or.inl rfl) (pe_op op_add_str (pv 5) (pv 6)))) pss_nil)))))
    (pss_one (ps_ret (pe_tup (pa_cons (pv 4) (pa_cons (pv 5) pa_nil))))))))))), ?_⟩
  · rintro ss μ R ⟨s, F, rfl, rfl, hF, hR⟩
    rfl
  rintro ss μ R ⟨s, F, rfl, rfl, hF, hR⟩
  have hF6 := hF.len
  refine sw_seq (sw_asgR (ev_take (n := 9) (ev_adr rfl) (.head _) (ev_c rfl) (by decide)) fun z hz => ?_)
  obtain ⟨k, rfl, hk0, _⟩ := hz
  refine sw_seq (sw_if (c := decide (k < 3)) (et_testD (evd_op (ev_var rfl) (ev_c (d := .int 3) rfl) ops_cmpI)) (fun hq => ?_) fun hq => sw_next ?_)
  · have hk3 := of_decide_eq_true hq
    have e3 : ∀ {e : Dat}, atI [caseD ([], []), caseD (F, []), caseD ([], F)] k = some e → ∀ {Γ : List Sl} {μ : Mem}, Γ[1]? = some (.dat (tx F)) → Γ[2]? = some (.dat (.int k)) → EvD K (tOp (rIx K) (tTup (tCons (tTup (tCons (tC (.str "")) (tCons (tC (.str "")) tNil))) (tCons (tTup (tCons (tVar 1) (tCons (tC (.str "")) tNil))) (tCons (tTup (tCons (tC (.str "")) (tCons (tVar 1) tNil))) tNil)))) (tVar 2)) Γ μ e := fun {e} he {Γ μ} h1 h2 =>
      evd_op (ev_tup (ds := [caseD ([], []), caseD (F, []), caseD ([], F)]) (ea_cons (ev_tup (ds := [tx [], tx []]) (ea_cons (ev_c rfl) (ea_cons (ev_c rfl) ea_nil)) (by simp)) (ea_cons (ev_tup (ds := [tx F, tx []]) (ea_cons (ev_var h1) (ea_cons (ev_c rfl) ea_nil)) (by simp)) (ea_cons (ev_tup (ds := [tx [], tx F]) (ea_cons (ev_c rfl) (ea_cons (ev_var h1) ea_nil)) (by simp)) ea_nil))) (by simp)) (ev_var h2) (ops_ix (.inr rfl) he)
    have : k = 0 ∨ k = 1 ∨ k = 2 := by omega
    rcases this with rfl | rfl | rfl
    · exact sw_ret (e3 rfl rfl rfl) (hR _ case_nil)
    · exact sw_ret (e3 rfl rfl rfl) (hR _ (case_l (List.Sublist.refl _)))
    · exact sw_ret (e3 rfl rfl rfl) (hR _ (case_r (List.Sublist.refl _)))
  refine sw_seq (sw_if (c := decide (k < 5) && decide ((F.length : Nat) > (1 : Int))) (et_and (et_testD (evd_op (ev_var rfl) (ev_c (d := .int 5) rfl) ops_cmpI)) fun _ => et_testD (evd_op (evd_cb (ea_cons (ev_var (d := tx F) rfl) ea_nil) (cb_len (n := F.length) (by show some _ = _; rw [len_tx]) (by omega))) (ev_c (d := .int 1) rfl) ops_cmpI)) (fun hq => ?_) fun hq => sw_next ?_)
  · have hl : 1 < F.length := by
      rw [Bool.and_eq_true, decide_eq_true_iff, decide_eq_true_iff] at hq
      omega
    refine sw_seq (sw_asgR (ev_shuf (ev_adr rfl) (.head _) (ev_var (d := tx F) rfl) hF6) fun z hz => ?_)
    obtain ⟨p, hp, rfl⟩ := hz
    have hpl := hp.length_eq
    have hpn : p.Nodup := hp.nodup_iff.mpr hF.nodup
    have h0 : p[0]? = some p[0] := List.getElem?_eq_getElem (by omega)
    have h1 : p[1]? = some p[1] := List.getElem?_eq_getElem (by omega)
    have hne : p[0] ≠ p[1] := List.pairwise_iff_getElem.mp (List.nodup_iff_pairwise_ne.mp hpn) 0 1 (by omega) (by omega) (by omega)
    refine sw_ret (ev_tup (ds := [tx [p[0]], tx [p[1]]]) (ea_cons (evd_op (ev_var (d := .lst (chs p)) rfl) (ev_c (d := .int 0) rfl) (ops_ix (.inl rfl) (atI_nat (i := 0) (chs_at h0)))) (ea_cons (evd_op (ev_var (d := .lst (chs p)) rfl) (ev_c (d := .int 1) rfl) (ops_ix (.inl rfl) (atI_nat (i := 1) (chs_at h1)))) ea_nil)) (by simp)) (hR ([p[0]], [p[1]]) (case_two (hp.mem_iff.mp (List.getElem_mem _)) (hp.mem_iff.mp (List.getElem_mem _)) hne))
  refine sw_seq (sw_asg (ev_c (d := tx []) rfl) ?_)
  refine sw_seq (sw_asg (ev_c (d := tx []) rfl) ?_)
  refine sw_seq (sw_for (ei_str (ev_var (d := tx F) rfl)) (fun i Γ' μ' => μ' = [(s, Mu.sto)] ∧ ∃ (a b : Lot) (s2 s3 s6 s7 : Sl), a.Sublist (F.take i) ∧ b.Sublist (F.take i) ∧ (∀ x ∈ a, x ∉ b) ∧ Γ' = [.adr s, .dat (tx F), s2, s3, .dat (tx a), .dat (tx b), s6, s7]) ⟨rfl, [], [], _, _, _, _, List.nil_sublist _, List.nil_sublist _, (fun _ h => nomatch h), rfl⟩ (fun _ _ _ _ _ => trivial) (fun i e Γ' μ' he hI => ?_) fun Γ' μ' hI => ?_)
  · obtain ⟨c, hc, rfl⟩ := chs_get he
    obtain ⟨rfl, a, b, s2, s3, s6, s7, ha, hb, hab, rfl⟩ := hI
    have hnew : c ∉ F.take i := fun z => by
      have h2 : (F.take (i + 1)).Nodup := (List.take_sublist _ _).nodup hF.nodup
      rw [take_snoc hc, List.nodup_append] at h2
      exact h2.2.2 _ z _ (by simp) rfl
    have hca : c ∉ a := fun z => hnew (ha.subset z)
    have hcb : c ∉ b := fun z => hnew (hb.subset z)
    have ha6 : a.length ≤ 6 := Nat.le_trans ha.length_le (by rw [List.length_take]; omega)
    have hb6 : b.length ≤ 6 := Nat.le_trans hb.length_le (by rw [List.length_take]; omega)
    have up : ∀ {x : Lot}, x.Sublist (F.take i) → x.Sublist (F.take (i + 1)) := fun h => by
      rw [take_snoc hc]; exact h.trans (List.sublist_append_left _ _)
    have upc : ∀ {x : Lot}, x.Sublist (F.take i) → (x ++ [c]).Sublist (F.take (i + 1)) := fun h => by
      rw [take_snoc hc]; exact h.append (List.Sublist.refl _)
    refine ⟨_, _, ga_name, ?_⟩
    refine sw_seq (sw_asgR (ev_take (n := 3) (ev_adr rfl) (.head _) (ev_c rfl) (by decide)) fun z hz => ?_)
    obtain ⟨g, rfl, hg0, _⟩ := hz
    refine sw_seq (sw_if (c := decide (g = 1)) (et_testD (evd_op (ev_var rfl) (ev_c (d := .int 1) rfl) ops_eqI)) (fun hq => ?_) fun hq => sw_next ?_)
    · refine sw_asg (evd_op (ev_var (d := tx a) rfl) (ev_var (d := tx [c]) rfl) (ops_addS (by simp only [List.length_singleton]; omega))) ?_
      have hg := of_decide_eq_true hq
      refine sw_if (c := false) (et_is (et_testD (evd_op (ev_var (d := .int g) rfl) (ev_c (d := .int 2) rfl) ops_eqI)) (decide_eq_false (by omega))) nofun fun _ => sw_next ⟨rfl, a ++ [c], b, _, _, _, _, upc ha, up hb, fun x hx => ?_, rfl⟩
      rcases List.mem_append.mp hx with hx | hx
      · exact hab x hx
      · rw [List.mem_singleton.mp hx]; exact hcb
    · refine sw_if (c := decide (g = 2)) (et_testD (evd_op (ev_var (d := .int g) rfl) (ev_c (d := .int 2) rfl) ops_eqI)) (fun hq2 => ?_) fun _ => sw_next ⟨rfl, a, b, _, _, _, _, up ha, up hb, hab, rfl⟩
      refine sw_asg (evd_op (ev_var (d := tx b) rfl) (ev_var (d := tx [c]) rfl) (ops_addS (by simp only [List.length_singleton]; omega))) ⟨rfl, a, b ++ [c], _, _, _, _, up ha, upc hb, fun x hx hy => ?_, rfl⟩
      rcases List.mem_append.mp hy with hy | hy
      · exact hab x hx hy
      · exact hca (by rw [← List.mem_singleton.mp hy]; exact hx)
  · obtain ⟨rfl, a, b, s2, s3, s6, s7, ha, hb, hab, rfl⟩ := hI
    rw [chs_len, List.take_length] at ha hb
    exact sw_ret (ev_tup (ds := [tx a, tx b]) (ea_cons (ev_var rfl) (ea_cons (ev_var rfl) ea_nil)) (by simp)) (hR (a, b) ⟨ha, hb, hab⟩)
theorem ev_case {Γ : List Sl} {μ : Mem} {ts tl : TE} {s : Addr} {F : Lot} {E : XK} (hF : FOk F) (hs : Ev K ts Γ μ (fun z => z = .adr s)) (hm : (s, Mu.sto) ∈ μ) (hl : EvD K tl Γ μ (tx F)) :
    Ev K (tCall (spD K pre_f__law_case) [] E (tCons ts (tCons tl tNil))) Γ μ (fun z => ∃ c, CaseOk F c ∧ z = .dat (caseD c)) :=
  ev_callR (Ra := fun ss => ss = [.adr s, .dat (tx F)]) (ea_cons hs (ea_cons hl ea_nil)) fun ss e => by
    subst e
    exact ⟨[(s, .sto)], fun p hp => List.mem_singleton.mp hp ▸ hm, by simp, s, F, rfl, rfl, hF, fun c hc => ⟨rfl, c, hc, rfl⟩⟩
abbrev nm_f__law_claim : List Str := ["store", "fields", "ahead", "behind", "field"]
theorem sc_f__law_claim : FnScope nm_f__law_claim ["store", "fields"] (defScope s_f__law_claim) := ⟨rfl, rfl, rfl, by decide +kernel, rfl, by decide +kernel, by decide +kernel⟩
def pre_f__law_claim : List Sl → Mem → (Sl → Mem → Prop) → Prop := fun ss μ R => ∃ (s : Addr) (F : Lot), ss = [.adr s, .dat (tx F)] ∧ μ = [(s, .sto)] ∧ FOk F ∧ ∀ c, CaseOk F c → R (.dat (caseD c)) [(s, .sto)]
theorem ok_f__law_claim (T : Txt w K mg) : Callee Pg w K mg base 5 "_law_claim" ["store", "fields"] (spD K pre_f__law_claim) := by
  have c__law_case := ok_f__law_case (Pg := Pg) (base := base) T
  have c__law_pick := ok_f__law_pick (Pg := Pg) (base := base) T
  have c__law_less := ok_f__law_less (Pg := Pg) (base := base) T
  refine T.callee (N := nm_f__law_claim) (st := s_f__law_claim) 77 59 rfl rfl sc_f__law_claim ?_ (fun _ _ _ _ _ _ us hl => match us, hl with | [_, _], _ => rfl) fun fd cdv A outer s H E hr => ⟨_, (pss_cons (ps_asg (pe_callC c__law_case hr (by rfl) (pa_cons (pv 0) (pa_cons (pv 1) pa_nil))) (pg_tupK K 2 (pgs_cons (pg_name (i := 2) sc_f__law_claim.nd rfl (Or.inl rfl)) (pgs_cons (pg_name (i := 3) sc_f__law_claim.nd rfl (Or.inl rfl)) pgs_nil))))
    (pss_cons (ps_if (pt_cmpR op_ne (pv 2) pe_str (nomark _)) (pss_one (ps_ret (pe_tup (pa_cons (pv 2) (pa_cons (pv 3) pa_nil))))) pss_nil)
    (pss_cons (ps_set (i := 4) sc_f__law_claim.nd rfl (Or.inl rfl) (pe_callC c__law_pick hr (by rfl) (pa_cons (pv 0) (pa_cons (pv 1) pa_nil))))
    (pss_one (ps_ret (pe_tup (pa_cons (pv 4) (pa_cons (pe_callC c__law_less hr (by rfl) (pa_cons (pv 3) (pa_cons (pv 4) pa_nil))) pa_nil)))))))), ?_⟩
  · rintro ss μ R ⟨s, F, rfl, rfl, hF, hR⟩
    rfl
  rintro ss μ R ⟨s, F, rfl, rfl, hF, hR⟩
  refine sw_seq (sw_asgGM (tg := [2] ++ ([3] ++ [])) (ev_case hF (ev_adr rfl) (.head _) (ev_var (d := tx F) rfl)).m fun z μ' hz => ?_)
  obtain ⟨rfl, ⟨a, b⟩, hc, rfl⟩ := hz
  refine ⟨_, _, rfl, ga_tup (gas_cons ga_name (gas_cons ga_name gas_nil)) rfl, ?_⟩
  refine sw_seq (sw_if (c := !decide (a = [])) (et_testD (evd_op (ev_var (d := tx a) rfl) (ev_c (d := tx []) rfl) ops_neT)) (fun _ => sw_ret (ev_tup (ds := [tx a, tx b]) (ea_cons (ev_var rfl) (ea_cons (ev_var rfl) ea_nil)) (by simp)) (hR (a, b) hc)) fun _ => sw_next ?_)
  refine sw_seq (sw_asgR (ev_pickF (ev_adr rfl) (.head _) (ev_var (d := tx F) rfl) hF.ne hF.len) fun z hz => ?_)
  obtain ⟨c, hcF, rfl⟩ := hz
  have hb6 : b.length ≤ 6 := sub6 hF hc.l2
  refine sw_ret (ev_tup (ds := [tx [c], tx (others b [c])]) (ea_cons (ev_var rfl) (ea_cons (ev_callP (ds := [tx b, tx [c]]) (ea_cons (ev_var rfl) (ea_cons (ev_var rfl) ea_nil)) rfl ⟨b, [c], rfl, by omega, rfl⟩) ea_nil)) (by simp)) (hR ([c], others b [c]) ⟨List.singleton_sublist.mpr hcF, List.filter_sublist.trans hc.l2, fun x hx hy => ?_⟩)
  exact (mem_others.mp hy).2 hx
theorem ev_claim {Γ : List Sl} {μ : Mem} {ts tl : TE} {s : Addr} {F : Lot} {E : XK} (hF : FOk F) (hs : Ev K ts Γ μ (fun z => z = .adr s)) (hm : (s, Mu.sto) ∈ μ) (hl : EvD K tl Γ μ (tx F)) :
    Ev K (tCall (spD K pre_f__law_claim) [] E (tCons ts (tCons tl tNil))) Γ μ (fun z => ∃ c, CaseOk F c ∧ z = .dat (caseD c)) :=
  ev_callR (Ra := fun ss => ss = [.adr s, .dat (tx F)]) (ea_cons hs (ea_cons hl ea_nil)) fun ss e => by
    subst e
    exact ⟨[(s, .sto)], fun p hp => List.mem_singleton.mp hp ▸ hm, by simp, s, F, rfl, rfl, hF, fun c hc => ⟨rfl, c, hc, rfl⟩⟩
theorem cut_to {α : Type} {l : List α} {n : Nat} : (l.drop (HT.sIx l.length 0 none)).take (HT.sIx l.length l.length (some (n : Int)) - HT.sIx l.length 0 none) = l.take n := by
  rw [HT.sIx_none, HT.sIx_nat, List.drop_zero, Nat.sub_zero]
  rcases Nat.le_total n l.length with h | h
  · rw [Nat.min_eq_left h]
  · rw [Nat.min_eq_right h, List.take_length, List.take_of_length_le h]
abbrev nm_f__law_letters : List Str := ["store", "many"]
theorem sc_f__law_letters : FnScope nm_f__law_letters ["store", "many"] (defScope s_f__law_letters) := ⟨rfl, rfl, rfl, by decide +kernel, rfl, by decide +kernel, by decide +kernel⟩
def pre_f__law_letters : List Sl → Mem → (Sl → Mem → Prop) → Prop := fun ss μ R => ∃ (s : Addr) (n : Nat), ss = [.adr s, .dat (.int (n : Nat))] ∧ μ = [(s, .sto)] ∧ 1 ≤ n ∧ ∀ F, FOk F → R (.dat (tx F)) [(s, .sto)]
theorem ok_f__law_letters (T : Txt w K mg) : Callee Pg w K mg base 4 "_law_letters" ["store", "many"] (spD K pre_f__law_letters) := by
  have c__law_shuffled := ok_f__law_shuffled (Pg := Pg) (base := base) T
  have m_sorted := T.free 101 (x := "sorted") rfl
  refine T.callee (N := nm_f__law_letters) (st := s_f__law_letters) 81 63 rfl rfl sc_f__law_letters ?_ (fun _ _ _ _ _ _ us hl => match us, hl with | [_, _], _ => rfl) fun fd cdv A outer s H E hr => ⟨_, (pss_one (ps_ret (pe_joinK K pe_str (pe_callB (cr_sortedSK K) (by rfl) m_sorted (by decide +kernel) (pa_cons (pe_slice (sl_listK K) (pe_callC c__law_shuffled hr (by rfl) (pa_cons (pv 0) (pa_cons pe_str pa_nil))) po_none (po_some (pv 1))) pa_nil))))), ?_⟩
  · rintro ss μ R ⟨s, n, rfl, rfl, hn, hR⟩
    rfl
  rintro ss μ R ⟨s, n, rfl, rfl, hn, hR⟩
  refine sw_retR (ev_joinR (RL := FOk) (ev_c rfl) (ev_imp (ev_cb (R := fun z => ∃ p : Lot, p.Perm AB ∧ z = .dat (.lst (chs (srt (p.take n))))) (ea_consR (ev_slLR (RD := fun ds => ∃ p : Lot, p.Perm AB ∧ ds = chs p) (ev_imp (ev_shuf (l := AB) (ev_adr rfl) (.head _) (ev_c sv_ab) (by decide)) fun z hz => ?_) eo_none (eo_some (ev_var rfl))) ea_nil) fun ss h => ?_) fun z hz => ?_)) fun z hz => ?_
  · obtain ⟨p, hp, rfl⟩ := hz
    exact ⟨chs p, ⟨p, hp, rfl⟩, rfl⟩
  · obtain ⟨z, r, rfl, ⟨ds, ⟨p, hp, rfl⟩, rfl⟩, rfl⟩ := h
    have e : DL.cutD (chs p) none (some ((n : Nat) : Int)) = chs (p.take n) := by
      unfold DL.cutD
      rw [cut_to]
      unfold chs
      rw [List.map_take]
    rw [e]
    have hnd : (p.take n).Nodup := (List.take_sublist _ _).nodup (hp.nodup_iff.mpr ab_nodup)
    have hin : ∀ x ∈ p.take n, x ∈ AB := fun x hx => hp.mem_iff.mp (List.mem_of_mem_take hx)
    have hlen : (p.take n).length < 64 := by
      have h1 := hp.length_eq
      have h2 : AB.length = 6 := rfl
      rw [List.length_take]; omega
    intro P H xs xt m rs Q q
    exact cb_sortLst hnd hin hlen P H xs xt m rs Q fun v P' H' s' st rv e => q v P' H' s' st rv ⟨p, hp, e⟩
  · obtain ⟨p, hp, rfl⟩ := hz
    refine ⟨srt (p.take n), ⟨srt_sub _, fun e => ?_⟩, mil (len6 (srt_sub _)), rfl⟩
    have h1 := hp.length_eq
    have h2 : AB.length = 6 := rfl
    have h3 : p[0]? = some p[0] := List.getElem?_eq_getElem (by omega)
    have h4 : p[0] ∈ p.take n := List.mem_take_iff_getElem.mpr ⟨0, by omega, rfl⟩
    have h5 := (mem_srt fun x hx => hp.mem_iff.mp (List.mem_of_mem_take hx)).mpr h4
    rw [e] at h5; cases h5
  · obtain ⟨F, hF, rfl⟩ := hz
    exact hR F hF
end
end KH
namespace KH
open PySem PySem.Spec PyProof.Rows L2 DL M80
section
variable {Pg : Program} {w : World} {K : PySem.W.Frag} {mg : Str → Option Value} {base : Heap}
theorem srt_subF {F l : Lot} (hF : F.Sublist AB) (h : ∀ x ∈ l, x ∈ F) : (srt l).Sublist F := by
  have e : srt l = F.filter fun x => decide (x ∈ l) := sub_ext ab_nodup (srt_sub l) (List.filter_sublist.trans hF) fun x hx => by
    rw [mem_srt fun y hy => hF.subset (h y hy), List.mem_filter, decide_eq_true_iff]
    exact ⟨fun z => ⟨h x z, z⟩, fun z => z.2⟩
  rw [e]; exact List.filter_sublist
abbrev nm_f__law_first_steps : List Str := ["store", "fields", "row", "steps", "one"]
theorem sc_f__law_first_steps : FnScope nm_f__law_first_steps ["store", "fields"] (defScope s_f__law_first_steps) := ⟨rfl, rfl, rfl, by decide +kernel, rfl, by decide +kernel, by decide +kernel⟩
def pre_f__law_first_steps : List Sl → Mem → (Sl → Mem → Prop) → Prop := fun ss μ R => ∃ (s : Addr) (F : Lot), ss = [.adr s, .dat (tx F)] ∧ μ = [(s, .sto)] ∧ FOk F ∧ ∀ V : List Ver, (∀ v ∈ V, CaseOk F v.1) → V.length ≤ 10 → R (.dat (versD V)) [(s, .sto)]
theorem ok_f__law_first_steps (T : Txt w K mg) : Callee Pg w K mg base 4 "_law_first_steps" ["store", "fields"] (spD K pre_f__law_first_steps) := by
  have c__law_shuffled := ok_f__law_shuffled (Pg := Pg) (base := base) T
  have m_len := T.free 96 (x := "len") rfl
  have m_sorted := T.free 101 (x := "sorted") rfl
  refine T.callee (N := nm_f__law_first_steps) (st := s_f__law_first_steps) 91 73 rfl rfl sc_f__law_first_steps ?_ (fun _ _ _ _ _ _ us hl => match us, hl with | [_, _], _ => rfl) fun fd cdv A outer s H E hr => ⟨_, (pss_cons (ps_set (i := 2) sc_f__law_first_steps.nd rfl (Or.inl rfl) (pe_callC c__law_shuffled hr (by rfl) (pa_cons (pv 0) (pa_cons (pv 1) pa_nil))))
    (pss_cons (ps_set (i := 3) sc_f__law_first_steps.nd rfl (Or.inl rfl) (pe_lst (pa_cons (pe_tup (pa_cons (pe_tup (pa_cons pe_str (pa_cons (pe_slice sl_str (pv 1) (po_some pe_int) po_none) pa_nil))) (pa_cons pe_bl pa_nil))) (pa_cons (pe_tup (pa_cons (pe_tup (pa_cons (pe_ix (ix_seqK K) (pv 2) pe_int (fun _ _ => rfl)) (pa_cons pe_str pa_nil))) (pa_cons pe_bl pa_nil))) (pa_cons (pe_tup (pa_cons (pe_tup (pa_cons (pv 1) (pa_cons pe_str pa_nil))) (pa_cons pe_bl pa_nil))) (pa_cons (pe_tup (pa_cons (pe_tup (pa_cons pe_str (pa_cons (pe_ix (ix_seqK K) (pv 2) pe_int (fun _ _ => rfl)) pa_nil))) (pa_cons pe_bl pa_nil))) pa_nil))))))
    (pss_cons (ps_if (pt_cmpR op_gt (pe_callB (call_lenK K) (by rfl) m_len (by decide +kernel) (pa_cons (pv 2) pa_nil)) pe_int (nomark _)) (pss_one (ps_set (i := 3) sc_f__law_first_steps.nd rfl (Or.inl rfl) (pe_op op_cat (pv 3) (pe_lst (pa_cons (pe_tup (pa_cons (pe_tup (pa_cons (pe_ix (ix_seqK K) (pv 2) pe_int (fun _ _ => rfl)) (pa_cons (pe_ix (ix_seqK K) (pv 2) pe_int (fun _ _ => rfl)) pa_nil))) (pa_cons pe_bl pa_nil))) (pa_cons (pe_tup (pa_cons (pe_tup (pa_cons (pe_ix (ix_seqK K) (pv 2) pe_int (fun _ _ => rfl)) (pa_cons (pe_ix (ix_seqK K) (pv 2) pe_int (fun _ _ => rfl)) pa_nil))) (pa_cons pe_bl pa_nil))) (pa_cons (pe_tup (pa_cons (pe_tup (pa_cons (pe_ix (ix_seqK K) (pv 2) pe_int (fun _ _ => rfl)) (pa_cons (pe_ix (ix_seqK K) (pv 2) pe_int (fun _ _ => rfl)) pa_nil))) (pa_cons pe_bl pa_nil))) pa_nil))))))) pss_nil)
    (pss_cons (ps_if (pt_cmpR op_gt (pe_callB (call_lenK K) (by rfl) m_len (by decide +kernel) (pa_cons (pv 2) pa_nil)) pe_int (nomark _)) (pss_cons (ps_set (i := 4) sc_f__law_first_steps.nd rfl (Or.inl rfl) (pe_joinK K pe_str (pe_callB (cr_sortedStr rfl) (by rfl) m_sorted (by decide +kernel) (pa_cons (pe_op op_add_str (pe_ix (ix_seqK K) (pv 2) pe_int (fun _ _ => rfl)) (pe_ix (ix_seqK K) (pv 2) pe_int (fun _ _ => rfl))) pa_nil))))
    (pss_one (ps_set (i := 3) sc_f__law_first_steps.nd rfl (Or.inl rfl) (pe_op op_cat (pv 3) (pe_lst (pa_cons (pe_tup (pa_cons (pe_tup (pa_cons (pe_ix (ix_seqK K) (pv 2) pe_int (fun _ _ => rfl)) (pa_cons (pe_ix (ix_seqK K) (pv 2) pe_int (fun _ _ => rfl)) pa_nil))) (pa_cons pe_bl pa_nil))) (pa_cons (pe_tup (pa_cons (pe_tup (pa_cons (pe_ix (ix_seqK K) (pv 2) pe_int (fun _ _ => rfl)) (pa_cons (pe_ix (ix_seqK K) (pv 2) pe_int (fun _ _ => rfl)) pa_nil))) (pa_cons pe_bl pa_nil))) (pa_cons (pe_tup (pa_cons (pe_tup (pa_cons (pv 4) (pa_cons (pe_ix (ix_seqK K) (pv 2) pe_int (fun _ _ => rfl)) pa_nil))) (pa_cons pe_bl pa_nil))) pa_nil)))))))) pss_nil)
    (pss_one (ps_ret (pv 3))))))), ?_⟩
  · rintro ss μ R ⟨s, F, rfl, rfl, hF, hR⟩
    rfl
  rintro ss μ R ⟨s, F, rfl, rfl, hF, hR⟩
  have hF6 := hF.len
  have hF0 : 0 < F.length := List.length_pos_iff.mpr hF.ne
  refine sw_seq (sw_asgR (ev_shuf (ev_adr rfl) (.head _) (ev_var (d := tx F) rfl) hF6) fun z hz => ?_)
  obtain ⟨p, hp, rfl⟩ := hz
  have hpl := hp.length_eq
  have hpn := List.pairwise_iff_getElem.mp (List.nodup_iff_pairwise_ne.mp (hp.nodup_iff.mpr hF.nodup))
  have pin : ∀ {i : Nat} (h : i < p.length), p[i] ∈ F := fun h => hp.mem_iff.mp (List.getElem_mem h)
  have evr : ∀ {Γ : List Sl} {i : Nat} {v : V} (h : i < p.length), Γ[2]? = some (.dat (.lst (chs p))) → SV v (.int (i : Nat)) → EvD K (tOp (rIx K) (tVar 2) (tC v)) Γ [(s, .sto)] (tx [p[i]]) := fun h h1 h2 => evd_op (ev_var h1) (ev_c h2) (ops_ix (.inl rfl) (DL.atI_nat (chs_at (List.getElem?_eq_getElem h))))
  have ev2 : ∀ {Γ : List Sl} {ta tb : TE} {a b : Lot} {y : Bool}, EvD K ta Γ [(s, .sto)] (tx a) → EvD K tb Γ [(s, .sto)] (tx b) → EvD K (tTup (tCons (tTup (tCons ta (tCons tb tNil))) (tCons (tC (.bl y)) tNil))) Γ [(s, .sto)] (verD ((a, b), y)) := fun {Γ ta tb a b y} h1 h2 => ev_tup (ds := [caseD (a, b), .bl y]) (ea_cons (ev_tup (ds := [tx a, tx b]) (ea_cons h1 (ea_cons h2 ea_nil)) (by simp)) (ea_cons (ev_c rfl) ea_nil)) (by simp)
  have h0 : 0 < p.length := by omega
  have hdrop : (F.drop 1).Sublist F := List.drop_sublist _ _
  refine sw_seq (sw_asg (d := versD [(([], F.drop 1), true), (([p[0]], []), false), ((F, []), true), (([], [p[0]]), false)]) (ev_lst (ds := [verD (([], F.drop 1), true), verD (([p[0]], []), false), verD ((F, []), true), verD (([], [p[0]]), false)]) (ea_cons (ev2 (ev_c rfl) (evd_is (ev_slS (ev_var (d := tx F) rfl) (by omega) (eo_some (ev_c (d := .int 1) rfl)) eo_none) (by rw [cut_from1]))) (ea_cons (ev2 (evr h0 rfl rfl) (ev_c rfl)) (ea_cons (ev2 (ev_var rfl) (ev_c rfl)) (ea_cons (ev2 (ev_c rfl) (evr h0 rfl rfl)) ea_nil)))) (by simp)) ?_)
  have ok0 : ∀ v ∈ [((([] : Lot), F.drop 1), true), (([p[0]], []), false), ((F, []), true), (([], [p[0]]), false)], CaseOk F v.1 := fun v hv => by
    simp only [List.mem_cons, List.not_mem_nil, or_false] at hv
    rcases hv with rfl | rfl | rfl | rfl
    · exact case_r hdrop
    · exact case_l (List.singleton_sublist.mpr (pin h0))
    · exact case_l (List.Sublist.refl _)
    · exact case_r (List.singleton_sublist.mpr (pin h0))
  generalize hV0 : [((([] : Lot), F.drop 1), true), (([p[0]], []), false), ((F, []), true), (([], [p[0]]), false)] = V0 at ok0
  have hV0l : V0.length = 4 := by rw [← hV0]; rfl
  have cat : ∀ {Γ : List Sl} {V W : List Ver} {te : TE}, Γ[3]? = some (.dat (versD V)) → EvD K te Γ [(s, .sto)] (.lst (W.map verD)) → V.length ≤ 100 → W.length ≤ 100 → EvD K (tOp rCat (tVar 3) te) Γ [(s, .sto)] (versD (V ++ W)) := fun h1 h2 h3 h4 => evd_is (evd_op (ev_var h1) h2 (ops_cat (by rw [List.length_map, List.length_map]; omega))) (by unfold versD; rw [List.map_append])
  refine sw_seq (SW.imp (O := { nx := fun Γ' μ' => μ' = [(s, Mu.sto)] ∧ ∃ V : List Ver, (∀ v ∈ V, CaseOk F v.1) ∧ V.length ≤ 7 ∧ Γ' = [.adr s, .dat (tx F), .dat (.lst (chs p)), .dat (versD V), .un], rt := fun _ _ => False }) ?_ (fun Γ' μ' hI => ?_) (fun _ _ z => z.elim) (fun _ _ z => z.elim) fun _ _ z => z.elim)
  · refine sw_if (c := decide ((p.length : Nat) > (1 : Int))) (et_testD (evd_op (evd_cb (ea_cons (ev_var (d := .lst (chs p)) rfl) ea_nil) (cb_len (n := p.length) (by show some _ = _; rw [chs_len]) (by omega))) (ev_c (d := .int 1) rfl) ops_cmpI)) (fun hq => ?_) fun _ => sw_next ⟨rfl, V0, ok0, by omega, rfl⟩
    have h1 : 1 < p.length := by
      have := of_decide_eq_true hq
      omega
    have hne := hpn 0 1 h0 h1 (by omega)
    refine sw_asg (cat (V := V0) (W := [(([p[0]], [p[1]]), true), (([p[1]], [p[0]]), true), (([p[0]], [p[1]]), false)]) rfl (ev_lst (ds := [verD (([p[0]], [p[1]]), true), verD (([p[1]], [p[0]]), true), verD (([p[0]], [p[1]]), false)]) (ea_cons (ev2 (evr h0 rfl rfl) (evr h1 rfl rfl)) (ea_cons (ev2 (evr h1 rfl rfl) (evr h0 rfl rfl)) (ea_cons (ev2 (evr h0 rfl rfl) (evr h1 rfl rfl)) ea_nil))) (by simp)) (by omega) (by simp)) ⟨rfl, _, fun v hv => ?_, by rw [List.length_append, hV0l]; simp, rfl⟩
    rcases List.mem_append.mp hv with hv | hv
    · exact ok0 v hv
    · simp only [List.mem_cons, List.not_mem_nil, or_false] at hv
      rcases hv with rfl | rfl | rfl
      · exact case_two (pin h0) (pin h1) hne
      · exact case_two (pin h1) (pin h0) (Ne.symm hne)
      · exact case_two (pin h0) (pin h1) hne
  obtain ⟨rfl, V, okV, hVl, rfl⟩ := hI
  refine sw_seq (SW.imp (O := { nx := fun Γ' μ' => μ' = [(s, Mu.sto)] ∧ ∃ (V : List Ver) (s4 : Sl), (∀ v ∈ V, CaseOk F v.1) ∧ V.length ≤ 10 ∧ Γ' = [.adr s, .dat (tx F), .dat (.lst (chs p)), .dat (versD V), s4], rt := fun _ _ => False }) ?_ (fun Γ' μ' hI => ?_) (fun _ _ z => z.elim) (fun _ _ z => z.elim) fun _ _ z => z.elim)
  · refine sw_if (c := decide ((p.length : Nat) > (2 : Int))) (et_testD (evd_op (evd_cb (ea_cons (ev_var (d := .lst (chs p)) rfl) ea_nil) (cb_len (n := p.length) (by show some _ = _; rw [chs_len]) (by omega))) (ev_c (d := .int 2) rfl) ops_cmpI)) (fun hq => ?_) fun _ => sw_next ⟨rfl, V, _, okV, by omega, rfl⟩
    have h2 : 2 < p.length := by
      have := of_decide_eq_true hq
      omega
    have h1 : 1 < p.length := by omega
    have n01 := hpn 0 1 h0 h1 (by omega)
    have n02 := hpn 0 2 h0 h2 (by omega)
    have n12 := hpn 1 2 h1 h2 (by omega)
    have hin : ∀ x ∈ [p[0], p[2]], x ∈ F := fun x hx => by
      simp only [List.mem_cons, List.not_mem_nil, or_false] at hx
      rcases hx with rfl | rfl
      · exact pin h0
      · exact pin h2
    have hinA : ∀ x ∈ [p[0], p[2]], x ∈ AB := fun x hx => hF.sub.subset (hin x hx)
    refine sw_seq (sw_asg (d := tx (srt [p[0], p[2]])) (ev_join (l := srt [p[0], p[2]]) (ev_c rfl) (evd_cb (ea_cons (evd_op (evr h0 rfl rfl) (evr h2 rfl rfl) (ops_addS (by simp))) ea_nil) (cb_sortStr (r := [p[0], p[2]]) (by simp [n02]) hinA (by simp))) (mil (len6 (srt_sub _)))) ?_)
    refine sw_asg (cat (V := V) (W := [(([p[2]], [p[1]]), false), (([p[2]], [p[0]]), true), ((srt [p[0], p[2]], [p[1]]), false)]) rfl (ev_lst (ds := [verD (([p[2]], [p[1]]), false), verD (([p[2]], [p[0]]), true), verD ((srt [p[0], p[2]], [p[1]]), false)]) (ea_cons (ev2 (evr h2 rfl rfl) (evr h1 rfl rfl)) (ea_cons (ev2 (evr h2 rfl rfl) (evr h0 rfl rfl)) (ea_cons (ev2 (ev_var rfl) (evr h1 rfl rfl)) ea_nil))) (by simp)) (by omega) (by simp)) ⟨rfl, _, _, fun v hv => ?_, by rw [List.length_append]; simp; omega, rfl⟩
    rcases List.mem_append.mp hv with hv | hv
    · exact okV v hv
    · simp only [List.mem_cons, List.not_mem_nil, or_false] at hv
      rcases hv with rfl | rfl | rfl
      · exact case_two (pin h2) (pin h1) (Ne.symm n12)
      · exact case_two (pin h2) (pin h0) (Ne.symm n02)
      · refine ⟨srt_subF hF.sub hin, List.singleton_sublist.mpr (pin h1), fun x hx hy => ?_⟩
        rw [List.mem_singleton.mp hy] at hx
        have := (mem_srt hinA).mp hx
        simp only [List.mem_cons, List.not_mem_nil, or_false] at this
        rcases this with e | e
        · exact n01 e.symm
        · exact n12 e
  obtain ⟨rfl, V, s4, okV, hVl, rfl⟩ := hI
  exact sw_ret (ev_var rfl) (hR V okV hVl)
abbrev nm_f__law_steps : List Str := ["store", "fields", "steps", "turn", "case"]
theorem sc_f__law_steps : FnScope nm_f__law_steps ["store", "fields"] (defScope s_f__law_steps) := ⟨rfl, rfl, rfl, by decide +kernel, rfl, by decide +kernel, by decide +kernel⟩
def pre_f__law_steps : List Sl → Mem → (Sl → Mem → Prop) → Prop := fun ss μ R => ∃ (s : Addr) (F : Lot), ss = [.adr s, .dat (tx F)] ∧ μ = [(s, .sto)] ∧ FOk F ∧ ∀ V : List Ver, (∀ v ∈ V, CaseOk F v.1) → V.length ≤ 30 → R (.dat (versD V)) [(s, .sto)]
theorem ok_f__law_steps (T : Txt w K mg) : Callee Pg w K mg base 6 "_law_steps" ["store", "fields"] (spD K pre_f__law_steps) := by
  have c__law_take := ok_f__law_take (Pg := Pg) (base := base) T
  have c__law_case := ok_f__law_case (Pg := Pg) (base := base) T
  have c__law_claim := ok_f__law_claim (Pg := Pg) (base := base) T
  have c__law_pick := ok_f__law_pick (Pg := Pg) (base := base) T
  have m_range := T.free 100 (x := "range") rfl
  refine T.callee (N := nm_f__law_steps) (st := s_f__law_steps) 90 72 rfl rfl sc_f__law_steps ?_ (fun _ _ _ _ _ _ us hl => match us, hl with | [_, _], _ => rfl) fun fd cdv A outer s H E hr => ⟨_, (pss_cons (ps_set (i := 2) sc_f__law_steps.nd rfl (Or.inl rfl) (pe_lst pa_nil))
    (pss_cons (ps_for PassesOwn.never rfl (pi_range1 (by rfl) m_range (pa_cons (pe_op op_add pe_int (pe_callC c__law_take hr (by rfl) (pa_cons (pv 0) (pa_cons pe_int pa_nil)))) pa_nil)) (pg_name (i := 3) sc_f__law_steps.nd rfl (Or.inl rfl)) (pss_cons (ps_set (i := 4) sc_f__law_steps.nd rfl (Or.inl rfl) (pe_ifExp (pt_cmpR op_eq (pe_callC c__law_take hr (by rfl) (pa_cons (pv 0) (pa_cons pe_int pa_nil))) pe_int (nomark _)) (pe_callC c__law_case hr (by rfl) (pa_cons (pv 0) (pa_cons (pv 1) pa_nil))) (pe_callC c__law_claim hr (by rfl) (pa_cons (pv 0) (pa_cons (pv 1) pa_nil)))))
    (pss_cons (ps_expr (pe_appendK K (pv 2) (pa_cons (pe_tup (pa_cons (pv 4) (pa_cons (pe_cmpR op_gt (pe_callC c__law_take hr (by rfl) (pa_cons (pv 0) (pa_cons pe_int pa_nil))) pe_int (nomark _)) pa_nil))) pa_nil)))
    (pss_cons (ps_if (pt_cmpR op_eq (pe_callC c__law_take hr (by rfl) (pa_cons (pv 0) (pa_cons pe_int pa_nil))) pe_int (nomark _)) (pss_one (ps_expr (pe_appendK K (pv 2) (pa_cons (pe_tup (pa_cons (pe_tup (pa_cons (pe_ix (ix_seqK K) (pv 4) pe_int (fun _ _ => rfl)) (pa_cons (pe_ix (ix_seqK K) (pv 4) pe_int (fun _ _ => rfl)) pa_nil))) (pa_cons pe_bl pa_nil))) pa_nil)))) pss_nil)
    (pss_one (ps_if (pt_cmpR op_eq (pe_callC c__law_take hr (by rfl) (pa_cons (pv 0) (pa_cons pe_int pa_nil))) pe_int (nomark _)) (pss_one (ps_expr (pe_appendK K (pv 2) (pa_cons (pe_callC c__law_pick hr (by rfl) (pa_cons (pv 0) (pa_cons (pv 2) pa_nil))) pa_nil)))) pss_nil))))))
    (pss_one (ps_ret (pv 2))))), ?_⟩
  · rintro ss μ R ⟨s, F, rfl, rfl, hF, hR⟩
    rfl
  rintro ss μ R ⟨s, F, rfl, rfl, hF, hR⟩
  refine sw_seq (sw_newL fun b hb => ?_)
  have hbs : b ≠ s := fun e => hb (by simp [e])
  have hnd : ∀ {m1 : Mu}, (adrs [(b, m1), (s, Mu.sto)]).Nodup := by
    intro m1
    simp [hbs]
  have tk : ∀ {Γ : List Sl} {W : List Ver} {v : V} {n : Int}, SV v (.int n) → n ≤ 1000000 → Γ[0]? = some (.adr s) → Ev K (tCall (spD K pre_f__law_take) [] E0 (tCons (tVar 0) (tCons (tC v) tNil))) Γ [(b, .mls (W.map verD)), (s, .sto)] (fun z => ∃ r : Int, z = .dat (.int r) ∧ 0 ≤ r ∧ (r < n ∨ r = 0)) := fun h1 h2 h3 => ev_take (ev_adr h3) (.tail _ (.head _)) (ev_c h1) h2
  have tk0 : ∀ {Γ : List Sl} {W : List Ver} {v : V} {n : Int}, SV v (.int n) → n ≤ 1000000 → Γ[0]? = some (.adr s) → Ev K (tCall (spD K pre_f__law_take) [] E0 (tCons (tVar 0) (tCons (tC v) tNil))) Γ [(b, .mls (W.map verD)), (s, .sto)] (fun z => ∃ r : Int, z = .dat (.int r) ∧ 0 ≤ r ∧ (r < n ∨ r = 0)) := tk
  have tst : ∀ {Γ : List Sl} {W : List Ver} {v : V} {n : Int}, SV v (.int n) → n ≤ 1000000 → Γ[0]? = some (.adr s) → EvT K (tTest (tOp rEq (tCall (spD K pre_f__law_take) [] E0 (tCons (tVar 0) (tCons (tC v) tNil))) (tC (.int 0)))) Γ [(b, .mls (W.map verD)), (s, .sto)] (fun _ => True) := fun h1 h2 h3 => et_test (ev_op (tk h1 h2 h3) (ev_c (d := .int 0) rfl) fun sa sb e1 e2 => by
    obtain ⟨r, rfl, _⟩ := e1
    subst e2
    intro P H x y xt m ra rb Q q
    exact ops_eqI P H x y xt m ra rb Q fun v P' H' s' st rv e => q v P' H' s' st rv ⟨_, e, trivial⟩)
  have sb : ∀ {W : List Ver} {v : Ver}, setMu [(b, Mu.mls (W.map verD)), (s, .sto)] b (.mls (W.map verD ++ [verD v])) = [(b, Mu.mls ((W ++ [v]).map verD)), (s, .sto)] := by
    intro W v
    simp [setMu, Ne.symm hbs]
  refine sw_seq (sw_forR (ei_rng1 (Rn := fun n => n ≤ 8) (EvA.imp (ea_consR (R1 := fun z => ∃ n : Int, z = .dat (.int n) ∧ 0 ≤ n ∧ n ≤ 8) (ev_op (ev_c (d := .int 2) rfl) (tk (W := []) (n := 6) rfl (by decide) rfl) fun sa sb e1 e2 => ?_) ea_nil) fun ss hh => ?_)) fun dss hds => ?_)
  · obtain ⟨r, rfl, h1, h2⟩ := e2
    subst e1
    intro P H x y xt m ra rb Q q
    exact ops_addI P H x y xt m ra rb Q fun v P' H' s' st rv e => q v P' H' s' st rv ⟨_, e, by omega, by omega⟩
  · obtain ⟨z, r, rfl, ⟨n, rfl, h1, h2⟩, rfl⟩ := hh
    exact ⟨n, rfl, h2, by omega, by omega⟩
  obtain ⟨n, hn8, rfl⟩ := hds
  refine ⟨fun i Γ' μ' => ∃ (W : List Ver) (s3 s4 : Sl), (∀ v ∈ W, CaseOk F v.1) ∧ W.length ≤ 3 * i ∧ μ' = [(b, .mls (W.map verD)), (s, .sto)] ∧ Γ' = [.adr s, .dat (tx F), .adr b, s3, s4], ⟨⟨[], _, _, (fun _ h => nomatch h), by simp, rfl, rfl⟩, fun _ _ _ _ _ => trivial, fun i e Γ' μ' he hI => ?_, fun Γ' μ' hI => ?_⟩⟩
  · obtain ⟨W, s3, s4, okW, hWl, rfl, rfl⟩ := hI
    obtain ⟨hi, rfl⟩ := rgD_get he
    have hi8 : i < 8 := by omega
    refine ⟨_, _, ga_name, ?_⟩
    refine sw_seq (sw_asgR (R := fun z => ∃ c, CaseOk F c ∧ z = .dat (caseD c)) (ev_if (tst (n := 6) rfl (by decide) rfl) (fun _ => ev_case hF (ev_adr rfl) (.tail _ (.head _)) (ev_var (d := tx F) rfl)) fun _ => ev_claim hF (ev_adr rfl) (.tail _ (.head _)) (ev_var (d := tx F) rfl)) fun z hz => ?_)
    obtain ⟨c, hc, rfl⟩ := hz
    refine sw_seq (sw_dropM (em_append (l := b) (ev_adr rfl) (Ev.m (ev_tupR (RD := fun ds => ∃ y : Bool, ds = [caseD c, .bl y]) (EvA.imp (ea_consR (R1 := fun z => z = .dat (caseD c)) (ev_var rfl) (ea_consR (R1 := fun z => ∃ y : Bool, z = .dat (.bl y)) (ev_op (tk (n := 3) rfl (by decide) rfl) (ev_c (d := .int 0) rfl) fun sa sb e1 e2 => ?_) ea_nil)) fun ss hh => ?_))) (fun z μ' h => ?_) ⟨_, .head _⟩) fun z μ' h => ?_)
    · obtain ⟨r, rfl, _⟩ := e1
      subst e2
      intro P H x y xt m ra rb Q q
      exact ops_cmpI P H x y xt m ra rb Q fun v P' H' s' st rv e => q v P' H' s' st rv ⟨_, e⟩
    · obtain ⟨z, r, rfl, rfl, z2, r2, rfl, ⟨y, rfl⟩, rfl⟩ := hh
      exact ⟨[caseD c, .bl y], rfl, by simp, y, rfl⟩
    · obtain ⟨rfl, ds, ⟨y, rfl⟩, rfl⟩ := h
      exact ⟨_, W.map verD, rfl, .head _, by rw [List.length_map]; omega⟩
    obtain ⟨rfl, d, ds, μ1, ⟨rfl, ds', ⟨y, rfl⟩, e1⟩, h2, rfl⟩ := h
    cases e1
    have e3 : ds = W.map verD := by
      have := uniqA hnd h2 (.head _) rfl
      cases this; rfl
    subst e3
    have e4 : setMu [(b, Mu.mls (W.map verD)), (s, .sto)] b (.mls (W.map verD ++ [.tup [caseD c, .bl y]])) = [(b, Mu.mls ((W ++ [(c, y)]).map verD)), (s, .sto)] := sb (v := (c, y))
    rw [e4]
    have okW1 : ∀ v ∈ W ++ [(c, y)], CaseOk F v.1 := fun v hv => (List.mem_append.mp hv).elim (okW v) fun z => by rw [List.mem_singleton.mp z]; exact hc
    have hW1 : (W ++ [(c, y)]).length ≤ 3 * i + 1 := by rw [List.length_append, List.length_singleton]; omega
    have hne1 : W ++ [(c, y)] ≠ [] := by simp
    generalize W ++ [(c, y)] = W1 at okW1 hW1 hne1
    refine sw_seq (SW.imp (O := { nx := fun Γ' μ' => ∃ (W2 : List Ver), (∀ v ∈ W2, CaseOk F v.1) ∧ W2.length ≤ 3 * i + 2 ∧ W2 ≠ [] ∧ μ' = [(b, .mls (W2.map verD)), (s, .sto)] ∧ Γ' = [.adr s, .dat (tx F), .adr b, .dat (.int (0 + (i : Nat))), .dat (caseD c)], rt := fun _ _ => False }) ?_ (fun Γ' μ' hI => ?_) (fun _ _ z => z.elim) (fun _ _ z => z.elim) fun _ _ z => z.elim)
    · refine sw_ifR (tst (n := 3) rfl (by decide) rfl) (fun _ => ?_) fun _ => sw_next ⟨W1, okW1, by omega, fun e => hne1 e, rfl, rfl⟩
      refine sw_append (d := verD ((c.2, c.1), true)) (ev_adr rfl) (ev_tup (ds := [caseD (c.2, c.1), .bl true]) (ea_cons (ev_tup (ds := [tx c.2, tx c.1]) (ea_cons (evd_op (ev_var (d := caseD c) rfl) (ev_c (d := .int 1) rfl) (ops_ix (.inr rfl) rfl)) (ea_cons (evd_op (ev_var (d := caseD c) rfl) (ev_c (d := .int 0) rfl) (ops_ix (.inr rfl) rfl)) ea_nil)) (by simp)) (ea_cons (ev_c rfl) ea_nil)) (by simp)) (.head _) (by rw [List.length_map]; omega) hnd ⟨W1 ++ [((c.2, c.1), true)], fun v hv => ?_, by rw [List.length_append, List.length_singleton]; omega, by simp, sb, rfl⟩
      rcases List.mem_append.mp hv with hv | hv
      · exact okW1 v hv
      · rw [List.mem_singleton.mp hv]
        exact ⟨hc.l2, hc.l1, fun x hx hy => hc.ap x hy hx⟩
    · obtain ⟨W2, okW2, hW2, hne2, rfl, rfl⟩ := hI
      refine sw_ifR (tst (n := 4) rfl (by decide) rfl) (fun _ => ?_) fun _ => sw_next ⟨W2, _, _, okW2, by omega, rfl, rfl⟩
      refine sw_dropM (em_append (l := b) (ev_adr rfl) (Ev.m (ev_callR (R := fun z => ∃ v ∈ W2, z = .dat (verD v)) (Ra := fun ss => ss = [.adr s, .adr b]) (ea_cons (ev_adr rfl) (ea_cons (ev_adr rfl) ea_nil)) fun ss e => ?_)) (fun z μ' h => ?_) ⟨_, .head _⟩) fun z μ' h => ?_
      · subst e
        refine ⟨[(s, .sto), (b, .mls (W2.map verD))], fun p hp => ?_, by simp [Ne.symm hbs], s, .inr ⟨b, W2.map verD, rfl, rfl, by simpa using hne2, by rw [List.length_map]; omega, fun e he => ?_⟩⟩
        · simp only [List.mem_cons, List.not_mem_nil, or_false] at hp
          rcases hp with rfl | rfl
          · exact .tail _ (.head _)
          · exact .head _
        · obtain ⟨v, hv, rfl⟩ := List.mem_map.mp he
          exact ⟨rfl, v, hv, rfl⟩
      · obtain ⟨rfl, v, hv, rfl⟩ := h
        exact ⟨_, W2.map verD, rfl, .head _, by rw [List.length_map]; omega⟩
      · obtain ⟨rfl, d, ds, μ1, ⟨rfl, v, hv, e1⟩, h2, rfl⟩ := h
        cases e1
        have e3 : ds = W2.map verD := by
          have := uniqA hnd h2 (.head _) rfl
          cases this; rfl
        subst e3
        rw [sb]
        refine ⟨W2 ++ [v], _, _, fun u hu => ?_, by rw [List.length_append, List.length_singleton]; omega, rfl, rfl⟩
        rcases List.mem_append.mp hu with hu | hu
        · exact okW2 u hu
        · rw [List.mem_singleton.mp hu]; exact okW2 v hv
  · obtain ⟨W, s3, s4, okW, hWl, rfl, rfl⟩ := hI
    rw [rgD_len] at hWl
    refine sw_retO (ds := W.map verD) (ev_adr rfl) (.head _) hnd ?_
    have e0 : dropMu [(b, Mu.mls (W.map verD)), (s, .sto)] b = [(s, .sto)] := by simp [dropMu, Ne.symm hbs]
    rw [e0]
    exact hR W okW (by omega)
end
end KH
namespace KH
open PySem PySem.Spec PyProof.Rows L2 DL M80
section
variable {Pg : Program} {w : World} {K : PySem.W.Frag} {mg : Str → Option Value} {base : Heap}
/-! ### what is kept along the way -/
structure VInv (F : Lot) (V : List Ver) : Prop where
  ok : VOk F V
  ends : M80.Ends F (yesL V)
  nos : ∀ c ∈ noL V, heldB F (yesL V) c = false
theorem noL_mem {V : List Ver} {c : Case} : c ∈ noL V ↔ (c, false) ∈ V ∧ c.1 ≠ [] := by
  unfold noL
  rw [List.mem_map]
  constructor
  · rintro ⟨⟨c', y⟩, h, rfl⟩
    obtain ⟨h1, h2⟩ := List.mem_filter.mp h
    rw [Bool.and_eq_true] at h2
    have hy : y = false := by simpa using h2.1
    subst hy
    exact ⟨h1, by simpa using h2.2⟩
  · rintro ⟨h1, h2⟩
    exact ⟨(c, false), List.mem_filter.mpr ⟨h1, by simpa using h2⟩, rfl⟩
theorem held_ne {F : Lot} {T : List Case} {c : Case} (h : heldB F T c = true) : c.1 ≠ [] := by
  unfold heldB at h
  rw [Bool.and_eq_true] at h
  simpa using h.1
theorem held_empty {F : Lot} {T : List Case} {c : Case} (h : heldB F T c = false) (h1 : c.1 ≠ []) : c.2 ≠ [] := fun e => by
  unfold heldB at h
  rw [e, decide_eq_false h1] at h
  cases h
theorem VInv.none {F : Lot} {V : List Ver} (h : VInv F V) : ∀ v ∈ V, (!v.2 && heldB F (yesL V) v.1) = false := fun v hv => by
  obtain ⟨c, y⟩ := v
  cases y with
  | true => rfl
  | false =>
    by_cases h1 : c.1 = []
    · unfold heldB
      rw [decide_eq_true h1]; rfl
    · exact h.nos c (noL_mem.mpr ⟨hv, h1⟩)
theorem find_no {F : Lot} {U : List Case} : ∀ V : List Ver, (noL V).find? (heldB F U) = (V.find? fun v => !v.2 && heldB F U v.1).map (·.1)
  | [] => rfl
  | (c, y) :: V => by
    have ih := find_no (F := F) (U := U) V
    unfold noL at ih ⊢
    rw [List.filter_cons, List.find?_cons]
    cases y with
    | true => simpa using ih
    | false =>
      by_cases h1 : c.1 = []
      · have h2 : heldB F U c = false := by unfold heldB; rw [decide_eq_true h1]; rfl
        simp [h1, h2]
        simpa using ih
      · rw [if_pos (by simpa using h1), List.map_cons, List.find?_cons]
        by_cases h2 : heldB F U c = true
        · simp [h2]
        · have h2' : heldB F U c = false := by simpa using h2
          simp [h2']
          simpa using ih
theorem saidD_eq {F : Lot} {U : List Case} {V : List Ver} : saidD F U (noL V) = match V.find? (fun v => !v.2 && heldB F U v.1) with
    | some v => saidP F U v.1
    | none => .non := by
  unfold saidD
  rw [find_no]
  cases V.find? (fun v => !v.2 && heldB F U v.1) <;> rfl
theorem against_due {F : Lot} {V : List Ver} {c : Case} {y : Bool} (h : VInv F V) : againstD F (yesL V) (noL V) c y = dueD F V c y := by
  unfold againstD dueD
  by_cases q1 : y = true ∧ c.1 = []
  · rw [if_pos q1, if_pos q1]
  rw [if_neg q1, if_neg q1]
  by_cases q2 : c.1 ≠ [] ∧ y = false ∧ c.2 = []
  · rw [if_pos q2, if_pos ⟨q2.2.1, q2.1, q2.2.2⟩]
  have q2' : ¬ (y = false ∧ c.1 ≠ [] ∧ c.2 = []) := fun z => q2 ⟨z.2.1, z.1, z.2.2⟩
  rw [if_neg q2, if_neg q2']
  have hcl : cl F (yesL V) [] = [] := cl_nil_iff.mpr h.ends
  have hV : V.find? (fun v => !v.2 && heldB F (yesL V) v.1) = none := List.find?_eq_none.mpr fun v hv => by rw [h.none v hv]; exact nofun
  have hh0 : c.1 = [] → heldB F (yesL V) c = false := fun e => by unfold heldB; rw [decide_eq_true e]; rfl
  rw [yesL_snoc]
  by_cases q3 : c.1 = [] ∨ c.2 = []
  · rw [if_pos q3]
    have e : (if (y && !decide (c.2 = [])) = true then [c] else []) = ([] : List Case) := by
      rcases q3 with e | e
      · have : y = false := by
          cases y
          · rfl
          · exact absurd ⟨rfl, e⟩ q1
        rw [this]; rfl
      · rw [decide_eq_true e]; simp
    rw [e, List.append_nil, if_neg (fun z => z hcl), List.find?_append, hV]
    have : [(c, y)].find? (fun v => !v.2 && heldB F (yesL V) v.1) = none := by
      rw [List.find?_cons]
      have : (!y && heldB F (yesL V) c) = false := by
        cases y with
        | true => rfl
        | false =>
          rcases q3 with e | e
          · rw [hh0 e]; rfl
          · by_cases e1 : c.1 = []
            · rw [hh0 e1]; rfl
            · exact absurd ⟨e1, rfl, e⟩ q2
      simp [this]
    rw [this]; rfl
  rw [if_neg q3]
  have h1 : c.1 ≠ [] := fun e => q3 (.inl e)
  have h2 : c.2 ≠ [] := fun e => q3 (.inr e)
  cases y with
  | false =>
    rw [if_pos rfl]
    have e : (if (false && !decide (c.2 = [])) = true then [c] else []) = ([] : List Case) := rfl
    rw [e, List.append_nil, if_neg (fun z => z hcl), List.find?_append, hV]
    unfold saidD
    rw [List.find?_append, find_no, hV]
    show (match [c].find? (heldB F (yesL V)) with | some c => saidP F (yesL V) c | none => .non) = match [(c, false)].find? (fun v => !v.2 && heldB F (yesL V) v.1) with | some v => saidP F (yesL V) v.1 | none => .non
    rw [List.find?_cons, List.find?_cons]
    by_cases hq : heldB F (yesL V) c = true
    · simp [hq]
    · have hq' : heldB F (yesL V) c = false := by simpa using hq
      simp [hq']
  | true =>
    rw [if_neg (by simp)]
    have e : (if (true && !decide (c.2 = [])) = true then [c] else []) = [c] := by simp [h2]
    rw [e]
    by_cases hs : cl F (yesL V ++ [c]) [] ≠ []
    · rw [if_pos hs, if_pos hs]
    rw [if_neg hs, if_neg hs, saidD_eq, List.find?_append]
    have : [(c, true)].find? (fun v => !v.2 && heldB F (yesL V ++ [c]) v.1) = none := by
      rw [List.find?_cons]; simp
    rw [this]
    cases V.find? (fun v => !v.2 && heldB F (yesL V ++ [c]) v.1) <;> rfl
theorem due_none {F : Lot} {V : List Ver} {c : Case} {y : Bool} (h : VInv F V) (hc : CaseOk F c) (hz : V.length < 900) (hd : dueD F V c y = .non) : VInv F (V ++ [(c, y)]) := by
  unfold dueD at hd
  by_cases q1 : y = true ∧ c.1 = []
  · rw [if_pos q1] at hd; cases hd
  rw [if_neg q1] at hd
  by_cases q2 : y = false ∧ c.1 ≠ [] ∧ c.2 = []
  · rw [if_pos q2] at hd; cases hd
  rw [if_neg q2] at hd
  by_cases hs : cl F (yesL (V ++ [(c, y)])) [] ≠ []
  · rw [if_pos hs] at hd; cases hd
  rw [if_neg hs] at hd
  refine ⟨h.ok.snoc hc hz, cl_nil_iff.mp (Classical.not_not.mp hs), fun c' hc' => ?_⟩
  obtain ⟨h1, h2⟩ := noL_mem.mp hc'
  cases q : (V ++ [(c, y)]).find? (fun v => !v.2 && heldB F (yesL (V ++ [(c, y)])) v.1) with
  | some v => rw [q] at hd; cases hd
  | none =>
    have := List.find?_eq_none.mp q _ h1
    simpa using this
/-- what is due and more than never, plain: a paper that the judge takes -/
theorem due_paper {F : Lot} {V : List Ver} {c : Case} {y : Bool} (h : VInv F V) (hc : CaseOk F c) (hd : dueD F V c y ≠ .non) : (∃ k : Str, (k = "never" ∨ k = "plain") ∧ dueD F V c y = .tup [.str k, caseD c]) ∨
    (dueD F V c y = stuckP F (yesL (V ++ [(c, y)])) ∧ cl F (yesL (V ++ [(c, y)])) [] ≠ []) ∨ ∃ z, dueD F V c y = saidP F (yesL (V ++ [(c, y)])) z ∧ CaseOk F z ∧ heldB F (yesL (V ++ [(c, y)])) z = true ∧ z.2 ≠ [] := by
  unfold dueD at hd ⊢
  by_cases q1 : y = true ∧ c.1 = []
  · rw [if_pos q1]; exact .inl ⟨"never", .inl rfl, rfl⟩
  rw [if_neg q1] at hd ⊢
  by_cases q2 : y = false ∧ c.1 ≠ [] ∧ c.2 = []
  · rw [if_pos q2]; exact .inl ⟨"plain", .inr rfl, rfl⟩
  rw [if_neg q2] at hd ⊢
  by_cases hs : cl F (yesL (V ++ [(c, y)])) [] ≠ []
  · rw [if_pos hs]; exact .inr (.inl ⟨rfl, hs⟩)
  rw [if_neg hs] at hd ⊢
  cases q : (V ++ [(c, y)]).find? (fun v => !v.2 && heldB F (yesL (V ++ [(c, y)])) v.1) with
  | none => rw [q] at hd; exact absurd rfl hd
  | some v =>
    obtain ⟨z, w⟩ := v
    have hp := List.find?_some q
    have hm := List.mem_of_find?_eq_some q
    have hp' : w = false ∧ heldB F (yesL (V ++ [(c, y)])) z = true := by simpa using hp
    obtain ⟨rfl, hh⟩ := hp'
    have hz1 := held_ne hh
    rcases List.mem_append.mp hm with hm | hm
    · exact .inr (.inr ⟨z, rfl, h.ok.ok _ hm, hh, held_empty (h.nos z (noL_mem.mpr ⟨hm, hz1⟩)) hz1⟩)
    · have e := List.mem_singleton.mp hm
      cases e
      exact .inr (.inr ⟨_, rfl, hc, hh, fun e => q2 ⟨rfl, hz1, e⟩⟩)
/-! taken back -/
theorem lg_less {F A r : Lot} {T T' : List Case} (hT : ∀ c ∈ T, c ∈ T') (h : Lg F T' A r) : Lg F T A r := by
  induction h with
  | nil => exact .nil
  | snoc _ hf had ih => exact .snoc ih hf ⟨had.1, had.2.1, fun c hc => had.2.2 c (hT c hc)⟩
theorem walk_less {F A : Lot} {T T' : List Case} (hT : ∀ c ∈ T, c ∈ T') : ∀ x ∈ walk F T' A, x ∈ walk F T A :=
  (lg_less hT walk_lg).within (fun _ z => z) walk_mx
theorem VInv.back {F : Lot} {V : List Ver} {v : Ver} (h : VInv F (V ++ [v])) : VInv F V := by
  have hT : ∀ c ∈ yesL V, c ∈ yesL (V ++ [v]) := fun c hc => by
    obtain ⟨c0, y0⟩ := v
    rw [yesL_snoc]; exact List.mem_append.mpr (.inl hc)
  refine ⟨⟨fun u hu => h.ok.ok u (List.mem_append.mpr (.inl hu)), ?_⟩, fun x hx => walk_less hT x (h.ends x hx), fun c hc => ?_⟩
  · have := h.ok.len
    rw [List.length_append] at this; omega
  · obtain ⟨h1, h2⟩ := noL_mem.mp hc
    have h3 := h.nos c (noL_mem.mpr ⟨List.mem_append.mpr (.inl h1), h2⟩)
    cases q : heldB F (yesL V) c with
    | false => rfl
    | true =>
      unfold heldB at q h3
      rw [Bool.and_eq_true] at q
      have h4 : (c.2.all fun x => decide (x ∈ cl F (yesL (V ++ [v])) c.1)) = true := List.all_eq_true.mpr fun x hx => by
        have h5 := of_decide_eq_true (List.all_eq_true.mp q.2 x hx)
        obtain ⟨h6, h7⟩ := mem_cl.mp h5
        exact decide_eq_true (mem_cl.mpr ⟨h6, fun z => h7 (walk_less hT x z)⟩)
      rw [h4, q.1] at h3; cases h3
theorem VInv.nil {F : Lot} : VInv F [] := by
  refine ⟨⟨(fun _ h => nomatch h), by simp⟩, cl_nil_iff.mp ?_, fun _ h => nomatch h⟩
  unfold cl others
  rw [List.filter_eq_nil_iff]
  intro x hx
  have hm := walk_mx (F := F) (T := yesL []) (A := []) x hx
  have : x ∈ walk F (yesL []) [] := Classical.byContradiction fun q => hm ⟨q, by simp, fun c hc => nomatch hc⟩
  simpa using this
end
end KH
set_option maxHeartbeats 4000000
namespace DL
open PySem PySem.Spec PyProof.Rows L2
/-! ### statements that may raise an own exception with the one field "at" -/
/-- what is wanted of an exception: its class, its field, the owned memory -/
abbrev ExW := Addr → Dat → Mem → Prop
/-- E takes it: over all that may have come -/
def TakesX (K : PySem.W.Frag) (P H : Hp) (μ : Mem) (EX : ExW) (E : XK) : Prop := ∀ (C dd : Addr) (v : V) (d : Dat) (P' H' : Hp) (μ' : Mem), Go K P H μ P' H' μ' → H' dd = some (.xd [("at", v)]) → Rp K P' v d → EX C d μ' → E (.ref C) (some dd) H'
/-- t, whose raises go to E -/
def SX (K : PySem.W.Frag) (E : XK) (t : TS) (Γ : List Sl) (μ : Mem) (O : Ou) (EX : ExW) : Prop := ∀ (σ : L2.St) (P H : Hp), EnvOk K P σ Γ → Ext P H → StOk K P H μ → TakesX K P H μ EX E → ∀ D : Ends,
  (∀ σ' P' H' Γ' μ', Go K P H μ P' H' μ' → EnvOk K P' σ' Γ' → O.nx Γ' μ' → D.nx σ' H') → (∀ v P' H' s μ', Go K P H μ P' H' μ' → RelS K P' v s → O.rt s μ' → D.rt v H') → t D σ H
section
variable {K : PySem.W.Frag} {E : XK} {Γ Γ' : List Sl} {μ μ' : Mem} {t u a b : TS} {tt : TT} {O O' : Ou} {EX : ExW} {P H P' H' : Hp}
theorem TakesX.go (h : TakesX K P H μ EX E) (g : Go K P H μ P' H' μ') : TakesX K P' H' μ' EX E := fun C dd v d P2 H2 μ2 g2 h1 h2 h3 => h C dd v d P2 H2 μ2 (g.trans g2) h1 h2 h3
theorem sx_of (h : SW K t Γ μ { nx := O.nx, rt := O.rt }) : SX K E t Γ μ O EX := fun σ P H e x m _ D n r => h σ P H e x m D n r (fun _ _ _ _ _ _ _ z => z.elim) fun _ _ _ _ _ _ _ z => z.elim
/-- what can't raise, then u -/
theorem sx_seqW (h : SW K t Γ μ { nx := fun Γ' μ' => SX K E u Γ' μ' O EX, rt := O.rt }) : SX K E (tSeq t u) Γ μ O EX := fun σ P H e x m k D n r =>
  h σ P H e x m { D with nx := u D } (fun σ' P' H' Γ' μ' g e' z => z σ' P' H' e' g.ph g.ok (k.go g) D (fun σ2 P2 H2 Γ2 μ2 g2 => n σ2 P2 H2 Γ2 μ2 (g.trans g2)) fun v P2 H2 s μ2 g2 => r v P2 H2 s μ2 (g.trans g2)) r (fun _ _ _ _ _ _ _ z => z.elim) fun _ _ _ _ _ _ _ z => z.elim
theorem sx_seq (h : SX K E t Γ μ { O with nx := fun Γ' μ' => SX K E u Γ' μ' O EX } EX) : SX K E (tSeq t u) Γ μ O EX := fun σ P H e x m k D n r =>
  h σ P H e x m k { D with nx := u D } (fun σ' P' H' Γ' μ' g e' z => z σ' P' H' e' g.ph g.ok (k.go g) D (fun σ2 P2 H2 Γ2 μ2 g2 => n σ2 P2 H2 Γ2 μ2 (g.trans g2)) fun v P2 H2 s μ2 g2 => r v P2 H2 s μ2 (g.trans g2)) r
theorem sx_if {c : Bool} (h : EvB K tt Γ μ c) (h1 : c = true → SX K E a Γ μ O EX) (h2 : c = false → SX K E b Γ μ O EX) : SX K E (tIfS tt a b) Γ μ O EX := fun σ P H e x m k D n r =>
  h σ P H e x m _ fun c' P' H' g hr => by
    subst hr
    have go : ∀ {z : TS}, SX K E z Γ μ O EX → z D σ H' := fun z => z σ P' H' (e.mono g.pp) g.ph g.ok (k.go g) D (fun σ2 P2 H2 Γ2 μ2 g2 => n σ2 P2 H2 Γ2 μ2 (g.trans g2)) fun v P2 H2 s μ2 g2 => r v P2 H2 s μ2 (g.trans g2)
    cases c' with
    | true => rw [if_pos rfl]; exact go (h1 rfl)
    | false => rw [if_neg Bool.false_ne_true]; exact go (h2 rfl)
/-- the promise of def __init__(self, at): self.at = at on an exception that is being made -/
def spAt (K : PySem.W.Frag) : Sp := fun vs H Q _ => ∃ (a C : Addr) (v : V), vs = [.ref a, v] ∧ OexC K C ∧ PySem.W.findIn K (.ref C) "at" = some none ∧ H a = some (exo a C none) ∧ ∀ dx, H dx = none → dx ≠ a → Q .non (upd (upd H dx (exd dx [("at", v)])) a (exo a C (some dx)))
/-- raise C(e) -/
theorem sx_raise {C : Addr} {ta : TA} {d : Dat} (hC : OexC K C) (hno : PySem.W.findIn K (.ref C) "at" = some none) (h : EvAs K ta Γ μ [.dat d]) (hx : EX C d μ) : SX K E (fun _ σ H => tMkO C (spAt K) [] ta σ H fun cls d H' => E cls d H') Γ μ O EX := fun σ P H e x m k D n r =>
  h σ P H e x m _ fun vs P1 H1 ss g1 r1 hs => by
    subst hs
    obtain ⟨v, rfl, rv⟩ := one_of r1
    refine ⟨by show (1 : Nat) ≤ 1000; decide, fun a ha => ?_⟩
    refine ⟨a, C, v, rfl, hC, hno, upd_same, fun dx hdx hne => ⟨rfl, dx, [("at", v)], upd_same, ?_, ?_, ?_⟩⟩
    · rw [upd_ne hne]; exact upd_same
    · rw [upd_ne hne] at hdx; exact hdx
    · have hd1 : H1 dx = none := by rw [upd_ne hne] at hdx; exact hdx
      have e1 : upd (del (upd (upd (upd H1 a (exo a C none)) dx (exd dx [("at", v)])) a (exo a C (some dx))) a) dx (.xd [("at", v)]) = upd H1 dx (.xd [("at", v)]) := by
        funext b
        by_cases z : b = dx
        · subst z; rw [upd_same, upd_same]
        · rw [upd_ne z, upd_ne z]
          by_cases y : b = a
          · subst y; rw [del_same]; exact ha.symm
          · rw [del_ne y, upd_ne y, upd_ne z, upd_ne y]
      rw [e1]
      have st : Stp [] P1 H1 P1 (upd H1 dx (.xd [("at", v)])) := .newM g1.ph hd1
      exact k C dx v d P1 _ μ (g1.trans (.of0 st g1.ok)) upd_same rv hx
end
end DL
namespace DL
open PySem PySem.Spec PyProof.Rows L2
/-- the promise of a def that may raise -/
def spE (K : PySem.W.Frag) (pre : List Sl → Mem → (Sl → Mem → Prop) → ExW → Prop) : Sp := fun vs H Q E => ∃ (P : Hp) (μ : Mem) (ss : List Sl) (R : Sl → Mem → Prop) (EX : ExW), Ext P H ∧ StOk K P H μ ∧ RelSs K P vs ss ∧ pre ss μ R EX ∧
  (∀ v P' H' s μ', Go K P H μ P' H' μ' → RelS K P' v s → R s μ' → Q v H') ∧ TakesX K P H μ EX E
theorem fn_sx {K : PySem.W.Frag} {Pg : Program} {w : World} {mg : Str → Option Value} {base : Heap} {x qual : Str} {params : Arguments} {body : List Stmt} {scope : Scope} {f : Addr} {fd : FuncData} {N ps : List Str} {k : Nat} {pre : List Sl → Mem → (Sl → Mem → Prop) → ExW → Prop} (F : FunD K x qual params body scope [] [] f fd) (S : FnScope N ps scope)
    (hl : ∀ ss μ R EX, pre ss μ R EX → ss.length = ps.length)
    (hb : ∀ (cdv : Value) (A : Around) (outer : List Env) (s : Shared) (H : Hp) (E : XK), Room k (A.deeper (envOfC qual scope s.heap.objs.size f cdv)) →
      ∃ t, PSs (cxOf (L2.CX Pg w) Pg w K mg base N qual scope f cdv A outer s H E) body t ∧ ∀ ss μ R EX, pre ss μ R EX → SX K E t (ss ++ List.replicate (N.length - ss.length) .un) μ { nx := fun _ μ' => R (.dat .non) μ', rt := R } EX) :
    FnOk Pg w K mg base (L2.CX Pg w) (k + 1) f fd ps (spE K pre) := by
  refine F.ok S (fun vs H Q E h => ?_) (fun cdv A outer s H vs Q E hr h => ?_)
  · obtain ⟨P, μ, ss, R, EX, _, _, r, hp, _⟩ := h
    rw [r.len]; exact hl ss μ R EX hp
  · obtain ⟨P, μ, ss, R, EX, xt, m, r, hp, q, hE⟩ := h
    obtain ⟨t, ht, hs⟩ := hb cdv A outer s H E hr
    refine ⟨t, ht, hs ss μ R EX hp (L2.start N vs) P H ?_ xt m hE _ (fun σ' P' H' Γ' μ' g e z => ?_) (fun v P' H' s μ' g rv z => q v P' H' s μ' g rv z)⟩
    · unfold L2.start
      rw [r.len]
      exact envOk_start _ r
    · exact q .non P' H' (.dat .non) μ' g Rp.non z
end DL
set_option maxHeartbeats 2000000
namespace KH
open PySem PySem.Spec PyProof.Rows L2 DL
section
variable {Pg : Program} {w : World} {K : PySem.W.Frag} {mg : Str → Option Value} {base : Heap}
theorem Txt.xM (T : Txt w K mg) : XCls K (He.ga K "TooMany") (fOut K) "at" := xclsB_ok (He.ba T.exC).1
theorem Txt.xA (T : Txt w K mg) : XCls K (He.ga K "Against") (fOut K) "at" := xclsB_ok (He.ba (He.ba T.exC).2).1
theorem sc_out : FnScope ["self", "at"] ["self", "at"] (defScope s_m_OutweighedError_init) := ⟨rfl, rfl, rfl, by decide +kernel, rfl, by decide +kernel, by decide +kernel⟩
theorem ok_out (T : Txt w K mg) : ∃ fd, FnOk Pg w K mg base CX0 1 (fOut K) fd ["self", "at"] (spAt K) ∧ Binds K fd ["self", "at"] [] := by
  obtain ⟨fd, F⟩ := T.def_ 0 (d := d_m_OutweighedError_init) rfl
  refine ⟨fd, ?_, F.bindsN fun _ _ _ _ _ _ us hl => match us, hl with | [_, _], _ => rfl⟩
  refine F.ok sc_out (fun vs H Q E h => ?_) (fun cdv A outer s H vs Q E hr h => ⟨_, PSs.nox (pss_one (ps_ost (pv 0) (pv 1))), ?_⟩)
  · obtain ⟨a, C, v, rfl, _⟩ := h
    rfl
  · obtain ⟨a, C, v, rfl, hC, hno, ha, hQ⟩ := h
    exact ⟨v, rfl, .ref a, rfl, a, C, rfl, hC, hno, .inl ⟨ha, fun dx h1 h2 => hQ dx h1 h2⟩⟩
end
end KH
namespace KH
open PySem PySem.Spec PyProof.Rows L2 DL M80
section
variable {Pg : Program} {w : World} {K : PySem.W.Frag} {mg : Str → Option Value} {base : Heap}
/-- tell, all its ways -/
def preX_tell (K : PySem.W.Frag) : List Sl → Mem → (Sl → Mem → Prop) → ExW → Prop := fun ss μ R EX => ∃ (x dx l : Addr) (F : Lot) (V : List Ver) (c : Case) (y : Bool), ss = [.adr x, .dat (caseD c), .dat (.bl y)] ∧ l ≠ x ∧ μ = askM (cA K) x dx l F V ∧ FOk F ∧ VOk F V ∧ V.length ≤ 60 ∧ M80.Ends F (yesL V) ∧ CaseOk F c ∧
  (V.length = 60 → EX (He.ga K "TooMany") (.int 60) (askM (cA K) x dx l F V)) ∧ (V.length < 60 → againstD F (yesL V) (noL V) c y ≠ .non → EX (He.ga K "Against") (againstD F (yesL V) (noL V) c y) (askM (cA K) x dx l F V)) ∧
  (V.length < 60 → againstD F (yesL V) (noL V) c y = .non → R (.dat .non) (askM (cA K) x dx l F (V ++ [(c, y)])))
theorem ops_notNN {μ : Mem} {e : Dat} (h : e ≠ .non) : OpS K μ (fun x y H Q => y = .non ∧ Q (.bl (!decide (x = .non))) H) (.dat e) (.dat .non) (fun s => s = .dat (.bl true)) := ops_notN (by cases e <;> first | rfl | exact absurd rfl h)
theorem ok_tellX (T : Txt w K mg) : Cls K (He.ga K "Asked") ∧ ∃ fd, Meth K (He.ga K "Asked") "tell" (He.ma K (He.ga K "Asked") "tell") ∧ Binds K fd ["self", "case", "yes"] [] ∧ FnOk Pg w K mg base (L2.CX Pg w) 11 (He.ma K (He.ga K "Asked") "tell") fd ["self", "case", "yes"] (spE K (preX_tell K)) := by
  have c_check_case := ok_f_check_case (Pg := Pg) (base := base) T
  have c_against_paper := ok_f_against_paper (Pg := Pg) (base := base) T
  have c_Asked_yes_cases := ok_m_Asked_yes_cases (Pg := Pg) (base := base) T
  have c_Asked_no_cases := ok_m_Asked_no_cases (Pg := Pg) (base := base) T
  have m_len := T.free 96 (x := "len") rfl
  obtain ⟨t_MOST_VERDICTS, g_MOST_VERDICTS⟩ := T.int_ 108 (x := "MOST_VERDICTS") (n := 60) rfl
  have g_M := T.glo 81 (x := "TooMany") rfl
  have g_A := T.glo 84 (x := "Against") rfl
  obtain ⟨fdO, FO, bO⟩ := ok_out (Pg := Pg) (base := base) T
  have xM := T.xM
  have xA := T.xA
  obtain ⟨fd, F⟩ := T.def_ 51 (d := d_m_Asked_tell) rfl
  refine ⟨He.cls_ok (T.fact 126 (f := .cls "Asked") rfl), fd, He.meth_ok (T.fact 133 (f := .meth "Asked" "tell") rfl), F.bindsN (fun _ _ _ _ _ _ us hl => match us, hl with | [_, _, _], _ => rfl), ?_⟩
  refine fn_sx F sc_m_Asked_tell ?_ fun cdv A outer s H E hr => ⟨_, (pss_cons (ps_expr (pe_callC c_check_case hr (by rfl) (pa_cons (pe_fldK K (pv 0)) (pa_cons (pv 1) pa_nil))))
    (pss_cons (ps_if (pt_cmpR op_ge (pe_callB (call_lenK K) (by rfl) m_len (by decide +kernel) (pa_cons (pe_fldK K (pv 0)) pa_nil)) (pe_glob (v := .int 60) rfl g_MOST_VERDICTS ⟨_, rfl⟩) (nomark _)) (pss_one (ps_raise rfl (takes_of rfl rfl rfl rfl) (pmk_oex xM.o xM.ini xM.ty FO (hr.mono (by decide)) bO .nil pass0 (by rfl) g_M (pa_cons (pe_glob (v := .int 60) rfl g_MOST_VERDICTS ⟨_, rfl⟩) pa_nil)))) pss_nil)
    (pss_cons (ps_set (i := 3) sc_m_Asked_tell.nd rfl (Or.inl rfl) (pe_callC c_against_paper hr (by rfl) (pa_cons (pe_fldK K (pv 0)) (pa_cons (pe_methC0 (pv 0) c_Asked_yes_cases hr) (pa_cons (pe_methC0 (pv 0) c_Asked_no_cases hr) (pa_cons (pv 1) (pa_cons (pv 2) pa_nil)))))))
    (pss_cons (ps_if (pt_cmpR op_notN (pv 3) pe_non (nomark _)) (pss_one (ps_raise rfl (takes_of rfl rfl rfl rfl) (pmk_oex xA.o xA.ini xA.ty FO (hr.mono (by decide)) bO .nil pass0 (by rfl) g_A (pa_cons (pv 3) pa_nil)))) pss_nil)
    (pss_one (ps_expr (pe_appendK K (pe_fldK K (pv 0)) (pa_cons (pe_tup (pa_cons (pv 1) (pa_cons (pv 2) pa_nil))) pa_nil)))))))), ?_⟩
  · rintro ss μ R EX ⟨x, dx, l, F, V, c, y, rfl, _⟩
    rfl
  rintro ss μ R EX ⟨x, dx, l, F, V, c, y, rfl, hlx, rfl, hF, hV, hz, hE, hc, h60, hag, hkp⟩
  have hT : ToldOk F (yesL V) := ⟨fun c hc => hV.ok _ (yesL_mem hc).1, fun c hc => (yesL_mem hc).2, Nat.le_trans yesL_len hz⟩
  refine sx_seqW (sw_dropM (ev_callP (ds := [tx F, caseD c]) (ea_cons (ev_own T (ev_adr rfl) ask_x) (ea_cons (ev_var rfl) ea_nil)) rfl ⟨F, c, rfl, hF, hc, rfl⟩).m fun s μ' z => ?_)
  obtain ⟨rfl, _⟩ := z
  refine sx_seq (sx_if (c := decide ((((V.map verD).length : Nat) : Int) ≥ 60)) (et_testD (evd_op (ev_cb (R := fun s => s = .dat (.int ((V.map verD).length : Nat))) (ea_consR (ev_kept T (ev_adr rfl) ask_x) ea_nil) fun ss h => ?_) (ev_c (d := .int 60) rfl) ops_cmpI)) (fun hq => ?_) fun hq => ?_)
  · obtain ⟨s, r, rfl, rfl, rfl⟩ := h
    exact cb_lenO ask_l
  · rw [List.length_map] at hq
    have := of_decide_eq_true hq
    exact sx_raise xM.o xM.no (ea_cons (ev_c (d := .int 60) rfl) ea_nil) (h60 (by omega))
  rw [List.length_map] at hq
  have hlt : V.length < 60 := by
    have := of_decide_eq_false hq
    omega
  refine sx_of (sw_next ?_)
  refine sx_seqW (sw_asg (ev_callP (ds := [tx F, casesD (yesL V), casesD (noL V), caseD c, .bl y]) (ea_cons (ev_own T (ev_adr rfl) ask_x) (ea_cons (ev_methO (μf := askM (cA K) x dx l F V) (ev_adr rfl) ask_x rfl ea_nil (fun _ h => h) (askM_nd hlx) ⟨x, dx, l, F, V, rfl, hlx, rfl, hF, hV, rfl, rfl⟩) (ea_cons (ev_methO (μf := askM (cA K) x dx l F V) (ev_adr rfl) ask_x rfl ea_nil (fun _ h => h) (askM_nd hlx) ⟨x, dx, l, F, V, rfl, hlx, rfl, hF, hV, rfl, rfl⟩) (ea_cons (ev_var rfl) (ea_cons (ev_var rfl) ea_nil))))) rfl ⟨F, yesL V, noL V, c, y, rfl, hF, hT, Nat.lt_of_le_of_lt yesL_len hlt, hE, ?_, Nat.le_trans noL_len hz, hc, rfl⟩) ?_)
  · intro c' hc'
    exact hV.ok _ (noL_mem.mp hc').1
  by_cases hd : againstD F (yesL V) (noL V) c y = .non
  · have hR := hkp hlt hd
    rw [hd]
    refine sx_seq (sx_if (c := false) (et_testD (evd_op (ev_var (d := .non) rfl) (ev_c (d := .non) (by exact trivial)) (ops_notN rfl))) nofun fun _ => sx_of (sw_next ?_))
    refine sx_of (sw_append (ev_kept T (ev_adr rfl) ask_x) (ev_tup (ds := [caseD c, .bl y]) (ea_cons (ev_var rfl) (ea_cons (ev_var rfl) ea_nil)) (by simp)) ask_l (by rw [List.length_map]; omega) (askM_nd hlx) ?_)
    have e : V.map verD ++ [.tup [caseD c, .bl y]] = (V ++ [(c, y)]).map verD := by rw [List.map_append]; rfl
    rw [e, ask_set hlx]
    exact hR
  · exact sx_seq (sx_if (c := true) (et_testD (evd_op (ev_var (d := againstD F (yesL V) (noL V) c y) rfl) (ev_c (d := .non) (by exact trivial)) (ops_notNN hd))) (fun _ => sx_raise xA.o xA.no (ea_cons (ev_var rfl) ea_nil) (hag hlt hd)) nofun)
end
end KH
set_option maxHeartbeats 4000000
namespace DL
open PySem PySem.Spec PyProof.Rows L2
/-- o.m(e, ..) that may raise: its wish at the slots -/
def tMethX (C : Addr) (m : Str) (sp : Sp) (E : L2.St → XK) (ta : TE) (t : TA) : TE := fun σ H Q => ta σ H fun x H1 => ∃ a dx fs, x = .ref a ∧ H1 a = some (.ins C dx fs) ∧ fs.lookup m = none ∧ t σ H1 fun vs H2 => sp (x :: vs) H2 Q (E σ)
theorem pe_methX {X : Cx} {CX : CXT} {k : Nat} {C f : Addr} {fd : FuncData} {ps : List Str} {sp : Sp} {E : L2.St → XK} {m : Str} {o e : Expr} {es : List Expr} {ta : TE} {t : TA} {pos apos : Pos} {pl : Sem Bool} (he : PE X o ta) (c : Cls X.K C) (hm : Meth X.K C m f) (F : FnOk X.prog X.w X.K X.mg X.base CX k f fd ps sp) (hr : Room k X.A) (hb : Binds X.K fd ps []) (hx : ∀ σ, PassesAt CX X σ (E σ)) (ha : PA X (e :: es) t)
    (hst : starEach (e :: es) X.env = (false, eval e X.env) :: starEach es X.env := by rfl) (hpl : (backTo pos (starEach es X.env)).any (·.1) = false := by rfl)
    (ht : eval (.Call (.Attribute o m apos) (e :: es) [] pos) X.env = (do let ov ← eval o X.env; standAt apos.atName; let (f, first) ← holding [ov] (getMethod ov m pl); callWith pos f first (backTo pos (starEach (e :: es) X.env)) (backToKw pos (keywordEach [] X.env))) := by rfl) :
    PE X (.Call (.Attribute o m apos) (e :: es) [] pos) (tMethX C m sp E ta t) := by
  refine ⟨fun pins s σ H Q I h => PySem.W.methodCall_KW (pl := pl) (thn (he.run pins s σ H _ I h) fun u s1 ⟨x, H1, I1, rx, a, dx, fs, ex, ea, l, q⟩ => ?_) ht⟩
  subst ex; obtain rfl : u = Value.ref a := rx
  refine getmeth_ok I1 ea c hm l (PySem.W.callWith_K (first := [.ref a]) (h₀ := X.base) I.ok.mod.kin hm.kp (thn (ha.run pos pins s1 σ H1 _ I1 q) fun us s2 ⟨vs, H2, I2, r, q2⟩ => ⟨I2.kIn, ?_⟩) hst hpl)
  exact run_fnS (us := .ref a :: us) (vs := .ref a :: vs) F hr hb (hx σ) I2 (.cons rfl r) q2
end DL
set_option maxHeartbeats 2000000
namespace KH
open PySem PySem.Spec PyProof.Rows L2 DL M80
section
variable {Pg : Program} {w : World} {K : PySem.W.Frag} {mg : Str → Option Value} {base : Heap}
def pre_lt (K : PySem.W.Frag) : List Sl → Mem → (Sl → Mem → Prop) → Prop := fun ss μ R => ∃ (x dx l : Addr) (F : Lot) (V : List Ver) (c : Case) (y : Bool), ss = [.adr x, .dat (caseD c), .dat (.bl y)] ∧ l ≠ x ∧ μ = askM (cA K) x dx l F V ∧ FOk F ∧ VOk F V ∧ V.length ≤ 60 ∧ M80.Ends F (yesL V) ∧ CaseOk F c ∧
  (V.length = 60 → R (.dat (.tup [.str "many", .int 60])) (askM (cA K) x dx l F V)) ∧ (V.length < 60 → againstD F (yesL V) (noL V) c y ≠ .non → R (.dat (.tup [.str "against", againstD F (yesL V) (noL V) c y])) (askM (cA K) x dx l F V)) ∧
  (V.length < 60 → againstD F (yesL V) (noL V) c y = .non → R (.dat (.tup [.str "kept"])) (askM (cA K) x dx l F (V ++ [(c, y)])))
abbrev nm_lt : List Str := ["asked", "case", "yes", "e"]
theorem sc_lt : FnScope nm_lt ["asked", "case", "yes"] (defScope s_f__law_tell) := ⟨rfl, rfl, rfl, by decide +kernel, rfl, by decide +kernel, by decide +kernel⟩
theorem vals_refs : ∀ {as : List Addr} {us : List Value}, Vals (as.map V.ref) us → us = as.map Value.ref
  | [], us, h => by cases h; rfl
  | a :: as, us, h => by
    cases h with
    | cons h1 h2 =>
      rw [vals_refs h2]
      cases h1; rfl
theorem ok_f__law_tell (T : Txt w K mg) : Callee Pg w K mg base 12 "_law_tell" ["asked", "case", "yes"] (spD K (pre_lt K)) := by
  obtain ⟨cC, fdT, mT, bT, FT⟩ := ok_tellX (Pg := Pg) (base := base) T
  have m_isinstance := T.free 94 (x := "isinstance") rfl
  have g_M := T.glo 81 (x := "TooMany") rfl
  have g_A := T.glo 84 (x := "Against") rfl
  have g_O := T.glo 75 (x := "OutweighedError") rfl
  have g_B := T.glo 77 (x := "BadCase") rfl
  have g_P := T.glo 78 (x := "PlainCase") rfl
  have g_R := T.glo 83 (x := "RoundRule") rfl
  have xM := T.xM
  have xA := T.xA
  refine T.callee (N := nm_lt) (st := s_f__law_tell) 85 67 rfl rfl sc_lt ?_ (fun _ _ _ _ _ _ us hl => match us, hl with | [_, _, _], _ => rfl) fun fd cdv A outer s H E hr => ⟨_, (pss_one (ps_try_manyAs (n := "e") (i := 3) rfl rfl sc_lt.nd rfl rfl takes0 (fun W pn xe tk _ => pss_cons (ps_expr (pe_methX (pv 0) cC mT FT hr bT (fun σ => passAt tk σ) (pa_cons (pv 1) (pa_cons (pv 2) pa_nil)))) (pss_one (ps_ret (pe_tup (pa_cons pe_str pa_nil)))))
    (.cons ⟨rfl, by decide, .inl g_M⟩ (fun a oe cls d pn hz hf => pss_one (ps_ret (pe_tup (pa_cons (pe_ifExp (pt_val (pe_callB (call_isD xM.e hz hf) (by rfl) m_isinstance (by decide +kernel) (pa_cons (pv 3) (pa_cons (pe_tup (pa_cons (pe_glob (v := .ref (He.ga K "Against")) rfl g_A rfl) (pa_cons (pe_glob (v := .ref (He.ga K "BadCase")) rfl g_B rfl) (pa_cons (pe_glob (v := .ref (He.ga K "RoundRule")) rfl g_R rfl) pa_nil)))) pa_nil)))) pe_str pe_str) (pa_cons (pe_xf xM.x xM.no hz hf (pv 3)) pa_nil)))))
    (.cons ⟨rfl, by decide, .inl g_A⟩ (fun a oe cls d pn hz hf => pss_cons (ps_if (PW.pt (pw_or (pt_val (pe_callB (call_isD xA.e hz hf) (by rfl) m_isinstance (by decide +kernel) (pa_cons (pv 3) (pa_cons (pe_tup (pa_cons (pe_glob (v := .ref (He.ga K "TooMany")) rfl g_M rfl) (pa_cons (pe_glob (v := .ref (He.ga K "BadCase")) rfl g_B rfl) (pa_cons (pe_glob (v := .ref (He.ga K "PlainCase")) rfl g_P rfl) (pa_cons (pe_glob (v := .ref (He.ga K "RoundRule")) rfl g_R rfl) pa_nil))))) pa_nil)))) (pw_or1 (pt_not (pt_val (pe_callB (call_isD xA.e hz hf) (by rfl) m_isinstance (by decide +kernel) (pa_cons (pv 3) (pa_cons (pe_glob (v := .ref (He.ga K "OutweighedError")) rfl g_O rfl) pa_nil))))))))
      (pss_one (ps_ret (pe_tup (pa_cons pe_str (pa_cons (pe_xf xA.x xA.no hz hf (pv 3)) pa_nil))))) pss_nil) (pss_one (ps_ret (pe_tup (pa_cons pe_str (pa_cons (pe_xf xA.x xA.no hz hf (pv 3)) pa_nil)))))) .nil)))), ?_⟩
  · rintro ss μ R ⟨x, dx, l, F, V, c, y, rfl, _⟩
    rfl
  rintro ss μ R ⟨x, dx, l, F, Ws, c, y, rfl, hlx, rfl, hF, hV, hz, hE, hc, h60, hag, hkp⟩
  intro σ P H e xt ok D nx rt bk ct
  obtain ⟨o0, h0, e0⟩ := e.get (i := 0) (s := .adr x) rfl
  have e0' : o0 = some (.ref x) := e0
  subst e0'
  obtain ⟨_, vs0, hins, rf⟩ := ok.get ask_x
  refine ⟨.ref x, h0, x, dx, vs0, rfl, hins, rf.look_none rfl, (ea_cons (ev_var (i := 1) rfl) (ea_cons (ev_var (i := 2) rfl) ea_nil)) σ P H e xt ok _ fun vs P2 H2 ss g2 r2 hs => ?_⟩
  subst hs
  -- a tuple of a text and a thing, as the answer
  have fin : ∀ {P1 H1 : Hp} {μ1 : Mem} {k : Str} {v : V} {d : Dat} (p1 p2 : Addr) (u1 : HO), Go K P H (askM (cA K) x dx l F Ws) P1 H1 μ1 → H1 p1 = none → (upd H1 p1 u1) p2 = none → Rp K P1 v d → R (.dat (.tup [.str k, d])) μ1 → D.rt (.ref p2) (upd (upd H1 p1 u1) p2 (.tup [.str k, v])) := fun {P1 H1 μ1 k v d} p1 p2 u1 g n1 n2 rv hR => by
    have s1 : Stp [] P1 H1 P1 (upd H1 p1 u1) := .newM g.ph n1
    have g1 := g.trans (.of0 s1 g.ok)
    have s2 : Stp [] P1 (upd H1 p1 u1) (upd P1 p2 (.tup [.str k, v])) (upd (upd H1 p1 u1) p2 (.tup [.str k, v])) := .new s1.ph n2
    have g2 := g1.trans (.of0 s2 g1.ok)
    exact rt _ _ _ (.dat (.tup [.str k, d])) μ1 g2 (Rp.tup (.of upd_same) ((RpA.cons (.str k) (.cons rv .nil)).mono s2.pp)) hR
  have eC := T.exC
  have f1 := He.ba (He.ba (He.ba eC).2).2
  have f2 := He.ba f1.2
  have f3 := He.ba f2.2
  have f4 := He.ba f3.2
  have f5 := He.ba f4.2
  have v3 : σ.length = 4 := e.len
  have s3 : ∀ a : Addr, (σ.set 3 (some (.ref a)))[3]? = some (some (.ref a)) := fun a => List.getElem?_set_self (by omega)
  refine ⟨P2, askM (cA K) x dx l F Ws, _, fun s μ' => s = .dat .non ∧ μ' = askM (cA K) x dx l F (Ws ++ [(c, y)]) ∧ Ws.length < 60 ∧ againstD F (yesL Ws) (noL Ws) c y = .non,
    fun C d μ' => (C = He.ga K "TooMany" ∧ d = .int 60 ∧ μ' = askM (cA K) x dx l F Ws ∧ Ws.length = 60) ∨ (C = He.ga K "Against" ∧ d = againstD F (yesL Ws) (noL Ws) c y ∧ μ' = askM (cA K) x dx l F Ws ∧ Ws.length < 60 ∧ againstD F (yesL Ws) (noL Ws) c y ≠ .non),
    g2.ph, g2.ok, RelSs.more (s := .adr x) rfl r2, ⟨x, dx, l, F, Ws, c, y, rfl, hlx, rfl, hF, hV, hz, hE, hc, fun h => .inl ⟨rfl, rfl, rfl, h⟩, fun h h' => .inr ⟨rfl, rfl, rfl, h, h'⟩, fun h h' => ⟨rfl, rfl, h, h'⟩⟩, fun v P' H' s μ' g r hR => ?_, fun C dd v d P' H' μ' g hxd rv hEX => ?_⟩
  · obtain ⟨rfl, rfl, h1, h2⟩ := hR
    have g3 := g2.trans g
    exact (sw_ret (O := { nx := fun _ _ => False, rt := fun s μ2 => s = .dat (.tup [.str "kept"]) ∧ μ2 = askM (cA K) x dx l F (Ws ++ [(c, y)]) }) (ev_tup (ds := [.str "kept"]) (ea_cons (ev_c (by exact rfl)) ea_nil) (by simp)) ⟨rfl, rfl⟩) σ P' H' (e.mono g3.pp) g3.ph g3.ok D (fun _ _ _ _ _ _ _ z => z.elim) (fun v2 P3 H3 s3 μ3 g4 r4 z => by
      obtain ⟨rfl, rfl⟩ := z
      exact rt v2 P3 H3 _ _ (g3.trans g4) r4 (hkp h1 h2)) (fun _ _ _ _ _ _ _ z => z.elim) fun _ _ _ _ _ _ _ z => z.elim
  have g3 := g2.trans g
  have rdd : ∀ {p : Addr} {u : HO}, H' p = none → (upd H' p u) dd = some (.xd [("at", v)]) := fun {p u} hp => by
    rw [upd_ne (fun z => by rw [z, hp] at hxd; cases hxd)]; exact hxd
  rcases hEX with ⟨rfl, rfl, rfl, h1⟩ | ⟨rfl, rfl, rfl, h1, h2⟩
  · refine ⟨true, of_decide_eq_true f1.1, fun _ a ha => ?_, nofun⟩
    refine ⟨.ref a, s3 a, by show 3 ≤ sizeLine; decide, fun p hp => ?_⟩
    refine ⟨rfl, dd, [("at", v)], rfl, rdd hp, .inr ⟨p, _, _, false, rfl, upd_same, fun us hu => vals_refs (as := [He.ga K "Against", He.ga K "BadCase", He.ga K "RoundRule"]) hu, of_decide_eq_true f4.1, false, rfl, ?_⟩⟩
    simp only [Bool.false_eq_true, if_false]
    exact ⟨.ref a, s3 a, rfl, rfl, dd, _, v, rfl, rdd hp, rfl, by show 2 ≤ sizeLine; decide, fun p2 hp2 => fin p p2 _ g3 hp hp2 rv (h60 h1)⟩
  · refine ⟨false, of_decide_eq_true f2.1, nofun, fun _ => ⟨true, of_decide_eq_true f3.1, fun _ a ha => ?_, nofun⟩⟩
    refine ⟨.ref a, s3 a, by show 4 ≤ sizeLine; decide, fun p hp => ?_⟩
    refine ⟨rfl, dd, [("at", v)], rfl, rdd hp, .inr ⟨p, _, _, false, rfl, upd_same, fun us hu => vals_refs (as := [He.ga K "TooMany", He.ga K "BadCase", He.ga K "PlainCase", He.ga K "RoundRule"]) hu, of_decide_eq_true f5.1, false, rfl, ?_⟩⟩
    simp only [Bool.false_eq_true, if_false]
    refine ⟨.ref a, s3 a, rfl, dd, [("at", v)], rfl, rdd hp, .inl ⟨.ref (He.ga K "OutweighedError"), .ref (He.ga K "OutweighedError"), true, rfl, fun u hu => by cases hu; rfl, of_decide_eq_true f5.2, true, rfl, ?_⟩⟩
    simp only [Bool.not_true, Bool.false_eq_true, if_false]
    exact ⟨.ref a, s3 a, rfl, rfl, dd, _, v, rfl, rdd hp, rfl, by show 2 ≤ sizeLine; decide, fun p2 hp2 => fin p p2 _ g3 hp hp2 rv (hag h1 h2)⟩
end
end KH
namespace DL
open PySem PySem.Spec PyProof.Rows L2 M80
section
variable {K : PySem.W.Frag} {P H P' H' : Hp} {Γ Γ' : List Sl} {μ μ' : Mem} {te ta tb tk tv : TE} {tt : TT} {t : TA} {b : TS} {R : Sl → Prop} {RM RM' : Sl → Mem → Prop} {d : Dat} {s : Sl} {ds es : List Dat} {O : Ou} {a : Addr} {ns : List Int}
/-! ### the script -/
theorem ev_scr {i : Nat} (h : Γ[i]? = some (.scr ns)) : Ev K (tVar i) Γ μ (fun z => z = .scr ns) := ev_slot h nofun
theorem cb_lenS : CbS K μ (fun xs H Q => ∃ x n, xs = [x] ∧ LenV K x H n ∧ Q (.int n) H) [.scr ns] (fun s => s = .dat (.int (ns.length : Nat))) := .val fun P H xs Q xt m rs q => by
  obtain ⟨v, rfl, r⟩ := oneS rs
  obtain ⟨a, rfl, hs⟩ := r
  exact ⟨_, _, rfl, .inl ⟨_, xt.seqL hs, rfl⟩, q _ (by rw [List.length_map]; rfl)⟩
theorem ei_scr (h : Ev K te Γ μ (fun z => z = .scr ns)) : EvI K (iList K te) Γ μ (fun _ => True) (fun z => z = ns.map Dat.int) := fun σ P H e x m R q =>
  h σ P H e x m _ fun v P1 H1 s g1 r1 hs => by
    subst hs
    obtain ⟨a, rfl, hl⟩ := r1
    refine ⟨a, rfl, ⟨_, g1.ph.seqL hl⟩, q _ P1 H1 _ g1 rfl (yields_of fun i P2 H2 x2 hg => ?_)⟩
    have hl' : SqL K H2 a (ns.map V.int) := x2.seqL (hg.1.seqL hl)
    refine ⟨fun d hd => ?_, fun h => ⟨_, hl', by simpa using h⟩⟩
    obtain ⟨v, h1, h2⟩ := (RpA.ints (K := K) (P := P2) ns).get hd
    refine ⟨⟨_, v, hl', h1⟩, fun y H' hy => ⟨hy.1, ?_⟩⟩
    have := hy.2 _ hl'
    rw [h1] at this
    cases this
    exact h2
theorem cb_listS : CbS K μ (rLstOf K) [.scr ns] (fun s => s = .dat (.lst (ns.map Dat.int))) := fun P H xs xt m rs Q q => by
  obtain ⟨v, rfl, r⟩ := oneS rs
  obtain ⟨a, rfl, hs⟩ := r
  exact ⟨a, _, rfl, .inl (xt.seqL hs), fun p hp => fin_lst xt hp (RpA.ints ns) q⟩
/-! ### a dict display, owned -/
def EvPs (K : PySem.W.Frag) (trs : List (TE × TE)) (Γ : List Sl) (μ : Mem) (kvs : List (Key × Dat)) : Prop := ∀ (σ : L2.St) (P H : Hp), EnvOk K P σ Γ → Ext P H → StOk K P H μ → ∀ Q : List (V × V) → Hp → Prop,
  (∀ (vs : List (Key × V)) P' H', Go K P H μ P' H' μ → RpK K P' vs kvs → Q (vs.map fun kv => (kV kv.1, kv.2)) H') → tPairs trs σ H Q
theorem eps_nil : EvPs K [] Γ μ [] := fun σ P H e x m Q q => q [] P H (.refl x m) .nil
theorem eps_cons {trs : List (TE × TE)} {kvs : List (Key × Dat)} {k : Key} (hk : EvD K tk Γ μ (keyD k)) (hv : EvD K tv Γ μ d) (hr : EvPs K trs Γ μ kvs) : EvPs K ((tk, tv) :: trs) Γ μ ((k, d) :: kvs) := fun σ P H e x m Q q =>
  hk σ P H e x m _ fun v1 P1 H1 s1 g1 r1 h1 => hv σ P1 H1 (e.mono g1.pp) g1.ph g1.ok _ fun v2 P2 H2 s2 g2 r2 h2 => hr σ P2 H2 (e.mono (g1.pp.tr g2.pp)) g2.ph g2.ok _ fun vs P3 H3 g3 rk => by
    subst h1; subst h2
    have e1 := rp_key r1
    subst e1
    exact q ((k, v2) :: vs) P3 H3 (g1.trans (g2.trans g3)) (.cons (RelS.mono (s := .dat d) g3.pp r2) rk)
theorem rpk_merge {vs : List (Key × V)} : ∀ {kvs : List (Key × Dat)} {ws : List (Key × V)} {js : List (Key × Dat)}, RpK K P vs kvs → RpK K P ws js → RpK K P (mergeK ws vs) (kvs.foldl (fun a kv => putD a kv.1 kv.2) js) := by
  induction vs with
  | nil => intro kvs ws js h h2; cases h; exact h2
  | cons v vs ih =>
    intro kvs ws js h h2
    cases h with
    | cons hv r =>
      rename_i k v d ds
      have := ih r (h2.put (k := k) hv)
      exact this
theorem em_disp {trs : List (TE × TE)} {kvs : List (Key × Dat)} (hz : kvs.length ≤ 15) (h : ∀ p, p ∉ adrs μ → EvPs K trs Γ ((p, .mdc []) :: μ) kvs) : EvM K (tDisp trs) Γ μ (fun s μ' => ∃ p, p ∉ adrs μ ∧ s = .adr p ∧ μ' = (p, .mdc (kvs.foldl (fun a kv => putD a kv.1 kv.2) [])) :: μ) := fun σ P H e xt ok Q q p hp => by
  have hp0 := ok.apart hp
  have g1 : Go K P H μ P (upd H p (.dK [])) ((p, .mdc []) :: μ) := Go.alloc xt ok hp ⟨[], upd_same, .nil⟩
  refine h p hp0 σ P _ e g1.ph g1.ok _ fun vs P2 H2 g2 rk => ?_
  obtain ⟨_, ws, h1, r1⟩ := g2.ok.get (.head _)
  cases r1
  refine ⟨h1, vs, rfl, by rw [rk.length]; exact hz, ?_⟩
  have g3 : Go K P2 H2 ((p, .mdc []) :: μ) P2 (upd H2 p (.dK (mergeK [] vs))) (setMu ((p, .mdc []) :: μ) p (.mdc (kvs.foldl (fun a kv => putD a kv.1 kv.2) []))) := Go.write g2.ph g2.ok (.head _) ⟨_, upd_same, rpk_merge rk .nil⟩
  refine q (.ref p) _ _ (.adr p) _ (g1.trans (g2.trans g3)) rfl ⟨p, hp0, rfl, ?_⟩
  unfold setMu
  rw [List.map_cons, if_pos rfl]
  refine congrArg _ ((List.map_congr_left fun r hr => ?_).trans (List.map_id _))
  exact if_neg fun e => hp0 (List.mem_map.mpr ⟨r, hr, e⟩)
/-- the store is closed when it is given out -/
theorem sw_closeSto (h : SW K b Γ μ { O with rt := fun s μ' => ∃ (a : Addr) (ns : List Int) (i r tn z : Int) (l : Mem), ns.length ≤ 100000 ∧ 0 ≤ i ∧ 0 ≤ r ∧ μ' = (a, .mdc (stoD ns i r tn z)) :: l ∧ O.rt s ((a, .sto) :: l) }) : SW K b Γ μ O := fun σ P H e xt ok D n r bk ct => by
  refine h σ P H e xt ok D n (fun v P' H' s μ' g rv hr => ?_) bk ct
  obtain ⟨a, ns', i', r', tn', z', l, k1, k2, k3, rfl, ho⟩ := hr
  exact r v P' H' s _ ⟨g.stp, sto_close k1 k2 k3 g.ok, g.new⟩ rv ho
/-! ### owned objects in another order, or fewer -/
theorem EvM.re (h : EvM K te Γ μ RM) (k : ∀ s μ', RM s μ' → ∃ μ1, (∀ p ∈ μ1, p ∈ μ') ∧ (adrs μ1).Nodup ∧ RM' s μ1) : EvM K te Γ μ RM' := fun σ P H e xt ok Q q =>
  h σ P H e xt ok _ fun v P' H' s μ' g r hr => by
    obtain ⟨μ1, h1, h2, h3⟩ := k s μ' hr
    exact q v P' H' s μ1 (g.sub h1 h2) r h3
/-- .. for what follows -/
theorem sw_pm {μ1 : Mem} (h : SW K b Γ μ1 O) (hs : ∀ p, p ∈ μ1 ↔ p ∈ μ) (nd : (adrs μ1).Nodup) : SW K b Γ μ O := fun σ P H e xt ok D n r bk ct => by
  have ok1 : StOk K P H μ1 := ⟨fun p hp => ok.1 p ((hs p).mp hp), nd⟩
  have ha : ∀ a, a ∈ adrs μ1 → a ∈ adrs μ := fun a ha => by
    obtain ⟨p, hp, rfl⟩ := List.mem_map.mp ha
    exact List.mem_map.mpr ⟨p, (hs p).mp hp, rfl⟩
  have go : ∀ {P' H' μ'}, Go K P H μ1 P' H' μ' → Go K P H μ P' H' μ' := fun g => ⟨g.stp.mono fun a m => .inl (ha a m), g.ok, fun a m => (g.new a m).imp (ha a) id⟩
  exact h σ P H e xt ok1 D (fun σ' P' H' Γ' μ' g => n σ' P' H' Γ' μ' (go g)) (fun v P' H' s μ' g => r v P' H' s μ' (go g)) (fun σ' P' H' Γ' μ' g => bk σ' P' H' Γ' μ' (go g)) fun σ' P' H' Γ' μ' g => ct σ' P' H' Γ' μ' (go g)
/-- nothing is owned twice -/
theorem sw_nd (h : (adrs μ).Nodup → SW K b Γ μ O) : SW K b Γ μ O := fun σ P H e xt ok => h ok.2 σ P H e xt ok
/-! ### lists of which something is known -/
theorem ei_lstR {Rd : List Dat → Prop} (h : Ev K te Γ μ (fun z => ∃ ds, Rd ds ∧ z = .dat (.lst ds))) : EvI K (iList K te) Γ μ (fun _ => True) Rd := fun σ P H e x m R q =>
  h σ P H e x m _ fun v P1 H1 s g1 r1 hs => by
    obtain ⟨ds, hd, rfl⟩ := hs
    have r1' : Rp K P1 v (.lst ds) := r1
    cases r1' with
    | lst hl ra =>
      rename_i a xs
      refine ⟨a, rfl, ⟨xs, .of (g1.ph _ _ hl)⟩, q _ P1 H1 ds g1 hd (yields_of fun i P2 H2 x2 hg => ?_)⟩
      have hl' : SqL K H2 a xs := .of (x2 _ _ (hg.1 _ _ hl))
      refine ⟨fun d hd => ?_, fun h => ⟨xs, hl', by rw [ra.length]; exact h⟩⟩
      obtain ⟨v, h1, h2⟩ := ra.get hd
      refine ⟨⟨xs, v, hl', h1⟩, fun y H' hy => ⟨hy.1, ?_⟩⟩
      have := hy.2 xs hl'
      rw [h1] at this
      cases this
      exact h2.mono hg.1
/-! ### tests that change what is owned -/
theorem etm_and {t u : TT} {c : Bool} {RT : Bool → Mem → Prop} (h1 : EvB K t Γ μ c) (h2 : c = true → EvTM K u Γ μ RT) (h0 : c = false → RT false μ) : EvTM K (tAnd t u) Γ μ RT := fun σ P H e x m Q q =>
  h1 σ P H e x m _ fun b' P1 H1 g1 r1 => by
    subst r1
    cases b' with
    | false => rw [if_neg Bool.false_ne_true]; exact q _ P1 H1 μ g1 (h0 rfl)
    | true => rw [if_pos rfl]; exact h2 rfl σ P1 H1 (e.mono g1.pp) g1.ph g1.ok _ fun c' P2 H2 μ2 g2 r2 => q c' P2 H2 μ2 (g1.trans g2) r2
theorem etm_not {t : TT} {RT : Bool → Mem → Prop} (h : EvTM K t Γ μ (fun b μ' => RT (!b) μ')) : EvTM K (tNot t) Γ μ RT := fun σ P H e x m Q q => h σ P H e x m _ fun b' P1 H1 μ1 g1 r1 => q _ P1 H1 μ1 g1 r1
theorem etm_B {RT : Bool → Mem → Prop} (h : EvM K te Γ μ (fun s μ' => ∃ c, s = .dat (.bl c) ∧ RT c μ')) : EvTM K (tB te) Γ μ RT := fun σ P H e x m Q q =>
  h σ P H e x m _ fun v P' H' s μ' g r hr => by
    obtain ⟨c, rfl, hc⟩ := hr
    cases r
    exact ⟨c, rfl, q c P' H' μ' g hc⟩
theorem et_andT {t u : TT} (h1 : EvT K t Γ μ (fun _ => True)) (h2 : EvT K u Γ μ (fun _ => True)) : EvT K (tAnd t u) Γ μ (fun _ => True) := fun σ P H e x m Q q =>
  h1 σ P H e x m _ fun b' P1 H1 g1 r1 => by
    cases b' with
    | false => rw [if_neg Bool.false_ne_true]; exact q _ P1 H1 g1 trivial
    | true => rw [if_pos rfl]; exact h2 σ P1 H1 (e.mono g1.pp) g1.ph g1.ok _ fun c' P2 H2 g2 r2 => q c' P2 H2 (g1.trans g2) trivial
theorem EvT.tr {t : TT} {R : Bool → Prop} (h : EvT K t Γ μ R) : EvT K t Γ μ (fun _ => True) := h.imp fun _ _ => trivial
/-- a call of a plain def, its two arguments change what is owned -/
theorem em_callP2 {rel : List Dat → Dat → Prop} {E : XK} {d1 d2 : Dat} {μ1 μ2 : Mem} (h1 : EvM K ta Γ μ (fun s μ' => s = .dat d1 ∧ μ' = μ1)) (h2 : EvM K tb Γ μ1 (fun s μ' => s = .dat d2 ∧ μ' = μ2)) (hr : rel [d1, d2] d) :
    EvM K (tCall (spD K (preP 2 rel)) [] E (tCons ta (tCons tb tNil))) Γ μ (fun s μ' => s = .dat d ∧ μ' = μ2) := fun σ P H e x m Q q =>
  h1 σ P H e x m _ fun v1 P1 H1 s1 m1 g1 r1 z1 => by
    obtain ⟨rfl, rfl⟩ := z1
    refine h2 σ P1 H1 (e.mono g1.pp) g1.ph g1.ok _ fun v2 P2 H2 s2 m2 g2 r2 z2 => ?_
    obtain ⟨rfl, rfl⟩ := z2
    show spD K (preP 2 rel) ([v1, v2] ++ []) H2 Q E
    rw [List.append_nil]
    refine ⟨P2, [], [.dat d1, .dat d2], fun s μ' => μ' = [] ∧ s = .dat d, g2.ph, .nil, ⟨r1.mono g2.pp, r2, trivial⟩, ⟨[d1, d2], d, rfl, rfl, hr, rfl, rfl, rfl⟩, fun v P' H' s μ' g r hs => ?_⟩
    obtain ⟨rfl, rfl⟩ := hs
    exact q v P' H' _ _ ((g1.trans g2).trans (.frame0 g2.ok (fun _ m => absurd m List.not_mem_nil) g)) r ⟨rfl, rfl⟩
end
end DL
namespace KH
open PySem PySem.Spec PyProof.Rows L2 DL M80
section
variable {Pg : Program} {w : World} {K : PySem.W.Frag} {mg : Str → Option Value} {base : Heap}
abbrev nm_f__law_store : List Str := ["script", "seed", "cell"]
theorem sc_f__law_store : FnScope nm_f__law_store ["script"] (defScope s_f__law_store) := ⟨rfl, rfl, rfl, by decide +kernel, rfl, by decide +kernel, by decide +kernel⟩
def pre_f__law_store : List Sl → Mem → (Sl → Mem → Prop) → Prop := fun ss μ R => ∃ ns : List Int, ss = [.scr ns] ∧ μ = [] ∧ ns.length ≤ 63 ∧ ∀ s, R (.adr s) [(s, .sto)]
theorem ok_f__law_store (T : Txt w K mg) : Callee Pg w K mg base 2 "_law_store" ["script"] (spD K pre_f__law_store) := by
  have c__law_mix := ok_f__law_mix (Pg := Pg) (base := base) T
  have m_int := T.free 93 (x := "int") rfl
  have m_len := T.free 96 (x := "len") rfl
  have m_list := T.free 97 (x := "list") rfl
  refine T.callee (N := nm_f__law_store) (st := s_f__law_store) 67 49 rfl rfl sc_f__law_store ?_ (fun _ _ _ _ _ _ us hl => match us, hl with | [_], _ => rfl) fun fd cdv A outer s H E hr => ⟨_, (pss_cons (ps_set (i := 1) sc_f__law_store.nd rfl (Or.inl rfl) (pe_callB (call_lenK K) (by rfl) m_len (by decide +kernel) (pa_cons (pv 0) pa_nil)))
    (pss_cons (ps_for PassesOwn.never rfl (pi_listK K (pv 0)) (pg_name (i := 2) sc_f__law_store.nd rfl (Or.inl rfl)) (pss_one (ps_set (i := 1) sc_f__law_store.nd rfl (Or.inl rfl) (pe_op op_mod (pe_callTy call_int1 (by rfl) m_int (by decide +kernel) (pa_cons (pe_op op_add (pe_op op_add (pe_op op_mul (pv 1) pe_int) (pe_op op_mod (pe_callTy call_int1 (by rfl) m_int (by decide +kernel) (pa_cons (pv 2) pa_nil)) pe_int)) pe_int) pa_nil)) pe_int))))
    (pss_one (ps_ret (pe_disp (pps_cons pe_str (pe_callTy (call_list_ofK K) (by rfl) m_list (by decide +kernel) (pa_cons (pv 0) pa_nil)) (pps_cons pe_str pe_int (pps_cons pe_str pe_int (pps_cons pe_str pe_int (pps_cons pe_str (pe_callC c__law_mix hr (by rfl) (pa_cons (pv 1) pa_nil)) pps_nil))))) (by rfl) (by rfl) nofun (by decide)))))), ?_⟩
  · rintro ss μ R ⟨ns, rfl, rfl, hz, hR⟩
    rfl
  rintro ss μ R ⟨ns, rfl, rfl, hz, hR⟩
  refine sw_seq (sw_asg (d := .int (ns.length : Nat)) (evd_cb (ea_cons (ev_scr rfl) ea_nil) cb_lenS) ?_)
  refine sw_seq (sw_for (ei_scr (ev_scr rfl)) (fun i Γ' μ' => μ' = [] ∧ ∃ (m : Int) (s2 : Sl), Γ' = [.scr ns, .dat (.int m), s2]) ⟨rfl, _, _, rfl⟩ (fun _ _ _ _ _ => trivial) (fun i e Γ' μ' he hI => ?_) fun Γ' μ' hI => ?_)
  · obtain ⟨rfl, m, s2, rfl⟩ := hI
    have he' : ∃ n : Int, e = .int n := by
      rw [List.getElem?_map] at he
      cases q : ns[i]? with
      | none => rw [q] at he; cases he
      | some n => rw [q] at he; exact ⟨n, (Option.some.inj he).symm⟩
    obtain ⟨n, rfl⟩ := he'
    exact ⟨_, _, ga_name, sw_asg (evd_op (evd_cb (ea_cons (evd_op (evd_op (evd_op (ev_var rfl) (ev_c (d := .int 48271) rfl) (ops_mulI (.inr (by decide)))) (evd_op (evd_cb (ea_cons (ev_var rfl) ea_nil) cb_int) (ev_c (d := .int 2305843009213693951) rfl) (ops_modI (by decide))) ops_addI) (ev_c (d := .int 1) rfl) ops_addI) ea_nil) cb_int) (ev_c (d := .int 2305843009213693951) rfl) (ops_modI (by decide))) ⟨rfl, _, _, rfl⟩⟩
  · obtain ⟨rfl, m, s2, rfl⟩ := hI
    refine sw_closeSto (sw_retM (em_disp (kvs := stoD ns 0 0 0 (mixF m)) (by simp [stoD]) fun p hp => ?_) fun s μ' hh => ?_)
    · exact eps_cons (k := .inr "cells") (ev_c (by exact rfl)) (evd_cb (ea_cons (ev_scr rfl) ea_nil) cb_listS) (eps_cons (k := .inr "at") (ev_c (by exact rfl)) (ev_c rfl) (eps_cons (k := .inr "rest") (ev_c (by exact rfl)) (ev_c rfl) (eps_cons (k := .inr "turn") (ev_c (by exact rfl)) (ev_c rfl) (eps_cons (k := .inr "seed") (ev_c (by exact rfl)) (ev_callP (ds := [.int m]) (ea_cons (ev_var rfl) ea_nil) rfl ⟨m, rfl, rfl⟩) eps_nil))))
    · obtain ⟨p, _, rfl, rfl⟩ := hh
      exact ⟨p, ns, 0, 0, 0, mixF m, [], by omega, by decide, by decide, rfl, hR p⟩
end
end KH
namespace KH
open PySem PySem.Spec PyProof.Rows L2 DL M80
section
variable {Pg : Program} {w : World} {K : PySem.W.Frag} {mg : Str → Option Value} {base : Heap}
theorem sz_pair (p : Nat × Nat) : szD (pairD p) = 3 := by simp [pairD, szD, szL]
theorem sz_reasons (rs : List (Nat × Nat)) : szD (reasonsD rs) = 3 * rs.length + 1 := by
  unfold reasonsD; simp only [szD]; rw [szL_map sz_pair]
theorem fl_reasons (rs : List (Nat × Nat)) : flD (reasonsD rs) = true := by
  unfold reasonsD; simp only [flD]; exact flL_map (fun _ => rfl) rs
theorem fl_due {F : Lot} {V : List Ver} {c : Case} {y : Bool} (hF : FOk F) (h : VInv F V) (hc : CaseOk F c) (hd : dueD F V c y ≠ .non) : flD (dueD F V c y) = true ∧ szD (dueD F V c y) ≤ 1000 := by
  rcases due_paper h hc hd with ⟨k, _, e⟩ | ⟨e, _⟩ | ⟨z, e, hz, _, _⟩
  · rw [e]
    refine ⟨rfl, ?_⟩
    simp [szD, szL, sz_case]
  · rw [e]
    unfold stuckP
    refine ⟨?_, ?_⟩
    · simp [flD, flL, fl_reasons]
    · have h6 := sub6 hF (cl_sub (F := F) (T := yesL (V ++ [(c, y)])) (A := []))
      simp only [szD, szL, sz_reasons, why_len]; omega
  · rw [e]
    unfold saidP
    refine ⟨?_, ?_⟩
    · simp [flD, flL, fl_reasons, fl_case]
    · have h6 := sub6 hF (cl_sub (F := F) (T := yesL (V ++ [(c, y)])) (A := z.1))
      have h7 : (others (cl F (yesL (V ++ [(c, y)])) z.1) z.1).length ≤ (cl F (yesL (V ++ [(c, y)])) z.1).length := List.length_filter_le _ _
      simp only [szD, szL, sz_reasons, why_len, sz_case]; omega
theorem law_set {C x dx l b : Addr} {F : Lot} {V W W' : List Ver} (h : Apart x l b) : setMu (lawM C x dx l b F V W) b (.mls (W'.map verD)) = lawM C x dx l b F V W' := by
  unfold lawM askM setMu
  rw [List.map_cons, List.map_cons, List.map_cons, List.map_nil, if_pos rfl, if_neg (Ne.symm h.bl), if_neg (Ne.symm h.bx)]
theorem law_re {C x dx l b : Addr} {F : Lot} {V V' W : List Ver} (h : Apart x l b) : (∀ p ∈ lawM C x dx l b F V' W, p ∈ askM C x dx l F V' ++ without (lawM C x dx l b F V W) (askM C x dx l F V)) := fun p hp => by
  rcases List.mem_cons.mp hp with rfl | hp
  · refine List.mem_append.mpr (.inr (List.mem_filter.mpr ⟨.head _, decide_eq_true ?_⟩))
    simp [askM, h.bl, h.bx]
  · exact List.mem_append.mpr (.inl hp)
abbrev nm_f__law_step : List Str := ["asked", "fields", "verdicts", "case", "yes", "due", "answer", "turn"]
theorem sc_f__law_step : FnScope nm_f__law_step ["asked", "fields", "verdicts", "case", "yes"] (defScope s_f__law_step) := ⟨rfl, rfl, rfl, by decide +kernel, rfl, by decide +kernel, by decide +kernel⟩
def pre_f__law_step (K : PySem.W.Frag) : List Sl → Mem → (Sl → Mem → Prop) → Prop := fun ss μ R => ∃ (x dx l b : Addr) (F : Lot) (V : List Ver) (c : Case) (y : Bool), ss = [.adr x, .dat (tx F), .adr b, .dat (caseD c), .dat (.bl y)] ∧ Apart x l b ∧ μ = lawM (cA K) x dx l b F V V ∧ FOk F ∧ VInv F V ∧ V.length ≤ 60 ∧ CaseOk F c ∧ ∀ W, VInv F W → W.length ≤ 60 → R (.dat (.bl true)) (lawM (cA K) x dx l b F W W)
theorem ok_f__law_step (T : Txt w K mg) : Callee Pg w K mg base 13 "_law_step" ["asked", "fields", "verdicts", "case", "yes"] (spD K (pre_f__law_step K)) := by
  have c__law_due := ok_f__law_due (Pg := Pg) (base := base) T
  have c__law_stays := ok_f__law_stays (Pg := Pg) (base := base) T
  have c__law_same := ok_f__law_same (Pg := Pg) (base := base) T
  have c__law_tell := ok_f__law_tell (Pg := Pg) (base := base) T
  have c__law_judged := ok_f__law_judged (Pg := Pg) (base := base) T
  have c__law_yes_list := ok_f__law_yes_list (Pg := Pg) (base := base) T
  have m_len := T.free 96 (x := "len") rfl
  have m_range := T.free 100 (x := "range") rfl
  refine T.callee (N := nm_f__law_step) (st := s_f__law_step) 88 70 rfl rfl sc_f__law_step ?_ (fun _ _ _ _ _ _ us hl => match us, hl with | [_, _, _, _, _], _ => rfl) fun fd cdv A outer s H E hr => ⟨_, (pss_cons (ps_set (i := 5) sc_f__law_step.nd rfl (Or.inl rfl) (pe_callC c__law_due hr (by rfl) (pa_cons (pv 1) (pa_cons (pv 2) (pa_cons (pv 3) (pa_cons (pv 4) pa_nil))))))
    (pss_cons (ps_if (pt_cmpR op_eq (pe_callB (call_lenK K) (by rfl) m_len (by decide +kernel) (pa_cons (pv 2) pa_nil)) pe_int (nomark _)) (pss_one (ps_ret (pe_and (pe_callC c__law_same hr (by rfl) (pa_cons (pe_callC c__law_tell hr (by rfl) (pa_cons (pv 0) (pa_cons (pv 3) (pa_cons (pv 4) pa_nil)))) (pa_cons (pe_tup (pa_cons pe_str (pa_cons pe_int pa_nil))) pa_nil))) (pe_one (pe_callC c__law_stays hr (by rfl) (pa_cons (pv 0) (pa_cons (pv 2) pa_nil))))))) pss_nil)
    (pss_cons (ps_if (pt_cmpR op_isN (pv 5) pe_non (nomark _)) (pss_cons (ps_set (i := 6) sc_f__law_step.nd rfl (Or.inl rfl) (pe_callC c__law_tell hr (by rfl) (pa_cons (pv 0) (pa_cons (pv 3) (pa_cons (pv 4) pa_nil)))))
    (pss_cons (ps_expr (pe_appendK K (pv 2) (pa_cons (pe_tup (pa_cons (pv 3) (pa_cons (pv 4) pa_nil))) pa_nil)))
    (pss_one (ps_ret (pe_and (pe_callC c__law_same hr (by rfl) (pa_cons (pv 6) (pa_cons (pe_tup (pa_cons pe_str pa_nil)) pa_nil))) (pe_one (pe_callC c__law_stays hr (by rfl) (pa_cons (pv 0) (pa_cons (pv 2) pa_nil))))))))) pss_nil)
    (pss_cons (ps_for PassesOwn.never rfl (pi_range1 (by rfl) m_range (pa_cons pe_int pa_nil)) (pg_name (i := 7) sc_f__law_step.nd rfl (Or.inl rfl)) (pss_one (ps_if (PW.pt (pw_or (pt_not (pt_val (pe_callC c__law_same hr (by rfl) (pa_cons (pe_callC c__law_tell hr (by rfl) (pa_cons (pv 0) (pa_cons (pv 3) (pa_cons (pv 4) pa_nil)))) (pa_cons (pe_tup (pa_cons pe_str (pa_cons (pv 5) pa_nil))) pa_nil))))) (pw_or1 (pt_not (pt_val (pe_callC c__law_stays hr (by rfl) (pa_cons (pv 0) (pa_cons (pv 2) pa_nil)))))))) (pss_one (ps_ret pe_bl)) pss_nil)))
    (pss_cons (ps_if (pt_cmpR (op_in_seqK K) (pe_ix (ix_seqK K) (pv 5) pe_int (fun _ _ => rfl)) (pe_tup (pa_cons pe_str (pa_cons pe_str pa_nil))) (by rfl)) (pss_one (ps_ret pe_bl)) pss_nil)
    (pss_one (ps_ret (pe_callC c__law_judged hr (by rfl) (pa_cons (pv 1) (pa_cons (pe_callC c__law_yes_list hr (by rfl) (pa_cons (pe_op op_cat (pv 2) (pe_lst (pa_cons (pe_tup (pa_cons (pv 3) (pa_cons (pv 4) pa_nil))) pa_nil))) pa_nil)) (pa_cons (pv 5) pa_nil))))))))))), ?_⟩
  · rintro ss μ R ⟨x, dx, l, b, F, V, c, y, rfl, hap, rfl, hF, hI, hz, hc, hR⟩
    rfl
  rintro ss μ R ⟨x, dx, l, b, F, V, c, y, rfl, hap, rfl, hF, hI, hz, hc, hR⟩
  have hV := hI.ok
  have nd : ∀ V : List Ver, (adrs (askM (cA K) x dx l F V)).Nodup := fun V => askM_nd hap.lx
  have ndL : ∀ V W : List Ver, (adrs (lawM (cA K) x dx l b F V W)).Nodup := fun V W => lawM_nd hap
  have hag : againstD F (yesL V) (noL V) c y = dueD F V c y := against_due hI
  have evT : ∀ {Γ : List Sl} {μ : Mem}, Γ[3]? = some (.dat (caseD c)) → Γ[4]? = some (.dat (.bl y)) → EvD K (tTup (tCons (tVar 3) (tCons (tVar 4) tNil))) Γ μ (verD (c, y)) := fun h3 h4 => ev_tup (ds := [caseD c, .bl y]) (ea_cons (ev_var h3) (ea_cons (ev_var h4) ea_nil)) (by simp)
  refine sw_seq (sw_asg (d := dueD F V c y) (ev_callR (Ra := fun ss => ss = [.dat (tx F), .adr b, .dat (caseD c), .dat (.bl y)]) (ea_cons (ev_var rfl) (ea_cons (ev_adr rfl) (ea_cons (ev_var rfl) (ea_cons (ev_var rfl) ea_nil)))) fun ss e => ?_) ?_)
  · subst e
    exact ⟨[(b, .mls (V.map verD))], fun p hp => List.mem_singleton.mp hp ▸ law_b, by simp, F, V, c, y, b, rfl, rfl, hF, hV, by omega, hc, rfl, rfl⟩
  have stays : ∀ {Γ : List Sl} {E : XK} {W : List Ver}, VOk F W → Γ[0]? = some (.adr x) → Γ[2]? = some (.adr b) → EvD K (tCall (spD K (pre_f__law_stays K)) [] E (tCons (tVar 0) (tCons (tVar 2) tNil))) Γ (lawM (cA K) x dx l b F W W) (.bl true) := fun {Γ E W} hW h0 h2 =>
    ev_callR (Ra := fun ss => ss = [.adr x, .adr b]) (ea_cons (ev_adr h0) (ea_cons (ev_adr h2) ea_nil)) fun ss e => by
      subst e
      exact ⟨lawM (cA K) x dx l b F W W, fun _ h => h, ndL W W, x, dx, l, b, F, W, rfl, hap, rfl, hF, hW, rfl, rfl⟩
  have tellR : ∀ {Γ : List Sl} {E : XK} {d : Dat}, Γ[0]? = some (.adr x) → Γ[3]? = some (.dat (caseD c)) → Γ[4]? = some (.dat (.bl y)) → (V.length = 60 ∧ d = .tup [.str "many", .int 60] ∨ V.length < 60 ∧ dueD F V c y ≠ .non ∧ d = .tup [.str "against", dueD F V c y]) → EvD K (tCall (spD K (pre_lt K)) [] E (tCons (tVar 0) (tCons (tVar 3) (tCons (tVar 4) tNil)))) Γ (lawM (cA K) x dx l b F V V) d := fun {Γ E d} h0 h3 h4 hd =>
    ev_callR (Ra := fun ss => ss = [.adr x, .dat (caseD c), .dat (.bl y)]) (ea_cons (ev_adr h0) (ea_cons (ev_var h3) (ea_cons (ev_var h4) ea_nil))) fun ss e => by
      subst e
      refine ⟨askM (cA K) x dx l F V, law_sub, nd V, x, dx, l, F, V, c, y, rfl, hap.lx, rfl, hF, hV, hz, hI.ends, hc, fun h => ?_, fun h h' => ?_, fun h h' => ?_⟩
      · rcases hd with ⟨_, rfl⟩ | ⟨h2, _⟩
        · exact ⟨rfl, rfl⟩
        · omega
      · rcases hd with ⟨h2, _⟩ | ⟨_, _, rfl⟩
        · omega
        · rw [hag]; exact ⟨rfl, rfl⟩
      · rcases hd with ⟨h2, _⟩ | ⟨_, h2, _⟩
        · omega
        · rw [hag] at h'; exact absurd h' h2
  refine sw_seq (sw_if (c := decide (((V.length : Nat) : Int) = 60)) (et_testD (evd_op (evd_is (ev_cb (R := fun s => s = .dat (.int ((V.map verD).length : Nat))) (ea_consR (ev_adr rfl) ea_nil) fun ss h => by
      obtain ⟨s, r, rfl, rfl, rfl⟩ := h
      exact cb_lenO law_b) (by rw [List.length_map])) (ev_c (d := .int 60) rfl) ops_eqI)) (fun hq => ?_) fun hq => sw_next ?_)
  · have h60 : V.length = 60 := by
      have := of_decide_eq_true hq
      omega
    exact sw_ret (ev_and (ev_callP (ds := [.tup [.str "many", .int 60], .tup [.str "many", .int 60]]) (ea_cons (tellR rfl rfl rfl (.inl ⟨h60, rfl⟩)) (ea_cons (ev_tup (ds := [.str "many", .int 60]) (ea_cons (ev_c (by exact rfl)) (ea_cons (ev_c rfl) ea_nil)) (by simp)) ea_nil)) rfl (same_ok rfl (by simp [szD, szL]))) fun _ => stays hV rfl rfl) (hR V hI hz)
  have hlt : V.length < 60 := by
    have := of_decide_eq_false hq
    omega
  by_cases hd : dueD F V c y = .non
  · refine sw_seq (sw_if (c := true) (et_testD (evd_op (ev_var (d := dueD F V c y) rfl) (ev_c (d := .non) (by exact trivial)) (ops_isNB (by rw [hd]; rfl)))) (fun _ => ?_) nofun)
    have hI2 := due_none hI hc (by omega) hd
    have hz2 : (V ++ [(c, y)]).length ≤ 60 := by rw [List.length_append, List.length_singleton]; omega
    have hR2 := hR _ hI2 hz2
    refine sw_seq (sw_asgM (EvM.re (RM' := fun s μ' => s = .dat (.tup [.str "kept"]) ∧ μ' = lawM (cA K) x dx l b F (V ++ [(c, y)]) V) (em_callO (ss := [.adr x, .dat (caseD c), .dat (.bl y)]) (μf := askM (cA K) x dx l F V) (Rf := fun s μ' => s = .dat (.tup [.str "kept"]) ∧ μ' = askM (cA K) x dx l F (V ++ [(c, y)])) (ea_cons (ev_adr rfl) (ea_cons (ev_var rfl) (ea_cons (ev_var rfl) ea_nil))) law_sub (nd V) ⟨x, dx, l, F, V, c, y, rfl, hap.lx, rfl, hF, hV, hz, hI.ends, hc, fun h => ?_, fun h h' => ?_, fun h h' => ⟨rfl, rfl⟩⟩) fun s μ' hh => ?_) fun s μ' hh => ?_)
    · omega
    · rw [hag] at h'; exact absurd hd h'
    · obtain ⟨μ2, ⟨rfl, rfl⟩, rfl⟩ := hh
      exact ⟨_, law_re hap, ndL _ _, rfl, rfl⟩
    · obtain ⟨rfl, rfl⟩ := hh
      refine sw_seq (sw_append (d := verD (c, y)) (ev_adr rfl) (evT rfl rfl) law_b (by rw [List.length_map]; omega) (ndL _ _) ?_)
      have e : V.map verD ++ [verD (c, y)] = (V ++ [(c, y)]).map verD := by rw [List.map_append]; rfl
      rw [e, law_set hap]
      exact sw_ret (ev_and (ev_callP (ds := [.tup [.str "kept"], .tup [.str "kept"]]) (ea_cons (ev_var rfl) (ea_cons (ev_tup (ds := [.str "kept"]) (ea_cons (ev_c (by exact rfl)) ea_nil) (by simp)) ea_nil)) rfl (same_ok rfl (by simp [szD, szL]))) fun _ => stays hI2.ok rfl rfl) hR2
  have hnb : isNonB (dueD F V c y) = false := by
    revert hd
    cases dueD F V c y <;> first | exact fun _ => rfl | exact fun h => absurd rfl h
  obtain ⟨hfl, hsz⟩ := fl_due hF hI hc hd
  refine sw_seq (sw_if (c := false) (et_testD (evd_op (ev_var (d := dueD F V c y) rfl) (ev_c (d := .non) (by exact trivial)) (ops_isNB hnb))) nofun fun _ => sw_next ?_)
  refine sw_seq (sw_for (ei_rng1D (n := 2) (ea_cons (ev_c rfl) ea_nil) (by decide) (by decide)) (fun i Γ' μ' => μ' = lawM (cA K) x dx l b F V V ∧ ∃ s7 : Sl, Γ' = [.adr x, .dat (tx F), .adr b, .dat (caseD c), .dat (.bl y), .dat (dueD F V c y), .un, s7]) ⟨rfl, _, rfl⟩ (fun _ _ _ _ _ => trivial) (fun i e Γ' μ' he hJ => ?_) fun Γ' μ' hJ => ?_)
  · obtain ⟨rfl, s7, rfl⟩ := hJ
    refine ⟨_, _, ga_name, ?_⟩
    refine sw_if (c := false) (et_is (et_or (et_not (et_BD (ev_callP (ds := [.tup [.str "against", dueD F V c y], .tup [.str "against", dueD F V c y]]) (ea_cons (tellR rfl rfl rfl (.inr ⟨hlt, hd, rfl⟩)) (ea_cons (ev_tup (ds := [.str "against", dueD F V c y]) (ea_cons (ev_c (by exact rfl)) (ea_cons (ev_var rfl) ea_nil)) (by simp)) ea_nil)) rfl (same_ok (by simp [flD, flL, hfl]) (by simp only [szD, szL]; omega))))) fun _ => et_not (et_BD (stays hV rfl rfl))) rfl) nofun fun _ => sw_next ⟨rfl, _, rfl⟩
  obtain ⟨rfl, s7, rfl⟩ := hJ
  have hin : ∀ {Γ : List Sl} {k : Str} {r : List Dat}, Γ[5]? = some (.dat (dueD F V c y)) → dueD F V c y = .tup (.str k :: r) → EvB K (tTest (tOp (rIn K false) (tOp (rIx K) (tVar 5) (tC (.int 0))) (tTup (tCons (tC (.str "never")) (tCons (tC (.str "plain")) tNil))))) Γ (lawM (cA K) x dx l b F V V) (decide (k ∈ (["never", "plain"] : List Str))) := fun {Γ k r} h5 he =>
    et_testD (evd_op (evd_op (R := fun s => s = .dat (.str k)) (ev_var h5) (ev_c (d := .int 0) rfl) (by rw [he]; exact ops_ix (d := .str k) (.inr rfl) (DL.atI_nat (i := 0) rfl))) (ev_tup (ds := (["never", "plain"] : List Str).map Dat.str) (ea_cons (ev_c (by exact rfl)) (ea_cons (ev_c (by exact rfl)) ea_nil)) (by simp)) (ops_inStrs (neg := false) (.inr rfl)))
  have hTy : ToldOk F (yesL (V ++ [(c, y)])) := ⟨fun c' hc' => by
      rcases List.mem_append.mp (yesL_mem hc').1 with h | h
      · exact hV.ok _ h
      · cases List.mem_singleton.mp h; exact hc, fun c' hc' => (yesL_mem hc').2, Nat.le_trans yesL_len (by rw [List.length_append, List.length_singleton]; omega)⟩
  have jud : ∀ {Γ : List Sl} {E E2 : XK}, Γ[1]? = some (.dat (tx F)) → Γ[2]? = some (.adr b) → Γ[3]? = some (.dat (caseD c)) → Γ[4]? = some (.dat (.bl y)) → Γ[5]? = some (.dat (dueD F V c y)) → rel_f__law_judged [tx F, casesD (yesL (V ++ [(c, y)])), dueD F V c y] (.bl true) → EvD K (tCall (spD K (preP 3 rel_f__law_judged)) [] E (tCons (tVar 1) (tCons (tCall (spD K pre_f__law_yes_list) [] E2 (tCons (tOp rCat (tVar 2) (tLst (tCons (tTup (tCons (tVar 3) (tCons (tVar 4) tNil))) tNil))) tNil)) (tCons (tVar 5) tNil)))) Γ (lawM (cA K) x dx l b F V V) (.bl true) := fun {Γ E E2} h1 h2 h3 h4 h5 hr =>
    ev_callP (ds := [tx F, casesD (yesL (V ++ [(c, y)])), dueD F V c y]) (ea_cons (ev_var h1) (ea_cons (ev_callR (Ra := fun ss => ss = [.dat (versD (V ++ [(c, y)]))]) (ea_cons (evd_is (ev_op (ev_adr h2) (ev_lst (ds := [verD (c, y)]) (ea_cons (evT h3 h4) ea_nil) (by simp)) fun sa sb e1 e2 => by
        subst e1; subst e2
        exact ops_catO law_b (by rw [List.length_map, List.length_singleton]; omega)) (by unfold versD; rw [List.map_append]; rfl)) ea_nil) fun ss e => by
          subst e
          exact ⟨[], fun _ h => (nomatch h), by simp, V ++ [(c, y)], by rw [List.length_append, List.length_singleton]; omega, ⟨rfl, rfl⟩, .inl ⟨rfl, rfl⟩⟩) (ea_cons (ev_var h5) ea_nil))) rfl hr
  rcases due_paper hI hc hd with ⟨k, hk, e⟩ | ⟨e, hne⟩ | ⟨z, e, hzo, hh, hzne⟩
  · refine sw_seq (sw_if (c := true) (et_is (hin rfl e) (decide_eq_true ?_)) (fun _ => sw_ret (ev_c (d := .bl true) rfl) (hR V hI hz)) nofun)
    rcases hk with rfl | rfl
    · exact .head _
    · exact .tail _ (.head _)
  · refine sw_seq (sw_if (c := false) (et_is (hin (k := "stuck") (r := [tx (cl F (yesL (V ++ [(c, y)])) []), reasonsD (whyL (yesL (V ++ [(c, y)])) (cl F (yesL (V ++ [(c, y)])) []) (cl F (yesL (V ++ [(c, y)])) []))]) rfl e) (by decide +kernel)) nofun fun _ => sw_next ?_)
    exact sw_ret (jud rfl rfl rfl rfl rfl ⟨F, _, _, rfl, hF, hTy, .inl ⟨e, hne⟩, rfl⟩) (hR V hI hz)
  · refine sw_seq (sw_if (c := false) (et_is (hin (k := "said") (r := [caseD z, tx (cl F (yesL (V ++ [(c, y)])) z.1), reasonsD (whyL (yesL (V ++ [(c, y)])) (others (cl F (yesL (V ++ [(c, y)])) z.1) z.1) (cl F (yesL (V ++ [(c, y)])) z.1))]) rfl e) (by decide +kernel)) nofun fun _ => sw_next ?_)
    exact sw_ret (jud rfl rfl rfl rfl rfl ⟨F, _, _, rfl, hF, hTy, .inr ⟨z, e, hzo, hh, hzne⟩, rfl⟩) (hR V hI hz)
end
end KH
namespace KH
open PySem PySem.Spec PyProof.Rows L2 DL M80
section
variable {Pg : Program} {w : World} {K : PySem.W.Frag} {mg : Str → Option Value} {base : Heap}
theorem ev_takeB {Γ : List Sl} {μ : Mem} {ts tn : TE} {s : Addr} {n : Int} {E : XK} (hs : Ev K ts Γ μ (fun z => z = .adr s)) (hm : (s, Mu.sto) ∈ μ) (hn : EvD K tn Γ μ (.int n)) (hz : n ≤ 1000000) : Ev K (tOp rEq (tCall (spD K pre_f__law_take) [] E (tCons ts (tCons tn tNil))) (tC (.int 0))) Γ μ (fun z => ∃ b : Bool, z = .dat (.bl b)) :=
  ev_op (ev_take hs hm hn hz) (ev_c (d := .int 0) rfl) fun sa sb e1 e2 => by
    obtain ⟨r, rfl, _⟩ := e1
    subst e2
    intro P H x y xt m ra rb Q q
    exact ops_eqI P H x y xt m ra rb Q fun v P' H' s' st rv e => q v P' H' s' st rv ⟨_, e⟩
theorem ev_letters {Γ : List Sl} {μ : Mem} {ts tn : TE} {s : Addr} {E : XK} (hs : Ev K ts Γ μ (fun z => z = .adr s)) (hm : (s, Mu.sto) ∈ μ) (hn : Ev K tn Γ μ (fun z => ∃ n : Nat, 1 ≤ n ∧ z = .dat (.int (n : Nat)))) : Ev K (tCall (spD K pre_f__law_letters) [] E (tCons ts (tCons tn tNil))) Γ μ (fun z => ∃ F, FOk F ∧ z = .dat (tx F)) :=
  ev_callR (ea_consR hs (ea_consR hn ea_nil)) fun ss h => by
    obtain ⟨s1, r1, rfl, rfl, s2, r2, rfl, ⟨n, h1, rfl⟩, rfl⟩ := h
    exact ⟨[(s, .sto)], fun p hp => List.mem_singleton.mp hp ▸ hm, by simp, s, n, rfl, rfl, h1, fun F hF => ⟨rfl, F, hF, rfl⟩⟩
/-- a list of verdicts, one of many -/
abbrev someV (F : Lot) (n : Nat) : List Dat → Prop := fun ds => ∃ V : List Ver, (∀ v ∈ V, CaseOk F v.1) ∧ V.length ≤ n ∧ ds = V.map verD
theorem ev_first {Γ : List Sl} {μ : Mem} {ts tl : TE} {s : Addr} {F : Lot} {E : XK} (hF : FOk F) (hs : Ev K ts Γ μ (fun z => z = .adr s)) (hm : (s, Mu.sto) ∈ μ) (hl : EvD K tl Γ μ (tx F)) : Ev K (tCall (spD K pre_f__law_first_steps) [] E (tCons ts (tCons tl tNil))) Γ μ (fun z => ∃ ds, someV F 10 ds ∧ z = .dat (.lst ds)) :=
  ev_callR (ea_consR hs (ea_consR hl ea_nil)) fun ss h => by
    obtain ⟨s1, r1, rfl, rfl, s2, r2, rfl, rfl, rfl⟩ := h
    exact ⟨[(s, .sto)], fun p hp => List.mem_singleton.mp hp ▸ hm, by simp, s, F, rfl, rfl, hF, fun V h1 h2 => ⟨rfl, _, ⟨V, h1, h2, rfl⟩, rfl⟩⟩
theorem ev_steps {Γ : List Sl} {μ : Mem} {ts tl : TE} {s : Addr} {F : Lot} {E : XK} (hF : FOk F) (hs : Ev K ts Γ μ (fun z => z = .adr s)) (hm : (s, Mu.sto) ∈ μ) (hl : EvD K tl Γ μ (tx F)) : Ev K (tCall (spD K pre_f__law_steps) [] E (tCons ts (tCons tl tNil))) Γ μ (fun z => ∃ ds, someV F 30 ds ∧ z = .dat (.lst ds)) :=
  ev_callR (ea_consR hs (ea_consR hl ea_nil)) fun ss h => by
    obtain ⟨s1, r1, rfl, rfl, s2, r2, rfl, rfl, rfl⟩ := h
    exact ⟨[(s, .sto)], fun p hp => List.mem_singleton.mp hp ▸ hm, by simp, s, F, rfl, rfl, hF, fun V h1 h2 => ⟨rfl, _, ⟨V, h1, h2, rfl⟩, rfl⟩⟩
theorem ev_cat2 {Γ : List Sl} {μ : Mem} {t1 t2 : TE} {F : Lot} (h1 : Ev K t1 Γ μ (fun z => ∃ ds, someV F 10 ds ∧ z = .dat (.lst ds))) (h2 : Ev K t2 Γ μ (fun z => ∃ ds, someV F 30 ds ∧ z = .dat (.lst ds))) : Ev K (tOp rCat t1 t2) Γ μ (fun z => ∃ ds, someV F 40 ds ∧ z = .dat (.lst ds)) :=
  ev_op h1 h2 fun sa sb e1 e2 => by
    obtain ⟨_, ⟨V, hV, hVl, rfl⟩, rfl⟩ := e1
    obtain ⟨_, ⟨W, hW, hWl, rfl⟩, rfl⟩ := e2
    intro P H x y xt m ra rb Q q
    refine ops_cat (by rw [List.length_map, List.length_map]; omega) P H x y xt m ra rb Q fun v P' H' s' st rv e => q v P' H' s' st rv ⟨_, ⟨V ++ W, fun v hv => (List.mem_append.mp hv).elim (hV v) (hW v), by rw [List.length_append]; omega, rfl⟩, ?_⟩
    rw [e, List.map_append]
/-- all that the law owns -/
def allM (C x dx l b xo dxo lo s : Addr) (F : Lot) (V W U : List Ver) : Mem := askM C xo dxo lo F U ++ (lawM C x dx l b F V W ++ [(s, .sto)])
structure Far (x l b xo lo s : Addr) : Prop where
  ap : Apart x l b
  oo : lo ≠ xo
  o1 : ∀ a ∈ [x, l, b, s], a ≠ xo ∧ a ≠ lo
  s1 : ∀ a ∈ [x, l, b], a ≠ s
theorem far_of {C x dx l b xo dxo lo s : Addr} {F : Lot} {V W U : List Ver} (h : (adrs (allM C x dx l b xo dxo lo s F V W U)).Nodup) : Far x l b xo lo s := by
  simp only [allM, askM, lawM, adrs, List.map_cons, List.map_append, List.map_nil, List.cons_append, List.nil_append, List.nodup_cons, List.mem_cons, List.not_mem_nil, or_false, not_or] at h
  obtain ⟨⟨h1, h2, h3, h4, h5⟩, ⟨h6, h7, h8, h9⟩, ⟨k1, k2, k3⟩, ⟨k4, k5⟩, k6, _⟩ := h
  refine ⟨⟨k4, k1, k2⟩, h1, fun a ha => ?_, fun a ha => ?_⟩
  · simp only [List.mem_cons, List.not_mem_nil, or_false] at ha
    rcases ha with rfl | rfl | rfl | rfl
    · exact ⟨Ne.symm h8, Ne.symm h4⟩
    · exact ⟨Ne.symm h7, Ne.symm h3⟩
    · exact ⟨Ne.symm h6, Ne.symm h2⟩
    · exact ⟨Ne.symm h9, Ne.symm h5⟩
  · simp only [List.mem_cons, List.not_mem_nil, or_false] at ha
    rcases ha with rfl | rfl | rfl
    · exact k6
    · exact k5
    · exact k3
theorem all_nd {C x dx l b xo dxo lo s : Addr} {F : Lot} {V W U V' W' U' : List Ver} (h : (adrs (allM C x dx l b xo dxo lo s F V W U)).Nodup) : (adrs (allM C x dx l b xo dxo lo s F V' W' U')).Nodup := h
theorem all_s {C x dx l b xo dxo lo s : Addr} {F : Lot} {V W U : List Ver} : (s, Mu.sto) ∈ allM C x dx l b xo dxo lo s F V W U := List.mem_append.mpr (.inr (List.mem_append.mpr (.inr (.head _))))
theorem all_law {C x dx l b xo dxo lo s : Addr} {F : Lot} {V W U : List Ver} : ∀ p ∈ lawM C x dx l b F V W, p ∈ allM C x dx l b xo dxo lo s F V W U := fun p h => List.mem_append.mpr (.inr (List.mem_append.mpr (.inl h)))
theorem all_ask {C x dx l b xo dxo lo s : Addr} {F : Lot} {V W U : List Ver} : ∀ p ∈ askM C x dx l F V, p ∈ allM C x dx l b xo dxo lo s F V W U := fun p h => all_law p (law_sub p h)
theorem all_oth {C x dx l b xo dxo lo s : Addr} {F : Lot} {V W U : List Ver} : ∀ p ∈ askM C xo dxo lo F U, p ∈ allM C x dx l b xo dxo lo s F V W U := fun p h => List.mem_append.mpr (.inl h)
/-- a part written, the others as they are -/
theorem all_reL {C x dx l b xo dxo lo s : Addr} {F : Lot} {V W U V' W' : List Ver} (h : Far x l b xo lo s) : ∀ p ∈ allM C x dx l b xo dxo lo s F V' W' U, p ∈ lawM C x dx l b F V' W' ++ without (allM C x dx l b xo dxo lo s F V W U) (lawM C x dx l b F V W) := fun p hp => by
  have hx := h.o1 x (.head _)
  have hl := h.o1 l (.tail _ (.head _))
  have hb := h.o1 b (.tail _ (.tail _ (.head _)))
  have sx := h.s1 x (.head _)
  have sl := h.s1 l (.tail _ (.head _))
  have sb := h.s1 b (.tail _ (.tail _ (.head _)))
  rcases List.mem_append.mp hp with hp | hp
  · refine List.mem_append.mpr (.inr (List.mem_filter.mpr ⟨List.mem_append.mpr (.inl hp), decide_eq_true ?_⟩))
    simp only [askM, List.mem_cons, List.not_mem_nil, or_false] at hp
    rcases hp with rfl | rfl
    · simp [lawM, askM, Ne.symm hx.2, Ne.symm hl.2, Ne.symm hb.2]
    · simp [lawM, askM, Ne.symm hx.1, Ne.symm hl.1, Ne.symm hb.1]
  · rcases List.mem_append.mp hp with hp | hp
    · exact List.mem_append.mpr (.inl hp)
    · rw [List.mem_singleton.mp hp]
      refine List.mem_append.mpr (.inr (List.mem_filter.mpr ⟨all_s, decide_eq_true ?_⟩))
      simp [lawM, askM, Ne.symm sx, Ne.symm sl, Ne.symm sb]
theorem all_reA {C x dx l b xo dxo lo s : Addr} {F : Lot} {V W U V' : List Ver} (h : Far x l b xo lo s) : ∀ p ∈ allM C x dx l b xo dxo lo s F V' W U, p ∈ askM C x dx l F V' ++ without (allM C x dx l b xo dxo lo s F V W U) (askM C x dx l F V) := fun p hp => by
  have hx := h.o1 x (.head _)
  have hl := h.o1 l (.tail _ (.head _))
  have sx := h.s1 x (.head _)
  have sl := h.s1 l (.tail _ (.head _))
  rcases List.mem_append.mp hp with hp | hp
  · refine List.mem_append.mpr (.inr (List.mem_filter.mpr ⟨List.mem_append.mpr (.inl hp), decide_eq_true ?_⟩))
    simp only [askM, List.mem_cons, List.not_mem_nil, or_false] at hp
    rcases hp with rfl | rfl
    · simp [askM, Ne.symm hx.2, Ne.symm hl.2]
    · simp [askM, Ne.symm hx.1, Ne.symm hl.1]
  · rcases List.mem_append.mp hp with hp | hp
    · rcases List.mem_cons.mp hp with rfl | hp
      · refine List.mem_append.mpr (.inr (List.mem_filter.mpr ⟨all_law _ law_b, decide_eq_true ?_⟩))
        simp [askM, h.ap.bl, h.ap.bx]
      · exact List.mem_append.mpr (.inl hp)
    · rw [List.mem_singleton.mp hp]
      refine List.mem_append.mpr (.inr (List.mem_filter.mpr ⟨all_s, decide_eq_true ?_⟩))
      simp [askM, Ne.symm sx, Ne.symm sl]
theorem all_reO {C x dx l b xo dxo lo s : Addr} {F : Lot} {V W U U' : List Ver} (h : Far x l b xo lo s) : ∀ p ∈ allM C x dx l b xo dxo lo s F V W U', p ∈ askM C xo dxo lo F U' ++ without (allM C x dx l b xo dxo lo s F V W U) (askM C xo dxo lo F U) := fun p hp => by
  have hx := h.o1 x (.head _)
  have hl := h.o1 l (.tail _ (.head _))
  have hb := h.o1 b (.tail _ (.tail _ (.head _)))
  have hs := h.o1 s (.tail _ (.tail _ (.tail _ (.head _))))
  rcases List.mem_append.mp hp with hp | hp
  · exact List.mem_append.mpr (.inl hp)
  · refine List.mem_append.mpr (.inr (List.mem_filter.mpr ⟨List.mem_append.mpr (.inr hp), decide_eq_true ?_⟩))
    simp only [lawM, askM, List.cons_append, List.nil_append, List.mem_cons, List.not_mem_nil, or_false] at hp
    rcases hp with rfl | rfl | rfl | rfl
    · simp [askM, hb.1, hb.2]
    · simp [askM, hl.1, hl.2]
    · simp [askM, hx.1, hx.2]
    · simp [askM, hs.1, hs.2]
theorem all_setB {C x dx l b xo dxo lo s : Addr} {F : Lot} {V W U W' : List Ver} (h : Far x l b xo lo s) : setMu (allM C x dx l b xo dxo lo s F V W U) b (.mls (W'.map verD)) = allM C x dx l b xo dxo lo s F V W' U := by
  have hb := h.o1 b (.tail _ (.tail _ (.head _)))
  have sb := h.s1 b (.tail _ (.tail _ (.head _)))
  have e := law_set (C := C) (dx := dx) (F := F) (V := V) (W := W) (W' := W') h.ap
  unfold setMu at e ⊢
  unfold allM
  rw [List.map_append, List.map_append, e, List.map_cons, List.map_nil, if_neg (Ne.symm sb)]
  unfold askM
  rw [List.map_cons, List.map_cons, List.map_nil, if_neg (Ne.symm hb.2), if_neg (Ne.symm hb.1)]
theorem plain_none {F : Lot} {V : List Ver} (hF : FOk F) : againstD F (yesL V) (noL V) (F, []) true = .non := by
  unfold againstD
  rw [if_neg (fun z => hF.ne z.2), if_neg (fun z => nomatch z.2.1), if_pos (.inr rfl)]
theorem plain_next {F : Lot} {V : List Ver} (hF : FOk F) (h : VInv F V) (hz : V.length < 900) : VInv F (V ++ [((F, []), true)]) :=
  due_none h (case_l (List.Sublist.refl _)) hz (by rw [← against_due h]; exact plain_none hF)
/-! ### the law's own def -/
def CalleeF (Pg : Program) (w : World) (K : PySem.W.Frag) (mg : Str → Option Value) (base : Heap) (k : Nat) (x : Str) (st : Stmt) (ps : List Str) (sp : Sp) : Prop := ∃ fd, FunD K x x (defArgs st) (defBody st) (defScope st) [] [] (He.ga K x) fd ∧ FnOk Pg w K mg base CX0 k (He.ga K x) fd ps sp
theorem Txt.calleeF {N ps : List Str} {k : Nat} (T : Txt w K mg) {x : Str} {st : Stmt} {pre : List Sl → Mem → (Sl → Mem → Prop) → Prop} (i j : Nat) (hi : fn[i]? = some ⟨(x, none), x, x, defArgs st, defBody st, defScope st, [], []⟩) (hj : fa[j]? = some (.glo x))
    (S : FnScope N ps (defScope st)) (hl : ∀ ss μ R, pre ss μ R → ss.length = ps.length) (hb : BindOk st x x ps) (h : ∀ fd, BodyOk Pg w K mg base k N ps x st (He.ga K x) fd pre) : CalleeF Pg w K mg base (k + 1) x st ps (spD K pre) := by
  obtain ⟨fd, F⟩ := T.def_ i hi
  exact ⟨fd, F, fn_sw F S hl (h fd)⟩
theorem funD_uniq {x qual : Str} {pa : Arguments} {bo : List Stmt} {sc : Scope} {f : Addr} {fd fd' : FuncData} (F : FunD K x qual pa bo sc [] [] f fd) (F' : FunD K x qual pa bo sc [] [] f fd') : fd' = fd := by
  obtain ⟨_, _, _, _, _, _, _, _, _, _, _, h, _⟩ := F.ex
  obtain ⟨_, _, _, _, _, _, _, _, _, _, _, h', _⟩ := F'.ex
  rw [h] at h'; cases h'; rfl
theorem final_of {x y : Str} {k : Nat} {st : Stmt} {sp : Sp} (T : Txt w K mg) (i : Nat) (hi : fn[i]? = some ⟨(x, none), x, x, defArgs st, defBody st, defScope st, [], []⟩) (hb : BindOk st x x [y]) (h : ∀ base, CalleeF Pg w K mg base k x st [y] sp) :
    ∃ fd : FuncData, (∀ (s : Shared) (u : Value), BindsTo s fd ⟨[u], []⟩ [(y, u)]) ∧ ∀ base, FnOk Pg w K mg base CX0 k (He.ga K x) fd [y] sp := by
  obtain ⟨fd, F⟩ := T.def_ i hi
  refine ⟨fd, fun s u => FunD.bindsA (ps := [y]) F hb s [u] rfl, fun base => ?_⟩
  obtain ⟨fd', F', ok⟩ := h base
  have e := funD_uniq F F'
  subst e
  exact ok
abbrev nm_f_law : List Str := ["script", "store", "wide", "fields", "asked", "verdicts", "other", "case", "yes", "turn"]
theorem sc_f_law : FnScope nm_f_law ["script"] (defScope s_f_law) := ⟨rfl, rfl, rfl, by decide +kernel, rfl, by decide +kernel, by decide +kernel⟩
def pre_f_law : List Sl → Mem → (Sl → Mem → Prop) → Prop := fun ss μ R => ∃ ns : List Int, ss = [.scr ns] ∧ μ = [] ∧ ns.length ≤ 63 ∧ ∀ μ', R (.dat (.bl true)) μ'
theorem ok_f_law (T : Txt w K mg) : CalleeF Pg w K mg base 14 "law" s_f_law ["script"] (spD K pre_f_law) := by
  have c__law_store := ok_f__law_store (Pg := Pg) (base := base) T
  have c__law_take := ok_f__law_take (Pg := Pg) (base := base) T
  have c__law_letters := ok_f__law_letters (Pg := Pg) (base := base) T
  have c_Asked := ok_m_Asked_init (Pg := Pg) (base := base) T
  have c_Asked_tell := ok_m_Asked_tell (Pg := Pg) (base := base) T
  have c__law_first_steps := ok_f__law_first_steps (Pg := Pg) (base := base) T
  have c__law_steps := ok_f__law_steps (Pg := Pg) (base := base) T
  have c__law_step := ok_f__law_step (Pg := Pg) (base := base) T
  have c__law_least_holds := ok_f__law_least_holds (Pg := Pg) (base := base) T
  have c__law_same := ok_f__law_same (Pg := Pg) (base := base) T
  have c_Asked_take_back := ok_m_Asked_take_back (Pg := Pg) (base := base) T
  have c_Asked_verdicts := ok_m_Asked_verdicts (Pg := Pg) (base := base) T
  have m_len := T.free 96 (x := "len") rfl
  have m_range := T.free 100 (x := "range") rfl
  refine T.calleeF (N := nm_f_law) (st := s_f_law) 92 74 rfl rfl sc_f_law ?_ (fun _ _ _ _ _ _ us hl => match us, hl with | [_], _ => rfl) fun fd cdv A outer s H E hr => ⟨_, (pss_cons (ps_set (i := 1) sc_f_law.nd rfl (Or.inl rfl) (pe_callC c__law_store hr (by rfl) (pa_cons (pv 0) pa_nil)))
    (pss_cons (ps_set (i := 2) sc_f_law.nd rfl (Or.inl rfl) (pe_cmpR op_eq (pe_callC c__law_take hr (by rfl) (pa_cons (pv 1) (pa_cons pe_int pa_nil))) pe_int (nomark _)))
    (pss_cons (ps_set (i := 3) sc_f_law.nd rfl (Or.inl rfl) (pe_callC c__law_letters hr (by rfl) (pa_cons (pv 1) (pa_cons (pe_ifExp (pt_val (pv 2)) (pe_op op_add pe_int (pe_callC c__law_take hr (by rfl) (pa_cons (pv 1) (pa_cons pe_int pa_nil)))) (pe_op op_add pe_int (pe_callC c__law_take hr (by rfl) (pa_cons (pv 1) (pa_cons pe_int pa_nil))))) pa_nil))))
    (pss_cons (ps_set (i := 4) sc_f_law.nd rfl (Or.inl rfl) (pe_makeC c_Asked hr (by rfl) (pa_cons (pv 3) pa_nil)))
    (pss_cons (ps_set (i := 5) sc_f_law.nd rfl (Or.inl rfl) (pe_lst pa_nil))
    (pss_cons (ps_set (i := 6) sc_f_law.nd rfl (Or.inl rfl) (pe_makeC c_Asked hr (by rfl) (pa_cons (pv 3) pa_nil)))
    (pss_cons (ps_expr (pe_methC (pv 6) c_Asked_tell hr (pa_cons (pe_tup (pa_cons (pv 3) (pa_cons pe_str pa_nil))) (pa_cons pe_bl pa_nil))))
    (pss_cons (ps_for PassesOwn.never rfl (pi_listK K (pe_op op_cat (pe_callC c__law_first_steps hr (by rfl) (pa_cons (pv 1) (pa_cons (pv 3) pa_nil))) (pe_callC c__law_steps hr (by rfl) (pa_cons (pv 1) (pa_cons (pv 3) pa_nil))))) (pg_tupK K 2 (pgs_cons (pg_name (i := 7) sc_f_law.nd rfl (Or.inl rfl)) (pgs_cons (pg_name (i := 8) sc_f_law.nd rfl (Or.inl rfl)) pgs_nil))) (pss_one (ps_if (pt_not (pt_val (pe_callC c__law_step hr (by rfl) (pa_cons (pv 4) (pa_cons (pv 3) (pa_cons (pv 5) (pa_cons (pv 7) (pa_cons (pv 8) pa_nil)))))))) (pss_one (ps_ret pe_bl)) pss_nil)))
    (pss_cons (ps_if (pt_not (pt_val (pe_callC c__law_least_holds hr (by rfl) (pa_cons (pv 4) (pa_cons (pv 3) (pa_cons (pv 5) pa_nil)))))) (pss_one (ps_ret pe_bl)) pss_nil)
    (pss_cons (ps_if (PW.pt (pw_and (pt_not (pt_val (pv 2))) (pw_and1 (pt_cmpR op_eq (pe_callC c__law_take hr (by rfl) (pa_cons (pv 1) (pa_cons pe_int pa_nil))) pe_int (nomark _))))) (pss_cons (ps_for PassesOwn.never rfl (pi_range1 (by rfl) m_range (pa_cons (pe_op op_sub pe_int (pe_callB (call_lenK K) (by rfl) m_len (by decide +kernel) (pa_cons (pv 5) pa_nil))) pa_nil)) (pg_name (i := 9) sc_f_law.nd rfl (Or.inl rfl)) (pss_cons (ps_expr (pe_methC (pv 4) c_Asked_tell hr (pa_cons (pe_tup (pa_cons (pv 3) (pa_cons pe_str pa_nil))) (pa_cons pe_bl pa_nil))))
    (pss_one (ps_expr (pe_appendK K (pv 5) (pa_cons (pe_tup (pa_cons (pe_tup (pa_cons (pv 3) (pa_cons pe_str pa_nil))) (pa_cons pe_bl pa_nil))) pa_nil))))))
    (pss_one (ps_if (pt_not (pt_val (pe_callC c__law_step hr (by rfl) (pa_cons (pv 4) (pa_cons (pv 3) (pa_cons (pv 5) (pa_cons (pe_tup (pa_cons pe_str (pa_cons (pv 3) pa_nil))) (pa_cons pe_bl pa_nil)))))))) (pss_one (ps_ret pe_bl)) pss_nil))) pss_nil)
    (pss_cons (ps_for PassesOwn.never rfl (pi_range1 (by rfl) m_range (pa_cons (pe_op op_add pe_int (pe_callC c__law_take hr (by rfl) (pa_cons (pv 1) (pa_cons pe_int pa_nil)))) pa_nil)) (pg_name (i := 9) sc_f_law.nd rfl (Or.inl rfl)) (pss_one (ps_if (PW.pt (pw_and (pt_truthK K (pv 5)) (pw_and1 (pt_not (pt_val (pe_callC c__law_same hr (by rfl) (pa_cons (pe_methC0 (pv 4) c_Asked_take_back hr) (pa_cons (pe_popK K (pv 5)) pa_nil)))))))) (pss_one (ps_ret pe_bl)) pss_nil)))
    (pss_cons (ps_for PassesOwn.never rfl (pi_listK K (pe_callC c__law_steps hr (by rfl) (pa_cons (pv 1) (pa_cons (pv 3) pa_nil)))) (pg_tupK K 2 (pgs_cons (pg_name (i := 7) sc_f_law.nd rfl (Or.inl rfl)) (pgs_cons (pg_name (i := 8) sc_f_law.nd rfl (Or.inl rfl)) pgs_nil))) (pss_one (ps_if (pt_not (pt_val (pe_callC c__law_step hr (by rfl) (pa_cons (pv 4) (pa_cons (pv 3) (pa_cons (pv 5) (pa_cons (pv 7) (pa_cons (pv 8) pa_nil)))))))) (pss_one (ps_ret pe_bl)) pss_nil)))
    (pss_one (ps_ret (pe_and (pe_callC c__law_least_holds hr (by rfl) (pa_cons (pv 4) (pa_cons (pv 3) (pa_cons (pv 5) pa_nil)))) (pe_one (pe_callC c__law_same hr (by rfl) (pa_cons (pe_methC0 (pv 6) c_Asked_verdicts hr) (pa_cons (pe_lst (pa_cons (pe_tup (pa_cons (pe_tup (pa_cons (pv 3) (pa_cons pe_str pa_nil))) (pa_cons pe_bl pa_nil))) pa_nil)) pa_nil))))))))))))))))))), ?_⟩
  · rintro ss μ R ⟨ns, rfl, rfl, hz, hR⟩
    rfl
  rintro ss μ R ⟨ns, rfl, rfl, hz, hR⟩
  refine sw_seq (sw_asgM (em_callO (ss := [.scr ns]) (μf := []) (Rf := fun s μ' => ∃ a, s = .adr a ∧ μ' = [(a, .sto)]) (ea_cons (ev_scr rfl) ea_nil) (fun _ h => h) (by simp) ⟨ns, rfl, rfl, hz, fun s => ⟨s, rfl, rfl⟩⟩) fun s μ' hh => ?_)
  obtain ⟨μ2, ⟨s, rfl, rfl⟩, rfl⟩ := hh
  refine sw_seq (sw_asgR (ev_takeB (n := 24) (ev_adr rfl) (.head _) (ev_c rfl) (by decide)) fun z hz => ?_)
  obtain ⟨wd, rfl⟩ := hz
  refine sw_seq (sw_asgR (ev_letters (ev_adr rfl) (.head _) (ev_if (Rb := fun _ => True) (EvT.tr (et_BD (ev_var (d := .bl wd) rfl))) (fun _ => ?_) fun _ => ?_)) fun z hz => ?_)
  · refine ev_op (ev_c (d := .int 5) rfl) (ev_take (n := 2) (ev_adr rfl) (.head _) (ev_c rfl) (by decide)) fun sa sb e1 e2 => ?_
    obtain ⟨r, rfl, h1, h2⟩ := e2
    subst e1
    intro P H x y xt m ra rb Q q
    refine ops_addI P H x y xt m ra rb Q fun v P' H' s' st rv e => q v P' H' s' st rv ⟨5 + r.toNat, by omega, ?_⟩
    rw [e]; congr 2; omega
  · refine ev_op (ev_c (d := .int 1) rfl) (ev_take (n := 4) (ev_adr rfl) (.head _) (ev_c rfl) (by decide)) fun sa sb e1 e2 => ?_
    obtain ⟨r, rfl, h1, h2⟩ := e2
    subst e1
    intro P H x y xt m ra rb Q q
    refine ops_addI P H x y xt m ra rb Q fun v P' H' s' st rv e => q v P' H' s' st rv ⟨1 + r.toNat, by omega, ?_⟩
    rw [e]; congr 2; omega
  obtain ⟨F, hF, rfl⟩ := hz
  refine sw_seq (sw_asgM (em_makeO (ss := [.dat (tx F)]) (RI := fun x dx μ2 => ∃ l, l ≠ x ∧ μ2 = askM (cA K) x dx l F []) (ea_cons (ev_var rfl) ea_nil) fun x dx => ⟨x, dx, F, rfl, rfl, hF, fun l hl => ⟨rfl, l, hl, rfl⟩⟩) fun z μ' hh => ?_)
  obtain ⟨x, dx, μ2, rfl, ⟨l, hlx, rfl⟩, rfl⟩ := hh
  refine sw_seq (sw_newL fun b hb => ?_)
  refine sw_seq (sw_asgM (em_makeO (ss := [.dat (tx F)]) (RI := fun x dx μ2 => ∃ l, l ≠ x ∧ μ2 = askM (cA K) x dx l F []) (ea_cons (ev_var rfl) ea_nil) fun x dx => ⟨x, dx, F, rfl, rfl, hF, fun l hl => ⟨rfl, l, hl, rfl⟩⟩) fun z μ' hh => ?_)
  obtain ⟨xo, dxo, μ2, rfl, ⟨lo, hlo, rfl⟩, rfl⟩ := hh
  refine sw_nd fun hnd => ?_
  replace hnd : (adrs (allM (cA K) x dx l b xo dxo lo s F [] [] [])).Nodup := hnd
  have far := far_of hnd
  have ap := far.ap
  have ndA : ∀ V W U : List Ver, (adrs (allM (cA K) x dx l b xo dxo lo s F V W U)).Nodup := fun V W U => all_nd hnd
  show SW K _ _ (allM (cA K) x dx l b xo dxo lo s F [] [] []) _
  have evF : ∀ {Γ : List Sl} {μ : Mem}, Γ[3]? = some (.dat (tx F)) → EvD K (tTup (tCons (tVar 3) (tCons (tC (.str "")) tNil))) Γ μ (caseD (F, [])) := fun h => ev_tup (ds := [tx F, tx []]) (ea_cons (ev_var h) (ea_cons (ev_c rfl) ea_nil)) (by simp)
  have evG : ∀ {Γ : List Sl} {μ : Mem}, Γ[3]? = some (.dat (tx F)) → EvD K (tTup (tCons (tC (.str "")) (tCons (tVar 3) tNil))) Γ μ (caseD ([], F)) := fun h => ev_tup (ds := [tx [], tx F]) (ea_cons (ev_c rfl) (ea_cons (ev_var h) ea_nil)) (by simp)
  have hcF : CaseOk F (F, []) := case_l (List.Sublist.refl _)
  have hcG : CaseOk F ([], F) := case_r (List.Sublist.refl _)
  refine sw_seq (sw_dropM (EvM.re (RM' := fun z μ' => μ' = allM (cA K) x dx l b xo dxo lo s F [] [] [((F, []), true)]) (em_methO (x := xo) (ss := [.dat (caseD (F, [])), .dat (.bl true)]) (μf := askM (cA K) xo dxo lo F []) (Rf := fun z μ' => μ' = askM (cA K) xo dxo lo F [((F, []), true)]) (ev_adr rfl) (all_oth _ ask_x) rfl (ea_cons (evF rfl) (ea_cons (ev_c rfl) ea_nil)) all_oth (askM_nd far.oo) ⟨xo, dxo, lo, F, [], (F, []), true, rfl, far.oo, rfl, hF, VInv.nil.ok, by decide, VInv.nil.ends, hcF, plain_none hF, rfl⟩) fun z μ' hh => ?_) fun z μ' hh => ?_)
  · obtain ⟨μ2, rfl, rfl⟩ := hh
    exact ⟨_, all_reO far, ndA _ _ _, rfl⟩
  subst hh
  generalize hU : [((F, ([] : Lot)), true)] = U
  have step : ∀ {Γ : List Sl} {E : XK} {V : List Ver} {c : Case} {y : Bool} {tc ty : TE}, VInv F V → V.length ≤ 60 → CaseOk F c → Γ[4]? = some (.adr x) → Γ[3]? = some (.dat (tx F)) → Γ[5]? = some (.adr b) → EvD K tc Γ (allM (cA K) x dx l b xo dxo lo s F V V U) (caseD c) → EvD K ty Γ (allM (cA K) x dx l b xo dxo lo s F V V U) (.bl y) →
      EvTM K (tNot (tB (tCall (spD K (pre_f__law_step K)) [] E (tCons (tVar 4) (tCons (tVar 3) (tCons (tVar 5) (tCons tc (tCons ty tNil)))))))) Γ (allM (cA K) x dx l b xo dxo lo s F V V U) (fun b' μ' => b' = false ∧ ∃ W, VInv F W ∧ W.length ≤ 60 ∧ μ' = allM (cA K) x dx l b xo dxo lo s F W W U) := fun {Γ E V c y tc ty} hI hz hc h4 h3 h5 ec ey =>
    etm_not (etm_B (EvM.re (em_callO (ss := [.adr x, .dat (tx F), .adr b, .dat (caseD c), .dat (.bl y)]) (μf := lawM (cA K) x dx l b F V V) (Rf := fun z μ' => z = .dat (.bl true) ∧ ∃ W, VInv F W ∧ W.length ≤ 60 ∧ μ' = lawM (cA K) x dx l b F W W) (ea_cons (ev_adr h4) (ea_cons (ev_var h3) (ea_cons (ev_adr h5) (ea_cons ec (ea_cons ey ea_nil))))) all_law (lawM_nd ap) ⟨x, dx, l, b, F, V, c, y, rfl, ap, rfl, hF, hI, hz, hc, fun W h1 h2 => ⟨rfl, W, h1, h2, rfl⟩⟩) fun z μ' hh => by
      obtain ⟨μ2, ⟨rfl, W, h1, h2, rfl⟩, rfl⟩ := hh
      exact ⟨_, all_reL far, ndA _ _ _, true, rfl, rfl, W, h1, h2, rfl⟩))
  have least : ∀ {Γ : List Sl} {E : XK} {V : List Ver}, VInv F V → V.length ≤ 60 → Γ[4]? = some (.adr x) → Γ[3]? = some (.dat (tx F)) → Γ[5]? = some (.adr b) → EvD K (tCall (spD K (pre_f__law_least_holds K)) [] E (tCons (tVar 4) (tCons (tVar 3) (tCons (tVar 5) tNil)))) Γ (allM (cA K) x dx l b xo dxo lo s F V V U) (.bl true) := fun {Γ E V} hI hz h4 h3 h5 =>
    ev_callR (Ra := fun ss => ss = [.adr x, .dat (tx F), .adr b]) (ea_cons (ev_adr h4) (ea_cons (ev_var h3) (ea_cons (ev_adr h5) ea_nil))) fun ss e => by
      subst e
      exact ⟨lawM (cA K) x dx l b F V V, all_law, lawM_nd ap, x, dx, l, b, F, V, rfl, ap, rfl, hF, hI.ok, hz, hI.ends, rfl, rfl⟩
  have mB : ∀ {V W : List Ver}, (b, Mu.mls (W.map verD)) ∈ allM (cA K) x dx l b xo dxo lo s F V W U := all_law _ law_b
  refine sw_seq (sw_forR (ei_lstR (Rd := someV F 40) (ev_cat2 (ev_first hF (ev_adr rfl) all_s (ev_var rfl)) (ev_steps hF (ev_adr rfl) all_s (ev_var rfl)))) fun dss hds => ?_)
  obtain ⟨T1, hT, hTl, rfl⟩ := hds
  refine ⟨fun i Γ' μ' => ∃ (V : List Ver) (s7 s8 : Sl), VInv F V ∧ V.length ≤ 60 ∧ μ' = allM (cA K) x dx l b xo dxo lo s F V V U ∧ Γ' = [.scr ns, .adr s, .dat (.bl wd), .dat (tx F), .adr x, .adr b, .adr xo, s7, s8, .un], ⟨⟨[], _, _, VInv.nil, by decide, rfl, rfl⟩, fun _ _ _ _ _ => trivial, fun i e Γ' μ' he hJ => ?_, fun Γ' μ' hJ => ?_⟩⟩
  · obtain ⟨V, s7, s8, hI, hz, rfl, rfl⟩ := hJ
    obtain ⟨v, hv, rfl⟩ := map_get he
    refine ⟨_, _, ga_ver, ?_⟩
    refine sw_ifM (step (c := v.1) (y := v.2) hI hz (hT v (List.mem_of_getElem? hv)) rfl rfl rfl (ev_var rfl) (ev_var rfl)) (fun μ' h => nomatch h.1) fun μ' h => ?_
    obtain ⟨_, W, hW, hWz, rfl⟩ := h
    exact sw_next ⟨W, _, _, hW, hWz, rfl, rfl⟩
  obtain ⟨V, s7, s8, hI, hz, rfl, rfl⟩ := hJ
  refine sw_seq (sw_if (c := false) (et_is (et_not (et_BD (least hI hz rfl rfl rfl))) rfl) nofun fun _ => sw_next ?_)
  refine sw_seq (SW.imp (O := { nx := fun Γ' μ' => ∃ (V : List Ver) (s7 s8 s9 : Sl), VInv F V ∧ V.length ≤ 60 ∧ μ' = allM (cA K) x dx l b xo dxo lo s F V V U ∧ Γ' = [.scr ns, .adr s, .dat (.bl wd), .dat (tx F), .adr x, .adr b, .adr xo, s7, s8, s9], rt := fun _ _ => False }) ?_ (fun Γ' μ' hJ => ?_) (fun _ _ z => z.elim) (fun _ _ z => z.elim) fun _ _ z => z.elim)
  · refine sw_ifR (et_andT (EvT.tr (et_not (et_BD (ev_var (d := .bl wd) rfl)))) (et_test ((ev_takeB (n := 24) (ev_adr rfl) all_s (ev_c (v := .int 24) (d := .int 24) rfl) (by decide)).imp fun z hh => hh.imp fun b' h => ⟨h, trivial⟩))) (fun _ => ?_) fun _ => sw_next ⟨V, _, _, _, hI, hz, rfl, rfl⟩
    refine sw_seq (sw_for (ei_rng1D (n := 60 - (V.length : Nat)) (ea_cons (evd_op (ev_c (d := .int 60) rfl) (evd_is (ev_cb (R := fun s => s = .dat (.int ((V.map verD).length : Nat))) (ea_consR (ev_adr rfl) ea_nil) fun ss h => by
        obtain ⟨s, r, rfl, rfl, rfl⟩ := h
        exact cb_lenO mB) (by rw [List.length_map])) ops_subI) ea_nil) (by omega) (by omega)) (fun i Γ' μ' => ∃ (W : List Ver) (s9 : Sl), VInv F W ∧ W.length = V.length + i ∧ μ' = allM (cA K) x dx l b xo dxo lo s F W W U ∧ Γ' = [.scr ns, .adr s, .dat (.bl wd), .dat (tx F), .adr x, .adr b, .adr xo, s7, s8, s9]) ⟨V, _, hI, rfl, rfl, rfl⟩ (fun _ _ _ _ _ => trivial) (fun i e Γ' μ' he hJ => ?_) fun Γ' μ' hJ => ?_)
    · obtain ⟨hi, rfl⟩ := rgD_get he
      obtain ⟨W, s9, hW, hWl, rfl, rfl⟩ := hJ
      refine ⟨_, _, ga_name, ?_⟩
      refine sw_seq (sw_dropM (EvM.re (RM' := fun z μ' => μ' = allM (cA K) x dx l b xo dxo lo s F (W ++ [((F, []), true)]) W U) (em_methO (x := x) (ss := [.dat (caseD (F, [])), .dat (.bl true)]) (μf := askM (cA K) x dx l F W) (Rf := fun z μ' => μ' = askM (cA K) x dx l F (W ++ [((F, []), true)])) (ev_adr rfl) (all_ask _ ask_x) rfl (ea_cons (evF rfl) (ea_cons (ev_c rfl) ea_nil)) all_ask (askM_nd ap.lx) ⟨x, dx, l, F, W, (F, []), true, rfl, ap.lx, rfl, hF, hW.ok, by omega, hW.ends, hcF, plain_none hF, rfl⟩) fun z μ' hh => ?_) fun z μ' hh => ?_)
      · obtain ⟨μ2, rfl, rfl⟩ := hh
        exact ⟨_, all_reA far, ndA _ _ _, rfl⟩
      subst hh
      refine sw_append (d := verD ((F, []), true)) (ev_adr rfl) (ev_tup (ds := [caseD (F, []), .bl true]) (ea_cons (evF rfl) (ea_cons (ev_c rfl) ea_nil)) (by simp)) mB (by rw [List.length_map]; omega) (ndA _ _ _) ?_
      have e : W.map verD ++ [verD ((F, []), true)] = (W ++ [((F, []), true)]).map verD := by rw [List.map_append]; rfl
      rw [e, all_setB far]
      exact ⟨_, _, plain_next hF hW (by omega), by rw [List.length_append, List.length_singleton]; omega, rfl, rfl⟩
    obtain ⟨W, s9, hW, hWl, rfl, rfl⟩ := hJ
    rw [rgD_len] at hWl
    refine sw_ifM (step (c := ([], F)) (y := true) hW (by omega) hcG rfl rfl rfl (evG rfl) (ev_c rfl)) (fun μ' h => nomatch h.1) fun μ' h => ?_
    obtain ⟨_, W2, hW2, hWz, rfl⟩ := h
    exact sw_next ⟨W2, _, _, _, hW2, hWz, rfl, rfl⟩
  obtain ⟨V, s7, s8, s9, hI, hz, rfl, rfl⟩ := hJ
  refine sw_seq (sw_forR (ei_rng1 (Rn := fun n => n ≤ 3) (EvA.imp (ea_consR (R1 := fun z => ∃ n : Int, z = .dat (.int n) ∧ 0 ≤ n ∧ n ≤ 3) (ev_op (ev_c (d := .int 1) rfl) (ev_take (n := 3) (ev_adr rfl) all_s (ev_c rfl) (by decide)) fun sa sb e1 e2 => ?_) ea_nil) fun ss hh => ?_)) fun dss hds => ?_)
  · obtain ⟨r, rfl, h1, h2⟩ := e2
    subst e1
    intro P H x y xt m ra rb Q q
    exact ops_addI P H x y xt m ra rb Q fun v P' H' s' st rv e => q v P' H' s' st rv ⟨_, e, by omega, by omega⟩
  · obtain ⟨z, r, rfl, ⟨n, rfl, h1, h2⟩, rfl⟩ := hh
    exact ⟨n, rfl, h2, by omega, by omega⟩
  obtain ⟨n, hn3, rfl⟩ := hds
  refine ⟨fun i Γ' μ' => ∃ (V : List Ver) (s9 : Sl), VInv F V ∧ V.length ≤ 60 ∧ μ' = allM (cA K) x dx l b xo dxo lo s F V V U ∧ Γ' = [.scr ns, .adr s, .dat (.bl wd), .dat (tx F), .adr x, .adr b, .adr xo, s7, s8, s9], ⟨⟨V, _, hI, hz, rfl, rfl⟩, fun _ _ _ _ _ => trivial, fun i e Γ' μ' he hJ => ?_, fun Γ' μ' hJ => ?_⟩⟩
  · obtain ⟨hi, rfl⟩ := rgD_get he
    obtain ⟨V, s9, hI, hz, rfl, rfl⟩ := hJ
    refine ⟨_, _, ga_name, ?_⟩
    rcases List.eq_nil_or_concat V with rfl | ⟨V0, v, hV0⟩
    · exact sw_if (c := false) (et_and (b := false) (c := true) (et_is (et_truO (ev_adr rfl) mB) rfl) nofun) nofun fun _ => sw_next ⟨[], _, hI, hz, rfl, rfl⟩
    · rw [List.concat_eq_append] at hV0
      subst hV0
      rw [List.length_append, List.length_singleton] at hz
      have hm : (b, Mu.mls (V0.map verD ++ [verD v])) ∈ allM (cA K) x dx l b xo dxo lo s F V0 (V0 ++ [v]) U := by
        have : (V0 ++ [v]).map verD = V0.map verD ++ [verD v] := by rw [List.map_append]; rfl
        rw [← this]; exact mB
      refine sw_ifM (RT := fun b' μ' => b' = false ∧ μ' = allM (cA K) x dx l b xo dxo lo s F V0 V0 U) (etm_and (c := true) (et_is (et_truO (ev_adr rfl) mB) (by simp)) (fun _ => etm_not (etm_B (EvM.imp (em_callP2 (d := .bl true) (d1 := verD v) (d2 := verD v) (μ1 := allM (cA K) x dx l b xo dxo lo s F V0 (V0 ++ [v]) U) (μ2 := allM (cA K) x dx l b xo dxo lo s F V0 V0 U)
        (EvM.re (em_methO (x := x) (ss := []) (μf := askM (cA K) x dx l F (V0 ++ [v])) (Rf := fun z μ' => z = .dat (verD v) ∧ μ' = askM (cA K) x dx l F V0) (ev_adr rfl) (all_ask _ ask_x) rfl ea_nil all_ask (askM_nd ap.lx) ⟨x, dx, l, F, V0, v, rfl, ap.lx, rfl, rfl, rfl⟩) fun z μ' hh => ?_)
        (EvM.imp (em_pop (ev_adr rfl) hm) fun z μ' hh => ?_) (same_ok (fl_ver v) (by rw [sz_ver]; decide))) fun z μ' hh => ?_))) nofun) (fun μ' h => nomatch h.1) fun μ' h => ?_
      · obtain ⟨μ2, ⟨rfl, rfl⟩, rfl⟩ := hh
        exact ⟨_, all_reA far, ndA _ _ _, rfl, rfl⟩
      · obtain ⟨rfl, rfl⟩ := hh
        exact ⟨rfl, all_setB far⟩
      · obtain ⟨rfl, rfl⟩ := hh
        exact ⟨true, rfl, rfl, rfl⟩
      · obtain ⟨_, rfl⟩ := h
        exact sw_next ⟨V0, _, hI.back, by omega, rfl, rfl⟩
  obtain ⟨V, s9, hI, hz, rfl, rfl⟩ := hJ
  refine sw_seq (sw_forR (ei_lstR (Rd := someV F 30) (ev_steps hF (ev_adr rfl) all_s (ev_var rfl))) fun dss hds => ?_)
  obtain ⟨T2, hT, hTl, rfl⟩ := hds
  refine ⟨fun i Γ' μ' => ∃ (V : List Ver) (s7 s8 : Sl), VInv F V ∧ V.length ≤ 60 ∧ μ' = allM (cA K) x dx l b xo dxo lo s F V V U ∧ Γ' = [.scr ns, .adr s, .dat (.bl wd), .dat (tx F), .adr x, .adr b, .adr xo, s7, s8, s9], ⟨⟨V, _, _, hI, hz, rfl, rfl⟩, fun _ _ _ _ _ => trivial, fun i e Γ' μ' he hJ => ?_, fun Γ' μ' hJ => ?_⟩⟩
  · obtain ⟨V, s7, s8, hI, hz, rfl, rfl⟩ := hJ
    obtain ⟨v, hv, rfl⟩ := map_get he
    refine ⟨_, _, ga_ver, ?_⟩
    refine sw_ifM (step (c := v.1) (y := v.2) hI hz (hT v (List.mem_of_getElem? hv)) rfl rfl rfl (ev_var rfl) (ev_var rfl)) (fun μ' h => nomatch h.1) fun μ' h => ?_
    obtain ⟨_, W, hW, hWz, rfl⟩ := h
    exact sw_next ⟨W, _, _, hW, hWz, rfl, rfl⟩
  obtain ⟨V, s7, s8, hI, hz, rfl, rfl⟩ := hJ
  subst hU
  exact sw_ret (ev_and (least hI hz rfl rfl rfl) fun _ => ev_callP (ds := [versD [((F, []), true)], versD [((F, []), true)]]) (ea_cons (ev_methO (μf := askM (cA K) xo dxo lo F [((F, []), true)]) (R := fun s => s = .dat (versD [((F, []), true)])) (ev_adr rfl) (all_oth _ ask_x) rfl ea_nil all_oth (askM_nd far.oo) ⟨xo, dxo, lo, F, _, rfl, far.oo, rfl, rfl, rfl⟩) (ea_cons (ev_lst (ds := [verD ((F, []), true)]) (ea_cons (ev_tup (ds := [caseD (F, []), .bl true]) (ea_cons (evF rfl) (ea_cons (ev_c rfl) ea_nil)) (by simp)) ea_nil) (by simp)) ea_nil)) rfl (same_ok (fl_vers _) (by rw [sz_vers]; simp))) (hR _)
end
end KH
set_option maxHeartbeats 0
namespace KH
open PySem PySem.Spec PyProof.Rows L2 DL
theorem run (w : World) : HandSHeadRun.RunEq R (PySem.W.view R.prog [104]) hk ob 60000 loose w :=
  PySem.W.byRow2 "special-get-raises" (P := fun w => HandSHeadRun.RunEq R (PySem.W.view R.prog [104]) hk ob 60000 loose w) runF runT w
end KH
open PySem PySem.W PySem.Calls PyProof.Rows
set_option maxRecDepth 100000 in
set_option maxHeartbeats 0 in
theorem PySem.Challenge.cw_outweighed_k80_verdicts_that_are_refused_holds : PySem.Challenge.rw_outweighed_k80_verdicts_that_are_refused.Holds := by
  w_on; o_law
  refine HandSHeadRun.head_any (r := OpenLaw.row PySem.Challenge.rw_outweighed_k80_verdicts_that_are_refused) (q := view (OpenLaw.row PySem.Challenge.rw_outweighed_k80_verdicts_that_are_refused).prog [104]) (H := KH.hk) (ob := KH.ob) (M := 60000) (loose := KH.loose) (d := HandSHeadRun.topDef (OpenLaw.row PySem.Challenge.rw_outweighed_k80_verdicts_that_are_refused).prog 104) (kwd := []) KH.ob_eq
    (by kernel_rfl) (fun s => by kernel_rfl) KH.run (by kernel_rfl) (by kernel_rfl) (by kernel_rfl) (by rfl) (by first | assumption | decide +kernel) (by decide +kernel) ⟨rfl, rfl, rfl, rfl, rfl, by decide +kernel⟩ ?hw ?hc
  case hw => w_witness2
  case hc =>
    refine L2.walk_ofE (l := PySem.Challenge.rw_outweighed_k80_verdicts_that_are_refused) (n := 63) (k := 14) (x := "script") (CX := L2.CX0) rfl (by decide) (by kernel_rfl) ⟨rfl, by decide, by decide⟩ ?F (fun _ _ _ _ z => z)
    intro w mg fa h Y G hmg0
    obtain ⟨K, KX, c⟩ := Y
    have hmg : mg ("law" : PySem.Str) = some (.ref fa) := by
      have e : (HandSHeadRun.topDef (OpenLaw.row PySem.Challenge.rw_outweighed_k80_verdicts_that_are_refused).prog 104).name = ("law" : PySem.Str) := by kernel_rfl
      rw [← e]
      exact hmg0
    have T : KH.Txt w K mg := ⟨c, h, KX, G⟩
    have e := hmg.symm.trans (T.glo 74 (x := "law") rfl)
    cases e
    obtain ⟨fd, hb, hF⟩ := KH.final_of (Pg := (PySem.Challenge.rw_outweighed_k80_verdicts_that_are_refused).prog) (w := w) T 92 (st := KH.s_f_law) (y := "script") rfl (fun _ _ _ _ _ _ us hl => match us, hl with | [_], _ => rfl) fun base => KH.ok_f_law T
    refine ⟨K, fd, DL.spD K KH.pre_f_law, KX, hb, fun H a ns hl _ hS => ⟨H, [], [.scr ns], fun s _ => s = .dat (.bl true), DL.Ext.rfl' _, DL.StOk.nil, ⟨⟨a, rfl, hS⟩, trivial⟩, ⟨ns, rfl, rfl, hl, fun _ => rfl⟩, fun v P' H' s μ' g rv hs => ?_⟩, fun base _ _ => hF base⟩
    subst hs
    cases rv
    rfl
