import PyProof.Rows.All
import Wide.All
import OpenK.AllK
import Wide.FinOn
import HandS.ForMost
import HandS.ForExc
import HandS.Slots
import HandS.HeadHook2
import HandS.TryMany
import HandS.ExcCtx
import HandS.SuiteRaise
import HandS.IsInst
import HandS.Strs
import HandS.TupAny
import HandS.TupMul
import HandS.Style
import HandS.Small
import HandS.ExcField
import HandS.ExcInit
import HandS.HeadEnd
import HandS.ExcIs
import HandS.Star
import HandS.Property
import KE.KIsNot
import KE.GoesEnum
import KE.KExcIs
import KE.DataMinMax
import PyProof.P3Eq
import HandS.HotCalls
import HandS.Head4
import HandS.HeadWalk
import PySem.Challenge.RW_twoworths_k17_errors_apart
set_option Elab.async false
set_option linter.all false
set_option maxRecDepth 100000
set_option maxHeartbeats 4000000
/-! Values of the program as data (D), mutable things by places in a store (O), functional readings of the hand layer. -/
namespace Tw
open PySem PySem.Spec PyProof.Rows L2N
open L2 hiding St XE Takes CX takes_of passes_call MkP PMk ps_raise mk_of ps_try_as ps_try_many pmk_own passAt

inductive D where
  | p (d : PyData)
  | own (k : Nat)
  | wld (d l : PyData)
  | exn
  | scr (ns : List Int)
  | dz (kvs : List (List Key × PyData))
  | fn (q : Str)
  | err (n : Str) (as : List PyData)
  | mix (xs : List (Nat ⊕ PyData))
  | mtp (xs : List (Nat ⊕ PyData))
inductive O where
  | lst (xs : List D)
  | dic (kvs : List (List Key × D))
  | ins (n : Str) (fs : List (Str × D))
  | raw (j : Nat)
  | odx (j : Nat)
  | fz (d : D)
  | gone
abbrev Env := List (Option D)
abbrev Sto := List O
inductive Res (α : Type) where
  | ok (a : α) (S : Sto)
  | exc (n : Str) (as : List PyData) (S : Sto)
  | bad
def Res.bind {α β : Type} (r : Res α) (f : α → Sto → Res β) : Res β := match r with
  | .ok a S => f a S
  | .exc n as S => .exc n as S
  | .bad => .bad

/-! ### data stay while the heap grows -/
theorem sq_t {K : PySem.W.Frag} {H H' : Hp} {a : Addr} {xs : List V} (e : Same H H') (h : SqT K H a xs) : SqT K H' a xs := by
  rcases h with (h | ⟨o, h⟩) | h
  · exact .inl (.inl (e _ _ h))
  · exact .inl (.inr ⟨o, e _ _ h⟩)
  · exact .inr h
def isS : PyData → Bool
  | .str _ => true
  | _ => false
/-- a tuple that is tracked, or one of texts that stands in the written part -/
def TpT (K : PySem.W.Frag) (F : Hp) (a : Addr) (xs : List V) (ds : List PyData) : Prop := F a = some (.tup xs) ∨ (SqT K F a xs ∧ ds.all isS = true)
theorem TpT.sq {K : PySem.W.Frag} {F : Hp} {a : Addr} {xs : List V} {ds : List PyData} (h : TpT K F a xs ds) : SqT K F a xs := by
  rcases h with h | h
  · exact SqT.of h
  · exact h.1
theorem TpT.mono {K : PySem.W.Frag} {F H : Hp} {a : Addr} {xs : List V} {ds : List PyData} (e : Same F H) (h : TpT K F a xs ds) : TpT K H a xs ds := by
  rcases h with h | h
  · exact .inl (e _ _ h)
  · exact .inr ⟨sq_t e h.1, h.2⟩
/-- a part of a key -/
def kD : L2.Key → PyData
  | .inl i => .int i
  | .inr s => .str s
mutual
/-- a value that is pure data: its lists are tracked and never change -/
inductive Dq (K : PySem.W.Frag) (F : Hp) : V → PyData → Prop
  | non : Dq K F .non .none
  | bl (b : Bool) : Dq K F (.bl b) (.bool b)
  | int (i : Int) : Dq K F (.int i) (.int i)
  | str (x : Str) : Dq K F (.str x) (.str x)
  | lst {a : Addr} {xs : List V} {ds : List PyData} : F a = some (.lst xs) → DqA K F xs ds → Dq K F (.ref a) (.list ds)
  | tup {a : Addr} {xs : List V} {ds : List PyData} : TpT K F a xs ds → DqA K F xs ds → Dq K F (.ref a) (.tuple ds)
  | dic {a : Addr} {kws : List (List L2.Key × V)} {kvs : List (PyData × PyData)} : F a = some (.dT kws) → DqK K F kws kvs → Dq K F (.ref a) (.dict kvs)
inductive DqA (K : PySem.W.Frag) (F : Hp) : List V → List PyData → Prop
  | nil : DqA K F [] []
  | cons {v : V} {vs : List V} {d : PyData} {ds : List PyData} : Dq K F v d → DqA K F vs ds → DqA K F (v :: vs) (d :: ds)
inductive DqK (K : PySem.W.Frag) (F : Hp) : List (List L2.Key × V) → List (PyData × PyData) → Prop
  | nil : DqK K F [] []
  | cons {k : List L2.Key} {v : V} {d : PyData} {r : List (List L2.Key × V)} {rs : List (PyData × PyData)} : Dq K F v d → DqK K F r rs → DqK K F ((k, v) :: r) ((.tuple (k.map kD), d) :: rs)
end
mutual
theorem dp_of {K : PySem.W.Frag} {F H : Hp} (e : Same F H) : ∀ (d : PyData) (v : V), d.canLay0 = true → Dq K F v d → Dp K H v d
  | .none, _, _, h => by cases h; exact .non
  | .bool b, _, _, h => by cases h; exact .bl b
  | .int i, _, _, h => by cases h; exact .int i
  | .str x, _, _, h => by cases h; exact .str x
  | .list ds, _, n, h => by
    cases h with
    | lst hs ha => exact .lst (SqL.of (e _ _ hs)) (dpa_of e ds _ (by simpa [PyData.canLay0] using n) ha)
  | .tuple ds, _, n, h => by
    cases h with
    | tup hs ha => exact .tup (sq_t e hs.sq) (dpa_of e ds _ (by simpa [PyData.canLay0] using n) ha)
  | .dict _, _, n, h => by simp [PyData.canLay0] at n
theorem dpa_of {K : PySem.W.Frag} {F H : Hp} (e : Same F H) : ∀ (ds : List PyData) (vs : List V), PyData.canLayAll0 ds = true → DqA K F vs ds → DpAll K H vs ds
  | [], _, _, h => by cases h; exact .nil
  | d :: ds, _, n, h => by
    have n2 : d.canLay0 = true ∧ PyData.canLayAll0 ds = true := by simpa [PyData.canLayAll0] using n
    cases h with
    | cons h1 h2 => exact .cons (dp_of e d _ n2.1 h1) (dpa_of e ds _ n2.2 h2)
end
theorem lay_sh {d : PyData} (h : SeqAt.shaped d = true) : d.canLay0 = true := SeqAt.canLay_of_shaped h
mutual
theorem dp_mono {K : PySem.W.Frag} {F H : Hp} (e : Same F H) : ∀ (d : PyData) (v : V), Dq K F v d → Dq K H v d
  | .none, _, h => by cases h; exact .non
  | .bool b, _, h => by cases h; exact .bl b
  | .int i, _, h => by cases h; exact .int i
  | .str x, _, h => by cases h; exact .str x
  | .list ds, _, h => by
    cases h with
    | lst hs ha => exact .lst (e _ _ hs) (dpa_mono e ds _ ha)
  | .tuple ds, _, h => by
    cases h with
    | tup hs ha => exact .tup (hs.mono e) (dpa_mono e ds _ ha)
  | .dict kvs, _, h => by
    cases h with
    | dic hs ha => exact .dic (e _ _ hs) (dpk_mono e kvs _ ha)
theorem dpa_mono {K : PySem.W.Frag} {F H : Hp} (e : Same F H) : ∀ (ds : List PyData) (vs : List V), DqA K F vs ds → DqA K H vs ds
  | [], _, h => by cases h; exact .nil
  | d :: ds, _, h => by
    cases h with
    | cons h1 h2 => exact .cons (dp_mono e d _ h1) (dpa_mono e ds _ h2)
theorem dpk_mono {K : PySem.W.Frag} {F H : Hp} (e : Same F H) : ∀ (kvs : List (PyData × PyData)) (kws : List (List L2.Key × V)), DqK K F kws kvs → DqK K H kws kvs
  | [], _, h => by cases h; exact .nil
  | (kd, d) :: kvs, _, h => by
    cases h with
    | cons h1 h2 => exact .cons (dp_mono e d _ h1) (dpk_mono e kvs _ h2)
end
theorem dpa_len {K : PySem.W.Frag} {H : Hp} : ∀ (ds : List PyData) (vs : List V), DqA K H vs ds → vs.length = ds.length
  | [], _, h => by cases h; rfl
  | d :: ds, _, h => by
    cases h with
    | cons h1 h2 => rw [List.length_cons, List.length_cons, dpa_len ds _ h2]
theorem dpa_get {K : PySem.W.Frag} {H : Hp} : ∀ (ds : List PyData) (vs : List V) (i : Nat) (d : PyData), DqA K H vs ds → ds[i]? = some d → ∃ v, vs[i]? = some v ∧ Dq K H v d
  | [], _, i, d, h, e => by simp at e
  | d0 :: ds, _, 0, d, h, e => by
    cases h with
    | cons h1 h2 =>
      have e2 : d0 = d := by simpa using e
      subst e2
      exact ⟨_, rfl, h1⟩
  | d0 :: ds, _, i + 1, d, h, e => by
    cases h with
    | cons h1 h2 =>
      obtain ⟨v, q, r⟩ := dpa_get ds _ i d h2 (by simpa using e)
      exact ⟨v, by simpa using q, r⟩
theorem dpa_app {K : PySem.W.Frag} {H : Hp} : ∀ {ds es : List PyData} {vs ws : List V}, DqA K H vs ds → DqA K H ws es → DqA K H (vs ++ ws) (ds ++ es)
  | [], es, _, ws, h, g => by cases h; exact g
  | d :: ds, es, _, ws, h, g => by
    cases h with
    | cons h1 h2 => exact .cons h1 (dpa_app h2 g)
theorem dpa_take {K : PySem.W.Frag} {H : Hp} : ∀ {ds : List PyData} {vs : List V} (n : Nat), DqA K H vs ds → DqA K H (vs.take n) (ds.take n)
  | _, _, 0, _ => .nil
  | [], _, n + 1, h => by cases h; exact .nil
  | d :: ds, _, n + 1, h => by
    cases h with
    | cons h1 h2 => exact .cons h1 (dpa_take n h2)
theorem dpa_drop {K : PySem.W.Frag} {H : Hp} : ∀ {ds : List PyData} {vs : List V} (n : Nat), DqA K H vs ds → DqA K H (vs.drop n) (ds.drop n)
  | _, _, 0, h => h
  | [], _, n + 1, h => by cases h; exact .nil
  | d :: ds, _, n + 1, h => by
    cases h with
    | cons h1 h2 => exact dpa_drop n h2

/-! ### what stands for what -/
/-- an exception's class and fields -/
def flds : Nat → List Str
  | 1 => ["index"]
  | 2 => ["word", "line"]
  | _ => []
def IsX (K : PySem.W.Frag) (F : Hp) (n : Str) (as : List PyData) (cls : Value) (dd : Option Addr) : Prop :=
  cls = .ref (He.ga K n) ∧ ((as = [] ∧ dd = none) ∨ ∃ d vs, as ≠ [] ∧ dd = some d ∧ F d = some (.xd ((flds as.length).zip vs)) ∧ DqA K F vs as)
theorem isx_mono {K : PySem.W.Frag} {F F' : Hp} (e : Same F F') {n : Str} {as : List PyData} {cls : Value} {dd : Option Addr} (h : IsX K F n as cls dd) : IsX K F' n as cls dd := by
  obtain ⟨h1, h2 | ⟨d, vs, h2, h3, h4, h5⟩⟩ := h
  · exact ⟨h1, .inl h2⟩
  · exact ⟨h1, .inr ⟨d, vs, h2, h3, e _ _ h4, dpa_mono e _ _ h5⟩⟩
/-- a world that stands -/
def WAt (K : PySem.W.Frag) (F : Hp) (a : Addr) (d l : PyData) : Prop :=
  ∃ dx vs vr vf pr ir pf jf, F a = some (SlX.SlO a (He.ga K "World") dx vs) ∧ F dx = some (.xd []) ∧ SlX.Slot1 K (He.ga K "World") "rows" pr ir ∧ SlX.Slot1 K (He.ga K "World") "first" pf jf ∧
    vs[ir]? = some (some vr) ∧ vs[jf]? = some (some vf) ∧ Dq K F vr d ∧ Dq K F vf l
theorem wat_mono {K : PySem.W.Frag} {F F' : Hp} (e : Same F F') {a : Addr} {d l : PyData} (h : WAt K F a d l) : WAt K F' a d l := by
  obtain ⟨dx, vs, vr, vf, pr, ir, pf, jf, h1, h2, h3, h4, h5, h6, h7, h8⟩ := h
  exact ⟨dx, vs, vr, vf, pr, ir, pf, jf, e _ _ h1, e _ _ h2, h3, h4, h5, h6, dp_mono e _ _ h7, dp_mono e _ _ h8⟩
/-- a caught error that is handed on: the object stands as it is -/
def erO (a : Addr) (ob : Obj) : HO := .ext fun h => h.get? a = some ob
def EAt (K : PySem.W.Frag) (F : Hp) (a : Addr) (n : Str) (as : List PyData) : Prop := ∃ dd ob, F a = some (erO a ob) ∧ Zc (.ref (He.ga K n)) dd ob ∧ (∃ us, ob.data = .fields us) ∧ IsX K F n as (.ref (He.ga K n)) dd
theorem eat_mono {K : PySem.W.Frag} {F F' : Hp} (e : Same F F') {a : Addr} {n : Str} {as : List PyData} (h : EAt K F a n as) : EAt K F' a n as := by
  obtain ⟨dd, ob, h1, h2, h3, h4⟩ := h
  exact ⟨dd, ob, e _ _ h1, h2, h3, isx_mono e h4⟩
/-- an own thing or pure data -/
def RpM (K : PySem.W.Frag) (F : Hp) (io : List Addr) (v : V) : Nat ⊕ PyData → Prop
  | .inl k => ∃ a, v = .ref a ∧ io[k]? = some a
  | .inr p => Dq K F v p
def Rp (K : PySem.W.Frag) (F : Hp) (io : List Addr) (v : V) : D → Prop
  | .p d => Dq K F v d
  | .own k => ∃ a, v = .ref a ∧ io[k]? = some a
  | .wld d l => ∃ a, v = .ref a ∧ WAt K F a d l
  | .exn => False
  | .scr ns => ∃ a, v = .ref a ∧ SqL K F a (ns.map V.int)
  | .dz kvs => ∃ a od kws, v = .ref a ∧ F a = some (.frz od (.dT kws)) ∧ Paired (fun (p : List Key × V) (q : List Key × PyData) => p.1 = q.1 ∧ Dq K F p.2 q.2) kws kvs
  | .fn q => v = .ref (He.ga K q)
  | .err n as => ∃ a, v = .ref a ∧ EAt K F a n as
  | .mix xs => ∃ a vs, v = .ref a ∧ F a = some (.lst vs) ∧ Paired (RpM K F io) vs xs
  | .mtp xs => ∃ a vs, v = .ref a ∧ F a = some (.tup vs) ∧ Paired (RpM K F io) vs xs
structure Ext (F : Hp) (io : List Addr) (F' : Hp) (io' : List Addr) : Prop where
  same : Same F F'
  more : ∃ t, io' = io ++ t
theorem Ext.refl (F : Hp) (io : List Addr) : Ext F io F io := ⟨Same.refl F, [], by simp⟩
theorem Ext.trans {F F1 F2 : Hp} {i i1 i2 : List Addr} (a : Ext F i F1 i1) (b : Ext F1 i1 F2 i2) : Ext F i F2 i2 := by
  obtain ⟨t, ht⟩ := a.more
  obtain ⟨u, hu⟩ := b.more
  exact ⟨a.same.trans b.same, t ++ u, by rw [hu, ht, List.append_assoc]⟩
theorem Ext.ix {F F1 : Hp} {i i1 : List Addr} (a : Ext F i F1 i1) {k : Nat} {x : Addr} (h : i[k]? = some x) : i1[k]? = some x := by
  obtain ⟨t, ht⟩ := a.more
  rw [ht, List.getElem?_append_left (List.getElem?_eq_some_iff.mp h).1]
  exact h
theorem rpm_mono {K : PySem.W.Frag} {F F' : Hp} {i i' : List Addr} (e : Ext F i F' i') {v : V} : ∀ {m : Nat ⊕ PyData}, RpM K F i v m → RpM K F' i' v m
  | .inl k, ⟨a, h1, h2⟩ => ⟨a, h1, e.ix h2⟩
  | .inr p, h => dp_mono e.same p v h
theorem rp_mono {K : PySem.W.Frag} {F F' : Hp} {i i' : List Addr} (e : Ext F i F' i') {v : V} : ∀ {d : D}, Rp K F i v d → Rp K F' i' v d
  | .p d, h => dp_mono e.same d v h
  | .own k, ⟨a, h1, h2⟩ => ⟨a, h1, e.ix h2⟩
  | .wld d l, ⟨a, h1, h2⟩ => ⟨a, h1, wat_mono e.same h2⟩
  | .exn, h => h
  | .scr ns, ⟨a, h1, h2⟩ => ⟨a, h1, e.same.seq h2⟩
  | .dz kvs, ⟨a, od, kws, h1, h2, h3⟩ => ⟨a, od, kws, h1, e.same _ _ h2, Paired.mapP h3 fun _ _ z => ⟨z.1, dp_mono e.same _ _ z.2⟩⟩
  | .fn q, h => h
  | .err n as, ⟨a, h1, h2⟩ => ⟨a, h1, eat_mono e.same h2⟩
  | .mix xs, ⟨a, vs, h1, h2, h3⟩ => ⟨a, vs, h1, e.same _ _ h2, Paired.mapP h3 fun _ _ z => rpm_mono e z⟩
  | .mtp xs, ⟨a, vs, h1, h2, h3⟩ => ⟨a, vs, h1, e.same _ _ h2, Paired.mapP h3 fun _ _ z => rpm_mono e z⟩
abbrev RpA (K : PySem.W.Frag) (F : Hp) (io : List Addr) : List V → List D → Prop := Paired (Rp K F io)
theorem rpa_mono {K : PySem.W.Frag} {F F' : Hp} {i i' : List Addr} (e : Ext F i F' i') {vs : List V} {ds : List D} (h : RpA K F i vs ds) : RpA K F' i' vs ds := Paired.mapP h fun _ _ r => rp_mono e r

def OAt (K : PySem.W.Frag) (F : Hp) (io : List Addr) (H : Hp) (a : Addr) : O → Prop
  | .lst xs => F a = none ∧ ∃ vs, H a = some (.lst vs) ∧ RpA K F io vs xs
  | .dic kvs => F a = none ∧ ∃ kws, H a = some (.dT kws) ∧ Paired (fun (p : List Key × V) (q : List Key × D) => p.1 = q.1 ∧ Rp K F io p.2 q.2) kws kvs
  | .ins n fs => F a = none ∧ ∃ dx fvs, H a = some (.ins (He.ga K n) dx fvs) ∧ F dx = some (.own a) ∧ Paired (fun (p : Str × V) (q : Str × D) => p.1 = q.1 ∧ Rp K F io p.2 q.2) fvs fs
  | .raw j => F a = none ∧ ∃ dx, io[j]? = some dx ∧ H a = some (.ins (He.ga K "World") dx [])
  | .odx j => F a = none ∧ ∃ b, io[j]? = some b ∧ H a = some (.own b)
  | .fz d => (∃ o, F a = some o) ∧ Rp K F io (.ref a) d
  | .gone => ∃ o, F a = some o
theorem oat_there {K : PySem.W.Frag} {F : Hp} {io : List Addr} {H : Hp} {a : Addr} (ex : Same F H) : ∀ {o : O}, OAt K F io H a o → ∃ u, H a = some u
  | .lst xs, ⟨_, vs, h, _⟩ => ⟨_, h⟩
  | .dic kvs, ⟨_, _, h, _⟩ => ⟨_, h⟩
  | .ins n fs, ⟨_, _, _, h, _⟩ => ⟨_, h⟩
  | .raw j, ⟨_, _, _, h⟩ => ⟨_, h⟩
  | .odx j, ⟨_, _, _, h⟩ => ⟨_, h⟩
  | .fz d, ⟨⟨o, h⟩, _⟩ => ⟨o, ex _ _ h⟩
  | .gone, ⟨o, h⟩ => ⟨o, ex _ _ h⟩
theorem oat_step {K : PySem.W.Frag} {F F' : Hp} {i i' : List Addr} {H H' : Hp} {a : Addr} (e : Ext F i F' i') (hF : F a = none → F' a = none) (hH : F a = none → H' a = H a) : ∀ {o : O}, OAt K F i H a o → OAt K F' i' H' a o
  | .lst xs, ⟨h0, vs, h, r⟩ => ⟨hF h0, vs, (hH h0).trans h, rpa_mono e r⟩
  | .dic kvs, ⟨h0, kws, h, r⟩ => ⟨hF h0, kws, (hH h0).trans h, Paired.mapP r fun _ _ z => ⟨z.1, rp_mono e z.2⟩⟩
  | .ins n fs, ⟨h0, dx, fvs, h, h2, r⟩ => ⟨hF h0, dx, fvs, (hH h0).trans h, e.same _ _ h2, Paired.mapP r fun _ _ z => ⟨z.1, rp_mono e z.2⟩⟩
  | .raw j, ⟨h0, dx, h1, h⟩ => ⟨hF h0, dx, e.ix h1, (hH h0).trans h⟩
  | .odx j, ⟨h0, b, h1, h⟩ => ⟨hF h0, b, e.ix h1, (hH h0).trans h⟩
  | .fz d, ⟨⟨o, h⟩, r⟩ => ⟨⟨o, e.same _ _ h⟩, rp_mono e r⟩
  | .gone, ⟨o, h⟩ => ⟨o, e.same _ _ h⟩
/-- F: what never changes; io, S: what may change, by places; G: what others hold here -/
structure Good (K : PySem.W.Frag) (G F : Hp) (io : List Addr) (H : Hp) (S : Sto) : Prop where
  ex : Same F H
  gx : Same G H
  gf : ∀ a o, G a = some o → F a = none ∧ a ∉ io
  nd : io.Nodup
  len : io.length = S.length
  ob : ∀ (k : Nat) (a : Addr) (o : O), io[k]? = some a → S[k]? = some o → OAt K F io H a o
  gt : ∀ (a : Addr) (o : HO), G a = some o → ∀ xs, o ≠ .tup xs
section
variable {K : PySem.W.Frag} {G F : Hp} {io : List Addr} {H : Hp} {S : Sto} {p : Addr} {o : HO}
theorem Good.out (g : Good K G F io H S) (h : H p = none) : F p = none := g.ex.free h
theorem Good.mem (g : Good K G F io H S) {a : Addr} (h : a ∈ io) : ∃ u, H a = some u := by
  obtain ⟨k, hk, e⟩ := List.mem_iff_getElem.mp h
  have h1 : io[k]? = some a := by rw [List.getElem?_eq_getElem hk, e]
  have hk2 : k < S.length := by rw [← g.len]; exact hk
  have h2 : S[k]? = some S[k] := List.getElem?_eq_getElem hk2
  exact oat_there g.ex (g.ob k a _ h1 h2)
theorem Good.at_ (g : Good K G F io H S) {k : Nat} {o : O} (h : S[k]? = some o) : ∃ a, io[k]? = some a ∧ OAt K F io H a o := by
  have hk := (List.getElem?_eq_some_iff.mp h).1
  have hk2 : k < io.length := by rw [g.len]; exact hk
  have h1 : io[k]? = some io[k] := List.getElem?_eq_getElem hk2
  exact ⟨_, h1, g.ob k _ o h1 h⟩
theorem Good.gne (g : Good K G F io H S) {b a : Addr} {u : HO} {k : Nat} (q : G b = some u) (h1 : io[k]? = some a) : b ≠ a := fun z => (g.gf b u q).2 (z ▸ List.mem_of_getElem? h1)
theorem Good.gnew (g : Good K G F io H S) (h : H p = none) {b : Addr} {u : HO} (q : G b = some u) : b ≠ p := ne_of_none (g.gx _ _ q) h
theorem Good.gxnew (g : Good K G F io H S) (h : H p = none) : Same G (upd H p o) := fun b u q => by
  rw [upd_ne (g.gnew h q)]
  exact g.gx _ _ q
theorem upd_one {F : Hp} {p : Addr} {o : HO} (h : F p = none) : Same F (upd F p o) := fun b u e => by
  rw [upd_ne (ne_of_none e h)]
  exact e
theorem upd_both {F H : Hp} {p : Addr} {o : HO} (e : Same F H) : Same (upd F p o) (upd H p o) := fun b u q => by
  by_cases hb : b = p
  · subst hb
    rw [upd_same] at q ⊢
    exact q
  · rw [upd_ne hb] at q ⊢
    exact e _ _ q
/-- a new thing that never changes -/
theorem Good.new (g : Good K G F io H S) (h : H p = none) : Good K G (upd F p o) io (upd H p o) S ∧ Ext F io (upd F p o) io := by
  have hf := g.out h
  have e : Ext F io (upd F p o) io := ⟨upd_one hf, [], by simp⟩
  refine ⟨⟨upd_both g.ex, g.gxnew h, fun a u q => ⟨by rw [upd_ne (g.gnew h q)]; exact (g.gf a u q).1, (g.gf a u q).2⟩, g.nd, g.len, fun k a o' h1 h2 => ?_, g.gt⟩, e⟩
  have ha : a ≠ p := by
    obtain ⟨u, hu⟩ := g.mem (List.mem_of_getElem? h1)
    exact ne_of_none hu h
  exact oat_step e (fun z => by rw [upd_ne ha]; exact z) (fun _ => by rw [upd_ne ha]) (g.ob k a o' h1 h2)
/-- a new thing that may change -/
theorem Good.newOwn (g : Good K G F io H S) (h : H p = none) {x : O} (hx : OAt K F (io ++ [p]) (upd H p o) p x) : Good K G F (io ++ [p]) (upd H p o) (S ++ [x]) ∧ Ext F io F (io ++ [p]) := by
  have hf := g.out h
  have e : Ext F io F (io ++ [p]) := ⟨Same.refl F, [p], rfl⟩
  have hp : p ∉ io := fun hm => by
    obtain ⟨u, hu⟩ := g.mem hm
    rw [h] at hu
    cases hu
  refine ⟨⟨fun b u q => ?_, g.gxnew h, fun a u q => ⟨(g.gf a u q).1, fun hm => (List.mem_append.mp hm).elim (g.gf a u q).2 fun hm => g.gnew h q (by simpa using hm)⟩, ?_, by simp [g.len], fun k a o' h1 h2 => ?_, g.gt⟩, e⟩
  · rw [upd_ne (ne_of_none q hf)]
    exact g.ex _ _ q
  · rw [List.nodup_append]
    exact ⟨g.nd, by simp, fun a ha b hb => by
      have hb' : b = p := by simpa using hb
      subst hb'
      exact fun z => hp (z ▸ ha)⟩
  · by_cases hk : k < io.length
    · rw [List.getElem?_append_left hk] at h1
      rw [List.getElem?_append_left (by rw [← g.len]; exact hk)] at h2
      have ha : a ≠ p := fun z => hp (z ▸ List.mem_of_getElem? h1)
      exact oat_step e (fun z => z) (fun _ => upd_ne ha) (g.ob k a o' h1 h2)
    · have hk2 : k = io.length := by
        have := (List.getElem?_eq_some_iff.mp h1).1
        simp at this
        omega
      subst hk2
      rw [List.getElem?_append_right (Nat.le_refl _)] at h1
      rw [g.len, List.getElem?_append_right (Nat.le_refl _)] at h2
      simp at h1 h2
      subst h1
      subst h2
      exact hx
/-- a mutable thing is written -/
theorem Good.put (g : Good K G F io H S) {k : Nat} {a : Addr} (h1 : io[k]? = some a) (hf : F a = none) {x : O} (hx : OAt K F io (upd H a o) a x) : Good K G F io (upd H a o) (S.set k x) := by
  refine ⟨fun b u q => ?_, fun b u q => by rw [upd_ne (g.gne q h1)]; exact g.gx _ _ q, g.gf, g.nd, by simp [g.len], fun j b o' e1 e2 => ?_, g.gt⟩
  · rw [upd_ne (ne_of_none q hf)]
    exact g.ex _ _ q
  · by_cases hj : j = k
    · subst hj
      rw [h1] at e1
      have e1 : a = b := Option.some.inj e1
      subst e1
      have hk : j < S.length := by
        have := (List.getElem?_eq_some_iff.mp e2).1
        simpa using this
      rw [List.getElem?_set_self hk] at e2
      have e2 : x = o' := Option.some.inj e2
      subst e2
      exact hx
    · rw [List.getElem?_set_ne (Ne.symm hj)] at e2
      have hb : b ≠ a := fun z => by
        subst z
        have l1 := (List.getElem?_eq_some_iff.mp e1)
        have l2 := (List.getElem?_eq_some_iff.mp h1)
        obtain ⟨m1, n1⟩ := l1
        obtain ⟨m2, n2⟩ := l2
        exact hj ((List.getElem_inj g.nd).mp (n1.trans n2.symm))
      exact oat_step (Ext.refl F io) (fun z => z) (fun _ => upd_ne hb) (g.ob j b o' e1 e2)
/-- a mutable list never changes again -/
theorem Good.freeze (g : Good K G F io H S) {k : Nat} {a : Addr} (h1 : io[k]? = some a) (hf : F a = none) (ho : H a = some o) {d : D} (hd : Rp K (upd F a o) io (.ref a) d) : Good K G (upd F a o) io H (S.set k (.fz d)) ∧ Ext F io (upd F a o) io := by
  have e : Ext F io (upd F a o) io := ⟨upd_one hf, [], by simp⟩
  refine ⟨⟨fun b u q => ?_, g.gx, fun b u q => ⟨by rw [upd_ne (g.gne q h1)]; exact (g.gf b u q).1, (g.gf b u q).2⟩, g.nd, by simp [g.len], fun j b o' e1 e2 => ?_, g.gt⟩, e⟩
  · by_cases hb : b = a
    · subst hb
      rw [upd_same] at q
      rw [← q]
      exact ho
    · rw [upd_ne hb] at q
      exact g.ex _ _ q
  · by_cases hj : j = k
    · subst hj
      rw [h1] at e1
      have e1 : a = b := Option.some.inj e1
      subst e1
      have hk : j < S.length := by
        have := (List.getElem?_eq_some_iff.mp e2).1
        simpa using this
      rw [List.getElem?_set_self hk] at e2
      have e2 : O.fz d = o' := Option.some.inj e2
      subst e2
      exact ⟨⟨o, upd_same⟩, hd⟩
    · rw [List.getElem?_set_ne (Ne.symm hj)] at e2
      have hb : b ≠ a := fun z => by
        subst z
        obtain ⟨m1, n1⟩ := (List.getElem?_eq_some_iff.mp e1)
        obtain ⟨m2, n2⟩ := (List.getElem?_eq_some_iff.mp h1)
        exact hj ((List.getElem_inj g.nd).mp (n1.trans n2.symm))
      exact oat_step e (fun z => by rw [upd_ne hb]; exact z) (fun _ => rfl) (g.ob j b o' e1 e2)
theorem oat_notup {a : Addr} {xs : List V} (hH : H a = some (.tup xs)) : ∀ {x : O}, OAt K F io H a x → ∃ u, F a = some u
  | .lst _, ⟨_, _, h, _⟩ => by rw [h] at hH; cases Option.some.inj hH
  | .dic _, ⟨_, _, h, _⟩ => by rw [h] at hH; cases Option.some.inj hH
  | .ins _ _, ⟨_, _, _, h, _⟩ => by rw [h] at hH; cases Option.some.inj hH
  | .raw _, ⟨_, _, _, h⟩ => by rw [h] at hH; cases Option.some.inj hH
  | .odx _, ⟨_, _, _, h⟩ => by rw [h] at hH; cases Option.some.inj hH
  | .fz _, ⟨h, _⟩ => h
  | .gone, h => h
/-- a tuple that stands is known -/
theorem Good.learn (g : Good K G F io H S) {b : Addr} {xs : List V} (h : H b = some (.tup xs)) : ∃ F1, Ext F io F1 io ∧ Good K G F1 io H S ∧ F1 b = some (.tup xs) := by
  cases hf : F b with
  | some o =>
    have := g.ex _ _ hf
    rw [h] at this
    exact ⟨F, Ext.refl F io, g, by rw [hf, ← this]⟩
  | none =>
    have e : Ext F io (upd F b (.tup xs)) io := ⟨upd_one hf, [], by simp⟩
    refine ⟨_, e, ⟨fun c u q => ?_, g.gx, fun c u q => ?_, g.nd, g.len, fun k c o' h1 h2 => ?_, g.gt⟩, upd_same⟩
    · by_cases hc : c = b
      · subst hc
        rw [upd_same] at q
        rw [← q]
        exact h
      · rw [upd_ne hc] at q
        exact g.ex _ _ q
    · have hc : c ≠ b := fun z => by
        subst z
        have hu := g.gx _ _ q
        rw [h] at hu
        exact g.gt _ _ q xs (Option.some.inj hu).symm
      exact ⟨by rw [upd_ne hc]; exact (g.gf c u q).1, (g.gf c u q).2⟩
    · have ho := g.ob k c o' h1 h2
      have hc : c ≠ b := fun z => by
        subst z
        obtain ⟨u, hu⟩ := oat_notup h ho
        rw [hf] at hu
        cases hu
      exact oat_step e (fun z => by rw [upd_ne hc]; exact z) (fun _ => rfl) ho
end
end Tw
namespace Tw
open PySem PySem.Spec PyProof.Rows L2N
open L2 hiding St XE Takes CX takes_of passes_call MkP PMk ps_raise mk_of ps_try_as ps_try_many pmk_own passAt

/-- the exception that a suite holds: its slot's value, its class, its dict, what it is -/
structure Ux where
  a : Addr
  cls : Value
  dd : Option Addr
  n : Str
  as : List PyData
structure Cw where
  K : PySem.W.Frag
  U : Option Ux
  W : WX
def RpE (c : Cw) (F : Hp) (io : List Addr) (v : V) : D → Prop
  | .exn => ∃ u, c.U = some u ∧ v = .ref u.a ∧ IsX c.K F u.n u.as u.cls u.dd
  | d => Rp c.K F io v d
theorem rpe_of {c : Cw} {F : Hp} {io : List Addr} {v : V} {d : D} (h : Rp c.K F io v d) : RpE c F io v d := by
  cases d <;> first | exact h | exact h.elim
theorem rpe_mono {c : Cw} {F F1 : Hp} {i i1 : List Addr} (e : Ext F i F1 i1) {v : V} : ∀ {d : D}, RpE c F i v d → RpE c F1 i1 v d
  | .exn, ⟨u, h1, h2, h3⟩ => ⟨u, h1, h2, isx_mono e.same h3⟩
  | .p d, h => rp_mono (K := c.K) (d := .p d) e h
  | .own k, h => rp_mono (K := c.K) (d := .own k) e h
  | .wld d l, h => rp_mono (K := c.K) (d := .wld d l) e h
  | .scr ns, h => rp_mono (K := c.K) (d := .scr ns) e h
  | .dz kvs, h => rp_mono (K := c.K) (d := .dz kvs) e h
  | .fn q, h => rp_mono (K := c.K) (d := .fn q) e h
  | .err n as, h => rp_mono (K := c.K) (d := .err n as) e h
  | .mix xs, h => rp_mono (K := c.K) (d := .mix xs) e h
  | .mtp xs, h => rp_mono (K := c.K) (d := .mtp xs) e h
def REnv (c : Cw) (F : Hp) (io : List Addr) (σ : L2.St) (ρ : Env) : Prop :=
  σ.length = ρ.length ∧ ∀ (i : Nat) (d : D), ρ[i]? = some (some d) → ∃ v, σ[i]? = some (some v) ∧ RpE c F io v d
theorem renv_mono {c : Cw} {F F1 : Hp} {i i1 : List Addr} {σ : L2.St} {ρ : Env} (e : Ext F i F1 i1) (h : REnv c F i σ ρ) : REnv c F1 i1 σ ρ :=
  ⟨h.1, fun j d q => let ⟨v, h1, h2⟩ := h.2 j d q; ⟨v, h1, rpe_mono e h2⟩⟩
theorem renv_set {c : Cw} {F : Hp} {io : List Addr} {σ : L2.St} {ρ : Env} (h : REnv c F io σ ρ) {v : V} {d : D} (r : RpE c F io v d) (i : Nat) : REnv c F io (σ.set i (some v)) (ρ.set i (some d)) := by
  refine ⟨by rw [List.length_set, List.length_set]; exact h.1, fun j d' q => ?_⟩
  by_cases hj : i = j
  · subst hj
    have hl : i < ρ.length := by
      have := (List.getElem?_eq_some_iff.mp q).1
      simpa using this
    rw [List.getElem?_set_self hl] at q
    have q : d = d' := Option.some.inj (Option.some.inj q)
    subst q
    have hs : i < σ.length := by rw [h.1]; exact hl
    exact ⟨v, List.getElem?_set_self hs, r⟩
  · rw [List.getElem?_set_ne hj] at q ⊢
    exact h.2 j d' q
theorem renv_none {c : Cw} {F : Hp} {io : List Addr} {σ : L2.St} {ρ : Env} (h : REnv c F io σ ρ) (i : Nat) : REnv c F io (σ.set i none) (ρ.set i none) := by
  refine ⟨by rw [List.length_set, List.length_set]; exact h.1, fun j d' q => ?_⟩
  by_cases hj : i = j
  · subst hj
    have hl : i < ρ.length := by
      have := (List.getElem?_eq_some_iff.mp q).1
      simpa using this
    rw [List.getElem?_set_self hl] at q
    cases q
  · rw [List.getElem?_set_ne hj] at q ⊢
    exact h.2 j d' q

section
variable {α β γ δ : Type}
def Aft (c : Cw) (G F : Hp) (io : List Addr) (σ : L2.St) (R : Hp → List Addr → β → α → Prop) (Q : β → Hp → Prop) : Res α → Prop
  | .ok d S => ∀ v F' io' H', Ext F io F' io' → Good c.K G F' io' H' S → R F' io' v d → Q v H'
  | .exc n as S => ∀ cls dd F' io' H', Ext F io F' io' → Good c.K G F' io' H' S → IsX c.K F' n as cls dd → c.W cls dd σ H'
  | .bad => False
variable {c : Cw} {G F F1 : Hp} {io io1 : List Addr} {σ : L2.St} {R : Hp → List Addr → β → α → Prop} {Q : β → Hp → Prop}
theorem Aft.ext {r : Res α} (h : Aft c G F io σ R Q r) (e : Ext F io F1 io1) : Aft c G F1 io1 σ R Q r := by
  cases r with
  | ok d S => exact fun v F' io' H' e' => h v F' io' H' (e.trans e')
  | exc n as S => exact fun cls dd F' io' H' e' => h cls dd F' io' H' (e.trans e')
  | bad => exact h
theorem Aft.step {R1 : Hp → List Addr → δ → γ → Prop} {Q1 : δ → Hp → Prop} {r : Res γ} {k : γ → Sto → Res α} (h : Aft c G F io σ R Q (r.bind k))
    (go : ∀ d S1 v F1 io1 H1, Ext F io F1 io1 → Good c.K G F1 io1 H1 S1 → R1 F1 io1 v d → Aft c G F1 io1 σ R Q (k d S1) → Q1 v H1) : Aft c G F io σ R1 Q1 r := by
  cases r with
  | ok d S1 => exact fun v F1 io1 H1 e g r => go d S1 v F1 io1 H1 e g r (Aft.ext (r := k d S1) h e)
  | exc n as S => exact h
  | bad => exact h
theorem Aft.here {d : α} {S : Sto} {v : β} {H : Hp} (h : Aft c G F io σ R Q (.ok d S)) (g : Good c.K G F io H S) (r : R F io v d) : Q v H := h v F io H (Ext.refl F io) g r
end
abbrev rp (c : Cw) : Hp → List Addr → V → D → Prop := fun F io v d => Rp c.K F io v d
abbrev rpA (c : Cw) : Hp → List Addr → List V → List D → Prop := fun F io vs ds => RpA c.K F io vs ds
abbrev rpB : Hp → List Addr → Bool → Bool → Prop := fun _ _ a b => a = b
def Res.asB : Res D → Res Bool
  | .ok (.p (.bool b)) S => .ok b S
  | .ok _ _ => .bad
  | .exc n as S => .exc n as S
  | .bad => .bad
abbrev FE := Env → Sto → Res D
abbrev FA := Env → Sto → Res (List D)
def tE (c : Cw) (f : FE) : TE := fun σ H Q => ∃ G F io S ρ, Good c.K G F io H S ∧ REnv c F io σ ρ ∧ Aft c G F io σ (rp c) Q (f ρ S)
def tA (c : Cw) (f : FA) : TA := fun σ H Q => ∃ G F io S ρ, Good c.K G F io H S ∧ REnv c F io σ ρ ∧ Aft c G F io σ (rpA c) Q (f ρ S)
def tT (c : Cw) (f : FE) : TT := fun σ H Q => ∃ G F io S ρ, Good c.K G F io H S ∧ REnv c F io σ ρ ∧ Aft c G F io σ rpB Q (f ρ S).asB

section
variable {X : Cx} {e : Expr} {es : List Expr}
theorem pe_imp {t t' : TE} (h : PE X e t) (i : ∀ σ H Q, t' σ H Q → t σ H Q) : PE X e t' := ⟨fun pins s σ H Q I q => h.run pins s σ H Q I (i σ H Q q)⟩
theorem pt_imp {t t' : TT} (h : PT X e t) (i : ∀ σ H Q, t' σ H Q → t σ H Q) : PT X e t' := ⟨fun pins s σ H Q I q => h.run pins s σ H Q I (i σ H Q q)⟩
theorem pw_imp {t t' : TT} (h : PW X e t) (i : ∀ σ H Q, t' σ H Q → t σ H Q) : PW X e t' := ⟨fun wh pins s σ H Q I q => h.run wh pins s σ H Q I (i σ H Q q)⟩
theorem pa_imp {t t' : TA} (h : PA X es t) (i : ∀ σ H Q, t' σ H Q → t σ H Q) : PA X es t' := ⟨fun pos pins s σ H Q I q => h.run pos pins s σ H Q I (i σ H Q q)⟩
theorem ps_imp {st : Stmt} {t t' : TS} (h : PS X st t) (i : ∀ D σ H, t' D σ H → t D σ H) : PS X st t' := ⟨fun pins s σ H D I q => h.run pins s σ H D I (i D σ H q)⟩
theorem pss_imp {st : List Stmt} {t t' : TS} (h : PSs X st t) (i : ∀ D σ H, t' D σ H → t D σ H) : PSs X st t' := ⟨fun pins s σ H D I q => h.run pins s σ H D I (i D σ H q)⟩
end

/-! ### names, constants -/
def fVar (i : Nat) : FE := fun ρ S => match ρ[i]? with
  | some (some .exn) => .bad
  | some (some d) => .ok d S
  | _ => .bad
def fCon (d : PyData) : FE := fun _ S => .ok (.p d) S
section
variable {X : Cx} {e a b : Expr} {es : List Expr} {c : Cw} {fa fb fc : FE} {pos : Pos}
theorem fe_var {i : Nat} (h : PE X e (tVar i)) : PE X e (tE c (fVar i)) := pe_imp h fun σ H Q ⟨G, F, io, S, ρ, g, r, q⟩ => by
  unfold fVar at q
  cases h1 : ρ[i]? with
  | none => rw [h1] at q; exact q.elim
  | some o =>
    cases o with
    | none => rw [h1] at q; exact q.elim
    | some d =>
      rw [h1] at q
      obtain ⟨v, h2, h3⟩ := r.2 i d h1
      cases d with
      | exn => exact q.elim
      | p d => exact ⟨v, h2, Aft.here q g h3⟩
      | own k => exact ⟨v, h2, Aft.here q g h3⟩
      | wld d l => exact ⟨v, h2, Aft.here q g h3⟩
      | scr ns => exact ⟨v, h2, Aft.here q g h3⟩
      | dz kvs => exact ⟨v, h2, Aft.here q g h3⟩
      | fn q0 => exact ⟨v, h2, Aft.here q g h3⟩
      | err n0 as0 => exact ⟨v, h2, Aft.here q g h3⟩
      | mix xs0 => exact ⟨v, h2, Aft.here q g h3⟩
      | mtp xs0 => exact ⟨v, h2, Aft.here q g h3⟩
theorem fe_con {v : V} {d : PyData} (h : PE X e (tC v)) (hd : ∀ F, Dq c.K F v d) : PE X e (tE c (fCon d)) := pe_imp h fun σ H Q ⟨G, F, io, S, ρ, g, r, q⟩ =>
  Aft.here (v := v) q g (hd F)
theorem fe_int {i : Int} {j} : PE X (.Constant (.int i) j pos) (tE c (fCon (.int i))) := fe_con pe_int fun _ => .int i
theorem fe_bl {b : Bool} {j} : PE X (.Constant (.bool b) j pos) (tE c (fCon (.bool b))) := fe_con pe_bl fun _ => .bl b
theorem fe_non {j} : PE X (.Constant .none j pos) (tE c (fCon .none)) := fe_con pe_non fun _ => .non
theorem fe_str {x : Str} {j} : PE X (.Constant (.str x) j pos) (tE c (fCon (.str x))) := fe_con pe_str fun _ => .str x

/-! ### two-place operations -/
def fBin (g : D → D → Sto → Res D) (fa fb : FE) : FE := fun ρ S => (fa ρ S).bind fun x S1 => (fb ρ S1).bind fun y S2 => g x y S2
def BOp (c : Cw) (r : R2) (g : D → D → Sto → Res D) : Prop := ∀ G F io H S σ x y dx dy Q, Good c.K G F io H S → Rp c.K F io x dx → Rp c.K F io y dy → Aft c G F io σ (rp c) Q (g dx dy S) → r x y H Q
theorem fe_op {r : R2} {g : D → D → Sto → Res D} (hop : ∀ {ta tb : TE}, PE X a ta → PE X b tb → PE X e (tOp r ta tb)) (hr : BOp c r g) (ha : PE X a (tE c fa)) (hb : PE X b (tE c fb)) : PE X e (tE c (fBin g fa fb)) :=
  pe_imp (hop ha hb) fun σ H Q ⟨G, F, io, S, ρ, gd, re, q⟩ => ⟨G, F, io, S, ρ, gd, re, Aft.step q fun d1 S1 v1 F1 i1 H1 e1 g1 r1 q1 =>
    ⟨G, F1, i1, S1, ρ, g1, renv_mono e1 re, Aft.step q1 fun d2 S2 v2 F2 i2 H2 e2 g2 r2 q2 => hr G F2 i2 H2 S2 σ v1 v2 d1 d2 Q g2 (rp_mono e2 r1) r2 q2⟩⟩
theorem ft_op {r : R2} {g : D → D → Sto → Res D} (hop : ∀ {ta tb : TE}, PE X a ta → PE X b tb → PT X e (tTest (tOp r ta tb))) (hr : BOp c r g) (ha : PE X a (tE c fa)) (hb : PE X b (tE c fb)) : PT X e (tT c (fBin g fa fb)) :=
  pt_imp (hop ha hb) fun σ H Q ⟨G, F, io, S, ρ, gd, re, q⟩ => by
    have toB : ∀ {G F : Hp} {io : List Addr} {r : Res D}, Aft c G F io σ rpB Q r.asB → Aft c G F io σ (rp c) (fun x H' => ∃ k, x = .bl k ∧ Q k H') r := fun {G F io r} h => by
      cases r with
      | ok d S =>
        cases d with
        | p d =>
          cases d with
          | bool b =>
            intro v F' io' H' e' g' r'
            cases r'
            exact ⟨b, rfl, h b F' io' H' e' g' rfl⟩
          | _ => exact h.elim
        | _ => exact h.elim
      | exc n as S => exact h
      | bad => exact h
    have q2 := toB q
    exact ⟨G, F, io, S, ρ, gd, re, Aft.step q2 fun d1 S1 v1 F1 i1 H1 e1 g1 r1 q1 =>
      ⟨G, F1, i1, S1, ρ, g1, renv_mono e1 re, Aft.step q1 fun d2 S2 v2 F2 i2 H2 e2 g2 r2 q2 => hr G F2 i2 H2 S2 σ v1 v2 d1 d2 _ g2 (rp_mono e2 r1) r2 q2⟩⟩
theorem aft_b {G F : Hp} {io : List Addr} {σ : L2.St} {r : Res D} {Q : Bool → Hp → Prop} (h : Aft c G F io σ rpB Q r.asB) : Aft c G F io σ (rp c) (fun x H' => ∃ k, x = .bl k ∧ Q k H') r := by
  cases r with
  | ok d S =>
    cases d with
    | p d =>
      cases d with
      | bool b =>
        intro v F' io' H' e' g' r'
        cases r'
        exact ⟨b, rfl, h b F' io' H' e' g' rfl⟩
      | _ => exact h.elim
    | _ => exact h.elim
  | exc n as S => exact h
  | bad => exact h
/-- a bool's value as a test -/
theorem ft_val {f : FE} (h : PE X e (tE c f)) (he : ∀ whole, isTrue e X.env whole = (do let v ← whole; standAt e.pos; holding [v] (truthy v)) := by intro _; rfl) : PT X e (tT c f) :=
  pt_imp (pt_val h he) fun σ H Q ⟨G, F, io, S, ρ, gd, re, q⟩ => ⟨G, F, io, S, ρ, gd, re, aft_b q⟩
/-! and, or, not, if -/
def fAnd (fa fb : FE) : FE := fun ρ S => (fa ρ S).asB.bind fun k S1 => if k = true then fb ρ S1 else .ok (.p (.bool false)) S1
def fOr (fa fb : FE) : FE := fun ρ S => (fa ρ S).asB.bind fun k S1 => if k = true then .ok (.p (.bool true)) S1 else fb ρ S1
def fNot (fa : FE) : FE := fun ρ S => (fa ρ S).asB.bind fun k S1 => .ok (.p (.bool (!k))) S1
def fIf (fc fa fb : FE) : FE := fun ρ S => (fc ρ S).asB.bind fun k S1 => if k = true then fa ρ S1 else fb ρ S1
theorem asB_bind (r : Res Bool) (k : Bool → Sto → Res D) : (r.bind k).asB = r.bind fun b S => (k b S).asB := by cases r <;> rfl
variable {rest : List Expr}
theorem fw_and1 (ha : PT X a (tT c fa)) : PW X (.BoolOp .And [a] pos) (tT c fa) := pw_and1 ha
theorem fw_or1 (ha : PT X a (tT c fa)) : PW X (.BoolOp .Or [a] pos) (tT c fa) := pw_or1 ha
theorem fw_and (ha : PT X a (tT c fa)) (hb : PW X (.BoolOp .And (b :: rest) pos) (tT c fb)) : PW X (.BoolOp .And (a :: b :: rest) pos) (tT c (fAnd fa fb)) :=
  pw_imp (pw_and ha hb) fun σ H Q ⟨G, F, io, S, ρ, gd, re, q⟩ => by
    unfold fAnd at q
    rw [asB_bind] at q
    refine ⟨G, F, io, S, ρ, gd, re, Aft.step q fun k S1 k' F1 i1 H1 e1 g1 r1 q1 => ?_⟩
    have r1 : k' = k := r1
    subst r1
    cases k' with
    | true => exact ⟨G, F1, i1, S1, ρ, g1, renv_mono e1 re, q1⟩
    | false => exact Aft.here (v := false) q1 g1 rfl
theorem fw_or (ha : PT X a (tT c fa)) (hb : PW X (.BoolOp .Or (b :: rest) pos) (tT c fb)) : PW X (.BoolOp .Or (a :: b :: rest) pos) (tT c (fOr fa fb)) :=
  pw_imp (pw_or ha hb) fun σ H Q ⟨G, F, io, S, ρ, gd, re, q⟩ => by
    unfold fOr at q
    rw [asB_bind] at q
    refine ⟨G, F, io, S, ρ, gd, re, Aft.step q fun k S1 k' F1 i1 H1 e1 g1 r1 q1 => ?_⟩
    have r1 : k' = k := r1
    subst r1
    cases k' with
    | true => exact Aft.here (v := true) q1 g1 rfl
    | false => exact ⟨G, F1, i1, S1, ρ, g1, renv_mono e1 re, q1⟩
theorem ft_not (ha : PT X a (tT c fa)) : PT X (.UnaryOp .Not a pos) (tT c (fNot fa)) :=
  pt_imp (pt_not ha) fun σ H Q ⟨G, F, io, S, ρ, gd, re, q⟩ => by
    unfold fNot at q
    rw [asB_bind] at q
    refine ⟨G, F, io, S, ρ, gd, re, Aft.step q fun k S1 k' F1 i1 H1 e1 g1 r1 q1 => ?_⟩
    have r1 : k' = k := r1
    subst r1
    exact Aft.here (v := !k') q1 g1 rfl
theorem fe_and1 {op} (ha : PE X a (tE c fa)) : PE X (.BoolOp op [a] pos) (tE c fa) := pe_one ha
theorem fe_and (ha : PE X a (tE c fa)) (hb : PE X (.BoolOp .And (b :: rest) pos) (tE c fb)) : PE X (.BoolOp .And (a :: b :: rest) pos) (tE c (fAnd fa fb)) :=
  pe_imp (pe_and ha hb) fun σ H Q ⟨G, F, io, S, ρ, gd, re, q⟩ => by
    unfold fAnd at q
    refine ⟨G, F, io, S, ρ, gd, re, ?_⟩
    have q2 := Aft.step (R1 := rpB) (Q1 := fun k H' => if k = true then tE c fb σ H' Q else Q (.bl false) H') q fun k S1 k' F1 i1 H1 e1 g1 r1 q1 => by
      have r1 : k' = k := r1
      subst r1
      cases k' with
      | true => exact ⟨G, F1, i1, S1, ρ, g1, renv_mono e1 re, q1⟩
      | false => exact Aft.here (v := .bl false) q1 g1 (show rp c F1 i1 (.bl false) (.p (.bool false)) from Dq.bl false)
    exact aft_b q2
theorem fe_or (ha : PE X a (tE c fa)) (hb : PE X (.BoolOp .Or (b :: rest) pos) (tE c fb)) : PE X (.BoolOp .Or (a :: b :: rest) pos) (tE c (fOr fa fb)) :=
  pe_imp (pe_or ha hb) fun σ H Q ⟨G, F, io, S, ρ, gd, re, q⟩ => by
    unfold fOr at q
    refine ⟨G, F, io, S, ρ, gd, re, ?_⟩
    have q2 := Aft.step (R1 := rpB) (Q1 := fun k H' => if k = true then Q (.bl true) H' else tE c fb σ H' Q) q fun k S1 k' F1 i1 H1 e1 g1 r1 q1 => by
      have r1 : k' = k := r1
      subst r1
      cases k' with
      | true => exact Aft.here (v := .bl true) q1 g1 (show rp c F1 i1 (.bl true) (.p (.bool true)) from Dq.bl true)
      | false => exact ⟨G, F1, i1, S1, ρ, g1, renv_mono e1 re, q1⟩
    exact aft_b q2
theorem fe_not (ha : PE X a (tE c fa)) : PE X (.UnaryOp .Not a pos) (tE c (fNot fa)) :=
  pe_imp (pe_not ha) fun σ H Q ⟨G, F, io, S, ρ, gd, re, q⟩ => by
    unfold fNot at q
    refine ⟨G, F, io, S, ρ, gd, re, ?_⟩
    have q2 := Aft.step (R1 := rpB) (Q1 := fun k H' => Q (.bl (!k)) H') q fun k S1 k' F1 i1 H1 e1 g1 r1 q1 => by
      have r1 : k' = k := r1
      subst r1
      exact Aft.here (v := .bl (!k')) q1 g1 (show rp c F1 i1 (.bl (!k')) (.p (.bool (!k'))) from Dq.bl (!k'))
    exact aft_b q2
theorem fe_if {cx : Expr} (hc : PT X cx (tT c fc)) (ha : PE X a (tE c fa)) (hb : PE X b (tE c fb)) : PE X (.IfExp cx a b pos) (tE c (fIf fc fa fb)) :=
  pe_imp (pe_ifExp hc ha hb) fun σ H Q ⟨G, F, io, S, ρ, gd, re, q⟩ => by
    unfold fIf at q
    refine ⟨G, F, io, S, ρ, gd, re, Aft.step q fun k S1 k' F1 i1 H1 e1 g1 r1 q1 => ?_⟩
    have r1 : k' = k := r1
    subst r1
    cases k' with
    | true => exact ⟨G, F1, i1, S1, ρ, g1, renv_mono e1 re, q1⟩
    | false => exact ⟨G, F1, i1, S1, ρ, g1, renv_mono e1 re, q1⟩
/-! one-place -/
def fUn (g : D → Sto → Res D) (fa : FE) : FE := fun ρ S => (fa ρ S).bind g
def UOp (c : Cw) (r : V → Hp → VK → Prop) (g : D → Sto → Res D) : Prop := ∀ G F io H S σ x dx Q, Good c.K G F io H S → Rp c.K F io x dx → Aft c G F io σ (rp c) Q (g dx S) → r x H Q
theorem fe_un {r : V → Hp → VK → Prop} {g : D → Sto → Res D} (hop : ∀ {t : TE}, PE X a t → PE X e (tUn r t)) (hr : UOp c r g) (ha : PE X a (tE c fa)) : PE X e (tE c (fUn g fa)) :=
  pe_imp (hop ha) fun σ H Q ⟨G, F, io, S, ρ, gd, re, q⟩ => ⟨G, F, io, S, ρ, gd, re, Aft.step q fun d1 S1 v1 F1 i1 H1 e1 g1 r1 q1 => hr G F1 i1 H1 S1 σ v1 d1 Q g1 r1 q1⟩
/-! arguments -/
def fNil : FA := fun _ S => .ok [] S
def fCons (fa : FE) (fr : FA) : FA := fun ρ S => (fa ρ S).bind fun x S1 => (fr ρ S1).bind fun xs S2 => .ok (x :: xs) S2
theorem fa_nil : PA X [] (tA c fNil) := pa_imp pa_nil fun σ H Q ⟨G, F, io, S, ρ, gd, re, q⟩ => Aft.here (v := []) q gd .nil
theorem fa_cons {fr : FA} (ha : PE X a (tE c fa)) (hr : PA X es (tA c fr)) (hs : starEach (a :: es) X.env = (false, eval a X.env) :: starEach es X.env := by rfl) : PA X (a :: es) (tA c (fCons fa fr)) :=
  pa_imp (pa_cons ha hr hs) fun σ H Q ⟨G, F, io, S, ρ, gd, re, q⟩ => ⟨G, F, io, S, ρ, gd, re, Aft.step q fun d1 S1 v1 F1 i1 H1 e1 g1 r1 q1 =>
    ⟨G, F1, i1, S1, ρ, g1, renv_mono e1 re, Aft.step q1 fun ds S2 vs F2 i2 H2 e2 g2 r2 q2 => Aft.here (v := v1 :: vs) q2 g2 (.cons (rp_mono e2 r1) r2)⟩⟩
/-- pure data all -/
def asPs : List D → Option (List PyData)
  | [] => some []
  | .p d :: r => (asPs r).map (d :: ·)
  | _ :: _ => none
theorem asPs_ok {K : PySem.W.Frag} {F : Hp} {io : List Addr} : ∀ {ds : List D} {vs : List V} {ps : List PyData}, asPs ds = some ps → RpA K F io vs ds → DqA K F vs ps
  | [], _, ps, h, r => by
    cases r
    have h : [] = ps := Option.some.inj h
    subst h
    exact .nil
  | .p d :: ds, _, ps, h, r => by
    cases r with
    | cons r1 r2 =>
      have h : (asPs ds).map (d :: ·) = some ps := h
      cases q : asPs ds with
      | none => rw [q] at h; cases h
      | some ps' =>
        rw [q] at h
        have h : d :: ps' = ps := Option.some.inj h
        subst h
        exact .cons r1 (asPs_ok q r2)
  | .own _ :: _, _, _, h, _ => by cases h
  | .wld _ _ :: _, _, _, h, _ => by cases h
  | .exn :: _, _, _, h, _ => by cases h
  | .scr _ :: _, _, _, h, _ => by cases h
  | .fn _ :: _, _, _, h, _ => by cases h
  | .err _ _ :: _, _, _, h, _ => by cases h
  | .mix _ :: _, _, _, h, _ => by cases h
  | .mtp _ :: _, _, _, h, _ => by cases h
/-- a list's length as the layer takes it -/
def lim : Nat := 1000000
theorem lim_line : lim ≤ sizeLine := by decide
theorem paired_len {α β : Type} {R : α → β → Prop} : ∀ {xs : List α} {ys : List β}, Paired R xs ys → xs.length = ys.length
  | _, _, .nil => rfl
  | _, _, .cons _ t => by rw [List.length_cons, List.length_cons, paired_len t]
def fTup (fr : FA) : FE := fun ρ S => (fr ρ S).bind fun ds S1 => match asPs ds with
  | some ps => if ds.length < lim then .ok (.p (.tuple ps)) S1 else .bad
  | none => .bad
def fLst (fr : FA) : FE := fun ρ S => (fr ρ S).bind fun ds S1 => match asPs ds with
  | some ps => if ds.length < lim then .ok (.p (.list ps)) S1 else .bad
  | none => .bad
/-- a list that will change -/
def fLstO (fr : FA) : FE := fun ρ S => (fr ρ S).bind fun ds S1 => if ds.length < lim then .ok (.own S1.length) (S1 ++ [.lst ds]) else .bad
theorem fe_tup {fr : FA} {x1} (h : PA X es (tA c fr)) : PE X (.Tuple es x1 pos) (tE c (fTup fr)) :=
  pe_imp (pe_tup h) fun σ H Q ⟨G, F, io, S, ρ, gd, re, q⟩ => ⟨G, F, io, S, ρ, gd, re, Aft.step q fun ds S1 vs F1 i1 H1 e1 g1 r1 q1 => by
    cases h1 : asPs ds with
    | none => rw [h1] at q1; exact q1.elim
    | some ps =>
      rw [h1] at q1
      by_cases hl : ds.length < lim
      · simp only [if_pos hl] at q1
        refine ⟨by rw [paired_len r1]; exact Nat.le_trans (Nat.le_of_lt hl) lim_line, fun p hp => ?_⟩
        obtain ⟨g2, e2⟩ := g1.new (o := .tup vs) hp
        exact q1 (.ref p) _ _ _ e2 g2 (.tup (.inl upd_same) (dpa_mono e2.same _ _ (asPs_ok h1 r1)))
      · simp only [if_neg hl] at q1
        exact q1.elim⟩
theorem fe_lst {fr : FA} (h : PA X es (tA c fr)) : PE X (.List es pos) (tE c (fLst fr)) :=
  pe_imp (pe_lst h) fun σ H Q ⟨G, F, io, S, ρ, gd, re, q⟩ => ⟨G, F, io, S, ρ, gd, re, Aft.step q fun ds S1 vs F1 i1 H1 e1 g1 r1 q1 => by
    cases h1 : asPs ds with
    | none => rw [h1] at q1; exact q1.elim
    | some ps =>
      rw [h1] at q1
      by_cases hl : ds.length < lim
      · simp only [if_pos hl] at q1
        refine ⟨by rw [paired_len r1]; exact Nat.le_trans (Nat.le_of_lt hl) lim_line, fun p hp => ?_⟩
        obtain ⟨g2, e2⟩ := g1.new (o := .lst vs) hp
        exact q1 (.ref p) _ _ _ e2 g2 (.lst upd_same (dpa_mono e2.same _ _ (asPs_ok h1 r1)))
      · simp only [if_neg hl] at q1
        exact q1.elim⟩
theorem own_last {io : List Addr} {p : Addr} : (io ++ [p])[io.length]? = some p := by simp
theorem fe_lstO {fr : FA} (h : PA X es (tA c fr)) : PE X (.List es pos) (tE c (fLstO fr)) :=
  pe_imp (pe_lst h) fun σ H Q ⟨G, F, io, S, ρ, gd, re, q⟩ => ⟨G, F, io, S, ρ, gd, re, Aft.step q fun ds S1 vs F1 i1 H1 e1 g1 r1 q1 => by
    by_cases hl : ds.length < lim
    · simp only [if_pos hl] at q1
      refine ⟨by rw [paired_len r1]; exact Nat.le_trans (Nat.le_of_lt hl) lim_line, fun p hp => ?_⟩
      have e0 : Ext F1 i1 F1 (i1 ++ [p]) := ⟨Same.refl _, [p], rfl⟩
      obtain ⟨g2, e2⟩ := g1.newOwn (o := .lst vs) (x := .lst ds) hp ⟨g1.out hp, vs, upd_same, rpa_mono e0 r1⟩
      exact q1 (.ref p) _ _ _ e2 g2 ⟨p, rfl, by rw [← g1.len]; exact own_last⟩
    · simp only [if_neg hl] at q1
      exact q1.elim⟩
/-! calls of built-ins by values -/
def fCall (g : List D → Sto → Res D) (fr : FA) : FE := fun ρ S => (fr ρ S).bind g
def BCall (c : Cw) (r : List V → Hp → VK → Prop) (g : List D → Sto → Res D) : Prop := ∀ G F io H S σ xs ds Q, Good c.K G F io H S → RpA c.K F io xs ds → Aft c G F io σ (rp c) Q (g ds S) → r xs H Q
theorem fe_call {r : List V → Hp → VK → Prop} {g : List D → Sto → Res D} {fr : FA} (hop : ∀ {t : TA}, PA X es t → PE X e (tCB r t)) (hr : BCall c r g) (ha : PA X es (tA c fr)) : PE X e (tE c (fCall g fr)) :=
  pe_imp (hop ha) fun σ H Q ⟨G, F, io, S, ρ, gd, re, q⟩ => ⟨G, F, io, S, ρ, gd, re, Aft.step q fun ds S1 vs F1 i1 H1 e1 g1 r1 q1 => hr G F1 i1 H1 S1 σ vs ds Q g1 r1 q1⟩
end
end Tw
namespace Tw
open PySem PySem.Spec PyProof.Rows L2N
open L2 hiding St XE Takes CX takes_of passes_call MkP PMk ps_raise mk_of ps_try_as ps_try_many pmk_own passAt

/-! ### ints -/
def gI (h : Int → Int → PyData) : D → D → Sto → Res D := fun dx dy S => match dx, dy with
  | .p (.int i), .p (.int j) => .ok (.p (h i j)) S
  | _, _ => .bad
def gIC (C : Int → Int → Bool) (h : Int → Int → PyData) : D → D → Sto → Res D := fun dx dy S => match dx, dy with
  | .p (.int i), .p (.int j) => if C i j = true then .ok (.p (h i j)) S else .bad
  | _, _ => .bad
theorem two_ints {dx dy : D} {α : Type} {t : Int → Int → α} {z : α} (P : α → Prop) (h : P (match dx, dy with
  | .p (.int i), .p (.int j) => t i j
  | _, _ => z)) (hz : ¬ P z) : ∃ i j, dx = .p (.int i) ∧ dy = .p (.int j) ∧ P (t i j) := by
  cases dx with
  | p a =>
    cases a with
    | int i =>
      cases dy with
      | p b =>
        cases b with
        | int j => exact ⟨i, j, rfl, rfl, h⟩
        | _ => exact absurd h hz
      | _ => exact absurd h hz
    | _ => exact absurd h hz
  | _ => exact absurd h hz
section
variable {c : Cw}
theorem hereP {G F : Hp} {io : List Addr} {σ : L2.St} {Q : VK} {d : PyData} {S : Sto} {v : V} {H : Hp} (h : Aft c G F io σ (rp c) Q (.ok (.p d) S)) (g : Good c.K G F io H S) (r : Dq c.K F v d) : Q v H := Aft.here (v := v) h g r
theorem aft_bad {G F : Hp} {io : List Addr} {σ : L2.St} {Q : VK} : ¬ Aft c G F io σ (rp c) Q .bad := fun h => h
theorem bop_I0 {g : Int → Int → V} {h : Int → Int → PyData} (hg : ∀ i j F, Dq c.K F (g i j) (h i j)) : BOp c (rI0 g) (gI h) := fun G F io H S σ x y dx dy Q gd rx ry q => by
  obtain ⟨i, j, rfl, rfl, q⟩ := two_ints (Aft c G F io σ (rp c) Q) q aft_bad
  cases rx
  cases ry
  exact ⟨i, j, rfl, rfl, hereP (v := g i j) q gd (hg i j F)⟩
theorem bop_IC {P : Int → Int → Prop} {C : Int → Int → Bool} {g : Int → Int → V} {h : Int → Int → PyData} (hC : ∀ i j, C i j = true → P i j) (hg : ∀ i j F, Dq c.K F (g i j) (h i j)) : BOp c (rI P g) (gIC C h) := fun G F io H S σ x y dx dy Q gd rx ry q => by
  obtain ⟨i, j, rfl, rfl, q⟩ := two_ints (Aft c G F io σ (rp c) Q) q aft_bad
  cases rx
  cases ry
  have q : Aft c G F io σ (rp c) Q (if C i j = true then Res.ok (D.p (h i j)) S else Res.bad) := q
  by_cases hc : C i j = true
  · rw [if_pos hc] at q
    exact ⟨i, j, rfl, rfl, hC i j hc, hereP (v := g i j) q gd (hg i j F)⟩
  · rw [if_neg hc] at q
    exact q.elim
def gMinus := gI fun i j => .int (i - j)
def cMul (i j : Int) : Bool := decide (-(2 ^ 64) < i ∧ i < 2 ^ 64) || decide (-(2 ^ 64) < j ∧ j < 2 ^ 64)
def gMul := gIC cMul fun i j => .int (i * j)
def cDiv (i j : Int) : Bool := decide (0 < j ∧ j < 1073741824)
def gDiv := gIC cDiv fun i j => .int (i / j)
def gMod := gIC (fun _ j => decide (0 < j)) fun i j => .int (i % j)
def cPow (i j : Int) : Bool := decide (0 ≤ j ∧ j ≤ 1000000 ∧ i.natAbs < 2 ^ 64)
def gPow := gIC cPow fun i j => .int (i ^ j.toNat)
def gLt := gI fun i j => .bool (decide (i < j))
def gLe := gI fun i j => .bool (decide (i ≤ j))
def gGt := gI fun i j => .bool (decide (j < i))
def gGe := gI fun i j => .bool (decide (j ≤ i))
theorem bop_sub : BOp c (rI0 fun i j => .int (i - j)) gMinus := bop_I0 fun _ _ _ => .int _
theorem bop_mul : BOp c (rI CMul fun i j => .int (i * j)) gMul := bop_IC (fun i j h => by
  unfold cMul at h
  rw [Bool.or_eq_true] at h
  rcases h with h | h
  · exact .inl (of_decide_eq_true h)
  · exact .inr (of_decide_eq_true h)) fun _ _ _ => .int _
theorem bop_div : BOp c (rI CDiv fun i j => .int (i / j)) gDiv := bop_IC (fun i j h => (of_decide_eq_true h : 0 < j ∧ j < 1073741824)) fun _ _ _ => .int _
theorem bop_mod : BOp c (rI (fun _ j => 0 < j) fun i j => .int (i % j)) gMod := bop_IC (fun _ _ h => of_decide_eq_true h) fun _ _ _ => .int _
theorem bop_pow : BOp c (rI CPow fun i j => .int (i ^ j.toNat)) gPow := bop_IC (fun i j h => (of_decide_eq_true h : 0 ≤ j ∧ j ≤ 1000000 ∧ i.natAbs < 2 ^ 64)) fun _ _ _ => .int _
theorem bop_lt : BOp c (rI0 fun i j => .bl (decide (i < j))) gLt := bop_I0 fun _ _ _ => .bl _
theorem bop_le : BOp c (rI0 fun i j => .bl (decide (i ≤ j))) gLe := bop_I0 fun _ _ _ => .bl _
theorem bop_gt : BOp c (rI0 fun i j => .bl (decide (j < i))) gGt := bop_I0 fun _ _ _ => .bl _
theorem bop_ge : BOp c (rI0 fun i j => .bl (decide (j ≤ i))) gGe := bop_I0 fun _ _ _ => .bl _
/-! ### + -/
def gAdd : D → D → Sto → Res D := fun dx dy S => match dx, dy with
  | .p (.int i), .p (.int j) => .ok (.p (.int (i + j))) S
  | .p (.tuple a), .p (.tuple b) => if a.length + b.length < lim then .ok (.p (.tuple (a ++ b))) S else .bad
  | .p (.list a), .p (.list b) => if a.length + b.length < lim then .ok (.p (.list (a ++ b))) S else .bad
  | .p (.str a), .p (.str b) => if a.length + b.length < lim then .ok (.p (.str (a ++ b))) S else .bad
  | .own k, .p (.list b) => match S[k]? with
    | some (.lst xs) => match asPs xs with
      | some a => if a.length + b.length < lim then .ok (.p (.list (a ++ b))) S else .bad
      | none => .bad
    | _ => .bad
  | _, _ => .bad
def rAddU (K : PySem.W.Frag) : R2 := fun x y H Q => rI0 (fun i j => .int (i + j)) x y H Q ∨ rCatA K x y H Q ∨ rCat x y H Q ∨ (fun x y H Q => ∃ i j, x = .str i ∧ y = .str j ∧ i.length + j.length ≤ sizeLine ∧ Q (.str (i ++ j)) H) x y H Q
theorem op_addU {X : Cx} : OpR X (binaryOp .Add) (rAddU X.K) := op_add.or (op_catA.or (op_cat.or op_add_str))
theorem lt_line {n : Nat} (h : n < lim) : n ≤ sizeLine := Nat.le_trans (Nat.le_of_lt h) lim_line
theorem new_tup {G F H : Hp} {io : List Addr} {S : Sto} {σ : L2.St} {Q : VK} {vs : List V} {ds : List PyData} (g : Good c.K G F io H S) (r : DqA c.K F vs ds) (q : Aft c G F io σ (rp c) Q (.ok (.p (.tuple ds)) S)) : ∀ p, H p = none → Q (.ref p) (upd H p (.tup vs)) := fun p hp => by
  obtain ⟨g2, e2⟩ := g.new (o := .tup vs) hp
  exact q (.ref p) _ _ _ e2 g2 (.tup (.inl upd_same) (dpa_mono e2.same _ _ r))
theorem new_lst {G F H : Hp} {io : List Addr} {S : Sto} {σ : L2.St} {Q : VK} {vs : List V} {ds : List PyData} (g : Good c.K G F io H S) (r : DqA c.K F vs ds) (q : Aft c G F io σ (rp c) Q (.ok (.p (.list ds)) S)) : ∀ p, H p = none → Q (.ref p) (upd H p (.lst vs)) := fun p hp => by
  obtain ⟨g2, e2⟩ := g.new (o := .lst vs) hp
  exact q (.ref p) _ _ _ e2 g2 (.lst upd_same (dpa_mono e2.same _ _ r))
theorem nil_of {K : PySem.W.Frag} {F : Hp} {vs : List V} {ds : List PyData} (r : DqA K F vs ds) : vs = [] ↔ ds = [] := by
  cases r <;> simp
theorem bop_add : BOp c (rAddU c.K) gAdd := fun G F io H S σ x y dx dy Q gd rx ry q => by
  cases dx with
  | p a =>
    cases a with
    | int i =>
      cases dy with
      | p b =>
        cases b with
        | int j =>
          cases rx
          cases ry
          exact .inl ⟨i, j, rfl, rfl, hereP (v := .int (i + j)) q gd (Dq.int _)⟩
        | _ => exact q.elim
      | _ => exact q.elim
    | tuple as =>
      cases dy with
      | p b =>
        cases b with
        | tuple bs =>
          cases rx with
          | @tup a xs _ hx ha =>
            cases ry with
            | @tup b ys _ hy hb =>
              have q : Aft c G F io σ (rp c) Q (if as.length + bs.length < lim then .ok (.p (.tuple (as ++ bs))) S else .bad) := q
              by_cases hl : as.length + bs.length < lim
              · rw [if_pos hl] at q
                have l1 := dpa_len _ _ ha
                have l2 := dpa_len _ _ hb
                refine .inr (.inl ⟨a, b, xs, ys, rfl, rfl, sq_t gd.ex hx.sq, sq_t gd.ex hy.sq, by rw [l1, l2]; exact lt_line hl, fun h0 => ?_, fun h0 h1 => ?_, fun h0 h1 => new_tup gd (dpa_app ha hb) q⟩)
                · have e0 : as = [] := (nil_of ha).mp h0
                  subst e0
                  rw [List.nil_append] at q
                  exact hereP (v := .ref b) q gd (.tup hy hb)
                · have e0 : bs = [] := (nil_of hb).mp h1
                  subst e0
                  rw [List.append_nil] at q
                  exact hereP (v := .ref a) q gd (.tup hx ha)
              · rw [if_neg hl] at q
                exact q.elim
        | _ => exact q.elim
      | _ => exact q.elim
    | list as =>
      cases dy with
      | p b =>
        cases b with
        | list bs =>
          cases rx with
          | @lst a xs _ hx ha =>
            cases ry with
            | @lst b ys _ hy hb =>
              have q : Aft c G F io σ (rp c) Q (if as.length + bs.length < lim then .ok (.p (.list (as ++ bs))) S else .bad) := q
              by_cases hl : as.length + bs.length < lim
              · rw [if_pos hl] at q
                have l1 := dpa_len _ _ ha
                have l2 := dpa_len _ _ hb
                exact .inr (.inr (.inl ⟨a, b, xs, ys, rfl, rfl, gd.ex _ _ hx, gd.ex _ _ hy, by rw [l1, l2]; exact lt_line hl, new_lst gd (dpa_app ha hb) q⟩))
              · rw [if_neg hl] at q
                exact q.elim
        | _ => exact q.elim
      | _ => exact q.elim
    | str i =>
      cases dy with
      | p b =>
        cases b with
        | str j =>
          cases rx
          cases ry
          have q : Aft c G F io σ (rp c) Q (if i.length + j.length < lim then .ok (.p (.str (i ++ j))) S else .bad) := q
          by_cases hl : i.length + j.length < lim
          · rw [if_pos hl] at q
            exact .inr (.inr (.inr ⟨i, j, rfl, rfl, lt_line hl, hereP (v := .str (i ++ j)) q gd (Dq.str _)⟩))
          · rw [if_neg hl] at q
            exact q.elim
        | _ => exact q.elim
      | _ => exact q.elim
    | _ => exact q.elim
  | own k =>
    cases dy with
    | p b =>
      cases b with
      | list bs =>
        have q : Aft c G F io σ (rp c) Q (match S[k]? with
          | some (.lst xs) => match asPs xs with
            | some a => if a.length + bs.length < lim then .ok (.p (.list (a ++ bs))) S else .bad
            | none => .bad
          | _ => .bad) := q
        cases hk : S[k]? with
        | none => rw [hk] at q; exact q.elim
        | some o =>
          rw [hk] at q
          cases o with
          | lst xs =>
            have q : Aft c G F io σ (rp c) Q (match asPs xs with
              | some a => if a.length + bs.length < lim then .ok (.p (.list (a ++ bs))) S else .bad
              | none => .bad) := q
            cases ha : asPs xs with
            | none => rw [ha] at q; exact q.elim
            | some as =>
              rw [ha] at q
              have q : Aft c G F io σ (rp c) Q (if as.length + bs.length < lim then .ok (.p (.list (as ++ bs))) S else .bad) := q
              by_cases hl : as.length + bs.length < lim
              · rw [if_pos hl] at q
                obtain ⟨a, e1, e2⟩ := rx
                obtain ⟨a', e3, h0, vs, h1, h2⟩ := gd.at_ hk
                rw [e2] at e3
                have e3 : a = a' := Option.some.inj e3
                subst e3
                cases ry with
                | @lst b ys _ hy hb =>
                  have d2 := asPs_ok ha h2
                  have l1 := dpa_len _ _ d2
                  have l2 := dpa_len _ _ hb
                  exact .inr (.inr (.inl ⟨a, b, vs, ys, e1, rfl, h1, gd.ex _ _ hy, by rw [l1, l2]; exact lt_line hl, new_lst gd (dpa_app d2 hb) q⟩))
              · rw [if_neg hl] at q
                exact q.elim
          | _ => exact q.elim
      | _ => exact q.elim
    | _ => exact q.elim
  | _ => exact q.elim
/-! ### ==, is None, in -/
def gEq : D → D → Sto → Res D := fun dx dy S => match dx, dy with
  | .p a, .p b => if (SeqAt.shaped a && SeqAt.shaped b) = true then .ok (.p (.bool (PyData.eqv a b))) S else .bad
  | _, _ => .bad
def gNe : D → D → Sto → Res D := fun dx dy S => match dx, dy with
  | .p a, .p b => if (SeqAt.shaped a && SeqAt.shaped b) = true then .ok (.p (.bool (!PyData.eqv a b))) S else .bad
  | _, _ => .bad
theorem bop_eq : BOp c (rEqD c.K) gEq := fun G F io H S σ x y dx dy Q gd rx ry q => by
  cases dx with
  | p a =>
    cases dy with
    | p b =>
      have q : Aft c G F io σ (rp c) Q (if (SeqAt.shaped a && SeqAt.shaped b) = true then .ok (.p (.bool (PyData.eqv a b))) S else .bad) := q
      by_cases hs : (SeqAt.shaped a && SeqAt.shaped b) = true
      · rw [if_pos hs] at q
        rw [Bool.and_eq_true] at hs
        exact ⟨a, b, dp_of gd.ex _ _ (lay_sh hs.1) rx, dp_of gd.ex _ _ (lay_sh hs.2) ry, hs.1, hs.2, hereP (v := .bl _) q gd (Dq.bl _)⟩
      · rw [if_neg hs] at q
        exact q.elim
    | _ => exact q.elim
  | _ => exact q.elim
theorem bop_ne : BOp c (rNeD c.K) gNe := fun G F io H S σ x y dx dy Q gd rx ry q => by
  cases dx with
  | p a =>
    cases dy with
    | p b =>
      have q : Aft c G F io σ (rp c) Q (if (SeqAt.shaped a && SeqAt.shaped b) = true then .ok (.p (.bool (!PyData.eqv a b))) S else .bad) := q
      by_cases hs : (SeqAt.shaped a && SeqAt.shaped b) = true
      · rw [if_pos hs] at q
        rw [Bool.and_eq_true] at hs
        exact ⟨a, b, dp_of gd.ex _ _ (lay_sh hs.1) rx, dp_of gd.ex _ _ (lay_sh hs.2) ry, hs.1, hs.2, hereP (v := .bl _) q gd (Dq.bl _)⟩
      · rw [if_neg hs] at q
        exact q.elim
    | _ => exact q.elim
  | _ => exact q.elim
def isN : D → Bool
  | .p .none => true
  | _ => false
theorem isN_ok {F : Hp} {io : List Addr} {x : V} {d : D} (r : Rp c.K F io x d) : decide (x = .non) = isN d := by
  cases d with
  | p a =>
    cases a with
    | none => cases r; rfl
    | _ => cases r <;> rfl
  | own k => obtain ⟨a, rfl, _⟩ := r; rfl
  | wld d l => obtain ⟨a, rfl, _⟩ := r; rfl
  | exn => exact r.elim
  | scr ns => obtain ⟨a, rfl, _⟩ := r; rfl
  | dz kvs => obtain ⟨a, _, _, rfl, _⟩ := r; rfl
  | fn q => obtain rfl := (show x = V.ref (He.ga c.K q) from r); rfl
  | err n as => obtain ⟨a, rfl, _⟩ := r; rfl
  | mix xs => obtain ⟨a, _, rfl, _⟩ := r; rfl
  | mtp xs => obtain ⟨a, _, rfl, _⟩ := r; rfl
def gIsN : D → D → Sto → Res D := fun dx dy S => match dy with
  | .p .none => .ok (.p (.bool (isN dx))) S
  | _ => .bad
def gNotN : D → D → Sto → Res D := fun dx dy S => match dy with
  | .p .none => .ok (.p (.bool (!isN dx))) S
  | _ => .bad
theorem bop_isN : BOp c (fun x y H Q => y = .non ∧ Q (.bl (decide (x = .non))) H) gIsN := fun G F io H S σ x y dx dy Q gd rx ry q => by
  cases dy with
  | p b =>
    cases b with
    | none =>
      cases ry
      exact ⟨rfl, hereP (v := .bl _) q gd (by rw [isN_ok rx]; exact Dq.bl _)⟩
    | _ => exact q.elim
  | _ => exact q.elim
theorem bop_notN : BOp c (fun x y H Q => y = .non ∧ Q (.bl (!decide (x = .non))) H) gNotN := fun G F io H S σ x y dx dy Q gd rx ry q => by
  cases dy with
  | p b =>
    cases b with
    | none =>
      cases ry
      exact ⟨rfl, hereP (v := .bl _) q gd (by rw [isN_ok rx]; exact Dq.bl _)⟩
    | _ => exact q.elim
  | _ => exact q.elim
def flatD : PyData → Bool
  | .none => true
  | .bool _ => true
  | .int _ => true
  | .str _ => true
  | _ => false
def toV : PyData → V
  | .none => .non
  | .bool b => .bl b
  | .int i => .int i
  | .str x => .str x
  | _ => .non
theorem flat_toV {F : Hp} {v : V} {d : PyData} (r : Dq c.K F v d) (h : flatD d = true) : v = toV d ∧ flatV v = true := by
  cases r <;> first | exact ⟨rfl, rfl⟩ | cases h
theorem flats_toV {F : Hp} : ∀ {ds : List PyData} {vs : List V}, DqA c.K F vs ds → ds.all flatD = true → vs = ds.map toV ∧ vs.all flatV = true
  | [], _, r, h => by cases r; exact ⟨rfl, rfl⟩
  | d :: ds, _, r, h => by
    cases r with
    | cons r1 r2 =>
      rw [List.all_cons, Bool.and_eq_true] at h
      obtain ⟨e1, f1⟩ := flat_toV r1 h.1
      obtain ⟨e2, f2⟩ := flats_toV r2 h.2
      exact ⟨by rw [List.map_cons, ← e1, ← e2], by rw [List.all_cons, f1, f2]; rfl⟩
/-- one flat thing equals another, as Python has it -/
def eqF : PyData → PyData → Bool := fun a b => eqV (toV a) (toV b)
def inF (d : PyData) (ds : List PyData) : Bool := ds.any fun y => eqF y d
theorem inF_ok (d : PyData) (ds : List PyData) : inV (toV d) (ds.map toV) = inF d ds := by
  unfold inV inF eqF
  rw [List.any_map]
  rfl
def gIn (neg : Bool) : D → D → Sto → Res D := fun dx dy S => match dx, dy with
  | .p a, .p (.tuple bs) => if (flatD a && bs.all flatD) = true then .ok (.p (.bool (if neg = true then !inF a bs else inF a bs))) S else .bad
  | .p a, .p (.list bs) => if (flatD a && bs.all flatD) = true then .ok (.p (.bool (if neg = true then !inF a bs else inF a bs))) S else .bad
  | _, _ => .bad
theorem bop_in {neg : Bool} : BOp c (rIn c.K neg) (gIn neg) := fun G F io H S σ x y dx dy Q gd rx ry q => by
  cases dx with
  | p a =>
    cases dy with
    | p b =>
      have main : ∀ (bs : List PyData) (p : Addr) (vs : List V), y = .ref p → (SqL c.K H p vs ∨ SqT c.K H p vs) → DqA c.K F vs bs →
          Aft c G F io σ (rp c) Q (if (flatD a && bs.all flatD) = true then .ok (.p (.bool (if neg = true then !inF a bs else inF a bs))) S else .bad) → rIn c.K neg x y H Q := fun bs p vs ey hs hb q => by
        by_cases hf : (flatD a && bs.all flatD) = true
        · rw [if_pos hf] at q
          rw [Bool.and_eq_true] at hf
          obtain ⟨e1, f1⟩ := flat_toV rx hf.1
          obtain ⟨e2, f2⟩ := flats_toV hb hf.2
          refine ⟨p, vs, ey, hs, f1, f2, Aft.here (v := .bl _) q gd ?_⟩
          rw [e1, e2, inF_ok]
          exact Dq.bl _
        · rw [if_neg hf] at q
          exact q.elim
      cases b with
      | tuple bs =>
        cases ry with
        | @tup p vs _ hy hb => exact main bs p vs rfl (.inr (sq_t gd.ex hy.sq)) hb q
      | list bs =>
        cases ry with
        | @lst p vs _ hy hb => exact main bs p vs rfl (.inl (SqL.of (gd.ex _ _ hy))) hb q
      | _ => cases a <;> exact q.elim
    | _ => cases a <;> exact q.elim
  | _ => exact q.elim
/-! ### items, slices -/
def gIx : D → D → Sto → Res D := fun dx dy S => match dy with
  | .p (.int i) => match dx with
    | .p (.tuple ds) => match atI ds i with
      | some d => .ok (.p d) S
      | none => .bad
    | .p (.list ds) => match atI ds i with
      | some d => .ok (.p d) S
      | none => .bad
    | .own k => match S[k]? with
      | some (.lst xs) => match atI xs i with
        | some d => .ok d S
        | none => .bad
      | _ => .bad
    | _ => .bad
  | _ => .bad
theorem atI_dqa {F : Hp} {ds : List PyData} {vs : List V} {i : Int} {d : PyData} (r : DqA c.K F vs ds) (h : atI ds i = some d) : ∃ v, atI vs i = some v ∧ Dq c.K F v d := by
  unfold atI at h ⊢
  rw [dpa_len _ _ r]
  cases e : ixN ds.length i with
  | none => rw [e] at h; cases h
  | some j =>
    rw [e] at h
    exact dpa_get _ _ j d r h
theorem paired_get {α β : Type} {R : α → β → Prop} : ∀ {xs : List α} {ys : List β} {i : Nat} {y : β}, Paired R xs ys → ys[i]? = some y → ∃ x, xs[i]? = some x ∧ R x y
  | _, _, i, y, .nil, h => by simp at h
  | x :: xs, z :: ys, 0, y, .cons r t, h => by
    have h : z = y := by simpa using h
    subst h
    exact ⟨x, rfl, r⟩
  | x :: xs, z :: ys, i + 1, y, .cons r t, h => by
    obtain ⟨w, h1, h2⟩ := paired_get (i := i) t (by simpa using h)
    exact ⟨w, by simpa using h1, h2⟩
theorem atI_rpa {F : Hp} {io : List Addr} {ds : List D} {vs : List V} {i : Int} {d : D} (r : RpA c.K F io vs ds) (h : atI ds i = some d) : ∃ v, atI vs i = some v ∧ Rp c.K F io v d := by
  unfold atI at h ⊢
  rw [paired_len r]
  cases e : ixN ds.length i with
  | none => rw [e] at h; cases h
  | some j =>
    rw [e] at h
    exact paired_get r h
theorem bop_ix : BOp c (rIx c.K) gIx := fun G F io H S σ x y dx dy Q gd rx ry q => by
  cases dy with
  | p b =>
    cases b with
    | int i =>
      cases ry
      cases dx with
      | p a =>
        cases a with
        | tuple ds =>
          have q : Aft c G F io σ (rp c) Q (match atI ds i with
            | some d => .ok (.p d) S
            | none => .bad) := q
          cases rx with
          | @tup p vs _ hx ha =>
            cases e : atI ds i with
            | none => rw [e] at q; exact q.elim
            | some d =>
              rw [e] at q
              obtain ⟨v, h1, h2⟩ := atI_dqa ha e
              exact .inr (.inl ⟨p, vs, i, v, rfl, rfl, sq_t gd.ex hx.sq, h1, Aft.here (v := v) q gd h2⟩)
        | list ds =>
          have q : Aft c G F io σ (rp c) Q (match atI ds i with
            | some d => .ok (.p d) S
            | none => .bad) := q
          cases rx with
          | @lst p vs _ hx ha =>
            cases e : atI ds i with
            | none => rw [e] at q; exact q.elim
            | some d =>
              rw [e] at q
              obtain ⟨v, h1, h2⟩ := atI_dqa ha e
              exact .inl ⟨p, vs, i, v, rfl, rfl, SqL.of (gd.ex _ _ hx), h1, Aft.here (v := v) q gd h2⟩
        | _ => exact q.elim
      | own k =>
        have q : Aft c G F io σ (rp c) Q (match S[k]? with
          | some (.lst xs) => match atI xs i with
            | some d => .ok d S
            | none => .bad
          | _ => .bad) := q
        cases hk : S[k]? with
        | none => rw [hk] at q; exact q.elim
        | some o =>
          rw [hk] at q
          cases o with
          | lst xs =>
            have q : Aft c G F io σ (rp c) Q (match atI xs i with
              | some d => .ok d S
              | none => .bad) := q
            cases e : atI xs i with
            | none => rw [e] at q; exact q.elim
            | some d =>
              rw [e] at q
              obtain ⟨a, e1, e2⟩ := rx
              obtain ⟨a', e3, h0, vs, h1, h2⟩ := gd.at_ hk
              rw [e2] at e3
              have e3 : a = a' := Option.some.inj e3
              subst e3
              obtain ⟨v, h3, h4⟩ := atI_rpa h2 e
              exact .inl ⟨a, vs, i, v, e1, rfl, SqL.of h1, h3, Aft.here (v := v) q gd h4⟩
          | _ => exact q.elim
      | _ => exact q.elim
    | _ => exact q.elim
  | _ => exact q.elim
/-- the items of ds[lo:hi] -/
def cutD {α : Type} (xs : List α) (lo hi : Option Int) : List α := (xs.drop (HT.sIx xs.length 0 lo)).take (HT.sIx xs.length xs.length hi - HT.sIx xs.length 0 lo)
theorem dpa_cut {F : Hp} {ds : List PyData} {vs : List V} (r : DqA c.K F vs ds) (lo hi : Option Int) : DqA c.K F (cutV vs lo hi) (cutD ds lo hi) := by
  unfold cutV cutD
  rw [dpa_len _ _ r]
  exact dpa_take _ (dpa_drop _ r)
/-- an optional part of a slice -/
abbrev FO := Env → Sto → Res (Option Int)
abbrev rpO : Hp → List Addr → Option Int → Option Int → Prop := fun _ _ a b => a = b
def tO (c : Cw) (f : FO) : TO := fun σ H Q => ∃ G F io S ρ, Good c.K G F io H S ∧ REnv c F io σ ρ ∧ Aft c G F io σ rpO Q (f ρ S)
def fNo : FO := fun _ S => .ok none S
def fSome (fa : FE) : FO := fun ρ S => (fa ρ S).bind fun d S1 => match d with
  | .p (.int i) => .ok (some i) S1
  | _ => .bad
section
variable {X : Cx} {e : Expr} {fa : FE} {lo hi : Option Expr} {fl fh : FO} {pos p2 : Pos}
theorem fo_none : PO X none (tO c fNo) := ⟨fun pins s σ H Q I ⟨G, F, io, S, ρ, gd, re, q⟩ => po_none.run pins s σ H Q I (Aft.here (v := (none : Option Int)) q gd rfl)⟩
theorem fo_some (h : PE X e (tE c fa)) : PO X (some e) (tO c (fSome fa)) := ⟨fun pins s σ H Q I ⟨G, F, io, S, ρ, gd, re, q⟩ => (po_some h).run pins s σ H Q I ⟨G, F, io, S, ρ, gd, re, Aft.step q fun d1 S1 v1 F1 i1 H1 e1 g1 r1 q1 => by
  cases d1 with
  | p b =>
    cases b with
    | int i =>
      cases r1
      exact ⟨i, rfl, Aft.here (v := some i) q1 g1 rfl⟩
    | _ => exact q1.elim
  | _ => exact q1.elim⟩⟩
def gSl : D → Option Int → Option Int → Sto → Res D := fun dx l h S => match dx with
  | .p (.tuple ds) => .ok (.p (.tuple (cutD ds l h))) S
  | .p (.list ds) => .ok (.p (.list (cutD ds l h))) S
  | .own k => match S[k]? with
    | some (.lst xs) => match asPs xs with
      | some ds => .ok (.p (.list (cutD ds l h))) S
      | none => .bad
    | _ => .bad
  | _ => .bad
def fSlice (fa : FE) (fl fh : FO) : FE := fun ρ S => (fa ρ S).bind fun x S1 => (fl ρ S1).bind fun l S2 => (fh ρ S2).bind fun h S3 => gSl x l h S3
theorem cut_whole {F : Hp} {ds : List PyData} {vs : List V} (r : DqA c.K F vs ds) {lo hi : Option Int} (h : HT.sIx vs.length 0 lo = 0 ∧ HT.sIx vs.length vs.length hi = vs.length) : cutD ds lo hi = ds := by
  unfold cutD
  rw [← dpa_len _ _ r, h.1, h.2, List.drop_zero, Nat.sub_zero, dpa_len _ _ r, List.take_length]
theorem fe_slice (he : PE X e (tE c fa)) (hl : PO X lo (tO c fl)) (hu : PO X hi (tO c fh)) (hK : c.K = X.K := by rfl) : PE X (.Subscript e (.Slice lo hi none p2) pos) (tE c (fSlice fa fl fh)) :=
  pe_imp (pe_slice (sl_list.or sl_tupA) he hl hu) fun σ H Q ⟨G, F, io, S, ρ, gd, re, q⟩ => ⟨G, F, io, S, ρ, gd, re, Aft.step q fun d1 S1 v1 F1 i1 H1 e1 g1 r1 q1 =>
    ⟨G, F1, i1, S1, ρ, g1, renv_mono e1 re, Aft.step q1 fun l S2 l' F2 i2 H2 e2 g2 rl q2 => ⟨G, F2, i2, S2, ρ, g2, renv_mono (e1.trans e2) re, Aft.step q2 fun h S3 h' F3 i3 H3 e3 g3 rh q3 => by
      have rl : l' = l := rl
      have rh : h' = h := rh
      subst rl
      subst rh
      rw [← hK]
      have r3 := rp_mono (e2.trans e3) r1
      cases d1 with
      | p a =>
        cases a with
        | tuple ds =>
          cases r3 with
          | @tup p vs _ hx ha =>
            exact .inr ⟨p, vs, rfl, sq_t g3.ex hx.sq, fun hw => Aft.here (v := .ref p) q3 g3 (by rw [cut_whole ha hw]; exact .tup hx ha), fun hw => new_tup g3 (dpa_cut ha _ _) q3⟩
        | list ds =>
          cases r3 with
          | @lst p vs _ hx ha => exact .inl ⟨p, vs, rfl, SqL.of (g3.ex _ _ hx), new_lst g3 (dpa_cut ha _ _) q3⟩
        | _ => exact q3.elim
      | own k =>
        have q3 : Aft c G F3 i3 σ (rp c) Q (match S3[k]? with
          | some (.lst xs) => match asPs xs with
            | some ds => .ok (.p (.list (cutD ds l' h'))) S3
            | none => .bad
          | _ => .bad) := q3
        cases hk : S3[k]? with
        | none => rw [hk] at q3; exact q3.elim
        | some o =>
          rw [hk] at q3
          cases o with
          | lst xs =>
            have q3 : Aft c G F3 i3 σ (rp c) Q (match asPs xs with
              | some ds => .ok (.p (.list (cutD ds l' h'))) S3
              | none => .bad) := q3
            cases ha : asPs xs with
            | none => rw [ha] at q3; exact q3.elim
            | some ds =>
              rw [ha] at q3
              obtain ⟨a, e1', e2'⟩ := r3
              obtain ⟨a', e3', h0, vs, h1, h2⟩ := g3.at_ hk
              rw [e2'] at e3'
              have e3' : a = a' := Option.some.inj e3'
              subst e3'
              exact .inl ⟨a, vs, e1', SqL.of h1, new_lst g3 (dpa_cut (asPs_ok ha h2) _ _) q3⟩
          | _ => exact q3.elim
      | _ => exact q3.elim⟩⟩⟩
end
/-! ### - x -/
def gNeg : D → Sto → Res D := fun d S => match d with
  | .p (.int i) => .ok (.p (.int (-i))) S
  | _ => .bad
theorem uop_neg : UOp c (rU fun i => .int (-i)) gNeg := fun G F io H S σ x dx Q gd rx q => by
  cases dx with
  | p a =>
    cases a with
    | int i =>
      cases rx
      exact ⟨i, rfl, hereP (v := .int (-i)) q gd (Dq.int _)⟩
    | _ => exact q.elim
  | _ => exact q.elim
end
end Tw
namespace Tw
open PySem PySem.Spec PyProof.Rows L2N
open L2 hiding St XE Takes CX takes_of passes_call MkP PMk ps_raise mk_of ps_try_as ps_try_many pmk_own passAt

inductive Fl where
  | nx (ρ : Env) (S : Sto)
  | rt (d : D) (S : Sto)
  | bk (ρ : Env) (S : Sto)
  | ct (ρ : Env) (S : Sto)
  | exc (n : Str) (as : List PyData) (ρ : Env) (S : Sto)
  | bad
abbrev FS := Env → Sto → Fl
def AftS (c : Cw) (G F : Hp) (io : List Addr) (N : Ends) : Fl → Prop
  | .nx ρ S => ∀ σ F' io' H', Ext F io F' io' → Good c.K G F' io' H' S → REnv c F' io' σ ρ → N.nx σ H'
  | .bk ρ S => ∀ σ F' io' H', Ext F io F' io' → Good c.K G F' io' H' S → REnv c F' io' σ ρ → N.bk σ H'
  | .ct ρ S => ∀ σ F' io' H', Ext F io F' io' → Good c.K G F' io' H' S → REnv c F' io' σ ρ → N.ct σ H'
  | .rt d S => ∀ v F' io' H', Ext F io F' io' → Good c.K G F' io' H' S → Rp c.K F' io' v d → N.rt v H'
  | .exc n as ρ S => ∀ cls dd σ F' io' H', Ext F io F' io' → Good c.K G F' io' H' S → REnv c F' io' σ ρ → IsX c.K F' n as cls dd → c.W cls dd σ H'
  | .bad => False
def tS (c : Cw) (f : FS) : TS := fun N σ H => ∃ G F io S ρ, Good c.K G F io H S ∧ REnv c F io σ ρ ∧ AftS c G F io N (f ρ S)
def Res.thn {α : Type} (r : Res α) (ρ : Env) (k : α → Sto → Fl) : Fl := match r with
  | .ok d S => k d S
  | .exc n as S => .exc n as ρ S
  | .bad => .bad
section
variable {c : Cw} {G F F1 : Hp} {io io1 : List Addr} {N : Ends}
theorem AftS.ext {r : Fl} (h : AftS c G F io N r) (e : Ext F io F1 io1) : AftS c G F1 io1 N r := by
  cases r with
  | nx ρ S => exact fun σ F' io' H' e' => h σ F' io' H' (e.trans e')
  | bk ρ S => exact fun σ F' io' H' e' => h σ F' io' H' (e.trans e')
  | ct ρ S => exact fun σ F' io' H' e' => h σ F' io' H' (e.trans e')
  | rt d S => exact fun v F' io' H' e' => h v F' io' H' (e.trans e')
  | exc n as ρ S => exact fun cls dd σ F' io' H' e' => h cls dd σ F' io' H' (e.trans e')
  | bad => exact h
theorem AftS.step {γ δ : Type} {R1 : Hp → List Addr → δ → γ → Prop} {Q1 : δ → Hp → Prop} {r : Res γ} {ρ : Env} {σ : L2.St} {k : γ → Sto → Fl} (h : AftS c G F io N (r.thn ρ k)) (re : REnv c F io σ ρ)
    (go : ∀ d S1 v F1 io1 H1, Ext F io F1 io1 → Good c.K G F1 io1 H1 S1 → R1 F1 io1 v d → AftS c G F1 io1 N (k d S1) → Q1 v H1) : Aft c G F io σ R1 Q1 r := by
  cases r with
  | ok d S1 => exact fun v F1 io1 H1 e g r => go d S1 v F1 io1 H1 e g r (AftS.ext (r := k d S1) h e)
  | exc n as S => exact fun cls dd F' io' H' e g x => h cls dd σ F' io' H' e g (renv_mono e re) x
  | bad => exact h
theorem AftS.here {ρ : Env} {S : Sto} {σ : L2.St} {H : Hp} (h : AftS c G F io N (.nx ρ S)) (g : Good c.K G F io H S) (r : REnv c F io σ ρ) : N.nx σ H := h σ F io H (Ext.refl F io) g r
end
/-! ### small statements -/
def fPass : FS := fun ρ S => .nx ρ S
def fSeq (f g : FS) : FS := fun ρ S => match f ρ S with
  | .nx ρ1 S1 => g ρ1 S1
  | o => o
def fRet (fa : FE) : FS := fun ρ S => (fa ρ S).thn ρ fun d S1 => .rt d S1
def fRetN : FS := fun _ S => .rt (.p .none) S
def fSet (i : Nat) (fa : FE) : FS := fun ρ S => (fa ρ S).thn ρ fun d S1 => .nx (ρ.set i (some d)) S1
def fDrop (fa : FE) : FS := fun ρ S => (fa ρ S).thn ρ fun _ S1 => .nx ρ S1
def fIfS (fc : FE) (f g : FS) : FS := fun ρ S => (fc ρ S).asB.thn ρ fun b S1 => if b = true then f ρ S1 else g ρ S1
def fAug (i : Nat) (g : D → D → Sto → Res D) (fb : FE) : FS := fun ρ S => match ρ[i]? with
  | some (some (.p d0)) => (fb ρ S).thn ρ fun d1 S1 => (g (.p d0) d1 S1).thn ρ fun d2 S2 => .nx (ρ.set i (some d2)) S2
  | _ => .bad
def fPar (i j : Nat) (fr : FA) : FS := fun ρ S => (fr ρ S).thn ρ fun ds S1 => match ds with
  | [d, e] => .nx ((ρ.set i (some d)).set j (some e)) S1
  | _ => .bad
def fPar3 (i j l : Nat) (fr : FA) : FS := fun ρ S => (fr ρ S).thn ρ fun ds S1 => match ds with
  | [d, e, f] => .nx (((ρ.set i (some d)).set j (some e)).set l (some f)) S1
  | _ => .bad
def fBrk : FS := fun ρ S => .bk ρ S
def fCnt : FS := fun ρ S => .ct ρ S
section
variable {X : Cx} {c : Cw} {st : Stmt} {rest : List Stmt} {f g : FS} {fa fb fc : FE} {fr : FA} {e : Expr} {pos : Pos}
theorem fss_nil : PSs X [] (tS c fPass) := pss_imp pss_nil fun N σ H ⟨G, F, io, S, ρ, gd, re, q⟩ => AftS.here q gd re
theorem fs_pass : PS X (.Pass pos) (tS c fPass) := ps_imp ps_pass fun N σ H ⟨G, F, io, S, ρ, gd, re, q⟩ => AftS.here q gd re
theorem fss_cons (h1 : PS X st (tS c f)) (h2 : PSs X rest (tS c g)) : PSs X (st :: rest) (tS c (fSeq f g)) := pss_imp (pss_cons h1 h2) fun N σ H ⟨G, F, io, S, ρ, gd, re, q⟩ => by
  refine ⟨G, F, io, S, ρ, gd, re, ?_⟩
  unfold fSeq at q
  cases h : f ρ S with
  | nx ρ1 S1 =>
    rw [h] at q
    exact fun σ' F' io' H' e' g' r' => ⟨G, F', io', S1, ρ1, g', r', AftS.ext (r := g ρ1 S1) q e'⟩
  | _ => rw [h] at q; exact q
theorem fss_one (h1 : PS X st (tS c f)) : PSs X [st] (tS c f) := pss_one h1
theorem fs_ret (h : PE X e (tE c fa)) : PS X (.Return (some e) pos) (tS c (fRet fa)) := ps_imp (ps_ret h) fun N σ H ⟨G, F, io, S, ρ, gd, re, q⟩ =>
  ⟨G, F, io, S, ρ, gd, re, AftS.step q re fun d S1 v F1 io1 H1 e1 g1 r1 q1 => q1 v F1 io1 H1 (Ext.refl _ _) g1 r1⟩
theorem fs_retN : PS X (.Return none pos) (tS c fRetN) := ps_imp ps_retN fun N σ H ⟨G, F, io, S, ρ, gd, re, q⟩ => q .non F io H (Ext.refl _ _) gd Dq.non
theorem fs_set {i : Nat} (h : ∀ {te : TE}, PE X e te → PS X st (tAsg te (gName i))) (he : PE X e (tE c fa)) : PS X st (tS c (fSet i fa)) := ps_imp (h he) fun N σ H ⟨G, F, io, S, ρ, gd, re, q⟩ =>
  ⟨G, F, io, S, ρ, gd, re, AftS.step q re fun d S1 v F1 io1 H1 e1 g1 r1 q1 => AftS.here q1 g1 (renv_set (renv_mono e1 re) (rpe_of r1) i)⟩
theorem fs_drop (h : ∀ {te : TE}, PE X e te → PS X st (tDrop te)) (he : PE X e (tE c fa)) : PS X st (tS c (fDrop fa)) := ps_imp (h he) fun N σ H ⟨G, F, io, S, ρ, gd, re, q⟩ =>
  ⟨G, F, io, S, ρ, gd, re, AftS.step q re fun d S1 v F1 io1 H1 e1 g1 r1 q1 => AftS.here q1 g1 (renv_mono e1 re)⟩
theorem fs_if {a b : List Stmt} (hc : PT X e (tT c fc)) (ha : PSs X a (tS c f)) (hb : PSs X b (tS c g)) : PS X (.If e a b pos) (tS c (fIfS fc f g)) := ps_imp (ps_if hc ha hb) fun N σ H ⟨G, F, io, S, ρ, gd, re, q⟩ => by
  refine ⟨G, F, io, S, ρ, gd, re, AftS.step q re fun k S1 k' F1 io1 H1 e1 g1 r1 q1 => ?_⟩
  have r1 : k' = k := r1
  subst r1
  cases k' with
  | true => exact ⟨G, F1, io1, S1, ρ, g1, renv_mono e1 re, q1⟩
  | false => exact ⟨G, F1, io1, S1, ρ, g1, renv_mono e1 re, q1⟩
theorem fs_aug {i : Nat} {r : R2} {g : D → D → Sto → Res D} (h : ∀ {te : TE}, PE X e te → PS X st (tAug i te r)) (hr : BOp c r g) (he : PE X e (tE c fb)) : PS X st (tS c (fAug i g fb)) := ps_imp (h he) fun N σ H ⟨G, F, io, S, ρ, gd, re, q⟩ => by
  unfold fAug at q
  cases h1 : ρ[i]? with
  | none => rw [h1] at q; exact q.elim
  | some o =>
    cases o with
    | none => rw [h1] at q; exact q.elim
    | some d =>
      rw [h1] at q
      cases d with
      | p d0 =>
        obtain ⟨v, h2, h3⟩ := re.2 i _ h1
        have h3 : Rp c.K F io v (.p d0) := h3
        exact ⟨v, h2, G, F, io, S, ρ, gd, re, AftS.step q re fun d1 S1 v1 F1 i1 H1 e1 g1 r1 q1 =>
          hr G F1 i1 H1 S1 σ v v1 _ d1 _ g1 (rp_mono e1 h3) r1 (AftS.step q1 (renv_mono e1 re) fun d2 S2 v2 F2 i2 H2 e2 g2 r2 q2 => AftS.here q2 g2 (renv_set (renv_mono (e1.trans e2) re) (rpe_of r2) i))⟩
      | _ => exact q.elim
theorem fs_par {i j : Nat} {es : List Expr} (h : ∀ {ta : TA}, PA X es ta → PS X st (tPar i j ta)) (ha : PA X es (tA c fr)) : PS X st (tS c (fPar i j fr)) := ps_imp (h ha) fun N σ H ⟨G, F, io, S, ρ, gd, re, q⟩ =>
  ⟨G, F, io, S, ρ, gd, re, AftS.step q re fun ds S1 vs F1 io1 H1 e1 g1 r1 q1 => by
    cases r1 with
    | nil => exact q1.elim
    | cons a r =>
      cases r with
      | nil => exact q1.elim
      | cons b r =>
        cases r with
        | nil => exact ⟨_, _, rfl, AftS.here q1 g1 (renv_set (renv_set (renv_mono e1 re) (rpe_of a) i) (rpe_of b) j)⟩
        | cons _ _ => exact q1.elim⟩
theorem fs_par3 {i j l : Nat} {es : List Expr} (h : ∀ {ta : TA}, PA X es ta → PS X st (tPar3 i j l ta)) (ha : PA X es (tA c fr)) : PS X st (tS c (fPar3 i j l fr)) := ps_imp (h ha) fun N σ H ⟨G, F, io, S, ρ, gd, re, q⟩ =>
  ⟨G, F, io, S, ρ, gd, re, AftS.step q re fun ds S1 vs F1 io1 H1 e1 g1 r1 q1 => by
    cases r1 with
    | nil => exact q1.elim
    | cons a r =>
      cases r with
      | nil => exact q1.elim
      | cons b r =>
        cases r with
        | nil => exact q1.elim
        | cons k r =>
          cases r with
          | nil => exact ⟨_, _, _, rfl, AftS.here q1 g1 (renv_set (renv_set (renv_set (renv_mono e1 re) (rpe_of a) i) (rpe_of b) j) (rpe_of k) l)⟩
          | cons _ _ => exact q1.elim⟩
theorem fs_brk : PS X (.Break pos) (tS c fBrk) := ps_imp ps_break fun N σ H ⟨G, F, io, S, ρ, gd, re, q⟩ => q σ F io H (Ext.refl _ _) gd re
theorem fs_cnt : PS X (.Continue pos) (tS c fCnt) := ps_imp ps_continue fun N σ H ⟨G, F, io, S, ρ, gd, re, q⟩ => q σ F io H (Ext.refl _ _) gd re
end
/-! ### targets -/
abbrev FG := D → Env → Option Env
abbrev FGs := List D → Env → Option Env
/-- ws: the slots that may be written -/
def tG (c : Cw) (ws : List Nat) (g : FG) : TG := fun v σ H Q => ∃ G F io S d ρ ρ', Good c.K G F io H S ∧ Rp c.K F io v d ∧ REnv c F io σ ρ ∧ g d ρ = some ρ' ∧ ∀ σ', REnv c F io σ' ρ' → wipe σ' ws = wipe σ ws → Q σ' H
def tGs (c : Cw) (ws : List Nat) (g : FGs) : TGs := fun vs σ H Q => ∃ G F io S ds ρ ρ', Good c.K G F io H S ∧ RpA c.K F io vs ds ∧ REnv c F io σ ρ ∧ g ds ρ = some ρ' ∧ ∀ σ', REnv c F io σ' ρ' → wipe σ' ws = wipe σ ws → Q σ' H
theorem wipe_out1 {σ : L2.St} {i : Nat} {x : Option V} : ∀ {ws : List Nat}, i ∈ ws → wipe (σ.set i x) ws = wipe σ ws
  | w :: ws, h => by
    by_cases hw : i ∈ ws
    · show (wipe (σ.set i x) ws).set w none = (wipe σ ws).set w none
      rw [wipe_out1 hw]
    · have e : i = w := (List.mem_cons.mp h).resolve_right hw
      subst e
      show (wipe (σ.set i x) ws).set i none = (wipe σ ws).set i none
      rw [wipe_off hw, List.set_set]
where
  wipe_off {σ : L2.St} {i : Nat} {x : Option V} : ∀ {ws : List Nat}, i ∉ ws → wipe (σ.set i x) ws = (wipe σ ws).set i x
  | [], _ => rfl
  | w :: ws, h => by
    have h1 : i ≠ w := fun z => h (z ▸ List.mem_cons_self)
    have h2 : i ∉ ws := fun z => h (List.mem_cons_of_mem _ z)
    show (wipe (σ.set i x) ws).set w none = ((wipe σ ws).set w none).set i x
    rw [wipe_off h2, List.set_comm _ _ h1]
def gNm (i : Nat) : FG := fun d ρ => some (ρ.set i (some d))
def gsNil : FGs := fun ds ρ => match ds with
  | [] => some ρ
  | _ => none
def gsCons (g : FG) (gs : FGs) : FGs := fun ds ρ => match ds with
  | d :: r => (g d ρ).bind (gs r)
  | [] => none
def gTp (n : Nat) (gs : FGs) : FG := fun d ρ => match d with
  | .p (.tuple ds) => if ds.length = n then gs (ds.map D.p) ρ else none
  | _ => none
theorem dqa_rpa {K : PySem.W.Frag} {F : Hp} {io : List Addr} : ∀ {ds : List PyData} {vs : List V}, DqA K F vs ds → RpA K F io vs (ds.map D.p)
  | [], _, h => by cases h; exact .nil
  | d :: ds, _, h => by
    cases h with
    | cons h1 h2 => exact .cons h1 (dqa_rpa h2)
section
variable {X : Cx} {c : Cw} {ws : List Nat} {t : Expr} {ts : List Expr} {g : FG} {gs : FGs} {pos : Pos}
theorem pg_imp {a b : TG} (h : PG X t a) (i : ∀ v σ H Q, b v σ H Q → a v σ H Q) : PG X t b := ⟨fun pins s σ H v u Q I r q => h.run pins s σ H v u Q I r (i v σ H Q q)⟩
theorem pgs_imp {a b : TGs} (h : PGs X ts a) (i : ∀ v σ H Q, b v σ H Q → a v σ H Q) : PGs X ts b := ⟨fun pins s σ H v u Q I r q => h.run pins s σ H v u Q I r (i v σ H Q q)⟩
theorem fg_name {i : Nat} (h : PG X t (gName i)) (hi : i ∈ ws) : PG X t (tG c ws (gNm i)) := pg_imp h fun v σ H Q ⟨G, F, io, S, d, ρ, ρ', gd, r, re, e, q⟩ => by
  have e : ρ.set i (some d) = ρ' := Option.some.inj e
  subst e
  exact q _ (renv_set re (rpe_of r) i) (wipe_out1 hi)
theorem fgs_nil : PGs X [] (tGs c ws gsNil) := pgs_imp pgs_nil fun vs σ H Q ⟨G, F, io, S, ds, ρ, ρ', gd, r, re, e, q⟩ => by
  cases r with
  | nil =>
    have e : ρ = ρ' := Option.some.inj e
    subst e
    exact ⟨rfl, q σ re rfl⟩
  | cons _ _ => cases e
theorem fgs_cons (h1 : PG X t (tG c ws g)) (h2 : PGs X ts (tGs c ws gs)) (hs : (assignEach (t :: ts) X.env).map (·.2) = assign t X.env :: (assignEach ts X.env).map (·.2) := by rfl) : PGs X (t :: ts) (tGs c ws (gsCons g gs)) :=
  pgs_imp (pgs_cons h1 h2 hs) fun vs σ H Q ⟨G, F, io, S, ds, ρ, ρ', gd, r, re, e, q⟩ => by
    cases r with
    | nil => cases e
    | @cons v d vs' ds' ra rb =>
      have e : (g d ρ).bind (gs ds') = some ρ' := e
      cases h : g d ρ with
      | none => rw [h] at e; cases e
      | some ρ1 =>
        rw [h] at e
        exact ⟨v, vs', rfl, G, F, io, S, d, ρ, ρ1, gd, ra, re, h, fun σ1 re1 w1 => ⟨G, F, io, S, ds', ρ1, ρ', gd, rb, re1, e, fun σ2 re2 w2 => q σ2 re2 (w2.trans w1)⟩⟩
theorem fg_tup {es : List Expr} {k : Nat} {n : Nat} (hc : X.calm = true) (h : PGs X es (tGs c ws gs)) (hK : c.K = X.K) (hn : (assignEach es X.env).length = n := by rfl) (hst : (assignEach es X.env).findIdx? (·.1) = none := by rfl) : PG X (.Tuple es k pos) (tG c ws (gTp n gs)) :=
  pg_imp (pg_tup hc h hn hst) fun v σ H Q ⟨G, F, io, S, d, ρ, ρ', gd, r, re, e, q⟩ => by
    cases d with
    | p a =>
      cases a with
      | tuple ds =>
        have e : (if ds.length = n then gs (ds.map D.p) ρ else none) = some ρ' := e
        by_cases hl : ds.length = n
        · rw [if_pos hl] at e
          cases r with
          | @tup a xs _ hx ha =>
            exact ⟨a, xs, rfl, by rw [← hK]; exact sq_t gd.ex hx.sq, by rw [dpa_len _ _ ha]; exact hl, G, F, io, S, ds.map D.p, ρ, ρ', gd, dqa_rpa ha, re, e, q⟩
        · rw [if_neg hl] at e
          cases e
      | _ => cases e
    | _ => cases e
def fAsg (fa : FE) (g : FG) : FS := fun ρ S => (fa ρ S).thn ρ fun d S1 => match g d ρ with
  | some ρ1 => .nx ρ1 S1
  | none => .bad
theorem fs_asg {e : Expr} {fa : FE} {st : Stmt} (h : ∀ {te : TE} {tg : TG}, PE X e te → PG X t tg → PS X st (tAsg te tg)) (he : PE X e (tE c fa)) (hg : PG X t (tG c ws g)) : PS X st (tS c (fAsg fa g)) := ps_imp (h he hg) fun N σ H ⟨G, F, io, S, ρ, gd, re, q⟩ =>
  ⟨G, F, io, S, ρ, gd, re, AftS.step q re fun d S1 v F1 io1 H1 e1 g1 r1 q1 => by
    cases h : g d ρ with
    | none => rw [h] at q1; exact q1.elim
    | some ρ1 =>
      rw [h] at q1
      exact ⟨G, F1, io1, S1, d, ρ, ρ1, g1, r1, renv_mono e1 re, h, fun σ' re' _ => AftS.here q1 g1 re'⟩⟩
end
/-! ### what is walked -/
structure ItD (c : Cw) (F : Hp) (io : List Addr) (J : It) (ds : List D) : Prop where
  go : ∀ i G H F1 io1 S1, i < ds.length → Ext F io F1 io1 → Good c.K G F1 io1 H S1 → J.go i H ∧ ∀ x H', J.yld i H x H' → ∃ F2, Ext F1 io1 F2 io1 ∧ Good c.K G F2 io1 H' S1 ∧ ∃ d, ds[i]? = some d ∧ Rp c.K F2 io1 x d
  stop : ∀ i G H F1 io1 S1, ds.length ≤ i → Ext F io F1 io1 → Good c.K G F1 io1 H S1 → J.stop i H
abbrev FI := Env → Sto → Res (List D)
def tI (c : Cw) (f : FI) : TI := fun σ H R => ∃ G F io S ρ, Good c.K G F io H S ∧ REnv c F io σ ρ ∧ Aft c G F io σ (fun F' io' (J : It) (ds : List D) => ItD c F' io' J ds) R (f ρ S)
def fItT (fa : FE) : FI := fun ρ S => (fa ρ S).bind fun d S1 => match d with
  | .p (.tuple ds) => .ok (ds.map D.p) S1
  | _ => .bad
def fItL (fa : FE) : FI := fun ρ S => (fa ρ S).bind fun d S1 => match d with
  | .p (.list ds) => .ok (ds.map D.p) S1
  | .scr ns => .ok ((ns.map PyData.int).map D.p) S1
  | _ => .bad
def rng (lo : Int) (n : Nat) : List D := (List.range n).map fun (i : Nat) => D.p (.int (lo + (i : Int)))
def fRng1 (fr : FA) : FI := fun ρ S => (fr ρ S).bind fun ds S1 => match ds with
  | [.p (.int j)] => if -1000000 < j ∧ j < 1000000 then .ok (rng 0 j.toNat) S1 else .bad
  | _ => .bad
def fRng2 (fr : FA) : FI := fun ρ S => (fr ρ S).bind fun ds S1 => match ds with
  | [.p (.int i), .p (.int j)] => if -1000000 < i ∧ i < 1000000 ∧ -1000000 < j ∧ j < 1000000 then .ok (rng i (j - i).toNat) S1 else .bad
  | _ => .bad
section
variable {X : Cx} {c : Cw} {tg e : Expr} {fa : FE} {fr : FA} {pos p : Pos}
theorem pi_imp {a b : TI} (h : PI X tg e a) (i : ∀ σ H R, b σ H R → a σ H R) : PI X tg e b := ⟨fun pins s σ H R I q => h.run pins s σ H R I (i σ H R q)⟩
theorem itd_tup {F : Hp} {io : List Addr} {a : Addr} {vs : List V} {ds : List PyData} (hx : SqT c.K F a vs) (ha : DqA c.K F vs ds) : ItD c F io (Itt c.K a) (ds.map D.p) where
  go := fun i G H F1 io1 S1 hi e g => by
    have hi' : i < ds.length := by simpa using hi
    obtain ⟨v, h1, h2⟩ := dpa_get _ _ i ds[i] ha (List.getElem?_eq_getElem hi')
    refine ⟨⟨vs, v, sq_t g.ex (sq_t e.same hx), h1⟩, fun x H' ⟨e1, y⟩ => ?_⟩
    subst e1
    have hv := y vs (sq_t g.ex (sq_t e.same hx))
    rw [h1] at hv
    have hv : v = x := Option.some.inj hv
    subst hv
    refine ⟨F1, Ext.refl _ _, g, .p ds[i], ?_, dp_mono e.same _ _ h2⟩
    rw [List.getElem?_map, List.getElem?_eq_getElem hi']
    rfl
  stop := fun i G H F1 io1 S1 hi e g => ⟨vs, sq_t g.ex (sq_t e.same hx), by rw [dpa_len _ _ ha]; simpa using hi⟩
theorem itd_lst {F : Hp} {io : List Addr} {a : Addr} {vs : List V} {ds : List PyData} (hx : SqL c.K F a vs) (ha : DqA c.K F vs ds) : ItD c F io (Itl c.K a) (ds.map D.p) where
  go := fun i G H F1 io1 S1 hi e g => by
    have hi' : i < ds.length := by simpa using hi
    obtain ⟨v, h1, h2⟩ := dpa_get _ _ i ds[i] ha (List.getElem?_eq_getElem hi')
    refine ⟨⟨vs, v, g.ex.seq (e.same.seq hx), h1⟩, fun x H' ⟨e1, y⟩ => ?_⟩
    subst e1
    have hv := y vs (g.ex.seq (e.same.seq hx))
    rw [h1] at hv
    have hv : v = x := Option.some.inj hv
    subst hv
    refine ⟨F1, Ext.refl _ _, g, .p ds[i], ?_, dp_mono e.same _ _ h2⟩
    rw [List.getElem?_map, List.getElem?_eq_getElem hi']
    rfl
  stop := fun i G H F1 io1 S1 hi e g => ⟨vs, g.ex.seq (e.same.seq hx), by rw [dpa_len _ _ ha]; simpa using hi⟩
theorem dqa_ints {K : PySem.W.Frag} {F : Hp} : ∀ ns : List Int, DqA K F (ns.map V.int) (ns.map PyData.int)
  | [] => .nil
  | n :: ns => .cons (.int n) (dqa_ints ns)
/-- over a tuple -/
theorem fi_tup (h : PE X e (tE c fa)) (hK : c.K = X.K) : PI X tg e (tI c (fItT fa)) := pi_imp (pi_tup h) fun σ H R ⟨G, F, io, S, ρ, gd, re, q⟩ => ⟨G, F, io, S, ρ, gd, re, Aft.step q fun d S1 v F1 i1 H1 e1 g1 r1 q1 => by
  cases d with
  | p a =>
    cases a with
    | tuple ds =>
      cases r1 with
      | @tup a xs _ hx ha =>
        rw [← hK]
        exact ⟨a, rfl, ⟨xs, sq_t g1.ex hx.sq⟩, Aft.here q1 g1 (itd_tup hx.sq ha)⟩
    | _ => exact q1.elim
  | _ => exact q1.elim⟩
/-- over a list -/
theorem fi_lst (h : PE X e (tE c fa)) (hK : c.K = X.K) : PI X tg e (tI c (fItL fa)) := pi_imp (pi_list h) fun σ H R ⟨G, F, io, S, ρ, gd, re, q⟩ => ⟨G, F, io, S, ρ, gd, re, Aft.step q fun d S1 v F1 i1 H1 e1 g1 r1 q1 => by
  cases d with
  | p a =>
    cases a with
    | list ds =>
      cases r1 with
      | @lst a xs _ hx ha =>
        rw [← hK]
        exact ⟨a, rfl, ⟨xs, SqL.of (g1.ex _ _ hx)⟩, Aft.here q1 g1 (itd_lst (SqL.of hx) ha)⟩
    | _ => exact q1.elim
  | scr ns =>
    obtain ⟨a, h1, h2⟩ := r1
    rw [← hK]
    exact ⟨a, h1, ⟨_, g1.ex.seq h2⟩, Aft.here q1 g1 (itd_lst h2 (dqa_ints ns))⟩
  | _ => exact q1.elim⟩
theorem itd_rng {F : Hp} {io : List Addr} {lo : Int} {n : Nat} : ItD c F io (Itr lo n) (rng lo n) where
  go := fun i G H F1 io1 S1 hi e g => by
    have hi' : i < n := by simpa [rng] using hi
    refine ⟨hi', fun x H' ⟨e1, y⟩ => ?_⟩
    subst e1
    subst y
    refine ⟨F1, Ext.refl _ _, g, .p (.int (lo + (i : Int))), ?_, Dq.int _⟩
    unfold rng
    rw [List.getElem?_map, List.getElem?_range hi']
    rfl
  stop := fun i G H F1 io1 S1 hi e g => by
    have hi' : n ≤ i := by simpa [rng] using hi
    exact hi'
theorem fi_rng1 {a : Expr} (h : ∀ {ta : TA}, PA X [a] ta → PI X tg e (iRng1 ta)) (ha : PA X [a] (tA c fr)) : PI X tg e (tI c (fRng1 fr)) := pi_imp (h ha) fun σ H R ⟨G, F, io, S, ρ, gd, re, q⟩ => ⟨G, F, io, S, ρ, gd, re, Aft.step q fun ds S1 vs F1 i1 H1 e1 g1 r1 q1 => by
  cases r1 with
  | nil => exact q1.elim
  | @cons v d _ _ ra rb =>
    cases rb with
    | nil =>
      cases d with
      | p a =>
        cases a with
        | int j =>
          cases ra
          have q1 : Aft c G F1 i1 σ _ R (if -1000000 < j ∧ j < 1000000 then .ok (rng 0 j.toNat) S1 else .bad) := q1
          by_cases hj : -1000000 < j ∧ j < 1000000
          · rw [if_pos hj] at q1
            exact ⟨j, rfl, by omega, by omega, Aft.here q1 g1 itd_rng⟩
          · rw [if_neg hj] at q1
            exact q1.elim
        | _ => exact q1.elim
      | _ => exact q1.elim
    | cons _ _ => cases d with
      | p a => cases a <;> exact q1.elim
      | _ => exact q1.elim⟩
theorem fi_rng2 {a b : Expr} (h : ∀ {ta : TA}, PA X [a, b] ta → PI X tg e (iRng2 ta)) (ha : PA X [a, b] (tA c fr)) : PI X tg e (tI c (fRng2 fr)) := pi_imp (h ha) fun σ H R ⟨G, F, io, S, ρ, gd, re, q⟩ => ⟨G, F, io, S, ρ, gd, re, Aft.step q fun ds S1 vs F1 i1 H1 e1 g1 r1 q1 => by
  have key : ∀ {ds : List D} {vs : List V}, RpA c.K F1 i1 vs ds → Aft c G F1 i1 σ (fun F' io' (J : It) (ds : List D) => ItD c F' io' J ds) R (match ds with
      | [.p (.int i), .p (.int j)] => if -1000000 < i ∧ i < 1000000 ∧ -1000000 < j ∧ j < 1000000 then .ok (rng i (j - i).toNat) S1 else .bad
      | _ => .bad) → ∃ i j : Int, vs = [.int i, .int j] ∧ (-(2 ^ 62) ≤ i ∧ i < 2 ^ 62 ∧ -(2 ^ 62) ≤ j ∧ j < 2 ^ 62) ∧ R (Itr i (j - i).toNat) H1 := fun {ds vs} r q1 => by
    split at q1
    · rename_i i j
      cases r with
      | cons ra rb =>
        cases ra
        cases rb with
        | cons ra rb =>
          cases ra
          cases rb
          by_cases hj : -1000000 < i ∧ i < 1000000 ∧ -1000000 < j ∧ j < 1000000
          · rw [if_pos hj] at q1
            exact ⟨i, j, rfl, ⟨by omega, by omega, by omega, by omega⟩, Aft.here q1 g1 itd_rng⟩
          · rw [if_neg hj] at q1
            exact q1.elim
    · exact q1.elim
  exact key r1 q1⟩
/-! ### for -/
def forL (g : FG) (body : FS) : List D → Env → Sto → Fl
  | [], ρ, S => .nx ρ S
  | d :: ds, ρ, S => match g d ρ with
    | none => .bad
    | some ρ1 => match body ρ1 S with
      | .nx ρ2 S2 => forL g body ds ρ2 S2
      | .ct ρ2 S2 => forL g body ds ρ2 S2
      | .bk ρ2 S2 => .nx ρ2 S2
      | o => o
def fFor (fi : FI) (g : FG) (body : FS) : FS := fun ρ S => (fi ρ S).thn ρ fun ds S1 => forL g body ds ρ S1
theorem fs_for {ws : List Nat} {fi : FI} {g : FG} {body : List Stmt} {fb : FS} (hp : PassesOwn (model X.prog X.w) X.A X.env X.xe) (hc : X.calm = true) (hi : PI X tg e (tI c fi)) (hg : PG X tg (tG c ws g)) (hb : PSs X body (tS c fb))
    (hs : ∀ x, foldedSetIterable e X.env x = pure x := by intro _; rfl) : PS X (.For tg e body [] pos) (tS c (fFor fi g fb)) := ps_imp (ps_for hp hc hi hg hb hs) fun N σ H ⟨G, F, io, S, ρ, gd, re, q⟩ => by
  refine ⟨G, F, io, S, ρ, gd, re, AftS.step q re fun ds S1 J F1 i1 H1 e1 g1 it q1 => ?_⟩
  refine ⟨fun i m σ' H' => m = ds.length - i ∧ i ≤ ds.length ∧ ∃ G F2 io2 S2 ρ2, Ext F1 i1 F2 io2 ∧ Good c.K G F2 io2 H' S2 ∧ REnv c F2 io2 σ' ρ2 ∧ AftS c G F2 io2 N (forL g fb (ds.drop i) ρ2 S2),
    ⟨_, rfl, Nat.zero_le _, G, F1, i1, S1, ρ, Ext.refl _ _, g1, renv_mono e1 re, q1⟩, ?_⟩
  rintro i m σ' H' ⟨rfl, hi, G, F2, io2, S2, ρ2, e2, g2, re2, q2⟩
  by_cases hlt : i < ds.length
  · obtain ⟨hgo, hy⟩ := it.go i G H' F2 io2 S2 hlt e2 g2
    refine .inr ⟨hgo, _, fun σ3 H3 n => ⟨ds.length - (i + 1), by omega, n⟩, fun x H3 y => ?_⟩
    obtain ⟨F3, e3, g3, d, hd, rd⟩ := hy x H3 y
    have hdr : ds.drop i = d :: ds.drop (i + 1) := by
      rw [List.drop_eq_getElem_cons hlt]
      rw [List.getElem?_eq_getElem hlt] at hd
      rw [Option.some.inj hd]
    rw [hdr] at q2
    have q2 : AftS c G F2 io2 N (match g d ρ2 with
      | none => .bad
      | some ρ1 => match fb ρ1 S2 with
        | .nx ρ2 S2 => forL g fb (ds.drop (i + 1)) ρ2 S2
        | .ct ρ2 S2 => forL g fb (ds.drop (i + 1)) ρ2 S2
        | .bk ρ2 S2 => .nx ρ2 S2
        | o => o) := q2
    cases h : g d ρ2 with
    | none => rw [h] at q2; exact q2.elim
    | some ρ3 =>
      rw [h] at q2
      refine ⟨G, F3, io2, S2, d, ρ2, ρ3, g3, rd, renv_mono e3 re2, h, fun σ4 re4 _ => ⟨G, F3, io2, S2, ρ3, g3, re4, ?_⟩⟩
      have q2 := AftS.ext q2 e3
      have q2 : AftS c G F3 io2 N (match fb ρ3 S2 with
        | .nx ρ2 S2 => forL g fb (ds.drop (i + 1)) ρ2 S2
        | .ct ρ2 S2 => forL g fb (ds.drop (i + 1)) ρ2 S2
        | .bk ρ2 S2 => .nx ρ2 S2
        | o => o) := q2
      cases hb2 : fb ρ3 S2 with
      | nx ρ4 S4 =>
        rw [hb2] at q2
        exact fun σ5 F5 io5 H5 e5 g5 re5 => ⟨rfl, hlt, G, F5, io5, S4, ρ4, (e2.trans e3).trans e5, g5, re5, AftS.ext (r := forL g fb (ds.drop (i + 1)) ρ4 S4) q2 e5⟩
      | ct ρ4 S4 =>
        rw [hb2] at q2
        exact fun σ5 F5 io5 H5 e5 g5 re5 => ⟨rfl, hlt, G, F5, io5, S4, ρ4, (e2.trans e3).trans e5, g5, re5, AftS.ext (r := forL g fb (ds.drop (i + 1)) ρ4 S4) q2 e5⟩
      | bk ρ4 S4 => rw [hb2] at q2; exact q2
      | rt d S4 => rw [hb2] at q2; exact q2
      | exc n as ρ4 S4 => rw [hb2] at q2; exact q2
      | bad => rw [hb2] at q2; exact q2
  · have e0 : i = ds.length := by omega
    subst e0
    rw [List.drop_length] at q2
    exact .inl ⟨it.stop _ G H' F2 io2 S2 (Nat.le_refl _) e2 g2, AftS.here q2 g2 re2⟩
/-! ### while -/
def whileN (fc : FE) (body : FS) : Nat → Env → Sto → Fl
  | 0, _, _ => .bad
  | n + 1, ρ, S => (fc ρ S).asB.thn ρ fun b S1 => if b = true then (match body ρ S1 with
      | .nx ρ2 S2 => whileN fc body n ρ2 S2
      | .ct ρ2 S2 => whileN fc body n ρ2 S2
      | .bk ρ2 S2 => .nx ρ2 S2
      | o => o) else .nx ρ S1
def fWhile (n : Nat) (fc : FE) (body : FS) : FS := whileN fc body n
theorem fs_while {n : Nat} {fc : FE} {body : List Stmt} {fb : FS} (hp : PassesOwn (model X.prog X.w) X.A X.env X.xe) (hc : PT X e (tT c fc)) (hb : PSs X body (tS c fb)) : PS X (.While e body [] pos) (tS c (fWhile n fc fb)) := ps_imp (ps_while hp hc hb) fun N σ H ⟨G, F, io, S, ρ, gd, re, q⟩ => by
  refine ⟨fun m σ' H' => ∃ G F2 io2 S2 ρ2, Good c.K G F2 io2 H' S2 ∧ REnv c F2 io2 σ' ρ2 ∧ AftS c G F2 io2 N (whileN fc fb m ρ2 S2), ⟨n, G, F, io, S, ρ, gd, re, q⟩, ?_⟩
  rintro m σ' H' ⟨G, F2, io2, S2, ρ2, g2, re2, q2⟩
  cases m with
  | zero => exact q2.elim
  | succ m =>
    refine ⟨G, F2, io2, S2, ρ2, g2, re2, AftS.step (k := fun b S1 => if b = true then (match fb ρ2 S1 with
      | .nx ρ2 S2 => whileN fc fb m ρ2 S2
      | .ct ρ2 S2 => whileN fc fb m ρ2 S2
      | .bk ρ2 S2 => .nx ρ2 S2
      | o => o) else .nx ρ2 S1) q2 re2 fun k S3 k' F3 i3 H3 e3 g3 r3 q3 => ?_⟩
    have r3 : k' = k := r3
    subst r3
    cases k' with
    | false => exact AftS.here (show AftS c G F3 i3 N (.nx ρ2 S3) from q3) g3 (renv_mono e3 re2)
    | true =>
      have q3 : AftS c G F3 i3 N (match fb ρ2 S3 with
        | .nx ρ2 S2 => whileN fc fb m ρ2 S2
        | .ct ρ2 S2 => whileN fc fb m ρ2 S2
        | .bk ρ2 S2 => .nx ρ2 S2
        | o => o) := q3
      refine ⟨_, fun σ4 H4 z => ⟨m, Nat.lt_succ_self m, z⟩, G, F3, i3, S3, ρ2, g3, renv_mono e3 re2, ?_⟩
      cases hb2 : fb ρ2 S3 with
      | nx ρ4 S4 =>
        rw [hb2] at q3
        exact fun σ5 F5 io5 H5 e5 g5 re5 => ⟨G, F5, io5, S4, ρ4, g5, re5, AftS.ext (r := whileN fc fb m ρ4 S4) q3 e5⟩
      | ct ρ4 S4 =>
        rw [hb2] at q3
        exact fun σ5 F5 io5 H5 e5 g5 re5 => ⟨G, F5, io5, S4, ρ4, g5, re5, AftS.ext (r := whileN fc fb m ρ4 S4) q3 e5⟩
      | bk ρ4 S4 => rw [hb2] at q3; exact q3
      | rt d S4 => rw [hb2] at q3; exact q3
      | exc n as ρ4 S4 => rw [hb2] at q3; exact q3
      | bad => rw [hb2] at q3; exact q3
end
end Tw
namespace Tw
open PySem PySem.Spec PyProof.Rows L2N
open L2 hiding St XE Takes CX takes_of passes_call MkP PMk ps_raise mk_of ps_try_as ps_try_many pmk_own passAt

/-! ### a def's promise: it hands back what m says -/
abbrev cE (K : PySem.W.Frag) (E : XK) : Cw := ⟨K, none, fun cls d _ H => E cls d H⟩
def spF (K : PySem.W.Frag) (m : List D → Sto → Res D) (n : Nat) : Sp := fun vs H Q E => vs.length = n ∧ ∃ G F io S ds, Good K G F io H S ∧ RpA K F io vs ds ∧ Aft (cE K E) G F io [] (rp (cE K E)) Q (m ds S)
def lowM (n : Nat) : Nat ⊕ PyData → Bool
  | .inl k => decide (k < n)
  | .inr _ => true
def D.low (n : Nat) : D → Bool
  | .own k => decide (k < n)
  | .mix xs => xs.all (lowM n)
  | .mtp xs => xs.all (lowM n)
  | _ => true
def O.low (n : Nat) : O → Bool
  | .lst xs => xs.all (D.low n)
  | .dic kvs => kvs.all fun q => q.2.low n
  | .ins _ fs => fs.all fun q => q.2.low n
  | .fz d => d.low n
  | .raw _ => false
  | .odx _ => false
  | .gone => true
def trim (S : Sto) (d : D) (S' : Sto) : Res D := if S'.length = S.length then .ok d S' else if (d.low S.length && (S'.take S.length).all (O.low S.length)) = true then .ok d (S'.take S.length) else .bad
def trimX (S : Sto) (n : Str) (as : List PyData) (S' : Sto) : Res D := if S'.length = S.length then .exc n as S' else if ((S'.take S.length).all (O.low S.length)) = true then .exc n as (S'.take S.length) else .bad
def callM (nN : Nat) (f : FS) : List D → Sto → Res D := fun ds S => match f (ds.map some ++ List.replicate (nN - ds.length) none) S with
  | .rt d S' => trim S d S'
  | .nx _ S' => trim S (.p .none) S'
  | .exc n as _ S' => trimX S n as S'
  | _ => .bad
section
variable {K : PySem.W.Frag} {G F : Hp} {io : List Addr} {H : Hp} {S : Sto}
theorem rpm_low {n : Nat} : ∀ {ds : List (Nat ⊕ PyData)} {vs : List V}, ds.all (lowM n) = true → Paired (RpM K F io) vs ds → Paired (RpM K F (io.take n)) vs ds
  | [], _, _, r => by cases r; exact .nil
  | d :: ds, _, h, r => by
    cases r with
    | cons r1 r2 =>
      rw [List.all_cons, Bool.and_eq_true] at h
      refine .cons ?_ (rpm_low h.2 r2)
      cases d with
      | inl k =>
        obtain ⟨a, h1, h2⟩ := r1
        exact ⟨a, h1, by rw [List.getElem?_take_of_lt (of_decide_eq_true h.1)]; exact h2⟩
      | inr p => exact r1
theorem rp_low {n : Nat} {v : V} : ∀ {d : D}, d.low n = true → Rp K F io v d → Rp K F (io.take n) v d
  | .p _, _, r => r
  | .own k, h, ⟨a, h1, h2⟩ => ⟨a, h1, by rw [List.getElem?_take_of_lt (of_decide_eq_true h)]; exact h2⟩
  | .wld _ _, _, r => r
  | .exn, _, r => r
  | .scr _, _, r => r
  | .dz _, _, r => r
  | .fn _, _, r => r
  | .err _ _, _, r => r
  | .mix _, h, ⟨a, vs, h1, h2, h3⟩ => ⟨a, vs, h1, h2, rpm_low h h3⟩
  | .mtp _, h, ⟨a, vs, h1, h2, h3⟩ => ⟨a, vs, h1, h2, rpm_low h h3⟩
theorem rpa_low {n : Nat} : ∀ {ds : List D} {vs : List V}, ds.all (D.low n) = true → RpA K F io vs ds → RpA K F (io.take n) vs ds
  | [], _, _, r => by cases r; exact .nil
  | d :: ds, _, h, r => by
    cases r with
    | cons r1 r2 =>
      rw [List.all_cons, Bool.and_eq_true] at h
      exact .cons (rp_low h.1 r1) (rpa_low h.2 r2)
theorem prs_low {κ : Type} {n : Nat} : ∀ {fs : List (κ × D)} {vs : List (κ × V)}, (fs.all fun q => q.2.low n) = true → Paired (fun (p : κ × V) (q : κ × D) => p.1 = q.1 ∧ Rp K F io p.2 q.2) vs fs → Paired (fun (p : κ × V) (q : κ × D) => p.1 = q.1 ∧ Rp K F (io.take n) p.2 q.2) vs fs
  | [], _, _, r => by cases r; exact .nil
  | d :: ds, _, h, r => by
    cases r with
    | cons r1 r2 =>
      rw [List.all_cons, Bool.and_eq_true] at h
      exact .cons ⟨r1.1, rp_low h.1 r1.2⟩ (prs_low h.2 r2)
theorem oat_low {n : Nat} {a : Addr} : ∀ {o : O}, o.low n = true → OAt K F io H a o → OAt K F (io.take n) H a o
  | .lst xs, h, ⟨h0, vs, h1, r⟩ => ⟨h0, vs, h1, rpa_low h r⟩
  | .dic kvs, h, ⟨h0, kws, h1, r⟩ => ⟨h0, kws, h1, prs_low h r⟩
  | .ins m fs, h, ⟨h0, dx, fvs, h1, h2, r⟩ => ⟨h0, dx, fvs, h1, h2, prs_low h r⟩
  | .fz d, h, ⟨h0, r⟩ => ⟨h0, rp_low h r⟩
  | .gone, _, h => h
theorem Good.trim (g : Good K G F io H S) {n : Nat} (h : ((S.take n).all (O.low n)) = true) : Good K G F (io.take n) H (S.take n) where
  ex := g.ex
  gx := g.gx
  gf := fun a o q => ⟨(g.gf a o q).1, fun hm => (g.gf a o q).2 (List.mem_of_mem_take hm)⟩
  nd := g.nd.sublist (List.take_sublist _ _)
  len := by rw [List.length_take, List.length_take, g.len]
  ob := fun k a o h1 h2 => by
    have hk : k < n := by
      have := (List.getElem?_eq_some_iff.mp h1).1
      rw [List.length_take] at this
      omega
    have hl := List.all_eq_true.mp h o (List.mem_of_getElem? h2)
    rw [List.getElem?_take_of_lt hk] at h1 h2
    exact oat_low hl (g.ob k a o h1 h2)
  gt := g.gt
end
theorem take_ext {F F' : Hp} {io io' : List Addr} (e : Ext F io F' io') {n : Nat} (h : io.length = n) : io'.take n = io := by
  obtain ⟨t, ht⟩ := e.more
  subst ht
  subst h
  simp
section
variable {K : PySem.W.Frag} {P : Program} {w : World} {mg : Str → Option Value} {base : Heap} {x qual : Str} {params : Arguments} {body : List Stmt} {scope : Scope} {f : Addr} {fd : FuncData} {N ps : List Str} {k : Nat} {m : FS}
theorem start_renv {c : Cw} {F : Hp} {io : List Addr} {vs : List V} {ds : List D} (r : RpA c.K F io vs ds) : REnv c F io (L2.start N vs) (ds.map some ++ List.replicate (N.length - ds.length) none) := by
  unfold L2.start
  have hl := paired_len r
  refine ⟨by simp [hl], fun i d h => ?_⟩
  by_cases hi : i < ds.length
  · rw [List.getElem?_append_left (by simpa using hi), List.getElem?_map] at h
    rw [List.getElem?_append_left (by simpa [hl] using hi), List.getElem?_map]
    cases e : ds[i]? with
    | none => rw [e] at h; cases h
    | some d' =>
      rw [e] at h
      have h : d' = d := Option.some.inj (Option.some.inj h)
      subst h
      obtain ⟨v, h1, h2⟩ := paired_get r e
      exact ⟨v, by rw [h1]; rfl, rpe_of h2⟩
  · rw [List.getElem?_append_right (by simpa using Nat.le_of_not_lt hi), List.getElem?_replicate] at h
    split at h
    · cases h
    · cases h
theorem fn_ok (Fn : FunD K x qual params body scope [] [] f fd) (S : FnScope N ps scope)
    (hb : ∀ (cdv : Value) (A : Around) (outer : List PySem.Env) (s : Shared) (H : Hp) (E : XK), Room k (A.deeper (envOfC qual scope s.heap.objs.size f cdv)) → PSs (cxOf (L2N.CX P w) P w K mg base N qual scope f cdv A outer s H E) body (tS (cE K E) m)) :
    FnOk P w K mg base (L2N.CX P w) (k + 1) f fd ps (spF K (callM N.length m) ps.length) := by
  refine Fn.ok S (fun vs H Q E h => h.1) fun cdv A outer s H vs Q E hr h => ⟨_, hb cdv A outer s H E hr, ?_⟩
  obtain ⟨_, G, F, io, St, ds, g, r, q⟩ := h
  refine ⟨G, F, io, St, _, g, start_renv (c := cE K E) (N := N) r, ?_⟩
  unfold callM at q
  have keep : ∀ {d : D} {S' : Sto}, Aft (cE K E) G F io [] (rp (cE K E)) Q (trim St d S') → ∀ v F' io' H', Ext F io F' io' → Good K G F' io' H' S' → Rp K F' io' v d → Q v H' := fun {d S'} q v F' io' H' e' g' r' => by
    unfold trim at q
    by_cases h1 : S'.length = St.length
    · rw [if_pos h1] at q
      exact q v F' io' H' e' g' r'
    · rw [if_neg h1] at q
      by_cases h2 : (d.low St.length && (S'.take St.length).all (O.low St.length)) = true
      · rw [if_pos h2] at q
        rw [Bool.and_eq_true] at h2
        have e3 := take_ext e' (g.len)
        have g3 := g'.trim h2.2
        have r3 := rp_low h2.1 r'
        rw [e3] at g3 r3
        exact q v F' io H' ⟨e'.same, [], by simp⟩ g3 r3
      · rw [if_neg h2] at q
        exact q.elim
  cases hm : m (ds.map some ++ List.replicate (N.length - ds.length) none) St with
  | rt d S' =>
    rw [hm] at q
    exact keep q
  | nx ρ' S' =>
    rw [hm] at q
    exact fun σ F' io' H' e' g' _ => keep q .non F' io' H' e' g' Dq.non
  | exc n as ρ' S' =>
    rw [hm] at q
    have q : Aft (cE K E) G F io [] (rp (cE K E)) Q (trimX St n as S') := q
    unfold trimX at q
    intro cls dd σ F' io' H' e' g' _ x'
    by_cases h1 : S'.length = St.length
    · rw [if_pos h1] at q
      exact q cls dd F' io' H' e' g' x'
    · rw [if_neg h1] at q
      by_cases h2 : ((S'.take St.length).all (O.low St.length)) = true
      · rw [if_pos h2] at q
        have e3 := take_ext e' (g.len)
        have g3 := g'.trim h2
        rw [e3] at g3
        exact q cls dd F' io H' ⟨e'.same, [], by simp⟩ g3 x'
      · rw [if_neg h2] at q
        exact q.elim
  | bk ρ' S' => rw [hm] at q; exact q.elim
  | ct ρ' S' => rw [hm] at q; exact q.elim
  | bad => rw [hm] at q; exact q.elim
end
section
variable {X : Cx} {c : Cw} {e : Expr} {es : List Expr} {fr : FA}
/-- a call of a def of one's own -/
theorem fe_own {m : List D → Sto → Res D} {n : Nat} (h : ∀ {t : TA}, PA X es t → PE X e (tCallS (spF c.K m n) (WE c.W) t)) (ha : PA X es (tA c fr)) (hn : es.length = n) (hl : ∀ ρ S ds S', fr ρ S = .ok ds S' → ds.length = es.length) : PE X e (tE c (fCall m fr)) :=
  pe_imp (h ha) fun σ H Q ⟨G, F, io, S, ρ, gd, re, q⟩ => ⟨G, F, io, S, ρ, gd, re, by
    unfold fCall at q
    cases hr : fr ρ S with
    | ok ds S1 =>
      rw [hr] at q
      intro vs F1 i1 H1 e1 g1 r1
      have q2 := Aft.ext (r := m ds S1) q e1
      refine ⟨by rw [paired_len r1, hl ρ S ds S1 hr, hn], G, F1, i1, S1, ds, g1, r1, ?_⟩
      cases hm : m ds S1 with
      | ok d S2 => rw [hm] at q2; exact q2
      | exc n as S2 => rw [hm] at q2; exact q2
      | bad => rw [hm] at q2; exact q2
    | exc n as S1 => rw [hr] at q; exact q
    | bad => rw [hr] at q; exact q⟩
theorem fr_len_nil {ρ : Env} {S : Sto} {ds : List D} {S' : Sto} (h : fNil ρ S = .ok ds S') : ds.length = 0 := by
  unfold fNil at h
  injection h with h1 _
  rw [← h1]
  rfl
theorem fr_len_cons {fa : FE} {fr : FA} {n : Nat} (hr : ∀ ρ S ds S', fr ρ S = .ok ds S' → ds.length = n) {ρ : Env} {S : Sto} {ds : List D} {S' : Sto} (h : fCons fa fr ρ S = .ok ds S') : ds.length = n + 1 := by
  unfold fCons at h
  cases h1 : fa ρ S with
  | ok x S1 =>
    rw [h1] at h
    have h : ((fr ρ S1).bind fun xs S2 => .ok (x :: xs) S2) = .ok ds S' := h
    cases h2 : fr ρ S1 with
    | ok xs S2 =>
      rw [h2] at h
      have h : Res.ok (x :: xs) S2 = .ok ds S' := h
      injection h with h3 _
      rw [← h3, List.length_cons, hr _ _ _ _ h2]
    | exc n as S2 => rw [h2] at h; cases h
    | bad => rw [h2] at h; cases h
  | exc n as S1 => rw [h1] at h; cases h
  | bad => rw [h1] at h; cases h
end
/-! ### built-ins -/
section
variable {c : Cw}
def gLen : List D → Sto → Res D := fun ds S => match ds with
  | [.p (.tuple xs)] => .ok (.p (.int xs.length)) S
  | [.p (.list xs)] => .ok (.p (.int xs.length)) S
  | [.own k] => match S[k]? with
    | some (.lst xs) => .ok (.p (.int xs.length)) S
    | _ => .bad
  | [.mix xs] => .ok (.p (.int xs.length)) S
  | _ => .bad
theorem bc_len : BCall c (fun xs H Q => ∃ p ys, xs = [.ref p] ∧ (SqL c.K H p ys ∨ SqT c.K H p ys) ∧ Q (.int ys.length) H) gLen := fun G F io H S σ xs ds Q gd r q => by
  cases r with
  | nil => exact q.elim
  | @cons v d _ _ ra rb =>
    cases rb with
    | cons _ _ =>
      cases d with
      | p a => cases a <;> exact q.elim
      | _ => exact q.elim
    | nil =>
      cases d with
      | p a =>
        cases a with
        | tuple zs =>
          cases ra with
          | @tup p vs _ hx ha => exact ⟨p, vs, rfl, .inr (sq_t gd.ex hx.sq), hereP q gd (by rw [dpa_len _ _ ha]; exact Dq.int _)⟩
        | list zs =>
          cases ra with
          | @lst p vs _ hx ha => exact ⟨p, vs, rfl, .inl (SqL.of (gd.ex _ _ hx)), hereP q gd (by rw [dpa_len _ _ ha]; exact Dq.int _)⟩
        | _ => exact q.elim
      | own k =>
        have q : Aft c G F io σ (rp c) Q (match S[k]? with
          | some (.lst xs) => .ok (.p (.int xs.length)) S
          | _ => .bad) := q
        cases hk : S[k]? with
        | none => rw [hk] at q; exact q.elim
        | some o =>
          rw [hk] at q
          cases o with
          | lst ys =>
            obtain ⟨a, e1, e2⟩ := ra
            obtain ⟨a', e3, h0, vs, h1, h2⟩ := gd.at_ hk
            rw [e2] at e3
            have e3 : a = a' := Option.some.inj e3
            subst e3
            exact ⟨a, vs, by rw [e1], .inl (SqL.of h1), hereP q gd (by rw [paired_len h2]; exact Dq.int _)⟩
          | _ => exact q.elim
      | mix ys =>
        obtain ⟨a, vs, e1, h1, h2⟩ := ra
        exact ⟨a, vs, by rw [e1], .inl (SqL.of (gd.ex _ _ h1)), hereP q gd (by rw [paired_len h2]; exact Dq.int _)⟩
      | _ => exact q.elim
theorem two_i {α : Type} {t : Int → Int → α} {z : α} {ds : List D} (P : α → Prop) (h : P (match ds with
  | [.p (.int i), .p (.int j)] => t i j
  | _ => z)) (hz : ¬ P z) : ∃ i j, ds = [.p (.int i), .p (.int j)] ∧ P (t i j) := by
  split at h
  · exact ⟨_, _, rfl, h⟩
  · exact absurd h hz
theorem rpa2 {F : Hp} {io : List Addr} {xs : List V} {i j : Int} (r : RpA c.K F io xs [.p (.int i), .p (.int j)]) : xs = [.int i, .int j] := by
  cases r with
  | cons ra rb =>
    cases ra
    cases rb with
    | cons ra rb =>
      cases ra
      cases rb
      rfl
def gMax2 : List D → Sto → Res D := fun ds S => match ds with
  | [.p (.int i), .p (.int j)] => .ok (.p (.int (if j > i then j else i))) S
  | _ => .bad
def gMin2 : List D → Sto → Res D := fun ds S => match ds with
  | [.p (.int i), .p (.int j)] => .ok (.p (.int (if j < i then j else i))) S
  | _ => .bad
theorem bc_max2 : BCall c (fun xs H Q => ∃ i j, xs = [.int i, .int j] ∧ Q (.int (if j > i then j else i)) H) gMax2 := fun G F io H S σ xs ds Q gd r q => by
  obtain ⟨i, j, rfl, q⟩ := two_i (Aft c G F io σ (rp c) Q) q aft_bad
  exact ⟨i, j, rpa2 r, hereP q gd (Dq.int _)⟩
theorem bc_min2 : BCall c (fun xs H Q => ∃ i j, xs = [.int i, .int j] ∧ Q (.int (if j < i then j else i)) H) gMin2 := fun G F io H S σ xs ds Q gd r q => by
  obtain ⟨i, j, rfl, q⟩ := two_i (Aft c G F io σ (rp c) Q) q aft_bad
  exact ⟨i, j, rpa2 r, hereP q gd (Dq.int _)⟩
def gInt : List D → Sto → Res D := fun ds S => match ds with
  | [.p (.int i)] => .ok (.p (.int i)) S
  | [.p (.bool b)] => .ok (.p (.int (if b then 1 else 0))) S
  | _ => .bad
theorem bc_int : BCall c (fun xs H Q => (∃ i, xs = [.int i] ∧ Q (.int i) H) ∨ ∃ k, xs = [.bl k] ∧ Q (.int (if k then 1 else 0)) H) gInt := fun G F io H S σ xs ds Q gd r q => by
  unfold gInt at q
  split at q
  · cases r with
    | cons ra rb =>
      cases ra
      cases rb
      exact .inl ⟨_, rfl, hereP q gd (Dq.int _)⟩
  · cases r with
    | cons ra rb =>
      cases ra
      cases rb
      exact .inr ⟨_, rfl, hereP q gd (Dq.int _)⟩
  · exact q.elim
def boolsOf : List PyData → Option (List Bool)
  | [] => some []
  | .bool b :: r => (boolsOf r).map (b :: ·)
  | _ :: _ => none
theorem bools_ok {F : Hp} : ∀ {ds : List PyData} {vs : List V} {bs : List Bool}, boolsOf ds = some bs → DqA c.K F vs ds → vs = bs.map V.bl
  | [], _, bs, h, r => by
    cases r
    have h : [] = bs := Option.some.inj h
    subst h
    rfl
  | .bool b :: ds, _, bs, h, r => by
    cases r with
    | cons r1 r2 =>
      have h : (boolsOf ds).map (b :: ·) = some bs := h
      cases e : boolsOf ds with
      | none => rw [e] at h; cases h
      | some bs' =>
        rw [e] at h
        have h : b :: bs' = bs := Option.some.inj h
        subst h
        cases r1
        rw [List.map_cons, bools_ok e r2]
  | .none :: _, _, _, h, _ => by cases h
  | .int _ :: _, _, _, h, _ => by cases h
  | .str _ :: _, _, _, h, _ => by cases h
  | .list _ :: _, _, _, h, _ => by cases h
  | .tuple _ :: _, _, _, h, _ => by cases h
  | .dict _ :: _, _, _, h, _ => by cases h
def gAll : List D → Sto → Res D := fun ds S => match ds with
  | [.p (.list xs)] => match boolsOf xs with
    | some bs => .ok (.p (.bool (bs.all id))) S
    | none => .bad
  | _ => .bad
def gAny : List D → Sto → Res D := fun ds S => match ds with
  | [.p (.list xs)] => match boolsOf xs with
    | some bs => .ok (.p (.bool (bs.any id))) S
    | none => .bad
  | _ => .bad
theorem bc_all : BCall c (rAll c.K) gAll := fun G F io H S σ xs ds Q gd r q => by
  unfold gAll at q
  split at q
  · cases r with
    | cons ra rb =>
      cases rb
      cases ra with
      | @lst a vs _ hx ha =>
        split at q
        · rename_i bs hb
          refine ⟨a, bs, rfl, ?_, hereP q gd (Dq.bl _)⟩
          rw [← bools_ok hb ha]
          exact SqL.of (gd.ex _ _ hx)
        · exact q.elim
  · exact q.elim
theorem bc_any : BCall c (rAny c.K) gAny := fun G F io H S σ xs ds Q gd r q => by
  unfold gAny at q
  split at q
  · cases r with
    | cons ra rb =>
      cases rb
      cases ra with
      | @lst a vs _ hx ha =>
        split at q
        · rename_i bs hb
          refine ⟨a, bs, rfl, ?_, hereP q gd (Dq.bl _)⟩
          rw [← bools_ok hb ha]
          exact SqL.of (gd.ex _ _ hx)
        · exact q.elim
  · exact q.elim
/-! isinstance -/
inductive Ty where
  | int | bool | tuple | list | str | dict
def Ty.nm : Ty → String
  | .int => "int"
  | .bool => "bool"
  | .tuple => "tuple"
  | .list => "list"
  | .str => "str"
  | .dict => "dict"
def isT : Ty → PyData → Bool
  | .int, .int _ => true
  | .int, .bool _ => true
  | .bool, .bool _ => true
  | .tuple, .tuple _ => true
  | .list, .list _ => true
  | .str, .str _ => true
  | .dict, .dict _ => true
  | _, _ => false
def tyN : PyData → String
  | .none => "NoneType"
  | .bool _ => "bool"
  | .int _ => "int"
  | .str _ => "str"
  | .list _ => "list"
  | .tuple _ => "tuple"
  | .dict _ => "dict"
theorem tyx_of {K : PySem.W.Frag} {F H : Hp} (e : Same F H) {v : V} {d : PyData} (h : Dq K F v d) : TyX K H v (.type (tyN d)) := by
  cases h with
  | non => exact .base .non
  | bl b => exact .base (.bl b)
  | int i => exact .base (.int i)
  | str x => exact .base (.str x)
  | lst hx ha => exact .base (.lst (e _ _ hx))
  | dic hx ha => exact .base (.dT (e _ _ hx))
  | tup hx ha =>
    rcases hx.sq with (hx | ⟨o, hx⟩) | ⟨o, its, n, h1, h2, _⟩
    · exact .base (.tup (e _ _ hx))
    · exact .fTuple (e _ _ hx)
    · exact .kTuple h1 h2
def isK : Ty → String → Bool
  | .int, "int" => true
  | .int, "bool" => true
  | .bool, "bool" => true
  | .tuple, "tuple" => true
  | .list, "list" => true
  | .str, "str" => true
  | .dict, "dict" => true
  | _, _ => false
theorem isK_of (t : Ty) (d : PyData) : isK t (tyN d) = isT t d := by
  cases d <;> cases t <;> rfl
theorem kit_nm : ∀ n ∈ ["NoneType", "bool", "int", "str", "list", "tuple", "dict"], ∀ t : Ty, kitB n t.nm = some (isK t n) := by
  intro n hn t
  simp only [List.mem_cons, List.not_mem_nil, or_false] at hn
  rcases hn with rfl | rfl | rfl | rfl | rfl | rfl | rfl <;> cases t <;> decide +kernel
theorem kit_isT (t : Ty) (d : PyData) : kitB (tyN d) t.nm = some (isT t d) := by
  rw [← isK_of t d]
  refine kit_nm _ ?_ t
  cases d <;> simp [tyN]
end
end Tw
namespace Tw
open PySem PySem.Spec PyProof.Rows L2N
open L2 hiding St XE Takes CX takes_of passes_call MkP PMk ps_raise mk_of ps_try_as ps_try_many pmk_own passAt

/-! ### list comprehensions -/
def Res.noX {α : Type} : Res α → Res α
  | .exc _ _ _ => .bad
  | r => r
def wipeE (ρ : Env) : List Nat → Env
  | [] => ρ
  | v :: vs => (wipeE ρ vs).set v none
theorem renv_wipe {c : Cw} {F : Hp} {io : List Addr} {σ : L2.St} {ρ : Env} (h : REnv c F io σ ρ) : ∀ vs : List Nat, REnv c F io (wipe σ vs) (wipeE ρ vs)
  | [] => h
  | v :: vs => renv_none (renv_wipe h vs) v
def compL (g : FG) (ft fe : FE) (ρw : Env) : List D → Sto → Res (List D)
  | [], S => .ok [] S
  | d :: ds, S => match g d ρw with
    | none => .bad
    | some ρ1 => (ft ρ1 S).noX.asB.bind fun k S1 => if k = true then (fe ρ1 S1).noX.bind fun x S2 => (compL g ft fe ρw ds S2).bind fun xs S3 => .ok (x :: xs) S3 else compL g ft fe ρw ds S1
def fYes : FE := fun _ S => .ok (.p (.bool true)) S
def compEnd (xs : List D) (S : Sto) : Res D := match asPs xs with
  | some ps => .ok (.p (.list ps)) S
  | none => .bad
def fComp (vs : List Nat) (fi : FI) (g : FG) (ft fe : FE) : FE := fun ρ S => (fi ρ S).bind fun ds S1 => if ds.length < lim then (compL g ft fe (wipeE ρ vs) ds S1).bind compEnd else .bad
theorem gtu {G : Hp} {p : Addr} {o : HO} (h : ∀ (a : Addr) (u : HO), G a = some u → ∀ xs, u ≠ .tup xs) (ho : ∀ xs, o ≠ .tup xs) : ∀ (a : Addr) (u : HO), upd G p o a = some u → ∀ xs, u ≠ .tup xs := fun a u q => by
  by_cases ha : a = p
  · subst ha
    rw [upd_same] at q
    obtain rfl := Option.some.inj q
    exact ho
  · rw [upd_ne ha] at q
    exact h a u q
theorem Good.hold {K : PySem.W.Frag} {G F : Hp} {io : List Addr} {H : Hp} {S : Sto} {p : Addr} {o : HO} (g : Good K G F io H S) (h : H p = none) (ho : ∀ xs, o ≠ .tup xs := by intro xs z; cases z) : Good K (upd G p o) F io (upd H p o) S := by
  have hf := g.out h
  have hne : ∀ {a : Addr}, a ∈ io → a ≠ p := fun ha => by
    obtain ⟨u, hu⟩ := g.mem ha
    exact ne_of_none hu h
  refine ⟨fun b u q => ?_, upd_both g.gx, fun a u q => ?_, g.nd, g.len, fun k a o' h1 h2 => ?_, gtu g.gt ho⟩
  · rw [upd_ne (ne_of_none q hf)]
    exact g.ex _ _ q
  · by_cases ha : a = p
    · subst ha
      exact ⟨hf, fun hm => hne hm rfl⟩
    · rw [upd_ne ha] at q
      exact g.gf a u q
  · have ha := hne (List.mem_of_getElem? h1)
    exact oat_step (Ext.refl F io) (fun z => z) (fun _ => upd_ne ha) (g.ob k a o' h1 h2)
theorem Good.rehold {K : PySem.W.Frag} {G F : Hp} {io : List Addr} {H : Hp} {S : Sto} {p : Addr} {o u : HO} (g : Good K (upd G p o) F io H S) (ho : ∀ xs, u ≠ .tup xs := by intro xs z; cases z) : Good K (upd G p u) F io (upd H p u) S := by
  obtain ⟨hf, hio⟩ := g.gf p o upd_same
  refine ⟨fun b u q => ?_, fun b v q => ?_, fun a v q => ?_, g.nd, g.len, fun k a o' h1 h2 => ?_, fun a v q => ?_⟩
  · rw [upd_ne (ne_of_none q hf)]
    exact g.ex _ _ q
  · by_cases hb : b = p
    · subst hb
      rw [upd_same] at q ⊢
      exact q
    · rw [upd_ne hb] at q ⊢
      exact g.gx _ _ (by rw [upd_ne hb]; exact q)
  · by_cases ha : a = p
    · subst ha
      exact ⟨hf, hio⟩
    · rw [upd_ne ha] at q
      exact g.gf a v (by rw [upd_ne ha]; exact q)
  · have ha : a ≠ p := fun z => hio (z ▸ List.mem_of_getElem? h1)
    exact oat_step (Ext.refl F io) (fun z => z) (fun _ => upd_ne ha) (g.ob k a o' h1 h2)
  · by_cases ha : a = p
    · subst ha
      rw [upd_same] at q
      obtain rfl := Option.some.inj q
      exact ho
    · rw [upd_ne ha] at q
      exact g.gt a v (by rw [upd_ne ha]; exact q)
theorem Good.unhold {K : PySem.W.Frag} {G F : Hp} {io : List Addr} {H : Hp} {S : Sto} {p : Addr} {o : HO} (g : Good K (upd G p o) F io H S) (hG : G p = none) : Good K G (upd F p o) io H S ∧ Ext F io (upd F p o) io := by
  obtain ⟨hf, hio⟩ := g.gf p o upd_same
  have e : Ext F io (upd F p o) io := ⟨upd_one hf, [], by simp⟩
  refine ⟨⟨fun b u q => ?_, fun b v q => g.gx _ _ (by rw [upd_ne (ne_of_none q hG)]; exact q), fun a v q => ?_, g.nd, g.len, fun k a o' h1 h2 => ?_, fun a v q => g.gt a v (by rw [upd_ne (ne_of_none q hG)]; exact q)⟩, e⟩
  · by_cases hb : b = p
    · subst hb
      rw [upd_same] at q
      have hq : o = u := Option.some.inj q
      subst hq
      exact g.gx _ _ upd_same
    · rw [upd_ne hb] at q
      exact g.ex _ _ q
  · have ha := ne_of_none q hG
    obtain ⟨h1, h2⟩ := g.gf a v (by rw [upd_ne ha]; exact q)
    exact ⟨by rw [upd_ne ha]; exact h1, h2⟩
  · have ha : a ≠ p := fun z => hio (z ▸ List.mem_of_getElem? h1)
    exact oat_step e (fun z => by rw [upd_ne ha]; exact z) (fun _ => rfl) (g.ob k a o' h1 h2)
abbrev Cw.dry (c : Cw) : Cw := ⟨c.K, c.U, fun _ _ _ _ => False⟩
section
variable {c : Cw}
theorem renv_dry {F : Hp} {io : List Addr} {σ : L2.St} {ρ : Env} (h : REnv c F io σ ρ) : REnv c.dry F io σ ρ := ⟨h.1, fun i d q => by
  obtain ⟨v, h1, h2⟩ := h.2 i d q
  exact ⟨v, h1, by cases d <;> exact h2⟩⟩
/-- what follows r, from what follows r without errors -/
theorem Aft.dry {α β γ δ : Type} {G F : Hp} {io : List Addr} {σ τ : L2.St} {R : Hp → List Addr → β → α → Prop} {Q : β → Hp → Prop} {R1 : Hp → List Addr → δ → γ → Prop} {Q1 : δ → Hp → Prop} {r : Res γ} {k : γ → Sto → Res α}
    (h : Aft c G F io σ R Q (r.noX.bind k)) (go : ∀ d S1 v F1 io1 H1, Ext F io F1 io1 → Good c.K G F1 io1 H1 S1 → R1 F1 io1 v d → Aft c G F1 io1 σ R Q (k d S1) → Q1 v H1) {G2 : Hp}
    (gg : ∀ F1 io1 H1 S1, Good c.K G2 F1 io1 H1 S1 → Good c.K G F1 io1 H1 S1) : Aft c.dry G2 F io τ R1 Q1 r := by
  cases r with
  | ok d S1 => exact fun v F1 io1 H1 e g r => go d S1 v F1 io1 H1 e (gg _ _ _ _ g) r (Aft.ext (r := k d S1) h e)
  | exc n as S => exact h.elim
  | bad => exact h.elim
end
theorem Good.drop {K : PySem.W.Frag} {G F : Hp} {io : List Addr} {H : Hp} {S : Sto} {p : Addr} {o : HO} (g : Good K (upd G p o) F io H S) (hG : G p = none) : Good K G F io H S :=
  ⟨g.ex, fun b v q => g.gx _ _ (by rw [upd_ne (ne_of_none q hG)]; exact q), fun a v q => g.gf a v (by rw [upd_ne (ne_of_none q hG)]; exact q), g.nd, g.len, g.ob, fun a v q => g.gt a v (by rw [upd_ne (ne_of_none q hG)]; exact q)⟩
theorem asPs_app : ∀ {xs ys : List D}, asPs (xs ++ ys) = (asPs xs).bind fun a => (asPs ys).map (a ++ ·)
  | [], ys => by cases h : asPs ys <;> simp [asPs, h]
  | .p d :: xs, ys => by
    show (asPs (xs ++ ys)).map (d :: ·) = ((asPs xs).map (d :: ·)).bind fun a => (asPs ys).map (a ++ ·)
    rw [asPs_app]
    cases asPs xs with
    | none => rfl
    | some a => cases asPs ys <;> rfl
  | .own _ :: _, _ => rfl
  | .wld _ _ :: _, _ => rfl
  | .exn :: _, _ => rfl
  | .scr _ :: _, _ => rfl
  | .dz _ :: _, _ => rfl
  | .fn _ :: _, _ => rfl
  | .err _ _ :: _, _ => rfl
  | .mix _ :: _, _ => rfl
  | .mtp _ :: _, _ => rfl
theorem paired_app {α β : Type} {R : α → β → Prop} : ∀ {xs : List α} {ys : List β} {as : List α} {bs : List β}, Paired R xs ys → Paired R as bs → Paired R (xs ++ as) (ys ++ bs)
  | _, _, _, _, .nil, h => h
  | _, _, _, _, .cons r t, h => .cons r (paired_app t h)
section
variable {X : Cx} {c : Cw} {e elt tg iter : Expr} {vs : List Nat} {fi : FI} {g : FG} {ft fe : FE}
/-- what ends a comprehension's run: the list at hand becomes a value -/
def CeOk (c : Cw) (ce : List D → Sto → Res D) : Prop := ∀ {G F : Hp} {io : List Addr} {H : Hp} {S : Sto} {σ : L2.St} {Q : VK} {Dl : Addr} {vacc : List V} {acc : List D}, Good c.K (upd G Dl (.lst vacc)) F io H S → G Dl = none → RpA c.K F io vacc acc → Aft c G F io σ (rp c) Q (ce acc S) → Q (.ref Dl) H
def fCompG (ce : List D → Sto → Res D) (vs : List Nat) (fi : FI) (g : FG) (ft fe : FE) : FE := fun ρ S => (fi ρ S).bind fun ds S1 => if ds.length < lim then (compL g ft fe (wipeE ρ vs) ds S1).bind ce else .bad
theorem ce_end : CeOk c compEnd := fun {G F io H S σ Q Dl vacc acc} g2 hG ra q2 => by
  unfold compEnd at q2
  cases ha : asPs acc with
  | none => rw [ha] at q2; exact q2.elim
  | some ps =>
    rw [ha] at q2
    obtain ⟨g4, e4⟩ := g2.unhold hG
    exact q2 (.ref Dl) _ _ _ e4 g4 (.lst upd_same (dpa_mono e4.same _ _ (asPs_ok ha ra)))
theorem lc_mainG {ce : List D → Sto → Res D} (hce : CeOk c ce) (σ : L2.St) (H : Hp) (Q : VK) (h : tE c (fCompG ce vs fi g ft fe) σ H Q) : tLc (tI c fi) (tG c.dry vs g) (tT c.dry ft) (tE c.dry fe) vs σ H Q := by
  obtain ⟨G, F, io, S, ρ, gd, re, q⟩ := h
  refine ⟨G, F, io, S, ρ, gd, re, Aft.step q fun ds S1 J F1 i1 H1 e1 g1 it q1 Dl hD => ?_⟩
  have q1 : Aft c G F1 i1 σ (rp c) Q (if ds.length < lim then (compL g ft fe (wipeE ρ vs) ds S1).bind ce else .bad) := q1
  by_cases hlim : ds.length < lim
  · rw [if_pos hlim] at q1
    have hG : G Dl = none := by
      cases hq : G Dl with
      | none => rfl
      | some o =>
        have := g1.gx _ _ hq
        rw [hD] at this
        cases this
    refine ⟨fun i m H' => m = ds.length - i ∧ i ≤ ds.length ∧ ∃ F2 io2 S2 acc vacc, Ext F1 i1 F2 io2 ∧ Good c.K (upd G Dl (.lst vacc)) F2 io2 H' S2 ∧ RpA c.K F2 io2 vacc acc ∧ acc.length ≤ i ∧
        Aft c G F2 io2 σ (rp c) Q ((compL g ft fe (wipeE ρ vs) (ds.drop i) S2).bind fun xs S3 => ce (acc ++ xs) S3),
      ⟨_, rfl, Nat.zero_le _, F1, i1, S1, [], [], Ext.refl _ _, g1.hold hD, .nil, Nat.le_refl _, q1⟩, ?_⟩
    rintro i m H' ⟨rfl, hi, F2, io2, S2, acc, vacc, e2, g2, ra, hacc, q2⟩
    by_cases hlt : i < ds.length
    · obtain ⟨hgo, hy⟩ := it.go i _ H' F2 io2 S2 hlt e2 g2
      refine .inr ⟨hgo, _, fun H3 n => ⟨ds.length - (i + 1), by omega, n⟩, fun x H3 y => ?_⟩
      obtain ⟨F3, e3, g3, d, hd, rd⟩ := hy x H3 y
      have hdr : ds.drop i = d :: ds.drop (i + 1) := by
        rw [List.drop_eq_getElem_cons hlt]
        rw [List.getElem?_eq_getElem hlt] at hd
        rw [Option.some.inj hd]
      rw [hdr] at q2
      have q2 : Aft c G F2 io2 σ (rp c) Q ((match g d (wipeE ρ vs) with
        | none => .bad
        | some ρ1 => (ft ρ1 S2).noX.asB.bind fun k S1 => if k = true then (fe ρ1 S1).noX.bind fun x S2 => (compL g ft fe (wipeE ρ vs) (ds.drop (i + 1)) S2).bind fun xs S3 => .ok (x :: xs) S3 else compL g ft fe (wipeE ρ vs) (ds.drop (i + 1)) S1 : Res (List D)).bind fun xs S3 => ce (acc ++ xs) S3) := q2
      cases hg : g d (wipeE ρ vs) with
      | none => rw [hg] at q2; exact q2.elim
      | some ρ1 =>
        rw [hg] at q2
        have q2 := Aft.ext q2 e3
        have re3 := renv_wipe (renv_mono e3 (renv_mono e2 (renv_mono e1 re))) vs
        refine ⟨_, F3, io2, S2, d, _, ρ1, g3, rd, renv_dry re3, hg, fun σ4 re4 w4 => ⟨w4.trans (wipe_idem vs), _, F3, io2, S2, ρ1, g3, re4, ?_⟩⟩
        have key : ∀ {r : Res D} {k : Bool → Sto → Res (List D)}, Aft c G F3 io2 σ (rp c) Q ((r.noX.asB.bind k).bind fun xs S3 => ce (acc ++ xs) S3) → ∀ {Q1 : Bool → Hp → Prop},
            (∀ b S5 F5 io5 H5, Ext F3 io2 F5 io5 → Good c.K (upd G Dl (.lst vacc)) F5 io5 H5 S5 → Aft c G F5 io5 σ (rp c) Q ((k b S5).bind fun xs S3 => ce (acc ++ xs) S3) → Q1 b H5) → Aft c.dry (upd G Dl (.lst vacc)) F3 io2 σ4 rpB Q1 r.asB := fun {r k} q {Q1} go => by
          cases r with
          | ok d5 S5 =>
            cases d5 with
            | p d6 =>
              cases d6 with
              | bool b =>
                intro b' F5 io5 H5 e5 g5 r5
                have r5 : b' = b := r5
                subst r5
                exact go b' S5 F5 io5 H5 e5 g5 (Aft.ext (r := (k b' S5).bind fun xs S3 => ce (acc ++ xs) S3) q e5)
              | _ => exact q.elim
            | _ => exact q.elim
          | exc n as S5 => exact q.elim
          | bad => exact q.elim
        refine key q2 fun b S5 F5 io5 H5 e5 g5 q5 => ?_
        cases b with
        | false =>
          have q5 : Aft c G F5 io5 σ (rp c) Q ((compL g ft fe (wipeE ρ vs) (ds.drop (i + 1)) S5).bind fun xs S3 => ce (acc ++ xs) S3) := q5
          exact ⟨rfl, hlt, F5, io5, S5, acc, vacc, (e2.trans e3).trans e5, g5, rpa_mono (e3.trans e5) ra, Nat.le_succ_of_le hacc, q5⟩
        | true =>
          have q5 : Aft c G F5 io5 σ (rp c) Q (((fe ρ1 S5).noX.bind fun x S2 => (compL g ft fe (wipeE ρ vs) (ds.drop (i + 1)) S2).bind fun xs S3 => .ok (x :: xs) S3).bind fun xs S3 => ce (acc ++ xs) S3) := q5
          refine ⟨_, F5, io5, S5, ρ1, g5, renv_mono e5 re4, ?_⟩
          cases hr : fe ρ1 S5 with
          | exc n as S6 => rw [hr] at q5; exact q5.elim
          | bad => rw [hr] at q5; exact q5.elim
          | ok y S6 =>
            rw [hr] at q5
            intro v F6 io6 H6 e6 g6 r6
            have q6 : Aft c G F5 io5 σ (rp c) Q (((compL g ft fe (wipeE ρ vs) (ds.drop (i + 1)) S6).bind fun xs S3 => .ok (y :: xs) S3).bind fun xs S3 => ce (acc ++ xs) S3) := q5
            have q6 := Aft.ext q6 e6
            refine ⟨vacc, g6.gx _ _ upd_same, ?_, rfl, hlt, F6, io6, S6, acc ++ [y], vacc ++ [v], ((e2.trans e3).trans e5).trans e6, g6.rehold, paired_app (rpa_mono ((e3.trans e5).trans e6) ra) (.cons r6 .nil), by simp; omega, ?_⟩
            · rw [paired_len ra]
              exact Nat.lt_of_lt_of_le (Nat.lt_of_le_of_lt hacc (Nat.lt_trans hlt hlim)) lim_line
            · have same : (((compL g ft fe (wipeE ρ vs) (ds.drop (i + 1)) S6).bind fun xs S3 => .ok (y :: xs) S3).bind fun xs S3 => ce (acc ++ xs) S3) = ((compL g ft fe (wipeE ρ vs) (ds.drop (i + 1)) S6).bind fun xs S3 => ce (acc ++ [y] ++ xs) S3) := by
                cases compL g ft fe (wipeE ρ vs) (ds.drop (i + 1)) S6 with
                | ok xs S7 =>
                  show ce (acc ++ y :: xs) S7 = ce (acc ++ [y] ++ xs) S7
                  rw [List.append_assoc]
                  rfl
                | exc n as S7 => rfl
                | bad => rfl
              rw [same] at q6
              exact q6
    · have e0 : i = ds.length := by omega
      subst e0
      rw [List.drop_length] at q2
      refine .inl ⟨it.stop _ _ H' F2 io2 S2 (Nat.le_refl _) e2 g2, ?_⟩
      have q2 : Aft c G F2 io2 σ (rp c) Q (ce (acc ++ []) S2) := q2
      rw [List.append_nil] at q2
      exact hce g2 hG ra q2
  · rw [if_neg hlim] at q1
    exact q1.elim
where
  wipe_idem {σ : L2.St} (vs : List Nat) : wipe (wipe σ vs) vs = wipe σ vs := by
    have off : ∀ {σ : L2.St} {i : Nat} {ws : List Nat}, i ∈ ws → (wipe σ ws).set i none = wipe σ ws := fun {σ i ws} => by
      induction ws with
      | nil => intro h; cases h
      | cons w ws ih =>
        intro h
        show ((wipe σ ws).set w none).set i none = (wipe σ ws).set w none
        by_cases hw : i = w
        · subst hw
          rw [List.set_set]
        · rw [List.set_comm _ _ (Ne.symm hw), ih ((List.mem_cons.mp h).resolve_left hw)]
    have sub : ∀ (us : List Nat), (∀ u ∈ us, u ∈ vs) → wipe (wipe σ vs) us = wipe σ vs := by
      intro us
      induction us with
      | nil => intro _; rfl
      | cons u us ih =>
        intro h
        show (wipe (wipe σ vs) us).set u none = wipe σ vs
        rw [ih fun x hx => h x (List.mem_cons_of_mem _ hx), off (h u List.mem_cons_self)]
    exact sub vs fun _ h => h
theorem lc_main (σ : L2.St) (H : Hp) (Q : VK) (h : tE c (fComp vs fi g ft fe) σ H Q) : tLc (tI c fi) (tG c.dry vs g) (tT c.dry ft) (tE c.dry fe) vs σ H Q := lc_mainG ce_end σ H Q h
theorem fe_comp (h : ∀ {wi : TI} {tg' : TG} {tt : TT} {te : TE}, PI X tg iter wi → (∀ (s : Shared) (H : Hp) (C : Addr) (cl : List (Str × Addr)) (fp : List Addr), PG (X.blk s H scope (compEnvC scope cl C X.env) fp) tg tg') →
    (∀ (s : Shared) (H : Hp) (C : Addr) (cl : List (Str × Addr)) (fp : List Addr), PTs (X.blk s H scope (compEnvC scope cl C X.env) fp) ifs tt) → (∀ (s : Shared) (H : Hp) (C : Addr) (cl : List (Str × Addr)) (fp : List Addr), PE (X.blk s H scope (compEnvC scope cl C X.env) fp) elt te) →
    PE X e (tLc wi tg' tt te vs)) (hi : PI X tg iter (tI c fi)) (hg : ∀ (s : Shared) (H : Hp) (C : Addr) (cl : List (Str × Addr)) (fp : List Addr), PG (X.blk s H scope (compEnvC scope cl C X.env) fp) tg (tG c.dry vs g))
    (ht : ∀ (s : Shared) (H : Hp) (C : Addr) (cl : List (Str × Addr)) (fp : List Addr), PTs (X.blk s H scope (compEnvC scope cl C X.env) fp) ifs (tT c.dry ft)) (he : ∀ (s : Shared) (H : Hp) (C : Addr) (cl : List (Str × Addr)) (fp : List Addr), PE (X.blk s H scope (compEnvC scope cl C X.env) fp) elt (tE c.dry fe)) :
    PE X e (tE c (fComp vs fi g ft fe)) := pe_imp (h hi hg ht he) lc_main
theorem fs_comp {i : Nat} {st : Stmt} (h : ∀ {wi : TI} {tg' : TG} {tt : TT} {te : TE}, PI X tg iter wi → (∀ (s : Shared) (H : Hp) (C : Addr) (cl : List (Str × Addr)) (fp : List Addr), PG (X.blk s H scope (compEnvC scope cl C X.env) fp) tg tg') →
    (∀ (s : Shared) (H : Hp) (C : Addr) (cl : List (Str × Addr)) (fp : List Addr), PTs (X.blk s H scope (compEnvC scope cl C X.env) fp) ifs tt) → (∀ (s : Shared) (H : Hp) (C : Addr) (cl : List (Str × Addr)) (fp : List Addr), PE (X.blk s H scope (compEnvC scope cl C X.env) fp) elt te) →
    PS X st (tAsg (tLc wi tg' tt te vs) (gName i))) (hi : PI X tg iter (tI c fi)) (hg : ∀ (s : Shared) (H : Hp) (C : Addr) (cl : List (Str × Addr)) (fp : List Addr), PG (X.blk s H scope (compEnvC scope cl C X.env) fp) tg (tG c.dry vs g))
    (ht : ∀ (s : Shared) (H : Hp) (C : Addr) (cl : List (Str × Addr)) (fp : List Addr), PTs (X.blk s H scope (compEnvC scope cl C X.env) fp) ifs (tT c.dry ft)) (he : ∀ (s : Shared) (H : Hp) (C : Addr) (cl : List (Str × Addr)) (fp : List Addr), PE (X.blk s H scope (compEnvC scope cl C X.env) fp) elt (tE c.dry fe)) :
    PS X st (tS c (fSet i (fComp vs fi g ft fe))) := ps_imp (h hi hg ht he) fun N σ H ⟨G, F, io, S, ρ, gd, re, q⟩ =>
  lc_main σ H _ ⟨G, F, io, S, ρ, gd, re, AftS.step q re fun d S1 v F1 io1 H1 e1 g1 r1 q1 => AftS.here q1 g1 (renv_set (renv_mono e1 re) (rpe_of r1) i)⟩
theorem fts_nil : PTs X [] (tT c fYes) := ⟨fun pins s σ H Q I ⟨G, F, io, S, ρ, gd, re, q⟩ => pts_nil.run pins s σ H Q I (Aft.here (v := true) q gd rfl)⟩
theorem fts_one {f : FE} (h : PT X e (tT c f)) : PTs X [e] (tT c f) := pts_one h
end
end Tw
namespace Tw
open PySem PySem.Spec PyProof.Rows L2N
open L2 hiding St XE Takes CX takes_of passes_call MkP PMk ps_raise mk_of ps_try_as ps_try_many pmk_own passAt

section
variable {X : Cx} {c : Cw} {e : Expr} {fa fb fd : FE}
/-! ### a < b < d -/
def fChain (g g' : D → D → Sto → Res D) (fa fb fd : FE) : FE := fun ρ S => (fa ρ S).bind fun x S1 => (fb ρ S1).bind fun y S2 => (g x y S2).asB.bind fun k S3 => if k = true then (fd ρ S3).bind fun z S4 => g' y z S4 else .ok (.p (.bool false)) S3
theorem chain_main {r r' : R2} {g g' : D → D → Sto → Res D} (hr : BOp c r g) (hr' : BOp c r' g') (σ : L2.St) (H : Hp) (Q : VK) (h : tE c (fChain g g' fa fb fd) σ H Q) : tChain r r' (tE c fa) (tE c fb) (tE c fd) σ H Q := by
  obtain ⟨G, F, io, S, ρ, gd, re, q⟩ := h
  refine ⟨G, F, io, S, ρ, gd, re, Aft.step q fun d1 S1 v1 F1 i1 H1 e1 g1 r1 q1 => ⟨G, F1, i1, S1, ρ, g1, renv_mono e1 re, Aft.step q1 fun d2 S2 v2 F2 i2 H2 e2 g2 r2 q2 => ?_⟩⟩
  refine hr G F2 i2 H2 S2 σ v1 v2 d1 d2 _ g2 (rp_mono e2 r1) r2 (aft_b (Q := fun k H3 => if k = true then tE c fd σ H3 fun w' H4 => r' v2 w' H4 Q else Q (.bl false) H3) (Aft.step q2 fun k S3 k' F3 i3 H3 e3 g3 r3 q3 => ?_))
  have r3 : k' = k := r3
  subst r3
  cases k' with
  | true => exact ⟨G, F3, i3, S3, ρ, g3, renv_mono (e1.trans (e2.trans e3)) re, Aft.step q3 fun d4 S4 v4 F4 i4 H4 e4 g4 r4 q4 => hr' G F4 i4 H4 S4 σ v2 v4 d2 d4 Q g4 (rp_mono (e3.trans e4) r2) r4 q4⟩
  | false => exact hereP (v := .bl false) q3 g3 (Dq.bl false)
theorem fe_chain {r r' : R2} {g g' : D → D → Sto → Res D} {a b d : Expr} (h : ∀ {ta tb td : TE}, PE X a ta → PE X b tb → PE X d td → PE X e (tChain r r' ta tb td)) (hr : BOp c r g) (hr' : BOp c r' g') (ha : PE X a (tE c fa)) (hb : PE X b (tE c fb)) (hd : PE X d (tE c fd)) : PE X e (tE c (fChain g g' fa fb fd)) :=
  pe_imp (h ha hb hd) (chain_main hr hr')
theorem ft_chain {r r' : R2} {g g' : D → D → Sto → Res D} {a b d : Expr} (h : ∀ {ta tb td : TE}, PE X a ta → PE X b tb → PE X d td → PT X e (tTest (tChain r r' ta tb td))) (hr : BOp c r g) (hr' : BOp c r' g') (ha : PE X a (tE c fa)) (hb : PE X b (tE c fb)) (hd : PE X d (tE c fd)) : PT X e (tT c (fChain g g' fa fb fd)) :=
  pt_imp (h ha hb hd) fun σ H Q ⟨G, F, io, S, ρ, gd, re, q⟩ => chain_main hr hr' σ H _ ⟨G, F, io, S, ρ, gd, re, aft_b q⟩
/-! ### isinstance(x, T) -/
def fIsi (t : Ty) (fa : FE) : FE := fun ρ S => (fa ρ S).bind fun d S1 => match d with
  | .p d => .ok (.p (.bool (isT t d))) S1
  | .wld _ _ => .bad
  | _ => .bad
theorem fe_isi {t : Ty} {a : Expr} (h : ∀ {ta : TE}, PE X a ta → PE X e (tCB (rIsi c.K) (tCons ta (tCons (tC (.ty t.nm)) tNil)))) (ha : PE X a (tE c fa)) : PE X e (tE c (fIsi t fa)) :=
  pe_imp (h ha) fun σ H Q ⟨G, F, io, S, ρ, gd, re, q⟩ => ⟨G, F, io, S, ρ, gd, re, Aft.step q fun d1 S1 v1 F1 i1 H1 e1 g1 r1 q1 => by
    cases d1 with
    | p d => exact ⟨v1, _, _, _, _, rfl, .ty _, tyx_of g1.ex r1, kit_ty (kit_isT t d), hereP q1 g1 (Dq.bl _)⟩
    | _ => exact q1.elim⟩
/-! ### lists that change -/
def fApp (fo fa : FE) : FE := fun ρ S => (fo ρ S).bind fun o S1 => match o with
  | .own k => match S1[k]? with
    | some (.lst _) => (fa ρ S1).bind fun d S2 => match S2[k]? with
      | some (.lst xs) => if xs.length < lim then .ok (.p .none) (S2.set k (.lst (xs ++ [d]))) else .bad
      | _ => .bad
    | _ => .bad
  | _ => .bad
theorem fe_app {fo : FE} {o a : Expr} (h : ∀ {to ta : TE}, PE X o to → PE X a ta → PE X e (tBM c.K "list" rAppend to (tCons ta tNil))) (ho : PE X o (tE c fo)) (ha : PE X a (tE c fa)) : PE X e (tE c (fApp fo fa)) :=
  pe_imp (h ho ha) fun σ H Q ⟨G, F, io, S, ρ, gd, re, q⟩ => ⟨G, F, io, S, ρ, gd, re, Aft.step q fun o S1 v1 F1 i1 H1 e1 g1 r1 q1 => by
    cases o with
    | own k =>
      have q1 : Aft c G F1 i1 σ (rp c) Q (match S1[k]? with
        | some (.lst _) => (fa ρ S1).bind fun d S2 => match S2[k]? with
          | some (.lst xs) => if xs.length < lim then .ok (.p .none) (S2.set k (.lst (xs ++ [d]))) else .bad
          | _ => .bad
        | _ => .bad) := q1
      cases hk : S1[k]? with
      | none => rw [hk] at q1; exact q1.elim
      | some ob =>
        rw [hk] at q1
        cases ob with
        | lst xs0 =>
          obtain ⟨a0, ea, eo⟩ := r1
          obtain ⟨a', e3, h0, vs, h1, h2⟩ := g1.at_ hk
          rw [eo] at e3
          have e3 : a0 = a' := Option.some.inj e3
          subst e3
          subst ea
          refine ⟨.inl ⟨rfl, vs, SqL.of h1⟩, G, F1, i1, S1, ρ, g1, renv_mono e1 re, Aft.step q1 fun d S2 v2 F2 i2 H2 e2 g2 r2 q2 => ?_⟩
          have q2 : Aft c G F2 i2 σ (rp c) Q (match S2[k]? with
            | some (.lst xs) => if xs.length < lim then .ok (.p .none) (S2.set k (.lst (xs ++ [d]))) else .bad
            | _ => .bad) := q2
          cases hk2 : S2[k]? with
          | none => rw [hk2] at q2; exact q2.elim
          | some ob2 =>
            rw [hk2] at q2
            cases ob2 with
            | lst xs =>
              have q2 : Aft c G F2 i2 σ (rp c) Q (if xs.length < lim then .ok (.p .none) (S2.set k (.lst (xs ++ [d]))) else .bad) := q2
              by_cases hl : xs.length < lim
              · rw [if_pos hl] at q2
                obtain ⟨a', e3, h0', vs', h1', h2'⟩ := g2.at_ hk2
                rw [e2.ix eo] at e3
                have e3 : a0 = a' := Option.some.inj e3
                subst e3
                refine ⟨a0, vs', v2, rfl, rfl, h1', by rw [paired_len h2']; exact Nat.lt_of_lt_of_le hl lim_line, hereP (v := .non) q2 (g2.put (e2.ix eo) h0' ?_) Dq.non⟩
                exact ⟨h0', _, upd_same, paired_app h2' (.cons r2 .nil)⟩
              · rw [if_neg hl] at q2
                exact q2.elim
            | _ => exact q2.elim
        | _ => exact q1.elim
    | _ => exact q1.elim⟩
/-- xs[i] = v -/
def fSetIx (fv fo fi : FE) : FS := fun ρ S => (fv ρ S).thn ρ fun v S1 => (fo ρ S1).thn ρ fun o S2 => (fi ρ S2).thn ρ fun i S3 => match o, i with
  | .own k, .p (.int j) => match S3[k]? with
    | some (.lst xs) => match ixN xs.length j with
      | some m => .nx ρ (S3.set k (.lst (xs.set m v)))
      | none => .bad
    | _ => .bad
  | _, _ => .bad
theorem paired_set {α β : Type} {R : α → β → Prop} {x : α} {y : β} (r : R x y) : ∀ {xs : List α} {ys : List β} (i : Nat), Paired R xs ys → Paired R (xs.set i x) (ys.set i y)
  | _, _, _, .nil => .nil
  | _, _, 0, .cons _ t => .cons r t
  | _, _, i + 1, .cons q t => .cons q (paired_set r i t)
theorem fs_setIx {fv fo fi : FE} {st : Stmt} {ev eo ei : Expr} (h : ∀ {tv to ti : TE}, PE X ev tv → PE X eo to → PE X ei ti → PS X st (tAsg tv (gSub to ti rSetL))) (hv : PE X ev (tE c fv)) (ho : PE X eo (tE c fo)) (hi : PE X ei (tE c fi)) : PS X st (tS c (fSetIx fv fo fi)) :=
  ps_imp (h hv ho hi) fun N σ H ⟨G, F, io, S, ρ, gd, re, q⟩ => ⟨G, F, io, S, ρ, gd, re, AftS.step q re fun d1 S1 v1 F1 i1 H1 e1 g1 r1 q1 =>
    ⟨G, F1, i1, S1, ρ, g1, renv_mono e1 re, AftS.step q1 (renv_mono e1 re) fun d2 S2 v2 F2 i2 H2 e2 g2 r2 q2 =>
      ⟨G, F2, i2, S2, ρ, g2, renv_mono (e1.trans e2) re, AftS.step q2 (renv_mono (e1.trans e2) re) fun d3 S3 v3 F3 i3 H3 e3 g3 r3 q3 => by
        cases d2 with
        | own k =>
          cases d3 with
          | p a =>
            cases a with
            | int j =>
              have q3 : AftS c G F3 i3 N (match S3[k]? with
                | some (.lst xs) => match ixN xs.length j with
                  | some m => .nx ρ (S3.set k (.lst (xs.set m d1)))
                  | none => .bad
                | _ => .bad) := q3
              cases hk : S3[k]? with
              | none => rw [hk] at q3; exact q3.elim
              | some ob =>
                rw [hk] at q3
                cases ob with
                | lst xs =>
                  have q3 : AftS c G F3 i3 N (match ixN xs.length j with
                    | some m => .nx ρ (S3.set k (.lst (xs.set m d1)))
                    | none => .bad) := q3
                  cases hm : ixN xs.length j with
                  | none => rw [hm] at q3; exact q3.elim
                  | some m =>
                    rw [hm] at q3
                    obtain ⟨a0, ea, eo⟩ := r2
                    obtain ⟨a', e4, h0, vs, h1, h2⟩ := g3.at_ hk
                    rw [e3.ix eo] at e4
                    have e4 : a0 = a' := Option.some.inj e4
                    subst e4
                    subst ea
                    cases r3
                    refine ⟨a0, vs, j, m, rfl, rfl, h1, by rw [paired_len h2]; exact hm, AftS.here q3 (g3.put (e3.ix eo) h0 ?_) (renv_mono (e1.trans (e2.trans e3)) re)⟩
                    exact ⟨h0, _, upd_same, paired_set (rp_mono (e2.trans e3) r1) m h2⟩
                | _ => exact q3.elim
            | _ => exact q3.elim
          | _ => exact q3.elim
        | _ => exact q3.elim⟩⟩⟩
/-- what a list that changes holds now, as data: it never changes again -/
def fFrz (fa : FE) : FE := fun ρ S => (fa ρ S).bind fun d S1 => match d with
  | .own k => match S1[k]? with
    | some (.lst xs) => match asPs xs with
      | some ps => .ok (.p (.list ps)) (S1.set k (.fz (.p (.list ps))))
      | none => .bad
    | _ => .bad
  | _ => .bad
theorem fe_frz (h : PE X e (tE c fa)) : PE X e (tE c (fFrz fa)) := pe_imp h fun σ H Q ⟨G, F, io, S, ρ, gd, re, q⟩ => ⟨G, F, io, S, ρ, gd, re, Aft.step q fun d S1 v F1 i1 H1 e1 g1 r1 q1 => by
  cases d with
  | own k =>
    have q1 : Aft c G F1 i1 σ (rp c) Q (match S1[k]? with
      | some (.lst xs) => match asPs xs with
        | some ps => .ok (.p (.list ps)) (S1.set k (.fz (.p (.list ps))))
        | none => .bad
      | _ => .bad) := q1
    cases hk : S1[k]? with
    | none => rw [hk] at q1; exact q1.elim
    | some ob =>
      rw [hk] at q1
      cases ob with
      | lst xs =>
        have q1 : Aft c G F1 i1 σ (rp c) Q (match asPs xs with
          | some ps => .ok (.p (.list ps)) (S1.set k (.fz (.p (.list ps))))
          | none => .bad) := q1
        cases ha : asPs xs with
        | none => rw [ha] at q1; exact q1.elim
        | some ps =>
          rw [ha] at q1
          obtain ⟨a0, ea, eo⟩ := r1
          obtain ⟨a', e4, h0, vs, h1, h2⟩ := g1.at_ hk
          rw [eo] at e4
          have e4 : a0 = a' := Option.some.inj e4
          subst e4
          subst ea
          have rd : Rp c.K (upd F1 a0 (.lst vs)) i1 (.ref a0) (.p (.list ps)) := .lst upd_same (dpa_mono (upd_one h0) _ _ (asPs_ok ha h2))
          obtain ⟨g2, e2⟩ := g1.freeze eo h0 h1 rd
          exact q1 (.ref a0) _ _ _ e2 g2 rd
      | _ => exact q1.elim
  | _ => exact q1.elim⟩
/-! ### tuple(x), list(x) -/
def gTuple : List D → Sto → Res D := fun ds S => match ds with
  | [.p (.tuple xs)] => .ok (.p (.tuple xs)) S
  | [.p (.list xs)] => .ok (.p (.tuple xs)) S
  | [.own k] => match S[k]? with
    | some (.lst xs) => match asPs xs with
      | some ps => .ok (.p (.tuple ps)) S
      | none => .bad
    | _ => .bad
  | _ => .bad
theorem bc_tuple : BCall c (fun xs H Q => ∃ p ys, xs = [.ref p] ∧ ((SqL c.K H p ys ∧ ∀ l, H l = none → Q (.ref l) (upd H l (.tup ys))) ∨ (SqT c.K H p ys ∧ Q (.ref p) H))) gTuple := fun G F io H S σ xs ds Q gd r q => by
  unfold gTuple at q
  split at q
  · cases r with
    | cons ra rb =>
      cases rb
      cases ra with
      | @tup p vs _ hx ha => exact ⟨p, vs, rfl, .inr ⟨sq_t gd.ex hx.sq, hereP q gd (.tup hx ha)⟩⟩
  · cases r with
    | cons ra rb =>
      cases rb
      cases ra with
      | @lst p vs _ hx ha => exact ⟨p, vs, rfl, .inl ⟨SqL.of (gd.ex _ _ hx), new_tup gd ha q⟩⟩
  · rename_i k
    cases r with
    | cons ra rb =>
      cases rb
      obtain ⟨a0, ea, eo⟩ := ra
      subst ea
      split at q
      · rename_i xs hk
        split at q
        · rename_i ps ha
          obtain ⟨a', e4, h0, vs, h1, h2⟩ := gd.at_ hk
          rw [eo] at e4
          have e4 : a0 = a' := Option.some.inj e4
          subst e4
          exact ⟨a0, vs, rfl, .inl ⟨SqL.of h1, new_tup gd (asPs_ok ha h2) q⟩⟩
        · exact q.elim
      · exact q.elim
  · exact q.elim
def gListO : List D → Sto → Res D := fun ds S => match ds with
  | [.scr ns] => .ok (.own S.length) (S ++ [.lst ((ns.map PyData.int).map D.p)])
  | [.p (.tuple xs)] => .ok (.own S.length) (S ++ [.lst (xs.map D.p)])
  | [.p (.list xs)] => .ok (.own S.length) (S ++ [.lst (xs.map D.p)])
  | _ => .bad
def gList : List D → Sto → Res D := fun ds S => match ds with
  | [.p (.tuple xs)] => .ok (.p (.list xs)) S
  | [.p (.list xs)] => .ok (.p (.list xs)) S
  | _ => .bad
theorem new_own {G F H : Hp} {io : List Addr} {S : Sto} {σ : L2.St} {Q : VK} {vs : List V} {ds : List PyData} (g : Good c.K G F io H S) (r : DqA c.K F vs ds) (q : Aft c G F io σ (rp c) Q (.ok (.own S.length) (S ++ [.lst (ds.map D.p)]))) : ∀ p, H p = none → Q (.ref p) (upd H p (.lst vs)) := fun p hp => by
  have e0 : Ext F io F (io ++ [p]) := ⟨Same.refl _, [p], rfl⟩
  obtain ⟨g2, e2⟩ := g.newOwn (o := .lst vs) (x := .lst (ds.map D.p)) hp ⟨g.out hp, vs, upd_same, dqa_rpa r⟩
  exact q (.ref p) _ _ _ e2 g2 ⟨p, rfl, by rw [← g.len]; exact own_last⟩
theorem bc_listO : BCall c (fun xs H Q => ∃ p ys, xs = [.ref p] ∧ (SqL c.K H p ys ∨ SqT c.K H p ys) ∧ ∀ l, H l = none → Q (.ref l) (upd H l (.lst ys))) gListO := fun G F io H S σ xs ds Q gd r q => by
  unfold gListO at q
  split at q
  · rename_i ns
    cases r with
    | cons ra rb =>
      cases rb
      obtain ⟨a0, ea, eo⟩ := ra
      subst ea
      exact ⟨a0, ns.map V.int, rfl, .inl (gd.ex.seq eo), new_own gd (dqa_ints ns) q⟩
  · cases r with
    | cons ra rb =>
      cases rb
      cases ra with
      | @tup p vs _ hx ha => exact ⟨p, vs, rfl, .inr (sq_t gd.ex hx.sq), new_own gd ha q⟩
  · cases r with
    | cons ra rb =>
      cases rb
      cases ra with
      | @lst p vs _ hx ha => exact ⟨p, vs, rfl, .inl (SqL.of (gd.ex _ _ hx)), new_own gd ha q⟩
  · exact q.elim
theorem bc_list : BCall c (fun xs H Q => ∃ p ys, xs = [.ref p] ∧ (SqL c.K H p ys ∨ SqT c.K H p ys) ∧ ∀ l, H l = none → Q (.ref l) (upd H l (.lst ys))) gList := fun G F io H S σ xs ds Q gd r q => by
  unfold gList at q
  split at q
  · cases r with
    | cons ra rb =>
      cases rb
      cases ra with
      | @tup p vs _ hx ha => exact ⟨p, vs, rfl, .inr (sq_t gd.ex hx.sq), new_lst gd ha q⟩
  · cases r with
    | cons ra rb =>
      cases rb
      cases ra with
      | @lst p vs _ hx ha => exact ⟨p, vs, rfl, .inl (SqL.of (gd.ex _ _ hx)), new_lst gd ha q⟩
  · exact q.elim
/-! ### KINDS.index(kind) -/
def fKix (fa : FE) : FE := fun ρ S => (fa ρ S).bind fun d S1 => match d with
  | .p (.str z) => if z = ("a" : Str) then .ok (.p (.int 0)) S1 else if z = ("b" : Str) then .ok (.p (.int 1)) S1 else .bad
  | _ => .bad
theorem fe_kix {a : Expr} {A0 : Addr} (hk : ∃ o, c.K.lookup A0 = some o ∧ o.cls = .type "tuple" ∧ o.dict = none) (hs : ∀ H, SqT c.K H A0 [.str ("a" : Str), .str ("b" : Str)])
    (h : ∀ {ta : TE}, PE X a ta → PE X e (tBM c.K "tuple" (fun x xs H Q => ∃ p, ∃ ys : List Str, ∃ z j, x = .ref p ∧ xs = [.str z] ∧ SqT c.K H p (ys.map V.str) ∧ ys[j]? = some z ∧ (∀ m, m < j → ys[m]? ≠ some z) ∧ Q (.int (j : Nat)) H) (tC (.ref A0)) (tCons ta tNil))) (ha : PE X a (tE c fa)) : PE X e (tE c (fKix fa)) :=
  pe_imp (h ha) fun σ H Q ⟨G, F, io, S, ρ, gd, re, q⟩ => ⟨.inr (.inl ⟨rfl, hk⟩), G, F, io, S, ρ, gd, re, Aft.step q fun d S1 v F1 i1 H1 e1 g1 r1 q1 => by
    cases d with
    | p b =>
      cases b with
      | str z =>
        cases r1
        have q1 : Aft c G F1 i1 σ (rp c) Q (if z = ("a" : Str) then .ok (.p (.int 0)) S1 else if z = ("b" : Str) then .ok (.p (.int 1)) S1 else .bad) := q1
        by_cases h1 : z = ("a" : Str)
        · rw [if_pos h1] at q1
          exact ⟨A0, [("a" : Str), ("b" : Str)], z, 0, rfl, rfl, hs H1, by rw [h1]; rfl, fun m hm => absurd hm (Nat.not_lt_zero m), hereP q1 g1 (Dq.int 0)⟩
        · rw [if_neg h1] at q1
          by_cases h2 : z = ("b" : Str)
          · rw [if_pos h2] at q1
            refine ⟨A0, [("a" : Str), ("b" : Str)], z, 1, rfl, rfl, hs H1, by rw [h2]; rfl, fun m hm => ?_, hereP q1 g1 (Dq.int 1)⟩
            have : m = 0 := by omega
            subst this
            exact fun w => h1 (Option.some.inj w).symm
          · rw [if_neg h2] at q1
            exact q1.elim
      | _ => exact q1.elim
    | _ => exact q1.elim⟩
/-! ### raise -/
def fRaise0 (n : Str) : FS := fun ρ S => .exc n [] ρ S
theorem fs_raise0 {n : Str} {st : Stmt} (h : PS X st (fun _ σ H => c.W (.ref (He.ga c.K n)) none σ H)) : PS X st (tS c (fRaise0 n)) := ps_imp h fun N σ H ⟨G, F, io, S, ρ, gd, re, q⟩ =>
  q _ _ σ F io H (Ext.refl _ _) gd re ⟨rfl, .inl ⟨rfl, rfl⟩⟩
theorem mk_bare {C : Addr} {bmB : List Value} {B newId initId : String} {x : Str} {p pos : Pos} (B0 : ExcBaseFacts B newId initId bmB) (q : PySem.W.excIn X.K C bmB newId = true) (gC : X.mg x = some (.ref C))
    (kC : PySem.W.keepIn X.K (.ref C) = true) (r : Raises X (.ref C)) (hg : Gl X x) (hdb : (x == ("__debug__" : Str)) = false := by decide) : PMk X (.Call (.Name x p) [] [] pos) (fun _ H Q => Q (.ref C) none H) := fun pins s σ H Q I h => by
  refine wpAny_Call_Name_kw (ld_glob I hg gC ?_ hdb)
  refine PySem.W.callWith_K0 I.kIn kC ?_
  show wpAny _ _ (call (.ref C) []) _ _ _
  obtain ⟨bm, N0, nm, qn, bs, hdct, sn, sub, ab, col, dd, k0, k1, k2, k3, k5, mN, hC, hN, hni, T⟩ := exc_obj I.kIn q
  obtain ⟨hp, gs, dr, tk, os⟩ := s
  exact wpAny_call_exc_subT B0 T hC hN hni (fun h' e0 hm => mk_of I hm r h (I.hok.gone hm.new)) (Nat.zero_le _)
end
/-! ### no error leaves the law -/
theorem fn_calm {P : Program} {w : World} {K : PySem.W.Frag} {mg : Str → Option Value} {base : Heap} {k : Nat} {f : Addr} {fd : FuncData} {ps : List Str} {sp sp' : Sp} (Fn : FnOk P w K mg base (L2N.CX P w) k f fd ps sp)
    (h : ∀ vs H Q E, sp' vs H Q E → sp vs H Q fun _ _ _ => False) : FnOk P w K mg base CX0 k f fd ps sp' := by
  refine ⟨fun vs H Q E q => Fn.len vs H Q _ (h vs H Q E q), fun A outer s H args us vs Q E hr e0 hb r hs => ?_⟩
  refine codeAny_mono (Fn.run A outer s H args us vs Q _ hr e0 hb r (h vs H Q E hs)) fun res s' hq => ?_
  cases res with
  | error er =>
    obtain ⟨_, _, _, _, _, _, _, _, _, _, _, _, z⟩ := (show L2N.CX P w outer H s (fun _ _ _ => False) er s' from hq)
    exact z.elim
  | ok fl => cases fl <;> exact hq
end Tw
namespace Tw
open PySem PySem.Spec PyProof.Rows L2N
open L2 hiding St XE Takes CX takes_of passes_call MkP PMk ps_raise mk_of ps_try_as ps_try_many pmk_own passAt

/-! ### try with several clauses, some of them with a name -/
structure Cl where
  cv : Value
  nm : Option Nat
  ts : Addr → Value → Option Addr → TS
/-- the ends behind a suite: the name's slot is empty -/
def endsOf (N : Ends) : Option Nat → Ends
  | none => N
  | some i => ⟨fun τ K' => N.nx (τ.set i none) K', N.rt, fun τ K' => N.bk (τ.set i none) K', fun τ K' => N.ct (τ.set i none) K'⟩
def slotOf (τ : L2.St) (a : Addr) : Option Nat → L2.St
  | none => τ
  | some i => τ.set i (some (.ref a))
def wMix (K : PySem.W.Frag) (Wo : WX) (N : Ends) : List Cl → WX
  | [] => Wo
  | l :: r => fun cv dd τ K' => ∃ b, PySem.W.exmOne K cv l.cv = some b ∧ (b = true → ∀ a, K' a = none → l.ts a cv dd (endsOf N l.nm) (slotOf τ a l.nm) K') ∧ (b = false → wMix K Wo N r cv dd τ K')
inductive ClsOk (X : Cx) : List ExceptHandler → List Cl → Prop
  | nil : ClsOk X [] []
  | bare {x : Str} {cv : Value} {ts : Addr → Value → Option Addr → TS} {b0 : Stmt} {su : List Stmt} {p1 p2 : Pos} {hs : List ExceptHandler} {l : List Cl} (hn : Names X x cv)
      (hsu : ∀ (a : Addr) (ob : Obj) (cl : Value) (dd : Option Addr) (pn : List (Addr × Obj)), Zn cl dd ob → (∃ us, ob.data = .fields us) → PSs (X.suite a ((a, ob) :: pn)) (b0 :: su) (ts a cl dd)) (r : ClsOk X hs l) :
      ClsOk X (.ExceptHandler (some (.Name x p1)) none (b0 :: su) p2 :: hs) (⟨cv, none, ts⟩ :: l)
  | named {x n : Str} {i : Nat} {cv : Value} {ts : Addr → Value → Option Addr → TS} {b0 : Stmt} {su : List Stmt} {p1 p2 : Pos} {hs : List ExceptHandler} {l : List Cl} (hn : Names X x cv) (hi : X.N[i]? = some n) (hl : X.env.kindOf n = some .local)
      (hsu : ∀ (a : Addr) (ob : Obj) (cl : Value) (dd : Option Addr) (pn : List (Addr × Obj)), Zn cl dd ob → (∃ us, ob.data = .fields us) → PSs (X.suite a ((a, ob) :: pn)) (b0 :: su) (ts a cl dd)) (r : ClsOk X hs l) :
      ClsOk X (.ExceptHandler (some (.Name x p1)) (some n) (b0 :: su) p2 :: hs) (⟨cv, some i, ts⟩ :: l)
section
variable {X : Cx} {body : List Stmt} {hd : ExceptHandler} {hs : List ExceptHandler} {l : List Cl} {pos : Pos} {tb : WX → TS} {Wo : WX}
theorem ps_try_mix (st : X.stack = X.env :: X.outer) (fr : X.env.frame = some X.env.locals) (nd : X.N.Nodup) (tk : Takes X Wo)
    (hb : ∀ (W : WX) (pn : List (Addr × Obj)) (xe : Value → Shared → Prop), Takes (X.tr pn xe) W → PassesOwn (model X.prog X.w) X.A X.env xe → PSs (X.tr pn xe) body (tb W))
    (hh : ClsOk X (hd :: hs) l) : PS X (.Try body (hd :: hs) [] [] pos) (fun N τ K' => tb (wMix X.K Wo N l) N τ K') := by
  refine ⟨fun ps s0 τ K' N I0 h => ?_⟩
  have xok := I0.ok
  have frs0 : X.A.frames = some (X.env :: X.outer) := by
    rw [xok.frames]
    rw [st]
  refine wpAny_Try_except ?_
  have hbody := hb (wMix X.K Wo N l) (X.pn ++ ps)
    (fun ev z1 => wpAny (model X.prog X.w) X.A (noteFrame ev X.env) (fun _ z2 => wpAny (model X.prog X.w) X.A (setFlight ev none)
      (fun _ z3 => wpAny (model X.prog X.w) X.A (handleBy ev X.env (hd :: hs)) (SP X ps N) X.xe z3) X.xe z2) X.xe z1)
    (fun u z xx => ?_) PassesOwn.looking
  · refine wpAny_mono (hbody.run [] s0 τ K' N (I0.toTry _) h) (fun fl z1 sp => ?_) (fun _ _ he => he)
    cases fl with
    | next =>
      obtain ⟨t1, k1, j1, q⟩ := sp
      exact wpAny_execs_nil ⟨t1, k1, j1.ofTry xok, q⟩
    | brk =>
      obtain ⟨t1, k1, j1, q⟩ := sp
      exact ⟨t1, k1, j1.ofTry xok, q⟩
    | cont =>
      obtain ⟨t1, k1, j1, q⟩ := sp
      exact ⟨t1, k1, j1.ofTry xok, q⟩
    | ret u =>
      obtain ⟨v, t1, k1, j1, rv, q⟩ := sp
      exact ⟨v, t1, k1, j1.ofTry xok, rv, q⟩
  · -- an error of the body
    obtain ⟨a, B, sI, ps', t1, k1, cl, dd, rfl, j1, nb, up, sky, na, os, ag, wi⟩ := xx
    have J : Inv X ps t1 k1 sI := j1.ofTry xok
    have sky1 : Sky B (X.env :: X.outer) a (Zn cl dd) X.env.locals z.heap := by
      rw [st] at sky
      exact sky
    show wpAny (model X.prog X.w) X.A (noteFrame (.ref a) X.env) _ _ _
    refine Sky.land Zn.steady frs0 fr sky1 fun g3 fl3 up3 => ?_
    have J3 : Inv X ps t1 k1 { z with heap := g3 } := J.landed nb fl3.1 (up.trans up3) os ag
    obtain ⟨o3, us3, at3, zc3, da3⟩ := fl3.there
    have nfr : a ∉ frs (X.env :: X.outer) := fun hm => by
      obtain ⟨_, o9, e9, hno⟩ := fl3.2.2.1.mem hm
      rw [at3] at e9
      cases e9
      exact hno _ da3
    have nL : a ≠ X.env.locals := fun e => nfr (List.mem_filterMap.mpr ⟨X.env, List.mem_cons_self, by rw [fr, e]⟩)
    have nF : a ∉ X.fs := fun hm => by
      obtain ⟨en, h1, h2⟩ := List.mem_filterMap.mp hm
      exact nfr (List.mem_filterMap.mpr ⟨en, List.mem_cons_of_mem _ h1, h2⟩)
    have S3 := J3.suite at3 da3 na nL nF
    have tyA : PySem.W.Looks (model X.prog X.w) g3 (typeOf (.ref a)) cl := fun A Q E s k q => wpAny_typeOf_ref (k _ _ at3) (by
      rw [zc3.1]
      exact q)
    have nameOf : ∀ {x : Str} {cv : Value} {p1 : Pos}, Names X x cv → ∀ {Q E : Value → Shared → Prop}, Q cv { z with heap := g3 } →
        wpAny (model X.prog X.w) (X.A.mark (some (.ref a))) (eval (.Name x p1) X.env) Q E { z with heap := g3 } := fun {x cv p1} hn {Q E} q => by
      obtain ⟨n1, n2, n3 | ⟨n3, n4, n5⟩⟩ := hn
      · exact ld_glob (X := X.suite a ((a, o3) :: (X.pn ++ ps))) S3 n1 n3 q n2
      · exact ld_blt (X := X.suite a ((a, o3) :: (X.pn ++ ps))) S3 n1 n3 n4 q n5 n2
    have walk : ∀ {hs1 : List ExceptHandler} {l1 : List Cl}, ClsOk X hs1 l1 → wMix X.K Wo N l1 cl dd t1 k1 →
        wpAny (model X.prog X.w) X.A (handleBy (.ref a) X.env hs1) (SP X ps N) X.xe { z with heap := g3 } := by
      intro hs1 l1 ok
      induction ok with
      | nil =>
        intro wi
        refine wpAny_handleBy_nil ?_
        obtain ⟨_, _, _, ob, us, T, oT, ts', he, hz, hda, h1, hr⟩ := id fl3
        unfold PySem.passOn
        refine wpAny_bind (wpAny_field he hda h1 ?_)
        rw [if_neg (show ¬ ((Value.ref T == Value.none) = true) from by simp)]
        have last : wpAny (model X.prog X.w) X.A (setFlight (.ref a) X.env.frame) (fun _ z4 => wpAny (model X.prog X.w) X.A (throw (.ref a) : Sem Flow) (SP X ps N) X.xe z4) X.xe { z with heap := g3 } := by
          rw [fr]
          refine HandSPX.setFlight_upZ fl3 fun g4 held up4 => wpAny_throw (tk _ _ ?_)
          refine ⟨a, B, sI, ps, t1, k1, cl, dd, rfl, J, nb, (up.trans up3).trans up4, .inr (.inr ?_), na, os, ag, wi⟩
          rw [st]
          exact held
        first
          | exact wpAny_bind (wpAny_pure (wpAny_bind last))
          | exact wpAny_bind last
      | @bare x cv ts b0 su p1 p2 hs2 l2 hn hsu r ih =>
        intro wi
        obtain ⟨b, eb, yes, no⟩ := wi
        refine wpAny_handleBy_cons (codeAny_handlers_test ?_) (by intro e; cases e)
        refine nameOf hn ((PySem.W.exm_one (M := model X.prog X.w) J3.kIn tyA eb).here ?_)
        cases b with
        | false =>
          show wpAny _ X.A (handleBy (.ref a) X.env hs2) _ _ _
          exact ih (no rfl)
        | true =>
          refine codeAny_handlers_suite ?_
          refine HandSPX.lands_againZ fl3 fun g4 fl4 up4 => ?_
          have J4 : Inv X ps t1 k1 { z with heap := g4 } := J.landed nb fl4.1 ((up.trans up3).trans up4) os ag
          obtain ⟨o4, us4, at4, zc4, da4⟩ := fl4.there
          have S4 := J4.suite at4 da4 na nL nF
          refine wpAny_mono ((hsu a o4 cl dd (X.pn ++ ps) zc4 ⟨_, da4⟩).run [] _ _ k1 _ S4 (yes rfl a na)) (fun fl z6 sp => ?_) (fun _ _ e => False.elim e)
          cases fl with
          | next =>
            obtain ⟨t6, k6, j6, q6⟩ := sp
            exact ⟨t6, k6, j6.unsuite xok, q6⟩
          | brk =>
            obtain ⟨t6, k6, j6, q6⟩ := sp
            exact ⟨t6, k6, j6.unsuite xok, q6⟩
          | cont =>
            obtain ⟨t6, k6, j6, q6⟩ := sp
            exact ⟨t6, k6, j6.unsuite xok, q6⟩
          | ret u =>
            obtain ⟨v6, t6, k6, j6, rv, q6⟩ := sp
            exact ⟨v6, t6, k6, j6.unsuite xok, rv, q6⟩
      | @named x n i cv ts b0 su p1 p2 hs2 l2 hn hi hl hsu r ih =>
        intro wi
        obtain ⟨b, eb, yes, no⟩ := wi
        refine wpAny_handleBy_cons (codeAny_handlers_test ?_) (by intro e; cases e)
        refine nameOf hn ((PySem.W.exm_one (M := model X.prog X.w) J3.kIn tyA eb).here ?_)
        cases b with
        | false =>
          show wpAny _ X.A (handleBy (.ref a) X.env hs2) _ _ _
          exact ih (no rfl)
        | true =>
          refine codeAny_handlers_suite_as ?_
          refine HandSPX.lands_againZ fl3 fun g4 fl4 up4 => ?_
          have J4 : Inv X ps t1 k1 { z with heap := g4 } := J.landed nb fl4.1 ((up.trans up3).trans up4) os ag
          obtain ⟨o4, us4, at4, zc4, da4⟩ := fl4.there
          have S4 := J4.suite at4 da4 na nL nF
          refine store_ok (X := X.suite a ((a, o4) :: (X.pn ++ ps))) (v := .ref a) S4 nd hi (.inl hl) rfl (fun z5 S5 => ?_) (.inr hl)
          refine wpAny_mono ((hsu a o4 cl dd (X.pn ++ ps) zc4 ⟨_, da4⟩).run [] z5 _ k1 _ S5 (yes rfl a na)) (fun fl z6 sp => ?_) (fun _ _ e => False.elim e)
          have off : ∀ {t6 : L2.St} {k6 : Hp} {Q : Shared → Prop}, Inv (X.suite a ((a, o4) :: (X.pn ++ ps))) [] t6 k6 z6 → (∀ z7, Inv X ps (t6.set i none) k6 z7 → Q z7) →
              wpAny (model X.prog X.w) X.A (do bindName X.env n .none; unbindBehindTheSuite X.env n p2) (fun _ z7 => Q z7) X.xe z6 := fun {t6 k6 Q} j6 hq => gone_ok (j6.unsuite xok) nd hi hl hq
          cases fl with
          | next =>
            obtain ⟨t6, k6, j6, q6⟩ := sp
            exact off j6 fun z7 j7 => ⟨_, _, j7, q6⟩
          | brk =>
            obtain ⟨t6, k6, j6, q6⟩ := sp
            exact off j6 fun z7 j7 => ⟨_, _, j7, q6⟩
          | cont =>
            obtain ⟨t6, k6, j6, q6⟩ := sp
            exact off j6 fun z7 j7 => ⟨_, _, j7, q6⟩
          | ret u =>
            obtain ⟨v6, t6, k6, j6, rv, q6⟩ := sp
            exact off j6 fun z7 j7 => ⟨_, _, _, j7, rv, q6⟩
    exact walk hh wi
end
/-! ### the same, by functions -/
/-- a clause: its class, its name's slot, its suite for an error n with fields as -/
structure FCl where
  x : Str
  nm : Option Nat
  su : Str → List PyData → FS
def subX (n x : Str) : Bool := decide (n = x) || decide (x = ("WorthError" : Str))
def setN (ρ : Env) : Option Nat → Env
  | none => ρ
  | some i => ρ.set i (some .exn)
def unN (ρ : Env) : Option Nat → Env
  | none => ρ
  | some i => ρ.set i none
def flN (o : Option Nat) : Fl → Fl
  | .nx ρ S => .nx (unN ρ o) S
  | .bk ρ S => .bk (unN ρ o) S
  | .ct ρ S => .ct (unN ρ o) S
  | f => f
def noE (ρ : Env) : Bool := ρ.all fun
  | some .exn => false
  | _ => true
def chkN : Fl → Fl
  | .nx ρ S => if noE ρ = true then .nx ρ S else .bad
  | .bk ρ S => if noE ρ = true then .bk ρ S else .bad
  | .ct ρ S => if noE ρ = true then .ct ρ S else .bad
  | .exc _ _ _ _ => .bad
  | f => f
def clsF (n : Str) (as : List PyData) (ρ : Env) (S : Sto) : List FCl → Fl
  | [] => .exc n as ρ S
  | h :: r => if subX n h.x = true then chkN (flN h.nm (h.su n as (setN ρ h.nm) S)) else clsF n as ρ S r
/-- ns: the names of the classes whose errors the body may let out -/
def fTry (ns : List Str) (body : FS) (hs : List FCl) : FS := fun ρ S => match body ρ S with
  | .exc n as ρ1 S1 => if n ∈ ns then clsF n as ρ1 S1 hs else .bad
  | o => o
section
variable {X : Cx} {c : Cw} {body : List Stmt} {hd : ExceptHandler} {hs : List ExceptHandler} {fb : FS} {pos : Pos}
/-- the suite's context -/
abbrev Cw.sui (c : Cw) (a : Addr) (cl : Value) (dd : Option Addr) (n : Str) (as : List PyData) : Cw := ⟨c.K, some ⟨a, cl, dd, n, as⟩, fun _ _ _ _ => False⟩
def clOf (c : Cw) (h : FCl) : Cl := ⟨.ref (He.ga c.K h.x), h.nm, fun a cl dd N τ K' => ∃ n as, tS (c.sui a cl dd n as) (h.su n as) N τ K'⟩
theorem renv_sui {F : Hp} {io : List Addr} {σ : L2.St} {ρ : Env} (h : REnv c F io σ ρ) (hU : c.U = none) {a : Addr} {cl : Value} {dd : Option Addr} {n : Str} {as : List PyData} : REnv (c.sui a cl dd n as) F io σ ρ := ⟨h.1, fun i d q => by
  obtain ⟨v, h1, h2⟩ := h.2 i d q
  refine ⟨v, h1, ?_⟩
  cases d with
  | exn =>
    obtain ⟨u, h3, _⟩ := h2
    rw [hU] at h3
    cases h3
  | _ => exact h2⟩
theorem renv_uns {F : Hp} {io : List Addr} {σ : L2.St} {ρ : Env} {a : Addr} {cl : Value} {dd : Option Addr} {n : Str} {as : List PyData} (h : REnv (c.sui a cl dd n as) F io σ ρ) (hn : noE ρ = true) : REnv c F io σ ρ := ⟨h.1, fun i d q => by
  obtain ⟨v, h1, h2⟩ := h.2 i d q
  refine ⟨v, h1, ?_⟩
  cases d with
  | exn =>
    have := List.all_eq_true.mp hn _ (List.mem_of_getElem? q)
    cases this
  | _ => exact h2⟩
theorem renv_un {c' : Cw} {F : Hp} {io : List Addr} {σ : L2.St} {ρ : Env} (h : REnv c' F io σ ρ) : ∀ o : Option Nat, REnv c' F io (match o with | none => σ | some i => σ.set i none) (unN ρ o)
  | none => h
  | some i => renv_none h i
theorem suite_ok (hU : c.U = none) (h : FCl) {N : Ends} {G F : Hp} {io : List Addr} {H : Hp} {S : Sto} {σ : L2.St} {ρ : Env} {a : Addr} {cl : Value} {dd : Option Addr} {n : Str} {as : List PyData} (gd : Good c.K G F io H S) (re : REnv c F io σ ρ)
    (hx : IsX c.K F n as cl dd) (q : AftS c G F io N (chkN (flN h.nm (h.su n as (setN ρ h.nm) S)))) : tS (c.sui a cl dd n as) (h.su n as) (endsOf N h.nm) (slotOf σ a h.nm) H := by
  refine ⟨G, F, io, S, setN ρ h.nm, gd, ?_, ?_⟩
  · cases h.nm with
    | none => exact renv_sui re hU
    | some i => exact renv_set (renv_sui re hU) (d := .exn) ⟨_, rfl, rfl, hx⟩ i
  · cases hs : h.su n as (setN ρ h.nm) S with
    | nx ρ2 S2 =>
      rw [hs] at q
      have q : AftS c G F io N (if noE (unN ρ2 h.nm) = true then .nx (unN ρ2 h.nm) S2 else .bad) := q
      by_cases hn : noE (unN ρ2 h.nm) = true
      · rw [if_pos hn] at q
        intro σ' F' io' H' e' g' r'
        have z := q _ F' io' H' e' g' (renv_uns (renv_un r' h.nm) hn)
        cases hm : h.nm with
        | none => rw [hm] at z; exact z
        | some i => rw [hm] at z; exact z
      · rw [if_neg hn] at q
        exact q.elim
    | bk ρ2 S2 =>
      rw [hs] at q
      have q : AftS c G F io N (if noE (unN ρ2 h.nm) = true then .bk (unN ρ2 h.nm) S2 else .bad) := q
      by_cases hn : noE (unN ρ2 h.nm) = true
      · rw [if_pos hn] at q
        intro σ' F' io' H' e' g' r'
        have z := q _ F' io' H' e' g' (renv_uns (renv_un r' h.nm) hn)
        cases hm : h.nm with
        | none => rw [hm] at z; exact z
        | some i => rw [hm] at z; exact z
      · rw [if_neg hn] at q
        exact q.elim
    | ct ρ2 S2 =>
      rw [hs] at q
      have q : AftS c G F io N (if noE (unN ρ2 h.nm) = true then .ct (unN ρ2 h.nm) S2 else .bad) := q
      by_cases hn : noE (unN ρ2 h.nm) = true
      · rw [if_pos hn] at q
        intro σ' F' io' H' e' g' r'
        have z := q _ F' io' H' e' g' (renv_uns (renv_un r' h.nm) hn)
        cases hm : h.nm with
        | none => rw [hm] at z; exact z
        | some i => rw [hm] at z; exact z
      · rw [if_neg hn] at q
        exact q.elim
    | rt d S2 =>
      rw [hs] at q
      intro v F' io' H' e' g' r'
      have z := q v F' io' H' e' g' r'
      cases h.nm <;> exact z
    | exc n2 as2 ρ2 S2 => rw [hs] at q; exact q.elim
    | bad => rw [hs] at q; exact q.elim
theorem cls_ok (hU : c.U = none) {N : Ends} {n : Str} {as : List PyData} {cl : Value} {dd : Option Addr} {G F : Hp} {io : List Addr} {H : Hp} {S : Sto} {σ : L2.St} {ρ : Env} (gd : Good c.K G F io H S) (re : REnv c F io σ ρ) (hx : IsX c.K F n as cl dd) :
    ∀ hs : List FCl, (∀ h ∈ hs, PySem.W.exmOne c.K (.ref (He.ga c.K n)) (.ref (He.ga c.K h.x)) = some (subX n h.x)) → AftS c G F io N (clsF n as ρ S hs) → wMix c.K c.W N (hs.map (clOf c)) cl dd σ H
  | [], _, q => q cl dd σ F io H (Ext.refl _ _) gd re hx
  | h :: r, hf, q => by
    refine ⟨subX n h.x, by rw [hx.1]; exact hf h List.mem_cons_self, fun e a ha => ?_, fun e => ?_⟩
    · have q : AftS c G F io N (if subX n h.x = true then chkN (flN h.nm (h.su n as (setN ρ h.nm) S)) else clsF n as ρ S r) := q
      rw [if_pos e] at q
      exact ⟨n, as, suite_ok hU h gd re hx q⟩
    · have q : AftS c G F io N (if subX n h.x = true then chkN (flN h.nm (h.su n as (setN ρ h.nm) S)) else clsF n as ρ S r) := q
      rw [if_neg (by rw [e]; decide)] at q
      exact cls_ok hU gd re hx r (fun z hz => hf z (List.mem_cons_of_mem _ hz)) q
theorem fs_try {ns : List Str} {cs : List FCl} (hK : c.K = X.K) (hU : c.U = none) (st : X.stack = X.env :: X.outer) (fr : X.env.frame = some X.env.locals) (nd : X.N.Nodup) (tk : Takes X c.W)
    (hf : ∀ n ∈ ns, ∀ h ∈ cs, PySem.W.exmOne c.K (.ref (He.ga c.K n)) (.ref (He.ga c.K h.x)) = some (subX n h.x))
    (hb : ∀ (W : WX) (pn : List (Addr × Obj)) (xe : Value → Shared → Prop), Takes (X.tr pn xe) W → PassesOwn (model X.prog X.w) X.A X.env xe → PSs (X.tr pn xe) body (tS ⟨c.K, c.U, W⟩ fb))
    (hh : ClsOk X (hd :: hs) (cs.map (clOf c))) : PS X (.Try body (hd :: hs) [] [] pos) (tS c (fTry ns fb cs)) :=
  ps_imp (ps_try_mix st fr nd tk hb hh) fun N σ H ⟨G, F, io, S, ρ, gd, re, q⟩ => by
    have toW : ∀ {W : WX} {F : Hp} {io : List Addr} {σ : L2.St} {ρ : Env}, REnv ⟨c.K, c.U, W⟩ F io σ ρ → REnv c F io σ ρ := fun {W F io σ ρ} h => ⟨h.1, fun i d q => by
      obtain ⟨v, h1, h2⟩ := h.2 i d q
      exact ⟨v, h1, by cases d <;> exact h2⟩⟩
    have ofW : ∀ {W : WX} {F : Hp} {io : List Addr} {σ : L2.St} {ρ : Env}, REnv c F io σ ρ → REnv ⟨c.K, c.U, W⟩ F io σ ρ := fun {W F io σ ρ} h => ⟨h.1, fun i d q => by
      obtain ⟨v, h1, h2⟩ := h.2 i d q
      exact ⟨v, h1, by cases d <;> exact h2⟩⟩
    refine ⟨G, F, io, S, ρ, gd, ofW re, ?_⟩
    unfold fTry at q
    cases hm : fb ρ S with
    | nx ρ1 S1 => rw [hm] at q; exact fun σ' F' io' H' e' g' r' => q σ' F' io' H' e' g' (toW r')
    | bk ρ1 S1 => rw [hm] at q; exact fun σ' F' io' H' e' g' r' => q σ' F' io' H' e' g' (toW r')
    | ct ρ1 S1 => rw [hm] at q; exact fun σ' F' io' H' e' g' r' => q σ' F' io' H' e' g' (toW r')
    | rt d S1 => rw [hm] at q; exact q
    | bad => rw [hm] at q; exact q
    | exc n as ρ1 S1 =>
      rw [hm] at q
      have q : AftS c G F io N (if n ∈ ns then clsF n as ρ1 S1 cs else .bad) := q
      by_cases hn : n ∈ ns
      · rw [if_pos hn] at q
        intro cl dd σ' F' io' H' e' g' r' x'
        have z := cls_ok hU g' (toW r') x' cs (hf n hn) (AftS.ext q e')
        rw [hK] at z
        exact z
      · rw [if_neg hn] at q
        exact q.elim
theorem hs_nil : ClsOk X [] (([] : List FCl).map (clOf c)) := .nil
theorem hs_bare {x : Str} {b0 : Stmt} {su : List Stmt} {p1 p2 : Pos} {hs : List ExceptHandler} {cs : List FCl} {f : Str → List PyData → FS} (hn : Names X x (.ref (He.ga c.K x)))
    (hsu : ∀ (a : Addr) (ob : Obj) (cl : Value) (dd : Option Addr) (pn : List (Addr × Obj)) (n : Str) (as : List PyData), Zn cl dd ob → (∃ us, ob.data = .fields us) → PSs (X.suite a ((a, ob) :: pn)) (b0 :: su) (tS (c.sui a cl dd n as) (f n as)))
    (r : ClsOk X hs (cs.map (clOf c))) : ClsOk X (.ExceptHandler (some (.Name x p1)) none (b0 :: su) p2 :: hs) ((⟨x, none, f⟩ :: cs : List FCl).map (clOf c)) :=
  .bare hn (fun a ob cl dd pn hz hu => ⟨fun pins s σ H D I ⟨n, as, h⟩ => (hsu a ob cl dd pn n as hz hu).run pins s σ H D I h⟩) r
theorem hs_named {x m : Str} {i : Nat} {b0 : Stmt} {su : List Stmt} {p1 p2 : Pos} {hs : List ExceptHandler} {cs : List FCl} {f : Str → List PyData → FS} (hn : Names X x (.ref (He.ga c.K x))) (hi : X.N[i]? = some m) (hl : X.env.kindOf m = some .local)
    (hsu : ∀ (a : Addr) (ob : Obj) (cl : Value) (dd : Option Addr) (pn : List (Addr × Obj)) (n : Str) (as : List PyData), Zn cl dd ob → (∃ us, ob.data = .fields us) → PSs (X.suite a ((a, ob) :: pn)) (b0 :: su) (tS (c.sui a cl dd n as) (f n as)))
    (r : ClsOk X hs (cs.map (clOf c))) : ClsOk X (.ExceptHandler (some (.Name x p1)) (some m) (b0 :: su) p2 :: hs) ((⟨x, some i, f⟩ :: cs : List FCl).map (clOf c)) :=
  .named hn hi hl (fun a ob cl dd pn hz hu => ⟨fun pins s σ H D I ⟨n, as, h⟩ => (hsu a ob cl dd pn n as hz hu).run pins s σ H D I h⟩) r
end
end Tw
namespace Tw
open PySem PySem.Spec PyProof.Rows L2N
open L2 hiding St XE Takes CX takes_of passes_call MkP PMk ps_raise mk_of ps_try_as ps_try_many pmk_own passAt

/-! ### names of the module -/
section
variable {X : Cx} {c : Cw} {x : Str} {pos : Pos}
theorem fe_gint {i : Int} (hm : ∃ t, X.mg x = some (.int i t)) (hg : Gl X x := by rfl) (hd : (x == ("__debug__" : Str)) = false := by decide) : PE X (.Name x pos) (tE c (fCon (.int i))) := by
  obtain ⟨t, h⟩ := hm
  exact fe_con (pe_glob (v := .int i) hg h ⟨t, rfl⟩ hd) fun _ => .int i
theorem fe_gtup {A0 : Addr} {ss : List Str} (hm : X.mg x = some (.ref A0)) (hs : ∀ H, SqT c.K H A0 (ss.map V.str)) (hg : Gl X x := by rfl) (hd : (x == ("__debug__" : Str)) = false := by decide) : PE X (.Name x pos) (tE c (fCon (.tuple (ss.map PyData.str)))) :=
  fe_con (pe_glob (v := .ref A0) hg hm rfl hd) fun F => .tup (.inr ⟨hs F, by rw [List.all_map]; exact List.all_eq_true.mpr fun _ _ => rfl⟩) (dqa_txt ss)
where
  dqa_txt {K : PySem.W.Frag} {F : Hp} : ∀ ss : List Str, DqA K F (ss.map V.str) (ss.map PyData.str)
  | [] => .nil
  | s :: ss => .cons (.str s) (dqa_txt ss)
end
/-! ### a def that stands -/
structure Cal (P : Program) (w : World) (K : PySem.W.Frag) (mg : Str → Option Value) (base : Heap) (x : Str) (k n : Nat) (m : List D → Sto → Res D) : Prop where
  ex : ∃ f fd ps, FnOk P w K mg base (L2N.CX P w) k f fd ps (spF K m n) ∧ mg x = some (.ref f) ∧ PySem.W.keepIn K (.ref f) = true ∧ Binds K fd ps []
theorem Cal.eq {P : Program} {w : World} {K : PySem.W.Frag} {mg : Str → Option Value} {base : Heap} {x : Str} {k n : Nat} {m m' : List D → Sto → Res D} (h : Cal P w K mg base x k n m) (e : m = m') : Cal P w K mg base x k n m' := e ▸ h
section
variable {X : Cx} {c : Cw} {x : Str} {p pos : Pos} {e : Expr} {es : List Expr} {k n : Nat} {m : List D → Sto → Res D} {fr : FA}
theorem fe_cal (h : Cal X.prog X.w X.K X.mg X.base x k n m) (hr : Room k X.A) (tk : Takes X c.W) (ha : PA X (e :: es) (tA c fr)) (hl : ∀ ρ S ds S', fr ρ S = .ok ds S' → ds.length = (e :: es).length) (hn : (e :: es).length = n := by rfl) (hK : c.K = X.K := by rfl) (hg : Gl X x := by rfl) (hdb : (x == ("__debug__" : Str)) = false := by decide)
    (he : starEach (e :: es) X.env = (false, eval e X.env) :: starEach es X.env := by rfl) (hpl : (backTo pos (starEach es X.env)).any (·.1) = false := by rfl) : PE X (.Call (.Name x p) (e :: es) [] pos) (tE c (fCall m fr)) := by
  obtain ⟨f, fd, ps, F, hm, hk, hb⟩ := h.ex
  refine fe_own (fun ht => ?_) ha hn hl
  rw [hK]
  exact pe_callS F hr hg hm hk hb (fun σ => passAt tk σ) ht hdb he hpl
end
theorem len0 : ∀ (ρ : Env) (S : Sto) (ds : List D) (S' : Sto), fNil ρ S = .ok ds S' → ds.length = 0 := fun _ _ _ _ => fr_len_nil
theorem lenS {fa : FE} {fr : FA} {n : Nat} (h : ∀ (ρ : Env) (S : Sto) (ds : List D) (S' : Sto), fr ρ S = .ok ds S' → ds.length = n) : ∀ (ρ : Env) (S : Sto) (ds : List D) (S' : Sto), fCons fa fr ρ S = .ok ds S' → ds.length = n + 1 := fun _ _ _ _ => fr_len_cons h
/-! ### what is walked, a list or a tuple -/
def fItS (fa : FE) : FI := fun ρ S => (fa ρ S).bind fun d S1 => match d with
  | .p (.tuple ds) => .ok (ds.map D.p) S1
  | .p (.list ds) => .ok (ds.map D.p) S1
  | .scr ns => .ok ((ns.map PyData.int).map D.p) S1
  | _ => .bad
theorem fi_seq {X : Cx} {c : Cw} {tg e : Expr} {fa : FE} (h : PE X e (tE c fa)) (hK : c.K = X.K := by rfl) : PI X tg e (tI c (fItS fa)) := ⟨fun pins s σ H R I ⟨G, F, io, S, ρ, gd, re, q⟩ => by
  have asT : (∃ ds S1, fa ρ S = .ok (.p (.tuple ds)) S1) → fItT fa ρ S = fItS fa ρ S := fun ⟨ds, S1, e⟩ => by
    unfold fItT fItS
    rw [e]
    rfl
  have asL : (¬ ∃ ds S1, fa ρ S = .ok (.p (.tuple ds)) S1) → fItL fa ρ S = fItS fa ρ S := fun ne => by
    unfold fItL fItS
    cases hf : fa ρ S with
    | ok d S1 =>
      cases d with
      | p a =>
        cases a with
        | tuple ds => exact absurd ⟨ds, S1, hf⟩ ne
        | _ => rfl
      | _ => rfl
    | exc n as S1 => rfl
    | bad => rfl
  by_cases ht : ∃ ds S1, fa ρ S = .ok (.p (.tuple ds)) S1
  · exact (fi_tup h hK).run pins s σ H R I ⟨G, F, io, S, ρ, gd, re, by rw [asT ht]; exact q⟩
  · exact (fi_lst h hK).run pins s σ H R I ⟨G, F, io, S, ρ, gd, re, by rw [asL ht]; exact q⟩⟩
/-! ### a def that hands back things that change -/
def callO (nN : Nat) (f : FS) : List D → Sto → Res D := fun ds S => match f (ds.map some ++ List.replicate (nN - ds.length) none) S with
  | .rt d S' => .ok d S'
  | .nx _ S' => .ok (.p .none) S'
  | .exc n as _ S' => .exc n as S'
  | _ => .bad
section
variable {K : PySem.W.Frag} {P : Program} {w : World} {mg : Str → Option Value} {base : Heap} {x qual : Str} {params : Arguments} {body : List Stmt} {scope : Scope} {f : Addr} {fd : FuncData} {N ps : List Str} {k : Nat} {m : FS}
theorem fn_okO (Fn : FunD K x qual params body scope [] [] f fd) (S : FnScope N ps scope)
    (hb : ∀ (cdv : Value) (A : Around) (outer : List PySem.Env) (s : Shared) (H : Hp) (E : XK), Room k (A.deeper (envOfC qual scope s.heap.objs.size f cdv)) → PSs (cxOf (L2N.CX P w) P w K mg base N qual scope f cdv A outer s H E) body (tS (cE K E) m)) :
    FnOk P w K mg base (L2N.CX P w) (k + 1) f fd ps (spF K (callO N.length m) ps.length) := by
  refine Fn.ok S (fun vs H Q E h => h.1) fun cdv A outer s H vs Q E hr h => ⟨_, hb cdv A outer s H E hr, ?_⟩
  obtain ⟨_, G, F, io, St, ds, g, r, q⟩ := h
  refine ⟨G, F, io, St, _, g, start_renv (c := cE K E) (N := N) r, ?_⟩
  unfold callO at q
  cases hm : m (ds.map some ++ List.replicate (N.length - ds.length) none) St with
  | rt d S' => rw [hm] at q; exact q
  | nx ρ' S' => rw [hm] at q; exact fun σ F' io' H' e' g' _ => q .non F' io' H' e' g' Dq.non
  | exc n as ρ' S' => rw [hm] at q; exact fun cls dd σ F' io' H' e' g' _ x' => q cls dd F' io' H' e' g' x'
  | bk ρ' S' => rw [hm] at q; exact q.elim
  | ct ρ' S' => rw [hm] at q; exact q.elim
  | bad => rw [hm] at q; exact q.elim
end
/-! ### what the top has left, by a Bool of the written part -/
/-- where a def stands: a global, what a class has under a name, or what reads a property -/
def adr (K : PySem.W.Frag) (p : Str × Option Str) : Addr := match p.2 with
  | none => He.ga K p.1
  | some m => match PySem.W.recIn K (He.ma K (He.ga K p.1) m) "property" with
    | some (.ref g :: _) => g
    | _ => He.ma K (He.ga K p.1) m
def fnA (K : PySem.W.Frag) (a : Addr) : He.FnW := (K.lookup a).bind fun o => match o.data with
  | .func g => some (g.name, g.qualname, g.params, g.body, g.scope, g.globals, g.closure, g.builtins)
  | _ => none
def okA (K : PySem.W.Frag) (a : Addr) (d : He.DefD) : Bool := (K.lookup a).any fun o => match o.data with
  | .func g => PySem.W.keepIn K (.ref a) && (PySem.W.codeIn K g.code d.qual && (He.dflB K g.defaults (d.dvs K) && He.kwdB K g.kwdefaults (d.kws K)))
  | _ => false
theorem funA {K : PySem.W.Frag} {a : Addr} {d : He.DefD} (e : fnA K a = d.val) (c : okA K a d = true) : ∃ fd, FunD K d.name d.qual d.params d.body d.scope (d.dvs K) (d.kws K) a fd := by
  unfold fnA at e
  unfold okA at c
  cases hl : K.lookup a with
  | none => rw [hl] at c; cases c
  | some o =>
    rw [hl] at e c
    obtain ⟨oc, od, dt, sl⟩ := o
    cases dt with
    | func g =>
      obtain ⟨g1, g2, g3, g4, g5, g6, g7, g8, g9, ga, gb, gc, gd, ge, gf⟩ := g
      have e2 := Option.some.inj e
      simp only [Prod.mk.injEq] at e2
      obtain ⟨q1, q2, q3, q4, q5, q6, q7, q8⟩ := e2
      subst q1 q2 q3 q4 q5 q6 q7 q8
      obtain ⟨c1, c2⟩ := He.ba c
      obtain ⟨c3, c4⟩ := He.ba c2
      obtain ⟨c5, c6⟩ := He.ba c4
      exact ⟨_, ⟨oc, od, g8, g9, ga, gb, gc, gd, ge, sl, rfl, hl, c3, He.dflB_ok c5, He.kwdB_ok c6⟩, c1⟩
    | _ => cases c
def SaysW (ex : PySem.W.Frag → Bool) (fn : List He.DefD) (K : PySem.W.Frag) : Prop := ((ex K && fn.all fun d => okA K (adr K d.at_) d, fn.map fun d => fnA K (adr K d.at_)) : He.AlD) = (true, fn.map He.DefD.val)
def obsW (n : Nat) (ex : PySem.W.Frag → Bool) (fn : List He.DefD) (g : Addr → Option Obj) : He.AlD := (ex (He.frG g (He.asD g n)) && fn.all fun d => okA (He.frG g (He.asD g n)) (adr (He.frG g (He.asD g n)) d.at_) d, fn.map fun d => fnA (He.frG g (He.asD g n)) (adr (He.frG g (He.asD g n)) d.at_))
def hookW (n : Nat) (ex : PySem.W.Frag → Bool) (fn : List He.DefD) : PySem.W.Hook where
  α := He.AlD
  obs := fun s => obsW n ex fn s.heap.get?
  val := fun _ => (true, fn.map He.DefD.val)
  says := fun _ h => ∃ K : PySem.W.Frag, K.In h ∧ SaysW ex fn K
  of := fun _ _ e => ⟨_, He.frG_in, e⟩
  keeps := fun _ _ _ ⟨K, hK, c⟩ k => ⟨K, PySem.W.Frag.In.keeps hK k, c⟩
theorem obsW_eq {n : Nat} {ex : PySem.W.Frag → Bool} {fn : List He.DefD} {g : Addr → Option Obj} {s : Shared} (h : ∀ a, g a = s.heap.get? a) : obsW n ex fn g = (hookW n ex fn).obs s := by
  have e : g = s.heap.get? := funext h
  rw [e]
  rfl
section
variable {ex : PySem.W.Frag → Bool} {fn : List He.DefD} {K : PySem.W.Frag}
theorem SaysW.two (c : SaysW ex fn K) : (ex K = true ∧ (fn.all fun d => okA K (adr K d.at_) d) = true) ∧ fn.map (fun d => fnA K (adr K d.at_)) = fn.map He.DefD.val := by
  have h := Prod.mk.inj c
  exact ⟨He.ba h.1, h.2⟩
theorem SaysW.yes (c : SaysW ex fn K) : ex K = true := c.two.1.1
theorem SaysW.fd (c : SaysW ex fn K) (i : Nat) {d : He.DefD} (h : fn[i]? = some d := by rfl) : ∃ fd, FunD K d.name d.qual d.params d.body d.scope (d.dvs K) (d.kws K) (adr K d.at_) fd := by
  have e2 := congrArg (fun l => l[i]?) c.two.2
  simp only [List.getElem?_map, h, Option.map_some, Option.some.injEq] at e2
  exact funA e2 (List.all_eq_true.mp c.two.1.2 d (List.mem_of_getElem? h))
end
/-- facts as a list of Bools -/
abbrev Facts := List (PySem.W.Frag → Bool)
def exOf (l : Facts) : PySem.W.Frag → Bool := fun K => l.all fun f => f K
theorem exOf_at {l : Facts} {K : PySem.W.Frag} (h : exOf l K = true) (i : Nat) {f : PySem.W.Frag → Bool} (e : l[i]? = some f := by rfl) : f K = true := List.all_eq_true.mp h f (List.mem_of_getElem? e)
def fcExc (x : Str) : PySem.W.Frag → Bool := (He.Fa.exc x).ok
def fcGlo (x : Str) : PySem.W.Frag → Bool := (He.Fa.glo x).ok
def fcFree (x : Str) : PySem.W.Frag → Bool := (He.Fa.free x).ok
def fcInt (x : Str) (i : Int) : PySem.W.Frag → Bool := (He.Fa.int x i).ok
def fcExm (x y : Str) : PySem.W.Frag → Bool := fun K => decide (PySem.W.exmOne K (.ref (He.ga K x)) (.ref (He.ga K y)) = some (subX x y))
def fcKit (x y : Str) : PySem.W.Frag → Bool := fun K => decide (PySem.W.kitOne K (.ref (He.ga K x)) (.ref (He.ga K y)) = some (subX x y))
def fcTup (x : Str) (ss : List Str) : PySem.W.Frag → Bool := fun K => He.tupB K x (ss.map He.Dv.str) && match K.lookup (He.ga K x) with
  | some ⟨.type c, none, _, _⟩ => decide (c = "tuple")
  | _ => false
def fcExcC (x : Str) : PySem.W.Frag → Bool := fun K => decide (PySem.W.findIn K (.ref (He.ga K x)) "__getattribute__" = some (some (.builtin "BaseException.__getattribute__"))) && (decide (PySem.W.findIn K (.ref (He.ga K x)) "__getattr__" = some none) &&
  (decide (PySem.W.subIn K (.ref (He.ga K x)) (.type "BaseException") = some true) && (PySem.W.hasDictIn K (He.ga K x) && (decide (PySem.W.findIn K (.ref (He.ga K x)) "__class__" = some (some (.builtin "object.__class__"))) &&
  (decide (PySem.W.specialIn K (.builtin "object.__class__") "__get__" = some (some (.builtin "getset_descriptor.__get__"))) && (decide (PySem.W.takesIn K (.builtin "object.__class__") = some true) && decide (PySem.W.mroIn K (He.ga K x) (.type "object") = some true)))))))
theorem fcExcC_ok {x : Str} {K : PySem.W.Frag} (h : fcExcC x K = true) : ExcC K (He.ga K x) := by
  obtain ⟨h1, h⟩ := He.ba h
  obtain ⟨h2, h⟩ := He.ba h
  obtain ⟨h3, h⟩ := He.ba h
  obtain ⟨h4, h⟩ := He.ba h
  obtain ⟨h5, h⟩ := He.ba h
  obtain ⟨h6, h⟩ := He.ba h
  obtain ⟨h7, h8⟩ := He.ba h
  exact ⟨of_decide_eq_true h1, of_decide_eq_true h2, of_decide_eq_true h3, h4, of_decide_eq_true h5, of_decide_eq_true h6, of_decide_eq_true h7, of_decide_eq_true h8⟩
theorem fcTup_ok {x : Str} {ss : List Str} {K : PySem.W.Frag} (h : fcTup x ss K = true) : (∀ H, SqT K H (He.ga K x) (ss.map V.str)) ∧ ∃ o, K.lookup (He.ga K x) = some o ∧ o.cls = .type "tuple" ∧ o.dict = none := by
  obtain ⟨h1, h2⟩ := He.ba h
  refine ⟨fun H => ?_, ?_⟩
  · have z := He.tupB_ok h1 H
    rw [List.map_map] at z
    exact z
  · cases e : K.lookup (He.ga K x) with
    | none => rw [e] at h2; cases h2
    | some o =>
      obtain ⟨oc, od, dt, sl⟩ := o
      rw [e] at h2
      cases oc with
      | type t =>
        cases od with
        | none =>
          have h2 : t = "tuple" := of_decide_eq_true h2
          subst h2
          exact ⟨_, rfl, rfl, rfl⟩
        | some d => cases h2
      | _ => cases od <;> cases h2
/-- the facts at hand -/
structure Tx (l : Facts) (fn : List He.DefD) (K : PySem.W.Frag) (mg : Str → Option Value) : Prop where
  says : SaysW (exOf l) fn K
  at_ : ∃ h : Heap, K.In h ∧ h.Ns mainGlobals mg
section
variable {l : Facts} {fn : List He.DefD} {K : PySem.W.Frag} {mg : Str → Option Value}
theorem Tx.fc (T : Tx l fn K mg) (i : Nat) {f : PySem.W.Frag → Bool} (e : l[i]? = some f := by rfl) : f K = true := exOf_at (SaysW.yes T.says) i e
theorem Tx.fr (T : Tx l fn K mg) (i : Nat) {x : Str} (e : l[i]? = some (fcFree x) := by rfl) : mg x = none := by
  obtain ⟨h, X, G⟩ := T.at_
  exact He.free_ok X G (T.fc i e)
theorem Tx.gl (T : Tx l fn K mg) (i : Nat) {x : Str} (e : l[i]? = some (fcGlo x) := by rfl) : mg x = some (.ref (He.ga K x)) := by
  obtain ⟨h, X, G⟩ := T.at_
  exact He.glo_ok X G (T.fc i e)
theorem Tx.int (T : Tx l fn K mg) (i : Nat) {x : Str} {j : Int} (e : l[i]? = some (fcInt x j) := by rfl) : ∃ t, mg x = some (.int j t) := by
  obtain ⟨h, X, G⟩ := T.at_
  exact He.int_ok X G (T.fc i e)
theorem Tx.exc (T : Tx l fn K mg) (i : Nat) {x : Str} (e : l[i]? = some (fcExc x) := by rfl) : PySem.W.excIn K (He.ga K x) He.veBase "ValueError.__new__" = true ∧ PySem.W.keepIn K (.ref (He.ga K x)) = true ∧ PySem.W.subIn K (.ref (He.ga K x)) (.type "BaseException") = some true ∧ PySem.W.typeIn K (.ref (He.ga K x)) = some (.type "type") := He.exc_ok (T.fc i e)
theorem Tx.exm (T : Tx l fn K mg) (i : Nat) {x y : Str} (e : l[i]? = some (fcExm x y) := by rfl) : PySem.W.exmOne K (.ref (He.ga K x)) (.ref (He.ga K y)) = some (subX x y) := of_decide_eq_true (T.fc i e)
theorem Tx.kit (T : Tx l fn K mg) (i : Nat) {x y : Str} (e : l[i]? = some (fcKit x y) := by rfl) : PySem.W.kitOne K (.ref (He.ga K x)) (.ref (He.ga K y)) = some (subX x y) := of_decide_eq_true (T.fc i e)
end
/-! ### += on ints -/
theorem bop_ip {c : Cw} {f : Int → Int → Int} : BOp c (ipI f) (gI fun i j => .int (f i j)) := fun G F io H S σ x y dx dy Q gd rx ry q => by
  obtain ⟨i, j, rfl, rfl, q⟩ := two_ints (Aft c G F io σ (rp c) Q) q aft_bad
  cases rx
  cases ry
  exact ⟨i, j, rfl, rfl, hereP (v := .int (f i j)) q gd (Dq.int _)⟩
/-! ### isinstance(e, X), e what the suite holds -/
def fIsX (ns : List Str) (i : Nat) (x n : Str) (as : List PyData) : FE := fun ρ S => match ρ[i]? with
  | some (some .exn) => if n ∈ ns ∧ as.isEmpty = true then .ok (.p (.bool (subX n x))) S else .bad
  | _ => .bad
theorem fe_isX {X : Cx} {c : Cw} {a : Addr} {ob : Obj} {cl : Value} {dd : Option Addr} {pn : List (Addr × Obj)} {n y x : Str} {as : List PyData} {ns : List Str} {i : Nat} {p1 p2 p3 pos : Pos} (hK : c.K = X.K) (hz : Zc cl dd ob) (hu : ∃ us, ob.data = .fields us)
    (hC : ∀ m ∈ ns, ExcC X.K (He.ga X.K m)) (hk : ∀ m ∈ ns, PySem.W.kitOne X.K (.ref (He.ga X.K m)) (.ref (He.ga X.K x)) = some (subX m x)) (gx : X.mg x = some (.ref (He.ga X.K x))) (b0 : X.mg "isinstance" = none) (hg : Gl X "isinstance") (hgx : Gl X x)
    (hy : X.N[i]? = some y) (hv : Vis X.env.scope y) (hd1 : (x == ("__debug__" : Str)) = false := by decide) (hd2 : (y == ("__debug__" : Str)) = false := by decide) (hd3 : (y == ("__classdict__" : Str)) = false := by decide)
    (bi : bootBuiltins "isinstance" = some (.builtin "isinstance") := by decide +kernel)
    (s1 : starEach [Expr.Name y p2, .Name x p3] X.env = (false, eval (.Name y p2) X.env) :: starEach [.Name x p3] X.env := by rfl) (s2 : starEach [Expr.Name x p3] X.env = (false, eval (.Name x p3) X.env) :: starEach [] X.env := by rfl)
    (s3 : (backTo pos (starEach [Expr.Name x p3] X.env)).any (·.1) = false := by rfl) :
    PE (X.suite a ((a, ob) :: pn)) (.Call (.Name "isinstance" p1) [.Name y p2, .Name x p3] [] pos) (tE (c.sui a cl dd n as) (fIsX ns i x n as)) := by
  refine ⟨fun pins s σ H Q I ⟨G, F, io, S, ρ, gd, re, q⟩ => ?_⟩
  unfold fIsX at q
  cases hr : ρ[i]? with
  | none => rw [hr] at q; exact q.elim
  | some o =>
    cases o with
    | none => rw [hr] at q; exact q.elim
    | some d =>
      cases d with
      | exn =>
        rw [hr] at q
        have q : Aft (c.sui a cl dd n as) G F io σ (rp (c.sui a cl dd n as)) Q (if n ∈ ns ∧ as.isEmpty = true then .ok (.p (.bool (subX n x))) S else .bad) := q
        by_cases hn : n ∈ ns ∧ as.isEmpty = true
        · rw [if_pos hn] at q
          obtain ⟨v, h1, u, h2, h3, h4⟩ := re.2 i _ hr
          have h2 := Option.some.inj h2
          subst h2
          obtain ⟨hcl, ⟨_, hdd⟩ | ⟨_, _, hne, _⟩⟩ := h4
          · have hcl : cl = .ref (He.ga c.K n) := hcl
            have hdd : dd = none := hdd
            subst hcl
            subst hdd
            rw [hK] at hz
            have hz' : Zc (.ref (He.ga X.K n)) none ob := hz
            refine (pe_callB (X := X.suite a ((a, ob) :: pn)) (call_isE (hC n hn.1) hz' hu) hg b0 bi (pa_cons (pe_var (X := X.suite a ((a, ob) :: pn)) hy hv hd2 hd3) (pa_cons (pe_glob (X := X.suite a ((a, ob) :: pn)) (v := .ref (He.ga X.K x)) hgx gx rfl hd1) pa_nil s2) s1) (by decide) (by decide) s1 s3).run pins s σ H Q I ?_
            exact ⟨v, h1, .ref (He.ga X.K x), .ref (He.ga X.K x), _, by rw [h3], fun u hu => hu, hk n hn.1, hereP (v := .bl _) q gd (Dq.bl _)⟩
          · have : as = [] := List.isEmpty_iff.mp hn.2
            exact absurd this hne
        · rw [if_neg hn] at q
          exact q.elim
      | _ => rw [hr] at q; exact q.elim
end Tw
namespace Tw
theorem fm0 {α : Type} {P : α → Prop} : ∀ x ∈ ([] : List α), P x := fun _ h => by cases h
theorem fmc {α : Type} {P : α → Prop} {a : α} {l : List α} (h : P a) (r : ∀ x ∈ l, P x) : ∀ x ∈ a :: l, P x := fun x hx => (List.mem_cons.mp hx).elim (fun e => e ▸ h) (r x)
end Tw
namespace Tw
open PySem PySem.Spec PyProof.Rows L2N
open L2 hiding St XE Takes CX takes_of passes_call MkP PMk ps_raise mk_of ps_try_as ps_try_many pmk_own passAt
theorem boot_isinstance : bootBuiltins ("isinstance" : Str) = some (.builtin "isinstance") := by decide +kernel
theorem boot_len : bootBuiltins ("len" : Str) = some (.builtin "len") := by decide +kernel
theorem boot_all : bootBuiltins ("all" : Str) = some (.builtin "all") := by decide +kernel
theorem boot_any : bootBuiltins ("any" : Str) = some (.builtin "any") := by decide +kernel
theorem boot_min : bootBuiltins ("min" : Str) = some (.builtin "min") := by decide +kernel
theorem boot_max : bootBuiltins ("max" : Str) = some (.builtin "max") := by decide +kernel
theorem boot_int : bootBuiltins ("int" : Str) = some (.type "int") := by decide +kernel
theorem boot_bool : bootBuiltins ("bool" : Str) = some (.type "bool") := by decide +kernel
theorem boot_str : bootBuiltins ("str" : Str) = some (.type "str") := by decide +kernel
theorem boot_tuple : bootBuiltins ("tuple" : Str) = some (.type "tuple") := by decide +kernel
theorem boot_list : bootBuiltins ("list" : Str) = some (.type "list") := by decide +kernel
theorem boot_dict : bootBuiltins ("dict" : Str) = some (.type "dict") := by decide +kernel
/-! ### a tuple times an int -/
def gRepT : D → D → Sto → Res D := fun dx dy S => match dx, dy with
  | .p (.tuple ds), .p (.int k) => if ds ≠ [] ∧ 2 ≤ k ∧ k ≤ 1000 ∧ ds.length ≤ 1000 then .ok (.p (.tuple (List.replicate k.toNat ds).flatten)) S else .bad
  | _, _ => .bad
theorem dqa_rep {K : PySem.W.Frag} {F : Hp} {ds : List PyData} {vs : List V} (r : DqA K F vs ds) : ∀ n : Nat, DqA K F (List.replicate n vs).flatten (List.replicate n ds).flatten
  | 0 => .nil
  | n + 1 => by
    rw [List.replicate_succ, List.replicate_succ, List.flatten_cons, List.flatten_cons]
    exact dpa_app r (dqa_rep r n)
theorem bop_repT {c : Cw} : BOp c (rRepT c.K) gRepT := fun G F io H S σ x y dx dy Q gd rx ry q => by
  unfold gRepT at q
  split at q
  · rename_i ds k
    by_cases hc : ds ≠ [] ∧ 2 ≤ k ∧ k ≤ 1000 ∧ ds.length ≤ 1000
    · rw [if_pos hc] at q
      cases ry
      cases rx with
      | @tup p vs _ hx ha =>
        have hl := dpa_len _ _ ha
        exact ⟨p, k, vs, rfl, rfl, sq_t gd.ex hx.sq, fun z => hc.1 ((nil_of ha).mp z), hc.2.1, hc.2.2.1, by rw [hl]; exact hc.2.2.2, new_tup gd (dqa_rep ha k.toNat) q⟩
    · rw [if_neg hc] at q
      exact q.elim
  · exact q.elim
end Tw
namespace Tw
open PySem PySem.Spec PyProof.Rows L2N
open L2 hiding St XE Takes CX takes_of passes_call MkP PMk ps_raise mk_of ps_try_as ps_try_many pmk_own passAt

/-! ### how the readings are computed: rules for simp -/
def Fl.seq (o : Fl) (g : FS) : Fl := match o with
  | .nx ρ S => g ρ S
  | o => o
def Fl.fin (o : Fl) (S : Sto) : Res D := match o with
  | .rt d S' => trim S d S'
  | .nx _ S' => trim S (.p .none) S'
  | .exc n as _ S' => trimX S n as S'
  | _ => .bad
def envOf : Nat → List D → Env
  | 0, _ => []
  | n + 1, [] => none :: envOf n []
  | n + 1, d :: ds => some d :: envOf n ds
theorem envOf_nil : ∀ n : Nat, envOf n [] = List.replicate n none
  | 0 => rfl
  | n + 1 => by rw [envOf, envOf_nil n, List.replicate_succ]
theorem envOf_eq : ∀ (n : Nat) (ds : List D), ds.length ≤ n → ds.map some ++ List.replicate (n - ds.length) none = envOf n ds
  | n, [], _ => by rw [envOf_nil]; rfl
  | n + 1, d :: ds, h => by
    rw [envOf, ← envOf_eq n ds (Nat.le_of_succ_le_succ h), List.map_cons, List.length_cons, Nat.add_sub_add_right]
    rfl
theorem callM_ap (nN : Nat) (f : FS) (ds : List D) (S : Sto) (h : ds.length ≤ nN) : callM nN f ds S = (f (envOf nN ds) S).fin S := by
  unfold callM
  rw [envOf_eq nN ds h]
  rfl
def Fl.finO (o : Fl) : Res D := match o with
  | .rt d S' => .ok d S'
  | .nx _ S' => .ok (.p .none) S'
  | .exc n as _ S' => .exc n as S'
  | _ => .bad
theorem callO_ap (nN : Nat) (f : FS) (ds : List D) (S : Sto) (h : ds.length ≤ nN) : callO nN f ds S = (f (envOf nN ds) S).finO := by
  unfold callO
  rw [envOf_eq nN ds h]
  rfl
@[simp] theorem finO_rt {d : D} {S : Sto} : (Fl.rt d S).finO = .ok d S := rfl
@[simp] theorem envOf_0 {ds : List D} : envOf 0 ds = [] := by cases ds <;> rfl
@[simp] theorem envOf_n {n : Nat} : envOf (n + 1) [] = none :: envOf n [] := rfl
@[simp] theorem envOf_s {n : Nat} {d : D} {ds : List D} : envOf (n + 1) (d :: ds) = some d :: envOf n ds := rfl
section
variable {α β : Type} {r r' : Res α} {k : α → Sto → Res β} {kf : α → Sto → Fl} {o o' : Fl} {g : FS} {S S' : Sto} {ρ : Env} {a : α} {n : Str} {as : List PyData} {d : D}
@[simp] theorem bind_ok : (Res.ok a S).bind k = k a S := rfl
@[simp] theorem bind_exc : (Res.exc n as S : Res α).bind k = .exc n as S := rfl
@[simp] theorem bind_bad : (Res.bad : Res α).bind k = .bad := rfl
@[simp] theorem thn_ok : (Res.ok a S).thn ρ kf = kf a S := rfl
@[simp] theorem thn_exc : (Res.exc n as S : Res α).thn ρ kf = .exc n as ρ S := rfl
@[simp] theorem thn_bad : (Res.bad : Res α).thn ρ kf = .bad := rfl
@[simp] theorem seq_nx : (Fl.nx ρ S).seq g = g ρ S := rfl
@[simp] theorem seq_rt : (Fl.rt d S).seq g = .rt d S := rfl
@[simp] theorem seq_bk : (Fl.bk ρ S).seq g = .bk ρ S := rfl
@[simp] theorem seq_ct : (Fl.ct ρ S).seq g = .ct ρ S := rfl
@[simp] theorem seq_exc : (Fl.exc n as ρ S).seq g = .exc n as ρ S := rfl
@[simp] theorem seq_bad : Fl.bad.seq g = .bad := rfl
@[simp] theorem fin_rt : (Fl.rt d S').fin S = trim S d S' := rfl
@[simp] theorem fin_nx : (Fl.nx ρ S').fin S = trim S (.p .none) S' := rfl
@[simp] theorem fin_exc : (Fl.exc n as ρ S').fin S = trimX S n as S' := rfl
theorem trim_same (h : S'.length = S.length) : trim S d S' = .ok d S' := if_pos h
theorem trimX_same (h : S'.length = S.length) : trimX S n as S' = .exc n as S' := if_pos h
@[simp] theorem trim_id : trim S d S = .ok d S := if_pos rfl
@[simp] theorem trimX_id : trimX S n as S = .exc n as S := if_pos rfl
@[simp] theorem asB_ok {b : Bool} : (Res.ok (.p (.bool b)) S).asB = .ok b S := rfl
@[simp] theorem asB_exc : (Res.exc n as S : Res D).asB = .exc n as S := rfl
end
section
variable {ρ : Env} {S : Sto} {f g fa fb fc fd : FS} {a b c e : FE} {fr : FA} {i j l : Nat} {d d1 d2 : D} {x y : PyData} {m n : Int} {xs ys : List PyData} {op op2 : D → D → Sto → Res D} {un : D → Sto → Res D} {bc : List D → Sto → Res D} {ds : List D} {gg : FG} {gs : FGs} {fi : FI} {v o : D} {b0 : Bool} {k : Nat} {z : Str} {fl fh : FO} {t : Ty} {kds : D}
@[simp ↓] theorem ap_seq : fSeq f g ρ S = (f ρ S).seq g := rfl
def tupR (ds : List D) (S1 : Sto) : Res D := match asPs ds with
  | some ps => if ds.length < lim then .ok (.p (.tuple ps)) S1 else .bad
  | none => .bad
def lstR (ds : List D) (S1 : Sto) : Res D := match asPs ds with
  | some ps => if ds.length < lim then .ok (.p (.list ps)) S1 else .bad
  | none => .bad
def setIx4 (v o i : D) (ρ : Env) (S3 : Sto) : Fl := match o, i with
  | .own k, .p (.int j) => match S3[k]? with
    | some (.lst xs) => match ixN xs.length j with
      | some m => .nx ρ (S3.set k (.lst (xs.set m v)))
      | none => .bad
    | _ => .bad
  | _, _ => .bad
@[simp] theorem setIx4_own {v : D} {k : Nat} : setIx4 v (.own k) (.p (.int m)) ρ S = (match S[k]? with
    | some (.lst xs) => (match ixN xs.length m with
      | some q => .nx ρ (S.set k (.lst (xs.set q v)))
      | none => .bad)
    | _ => .bad) := rfl
def bin2K (op : D → D → Sto → Res D) (v : D) (r : Res D) : Res D := r.bind fun y S2 => op v y S2
def binK (op : D → D → Sto → Res D) (b : FE) (ρ : Env) (r : Res D) : Res D := r.bind fun x S1 => (b ρ S1).bind fun y S2 => op x y S2
def cons2K (v : D) (r : Res (List D)) : Res (List D) := r.bind fun xs S2 => .ok (v :: xs) S2
def consK (fr : FA) (ρ : Env) (r : Res D) : Res (List D) := r.bind fun x S1 => (fr ρ S1).bind fun xs S2 => .ok (x :: xs) S2
def chain3K (op2 : D → D → Sto → Res D) (v : D) (c : FE) (ρ : Env) (r : Res D) : Res D := r.asB.bind fun k S3 => if k = true then (c ρ S3).bind fun z S4 => op2 v z S4 else .ok (.p (.bool false)) S3
def chain2K (op op2 : D → D → Sto → Res D) (v : D) (c : FE) (ρ : Env) (r : Res D) : Res D := r.bind fun y S2 => (op v y S2).asB.bind fun k S3 => if k = true then (c ρ S3).bind fun z S4 => op2 y z S4 else .ok (.p (.bool false)) S3
def chainK (op op2 : D → D → Sto → Res D) (b c : FE) (ρ : Env) (r : Res D) : Res D := r.bind fun x S1 => (b ρ S1).bind fun y S2 => (op x y S2).asB.bind fun k S3 => if k = true then (c ρ S3).bind fun z S4 => op2 y z S4 else .ok (.p (.bool false)) S3
def app2K (k : Nat) (r : Res D) : Res D := r.bind fun d S2 => (match S2[k]? with | some (.lst xs) => if xs.length < lim then .ok (.p .none) (S2.set k (.lst (xs ++ [d]))) else .bad | _ => .bad)
def appK (b : FE) (ρ : Env) (r : Res D) : Res D := r.bind fun o S1 => match o with | .own k => (match S1[k]? with | some (.lst _) => (b ρ S1).bind fun d S2 => (match S2[k]? with | some (.lst xs) => if xs.length < lim then .ok (.p .none) (S2.set k (.lst (xs ++ [d]))) else .bad | _ => .bad) | _ => .bad) | _ => .bad
def setIx3K (v o : D) (ρ : Env) (r : Res D) : Fl := r.thn ρ fun i S3 => setIx4 v o i ρ S3
def setIx2K (v : D) (c : FE) (ρ : Env) (r : Res D) : Fl := r.thn ρ fun o S2 => (c ρ S2).thn ρ fun i S3 => setIx4 v o i ρ S3
def setIxK (b c : FE) (ρ : Env) (r : Res D) : Fl := r.thn ρ fun v S1 => (b ρ S1).thn ρ fun o S2 => (c ρ S2).thn ρ fun i S3 => setIx4 v o i ρ S3
def retK (ρ : Env) (r : Res D) : Fl := r.thn ρ fun d S1 => .rt d S1
def setK (i : Nat) (ρ : Env) (r : Res D) : Fl := r.thn ρ fun d S1 => .nx (ρ.set i (some d)) S1
def dropK (ρ : Env) (r : Res D) : Fl := r.thn ρ fun _ S1 => .nx ρ S1
def ifSK (f g : FS) (ρ : Env) (r : Res D) : Fl := r.asB.thn ρ fun b S1 => if b = true then f ρ S1 else g ρ S1
def andK (b : FE) (ρ : Env) (r : Res D) : Res D := r.asB.bind fun k S1 => if k = true then b ρ S1 else .ok (.p (.bool false)) S1
def orK (b : FE) (ρ : Env) (r : Res D) : Res D := r.asB.bind fun k S1 => if k = true then .ok (.p (.bool true)) S1 else b ρ S1
def notK (r : Res D) : Res D := r.asB.bind fun k S1 => .ok (.p (.bool (!k))) S1
def ifK (a b : FE) (ρ : Env) (r : Res D) : Res D := r.asB.bind fun k S1 => if k = true then a ρ S1 else b ρ S1
def unK (un : D → Sto → Res D) (r : Res D) : Res D := r.bind un
def callK (bc : List D → Sto → Res D) (r : Res (List D)) : Res D := r.bind bc
def tupK (r : Res (List D)) : Res D := r.bind tupR
def lstK (r : Res (List D)) : Res D := r.bind lstR
def lstOK (r : Res (List D)) : Res D := r.bind fun ds S1 => if ds.length < lim then .ok (.own S1.length) (S1 ++ [.lst ds]) else .bad
def parK (i j : Nat) (ρ : Env) (r : Res (List D)) : Fl := r.thn ρ fun ds S1 => match ds with | [d, e] => .nx ((ρ.set i (some d)).set j (some e)) S1 | _ => .bad
def par3K (i j l : Nat) (ρ : Env) (r : Res (List D)) : Fl := r.thn ρ fun ds S1 => match ds with | [d, e, f] => .nx (((ρ.set i (some d)).set j (some e)).set l (some f)) S1 | _ => .bad
def asgK (gg : FG) (ρ : Env) (r : Res D) : Fl := r.thn ρ fun d S1 => match gg d ρ with | some ρ1 => .nx ρ1 S1 | none => .bad
def itSK (r : Res D) : Res (List D) := r.bind fun d S1 => match d with | .p (.tuple ds) => .ok (ds.map D.p) S1 | .p (.list ds) => .ok (ds.map D.p) S1 | .scr ns => .ok ((ns.map PyData.int).map D.p) S1 | _ => .bad
def rng1K (r : Res (List D)) : Res (List D) := r.bind fun ds S1 => match ds with | [.p (.int j)] => if -1000000 < j ∧ j < 1000000 then .ok (rng 0 j.toNat) S1 else .bad | _ => .bad
def rng2K (r : Res (List D)) : Res (List D) := r.bind fun ds S1 => match ds with | [.p (.int i), .p (.int j)] => if -1000000 < i ∧ i < 1000000 ∧ -1000000 < j ∧ j < 1000000 then .ok (rng i (j - i).toNat) S1 else .bad | _ => .bad
def forK (gg : FG) (f : FS) (ρ : Env) (r : Res (List D)) : Fl := r.thn ρ fun ds S1 => forL gg f ds ρ S1
def isiK (t : Ty) (r : Res D) : Res D := r.bind fun d S1 => match d with | .p d => .ok (.p (.bool (isT t d))) S1 | .wld _ _ => .bad | _ => .bad
def frzK (r : Res D) : Res D := r.bind fun d S1 => match d with | .own k => (match S1[k]? with | some (.lst xs) => (match asPs xs with | some ps => .ok (.p (.list ps)) (S1.set k (.fz (.p (.list ps)))) | none => .bad) | _ => .bad) | _ => .bad
def kixK (r : Res D) : Res D := r.bind fun d S1 => match d with | .p (.str z) => if z = ("a" : Str) then .ok (.p (.int 0)) S1 else if z = ("b" : Str) then .ok (.p (.int 1)) S1 else .bad | _ => .bad
def sliceK (fl fh : FO) (ρ : Env) (r : Res D) : Res D := r.bind fun x S1 => (fl ρ S1).bind fun l S2 => (fh ρ S2).bind fun h S3 => gSl x l h S3
def fsomeK (r : Res D) : Res (Option Int) := r.bind fun d S1 => match d with | .p (.int i) => .ok (some i) S1 | _ => .bad
@[simp] theorem bin2K_ok : bin2K op v (.ok d S) = (op v d S) := rfl
@[simp] theorem bin2K_exc {s : Str} : bin2K op v (.exc s xs S) = .exc s xs S := rfl
@[simp ↓] theorem ap_bin : fBin op a b ρ S = binK op b ρ (a ρ S) := rfl
@[simp] theorem binK_ok : binK op b ρ (.ok d S) = (bin2K op d (b ρ S)) := rfl
@[simp] theorem binK_exc {s : Str} : binK op b ρ (.exc s xs S) = .exc s xs S := rfl
@[simp] theorem cons2K_ok : cons2K v (.ok ds S) = (.ok (v :: ds) S) := rfl
@[simp] theorem cons2K_exc {s : Str} : cons2K v (.exc s xs S) = .exc s xs S := rfl
@[simp ↓] theorem ap_cons : fCons a fr ρ S = consK fr ρ (a ρ S) := rfl
@[simp] theorem consK_ok : consK fr ρ (.ok d S) = (cons2K d (fr ρ S)) := rfl
@[simp] theorem consK_exc {s : Str} : consK fr ρ (.exc s xs S) = .exc s xs S := rfl
@[simp] theorem chain3K_ok : chain3K op2 v c ρ (.ok (.p (.bool b0)) S) = (if b0 = true then bin2K op2 v (c ρ S) else .ok (.p (.bool false)) S) := rfl
@[simp] theorem chain3K_exc {s : Str} : chain3K op2 v c ρ (.exc s xs S) = .exc s xs S := rfl
@[simp] theorem chain2K_ok : chain2K op op2 v c ρ (.ok d S) = (chain3K op2 d c ρ (op v d S)) := rfl
@[simp] theorem chain2K_exc {s : Str} : chain2K op op2 v c ρ (.exc s xs S) = .exc s xs S := rfl
@[simp ↓] theorem ap_chain : fChain op op2 a b c ρ S = chainK op op2 b c ρ (a ρ S) := rfl
@[simp] theorem chainK_ok : chainK op op2 b c ρ (.ok d S) = (chain2K op op2 d c ρ (b ρ S)) := rfl
@[simp] theorem chainK_exc {s : Str} : chainK op op2 b c ρ (.exc s xs S) = .exc s xs S := rfl
@[simp] theorem app2K_ok : app2K k (.ok d S) = (match S[k]? with | some (.lst xs) => if xs.length < lim then .ok (.p .none) (S.set k (.lst (xs ++ [d]))) else .bad | _ => .bad) := rfl
@[simp] theorem app2K_exc {s : Str} : app2K k (.exc s xs S) = .exc s xs S := rfl
@[simp ↓] theorem ap_app : fApp a b ρ S = appK b ρ (a ρ S) := rfl
@[simp] theorem appK_ok : appK b ρ (.ok (.own k) S) = (match S[k]? with | some (.lst _) => app2K k (b ρ S) | _ => .bad) := rfl
@[simp] theorem appK_exc {s : Str} : appK b ρ (.exc s xs S) = .exc s xs S := rfl
@[simp] theorem setIx3K_ok : setIx3K v o ρ (.ok d S) = (setIx4 v o d ρ S) := rfl
@[simp] theorem setIx3K_exc {s : Str} : setIx3K v o ρ (.exc s xs S) = .exc s xs ρ S := rfl
@[simp] theorem setIx2K_ok : setIx2K v c ρ (.ok d S) = (setIx3K v d ρ (c ρ S)) := rfl
@[simp] theorem setIx2K_exc {s : Str} : setIx2K v c ρ (.exc s xs S) = .exc s xs ρ S := rfl
@[simp ↓] theorem ap_setIx : fSetIx a b c ρ S = setIxK b c ρ (a ρ S) := rfl
@[simp] theorem setIxK_ok : setIxK b c ρ (.ok d S) = (setIx2K d c ρ (b ρ S)) := rfl
@[simp] theorem setIxK_exc {s : Str} : setIxK b c ρ (.exc s xs S) = .exc s xs ρ S := rfl
@[simp ↓] theorem ap_ret : fRet a ρ S = retK ρ (a ρ S) := rfl
@[simp] theorem retK_ok : retK ρ (.ok d S) = (.rt d S) := rfl
@[simp] theorem retK_exc {s : Str} : retK ρ (.exc s xs S) = .exc s xs ρ S := rfl
@[simp ↓] theorem ap_set : fSet i a ρ S = setK i ρ (a ρ S) := rfl
@[simp] theorem setK_ok : setK i ρ (.ok d S) = (.nx (ρ.set i (some d)) S) := rfl
@[simp] theorem setK_exc {s : Str} : setK i ρ (.exc s xs S) = .exc s xs ρ S := rfl
@[simp ↓] theorem ap_drop : fDrop a ρ S = dropK ρ (a ρ S) := rfl
@[simp] theorem dropK_ok : dropK ρ (.ok d S) = (.nx ρ S) := rfl
@[simp] theorem dropK_exc {s : Str} : dropK ρ (.exc s xs S) = .exc s xs ρ S := rfl
@[simp ↓] theorem ap_ifS : fIfS a f g ρ S = ifSK f g ρ (a ρ S) := rfl
@[simp] theorem ifSK_ok : ifSK f g ρ (.ok (.p (.bool b0)) S) = (if b0 = true then f ρ S else g ρ S) := rfl
@[simp] theorem ifSK_exc {s : Str} : ifSK f g ρ (.exc s xs S) = .exc s xs ρ S := rfl
@[simp ↓] theorem ap_and : fAnd a b ρ S = andK b ρ (a ρ S) := rfl
@[simp] theorem andK_ok : andK b ρ (.ok (.p (.bool b0)) S) = (if b0 = true then b ρ S else .ok (.p (.bool false)) S) := rfl
@[simp] theorem andK_exc {s : Str} : andK b ρ (.exc s xs S) = .exc s xs S := rfl
@[simp ↓] theorem ap_or : fOr a b ρ S = orK b ρ (a ρ S) := rfl
@[simp] theorem orK_ok : orK b ρ (.ok (.p (.bool b0)) S) = (if b0 = true then .ok (.p (.bool true)) S else b ρ S) := rfl
@[simp] theorem orK_exc {s : Str} : orK b ρ (.exc s xs S) = .exc s xs S := rfl
@[simp ↓] theorem ap_not : fNot a ρ S = notK (a ρ S) := rfl
@[simp] theorem notK_ok : notK (.ok (.p (.bool b0)) S) = (.ok (.p (.bool (!b0))) S) := rfl
@[simp] theorem notK_exc {s : Str} : notK (.exc s xs S) = .exc s xs S := rfl
@[simp ↓] theorem ap_if : fIf c a b ρ S = ifK a b ρ (c ρ S) := rfl
@[simp] theorem ifK_ok : ifK a b ρ (.ok (.p (.bool b0)) S) = (if b0 = true then a ρ S else b ρ S) := rfl
@[simp] theorem ifK_exc {s : Str} : ifK a b ρ (.exc s xs S) = .exc s xs S := rfl
@[simp ↓] theorem ap_un : fUn un a ρ S = unK un (a ρ S) := rfl
@[simp] theorem unK_ok : unK un (.ok d S) = (un d S) := rfl
@[simp] theorem unK_exc {s : Str} : unK un (.exc s xs S) = .exc s xs S := rfl
@[simp ↓] theorem ap_call : fCall bc fr ρ S = callK bc (fr ρ S) := rfl
@[simp] theorem callK_ok : callK bc (.ok ds S) = (bc ds S) := rfl
@[simp] theorem callK_exc {s : Str} : callK bc (.exc s xs S) = .exc s xs S := rfl
@[simp ↓] theorem ap_tup : fTup fr ρ S = tupK (fr ρ S) := rfl
@[simp] theorem tupK_ok : tupK (.ok ds S) = (tupR ds S) := rfl
@[simp] theorem tupK_exc {s : Str} : tupK (.exc s xs S) = .exc s xs S := rfl
@[simp ↓] theorem ap_lst : fLst fr ρ S = lstK (fr ρ S) := rfl
@[simp] theorem lstK_ok : lstK (.ok ds S) = (lstR ds S) := rfl
@[simp] theorem lstK_exc {s : Str} : lstK (.exc s xs S) = .exc s xs S := rfl
@[simp ↓] theorem ap_lstO : fLstO fr ρ S = lstOK (fr ρ S) := rfl
@[simp] theorem lstOK_ok : lstOK (.ok ds S) = (if ds.length < lim then .ok (.own S.length) (S ++ [.lst ds]) else .bad) := rfl
@[simp] theorem lstOK_exc {s : Str} : lstOK (.exc s xs S) = .exc s xs S := rfl
@[simp ↓] theorem ap_par : fPar i j fr ρ S = parK i j ρ (fr ρ S) := rfl
@[simp] theorem parK_ok : parK i j ρ (.ok [d1, d2] S) = (.nx ((ρ.set i (some d1)).set j (some d2)) S) := rfl
@[simp] theorem parK_exc {s : Str} : parK i j ρ (.exc s xs S) = .exc s xs ρ S := rfl
@[simp ↓] theorem ap_par3 : fPar3 i j l fr ρ S = par3K i j l ρ (fr ρ S) := rfl
@[simp] theorem par3K_ok : par3K i j l ρ (.ok [d1, d2, d] S) = (.nx (((ρ.set i (some d1)).set j (some d2)).set l (some d)) S) := rfl
@[simp] theorem par3K_exc {s : Str} : par3K i j l ρ (.exc s xs S) = .exc s xs ρ S := rfl
@[simp ↓] theorem ap_asg : fAsg a gg ρ S = asgK gg ρ (a ρ S) := rfl
@[simp] theorem asgK_ok : asgK gg ρ (.ok d S) = (match gg d ρ with | some ρ1 => .nx ρ1 S | none => .bad) := rfl
@[simp] theorem asgK_exc {s : Str} : asgK gg ρ (.exc s xs S) = .exc s xs ρ S := rfl
@[simp ↓] theorem ap_itS : fItS a ρ S = itSK (a ρ S) := rfl
@[simp] theorem itSK_ok : itSK (.ok d S) = (match d with | .p (.tuple ds) => .ok (ds.map D.p) S | .p (.list ds) => .ok (ds.map D.p) S | .scr ns => .ok ((ns.map PyData.int).map D.p) S | _ => .bad) := rfl
@[simp] theorem itSK_exc {s : Str} : itSK (.exc s xs S) = .exc s xs S := rfl
@[simp ↓] theorem ap_rng1 : fRng1 fr ρ S = rng1K (fr ρ S) := rfl
@[simp] theorem rng1K_ok : rng1K (.ok [.p (.int m)] S) = (if -1000000 < m ∧ m < 1000000 then .ok (rng 0 m.toNat) S else .bad) := rfl
@[simp] theorem rng1K_exc {s : Str} : rng1K (.exc s xs S) = .exc s xs S := rfl
@[simp ↓] theorem ap_rng2 : fRng2 fr ρ S = rng2K (fr ρ S) := rfl
@[simp] theorem rng2K_ok : rng2K (.ok [.p (.int m), .p (.int n)] S) = (if -1000000 < m ∧ m < 1000000 ∧ -1000000 < n ∧ n < 1000000 then .ok (rng m (n - m).toNat) S else .bad) := rfl
@[simp] theorem rng2K_exc {s : Str} : rng2K (.exc s xs S) = .exc s xs S := rfl
@[simp ↓] theorem ap_for : fFor fi gg f ρ S = forK gg f ρ (fi ρ S) := rfl
@[simp] theorem forK_ok : forK gg f ρ (.ok ds S) = (forL gg f ds ρ S) := rfl
@[simp] theorem forK_exc {s : Str} : forK gg f ρ (.exc s xs S) = .exc s xs ρ S := rfl
@[simp ↓] theorem ap_isi {t : Ty} : fIsi t a ρ S = isiK t (a ρ S) := rfl
@[simp] theorem isiK_ok : isiK t (.ok (.p x) S) = (.ok (.p (.bool (isT t x))) S) := rfl
@[simp] theorem isiK_exc {s : Str} : isiK t (.exc s xs S) = .exc s xs S := rfl
@[simp ↓] theorem ap_frz : fFrz a ρ S = frzK (a ρ S) := rfl
@[simp] theorem frzK_ok : frzK (.ok (.own k) S) = (match S[k]? with | some (.lst xs) => (match asPs xs with | some ps => .ok (.p (.list ps)) (S.set k (.fz (.p (.list ps)))) | none => .bad) | _ => .bad) := rfl
@[simp] theorem frzK_exc {s : Str} : frzK (.exc s xs S) = .exc s xs S := rfl
@[simp ↓] theorem ap_kix : fKix a ρ S = kixK (a ρ S) := rfl
@[simp] theorem kixK_ok : kixK (.ok (.p (.str z)) S) = (if z = ("a" : Str) then .ok (.p (.int 0)) S else if z = ("b" : Str) then .ok (.p (.int 1)) S else .bad) := rfl
@[simp] theorem kixK_exc {s : Str} : kixK (.exc s xs S) = .exc s xs S := rfl
@[simp ↓] theorem ap_slice {fl fh : FO} : fSlice a fl fh ρ S = sliceK fl fh ρ (a ρ S) := rfl
@[simp] theorem sliceK_ok : sliceK fl fh ρ (.ok d S) = ((fl ρ S).bind fun l S2 => (fh ρ S2).bind fun h S3 => gSl d l h S3) := rfl
@[simp] theorem sliceK_exc {s : Str} : sliceK fl fh ρ (.exc s xs S) = .exc s xs S := rfl
@[simp ↓] theorem ap_fsome : fSome a ρ S = fsomeK (a ρ S) := rfl
@[simp] theorem fsomeK_ok : fsomeK (.ok (.p (.int m)) S) = (.ok (some m) S) := rfl
@[simp] theorem fsomeK_exc {s : Str} : fsomeK (.exc s xs S) = .exc s xs S := rfl
def augK (i : Nat) (op : D → D → Sto → Res D) (ρ : Env) (x : PyData) (r : Res D) : Fl := r.thn ρ fun d1 S1 => (op (.p x) d1 S1).thn ρ fun d2 S2 => .nx (ρ.set i (some d2)) S2
@[simp ↓] theorem ap_aug : fAug i op b ρ S = (match ρ[i]? with
  | some (some (.p d0)) => augK i op ρ d0 (b ρ S)
  | _ => .bad) := rfl
@[simp] theorem augK_ok : augK i op ρ x (.ok d S) = setK i ρ (op (.p x) d S) := rfl
@[simp] theorem augK_exc {s : Str} : augK i op ρ x (.exc s xs S) = .exc s xs ρ S := rfl
@[simp ↓] theorem ap_pass : fPass ρ S = .nx ρ S := rfl
@[simp ↓] theorem ap_retN : fRetN ρ S = .rt (.p .none) S := rfl
@[simp ↓] theorem ap_brk : fBrk ρ S = .bk ρ S := rfl
@[simp ↓] theorem ap_cnt : fCnt ρ S = .ct ρ S := rfl
@[simp ↓] theorem ap_var : fVar i ρ S = (match ρ[i]? with
  | some (some .exn) => .bad
  | some (some d) => .ok d S
  | _ => .bad) := rfl
@[simp ↓] theorem ap_con : fCon x ρ S = .ok (.p x) S := rfl
@[simp ↓] theorem ap_nil : fNil ρ S = .ok [] S := rfl
theorem lt_lim {n : Nat} (h : n < 1000000) : n < lim := h
@[simp] theorem lim_val : lim = 1000000 := rfl
@[simp] theorem asPs_nil : asPs [] = some [] := rfl
@[simp] theorem asPs_cons : asPs (.p x :: ds) = (asPs ds).map (x :: ·) := rfl
@[simp] theorem tupR_eq : tupR ds S = (match asPs ds with
  | some ps => if ds.length < lim then .ok (.p (.tuple ps)) S else .bad
  | none => .bad) := rfl
@[simp] theorem lstR_eq : lstR ds S = (match asPs ds with
  | some ps => if ds.length < lim then .ok (.p (.list ps)) S else .bad
  | none => .bad) := rfl
@[simp ↓] theorem ap_nm : gNm i d ρ = some (ρ.set i (some d)) := rfl
@[simp ↓] theorem ap_gsNil : gsNil [] ρ = some ρ := rfl
@[simp ↓] theorem ap_gsCons : gsCons gg gs (d :: ds) ρ = (gg d ρ).bind (gs ds) := rfl
@[simp ↓] theorem ap_gTp : gTp i gs (.p (.tuple xs)) ρ = if xs.length = i then gs (xs.map D.p) ρ else none := rfl
@[simp ↓] theorem ap_while {k : Nat} : fWhile k a f ρ S = whileN a f k ρ S := rfl
/-- what follows one round -/
def Fl.rnd (o : Fl) (k : Env → Sto → Fl) : Fl := match o with
  | .nx ρ2 S2 => k ρ2 S2
  | .ct ρ2 S2 => k ρ2 S2
  | .bk ρ2 S2 => .nx ρ2 S2
  | o => o

@[simp] theorem rnd_nx {k : Env → Sto → Fl} : (Fl.nx ρ S).rnd k = k ρ S := rfl
@[simp] theorem rnd_ct {k : Env → Sto → Fl} : (Fl.ct ρ S).rnd k = k ρ S := rfl
@[simp] theorem rnd_bk {k : Env → Sto → Fl} : (Fl.bk ρ S).rnd k = .nx ρ S := rfl
@[simp] theorem rnd_rt {k : Env → Sto → Fl} : (Fl.rt d S).rnd k = .rt d S := rfl
@[simp] theorem rnd_exc {k : Env → Sto → Fl} {n : Str} : (Fl.exc n xs ρ S).rnd k = .exc n xs ρ S := rfl
@[simp ↓] theorem forL_nil : forL gg f [] ρ S = .nx ρ S := rfl
@[simp ↓] theorem forL_cons : forL gg f (d :: ds) ρ S = (match gg d ρ with
  | none => .bad
  | some ρ1 => (f ρ1 S).rnd fun ρ2 S2 => forL gg f ds ρ2 S2) := rfl
theorem whileN_succ {k : Nat} : whileN a f (k + 1) ρ S = (a ρ S).asB.thn ρ fun b S1 => if b = true then (f ρ S1).rnd (whileN a f k) else .nx ρ S1 := rfl
@[simp ↓] theorem ap_raise0 {n : Str} : fRaise0 n ρ S = .exc n [] ρ S := rfl
@[simp ↓] theorem ap_no : fNo ρ S = .ok none S := rfl
@[simp] theorem ap_yes : fYes ρ S = .ok (.p (.bool true)) S := rfl
/-! the operators -/
@[simp] theorem g_gI {h : Int → Int → PyData} : gI h (.p (.int m)) (.p (.int n)) S = .ok (.p (h m n)) S := rfl
@[simp] theorem g_sub : gMinus (.p (.int m)) (.p (.int n)) S = .ok (.p (.int (m - n))) S := rfl
@[simp] theorem g_add : gAdd (.p (.int m)) (.p (.int n)) S = .ok (.p (.int (m + n))) S := rfl
@[simp] theorem g_neg : gNeg (.p (.int m)) S = .ok (.p (.int (-m))) S := rfl
theorem g_mul : gMul (.p (.int m)) (.p (.int n)) S = if cMul m n = true then .ok (.p (.int (m * n))) S else .bad := rfl
@[simp] theorem g_mulR (h : -18446744073709551616 < n ∧ n < 18446744073709551616) : gMul (.p (.int m)) (.p (.int n)) S = .ok (.p (.int (m * n))) S := by
  rw [g_mul, if_pos]
  unfold cMul
  rw [Bool.or_eq_true]
  exact .inr (decide_eq_true h)
@[simp] theorem g_mulL (h : -18446744073709551616 < m ∧ m < 18446744073709551616) : gMul (.p (.int m)) (.p (.int n)) S = .ok (.p (.int (m * n))) S := by
  rw [g_mul, if_pos]
  unfold cMul
  rw [Bool.or_eq_true]
  exact .inl (decide_eq_true h)
@[simp] theorem g_div (h : 0 < n ∧ n < 1073741824) : gDiv (.p (.int m)) (.p (.int n)) S = .ok (.p (.int (m / n))) S := if_pos (decide_eq_true h)
@[simp] theorem g_mod (h : 0 < n) : gMod (.p (.int m)) (.p (.int n)) S = .ok (.p (.int (m % n))) S := if_pos (decide_eq_true h)
@[simp] theorem g_pow (h : 0 ≤ n ∧ n ≤ 1000000 ∧ m.natAbs < 18446744073709551616) : gPow (.p (.int m)) (.p (.int n)) S = .ok (.p (.int (m ^ n.toNat))) S := if_pos (decide_eq_true h)
@[simp] theorem g_lt : gLt (.p (.int m)) (.p (.int n)) S = .ok (.p (.bool (decide (m < n)))) S := rfl
@[simp] theorem g_le : gLe (.p (.int m)) (.p (.int n)) S = .ok (.p (.bool (decide (m ≤ n)))) S := rfl
@[simp] theorem g_gt : gGt (.p (.int m)) (.p (.int n)) S = .ok (.p (.bool (decide (n < m)))) S := rfl
@[simp] theorem g_ge : gGe (.p (.int m)) (.p (.int n)) S = .ok (.p (.bool (decide (n ≤ m)))) S := rfl
@[simp] theorem g_isN : gIsN d (.p .none) S = .ok (.p (.bool (isN d))) S := rfl
@[simp] theorem g_notN : gNotN d (.p .none) S = .ok (.p (.bool (!isN d))) S := rfl
@[simp] theorem isN_non : isN (.p .none) = true := rfl
@[simp] theorem isN_int : isN (.p (.int m)) = false := rfl
@[simp] theorem isN_tup : isN (.p (.tuple xs)) = false := rfl
theorem g_eq (h : (SeqAt.shaped x && SeqAt.shaped y) = true) : gEq (.p x) (.p y) S = .ok (.p (.bool (PyData.eqv x y))) S := if_pos h
theorem g_ne (h : (SeqAt.shaped x && SeqAt.shaped y) = true) : gNe (.p x) (.p y) S = .ok (.p (.bool (!PyData.eqv x y))) S := if_pos h
@[simp] theorem g_eqI : gEq (.p (.int m)) (.p (.int n)) S = .ok (.p (.bool (decide (m = n)))) S := rfl
@[simp] theorem g_neI : gNe (.p (.int m)) (.p (.int n)) S = .ok (.p (.bool (!decide (m = n)))) S := rfl
theorem g_ixT : gIx (.p (.tuple xs)) (.p (.int m)) S = (match atI xs m with
  | some d => .ok (.p d) S
  | none => .bad) := rfl
theorem g_ixL : gIx (.p (.list xs)) (.p (.int m)) S = (match atI xs m with
  | some d => .ok (.p d) S
  | none => .bad) := rfl
theorem g_ixO {k : Nat} : gIx (.own k) (.p (.int m)) S = (match S[k]? with
  | some (.lst xs) => (match atI xs m with
    | some d => .ok d S
    | none => .bad)
  | _ => .bad) := rfl
@[simp] theorem g_len_t : gLen [.p (.tuple xs)] S = .ok (.p (.int xs.length)) S := rfl
@[simp] theorem g_len_l : gLen [.p (.list xs)] S = .ok (.p (.int xs.length)) S := rfl
@[simp] theorem g_len_o {k : Nat} : gLen [.own k] S = (match S[k]? with
  | some (.lst xs) => .ok (.p (.int xs.length)) S
  | _ => .bad) := rfl
@[simp] theorem g_max : gMax2 [.p (.int m), .p (.int n)] S = .ok (.p (.int (if n > m then n else m))) S := rfl
@[simp] theorem g_min : gMin2 [.p (.int m), .p (.int n)] S = .ok (.p (.int (if n < m then n else m))) S := rfl
@[simp] theorem g_int : gInt [.p (.int m)] S = .ok (.p (.int m)) S := rfl
@[simp] theorem g_intB {k : Bool} : gInt [.p (.bool k)] S = .ok (.p (.int (if k then 1 else 0))) S := rfl
end
theorem ixN_nat {n : Nat} {i : Int} (h0 : 0 ≤ i) (h1 : i < n) : ixN n i = some i.toNat := by
  unfold ixN
  rw [if_pos h0, if_pos h1]
theorem atI_some {α : Type} {xs : List α} {i : Int} {x : α} (h0 : 0 ≤ i) (h : xs[i.toNat]? = some x) : atI xs i = some x := by
  have h2 : i.toNat < xs.length := (List.getElem?_eq_some_iff.mp h).1
  unfold atI
  rw [ixN_nat h0 (by omega)]
  exact h
@[simp] theorem atI_0 {α : Type} {x : α} {xs : List α} : atI (x :: xs) 0 = some x := atI_some (by decide) rfl
@[simp] theorem atI_1 {α : Type} {x y : α} {xs : List α} : atI (x :: y :: xs) 1 = some y := atI_some (by decide) rfl
@[simp] theorem atI_2 {α : Type} {x y z : α} {xs : List α} : atI (x :: y :: z :: xs) 2 = some z := atI_some (by decide) rfl
@[simp] theorem atI_3 {α : Type} {x y z u : α} {xs : List α} : atI (x :: y :: z :: u :: xs) 3 = some u := atI_some (by decide) rfl
section
variable {ρ ρ1 : Env} {S : Sto} {a b ft fe : FE} {fi : FI} {g : FG} {vs : List Nat} {d : D} {ds : List D} {xs : List PyData} {b0 : Bool} {n : Str} {f : FS} {ns : List Str} {cl : List FCl}
def compE (r : Res (List D)) : Res D := r.bind compEnd
def compK (vs : List Nat) (g : FG) (ft fe : FE) (ρ : Env) (r : Res (List D)) : Res D := r.bind fun ds S1 => if ds.length < lim then compE (compL g ft fe (wipeE ρ vs) ds S1) else .bad
def cK3 (d : D) (r : Res (List D)) : Res (List D) := r.bind fun xs S3 => .ok (d :: xs) S3
def cK2 (g : FG) (ft fe : FE) (ρw : Env) (ds : List D) (r : Res D) : Res (List D) := r.noX.bind fun x S2 => cK3 x (compL g ft fe ρw ds S2)
def cK1 (g : FG) (ft fe : FE) (ρw : Env) (ds : List D) (ρ1 : Env) (r : Res D) : Res (List D) := r.noX.asB.bind fun k S1 => if k = true then cK2 g ft fe ρw ds (fe ρ1 S1) else compL g ft fe ρw ds S1
@[simp ↓] theorem ap_comp : fComp vs fi g ft fe ρ S = compK vs g ft fe ρ (fi ρ S) := rfl
@[simp] theorem compK_ok : compK vs g ft fe ρ (.ok ds S) = if ds.length < lim then compE (compL g ft fe (wipeE ρ vs) ds S) else .bad := rfl
@[simp] theorem compE_ok : compE (.ok ds S) = (match asPs ds with
  | some ps => .ok (.p (.list ps)) S
  | none => .bad) := rfl
@[simp ↓] theorem compL_nil : compL g ft fe ρ [] S = .ok [] S := rfl
@[simp ↓] theorem compL_cons : compL g ft fe ρ (d :: ds) S = (match g d ρ with
  | none => .bad
  | some ρ1 => cK1 g ft fe ρ ds ρ1 (ft ρ1 S)) := rfl
@[simp] theorem cK1_ok : cK1 g ft fe ρ ds ρ1 (.ok (.p (.bool b0)) S) = if b0 = true then cK2 g ft fe ρ ds (fe ρ1 S) else compL g ft fe ρ ds S := rfl
@[simp] theorem cK2_ok : cK2 g ft fe ρ ds (.ok d S) = cK3 d (compL g ft fe ρ ds S) := rfl
@[simp] theorem cK3_ok : cK3 d (.ok ds S) = .ok (d :: ds) S := rfl
@[simp] theorem wipe_0 : wipeE ρ [] = ρ := rfl
@[simp] theorem wipe_1 {v : Nat} : wipeE ρ (v :: vs) = (wipeE ρ vs).set v none := rfl
@[simp] theorem bools_nil : boolsOf [] = some [] := rfl
@[simp] theorem bools_cons : boolsOf (.bool b0 :: xs) = (boolsOf xs).map (b0 :: ·) := rfl
@[simp] theorem g_all : gAll [.p (.list xs)] S = (match boolsOf xs with
  | some bs => .ok (.p (.bool (bs.all id))) S
  | none => .bad) := rfl
@[simp] theorem g_any : gAny [.p (.list xs)] S = (match boolsOf xs with
  | some bs => .ok (.p (.bool (bs.any id))) S
  | none => .bad) := rfl
def tryK (ns : List Str) (cl : List FCl) (o : Fl) : Fl := match o with
  | .exc n as ρ1 S1 => if n ∈ ns then clsF n as ρ1 S1 cl else .bad
  | o => o
@[simp ↓] theorem ap_try : fTry ns f cl ρ S = tryK ns cl (f ρ S) := rfl
@[simp] theorem tryK_nx : tryK ns cl (.nx ρ S) = .nx ρ S := rfl
@[simp] theorem tryK_rt : tryK ns cl (.rt d S) = .rt d S := rfl
@[simp] theorem tryK_exc : tryK ns cl (.exc n xs ρ S) = if n ∈ ns then clsF n xs ρ S cl else .bad := rfl
@[simp] theorem isT_int {i : Int} : isT .int (.int i) = true := rfl
@[simp] theorem isT_bool {i : Int} : isT .bool (.int i) = false := rfl
@[simp] theorem isT_tup : isT .tuple (.tuple xs) = true := rfl
@[simp] theorem isT_lst : isT .list (.list xs) = true := rfl
@[simp] theorem isT_str : isT .str (.str n) = true := rfl
@[simp] theorem g_tup_t : gTuple [.p (.tuple xs)] S = .ok (.p (.tuple xs)) S := rfl
@[simp] theorem g_tup_l : gTuple [.p (.list xs)] S = .ok (.p (.tuple xs)) S := rfl
@[simp] theorem g_sl {l h : Option Int} : gSl (.p (.tuple xs)) l h S = .ok (.p (.tuple (cutD xs l h))) S := rfl
theorem g_in {d : PyData} {neg : Bool} (h : (flatD d && xs.all flatD) = true) : gIn neg (.p d) (.p (.tuple xs)) S = .ok (.p (.bool (if neg = true then !inF d xs else inF d xs))) S := if_pos h
end
end Tw
namespace Tw
open PySem PySem.Spec PyProof.Rows L2N
open L2 hiding St XE Takes CX takes_of passes_call MkP PMk ps_raise mk_of ps_try_as ps_try_many pmk_own passAt

/-! ### worlds: what of the text they need -/
abbrev wA (K : PySem.W.Frag) : Addr := He.ga K "World"
abbrev sP (K : PySem.W.Frag) (f : Str) : Addr := He.ma K (wA K) f
def sI (K : PySem.W.Frag) (f : Str) : Nat := (PySem.W.slotIn K (sP K f) (wA K)).getD 0
def fcSlot (f : Str) : PySem.W.Frag → Bool := fun K => decide (PySem.W.findIn K (.ref (wA K)) f = some (some (.ref (sP K f)))) && (decide (PySem.W.specialIn K (.ref (sP K f)) "__get__" = some (some (.builtin "member_descriptor.__get__"))) &&
  (decide (PySem.W.takesIn K (.ref (sP K f)) = some true) && (decide (PySem.W.typeIn K (.ref (sP K f)) = some (.type "member_descriptor")) && (decide (PySem.W.slotIn K (sP K f) (wA K) = some (sI K f)) && decide (sI K f < 1000)))))
theorem fcSlot_ok {f : Str} {K : PySem.W.Frag} (h : fcSlot f K = true) : SlX.Slot1 K (wA K) f (sP K f) (sI K f) := by
  obtain ⟨h1, h⟩ := He.ba h
  obtain ⟨h2, h⟩ := He.ba h
  obtain ⟨h3, h⟩ := He.ba h
  obtain ⟨h4, h⟩ := He.ba h
  obtain ⟨h5, h6⟩ := He.ba h
  exact ⟨of_decide_eq_true h1, of_decide_eq_true h2, of_decide_eq_true h3, of_decide_eq_true h4, of_decide_eq_true h5, of_decide_eq_true h6⟩
def fcWld : PySem.W.Frag → Bool := fun K => PySem.W.plainGet K (wA K) Str.empty && (PySem.W.isClsIn K (wA K) && (PySem.W.plainOver K (wA K) && (decide (PySem.W.findIn K (.ref (wA K)) "__setattr__" = some (some (.builtin "object.__setattr__"))) && (decide (sI K "rows" ≠ sI K "first") &&
  (fcSlot "rows" K && fcSlot "first" K)))))
structure WF (K : PySem.W.Frag) : Prop where
  sc : SlX.SCls K (wA K)
  r : SlX.Slot1 K (wA K) "rows" (sP K "rows") (sI K "rows")
  f : SlX.Slot1 K (wA K) "first" (sP K "first") (sI K "first")
  ne : sI K "rows" ≠ sI K "first"
theorem fcWld_ok {K : PySem.W.Frag} (h : fcWld K = true) : WF K := by
  obtain ⟨h1, h⟩ := He.ba h
  obtain ⟨h2, h⟩ := He.ba h
  obtain ⟨h3, h⟩ := He.ba h
  obtain ⟨h4, h⟩ := He.ba h
  obtain ⟨h5, h⟩ := He.ba h
  obtain ⟨h6, h7⟩ := He.ba h
  exact ⟨⟨h1, h2, h3, of_decide_eq_true h4⟩, fcSlot_ok h6, fcSlot_ok h7, of_decide_eq_true h5⟩
theorem wat_slt {K : PySem.W.Frag} {F H : Hp} {a : Addr} {d l : PyData} (e : Same F H) (h : WAt K F a d l) : ∃ dx vs, SlX.Slt H a (wA K) dx vs := by
  obtain ⟨dx, vs, _, _, _, _, _, _, h1, h2, _⟩ := h
  exact ⟨dx, vs, .inr ⟨e _ _ h1, e _ _ h2⟩⟩
/-! ### what a world holds -/
def fFld (b : Bool) (fa : FE) : FE := fun ρ S => (fa ρ S).bind fun d S1 => match d with
  | .wld r l => .ok (.p (if b = true then l else r)) S1
  | _ => .bad
section
variable {X : Cx} {c : Cw} {e : Expr} {pos : Pos} {fa : FE}
theorem fe_rows (w : WF X.K) (he : PE X e (tE c fa)) (hK : c.K = X.K := by rfl) (hb : attributeBase e "rows" X.env (eval e X.env) = eval e X.env := by rfl) : PE X (.Attribute e "rows" pos) (tE c (fFld false fa)) :=
  pe_imp (SlX.pe_sl he hb) fun σ H Q ⟨G, F, io, S, ρ, gd, re, q⟩ => ⟨G, F, io, S, ρ, gd, re, Aft.step q fun d1 S1 v1 F1 i1 H1 e1 g1 r1 q1 => by
    cases d1 with
    | wld r l =>
      obtain ⟨a, rfl, dx, vs, vr, vf, pr, ir, pf, jf, h1, h2, h3, h4, h5, h6, h7, h8⟩ := r1
      rw [hK] at h1 h3
      exact ⟨a, _, dx, pr, vs, ir, vr, rfl, .inr ⟨g1.ex _ _ h1, g1.ex _ _ h2⟩, w.sc, h3, h5, hereP (v := vr) q1 g1 h7⟩
    | _ => exact q1.elim⟩
theorem fe_first (w : WF X.K) (he : PE X e (tE c fa)) (hK : c.K = X.K := by rfl) (hb : attributeBase e "first" X.env (eval e X.env) = eval e X.env := by rfl) : PE X (.Attribute e "first" pos) (tE c (fFld true fa)) :=
  pe_imp (SlX.pe_sl he hb) fun σ H Q ⟨G, F, io, S, ρ, gd, re, q⟩ => ⟨G, F, io, S, ρ, gd, re, Aft.step q fun d1 S1 v1 F1 i1 H1 e1 g1 r1 q1 => by
    cases d1 with
    | wld r l =>
      obtain ⟨a, rfl, dx, vs, vr, vf, pr, ir, pf, jf, h1, h2, h3, h4, h5, h6, h7, h8⟩ := r1
      rw [hK] at h1 h4
      exact ⟨a, _, dx, pf, vs, jf, vf, rfl, .inr ⟨g1.ex _ _ h1, g1.ex _ _ h2⟩, w.sc, h4, h6, hereP (v := vf) q1 g1 h8⟩
    | _ => exact q1.elim⟩
end
/-! ### what is made -/
section
variable {K : PySem.W.Frag} {G F : Hp} {io : List Addr} {H : Hp} {S : Sto} {o : HO}
theorem Good.fix (g : Good K G F io H S) {k : Nat} {a : Addr} (h1 : io[k]? = some a) (hf : F a = none) {x : O} (hx : OAt K (upd F a o) io (upd H a o) a x) : Good K G (upd F a o) io (upd H a o) (S.set k x) ∧ Ext F io (upd F a o) io := by
  have e : Ext F io (upd F a o) io := ⟨upd_one hf, [], by simp⟩
  refine ⟨⟨upd_both g.ex, fun b u q => (upd_ne (g.gne q h1)).trans (g.gx b u q), fun b u q => ?_, g.nd, by simp [g.len], fun j b o' e1 e2 => ?_, g.gt⟩, e⟩
  · exact ⟨(upd_ne (g.gne q h1)).trans (g.gf b u q).1, (g.gf b u q).2⟩
  · by_cases hj : j = k
    · subst hj
      obtain rfl : a = b := Option.some.inj (h1.symm.trans e1)
      have hk : j < S.length := by simpa using (List.getElem?_eq_some_iff.mp e2).1
      rw [List.getElem?_set_self hk] at e2
      obtain rfl : x = o' := Option.some.inj e2
      exact hx
    · rw [List.getElem?_set_ne (Ne.symm hj)] at e2
      have hb : b ≠ a := fun z => by
        subst z
        obtain ⟨l1, z1⟩ := List.getElem?_eq_some_iff.mp e1
        obtain ⟨l2, z2⟩ := List.getElem?_eq_some_iff.mp h1
        exact hj ((List.getElem_inj g.nd).mp (z1.trans z2.symm))
      exact oat_step e (fun z => (upd_ne hb).trans z) (fun _ => upd_ne hb) (g.ob j b o' e1 e2)
theorem Good.new2 (g : Good K G F io H S) {x dx : Addr} (hx : H x = none) (hd : H dx = none) (ne : dx ≠ x) :
    Good K G F (io ++ [dx, x]) (upd (upd H dx (.own x)) x (.ins (wA K) dx [])) (S ++ [.odx (S.length + 1), .raw S.length]) ∧ Ext F io F (io ++ [dx, x]) := by
  have fx := g.out hx
  have fd := g.out hd
  have e : Ext F io F (io ++ [dx, x]) := ⟨Same.refl F, [dx, x], rfl⟩
  have nin : ∀ {p : Addr}, H p = none → p ∉ io := fun hp hm => by
    obtain ⟨u, hu⟩ := g.mem hm
    exact ne_of_none hu hp rfl
  have up : ∀ {b : Addr} {u : HO}, H b = some u → upd (upd H dx (.own x)) x (.ins (wA K) dx []) b = some u := fun {b u} q => by
    rw [upd_ne (ne_of_none q hx), upd_ne (ne_of_none q hd)]
    exact q
  refine ⟨⟨fun b u q => up (g.ex _ _ q), fun b u q => up (g.gx _ _ q), fun b u q => ⟨(g.gf b u q).1, fun hm => ?_⟩, ?_, by simp [g.len], fun k a o' h1 h2 => ?_, g.gt⟩, e⟩
  · rcases List.mem_append.mp hm with hm | hm
    · exact (g.gf b u q).2 hm
    · rcases List.mem_cons.mp hm with rfl | hm
      · exact g.gnew hd q rfl
      · exact g.gnew hx q (List.mem_singleton.mp hm)
  · refine List.nodup_append.mpr ⟨g.nd, by simp [ne], fun p hp q hq z => ?_⟩
    subst z
    rcases List.mem_cons.mp hq with rfl | hq
    · exact nin hd hp
    · exact nin hx ((List.mem_singleton.mp hq) ▸ hp)
  · by_cases hk : k < io.length
    · rw [List.getElem?_append_left hk] at h1
      rw [List.getElem?_append_left (by rw [← g.len]; exact hk)] at h2
      have hm := List.mem_of_getElem? h1
      have a1 : a ≠ x := fun z => nin hx (z ▸ hm)
      have a2 : a ≠ dx := fun z => nin hd (z ▸ hm)
      exact oat_step e (fun z => z) (fun _ => by rw [upd_ne a1, upd_ne a2]) (g.ob k a o' h1 h2)
    · obtain ⟨j, rfl⟩ : ∃ j, k = io.length + j := ⟨k - io.length, by omega⟩
      rw [List.getElem?_append_right (Nat.le_add_right _ _), Nat.add_sub_cancel_left] at h1
      rw [g.len, List.getElem?_append_right (Nat.le_add_right _ _), Nat.add_sub_cancel_left] at h2
      have i0 : (io ++ [dx, x])[S.length]? = some dx := by rw [← g.len, List.getElem?_append_right (Nat.le_refl _), Nat.sub_self]; rfl
      have i1 : (io ++ [dx, x])[S.length + 1]? = some x := by rw [← g.len, List.getElem?_append_right (Nat.le_succ _), show io.length.succ - io.length = 1 by omega]; rfl
      match j, h1, h2 with
      | 0, h1, h2 =>
        obtain rfl : dx = a := Option.some.inj h1
        obtain rfl := Option.some.inj h2
        exact ⟨fd, x, i1, by rw [upd_ne ne, upd_same]⟩
      | 1, h1, h2 =>
        obtain rfl : x = a := Option.some.inj h1
        obtain rfl := Option.some.inj h2
        exact ⟨fx, dx, i0, upd_same⟩
      | j + 2, h1, h2 => simp at h1
end
/-- C(..), its __init__ read by m -/
def mkW (m : List D → Sto → Res D) (ds : List D) (S : Sto) : Res D := match m (.own (S.length + 1) :: ds) (S ++ [.odx (S.length + 1), .raw S.length]) with
  | .ok (.p .none) S' => (match S'[S.length + 1]? with
    | some (.fz (.wld d l)) => if (S'.take S.length).all (O.low S.length) = true ∧ S.length ≤ S'.length then .ok (.wld d l) (S'.take S.length) else .bad
    | _ => .bad)
  | .exc n as S' => if (S'.take S.length).all (O.low S.length) = true then .exc n as (S'.take S.length) else .bad
  | _ => .bad
/-- self.rows = .., self.first = .. , both of variables: the world stands -/
def fNewW (i r f : Nat) : FS := fun ρ S => match ρ[i]?, ρ[r]?, ρ[f]? with
  | some (some (.own k)), some (some (.p d)), some (some (.p l)) => match S[k]? with
    | some (.raw j) => (match S[j]? with
      | some (.odx _) => .nx ρ ((S.set j .gone).set k (.fz (.wld d l)))
      | _ => .bad)
    | _ => .bad
  | _, _, _ => .bad
section
variable {X : Cx} {c : Cw}
theorem fs_newW {i r f : Nat} {s1 s2 : Stmt} (w : WF X.K) (h1 : PS X s1 (SlX.sSl X.K (tVar i) (tVar r) "rows")) (h2 : PS X s2 (SlX.sSl X.K (tVar i) (tVar f) "first")) (hK : c.K = X.K := by rfl) : PSs X [s1, s2] (tS c (fNewW i r f)) :=
  pss_imp (pss_cons h1 (pss_one h2)) fun N σ H ⟨G, F, io, S, ρ, gd, re, q⟩ => by
    unfold fNewW at q
    split at q
    · rename_i k d l q1 q2 q3
      split at q
      · rename_i j hj
        split at q
        · rename_i k' hk'
          obtain ⟨vs, z1, a, rfl, ia⟩ := re.2 i _ q1
          obtain ⟨vr, z2, rr⟩ := re.2 r _ q2
          obtain ⟨vf, z3, rf⟩ := re.2 f _ q3
          obtain ⟨a', ia', fa', dx, ix, ha⟩ := gd.at_ hj
          obtain rfl : a = a' := Option.some.inj (ia.symm.trans ia')
          obtain ⟨dx', ix', fd, b, ib, hd⟩ := gd.at_ hk'
          obtain rfl : dx = dx' := Option.some.inj (ix.symm.trans ix')
          have ne : dx ≠ a := fun z => by
            rw [z, ha] at hd
            cases Option.some.inj hd
          have s1 : SlX.Slt H a (wA X.K) dx [] := .inl ⟨by rw [← hK]; exact ha, rfl⟩
          refine ⟨vr, z2, .ref a, z1, a, _, dx, _, [], _, rfl, s1, w.sc, w.r, vf, z3, .ref a, z1, a, _, dx, _, _, _, rfl, SlX.slH_slt ne, w.sc, w.f, ?_⟩
          rw [SlX.slH_twice ne]
          generalize hvs : SlX.putS (sI X.K "first") vf (SlX.putS (sI X.K "rows") vr []) = ws
          have wr : ws[sI X.K "rows"]? = some (some vr) := by
            rw [← hvs]
            exact (SlX.putS_ne w.ne).mpr (SlX.putS_get _ _ _)
          have wf : ws[sI X.K "first"]? = some (some vf) := by
            rw [← hvs]
            exact SlX.putS_get _ _ _
          unfold SlX.slH
          obtain ⟨g1, e1⟩ := gd.fix (o := .xd []) (x := .gone) ix fd ⟨_, upd_same⟩
          have fa1 : upd F dx (.xd []) a = none := by
            rw [upd_ne (Ne.symm ne)]
            exact fa'
          obtain ⟨g2, e2⟩ := g1.fix (o := SlX.SlO a (wA X.K) dx ws) (x := .fz (.wld d l)) ia fa1 (by
            refine ⟨⟨_, upd_same⟩, a, rfl, dx, ws, vr, vf, _, _, _, _, by rw [hK]; exact upd_same, by rw [upd_ne ne, upd_same], by rw [hK]; exact w.r, by rw [hK]; exact w.f, wr, wf, ?_, ?_⟩
            · exact dp_mono (e1.same.trans (upd_one fa1)) _ _ rr
            · exact dp_mono (e1.same.trans (upd_one fa1)) _ _ rf)
          exact q σ _ _ _ (e1.trans e2) g2 (renv_mono (e1.trans e2) re)
        · exact q.elim
      · exact q.elim
    · exact q.elim
end
end Tw
namespace Tw
open PySem PySem.Spec PyProof.Rows L2N
open L2 hiding St XE Takes CX takes_of passes_call MkP PMk ps_raise mk_of ps_try_as ps_try_many pmk_own passAt

/-! ### defs of the class -/
section
variable (P : Program) (w : World) (K : PySem.W.Frag) (mg : Str → Option Value) (base : Heap) (x : Str) (k n : Nat) (m : List D → Sto → Res D)
structure CalI : Prop where
  ex : ∃ f fd ps, FnOk P w K mg base (L2N.CX P w) k f fd ps (spF K m n) ∧ Mk K (wA K) f ∧ Binds K fd ps []
structure CalM : Prop where
  ex : ∃ f fd ps, FnOk P w K mg base (L2N.CX P w) k f fd ps (spF K m n) ∧ Meth K (wA K) x f ∧ Binds K fd ps []
structure CalP : Prop where
  ex : ∃ p g fd ps, FnOk P w K mg base (L2N.CX P w) k g fd ps (spF K m n) ∧ PropOf K (wA K) x p g ∧ Binds K fd ps []
end
theorem adr_fn {K : PySem.W.Frag} {x m : Str} (h : PySem.W.isFn K (.ref (He.ma K (He.ga K x) m)) = true) : adr K (x, some m) = He.ma K (He.ga K x) m := by
  have no : PySem.W.recIn K (He.ma K (He.ga K x) m) "property" = none := by
    have ty : PySem.W.typeIn K (.ref (He.ma K (He.ga K x) m)) = some (.type "function") := beq_iff_eq.mp h
    unfold PySem.W.recIn
    split
    · rename_i n d vs sl ho
      have e : PySem.W.typeIn K (.ref (He.ma K (He.ga K x) m)) = some (.type n) := by
        unfold PySem.W.typeIn
        simp [ho]
      rw [e] at ty
      have en : n = "function" := Value.type.inj (Option.some.inj ty)
      subst en
      rfl
    · rfl
  unfold adr
  simp only [no]
def fcProp (x f : Str) : PySem.W.Frag → Bool := fun K => decide (PySem.W.findIn K (.ref (He.ga K x)) f = some (some (.ref (He.ma K (He.ga K x) f)))) && (decide (PySem.W.specialIn K (.ref (He.ma K (He.ga K x) f)) "__get__" = some (some (.builtin "property.__get__"))) &&
  (decide (PySem.W.takesIn K (.ref (He.ma K (He.ga K x) f)) = some true) && (match PySem.W.recIn K (He.ma K (He.ga K x) f) "property" with
    | some (.ref _ :: _) => true
    | _ => false)))
theorem fcProp_ok {x f : Str} {K : PySem.W.Frag} (h : fcProp x f K = true) : PropOf K (He.ga K x) f (He.ma K (He.ga K x) f) (adr K (x, some f)) := by
  obtain ⟨h1, h⟩ := He.ba h
  obtain ⟨h2, h⟩ := He.ba h
  obtain ⟨h3, h4⟩ := He.ba h
  refine ⟨of_decide_eq_true h1, of_decide_eq_true h2, of_decide_eq_true h3, ?_⟩
  unfold adr
  cases hr : PySem.W.recIn K (He.ma K (He.ga K x) f) "property" with
  | none => rw [hr] at h4; cases h4
  | some l =>
    rw [hr] at h4
    cases l with
    | nil => cases h4
    | cons v r => cases v with
      | ref a => exact ⟨r, by simp [hr]⟩
      | _ => cases h4
/-! ### what reads a property -/
def sp0 (sp : Sp) : Sp := fun vs H Q _ => sp vs H Q fun _ _ _ => False
section
variable {X : Cx} {k : Nat} {C p g a dx : Addr} {f : Str} {fd : FuncData} {ps : List Str} {sp : Sp} {sl0 : List (Option V)} {E : XK}
theorem get_prp {pins : List (Addr × Obj)} {σ : L2.St} {H : Hp} {s : Shared} {Q : VK} {b : Bool} {E' : Value → Shared → Prop} (I : Inv X pins σ H s) (hs : SlX.Slt H a C dx sl0) (cl : SlX.SCls X.K C) (pr : PropOf X.K C f p g)
    (fn : FnOk X.prog X.w X.K X.mg X.base L2.CX0 k g fd ps sp) (rm : Room (k + 1) X.A) (bd : Binds X.K fd ps []) (q : sp [.ref a] H Q E) :
    wpAny (model X.prog X.w) X.A (getAttr (.ref a) f b) (EP X pins σ Q) E' s := by
  obtain ⟨_, od, _, inst, _⟩ := SlX.slt_inst I hs
  obtain ⟨_, hr⟩ := pr.rec_
  have T := I.tok (s.toks + 1)
  have n1 : [Value.ref a].length = ps.length := (fn.len _ _ _ _ q : [V.ref a].length = ps.length)
  have bs := bd { s with toks := s.toks + 1 } [.ref a] T.kIn (by rw [List.append_nil]; exact n1)
  rw [List.append_nil] at bs
  have pg := PySem.W.plainGet_of (cl.get f)
  have body := fn.run X.A.in1 X.stack { s with toks := s.toks + 1 } H ⟨[.ref a], []⟩ [.ref a] [.ref a] Q E rm.in1 T.env0.in1 bs (.cons rfl .nil) q
  refine PySem.W.get_bind I.kIn inst pg.1 (PySem.W.findObj_data cl.ic pr.at_ pr.get pr.tak) pg.2 (wpAny_call (PySem.W.prop_get T.kIn hr (codeAny_mono body ?_)))
  rintro (er | fl) s' z
  · exact False.elim z
  · cases fl with
    | ret u =>
      obtain ⟨v, H', J, rv, zq⟩ := T.after z
      show wpAny _ _ (handedOut u) _ _ _
      rw [PySem.W.handedOut_of (handed_of rv)]
      exact wpAny_pure ⟨v, H', J, rv, zq⟩
    | _ => exact False.elim z
end
/-- a property of a world -/
def fPrp (m : List D → Sto → Res D) (fa : FE) : FE := fun ρ S => (fa ρ S).bind fun d S1 => match d with
  | .wld r l => (match m [.wld r l] S1 with
    | .ok d S2 => .ok d S2
    | _ => .bad)
  | _ => .bad
section
variable {X : Cx} {c : Cw} {e : Expr} {es : List Expr} {pos p0 apos : Pos} {fa : FE} {fr : FA} {f x : Str} {k n : Nat} {m : List D → Sto → Res D}
theorem fe_prp (h : CalP X.prog X.w X.K X.mg X.base f k 1 m) (w : WF X.K) (hr : Room (k + 1) X.A) (he : PE X e (tE c fa)) (hK : c.K = X.K := by rfl) (hb : attributeBase e f X.env (eval e X.env) = eval e X.env := by rfl) : PE X (.Attribute e f pos) (tE c (fPrp m fa)) := by
  obtain ⟨p, g, fd, ps, fn, pr, bd⟩ := h.ex
  have fn0 : FnOk X.prog X.w X.K X.mg X.base L2.CX0 k g fd ps (sp0 (spF X.K m 1)) := fn_calm fn fun vs H Q E h => h
  refine ⟨fun pins s σ H Q I ⟨G, F, io, S, ρ, gd, re, q⟩ => attr_of hb (thn (he.run pins s σ H (fun v H1 => ∃ a dx sl, v = .ref a ∧ SlX.Slt H1 a (wA X.K) dx sl ∧ sp0 (spF X.K m 1) [.ref a] H1 Q fun _ _ _ => False) I ⟨G, F, io, S, ρ, gd, re, ?_⟩) ?_)⟩
  · refine Aft.step q fun d1 S1 v1 F1 i1 H1 e1 g1 r1 q1 => ?_
    cases d1 with
    | wld r l =>
      obtain ⟨a, rfl, wa⟩ := r1
      obtain ⟨dx, sl, hs⟩ := wat_slt g1.ex wa
      rw [hK] at hs
      refine ⟨a, dx, sl, rfl, hs, rfl, G, F1, i1, S1, [.wld r l], by rw [← hK]; exact g1, .cons ⟨a, rfl, by rw [← hK]; exact wa⟩ .nil, ?_⟩
      have q1 : Aft c G F1 i1 σ (rp c) Q (match m [.wld r l] S1 with
        | .ok d S2 => .ok d S2
        | _ => .bad) := q1
      cases hm : m [.wld r l] S1 with
      | ok d S2 =>
        rw [hm] at q1
        intro v F' io' H' e' g' r'
        exact q1 v F' io' H' e' (by rw [hK]; exact g') (by rw [show rp c = fun F io v d => Rp c.K F io v d from rfl, hK]; exact r')
      | exc n as S2 => rw [hm] at q1; exact q1.elim
      | bad => rw [hm] at q1; exact q1.elim
    | _ => exact q1.elim
  · rintro u s1 ⟨v, H1, I1, rv, a, dx, sl, rfl, hs, q2⟩
    obtain rfl : u = Value.ref a := rv
    exact get_prp I1 hs w.sc pr fn0 hr bd q2
end
end Tw
namespace Tw
open PySem PySem.Spec PyProof.Rows L2N
open L2 hiding St XE Takes CX takes_of passes_call MkP PMk ps_raise mk_of ps_try_as ps_try_many pmk_own passAt

/-- a call of a def of the class -/
def fMth (m : List D → Sto → Res D) (fa : FE) (fr : FA) : FE := fun ρ S => (fa ρ S).bind fun d S1 => match d with
  | .wld r l => (fr ρ S1).bind fun ds S2 => m (.wld r l :: ds) S2
  | _ => .bad
/-! ### a world is made -/
section
variable {X : Cx} {k : Nat} {C f : Addr} {fd : FuncData} {ps : List Str} {sp : Sp} {E : XK}
theorem run_mk {pins : List (Addr × Obj)} {σ : L2.St} {H : Hp} {s : Shared} {Q : VK} {us : List Value} {vs : List V} (M : Mk X.K C f) (fn : FnOk X.prog X.w X.K X.mg X.base (L2N.CX X.prog X.w) k f fd ps sp) (rm : Room (k + 1) X.A) (bd : Binds X.K fd ps [])
    (out : PassesAt (L2N.CX X.prog X.w) X σ E) (I : Inv X pins σ H s) (r : Vals vs us)
    (q : ∀ x dx, H x = none → H dx = none → dx ≠ x → sp (.ref x :: vs) (upd (upd H dx (.own x)) x (.ins C dx [])) (fun v H2 => v = .non ∧ Q (.ref x) H2) E) :
    wpAny (model X.prog X.w) X.A (call (.ref C) us) (EP X pins σ Q) X.xe s := by
  have at_ := q (s.heap.objs.size + 1) s.heap.objs.size (I.hok.fresh (Nat.le_succ _)) (I.hok.fresh (Nat.le_refl _)) (Nat.ne_of_lt (Nat.lt_succ_self _))
  have J := Inv.made (C := C) I
  have rs : Vals (V.ref (s.heap.objs.size + 1) :: vs) (Value.ref (s.heap.objs.size + 1) :: us) := .cons rfl r
  have n1 : (Value.ref (s.heap.objs.size + 1) :: us).length = ps.length := rs.length.symm.trans (fn.len _ _ _ _ at_)
  have bs := bd _ (Value.ref (s.heap.objs.size + 1) :: us) J.kIn (by rw [List.append_nil]; exact n1)
  rw [List.append_nil] at bs
  have body := fn.run _ X.stack _ _ ⟨Value.ref (s.heap.objs.size + 1) :: us, []⟩ _ _ _ E (rm.make C us []) (J.env0.make C us []) bs rs at_
  refine wpAny_call (make_map (f := f) I.kIn M.makes M.init (beq_iff_eq.mp M.fn) (codeAny_mono body ?_))
  rintro (er | fl) s' z
  · exact out pins _ _ er s' J z
  · cases fl with
    | ret u =>
      obtain ⟨v, H', J2, rv, ev, zq⟩ := J.after z
      rw [ev] at rv
      exact ⟨rv, ⟨V.ref (s.heap.objs.size + 1), H', J2, rfl, zq⟩⟩
    | _ => exact False.elim z
end
section
variable {X : Cx} {c : Cw} {e o : Expr} {es : List Expr} {pos p0 apos : Pos} {fa : FE} {fr : FA} {f x : Str} {k n : Nat} {m : List D → Sto → Res D}
theorem aft_mk {G F : Hp} {io : List Addr} {H : Hp} {σ : L2.St} {S : Sto} {Q : VK} {x dx : Addr} {vs : List V} {ds : List D} (g : Good c.K G F io H S) (r : RpA c.K F io vs ds) (q : Aft c G F io σ (rp c) Q (mkW m ds S)) (hx : H x = none) (hd : H dx = none) (ne : dx ≠ x) (hl : ds.length = n) :
    spF c.K m (n + 1) (.ref x :: vs) (upd (upd H dx (.own x)) x (.ins (wA c.K) dx [])) (fun v H2 => v = .non ∧ Q (.ref x) H2) (WE c.W σ) := by
  obtain ⟨g2, e2⟩ := g.new2 hx hd ne
  refine ⟨by rw [List.length_cons, paired_len r, hl], G, F, io ++ [dx, x], _, .own (S.length + 1) :: ds, g2, .cons ⟨x, rfl, ?_⟩ (rpa_mono e2 r), ?_⟩
  · rw [← g.len, List.getElem?_append_right (Nat.le_succ _), show io.length.succ - io.length = 1 by omega]
    rfl
  have back : ∀ {F' : Hp} {io' : List Addr} {H' : Hp} {S' : Sto}, Ext F (io ++ [dx, x]) F' io' → Good c.K G F' io' H' S' → (S'.take S.length).all (O.low S.length) = true → Good c.K G F' io H' (S'.take S.length) ∧ Ext F io F' io := fun {F' io' H' S'} e' g' hlow => by
    obtain ⟨t, ht⟩ := e'.more
    have hio : io'.take S.length = io := by
      rw [ht, ← g.len, List.append_assoc, List.take_left]
    have g3 := g'.trim hlow
    rw [hio] at g3
    exact ⟨g3, e'.same, [], by simp⟩
  unfold mkW at q
  cases hm : m (.own (S.length + 1) :: ds) (S ++ [.odx (S.length + 1), .raw S.length]) with
  | bad => rw [hm] at q; exact q.elim
  | exc nm as S' =>
    rw [hm] at q
    have q : Aft c G F io σ (rp c) Q (if (S'.take S.length).all (O.low S.length) = true then .exc nm as (S'.take S.length) else .bad) := q
    by_cases hlow : (S'.take S.length).all (O.low S.length) = true
    · rw [if_pos hlow] at q
      intro cls dd F' io' H' e' g' x'
      obtain ⟨g3, e3⟩ := back e' g' hlow
      exact q cls dd F' io H' e3 g3 x'
    · rw [if_neg hlow] at q
      exact q.elim
  | ok d S' =>
    rw [hm] at q
    intro v F' io' H' e' g' r'
    split at q
    · rename_i S0 h0
      obtain ⟨rfl, rfl⟩ := Res.ok.inj h0
      cases r'
      refine ⟨rfl, ?_⟩
      split at q
      · rename_i d l hS
        by_cases hc : (S'.take S.length).all (O.low S.length) = true ∧ S.length ≤ S'.length
        · rw [if_pos hc] at q
          obtain ⟨g3, e3⟩ := back e' g' hc.1
          obtain ⟨a, ha, oa⟩ := g'.at_ hS
          have hx2 : io'[S.length + 1]? = some x := by
            obtain ⟨t, ht⟩ := e'.more
            rw [ht, ← g.len, List.append_assoc, List.getElem?_append_right (Nat.le_succ _), show io.length.succ - io.length = 1 by omega]
            rfl
          obtain rfl : x = a := Option.some.inj (hx2.symm.trans ha)
          exact q (.ref x) F' io H' e3 g3 oa.2
        · rw [if_neg hc] at q
          exact q.elim
      · exact q.elim
    · rename_i h0
      cases h0
    · exact q.elim
theorem fe_mk (h : CalI X.prog X.w X.K X.mg X.base k (n + 1) m) (hm : X.mg "World" = some (.ref (wA X.K))) (hr : Room (k + 1) X.A) (tk : Takes X c.W) (ha : PA X (e :: es) (tA c fr)) (hl : ∀ ρ S ds S', fr ρ S = .ok ds S' → ds.length = (e :: es).length)
    (hn : (e :: es).length = n := by rfl) (hK : c.K = X.K := by rfl) (hg : Gl X "World" := by rfl)
    (he : starEach (e :: es) X.env = (false, eval e X.env) :: starEach es X.env := by rfl) (hpl : (backTo pos (starEach es X.env)).any (·.1) = false := by rfl) : PE X (.Call (.Name "World" p0) (e :: es) [] pos) (tE c (fCall (mkW m) fr)) := by
  obtain ⟨f, fd, ps, fn, M, bd⟩ := h.ex
  refine ⟨fun pins s σ H Q I ⟨G, F, io, S, ρ, gd, re, q⟩ => wpAny_Call_Name_kw (ld_glob I hg hm (PySem.W.callWith_K (h₀ := X.base) I.ok.mod.kin M.kp (thn (ha.run pos pins s σ H (fun vs H1 => ∀ x dx, H1 x = none → H1 dx = none → dx ≠ x → spF X.K m (n + 1) (.ref x :: vs) (upd (upd H1 dx (.own x)) x (.ins (wA X.K) dx [])) (fun v H2 => v = .non ∧ Q (.ref x) H2) (WE c.W σ)) I ⟨G, F, io, S, ρ, gd, re, ?_⟩) ?_) he hpl) (by decide))⟩
  · unfold fCall at q
    cases hf : fr ρ S with
    | bad => rw [hf] at q; exact q.elim
    | exc nm as S1 => rw [hf] at q; exact q
    | ok ds S1 =>
      rw [hf] at q
      intro vs F1 i1 H1 e1 g1 r1 x dx hx hd ne
      rw [← hK]
      exact aft_mk g1 r1 (Aft.ext (r := mkW m ds S1) q e1) hx hd ne ((hl ρ S ds S1 hf).trans hn)
  · rintro us s1 ⟨vs, H1, I1, r, q2⟩
    exact ⟨I1.kIn, run_mk M fn hr bd (passAt tk σ) I1 r q2⟩
/-! ### what a world does -/
theorem fe_mth {pl : Sem Bool} (h : CalM X.prog X.w X.K X.mg X.base x k (n + 1) m) (w : WF X.K) (hr : Room k X.A) (tk : Takes X c.W) (ho : PE X o (tE c fa)) (ha : PA X (e :: es) (tA c fr)) (hl : ∀ ρ S ds S', fr ρ S = .ok ds S' → ds.length = (e :: es).length)
    (hn : (e :: es).length = n := by rfl) (hK : c.K = X.K := by rfl) (hst : starEach (e :: es) X.env = (false, eval e X.env) :: starEach es X.env := by rfl) (hpl : (backTo pos (starEach es X.env)).any (·.1) = false := by rfl)
    (ht : eval (.Call (.Attribute o x apos) (e :: es) [] pos) X.env = (do
      let ov ← eval o X.env
      standAt apos.atName
      let (f, first) ← holding [ov] (getMethod ov x pl)
      callWith pos f first (backTo pos (starEach (e :: es) X.env)) (backToKw pos (keywordEach [] X.env))) := by rfl) :
    PE X (.Call (.Attribute o x apos) (e :: es) [] pos) (tE c (fMth m fa fr)) := by
  obtain ⟨f, fd, ps, fn, M, bd⟩ := h.ex
  refine ⟨fun pins s σ H Q I ⟨G, F, io, S, ρ, gd, re, q⟩ => PySem.W.methodCall_KW (pl := pl) (thn (ho.run pins s σ H (fun v H1 => ∃ a dx sl, v = .ref a ∧ SlX.Slt H1 a (wA X.K) dx sl ∧ tA c fr σ H1 fun ws H2 => spF X.K m (n + 1) (.ref a :: ws) H2 Q (WE c.W σ)) I ⟨G, F, io, S, ρ, gd, re, ?_⟩) ?_) ht⟩
  · refine Aft.step q fun d1 S1 v1 F1 i1 H1 e1 g1 r1 q1 => ?_
    cases d1 with
    | wld r l =>
      obtain ⟨a, rfl, wa⟩ := r1
      obtain ⟨dx, sl, hs⟩ := wat_slt g1.ex wa
      rw [hK] at hs
      refine ⟨a, dx, sl, rfl, hs, G, F1, i1, S1, ρ, g1, renv_mono e1 re, ?_⟩
      have q1 : Aft c G F1 i1 σ (rp c) Q ((fr ρ S1).bind fun ds S2 => m (.wld r l :: ds) S2) := q1
      cases hf : fr ρ S1 with
      | bad => rw [hf] at q1; exact q1.elim
      | exc nm as S2 => rw [hf] at q1; exact q1
      | ok ds S2 =>
        rw [hf] at q1
        intro ws F2 i2 H2 e2 g2 r2
        have q2 := Aft.ext (r := m (.wld r l :: ds) S2) q1 e2
        rw [← hK]
        refine ⟨by rw [List.length_cons, paired_len r2, hl ρ S1 ds S2 hf, hn], G, F2, i2, S2, .wld r l :: ds, g2, .cons ⟨a, rfl, wat_mono e2.same wa⟩ r2, ?_⟩
        cases hm : m (.wld r l :: ds) S2 with
        | ok d S3 => rw [hm] at q2; exact q2
        | exc nm as S3 => rw [hm] at q2; exact q2
        | bad => rw [hm] at q2; exact q2
    | _ => exact q1.elim
  · rintro u s1 ⟨v, H1, I1, rv, a, dx, sl, rfl, hs, q2⟩
    obtain rfl : u = Value.ref a := rv
    refine SlX.getmethsl_ok I1 hs w.sc M (PySem.W.callWith_K (first := [.ref a]) (h₀ := X.base) I1.ok.mod.kin M.kp (thn (ha.run pos pins s1 σ H1 _ I1 q2) ?_) hst hpl)
    rintro us s2 ⟨ws, H2, I2, r, q3⟩
    exact ⟨I2.kIn, run_fnS (us := .ref a :: us) (vs := .ref a :: ws) (E := WE c.W) fn hr bd (passAt tk σ) I2 (.cons rfl r) q3⟩
end
end Tw
namespace Tw
open PySem PySem.Spec PyProof.Rows L2N
open L2 hiding St XE Takes CX takes_of passes_call MkP PMk ps_raise mk_of ps_try_as ps_try_many pmk_own passAt

/-! ### isinstance of worlds -/
theorem cls_at {K : PySem.W.Frag} {C : Addr} (h : PySem.W.isClsIn K C = true) : ∃ oc od cd sl, K.lookup C = some ⟨oc, od, .cls cd, sl⟩ := by
  have h1 : (PySem.W.clsIn K C).isSome = true := h
  unfold PySem.W.clsIn at h1
  cases hl : K.lookup C with
  | none => rw [hl] at h1; cases h1
  | some o =>
    obtain ⟨oc, od, dt, sl⟩ := o
    cases dt with
    | cls cd => exact ⟨oc, od, cd, sl, rfl⟩
    | _ => rw [hl] at h1; cases h1
def fcKin : PySem.W.Frag → Bool := fun K => decide (PySem.W.findIn K (.ref (wA K)) "__class__" = some (some (.builtin "object.__class__"))) && (decide (PySem.W.specialIn K (.builtin "object.__class__") "__get__" = some (some (.builtin "getset_descriptor.__get__"))) &&
  (decide (PySem.W.takesIn K (.builtin "object.__class__") = some true) && decide (PySem.W.mroIn K (wA K) (.type "object") = some true)))
def fcKn (t : String) : PySem.W.Frag → Bool := fun K => decide (PySem.W.kitOne K (.type t) (.ref (wA K)) = some false) && PySem.W.notFirst K (wA K) (.type t)
def fcIsW : PySem.W.Frag → Bool := fun K => fcWld K && (fcKin K && (decide (PySem.W.kitOne K (.ref (wA K)) (.ref (wA K)) = some true) && ["NoneType", "bool", "int", "str", "list", "tuple", "dict"].all fun t => fcKn t K))
structure WK (K : PySem.W.Frag) : Prop where
  w : WF K
  kin : fcKin K = true
  one : PySem.W.kitOne K (.ref (wA K)) (.ref (wA K)) = some true
  no : ∀ t ∈ ["NoneType", "bool", "int", "str", "list", "tuple", "dict"], PySem.W.kitOne K (.type t) (.ref (wA K)) = some false ∧ PySem.W.notFirst K (wA K) (.type t) = true
theorem fcIsW_ok {K : PySem.W.Frag} (h : fcIsW K = true) : WK K := by
  obtain ⟨h1, h⟩ := He.ba h
  obtain ⟨h2, h⟩ := He.ba h
  obtain ⟨h3, h4⟩ := He.ba h
  refine ⟨fcWld_ok h1, h2, of_decide_eq_true h3, fun t ht => ?_⟩
  obtain ⟨z1, z2⟩ := He.ba (List.all_eq_true.mp h4 t ht)
  exact ⟨of_decide_eq_true z1, z2⟩
theorem kit_sl {K : PySem.W.Frag} {x : Addr} {ox od : Obj} (k : WK K) : PySem.W.KitX K (.ref x) (.ref (wA K)) (fun h => PySem.W.InstAt h x ox (wA K) (some od)) := by
  obtain ⟨oc, cdd, cd, sl, hl⟩ := cls_at k.w.sc.ic
  obtain ⟨k1, z⟩ := He.ba k.kin
  obtain ⟨k2, z⟩ := He.ba z
  obtain ⟨k3, k4⟩ := He.ba z
  have hg := PySem.W.plainGet_of (k.w.sc.get "__class__")
  refine ⟨fun M h _ i => i.type, fun M h X _ A Q E s kk q => ?_, fun h tp dd its n tsl X htp => ?_, fun {prog w A E Q s} X i q => ?_⟩
  · unfold isType loadHead
    exact wpAny_bind (wpAny_loadPart (kk _ _ (X _ _ hl)) (wpAny_pure q))
  · refine Bool.eq_false_iff.mpr fun e => ?_
    have et : wA K = tp := Value.ref.inj (beq_iff_eq.mp e)
    have two := (X _ _ hl).symm.trans (et ▸ htp)
    cases two
  · have fo := PySem.W.findObj_data (od := od) k.w.sc.ic (of_decide_eq_true k1) (of_decide_eq_true k2) (of_decide_eq_true k3)
    exact PySem.W.kin_open X i hg.1 (PySem.W.kin_hooked (s := { s with toks := s.toks + 1 }) X i fo hg.2 (wpAny_call (PySem.W.class_get (s := { s with toks := s.toks + 1 }) (ox := ox) (od := some od) X i (of_decide_eq_true k4) (PySem.W.handed_on rfl q))))
/-- isinstance(x, World) -/
def rIsW (K : PySem.W.Frag) : List V → Hp → VK → Prop := fun xs H Q => ∃ a dx sl c, xs = [.ref a, c] ∧ SlX.Slt H a (wA K) dx sl ∧ ClsV c (.ref (wA K)) ∧ Q (.bl true) H
theorem call_isW {X : Cx} (k : WK X.K) : CallR X (.builtin "isinstance") (rIsW X.K) := by
  rintro pins s σ H xs us Q I r ⟨a, dx, sl, c, rfl, hs, hc, q⟩
  obtain ⟨u1, u2, rfl, r1, r2⟩ := vals2 r
  obtain rfl : u1 = Value.ref a := r1
  have e2 := hc.eq r2
  subst e2
  obtain ⟨_, od, _, inst, _⟩ := SlX.slt_inst I hs
  exact PySem.W.kia_one (kit_sl k) I.kIn inst k.one (fun z => nomatch z) fun tk => ⟨.bl true, H, I.tok tk, rfl, q⟩
theorem tyN_in (d : PyData) : tyN d ∈ ["NoneType", "bool", "int", "str", "list", "tuple", "dict"] := by
  cases d <;> simp [tyN]
def fIsW (fa : FE) : FE := fun ρ S => (fa ρ S).bind fun d S1 => match d with
  | .p _ => .ok (.p (.bool false)) S1
  | .wld _ _ => .ok (.p (.bool true)) S1
  | _ => .bad
section
variable {X : Cx} {c : Cw} {e e2 a b : Expr} {pos p0 : Pos} {fa fb : FE} {k : Nat} {m : List D → Sto → Res D}
theorem fe_isW (wk : WK X.K) (h : ∀ {t : TE}, PE X a t → PE X e (tCB (fun xs H Q => rIsi X.K xs H Q ∨ rIsW X.K xs H Q) (fun σ H R => t σ H fun v H1 => R [v, .ref (wA X.K)] H1))) (ha : PE X a (tE c fa)) (hK : c.K = X.K := by rfl) : PE X e (tE c (fIsW fa)) :=
  pe_imp (h ha) fun σ H Q ⟨G, F, io, S, ρ, gd, re, q⟩ => ⟨G, F, io, S, ρ, gd, re, Aft.step q fun d1 S1 v1 F1 i1 H1 e1 g1 r1 q1 => by
    cases d1 with
    | p d =>
      refine .inl ⟨v1, .ref (wA X.K), .type (tyN d), .ref (wA X.K), false, rfl, .own _, ?_, (wk.no _ (tyN_in d)).1, hereP (v := .bl false) q1 g1 (Dq.bl _)⟩
      rw [← hK]
      exact tyx_of g1.ex r1
    | wld r l =>
      obtain ⟨a, rfl, wa⟩ := r1
      obtain ⟨dx, sl, hs⟩ := wat_slt g1.ex wa
      exact .inr ⟨a, dx, sl, .ref (wA X.K), rfl, by rw [← hK]; exact hs, .own _, hereP (v := .bl true) q1 g1 (Dq.bl _)⟩
    | _ => exact q1.elim⟩
end
/-! ### == of worlds -/
structure CalE (P : Program) (w : World) (K : PySem.W.Frag) (mg : Str → Option Value) (base : Heap) (k : Nat) (m : List D → Sto → Res D) : Prop where
  ex : ∃ f fd ps, FnOk P w K mg base (L2N.CX P w) k f fd ps (spF K m 2) ∧ PySem.W.findIn K (.ref (wA K)) "__eq__" = some (some (.ref f)) ∧ PySem.W.isFn K (.ref f) = true ∧ Binds K fd ps []
def gEqW (m : List D → Sto → Res D) : D → D → Sto → Res D := fun dx dy S => match dx, dy with
  | .wld r l, .p d => (match m [.wld r l, .p d] S with
    | .ok (.p (.bool b)) S' => .ok (.p (.bool b)) S'
    | _ => .bad)
  | .wld r l, .wld r' l' => (match m [.wld r l, .wld r' l'] S with
    | .ok (.p (.bool b)) S' => .ok (.p (.bool b)) S'
    | _ => .bad)
  | .p a, .p b => gEq (.p a) (.p b) S
  | _, _ => .bad
def rEqW (K : PySem.W.Frag) (m : List D → Sto → Res D) : R2 := fun x y H Q => ∃ a dx sl T, x = .ref a ∧ SlX.Slt H a (wA K) dx sl ∧ (TyX K H y T ∨ ∃ b dy sl', y = .ref b ∧ SlX.Slt H b (wA K) dy sl' ∧ T = .ref (wA K)) ∧ PySem.W.notFirst K (wA K) T = true ∧
  sp0 (spF K m 2) [x, y] H (fun v H' => ∃ b, v = .bl b ∧ Q v H') fun _ _ _ => False
section
variable {X : Cx} {c : Cw} {k : Nat} {m : List D → Sto → Res D}
theorem op_eqW (wk : WK X.K) (h : CalE X.prog X.w X.K X.mg X.base k m) (hr : Room k X.A) : OpR X (compareOp .Eq) (rEqW X.K m) := by
  rintro pins s σ H x y v u Q I rx ry ⟨a, dx, sl, T, rfl, hs, hy, nf, q⟩
  obtain ⟨f, fd, ps, fn, hf, hfn, bd⟩ := h.ex
  have fn0 : FnOk X.prog X.w X.K X.mg X.base L2.CX0 k f fd ps (sp0 (spF X.K m 2)) := fn_calm fn fun vs H Q E h => h
  obtain rfl : v = Value.ref a := rx
  obtain ⟨_, od, _, inst, _⟩ := SlX.slt_inst I hs
  have ty : PySem.W.Looks (model X.prog X.w) s.heap (typeOf u) T := by
    rcases hy with ty | ⟨b, dy, sl', rfl, hs', rfl⟩
    · obtain ⟨P, Z, p, _⟩ := kit_of I ry ty
      exact Z.ty _ _ I.kIn p
    · obtain rfl : u = Value.ref b := ry
      obtain ⟨_, od', _, inst', _⟩ := SlX.slt_inst I hs'
      exact inst'.type
  obtain ⟨mm, fr⟩ := I.fr
  have n1 : [V.ref a, y].length = ps.length := fn0.len _ _ _ _ q
  have bs := bd s [.ref a, u] I.kIn (by rw [List.append_nil]; exact n1)
  rw [List.append_nil] at bs
  have body := fn0.run X.A X.stack s H ⟨[.ref a, u], []⟩ [.ref a, u] [.ref a, y] _ _ hr I.env0 bs (.cons rfl (.cons ry .nil)) q
  show wpAny (model X.prog X.w) X.A (richCompare .Eq (.ref a) u) (EP X pins σ Q) X.xe s
  refine PySem.W.cmp_K (op := .Eq) hr.units0 fr I.ok.mod.kin inst ty nf hf hfn (wpAny_call (codeAny_mono body ?_))
  rintro (er | fl) s' z
  · exact False.elim z
  · cases fl with
    | ret u' =>
      obtain ⟨v', H', J, rv, b, rfl, zq⟩ := I.after z
      obtain rfl : u' = Value.bool b := rv
      exact ⟨.bl b, H', J, rfl, zq⟩
    | _ => exact False.elim z
theorem bop_eqW (wk : WK c.K) : BOp c (fun x y H Q => rEqW c.K m x y H Q ∨ rEqD c.K x y H Q) (gEqW m) := fun G F io H S σ x y dx dy Q gd rx ry q => by
  have fin : ∀ {r l : PyData} {dy : D}, Rp c.K F io x (.wld r l) → Rp c.K F io y dy → Aft c G F io σ (rp c) Q (match m [.wld r l, dy] S with
      | .ok (.p (.bool b)) S' => .ok (.p (.bool b)) S'
      | _ => .bad) → sp0 (spF c.K m 2) [x, y] H (fun v H' => ∃ b, v = .bl b ∧ Q v H') fun _ _ _ => False := fun {r l dy} rx ry q => by
    refine ⟨rfl, G, F, io, S, [.wld r l, dy], gd, .cons rx (.cons ry .nil), ?_⟩
    cases hm : m [.wld r l, dy] S with
    | bad => rw [hm] at q; exact q.elim
    | exc nm as S' => rw [hm] at q; exact q.elim
    | ok d S' =>
      rw [hm] at q
      intro v F' io' H' e' g' r'
      cases d with
      | p d =>
        cases d with
        | bool b =>
          cases r'
          exact ⟨b, rfl, q (.bl b) F' io' H' e' g' (Dq.bl b)⟩
        | _ => exact q.elim
      | _ => exact q.elim
  cases dx with
  | wld r l =>
    obtain ⟨a, ea, wa⟩ := rx
    obtain ⟨dx, sl, hs⟩ := wat_slt gd.ex wa
    cases dy with
    | p d => exact .inl ⟨a, dx, sl, .type (tyN d), ea, hs, .inl (tyx_of gd.ex ry), (wk.no _ (tyN_in d)).2, fin (dy := .p d) ⟨a, ea, wa⟩ ry q⟩
    | wld r' l' =>
      have ry' := ry
      obtain ⟨b, eb, wb⟩ := ry
      obtain ⟨dy, sl', hs'⟩ := wat_slt gd.ex wb
      exact .inl ⟨a, dx, sl, .ref (wA c.K), ea, hs, .inr ⟨b, dy, sl', eb, hs', rfl⟩, by unfold PySem.W.notFirst; simp, fin (dy := .wld r' l') ⟨a, ea, wa⟩ ry' q⟩
    | _ => exact q.elim
  | p d =>
    cases dy with
    | p d' => exact .inr (bop_eq G F io H S σ x y (.p d) (.p d') Q gd rx ry q)
    | _ => exact q.elim
  | _ => cases dy <;> exact q.elim
end
end Tw
namespace Tw
open PySem PySem.Spec PyProof.Rows L2N
open L2 hiding St XE Takes CX takes_of passes_call MkP PMk ps_raise mk_of ps_try_as ps_try_many pmk_own passAt

/-! ### enumerate(tuple) -/
open Sem (wp) in
theorem meets_en1 {v : Value} {ob : Obj} {Pre : Heap → Prop} (start : PySem.Begins v ob Pre) :
    Meets (Builtin.«enumerate.__new__» ⟨[.type "enumerate", v], []⟩) (fun _ R s => Pre s.heap ∧
      R (.ok (.ret (.ref (Heap.push s.heap ob).objs.size))) { s with heap := (Heap.push s.heap ob).push { cls := .type "enumerate", data := .fields #[.none, .bool false, .ref s.heap.objs.size, rawInt 0, .none, .none] } }) :=
  .of_wp fun pg wd Ar Rr st hyp => by
    obtain ⟨hp, g, d, tk, os⟩ := st
    obtain ⟨pre, fin⟩ := hyp
    have hsub := sub_enumerate
    have begin_ : ∀ {A' : Around} {E : Value → Shared → Prop} {Q : Value → Shared → Prop}, Q (.ref hp.objs.size) ⟨hp.push ob, g, d, tk, os⟩ → wpAny (model pg wd) A' (pyIter v) Q E ⟨hp, g, d, tk, os⟩ := fun q => start.iter pg wd _ _ ⟨hp, g, d, tk, os⟩ _ pre q
    wp_walk using begin_
    refine wpAny_stack_any fun stk => wpAny_pure ?_
    split
    · rename_i c _ _ _ _ _
      cases (c == Value.type "enumerate") <;> (wp_walk using begin_; exact ⟨_, rfl, fin⟩)
    · wp_walk using begin_
      exact ⟨_, rfl, fin⟩
section
variable {prog : Program} {w : World} {A : Around} {E : Value → Shared → Prop} {s : Shared}
theorem call_en1 {t : Addr} {its : Array Value} {Q : Value → Shared → Prop} (ht : s.heap.IsTuple t its)
    (h : ∀ h', IsEnum h' (s.heap.objs.size + 1) s.heap.objs.size 0 .none → h'.IsTupleIter s.heap.objs.size t 0 → (∀ b o, s.heap.get? b = some o → h'.get? b = some o) → Q (.ref (s.heap.objs.size + 1)) { s with heap := h' }) :
    wpAny (model prog w) A (call (.type "enumerate") [.ref t]) Q E s := by
  refine callType_new F.called_enumerate (by decide) (F.typeCall_enumerate_1 _) (F.newCall_enumerate_1 _) (fun obj => F.args_object_init_2 obj _) F.entry_enumerate_new
    (meets_en1 (PySem.begins_tuple t its)) ⟨ht, ?_⟩
  have hz : (Heap.push s.heap { cls := .type "tuple_iterator", data := .fields #[.ref t, .int 0 0] }).objs.size = s.heap.objs.size + 1 := Heap.size_push ..
  show _ ∧ _
  rw [hz]
  have he : IsEnum ((Heap.push s.heap { cls := .type "tuple_iterator", data := .fields #[.ref t, .int 0 0] }).push { cls := .type "enumerate", data := .fields #[.none, .bool false, .ref s.heap.objs.size, rawInt 0, .none, .none] }) (s.heap.objs.size + 1) s.heap.objs.size 0 .none := by
    have two := Heap.get?_push_size (Heap.push s.heap { cls := .type "tuple_iterator", data := .fields #[.ref t, .int 0 0] }) (o := { cls := .type "enumerate", data := .fields #[.none, .bool false, .ref s.heap.objs.size, rawInt 0, .none, .none] }) rfl
    rw [hz] at two
    exact two
  exact ⟨⟨_, he, rfl⟩, h _ he ⟨_, Heap.get?_push_of_some _ (Heap.get?_push_size _ rfl), rfl, rfl⟩ fun b o x => Heap.get?_push_of_some _ (Heap.get?_push_of_some _ x)⟩
end
section
variable {prog : Program} {w : World} {A : Around} {E : Value → Shared → Prop} {s : Shared}
theorem en_end {e it t : Addr} {i : Int} {j : Nat} {its : Array Value} {old : Value} {Q : Option Value → Shared → Prop} (calm : A.in1.handled = none) (he : IsEnum s.heap e it i old) (hit : s.heap.IsTupleIter it t j) (pl : s.heap.IsTuple t its) (gone : its[j]? = none)
    (q : ∀ h', Heap.ExtBut it s.heap h' → Q none { s with heap := h' }) : wpAny (model prog w) A (pyNext (.ref e)) Q E s := by
  have isE : s.TypeIs (.ref e) "enumerate" := ⟨_, he, rfl⟩
  unfold pyNext
  refine wpAny_bind (wpAny_attempt (wpAny_callSpecial?_slot (name := Str.ofString "__next__") isE F.slot_enumerate_next (wpAny_call_entry F.slot_enumerate_next isE F.entry_enumerate_next ?_ (F.args_enumerate_next_1 _))))
  show wpAny _ _ (field (.ref e) 2 >>= _) _ _ s
  refine wpAny_bind (wpAny_field he rfl (x := .ref it) rfl (wpAny_bind (PySem.wpAny_nextOf_tuple_end calm hit pl gone fun h' x he' hx' => ?_)))
  obtain ⟨o, ho, hc⟩ := hx'
  exact wpAny_bind (wpAny_isInstance (T := "StopIteration") (b := true) ⟨o, ho, hc⟩ isSubtype_stop (wpAny_pure (q _ he')))
end
/-- the tuple at a, each item in a new pair -/
def ItE (K : PySem.W.Frag) (a : Addr) : It where
  go := fun i H => ∃ (xs : List V) (x : V), SqT K H a xs ∧ xs[i]? = some x
  yld := fun i H v H' => ∃ p x, v = .ref p ∧ H p = none ∧ H' = upd H p (.tup [.int (i : Nat), x]) ∧ ∀ xs, SqT K H a xs → xs[i]? = some x
  stop := fun i H => ∃ xs : List V, SqT K H a xs ∧ xs.length ≤ i
theorem turn_en {P : Program} {w : World} {K : PySem.W.Frag} {elts : List Expr} {kk : Nat} {tpos : Pos} (a e it : Addr) :
    Turn P w K (.Tuple elts kk tpos) (ItE K a) [e, it] e (fun i h => (∃ old, IsEnum h e it ((i : Nat) : Int) old) ∧ h.IsTupleIter it a i ∧ e ≠ it ∧ a ≠ it ∧ e ≠ a) where
  mem := List.mem_cons_self
  obj := fun i h st b hb => by
    obtain ⟨⟨old, he⟩, ⟨o, ho, hc, hd⟩, _⟩ := st
    rcases List.mem_cons.mp hb with rfl | hb
    · exact ⟨_, he, fun v q => nomatch q⟩
    · obtain rfl := List.mem_singleton.mp hb
      exact ⟨o, ho, fun v q => by rw [hd] at q; cases q⟩
  keep := fun i h h' st k => by
    obtain ⟨⟨old, he⟩, hi, ne⟩ := st
    exact ⟨⟨old, k e List.mem_cons_self _ he⟩, hi.at fun o q => k it (List.mem_cons_of_mem _ List.mem_cons_self) o q, ne⟩
  item := by
    rintro X rfl rfl rfl hc i pins s σ H E I hf ⟨⟨old, he⟩, hit, ne, nt, nea⟩ ⟨xs, x, hq, hx⟩
    obtain ⟨its, rv, pl, hz⟩ := I.tuple hq
    obtain ⟨u, hu, ru⟩ := rv.get hx
    have hel : e < s.heap.objs.size := Heap.lt_size he
    have hil : it < s.heap.objs.size := by
      obtain ⟨_, q, _⟩ := hit
      exact Heap.lt_size q
    have hlt : i < its.toArray.size := by
      have l1 := (List.getElem?_eq_some_iff.mp hu).1
      simpa using l1
    have hef : e ∉ [it, a] := fun m => by
      rcases List.mem_cons.mp m with m | m
      · exact ne m
      · exact nea (List.mem_singleton.mp m)
    refine wpAny_pyNext_enum_itemD (Draws.tuple (A := X.A.in1) (I.ok.hd hc) it a nt its.toArray) he ⟨hit, pl⟩ hlt ne hef fun y h' tk hy ho st' hT hsz hk => ?_
    obtain rfl : u = y := by
      have z : its.toArray[i]? = some u := by simpa using hu
      exact Option.some.inj (z.symm.trans hy)
    refine ⟨_, rfl, wpAny_letOwnedTupleGo_enum (s := { s with heap := h', toks := tk + 1 }) ho fun h'' he' sb => ?_⟩
    have hT2 : h''.get? s.heap.objs.size = some { cls := .type "tuple", data := .seq #[.int i tk, u] } := (sb.2 _ (Nat.ne_of_gt hel)).trans hT
    have new : ObjOk X.prog X.w (upd H s.heap.objs.size (.tup [.int (i : Nat), x])) h'' s.heap.objs.size (.tup [.int (i : Nat), x]) :=
      ⟨by show 2 ≤ sizeLine; decide, [.int i tk, u], .cons ⟨_, rfl⟩ (.cons ru .nil), ⟨_, hT2, rfl, _, rfl⟩⟩
    have I1 : Inv X pins σ (upd H s.heap.objs.size (.tup [.int (i : Nat), x])) { s with heap := h'', toks := tk + 1 } :=
      I.turnedNew (ch := [e, it]) (fun b ob hb q => (sb.2 b fun z => hb (by simp [z])).trans (hk b ob (fun z => hb (by simp [z])) (fun z => hb (by simp [z])) q)) hf (Nat.le_refl _) new
    refine ⟨.ref s.heap.objs.size, _, I1, rfl, ⟨_, x, rfl, I.hok.fresh (Nat.le_refl _), rfl, fun ys hy => by rw [I.tuple_inj hy hq]; exact hx⟩, ⟨⟨u, ?_⟩, st'.1.at fun o q => (sb.2 it (Ne.symm ne)).trans q, ne, nt, nea⟩, fun b hb => ?_⟩
    · have e1 : ((i + 1 : Nat) : Int) = (i : Int) + 1 := by omega
      rw [e1]
      exact he'
    · have hb' : b < s.heap.objs.size := by
        rcases List.mem_cons.mp hb with rfl | hb
        · exact hel
        · exact (List.mem_singleton.mp hb) ▸ hil
      rw [upd_ne (Nat.ne_of_lt hb')]
      exact (hf b hb).1
  done := by
    rintro X rfl rfl rfl hc i pins s σ H E I hf ⟨⟨old, he⟩, hit, ne, nt, nea⟩ ⟨xs, hq, hx⟩
    obtain ⟨its, rv, pl, hz⟩ := I.tuple hq
    obtain ⟨f0, f1, f2, f3, f4, f5⟩ := hf it (List.mem_cons_of_mem _ List.mem_cons_self)
    have out : its.toArray[i]? = none := by
      have l1 := rv.length
      simp
      omega
    exact en_end (I.ok.hd hc) he hit pl out fun h' eb => ⟨rfl, I.turned (t' := s.toks) (fun b o hb q => eb b o hb q) f0 f1 f3 f4 f5⟩
  self := fun A i s Q E st h => by
    obtain ⟨⟨_, he⟩, _⟩ := st
    exact wpAny_pyIter_enum he h
def iEnT (K : PySem.W.Frag) (ta : TA) : TI := fun σ H R => ta σ H fun vs H1 => ∃ a xs, vs = [.ref a] ∧ SqT K H1 a xs ∧ R (ItE K a) H1
theorem pi_enT {X : Cx} {e : Expr} {ta : TA} {p pos tpos : Pos} {elts : List Expr} {kk : Nat} (hg : Gl X "enumerate") (hm : X.mg "enumerate" = none) (ha : PA X [e] ta) (hs : starEach [e] X.env = [(false, eval e X.env)] := by rfl) :
    PI X (.Tuple elts kk tpos) (.Call (.Name "enumerate" p) [e] [] pos) (iEnT X.K ta) := by
  refine ⟨fun pins s σ H R I h => Call_ (ld_blt I hg hm boot_enumerate (PyProof.Rows.callWith_type1 (thn (ha.run pos pins s σ H _ I h) ?_) hs rfl))⟩
  rintro us s1 ⟨vs, H1, I1, r1, a, xs, rfl, hq, q⟩
  cases r1 with
  | cons r rr =>
    cases rr
    cases r
    obtain ⟨its, rv, pl, hz⟩ := I1.tuple hq
    have al : a < s1.heap.objs.size := by
      obtain ⟨_, z, _⟩ := pl
      exact Heap.lt_size z
    refine call_en1 pl fun h' he hit hk => wpAny_pyIter_enum he ?_
    have I2 : Inv X pins σ H1 { s1 with heap := h' } := I1.kept (t' := s1.toks) hk
    refine ⟨s1.heap.objs.size + 1, [s1.heap.objs.size + 1, s1.heap.objs.size], _, _, H1, rfl, I2, turn_en a (s1.heap.objs.size + 1) s1.heap.objs.size, ⟨⟨.none, he⟩, hit, Nat.succ_ne_self _, Nat.ne_of_lt al, Nat.ne_of_gt (Nat.lt_succ_of_lt al)⟩, fun b hb => ?_, q⟩
    have hle : s1.heap.objs.size ≤ b := by
      rcases List.mem_cons.mp hb with rfl | hb
      · exact Nat.le_succ _
      · exact Nat.le_of_eq (List.mem_singleton.mp hb).symm
    exact I1.fpOk hle (I1.hok.fresh hle)
def iEnB (K : PySem.W.Frag) (ta : TA) : TI := fun σ H R => ta σ H fun vs H1 => ∃ a xs, vs = [.ref a] ∧ ((SqT K H1 a xs ∧ R (ItE K a) H1) ∨ (SqL K H1 a xs ∧ R (Ite K a) H1))
theorem pi_enB {X : Cx} {e : Expr} {ta : TA} {p pos tpos : Pos} {elts : List Expr} {kk : Nat} (hg : Gl X "enumerate") (hm : X.mg "enumerate" = none) (ha : PA X [e] ta) (hs : starEach [e] X.env = [(false, eval e X.env)] := by rfl) :
    PI X (.Tuple elts kk tpos) (.Call (.Name "enumerate" p) [e] [] pos) (iEnB X.K ta) := by
  refine ⟨fun pins s σ H R I h => Call_ (ld_blt I hg hm boot_enumerate (PyProof.Rows.callWith_type1 (thn (ha.run pos pins s σ H _ I h) ?_) hs rfl))⟩
  rintro us s1 ⟨vs, H1, I1, r1, a, xs, rfl, ⟨hq, q⟩ | ⟨hq, q⟩⟩
  · cases r1 with
    | cons r rr =>
      cases rr
      cases r
      obtain ⟨its, rv, pl, hz⟩ := I1.tuple hq
      have al : a < s1.heap.objs.size := by
        obtain ⟨_, z, _⟩ := pl
        exact Heap.lt_size z
      refine call_en1 pl fun h' he hit hk => wpAny_pyIter_enum he ?_
      have I2 : Inv X pins σ H1 { s1 with heap := h' } := I1.kept (t' := s1.toks) hk
      refine ⟨s1.heap.objs.size + 1, [s1.heap.objs.size + 1, s1.heap.objs.size], _, _, H1, rfl, I2, turn_en a (s1.heap.objs.size + 1) s1.heap.objs.size, ⟨⟨.none, he⟩, hit, Nat.succ_ne_self _, Nat.ne_of_lt al, Nat.ne_of_gt (Nat.lt_succ_of_lt al)⟩, fun b hb => ?_, q⟩
      have hle : s1.heap.objs.size ≤ b := by
        rcases List.mem_cons.mp hb with rfl | hb
        · exact Nat.le_succ _
        · exact Nat.le_of_eq (List.mem_singleton.mp hb).symm
      exact I1.fpOk hle (I1.hok.fresh hle)
  · cases r1 with
    | cons r rr =>
      cases rr
      cases r
      obtain ⟨its, rv, p', hz⟩ := I1.list hq
      refine call_enumerate_list p'.isList fun h' he hit hsz hk => wpAny_pyIter_enum he ?_
      have I2 : Inv X pins σ H1 { s1 with heap := h' } := I1.kept (t' := s1.toks) hk
      refine ⟨s1.heap.objs.size + 1, [s1.heap.objs.size + 1, s1.heap.objs.size], _, _, H1, rfl, I2, turn_enum a (s1.heap.objs.size + 1) s1.heap.objs.size, ⟨⟨.none, he⟩, hit, Nat.succ_ne_self _⟩, fun b hb => ?_, q⟩
      have hle : s1.heap.objs.size ≤ b := by
        rcases List.mem_cons.mp hb with rfl | hb
        · exact Nat.le_succ _
        · exact Nat.le_of_eq (List.mem_singleton.mp hb).symm
      exact I1.fpOk hle (I1.hok.fresh hle)
def enuL : Nat → List PyData → List D
  | _, [] => []
  | i, d :: ds => .p (.tuple [.int (i : Int), d]) :: enuL (i + 1) ds
theorem enuL_len : ∀ (i : Nat) (ds : List PyData), (enuL i ds).length = ds.length
  | _, [] => rfl
  | i, d :: ds => by rw [enuL, List.length_cons, List.length_cons, enuL_len]
theorem enuL_at : ∀ (i : Nat) (ds : List PyData) (j : Nat) (d : PyData), ds[j]? = some d → (enuL i ds)[j]? = some (.p (.tuple [.int ((i + j : Nat) : Int), d]))
  | i, [], j, d, h => by simp at h
  | i, e :: ds, 0, d, h => by
    obtain rfl : e = d := by simpa using h
    rfl
  | i, e :: ds, j + 1, d, h => by
    have z := enuL_at (i + 1) ds j d (by simpa using h)
    rw [enuL, List.getElem?_cons_succ, z, show i + 1 + j = i + (j + 1) by omega]
def fEnu (fa : FE) : FI := fun ρ S => (fa ρ S).bind fun d S1 => match d with
  | .p (.tuple ds) => .ok (enuL 0 ds) S1
  | .p (.list ds) => .ok (enuL 0 ds) S1
  | _ => .bad
theorem itd_enL {c : Cw} {F : Hp} {io : List Addr} {a : Addr} {vs : List V} {ds : List PyData} (hx : F a = some (.lst vs)) (ha : DqA c.K F vs ds) : ItD c F io (Ite c.K a) (enuL 0 ds) where
  go := fun i G H F1 io1 S1 hi e g => by
    rw [enuL_len] at hi
    obtain ⟨v, h1, h2⟩ := dpa_get _ _ i ds[i] ha (List.getElem?_eq_getElem hi)
    have sl : SqL c.K H a vs := SqL.of (g.ex _ _ (e.same _ _ hx))
    refine ⟨⟨vs, v, sl, h1⟩, ?_⟩
    rintro x H' ⟨p, y, rfl, hp, rfl, hy⟩
    have hv := hy vs sl
    rw [h1] at hv
    obtain rfl := Option.some.inj hv
    obtain ⟨g2, e2⟩ := g.new (o := .tup [.int (i : Nat), v]) hp
    refine ⟨_, e2, g2, _, enuL_at 0 ds i ds[i] (List.getElem?_eq_getElem hi), ?_⟩
    rw [Nat.zero_add]
    exact .tup (.inl upd_same) (.cons (.int _) (.cons (dp_mono (e.same.trans e2.same) _ _ h2) .nil))
  stop := fun i G H F1 io1 S1 hi e g => ⟨vs, SqL.of (g.ex _ _ (e.same _ _ hx)), by rw [dpa_len _ _ ha]; rw [enuL_len] at hi; exact hi⟩
theorem itd_en {c : Cw} {F : Hp} {io : List Addr} {a : Addr} {vs : List V} {ds : List PyData} (hx : SqT c.K F a vs) (ha : DqA c.K F vs ds) : ItD c F io (ItE c.K a) (enuL 0 ds) where
  go := fun i G H F1 io1 S1 hi e g => by
    rw [enuL_len] at hi
    obtain ⟨v, h1, h2⟩ := dpa_get _ _ i ds[i] ha (List.getElem?_eq_getElem hi)
    refine ⟨⟨vs, v, sq_t g.ex (sq_t e.same hx), h1⟩, ?_⟩
    rintro x H' ⟨p, y, rfl, hp, rfl, hy⟩
    have hv := hy vs (sq_t g.ex (sq_t e.same hx))
    rw [h1] at hv
    obtain rfl := Option.some.inj hv
    obtain ⟨g2, e2⟩ := g.new (o := .tup [.int (i : Nat), v]) hp
    refine ⟨_, e2, g2, _, enuL_at 0 ds i ds[i] (List.getElem?_eq_getElem hi), ?_⟩
    rw [Nat.zero_add]
    exact .tup (.inl upd_same) (.cons (.int _) (.cons (dp_mono (e.same.trans e2.same) _ _ h2) .nil))
  stop := fun i G H F1 io1 S1 hi e g => ⟨vs, sq_t g.ex (sq_t e.same hx), by rw [dpa_len _ _ ha]; rw [enuL_len] at hi; exact hi⟩
theorem fi_en {X : Cx} {c : Cw} {tg e : Expr} {fa : FE} {iter : Expr} (h : ∀ {te : TE}, PE X e te → PI X tg iter (iEnB X.K (tCons te tNil))) (he : PE X e (tE c fa)) (hK : c.K = X.K := by rfl) : PI X tg iter (tI c (fEnu fa)) :=
  pi_imp (h he) fun σ H R ⟨G, F, io, S, ρ, gd, re, q⟩ => ⟨G, F, io, S, ρ, gd, re, Aft.step q fun d S1 v F1 i1 H1 e1 g1 r1 q1 => by
    cases d with
    | p a =>
      cases a with
      | tuple ds =>
        cases r1 with
        | @tup a xs _ hx ha =>
          rw [← hK]
          exact ⟨a, xs, rfl, .inl ⟨sq_t g1.ex hx.sq, Aft.here q1 g1 (itd_en hx.sq ha)⟩⟩
      | list ds =>
        cases r1 with
        | @lst a xs _ hx ha =>
          rw [← hK]
          exact ⟨a, xs, rfl, .inr ⟨SqL.of (g1.ex _ _ hx), Aft.here q1 g1 (itd_enL hx ha)⟩⟩
      | _ => exact q1.elim
    | _ => exact q1.elim⟩
end Tw
namespace Tw
open PySem PySem.Spec PyProof.Rows L2N
open L2 hiding St XE Takes CX takes_of passes_call MkP PMk ps_raise mk_of ps_try_as ps_try_many pmk_own passAt

/-! ### errors with one field -/
def oexB (K : PySem.W.Frag) (C : Addr) : Bool := match K.lookup C with
  | some ⟨.type "type", _, .cls cd, sl⟩ => (match cd.mro, sl.toList with
    | .ref D :: above, [_, _, _, _, some (.builtin mk), _] => D == C && (mk == "ValueError.__new__" && (!cd.hasDel && (cd.hasDict && PySem.HandSPX.refsVE above)))
    | _, _ => false)
  | _ => false
theorem oexB_ok {K : PySem.W.Frag} {C : Addr} (h : oexB K C = true) : ∃ nm q N bs bm sn sub ab col dd k0 k1 k2 k3 k5, K.lookup C = some (excClassObj nm q C N bs bm true sn sub ab col dd k0 k1 k2 k3 k5 "ValueError.__new__") ∧ PySem.HandSPX.refsVE bm = true := by
  unfold oexB at h
  split at h
  · rename_i dd cd sl hl
    split at h
    · rename_i D above k0 k1 k2 k3 mk k5 hm hs
      obtain ⟨h1, h⟩ := He.ba h
      obtain ⟨h2, h⟩ := He.ba h
      obtain ⟨h3, h⟩ := He.ba h
      obtain ⟨h4, h5⟩ := He.ba h
      obtain rfl := beq_iff_eq.mp h1
      obtain rfl := beq_iff_eq.mp h2
      obtain ⟨nm, bs, mro, ns, qn, hd, sn, sub, ab, col, del⟩ := cd
      dsimp only at hm h3 h4
      subst hm h4
      obtain rfl : del = false := by simpa using h3
      obtain ⟨l⟩ := sl
      dsimp only at hs
      subst hs
      exact ⟨nm, qn, ns, bs, above, sn, sub, ab, col, dd, k0, k1, k2, k3, k5, hl, h5⟩
    · cases h
  · cases h
def fcOex (n f : Str) : PySem.W.Frag → Bool := fun K => oexB K (He.ga K n) && (decide (PySem.W.findIn K (.ref (He.ga K n)) "__setattr__" = some (some (.builtin "object.__setattr__"))) && (decide (PySem.W.subIn K (.ref (He.ga K n)) (.type "BaseException") = some true) &&
  (decide (PySem.W.typeIn K (.ref (He.ga K n)) = some (.type "type")) && (PySem.W.keepIn K (.ref (He.ga K n)) && (decide (PySem.W.findIn K (.ref (He.ga K n)) f = some none) && (decide (PySem.W.findIn K (.ref (He.ga K n)) "__init__" = some (some (.ref (He.ma K (He.ga K n) "__init__")))) &&
  decide (PySem.W.typeIn K (.ref (He.ma K (He.ga K n) "__init__")) = some (.type "function"))))))))
structure Oex (K : PySem.W.Frag) (n f : Str) : Prop where
  c : OexC K (He.ga K n)
  no : PySem.W.findIn K (.ref (He.ga K n)) f = some none
  ini : PySem.W.findIn K (.ref (He.ga K n)) "__init__" = some (some (.ref (He.ma K (He.ga K n) "__init__")))
  ty : PySem.W.typeIn K (.ref (He.ma K (He.ga K n) "__init__")) = some (.type "function")
theorem fcOex_ok {n f : Str} {K : PySem.W.Frag} (h : fcOex n f K = true) : Oex K n f := by
  obtain ⟨h1, h⟩ := He.ba h
  obtain ⟨h2, h⟩ := He.ba h
  obtain ⟨h3, h⟩ := He.ba h
  obtain ⟨h4, h⟩ := He.ba h
  obtain ⟨h5, h⟩ := He.ba h
  obtain ⟨h6, h⟩ := He.ba h
  obtain ⟨h7, h8⟩ := He.ba h
  exact ⟨⟨oexB_ok h1, of_decide_eq_true h2, of_decide_eq_true h3, of_decide_eq_true h4, h5⟩, of_decide_eq_true h6, of_decide_eq_true h7, of_decide_eq_true h8⟩
/-- what an __init__ that stores one field keeps -/
def spX1 (K : PySem.W.Frag) (n f : Str) : Sp := fun vs H Q _ => ∃ a y, vs = [.ref a, y] ∧ H a = some (exo a (He.ga K n) none) ∧ ∀ dx, H dx = none → dx ≠ a → Q .non (upd (upd H dx (exd dx [(f, y)])) a (exo a (He.ga K n) (some dx)))
structure CalX (P : Program) (w : World) (K : PySem.W.Frag) (mg : Str → Option Value) (base : Heap) (n f : Str) (k : Nat) : Prop where
  ex : ∃ fd ps, FnOk P w K mg base L2.CX0 k (He.ma K (He.ga K n) "__init__") fd ps (spX1 K n f) ∧ Binds K fd ps []
section
variable {K : PySem.W.Frag} {P : Program} {w : World} {mg : Str → Option Value} {base : Heap} {qual n f : Str} {params : Arguments} {body : List Stmt} {scope : Scope} {fa : Addr} {fd : FuncData} {N ps : List Str} {k : Nat}
theorem fn_x1 (Fn : FunD K "__init__" qual params body scope [] [] fa fd) (S : FnScope N ps scope) (hl : ps.length = 2) (O : Oex K n f)
    (hb : ∀ (cdv : Value) (A : Around) (outer : List PySem.Env) (s : Shared) (H : Hp) (E : XK), PSs (cxOf L2.CX0 P w K mg base N qual scope fa cdv A outer s H E) body (tOst K f (tVar 0) (tVar 1))) (hN : 2 ≤ N.length) :
    FnOk P w K mg base L2.CX0 (k + 1) fa fd ps (spX1 K n f) := by
  refine Fn.ok S (fun vs H Q E h => ?_) fun cdv A outer s H vs Q E hr h => ⟨_, hb cdv A outer s H E, ?_⟩
  · obtain ⟨a, y, rfl, _⟩ := h
    exact hl.symm
  · obtain ⟨a, y, rfl, ha, q⟩ := h
    have s0 : (L2.start N [V.ref a, y])[0]? = some (some (.ref a)) := by
      unfold L2.start
      rfl
    have s1 : (L2.start N [V.ref a, y])[1]? = some (some y) := by
      unfold L2.start
      rfl
    exact ⟨y, s1, .ref a, s0, a, He.ga K n, rfl, O.c, O.no, .inl ⟨ha, q⟩⟩
end
/-- an error is made whose __init__ stores fields -/
theorem pmk_fld {X : Cx} {cn : Str} {D iA : Addr} {lev : Nat} {fdat : FuncData} {pars : List Str} {pr : Sp} {a0 : Expr} {as0 : List Expr} {tas : TA} {q1 q2 : Pos}
    (O : OexC X.K D) (hi : PySem.W.findIn X.K (.ref D) "__init__" = some (some (.ref iA))) (ht : PySem.W.typeIn X.K (.ref iA) = some (.type "function"))
    (Fn : FnOk X.prog X.w X.K X.mg X.base L2.CX0 lev iA fdat pars pr) (rm : Room (lev + 1) X.A) (bd : Binds X.K fdat pars []) (gl : Gl X cn) (at_ : X.mg cn = some (.ref D)) (pa : PA X (a0 :: as0) tas)
    (nd : (cn == ("__debug__" : Str)) = false) (sta : starEach (a0 :: as0) X.env = (false, eval a0 X.env) :: starEach as0 X.env) (pla : (backTo q2 (starEach as0 X.env)).any (·.1) = false) :
    PMk X (.Call (.Name cn q1) (a0 :: as0) [] q2) (tMkO D pr [] tas) := by
  intro ps0 s0 τ H0 R0 J0 w0
  obtain ⟨_, _, _, _, above, _, _, _, _, _, _, _, _, _, _, clsAt, ve⟩ := O.cls
  refine wpAny_Call_Name_kw (ld_glob J0 gl at_ ?_ nd)
  refine PySem.W.callWith_K (h₀ := X.base) J0.ok.mod.kin O.kC (thn (pa.run q2 ps0 s0 τ H0 _ J0 w0) fun us z1 ⟨vs, H1, J1, rv1, few, go⟩ => ⟨J1.kIn, ?_⟩) sta pla
  show wpAny _ _ (call (.ref D) us) _ _ _
  obtain ⟨g0, gn, dr, tk, os⟩ := z1
  have step : g0.objs.size ≤ g0.objs.size + 1 := by omega
  have free : H1 (g0.objs.size + 1) = none := J1.hok.fresh step
  have go2 := go (g0.objs.size + 1) free
  rw [List.append_nil] at go2
  have keeps : ∀ b o, g0.get? b = some o → ((g0.push (PySem.W.kdv_tup us)).push (PySem.HandSPX.excO D g0.objs.size)).get? b = some o := by
    intro b o e
    exact Heap.get?_push_of_some _ (Heap.get?_push_of_some _ e)
  have there : ((g0.push (PySem.W.kdv_tup us)).push (PySem.HandSPX.excO D g0.objs.size)).get? (g0.objs.size + 1) = some (PySem.HandSPX.excO D g0.objs.size) := by heap_get
  have J2 : Inv X ps0 τ (upd H1 (g0.objs.size + 1) (exo (g0.objs.size + 1) D none)) ⟨(g0.push (PySem.W.kdv_tup us)).push (PySem.HandSPX.excO D g0.objs.size), gn, dr, tk, os⟩ :=
    J1.laid (t' := tk) (a := g0.objs.size + 1) (o := exo (g0.objs.size + 1) D none) (h' := (g0.push (PySem.W.kdv_tup us)).push (PySem.HandSPX.excO D g0.objs.size)) keeps step (exo_ok there)
  have rv2 : Vals (V.ref (g0.objs.size + 1) :: vs) (Value.ref (g0.objs.size + 1) :: us) := .cons rfl rv1
  have lens : (Value.ref (g0.objs.size + 1) :: us ++ []).length = pars.length := by
    rw [List.append_nil]
    exact (rv2.length).symm.trans (Fn.len _ _ _ _ go2)
  have bnd := bd _ (Value.ref (g0.objs.size + 1) :: us) J2.kIn lens
  rw [List.append_nil] at bnd
  have fits : us.length ≤ sizeLine := by
    have := Paired.length rv1
    rw [sizeLine_eq]
    omega
  refine wpAny_call (PySem.HandSPX.call_own PySem.F.excBase_ValueError (fun Y => PySem.HandSPX.refsVE_contains Y above ve) (J1.kIn _ _ clsAt) (PySem.W.looks_findIn J1.kIn hi) (fun self => PySem.W.bind_fn J1.kIn self ht) fits
    (codeAny_mono (Fn.run _ X.stack _ _ ⟨Value.ref (g0.objs.size + 1) :: us, []⟩ (Value.ref (g0.objs.size + 1) :: us) _ _ (fun _ _ _ => False) (rm.make D us []) (J2.env0.make D us []) bnd rv2 go2) fun r z2 done => ?_))
  cases r with
  | error er => exact False.elim done
  | ok fl =>
    cases fl with
    | ret u =>
      obtain ⟨v, H2, hos, bare, un, hok, rv, ev, d, fs, ea, ed, hd1, q2⟩ := done
      subst ev
      obtain ⟨h2, g2, d2, t2, os'⟩ := z2
      obtain ⟨t0, B, J3, kB, gone, obj, na⟩ := mk_end0 (d2 := d2) (t2 := t2) J1 step keeps un hok hos bare ea ed hd1
      refine ⟨rv, g0.objs.size + 1, _, _, ⟨B, g2, d2, t2, os'⟩, _, .ref D, some d, rfl, J3, kB, gone, obj, ⟨rfl, rfl, ?_⟩, rfl, rfl, na, rfl, bare, raises_own O.exC O.tyC, q2⟩
      intro vs2 e2
      cases e2
      rfl
    | next => exact False.elim done
    | brk => exact False.elim done
    | cont => exact False.elim done
def fRaise1 (n : Str) (fa : FE) : FS := fun ρ S => (fa ρ S).thn ρ fun d S1 => match d with
  | .p d => .exc n [d] ρ S1
  | _ => .bad
section
variable {X : Cx} {c : Cw} {n : Str} {e : Expr} {p p2 pos : Pos} {fa : FE} {k : Nat}
theorem fs_raise1 (h : CalX X.prog X.w X.K X.mg X.base n "index" k) (O : Oex X.K n "index") (hm : X.mg n = some (.ref (He.ga X.K n))) (hr : Room (k + 1) X.A) (hg : Gl X n) (he : PE X e (tE c fa))
    (ps : ∀ {tm : L2.St → Hp → XK → Prop}, PMk X (.Call (.Name n p) [e] [] p2) tm → PS X (.Raise (some (.Call (.Name n p) [e] [] p2)) none pos) (fun N σ H => tm σ H fun cls d H' => c.W cls d σ H')) (hK : c.K = X.K := by rfl)
    (hdb : (n == ("__debug__" : Str)) = false := by decide) (hs0 : starEach [e] X.env = (false, eval e X.env) :: starEach [] X.env := by rfl) (hpl : (backTo p2 (starEach [] X.env)).any (·.1) = false := by rfl) : PS X (.Raise (some (.Call (.Name n p) [e] [] p2)) none pos) (tS c (fRaise1 n fa)) := by
  obtain ⟨fd, pp, fn, bd⟩ := h.ex
  refine ps_imp (ps (pmk_fld O.c O.ini O.ty fn hr bd hg hm (pa_cons he pa_nil hs0) hdb hs0 hpl)) fun N σ H ⟨G, F, io, S, ρ, gd, re, q⟩ => ⟨G, F, io, S, ρ, gd, re, ?_⟩
  unfold fRaise1 at q
  cases hf : fa ρ S with
  | bad => rw [hf] at q; exact q.elim
  | exc m as S1 => rw [hf] at q; exact fun cls dd F' io' H' e' g' x' => q cls dd σ F' io' H' e' g' (renv_mono e' re) x'
  | ok d S1 =>
    rw [hf] at q
    intro v F1 i1 H1 e1 g1 r1
    cases d with
    | p d =>
      refine ⟨by show 1 ≤ 1000; decide, fun a ha => ⟨a, v, rfl, upd_same, fun dx hdx hne => ⟨rfl, dx, [("index", v)], upd_same, by rw [upd_ne hne, upd_same], ?_, ?_⟩⟩⟩
      · rw [upd_ne hne] at hdx
        exact hdx
      · have hd1 : H1 dx = none := by
          rw [upd_ne hne] at hdx
          exact hdx
        have same : upd (del (upd (upd (upd H1 a (exo a (He.ga X.K n) none)) dx (exd dx [("index", v)])) a (exo a (He.ga X.K n) (some dx))) a) dx (.xd [("index", v)]) = upd H1 dx (.xd [("index", v)]) := by
          funext b
          by_cases hb : b = dx
          · rw [hb, upd_same, upd_same]
          · rw [upd_ne hb, upd_ne hb]
            by_cases hba : b = a
            · rw [hba, del_same, ha]
            · rw [del_ne hba, upd_ne hba, upd_ne hb, upd_ne hba]
        rw [same]
        obtain ⟨g2, e2⟩ := g1.new (o := .xd [("index", v)]) hd1
        refine q _ _ σ _ _ _ (e1.trans e2) g2 (renv_mono (e1.trans e2) re) ⟨by rw [hK], .inr ⟨dx, [v], by simp, rfl, upd_same, .cons (dp_mono e2.same _ _ r1) .nil⟩⟩
    | _ => exact q.elim
end
end Tw
namespace Tw
open PySem PySem.Spec PyProof.Rows L2N
open L2 hiding St XE Takes CX takes_of passes_call MkP PMk ps_raise mk_of ps_try_as ps_try_many pmk_own passAt

/-! ### what a caught error holds; isinstance of it -/
def fcXf (n f : Str) : PySem.W.Frag → Bool := fun K => xfB K (He.ga K n) && decide (PySem.W.findIn K (.ref (He.ga K n)) f = some none)
theorem fcXf_ok {n f : Str} {K : PySem.W.Frag} (h : fcXf n f K = true) : XfC K (He.ga K n) ∧ PySem.W.findIn K (.ref (He.ga K n)) f = some none := by
  obtain ⟨h1, h2⟩ := He.ba h
  exact ⟨xfB_ok h1, of_decide_eq_true h2⟩
/-- e.index, e what the suite holds -/
def fXi (ns : List Str) (i : Nat) (n : Str) (as : List PyData) : FE := fun ρ S => match ρ[i]? with
  | some (some .exn) => if n ∈ ns then (match as with
    | [d] => .ok (.p d) S
    | _ => .bad) else .bad
  | _ => .bad
/-- isinstance(e, x) -/
def fIsY (ns : List Str) (i : Nat) (x n : Str) : FE := fun ρ S => match ρ[i]? with
  | some (some .exn) => if n ∈ ns then .ok (.p (.bool (subX n x))) S else .bad
  | _ => .bad
def rIsF (K : PySem.W.Frag) (D a : Addr) (dd : Option Addr) : List V → Hp → VK → Prop := fun xs H Q => ∃ (c : V) (cv : Value) (b : Bool), xs = [.ref a, c] ∧ (∀ u, RelV c u → u = cv) ∧ PySem.W.kitOne K (.ref D) cv = some b ∧ (dd = none ∨ ∃ d fs, dd = some d ∧ H d = some (.xd fs)) ∧ Q (.bl b) H
theorem call_isF {X : Cx} {a D : Addr} {dd : Option Addr} {oe : Obj} {pn : List (Addr × Obj)} (C : ExcC X.K D) (hz : Zc (.ref D) dd oe) (hf : ∃ vs, oe.data = .fields vs) : CallR (X.suite a ((a, oe) :: pn)) (.builtin "isinstance") (rIsF X.K D a dd) := by
  rintro pins s σ H xs us Q I r ⟨c, cv, b, rfl, hcv, e, hdd, q⟩
  obtain ⟨u1, u2, rfl, r1, r2⟩ := vals2 r
  obtain rfl : u1 = Value.ref a := r1
  obtain rfl := hcv _ r2
  obtain ⟨hget, _⟩ := I.pin (a, oe) (List.mem_append_left _ List.mem_cons_self)
  obtain ⟨vs, hv⟩ := hf
  have inst : ∃ od, PySem.W.InstAt s.heap a oe D od := by
    have nc : PySem.W.notCls oe = true := by
      unfold PySem.W.notCls
      rw [hv]
    rcases hdd with rfl | ⟨d, fs, rfl, hd⟩
    · exact ⟨none, hget, hz.1, nc, by rw [hz.2]; trivial⟩
    · obtain ⟨mA, hns, hr⟩ := (show ObjOk X.prog X.w H s.heap d (.xd fs) from I.hok d _ hd)
      obtain ⟨od, ho, _⟩ := lookIn_ns hns
      exact ⟨some od, hget, hz.1, nc, by rw [hz.2]; exact ho⟩
  obtain ⟨od, J⟩ := inst
  have cl : (PySem.W.clsIn X.K D).isSome = true := by
    obtain ⟨cd, hc, _⟩ := PySem.W.any_some C.hd
    rw [hc]
    rfl
  exact PySem.W.kia_one (PySem.W.kitx_exc cl C.hg C.hk C.hs C.ha C.hn C.ht C.hm) I.kIn J e (fun z => nomatch z) fun tk => ⟨.bl b, H, I.kept (t' := tk) fun _ _ z => z, rfl, q⟩
section
variable {X : Cx} {c : Cw} {a : Addr} {ob : Obj} {cl : Value} {dd : Option Addr} {pn : List (Addr × Obj)} {n y x : Str} {as : List PyData} {ns : List Str} {i : Nat} {p1 p2 p3 pos : Pos}
theorem exn_at {F : Hp} {io : List Addr} {σ : L2.St} {ρ : Env} (re : REnv (c.sui a cl dd n as) F io σ ρ) (hr : ρ[i]? = some (some .exn)) : σ[i]? = some (some (.ref a)) ∧ IsX c.K F n as cl dd := by
  obtain ⟨v, h1, u, h2, h3, h4⟩ := re.2 i _ hr
  obtain rfl := Option.some.inj h2
  rw [h3] at h1
  exact ⟨h1, h4⟩
theorem fe_isY (hK : c.K = X.K) (hz : Zc cl dd ob) (hu : ∃ us, ob.data = .fields us)
    (hC : ∀ m ∈ ns, ExcC X.K (He.ga X.K m)) (hk : ∀ m ∈ ns, PySem.W.kitOne X.K (.ref (He.ga X.K m)) (.ref (He.ga X.K x)) = some (subX m x)) (gx : X.mg x = some (.ref (He.ga X.K x))) (b0 : X.mg "isinstance" = none) (hg : Gl X "isinstance") (hgx : Gl X x)
    (hy : X.N[i]? = some y) (hv : Vis X.env.scope y) (hd1 : (x == ("__debug__" : Str)) = false := by decide) (hd2 : (y == ("__debug__" : Str)) = false := by decide) (hd3 : (y == ("__classdict__" : Str)) = false := by decide)
    (s1 : starEach [Expr.Name y p2, .Name x p3] X.env = (false, eval (.Name y p2) X.env) :: starEach [.Name x p3] X.env := by rfl) (s2 : starEach [Expr.Name x p3] X.env = (false, eval (.Name x p3) X.env) :: starEach [] X.env := by rfl)
    (s3 : (backTo pos (starEach [Expr.Name x p3] X.env)).any (·.1) = false := by rfl) :
    PE (X.suite a ((a, ob) :: pn)) (.Call (.Name "isinstance" p1) [.Name y p2, .Name x p3] [] pos) (tE (c.sui a cl dd n as) (fIsY ns i x n)) := by
  refine ⟨fun pins s σ H Q I ⟨G, F, io, S, ρ, gd, re, q⟩ => ?_⟩
  unfold fIsY at q
  split at q
  · rename_i hr
    by_cases hn : n ∈ ns
    · rw [if_pos hn] at q
      obtain ⟨h1, hcl, hdd⟩ := exn_at re hr
      have hcl : cl = .ref (He.ga X.K n) := by rw [← hK]; exact hcl
      subst hcl
      have hdd' : dd = none ∨ ∃ d fs, dd = some d ∧ H d = some (.xd fs) := by
        rcases hdd with ⟨_, h⟩ | ⟨d, vs, _, h, h2, _⟩
        · exact .inl h
        · exact .inr ⟨d, _, h, gd.ex _ _ h2⟩
      refine (pe_callB (X := X.suite a ((a, ob) :: pn)) (call_isF (hC n hn) hz hu) hg b0 boot_isinstance (pa_cons (pe_var (X := X.suite a ((a, ob) :: pn)) hy hv hd2 hd3) (pa_cons (pe_glob (X := X.suite a ((a, ob) :: pn)) (v := .ref (He.ga X.K x)) hgx gx rfl hd1) pa_nil s2) s1) (by decide) (by decide) s1 s3).run pins s σ H Q I ?_
      exact ⟨.ref a, h1, .ref (He.ga X.K x), .ref (He.ga X.K x), _, rfl, fun u hu => hu, hk n hn, hdd', hereP (v := .bl _) q gd (Dq.bl _)⟩
    · rw [if_neg hn] at q
      exact q.elim
  · exact q.elim
theorem fe_xi (hK : c.K = X.K) (hz : Zc cl dd ob) (hu : ∃ us, ob.data = .fields us) (hC : ∀ m ∈ ns, XfC X.K (He.ga X.K m) ∧ PySem.W.findIn X.K (.ref (He.ga X.K m)) "index" = some none)
    (hy : X.N[i]? = some y) (hv : Vis X.env.scope y) (hd2 : (y == ("__debug__" : Str)) = false := by decide) (hd3 : (y == ("__classdict__" : Str)) = false := by decide)
    (hb : attributeBase (.Name y p2) "index" X.env (eval (.Name y p2) X.env) = eval (.Name y p2) X.env := by rfl) :
    PE (X.suite a ((a, ob) :: pn)) (.Attribute (.Name y p2) "index" pos) (tE (c.sui a cl dd n as) (fXi ns i n as)) := by
  refine ⟨fun pins s σ H Q I ⟨G, F, io, S, ρ, gd, re, q⟩ => ?_⟩
  unfold fXi at q
  split at q
  · rename_i hr
    by_cases hn : n ∈ ns
    · rw [if_pos hn] at q
      split at q
      · rename_i d
        obtain ⟨h1, hcl, hdd⟩ := exn_at re hr
        have hcl : cl = .ref (He.ga X.K n) := by rw [← hK]; exact hcl
        subst hcl
        rcases hdd with ⟨h, _⟩ | ⟨dx, vs, _, rfl, h2, h3⟩
        · cases h
        · cases h3 with
          | @cons v vs _ _ hv1 hv2 =>
            cases hv2
            refine (pe_xf (X := X) (C := He.ga X.K n) (hC n hn).1 (hC n hn).2 hz hu (pe_var (X := X.suite a ((a, ob) :: pn)) (i := i) hy hv hd2 hd3) hb).run pins s σ H Q I ?_
            exact ⟨.ref a, h1, rfl, rfl, dx, _, v, rfl, gd.ex _ _ h2, rfl, hereP (v := v) q gd hv1⟩
      · exact q.elim
    · rw [if_neg hn] at q
      exact q.elim
  · exact q.elim
end
/-! ### *xs in a display -/
def fStar (fa : FE) (fr : FA) : FA := fun ρ S => (fa ρ S).bind fun d S1 => match d with
  | .p (.tuple ds) => (fr ρ S1).bind fun xs S2 => .ok (ds.map D.p ++ xs) S2
  | .p (.list ds) => (fr ρ S1).bind fun xs S2 => .ok (ds.map D.p ++ xs) S2
  | _ => .bad
theorem rpa_of {K : PySem.W.Frag} {F : Hp} {io : List Addr} : ∀ {ds : List PyData} {vs : List V}, DqA K F vs ds → RpA K F io vs (ds.map D.p)
  | [], _, h => by cases h; exact .nil
  | d :: ds, _, h => by
    cases h with
    | cons h1 h2 => exact .cons h1 (rpa_of h2)
section
variable {X : Cx} {c : Cw} {e : Expr} {es : List Expr} {p : Pos} {fa : FE} {fr : FA}
theorem fa_star (he : PE X e (tE c fa)) (hr : PA X es (tA c fr)) (hK : c.K = X.K := by rfl) (hs : starEach (.Starred e p :: es) X.env = (true, eval e X.env) :: starEach es X.env := by rfl) : PA X (.Starred e p :: es) (tA c (fStar fa fr)) :=
  pa_imp (StX.pa_star he hr hs) fun σ H Q ⟨G, F, io, S, ρ, gd, re, q⟩ => ⟨G, F, io, S, ρ, gd, re, Aft.step q fun d1 S1 v1 F1 i1 H1 e1 g1 r1 q1 => by
    have go : ∀ {a : Addr} {vs : List V} {ds : List PyData}, v1 = .ref a → (SqT X.K H1 a vs ∨ SqL X.K H1 a vs) → DqA c.K F1 vs ds → Aft c G F1 i1 σ (rpA c) Q ((fr ρ S1).bind fun xs S2 => .ok (ds.map D.p ++ xs) S2) →
        ∃ p xs, v1 = V.ref p ∧ (SqT X.K H1 p xs ∨ SqL X.K H1 p xs) ∧ (tA c fr) σ H1 fun ys H2 => Q (xs ++ ys) H2 := fun {a vs ds} ev hs ha q => by
      refine ⟨a, vs, ev, hs, G, F1, i1, S1, ρ, g1, renv_mono e1 re, Aft.step q fun xs S2 ys F2 i2 H2 e2 g2 r2 q2 => ?_⟩
      exact Aft.here (v := vs ++ ys) q2 g2 (paired_app (rpa_of (dpa_mono e2.same _ _ ha)) r2)
    cases d1 with
    | p d =>
      cases d with
      | tuple ds =>
        cases r1 with
        | @tup a xs _ hx ha => exact go rfl (.inl (by rw [← hK]; exact sq_t g1.ex hx.sq)) ha q1
      | list ds =>
        cases r1 with
        | @lst a xs _ hx ha => exact go rfl (.inr (SqL.of (g1.ex _ _ hx))) ha q1
      | _ => exact q1.elim
    | _ => exact q1.elim⟩
end
end Tw
namespace Tw
open PySem PySem.Spec PyProof.Rows L2N
open L2 hiding St XE Takes CX takes_of passes_call MkP PMk ps_raise mk_of ps_try_as ps_try_many pmk_own passAt

/-! ### what is not reached -/
def fBad : FS := fun _ _ => .bad
def fBadE : FE := fun _ _ => .bad
theorem fs_bad {X : Cx} {c : Cw} {st : Stmt} : PS X st (tS c fBad) := ⟨fun _ _ _ _ _ _ ⟨_, _, _, _, _, _, _, q⟩ => q.elim⟩
theorem fe_bad {X : Cx} {c : Cw} {e : Expr} : PE X e (tE c fBadE) := ⟨fun _ _ _ _ _ _ ⟨_, _, _, _, _, _, _, q⟩ => q.elim⟩
/-! ### the class's defs stand -/
def clsBody : Stmt → List Stmt
  | .ClassDef (body := b) .. => b
  | _ => []
theorem FunD.to {K : PySem.W.Frag} {x qual : Str} {params : Arguments} {body : List Stmt} {scope : Scope} {dvs : List V} {kws : List (Str × V)} {a a' : Addr} {fd : FuncData} (h : FunD K x qual params body scope dvs kws a fd) (e : a = a') : FunD K x qual params body scope dvs kws a' fd := e ▸ h
def fcMkr (x : Str) : PySem.W.Frag → Bool := (He.Fa.mkr x).ok
def fcMeth (x m : Str) : PySem.W.Frag → Bool := (He.Fa.meth x m).ok
theorem fn_of_ty {K : PySem.W.Frag} {a : Addr} (h : PySem.W.typeIn K (.ref a) = some (.type "function")) : PySem.W.isFn K (.ref a) = true := by
  unfold PySem.W.isFn
  rw [h]
  rfl
section
variable {P : Program} {w : World} {K : PySem.W.Frag} {mg : Str → Option Value} {base : Heap} {x q : Str} {params : Arguments} {body : List Stmt} {scope : Scope} {fd : FuncData} {k n : Nat} {m : List D → Sto → Res D} {ps : List Str}
theorem calI_of (h : fcMkr "World" K = true) (F : ∀ fd : FuncData, FunD K "__init__" q params body scope [] [] (He.ma K (wA K) "__init__") fd → FnOk P w K mg base (L2N.CX P w) k (He.ma K (wA K) "__init__") fd ps (spF K m n) ∧ Binds K fd ps [])
    (Fd : ∃ fd, FunD K "__init__" q params body scope [] [] (adr K ("World", some "__init__")) fd) : CalI P w K mg base k n m := by
  have M := He.mkr_ok h
  obtain ⟨fd, Fd⟩ := Fd
  obtain ⟨f1, f2⟩ := F fd (FunD.to Fd (adr_fn M.fn))
  exact ⟨_, fd, ps, f1, M, f2⟩
theorem calM_of (h : fcMeth "World" x K = true) (F : ∀ fd : FuncData, FunD K x q params body scope [] [] (He.ma K (wA K) x) fd → FnOk P w K mg base (L2N.CX P w) k (He.ma K (wA K) x) fd ps (spF K m n) ∧ Binds K fd ps [])
    (Fd : ∃ fd, FunD K x q params body scope [] [] (adr K ("World", some x)) fd) : CalM P w K mg base x k n m := by
  have M := He.meth_ok h
  obtain ⟨fd, Fd⟩ := Fd
  obtain ⟨f1, f2⟩ := F fd (FunD.to Fd (adr_fn M.fn))
  exact ⟨_, fd, ps, f1, M, f2⟩
theorem calE_of (h : fcMeth "World" "__eq__" K = true) (F : ∀ fd : FuncData, FunD K "__eq__" q params body scope [] [] (He.ma K (wA K) "__eq__") fd → FnOk P w K mg base (L2N.CX P w) k (He.ma K (wA K) "__eq__") fd ps (spF K m 2) ∧ Binds K fd ps [])
    (Fd : ∃ fd, FunD K "__eq__" q params body scope [] [] (adr K ("World", some "__eq__")) fd) : CalE P w K mg base k m := by
  have M := He.meth_ok h
  obtain ⟨fd, Fd⟩ := Fd
  obtain ⟨f1, f2⟩ := F fd (FunD.to Fd (adr_fn M.fn))
  exact ⟨_, fd, ps, f1, M.at_, M.fn, f2⟩
theorem calP_of (h : fcProp "World" x K = true) (F : ∀ fd : FuncData, FunD K x q params body scope [] [] (adr K ("World", some x)) fd → FnOk P w K mg base (L2N.CX P w) k (adr K ("World", some x)) fd ps (spF K m n) ∧ Binds K fd ps [])
    (Fd : ∃ fd, FunD K x q params body scope [] [] (adr K ("World", some x)) fd) : CalP P w K mg base x k n m := by
  obtain ⟨fd, Fd⟩ := Fd
  obtain ⟨f1, f2⟩ := F fd Fd
  exact ⟨_, _, fd, ps, f1, fcProp_ok h, f2⟩
theorem calX_of {e : Str} {N : List Str} (h : fcOex e "index" K = true) (S : FnScope N ps scope) (hl : ps.length = 2) (hN : 2 ≤ N.length)
    (hb : ∀ (cdv : Value) (A : Around) (outer : List PySem.Env) (s : Shared) (H : Hp) (E : XK), PSs (cxOf L2.CX0 P w K mg base N q scope (He.ma K (He.ga K e) "__init__") cdv A outer s H E) body (tOst K "index" (tVar 0) (tVar 1)))
    (B : ∀ fd : FuncData, FunD K "__init__" q params body scope [] [] (He.ma K (He.ga K e) "__init__") fd → Binds K fd ps [])
    (Fd : ∃ fd, FunD K "__init__" q params body scope [] [] (adr K (e, some "__init__")) fd) : CalX P w K mg base e "index" (k + 1) := by
  have O := fcOex_ok h
  obtain ⟨fd, Fd⟩ := Fd
  have Fd2 := FunD.to Fd (adr_fn (fn_of_ty O.ty))
  exact ⟨fd, ps, fn_x1 Fd2 S hl O hb hN, B fd Fd2⟩
end
end Tw
namespace Tw
open PySem PySem.Spec PyProof.Rows L2N
open L2 hiding St XE Takes CX takes_of passes_call MkP PMk ps_raise mk_of ps_try_as ps_try_many pmk_own passAt

/-! ### list comprehensions with two fors -/
def compL2 (g : FG) (ft : FE) (fi1 : FI) (vs1 : List Nat) (g1 : FG) (ft1 fe : FE) (ρw : Env) : List D → Nat → Sto → Res (List D)
  | [], _, S => .ok [] S
  | d :: ds, n, S => match g d ρw with
    | none => .bad
    | some ρ1 => (ft ρ1 S).noX.asB.bind fun k S1 => if k = true then ((fi1 ρ1 S1).noX.bind fun ds1 S2 => if n + ds1.length < lim then ((compL g1 ft1 fe (wipeE ρ1 vs1) ds1 S2).bind fun xs S3 => (compL2 g ft fi1 vs1 g1 ft1 fe ρw ds (n + xs.length) S3).bind fun ys S4 => .ok (xs ++ ys) S4) else .bad)
      else compL2 g ft fi1 vs1 g1 ft1 fe ρw ds n S1
def fComp2 (vs : List Nat) (fi : FI) (g : FG) (ft : FE) (fi1 : FI) (vs1 : List Nat) (g1 : FG) (ft1 fe : FE) : FE := fun ρ S => (fi ρ S).bind fun ds S1 => (compL2 g ft fi1 vs1 g1 ft1 fe (wipeE ρ vs) ds 0 S1).bind compEnd
theorem bind_assoc {α β γ : Type} (r : Res α) (f : α → Sto → Res β) (g : β → Sto → Res γ) : (r.bind f).bind g = r.bind fun a S => (f a S).bind g := by cases r <;> rfl
section
variable {X : Cx} {c : Cw} {e elt tg iter tg1 iter1 : Expr} {vs vs1 : List Nat} {fi fi1 : FI} {g g1 : FG} {ft ft1 fe : FE}
theorem test_dry {G G2 F : Hp} {io : List Addr} {σ τ : L2.St} {Q : VK} {r : Res D} {k : Bool → Sto → Res D} {Q1 : Bool → Hp → Prop} (q : Aft c G F io σ (rp c) Q (r.noX.asB.bind k))
    (go : ∀ b S5 F5 io5 H5, Ext F io F5 io5 → Good c.K G2 F5 io5 H5 S5 → Aft c G F5 io5 σ (rp c) Q (k b S5) → Q1 b H5) : Aft c.dry G2 F io τ rpB Q1 r.asB := by
  cases r with
  | ok d5 S5 =>
    cases d5 with
    | p d6 =>
      cases d6 with
      | bool b =>
        intro b' F5 io5 H5 e5 g5 r5
        obtain rfl : b' = b := r5
        exact go b' S5 F5 io5 H5 e5 g5 (Aft.ext (r := k b' S5) q e5)
      | _ => exact q.elim
    | _ => exact q.elim
  | exc n as S5 => exact q.elim
  | bad => exact q.elim
theorem lc2_main (σ : L2.St) (H : Hp) (Q : VK) (h : tE c (fComp2 vs fi g ft fi1 vs1 g1 ft1 fe) σ H Q) : tLc2 (tI c fi) (tG c.dry vs g) (tT c.dry ft) (tI c.dry fi1) (tG c.dry vs1 g1) (tT c.dry ft1) (tE c.dry fe) vs vs1 σ H Q := by
  obtain ⟨G, F, io, S, ρ, gd, re, q⟩ := h
  refine ⟨G, F, io, S, ρ, gd, re, Aft.step q fun ds S1 J F1 i1 H1 e1 g0 it q1 Dl hD => ?_⟩
  have q1 : Aft c G F1 i1 σ (rp c) Q ((compL2 g ft fi1 vs1 g1 ft1 fe (wipeE ρ vs) ds 0 S1).bind compEnd) := q1
  · have hG : G Dl = none := by
      cases hq : G Dl with
      | none => rfl
      | some o =>
        have := g0.gx _ _ hq
        rw [hD] at this
        cases this
    refine ⟨fun i m H' => m = ds.length - i ∧ i ≤ ds.length ∧ ∃ F2 io2 S2 acc vacc, Ext F1 i1 F2 io2 ∧ Good c.K (upd G Dl (.lst vacc)) F2 io2 H' S2 ∧ RpA c.K F2 io2 vacc acc ∧
        Aft c G F2 io2 σ (rp c) Q ((compL2 g ft fi1 vs1 g1 ft1 fe (wipeE ρ vs) (ds.drop i) acc.length S2).bind fun xs S3 => compEnd (acc ++ xs) S3),
      ⟨_, rfl, Nat.zero_le _, F1, i1, S1, [], [], Ext.refl _ _, g0.hold hD, .nil, q1⟩, ?_⟩
    rintro i m H' ⟨rfl, hi, F2, io2, S2, acc, vacc, e2, g2, ra, q2⟩
    by_cases hlt : i < ds.length
    · obtain ⟨hgo, hy⟩ := it.go i _ H' F2 io2 S2 hlt e2 g2
      let Nx : Hp → Prop := fun H3 => ∃ F2 io2 S2 acc vacc, Ext F1 i1 F2 io2 ∧ Good c.K (upd G Dl (.lst vacc)) F2 io2 H3 S2 ∧ RpA c.K F2 io2 vacc acc ∧
        Aft c G F2 io2 σ (rp c) Q ((compL2 g ft fi1 vs1 g1 ft1 fe (wipeE ρ vs) (ds.drop (i + 1)) acc.length S2).bind fun xs S3 => compEnd (acc ++ xs) S3)
      refine .inr ⟨hgo, Nx, fun H3 n => ⟨ds.length - (i + 1), by omega, rfl, hlt, n⟩, fun x H3 y => ?_⟩
      obtain ⟨F3, e3, g3, d, hd, rd⟩ := hy x H3 y
      have hdr : ds.drop i = d :: ds.drop (i + 1) := by
        rw [List.drop_eq_getElem_cons hlt]
        rw [List.getElem?_eq_getElem hlt] at hd
        rw [Option.some.inj hd]
      rw [hdr] at q2
      unfold compL2 at q2
      cases hg : g d (wipeE ρ vs) with
      | none => rw [hg] at q2; exact q2.elim
      | some ρ1 =>
        rw [hg] at q2
        dsimp only at q2
        rw [bind_assoc] at q2
        have q2 := Aft.ext q2 e3
        have re3 := renv_wipe (renv_mono e3 (renv_mono e2 (renv_mono e1 re))) vs
        refine ⟨_, F3, io2, S2, d, _, ρ1, g3, rd, renv_dry re3, hg, fun σ4 re4 w4 => ⟨w4.trans (lc_mainG.wipe_idem vs), _, F3, io2, S2, ρ1, g3, re4, ?_⟩⟩
        refine test_dry q2 fun b S5 F5 io5 H5 e5 g5 q5 => ?_
        cases b with
        | false => exact ⟨F5, io5, S5, acc, vacc, (e2.trans e3).trans e5, g5, rpa_mono (e3.trans e5) ra, q5⟩
        | true =>
          have q5 : Aft c G F5 io5 σ (rp c) Q (((fi1 ρ1 S5).noX.bind fun ds1 S2 => if acc.length + ds1.length < lim then ((compL g1 ft1 fe (wipeE ρ1 vs1) ds1 S2).bind fun xs S3 => (compL2 g ft fi1 vs1 g1 ft1 fe (wipeE ρ vs) (ds.drop (i + 1)) (acc.length + xs.length) S3).bind fun ys S4 => .ok (xs ++ ys) S4) else .bad).bind fun xs S3 => compEnd (acc ++ xs) S3) := q5
          rw [bind_assoc] at q5
          have re5 := renv_mono e5 re4
          refine ⟨_, F5, io5, S5, ρ1, g5, re5, ?_⟩
          cases hr : fi1 ρ1 S5 with
          | exc n as S6 => rw [hr] at q5; exact q5.elim
          | bad => rw [hr] at q5; exact q5.elim
          | ok ds1 S6 =>
            rw [hr] at q5
            intro J1 F6 io6 H6 e6 g6 it1
            have q6 : Aft c G F5 io5 σ (rp c) Q ((if acc.length + ds1.length < lim then ((compL g1 ft1 fe (wipeE ρ1 vs1) ds1 S6).bind fun xs S3 => (compL2 g ft fi1 vs1 g1 ft1 fe (wipeE ρ vs) (ds.drop (i + 1)) (acc.length + xs.length) S3).bind fun ys S4 => .ok (xs ++ ys) S4) else .bad : Res (List D)).bind fun xs S3 => compEnd (acc ++ xs) S3) := q5
            have q6 := Aft.ext q6 e6
            by_cases hl1 : acc.length + ds1.length < lim
            · rw [if_pos hl1] at q6
              let Kn : List D → List D → Sto → Res D := fun acc xs S3 => (compL2 g ft fi1 vs1 g1 ft1 fe (wipeE ρ vs) (ds.drop (i + 1)) (acc.length + xs.length) S3).bind fun ys S4 => compEnd (acc ++ (xs ++ ys)) S4
              have toK : ∀ {acc : List D} {r : Res (List D)}, ((r.bind fun xs S3 => (compL2 g ft fi1 vs1 g1 ft1 fe (wipeE ρ vs) (ds.drop (i + 1)) (acc.length + xs.length) S3).bind fun ys S4 => .ok (xs ++ ys) S4).bind fun xs S3 => compEnd (acc ++ xs) S3) = r.bind (Kn acc) := fun {acc r} => by
                rw [bind_assoc]
                cases r with
                | ok xs S3 =>
                  show (Res.bind _ _).bind _ = _
                  rw [bind_assoc]
                  rfl
                | exc n as S3 => rfl
                | bad => rfl
              rw [toK] at q6
              have re6 := renv_mono e6 re5
              obtain ⟨n0, hn0⟩ : ∃ n0, n0 = acc.length := ⟨_, rfl⟩
              rw [← hn0] at hl1
              refine ⟨fun j k H7 => k = ds1.length - j ∧ j ≤ ds1.length ∧ ∃ F7 io7 S7 acc vacc, Ext F6 io6 F7 io7 ∧ Good c.K (upd G Dl (.lst vacc)) F7 io7 H7 S7 ∧ RpA c.K F7 io7 vacc acc ∧ acc.length ≤ n0 + j ∧
                  Aft c G F7 io7 σ (rp c) Q ((compL g1 ft1 fe (wipeE ρ1 vs1) (ds1.drop j) S7).bind (Kn acc)),
                ⟨_, rfl, Nat.zero_le _, F6, io6, S6, acc, vacc, Ext.refl _ _, g6, rpa_mono ((e3.trans e5).trans e6) ra, by omega, q6⟩, ?_⟩
              rintro j k H7 ⟨rfl, hj, F7, io7, S7, acc, vacc, e7, g7, ra7, hacc7, q7⟩
              by_cases hjt : j < ds1.length
              · obtain ⟨hgo1, hy1⟩ := it1.go j _ H7 F7 io7 S7 hjt e7 g7
                refine .inr ⟨hgo1, _, fun H8 n => ⟨ds1.length - (j + 1), by omega, n⟩, fun x H8 y => ?_⟩
                obtain ⟨F8, e8, g8, d1, hd1, rd1⟩ := hy1 x H8 y
                have hdr1 : ds1.drop j = d1 :: ds1.drop (j + 1) := by
                  rw [List.drop_eq_getElem_cons hjt]
                  rw [List.getElem?_eq_getElem hjt] at hd1
                  rw [Option.some.inj hd1]
                rw [hdr1] at q7
                unfold compL at q7
                cases hg1 : g1 d1 (wipeE ρ1 vs1) with
                | none => rw [hg1] at q7; exact q7.elim
                | some ρ2 =>
                  rw [hg1] at q7
                  dsimp only at q7
                  rw [bind_assoc] at q7
                  have q7 := Aft.ext q7 e8
                  have re8 := renv_wipe (renv_mono e8 (renv_mono e7 re6)) vs1
                  refine ⟨_, F8, io7, S7, d1, _, ρ2, g8, rd1, re8, hg1, fun σ9 re9 w9 => ⟨w9.trans (lc_mainG.wipe_idem vs1), _, F8, io7, S7, ρ2, g8, re9, ?_⟩⟩
                  refine test_dry q7 fun b S9 F9 io9 H9 e9 g9 q9 => ?_
                  cases b with
                  | false => exact ⟨rfl, hjt, F9, io9, S9, acc, vacc, (e7.trans e8).trans e9, g9, rpa_mono (e8.trans e9) ra7, by omega, q9⟩
                  | true =>
                    have q9 : Aft c G F9 io9 σ (rp c) Q (((fe ρ2 S9).noX.bind fun x S2 => (compL g1 ft1 fe (wipeE ρ1 vs1) (ds1.drop (j + 1)) S2).bind fun xs S3 => .ok (x :: xs) S3).bind (Kn acc)) := q9
                    refine ⟨_, F9, io9, S9, ρ2, g9, renv_mono e9 re9, ?_⟩
                    cases hr2 : fe ρ2 S9 with
                    | exc n as S10 => rw [hr2] at q9; exact q9.elim
                    | bad => rw [hr2] at q9; exact q9.elim
                    | ok y1 S10 =>
                      rw [hr2] at q9
                      intro v Fa ioa Ha ea ga ra'
                      have qa : Aft c G F9 io9 σ (rp c) Q (((compL g1 ft1 fe (wipeE ρ1 vs1) (ds1.drop (j + 1)) S10).bind fun xs S3 => .ok (y1 :: xs) S3).bind (Kn acc)) := q9
                      have qa := Aft.ext qa ea
                      refine ⟨vacc, ga.gx _ _ upd_same, ?_, rfl, hjt, Fa, ioa, S10, acc ++ [y1], vacc ++ [v], ((e7.trans e8).trans e9).trans ea, ga.rehold, paired_app (rpa_mono ((e8.trans e9).trans ea) ra7) (.cons ra' .nil), by simp; omega, ?_⟩
                      · rw [paired_len ra7]
                        refine Nat.lt_of_lt_of_le ?_ lim_line
                        omega
                      · have same : (((compL g1 ft1 fe (wipeE ρ1 vs1) (ds1.drop (j + 1)) S10).bind fun xs S3 => .ok (y1 :: xs) S3).bind (Kn acc)) = (compL g1 ft1 fe (wipeE ρ1 vs1) (ds1.drop (j + 1)) S10).bind (Kn (acc ++ [y1])) := by
                          rw [bind_assoc]
                          have ek : ∀ xs S3, Kn acc (y1 :: xs) S3 = Kn (acc ++ [y1]) xs S3 := fun xs S3 => by
                            show (compL2 g ft fi1 vs1 g1 ft1 fe (wipeE ρ vs) (ds.drop (i + 1)) (acc.length + (y1 :: xs).length) S3).bind _ = (compL2 g ft fi1 vs1 g1 ft1 fe (wipeE ρ vs) (ds.drop (i + 1)) ((acc ++ [y1]).length + xs.length) S3).bind _
                            have en : acc.length + (y1 :: xs).length = (acc ++ [y1]).length + xs.length := by
                              rw [List.length_append, List.length_cons, List.length_singleton]
                              omega
                            rw [en]
                            simp only [List.append_assoc, List.cons_append, List.nil_append]
                          cases compL g1 ft1 fe (wipeE ρ1 vs1) (ds1.drop (j + 1)) S10 with
                          | ok xs S3 => exact ek xs S3
                          | exc n as S3 => rfl
                          | bad => rfl
                        rw [same] at qa
                        exact qa
              · have e0 : j = ds1.length := by omega
                subst e0
                rw [List.drop_length] at q7
                refine .inl ⟨it1.stop _ _ H7 F7 io7 S7 (Nat.le_refl _) e7 g7, F7, io7, S7, acc, vacc, ((e2.trans e3).trans e5).trans (e6.trans e7), g7, ra7, ?_⟩
                exact q7
            · rw [if_neg hl1] at q6
              exact q6.elim
    · have e0 : i = ds.length := by omega
      subst e0
      rw [List.drop_length] at q2
      refine .inl ⟨it.stop _ _ H' F2 io2 S2 (Nat.le_refl _) e2 g2, ?_⟩
      have q2 : Aft c G F2 io2 σ (rp c) Q (compEnd (acc ++ []) S2) := q2
      rw [List.append_nil] at q2
      unfold compEnd at q2
      cases ha : asPs acc with
      | none => rw [ha] at q2; exact q2.elim
      | some ps =>
        rw [ha] at q2
        obtain ⟨g4, e4⟩ := g2.unhold hG
        exact q2 (.ref Dl) _ _ _ e4 g4 (.lst upd_same (dpa_mono e4.same _ _ (asPs_ok ha ra)))
theorem fe_comp2 {ifs ifs1 : List Expr} {scope : Scope} (h : ∀ {wi wi1 : TI} {tg' tg1' : TG} {tt tt1 : TT} {te : TE}, PI X tg iter wi → (∀ (s : Shared) (H : Hp) (C : Addr) (cl : List (Str × Addr)) (fp : List Addr), PG (X.blk s H scope (compEnvC scope cl C X.env) fp) tg tg') → (∀ (s : Shared) (H : Hp) (C : Addr) (cl : List (Str × Addr)) (fp : List Addr), PTs (X.blk s H scope (compEnvC scope cl C X.env) fp) ifs tt) → (∀ (s : Shared) (H : Hp) (C : Addr) (cl : List (Str × Addr)) (fp : List Addr), PI (X.blk s H scope (compEnvC scope cl C X.env) fp) tg1 iter1 wi1) → (∀ (s : Shared) (H : Hp) (C : Addr) (cl : List (Str × Addr)) (fp : List Addr), PG (X.blk s H scope (compEnvC scope cl C X.env) fp) tg1 tg1') → (∀ (s : Shared) (H : Hp) (C : Addr) (cl : List (Str × Addr)) (fp : List Addr), PTs (X.blk s H scope (compEnvC scope cl C X.env) fp) ifs1 tt1) → (∀ (s : Shared) (H : Hp) (C : Addr) (cl : List (Str × Addr)) (fp : List Addr), PE (X.blk s H scope (compEnvC scope cl C X.env) fp) elt te) → PE X e (tLc2 wi tg' tt wi1 tg1' tt1 te vs vs1))
    (hi : PI X tg iter (tI c fi)) (hg : ∀ (s : Shared) (H : Hp) (C : Addr) (cl : List (Str × Addr)) (fp : List Addr), PG (X.blk s H scope (compEnvC scope cl C X.env) fp) tg (tG c.dry vs g)) (ht : ∀ (s : Shared) (H : Hp) (C : Addr) (cl : List (Str × Addr)) (fp : List Addr), PTs (X.blk s H scope (compEnvC scope cl C X.env) fp) ifs (tT c.dry ft)) (hi1 : ∀ (s : Shared) (H : Hp) (C : Addr) (cl : List (Str × Addr)) (fp : List Addr), PI (X.blk s H scope (compEnvC scope cl C X.env) fp) tg1 iter1 (tI c.dry fi1)) (hg1 : ∀ (s : Shared) (H : Hp) (C : Addr) (cl : List (Str × Addr)) (fp : List Addr), PG (X.blk s H scope (compEnvC scope cl C X.env) fp) tg1 (tG c.dry vs1 g1)) (ht1 : ∀ (s : Shared) (H : Hp) (C : Addr) (cl : List (Str × Addr)) (fp : List Addr), PTs (X.blk s H scope (compEnvC scope cl C X.env) fp) ifs1 (tT c.dry ft1)) (he : ∀ (s : Shared) (H : Hp) (C : Addr) (cl : List (Str × Addr)) (fp : List Addr), PE (X.blk s H scope (compEnvC scope cl C X.env) fp) elt (tE c.dry fe)) : PE X e (tE c (fComp2 vs fi g ft fi1 vs1 g1 ft1 fe)) := pe_imp (h hi hg ht hi1 hg1 ht1 he) lc2_main
theorem fs_comp2 {ifs ifs1 : List Expr} {scope : Scope} {i : Nat} {st : Stmt} (h : ∀ {wi wi1 : TI} {tg' tg1' : TG} {tt tt1 : TT} {te : TE}, PI X tg iter wi → (∀ (s : Shared) (H : Hp) (C : Addr) (cl : List (Str × Addr)) (fp : List Addr), PG (X.blk s H scope (compEnvC scope cl C X.env) fp) tg tg') → (∀ (s : Shared) (H : Hp) (C : Addr) (cl : List (Str × Addr)) (fp : List Addr), PTs (X.blk s H scope (compEnvC scope cl C X.env) fp) ifs tt) → (∀ (s : Shared) (H : Hp) (C : Addr) (cl : List (Str × Addr)) (fp : List Addr), PI (X.blk s H scope (compEnvC scope cl C X.env) fp) tg1 iter1 wi1) → (∀ (s : Shared) (H : Hp) (C : Addr) (cl : List (Str × Addr)) (fp : List Addr), PG (X.blk s H scope (compEnvC scope cl C X.env) fp) tg1 tg1') → (∀ (s : Shared) (H : Hp) (C : Addr) (cl : List (Str × Addr)) (fp : List Addr), PTs (X.blk s H scope (compEnvC scope cl C X.env) fp) ifs1 tt1) → (∀ (s : Shared) (H : Hp) (C : Addr) (cl : List (Str × Addr)) (fp : List Addr), PE (X.blk s H scope (compEnvC scope cl C X.env) fp) elt te) → PS X st (tAsg (tLc2 wi tg' tt wi1 tg1' tt1 te vs vs1) (gName i)))
    (hi : PI X tg iter (tI c fi)) (hg : ∀ (s : Shared) (H : Hp) (C : Addr) (cl : List (Str × Addr)) (fp : List Addr), PG (X.blk s H scope (compEnvC scope cl C X.env) fp) tg (tG c.dry vs g)) (ht : ∀ (s : Shared) (H : Hp) (C : Addr) (cl : List (Str × Addr)) (fp : List Addr), PTs (X.blk s H scope (compEnvC scope cl C X.env) fp) ifs (tT c.dry ft)) (hi1 : ∀ (s : Shared) (H : Hp) (C : Addr) (cl : List (Str × Addr)) (fp : List Addr), PI (X.blk s H scope (compEnvC scope cl C X.env) fp) tg1 iter1 (tI c.dry fi1)) (hg1 : ∀ (s : Shared) (H : Hp) (C : Addr) (cl : List (Str × Addr)) (fp : List Addr), PG (X.blk s H scope (compEnvC scope cl C X.env) fp) tg1 (tG c.dry vs1 g1)) (ht1 : ∀ (s : Shared) (H : Hp) (C : Addr) (cl : List (Str × Addr)) (fp : List Addr), PTs (X.blk s H scope (compEnvC scope cl C X.env) fp) ifs1 (tT c.dry ft1)) (he : ∀ (s : Shared) (H : Hp) (C : Addr) (cl : List (Str × Addr)) (fp : List Addr), PE (X.blk s H scope (compEnvC scope cl C X.env) fp) elt (tE c.dry fe)) : PS X st (tS c (fSet i (fComp2 vs fi g ft fi1 vs1 g1 ft1 fe))) := ps_imp (h hi hg ht hi1 hg1 ht1 he) fun N σ H ⟨G, F, io, S, ρ, gd, re, q⟩ =>
  lc2_main σ H _ ⟨G, F, io, S, ρ, gd, re, AftS.step q re fun d S1 v F1 io1 H1 e1 g1 r1 q1 => AftS.here q1 g1 (renv_set (renv_mono e1 re) (rpe_of r1) i)⟩
end
end Tw
namespace Tw
open PySem PySem.Spec PyProof.Rows L2N
open L2 hiding St XE Takes CX takes_of passes_call MkP PMk ps_raise mk_of ps_try_as ps_try_many pmk_own passAt

/-! ### min of a list of data -/
def isNon : PyData → Bool
  | .none => true
  | _ => false
def alikeB (l : List PyData) : Bool := (l.all fun x => l.all fun y => PySem.W.alike x y) && (l.all fun x => !isNon x)
theorem alikeB_ok {l : List PyData} (h : alikeB l = true) : PySem.W.AlikeAll l := by
  obtain ⟨h1, h2⟩ := He.ba h
  refine ⟨fun x hx y hy => List.all_eq_true.mp (List.all_eq_true.mp h1 x hx) y hy, fun x hx z => ?_⟩
  subst z
  have := List.all_eq_true.mp h2 _ hx
  cases this
def gMinD : List D → Sto → Res D := fun ds S => match ds with
  | [.p (.list (x :: xs))] => if alikeB (x :: xs) = true ∧ PyData.depthAll (x :: xs) ≤ 60 ∧ PyData.canLayAll0 (x :: xs) = true then .ok (.p (PySem.W.minD x xs)) S else .bad
  | _ => .bad
def rMinDD (K : PySem.W.Frag) : List V → Hp → VK → Prop := fun vs H Q => ∃ a ys x xs, vs = [.ref a] ∧ SqL K H a ys ∧ DpAll K H ys (x :: xs) ∧ alikeB (x :: xs) = true ∧ PyData.depthAll (x :: xs) ≤ 60 ∧ ∀ (i : Nat) v, ys[i]? = some v → (x :: xs)[i]? = some (PySem.W.minD x xs) → Q v H
theorem call_minDD {X : Cx} (hu : X.A.units + 64 < cLine) (hc : X.calm = true) : CallR X (.builtin "min") (rMinDD X.K) := by
  rintro pins s σ H vs us Q I r ⟨a, ys, x, xs, rfl, hs, hd, hal, hdp, q⟩
  obtain ⟨its, rv, hl, _⟩ := I.list hs
  rw [Vals.ref1 r]
  obtain ⟨as, hr⟩ := Dp.readsAll I (x :: xs) ys its hd rv
  refine PySem.W.min_list_data (I.ok.hd hc) hl.isList (by simpa using hr) (alikeB_ok hal) (by omega) fun i v h' tk bs hv hrd hk => ?_
  have hv' : its[i]? = some v := by simpa using hv
  obtain ⟨hi, hv2⟩ := List.getElem?_eq_some_iff.mp hv'
  have hlen : ys.length = its.length := rv.length
  have hlen2 : its.length = (x :: xs).length := by
    have z := PySem.W.readsAll_len (vs := its.toArray) (by simpa using hr)
    simpa using z
  have hiy : i < ys.length := by omega
  have hix : i < (x :: xs).length := by omega
  obtain ⟨u, hu2, ru⟩ := rv.get (List.getElem?_eq_getElem hiy)
  rw [hv'] at hu2
  obtain rfl := Option.some.inj hu2
  have rd1 : ∃ bs, Reads s.heap v ((x :: xs)[i]) bs := by
    obtain ⟨bs, z, _⟩ := PySem.W.readsAll_at hr i v hv'
    rw [List.getD_eq_getElem?_getD, List.getElem?_eq_getElem hix] at z
    exact ⟨bs, z⟩
  obtain ⟨bs1, rd1⟩ := rd1
  have e : (x :: xs)[i] = PySem.W.minD x xs := (PySem.Reads.unique (PySem.W.reads_keeps hk rd1) _ _ hrd).1
  exact ⟨_, H, I.kept hk, ru, q i _ (List.getElem?_eq_getElem hiy) (by rw [List.getElem?_eq_getElem hix, e])⟩
theorem bc_minDD {c : Cw} : BCall c (rMinDD c.K) gMinD := fun G F io H S σ vs ds Q gd r q => by
  unfold gMinD at q
  split at q
  · rename_i x xs
    by_cases hc : alikeB (x :: xs) = true ∧ PyData.depthAll (x :: xs) ≤ 60 ∧ PyData.canLayAll0 (x :: xs) = true
    · rw [if_pos hc] at q
      cases r with
      | cons r1 r2 =>
        cases r2
        cases r1 with
        | @lst a ys _ hx ha =>
          refine ⟨a, ys, x, xs, rfl, SqL.of (gd.ex _ _ hx), dpa_of gd.ex _ _ hc.2.2 ha, hc.1, hc.2.1, fun i v hv hx2 => ?_⟩
          obtain ⟨v', hv', rv⟩ := dpa_get _ _ i _ ha hx2
          rw [hv] at hv'
          obtain rfl := Option.some.inj hv'
          exact hereP (v := v) q gd rv
    · rw [if_neg hc] at q
      exact q.elim
  · exact q.elim
end Tw
namespace Tw
open PySem PySem.Spec PyProof.Rows L2N
open L2 hiding St XE Takes CX takes_of passes_call MkP PMk ps_raise mk_of ps_try_as ps_try_many pmk_own passAt

/-! ### rules for simp, further readings -/
section
variable {ρ ρ1 : Env} {S : Sto} {a b fa : FE} {fr : FA} {fi fi1 : FI} {g g1 : FG} {ft ft1 fe : FE} {vs vs1 : List Nat} {d x : D} {ds xs ys : List D} {ps : List PyData} {r l : PyData} {m : List D → Sto → Res D} {n f y : Str} {as : List PyData} {b0 : Bool} {i j k : Nat} {e : FE} {ns : List Str}
def fldK (b : Bool) (q : Res D) : Res D := q.bind fun d S1 => match d with
  | .wld r l => .ok (.p (if b = true then l else r)) S1
  | _ => .bad
@[simp ↓] theorem ap_fld : fFld b0 fa ρ S = fldK b0 (fa ρ S) := rfl
@[simp] theorem fldK_r : fldK false (.ok (.wld r l) S) = .ok (.p r) S := rfl
@[simp] theorem fldK_l : fldK true (.ok (.wld r l) S) = .ok (.p l) S := rfl
def prpK (m : List D → Sto → Res D) (q : Res D) : Res D := q.bind fun d S1 => match d with
  | .wld r l => (match m [.wld r l] S1 with
    | .ok d S2 => .ok d S2
    | _ => .bad)
  | _ => .bad
@[simp ↓] theorem ap_prp : fPrp m fa ρ S = prpK m (fa ρ S) := rfl
theorem prpK_ok {S2 : Sto} (h : m [.wld r l] S = .ok d S2) : prpK m (.ok (.wld r l) S) = .ok d S2 := by
  show (match m [.wld r l] S with
    | .ok d S2 => .ok d S2
    | _ => .bad : Res D) = _
  rw [h]
@[simp ↓] theorem ap_mth : fMth m fa fr ρ S = (fa ρ S).bind fun d S1 => match d with
  | .wld r l => (fr ρ S1).bind fun ds S2 => m (.wld r l :: ds) S2
  | _ => .bad := rfl
def isWK (q : Res D) : Res D := q.bind fun d S1 => match d with
  | .p _ => .ok (.p (.bool false)) S1
  | .wld _ _ => .ok (.p (.bool true)) S1
  | _ => .bad
@[simp ↓] theorem ap_isW : fIsW fa ρ S = isWK (fa ρ S) := rfl
@[simp] theorem isWK_p : isWK (.ok (.p r) S) = .ok (.p (.bool false)) S := rfl
@[simp] theorem isWK_w : isWK (.ok (.wld r l) S) = .ok (.p (.bool true)) S := rfl
def enuK (q : Res D) : Res (List D) := q.bind fun d S1 => match d with
  | .p (.tuple ds) => .ok (enuL 0 ds) S1
  | .p (.list ds) => .ok (enuL 0 ds) S1
  | _ => .bad
@[simp] theorem enuK_okL : enuK (.ok (.p (.list ps)) S) = .ok (enuL 0 ps) S := rfl
@[simp ↓] theorem ap_enu : fEnu fa ρ S = enuK (fa ρ S) := rfl
@[simp] theorem enuK_ok : enuK (.ok (.p (.tuple ps)) S) = .ok (enuL 0 ps) S := rfl
def raise1K (n : Str) (ρ : Env) (q : Res D) : Fl := q.thn ρ fun d S1 => match d with
  | .p d => .exc n [d] ρ S1
  | _ => .bad
@[simp ↓] theorem ap_raise1 : fRaise1 n fa ρ S = raise1K n ρ (fa ρ S) := rfl
@[simp] theorem raise1K_ok : raise1K n ρ (.ok (.p r) S) = .exc n [r] ρ S := rfl
def starK (fr : FA) (ρ : Env) (q : Res D) : Res (List D) := q.bind fun d S1 => match d with
  | .p (.tuple ds) => (fr ρ S1).bind fun xs S2 => .ok (ds.map D.p ++ xs) S2
  | .p (.list ds) => (fr ρ S1).bind fun xs S2 => .ok (ds.map D.p ++ xs) S2
  | _ => .bad
def star2K (ps : List PyData) (q : Res (List D)) : Res (List D) := q.bind fun xs S2 => .ok (ps.map D.p ++ xs) S2
@[simp ↓] theorem ap_star : fStar fa fr ρ S = starK fr ρ (fa ρ S) := rfl
@[simp] theorem starK_t : starK fr ρ (.ok (.p (.tuple ps)) S) = star2K ps (fr ρ S) := rfl
@[simp] theorem starK_l : starK fr ρ (.ok (.p (.list ps)) S) = star2K ps (fr ρ S) := rfl
@[simp] theorem star2K_ok : star2K ps (.ok xs S) = .ok (ps.map D.p ++ xs) S := rfl
def comp2K (vs : List Nat) (g : FG) (ft : FE) (fi1 : FI) (vs1 : List Nat) (g1 : FG) (ft1 fe : FE) (ρ : Env) (q : Res (List D)) : Res D := q.bind fun ds S1 => compE (compL2 g ft fi1 vs1 g1 ft1 fe (wipeE ρ vs) ds 0 S1)
@[simp ↓] theorem ap_comp2 : fComp2 vs fi g ft fi1 vs1 g1 ft1 fe ρ S = comp2K vs g ft fi1 vs1 g1 ft1 fe ρ (fi ρ S) := rfl
@[simp] theorem comp2K_ok : comp2K vs g ft fi1 vs1 g1 ft1 fe ρ (.ok ds S) = compE (compL2 g ft fi1 vs1 g1 ft1 fe (wipeE ρ vs) ds 0 S) := rfl
theorem asPs_map : ∀ xs : List PyData, asPs (xs.map D.p) = some xs
  | [] => rfl
  | x :: xs => by rw [List.map_cons, asPs, asPs_map xs]; rfl
theorem asPs_two : ∀ (xs ys : List PyData), asPs (xs.map D.p ++ ys.map D.p) = some (xs ++ ys) := fun xs ys => by
  rw [← List.map_append, asPs_map]
@[simp] theorem g_tlist : gList [.p (.tuple ps)] S = .ok (.p (.list ps)) S := rfl
@[simp] theorem g_llist : gList [.p (.list ps)] S = .ok (.p (.list ps)) S := rfl
theorem g_addL {ps qs : List PyData} (h : ps.length + qs.length < 1000000) : gAdd (.p (.list ps)) (.p (.list qs)) S = .ok (.p (.list (ps ++ qs))) S := if_pos h
theorem g_addT {ps qs : List PyData} (h : ps.length + qs.length < 1000000) : gAdd (.p (.tuple ps)) (.p (.tuple qs)) S = .ok (.p (.tuple (ps ++ qs))) S := if_pos h
theorem trim_low {S0 S' : Sto} (hl : S0.length < S'.length) (hd : d.low S0.length = true) (ho : (S'.take S0.length).all (O.low S0.length) = true) : trim S0 d S' = .ok d (S'.take S0.length) := by
  unfold trim
  rw [if_neg (by omega), if_pos (by rw [hd, ho]; rfl)]
end
end Tw
namespace Tw
open PySem PySem.Spec PyProof.Rows L2N
open L2 hiding St XE Takes CX takes_of passes_call MkP PMk ps_raise mk_of ps_try_as ps_try_many pmk_own passAt

/-! ### defs that are called with the error that a suite holds -/
/-- relates values and data, the held error among them -/
abbrev RpeA (c : Cw) (F : Hp) (io : List Addr) : List V → List D → Prop := Paired (RpE c F io)
abbrev rpeA (c : Cw) : Hp → List Addr → List V → List D → Prop := fun F io vs ds => RpeA c F io vs ds
def tAe (c : Cw) (f : FA) : TA := fun σ H Q => ∃ G F io S ρ, Good c.K G F io H S ∧ REnv c F io σ ρ ∧ Aft c G F io σ (rpeA c) Q (f ρ S)
/-- args: data first, then the held error -/
def fExn (i : Nat) : FA := fun ρ S => match ρ[i]? with
  | some (some .exn) => .ok [.exn] S
  | _ => .bad
section
variable {X : Cx} {c : Cw} {e : Expr} {es : List Expr} {fa : FE} {fr : FA} {y : Str} {p2 : Pos} {i : Nat}
theorem rpeA_mono {F F1 : Hp} {i i1 : List Addr} (e : Ext F i F1 i1) {vs : List V} {ds : List D} (h : RpeA c F i vs ds) : RpeA c F1 i1 vs ds := Paired.mapP h fun _ _ r => rpe_mono e r
theorem fa_exn (hy : X.N[i]? = some y) (hv : Vis X.env.scope y) (hd2 : (y == ("__debug__" : Str)) = false := by decide) (hd3 : (y == ("__classdict__" : Str)) = false := by decide)
    (hs : starEach [Expr.Name y p2] X.env = (false, eval (.Name y p2) X.env) :: starEach [] X.env := by rfl) : PA X [.Name y p2] (tAe c (fExn i)) :=
  pa_imp (pa_cons (pe_var (i := i) hy hv hd2 hd3) pa_nil hs) fun σ H Q ⟨G, F, io, S, ρ, gd, re, q⟩ => by
    unfold fExn at q
    split at q
    · rename_i hr
      obtain ⟨v, h1, h2⟩ := re.2 i _ hr
      exact ⟨v, h1, Aft.here (v := [v]) q gd (.cons h2 .nil)⟩
    · exact q.elim
theorem fa_consE (ha : PE X e (tE c fa)) (hr : PA X es (tAe c fr)) (hs : starEach (e :: es) X.env = (false, eval e X.env) :: starEach es X.env := by rfl) : PA X (e :: es) (tAe c (fCons fa fr)) :=
  pa_imp (pa_cons ha hr hs) fun σ H Q ⟨G, F, io, S, ρ, gd, re, q⟩ => ⟨G, F, io, S, ρ, gd, re, Aft.step q fun d1 S1 v1 F1 i1 H1 e1 g1 r1 q1 =>
    ⟨G, F1, i1, S1, ρ, g1, renv_mono e1 re, Aft.step q1 fun ds S2 vs F2 i2 H2 e2 g2 r2 q2 => Aft.here (v := v1 :: vs) q2 g2 (.cons (rpe_of (rp_mono e2 r1)) r2)⟩⟩
end
/-- the context of a suite's error, in a def that is called there -/
abbrev cU (K : PySem.W.Frag) (u : Ux) : Cw := ⟨K, some u, fun _ _ _ _ => False⟩
def spU (K : PySem.W.Frag) (u : Ux) (m : List D → Sto → Res D) (n : Nat) : Sp := fun vs H Q _ => vs.length = n ∧ ∃ G F io S ds, Good K G F io H S ∧ RpeA (cU K u) F io vs ds ∧ Aft (cU K u) G F io [] (rp (cU K u)) Q (m ds S)
/-- what a def promises where q's object stands and is not touched -/
structure FnU (P : Program) (w : World) (K : PySem.W.Frag) (mg : Str → Option Value) (base : Heap) (k : Nat) (f : Addr) (fd : FuncData) (ps : List Str) (sp : Sp) (q : Addr × Obj) : Prop where
  few : ∀ vs H Q E, sp vs H Q E → vs.length = ps.length
  go : ∀ (A : Around) (outer : List PySem.Env) (s : Shared) (H : Hp) (ar : Args) (us : List Value) (vs : List V) (Q : VK) (E : XK), L2H.RoomH k A → L2H.PinOk outer H s q → Env0 P w K mg base A outer s H → BindsTo s fd ar (ps.zip us) → Vals vs us → sp vs H Q E →
    codeAny (model P w) A (.call (.ref f) ar) (CR L2.CX0 outer P w H s Q E) s
section
variable {P : Program} {w : World} {K : PySem.W.Frag} {mg : Str → Option Value} {base : Heap} {x qual : Str} {params : Arguments} {body : List Stmt} {scope : Scope} {f : Addr} {fd : FuncData} {N ps : List Str} {k : Nat} {sp : Sp} {q : Addr × Obj}
theorem fnU_of (Fn : FunD K x qual params body scope [] [] f fd) (S : FnScope N ps scope) (few : ∀ vs H Q E, sp vs H Q E → vs.length = ps.length)
    (hbody : ∀ (cdv : Value) (A : Around) (outer : List PySem.Env) (s : Shared) (H : Hp) (vs : List V) (Q : VK) (E : XK), L2H.RoomH k (A.deeper (envOfC qual scope s.heap.objs.size f cdv)) → sp vs H Q E →
      ∃ t, PSs (L2H.cxH L2.CX0 P w K mg base N qual scope f cdv A outer s H E q) body t ∧ t { nx := fun _ H' => Q .non H', rt := Q } (L2.start N vs) H) : FnU P w K mg base (k + 1) f fd ps sp q := by
  obtain ⟨oc, od, dV, kV, doc, pm, an, cdv, ct, osl, rfl, at_, hc, _, _⟩ := Fn.ex
  refine ⟨few, fun A outer s H ar us vs Q E rm pin e0 bnd rv want => ?_⟩
  have many := few _ _ _ _ want
  have inK : K.In s.heap := e0.mod.kin.keeps fun b o e => (e0.bs b o e).1
  have nolim : s.heap.NoLimit := e0.mod.nolimit.keeps fun b o e => (e0.bs b o e).1
  have kinds : ∀ y ∈ ps.zip us, scope.names.lookup y.1 = some .local ∨ (scope.names.lookup y.1 = some .cell ∧ ((cellsFrom (s.heap.objs.size + 1) scope.names []).lookup y.1).isSome = true) := by
    rintro ⟨n, v⟩ hy
    rcases S.par n (List.of_mem_zip hy).1 with z | z
    · exact .inl z
    · exact .inr ⟨z, PySem.W.cellsFrom_some _ _ _ (.inl z)⟩
  refine codeAny_call_function rm.depth (inK _ _ at_) rfl S.co S.gen rfl (PySem.W.codeRec_of inK hc) (bnd _ _ _ _ ?_)
  refine wpAny_newFunctionEnv_cells S.kind kinds fun env he z1 made => ?_
  subst he
  refine ⟨nolim.keeps made.toInCall.keep, codeAny_func ?_⟩
  obtain ⟨t, walk, here⟩ := hbody cdv A outer s H vs Q E (rm.deeper _) want
  have J : Inv (L2H.cxH L2.CX0 P w K mg base N qual scope f cdv A outer s H E q) [] (L2.start N vs) H z1 := L2H.inv_startH S pin e0 many rv made
  refine wpAny_mono (walk.run [] z1 (L2.start N vs) H _ J here) (fun fl z2 out => ?_) fun er z2 out => out
  cases fl with
  | ret u =>
    obtain ⟨v, τ, H', J2, rv2, got⟩ := out
    exact ⟨v, H', J2.os, J2.bare, J2.base, J2.hok, rv2, got⟩
  | next =>
    obtain ⟨τ, H', J2, got⟩ := out
    exact ⟨.non, H', J2.os, J2.bare, J2.base, J2.hok, rfl, got⟩
  | brk =>
    obtain ⟨_, _, _, bad⟩ := out
    exact bad.elim
  | cont =>
    obtain ⟨_, _, _, bad⟩ := out
    exact bad.elim
end
section
variable {X : Cx} {k n : Nat} {f : Addr} {fd : FuncData} {ps : List Str} {sp : Sp} {x : Str} {q : Addr × Obj} {p pos : Pos} {e : Expr} {es : List Expr} {t : TA}
theorem pe_callU (F : FnU X.prog X.w X.K X.mg X.base k f fd ps sp q) (hr : L2H.RoomH k X.A) (hq : q ∈ X.pn) (hg : Gl X x) (hm : X.mg x = some (.ref f)) (hk : PySem.W.keepIn X.K (.ref f) = true) (hb : Binds X.K fd ps []) (ha : PA X (e :: es) t)
    (nd : (x == ("__debug__" : Str)) = false := by decide) (st : starEach (e :: es) X.env = (false, eval e X.env) :: starEach es X.env := by rfl) (pl : (backTo pos (starEach es X.env)).any (·.1) = false := by rfl) :
    PE X (.Call (.Name x p) (e :: es) [] pos) (fun σ H Q => t σ H fun vs H1 => sp vs H1 Q fun _ _ _ => False) := by
  refine ⟨fun pins s σ H Q I h => wpAny_Call_Name_kw (ld_glob I hg hm ?_ nd)⟩
  refine PySem.W.callWith_K (h₀ := X.base) I.ok.mod.kin hk (thn (ha.run pos pins s σ H _ I h) fun us s1 ⟨vs, H1, J, rv, want⟩ => ⟨J.kIn, ?_⟩) st pl
  have many : us.length = ps.length := (rv.length).symm.trans (F.few _ _ _ _ want)
  have bnd := hb s1 us J.kIn (by rw [List.append_nil]; exact many)
  rw [List.append_nil] at bnd
  have held := J.pin q (List.mem_append_left _ hq)
  have pin : L2H.PinOk X.stack H1 s1 q := ⟨held.1, held.2.1, fun hm2 => (List.mem_cons.mp (J.stkSub q.1 hm2)).elim held.2.2.1 held.2.2.2.1, held.2.2.2.2⟩
  refine wpAny_call (codeAny_mono (F.go X.A X.stack s1 H1 ⟨us, []⟩ us vs Q _ hr pin J.env0 bnd rv want) fun r s2 out => ?_)
  cases r with
  | error er => exact False.elim out
  | ok fl =>
    cases fl with
    | ret u => exact J.after out
    | next => exact False.elim out
    | brk => exact False.elim out
    | cont => exact False.elim out
end
end Tw
namespace Tw
open PySem PySem.Spec PyProof.Rows L2N
open L2 hiding St XE Takes CX takes_of passes_call MkP PMk ps_raise mk_of ps_try_as ps_try_many pmk_own passAt

/-! ### a list comprehension over a range, in an except suite -/
theorem inv_repin {X : Cx} {nw ps0 : List (Addr × Obj)} {τ : L2.St} {K0 : Hp} {z : Shared} (J : Inv X ps0 τ K0 z) (fine : ∀ q ∈ nw, z.heap.get? q.1 = some q.2 ∧ K0 q.1 = none ∧ q.1 ≠ X.env.locals ∧ q.1 ∉ X.fs ∧ ∀ v, q.2.data ≠ .cell v) : Inv { X with pn := nw } ps0 τ K0 z := by
  have k := J.ok
  exact ⟨⟨k.mod, k.kind, k.glob, k.blt, k.above, k.inj, k.has, k.cab, k.hd, k.frames, k.stk, k.exf, k.bs, k.bsz, k.noex, k.exfs, k.funs, k.frf⟩, J.os, J.bare, J.base, J.loc, J.cell, J.free, J.freeC,
    fun q hq => (List.mem_append.mp hq).elim (fine q) fun y => J.pin q (List.mem_append_right _ y), J.hok, J.len⟩
/-- the block of a comprehension, the pins of the def about it kept -/
abbrev blkP (X : Cx) (z : Shared) (K0 : Hp) (sc : Scope) (ce : PySem.Env) (fp : List Addr) : Cx := { X.blk z K0 sc ce fp with pn := X.pn }
section
variable {X : Cx}
theorem block_pins {ps0 : List (Addr × Obj)} {τ : L2.St} {K0 : Hp} {z : Shared} {sc : Scope} {mine : List (Str × Nat)} {fp : List Addr} (J : Inv X ps0 τ K0 z) (bk : BlkOk X.N X.env.scope sc mine) (nd : X.N.Nodup) (hf : ∀ b ∈ fp, FpOk X ps0 K0 b ∧ b < z.heap.objs.size) :
    Inv (blkP X z K0 sc (compEnvC sc (cellsFrom (z.heap.objs.size + 1) sc.names (cloFrom X.env.cells sc.names [])) z.heap.objs.size X.env) fp) [] (wipe τ (mine.map (·.2))) K0 { z with heap := pushCells (z.heap.push { cls := .type "dict", data := .dict #[] }) sc.names } := by
  refine inv_repin (block_start J bk nd hf) fun q hq => ?_
  obtain ⟨p1, p2, p3, p4, p5⟩ := J.pin q (List.mem_append_left _ hq)
  have below := Heap.lt_size p1
  refine ⟨pushCells_keeps _ _ _ _ (Heap.get?_push_of_some _ p1), p2, Nat.ne_of_lt below, fun hm => ?_, p5⟩
  exact (List.mem_cons.mp (J.stkSub q.1 hm)).elim p3 p4
theorem lc_hot {ps0 : List (Addr × Obj)} {z0 : Shared} {τ : L2.St} {K0 : Hp} {Q : VK} {elt tg iter : Expr} {ifs : List Expr} {sc : Scope} {mine : List (Str × Nat)} {p1 p2 : Pos} {wi : TI} {g : TG} {tt : TT} {te : TE} {use : Option (Value → Sem Unit)} {Qf : Value → Shared → Prop}
    (hot : L2H.HotC X) (nd : X.N.Nodup) (J0 : Inv X ps0 τ K0 z0) (hi : L2H.PIH X tg iter wi) (bk : BlkOk X.N X.env.scope sc mine)
    (hg : ∀ (z : Shared) (K1 : Hp) (C : Addr) (cl : List (Str × Addr)) (fp : List Addr), PG (blkP X z K1 sc (compEnvC sc cl C X.env) fp) tg g)
    (ht : ∀ (z : Shared) (K1 : Hp) (C : Addr) (cl : List (Str × Addr)) (fp : List Addr), PTs (blkP X z K1 sc (compEnvC sc cl C X.env) fp) ifs tt)
    (he : ∀ (z : Shared) (K1 : Hp) (C : Addr) (cl : List (Str × Addr)) (fp : List Addr), PE (blkP X z K1 sc (compEnvC sc cl C X.env) fp) elt te) (hs : ∀ x, foldedSetIterable iter X.env x = pure x)
    (want : tLc wi g tt te (mine.map (·.2)) τ K0 Q)
    (out : ∀ L C z m K1, Inv X ps0 τ K1 z → Q (.ref L) K1 → z.heap.Ns C m → FpOk X ps0 K1 C → compPost (model X.prog X.w) X.A X.xe use Qf (.ref L) C (.ok .next) z) :
    wpAny (model X.prog X.w) X.A (comprehension (.ListComp elt [⟨tg, iter, ifs, 0⟩] sc p1) sc X.env p2 (newList []) false (eval iter X.env) use) Qf X.xe z0 := by
  have frees : ∀ y ∈ sc.names, y.2 = .free → ∃ c, X.env.cells.lookup y.1 = some c := by
    intro y hy e
    rcases bk.free y hy e with k | k
    · exact J0.ok.has _ (.inl k)
    · exact J0.ok.has _ (.inr k)
  refine wpAny_comprehension_free (use := use) rfl hs (closure_ok frees) bk.kind (fun y hy e => by rw [bk.uniq y hy, e])
    (thn (hi.run ps0 z0 τ K0 _ J0 want) fun xv z1 hx => thn hx fun itv z2 made => ?_)
  obtain ⟨it, fp, tn, Jt, K2, rfl, J2, T, tn2, fp2, q⟩ := made
  refine wpAny_newObj_type (newEnv_comp ?_) (by show 0 ≤ sizeLine; decide)
  obtain ⟨L, hL⟩ : ∃ L, L = z2.heap.objs.size := ⟨_, rfl⟩
  have newL : K2 L = none := J2.hok.fresh (by rw [hL]; exact Nat.le_refl _)
  obtain ⟨W, ⟨m0, w0⟩, turn⟩ := q L newL
  obtain ⟨z3, hz3⟩ : ∃ z3 : Shared, z3 = { z2 with heap := z2.heap.push { cls := .type "list", data := .seq ([] : List Value).toArray } } := ⟨_, rfl⟩
  have heap3 : z3.heap = z2.heap.push { cls := .type "list", data := .seq ([] : List Value).toArray } := by rw [hz3]
  have grow : ∀ b o, z2.heap.get? b = some o → z3.heap.get? b = some o := fun b o e => by
    rw [heap3]
    exact Heap.get?_push_of_some _ e
  have J3 : Inv X ps0 τ (upd K2 L (.lst [])) z3 := by
    rw [hz3]
    refine J2.laid (t' := z2.toks) (fun b o e => Heap.get?_push_of_some _ e) (Nat.le_of_eq hL.symm) ⟨Nat.zero_le _, [], 0, .nil, ?_⟩
    rw [hL]
    exact Heap.get?_push_size _ rfl
  have small : ∀ b ∈ fp, b < z2.heap.objs.size := by
    intro b hb
    obtain ⟨o, e, _⟩ := T.obj _ _ tn2 b hb
    exact Heap.lt_size e
  have fp3 : ∀ b ∈ fp, FpOk X ps0 (upd K2 L (.lst [])) b ∧ b < z3.heap.objs.size := by
    intro b hb
    have lt := small b hb
    refine ⟨⟨?_, (fp2 b hb).2⟩, ?_⟩
    · rw [upd_ne (by rw [hL]; exact Nat.ne_of_lt lt)]
      exact (fp2 b hb).1
    · rw [heap3, Heap.size_push]
      exact Nat.lt_succ_of_lt lt
  have tn3 : tn 0 z3.heap := T.keep _ _ _ tn2 fun b _ o e => grow b o e
  have J4 := block_pins J3 bk nd fp3
  have PGt := hg z3 (upd K2 L (.lst [])) z3.heap.objs.size (cellsFrom (z3.heap.objs.size + 1) sc.names (cloFrom X.env.cells sc.names [])) fp
  have PTt := ht z3 (upd K2 L (.lst [])) z3.heap.objs.size (cellsFrom (z3.heap.objs.size + 1) sc.names (cloFrom X.env.cells sc.names [])) fp
  have PEt := he z3 (upd K2 L (.lst [])) z3.heap.objs.size (cellsFrom (z3.heap.objs.size + 1) sc.names (cloFrom X.env.cells sc.names [])) fp
  obtain ⟨ce, hce⟩ : ∃ ce, ce = compEnvC sc (cellsFrom (z3.heap.objs.size + 1) sc.names (cloFrom X.env.cells sc.names [])) z3.heap.objs.size X.env := ⟨_, rfl⟩
  have locs : ce.locals = z3.heap.objs.size := by
    rw [hce]
    rfl
  have fpn : ∀ b ∈ fp, (upd K2 L (.lst [])) b = none := fun b hb => (fp3 b hb).1.1
  obtain ⟨K3, hK3⟩ : ∃ K3, K3 = upd K2 L (.lst []) := ⟨_, rfl⟩
  obtain ⟨z4, hz4⟩ : ∃ z4 : Shared, z4 = { z3 with heap := pushCells (z3.heap.push { cls := .type "dict", data := .dict #[] }) sc.names } := ⟨_, rfl⟩
  rw [← hce, ← hK3] at PGt PTt PEt
  rw [← hce, ← hK3, ← hz4] at J4
  rw [← hK3] at J3 w0 fpn fp3
  have tn4 : tn 0 z4.heap := T.keep _ _ _ tn3 fun b _ o e => by
    rw [hz4]
    exact pushCells_keeps _ _ _ _ (Heap.get?_push_of_some _ e)
  rw [← hz3]
  show codeAny _ _ (.compStart (.ListComp elt [⟨tg, iter, ifs, 0⟩] sc p1) 0 (.ref it) (.ref z2.heap.objs.size) (compEnvC sc (cellsFrom (z3.heap.objs.size + 1) sc.names (cloFrom X.env.cells sc.names [])) z3.heap.objs.size X.env)) (compPost (model X.prog X.w) X.A X.xe use Qf (.ref z2.heap.objs.size) z3.heap.objs.size) { z3 with heap := pushCells (z3.heap.push { cls := .type "dict", data := .dict #[] }) sc.names }
  rw [← hz4, ← hL, ← hce]
  have hotB : L2H.HotC (blkP X z3 K3 sc ce fp) := hot
  have stat : ∀ {τ1 : L2.St} {K1 : Hp} {z : Shared}, Inv (blkP X z3 K3 sc ce fp) [] τ1 K1 z → (∀ b ∈ fp, K1 b = none) → ∀ b ∈ fp, FpOk (blkP X z3 K3 sc ce fp) [] K1 b := by
    intro τ1 K1 z J hn b hb
    refine ⟨hn b hb, (J.ok.exf b hb).1, J.ok.exfs b hb, .inl hb, fun x c e => (J.ok.exf b hb).2 x c e, fun p hp => ?_⟩
    rw [List.append_nil] at hp
    exact (fp3 b hb).1.2.2.2.2.2 p (List.mem_append_left _ hp)
  have loop : codeAny (model X.prog X.w) X.A (.compLoop (.ListComp elt [⟨tg, iter, ifs, 0⟩] sc p1) 0 (.ref it) (.ref L) ce) (compPost (model X.prog X.w) X.A X.xe use Qf (.ref L) z3.heap.objs.size) z4 := by
    refine compLoop_any (fun n z => ∃ i K1, Inv (blkP X z3 K3 sc ce fp) [] (wipe τ (mine.map (·.2))) K1 z ∧ tn i z.heap ∧ (∀ b ∈ fp, K1 b = none) ∧ W i n K1) ?_ m0 ⟨0, K3, J4, tn4, fpn, w0⟩
    rintro n z5 ⟨i, K5, J5, tn5, n5, w5⟩
    rcases turn i n K5 w5 with ⟨stop, qq⟩ | ⟨go, Nx, less, step⟩
    · refine thnF (T.done (blkP X z3 K3 sc ce fp) rfl rfl rfl hotB i [] z5 _ K5 (fun _ _ => False) J5 (stat J5 n5) tn5 stop) fun r z6 ⟨hr, J6⟩ => ?_
      subst hr
      have J7 : Inv X ps0 τ K5 z6 := J3.call' (ch := fp) J6.os J6.base J6.hok J6.bare fun b hb => ⟨(fp3 b hb).1.2.2.2.1, (fp3 b hb).1.2.1, (fp3 b hb).1.2.2.2.2.1, (fp3 b hb).1.2.2.2.2.2⟩
      have none5 : K5 z3.heap.objs.size = none := by
        have y : K5 ce.locals = none := J6.free
        rw [locs] at y
        exact y
      obtain ⟨m, hm, _⟩ := J6.loc
      have hm : z6.heap.Ns ce.locals m := hm
      rw [locs] at hm
      exact out L z3.heap.objs.size z6 m K5 J7 qq hm (J3.fpOk (Nat.le_refl _) none5)
    · refine thnF (T.item (blkP X z3 K3 sc ce fp) rfl rfl rfl hotB i [] z5 _ K5 (fun _ _ => False) J5 (stat J5 n5) tn5 go) fun r z6 ⟨u, hr, next⟩ => ?_
      subst hr
      refine thnF next fun _ z7 ⟨x, K7, J7, r7, y7, tn7, n7⟩ => ?_
      have J7p := J7.pinned (stat J7 n7) (T.obj _ _ tn7)
      refine thnF (PGt.run _ z7 _ K7 x u _ J7p r7 (step x K7 y7)) fun _ z8 ⟨τ8, K8, J8, hw8, q8⟩ => ?_
      refine thnF (PTt.run _ z8 τ8 K8 _ J8 q8) fun b z9 ⟨K9, J9, q9⟩ => ?_
      have again : ∀ {z : Shared} {K1 : Hp}, Inv (blkP X z3 K3 sc ce fp) ([] ++ pinsAt fp z7.heap) τ8 K1 z → Nx K1 → ∃ m, m < n ∧ ∃ i K1, Inv (blkP X z3 K3 sc ce fp) [] (wipe τ (mine.map (·.2))) K1 z ∧ tn i z.heap ∧ (∀ b ∈ fp, K1 b = none) ∧ W i m K1 := by
        intro z K1 J nx
        obtain ⟨m2, lt2, w2⟩ := less K1 nx
        have held : ∀ b ∈ fp, ∀ o, z7.heap.get? b = some o → z.heap.get? b = some o ∧ K1 b = none := fun b hb o e => by
          have y := J.pin (b, o) (List.mem_append_right _ (List.mem_append_right _ (mem_pinsAt hb e)))
          exact ⟨y.1, y.2.1⟩
        have sameLen : (wipe τ (mine.map (·.2))).length = τ8.length := by rw [← hw8, wipe_length]
        refine ⟨m2, lt2, i + 1, K1, (J.unpinned (pins := [])).weak sameLen (fun j v e => ?_), T.keep _ _ _ tn7 fun b hb o e => (held b hb o e).1, fun b hb => ?_, w2⟩
        · rw [← hw8] at e
          exact (wipe_some e).1
        · obtain ⟨o, e, _⟩ := T.obj _ _ tn7 b hb
          exact (held b hb o e).2
      cases b with
      | false =>
        have q9 : Nx K9 := by simpa using q9
        simpa using again J9 q9
      | true =>
        have q9 : te τ8 K9 fun y K1 => ∃ acc, K1 L = some (.lst acc) ∧ acc.length < sizeLine ∧ Nx (upd K1 L (.lst (acc ++ [y]))) := by simpa using q9
        simp only [if_true]
        refine thnF (PEt.run _ z9 τ8 K9 _ J9 q9) fun y z10 ⟨yv, K10, J10, r10, acc, at10, len10, nx⟩ => ?_
        exact app_ok (X := blkP X z3 K3 sc ce fp) J10 at10 len10 r10 fun z11 J11 => again J11 nx
  exact codeAny_compStart_list loop (T.self X.A 0 _ _ _ tn4 loop)
theorem pe_lcH {elt tg iter : Expr} {ifs : List Expr} {sc : Scope} {mine : List (Str × Nat)} {p1 : Pos} {wi : TI} {g : TG} {tt : TT} {te : TE} (hot : L2H.HotC X) (nd : X.N.Nodup) (hi : L2H.PIH X tg iter wi) (bk : BlkOk X.N X.env.scope sc mine)
    (hg : ∀ (z : Shared) (K1 : Hp) (C : Addr) (cl : List (Str × Addr)) (fp : List Addr), PG (blkP X z K1 sc (compEnvC sc cl C X.env) fp) tg g)
    (ht : ∀ (z : Shared) (K1 : Hp) (C : Addr) (cl : List (Str × Addr)) (fp : List Addr), PTs (blkP X z K1 sc (compEnvC sc cl C X.env) fp) ifs tt)
    (he : ∀ (z : Shared) (K1 : Hp) (C : Addr) (cl : List (Str × Addr)) (fp : List Addr), PE (blkP X z K1 sc (compEnvC sc cl C X.env) fp) elt te) (hs : ∀ x, foldedSetIterable iter X.env x = pure x := by intro _; rfl) :
    PE X (.ListComp elt [⟨tg, iter, ifs, 0⟩] sc p1) (tLc wi g tt te (mine.map (·.2))) := by
  refine ⟨fun ps0 z τ K0 Q J h => ?_⟩
  rw [eval_ListComp]
  refine lc_hot hot nd J hi bk hg ht he hs h fun L C z1 m K1 J1 q hm f => ⟨m, hm, fun h2 sb => ?_⟩
  obtain ⟨f0, f1, f2, f3, f4, f5⟩ := f
  exact ⟨.ref L, K1, J1.turned (t' := z1.toks) (fun b o hb e => (sb.2 b hb).trans e) f0 f1 f3 f4 f5, rfl, q⟩
end
end Tw
namespace Tw
open PySem PySem.Spec PyProof.Rows L2N
open L2 hiding St XE Takes CX takes_of passes_call MkP PMk ps_raise mk_of ps_try_as ps_try_many pmk_own passAt

/-! ### such defs, read -/
section
variable {K : PySem.W.Frag} {P : Program} {w : World} {mg : Str → Option Value} {base : Heap} {x qual : Str} {params : Arguments} {body : List Stmt} {scope : Scope} {f : Addr} {fd : FuncData} {N ps : List Str} {k : Nat} {m : FS} {u : Ux} {ob : Obj}
theorem start_renvU {c : Cw} {F : Hp} {io : List Addr} {vs : List V} {ds : List D} (r : RpeA c F io vs ds) : REnv c F io (L2.start N vs) (ds.map some ++ List.replicate (N.length - ds.length) none) := by
  unfold L2.start
  have hl := paired_len r
  refine ⟨by simp [hl], fun i d h => ?_⟩
  by_cases hi : i < ds.length
  · rw [List.getElem?_append_left (by simpa using hi), List.getElem?_map] at h
    rw [List.getElem?_append_left (by simpa [hl] using hi), List.getElem?_map]
    cases e : ds[i]? with
    | none => rw [e] at h; cases h
    | some d' =>
      rw [e] at h
      obtain rfl := Option.some.inj (Option.some.inj h)
      obtain ⟨v, h1, h2⟩ := paired_get r e
      exact ⟨v, by rw [h1]; rfl, h2⟩
  · rw [List.getElem?_append_right (by simpa using Nat.le_of_not_lt hi), List.getElem?_replicate] at h
    split at h
    · cases h
    · cases h
theorem fn_okU (Fn : FunD K x qual params body scope [] [] f fd) (S : FnScope N ps scope)
    (hb : ∀ (cdv : Value) (A : Around) (outer : List PySem.Env) (s : Shared) (H : Hp) (E : XK), L2H.RoomH k (A.deeper (envOfC qual scope s.heap.objs.size f cdv)) → PSs (L2H.cxH L2.CX0 P w K mg base N qual scope f cdv A outer s H E (u.a, ob)) body (tS (cU K u) m)) :
    FnU P w K mg base (k + 1) f fd ps (spU K u (callM N.length m) ps.length) (u.a, ob) := by
  refine fnU_of Fn S (fun vs H Q E h => h.1) fun cdv A outer s H vs Q E hr h => ⟨_, hb cdv A outer s H E hr, ?_⟩
  obtain ⟨_, G, F, io, St, ds, g, r, q⟩ := h
  refine ⟨G, F, io, St, _, g, start_renvU (c := cU K u) (N := N) r, ?_⟩
  unfold callM at q
  have keep : ∀ {d : D} {S' : Sto}, Aft (cU K u) G F io [] (rp (cU K u)) Q (trim St d S') → ∀ v F' io' H', Ext F io F' io' → Good K G F' io' H' S' → Rp K F' io' v d → Q v H' := fun {d S'} q v F' io' H' e' g' r' => by
    unfold trim at q
    by_cases h1 : S'.length = St.length
    · rw [if_pos h1] at q
      exact q v F' io' H' e' g' r'
    · rw [if_neg h1] at q
      by_cases h2 : (d.low St.length && (S'.take St.length).all (O.low St.length)) = true
      · rw [if_pos h2] at q
        rw [Bool.and_eq_true] at h2
        have e3 := take_ext e' (g.len)
        have g3 := g'.trim h2.2
        have r3 := rp_low h2.1 r'
        rw [e3] at g3 r3
        exact q v F' io H' ⟨e'.same, [], by simp⟩ g3 r3
      · rw [if_neg h2] at q
        exact q.elim
  cases hm : m (ds.map some ++ List.replicate (N.length - ds.length) none) St with
  | rt d S' =>
    rw [hm] at q
    exact keep q
  | nx ρ' S' =>
    rw [hm] at q
    exact fun σ F' io' H' e' g' _ => keep q .non F' io' H' e' g' Dq.non
  | exc n as ρ' S' =>
    rw [hm] at q
    have q : Aft (cU K u) G F io [] (rp (cU K u)) Q (trimX St n as S') := q
    unfold trimX at q
    intro cls dd σ F' io' H' e' g' _ x'
    by_cases h1 : S'.length = St.length
    · rw [if_pos h1] at q
      exact q cls dd F' io' H' e' g' x'
    · rw [if_neg h1] at q
      by_cases h2 : ((S'.take St.length).all (O.low St.length)) = true
      · rw [if_pos h2] at q
        have e3 := take_ext e' (g.len)
        have g3 := g'.trim h2
        rw [e3] at g3
        exact q cls dd F' io H' ⟨e'.same, [], by simp⟩ g3 x'
      · rw [if_neg h2] at q
        exact q.elim
  | bk ρ' S' => rw [hm] at q; exact q.elim
  | ct ρ' S' => rw [hm] at q; exact q.elim
  | bad => rw [hm] at q; exact q.elim
end
structure CalU (P : Program) (w : World) (K : PySem.W.Frag) (mg : Str → Option Value) (base : Heap) (x : Str) (k n : Nat) (u : Ux) (ob : Obj) (m : List D → Sto → Res D) : Prop where
  ex : ∃ f fd ps, FnU P w K mg base k f fd ps (spU K u m n) (u.a, ob) ∧ mg x = some (.ref f) ∧ PySem.W.keepIn K (.ref f) = true ∧ Binds K fd ps []
section
variable {X : Cx} {c : Cw} {x : Str} {p pos : Pos} {e : Expr} {es : List Expr} {k n : Nat} {m : List D → Sto → Res D} {fr : FA} {u : Ux} {ob : Obj}
theorem fe_calU (h : CalU X.prog X.w X.K X.mg X.base x k n u ob m) (hc : c = cU X.K u) (hr : L2H.RoomH k X.A) (hq : (u.a, ob) ∈ X.pn) (ha : PA X (e :: es) (tAe c fr)) (hl : ∀ ρ S ds S', fr ρ S = .ok ds S' → ds.length = (e :: es).length) (hn : (e :: es).length = n := by rfl) (hg : Gl X x := by rfl) (hdb : (x == ("__debug__" : Str)) = false := by decide)
    (he : starEach (e :: es) X.env = (false, eval e X.env) :: starEach es X.env := by rfl) (hpl : (backTo pos (starEach es X.env)).any (·.1) = false := by rfl) : PE X (.Call (.Name x p) (e :: es) [] pos) (tE c (fCall m fr)) := by
  subst hc
  obtain ⟨f, fd, ps, F, hm, hk, hb⟩ := h.ex
  refine pe_imp (pe_callU F hr hq hg hm hk hb ha hdb he hpl) fun σ H Q ⟨G, F1, io, S, ρ, gd, re, q⟩ => ⟨G, F1, io, S, ρ, gd, re, ?_⟩
  unfold fCall at q
  cases hf : fr ρ S with
  | bad => rw [hf] at q; exact q.elim
  | exc nm as S1 => rw [hf] at q; exact q
  | ok ds S1 =>
    rw [hf] at q
    intro vs F2 i2 H2 e2 g2 r2
    refine ⟨by rw [paired_len r2, hl ρ S ds S1 hf, hn], G, F2, i2, S1, ds, g2, r2, ?_⟩
    have q2 : Aft (cU X.K u) G F2 i2 σ (rp (cU X.K u)) Q (m ds S1) := Aft.ext q e2
    cases hm : m ds S1 with
    | ok d S3 => rw [hm] at q2; exact q2
    | exc nm as S3 => rw [hm] at q2; exact q2
    | bad => rw [hm] at q2; exact q2
end
theorem fr_len_exn {i : Nat} : ∀ (ρ : Env) (S : Sto) (ds : List D) (S' : Sto), fExn i ρ S = .ok ds S' → ds.length = 1 := fun ρ S ds S' h => by
  unfold fExn at h
  split at h
  · obtain ⟨rfl, rfl⟩ := Res.ok.inj h
    rfl
  · cases h
/-! ### what the held error is and has, in such a def and in the suite -/
theorem call_isP {X : Cx} {a D : Addr} {dd : Option Addr} {oe : Obj} (hp : (a, oe) ∈ X.pn) (C : ExcC X.K D) (hz : Zc (.ref D) dd oe) (hf : ∃ vs, oe.data = .fields vs) : CallR X (.builtin "isinstance") (rIsF X.K D a dd) := by
  rintro pins s σ H xs us Q I r ⟨c, cv, b, rfl, hcv, e, hdd, q⟩
  obtain ⟨u1, u2, rfl, r1, r2⟩ := vals2 r
  obtain rfl : u1 = Value.ref a := r1
  obtain rfl := hcv _ r2
  obtain ⟨hget, _⟩ := I.pin (a, oe) (List.mem_append_left _ hp)
  obtain ⟨vs, hv⟩ := hf
  have inst : ∃ od, PySem.W.InstAt s.heap a oe D od := by
    have nc : PySem.W.notCls oe = true := by
      unfold PySem.W.notCls
      rw [hv]
    rcases hdd with rfl | ⟨d, fs, rfl, hd⟩
    · exact ⟨none, hget, hz.1, nc, by rw [hz.2]; trivial⟩
    · obtain ⟨mA, hns, hr⟩ := (show ObjOk X.prog X.w H s.heap d (.xd fs) from I.hok d _ hd)
      obtain ⟨od, ho, _⟩ := lookIn_ns hns
      exact ⟨some od, hget, hz.1, nc, by rw [hz.2]; exact ho⟩
  obtain ⟨od, J⟩ := inst
  have cl : (PySem.W.clsIn X.K D).isSome = true := by
    obtain ⟨cd, hc, _⟩ := PySem.W.any_some C.hd
    rw [hc]
    rfl
  exact PySem.W.kia_one (PySem.W.kitx_exc cl C.hg C.hk C.hs C.ha C.hn C.ht C.hm) I.kIn J e (fun z => nomatch z) fun tk => ⟨.bl b, H, I.kept (t' := tk) fun _ _ z => z, rfl, q⟩
def fcKitV (n : Str) : PySem.W.Frag → Bool := fun K => decide (PySem.W.kitOne K (.ref (He.ga K n)) (.type "ValueError") = some true)
def fIsV (ns : List Str) (i : Nat) (n : Str) : FE := fun ρ S => match ρ[i]? with
  | some (some .exn) => if n ∈ ns then .ok (.p (.bool true)) S else .bad
  | _ => .bad
/-- e.f, the j-th of m fields -/
def fXj (ns : List Str) (i m j : Nat) (n : Str) (as : List PyData) : FE := fun ρ S => match ρ[i]? with
  | some (some .exn) => if n ∈ ns ∧ as.length = m then (match as[j]? with
    | some d => .ok (.p d) S
    | none => .bad) else .bad
  | _ => .bad
section
variable {X : Cx} {c : Cw} {u : Ux} {ob : Obj} {y x fn : Str} {ns : List Str} {i m j : Nat} {p1 p2 p3 pos : Pos}
theorem held_at {F : Hp} {io : List Addr} {σ : L2.St} {ρ : Env} (hU : c.U = some u) (re : REnv c F io σ ρ) (hr : ρ[i]? = some (some .exn)) : σ[i]? = some (some (.ref u.a)) ∧ IsX c.K F u.n u.as u.cls u.dd := by
  obtain ⟨v, h1, u', h2, h3, h4⟩ := re.2 i _ hr
  rw [hU] at h2
  obtain rfl := Option.some.inj h2
  rw [h3] at h1
  exact ⟨h1, h4⟩
theorem held_dict {F H : Hp} {K : PySem.W.Frag} (hx : IsX K F u.n u.as u.cls u.dd) (e : Same F H) : u.dd = none ∨ ∃ d fs, u.dd = some d ∧ H d = some (.xd fs) := by
  obtain ⟨_, ⟨_, h⟩ | ⟨d, vs, _, h, h2, _⟩⟩ := hx
  · exact .inl h
  · exact .inr ⟨d, _, h, e _ _ h2⟩
theorem fe_isP (hp : (u.a, ob) ∈ X.pn) (hU : c.U = some u) (hK : c.K = X.K) (hz : Zc u.cls u.dd ob) (hu : ∃ us, ob.data = .fields us)
    (hC : ∀ m ∈ ns, ExcC X.K (He.ga X.K m)) (hk : ∀ m ∈ ns, PySem.W.kitOne X.K (.ref (He.ga X.K m)) (.ref (He.ga X.K x)) = some (subX m x)) (gx : X.mg x = some (.ref (He.ga X.K x))) (b0 : X.mg "isinstance" = none) (hg : Gl X "isinstance") (hgx : Gl X x)
    (hy : X.N[i]? = some y) (hv : Vis X.env.scope y) (hd1 : (x == ("__debug__" : Str)) = false := by decide) (hd2 : (y == ("__debug__" : Str)) = false := by decide) (hd3 : (y == ("__classdict__" : Str)) = false := by decide)
    (s1 : starEach [Expr.Name y p2, .Name x p3] X.env = (false, eval (.Name y p2) X.env) :: starEach [.Name x p3] X.env := by rfl) (s2 : starEach [Expr.Name x p3] X.env = (false, eval (.Name x p3) X.env) :: starEach [] X.env := by rfl)
    (s3 : (backTo pos (starEach [Expr.Name x p3] X.env)).any (·.1) = false := by rfl) : PE X (.Call (.Name "isinstance" p1) [.Name y p2, .Name x p3] [] pos) (tE c (fIsY ns i x u.n)) := by
  refine ⟨fun pins s σ H Q I ⟨G, F, io, S, ρ, gd, re, q⟩ => ?_⟩
  unfold fIsY at q
  split at q
  · rename_i hr
    by_cases hn : u.n ∈ ns
    · rw [if_pos hn] at q
      obtain ⟨h1, hx⟩ := held_at hU re hr
      have hcl : u.cls = .ref (He.ga X.K u.n) := by rw [← hK]; exact hx.1
      rw [hcl] at hz
      refine (pe_callB (call_isP hp (hC u.n hn) hz hu) hg b0 boot_isinstance (pa_cons (pe_var hy hv hd2 hd3) (pa_cons (pe_glob (v := .ref (He.ga X.K x)) hgx gx rfl hd1) pa_nil s2) s1) (by decide) (by decide) s1 s3).run pins s σ H Q I ?_
      exact ⟨.ref u.a, h1, .ref (He.ga X.K x), .ref (He.ga X.K x), _, rfl, fun u hu => hu, hk u.n hn, held_dict hx gd.ex, hereP (v := .bl _) q gd (Dq.bl _)⟩
    · rw [if_neg hn] at q
      exact q.elim
  · exact q.elim
theorem fe_isV (hp : (u.a, ob) ∈ X.pn) (hU : c.U = some u) (hK : c.K = X.K) (hz : Zc u.cls u.dd ob) (hu : ∃ us, ob.data = .fields us)
    (hC : ∀ m ∈ ns, ExcC X.K (He.ga X.K m)) (hk : ∀ m ∈ ns, fcKitV m X.K = true) (gx : X.mg "ValueError" = none) (b0 : X.mg "isinstance" = none) (hg : Gl X "isinstance") (hgx : Gl X "ValueError")
    (hy : X.N[i]? = some y) (hv : Vis X.env.scope y) (bt : bootBuiltins "ValueError" = some (.type "ValueError")) (hd2 : (y == ("__debug__" : Str)) = false := by decide) (hd3 : (y == ("__classdict__" : Str)) = false := by decide)
    (s1 : starEach [Expr.Name y p2, .Name "ValueError" p3] X.env = (false, eval (.Name y p2) X.env) :: starEach [.Name "ValueError" p3] X.env := by rfl) (s2 : starEach [Expr.Name "ValueError" p3] X.env = (false, eval (.Name "ValueError" p3) X.env) :: starEach [] X.env := by rfl)
    (s3 : (backTo pos (starEach [Expr.Name "ValueError" p3] X.env)).any (·.1) = false := by rfl) : PE X (.Call (.Name "isinstance" p1) [.Name y p2, .Name "ValueError" p3] [] pos) (tE c (fIsV ns i u.n)) := by
  refine ⟨fun pins s σ H Q I ⟨G, F, io, S, ρ, gd, re, q⟩ => ?_⟩
  unfold fIsV at q
  split at q
  · rename_i hr
    by_cases hn : u.n ∈ ns
    · rw [if_pos hn] at q
      obtain ⟨h1, hx⟩ := held_at hU re hr
      have hcl : u.cls = .ref (He.ga X.K u.n) := by rw [← hK]; exact hx.1
      rw [hcl] at hz
      refine (pe_callB (call_isP hp (hC u.n hn) hz hu) hg b0 boot_isinstance (pa_cons (pe_var hy hv hd2 hd3) (pa_cons (pe_bltn (v := .ty "ValueError") hgx gx bt rfl) pa_nil s2) s1) (by decide) (by decide) s1 s3).run pins s σ H Q I ?_
      exact ⟨.ref u.a, h1, .ty "ValueError", .type "ValueError", true, rfl, fun u hu => hu, of_decide_eq_true (hk u.n hn), held_dict hx gd.ex, hereP (v := .bl _) q gd (Dq.bl _)⟩
    · rw [if_neg hn] at q
      exact q.elim
  · exact q.elim
/-- e.f of the pinned error -/
theorem pe_heldF {D dx : Addr} {fs : List (Str × V)} {e : Expr} (T : XfC X.K D) (hno : PySem.W.findIn X.K (.ref D) fn = some none) (hp : (u.a, ob) ∈ X.pn) (hz : Zc (.ref D) (some dx) ob) (hu : ∃ us, ob.data = .fields us) {te : TE} (he : PE X e te) (hb : attributeBase e fn X.env (eval e X.env) = eval e X.env) :
    PE X (.Attribute e fn pos) (fun σ H Q => te σ H fun x H1 => x = .ref u.a ∧ H1 dx = some (.xd fs) ∧ ∃ v, fs.lookup fn = some v ∧ Q v H1) := by
  refine ⟨fun ps0 z τ K0 Q J want => attr_of hb (thn (he.run ps0 z τ K0 _ J want) fun w0 z1 got => ?_)⟩
  obtain ⟨x, H1, J1, rx, ex, atd, v, look, q⟩ := got
  subst ex
  obtain rfl : w0 = Value.ref u.a := rx
  obtain ⟨stands, _⟩ := J1.pin (u.a, ob) (List.mem_append_left _ hp)
  obtain ⟨us, hd⟩ := hu
  obtain ⟨mA, hns, hr⟩ := (show ObjOk X.prog X.w H1 z1.heap dx (.xd fs) from J1.hok dx _ atd)
  obtain ⟨od, ho, hl⟩ := lookIn_ns hns
  obtain ⟨u2, hu2, ru⟩ := RelO.some_of (v := v) (o := mA fn) (by rw [← look]; exact hr fn)
  have inst : PySem.W.InstAt z1.heap u.a ob D (some od) := by
    refine ⟨stands, hz.1, ?_, ?_⟩
    · unfold PySem.W.notCls
      rw [hd]
    · rw [hz.2]
      exact ho
  exact HandSPX.exc_get J1.kIn inst T.ga T.gg T.exC (PySem.W.findObj_own T.hdC hno rfl (by rw [hl, hu2])) (handed_of ru) ⟨v, H1, J1.tok _, ru, q⟩
theorem fe_xj (hp : (u.a, ob) ∈ X.pn) (hU : c.U = some u) (hK : c.K = X.K) (hz : Zc u.cls u.dd ob) (hu : ∃ us, ob.data = .fields us) (hC : ∀ m ∈ ns, XfC X.K (He.ga X.K m) ∧ PySem.W.findIn X.K (.ref (He.ga X.K m)) fn = some none) (h0 : 0 < m) (hlk : ∀ vs : List V, vs.length = m → ((flds m).zip vs).lookup fn = vs[j]?)
    (hy : X.N[i]? = some y) (hv : Vis X.env.scope y) (hd2 : (y == ("__debug__" : Str)) = false := by decide) (hd3 : (y == ("__classdict__" : Str)) = false := by decide)
    (hb : attributeBase (.Name y p2) fn X.env (eval (.Name y p2) X.env) = eval (.Name y p2) X.env := by rfl) : PE X (.Attribute (.Name y p2) fn pos) (tE c (fXj ns i m j u.n u.as)) := by
  refine ⟨fun pins s σ H Q I ⟨G, F, io, S, ρ, gd, re, q⟩ => ?_⟩
  unfold fXj at q
  split at q
  · rename_i hr
    by_cases hn : u.n ∈ ns ∧ u.as.length = m
    · rw [if_pos hn] at q
      split at q
      · rename_i d hd
        obtain ⟨h1, hcl, hdd⟩ := held_at hU re hr
        have hcl : u.cls = .ref (He.ga X.K u.n) := by rw [← hK]; exact hcl
        rcases hdd with ⟨h, _⟩ | ⟨dx, vs, _, h2, h3, h4⟩
        · rw [h] at hn
          have := hn.2
          simp at this
          omega
        · rw [hcl, h2] at hz
          obtain ⟨v, hv1, hv2⟩ := dpa_get _ _ j d h4 hd
          have lv : vs.length = m := (dpa_len _ _ h4).trans hn.2
          have look := hlk vs lv
          rw [hv1, ← hn.2] at look
          exact (pe_heldF (hC u.n hn.1).1 (hC u.n hn.1).2 hp hz hu (pe_var (i := i) hy hv hd2 hd3) hb).run pins s σ H Q I ⟨.ref u.a, h1, rfl, gd.ex _ _ h3, v, look, hereP (v := v) q gd hv2⟩
      · exact q.elim
    · rw [if_neg hn] at q
      exact q.elim
  · exact q.elim
end
theorem xl_index : ∀ vs : List V, vs.length = 1 → ((flds 1).zip vs).lookup ("index" : Str) = vs[0]? := fun vs h => by
  match vs, h with
  | [a], _ => kernel_rfl
theorem xl_word : ∀ vs : List V, vs.length = 2 → ((flds 2).zip vs).lookup ("word" : Str) = vs[0]? := fun vs h => by
  match vs, h with
  | [a, b], _ => kernel_rfl
theorem xl_line : ∀ vs : List V, vs.length = 2 → ((flds 2).zip vs).lookup ("line" : Str) = vs[1]? := fun vs h => by
  match vs, h with
  | [a, b], _ => kernel_rfl
/-! ### a comprehension over a range, in a suite, read -/
section
variable {X : Cx} {c : Cw} {elt tg iter : Expr} {ifs : List Expr} {scope : Scope} {mine : List (Str × Nat)} {pos : Pos} {fi : FI} {g : FG} {ft fe : FE} {fr : FA}
theorem pih_imp {a b : TI} (h : L2H.PIH X tg iter a) (i : ∀ σ H R, b σ H R → a σ H R) : L2H.PIH X tg iter b := ⟨fun pins s σ H R I q => h.run pins s σ H R I (i σ H R q)⟩
theorem fi_rng1H {a : Expr} (h : ∀ {ta : TA}, PA X [a] ta → L2H.PIH X tg iter (iRng1 ta)) (ha : PA X [a] (tA c fr)) : L2H.PIH X tg iter (tI c (fRng1 fr)) := pih_imp (h ha) fun σ H R ⟨G, F, io, S, ρ, gd, re, q⟩ => ⟨G, F, io, S, ρ, gd, re, Aft.step q fun ds S1 vs F1 i1 H1 e1 g1 r1 q1 => by
  have key : ∀ {ds : List D} {vs : List V}, RpA c.K F1 i1 vs ds → Aft c G F1 i1 σ (fun F' io' (J : It) (ds : List D) => ItD c F' io' J ds) R (match ds with
      | [.p (.int j)] => if -1000000 < j ∧ j < 1000000 then .ok (rng 0 j.toNat) S1 else .bad
      | _ => .bad) → ∃ j : Int, vs = [.int j] ∧ (-(2 ^ 62) ≤ j ∧ j < 2 ^ 62) ∧ R (Itr 0 j.toNat) H1 := fun {ds vs} r q1 => by
    split at q1
    · rename_i j
      cases r with
      | cons ra rb =>
        cases ra
        cases rb
        by_cases hj : -1000000 < j ∧ j < 1000000
        · rw [if_pos hj] at q1
          exact ⟨j, rfl, ⟨by omega, by omega⟩, Aft.here q1 g1 itd_rng⟩
        · rw [if_neg hj] at q1
          exact q1.elim
    · exact q1.elim
  obtain ⟨j, h1, h2, h3⟩ := key r1 q1
  exact ⟨j, h1, h2.1, h2.2, h3⟩⟩
theorem fe_compH (hot : L2H.HotC X) (nd : X.N.Nodup) (bk : BlkOk X.N X.env.scope scope mine) (hi : L2H.PIH X tg iter (tI c fi))
    (hg : ∀ (z : Shared) (K1 : Hp) (C : Addr) (cl : List (Str × Addr)) (fp : List Addr), PG (blkP X z K1 scope (compEnvC scope cl C X.env) fp) tg (tG c.dry (mine.map (·.2)) g))
    (ht : ∀ (z : Shared) (K1 : Hp) (C : Addr) (cl : List (Str × Addr)) (fp : List Addr), PTs (blkP X z K1 scope (compEnvC scope cl C X.env) fp) ifs (tT c.dry ft))
    (he : ∀ (z : Shared) (K1 : Hp) (C : Addr) (cl : List (Str × Addr)) (fp : List Addr), PE (blkP X z K1 scope (compEnvC scope cl C X.env) fp) elt (tE c.dry fe)) (hs : ∀ x, foldedSetIterable iter X.env x = pure x := by intro _; rfl) :
    PE X (.ListComp elt [⟨tg, iter, ifs, 0⟩] scope pos) (tE c (fComp (mine.map (·.2)) fi g ft fe)) := pe_imp (pe_lcH hot nd hi bk hg ht he hs) lc_main
end
/-! ### errors with two fields -/
def spX2 (K : PySem.W.Frag) (n f1 f2 : Str) : Sp := fun vs H Q _ => ∃ a y z, vs = [.ref a, y, z] ∧ H a = some (exo a (He.ga K n) none) ∧ ∀ dx, H dx = none → dx ≠ a → Q .non (upd (upd (upd H dx (exd dx [(f1, y)])) a (exo a (He.ga K n) (some dx))) dx (exd dx [(f2, z), (f1, y)]))
structure CalX2 (P : Program) (w : World) (K : PySem.W.Frag) (mg : Str → Option Value) (base : Heap) (n f1 f2 : Str) (k : Nat) : Prop where
  ex : ∃ fd ps, FnOk P w K mg base L2.CX0 k (He.ma K (He.ga K n) "__init__") fd ps (spX2 K n f1 f2) ∧ Binds K fd ps []
def tOst2 (K : PySem.W.Frag) (f1 f2 : Str) : TS := fun N σ H => tOst K f1 (tVar 0) (tVar 1) { N with nx := fun σ' H' => tOst K f2 (tVar 0) (tVar 2) N σ' H' } σ H
section
variable {K : PySem.W.Frag} {P : Program} {w : World} {mg : Str → Option Value} {base : Heap} {qual n f1 f2 : Str} {params : Arguments} {body : List Stmt} {scope : Scope} {fa : Addr} {fd : FuncData} {N ps : List Str} {k : Nat}
theorem fn_x2 (Fn : FunD K "__init__" qual params body scope [] [] fa fd) (S : FnScope N ps scope) (hl : ps.length = 3) (O : Oex K n f1) (O2 : Oex K n f2)
    (hb : ∀ (cdv : Value) (A : Around) (outer : List PySem.Env) (s : Shared) (H : Hp) (E : XK), PSs (cxOf L2.CX0 P w K mg base N qual scope fa cdv A outer s H E) body (tOst2 K f1 f2)) :
    FnOk P w K mg base L2.CX0 (k + 1) fa fd ps (spX2 K n f1 f2) := by
  refine Fn.ok S (fun vs H Q E h => ?_) fun cdv A outer s H vs Q E hr h => ⟨_, hb cdv A outer s H E, ?_⟩
  · obtain ⟨a, y, z, rfl, _⟩ := h
    exact hl.symm
  · obtain ⟨a, y, z, rfl, ha, q⟩ := h
    have s0 : (L2.start N [V.ref a, y, z])[0]? = some (some (.ref a)) := by
      unfold L2.start
      rfl
    have s1 : (L2.start N [V.ref a, y, z])[1]? = some (some y) := by
      unfold L2.start
      rfl
    have s2 : (L2.start N [V.ref a, y, z])[2]? = some (some z) := by
      unfold L2.start
      rfl
    refine ⟨y, s1, .ref a, s0, a, He.ga K n, rfl, O.c, O.no, .inl ⟨ha, fun dx hdx hne => ?_⟩⟩
    refine ⟨z, s2, .ref a, s0, a, He.ga K n, rfl, O2.c, O2.no, .inr ⟨dx, [(f1, y)], upd_same, ?_, by show 1 ≤ 900; decide, q dx hdx hne⟩⟩
    rw [upd_ne hne, upd_same]
end
def fRaise2 (n : Str) (fa fb : FE) : FS := fun ρ S => (fa ρ S).thn ρ fun d S1 => match d with
  | .p d => (fb ρ S1).thn ρ fun e S2 => match e with
    | .p e => .exc n [e, d] ρ S2
    | _ => .bad
  | _ => .bad
section
variable {X : Cx} {c : Cw} {n : Str} {e1 e2 : Expr} {p p2 pos : Pos} {fa fb : FE} {k : Nat}
theorem fs_raise2 (h : CalX2 X.prog X.w X.K X.mg X.base n "line" "word" k) (O : Oex X.K n "line") (hm : X.mg n = some (.ref (He.ga X.K n))) (hr : Room (k + 1) X.A) (hg : Gl X n) (h1 : PE X e1 (tE c fa)) (h2 : PE X e2 (tE c fb))
    (ps : ∀ {tm : L2.St → Hp → XK → Prop}, PMk X (.Call (.Name n p) [e1, e2] [] p2) tm → PS X (.Raise (some (.Call (.Name n p) [e1, e2] [] p2)) none pos) (fun N σ H => tm σ H fun cls d H' => c.W cls d σ H')) (hK : c.K = X.K := by rfl)
    (hdb : (n == ("__debug__" : Str)) = false := by decide) (hs1 : starEach [e1, e2] X.env = (false, eval e1 X.env) :: starEach [e2] X.env := by rfl) (hs0 : starEach [e2] X.env = (false, eval e2 X.env) :: starEach [] X.env := by rfl) (hpl : (backTo p2 (starEach [e2] X.env)).any (·.1) = false := by rfl) :
    PS X (.Raise (some (.Call (.Name n p) [e1, e2] [] p2)) none pos) (tS c (fRaise2 n fa fb)) := by
  obtain ⟨fd, pp, fn, bd⟩ := h.ex
  refine ps_imp (ps (pmk_fld O.c O.ini O.ty fn hr bd hg hm (pa_cons h1 (pa_cons h2 pa_nil hs0) hs1) hdb hs1 hpl)) fun N σ H ⟨G, F, io, S, ρ, gd, re, q⟩ => ⟨G, F, io, S, ρ, gd, re, ?_⟩
  unfold fRaise2 at q
  cases hf : fa ρ S with
  | bad => rw [hf] at q; exact q.elim
  | exc m as S1 => rw [hf] at q; exact fun cls dd F' io' H' e' g' x' => q cls dd σ F' io' H' e' g' (renv_mono e' re) x'
  | ok d S1 =>
    rw [hf] at q
    intro v F1 i1 H1 e1' g1 r1
    cases d with
    | p d =>
      refine ⟨G, F1, i1, S1, ρ, g1, renv_mono e1' re, ?_⟩
      have q : AftS c G F io N ((fb ρ S1).thn ρ fun e S2 => match e with
        | .p e => .exc n [e, d] ρ S2
        | _ => .bad) := q
      cases hf2 : fb ρ S1 with
      | bad => rw [hf2] at q; exact q.elim
      | exc m as S2 => rw [hf2] at q; exact fun cls dd F' io' H' e' g' x' => q cls dd σ F' io' H' (e1'.trans e') g' (renv_mono (e1'.trans e') re) x'
      | ok d2 S2 =>
        rw [hf2] at q
        intro v2 F2 i2 H2 e2' g2 r2
        cases d2 with
        | p d2 =>
          have q : AftS c G F io N (.exc n [d2, d] ρ S2) := q
          refine ⟨by show 2 ≤ 1000; decide, fun a ha => ⟨a, v, v2, rfl, upd_same, fun dx hdx hne => ⟨rfl, dx, [("word", v2), ("line", v)], ?_, upd_same, ?_, ?_⟩⟩⟩
          · rw [upd_ne (Ne.symm hne), upd_same]
          · rw [upd_ne hne] at hdx
            exact hdx
          · have hd1 : H2 dx = none := by
              rw [upd_ne hne] at hdx
              exact hdx
            have same : upd (del (upd (upd (upd (upd H2 a (exo a (He.ga X.K n) none)) dx (exd dx [("line", v)])) a (exo a (He.ga X.K n) (some dx))) dx (exd dx [("word", v2), ("line", v)])) a) dx (.xd [("word", v2), ("line", v)]) = upd H2 dx (.xd [("word", v2), ("line", v)]) := by
              funext b
              by_cases hb : b = dx
              · rw [hb, upd_same, upd_same]
              · rw [upd_ne hb, upd_ne hb]
                by_cases hba : b = a
                · rw [hba, del_same, ha]
                · rw [del_ne hba, upd_ne hb, upd_ne hba, upd_ne hb, upd_ne hba]
            rw [same]
            obtain ⟨g3, e3⟩ := g2.new (o := .xd [("word", v2), ("line", v)]) hd1
            have ee := (e1'.trans e2').trans e3
            refine q _ _ σ _ _ _ ee g3 (renv_mono ee re) ⟨by rw [hK], .inr ⟨dx, [v2, v], by simp, rfl, upd_same, .cons (dp_mono e3.same _ _ r2) (.cons (dp_mono (e2'.trans e3).same _ _ r1) .nil)⟩⟩
        | _ => exact q.elim
    | _ => exact q.elim
end
section
variable {ρ : Env} {S : Sto} {fa fb : FE} {d e : PyData} {n : Str}
def raise2b (n : Str) (d : PyData) (ρ : Env) (r : Res D) : Fl := r.thn ρ fun e S2 => match e with
  | .p e => .exc n [e, d] ρ S2
  | _ => .bad
def raise2K (n : Str) (fb : FE) (ρ : Env) (r : Res D) : Fl := r.thn ρ fun d S1 => match d with
  | .p d => raise2b n d ρ (fb ρ S1)
  | _ => .bad
@[simp ↓] theorem ap_raise2 : fRaise2 n fa fb ρ S = raise2K n fb ρ (fa ρ S) := rfl
@[simp] theorem raise2K_ok : raise2K n fb ρ (.ok (.p d) S) = raise2b n d ρ (fb ρ S) := rfl
@[simp] theorem raise2b_ok : raise2b n d ρ (.ok (.p e) S) = .exc n [e, d] ρ S := rfl
end
end Tw
namespace Tw
open PySem PySem.Spec PyProof.Rows L2N
open L2 hiding St XE Takes CX takes_of passes_call MkP PMk ps_raise mk_of ps_try_as ps_try_many pmk_own passAt

/-! ### facts of many classes at once -/
def fcKitA (ns : List Str) (x : Str) : PySem.W.Frag → Bool := fun K => ns.all fun m => fcKit m x K
theorem fcKitA_ok {ns : List Str} {x : Str} {K : PySem.W.Frag} (h : fcKitA ns x K = true) : ∀ m ∈ ns, PySem.W.kitOne K (.ref (He.ga K m)) (.ref (He.ga K x)) = some (subX m x) := fun m hm => of_decide_eq_true (List.all_eq_true.mp h m hm)
def fcExcA (ns : List Str) : PySem.W.Frag → Bool := fun K => ns.all fun m => fcExcC m K
theorem fcExcA_ok {ns : List Str} {K : PySem.W.Frag} (h : fcExcA ns K = true) : ∀ m ∈ ns, ExcC K (He.ga K m) := fun m hm => fcExcC_ok (List.all_eq_true.mp h m hm)
def fcKitVA (ns : List Str) : PySem.W.Frag → Bool := fun K => ns.all fun m => fcKitV m K
theorem fcKitVA_ok {ns : List Str} {K : PySem.W.Frag} (h : fcKitVA ns K = true) : ∀ m ∈ ns, fcKitV m K = true := fun m hm => List.all_eq_true.mp h m hm
def fcXfA (ns : List Str) (f : Str) : PySem.W.Frag → Bool := fun K => ns.all fun m => fcXf m f K
theorem fcXfA_ok {ns : List Str} {f : Str} {K : PySem.W.Frag} (h : fcXfA ns f K = true) : ∀ m ∈ ns, XfC K (He.ga K m) ∧ PySem.W.findIn K (.ref (He.ga K m)) f = some none := fun m hm => fcXf_ok (List.all_eq_true.mp h m hm)
section
variable {K : PySem.W.Frag} {P : Program} {w : World} {mg : Str → Option Value} {base : Heap} {q : Str} {params : Arguments} {body : List Stmt} {scope : Scope} {ps : List Str} {k : Nat}
theorem calX2_of {e : Str} {N : List Str} (h : fcOex e "line" K = true) (h2 : fcOex e "word" K = true) (S : FnScope N ps scope) (hl : ps.length = 3)
    (hb : ∀ (cdv : Value) (A : Around) (outer : List PySem.Env) (s : Shared) (H : Hp) (E : XK), PSs (cxOf L2.CX0 P w K mg base N q scope (He.ma K (He.ga K e) "__init__") cdv A outer s H E) body (tOst2 K "line" "word"))
    (B : ∀ fd : FuncData, FunD K "__init__" q params body scope [] [] (He.ma K (He.ga K e) "__init__") fd → Binds K fd ps [])
    (Fd : ∃ fd, FunD K "__init__" q params body scope [] [] (adr K (e, some "__init__")) fd) : CalX2 P w K mg base e "line" "word" (k + 1) := by
  have O := fcOex_ok h
  have O2 := fcOex_ok h2
  obtain ⟨fd, Fd⟩ := Fd
  have Fd2 := FunD.to Fd (adr_fn (fn_of_ty O.ty))
  exact ⟨fd, ps, fn_x2 Fd2 S hl O O2 hb, B fd Fd2⟩
end
theorem takes0N {X : Cx} : Takes X (fun _ _ _ _ => False) := fun u s' x => by
  obtain ⟨_, _, _, _, _, _, _, _, _, _, _, _, _, _, _, _, f⟩ := x
  exact f.elim
theorem roomU {j : Nat} {A : Around} {h : Option Value} (r : Room j A) : L2H.RoomH j (A.mark h) := ⟨r.dp, r.un⟩
theorem hot_of {cl : Value} {dd : Option Addr} {ob : Obj} (hz : Zn cl dd ob) (hu : ∃ us, ob.data = .fields us) : ∃ vs : Array Value, ob.data = .fields vs ∧ vs[2]? = some .none := by
  obtain ⟨vs, e⟩ := hu
  exact ⟨vs, e, hz.2.2 vs e⟩
section
variable {ρ : Env} {S : Sto} {ns : List Str} {i m j : Nat} {n x : Str} {as : List PyData} {d : PyData}
theorem isY_ok (h : ρ[i]? = some (some .exn)) (hn : n ∈ ns) : fIsY ns i x n ρ S = .ok (.p (.bool (subX n x))) S := by
  unfold fIsY
  simp only [h, if_pos hn]
theorem isV_ok (h : ρ[i]? = some (some .exn)) (hn : n ∈ ns) : fIsV ns i n ρ S = .ok (.p (.bool true)) S := by
  unfold fIsV
  simp only [h, if_pos hn]
theorem xj_ok (h : ρ[i]? = some (some .exn)) (hn : n ∈ ns) (hl : as.length = m) (hd : as[j]? = some d) : fXj ns i m j n as ρ S = .ok (.p d) S := by
  unfold fXj
  simp only [h, hd, if_pos (And.intro hn hl)]
theorem exn_ok (h : ρ[i]? = some (some .exn)) : fExn i ρ S = .ok [.exn] S := by
  unfold fExn
  simp only [h]
end
end Tw
namespace Tw
open PySem PySem.Spec PyProof.Rows L2N
open L2 hiding St XE Takes CX takes_of passes_call MkP PMk ps_raise mk_of ps_try_as ps_try_many pmk_own passAt
def m__law_mix : FS := (fSeq (fSet 2 (fVar 1))
  (fSeq (fFor (fItS (fVar 0)) (gNm 3)
   (fSet 2 (fBin gMod (fCall gInt (fCons (fBin gAdd (fBin gAdd (fBin gMul (fVar 2) (fCon (.int 48271))) (fBin gMod (fCall gInt (fCons (fVar 3) fNil)) (fCon (.int 2147483629)))) (fCon (.int 1))) fNil)) (fCon (.int 2147483647)))))
  (fRet (fLstO (fCons (fVar 2) (fCons (fCall gListO (fCons (fVar 0) fNil)) (fCons (fCon (.int 0)) (fCons (fCon (.int 14)) fNil))))))))

def m__law_next : FS := (fSeq (fSet 2 (fBin gIx (fBin gAdd (fBin gIx (fVar 0) (fCon (.int 1))) (fLst (fCons (fCon (.int 0)) fNil))) (fBin gMod (fCall gInt (fCons (fBin gIx (fVar 0) (fCon (.int 2))) fNil)) (fCall gMax2 (fCons (fCon (.int 1)) (fCons (fCall gLen (fCons (fBin gIx (fVar 0) (fCon (.int 1))) fNil)) fNil))))))
  (fSeq (fIfS (fBin gGe (fVar 2) (fBin gPow (fCon (.int 10)) (fCon (.int 18)))) (fSeq (fSetIx (fBin gDiv (fVar 2) (fVar 1)) (fBin gIx (fVar 0) (fCon (.int 1))) (fBin gMod (fCall gInt (fCons (fBin gIx (fVar 0) (fCon (.int 2))) fNil)) (fCall gLen (fCons (fBin gIx (fVar 0) (fCon (.int 1))) fNil))))
  (fRet (fBin gMod (fCall gInt (fCons (fVar 2) fNil)) (fVar 1)))) fPass)
  (fSeq (fSetIx (fBin gMod (fCall gInt (fCons (fBin gAdd (fBin gAdd (fBin gMul (fBin gIx (fVar 0) (fCon (.int 0))) (fCon (.int 48271))) (fBin gMul (fVar 2) (fCon (.int 69621)))) (fCon (.int 11))) fNil)) (fCon (.int 2147483647))) (fVar 0) (fCon (.int 0)))
  (fSeq (fSetIx (fBin gAdd (fBin gIx (fVar 0) (fCon (.int 2))) (fCon (.int 1))) (fVar 0) (fCon (.int 2)))
  (fRet (fBin gMod (fCall gInt (fCons (fBin gDiv (fBin gIx (fVar 0) (fCon (.int 0))) (fCon (.int 7))) fNil)) (fVar 1)))))))

def m__law_bare : FS := (fSeq (fIfS (fBin gEq (fVar 0) (fCon (.int 0))) (fRaise0 ("NoWorths" : PySem.Str)) fPass)
  (fSeq (fIfS (fBin gEq (fVar 0) (fCon (.int 1))) (fRaise0 ("UnknownIndex" : PySem.Str)) fPass)
  (fSeq (fIfS (fBin gEq (fVar 0) (fCon (.int 2))) (fRaise0 ("InvalidWorths" : PySem.Str)) fPass)
  (fSeq (fIfS (fBin gEq (fVar 0) (fCon (.int 3))) (fRaise0 ("InvalidPurse" : PySem.Str)) fPass)
  (fSeq (fIfS (fBin gEq (fVar 0) (fCon (.int 4))) (fRaise0 ("InvalidTotal" : PySem.Str)) fPass)
  (fSeq (fIfS (fBin gEq (fVar 0) (fCon (.int 5))) (fRaise0 ("InvalidRecipe" : PySem.Str)) fPass)
  (fSeq (fIfS (fBin gEq (fVar 0) (fCon (.int 6))) (fRaise0 ("InvalidKind" : PySem.Str)) fPass)
  (fRaise0 ("NoCoin" : PySem.Str)))))))))

def m__law_thrown : FS := (fSeq (fIfS (fBin gLt (fVar 0) (fCon (.int 8))) (fDrop (fCall (callM 1 m__law_bare) (fCons (fVar 0) fNil))) fPass)
  (fSeq (fIfS (fBin gEq (fVar 0) (fCon (.int 8))) (fRaise1 ("InvalidFact" : PySem.Str) (fVar 1)) fPass)
  (fSeq (fIfS (fBin gEq (fVar 0) (fCon (.int 9))) (fRaise1 ("InvalidForm" : PySem.Str) (fVar 1)) fPass)
  (fSeq (fIfS (fBin gEq (fVar 0) (fCon (.int 10))) (fRaise1 ("InvalidSeen" : PySem.Str) (fVar 1)) fPass)
  (fSeq (fIfS (fBin gEq (fVar 0) (fCon (.int 11))) (fRaise1 ("InvalidAsk" : PySem.Str) (fVar 1)) fPass)
  (fRaise2 ("InvalidText" : PySem.Str) (fVar 1) (fVar 2)))))))

def m__law_classes (n : Str) (as : List PyData) : FS := (fSeq (fSet 1 (fLst (fCons (fIsY [("InvalidFact" : PySem.Str), ("NoWorths" : PySem.Str), ("UnknownIndex" : PySem.Str), ("InvalidForm" : PySem.Str), ("InvalidWorths" : PySem.Str), ("InvalidPurse" : PySem.Str), ("InvalidTotal" : PySem.Str), ("InvalidRecipe" : PySem.Str), ("InvalidSeen" : PySem.Str), ("InvalidAsk" : PySem.Str), ("InvalidKind" : PySem.Str), ("NoCoin" : PySem.Str), ("InvalidText" : PySem.Str)] 0 ("NoWorths" : PySem.Str) n) (fCons (fIsY [("InvalidFact" : PySem.Str), ("NoWorths" : PySem.Str), ("UnknownIndex" : PySem.Str), ("InvalidForm" : PySem.Str), ("InvalidWorths" : PySem.Str), ("InvalidPurse" : PySem.Str), ("InvalidTotal" : PySem.Str), ("InvalidRecipe" : PySem.Str), ("InvalidSeen" : PySem.Str), ("InvalidAsk" : PySem.Str), ("InvalidKind" : PySem.Str), ("NoCoin" : PySem.Str), ("InvalidText" : PySem.Str)] 0 ("UnknownIndex" : PySem.Str) n) (fCons (fIsY [("InvalidFact" : PySem.Str), ("NoWorths" : PySem.Str), ("UnknownIndex" : PySem.Str), ("InvalidForm" : PySem.Str), ("InvalidWorths" : PySem.Str), ("InvalidPurse" : PySem.Str), ("InvalidTotal" : PySem.Str), ("InvalidRecipe" : PySem.Str), ("InvalidSeen" : PySem.Str), ("InvalidAsk" : PySem.Str), ("InvalidKind" : PySem.Str), ("NoCoin" : PySem.Str), ("InvalidText" : PySem.Str)] 0 ("InvalidWorths" : PySem.Str) n) fNil)))))
  (fSeq (fSet 1 (fBin gAdd (fVar 1) (fLst (fCons (fIsY [("InvalidFact" : PySem.Str), ("NoWorths" : PySem.Str), ("UnknownIndex" : PySem.Str), ("InvalidForm" : PySem.Str), ("InvalidWorths" : PySem.Str), ("InvalidPurse" : PySem.Str), ("InvalidTotal" : PySem.Str), ("InvalidRecipe" : PySem.Str), ("InvalidSeen" : PySem.Str), ("InvalidAsk" : PySem.Str), ("InvalidKind" : PySem.Str), ("NoCoin" : PySem.Str), ("InvalidText" : PySem.Str)] 0 ("InvalidPurse" : PySem.Str) n) (fCons (fIsY [("InvalidFact" : PySem.Str), ("NoWorths" : PySem.Str), ("UnknownIndex" : PySem.Str), ("InvalidForm" : PySem.Str), ("InvalidWorths" : PySem.Str), ("InvalidPurse" : PySem.Str), ("InvalidTotal" : PySem.Str), ("InvalidRecipe" : PySem.Str), ("InvalidSeen" : PySem.Str), ("InvalidAsk" : PySem.Str), ("InvalidKind" : PySem.Str), ("NoCoin" : PySem.Str), ("InvalidText" : PySem.Str)] 0 ("InvalidTotal" : PySem.Str) n) (fCons (fIsY [("InvalidFact" : PySem.Str), ("NoWorths" : PySem.Str), ("UnknownIndex" : PySem.Str), ("InvalidForm" : PySem.Str), ("InvalidWorths" : PySem.Str), ("InvalidPurse" : PySem.Str), ("InvalidTotal" : PySem.Str), ("InvalidRecipe" : PySem.Str), ("InvalidSeen" : PySem.Str), ("InvalidAsk" : PySem.Str), ("InvalidKind" : PySem.Str), ("NoCoin" : PySem.Str), ("InvalidText" : PySem.Str)] 0 ("InvalidRecipe" : PySem.Str) n) fNil))))))
  (fSeq (fSet 1 (fBin gAdd (fVar 1) (fLst (fCons (fIsY [("InvalidFact" : PySem.Str), ("NoWorths" : PySem.Str), ("UnknownIndex" : PySem.Str), ("InvalidForm" : PySem.Str), ("InvalidWorths" : PySem.Str), ("InvalidPurse" : PySem.Str), ("InvalidTotal" : PySem.Str), ("InvalidRecipe" : PySem.Str), ("InvalidSeen" : PySem.Str), ("InvalidAsk" : PySem.Str), ("InvalidKind" : PySem.Str), ("NoCoin" : PySem.Str), ("InvalidText" : PySem.Str)] 0 ("InvalidKind" : PySem.Str) n) (fCons (fIsY [("InvalidFact" : PySem.Str), ("NoWorths" : PySem.Str), ("UnknownIndex" : PySem.Str), ("InvalidForm" : PySem.Str), ("InvalidWorths" : PySem.Str), ("InvalidPurse" : PySem.Str), ("InvalidTotal" : PySem.Str), ("InvalidRecipe" : PySem.Str), ("InvalidSeen" : PySem.Str), ("InvalidAsk" : PySem.Str), ("InvalidKind" : PySem.Str), ("NoCoin" : PySem.Str), ("InvalidText" : PySem.Str)] 0 ("NoCoin" : PySem.Str) n) (fCons (fIsY [("InvalidFact" : PySem.Str), ("NoWorths" : PySem.Str), ("UnknownIndex" : PySem.Str), ("InvalidForm" : PySem.Str), ("InvalidWorths" : PySem.Str), ("InvalidPurse" : PySem.Str), ("InvalidTotal" : PySem.Str), ("InvalidRecipe" : PySem.Str), ("InvalidSeen" : PySem.Str), ("InvalidAsk" : PySem.Str), ("InvalidKind" : PySem.Str), ("NoCoin" : PySem.Str), ("InvalidText" : PySem.Str)] 0 ("InvalidFact" : PySem.Str) n) fNil))))))
  (fSeq (fSet 1 (fBin gAdd (fVar 1) (fLst (fCons (fIsY [("InvalidFact" : PySem.Str), ("NoWorths" : PySem.Str), ("UnknownIndex" : PySem.Str), ("InvalidForm" : PySem.Str), ("InvalidWorths" : PySem.Str), ("InvalidPurse" : PySem.Str), ("InvalidTotal" : PySem.Str), ("InvalidRecipe" : PySem.Str), ("InvalidSeen" : PySem.Str), ("InvalidAsk" : PySem.Str), ("InvalidKind" : PySem.Str), ("NoCoin" : PySem.Str), ("InvalidText" : PySem.Str)] 0 ("InvalidForm" : PySem.Str) n) (fCons (fIsY [("InvalidFact" : PySem.Str), ("NoWorths" : PySem.Str), ("UnknownIndex" : PySem.Str), ("InvalidForm" : PySem.Str), ("InvalidWorths" : PySem.Str), ("InvalidPurse" : PySem.Str), ("InvalidTotal" : PySem.Str), ("InvalidRecipe" : PySem.Str), ("InvalidSeen" : PySem.Str), ("InvalidAsk" : PySem.Str), ("InvalidKind" : PySem.Str), ("NoCoin" : PySem.Str), ("InvalidText" : PySem.Str)] 0 ("InvalidSeen" : PySem.Str) n) (fCons (fIsY [("InvalidFact" : PySem.Str), ("NoWorths" : PySem.Str), ("UnknownIndex" : PySem.Str), ("InvalidForm" : PySem.Str), ("InvalidWorths" : PySem.Str), ("InvalidPurse" : PySem.Str), ("InvalidTotal" : PySem.Str), ("InvalidRecipe" : PySem.Str), ("InvalidSeen" : PySem.Str), ("InvalidAsk" : PySem.Str), ("InvalidKind" : PySem.Str), ("NoCoin" : PySem.Str), ("InvalidText" : PySem.Str)] 0 ("InvalidAsk" : PySem.Str) n) fNil))))))
  (fRet (fBin gAdd (fVar 1) (fLst (fCons (fIsY [("InvalidFact" : PySem.Str), ("NoWorths" : PySem.Str), ("UnknownIndex" : PySem.Str), ("InvalidForm" : PySem.Str), ("InvalidWorths" : PySem.Str), ("InvalidPurse" : PySem.Str), ("InvalidTotal" : PySem.Str), ("InvalidRecipe" : PySem.Str), ("InvalidSeen" : PySem.Str), ("InvalidAsk" : PySem.Str), ("InvalidKind" : PySem.Str), ("NoCoin" : PySem.Str), ("InvalidText" : PySem.Str)] 0 ("InvalidText" : PySem.Str) n) fNil))))))))

def m__law_parts (n : Str) (as : List PyData) : FS := (fSeq (fIfS (fBin gLt (fVar 0) (fCon (.int 8))) (fRet (fLst fNil)) fPass)
  (fRet (fIf (fBin gLt (fVar 0) (fCon (.int 12))) (fLst (fCons (fXj [("InvalidFact" : PySem.Str), ("InvalidForm" : PySem.Str), ("InvalidSeen" : PySem.Str), ("InvalidAsk" : PySem.Str)] 1 1 0 n as) fNil)) (fLst (fCons (fXj [("InvalidText" : PySem.Str)] 1 2 1 n as) (fCons (fXj [("InvalidText" : PySem.Str)] 1 2 0 n as) fNil))))))

def m__law_right : FS := (fSeq (fSet 3 (fCon (.bool false)))
  (fSeq (fSet 4 (fBin gAdd (fSlice (fLst (fCons (fVar 1) fNil)) fNo (fSome (fCall gInt (fCons (fBin gGt (fVar 0) (fCon (.int 7))) fNil)))) (fSlice (fLst (fCons (fVar 2) fNil)) fNo (fSome (fCall gInt (fCons (fBin gGt (fVar 0) (fCon (.int 11))) fNil))))))
  (fSeq (fTry [("InvalidFact" : PySem.Str), ("NoWorths" : PySem.Str), ("UnknownIndex" : PySem.Str), ("InvalidForm" : PySem.Str), ("InvalidWorths" : PySem.Str), ("InvalidPurse" : PySem.Str), ("InvalidTotal" : PySem.Str), ("InvalidRecipe" : PySem.Str), ("InvalidSeen" : PySem.Str), ("InvalidAsk" : PySem.Str), ("InvalidKind" : PySem.Str), ("NoCoin" : PySem.Str), ("InvalidText" : PySem.Str)] (fDrop (fCall (callM 3 m__law_thrown) (fCons (fVar 0) (fCons (fVar 1) (fCons (fVar 2) fNil))))) [⟨("WorthError" : PySem.Str), some 5, fun n as => (fSeq (fSet 3 (fAnd (fIsV [("InvalidFact" : PySem.Str), ("NoWorths" : PySem.Str), ("UnknownIndex" : PySem.Str), ("InvalidForm" : PySem.Str), ("InvalidWorths" : PySem.Str), ("InvalidPurse" : PySem.Str), ("InvalidTotal" : PySem.Str), ("InvalidRecipe" : PySem.Str), ("InvalidSeen" : PySem.Str), ("InvalidAsk" : PySem.Str), ("InvalidKind" : PySem.Str), ("NoCoin" : PySem.Str), ("InvalidText" : PySem.Str)] 5 n) (fBin gEq (fCall (callM 2 (m__law_classes n as)) (fExn 5)) (fComp [6] (fRng1 (fCons (fCon (.int 13)) fNil)) (gNm 6) fYes (fBin gEq (fVar 6) (fVar 0))))))
  (fSet 3 (fAnd (fVar 3) (fBin gEq (fCall (callM 2 (m__law_parts n as)) (fCons (fVar 0) (fExn 5))) (fVar 4)))))⟩])
  (fRet (fVar 3)))))

def m_law : FS := (fSeq (fSet 1 (fCall (callO 4 m__law_mix) (fCons (fVar 0) (fCons (fCon (.int 17)) fNil))))
  (fSeq (fSet 2 (fBin gIx (fLst (fCons (fCon (.str ("a" : PySem.Str))) (fCons (fCon (.str ("" : PySem.Str))) (fCons (fCon (.int 7)) (fCons (fTup (fCons (fCon (.str ("most" : PySem.Str))) (fCons (fCon (.int 0)) fNil))) (fCons (fCon .none) fNil)))))) (fCall (callM 3 m__law_next) (fCons (fVar 1) (fCons (fCon (.int 5)) fNil)))))
  (fSeq (fSet 3 (fBin gIx (fLst (fCons (fTup fNil) (fCons (fCon (.str ("kind" : PySem.Str))) (fCons (fCon (.int 0)) (fCons (fCon .none) fNil))))) (fCall (callM 3 m__law_next) (fCons (fVar 1) (fCons (fCon (.int 4)) fNil)))))
  (fRet (fCall gAll (fCons (fComp [4] (fRng1 (fCons (fCon (.int 13)) fNil)) (gNm 4) fYes (fCall (callM 7 m__law_right) (fCons (fVar 4) (fCons (fVar 2) (fCons (fVar 3) fNil))))) fNil))))))

/-! ### the text -/
def tp (i : Nat) : Stmt := PySem.Challenge.pw_twoworths_k17_errors_apart.main.body.getD i (.Pass ⟨0, 0, 0, 0⟩)
def tc (i j : Nat) : Stmt := (clsBody (tp i)).getD j (.Pass ⟨0, 0, 0, 0⟩)
def facts : Tw.Facts := [Tw.fcOex "InvalidFact" "index", Tw.fcOex "InvalidForm" "index", Tw.fcOex "InvalidSeen" "index", Tw.fcOex "InvalidAsk" "index", Tw.fcOex "InvalidText" "line", Tw.fcOex "InvalidText" "word", Tw.fcFree "int", Tw.fcFree "list", Tw.fcGlo "_law_mix", Tw.fcFree "len", Tw.fcFree "max", Tw.fcGlo "_law_next", Tw.fcExc "NoWorths", Tw.fcGlo "NoWorths", Tw.fcExc "UnknownIndex", Tw.fcGlo "UnknownIndex", Tw.fcExc "InvalidWorths", Tw.fcGlo "InvalidWorths", Tw.fcExc "InvalidPurse", Tw.fcGlo "InvalidPurse", Tw.fcExc "InvalidTotal", Tw.fcGlo "InvalidTotal", Tw.fcExc "InvalidRecipe", Tw.fcGlo "InvalidRecipe", Tw.fcExc "InvalidKind", Tw.fcGlo "InvalidKind", Tw.fcExc "NoCoin", Tw.fcGlo "NoCoin", Tw.fcGlo "_law_bare", Tw.fcGlo "InvalidFact", Tw.fcGlo "InvalidForm", Tw.fcGlo "InvalidSeen", Tw.fcGlo "InvalidAsk", Tw.fcGlo "InvalidText", Tw.fcGlo "_law_thrown", Tw.fcExcA [("InvalidFact" : PySem.Str), ("NoWorths" : PySem.Str), ("UnknownIndex" : PySem.Str), ("InvalidForm" : PySem.Str), ("InvalidWorths" : PySem.Str), ("InvalidPurse" : PySem.Str), ("InvalidTotal" : PySem.Str), ("InvalidRecipe" : PySem.Str), ("InvalidSeen" : PySem.Str), ("InvalidAsk" : PySem.Str), ("InvalidKind" : PySem.Str), ("NoCoin" : PySem.Str), ("InvalidText" : PySem.Str)], Tw.fcKitA [("InvalidFact" : PySem.Str), ("NoWorths" : PySem.Str), ("UnknownIndex" : PySem.Str), ("InvalidForm" : PySem.Str), ("InvalidWorths" : PySem.Str), ("InvalidPurse" : PySem.Str), ("InvalidTotal" : PySem.Str), ("InvalidRecipe" : PySem.Str), ("InvalidSeen" : PySem.Str), ("InvalidAsk" : PySem.Str), ("InvalidKind" : PySem.Str), ("NoCoin" : PySem.Str), ("InvalidText" : PySem.Str)] "InvalidWorths", Tw.fcFree "isinstance", Tw.fcKitA [("InvalidFact" : PySem.Str), ("NoWorths" : PySem.Str), ("UnknownIndex" : PySem.Str), ("InvalidForm" : PySem.Str), ("InvalidWorths" : PySem.Str), ("InvalidPurse" : PySem.Str), ("InvalidTotal" : PySem.Str), ("InvalidRecipe" : PySem.Str), ("InvalidSeen" : PySem.Str), ("InvalidAsk" : PySem.Str), ("InvalidKind" : PySem.Str), ("NoCoin" : PySem.Str), ("InvalidText" : PySem.Str)] "UnknownIndex", Tw.fcKitA [("InvalidFact" : PySem.Str), ("NoWorths" : PySem.Str), ("UnknownIndex" : PySem.Str), ("InvalidForm" : PySem.Str), ("InvalidWorths" : PySem.Str), ("InvalidPurse" : PySem.Str), ("InvalidTotal" : PySem.Str), ("InvalidRecipe" : PySem.Str), ("InvalidSeen" : PySem.Str), ("InvalidAsk" : PySem.Str), ("InvalidKind" : PySem.Str), ("NoCoin" : PySem.Str), ("InvalidText" : PySem.Str)] "NoWorths", Tw.fcKitA [("InvalidFact" : PySem.Str), ("NoWorths" : PySem.Str), ("UnknownIndex" : PySem.Str), ("InvalidForm" : PySem.Str), ("InvalidWorths" : PySem.Str), ("InvalidPurse" : PySem.Str), ("InvalidTotal" : PySem.Str), ("InvalidRecipe" : PySem.Str), ("InvalidSeen" : PySem.Str), ("InvalidAsk" : PySem.Str), ("InvalidKind" : PySem.Str), ("NoCoin" : PySem.Str), ("InvalidText" : PySem.Str)] "InvalidRecipe", Tw.fcKitA [("InvalidFact" : PySem.Str), ("NoWorths" : PySem.Str), ("UnknownIndex" : PySem.Str), ("InvalidForm" : PySem.Str), ("InvalidWorths" : PySem.Str), ("InvalidPurse" : PySem.Str), ("InvalidTotal" : PySem.Str), ("InvalidRecipe" : PySem.Str), ("InvalidSeen" : PySem.Str), ("InvalidAsk" : PySem.Str), ("InvalidKind" : PySem.Str), ("NoCoin" : PySem.Str), ("InvalidText" : PySem.Str)] "InvalidTotal", Tw.fcKitA [("InvalidFact" : PySem.Str), ("NoWorths" : PySem.Str), ("UnknownIndex" : PySem.Str), ("InvalidForm" : PySem.Str), ("InvalidWorths" : PySem.Str), ("InvalidPurse" : PySem.Str), ("InvalidTotal" : PySem.Str), ("InvalidRecipe" : PySem.Str), ("InvalidSeen" : PySem.Str), ("InvalidAsk" : PySem.Str), ("InvalidKind" : PySem.Str), ("NoCoin" : PySem.Str), ("InvalidText" : PySem.Str)] "InvalidPurse", Tw.fcKitA [("InvalidFact" : PySem.Str), ("NoWorths" : PySem.Str), ("UnknownIndex" : PySem.Str), ("InvalidForm" : PySem.Str), ("InvalidWorths" : PySem.Str), ("InvalidPurse" : PySem.Str), ("InvalidTotal" : PySem.Str), ("InvalidRecipe" : PySem.Str), ("InvalidSeen" : PySem.Str), ("InvalidAsk" : PySem.Str), ("InvalidKind" : PySem.Str), ("NoCoin" : PySem.Str), ("InvalidText" : PySem.Str)] "InvalidFact", Tw.fcKitA [("InvalidFact" : PySem.Str), ("NoWorths" : PySem.Str), ("UnknownIndex" : PySem.Str), ("InvalidForm" : PySem.Str), ("InvalidWorths" : PySem.Str), ("InvalidPurse" : PySem.Str), ("InvalidTotal" : PySem.Str), ("InvalidRecipe" : PySem.Str), ("InvalidSeen" : PySem.Str), ("InvalidAsk" : PySem.Str), ("InvalidKind" : PySem.Str), ("NoCoin" : PySem.Str), ("InvalidText" : PySem.Str)] "NoCoin", Tw.fcKitA [("InvalidFact" : PySem.Str), ("NoWorths" : PySem.Str), ("UnknownIndex" : PySem.Str), ("InvalidForm" : PySem.Str), ("InvalidWorths" : PySem.Str), ("InvalidPurse" : PySem.Str), ("InvalidTotal" : PySem.Str), ("InvalidRecipe" : PySem.Str), ("InvalidSeen" : PySem.Str), ("InvalidAsk" : PySem.Str), ("InvalidKind" : PySem.Str), ("NoCoin" : PySem.Str), ("InvalidText" : PySem.Str)] "InvalidKind", Tw.fcKitA [("InvalidFact" : PySem.Str), ("NoWorths" : PySem.Str), ("UnknownIndex" : PySem.Str), ("InvalidForm" : PySem.Str), ("InvalidWorths" : PySem.Str), ("InvalidPurse" : PySem.Str), ("InvalidTotal" : PySem.Str), ("InvalidRecipe" : PySem.Str), ("InvalidSeen" : PySem.Str), ("InvalidAsk" : PySem.Str), ("InvalidKind" : PySem.Str), ("NoCoin" : PySem.Str), ("InvalidText" : PySem.Str)] "InvalidAsk", Tw.fcKitA [("InvalidFact" : PySem.Str), ("NoWorths" : PySem.Str), ("UnknownIndex" : PySem.Str), ("InvalidForm" : PySem.Str), ("InvalidWorths" : PySem.Str), ("InvalidPurse" : PySem.Str), ("InvalidTotal" : PySem.Str), ("InvalidRecipe" : PySem.Str), ("InvalidSeen" : PySem.Str), ("InvalidAsk" : PySem.Str), ("InvalidKind" : PySem.Str), ("NoCoin" : PySem.Str), ("InvalidText" : PySem.Str)] "InvalidSeen", Tw.fcKitA [("InvalidFact" : PySem.Str), ("NoWorths" : PySem.Str), ("UnknownIndex" : PySem.Str), ("InvalidForm" : PySem.Str), ("InvalidWorths" : PySem.Str), ("InvalidPurse" : PySem.Str), ("InvalidTotal" : PySem.Str), ("InvalidRecipe" : PySem.Str), ("InvalidSeen" : PySem.Str), ("InvalidAsk" : PySem.Str), ("InvalidKind" : PySem.Str), ("NoCoin" : PySem.Str), ("InvalidText" : PySem.Str)] "InvalidForm", Tw.fcKitA [("InvalidFact" : PySem.Str), ("NoWorths" : PySem.Str), ("UnknownIndex" : PySem.Str), ("InvalidForm" : PySem.Str), ("InvalidWorths" : PySem.Str), ("InvalidPurse" : PySem.Str), ("InvalidTotal" : PySem.Str), ("InvalidRecipe" : PySem.Str), ("InvalidSeen" : PySem.Str), ("InvalidAsk" : PySem.Str), ("InvalidKind" : PySem.Str), ("NoCoin" : PySem.Str), ("InvalidText" : PySem.Str)] "InvalidText", Tw.fcGlo "_law_classes", Tw.fcXfA [("InvalidFact" : PySem.Str), ("InvalidForm" : PySem.Str), ("InvalidSeen" : PySem.Str), ("InvalidAsk" : PySem.Str)] "index", Tw.fcXfA [("InvalidText" : PySem.Str)] "word", Tw.fcXfA [("InvalidText" : PySem.Str)] "line", Tw.fcGlo "_law_parts", Tw.fcKitVA [("InvalidFact" : PySem.Str), ("NoWorths" : PySem.Str), ("UnknownIndex" : PySem.Str), ("InvalidForm" : PySem.Str), ("InvalidWorths" : PySem.Str), ("InvalidPurse" : PySem.Str), ("InvalidTotal" : PySem.Str), ("InvalidRecipe" : PySem.Str), ("InvalidSeen" : PySem.Str), ("InvalidAsk" : PySem.Str), ("InvalidKind" : PySem.Str), ("NoCoin" : PySem.Str), ("InvalidText" : PySem.Str)], Tw.fcFree "ValueError", Tw.fcFree "range", Tw.fcGlo "WorthError", Tw.fcExm "InvalidText" "WorthError", Tw.fcExm "NoCoin" "WorthError", Tw.fcExm "InvalidKind" "WorthError", Tw.fcExm "InvalidAsk" "WorthError", Tw.fcExm "InvalidSeen" "WorthError", Tw.fcExm "InvalidRecipe" "WorthError", Tw.fcExm "InvalidTotal" "WorthError", Tw.fcExm "InvalidPurse" "WorthError", Tw.fcExm "InvalidWorths" "WorthError", Tw.fcExm "InvalidForm" "WorthError", Tw.fcExm "UnknownIndex" "WorthError", Tw.fcExm "NoWorths" "WorthError", Tw.fcExm "InvalidFact" "WorthError", Tw.fcGlo "_law_right", Tw.fcFree "all", Tw.fcGlo "law"]
def fns : List He.DefD := [⟨("InvalidFact", some "__init__"), "__init__", "InvalidFact.__init__", defArgs (tc 2 0), defBody (tc 2 0), defScope (tc 2 0), [], []⟩,
  ⟨("InvalidForm", some "__init__"), "__init__", "InvalidForm.__init__", defArgs (tc 5 0), defBody (tc 5 0), defScope (tc 5 0), [], []⟩,
  ⟨("InvalidSeen", some "__init__"), "__init__", "InvalidSeen.__init__", defArgs (tc 10 0), defBody (tc 10 0), defScope (tc 10 0), [], []⟩,
  ⟨("InvalidAsk", some "__init__"), "__init__", "InvalidAsk.__init__", defArgs (tc 11 0), defBody (tc 11 0), defScope (tc 11 0), [], []⟩,
  ⟨("InvalidText", some "__init__"), "__init__", "InvalidText.__init__", defArgs (tc 14 0), defBody (tc 14 0), defScope (tc 14 0), [], []⟩,
  ⟨("_law_mix", none), "_law_mix", "_law_mix", defArgs (tp 16), defBody (tp 16), defScope (tp 16), [], []⟩,
  ⟨("_law_next", none), "_law_next", "_law_next", defArgs (tp 17), defBody (tp 17), defScope (tp 17), [], []⟩,
  ⟨("_law_bare", none), "_law_bare", "_law_bare", defArgs (tp 18), defBody (tp 18), defScope (tp 18), [], []⟩,
  ⟨("_law_thrown", none), "_law_thrown", "_law_thrown", defArgs (tp 19), defBody (tp 19), defScope (tp 19), [], []⟩,
  ⟨("_law_classes", none), "_law_classes", "_law_classes", defArgs (tp 20), defBody (tp 20), defScope (tp 20), [], []⟩,
  ⟨("_law_parts", none), "_law_parts", "_law_parts", defArgs (tp 21), defBody (tp 21), defScope (tp 21), [], []⟩,
  ⟨("_law_right", none), "_law_right", "_law_right", defArgs (tp 22), defBody (tp 22), defScope (tp 22), [], []⟩,
  ⟨("law", none), "law", "law", defArgs (tp 23), defBody (tp 23), defScope (tp 23), [], []⟩]
section
variable {P : Program} {w : World} {K : PySem.W.Frag} {mg : Str → Option Value} {base : Heap}
theorem sc_InvalidFact___init__ : FnScope ["self", "index"] ["self", "index"] (defScope (tc 2 0)) := ⟨rfl, rfl, rfl, by decide +kernel, rfl, by decide +kernel, by decide +kernel⟩
theorem cal_InvalidFact___init__ (T : Tx facts fns K mg) : CalX P w K mg base "InvalidFact" "index" 2 :=
  calX_of (k := 1) (T.fc 0) sc_InvalidFact___init__ rfl (by decide) (fun cdv A outer s H E => pss_one (ps_ost (pv 0) (pv 1))) (fun fd Fd => Fd.bindsN fun _ _ _ _ _ _ us hl => match us, hl with | [_, _], _ => rfl) (SaysW.fd T.says 0)

theorem sc_InvalidForm___init__ : FnScope ["self", "index"] ["self", "index"] (defScope (tc 5 0)) := ⟨rfl, rfl, rfl, by decide +kernel, rfl, by decide +kernel, by decide +kernel⟩
theorem cal_InvalidForm___init__ (T : Tx facts fns K mg) : CalX P w K mg base "InvalidForm" "index" 2 :=
  calX_of (k := 1) (T.fc 1) sc_InvalidForm___init__ rfl (by decide) (fun cdv A outer s H E => pss_one (ps_ost (pv 0) (pv 1))) (fun fd Fd => Fd.bindsN fun _ _ _ _ _ _ us hl => match us, hl with | [_, _], _ => rfl) (SaysW.fd T.says 1)

theorem sc_InvalidSeen___init__ : FnScope ["self", "index"] ["self", "index"] (defScope (tc 10 0)) := ⟨rfl, rfl, rfl, by decide +kernel, rfl, by decide +kernel, by decide +kernel⟩
theorem cal_InvalidSeen___init__ (T : Tx facts fns K mg) : CalX P w K mg base "InvalidSeen" "index" 2 :=
  calX_of (k := 1) (T.fc 2) sc_InvalidSeen___init__ rfl (by decide) (fun cdv A outer s H E => pss_one (ps_ost (pv 0) (pv 1))) (fun fd Fd => Fd.bindsN fun _ _ _ _ _ _ us hl => match us, hl with | [_, _], _ => rfl) (SaysW.fd T.says 2)

theorem sc_InvalidAsk___init__ : FnScope ["self", "index"] ["self", "index"] (defScope (tc 11 0)) := ⟨rfl, rfl, rfl, by decide +kernel, rfl, by decide +kernel, by decide +kernel⟩
theorem cal_InvalidAsk___init__ (T : Tx facts fns K mg) : CalX P w K mg base "InvalidAsk" "index" 2 :=
  calX_of (k := 1) (T.fc 3) sc_InvalidAsk___init__ rfl (by decide) (fun cdv A outer s H E => pss_one (ps_ost (pv 0) (pv 1))) (fun fd Fd => Fd.bindsN fun _ _ _ _ _ _ us hl => match us, hl with | [_, _], _ => rfl) (SaysW.fd T.says 3)

theorem sc_InvalidText___init__ : FnScope ["self", "line", "word"] ["self", "line", "word"] (defScope (tc 14 0)) := ⟨rfl, rfl, rfl, by decide +kernel, rfl, by decide +kernel, by decide +kernel⟩
theorem cal_InvalidText___init__ (T : Tx facts fns K mg) : CalX2 P w K mg base "InvalidText" "line" "word" 2 :=
  calX2_of (k := 1) (T.fc 4) (T.fc 5) sc_InvalidText___init__ rfl (fun cdv A outer s H E => pss_cons (ps_ost (pv 0) (pv 1)) (pss_one (ps_ost (pv 0) (pv 2)))) (fun fd Fd => Fd.bindsN fun _ _ _ _ _ _ us hl => match us, hl with | [_, _, _], _ => rfl) (SaysW.fd T.says 4)

theorem sc__law_mix : FnScope ["_law_script", "_law_seed", "_law_state", "_law_cell"] ["_law_script", "_law_seed"] (defScope (tp 16)) := ⟨rfl, rfl, rfl, by decide +kernel, rfl, by decide +kernel, by decide +kernel⟩
theorem cal__law_mix (T : Tx facts fns K mg) : Cal P w K mg base "_law_mix" 1 2 (callO 4 m__law_mix) := by
  obtain ⟨fd, Fd⟩ := SaysW.fd T.says 5
  have sc := sc__law_mix
  exact ⟨_, fd, _, fn_okO Fd sc__law_mix (fun cdv A outer s H E hr =>
    (fss_cons (fs_set (fun h => ps_set (i := 2) sc.nd rfl (.inl rfl) h) (fe_var (pv 1)))
    (fss_cons (fs_for (passes_of rfl) rfl (fi_seq (fe_var (pv 0))) (fg_name (ws := [3]) (pg_name (i := 3) sc.nd rfl (.inl rfl)) (by decide))
     (fss_one (fs_set (fun h => ps_set (i := 2) sc.nd rfl (.inl rfl) h) (fe_op (fun h1 h2 => pe_op op_mod h1 h2) bop_mod (fe_call (fun h => pe_callTy call_int1 (by rfl) (T.fr 6) Tw.boot_int h) bc_int (fa_cons (fe_op (fun h1 h2 => pe_op op_addU h1 h2) bop_add (fe_op (fun h1 h2 => pe_op op_addU h1 h2) bop_add (fe_op (fun h1 h2 => pe_op op_mul h1 h2) bop_mul (fe_var (pv 2)) fe_int) (fe_op (fun h1 h2 => pe_op op_mod h1 h2) bop_mod (fe_call (fun h => pe_callTy call_int1 (by rfl) (T.fr 6) Tw.boot_int h) bc_int (fa_cons (fe_var (pv 3)) fa_nil)) fe_int)) fe_int) fa_nil)) fe_int))))
    (fss_one (fs_ret (fe_lstO (fa_cons (fe_var (pv 2)) (fa_cons (fe_call (fun h => pe_callTy call_list_of (by rfl) (T.fr 7) Tw.boot_list h) bc_listO (fa_cons (fe_var (pv 0)) fa_nil)) (fa_cons fe_int (fa_cons fe_int fa_nil)))))))))), (T.gl 8), Fd.kp, Fd.bindsN fun _ _ _ _ _ _ us hl => match us, hl with | [_, _], _ => rfl⟩

theorem sc__law_next : FnScope ["_law_h", "_law_bound", "_law_cell"] ["_law_h", "_law_bound"] (defScope (tp 17)) := ⟨rfl, rfl, rfl, by decide +kernel, rfl, by decide +kernel, by decide +kernel⟩
theorem cal__law_next (T : Tx facts fns K mg) : Cal P w K mg base "_law_next" 1 2 (callM 3 m__law_next) := by
  obtain ⟨fd, Fd⟩ := SaysW.fd T.says 6
  have sc := sc__law_next
  exact ⟨_, fd, _, fn_ok Fd sc__law_next (fun cdv A outer s H E hr =>
    (fss_cons (fs_set (fun h => ps_set (i := 2) sc.nd rfl (.inl rfl) h) (fe_op (fun h1 h2 => pe_ix ix_seq h1 h2 (fun _ _ => rfl)) bop_ix (fe_op (fun h1 h2 => pe_op op_addU h1 h2) bop_add (fe_op (fun h1 h2 => pe_ix ix_seq h1 h2 (fun _ _ => rfl)) bop_ix (fe_var (pv 0)) fe_int) (fe_lst (fa_cons fe_int fa_nil))) (fe_op (fun h1 h2 => pe_op op_mod h1 h2) bop_mod (fe_call (fun h => pe_callTy call_int1 (by rfl) (T.fr 6) Tw.boot_int h) bc_int (fa_cons (fe_op (fun h1 h2 => pe_ix ix_seq h1 h2 (fun _ _ => rfl)) bop_ix (fe_var (pv 0)) fe_int) fa_nil)) (fe_call (fun h => pe_callB (call_max2 rfl) (by rfl) (T.fr 10) Tw.boot_max h) bc_max2 (fa_cons fe_int (fa_cons (fe_call (fun h => pe_callB call_len_seq (by rfl) (T.fr 9) Tw.boot_len h) bc_len (fa_cons (fe_op (fun h1 h2 => pe_ix ix_seq h1 h2 (fun _ _ => rfl)) bop_ix (fe_var (pv 0)) fe_int) fa_nil)) fa_nil))))))
    (fss_cons (fs_if (ft_op (fun h1 h2 => pt_cmpR op_ge h1 h2 (nomark _)) bop_ge (fe_var (pv 2)) (fe_op (fun h1 h2 => pe_op op_pow h1 h2) bop_pow fe_int fe_int)) (fss_cons (fs_setIx (fun h1 h2 h3 => ps_asg h1 (pg_sub h2 h3 set_list)) (fe_op (fun h1 h2 => pe_op op_fdiv h1 h2) bop_div (fe_var (pv 2)) (fe_var (pv 1))) (fe_op (fun h1 h2 => pe_ix ix_seq h1 h2 (fun _ _ => rfl)) bop_ix (fe_var (pv 0)) fe_int) (fe_op (fun h1 h2 => pe_op op_mod h1 h2) bop_mod (fe_call (fun h => pe_callTy call_int1 (by rfl) (T.fr 6) Tw.boot_int h) bc_int (fa_cons (fe_op (fun h1 h2 => pe_ix ix_seq h1 h2 (fun _ _ => rfl)) bop_ix (fe_var (pv 0)) fe_int) fa_nil)) (fe_call (fun h => pe_callB call_len_seq (by rfl) (T.fr 9) Tw.boot_len h) bc_len (fa_cons (fe_op (fun h1 h2 => pe_ix ix_seq h1 h2 (fun _ _ => rfl)) bop_ix (fe_var (pv 0)) fe_int) fa_nil))))
    (fss_one (fs_ret (fe_op (fun h1 h2 => pe_op op_mod h1 h2) bop_mod (fe_call (fun h => pe_callTy call_int1 (by rfl) (T.fr 6) Tw.boot_int h) bc_int (fa_cons (fe_var (pv 2)) fa_nil)) (fe_var (pv 1)))))) fss_nil)
    (fss_cons (fs_setIx (fun h1 h2 h3 => ps_asg h1 (pg_sub h2 h3 set_list)) (fe_op (fun h1 h2 => pe_op op_mod h1 h2) bop_mod (fe_call (fun h => pe_callTy call_int1 (by rfl) (T.fr 6) Tw.boot_int h) bc_int (fa_cons (fe_op (fun h1 h2 => pe_op op_addU h1 h2) bop_add (fe_op (fun h1 h2 => pe_op op_addU h1 h2) bop_add (fe_op (fun h1 h2 => pe_op op_mul h1 h2) bop_mul (fe_op (fun h1 h2 => pe_ix ix_seq h1 h2 (fun _ _ => rfl)) bop_ix (fe_var (pv 0)) fe_int) fe_int) (fe_op (fun h1 h2 => pe_op op_mul h1 h2) bop_mul (fe_var (pv 2)) fe_int)) fe_int) fa_nil)) fe_int) (fe_var (pv 0)) fe_int)
    (fss_cons (fs_setIx (fun h1 h2 h3 => ps_asg h1 (pg_sub h2 h3 set_list)) (fe_op (fun h1 h2 => pe_op op_addU h1 h2) bop_add (fe_op (fun h1 h2 => pe_ix ix_seq h1 h2 (fun _ _ => rfl)) bop_ix (fe_var (pv 0)) fe_int) fe_int) (fe_var (pv 0)) fe_int)
    (fss_one (fs_ret (fe_op (fun h1 h2 => pe_op op_mod h1 h2) bop_mod (fe_call (fun h => pe_callTy call_int1 (by rfl) (T.fr 6) Tw.boot_int h) bc_int (fa_cons (fe_op (fun h1 h2 => pe_op op_fdiv h1 h2) bop_div (fe_op (fun h1 h2 => pe_ix ix_seq h1 h2 (fun _ _ => rfl)) bop_ix (fe_var (pv 0)) fe_int) fe_int) fa_nil)) (fe_var (pv 1)))))))))), (T.gl 11), Fd.kp, Fd.bindsN fun _ _ _ _ _ _ us hl => match us, hl with | [_, _], _ => rfl⟩

theorem sc__law_bare : FnScope ["_law_k"] ["_law_k"] (defScope (tp 18)) := ⟨rfl, rfl, rfl, by decide +kernel, rfl, by decide +kernel, by decide +kernel⟩
theorem cal__law_bare (T : Tx facts fns K mg) : Cal P w K mg base "_law_bare" 1 1 (callM 1 m__law_bare) := by
  obtain ⟨fd, Fd⟩ := SaysW.fd T.says 7
  have sc := sc__law_bare
  exact ⟨_, fd, _, fn_ok Fd sc__law_bare (fun cdv A outer s H E hr =>
    (fss_cons (fs_if (ft_op (fun h1 h2 => pt_cmpR (op_eqD hr.units) h1 h2 (nomark _)) bop_eq (fe_var (pv 0)) fe_int) (fss_one (fs_raise0 (ps_raise rfl (takes_of rfl rfl rfl rfl) (mk_bare PySem.F.excBase_ValueError (T.exc 12).1 (T.gl 13) (T.exc 12).2.1 (raises_own (T.exc 12).2.2.1 (T.exc 12).2.2.2) (by rfl))))) fss_nil)
    (fss_cons (fs_if (ft_op (fun h1 h2 => pt_cmpR (op_eqD hr.units) h1 h2 (nomark _)) bop_eq (fe_var (pv 0)) fe_int) (fss_one (fs_raise0 (ps_raise rfl (takes_of rfl rfl rfl rfl) (mk_bare PySem.F.excBase_ValueError (T.exc 14).1 (T.gl 15) (T.exc 14).2.1 (raises_own (T.exc 14).2.2.1 (T.exc 14).2.2.2) (by rfl))))) fss_nil)
    (fss_cons (fs_if (ft_op (fun h1 h2 => pt_cmpR (op_eqD hr.units) h1 h2 (nomark _)) bop_eq (fe_var (pv 0)) fe_int) (fss_one (fs_raise0 (ps_raise rfl (takes_of rfl rfl rfl rfl) (mk_bare PySem.F.excBase_ValueError (T.exc 16).1 (T.gl 17) (T.exc 16).2.1 (raises_own (T.exc 16).2.2.1 (T.exc 16).2.2.2) (by rfl))))) fss_nil)
    (fss_cons (fs_if (ft_op (fun h1 h2 => pt_cmpR (op_eqD hr.units) h1 h2 (nomark _)) bop_eq (fe_var (pv 0)) fe_int) (fss_one (fs_raise0 (ps_raise rfl (takes_of rfl rfl rfl rfl) (mk_bare PySem.F.excBase_ValueError (T.exc 18).1 (T.gl 19) (T.exc 18).2.1 (raises_own (T.exc 18).2.2.1 (T.exc 18).2.2.2) (by rfl))))) fss_nil)
    (fss_cons (fs_if (ft_op (fun h1 h2 => pt_cmpR (op_eqD hr.units) h1 h2 (nomark _)) bop_eq (fe_var (pv 0)) fe_int) (fss_one (fs_raise0 (ps_raise rfl (takes_of rfl rfl rfl rfl) (mk_bare PySem.F.excBase_ValueError (T.exc 20).1 (T.gl 21) (T.exc 20).2.1 (raises_own (T.exc 20).2.2.1 (T.exc 20).2.2.2) (by rfl))))) fss_nil)
    (fss_cons (fs_if (ft_op (fun h1 h2 => pt_cmpR (op_eqD hr.units) h1 h2 (nomark _)) bop_eq (fe_var (pv 0)) fe_int) (fss_one (fs_raise0 (ps_raise rfl (takes_of rfl rfl rfl rfl) (mk_bare PySem.F.excBase_ValueError (T.exc 22).1 (T.gl 23) (T.exc 22).2.1 (raises_own (T.exc 22).2.2.1 (T.exc 22).2.2.2) (by rfl))))) fss_nil)
    (fss_cons (fs_if (ft_op (fun h1 h2 => pt_cmpR (op_eqD hr.units) h1 h2 (nomark _)) bop_eq (fe_var (pv 0)) fe_int) (fss_one (fs_raise0 (ps_raise rfl (takes_of rfl rfl rfl rfl) (mk_bare PySem.F.excBase_ValueError (T.exc 24).1 (T.gl 25) (T.exc 24).2.1 (raises_own (T.exc 24).2.2.1 (T.exc 24).2.2.2) (by rfl))))) fss_nil)
    (fss_one (fs_raise0 (ps_raise rfl (takes_of rfl rfl rfl rfl) (mk_bare PySem.F.excBase_ValueError (T.exc 26).1 (T.gl 27) (T.exc 26).2.1 (raises_own (T.exc 26).2.2.1 (T.exc 26).2.2.2) (by rfl))))))))))))), (T.gl 28), Fd.kp, Fd.bindsN fun _ _ _ _ _ _ us hl => match us, hl with | [_], _ => rfl⟩

theorem sc__law_thrown : FnScope ["_law_k", "_law_one", "_law_two"] ["_law_k", "_law_one", "_law_two"] (defScope (tp 19)) := ⟨rfl, rfl, rfl, by decide +kernel, rfl, by decide +kernel, by decide +kernel⟩
theorem cal__law_thrown (T : Tx facts fns K mg) : Cal P w K mg base "_law_thrown" 4 3 (callM 3 m__law_thrown) := by
  have C__law_bare := cal__law_bare (P := P) (w := w) (base := base) T
  have C_InvalidFact___init__ := cal_InvalidFact___init__ (P := P) (w := w) (base := base) T
  have C_InvalidForm___init__ := cal_InvalidForm___init__ (P := P) (w := w) (base := base) T
  have C_InvalidSeen___init__ := cal_InvalidSeen___init__ (P := P) (w := w) (base := base) T
  have C_InvalidAsk___init__ := cal_InvalidAsk___init__ (P := P) (w := w) (base := base) T
  have C_InvalidText___init__ := cal_InvalidText___init__ (P := P) (w := w) (base := base) T
  obtain ⟨fd, Fd⟩ := SaysW.fd T.says 8
  have sc := sc__law_thrown
  exact ⟨_, fd, _, fn_ok Fd sc__law_thrown (fun cdv A outer s H E hr =>
    (fss_cons (fs_if (ft_op (fun h1 h2 => pt_cmpR op_lt h1 h2 (nomark _)) bop_lt (fe_var (pv 0)) fe_int) (fss_one (fs_drop (fun h => ps_expr h) (fe_cal C__law_bare (hr.mono (by decide)) (takes_of rfl rfl rfl rfl) (fa_cons (fe_var (pv 0)) fa_nil) (lenS len0)))) fss_nil)
    (fss_cons (fs_if (ft_op (fun h1 h2 => pt_cmpR (op_eqD hr.units) h1 h2 (nomark _)) bop_eq (fe_var (pv 0)) fe_int) (fss_one (fs_raise1 C_InvalidFact___init__ (fcOex_ok (T.fc 0)) (T.gl 29) (hr.mono (by decide)) (by rfl) (fe_var (pv 1)) (fun h => ps_raise rfl (takes_of rfl rfl rfl rfl) h))) fss_nil)
    (fss_cons (fs_if (ft_op (fun h1 h2 => pt_cmpR (op_eqD hr.units) h1 h2 (nomark _)) bop_eq (fe_var (pv 0)) fe_int) (fss_one (fs_raise1 C_InvalidForm___init__ (fcOex_ok (T.fc 1)) (T.gl 30) (hr.mono (by decide)) (by rfl) (fe_var (pv 1)) (fun h => ps_raise rfl (takes_of rfl rfl rfl rfl) h))) fss_nil)
    (fss_cons (fs_if (ft_op (fun h1 h2 => pt_cmpR (op_eqD hr.units) h1 h2 (nomark _)) bop_eq (fe_var (pv 0)) fe_int) (fss_one (fs_raise1 C_InvalidSeen___init__ (fcOex_ok (T.fc 2)) (T.gl 31) (hr.mono (by decide)) (by rfl) (fe_var (pv 1)) (fun h => ps_raise rfl (takes_of rfl rfl rfl rfl) h))) fss_nil)
    (fss_cons (fs_if (ft_op (fun h1 h2 => pt_cmpR (op_eqD hr.units) h1 h2 (nomark _)) bop_eq (fe_var (pv 0)) fe_int) (fss_one (fs_raise1 C_InvalidAsk___init__ (fcOex_ok (T.fc 3)) (T.gl 32) (hr.mono (by decide)) (by rfl) (fe_var (pv 1)) (fun h => ps_raise rfl (takes_of rfl rfl rfl rfl) h))) fss_nil)
    (fss_one (fs_raise2 C_InvalidText___init__ (fcOex_ok (T.fc 4)) (T.gl 33) (hr.mono (by decide)) (by rfl) (fe_var (pv 1)) (fe_var (pv 2)) (fun h => ps_raise rfl (takes_of rfl rfl rfl rfl) h))))))))), (T.gl 34), Fd.kp, Fd.bindsN fun _ _ _ _ _ _ us hl => match us, hl with | [_, _, _], _ => rfl⟩

theorem sc__law_classes : FnScope ["_law_e", "_law_found"] ["_law_e"] (defScope (tp 20)) := ⟨rfl, rfl, rfl, by decide +kernel, rfl, by decide +kernel, by decide +kernel⟩
theorem cal__law_classes (T : Tx facts fns K mg) (u : Ux) (ob : Obj) (hz : Zc u.cls u.dd ob) (hu : ∃ us, ob.data = .fields us) : CalU P w K mg base "_law_classes" 1 1 u ob (callM 2 (m__law_classes u.n u.as)) := by
  obtain ⟨fd, Fd⟩ := SaysW.fd T.says 9
  have sc := sc__law_classes
  exact ⟨_, fd, _, fn_okU Fd sc (fun cdv A outer s H E hr =>
    (fss_cons (fs_set (fun h => ps_set (i := 1) sc.nd rfl (.inl rfl) h) (fe_lst (fa_cons (fe_isP (u := u) (ob := ob) (ns := [("InvalidFact" : PySem.Str), ("NoWorths" : PySem.Str), ("UnknownIndex" : PySem.Str), ("InvalidForm" : PySem.Str), ("InvalidWorths" : PySem.Str), ("InvalidPurse" : PySem.Str), ("InvalidTotal" : PySem.Str), ("InvalidRecipe" : PySem.Str), ("InvalidSeen" : PySem.Str), ("InvalidAsk" : PySem.Str), ("InvalidKind" : PySem.Str), ("NoCoin" : PySem.Str), ("InvalidText" : PySem.Str)]) (List.mem_cons_self) rfl rfl hz hu (fcExcA_ok (T.fc 35)) (fcKitA_ok (T.fc 39)) (T.gl 13) (T.fr 37) rfl rfl rfl (.inl rfl)) (fa_cons (fe_isP (u := u) (ob := ob) (ns := [("InvalidFact" : PySem.Str), ("NoWorths" : PySem.Str), ("UnknownIndex" : PySem.Str), ("InvalidForm" : PySem.Str), ("InvalidWorths" : PySem.Str), ("InvalidPurse" : PySem.Str), ("InvalidTotal" : PySem.Str), ("InvalidRecipe" : PySem.Str), ("InvalidSeen" : PySem.Str), ("InvalidAsk" : PySem.Str), ("InvalidKind" : PySem.Str), ("NoCoin" : PySem.Str), ("InvalidText" : PySem.Str)]) (List.mem_cons_self) rfl rfl hz hu (fcExcA_ok (T.fc 35)) (fcKitA_ok (T.fc 38)) (T.gl 15) (T.fr 37) rfl rfl rfl (.inl rfl)) (fa_cons (fe_isP (u := u) (ob := ob) (ns := [("InvalidFact" : PySem.Str), ("NoWorths" : PySem.Str), ("UnknownIndex" : PySem.Str), ("InvalidForm" : PySem.Str), ("InvalidWorths" : PySem.Str), ("InvalidPurse" : PySem.Str), ("InvalidTotal" : PySem.Str), ("InvalidRecipe" : PySem.Str), ("InvalidSeen" : PySem.Str), ("InvalidAsk" : PySem.Str), ("InvalidKind" : PySem.Str), ("NoCoin" : PySem.Str), ("InvalidText" : PySem.Str)]) (List.mem_cons_self) rfl rfl hz hu (fcExcA_ok (T.fc 35)) (fcKitA_ok (T.fc 36)) (T.gl 17) (T.fr 37) rfl rfl rfl (.inl rfl)) fa_nil)))))
    (fss_cons (fs_set (fun h => ps_set (i := 1) sc.nd rfl (.inl rfl) h) (fe_op (fun h1 h2 => pe_op op_addU h1 h2) bop_add (fe_var (pv 1)) (fe_lst (fa_cons (fe_isP (u := u) (ob := ob) (ns := [("InvalidFact" : PySem.Str), ("NoWorths" : PySem.Str), ("UnknownIndex" : PySem.Str), ("InvalidForm" : PySem.Str), ("InvalidWorths" : PySem.Str), ("InvalidPurse" : PySem.Str), ("InvalidTotal" : PySem.Str), ("InvalidRecipe" : PySem.Str), ("InvalidSeen" : PySem.Str), ("InvalidAsk" : PySem.Str), ("InvalidKind" : PySem.Str), ("NoCoin" : PySem.Str), ("InvalidText" : PySem.Str)]) (List.mem_cons_self) rfl rfl hz hu (fcExcA_ok (T.fc 35)) (fcKitA_ok (T.fc 42)) (T.gl 19) (T.fr 37) rfl rfl rfl (.inl rfl)) (fa_cons (fe_isP (u := u) (ob := ob) (ns := [("InvalidFact" : PySem.Str), ("NoWorths" : PySem.Str), ("UnknownIndex" : PySem.Str), ("InvalidForm" : PySem.Str), ("InvalidWorths" : PySem.Str), ("InvalidPurse" : PySem.Str), ("InvalidTotal" : PySem.Str), ("InvalidRecipe" : PySem.Str), ("InvalidSeen" : PySem.Str), ("InvalidAsk" : PySem.Str), ("InvalidKind" : PySem.Str), ("NoCoin" : PySem.Str), ("InvalidText" : PySem.Str)]) (List.mem_cons_self) rfl rfl hz hu (fcExcA_ok (T.fc 35)) (fcKitA_ok (T.fc 41)) (T.gl 21) (T.fr 37) rfl rfl rfl (.inl rfl)) (fa_cons (fe_isP (u := u) (ob := ob) (ns := [("InvalidFact" : PySem.Str), ("NoWorths" : PySem.Str), ("UnknownIndex" : PySem.Str), ("InvalidForm" : PySem.Str), ("InvalidWorths" : PySem.Str), ("InvalidPurse" : PySem.Str), ("InvalidTotal" : PySem.Str), ("InvalidRecipe" : PySem.Str), ("InvalidSeen" : PySem.Str), ("InvalidAsk" : PySem.Str), ("InvalidKind" : PySem.Str), ("NoCoin" : PySem.Str), ("InvalidText" : PySem.Str)]) (List.mem_cons_self) rfl rfl hz hu (fcExcA_ok (T.fc 35)) (fcKitA_ok (T.fc 40)) (T.gl 23) (T.fr 37) rfl rfl rfl (.inl rfl)) fa_nil))))))
    (fss_cons (fs_set (fun h => ps_set (i := 1) sc.nd rfl (.inl rfl) h) (fe_op (fun h1 h2 => pe_op op_addU h1 h2) bop_add (fe_var (pv 1)) (fe_lst (fa_cons (fe_isP (u := u) (ob := ob) (ns := [("InvalidFact" : PySem.Str), ("NoWorths" : PySem.Str), ("UnknownIndex" : PySem.Str), ("InvalidForm" : PySem.Str), ("InvalidWorths" : PySem.Str), ("InvalidPurse" : PySem.Str), ("InvalidTotal" : PySem.Str), ("InvalidRecipe" : PySem.Str), ("InvalidSeen" : PySem.Str), ("InvalidAsk" : PySem.Str), ("InvalidKind" : PySem.Str), ("NoCoin" : PySem.Str), ("InvalidText" : PySem.Str)]) (List.mem_cons_self) rfl rfl hz hu (fcExcA_ok (T.fc 35)) (fcKitA_ok (T.fc 45)) (T.gl 25) (T.fr 37) rfl rfl rfl (.inl rfl)) (fa_cons (fe_isP (u := u) (ob := ob) (ns := [("InvalidFact" : PySem.Str), ("NoWorths" : PySem.Str), ("UnknownIndex" : PySem.Str), ("InvalidForm" : PySem.Str), ("InvalidWorths" : PySem.Str), ("InvalidPurse" : PySem.Str), ("InvalidTotal" : PySem.Str), ("InvalidRecipe" : PySem.Str), ("InvalidSeen" : PySem.Str), ("InvalidAsk" : PySem.Str), ("InvalidKind" : PySem.Str), ("NoCoin" : PySem.Str), ("InvalidText" : PySem.Str)]) (List.mem_cons_self) rfl rfl hz hu (fcExcA_ok (T.fc 35)) (fcKitA_ok (T.fc 44)) (T.gl 27) (T.fr 37) rfl rfl rfl (.inl rfl)) (fa_cons (fe_isP (u := u) (ob := ob) (ns := [("InvalidFact" : PySem.Str), ("NoWorths" : PySem.Str), ("UnknownIndex" : PySem.Str), ("InvalidForm" : PySem.Str), ("InvalidWorths" : PySem.Str), ("InvalidPurse" : PySem.Str), ("InvalidTotal" : PySem.Str), ("InvalidRecipe" : PySem.Str), ("InvalidSeen" : PySem.Str), ("InvalidAsk" : PySem.Str), ("InvalidKind" : PySem.Str), ("NoCoin" : PySem.Str), ("InvalidText" : PySem.Str)]) (List.mem_cons_self) rfl rfl hz hu (fcExcA_ok (T.fc 35)) (fcKitA_ok (T.fc 43)) (T.gl 29) (T.fr 37) rfl rfl rfl (.inl rfl)) fa_nil))))))
    (fss_cons (fs_set (fun h => ps_set (i := 1) sc.nd rfl (.inl rfl) h) (fe_op (fun h1 h2 => pe_op op_addU h1 h2) bop_add (fe_var (pv 1)) (fe_lst (fa_cons (fe_isP (u := u) (ob := ob) (ns := [("InvalidFact" : PySem.Str), ("NoWorths" : PySem.Str), ("UnknownIndex" : PySem.Str), ("InvalidForm" : PySem.Str), ("InvalidWorths" : PySem.Str), ("InvalidPurse" : PySem.Str), ("InvalidTotal" : PySem.Str), ("InvalidRecipe" : PySem.Str), ("InvalidSeen" : PySem.Str), ("InvalidAsk" : PySem.Str), ("InvalidKind" : PySem.Str), ("NoCoin" : PySem.Str), ("InvalidText" : PySem.Str)]) (List.mem_cons_self) rfl rfl hz hu (fcExcA_ok (T.fc 35)) (fcKitA_ok (T.fc 48)) (T.gl 30) (T.fr 37) rfl rfl rfl (.inl rfl)) (fa_cons (fe_isP (u := u) (ob := ob) (ns := [("InvalidFact" : PySem.Str), ("NoWorths" : PySem.Str), ("UnknownIndex" : PySem.Str), ("InvalidForm" : PySem.Str), ("InvalidWorths" : PySem.Str), ("InvalidPurse" : PySem.Str), ("InvalidTotal" : PySem.Str), ("InvalidRecipe" : PySem.Str), ("InvalidSeen" : PySem.Str), ("InvalidAsk" : PySem.Str), ("InvalidKind" : PySem.Str), ("NoCoin" : PySem.Str), ("InvalidText" : PySem.Str)]) (List.mem_cons_self) rfl rfl hz hu (fcExcA_ok (T.fc 35)) (fcKitA_ok (T.fc 47)) (T.gl 31) (T.fr 37) rfl rfl rfl (.inl rfl)) (fa_cons (fe_isP (u := u) (ob := ob) (ns := [("InvalidFact" : PySem.Str), ("NoWorths" : PySem.Str), ("UnknownIndex" : PySem.Str), ("InvalidForm" : PySem.Str), ("InvalidWorths" : PySem.Str), ("InvalidPurse" : PySem.Str), ("InvalidTotal" : PySem.Str), ("InvalidRecipe" : PySem.Str), ("InvalidSeen" : PySem.Str), ("InvalidAsk" : PySem.Str), ("InvalidKind" : PySem.Str), ("NoCoin" : PySem.Str), ("InvalidText" : PySem.Str)]) (List.mem_cons_self) rfl rfl hz hu (fcExcA_ok (T.fc 35)) (fcKitA_ok (T.fc 46)) (T.gl 32) (T.fr 37) rfl rfl rfl (.inl rfl)) fa_nil))))))
    (fss_one (fs_ret (fe_op (fun h1 h2 => pe_op op_addU h1 h2) bop_add (fe_var (pv 1)) (fe_lst (fa_cons (fe_isP (u := u) (ob := ob) (ns := [("InvalidFact" : PySem.Str), ("NoWorths" : PySem.Str), ("UnknownIndex" : PySem.Str), ("InvalidForm" : PySem.Str), ("InvalidWorths" : PySem.Str), ("InvalidPurse" : PySem.Str), ("InvalidTotal" : PySem.Str), ("InvalidRecipe" : PySem.Str), ("InvalidSeen" : PySem.Str), ("InvalidAsk" : PySem.Str), ("InvalidKind" : PySem.Str), ("NoCoin" : PySem.Str), ("InvalidText" : PySem.Str)]) (List.mem_cons_self) rfl rfl hz hu (fcExcA_ok (T.fc 35)) (fcKitA_ok (T.fc 49)) (T.gl 33) (T.fr 37) rfl rfl rfl (.inl rfl)) fa_nil)))))))))), (T.gl 50), Fd.kp, Fd.bindsN fun _ _ _ _ _ _ us hl => match us, hl with | [_], _ => rfl⟩

theorem sc__law_parts : FnScope ["_law_k", "_law_e"] ["_law_k", "_law_e"] (defScope (tp 21)) := ⟨rfl, rfl, rfl, by decide +kernel, rfl, by decide +kernel, by decide +kernel⟩
theorem cal__law_parts (T : Tx facts fns K mg) (u : Ux) (ob : Obj) (hz : Zc u.cls u.dd ob) (hu : ∃ us, ob.data = .fields us) : CalU P w K mg base "_law_parts" 1 2 u ob (callM 2 (m__law_parts u.n u.as)) := by
  obtain ⟨fd, Fd⟩ := SaysW.fd T.says 10
  have sc := sc__law_parts
  exact ⟨_, fd, _, fn_okU Fd sc (fun cdv A outer s H E hr =>
    (fss_cons (fs_if (ft_op (fun h1 h2 => pt_cmpR op_lt h1 h2 (nomark _)) bop_lt (fe_var (pv 0)) fe_int) (fss_one (fs_ret (fe_lst fa_nil))) fss_nil)
    (fss_one (fs_ret (fe_if (ft_op (fun h1 h2 => pt_cmpR op_lt h1 h2 (nomark _)) bop_lt (fe_var (pv 0)) fe_int) (fe_lst (fa_cons (fe_xj (u := u) (ob := ob) (ns := [("InvalidFact" : PySem.Str), ("InvalidForm" : PySem.Str), ("InvalidSeen" : PySem.Str), ("InvalidAsk" : PySem.Str)]) (List.mem_cons_self) rfl rfl hz hu (fcXfA_ok (T.fc 51)) (by decide) xl_index rfl (.inl rfl)) fa_nil)) (fe_lst (fa_cons (fe_xj (u := u) (ob := ob) (ns := [("InvalidText" : PySem.Str)]) (List.mem_cons_self) rfl rfl hz hu (fcXfA_ok (T.fc 53)) (by decide) xl_line rfl (.inl rfl)) (fa_cons (fe_xj (u := u) (ob := ob) (ns := [("InvalidText" : PySem.Str)]) (List.mem_cons_self) rfl rfl hz hu (fcXfA_ok (T.fc 52)) (by decide) xl_word rfl (.inl rfl)) fa_nil)))))))), (T.gl 54), Fd.kp, Fd.bindsN fun _ _ _ _ _ _ us hl => match us, hl with | [_, _], _ => rfl⟩

theorem sc__law_right : FnScope ["_law_k", "_law_one", "_law_two", "_law_good", "_law_due", "_law_e", "_law_other"] ["_law_k", "_law_one", "_law_two"] (defScope (tp 22)) := ⟨rfl, rfl, rfl, by decide +kernel, rfl, by decide +kernel, by decide +kernel⟩
theorem cal__law_right (T : Tx facts fns K mg) : Cal P w K mg base "_law_right" 5 3 (callM 7 m__law_right) := by
  have C__law_thrown := cal__law_thrown (P := P) (w := w) (base := base) T
  have C__law_classes := cal__law_classes (P := P) (w := w) (base := base) T
  have C__law_parts := cal__law_parts (P := P) (w := w) (base := base) T
  obtain ⟨fd, Fd⟩ := SaysW.fd T.says 11
  have sc := sc__law_right
  exact ⟨_, fd, _, fn_ok Fd sc__law_right (fun cdv A outer s H E hr =>
    (fss_cons (fs_set (fun h => ps_set (i := 3) sc.nd rfl (.inl rfl) h) fe_bl)
    (fss_cons (fs_set (fun h => ps_set (i := 4) sc.nd rfl (.inl rfl) h) (fe_op (fun h1 h2 => pe_op op_addU h1 h2) bop_add (fe_slice (fe_lst (fa_cons (fe_var (pv 1)) fa_nil)) fo_none (fo_some (fe_call (fun h => pe_callTy call_int1 (by rfl) (T.fr 6) Tw.boot_int h) bc_int (fa_cons (fe_op (fun h1 h2 => pe_cmpR op_gt h1 h2 (nomark _)) bop_gt (fe_var (pv 0)) fe_int) fa_nil))) rfl) (fe_slice (fe_lst (fa_cons (fe_var (pv 2)) fa_nil)) fo_none (fo_some (fe_call (fun h => pe_callTy call_int1 (by rfl) (T.fr 6) Tw.boot_int h) bc_int (fa_cons (fe_op (fun h1 h2 => pe_cmpR op_gt h1 h2 (nomark _)) bop_gt (fe_var (pv 0)) fe_int) fa_nil))) rfl)))
    (fss_cons (fs_try (c := cE K E) (ns := [("InvalidFact" : PySem.Str), ("NoWorths" : PySem.Str), ("UnknownIndex" : PySem.Str), ("InvalidForm" : PySem.Str), ("InvalidWorths" : PySem.Str), ("InvalidPurse" : PySem.Str), ("InvalidTotal" : PySem.Str), ("InvalidRecipe" : PySem.Str), ("InvalidSeen" : PySem.Str), ("InvalidAsk" : PySem.Str), ("InvalidKind" : PySem.Str), ("NoCoin" : PySem.Str), ("InvalidText" : PySem.Str)]) rfl rfl rfl rfl sc.nd (takes_of rfl rfl rfl rfl) (fmc (fmc (T.exm 71) fm0) (fmc (fmc (T.exm 70) fm0) (fmc (fmc (T.exm 69) fm0) (fmc (fmc (T.exm 68) fm0) (fmc (fmc (T.exm 67) fm0) (fmc (fmc (T.exm 66) fm0) (fmc (fmc (T.exm 65) fm0) (fmc (fmc (T.exm 64) fm0) (fmc (fmc (T.exm 63) fm0) (fmc (fmc (T.exm 62) fm0) (fmc (fmc (T.exm 61) fm0) (fmc (fmc (T.exm 60) fm0) (fmc (fmc (T.exm 59) fm0) fm0))))))))))))) (fun W pn xe tk po => (fss_one (fs_drop (fun h => ps_expr h) (fe_cal C__law_thrown (hr.mono (by decide)) tk (fa_cons (fe_var (pv 0)) (fa_cons (fe_var (pv 1)) (fa_cons (fe_var (pv 2)) fa_nil))) (lenS (lenS (lenS len0)))))))
     (hs_named (c := cE K E) ⟨rfl, by decide, .inl (T.gl 58)⟩ rfl rfl (fun a ob cl dd pn n as hz hu => (fss_cons (fs_set (fun h => ps_set (i := 3) sc.nd rfl (.inl rfl) h) (fe_and (fe_isV (u := ⟨a, cl, dd, n, as⟩) (ob := ob) (ns := [("InvalidFact" : PySem.Str), ("NoWorths" : PySem.Str), ("UnknownIndex" : PySem.Str), ("InvalidForm" : PySem.Str), ("InvalidWorths" : PySem.Str), ("InvalidPurse" : PySem.Str), ("InvalidTotal" : PySem.Str), ("InvalidRecipe" : PySem.Str), ("InvalidSeen" : PySem.Str), ("InvalidAsk" : PySem.Str), ("InvalidKind" : PySem.Str), ("NoCoin" : PySem.Str), ("InvalidText" : PySem.Str)]) (List.mem_cons_self) rfl rfl hz.zc hu (fcExcA_ok (T.fc 35)) (fcKitVA_ok (T.fc 55)) (T.fr 56) (T.fr 37) rfl rfl rfl (.inl rfl) (by rfl)) (fe_and1 (fe_op (fun h1 h2 => pe_cmpR (op_eqD hr.units) h1 h2 (nomark _)) bop_eq (fe_calU (C__law_classes ⟨a, cl, dd, n, as⟩ ob hz.zc hu) rfl (roomU (hr.mono (by decide))) (List.mem_cons_self) (fa_exn rfl (.inl rfl)) fr_len_exn) (fe_compH (mine := [(("_law_other" : PySem.Str), 6)]) ⟨(a, ob), ⟨rfl, hot_of hz hu⟩, List.mem_cons_self⟩ sc.nd (blkOk_by (N := ["_law_k", "_law_one", "_law_two", "_law_good", "_law_due", "_law_e", "_law_other"]) (sc := defScope (tp 22)) (by decide +kernel)) (fi_rng1H (fun h => L2H.pi_range1H (by rfl) (T.fr 57) h) (fa_cons fe_int fa_nil)) (fun _ _ _ _ _ => (fg_name (ws := [6]) (pg_name (i := 6) sc.nd rfl (.inl rfl)) (by decide))) (fun _ _ _ _ _ => fts_nil) (fun _ _ _ _ _ => (fe_op (fun h1 h2 => pe_cmpR (op_eqD hr.units) h1 h2 (nomark _)) bop_eq (fe_var (pv 6)) (fe_var (pv 0)))))))))
    (fss_one (fs_set (fun h => ps_set (i := 3) sc.nd rfl (.inl rfl) h) (fe_and (fe_var (pv 3)) (fe_and1 (fe_op (fun h1 h2 => pe_cmpR (op_eqD hr.units) h1 h2 (nomark _)) bop_eq (fe_calU (C__law_parts ⟨a, cl, dd, n, as⟩ ob hz.zc hu) rfl (roomU (hr.mono (by decide))) (List.mem_cons_self) (fa_consE (fe_var (pv 0)) (fa_exn rfl (.inl rfl))) (lenS fr_len_exn)) (fe_var (pv 4)))))))))
     (hs_nil (c := cE K E))))
    (fss_one (fs_ret (fe_var (pv 3)))))))), (T.gl 72), Fd.kp, Fd.bindsN fun _ _ _ _ _ _ us hl => match us, hl with | [_, _, _], _ => rfl⟩

theorem sc_law : FnScope ["_law_script", "_law_h", "_law_one", "_law_two", "_law_k"] ["_law_script"] (defScope (tp 23)) := ⟨rfl, rfl, rfl, by decide +kernel, rfl, by decide +kernel, by decide +kernel⟩
theorem ok_law (T : Tx facts fns K mg) : ∃ fd, (∀ (s : Shared) (u : Value), BindsTo s fd ⟨[u], []⟩ [("_law_script", u)]) ∧ mg "law" = some (.ref (adr K ("law", none))) ∧ ∀ base : Heap, FnOk P w K mg base (L2N.CX P w) 6 (adr K ("law", none)) fd ["_law_script"] (spF K (callM 5 m_law) 1) := by
  obtain ⟨fd, Fd⟩ := SaysW.fd T.says 12
  have sc := sc_law
  refine ⟨fd, fun s u => Fd.bindsA (ps := ["_law_script"]) (fun _ _ _ _ _ _ us hl => match us, hl with | [_], _ => rfl) s [u] rfl, T.gl 74, fun base => ?_⟩
  have C__law_mix := cal__law_mix (P := P) (w := w) (base := base) T
  have C__law_next := cal__law_next (P := P) (w := w) (base := base) T
  have C__law_right := cal__law_right (P := P) (w := w) (base := base) T
  exact fn_ok Fd sc_law (fun cdv A outer s H E hr =>
    (fss_cons (fs_set (fun h => ps_set (i := 1) sc.nd rfl (.inl rfl) h) (fe_cal C__law_mix (hr.mono (by decide)) (takes_of rfl rfl rfl rfl) (fa_cons (fe_var (pv 0)) (fa_cons fe_int fa_nil)) (lenS (lenS len0))))
    (fss_cons (fs_set (fun h => ps_set (i := 2) sc.nd rfl (.inr rfl) h) (fe_op (fun h1 h2 => pe_ix ix_seq h1 h2 (fun _ _ => rfl)) bop_ix (fe_lst (fa_cons fe_str (fa_cons fe_str (fa_cons fe_int (fa_cons (fe_tup (fa_cons fe_str (fa_cons fe_int fa_nil))) (fa_cons fe_non fa_nil)))))) (fe_cal C__law_next (hr.mono (by decide)) (takes_of rfl rfl rfl rfl) (fa_cons (fe_var (pv 1)) (fa_cons fe_int fa_nil)) (lenS (lenS len0)))))
    (fss_cons (fs_set (fun h => ps_set (i := 3) sc.nd rfl (.inr rfl) h) (fe_op (fun h1 h2 => pe_ix ix_seq h1 h2 (fun _ _ => rfl)) bop_ix (fe_lst (fa_cons (fe_tup fa_nil) (fa_cons fe_str (fa_cons fe_int (fa_cons fe_non fa_nil))))) (fe_cal C__law_next (hr.mono (by decide)) (takes_of rfl rfl rfl rfl) (fa_cons (fe_var (pv 1)) (fa_cons fe_int fa_nil)) (lenS (lenS len0)))))
    (fss_one (fs_ret (fe_call (fun h => pe_callB (cr_all rfl) (by rfl) (T.fr 73) Tw.boot_all h) bc_all (fa_cons (fe_comp (fun h1 h2 h3 h4 => pe_lc (own := [(("_law_k" : PySem.Str), 4)]) rfl sc.nd h1 (blkOk_by (N := ["_law_script", "_law_h", "_law_one", "_law_two", "_law_k"]) (sc := defScope (tp 23)) (by decide +kernel)) h2 h3 h4) (fi_rng1 (fun h => pi_range1 (by rfl) (T.fr 57) h) (fa_cons fe_int fa_nil)) (fun _ _ _ _ _ => (fg_name (ws := [4]) (pg_name (i := 4) sc.nd rfl (.inl rfl)) (by decide))) (fun _ _ _ _ _ => fts_nil) (fun _ _ _ _ _ => (fe_cal C__law_right (hr.mono (by decide)) takes0N (fa_cons (fe_var (pv 4)) (fa_cons (fe_var (pv 2)) (fa_cons (fe_var (pv 3)) fa_nil))) (lenS (lenS (lenS len0)))))) fa_nil))))))))

end
/-! ### plain: the law's draws -/
def hs (R : Sto) (s : Int) (cs : List Int) (i : Int) : Sto := .lst (cs.map fun c => D.p (.int c)) :: .lst [.p (.int s), .own 0, .p (.int i), .p (.int 14)] :: R
theorem asPs_ints : ∀ cs : List Int, asPs (cs.map fun c => D.p (.int c)) = some (cs.map PyData.int)
  | [] => rfl
  | c :: cs => by rw [List.map_cons, List.map_cons, asPs, asPs_ints cs]; rfl
theorem map_set_int (cs : List Int) (k : Nat) (v : Int) : (cs.map fun c => D.p (.int c)).set k (.p (.int v)) = (cs.set k v).map fun c => D.p (.int c) := by
  rw [List.map_set]
/-- the state after some draws -/
def IsH (R S : Sto) : Prop := ∃ s cs i, cs.length ≤ 63 ∧ S = hs R s cs i
theorem IsH.len {R S : Sto} (h : IsH R S) : S.length = R.length + 2 := by
  obtain ⟨s, cs, i, hc, rfl⟩ := h
  rfl
theorem next_ok {R S : Sto} (h : IsH R S) (b : Int) (hb : 0 < b) (hb2 : b < 1073741824) : ∃ r S', 0 ≤ r ∧ r < b ∧ IsH R S' ∧ callM 3 m__law_next [.own 1, .p (.int b)] S = .ok (.p (.int r)) S' := by
  obtain ⟨s, cs, i, hc, rfl⟩ := h
  have hn : ∃ n : Int, n = (if (cs.length : Int) > 1 then (cs.length : Int) else 1) ∧ 0 < n ∧ n ≤ cs.length + 1 ∧ (cs ≠ [] → n = cs.length) := by
    refine ⟨_, rfl, ?_, ?_, fun h => ?_⟩
    · split <;> omega
    · split <;> omega
    · have := List.length_pos_iff.mpr h
      split <;> omega
  obtain ⟨n, en, hn0, hn1, hn2⟩ := hn
  have h0 : 0 ≤ i % n := Int.emod_nonneg _ (by omega)
  have h1 : i % n < n := Int.emod_lt_of_pos _ hn0
  have hcell : ∃ c, atI ((cs.map PyData.int) ++ [PyData.int 0]) (i % n) = some (.int c) ∧ (c ≠ 0 → cs ≠ []) := by
    by_cases hk : (i % n).toNat < cs.length
    · refine ⟨cs[(i % n).toNat], atI_some h0 ?_, fun _ h => by rw [h] at hk; cases hk⟩
      rw [List.getElem?_append_left (by simpa using hk)]
      simp [hk]
    · refine ⟨0, atI_some h0 ?_, fun h => absurd rfl h⟩
      rw [List.getElem?_append_right (by simpa using Nat.le_of_not_lt hk), List.length_map]
      have : (i % n).toNat - cs.length = 0 := by omega
      rw [this]
      rfl
  obtain ⟨c, hc1, hc2⟩ := hcell
  have hlim : (cs.map PyData.int).length + [PyData.int 0].length < lim := by
    simp only [List.length_map, List.length_cons, List.length_nil]
    show cs.length + (0 + 1) < 1000000
    omega
  have a1 : gAdd (.own 0) (.p (.list [.int 0])) (hs R s cs i) = .ok (.p (.list (cs.map PyData.int ++ [.int 0]))) (hs R s cs i) := by
    show (match asPs (cs.map fun c => D.p (.int c)) with
      | some a => if a.length + [PyData.int 0].length < lim then Res.ok (D.p (.list (a ++ [PyData.int 0]))) (hs R s cs i) else .bad
      | none => .bad) = _
    rw [asPs_ints]
    exact if_pos hlim
  rw [callM_ap 3 _ _ _ (by show 2 ≤ 3; decide)]
  have g0 : (hs R s cs i)[0]? = some (.lst (cs.map fun c => D.p (.int c))) := rfl
  have g1 : (hs R s cs i)[1]? = some (.lst [D.p (.int s), D.own 0, D.p (.int i), D.p (.int 14)]) := rfl
  by_cases hbig : (1000000000000000000 : Int) ≤ c
  · have hne : cs ≠ [] := hc2 (by omega)
    have hpos : 0 < cs.length := List.length_pos_iff.mpr hne
    have hix : ixN cs.length (i % cs.length) = some (i % cs.length).toNat := by
      have := hn2 hne
      subst this
      exact ixN_nat h0 h1
    refine ⟨c % b, hs R s (cs.set (i % cs.length).toNat (c / b)) i, Int.emod_nonneg _ (by omega), Int.emod_lt_of_pos _ hb, ⟨_, _, _, by rw [List.length_set]; exact hc, rfl⟩, ?_⟩
    have st : (hs R s cs i).set 0 (O.lst ((cs.map fun c => D.p (.int c)).set (i % cs.length).toNat (D.p (.int (c / b))))) = hs R s (cs.set (i % cs.length).toNat (c / b)) i := by
      rw [map_set_int]
      rfl
    have tl : (hs R s (cs.set (i % cs.length).toNat (c / b)) i).length = (hs R s cs i).length := rfl
    simp [m__law_next, g_ixO, g_ixT, g_ixL, g0, g1, a1, ← en, hn0, hc1, hbig, hb, hb2, hpos, hix, st, trim_same tl]
  · refine ⟨(((s * 48271 + c * 69621 + 11) % 2147483647) / 7) % b, hs R ((s * 48271 + c * 69621 + 11) % 2147483647) cs (i + 1), Int.emod_nonneg _ (by omega), Int.emod_lt_of_pos _ hb, ⟨_, _, _, hc, rfl⟩, ?_⟩
    have i0 : ixN 4 0 = some 0 := rfl
    have i2 : ixN 4 2 = some 2 := rfl
    have g1' : ∀ x, (hs R x cs i)[1]? = some (.lst [D.p (.int x), D.own 0, D.p (.int i), D.p (.int 14)]) := fun _ => rfl
    have g1'' : ∀ x, (hs R x cs (i + 1))[1]? = some (.lst [D.p (.int x), D.own 0, D.p (.int (i + 1)), D.p (.int 14)]) := fun _ => rfl
    have s1 : ∀ x, (hs R s cs i).set 1 (.lst [D.p (.int x), D.own 0, D.p (.int i), D.p (.int 14)]) = hs R x cs i := fun _ => rfl
    have s2 : ∀ x, (hs R x cs i).set 1 (.lst [D.p (.int x), D.own 0, D.p (.int (i + 1)), D.p (.int 14)]) = hs R x cs (i + 1) := fun _ => rfl
    have tl : ∀ x, (hs R x cs (i + 1)).length = (hs R s cs i).length := fun _ => rfl
    simp [m__law_next, g_ixO, g_ixT, g_ixL, g0, g1', g1'', s1, s2, a1, ← en, hn0, hc1, hbig, hb, hb2, i0, i2, trim_same (tl _)]

theorem IsH.set0 {x y : O} {R S : Sto} (h : IsH (x :: R) S) : S[2]? = some x ∧ IsH (y :: R) (S.set 2 y) := by
  obtain ⟨s, cs, i, hc, rfl⟩ := h
  exact ⟨rfl, s, cs, i, hc, rfl⟩
theorem IsH.push {R S : Sto} (h : IsH R S) (x : O) : IsH (R ++ [x]) (S ++ [x]) := by
  obtain ⟨s, cs, i, hc, rfl⟩ := h
  exact ⟨s, cs, i, hc, rfl⟩
theorem IsH.pop {R S S0 : Sto} (h : IsH R S) (h0 : IsH [] S0) (hR : 0 < R.length) (d : PyData) : ∃ S', IsH [] S' ∧ trim S0 (.p d) S = .ok (.p d) S' := by
  obtain ⟨s, cs, i, hc, rfl⟩ := h
  refine ⟨hs [] s cs i, ⟨s, cs, i, hc, rfl⟩, ?_⟩
  unfold trim
  rw [h0.len, if_neg (by show ¬ (R.length + 1 + 1 = 0 + 2); omega)]
  refine if_pos ?_
  show ((cs.map fun c => D.p (.int c)).all (D.low 2) && true) = true
  rw [List.all_map, Bool.and_true, List.all_eq_true]
  exact fun _ _ => rfl
theorem IsH.back {R S S0 : Sto} (h : IsH R S) (h0 : IsH R S0) (d : D) : trim S0 d S = .ok d S := trim_same (by rw [h.len, h0.len])
theorem mix_ok (ns : List Int) (k : Int) (h : ns.length ≤ 63) : ∃ S, IsH [] S ∧ callO 4 m__law_mix [.scr ns, .p (.int k)] [] = .ok (.own 1) S := by
  rw [callO_ap 4 _ _ _ (by show 2 ≤ 4; decide)]
  have loop : ∀ (l : List Int) (st : Int) (x : Option D), ∃ st' x', forL (gNm 3) (fSet 2 (fBin gMod (fCall gInt (fCons (fBin gAdd (fBin gAdd (fBin gMul (fVar 2) (fCon (.int 48271))) (fBin gMod (fCall gInt (fCons (fVar 3) fNil)) (fCon (.int 2147483629)))) (fCon (.int 1))) fNil)) (fCon (.int 2147483647)))) ((l.map PyData.int).map D.p) [some (.scr ns), some (.p (.int k)), some (.p (.int st)), x] [] = .nx [some (.scr ns), some (.p (.int k)), some (.p (.int st')), x'] [] := by
    intro l
    induction l with
    | nil => exact fun st x => ⟨st, x, rfl⟩
    | cons y l ih =>
      intro st x
      obtain ⟨st', x', e⟩ := ih ((st * 48271 + y % 2147483629 + 1) % 2147483647) (some (.p (.int y)))
      refine ⟨st', x', ?_⟩
      rw [List.map_cons, List.map_cons]
      simp
      simpa using e
  obtain ⟨st', x', e⟩ := loop ns k none
  refine ⟨hs [] st' ns 0, ⟨_, _, _, h, rfl⟩, ?_⟩
  simp [m__law_mix]
  simp at e
  rw [e]
  simp [gListO, hs]
/-! ### plain: loops -/
section
variable {α β : Type} {gg g1 : FG} {body : FS} {enc : α → D} {enc1 : β → D} {ft fe ft1 : FE} {fi1 : FI} {vs1 : List Nat}
theorem forL_pre {P : List α → Env → Sto → Prop} (xs : List α)
    (step : ∀ l x r, xs = l ++ x :: r → ∀ ρ S, P l ρ S → ∃ ρ1 ρ2 S2, gg (enc x) ρ = some ρ1 ∧ body ρ1 S = .nx ρ2 S2 ∧ P (l ++ [x]) ρ2 S2)
    {ρ : Env} {S : Sto} (h0 : P [] ρ S) : ∃ ρ' S', forL gg body (xs.map enc) ρ S = .nx ρ' S' ∧ P xs ρ' S' := by
  have go : ∀ (r l : List α) (ρ : Env) (S : Sto), xs = l ++ r → P l ρ S → ∃ ρ' S', forL gg body (r.map enc) ρ S = .nx ρ' S' ∧ P xs ρ' S' := by
    intro r
    induction r with
    | nil =>
      intro l ρ S e h
      rw [List.append_nil] at e
      exact ⟨ρ, S, rfl, e ▸ h⟩
    | cons x r ih =>
      intro l ρ S e h
      obtain ⟨ρ1, ρ2, S2, e1, e2, h2⟩ := step l x r e ρ S h
      obtain ⟨ρ', S', e3, h3⟩ := ih (l ++ [x]) ρ2 S2 (by rw [e, List.append_assoc]; rfl) h2
      refine ⟨ρ', S', ?_, h3⟩
      rw [List.map_cons, forL_cons, e1]
      dsimp only
      rw [e2, rnd_nx, e3]
  exact go xs [] ρ S rfl h0
/-- a loop that may answer -/
theorem forL_rt {P : List α → Env → Sto → Prop} {Q : D → Sto → Prop} (xs : List α)
    (step : ∀ l x r, xs = l ++ x :: r → ∀ ρ S, P l ρ S → ∃ ρ1, gg (enc x) ρ = some ρ1 ∧ ((∃ ρ2 S2, body ρ1 S = .nx ρ2 S2 ∧ P (l ++ [x]) ρ2 S2) ∨ ∃ d S2, body ρ1 S = .rt d S2 ∧ Q d S2))
    {ρ : Env} {S : Sto} (h0 : P [] ρ S) : (∃ ρ' S', forL gg body (xs.map enc) ρ S = .nx ρ' S' ∧ P xs ρ' S') ∨ ∃ d S', forL gg body (xs.map enc) ρ S = .rt d S' ∧ Q d S' := by
  have go : ∀ (r l : List α) (ρ : Env) (S : Sto), xs = l ++ r → P l ρ S → (∃ ρ' S', forL gg body (r.map enc) ρ S = .nx ρ' S' ∧ P xs ρ' S') ∨ ∃ d S', forL gg body (r.map enc) ρ S = .rt d S' ∧ Q d S' := by
    intro r
    induction r with
    | nil =>
      intro l ρ S e h
      rw [List.append_nil] at e
      exact .inl ⟨ρ, S, rfl, e ▸ h⟩
    | cons x r ih =>
      intro l ρ S e h
      obtain ⟨ρ1, e1, ⟨ρ2, S2, e2, h2⟩ | ⟨d, S2, e2, h2⟩⟩ := step l x r e ρ S h
      · rcases ih (l ++ [x]) ρ2 S2 (by rw [e, List.append_assoc]; rfl) h2 with ⟨ρ', S', e3, h3⟩ | ⟨d, S', e3, h3⟩
        · refine .inl ⟨ρ', S', ?_, h3⟩
          rw [List.map_cons, forL_cons, e1]
          dsimp only
          rw [e2, rnd_nx, e3]
        · refine .inr ⟨d, S', ?_, h3⟩
          rw [List.map_cons, forL_cons, e1]
          dsimp only
          rw [e2, rnd_nx, e3]
      · refine .inr ⟨d, S2, ?_, h2⟩
        rw [List.map_cons, forL_cons, e1]
        dsimp only
        rw [e2, rnd_rt]
  exact go xs [] ρ S rfl h0
theorem compL_map {p : α → Bool} {val : α → PyData} {ρ : Env} {S : Sto} : ∀ (xs : List α), (∀ x ∈ xs, ∃ ρ1, gg (enc x) ρ = some ρ1 ∧ ft ρ1 S = .ok (.p (.bool (p x))) S ∧ (p x = true → fe ρ1 S = .ok (.p (val x)) S)) →
    compL gg ft fe ρ (xs.map enc) S = .ok (((xs.filter p).map val).map D.p) S
  | [], _ => rfl
  | x :: xs, h => by
    obtain ⟨ρ1, e1, e2, e3⟩ := h x List.mem_cons_self
    have ih := compL_map xs fun y hy => h y (List.mem_cons_of_mem _ hy)
    rw [List.map_cons, compL_cons, e1]
    dsimp only
    rw [e2, cK1_ok]
    by_cases hp : p x = true
    · rw [if_pos hp, e3 hp, cK2_ok, ih, cK3_ok, List.filter_cons_of_pos hp]
      rfl
    · rw [if_neg hp, ih, List.filter_cons_of_neg hp]
theorem compL_all {val : α → PyData} {ρ : Env} {S : Sto} (xs : List α) (h : ∀ x ∈ xs, ∃ ρ1, gg (enc x) ρ = some ρ1 ∧ fe ρ1 S = .ok (.p (val x)) S) :
    compL gg fYes fe ρ (xs.map enc) S = .ok ((xs.map val).map D.p) S := by
  have e := compL_map (gg := gg) (ft := fYes) (fe := fe) (p := fun _ => true) (val := val) (ρ := ρ) (S := S) xs fun x hx => by
    obtain ⟨ρ1, e1, e2⟩ := h x hx
    exact ⟨ρ1, e1, rfl, fun _ => e2⟩
  rw [e]
  have : xs.filter (fun _ => true) = xs := List.filter_eq_self.mpr fun _ _ => rfl
  rw [this]
theorem compL2_map {ys : α → List β} {p : α → β → Bool} {val : α → β → PyData} {ρ : Env} {S : Sto} : ∀ (xs : List α) (n : Nat), (∀ x ∈ xs, ∃ ρ1, gg (enc x) ρ = some ρ1 ∧ fi1 ρ1 S = .ok ((ys x).map enc1) S ∧
      ∀ y ∈ ys x, ∃ ρ2, g1 (enc1 y) (wipeE ρ1 vs1) = some ρ2 ∧ ft1 ρ2 S = .ok (.p (.bool (p x y))) S ∧ (p x y = true → fe ρ2 S = .ok (.p (val x y)) S)) →
    (∀ l x r, xs = l ++ x :: r → n + (l.flatMap fun x => ((ys x).filter (p x)).map (val x)).length + (ys x).length < 1000000) →
    compL2 gg fYes fi1 vs1 g1 ft1 fe ρ (xs.map enc) n S = .ok ((xs.flatMap fun x => ((ys x).filter (p x)).map (val x)).map D.p) S
  | [], _, _, _ => rfl
  | x :: xs, n, h, hn => by
    obtain ⟨ρ1, e1, e2, h2⟩ := h x List.mem_cons_self
    have e3 := compL_map (gg := g1) (enc := enc1) (ft := ft1) (fe := fe) (p := p x) (val := val x) (ρ := wipeE ρ1 vs1) (S := S) (ys x) h2
    have hl : n + (ys x).length < 1000000 := by
      have := hn [] x xs rfl
      simpa using this
    have hl2 : n + ((ys x).map enc1).length < lim := by rw [List.length_map]; exact hl
    have ih := compL2_map xs (n + (((ys x).filter (p x)).map (val x)).length) (fun y hy => h y (List.mem_cons_of_mem _ hy)) fun l y r e => by
      have := hn (x :: l) y r (by rw [e]; rfl)
      rw [List.flatMap_cons, List.length_append] at this
      omega
    rw [List.map_cons]
    unfold compL2
    rw [e1]
    show ((fi1 ρ1 S).noX.bind fun ds1 S2 => if n + ds1.length < lim then ((compL g1 ft1 fe (wipeE ρ1 vs1) ds1 S2).bind fun xs1 S3 => (compL2 gg fYes fi1 vs1 g1 ft1 fe ρ (xs.map enc) (n + xs1.length) S3).bind fun ys S4 => .ok (xs1 ++ ys) S4) else .bad) = _
    rw [e2]
    show (if n + ((ys x).map enc1).length < lim then ((compL g1 ft1 fe (wipeE ρ1 vs1) ((ys x).map enc1) S).bind fun xs1 S3 => (compL2 gg fYes fi1 vs1 g1 ft1 fe ρ (xs.map enc) (n + xs1.length) S3).bind fun ys S4 => Res.ok (xs1 ++ ys) S4) else .bad) = _
    rw [if_pos hl2, e3]
    show ((compL2 gg fYes fi1 vs1 g1 ft1 fe ρ (xs.map enc) (n + ((((ys x).filter (p x)).map (val x)).map D.p).length) S).bind fun ys2 S4 => Res.ok ((((ys x).filter (p x)).map (val x)).map D.p ++ ys2) S4) = _
    rw [List.length_map, ih, List.flatMap_cons, List.map_append]
    rfl
end
theorem compE_map {S : Sto} (xs : List PyData) : compE (.ok (xs.map D.p) S) = .ok (.p (.list xs)) S := by
  rw [compE_ok, asPs_map]
/-! ### k17, plain -/
def NSa : List Str := ["InvalidFact", "NoWorths", "UnknownIndex", "InvalidForm", "InvalidWorths", "InvalidPurse", "InvalidTotal", "InvalidRecipe", "InvalidSeen", "InvalidAsk", "InvalidKind", "NoCoin", "InvalidText"]
def NMk : List Str := ["NoWorths", "UnknownIndex", "InvalidWorths", "InvalidPurse", "InvalidTotal", "InvalidRecipe", "InvalidKind", "NoCoin", "InvalidFact", "InvalidForm", "InvalidSeen", "InvalidAsk", "InvalidText"]
section
variable {S : Sto} {n x : Str} {as : List PyData} {ns : List Str} {r : Env} {a b c d e : Option D} {m j : Nat} {y : PyData}
theorem isY0 (hn : n ∈ ns) : fIsY ns 0 x n (some .exn :: r) S = .ok (.p (.bool (subX n x))) S := isY_ok rfl hn
theorem isV5 (hn : n ∈ ns) : fIsV ns 5 n (a :: b :: c :: d :: e :: some .exn :: r) S = .ok (.p (.bool true)) S := isV_ok rfl hn
theorem xj1 (hn : n ∈ ns) (hl : as.length = m) (hd : as[j]? = some y) : fXj ns 1 m j n as (a :: some .exn :: r) S = .ok (.p y) S := xj_ok rfl hn hl hd
theorem exn5 : fExn 5 (a :: b :: c :: d :: e :: some .exn :: r) S = .ok [.exn] S := rfl
theorem g_addL2 {p q : List PyData} : gAdd (.p (.list p)) (.p (.list q)) S = if p.length + q.length < 1000000 then .ok (.p (.list (p ++ q))) S else .bad := rfl
theorem classes_ok (hn : n ∈ NSa) : callM 2 (m__law_classes n as) [.exn] S = .ok (.p (.list (NMk.map fun x => PyData.bool (subX n x)))) S := by
  unfold NSa at hn
  rw [callM_ap 2 _ _ _ (by show 1 ≤ 2; decide)]
  simp [m__law_classes, isY0 hn, NMk, g_addL2]
end
theorem bare_ok {S : Sto} : callM 1 m__law_bare [.p (.int 0)] S = .exc "NoWorths" [] S ∧ callM 1 m__law_bare [.p (.int 1)] S = .exc "UnknownIndex" [] S ∧ callM 1 m__law_bare [.p (.int 2)] S = .exc "InvalidWorths" [] S ∧ callM 1 m__law_bare [.p (.int 3)] S = .exc "InvalidPurse" [] S ∧
    callM 1 m__law_bare [.p (.int 4)] S = .exc "InvalidTotal" [] S ∧ callM 1 m__law_bare [.p (.int 5)] S = .exc "InvalidRecipe" [] S ∧ callM 1 m__law_bare [.p (.int 6)] S = .exc "InvalidKind" [] S ∧ callM 1 m__law_bare [.p (.int 7)] S = .exc "NoCoin" [] S := by
  refine ⟨?_, ?_, ?_, ?_, ?_, ?_, ?_, ?_⟩ <;> (rw [callM_ap 1 _ _ _ (by show 1 ≤ 1; decide)]; simp [m__law_bare])
section
variable {S : Sto} {one two : PyData}
theorem thrown_bare {k : Int} {n : Str} (hk : k < 8) (h : callM 1 m__law_bare [.p (.int k)] S = .exc n [] S) : callM 3 m__law_thrown [.p (.int k), .p one, .p two] S = .exc n [] S := by
  rw [callM_ap 3 _ _ _ (by show 3 ≤ 3; decide)]
  simp [m__law_thrown, hk, h]
theorem thrown_more : callM 3 m__law_thrown [.p (.int 8), .p one, .p two] S = .exc "InvalidFact" [one] S ∧ callM 3 m__law_thrown [.p (.int 9), .p one, .p two] S = .exc "InvalidForm" [one] S ∧ callM 3 m__law_thrown [.p (.int 10), .p one, .p two] S = .exc "InvalidSeen" [one] S ∧
    callM 3 m__law_thrown [.p (.int 11), .p one, .p two] S = .exc "InvalidAsk" [one] S ∧ callM 3 m__law_thrown [.p (.int 12), .p one, .p two] S = .exc "InvalidText" [two, one] S := by
  refine ⟨?_, ?_, ?_, ?_, ?_⟩ <;> (rw [callM_ap 3 _ _ _ (by show 3 ≤ 3; decide)]; simp [m__law_thrown])
theorem parts_bare {k : Int} {n : Str} {as : List PyData} (hk : k < 8) : callM 2 (m__law_parts n as) [.p (.int k), .exn] S = .ok (.p (.list [])) S := by
  rw [callM_ap 2 _ _ _ (by show 2 ≤ 2; decide)]
  simp [m__law_parts, hk]
theorem parts_one {k : Int} {n : Str} (hk : 8 ≤ k ∧ k < 12) (hn : n ∈ [("InvalidFact" : Str), "InvalidForm", "InvalidSeen", "InvalidAsk"]) : callM 2 (m__law_parts n [one]) [.p (.int k), .exn] S = .ok (.p (.list [one])) S := by
  rw [callM_ap 2 _ _ _ (by show 2 ≤ 2; decide)]
  have h1 : ¬ k < 8 := by omega
  have e0 := fun (r : Env) (a : Option D) (S : Sto) => xj1 (S := S) (r := r) (a := a) (as := [one]) (m := 1) (j := 0) hn rfl rfl
  simp [m__law_parts, h1, hk.2, e0]
theorem parts_two : callM 2 (m__law_parts "InvalidText" [two, one]) [.p (.int 12), .exn] S = .ok (.p (.list [one, two])) S := by
  rw [callM_ap 2 _ _ _ (by show 2 ≤ 2; decide)]
  have h1 : ("InvalidText" : Str) ∈ [("InvalidText" : Str)] := List.mem_cons_self
  have e1 := fun (r : Env) (a : Option D) (S : Sto) => xj1 (S := S) (r := r) (a := a) (as := [two, one]) (m := 2) (j := 1) h1 rfl rfl
  have e0 := fun (r : Env) (a : Option D) (S : Sto) => xj1 (S := S) (r := r) (a := a) (as := [two, one]) (m := 2) (j := 0) h1 rfl rfl
  simp [m__law_parts, e1, e0]
/-- a data thing that is compared with itself -/
def Calm (d : PyData) : Prop := SeqAt.shaped d = true
theorem eq_self {d : PyData} (h : SeqAt.shaped d = true) : gEq (.p d) (.p d) S = .ok (.p (.bool true)) S := by
  rw [g_eq (by rw [h]; rfl), SeqAt.eqv_refl _ (lay_sh h)]
theorem others {k : Int} (ρ : Env) (hρ : ρ.length = 7) (h0 : ρ[0]? = some (some (.p (.int k)))) : compL (gNm 6) fYes (fBin gEq (fVar 6) (fVar 0)) ρ (rng 0 13) S = .ok (((List.range 13).map fun i : Nat => PyData.bool (decide ((i : Int) = k))).map D.p) S := by
  have e : rng 0 13 = (List.range 13).map fun i : Nat => D.p (.int (i : Int)) := rfl
  rw [e]
  refine compL_all (gg := gNm 6) (enc := fun i : Nat => D.p (.int (i : Int))) (val := fun i => .bool (decide ((i : Int) = k))) _ fun i _ => ⟨_, rfl, ?_⟩
  have g0 : (ρ.set 6 (some (D.p (.int (i : Int)))))[0]? = some (some (.p (.int k))) := by rw [List.getElem?_set_ne (by decide)]; exact h0
  have g6 : (ρ.set 6 (some (D.p (.int (i : Int)))))[6]? = some (some (D.p (.int (i : Int)))) := List.getElem?_set_self (by omega)
  simp [g0, g6]
theorem right_of {k : Int} {n : Str} {as due : List PyData} (ht : callM 3 m__law_thrown [.p (.int k), .p one, .p two] S = .exc n as S) (hn : n ∈ NSa) (hw : subX n "WorthError" = true) (hd : cutD [one] none (some (if k > 7 then 1 else 0)) ++ cutD [two] none (some (if k > 11 then 1 else 0)) = due)
    (hdl : (cutD [one] none (some (if k > 7 then 1 else 0))).length + (cutD [two] none (some (if k > 11 then 1 else 0))).length < 1000000)
    (hc : (NMk.map fun x => PyData.bool (subX n x)) = (List.range 13).map fun i : Nat => PyData.bool (decide ((i : Int) = k))) (hp : callM 2 (m__law_parts n as) [.p (.int k), .exn] S = .ok (.p (.list due)) S) (hs : SeqAt.shaped (.list due) = true) :
    callM 7 m__law_right [.p (.int k), .p one, .p two] S = .ok (.p (.bool true)) S := by
  rw [callM_ap 7 _ _ _ (by show 3 ≤ 7; decide)]
  obtain ⟨bl, hbl⟩ : ∃ bl, bl = (List.range 13).map fun i : Nat => PyData.bool (decide ((i : Int) = k)) := ⟨_, rfl⟩
  have cl := classes_ok (S := S) (as := as) hn
  rw [hc, ← hbl] at cl
  have shb : SeqAt.shaped (.list bl) = true := by
    rw [hbl]
    rfl
  have e1 := eq_self (S := S) shb
  have e2 := eq_self (S := S) hs
  have ot := fun (ρ : Env) (hρ : ρ.length = 7) (h0 : ρ[0]? = some (some (.p (.int k)))) => others (S := S) (k := k) ρ hρ h0
  rw [← hbl] at ot
  have ot2 := fun a b c d e f => ot [some (.p (.int k)), a, b, c, d, e, f] rfl rfl
  have ce := compE_map (S := S) bl
  have i1 : ∀ b : Bool, gInt [.p (.bool b)] S = .ok (.p (.int (if b = true then 1 else 0))) S := fun b => by cases b <;> rfl
  have ad : gAdd (.p (.list (cutD [one] none (some (if k > 7 then 1 else 0))))) (.p (.list (cutD [two] none (some (if k > 11 then 1 else 0))))) S = .ok (.p (.list due)) S := by
    rw [← hd]
    exact if_pos hdl
  have sl : ∀ (xs : List PyData) (o : Option Int), gSl (.p (.list xs)) none o S = .ok (.p (.list (cutD xs none o))) S := fun _ _ => rfl
  have hn2 := hn
  unfold NSa at hn2
  have l13 : (rng 0 13).length < 1000000 := by show 13 < 1000000; decide
  have gi : ∀ j : Int, decide (k > j) = decide (j < k) := fun _ => rfl
  have n2 : ∀ a b c d e f : Option D, n ∈ [("InvalidFact" : Str), "NoWorths", "UnknownIndex", "InvalidForm", "InvalidWorths", "InvalidPurse", "InvalidTotal", "InvalidRecipe", "InvalidSeen", "InvalidAsk", "InvalidKind", "NoCoin", "InvalidText"] := fun _ _ _ _ _ _ => hn2
  simp [m__law_right, i1, sl, ad, ht, hn2, clsF, hw, setN, flN, chkN, unN, noE, isV5 hn2, exn5, cl, ot2, ce, -compE_ok, l13, e1, e2, hp]
end
/-! ### k17, plain: all thirteen -/
section
variable {S : Sto} {one two : PyData}
theorem in_0 : ("NoWorths" : Str) ∈ NSa := by decide +kernel
theorem sub_0 : subX "NoWorths" "WorthError" = true := by decide +kernel
theorem row_0 : (NMk.map fun x => PyData.bool (subX "NoWorths" x)) = (List.range 13).map fun i : Nat => PyData.bool (decide ((i : Int) = 0)) := by kernel_rfl
theorem right_0 : callM 7 m__law_right [.p (.int 0), .p one, .p two] S = .ok (.p (.bool true)) S :=
  right_of (due := []) (thrown_bare (by decide) bare_ok.1) in_0 sub_0 rfl (by show 0 + 0 < 1000000; decide) row_0 (parts_bare (by decide)) rfl
theorem in_1 : ("UnknownIndex" : Str) ∈ NSa := by decide +kernel
theorem sub_1 : subX "UnknownIndex" "WorthError" = true := by decide +kernel
theorem row_1 : (NMk.map fun x => PyData.bool (subX "UnknownIndex" x)) = (List.range 13).map fun i : Nat => PyData.bool (decide ((i : Int) = 1)) := by kernel_rfl
theorem right_1 : callM 7 m__law_right [.p (.int 1), .p one, .p two] S = .ok (.p (.bool true)) S :=
  right_of (due := []) (thrown_bare (by decide) bare_ok.2.1) in_1 sub_1 rfl (by show 0 + 0 < 1000000; decide) row_1 (parts_bare (by decide)) rfl
theorem in_2 : ("InvalidWorths" : Str) ∈ NSa := by decide +kernel
theorem sub_2 : subX "InvalidWorths" "WorthError" = true := by decide +kernel
theorem row_2 : (NMk.map fun x => PyData.bool (subX "InvalidWorths" x)) = (List.range 13).map fun i : Nat => PyData.bool (decide ((i : Int) = 2)) := by kernel_rfl
theorem right_2 : callM 7 m__law_right [.p (.int 2), .p one, .p two] S = .ok (.p (.bool true)) S :=
  right_of (due := []) (thrown_bare (by decide) bare_ok.2.2.1) in_2 sub_2 rfl (by show 0 + 0 < 1000000; decide) row_2 (parts_bare (by decide)) rfl
theorem in_3 : ("InvalidPurse" : Str) ∈ NSa := by decide +kernel
theorem sub_3 : subX "InvalidPurse" "WorthError" = true := by decide +kernel
theorem row_3 : (NMk.map fun x => PyData.bool (subX "InvalidPurse" x)) = (List.range 13).map fun i : Nat => PyData.bool (decide ((i : Int) = 3)) := by kernel_rfl
theorem right_3 : callM 7 m__law_right [.p (.int 3), .p one, .p two] S = .ok (.p (.bool true)) S :=
  right_of (due := []) (thrown_bare (by decide) bare_ok.2.2.2.1) in_3 sub_3 rfl (by show 0 + 0 < 1000000; decide) row_3 (parts_bare (by decide)) rfl
theorem in_4 : ("InvalidTotal" : Str) ∈ NSa := by decide +kernel
theorem sub_4 : subX "InvalidTotal" "WorthError" = true := by decide +kernel
theorem row_4 : (NMk.map fun x => PyData.bool (subX "InvalidTotal" x)) = (List.range 13).map fun i : Nat => PyData.bool (decide ((i : Int) = 4)) := by kernel_rfl
theorem right_4 : callM 7 m__law_right [.p (.int 4), .p one, .p two] S = .ok (.p (.bool true)) S :=
  right_of (due := []) (thrown_bare (by decide) bare_ok.2.2.2.2.1) in_4 sub_4 rfl (by show 0 + 0 < 1000000; decide) row_4 (parts_bare (by decide)) rfl
theorem in_5 : ("InvalidRecipe" : Str) ∈ NSa := by decide +kernel
theorem sub_5 : subX "InvalidRecipe" "WorthError" = true := by decide +kernel
theorem row_5 : (NMk.map fun x => PyData.bool (subX "InvalidRecipe" x)) = (List.range 13).map fun i : Nat => PyData.bool (decide ((i : Int) = 5)) := by kernel_rfl
theorem right_5 : callM 7 m__law_right [.p (.int 5), .p one, .p two] S = .ok (.p (.bool true)) S :=
  right_of (due := []) (thrown_bare (by decide) bare_ok.2.2.2.2.2.1) in_5 sub_5 rfl (by show 0 + 0 < 1000000; decide) row_5 (parts_bare (by decide)) rfl
theorem in_6 : ("InvalidKind" : Str) ∈ NSa := by decide +kernel
theorem sub_6 : subX "InvalidKind" "WorthError" = true := by decide +kernel
theorem row_6 : (NMk.map fun x => PyData.bool (subX "InvalidKind" x)) = (List.range 13).map fun i : Nat => PyData.bool (decide ((i : Int) = 6)) := by kernel_rfl
theorem right_6 : callM 7 m__law_right [.p (.int 6), .p one, .p two] S = .ok (.p (.bool true)) S :=
  right_of (due := []) (thrown_bare (by decide) bare_ok.2.2.2.2.2.2.1) in_6 sub_6 rfl (by show 0 + 0 < 1000000; decide) row_6 (parts_bare (by decide)) rfl
theorem in_7 : ("NoCoin" : Str) ∈ NSa := by decide +kernel
theorem sub_7 : subX "NoCoin" "WorthError" = true := by decide +kernel
theorem row_7 : (NMk.map fun x => PyData.bool (subX "NoCoin" x)) = (List.range 13).map fun i : Nat => PyData.bool (decide ((i : Int) = 7)) := by kernel_rfl
theorem right_7 : callM 7 m__law_right [.p (.int 7), .p one, .p two] S = .ok (.p (.bool true)) S :=
  right_of (due := []) (thrown_bare (by decide) bare_ok.2.2.2.2.2.2.2) in_7 sub_7 rfl (by show 0 + 0 < 1000000; decide) row_7 (parts_bare (by decide)) rfl
theorem in_8 : ("InvalidFact" : Str) ∈ NSa := by decide +kernel
theorem sub_8 : subX "InvalidFact" "WorthError" = true := by decide +kernel
theorem row_8 : (NMk.map fun x => PyData.bool (subX "InvalidFact" x)) = (List.range 13).map fun i : Nat => PyData.bool (decide ((i : Int) = 8)) := by kernel_rfl
theorem right_8 (h1 : SeqAt.shaped (.list [one]) = true) : callM 7 m__law_right [.p (.int 8), .p one, .p two] S = .ok (.p (.bool true)) S :=
  right_of (due := [one]) thrown_more.1 in_8 sub_8 rfl (by show 1 + 0 < 1000000; decide) row_8 (parts_one (by decide) (by decide +kernel)) h1
theorem in_9 : ("InvalidForm" : Str) ∈ NSa := by decide +kernel
theorem sub_9 : subX "InvalidForm" "WorthError" = true := by decide +kernel
theorem row_9 : (NMk.map fun x => PyData.bool (subX "InvalidForm" x)) = (List.range 13).map fun i : Nat => PyData.bool (decide ((i : Int) = 9)) := by kernel_rfl
theorem right_9 (h1 : SeqAt.shaped (.list [one]) = true) : callM 7 m__law_right [.p (.int 9), .p one, .p two] S = .ok (.p (.bool true)) S :=
  right_of (due := [one]) thrown_more.2.1 in_9 sub_9 rfl (by show 1 + 0 < 1000000; decide) row_9 (parts_one (by decide) (by decide +kernel)) h1
theorem in_10 : ("InvalidSeen" : Str) ∈ NSa := by decide +kernel
theorem sub_10 : subX "InvalidSeen" "WorthError" = true := by decide +kernel
theorem row_10 : (NMk.map fun x => PyData.bool (subX "InvalidSeen" x)) = (List.range 13).map fun i : Nat => PyData.bool (decide ((i : Int) = 10)) := by kernel_rfl
theorem right_10 (h1 : SeqAt.shaped (.list [one]) = true) : callM 7 m__law_right [.p (.int 10), .p one, .p two] S = .ok (.p (.bool true)) S :=
  right_of (due := [one]) thrown_more.2.2.1 in_10 sub_10 rfl (by show 1 + 0 < 1000000; decide) row_10 (parts_one (by decide) (by decide +kernel)) h1
theorem in_11 : ("InvalidAsk" : Str) ∈ NSa := by decide +kernel
theorem sub_11 : subX "InvalidAsk" "WorthError" = true := by decide +kernel
theorem row_11 : (NMk.map fun x => PyData.bool (subX "InvalidAsk" x)) = (List.range 13).map fun i : Nat => PyData.bool (decide ((i : Int) = 11)) := by kernel_rfl
theorem right_11 (h1 : SeqAt.shaped (.list [one]) = true) : callM 7 m__law_right [.p (.int 11), .p one, .p two] S = .ok (.p (.bool true)) S :=
  right_of (due := [one]) thrown_more.2.2.2.1 in_11 sub_11 rfl (by show 1 + 0 < 1000000; decide) row_11 (parts_one (by decide) (by decide +kernel)) h1
theorem in_12 : ("InvalidText" : Str) ∈ NSa := by decide +kernel
theorem sub_12 : subX "InvalidText" "WorthError" = true := by decide +kernel
theorem row_12 : (NMk.map fun x => PyData.bool (subX "InvalidText" x)) = (List.range 13).map fun i : Nat => PyData.bool (decide ((i : Int) = 12)) := by kernel_rfl
theorem right_12 (h2 : SeqAt.shaped (.list [one, two]) = true) : callM 7 m__law_right [.p (.int 12), .p one, .p two] S = .ok (.p (.bool true)) S :=
  right_of (due := [one, two]) thrown_more.2.2.2.2 in_12 sub_12 rfl (by show 1 + 1 < 1000000; decide) row_12 parts_two h2
theorem right_all (h1 : SeqAt.shaped (.list [one]) = true) (h2 : SeqAt.shaped (.list [one, two]) = true) {k : Nat} (hk : k < 13) : callM 7 m__law_right [.p (.int (k : Int)), .p one, .p two] S = .ok (.p (.bool true)) S := by
  match k, hk with
  | 0, _ => exact right_0
  | 1, _ => exact right_1
  | 2, _ => exact right_2
  | 3, _ => exact right_3
  | 4, _ => exact right_4
  | 5, _ => exact right_5
  | 6, _ => exact right_6
  | 7, _ => exact right_7
  | 8, _ => exact right_8 h1
  | 9, _ => exact right_9 h1
  | 10, _ => exact right_10 h1
  | 11, _ => exact right_11 h1
  | 12, _ => exact right_12 h2
end
def ones : List PyData := [.str "a", .str "", .int 7, .tuple [.str "most", .int 0], .none]
def twos : List PyData := [.tuple [], .str "kind", .int 0, .none]
theorem ones_at {i : Int} (h0 : 0 ≤ i) (h1 : i < 5) : ∃ x, atI ones i = some x ∧ x ∈ ones := by
  have hl : i.toNat < ones.length := by show i.toNat < 5; omega
  exact ⟨ones[i.toNat], atI_some h0 (List.getElem?_eq_getElem hl), List.getElem_mem hl⟩
theorem twos_at {i : Int} (h0 : 0 ≤ i) (h1 : i < 4) : ∃ x, atI twos i = some x ∧ x ∈ twos := by
  have hl : i.toNat < twos.length := by show i.toNat < 4; omega
  exact ⟨twos[i.toNat], atI_some h0 (List.getElem?_eq_getElem hl), List.getElem_mem hl⟩
theorem shapes : (ones.all fun x => SeqAt.shaped (.list [x]) && twos.all fun y => SeqAt.shaped (.list [x, y])) = true := by decide +kernel
theorem law_plain (ns : List Int) (hns : ns.length ≤ 63) : ∃ S', callM 5 m_law [.scr ns] [] = .ok (.p (.bool true)) S' := by
  obtain ⟨S0, h0, e0⟩ := mix_ok ns 17 hns
  obtain ⟨i, S1, i0, i1, h1, e1⟩ := next_ok h0 5 (by decide) (by decide)
  obtain ⟨j, S2, j0, j1, h2, e2⟩ := next_ok h1 4 (by decide) (by decide)
  obtain ⟨one, a1, m1⟩ := ones_at i0 i1
  obtain ⟨two, a2, m2⟩ := twos_at j0 j1
  have sh := List.all_eq_true.mp shapes one m1
  rw [Bool.and_eq_true] at sh
  have sh2 := List.all_eq_true.mp sh.2 two m2
  have rt := fun (k : Nat) (hk : k < 13) => right_all (S := S2) sh.1 sh2 hk
  rw [callM_ap 5 _ _ _ (by show 1 ≤ 5; decide)]
  have x1 : gIx (.p (.list ones)) (.p (.int i)) S1 = .ok (.p one) S1 := by
    rw [g_ixL, a1]
  have x2 : gIx (.p (.list twos)) (.p (.int j)) S2 = .ok (.p two) S2 := by
    rw [g_ixL, a2]
  have er : rng 0 13 = (List.range 13).map fun i : Nat => D.p (.int (i : Int)) := rfl
  have cl := compL_all (gg := gNm 4) (enc := fun i : Nat => D.p (.int (i : Int))) (fe := fCall (callM 7 m__law_right) (fCons (fVar 4) (fCons (fVar 2) (fCons (fVar 3) fNil)))) (val := fun _ => .bool true)
    (ρ := [some (.scr ns), some (.own 1), some (.p one), some (.p two), none]) (S := S2) (List.range 13) (fun k hk => by
      refine ⟨_, rfl, ?_⟩
      have r := rt k (List.mem_range.mp hk)
      simp [r])
  rw [← er] at cl
  have ce := compE_map (S := S2) ((List.range 13).map fun _ => PyData.bool true)
  have all : gAll [.p (.list ((List.range 13).map fun _ => PyData.bool true))] S2 = .ok (.p (.bool true)) S2 := rfl
  obtain ⟨S3, e4⟩ : ∃ S3, trim [] (.p (.bool true)) S2 = .ok (.p (.bool true)) S3 := by
    obtain ⟨s, cs, i, hc, rfl⟩ := h2
    exact ⟨[], rfl⟩
  refine ⟨S3, ?_⟩
  have l13 : (rng 0 13).length < 1000000 := by show 13 < 1000000; decide
  unfold ones at x1
  unfold twos at x2
  simp [m_law, e0, e1, x1, e2, x2, l13, cl, ce, -compE_ok, all, e4, -List.map_map]
abbrev hR : PySem.W.OpenRow := PySem.W.OpenLaw.row PySem.Challenge.rw_twoworths_k17_errors_apart
abbrev hk : PySem.W.Hook := Tw.hookW 6 (Tw.exOf facts) fns
def ob (s : PySem.W.SharedT) : He.AlD := Tw.obsW 6 (Tw.exOf facts) fns (HandSHeadRun.getT s)
theorem ob_eq (s : PySem.W.SharedT) : ob s = hk.obs s.abs := Tw.obsW_eq (HandSHeadRun.getT_eq s)
def loose : List PySem.Str := [("__name__" : PySem.Str), ("WorthError" : PySem.Str), ("InvalidFact" : PySem.Str), ("NoWorths" : PySem.Str), ("UnknownIndex" : PySem.Str), ("InvalidForm" : PySem.Str), ("InvalidWorths" : PySem.Str), ("InvalidPurse" : PySem.Str), ("InvalidTotal" : PySem.Str), ("InvalidRecipe" : PySem.Str), ("InvalidSeen" : PySem.Str), ("InvalidAsk" : PySem.Str), ("InvalidKind" : PySem.Str), ("NoCoin" : PySem.Str), ("InvalidText" : PySem.Str), ("_law_mix" : PySem.Str), ("_law_next" : PySem.Str), ("_law_bare" : PySem.Str), ("_law_thrown" : PySem.Str), ("_law_classes" : PySem.Str), ("_law_parts" : PySem.Str), ("_law_right" : PySem.Str)]
theorem run (w : World) : HandSHeadRun.RunEq hR (PySem.W.view hR.prog [23]) hk ob 30000 loose w := by
  intro os
  kernel_rfl
theorem law_end {P : Program} {w : World} {K : PySem.W.Frag} {mg : Str → Option Value} {fa : Addr} {h : Heap} (T : Tx facts fns K mg) (KX : K.In h) (hmg : mg "law" = some (.ref fa)) :
    ∃ (K : PySem.W.Frag) (fd : FuncData) (sp : Sp), K.In h ∧ (∀ (s : Shared) (u : Value), BindsTo s fd ⟨[u], []⟩ [("_law_script", u)]) ∧
      (∀ (H : Hp) (a : Addr) (ns : List Int), ns.length ≤ 63 → Only H → SqL K H a (ns.map V.int) → sp [.ref a] H (fun v _ => v = .bl true) fun _ _ _ => False) ∧
      ∀ base : Heap, K.In base → base.Ns mainGlobals mg → FnOk P w K mg base CX0 6 fa fd ["_law_script"] sp := by
  obtain ⟨fd, hb, hg, hF⟩ := ok_law (P := P) (w := w) T
  have e : fa = adr K ("law", none) := by
    rw [hmg] at hg
    exact Value.ref.inj (Option.some.inj hg)
  subst e
  refine ⟨K, fd, fun vs H Q E => spF K (callM 5 m_law) 1 vs H Q fun _ _ _ => False, KX, hb, ?_, fun base _ _ => fn_calm (hF base) fun vs H Q E h => h⟩
  intro H a ns hl ho hs
  obtain ⟨S', e⟩ := law_plain ns hl
  refine ⟨rfl, fun _ => none, H, [], [], [.scr ns], ⟨fun _ _ q => q, fun _ _ q => by (cases q), fun _ _ q => by (cases q), List.nodup_nil, rfl, fun k a o h1 h2 => (by (simp at h1)), fun _ _ q => by (cases q)⟩, .cons ⟨a, rfl, hs⟩ .nil, ?_⟩
  rw [e]
  intro v F' io' H' _ _ r
  cases r
  rfl
end Tw
open PySem PySem.W PySem.Calls PyProof.Rows
theorem PySem.Challenge.cw_twoworths_k17_errors_apart_holds : PySem.Challenge.rw_twoworths_k17_errors_apart.Holds := by
  w_on; o_law
  refine HandSHeadRun.head_any (r := OpenLaw.row PySem.Challenge.rw_twoworths_k17_errors_apart) (q := view (OpenLaw.row PySem.Challenge.rw_twoworths_k17_errors_apart).prog [23]) (H := Tw.hk) (ob := Tw.ob) (M := 30000) (loose := Tw.loose) (d := HandSHeadRun.topDef (OpenLaw.row PySem.Challenge.rw_twoworths_k17_errors_apart).prog 23) (kwd := []) Tw.ob_eq
    (by kernel_rfl) (fun s => by kernel_rfl) Tw.run (by kernel_rfl) (by kernel_rfl) (by kernel_rfl) (by rfl) (by first | assumption | decide +kernel) (by decide +kernel) ⟨rfl, rfl, rfl, rfl, rfl, by decide +kernel⟩ ?hw ?hc
  case hw => w_witness2
  case hc =>
    refine L2.walk_ofE (l := PySem.Challenge.rw_twoworths_k17_errors_apart) (n := 63) (k := 6) (x := "_law_script") (CX := L2.CX0) rfl (by decide) (by kernel_rfl) ⟨rfl, by decide, by decide⟩ ?F (fun _ _ _ _ z => z)
    intro w mg fa h Y G hmg0
    obtain ⟨K, KX, c⟩ := Y
    have hmg : mg ("law" : PySem.Str) = some (.ref fa) := by
      have e : (HandSHeadRun.topDef (OpenLaw.row PySem.Challenge.rw_twoworths_k17_errors_apart).prog 23).name = ("law" : PySem.Str) := by kernel_rfl
      rw [← e]
      exact hmg0
    exact Tw.law_end ⟨c, h, KX, G⟩ KX hmg
