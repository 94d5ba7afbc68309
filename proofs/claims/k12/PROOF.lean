import PyProof.Rows.All
import Wide.All
import OpenK.AllK
import Wide.FinOn
import HandS.ForMost
import HandS.ForExc
import HandS.Slots
import HandS.HeadHook2
import HandS.IsInst
import HandS.Strs
import HandS.TupAny
import HandS.TupMul
import HandS.Style
import HandS.Small
import HandS.TryMany
import HandS.ExcField
import HandS.ExcInit
import HandS.HeadEnd
import HandS.ExcIs
import HandS.Star
import HandS.Property
import KE.KIsNot
import KE.GoesEnum
import KE.KExcIs
import KE.DataMinMax
import PyProof.P3Eq
import HandS.More
import HandS.Deep
import HandS.Dict
import HandS.Conv
import PyProof.DictMoreH
import HandS.TupSets
import HandS.DictComp
import HandS.Comp
import KE.KDictWalk
import HandS.NamedTupGet
import HandS.NoneIn
import HandS.DeepEq
import KE.KDictDisplayH
import HandS.Text
import HandS.Head4
import HandS.HeadWalk
import PySem.Challenge.RW_twoworths_k12_worlds_written
set_option Elab.async false
set_option linter.all false
set_option maxRecDepth 100000
set_option maxHeartbeats 4000000
/-! Values of the program as data (D), mutable things by places in a store (O), functional readings of the hand layer. -/
namespace Tw
open PySem PySem.Spec PyProof.Rows L2

inductive D where
  | p (d : PyData)
  | own (k : Nat)
  | wld (d l : PyData)
  | exn
  | scr (ns : List Int)
  | dz (kvs : List (List Key × PyData))
  | fn (q : Str)
  | err (n : Str) (as : List PyData)
  | mix (xs : List (Nat ⊕ PyData))
  | mtp (xs : List (Nat ⊕ PyData))
inductive O where
  | lst (xs : List D)
  | dic (kvs : List (List Key × D))
  | ins (n : Str) (fs : List (Str × D))
  | raw (j : Nat)
  | odx (j : Nat)
  | fz (d : D)
  | gone
abbrev Env := List (Option D)
abbrev Sto := List O
inductive Res (α : Type) where
  | ok (a : α) (S : Sto)
  | exc (n : Str) (as : List PyData) (S : Sto)
  | bad
def Res.bind {α β : Type} (r : Res α) (f : α → Sto → Res β) : Res β := match r with
  | .ok a S => f a S
  | .exc n as S => .exc n as S
  | .bad => .bad

/-! ### data stay while the heap grows -/
theorem sq_t {K : PySem.W.Frag} {H H' : Hp} {a : Addr} {xs : List V} (e : Same H H') (h : SqT K H a xs) : SqT K H' a xs := by
  rcases h with (h | ⟨o, h⟩) | h
  · exact .inl (.inl (e _ _ h))
  · exact .inl (.inr ⟨o, e _ _ h⟩)
  · exact .inr h
def isS : PyData → Bool
  | .str _ => true
  | _ => false
/-- a tuple that is tracked, or one of texts that stands in the written part -/
def TpT (K : PySem.W.Frag) (F : Hp) (a : Addr) (xs : List V) (ds : List PyData) : Prop := F a = some (.tup xs) ∨ (SqT K F a xs ∧ ds.all isS = true)
theorem TpT.sq {K : PySem.W.Frag} {F : Hp} {a : Addr} {xs : List V} {ds : List PyData} (h : TpT K F a xs ds) : SqT K F a xs := by
  rcases h with h | h
  · exact SqT.of h
  · exact h.1
theorem TpT.mono {K : PySem.W.Frag} {F H : Hp} {a : Addr} {xs : List V} {ds : List PyData} (e : Same F H) (h : TpT K F a xs ds) : TpT K H a xs ds := by
  rcases h with h | h
  · exact .inl (e _ _ h)
  · exact .inr ⟨sq_t e h.1, h.2⟩
/-- a part of a key -/
def kD : L2.Key → PyData
  | .inl i => .int i
  | .inr s => .str s
mutual
/-- a value that is pure data: its lists are tracked and never change -/
inductive Dq (K : PySem.W.Frag) (F : Hp) : V → PyData → Prop
  | non : Dq K F .non .none
  | bl (b : Bool) : Dq K F (.bl b) (.bool b)
  | int (i : Int) : Dq K F (.int i) (.int i)
  | str (x : Str) : Dq K F (.str x) (.str x)
  | lst {a : Addr} {xs : List V} {ds : List PyData} : F a = some (.lst xs) → DqA K F xs ds → Dq K F (.ref a) (.list ds)
  | tup {a : Addr} {xs : List V} {ds : List PyData} : TpT K F a xs ds → DqA K F xs ds → Dq K F (.ref a) (.tuple ds)
  | dic {a : Addr} {kws : List (List L2.Key × V)} {kvs : List (PyData × PyData)} : F a = some (.dT kws) → DqK K F kws kvs → Dq K F (.ref a) (.dict kvs)
inductive DqA (K : PySem.W.Frag) (F : Hp) : List V → List PyData → Prop
  | nil : DqA K F [] []
  | cons {v : V} {vs : List V} {d : PyData} {ds : List PyData} : Dq K F v d → DqA K F vs ds → DqA K F (v :: vs) (d :: ds)
inductive DqK (K : PySem.W.Frag) (F : Hp) : List (List L2.Key × V) → List (PyData × PyData) → Prop
  | nil : DqK K F [] []
  | cons {k : List L2.Key} {v : V} {d : PyData} {r : List (List L2.Key × V)} {rs : List (PyData × PyData)} : Dq K F v d → DqK K F r rs → DqK K F ((k, v) :: r) ((.tuple (k.map kD), d) :: rs)
end
mutual
theorem dp_of {K : PySem.W.Frag} {F H : Hp} (e : Same F H) : ∀ (d : PyData) (v : V), d.canLay0 = true → Dq K F v d → Dp K H v d
  | .none, _, _, h => by cases h; exact .non
  | .bool b, _, _, h => by cases h; exact .bl b
  | .int i, _, _, h => by cases h; exact .int i
  | .str x, _, _, h => by cases h; exact .str x
  | .list ds, _, n, h => by
    cases h with
    | lst hs ha => exact .lst (SqL.of (e _ _ hs)) (dpa_of e ds _ (by simpa [PyData.canLay0] using n) ha)
  | .tuple ds, _, n, h => by
    cases h with
    | tup hs ha => exact .tup (sq_t e hs.sq) (dpa_of e ds _ (by simpa [PyData.canLay0] using n) ha)
  | .dict _, _, n, h => by simp [PyData.canLay0] at n
theorem dpa_of {K : PySem.W.Frag} {F H : Hp} (e : Same F H) : ∀ (ds : List PyData) (vs : List V), PyData.canLayAll0 ds = true → DqA K F vs ds → DpAll K H vs ds
  | [], _, _, h => by cases h; exact .nil
  | d :: ds, _, n, h => by
    have n2 : d.canLay0 = true ∧ PyData.canLayAll0 ds = true := by simpa [PyData.canLayAll0] using n
    cases h with
    | cons h1 h2 => exact .cons (dp_of e d _ n2.1 h1) (dpa_of e ds _ n2.2 h2)
end
theorem lay_sh {d : PyData} (h : SeqAt.shaped d = true) : d.canLay0 = true := SeqAt.canLay_of_shaped h
mutual
theorem dp_mono {K : PySem.W.Frag} {F H : Hp} (e : Same F H) : ∀ (d : PyData) (v : V), Dq K F v d → Dq K H v d
  | .none, _, h => by cases h; exact .non
  | .bool b, _, h => by cases h; exact .bl b
  | .int i, _, h => by cases h; exact .int i
  | .str x, _, h => by cases h; exact .str x
  | .list ds, _, h => by
    cases h with
    | lst hs ha => exact .lst (e _ _ hs) (dpa_mono e ds _ ha)
  | .tuple ds, _, h => by
    cases h with
    | tup hs ha => exact .tup (hs.mono e) (dpa_mono e ds _ ha)
  | .dict kvs, _, h => by
    cases h with
    | dic hs ha => exact .dic (e _ _ hs) (dpk_mono e kvs _ ha)
theorem dpa_mono {K : PySem.W.Frag} {F H : Hp} (e : Same F H) : ∀ (ds : List PyData) (vs : List V), DqA K F vs ds → DqA K H vs ds
  | [], _, h => by cases h; exact .nil
  | d :: ds, _, h => by
    cases h with
    | cons h1 h2 => exact .cons (dp_mono e d _ h1) (dpa_mono e ds _ h2)
theorem dpk_mono {K : PySem.W.Frag} {F H : Hp} (e : Same F H) : ∀ (kvs : List (PyData × PyData)) (kws : List (List L2.Key × V)), DqK K F kws kvs → DqK K H kws kvs
  | [], _, h => by cases h; exact .nil
  | (kd, d) :: kvs, _, h => by
    cases h with
    | cons h1 h2 => exact .cons (dp_mono e d _ h1) (dpk_mono e kvs _ h2)
end
theorem dpa_len {K : PySem.W.Frag} {H : Hp} : ∀ (ds : List PyData) (vs : List V), DqA K H vs ds → vs.length = ds.length
  | [], _, h => by cases h; rfl
  | d :: ds, _, h => by
    cases h with
    | cons h1 h2 => rw [List.length_cons, List.length_cons, dpa_len ds _ h2]
theorem dpa_get {K : PySem.W.Frag} {H : Hp} : ∀ (ds : List PyData) (vs : List V) (i : Nat) (d : PyData), DqA K H vs ds → ds[i]? = some d → ∃ v, vs[i]? = some v ∧ Dq K H v d
  | [], _, i, d, h, e => by simp at e
  | d0 :: ds, _, 0, d, h, e => by
    cases h with
    | cons h1 h2 =>
      have e2 : d0 = d := by simpa using e
      subst e2
      exact ⟨_, rfl, h1⟩
  | d0 :: ds, _, i + 1, d, h, e => by
    cases h with
    | cons h1 h2 =>
      obtain ⟨v, q, r⟩ := dpa_get ds _ i d h2 (by simpa using e)
      exact ⟨v, by simpa using q, r⟩
theorem dpa_app {K : PySem.W.Frag} {H : Hp} : ∀ {ds es : List PyData} {vs ws : List V}, DqA K H vs ds → DqA K H ws es → DqA K H (vs ++ ws) (ds ++ es)
  | [], es, _, ws, h, g => by cases h; exact g
  | d :: ds, es, _, ws, h, g => by
    cases h with
    | cons h1 h2 => exact .cons h1 (dpa_app h2 g)
theorem dpa_take {K : PySem.W.Frag} {H : Hp} : ∀ {ds : List PyData} {vs : List V} (n : Nat), DqA K H vs ds → DqA K H (vs.take n) (ds.take n)
  | _, _, 0, _ => .nil
  | [], _, n + 1, h => by cases h; exact .nil
  | d :: ds, _, n + 1, h => by
    cases h with
    | cons h1 h2 => exact .cons h1 (dpa_take n h2)
theorem dpa_drop {K : PySem.W.Frag} {H : Hp} : ∀ {ds : List PyData} {vs : List V} (n : Nat), DqA K H vs ds → DqA K H (vs.drop n) (ds.drop n)
  | _, _, 0, h => h
  | [], _, n + 1, h => by cases h; exact .nil
  | d :: ds, _, n + 1, h => by
    cases h with
    | cons h1 h2 => exact dpa_drop n h2

/-! ### what stands for what -/
/-- an exception's class and fields -/
def flds : Nat → List Str
  | 1 => ["index"]
  | 2 => ["line", "word"]
  | _ => []
def IsX (K : PySem.W.Frag) (F : Hp) (n : Str) (as : List PyData) (cls : Value) (dd : Option Addr) : Prop :=
  cls = .ref (He.ga K n) ∧ ((as = [] ∧ dd = none) ∨ ∃ d vs, as ≠ [] ∧ dd = some d ∧ F d = some (.xd ((flds as.length).zip vs)) ∧ DqA K F vs as)
theorem isx_mono {K : PySem.W.Frag} {F F' : Hp} (e : Same F F') {n : Str} {as : List PyData} {cls : Value} {dd : Option Addr} (h : IsX K F n as cls dd) : IsX K F' n as cls dd := by
  obtain ⟨h1, h2 | ⟨d, vs, h2, h3, h4, h5⟩⟩ := h
  · exact ⟨h1, .inl h2⟩
  · exact ⟨h1, .inr ⟨d, vs, h2, h3, e _ _ h4, dpa_mono e _ _ h5⟩⟩
/-- a world that stands -/
def WAt (K : PySem.W.Frag) (F : Hp) (a : Addr) (d l : PyData) : Prop :=
  ∃ dx vs vr vf pr ir pf jf, F a = some (SlX.SlO a (He.ga K "World") dx vs) ∧ F dx = some (.xd []) ∧ SlX.Slot1 K (He.ga K "World") "rows" pr ir ∧ SlX.Slot1 K (He.ga K "World") "first" pf jf ∧
    vs[ir]? = some (some vr) ∧ vs[jf]? = some (some vf) ∧ Dq K F vr d ∧ Dq K F vf l
theorem wat_mono {K : PySem.W.Frag} {F F' : Hp} (e : Same F F') {a : Addr} {d l : PyData} (h : WAt K F a d l) : WAt K F' a d l := by
  obtain ⟨dx, vs, vr, vf, pr, ir, pf, jf, h1, h2, h3, h4, h5, h6, h7, h8⟩ := h
  exact ⟨dx, vs, vr, vf, pr, ir, pf, jf, e _ _ h1, e _ _ h2, h3, h4, h5, h6, dp_mono e _ _ h7, dp_mono e _ _ h8⟩
/-- a caught error that is handed on: the object stands as it is -/
def erO (a : Addr) (ob : Obj) : HO := .ext fun h => h.get? a = some ob
def EAt (K : PySem.W.Frag) (F : Hp) (a : Addr) (n : Str) (as : List PyData) : Prop := ∃ dd ob, F a = some (erO a ob) ∧ Zc (.ref (He.ga K n)) dd ob ∧ (∃ us, ob.data = .fields us) ∧ IsX K F n as (.ref (He.ga K n)) dd
theorem eat_mono {K : PySem.W.Frag} {F F' : Hp} (e : Same F F') {a : Addr} {n : Str} {as : List PyData} (h : EAt K F a n as) : EAt K F' a n as := by
  obtain ⟨dd, ob, h1, h2, h3, h4⟩ := h
  exact ⟨dd, ob, e _ _ h1, h2, h3, isx_mono e h4⟩
/-- an own thing or pure data -/
def RpM (K : PySem.W.Frag) (F : Hp) (io : List Addr) (v : V) : Nat ⊕ PyData → Prop
  | .inl k => ∃ a, v = .ref a ∧ io[k]? = some a
  | .inr p => Dq K F v p
def Rp (K : PySem.W.Frag) (F : Hp) (io : List Addr) (v : V) : D → Prop
  | .p d => Dq K F v d
  | .own k => ∃ a, v = .ref a ∧ io[k]? = some a
  | .wld d l => ∃ a, v = .ref a ∧ WAt K F a d l
  | .exn => False
  | .scr ns => ∃ a, v = .ref a ∧ SqL K F a (ns.map V.int)
  | .dz kvs => ∃ a od kws, v = .ref a ∧ F a = some (.frz od (.dT kws)) ∧ Paired (fun (p : List Key × V) (q : List Key × PyData) => p.1 = q.1 ∧ Dq K F p.2 q.2) kws kvs
  | .fn q => v = .ref (He.ga K q)
  | .err n as => ∃ a, v = .ref a ∧ EAt K F a n as
  | .mix xs => ∃ a vs, v = .ref a ∧ F a = some (.lst vs) ∧ Paired (RpM K F io) vs xs
  | .mtp xs => ∃ a vs, v = .ref a ∧ F a = some (.tup vs) ∧ Paired (RpM K F io) vs xs
structure Ext (F : Hp) (io : List Addr) (F' : Hp) (io' : List Addr) : Prop where
  same : Same F F'
  more : ∃ t, io' = io ++ t
theorem Ext.refl (F : Hp) (io : List Addr) : Ext F io F io := ⟨Same.refl F, [], by simp⟩
theorem Ext.trans {F F1 F2 : Hp} {i i1 i2 : List Addr} (a : Ext F i F1 i1) (b : Ext F1 i1 F2 i2) : Ext F i F2 i2 := by
  obtain ⟨t, ht⟩ := a.more
  obtain ⟨u, hu⟩ := b.more
  exact ⟨a.same.trans b.same, t ++ u, by rw [hu, ht, List.append_assoc]⟩
theorem Ext.ix {F F1 : Hp} {i i1 : List Addr} (a : Ext F i F1 i1) {k : Nat} {x : Addr} (h : i[k]? = some x) : i1[k]? = some x := by
  obtain ⟨t, ht⟩ := a.more
  rw [ht, List.getElem?_append_left (List.getElem?_eq_some_iff.mp h).1]
  exact h
theorem rpm_mono {K : PySem.W.Frag} {F F' : Hp} {i i' : List Addr} (e : Ext F i F' i') {v : V} : ∀ {m : Nat ⊕ PyData}, RpM K F i v m → RpM K F' i' v m
  | .inl k, ⟨a, h1, h2⟩ => ⟨a, h1, e.ix h2⟩
  | .inr p, h => dp_mono e.same p v h
theorem rp_mono {K : PySem.W.Frag} {F F' : Hp} {i i' : List Addr} (e : Ext F i F' i') {v : V} : ∀ {d : D}, Rp K F i v d → Rp K F' i' v d
  | .p d, h => dp_mono e.same d v h
  | .own k, ⟨a, h1, h2⟩ => ⟨a, h1, e.ix h2⟩
  | .wld d l, ⟨a, h1, h2⟩ => ⟨a, h1, wat_mono e.same h2⟩
  | .exn, h => h
  | .scr ns, ⟨a, h1, h2⟩ => ⟨a, h1, e.same.seq h2⟩
  | .dz kvs, ⟨a, od, kws, h1, h2, h3⟩ => ⟨a, od, kws, h1, e.same _ _ h2, Paired.mapP h3 fun _ _ z => ⟨z.1, dp_mono e.same _ _ z.2⟩⟩
  | .fn q, h => h
  | .err n as, ⟨a, h1, h2⟩ => ⟨a, h1, eat_mono e.same h2⟩
  | .mix xs, ⟨a, vs, h1, h2, h3⟩ => ⟨a, vs, h1, e.same _ _ h2, Paired.mapP h3 fun _ _ z => rpm_mono e z⟩
  | .mtp xs, ⟨a, vs, h1, h2, h3⟩ => ⟨a, vs, h1, e.same _ _ h2, Paired.mapP h3 fun _ _ z => rpm_mono e z⟩
abbrev RpA (K : PySem.W.Frag) (F : Hp) (io : List Addr) : List V → List D → Prop := Paired (Rp K F io)
theorem rpa_mono {K : PySem.W.Frag} {F F' : Hp} {i i' : List Addr} (e : Ext F i F' i') {vs : List V} {ds : List D} (h : RpA K F i vs ds) : RpA K F' i' vs ds := Paired.mapP h fun _ _ r => rp_mono e r

def OAt (K : PySem.W.Frag) (F : Hp) (io : List Addr) (H : Hp) (a : Addr) : O → Prop
  | .lst xs => F a = none ∧ ∃ vs, H a = some (.lst vs) ∧ RpA K F io vs xs
  | .dic kvs => F a = none ∧ ∃ kws, H a = some (.dT kws) ∧ Paired (fun (p : List Key × V) (q : List Key × D) => p.1 = q.1 ∧ Rp K F io p.2 q.2) kws kvs
  | .ins n fs => F a = none ∧ ∃ dx fvs, H a = some (.ins (He.ga K n) dx fvs) ∧ F dx = some (.own a) ∧ Paired (fun (p : Str × V) (q : Str × D) => p.1 = q.1 ∧ Rp K F io p.2 q.2) fvs fs
  | .raw j => F a = none ∧ ∃ dx, io[j]? = some dx ∧ H a = some (.ins (He.ga K "World") dx [])
  | .odx j => F a = none ∧ ∃ b, io[j]? = some b ∧ H a = some (.own b)
  | .fz d => (∃ o, F a = some o) ∧ Rp K F io (.ref a) d
  | .gone => ∃ o, F a = some o
theorem oat_there {K : PySem.W.Frag} {F : Hp} {io : List Addr} {H : Hp} {a : Addr} (ex : Same F H) : ∀ {o : O}, OAt K F io H a o → ∃ u, H a = some u
  | .lst xs, ⟨_, vs, h, _⟩ => ⟨_, h⟩
  | .dic kvs, ⟨_, _, h, _⟩ => ⟨_, h⟩
  | .ins n fs, ⟨_, _, _, h, _⟩ => ⟨_, h⟩
  | .raw j, ⟨_, _, _, h⟩ => ⟨_, h⟩
  | .odx j, ⟨_, _, _, h⟩ => ⟨_, h⟩
  | .fz d, ⟨⟨o, h⟩, _⟩ => ⟨o, ex _ _ h⟩
  | .gone, ⟨o, h⟩ => ⟨o, ex _ _ h⟩
theorem oat_step {K : PySem.W.Frag} {F F' : Hp} {i i' : List Addr} {H H' : Hp} {a : Addr} (e : Ext F i F' i') (hF : F a = none → F' a = none) (hH : F a = none → H' a = H a) : ∀ {o : O}, OAt K F i H a o → OAt K F' i' H' a o
  | .lst xs, ⟨h0, vs, h, r⟩ => ⟨hF h0, vs, (hH h0).trans h, rpa_mono e r⟩
  | .dic kvs, ⟨h0, kws, h, r⟩ => ⟨hF h0, kws, (hH h0).trans h, Paired.mapP r fun _ _ z => ⟨z.1, rp_mono e z.2⟩⟩
  | .ins n fs, ⟨h0, dx, fvs, h, h2, r⟩ => ⟨hF h0, dx, fvs, (hH h0).trans h, e.same _ _ h2, Paired.mapP r fun _ _ z => ⟨z.1, rp_mono e z.2⟩⟩
  | .raw j, ⟨h0, dx, h1, h⟩ => ⟨hF h0, dx, e.ix h1, (hH h0).trans h⟩
  | .odx j, ⟨h0, b, h1, h⟩ => ⟨hF h0, b, e.ix h1, (hH h0).trans h⟩
  | .fz d, ⟨⟨o, h⟩, r⟩ => ⟨⟨o, e.same _ _ h⟩, rp_mono e r⟩
  | .gone, ⟨o, h⟩ => ⟨o, e.same _ _ h⟩
/-- F: what never changes; io, S: what may change, by places; G: what others hold here -/
structure Good (K : PySem.W.Frag) (G F : Hp) (io : List Addr) (H : Hp) (S : Sto) : Prop where
  ex : Same F H
  gx : Same G H
  gf : ∀ a o, G a = some o → F a = none ∧ a ∉ io
  nd : io.Nodup
  len : io.length = S.length
  ob : ∀ (k : Nat) (a : Addr) (o : O), io[k]? = some a → S[k]? = some o → OAt K F io H a o
  gt : ∀ (a : Addr) (o : HO), G a = some o → ∀ xs, o ≠ .tup xs
section
variable {K : PySem.W.Frag} {G F : Hp} {io : List Addr} {H : Hp} {S : Sto} {p : Addr} {o : HO}
theorem Good.out (g : Good K G F io H S) (h : H p = none) : F p = none := g.ex.free h
theorem Good.mem (g : Good K G F io H S) {a : Addr} (h : a ∈ io) : ∃ u, H a = some u := by
  obtain ⟨k, hk, e⟩ := List.mem_iff_getElem.mp h
  have h1 : io[k]? = some a := by rw [List.getElem?_eq_getElem hk, e]
  have hk2 : k < S.length := by rw [← g.len]; exact hk
  have h2 : S[k]? = some S[k] := List.getElem?_eq_getElem hk2
  exact oat_there g.ex (g.ob k a _ h1 h2)
theorem Good.at_ (g : Good K G F io H S) {k : Nat} {o : O} (h : S[k]? = some o) : ∃ a, io[k]? = some a ∧ OAt K F io H a o := by
  have hk := (List.getElem?_eq_some_iff.mp h).1
  have hk2 : k < io.length := by rw [g.len]; exact hk
  have h1 : io[k]? = some io[k] := List.getElem?_eq_getElem hk2
  exact ⟨_, h1, g.ob k _ o h1 h⟩
theorem Good.gne (g : Good K G F io H S) {b a : Addr} {u : HO} {k : Nat} (q : G b = some u) (h1 : io[k]? = some a) : b ≠ a := fun z => (g.gf b u q).2 (z ▸ List.mem_of_getElem? h1)
theorem Good.gnew (g : Good K G F io H S) (h : H p = none) {b : Addr} {u : HO} (q : G b = some u) : b ≠ p := ne_of_none (g.gx _ _ q) h
theorem Good.gxnew (g : Good K G F io H S) (h : H p = none) : Same G (upd H p o) := fun b u q => by
  rw [upd_ne (g.gnew h q)]
  exact g.gx _ _ q
theorem upd_one {F : Hp} {p : Addr} {o : HO} (h : F p = none) : Same F (upd F p o) := fun b u e => by
  rw [upd_ne (ne_of_none e h)]
  exact e
theorem upd_both {F H : Hp} {p : Addr} {o : HO} (e : Same F H) : Same (upd F p o) (upd H p o) := fun b u q => by
  by_cases hb : b = p
  · subst hb
    rw [upd_same] at q ⊢
    exact q
  · rw [upd_ne hb] at q ⊢
    exact e _ _ q
/-- a new thing that never changes -/
theorem Good.new (g : Good K G F io H S) (h : H p = none) : Good K G (upd F p o) io (upd H p o) S ∧ Ext F io (upd F p o) io := by
  have hf := g.out h
  have e : Ext F io (upd F p o) io := ⟨upd_one hf, [], by simp⟩
  refine ⟨⟨upd_both g.ex, g.gxnew h, fun a u q => ⟨by rw [upd_ne (g.gnew h q)]; exact (g.gf a u q).1, (g.gf a u q).2⟩, g.nd, g.len, fun k a o' h1 h2 => ?_, g.gt⟩, e⟩
  have ha : a ≠ p := by
    obtain ⟨u, hu⟩ := g.mem (List.mem_of_getElem? h1)
    exact ne_of_none hu h
  exact oat_step e (fun z => by rw [upd_ne ha]; exact z) (fun _ => by rw [upd_ne ha]) (g.ob k a o' h1 h2)
/-- a new thing that may change -/
theorem Good.newOwn (g : Good K G F io H S) (h : H p = none) {x : O} (hx : OAt K F (io ++ [p]) (upd H p o) p x) : Good K G F (io ++ [p]) (upd H p o) (S ++ [x]) ∧ Ext F io F (io ++ [p]) := by
  have hf := g.out h
  have e : Ext F io F (io ++ [p]) := ⟨Same.refl F, [p], rfl⟩
  have hp : p ∉ io := fun hm => by
    obtain ⟨u, hu⟩ := g.mem hm
    rw [h] at hu
    cases hu
  refine ⟨⟨fun b u q => ?_, g.gxnew h, fun a u q => ⟨(g.gf a u q).1, fun hm => (List.mem_append.mp hm).elim (g.gf a u q).2 fun hm => g.gnew h q (by simpa using hm)⟩, ?_, by simp [g.len], fun k a o' h1 h2 => ?_, g.gt⟩, e⟩
  · rw [upd_ne (ne_of_none q hf)]
    exact g.ex _ _ q
  · rw [List.nodup_append]
    exact ⟨g.nd, by simp, fun a ha b hb => by
      have hb' : b = p := by simpa using hb
      subst hb'
      exact fun z => hp (z ▸ ha)⟩
  · by_cases hk : k < io.length
    · rw [List.getElem?_append_left hk] at h1
      rw [List.getElem?_append_left (by rw [← g.len]; exact hk)] at h2
      have ha : a ≠ p := fun z => hp (z ▸ List.mem_of_getElem? h1)
      exact oat_step e (fun z => z) (fun _ => upd_ne ha) (g.ob k a o' h1 h2)
    · have hk2 : k = io.length := by
        have := (List.getElem?_eq_some_iff.mp h1).1
        simp at this
        omega
      subst hk2
      rw [List.getElem?_append_right (Nat.le_refl _)] at h1
      rw [g.len, List.getElem?_append_right (Nat.le_refl _)] at h2
      simp at h1 h2
      subst h1
      subst h2
      exact hx
/-- a mutable thing is written -/
theorem Good.put (g : Good K G F io H S) {k : Nat} {a : Addr} (h1 : io[k]? = some a) (hf : F a = none) {x : O} (hx : OAt K F io (upd H a o) a x) : Good K G F io (upd H a o) (S.set k x) := by
  refine ⟨fun b u q => ?_, fun b u q => by rw [upd_ne (g.gne q h1)]; exact g.gx _ _ q, g.gf, g.nd, by simp [g.len], fun j b o' e1 e2 => ?_, g.gt⟩
  · rw [upd_ne (ne_of_none q hf)]
    exact g.ex _ _ q
  · by_cases hj : j = k
    · subst hj
      rw [h1] at e1
      have e1 : a = b := Option.some.inj e1
      subst e1
      have hk : j < S.length := by
        have := (List.getElem?_eq_some_iff.mp e2).1
        simpa using this
      rw [List.getElem?_set_self hk] at e2
      have e2 : x = o' := Option.some.inj e2
      subst e2
      exact hx
    · rw [List.getElem?_set_ne (Ne.symm hj)] at e2
      have hb : b ≠ a := fun z => by
        subst z
        have l1 := (List.getElem?_eq_some_iff.mp e1)
        have l2 := (List.getElem?_eq_some_iff.mp h1)
        obtain ⟨m1, n1⟩ := l1
        obtain ⟨m2, n2⟩ := l2
        exact hj ((List.getElem_inj g.nd).mp (n1.trans n2.symm))
      exact oat_step (Ext.refl F io) (fun z => z) (fun _ => upd_ne hb) (g.ob j b o' e1 e2)
/-- a mutable list never changes again -/
theorem Good.freeze (g : Good K G F io H S) {k : Nat} {a : Addr} (h1 : io[k]? = some a) (hf : F a = none) (ho : H a = some o) {d : D} (hd : Rp K (upd F a o) io (.ref a) d) : Good K G (upd F a o) io H (S.set k (.fz d)) ∧ Ext F io (upd F a o) io := by
  have e : Ext F io (upd F a o) io := ⟨upd_one hf, [], by simp⟩
  refine ⟨⟨fun b u q => ?_, g.gx, fun b u q => ⟨by rw [upd_ne (g.gne q h1)]; exact (g.gf b u q).1, (g.gf b u q).2⟩, g.nd, by simp [g.len], fun j b o' e1 e2 => ?_, g.gt⟩, e⟩
  · by_cases hb : b = a
    · subst hb
      rw [upd_same] at q
      rw [← q]
      exact ho
    · rw [upd_ne hb] at q
      exact g.ex _ _ q
  · by_cases hj : j = k
    · subst hj
      rw [h1] at e1
      have e1 : a = b := Option.some.inj e1
      subst e1
      have hk : j < S.length := by
        have := (List.getElem?_eq_some_iff.mp e2).1
        simpa using this
      rw [List.getElem?_set_self hk] at e2
      have e2 : O.fz d = o' := Option.some.inj e2
      subst e2
      exact ⟨⟨o, upd_same⟩, hd⟩
    · rw [List.getElem?_set_ne (Ne.symm hj)] at e2
      have hb : b ≠ a := fun z => by
        subst z
        obtain ⟨m1, n1⟩ := (List.getElem?_eq_some_iff.mp e1)
        obtain ⟨m2, n2⟩ := (List.getElem?_eq_some_iff.mp h1)
        exact hj ((List.getElem_inj g.nd).mp (n1.trans n2.symm))
      exact oat_step e (fun z => by rw [upd_ne hb]; exact z) (fun _ => rfl) (g.ob j b o' e1 e2)
theorem oat_notup {a : Addr} {xs : List V} (hH : H a = some (.tup xs)) : ∀ {x : O}, OAt K F io H a x → ∃ u, F a = some u
  | .lst _, ⟨_, _, h, _⟩ => by rw [h] at hH; cases Option.some.inj hH
  | .dic _, ⟨_, _, h, _⟩ => by rw [h] at hH; cases Option.some.inj hH
  | .ins _ _, ⟨_, _, _, h, _⟩ => by rw [h] at hH; cases Option.some.inj hH
  | .raw _, ⟨_, _, _, h⟩ => by rw [h] at hH; cases Option.some.inj hH
  | .odx _, ⟨_, _, _, h⟩ => by rw [h] at hH; cases Option.some.inj hH
  | .fz _, ⟨h, _⟩ => h
  | .gone, h => h
/-- a tuple that stands is known -/
theorem Good.learn (g : Good K G F io H S) {b : Addr} {xs : List V} (h : H b = some (.tup xs)) : ∃ F1, Ext F io F1 io ∧ Good K G F1 io H S ∧ F1 b = some (.tup xs) := by
  cases hf : F b with
  | some o =>
    have := g.ex _ _ hf
    rw [h] at this
    exact ⟨F, Ext.refl F io, g, by rw [hf, ← this]⟩
  | none =>
    have e : Ext F io (upd F b (.tup xs)) io := ⟨upd_one hf, [], by simp⟩
    refine ⟨_, e, ⟨fun c u q => ?_, g.gx, fun c u q => ?_, g.nd, g.len, fun k c o' h1 h2 => ?_, g.gt⟩, upd_same⟩
    · by_cases hc : c = b
      · subst hc
        rw [upd_same] at q
        rw [← q]
        exact h
      · rw [upd_ne hc] at q
        exact g.ex _ _ q
    · have hc : c ≠ b := fun z => by
        subst z
        have hu := g.gx _ _ q
        rw [h] at hu
        exact g.gt _ _ q xs (Option.some.inj hu).symm
      exact ⟨by rw [upd_ne hc]; exact (g.gf c u q).1, (g.gf c u q).2⟩
    · have ho := g.ob k c o' h1 h2
      have hc : c ≠ b := fun z => by
        subst z
        obtain ⟨u, hu⟩ := oat_notup h ho
        rw [hf] at hu
        cases hu
      exact oat_step e (fun z => by rw [upd_ne hc]; exact z) (fun _ => rfl) ho
end
end Tw
namespace Tw
open PySem PySem.Spec PyProof.Rows L2

/-- the exception that a suite holds: its slot's value, its class, its dict, what it is -/
structure Ux where
  a : Addr
  cls : Value
  dd : Option Addr
  n : Str
  as : List PyData
structure Cw where
  K : PySem.W.Frag
  U : Option Ux
  W : WX
def RpE (c : Cw) (F : Hp) (io : List Addr) (v : V) : D → Prop
  | .exn => ∃ u, c.U = some u ∧ v = .ref u.a ∧ IsX c.K F u.n u.as u.cls u.dd
  | d => Rp c.K F io v d
theorem rpe_of {c : Cw} {F : Hp} {io : List Addr} {v : V} {d : D} (h : Rp c.K F io v d) : RpE c F io v d := by
  cases d <;> first | exact h | exact h.elim
theorem rpe_mono {c : Cw} {F F1 : Hp} {i i1 : List Addr} (e : Ext F i F1 i1) {v : V} : ∀ {d : D}, RpE c F i v d → RpE c F1 i1 v d
  | .exn, ⟨u, h1, h2, h3⟩ => ⟨u, h1, h2, isx_mono e.same h3⟩
  | .p d, h => rp_mono (K := c.K) (d := .p d) e h
  | .own k, h => rp_mono (K := c.K) (d := .own k) e h
  | .wld d l, h => rp_mono (K := c.K) (d := .wld d l) e h
  | .scr ns, h => rp_mono (K := c.K) (d := .scr ns) e h
  | .dz kvs, h => rp_mono (K := c.K) (d := .dz kvs) e h
  | .fn q, h => rp_mono (K := c.K) (d := .fn q) e h
  | .err n as, h => rp_mono (K := c.K) (d := .err n as) e h
  | .mix xs, h => rp_mono (K := c.K) (d := .mix xs) e h
  | .mtp xs, h => rp_mono (K := c.K) (d := .mtp xs) e h
def REnv (c : Cw) (F : Hp) (io : List Addr) (σ : L2.St) (ρ : Env) : Prop :=
  σ.length = ρ.length ∧ ∀ (i : Nat) (d : D), ρ[i]? = some (some d) → ∃ v, σ[i]? = some (some v) ∧ RpE c F io v d
theorem renv_mono {c : Cw} {F F1 : Hp} {i i1 : List Addr} {σ : L2.St} {ρ : Env} (e : Ext F i F1 i1) (h : REnv c F i σ ρ) : REnv c F1 i1 σ ρ :=
  ⟨h.1, fun j d q => let ⟨v, h1, h2⟩ := h.2 j d q; ⟨v, h1, rpe_mono e h2⟩⟩
theorem renv_set {c : Cw} {F : Hp} {io : List Addr} {σ : L2.St} {ρ : Env} (h : REnv c F io σ ρ) {v : V} {d : D} (r : RpE c F io v d) (i : Nat) : REnv c F io (σ.set i (some v)) (ρ.set i (some d)) := by
  refine ⟨by rw [List.length_set, List.length_set]; exact h.1, fun j d' q => ?_⟩
  by_cases hj : i = j
  · subst hj
    have hl : i < ρ.length := by
      have := (List.getElem?_eq_some_iff.mp q).1
      simpa using this
    rw [List.getElem?_set_self hl] at q
    have q : d = d' := Option.some.inj (Option.some.inj q)
    subst q
    have hs : i < σ.length := by rw [h.1]; exact hl
    exact ⟨v, List.getElem?_set_self hs, r⟩
  · rw [List.getElem?_set_ne hj] at q ⊢
    exact h.2 j d' q
theorem renv_none {c : Cw} {F : Hp} {io : List Addr} {σ : L2.St} {ρ : Env} (h : REnv c F io σ ρ) (i : Nat) : REnv c F io (σ.set i none) (ρ.set i none) := by
  refine ⟨by rw [List.length_set, List.length_set]; exact h.1, fun j d' q => ?_⟩
  by_cases hj : i = j
  · subst hj
    have hl : i < ρ.length := by
      have := (List.getElem?_eq_some_iff.mp q).1
      simpa using this
    rw [List.getElem?_set_self hl] at q
    cases q
  · rw [List.getElem?_set_ne hj] at q ⊢
    exact h.2 j d' q

section
variable {α β γ δ : Type}
def Aft (c : Cw) (G F : Hp) (io : List Addr) (σ : L2.St) (R : Hp → List Addr → β → α → Prop) (Q : β → Hp → Prop) : Res α → Prop
  | .ok d S => ∀ v F' io' H', Ext F io F' io' → Good c.K G F' io' H' S → R F' io' v d → Q v H'
  | .exc n as S => ∀ cls dd F' io' H', Ext F io F' io' → Good c.K G F' io' H' S → IsX c.K F' n as cls dd → c.W cls dd σ H'
  | .bad => False
variable {c : Cw} {G F F1 : Hp} {io io1 : List Addr} {σ : L2.St} {R : Hp → List Addr → β → α → Prop} {Q : β → Hp → Prop}
theorem Aft.ext {r : Res α} (h : Aft c G F io σ R Q r) (e : Ext F io F1 io1) : Aft c G F1 io1 σ R Q r := by
  cases r with
  | ok d S => exact fun v F' io' H' e' => h v F' io' H' (e.trans e')
  | exc n as S => exact fun cls dd F' io' H' e' => h cls dd F' io' H' (e.trans e')
  | bad => exact h
theorem Aft.step {R1 : Hp → List Addr → δ → γ → Prop} {Q1 : δ → Hp → Prop} {r : Res γ} {k : γ → Sto → Res α} (h : Aft c G F io σ R Q (r.bind k))
    (go : ∀ d S1 v F1 io1 H1, Ext F io F1 io1 → Good c.K G F1 io1 H1 S1 → R1 F1 io1 v d → Aft c G F1 io1 σ R Q (k d S1) → Q1 v H1) : Aft c G F io σ R1 Q1 r := by
  cases r with
  | ok d S1 => exact fun v F1 io1 H1 e g r => go d S1 v F1 io1 H1 e g r (Aft.ext (r := k d S1) h e)
  | exc n as S => exact h
  | bad => exact h
theorem Aft.here {d : α} {S : Sto} {v : β} {H : Hp} (h : Aft c G F io σ R Q (.ok d S)) (g : Good c.K G F io H S) (r : R F io v d) : Q v H := h v F io H (Ext.refl F io) g r
end
abbrev rp (c : Cw) : Hp → List Addr → V → D → Prop := fun F io v d => Rp c.K F io v d
abbrev rpA (c : Cw) : Hp → List Addr → List V → List D → Prop := fun F io vs ds => RpA c.K F io vs ds
abbrev rpB : Hp → List Addr → Bool → Bool → Prop := fun _ _ a b => a = b
def Res.asB : Res D → Res Bool
  | .ok (.p (.bool b)) S => .ok b S
  | .ok _ _ => .bad
  | .exc n as S => .exc n as S
  | .bad => .bad
abbrev FE := Env → Sto → Res D
abbrev FA := Env → Sto → Res (List D)
def tE (c : Cw) (f : FE) : TE := fun σ H Q => ∃ G F io S ρ, Good c.K G F io H S ∧ REnv c F io σ ρ ∧ Aft c G F io σ (rp c) Q (f ρ S)
def tA (c : Cw) (f : FA) : TA := fun σ H Q => ∃ G F io S ρ, Good c.K G F io H S ∧ REnv c F io σ ρ ∧ Aft c G F io σ (rpA c) Q (f ρ S)
def tT (c : Cw) (f : FE) : TT := fun σ H Q => ∃ G F io S ρ, Good c.K G F io H S ∧ REnv c F io σ ρ ∧ Aft c G F io σ rpB Q (f ρ S).asB

section
variable {X : Cx} {e : Expr} {es : List Expr}
theorem pe_imp {t t' : TE} (h : PE X e t) (i : ∀ σ H Q, t' σ H Q → t σ H Q) : PE X e t' := ⟨fun pins s σ H Q I q => h.run pins s σ H Q I (i σ H Q q)⟩
theorem pt_imp {t t' : TT} (h : PT X e t) (i : ∀ σ H Q, t' σ H Q → t σ H Q) : PT X e t' := ⟨fun pins s σ H Q I q => h.run pins s σ H Q I (i σ H Q q)⟩
theorem pw_imp {t t' : TT} (h : PW X e t) (i : ∀ σ H Q, t' σ H Q → t σ H Q) : PW X e t' := ⟨fun wh pins s σ H Q I q => h.run wh pins s σ H Q I (i σ H Q q)⟩
theorem pa_imp {t t' : TA} (h : PA X es t) (i : ∀ σ H Q, t' σ H Q → t σ H Q) : PA X es t' := ⟨fun pos pins s σ H Q I q => h.run pos pins s σ H Q I (i σ H Q q)⟩
theorem ps_imp {st : Stmt} {t t' : TS} (h : PS X st t) (i : ∀ D σ H, t' D σ H → t D σ H) : PS X st t' := ⟨fun pins s σ H D I q => h.run pins s σ H D I (i D σ H q)⟩
theorem pss_imp {st : List Stmt} {t t' : TS} (h : PSs X st t) (i : ∀ D σ H, t' D σ H → t D σ H) : PSs X st t' := ⟨fun pins s σ H D I q => h.run pins s σ H D I (i D σ H q)⟩
end

/-! ### names, constants -/
def fVar (i : Nat) : FE := fun ρ S => match ρ[i]? with
  | some (some .exn) => .bad
  | some (some d) => .ok d S
  | _ => .bad
def fCon (d : PyData) : FE := fun _ S => .ok (.p d) S
section
variable {X : Cx} {e a b : Expr} {es : List Expr} {c : Cw} {fa fb fc : FE} {pos : Pos}
theorem fe_var {i : Nat} (h : PE X e (tVar i)) : PE X e (tE c (fVar i)) := pe_imp h fun σ H Q ⟨G, F, io, S, ρ, g, r, q⟩ => by
  unfold fVar at q
  cases h1 : ρ[i]? with
  | none => rw [h1] at q; exact q.elim
  | some o =>
    cases o with
    | none => rw [h1] at q; exact q.elim
    | some d =>
      rw [h1] at q
      obtain ⟨v, h2, h3⟩ := r.2 i d h1
      cases d with
      | exn => exact q.elim
      | p d => exact ⟨v, h2, Aft.here q g h3⟩
      | own k => exact ⟨v, h2, Aft.here q g h3⟩
      | wld d l => exact ⟨v, h2, Aft.here q g h3⟩
      | scr ns => exact ⟨v, h2, Aft.here q g h3⟩
      | dz kvs => exact ⟨v, h2, Aft.here q g h3⟩
      | fn q0 => exact ⟨v, h2, Aft.here q g h3⟩
      | err n0 as0 => exact ⟨v, h2, Aft.here q g h3⟩
      | mix xs0 => exact ⟨v, h2, Aft.here q g h3⟩
      | mtp xs0 => exact ⟨v, h2, Aft.here q g h3⟩
theorem fe_con {v : V} {d : PyData} (h : PE X e (tC v)) (hd : ∀ F, Dq c.K F v d) : PE X e (tE c (fCon d)) := pe_imp h fun σ H Q ⟨G, F, io, S, ρ, g, r, q⟩ =>
  Aft.here (v := v) q g (hd F)
theorem fe_int {i : Int} {j} : PE X (.Constant (.int i) j pos) (tE c (fCon (.int i))) := fe_con pe_int fun _ => .int i
theorem fe_bl {b : Bool} {j} : PE X (.Constant (.bool b) j pos) (tE c (fCon (.bool b))) := fe_con pe_bl fun _ => .bl b
theorem fe_non {j} : PE X (.Constant .none j pos) (tE c (fCon .none)) := fe_con pe_non fun _ => .non
theorem fe_str {x : Str} {j} : PE X (.Constant (.str x) j pos) (tE c (fCon (.str x))) := fe_con pe_str fun _ => .str x

/-! ### two-place operations -/
def fBin (g : D → D → Sto → Res D) (fa fb : FE) : FE := fun ρ S => (fa ρ S).bind fun x S1 => (fb ρ S1).bind fun y S2 => g x y S2
def BOp (c : Cw) (r : R2) (g : D → D → Sto → Res D) : Prop := ∀ G F io H S σ x y dx dy Q, Good c.K G F io H S → Rp c.K F io x dx → Rp c.K F io y dy → Aft c G F io σ (rp c) Q (g dx dy S) → r x y H Q
theorem fe_op {r : R2} {g : D → D → Sto → Res D} (hop : ∀ {ta tb : TE}, PE X a ta → PE X b tb → PE X e (tOp r ta tb)) (hr : BOp c r g) (ha : PE X a (tE c fa)) (hb : PE X b (tE c fb)) : PE X e (tE c (fBin g fa fb)) :=
  pe_imp (hop ha hb) fun σ H Q ⟨G, F, io, S, ρ, gd, re, q⟩ => ⟨G, F, io, S, ρ, gd, re, Aft.step q fun d1 S1 v1 F1 i1 H1 e1 g1 r1 q1 =>
    ⟨G, F1, i1, S1, ρ, g1, renv_mono e1 re, Aft.step q1 fun d2 S2 v2 F2 i2 H2 e2 g2 r2 q2 => hr G F2 i2 H2 S2 σ v1 v2 d1 d2 Q g2 (rp_mono e2 r1) r2 q2⟩⟩
theorem ft_op {r : R2} {g : D → D → Sto → Res D} (hop : ∀ {ta tb : TE}, PE X a ta → PE X b tb → PT X e (tTest (tOp r ta tb))) (hr : BOp c r g) (ha : PE X a (tE c fa)) (hb : PE X b (tE c fb)) : PT X e (tT c (fBin g fa fb)) :=
  pt_imp (hop ha hb) fun σ H Q ⟨G, F, io, S, ρ, gd, re, q⟩ => by
    have toB : ∀ {G F : Hp} {io : List Addr} {r : Res D}, Aft c G F io σ rpB Q r.asB → Aft c G F io σ (rp c) (fun x H' => ∃ k, x = .bl k ∧ Q k H') r := fun {G F io r} h => by
      cases r with
      | ok d S =>
        cases d with
        | p d =>
          cases d with
          | bool b =>
            intro v F' io' H' e' g' r'
            cases r'
            exact ⟨b, rfl, h b F' io' H' e' g' rfl⟩
          | _ => exact h.elim
        | _ => exact h.elim
      | exc n as S => exact h
      | bad => exact h
    have q2 := toB q
    exact ⟨G, F, io, S, ρ, gd, re, Aft.step q2 fun d1 S1 v1 F1 i1 H1 e1 g1 r1 q1 =>
      ⟨G, F1, i1, S1, ρ, g1, renv_mono e1 re, Aft.step q1 fun d2 S2 v2 F2 i2 H2 e2 g2 r2 q2 => hr G F2 i2 H2 S2 σ v1 v2 d1 d2 _ g2 (rp_mono e2 r1) r2 q2⟩⟩
theorem aft_b {G F : Hp} {io : List Addr} {σ : L2.St} {r : Res D} {Q : Bool → Hp → Prop} (h : Aft c G F io σ rpB Q r.asB) : Aft c G F io σ (rp c) (fun x H' => ∃ k, x = .bl k ∧ Q k H') r := by
  cases r with
  | ok d S =>
    cases d with
    | p d =>
      cases d with
      | bool b =>
        intro v F' io' H' e' g' r'
        cases r'
        exact ⟨b, rfl, h b F' io' H' e' g' rfl⟩
      | _ => exact h.elim
    | _ => exact h.elim
  | exc n as S => exact h
  | bad => exact h
/-- a bool's value as a test -/
theorem ft_val {f : FE} (h : PE X e (tE c f)) (he : ∀ whole, isTrue e X.env whole = (do let v ← whole; standAt e.pos; holding [v] (truthy v)) := by intro _; rfl) : PT X e (tT c f) :=
  pt_imp (pt_val h he) fun σ H Q ⟨G, F, io, S, ρ, gd, re, q⟩ => ⟨G, F, io, S, ρ, gd, re, aft_b q⟩
/-! and, or, not, if -/
def fAnd (fa fb : FE) : FE := fun ρ S => (fa ρ S).asB.bind fun k S1 => if k = true then fb ρ S1 else .ok (.p (.bool false)) S1
def fOr (fa fb : FE) : FE := fun ρ S => (fa ρ S).asB.bind fun k S1 => if k = true then .ok (.p (.bool true)) S1 else fb ρ S1
def fNot (fa : FE) : FE := fun ρ S => (fa ρ S).asB.bind fun k S1 => .ok (.p (.bool (!k))) S1
def fIf (fc fa fb : FE) : FE := fun ρ S => (fc ρ S).asB.bind fun k S1 => if k = true then fa ρ S1 else fb ρ S1
theorem asB_bind (r : Res Bool) (k : Bool → Sto → Res D) : (r.bind k).asB = r.bind fun b S => (k b S).asB := by cases r <;> rfl
variable {rest : List Expr}
theorem fw_and1 (ha : PT X a (tT c fa)) : PW X (.BoolOp .And [a] pos) (tT c fa) := pw_and1 ha
theorem fw_or1 (ha : PT X a (tT c fa)) : PW X (.BoolOp .Or [a] pos) (tT c fa) := pw_or1 ha
theorem fw_and (ha : PT X a (tT c fa)) (hb : PW X (.BoolOp .And (b :: rest) pos) (tT c fb)) : PW X (.BoolOp .And (a :: b :: rest) pos) (tT c (fAnd fa fb)) :=
  pw_imp (pw_and ha hb) fun σ H Q ⟨G, F, io, S, ρ, gd, re, q⟩ => by
    unfold fAnd at q
    rw [asB_bind] at q
    refine ⟨G, F, io, S, ρ, gd, re, Aft.step q fun k S1 k' F1 i1 H1 e1 g1 r1 q1 => ?_⟩
    have r1 : k' = k := r1
    subst r1
    cases k' with
    | true => exact ⟨G, F1, i1, S1, ρ, g1, renv_mono e1 re, q1⟩
    | false => exact Aft.here (v := false) q1 g1 rfl
theorem fw_or (ha : PT X a (tT c fa)) (hb : PW X (.BoolOp .Or (b :: rest) pos) (tT c fb)) : PW X (.BoolOp .Or (a :: b :: rest) pos) (tT c (fOr fa fb)) :=
  pw_imp (pw_or ha hb) fun σ H Q ⟨G, F, io, S, ρ, gd, re, q⟩ => by
    unfold fOr at q
    rw [asB_bind] at q
    refine ⟨G, F, io, S, ρ, gd, re, Aft.step q fun k S1 k' F1 i1 H1 e1 g1 r1 q1 => ?_⟩
    have r1 : k' = k := r1
    subst r1
    cases k' with
    | true => exact Aft.here (v := true) q1 g1 rfl
    | false => exact ⟨G, F1, i1, S1, ρ, g1, renv_mono e1 re, q1⟩
theorem ft_not (ha : PT X a (tT c fa)) : PT X (.UnaryOp .Not a pos) (tT c (fNot fa)) :=
  pt_imp (pt_not ha) fun σ H Q ⟨G, F, io, S, ρ, gd, re, q⟩ => by
    unfold fNot at q
    rw [asB_bind] at q
    refine ⟨G, F, io, S, ρ, gd, re, Aft.step q fun k S1 k' F1 i1 H1 e1 g1 r1 q1 => ?_⟩
    have r1 : k' = k := r1
    subst r1
    exact Aft.here (v := !k') q1 g1 rfl
theorem fe_and1 {op} (ha : PE X a (tE c fa)) : PE X (.BoolOp op [a] pos) (tE c fa) := pe_one ha
theorem fe_and (ha : PE X a (tE c fa)) (hb : PE X (.BoolOp .And (b :: rest) pos) (tE c fb)) : PE X (.BoolOp .And (a :: b :: rest) pos) (tE c (fAnd fa fb)) :=
  pe_imp (pe_and ha hb) fun σ H Q ⟨G, F, io, S, ρ, gd, re, q⟩ => by
    unfold fAnd at q
    refine ⟨G, F, io, S, ρ, gd, re, ?_⟩
    have q2 := Aft.step (R1 := rpB) (Q1 := fun k H' => if k = true then tE c fb σ H' Q else Q (.bl false) H') q fun k S1 k' F1 i1 H1 e1 g1 r1 q1 => by
      have r1 : k' = k := r1
      subst r1
      cases k' with
      | true => exact ⟨G, F1, i1, S1, ρ, g1, renv_mono e1 re, q1⟩
      | false => exact Aft.here (v := .bl false) q1 g1 (show rp c F1 i1 (.bl false) (.p (.bool false)) from Dq.bl false)
    exact aft_b q2
theorem fe_or (ha : PE X a (tE c fa)) (hb : PE X (.BoolOp .Or (b :: rest) pos) (tE c fb)) : PE X (.BoolOp .Or (a :: b :: rest) pos) (tE c (fOr fa fb)) :=
  pe_imp (pe_or ha hb) fun σ H Q ⟨G, F, io, S, ρ, gd, re, q⟩ => by
    unfold fOr at q
    refine ⟨G, F, io, S, ρ, gd, re, ?_⟩
    have q2 := Aft.step (R1 := rpB) (Q1 := fun k H' => if k = true then Q (.bl true) H' else tE c fb σ H' Q) q fun k S1 k' F1 i1 H1 e1 g1 r1 q1 => by
      have r1 : k' = k := r1
      subst r1
      cases k' with
      | true => exact Aft.here (v := .bl true) q1 g1 (show rp c F1 i1 (.bl true) (.p (.bool true)) from Dq.bl true)
      | false => exact ⟨G, F1, i1, S1, ρ, g1, renv_mono e1 re, q1⟩
    exact aft_b q2
theorem fe_not (ha : PE X a (tE c fa)) : PE X (.UnaryOp .Not a pos) (tE c (fNot fa)) :=
  pe_imp (pe_not ha) fun σ H Q ⟨G, F, io, S, ρ, gd, re, q⟩ => by
    unfold fNot at q
    refine ⟨G, F, io, S, ρ, gd, re, ?_⟩
    have q2 := Aft.step (R1 := rpB) (Q1 := fun k H' => Q (.bl (!k)) H') q fun k S1 k' F1 i1 H1 e1 g1 r1 q1 => by
      have r1 : k' = k := r1
      subst r1
      exact Aft.here (v := .bl (!k')) q1 g1 (show rp c F1 i1 (.bl (!k')) (.p (.bool (!k'))) from Dq.bl (!k'))
    exact aft_b q2
theorem fe_if {cx : Expr} (hc : PT X cx (tT c fc)) (ha : PE X a (tE c fa)) (hb : PE X b (tE c fb)) : PE X (.IfExp cx a b pos) (tE c (fIf fc fa fb)) :=
  pe_imp (pe_ifExp hc ha hb) fun σ H Q ⟨G, F, io, S, ρ, gd, re, q⟩ => by
    unfold fIf at q
    refine ⟨G, F, io, S, ρ, gd, re, Aft.step q fun k S1 k' F1 i1 H1 e1 g1 r1 q1 => ?_⟩
    have r1 : k' = k := r1
    subst r1
    cases k' with
    | true => exact ⟨G, F1, i1, S1, ρ, g1, renv_mono e1 re, q1⟩
    | false => exact ⟨G, F1, i1, S1, ρ, g1, renv_mono e1 re, q1⟩
/-! one-place -/
def fUn (g : D → Sto → Res D) (fa : FE) : FE := fun ρ S => (fa ρ S).bind g
def UOp (c : Cw) (r : V → Hp → VK → Prop) (g : D → Sto → Res D) : Prop := ∀ G F io H S σ x dx Q, Good c.K G F io H S → Rp c.K F io x dx → Aft c G F io σ (rp c) Q (g dx S) → r x H Q
theorem fe_un {r : V → Hp → VK → Prop} {g : D → Sto → Res D} (hop : ∀ {t : TE}, PE X a t → PE X e (tUn r t)) (hr : UOp c r g) (ha : PE X a (tE c fa)) : PE X e (tE c (fUn g fa)) :=
  pe_imp (hop ha) fun σ H Q ⟨G, F, io, S, ρ, gd, re, q⟩ => ⟨G, F, io, S, ρ, gd, re, Aft.step q fun d1 S1 v1 F1 i1 H1 e1 g1 r1 q1 => hr G F1 i1 H1 S1 σ v1 d1 Q g1 r1 q1⟩
/-! arguments -/
def fNil : FA := fun _ S => .ok [] S
def fCons (fa : FE) (fr : FA) : FA := fun ρ S => (fa ρ S).bind fun x S1 => (fr ρ S1).bind fun xs S2 => .ok (x :: xs) S2
theorem fa_nil : PA X [] (tA c fNil) := pa_imp pa_nil fun σ H Q ⟨G, F, io, S, ρ, gd, re, q⟩ => Aft.here (v := []) q gd .nil
theorem fa_cons {fr : FA} (ha : PE X a (tE c fa)) (hr : PA X es (tA c fr)) (hs : starEach (a :: es) X.env = (false, eval a X.env) :: starEach es X.env := by rfl) : PA X (a :: es) (tA c (fCons fa fr)) :=
  pa_imp (pa_cons ha hr hs) fun σ H Q ⟨G, F, io, S, ρ, gd, re, q⟩ => ⟨G, F, io, S, ρ, gd, re, Aft.step q fun d1 S1 v1 F1 i1 H1 e1 g1 r1 q1 =>
    ⟨G, F1, i1, S1, ρ, g1, renv_mono e1 re, Aft.step q1 fun ds S2 vs F2 i2 H2 e2 g2 r2 q2 => Aft.here (v := v1 :: vs) q2 g2 (.cons (rp_mono e2 r1) r2)⟩⟩
/-- pure data all -/
def asPs : List D → Option (List PyData)
  | [] => some []
  | .p d :: r => (asPs r).map (d :: ·)
  | _ :: _ => none
theorem asPs_ok {K : PySem.W.Frag} {F : Hp} {io : List Addr} : ∀ {ds : List D} {vs : List V} {ps : List PyData}, asPs ds = some ps → RpA K F io vs ds → DqA K F vs ps
  | [], _, ps, h, r => by
    cases r
    have h : [] = ps := Option.some.inj h
    subst h
    exact .nil
  | .p d :: ds, _, ps, h, r => by
    cases r with
    | cons r1 r2 =>
      have h : (asPs ds).map (d :: ·) = some ps := h
      cases q : asPs ds with
      | none => rw [q] at h; cases h
      | some ps' =>
        rw [q] at h
        have h : d :: ps' = ps := Option.some.inj h
        subst h
        exact .cons r1 (asPs_ok q r2)
  | .own _ :: _, _, _, h, _ => by cases h
  | .wld _ _ :: _, _, _, h, _ => by cases h
  | .exn :: _, _, _, h, _ => by cases h
  | .scr _ :: _, _, _, h, _ => by cases h
  | .fn _ :: _, _, _, h, _ => by cases h
  | .err _ _ :: _, _, _, h, _ => by cases h
  | .mix _ :: _, _, _, h, _ => by cases h
  | .mtp _ :: _, _, _, h, _ => by cases h
/-- a list's length as the layer takes it -/
def lim : Nat := 1000000
theorem lim_line : lim ≤ sizeLine := by decide
theorem paired_len {α β : Type} {R : α → β → Prop} : ∀ {xs : List α} {ys : List β}, Paired R xs ys → xs.length = ys.length
  | _, _, .nil => rfl
  | _, _, .cons _ t => by rw [List.length_cons, List.length_cons, paired_len t]
def fTup (fr : FA) : FE := fun ρ S => (fr ρ S).bind fun ds S1 => match asPs ds with
  | some ps => if ds.length < lim then .ok (.p (.tuple ps)) S1 else .bad
  | none => .bad
def fLst (fr : FA) : FE := fun ρ S => (fr ρ S).bind fun ds S1 => match asPs ds with
  | some ps => if ds.length < lim then .ok (.p (.list ps)) S1 else .bad
  | none => .bad
/-- a list that will change -/
def fLstO (fr : FA) : FE := fun ρ S => (fr ρ S).bind fun ds S1 => if ds.length < lim then .ok (.own S1.length) (S1 ++ [.lst ds]) else .bad
theorem fe_tup {fr : FA} {x1} (h : PA X es (tA c fr)) : PE X (.Tuple es x1 pos) (tE c (fTup fr)) :=
  pe_imp (pe_tup h) fun σ H Q ⟨G, F, io, S, ρ, gd, re, q⟩ => ⟨G, F, io, S, ρ, gd, re, Aft.step q fun ds S1 vs F1 i1 H1 e1 g1 r1 q1 => by
    cases h1 : asPs ds with
    | none => rw [h1] at q1; exact q1.elim
    | some ps =>
      rw [h1] at q1
      by_cases hl : ds.length < lim
      · simp only [if_pos hl] at q1
        refine ⟨by rw [paired_len r1]; exact Nat.le_trans (Nat.le_of_lt hl) lim_line, fun p hp => ?_⟩
        obtain ⟨g2, e2⟩ := g1.new (o := .tup vs) hp
        exact q1 (.ref p) _ _ _ e2 g2 (.tup (.inl upd_same) (dpa_mono e2.same _ _ (asPs_ok h1 r1)))
      · simp only [if_neg hl] at q1
        exact q1.elim⟩
theorem fe_lst {fr : FA} (h : PA X es (tA c fr)) : PE X (.List es pos) (tE c (fLst fr)) :=
  pe_imp (pe_lst h) fun σ H Q ⟨G, F, io, S, ρ, gd, re, q⟩ => ⟨G, F, io, S, ρ, gd, re, Aft.step q fun ds S1 vs F1 i1 H1 e1 g1 r1 q1 => by
    cases h1 : asPs ds with
    | none => rw [h1] at q1; exact q1.elim
    | some ps =>
      rw [h1] at q1
      by_cases hl : ds.length < lim
      · simp only [if_pos hl] at q1
        refine ⟨by rw [paired_len r1]; exact Nat.le_trans (Nat.le_of_lt hl) lim_line, fun p hp => ?_⟩
        obtain ⟨g2, e2⟩ := g1.new (o := .lst vs) hp
        exact q1 (.ref p) _ _ _ e2 g2 (.lst upd_same (dpa_mono e2.same _ _ (asPs_ok h1 r1)))
      · simp only [if_neg hl] at q1
        exact q1.elim⟩
theorem own_last {io : List Addr} {p : Addr} : (io ++ [p])[io.length]? = some p := by simp
theorem fe_lstO {fr : FA} (h : PA X es (tA c fr)) : PE X (.List es pos) (tE c (fLstO fr)) :=
  pe_imp (pe_lst h) fun σ H Q ⟨G, F, io, S, ρ, gd, re, q⟩ => ⟨G, F, io, S, ρ, gd, re, Aft.step q fun ds S1 vs F1 i1 H1 e1 g1 r1 q1 => by
    by_cases hl : ds.length < lim
    · simp only [if_pos hl] at q1
      refine ⟨by rw [paired_len r1]; exact Nat.le_trans (Nat.le_of_lt hl) lim_line, fun p hp => ?_⟩
      have e0 : Ext F1 i1 F1 (i1 ++ [p]) := ⟨Same.refl _, [p], rfl⟩
      obtain ⟨g2, e2⟩ := g1.newOwn (o := .lst vs) (x := .lst ds) hp ⟨g1.out hp, vs, upd_same, rpa_mono e0 r1⟩
      exact q1 (.ref p) _ _ _ e2 g2 ⟨p, rfl, by rw [← g1.len]; exact own_last⟩
    · simp only [if_neg hl] at q1
      exact q1.elim⟩
/-! calls of built-ins by values -/
def fCall (g : List D → Sto → Res D) (fr : FA) : FE := fun ρ S => (fr ρ S).bind g
def BCall (c : Cw) (r : List V → Hp → VK → Prop) (g : List D → Sto → Res D) : Prop := ∀ G F io H S σ xs ds Q, Good c.K G F io H S → RpA c.K F io xs ds → Aft c G F io σ (rp c) Q (g ds S) → r xs H Q
theorem fe_call {r : List V → Hp → VK → Prop} {g : List D → Sto → Res D} {fr : FA} (hop : ∀ {t : TA}, PA X es t → PE X e (tCB r t)) (hr : BCall c r g) (ha : PA X es (tA c fr)) : PE X e (tE c (fCall g fr)) :=
  pe_imp (hop ha) fun σ H Q ⟨G, F, io, S, ρ, gd, re, q⟩ => ⟨G, F, io, S, ρ, gd, re, Aft.step q fun ds S1 vs F1 i1 H1 e1 g1 r1 q1 => hr G F1 i1 H1 S1 σ vs ds Q g1 r1 q1⟩
end
end Tw
namespace Tw
open PySem PySem.Spec PyProof.Rows L2

/-! ### ints -/
def gI (h : Int → Int → PyData) : D → D → Sto → Res D := fun dx dy S => match dx, dy with
  | .p (.int i), .p (.int j) => .ok (.p (h i j)) S
  | _, _ => .bad
def gIC (C : Int → Int → Bool) (h : Int → Int → PyData) : D → D → Sto → Res D := fun dx dy S => match dx, dy with
  | .p (.int i), .p (.int j) => if C i j = true then .ok (.p (h i j)) S else .bad
  | _, _ => .bad
theorem two_ints {dx dy : D} {α : Type} {t : Int → Int → α} {z : α} (P : α → Prop) (h : P (match dx, dy with
  | .p (.int i), .p (.int j) => t i j
  | _, _ => z)) (hz : ¬ P z) : ∃ i j, dx = .p (.int i) ∧ dy = .p (.int j) ∧ P (t i j) := by
  cases dx with
  | p a =>
    cases a with
    | int i =>
      cases dy with
      | p b =>
        cases b with
        | int j => exact ⟨i, j, rfl, rfl, h⟩
        | _ => exact absurd h hz
      | _ => exact absurd h hz
    | _ => exact absurd h hz
  | _ => exact absurd h hz
section
variable {c : Cw}
theorem hereP {G F : Hp} {io : List Addr} {σ : L2.St} {Q : VK} {d : PyData} {S : Sto} {v : V} {H : Hp} (h : Aft c G F io σ (rp c) Q (.ok (.p d) S)) (g : Good c.K G F io H S) (r : Dq c.K F v d) : Q v H := Aft.here (v := v) h g r
theorem aft_bad {G F : Hp} {io : List Addr} {σ : L2.St} {Q : VK} : ¬ Aft c G F io σ (rp c) Q .bad := fun h => h
theorem bop_I0 {g : Int → Int → V} {h : Int → Int → PyData} (hg : ∀ i j F, Dq c.K F (g i j) (h i j)) : BOp c (rI0 g) (gI h) := fun G F io H S σ x y dx dy Q gd rx ry q => by
  obtain ⟨i, j, rfl, rfl, q⟩ := two_ints (Aft c G F io σ (rp c) Q) q aft_bad
  cases rx
  cases ry
  exact ⟨i, j, rfl, rfl, hereP (v := g i j) q gd (hg i j F)⟩
theorem bop_IC {P : Int → Int → Prop} {C : Int → Int → Bool} {g : Int → Int → V} {h : Int → Int → PyData} (hC : ∀ i j, C i j = true → P i j) (hg : ∀ i j F, Dq c.K F (g i j) (h i j)) : BOp c (rI P g) (gIC C h) := fun G F io H S σ x y dx dy Q gd rx ry q => by
  obtain ⟨i, j, rfl, rfl, q⟩ := two_ints (Aft c G F io σ (rp c) Q) q aft_bad
  cases rx
  cases ry
  have q : Aft c G F io σ (rp c) Q (if C i j = true then Res.ok (D.p (h i j)) S else Res.bad) := q
  by_cases hc : C i j = true
  · rw [if_pos hc] at q
    exact ⟨i, j, rfl, rfl, hC i j hc, hereP (v := g i j) q gd (hg i j F)⟩
  · rw [if_neg hc] at q
    exact q.elim
def gMinus := gI fun i j => .int (i - j)
def cMul (i j : Int) : Bool := decide (-(2 ^ 64) < i ∧ i < 2 ^ 64) || decide (-(2 ^ 64) < j ∧ j < 2 ^ 64)
def gMul := gIC cMul fun i j => .int (i * j)
def cDiv (i j : Int) : Bool := decide (0 < j ∧ j < 1073741824)
def gDiv := gIC cDiv fun i j => .int (i / j)
def gMod := gIC (fun _ j => decide (0 < j)) fun i j => .int (i % j)
def cPow (i j : Int) : Bool := decide (0 ≤ j ∧ j ≤ 1000000 ∧ i.natAbs < 2 ^ 64)
def gPow := gIC cPow fun i j => .int (i ^ j.toNat)
def gLt := gI fun i j => .bool (decide (i < j))
def gLe := gI fun i j => .bool (decide (i ≤ j))
def gGt := gI fun i j => .bool (decide (j < i))
def gGe := gI fun i j => .bool (decide (j ≤ i))
theorem bop_sub : BOp c (rI0 fun i j => .int (i - j)) gMinus := bop_I0 fun _ _ _ => .int _
theorem bop_mul : BOp c (rI CMul fun i j => .int (i * j)) gMul := bop_IC (fun i j h => by
  unfold cMul at h
  rw [Bool.or_eq_true] at h
  rcases h with h | h
  · exact .inl (of_decide_eq_true h)
  · exact .inr (of_decide_eq_true h)) fun _ _ _ => .int _
theorem bop_div : BOp c (rI CDiv fun i j => .int (i / j)) gDiv := bop_IC (fun i j h => (of_decide_eq_true h : 0 < j ∧ j < 1073741824)) fun _ _ _ => .int _
theorem bop_mod : BOp c (rI (fun _ j => 0 < j) fun i j => .int (i % j)) gMod := bop_IC (fun _ _ h => of_decide_eq_true h) fun _ _ _ => .int _
theorem bop_pow : BOp c (rI CPow fun i j => .int (i ^ j.toNat)) gPow := bop_IC (fun i j h => (of_decide_eq_true h : 0 ≤ j ∧ j ≤ 1000000 ∧ i.natAbs < 2 ^ 64)) fun _ _ _ => .int _
theorem bop_lt : BOp c (rI0 fun i j => .bl (decide (i < j))) gLt := bop_I0 fun _ _ _ => .bl _
theorem bop_le : BOp c (rI0 fun i j => .bl (decide (i ≤ j))) gLe := bop_I0 fun _ _ _ => .bl _
theorem bop_gt : BOp c (rI0 fun i j => .bl (decide (j < i))) gGt := bop_I0 fun _ _ _ => .bl _
theorem bop_ge : BOp c (rI0 fun i j => .bl (decide (j ≤ i))) gGe := bop_I0 fun _ _ _ => .bl _
/-! ### + -/
def gAdd : D → D → Sto → Res D := fun dx dy S => match dx, dy with
  | .p (.int i), .p (.int j) => .ok (.p (.int (i + j))) S
  | .p (.tuple a), .p (.tuple b) => if a.length + b.length < lim then .ok (.p (.tuple (a ++ b))) S else .bad
  | .p (.list a), .p (.list b) => if a.length + b.length < lim then .ok (.p (.list (a ++ b))) S else .bad
  | .p (.str a), .p (.str b) => if a.length + b.length < lim then .ok (.p (.str (a ++ b))) S else .bad
  | .own k, .p (.list b) => match S[k]? with
    | some (.lst xs) => match asPs xs with
      | some a => if a.length + b.length < lim then .ok (.p (.list (a ++ b))) S else .bad
      | none => .bad
    | _ => .bad
  | _, _ => .bad
def rAddU (K : PySem.W.Frag) : R2 := fun x y H Q => rI0 (fun i j => .int (i + j)) x y H Q ∨ rCatA K x y H Q ∨ rCat x y H Q ∨ (fun x y H Q => ∃ i j, x = .str i ∧ y = .str j ∧ i.length + j.length ≤ sizeLine ∧ Q (.str (i ++ j)) H) x y H Q
theorem op_addU {X : Cx} : OpR X (binaryOp .Add) (rAddU X.K) := op_add.or (op_catA.or (op_cat.or op_add_str))
theorem lt_line {n : Nat} (h : n < lim) : n ≤ sizeLine := Nat.le_trans (Nat.le_of_lt h) lim_line
theorem new_tup {G F H : Hp} {io : List Addr} {S : Sto} {σ : L2.St} {Q : VK} {vs : List V} {ds : List PyData} (g : Good c.K G F io H S) (r : DqA c.K F vs ds) (q : Aft c G F io σ (rp c) Q (.ok (.p (.tuple ds)) S)) : ∀ p, H p = none → Q (.ref p) (upd H p (.tup vs)) := fun p hp => by
  obtain ⟨g2, e2⟩ := g.new (o := .tup vs) hp
  exact q (.ref p) _ _ _ e2 g2 (.tup (.inl upd_same) (dpa_mono e2.same _ _ r))
theorem new_lst {G F H : Hp} {io : List Addr} {S : Sto} {σ : L2.St} {Q : VK} {vs : List V} {ds : List PyData} (g : Good c.K G F io H S) (r : DqA c.K F vs ds) (q : Aft c G F io σ (rp c) Q (.ok (.p (.list ds)) S)) : ∀ p, H p = none → Q (.ref p) (upd H p (.lst vs)) := fun p hp => by
  obtain ⟨g2, e2⟩ := g.new (o := .lst vs) hp
  exact q (.ref p) _ _ _ e2 g2 (.lst upd_same (dpa_mono e2.same _ _ r))
theorem nil_of {K : PySem.W.Frag} {F : Hp} {vs : List V} {ds : List PyData} (r : DqA K F vs ds) : vs = [] ↔ ds = [] := by
  cases r <;> simp
theorem bop_add : BOp c (rAddU c.K) gAdd := fun G F io H S σ x y dx dy Q gd rx ry q => by
  cases dx with
  | p a =>
    cases a with
    | int i =>
      cases dy with
      | p b =>
        cases b with
        | int j =>
          cases rx
          cases ry
          exact .inl ⟨i, j, rfl, rfl, hereP (v := .int (i + j)) q gd (Dq.int _)⟩
        | _ => exact q.elim
      | _ => exact q.elim
    | tuple as =>
      cases dy with
      | p b =>
        cases b with
        | tuple bs =>
          cases rx with
          | @tup a xs _ hx ha =>
            cases ry with
            | @tup b ys _ hy hb =>
              have q : Aft c G F io σ (rp c) Q (if as.length + bs.length < lim then .ok (.p (.tuple (as ++ bs))) S else .bad) := q
              by_cases hl : as.length + bs.length < lim
              · rw [if_pos hl] at q
                have l1 := dpa_len _ _ ha
                have l2 := dpa_len _ _ hb
                refine .inr (.inl ⟨a, b, xs, ys, rfl, rfl, sq_t gd.ex hx.sq, sq_t gd.ex hy.sq, by rw [l1, l2]; exact lt_line hl, fun h0 => ?_, fun h0 h1 => ?_, fun h0 h1 => new_tup gd (dpa_app ha hb) q⟩)
                · have e0 : as = [] := (nil_of ha).mp h0
                  subst e0
                  rw [List.nil_append] at q
                  exact hereP (v := .ref b) q gd (.tup hy hb)
                · have e0 : bs = [] := (nil_of hb).mp h1
                  subst e0
                  rw [List.append_nil] at q
                  exact hereP (v := .ref a) q gd (.tup hx ha)
              · rw [if_neg hl] at q
                exact q.elim
        | _ => exact q.elim
      | _ => exact q.elim
    | list as =>
      cases dy with
      | p b =>
        cases b with
        | list bs =>
          cases rx with
          | @lst a xs _ hx ha =>
            cases ry with
            | @lst b ys _ hy hb =>
              have q : Aft c G F io σ (rp c) Q (if as.length + bs.length < lim then .ok (.p (.list (as ++ bs))) S else .bad) := q
              by_cases hl : as.length + bs.length < lim
              · rw [if_pos hl] at q
                have l1 := dpa_len _ _ ha
                have l2 := dpa_len _ _ hb
                exact .inr (.inr (.inl ⟨a, b, xs, ys, rfl, rfl, gd.ex _ _ hx, gd.ex _ _ hy, by rw [l1, l2]; exact lt_line hl, new_lst gd (dpa_app ha hb) q⟩))
              · rw [if_neg hl] at q
                exact q.elim
        | _ => exact q.elim
      | _ => exact q.elim
    | str i =>
      cases dy with
      | p b =>
        cases b with
        | str j =>
          cases rx
          cases ry
          have q : Aft c G F io σ (rp c) Q (if i.length + j.length < lim then .ok (.p (.str (i ++ j))) S else .bad) := q
          by_cases hl : i.length + j.length < lim
          · rw [if_pos hl] at q
            exact .inr (.inr (.inr ⟨i, j, rfl, rfl, lt_line hl, hereP (v := .str (i ++ j)) q gd (Dq.str _)⟩))
          · rw [if_neg hl] at q
            exact q.elim
        | _ => exact q.elim
      | _ => exact q.elim
    | _ => exact q.elim
  | own k =>
    cases dy with
    | p b =>
      cases b with
      | list bs =>
        have q : Aft c G F io σ (rp c) Q (match S[k]? with
          | some (.lst xs) => match asPs xs with
            | some a => if a.length + bs.length < lim then .ok (.p (.list (a ++ bs))) S else .bad
            | none => .bad
          | _ => .bad) := q
        cases hk : S[k]? with
        | none => rw [hk] at q; exact q.elim
        | some o =>
          rw [hk] at q
          cases o with
          | lst xs =>
            have q : Aft c G F io σ (rp c) Q (match asPs xs with
              | some a => if a.length + bs.length < lim then .ok (.p (.list (a ++ bs))) S else .bad
              | none => .bad) := q
            cases ha : asPs xs with
            | none => rw [ha] at q; exact q.elim
            | some as =>
              rw [ha] at q
              have q : Aft c G F io σ (rp c) Q (if as.length + bs.length < lim then .ok (.p (.list (as ++ bs))) S else .bad) := q
              by_cases hl : as.length + bs.length < lim
              · rw [if_pos hl] at q
                obtain ⟨a, e1, e2⟩ := rx
                obtain ⟨a', e3, h0, vs, h1, h2⟩ := gd.at_ hk
                rw [e2] at e3
                have e3 : a = a' := Option.some.inj e3
                subst e3
                cases ry with
                | @lst b ys _ hy hb =>
                  have d2 := asPs_ok ha h2
                  have l1 := dpa_len _ _ d2
                  have l2 := dpa_len _ _ hb
                  exact .inr (.inr (.inl ⟨a, b, vs, ys, e1, rfl, h1, gd.ex _ _ hy, by rw [l1, l2]; exact lt_line hl, new_lst gd (dpa_app d2 hb) q⟩))
              · rw [if_neg hl] at q
                exact q.elim
          | _ => exact q.elim
      | _ => exact q.elim
    | _ => exact q.elim
  | _ => exact q.elim
/-! ### ==, is None, in -/
def gEq : D → D → Sto → Res D := fun dx dy S => match dx, dy with
  | .p a, .p b => if (SeqAt.shaped a && SeqAt.shaped b) = true then .ok (.p (.bool (PyData.eqv a b))) S else .bad
  | _, _ => .bad
def gNe : D → D → Sto → Res D := fun dx dy S => match dx, dy with
  | .p a, .p b => if (SeqAt.shaped a && SeqAt.shaped b) = true then .ok (.p (.bool (!PyData.eqv a b))) S else .bad
  | _, _ => .bad
theorem bop_eq : BOp c (rEqD c.K) gEq := fun G F io H S σ x y dx dy Q gd rx ry q => by
  cases dx with
  | p a =>
    cases dy with
    | p b =>
      have q : Aft c G F io σ (rp c) Q (if (SeqAt.shaped a && SeqAt.shaped b) = true then .ok (.p (.bool (PyData.eqv a b))) S else .bad) := q
      by_cases hs : (SeqAt.shaped a && SeqAt.shaped b) = true
      · rw [if_pos hs] at q
        rw [Bool.and_eq_true] at hs
        exact ⟨a, b, dp_of gd.ex _ _ (lay_sh hs.1) rx, dp_of gd.ex _ _ (lay_sh hs.2) ry, hs.1, hs.2, hereP (v := .bl _) q gd (Dq.bl _)⟩
      · rw [if_neg hs] at q
        exact q.elim
    | _ => exact q.elim
  | _ => exact q.elim
theorem bop_ne : BOp c (rNeD c.K) gNe := fun G F io H S σ x y dx dy Q gd rx ry q => by
  cases dx with
  | p a =>
    cases dy with
    | p b =>
      have q : Aft c G F io σ (rp c) Q (if (SeqAt.shaped a && SeqAt.shaped b) = true then .ok (.p (.bool (!PyData.eqv a b))) S else .bad) := q
      by_cases hs : (SeqAt.shaped a && SeqAt.shaped b) = true
      · rw [if_pos hs] at q
        rw [Bool.and_eq_true] at hs
        exact ⟨a, b, dp_of gd.ex _ _ (lay_sh hs.1) rx, dp_of gd.ex _ _ (lay_sh hs.2) ry, hs.1, hs.2, hereP (v := .bl _) q gd (Dq.bl _)⟩
      · rw [if_neg hs] at q
        exact q.elim
    | _ => exact q.elim
  | _ => exact q.elim
def isN : D → Bool
  | .p .none => true
  | _ => false
theorem isN_ok {F : Hp} {io : List Addr} {x : V} {d : D} (r : Rp c.K F io x d) : decide (x = .non) = isN d := by
  cases d with
  | p a =>
    cases a with
    | none => cases r; rfl
    | _ => cases r <;> rfl
  | own k => obtain ⟨a, rfl, _⟩ := r; rfl
  | wld d l => obtain ⟨a, rfl, _⟩ := r; rfl
  | exn => exact r.elim
  | scr ns => obtain ⟨a, rfl, _⟩ := r; rfl
  | dz kvs => obtain ⟨a, _, _, rfl, _⟩ := r; rfl
  | fn q => obtain rfl := (show x = V.ref (He.ga c.K q) from r); rfl
  | err n as => obtain ⟨a, rfl, _⟩ := r; rfl
  | mix xs => obtain ⟨a, _, rfl, _⟩ := r; rfl
  | mtp xs => obtain ⟨a, _, rfl, _⟩ := r; rfl
def gIsN : D → D → Sto → Res D := fun dx dy S => match dy with
  | .p .none => .ok (.p (.bool (isN dx))) S
  | _ => .bad
def gNotN : D → D → Sto → Res D := fun dx dy S => match dy with
  | .p .none => .ok (.p (.bool (!isN dx))) S
  | _ => .bad
theorem bop_isN : BOp c (fun x y H Q => y = .non ∧ Q (.bl (decide (x = .non))) H) gIsN := fun G F io H S σ x y dx dy Q gd rx ry q => by
  cases dy with
  | p b =>
    cases b with
    | none =>
      cases ry
      exact ⟨rfl, hereP (v := .bl _) q gd (by rw [isN_ok rx]; exact Dq.bl _)⟩
    | _ => exact q.elim
  | _ => exact q.elim
theorem bop_notN : BOp c (fun x y H Q => y = .non ∧ Q (.bl (!decide (x = .non))) H) gNotN := fun G F io H S σ x y dx dy Q gd rx ry q => by
  cases dy with
  | p b =>
    cases b with
    | none =>
      cases ry
      exact ⟨rfl, hereP (v := .bl _) q gd (by rw [isN_ok rx]; exact Dq.bl _)⟩
    | _ => exact q.elim
  | _ => exact q.elim
def flatD : PyData → Bool
  | .none => true
  | .bool _ => true
  | .int _ => true
  | .str _ => true
  | _ => false
def toV : PyData → V
  | .none => .non
  | .bool b => .bl b
  | .int i => .int i
  | .str x => .str x
  | _ => .non
theorem flat_toV {F : Hp} {v : V} {d : PyData} (r : Dq c.K F v d) (h : flatD d = true) : v = toV d ∧ flatV v = true := by
  cases r <;> first | exact ⟨rfl, rfl⟩ | cases h
theorem flats_toV {F : Hp} : ∀ {ds : List PyData} {vs : List V}, DqA c.K F vs ds → ds.all flatD = true → vs = ds.map toV ∧ vs.all flatV = true
  | [], _, r, h => by cases r; exact ⟨rfl, rfl⟩
  | d :: ds, _, r, h => by
    cases r with
    | cons r1 r2 =>
      rw [List.all_cons, Bool.and_eq_true] at h
      obtain ⟨e1, f1⟩ := flat_toV r1 h.1
      obtain ⟨e2, f2⟩ := flats_toV r2 h.2
      exact ⟨by rw [List.map_cons, ← e1, ← e2], by rw [List.all_cons, f1, f2]; rfl⟩
/-- one flat thing equals another, as Python has it -/
def eqF : PyData → PyData → Bool := fun a b => eqV (toV a) (toV b)
def inF (d : PyData) (ds : List PyData) : Bool := ds.any fun y => eqF y d
theorem inF_ok (d : PyData) (ds : List PyData) : inV (toV d) (ds.map toV) = inF d ds := by
  unfold inV inF eqF
  rw [List.any_map]
  rfl
def gIn (neg : Bool) : D → D → Sto → Res D := fun dx dy S => match dx, dy with
  | .p a, .p (.tuple bs) => if (flatD a && bs.all flatD) = true then .ok (.p (.bool (if neg = true then !inF a bs else inF a bs))) S else .bad
  | .p a, .p (.list bs) => if (flatD a && bs.all flatD) = true then .ok (.p (.bool (if neg = true then !inF a bs else inF a bs))) S else .bad
  | _, _ => .bad
theorem bop_in {neg : Bool} : BOp c (rIn c.K neg) (gIn neg) := fun G F io H S σ x y dx dy Q gd rx ry q => by
  cases dx with
  | p a =>
    cases dy with
    | p b =>
      have main : ∀ (bs : List PyData) (p : Addr) (vs : List V), y = .ref p → (SqL c.K H p vs ∨ SqT c.K H p vs) → DqA c.K F vs bs →
          Aft c G F io σ (rp c) Q (if (flatD a && bs.all flatD) = true then .ok (.p (.bool (if neg = true then !inF a bs else inF a bs))) S else .bad) → rIn c.K neg x y H Q := fun bs p vs ey hs hb q => by
        by_cases hf : (flatD a && bs.all flatD) = true
        · rw [if_pos hf] at q
          rw [Bool.and_eq_true] at hf
          obtain ⟨e1, f1⟩ := flat_toV rx hf.1
          obtain ⟨e2, f2⟩ := flats_toV hb hf.2
          refine ⟨p, vs, ey, hs, f1, f2, Aft.here (v := .bl _) q gd ?_⟩
          rw [e1, e2, inF_ok]
          exact Dq.bl _
        · rw [if_neg hf] at q
          exact q.elim
      cases b with
      | tuple bs =>
        cases ry with
        | @tup p vs _ hy hb => exact main bs p vs rfl (.inr (sq_t gd.ex hy.sq)) hb q
      | list bs =>
        cases ry with
        | @lst p vs _ hy hb => exact main bs p vs rfl (.inl (SqL.of (gd.ex _ _ hy))) hb q
      | _ => cases a <;> exact q.elim
    | _ => cases a <;> exact q.elim
  | _ => exact q.elim
/-! ### items, slices -/
def gIx : D → D → Sto → Res D := fun dx dy S => match dy with
  | .p (.int i) => match dx with
    | .p (.tuple ds) => match atI ds i with
      | some d => .ok (.p d) S
      | none => .bad
    | .p (.list ds) => match atI ds i with
      | some d => .ok (.p d) S
      | none => .bad
    | .own k => match S[k]? with
      | some (.lst xs) => match atI xs i with
        | some d => .ok d S
        | none => .bad
      | _ => .bad
    | _ => .bad
  | _ => .bad
theorem atI_dqa {F : Hp} {ds : List PyData} {vs : List V} {i : Int} {d : PyData} (r : DqA c.K F vs ds) (h : atI ds i = some d) : ∃ v, atI vs i = some v ∧ Dq c.K F v d := by
  unfold atI at h ⊢
  rw [dpa_len _ _ r]
  cases e : ixN ds.length i with
  | none => rw [e] at h; cases h
  | some j =>
    rw [e] at h
    exact dpa_get _ _ j d r h
theorem paired_get {α β : Type} {R : α → β → Prop} : ∀ {xs : List α} {ys : List β} {i : Nat} {y : β}, Paired R xs ys → ys[i]? = some y → ∃ x, xs[i]? = some x ∧ R x y
  | _, _, i, y, .nil, h => by simp at h
  | x :: xs, z :: ys, 0, y, .cons r t, h => by
    have h : z = y := by simpa using h
    subst h
    exact ⟨x, rfl, r⟩
  | x :: xs, z :: ys, i + 1, y, .cons r t, h => by
    obtain ⟨w, h1, h2⟩ := paired_get (i := i) t (by simpa using h)
    exact ⟨w, by simpa using h1, h2⟩
theorem atI_rpa {F : Hp} {io : List Addr} {ds : List D} {vs : List V} {i : Int} {d : D} (r : RpA c.K F io vs ds) (h : atI ds i = some d) : ∃ v, atI vs i = some v ∧ Rp c.K F io v d := by
  unfold atI at h ⊢
  rw [paired_len r]
  cases e : ixN ds.length i with
  | none => rw [e] at h; cases h
  | some j =>
    rw [e] at h
    exact paired_get r h
theorem bop_ix : BOp c (rIx c.K) gIx := fun G F io H S σ x y dx dy Q gd rx ry q => by
  cases dy with
  | p b =>
    cases b with
    | int i =>
      cases ry
      cases dx with
      | p a =>
        cases a with
        | tuple ds =>
          have q : Aft c G F io σ (rp c) Q (match atI ds i with
            | some d => .ok (.p d) S
            | none => .bad) := q
          cases rx with
          | @tup p vs _ hx ha =>
            cases e : atI ds i with
            | none => rw [e] at q; exact q.elim
            | some d =>
              rw [e] at q
              obtain ⟨v, h1, h2⟩ := atI_dqa ha e
              exact .inr (.inl ⟨p, vs, i, v, rfl, rfl, sq_t gd.ex hx.sq, h1, Aft.here (v := v) q gd h2⟩)
        | list ds =>
          have q : Aft c G F io σ (rp c) Q (match atI ds i with
            | some d => .ok (.p d) S
            | none => .bad) := q
          cases rx with
          | @lst p vs _ hx ha =>
            cases e : atI ds i with
            | none => rw [e] at q; exact q.elim
            | some d =>
              rw [e] at q
              obtain ⟨v, h1, h2⟩ := atI_dqa ha e
              exact .inl ⟨p, vs, i, v, rfl, rfl, SqL.of (gd.ex _ _ hx), h1, Aft.here (v := v) q gd h2⟩
        | _ => exact q.elim
      | own k =>
        have q : Aft c G F io σ (rp c) Q (match S[k]? with
          | some (.lst xs) => match atI xs i with
            | some d => .ok d S
            | none => .bad
          | _ => .bad) := q
        cases hk : S[k]? with
        | none => rw [hk] at q; exact q.elim
        | some o =>
          rw [hk] at q
          cases o with
          | lst xs =>
            have q : Aft c G F io σ (rp c) Q (match atI xs i with
              | some d => .ok d S
              | none => .bad) := q
            cases e : atI xs i with
            | none => rw [e] at q; exact q.elim
            | some d =>
              rw [e] at q
              obtain ⟨a, e1, e2⟩ := rx
              obtain ⟨a', e3, h0, vs, h1, h2⟩ := gd.at_ hk
              rw [e2] at e3
              have e3 : a = a' := Option.some.inj e3
              subst e3
              obtain ⟨v, h3, h4⟩ := atI_rpa h2 e
              exact .inl ⟨a, vs, i, v, e1, rfl, SqL.of h1, h3, Aft.here (v := v) q gd h4⟩
          | _ => exact q.elim
      | _ => exact q.elim
    | _ => exact q.elim
  | _ => exact q.elim
/-- the items of ds[lo:hi] -/
def cutD {α : Type} (xs : List α) (lo hi : Option Int) : List α := (xs.drop (HT.sIx xs.length 0 lo)).take (HT.sIx xs.length xs.length hi - HT.sIx xs.length 0 lo)
theorem dpa_cut {F : Hp} {ds : List PyData} {vs : List V} (r : DqA c.K F vs ds) (lo hi : Option Int) : DqA c.K F (cutV vs lo hi) (cutD ds lo hi) := by
  unfold cutV cutD
  rw [dpa_len _ _ r]
  exact dpa_take _ (dpa_drop _ r)
/-- an optional part of a slice -/
abbrev FO := Env → Sto → Res (Option Int)
abbrev rpO : Hp → List Addr → Option Int → Option Int → Prop := fun _ _ a b => a = b
def tO (c : Cw) (f : FO) : TO := fun σ H Q => ∃ G F io S ρ, Good c.K G F io H S ∧ REnv c F io σ ρ ∧ Aft c G F io σ rpO Q (f ρ S)
def fNo : FO := fun _ S => .ok none S
def fSome (fa : FE) : FO := fun ρ S => (fa ρ S).bind fun d S1 => match d with
  | .p (.int i) => .ok (some i) S1
  | _ => .bad
section
variable {X : Cx} {e : Expr} {fa : FE} {lo hi : Option Expr} {fl fh : FO} {pos p2 : Pos}
theorem fo_none : PO X none (tO c fNo) := ⟨fun pins s σ H Q I ⟨G, F, io, S, ρ, gd, re, q⟩ => po_none.run pins s σ H Q I (Aft.here (v := (none : Option Int)) q gd rfl)⟩
theorem fo_some (h : PE X e (tE c fa)) : PO X (some e) (tO c (fSome fa)) := ⟨fun pins s σ H Q I ⟨G, F, io, S, ρ, gd, re, q⟩ => (po_some h).run pins s σ H Q I ⟨G, F, io, S, ρ, gd, re, Aft.step q fun d1 S1 v1 F1 i1 H1 e1 g1 r1 q1 => by
  cases d1 with
  | p b =>
    cases b with
    | int i =>
      cases r1
      exact ⟨i, rfl, Aft.here (v := some i) q1 g1 rfl⟩
    | _ => exact q1.elim
  | _ => exact q1.elim⟩⟩
def gSl : D → Option Int → Option Int → Sto → Res D := fun dx l h S => match dx with
  | .p (.tuple ds) => .ok (.p (.tuple (cutD ds l h))) S
  | .p (.list ds) => .ok (.p (.list (cutD ds l h))) S
  | .own k => match S[k]? with
    | some (.lst xs) => match asPs xs with
      | some ds => .ok (.p (.list (cutD ds l h))) S
      | none => .bad
    | _ => .bad
  | _ => .bad
def fSlice (fa : FE) (fl fh : FO) : FE := fun ρ S => (fa ρ S).bind fun x S1 => (fl ρ S1).bind fun l S2 => (fh ρ S2).bind fun h S3 => gSl x l h S3
theorem cut_whole {F : Hp} {ds : List PyData} {vs : List V} (r : DqA c.K F vs ds) {lo hi : Option Int} (h : HT.sIx vs.length 0 lo = 0 ∧ HT.sIx vs.length vs.length hi = vs.length) : cutD ds lo hi = ds := by
  unfold cutD
  rw [← dpa_len _ _ r, h.1, h.2, List.drop_zero, Nat.sub_zero, dpa_len _ _ r, List.take_length]
theorem fe_slice (he : PE X e (tE c fa)) (hl : PO X lo (tO c fl)) (hu : PO X hi (tO c fh)) (hK : c.K = X.K := by rfl) : PE X (.Subscript e (.Slice lo hi none p2) pos) (tE c (fSlice fa fl fh)) :=
  pe_imp (pe_slice (sl_list.or sl_tupA) he hl hu) fun σ H Q ⟨G, F, io, S, ρ, gd, re, q⟩ => ⟨G, F, io, S, ρ, gd, re, Aft.step q fun d1 S1 v1 F1 i1 H1 e1 g1 r1 q1 =>
    ⟨G, F1, i1, S1, ρ, g1, renv_mono e1 re, Aft.step q1 fun l S2 l' F2 i2 H2 e2 g2 rl q2 => ⟨G, F2, i2, S2, ρ, g2, renv_mono (e1.trans e2) re, Aft.step q2 fun h S3 h' F3 i3 H3 e3 g3 rh q3 => by
      have rl : l' = l := rl
      have rh : h' = h := rh
      subst rl
      subst rh
      rw [← hK]
      have r3 := rp_mono (e2.trans e3) r1
      cases d1 with
      | p a =>
        cases a with
        | tuple ds =>
          cases r3 with
          | @tup p vs _ hx ha =>
            exact .inr ⟨p, vs, rfl, sq_t g3.ex hx.sq, fun hw => Aft.here (v := .ref p) q3 g3 (by rw [cut_whole ha hw]; exact .tup hx ha), fun hw => new_tup g3 (dpa_cut ha _ _) q3⟩
        | list ds =>
          cases r3 with
          | @lst p vs _ hx ha => exact .inl ⟨p, vs, rfl, SqL.of (g3.ex _ _ hx), new_lst g3 (dpa_cut ha _ _) q3⟩
        | _ => exact q3.elim
      | own k =>
        have q3 : Aft c G F3 i3 σ (rp c) Q (match S3[k]? with
          | some (.lst xs) => match asPs xs with
            | some ds => .ok (.p (.list (cutD ds l' h'))) S3
            | none => .bad
          | _ => .bad) := q3
        cases hk : S3[k]? with
        | none => rw [hk] at q3; exact q3.elim
        | some o =>
          rw [hk] at q3
          cases o with
          | lst xs =>
            have q3 : Aft c G F3 i3 σ (rp c) Q (match asPs xs with
              | some ds => .ok (.p (.list (cutD ds l' h'))) S3
              | none => .bad) := q3
            cases ha : asPs xs with
            | none => rw [ha] at q3; exact q3.elim
            | some ds =>
              rw [ha] at q3
              obtain ⟨a, e1', e2'⟩ := r3
              obtain ⟨a', e3', h0, vs, h1, h2⟩ := g3.at_ hk
              rw [e2'] at e3'
              have e3' : a = a' := Option.some.inj e3'
              subst e3'
              exact .inl ⟨a, vs, e1', SqL.of h1, new_lst g3 (dpa_cut (asPs_ok ha h2) _ _) q3⟩
          | _ => exact q3.elim
      | _ => exact q3.elim⟩⟩⟩
end
/-! ### - x -/
def gNeg : D → Sto → Res D := fun d S => match d with
  | .p (.int i) => .ok (.p (.int (-i))) S
  | _ => .bad
theorem uop_neg : UOp c (rU fun i => .int (-i)) gNeg := fun G F io H S σ x dx Q gd rx q => by
  cases dx with
  | p a =>
    cases a with
    | int i =>
      cases rx
      exact ⟨i, rfl, hereP (v := .int (-i)) q gd (Dq.int _)⟩
    | _ => exact q.elim
  | _ => exact q.elim
end
end Tw
namespace Tw
open PySem PySem.Spec PyProof.Rows L2

inductive Fl where
  | nx (ρ : Env) (S : Sto)
  | rt (d : D) (S : Sto)
  | bk (ρ : Env) (S : Sto)
  | ct (ρ : Env) (S : Sto)
  | exc (n : Str) (as : List PyData) (ρ : Env) (S : Sto)
  | bad
abbrev FS := Env → Sto → Fl
def AftS (c : Cw) (G F : Hp) (io : List Addr) (N : Ends) : Fl → Prop
  | .nx ρ S => ∀ σ F' io' H', Ext F io F' io' → Good c.K G F' io' H' S → REnv c F' io' σ ρ → N.nx σ H'
  | .bk ρ S => ∀ σ F' io' H', Ext F io F' io' → Good c.K G F' io' H' S → REnv c F' io' σ ρ → N.bk σ H'
  | .ct ρ S => ∀ σ F' io' H', Ext F io F' io' → Good c.K G F' io' H' S → REnv c F' io' σ ρ → N.ct σ H'
  | .rt d S => ∀ v F' io' H', Ext F io F' io' → Good c.K G F' io' H' S → Rp c.K F' io' v d → N.rt v H'
  | .exc n as ρ S => ∀ cls dd σ F' io' H', Ext F io F' io' → Good c.K G F' io' H' S → REnv c F' io' σ ρ → IsX c.K F' n as cls dd → c.W cls dd σ H'
  | .bad => False
def tS (c : Cw) (f : FS) : TS := fun N σ H => ∃ G F io S ρ, Good c.K G F io H S ∧ REnv c F io σ ρ ∧ AftS c G F io N (f ρ S)
def Res.thn {α : Type} (r : Res α) (ρ : Env) (k : α → Sto → Fl) : Fl := match r with
  | .ok d S => k d S
  | .exc n as S => .exc n as ρ S
  | .bad => .bad
section
variable {c : Cw} {G F F1 : Hp} {io io1 : List Addr} {N : Ends}
theorem AftS.ext {r : Fl} (h : AftS c G F io N r) (e : Ext F io F1 io1) : AftS c G F1 io1 N r := by
  cases r with
  | nx ρ S => exact fun σ F' io' H' e' => h σ F' io' H' (e.trans e')
  | bk ρ S => exact fun σ F' io' H' e' => h σ F' io' H' (e.trans e')
  | ct ρ S => exact fun σ F' io' H' e' => h σ F' io' H' (e.trans e')
  | rt d S => exact fun v F' io' H' e' => h v F' io' H' (e.trans e')
  | exc n as ρ S => exact fun cls dd σ F' io' H' e' => h cls dd σ F' io' H' (e.trans e')
  | bad => exact h
theorem AftS.step {γ δ : Type} {R1 : Hp → List Addr → δ → γ → Prop} {Q1 : δ → Hp → Prop} {r : Res γ} {ρ : Env} {σ : L2.St} {k : γ → Sto → Fl} (h : AftS c G F io N (r.thn ρ k)) (re : REnv c F io σ ρ)
    (go : ∀ d S1 v F1 io1 H1, Ext F io F1 io1 → Good c.K G F1 io1 H1 S1 → R1 F1 io1 v d → AftS c G F1 io1 N (k d S1) → Q1 v H1) : Aft c G F io σ R1 Q1 r := by
  cases r with
  | ok d S1 => exact fun v F1 io1 H1 e g r => go d S1 v F1 io1 H1 e g r (AftS.ext (r := k d S1) h e)
  | exc n as S => exact fun cls dd F' io' H' e g x => h cls dd σ F' io' H' e g (renv_mono e re) x
  | bad => exact h
theorem AftS.here {ρ : Env} {S : Sto} {σ : L2.St} {H : Hp} (h : AftS c G F io N (.nx ρ S)) (g : Good c.K G F io H S) (r : REnv c F io σ ρ) : N.nx σ H := h σ F io H (Ext.refl F io) g r
end
/-! ### small statements -/
def fPass : FS := fun ρ S => .nx ρ S
def fSeq (f g : FS) : FS := fun ρ S => match f ρ S with
  | .nx ρ1 S1 => g ρ1 S1
  | o => o
def fRet (fa : FE) : FS := fun ρ S => (fa ρ S).thn ρ fun d S1 => .rt d S1
def fRetN : FS := fun _ S => .rt (.p .none) S
def fSet (i : Nat) (fa : FE) : FS := fun ρ S => (fa ρ S).thn ρ fun d S1 => .nx (ρ.set i (some d)) S1
def fDrop (fa : FE) : FS := fun ρ S => (fa ρ S).thn ρ fun _ S1 => .nx ρ S1
def fIfS (fc : FE) (f g : FS) : FS := fun ρ S => (fc ρ S).asB.thn ρ fun b S1 => if b = true then f ρ S1 else g ρ S1
def fAug (i : Nat) (g : D → D → Sto → Res D) (fb : FE) : FS := fun ρ S => match ρ[i]? with
  | some (some (.p d0)) => (fb ρ S).thn ρ fun d1 S1 => (g (.p d0) d1 S1).thn ρ fun d2 S2 => .nx (ρ.set i (some d2)) S2
  | _ => .bad
def fPar (i j : Nat) (fr : FA) : FS := fun ρ S => (fr ρ S).thn ρ fun ds S1 => match ds with
  | [d, e] => .nx ((ρ.set i (some d)).set j (some e)) S1
  | _ => .bad
def fPar3 (i j l : Nat) (fr : FA) : FS := fun ρ S => (fr ρ S).thn ρ fun ds S1 => match ds with
  | [d, e, f] => .nx (((ρ.set i (some d)).set j (some e)).set l (some f)) S1
  | _ => .bad
def fBrk : FS := fun ρ S => .bk ρ S
def fCnt : FS := fun ρ S => .ct ρ S
section
variable {X : Cx} {c : Cw} {st : Stmt} {rest : List Stmt} {f g : FS} {fa fb fc : FE} {fr : FA} {e : Expr} {pos : Pos}
theorem fss_nil : PSs X [] (tS c fPass) := pss_imp pss_nil fun N σ H ⟨G, F, io, S, ρ, gd, re, q⟩ => AftS.here q gd re
theorem fs_pass : PS X (.Pass pos) (tS c fPass) := ps_imp ps_pass fun N σ H ⟨G, F, io, S, ρ, gd, re, q⟩ => AftS.here q gd re
theorem fss_cons (h1 : PS X st (tS c f)) (h2 : PSs X rest (tS c g)) : PSs X (st :: rest) (tS c (fSeq f g)) := pss_imp (pss_cons h1 h2) fun N σ H ⟨G, F, io, S, ρ, gd, re, q⟩ => by
  refine ⟨G, F, io, S, ρ, gd, re, ?_⟩
  unfold fSeq at q
  cases h : f ρ S with
  | nx ρ1 S1 =>
    rw [h] at q
    exact fun σ' F' io' H' e' g' r' => ⟨G, F', io', S1, ρ1, g', r', AftS.ext (r := g ρ1 S1) q e'⟩
  | _ => rw [h] at q; exact q
theorem fss_one (h1 : PS X st (tS c f)) : PSs X [st] (tS c f) := pss_one h1
theorem fs_ret (h : PE X e (tE c fa)) : PS X (.Return (some e) pos) (tS c (fRet fa)) := ps_imp (ps_ret h) fun N σ H ⟨G, F, io, S, ρ, gd, re, q⟩ =>
  ⟨G, F, io, S, ρ, gd, re, AftS.step q re fun d S1 v F1 io1 H1 e1 g1 r1 q1 => q1 v F1 io1 H1 (Ext.refl _ _) g1 r1⟩
theorem fs_retN : PS X (.Return none pos) (tS c fRetN) := ps_imp ps_retN fun N σ H ⟨G, F, io, S, ρ, gd, re, q⟩ => q .non F io H (Ext.refl _ _) gd Dq.non
theorem fs_set {i : Nat} (h : ∀ {te : TE}, PE X e te → PS X st (tAsg te (gName i))) (he : PE X e (tE c fa)) : PS X st (tS c (fSet i fa)) := ps_imp (h he) fun N σ H ⟨G, F, io, S, ρ, gd, re, q⟩ =>
  ⟨G, F, io, S, ρ, gd, re, AftS.step q re fun d S1 v F1 io1 H1 e1 g1 r1 q1 => AftS.here q1 g1 (renv_set (renv_mono e1 re) (rpe_of r1) i)⟩
theorem fs_drop (h : ∀ {te : TE}, PE X e te → PS X st (tDrop te)) (he : PE X e (tE c fa)) : PS X st (tS c (fDrop fa)) := ps_imp (h he) fun N σ H ⟨G, F, io, S, ρ, gd, re, q⟩ =>
  ⟨G, F, io, S, ρ, gd, re, AftS.step q re fun d S1 v F1 io1 H1 e1 g1 r1 q1 => AftS.here q1 g1 (renv_mono e1 re)⟩
theorem fs_if {a b : List Stmt} (hc : PT X e (tT c fc)) (ha : PSs X a (tS c f)) (hb : PSs X b (tS c g)) : PS X (.If e a b pos) (tS c (fIfS fc f g)) := ps_imp (ps_if hc ha hb) fun N σ H ⟨G, F, io, S, ρ, gd, re, q⟩ => by
  refine ⟨G, F, io, S, ρ, gd, re, AftS.step q re fun k S1 k' F1 io1 H1 e1 g1 r1 q1 => ?_⟩
  have r1 : k' = k := r1
  subst r1
  cases k' with
  | true => exact ⟨G, F1, io1, S1, ρ, g1, renv_mono e1 re, q1⟩
  | false => exact ⟨G, F1, io1, S1, ρ, g1, renv_mono e1 re, q1⟩
theorem fs_aug {i : Nat} {r : R2} {g : D → D → Sto → Res D} (h : ∀ {te : TE}, PE X e te → PS X st (tAug i te r)) (hr : BOp c r g) (he : PE X e (tE c fb)) : PS X st (tS c (fAug i g fb)) := ps_imp (h he) fun N σ H ⟨G, F, io, S, ρ, gd, re, q⟩ => by
  unfold fAug at q
  cases h1 : ρ[i]? with
  | none => rw [h1] at q; exact q.elim
  | some o =>
    cases o with
    | none => rw [h1] at q; exact q.elim
    | some d =>
      rw [h1] at q
      cases d with
      | p d0 =>
        obtain ⟨v, h2, h3⟩ := re.2 i _ h1
        have h3 : Rp c.K F io v (.p d0) := h3
        exact ⟨v, h2, G, F, io, S, ρ, gd, re, AftS.step q re fun d1 S1 v1 F1 i1 H1 e1 g1 r1 q1 =>
          hr G F1 i1 H1 S1 σ v v1 _ d1 _ g1 (rp_mono e1 h3) r1 (AftS.step q1 (renv_mono e1 re) fun d2 S2 v2 F2 i2 H2 e2 g2 r2 q2 => AftS.here q2 g2 (renv_set (renv_mono (e1.trans e2) re) (rpe_of r2) i))⟩
      | _ => exact q.elim
theorem fs_par {i j : Nat} {es : List Expr} (h : ∀ {ta : TA}, PA X es ta → PS X st (tPar i j ta)) (ha : PA X es (tA c fr)) : PS X st (tS c (fPar i j fr)) := ps_imp (h ha) fun N σ H ⟨G, F, io, S, ρ, gd, re, q⟩ =>
  ⟨G, F, io, S, ρ, gd, re, AftS.step q re fun ds S1 vs F1 io1 H1 e1 g1 r1 q1 => by
    cases r1 with
    | nil => exact q1.elim
    | cons a r =>
      cases r with
      | nil => exact q1.elim
      | cons b r =>
        cases r with
        | nil => exact ⟨_, _, rfl, AftS.here q1 g1 (renv_set (renv_set (renv_mono e1 re) (rpe_of a) i) (rpe_of b) j)⟩
        | cons _ _ => exact q1.elim⟩
theorem fs_par3 {i j l : Nat} {es : List Expr} (h : ∀ {ta : TA}, PA X es ta → PS X st (tPar3 i j l ta)) (ha : PA X es (tA c fr)) : PS X st (tS c (fPar3 i j l fr)) := ps_imp (h ha) fun N σ H ⟨G, F, io, S, ρ, gd, re, q⟩ =>
  ⟨G, F, io, S, ρ, gd, re, AftS.step q re fun ds S1 vs F1 io1 H1 e1 g1 r1 q1 => by
    cases r1 with
    | nil => exact q1.elim
    | cons a r =>
      cases r with
      | nil => exact q1.elim
      | cons b r =>
        cases r with
        | nil => exact q1.elim
        | cons k r =>
          cases r with
          | nil => exact ⟨_, _, _, rfl, AftS.here q1 g1 (renv_set (renv_set (renv_set (renv_mono e1 re) (rpe_of a) i) (rpe_of b) j) (rpe_of k) l)⟩
          | cons _ _ => exact q1.elim⟩
theorem fs_brk : PS X (.Break pos) (tS c fBrk) := ps_imp ps_break fun N σ H ⟨G, F, io, S, ρ, gd, re, q⟩ => q σ F io H (Ext.refl _ _) gd re
theorem fs_cnt : PS X (.Continue pos) (tS c fCnt) := ps_imp ps_continue fun N σ H ⟨G, F, io, S, ρ, gd, re, q⟩ => q σ F io H (Ext.refl _ _) gd re
end
/-! ### targets -/
abbrev FG := D → Env → Option Env
abbrev FGs := List D → Env → Option Env
/-- ws: the slots that may be written -/
def tG (c : Cw) (ws : List Nat) (g : FG) : TG := fun v σ H Q => ∃ G F io S d ρ ρ', Good c.K G F io H S ∧ Rp c.K F io v d ∧ REnv c F io σ ρ ∧ g d ρ = some ρ' ∧ ∀ σ', REnv c F io σ' ρ' → wipe σ' ws = wipe σ ws → Q σ' H
def tGs (c : Cw) (ws : List Nat) (g : FGs) : TGs := fun vs σ H Q => ∃ G F io S ds ρ ρ', Good c.K G F io H S ∧ RpA c.K F io vs ds ∧ REnv c F io σ ρ ∧ g ds ρ = some ρ' ∧ ∀ σ', REnv c F io σ' ρ' → wipe σ' ws = wipe σ ws → Q σ' H
theorem wipe_out1 {σ : L2.St} {i : Nat} {x : Option V} : ∀ {ws : List Nat}, i ∈ ws → wipe (σ.set i x) ws = wipe σ ws
  | w :: ws, h => by
    by_cases hw : i ∈ ws
    · show (wipe (σ.set i x) ws).set w none = (wipe σ ws).set w none
      rw [wipe_out1 hw]
    · have e : i = w := (List.mem_cons.mp h).resolve_right hw
      subst e
      show (wipe (σ.set i x) ws).set i none = (wipe σ ws).set i none
      rw [wipe_off hw, List.set_set]
where
  wipe_off {σ : L2.St} {i : Nat} {x : Option V} : ∀ {ws : List Nat}, i ∉ ws → wipe (σ.set i x) ws = (wipe σ ws).set i x
  | [], _ => rfl
  | w :: ws, h => by
    have h1 : i ≠ w := fun z => h (z ▸ List.mem_cons_self)
    have h2 : i ∉ ws := fun z => h (List.mem_cons_of_mem _ z)
    show (wipe (σ.set i x) ws).set w none = ((wipe σ ws).set w none).set i x
    rw [wipe_off h2, List.set_comm _ _ h1]
def gNm (i : Nat) : FG := fun d ρ => some (ρ.set i (some d))
def gsNil : FGs := fun ds ρ => match ds with
  | [] => some ρ
  | _ => none
def gsCons (g : FG) (gs : FGs) : FGs := fun ds ρ => match ds with
  | d :: r => (g d ρ).bind (gs r)
  | [] => none
def gTp (n : Nat) (gs : FGs) : FG := fun d ρ => match d with
  | .p (.tuple ds) => if ds.length = n then gs (ds.map D.p) ρ else none
  | _ => none
theorem dqa_rpa {K : PySem.W.Frag} {F : Hp} {io : List Addr} : ∀ {ds : List PyData} {vs : List V}, DqA K F vs ds → RpA K F io vs (ds.map D.p)
  | [], _, h => by cases h; exact .nil
  | d :: ds, _, h => by
    cases h with
    | cons h1 h2 => exact .cons h1 (dqa_rpa h2)
section
variable {X : Cx} {c : Cw} {ws : List Nat} {t : Expr} {ts : List Expr} {g : FG} {gs : FGs} {pos : Pos}
theorem pg_imp {a b : TG} (h : PG X t a) (i : ∀ v σ H Q, b v σ H Q → a v σ H Q) : PG X t b := ⟨fun pins s σ H v u Q I r q => h.run pins s σ H v u Q I r (i v σ H Q q)⟩
theorem pgs_imp {a b : TGs} (h : PGs X ts a) (i : ∀ v σ H Q, b v σ H Q → a v σ H Q) : PGs X ts b := ⟨fun pins s σ H v u Q I r q => h.run pins s σ H v u Q I r (i v σ H Q q)⟩
theorem fg_name {i : Nat} (h : PG X t (gName i)) (hi : i ∈ ws) : PG X t (tG c ws (gNm i)) := pg_imp h fun v σ H Q ⟨G, F, io, S, d, ρ, ρ', gd, r, re, e, q⟩ => by
  have e : ρ.set i (some d) = ρ' := Option.some.inj e
  subst e
  exact q _ (renv_set re (rpe_of r) i) (wipe_out1 hi)
theorem fgs_nil : PGs X [] (tGs c ws gsNil) := pgs_imp pgs_nil fun vs σ H Q ⟨G, F, io, S, ds, ρ, ρ', gd, r, re, e, q⟩ => by
  cases r with
  | nil =>
    have e : ρ = ρ' := Option.some.inj e
    subst e
    exact ⟨rfl, q σ re rfl⟩
  | cons _ _ => cases e
theorem fgs_cons (h1 : PG X t (tG c ws g)) (h2 : PGs X ts (tGs c ws gs)) (hs : (assignEach (t :: ts) X.env).map (·.2) = assign t X.env :: (assignEach ts X.env).map (·.2) := by rfl) : PGs X (t :: ts) (tGs c ws (gsCons g gs)) :=
  pgs_imp (pgs_cons h1 h2 hs) fun vs σ H Q ⟨G, F, io, S, ds, ρ, ρ', gd, r, re, e, q⟩ => by
    cases r with
    | nil => cases e
    | @cons v d vs' ds' ra rb =>
      have e : (g d ρ).bind (gs ds') = some ρ' := e
      cases h : g d ρ with
      | none => rw [h] at e; cases e
      | some ρ1 =>
        rw [h] at e
        exact ⟨v, vs', rfl, G, F, io, S, d, ρ, ρ1, gd, ra, re, h, fun σ1 re1 w1 => ⟨G, F, io, S, ds', ρ1, ρ', gd, rb, re1, e, fun σ2 re2 w2 => q σ2 re2 (w2.trans w1)⟩⟩
theorem fg_tup {es : List Expr} {k : Nat} {n : Nat} (hc : X.calm = true) (h : PGs X es (tGs c ws gs)) (hK : c.K = X.K) (hn : (assignEach es X.env).length = n := by rfl) (hst : (assignEach es X.env).findIdx? (·.1) = none := by rfl) : PG X (.Tuple es k pos) (tG c ws (gTp n gs)) :=
  pg_imp (pg_tup hc h hn hst) fun v σ H Q ⟨G, F, io, S, d, ρ, ρ', gd, r, re, e, q⟩ => by
    cases d with
    | p a =>
      cases a with
      | tuple ds =>
        have e : (if ds.length = n then gs (ds.map D.p) ρ else none) = some ρ' := e
        by_cases hl : ds.length = n
        · rw [if_pos hl] at e
          cases r with
          | @tup a xs _ hx ha =>
            exact ⟨a, xs, rfl, by rw [← hK]; exact sq_t gd.ex hx.sq, by rw [dpa_len _ _ ha]; exact hl, G, F, io, S, ds.map D.p, ρ, ρ', gd, dqa_rpa ha, re, e, q⟩
        · rw [if_neg hl] at e
          cases e
      | _ => cases e
    | _ => cases e
def fAsg (fa : FE) (g : FG) : FS := fun ρ S => (fa ρ S).thn ρ fun d S1 => match g d ρ with
  | some ρ1 => .nx ρ1 S1
  | none => .bad
theorem fs_asg {e : Expr} {fa : FE} {st : Stmt} (h : ∀ {te : TE} {tg : TG}, PE X e te → PG X t tg → PS X st (tAsg te tg)) (he : PE X e (tE c fa)) (hg : PG X t (tG c ws g)) : PS X st (tS c (fAsg fa g)) := ps_imp (h he hg) fun N σ H ⟨G, F, io, S, ρ, gd, re, q⟩ =>
  ⟨G, F, io, S, ρ, gd, re, AftS.step q re fun d S1 v F1 io1 H1 e1 g1 r1 q1 => by
    cases h : g d ρ with
    | none => rw [h] at q1; exact q1.elim
    | some ρ1 =>
      rw [h] at q1
      exact ⟨G, F1, io1, S1, d, ρ, ρ1, g1, r1, renv_mono e1 re, h, fun σ' re' _ => AftS.here q1 g1 re'⟩⟩
end
/-! ### what is walked -/
structure ItD (c : Cw) (F : Hp) (io : List Addr) (J : It) (ds : List D) : Prop where
  go : ∀ i G H F1 io1 S1, i < ds.length → Ext F io F1 io1 → Good c.K G F1 io1 H S1 → J.go i H ∧ ∀ x H', J.yld i H x H' → ∃ F2, Ext F1 io1 F2 io1 ∧ Good c.K G F2 io1 H' S1 ∧ ∃ d, ds[i]? = some d ∧ Rp c.K F2 io1 x d
  stop : ∀ i G H F1 io1 S1, ds.length ≤ i → Ext F io F1 io1 → Good c.K G F1 io1 H S1 → J.stop i H
abbrev FI := Env → Sto → Res (List D)
def tI (c : Cw) (f : FI) : TI := fun σ H R => ∃ G F io S ρ, Good c.K G F io H S ∧ REnv c F io σ ρ ∧ Aft c G F io σ (fun F' io' (J : It) (ds : List D) => ItD c F' io' J ds) R (f ρ S)
def fItT (fa : FE) : FI := fun ρ S => (fa ρ S).bind fun d S1 => match d with
  | .p (.tuple ds) => .ok (ds.map D.p) S1
  | _ => .bad
def fItL (fa : FE) : FI := fun ρ S => (fa ρ S).bind fun d S1 => match d with
  | .p (.list ds) => .ok (ds.map D.p) S1
  | .scr ns => .ok ((ns.map PyData.int).map D.p) S1
  | _ => .bad
def rng (lo : Int) (n : Nat) : List D := (List.range n).map fun (i : Nat) => D.p (.int (lo + (i : Int)))
def fRng1 (fr : FA) : FI := fun ρ S => (fr ρ S).bind fun ds S1 => match ds with
  | [.p (.int j)] => if -1000000 < j ∧ j < 1000000 then .ok (rng 0 j.toNat) S1 else .bad
  | _ => .bad
def fRng2 (fr : FA) : FI := fun ρ S => (fr ρ S).bind fun ds S1 => match ds with
  | [.p (.int i), .p (.int j)] => if -1000000 < i ∧ i < 1000000 ∧ -1000000 < j ∧ j < 1000000 then .ok (rng i (j - i).toNat) S1 else .bad
  | _ => .bad
section
variable {X : Cx} {c : Cw} {tg e : Expr} {fa : FE} {fr : FA} {pos p : Pos}
theorem pi_imp {a b : TI} (h : PI X tg e a) (i : ∀ σ H R, b σ H R → a σ H R) : PI X tg e b := ⟨fun pins s σ H R I q => h.run pins s σ H R I (i σ H R q)⟩
theorem itd_tup {F : Hp} {io : List Addr} {a : Addr} {vs : List V} {ds : List PyData} (hx : SqT c.K F a vs) (ha : DqA c.K F vs ds) : ItD c F io (Itt c.K a) (ds.map D.p) where
  go := fun i G H F1 io1 S1 hi e g => by
    have hi' : i < ds.length := by simpa using hi
    obtain ⟨v, h1, h2⟩ := dpa_get _ _ i ds[i] ha (List.getElem?_eq_getElem hi')
    refine ⟨⟨vs, v, sq_t g.ex (sq_t e.same hx), h1⟩, fun x H' ⟨e1, y⟩ => ?_⟩
    subst e1
    have hv := y vs (sq_t g.ex (sq_t e.same hx))
    rw [h1] at hv
    have hv : v = x := Option.some.inj hv
    subst hv
    refine ⟨F1, Ext.refl _ _, g, .p ds[i], ?_, dp_mono e.same _ _ h2⟩
    rw [List.getElem?_map, List.getElem?_eq_getElem hi']
    rfl
  stop := fun i G H F1 io1 S1 hi e g => ⟨vs, sq_t g.ex (sq_t e.same hx), by rw [dpa_len _ _ ha]; simpa using hi⟩
theorem itd_lst {F : Hp} {io : List Addr} {a : Addr} {vs : List V} {ds : List PyData} (hx : SqL c.K F a vs) (ha : DqA c.K F vs ds) : ItD c F io (Itl c.K a) (ds.map D.p) where
  go := fun i G H F1 io1 S1 hi e g => by
    have hi' : i < ds.length := by simpa using hi
    obtain ⟨v, h1, h2⟩ := dpa_get _ _ i ds[i] ha (List.getElem?_eq_getElem hi')
    refine ⟨⟨vs, v, g.ex.seq (e.same.seq hx), h1⟩, fun x H' ⟨e1, y⟩ => ?_⟩
    subst e1
    have hv := y vs (g.ex.seq (e.same.seq hx))
    rw [h1] at hv
    have hv : v = x := Option.some.inj hv
    subst hv
    refine ⟨F1, Ext.refl _ _, g, .p ds[i], ?_, dp_mono e.same _ _ h2⟩
    rw [List.getElem?_map, List.getElem?_eq_getElem hi']
    rfl
  stop := fun i G H F1 io1 S1 hi e g => ⟨vs, g.ex.seq (e.same.seq hx), by rw [dpa_len _ _ ha]; simpa using hi⟩
theorem dqa_ints {K : PySem.W.Frag} {F : Hp} : ∀ ns : List Int, DqA K F (ns.map V.int) (ns.map PyData.int)
  | [] => .nil
  | n :: ns => .cons (.int n) (dqa_ints ns)
/-- over a tuple -/
theorem fi_tup (h : PE X e (tE c fa)) (hK : c.K = X.K) : PI X tg e (tI c (fItT fa)) := pi_imp (pi_tup h) fun σ H R ⟨G, F, io, S, ρ, gd, re, q⟩ => ⟨G, F, io, S, ρ, gd, re, Aft.step q fun d S1 v F1 i1 H1 e1 g1 r1 q1 => by
  cases d with
  | p a =>
    cases a with
    | tuple ds =>
      cases r1 with
      | @tup a xs _ hx ha =>
        rw [← hK]
        exact ⟨a, rfl, ⟨xs, sq_t g1.ex hx.sq⟩, Aft.here q1 g1 (itd_tup hx.sq ha)⟩
    | _ => exact q1.elim
  | _ => exact q1.elim⟩
/-- over a list -/
theorem fi_lst (h : PE X e (tE c fa)) (hK : c.K = X.K) : PI X tg e (tI c (fItL fa)) := pi_imp (pi_list h) fun σ H R ⟨G, F, io, S, ρ, gd, re, q⟩ => ⟨G, F, io, S, ρ, gd, re, Aft.step q fun d S1 v F1 i1 H1 e1 g1 r1 q1 => by
  cases d with
  | p a =>
    cases a with
    | list ds =>
      cases r1 with
      | @lst a xs _ hx ha =>
        rw [← hK]
        exact ⟨a, rfl, ⟨xs, SqL.of (g1.ex _ _ hx)⟩, Aft.here q1 g1 (itd_lst (SqL.of hx) ha)⟩
    | _ => exact q1.elim
  | scr ns =>
    obtain ⟨a, h1, h2⟩ := r1
    rw [← hK]
    exact ⟨a, h1, ⟨_, g1.ex.seq h2⟩, Aft.here q1 g1 (itd_lst h2 (dqa_ints ns))⟩
  | _ => exact q1.elim⟩
theorem itd_rng {F : Hp} {io : List Addr} {lo : Int} {n : Nat} : ItD c F io (Itr lo n) (rng lo n) where
  go := fun i G H F1 io1 S1 hi e g => by
    have hi' : i < n := by simpa [rng] using hi
    refine ⟨hi', fun x H' ⟨e1, y⟩ => ?_⟩
    subst e1
    subst y
    refine ⟨F1, Ext.refl _ _, g, .p (.int (lo + (i : Int))), ?_, Dq.int _⟩
    unfold rng
    rw [List.getElem?_map, List.getElem?_range hi']
    rfl
  stop := fun i G H F1 io1 S1 hi e g => by
    have hi' : n ≤ i := by simpa [rng] using hi
    exact hi'
theorem fi_rng1 {a : Expr} (h : ∀ {ta : TA}, PA X [a] ta → PI X tg e (iRng1 ta)) (ha : PA X [a] (tA c fr)) : PI X tg e (tI c (fRng1 fr)) := pi_imp (h ha) fun σ H R ⟨G, F, io, S, ρ, gd, re, q⟩ => ⟨G, F, io, S, ρ, gd, re, Aft.step q fun ds S1 vs F1 i1 H1 e1 g1 r1 q1 => by
  cases r1 with
  | nil => exact q1.elim
  | @cons v d _ _ ra rb =>
    cases rb with
    | nil =>
      cases d with
      | p a =>
        cases a with
        | int j =>
          cases ra
          have q1 : Aft c G F1 i1 σ _ R (if -1000000 < j ∧ j < 1000000 then .ok (rng 0 j.toNat) S1 else .bad) := q1
          by_cases hj : -1000000 < j ∧ j < 1000000
          · rw [if_pos hj] at q1
            exact ⟨j, rfl, by omega, by omega, Aft.here q1 g1 itd_rng⟩
          · rw [if_neg hj] at q1
            exact q1.elim
        | _ => exact q1.elim
      | _ => exact q1.elim
    | cons _ _ => cases d with
      | p a => cases a <;> exact q1.elim
      | _ => exact q1.elim⟩
theorem fi_rng2 {a b : Expr} (h : ∀ {ta : TA}, PA X [a, b] ta → PI X tg e (iRng2 ta)) (ha : PA X [a, b] (tA c fr)) : PI X tg e (tI c (fRng2 fr)) := pi_imp (h ha) fun σ H R ⟨G, F, io, S, ρ, gd, re, q⟩ => ⟨G, F, io, S, ρ, gd, re, Aft.step q fun ds S1 vs F1 i1 H1 e1 g1 r1 q1 => by
  have key : ∀ {ds : List D} {vs : List V}, RpA c.K F1 i1 vs ds → Aft c G F1 i1 σ (fun F' io' (J : It) (ds : List D) => ItD c F' io' J ds) R (match ds with
      | [.p (.int i), .p (.int j)] => if -1000000 < i ∧ i < 1000000 ∧ -1000000 < j ∧ j < 1000000 then .ok (rng i (j - i).toNat) S1 else .bad
      | _ => .bad) → ∃ i j : Int, vs = [.int i, .int j] ∧ (-(2 ^ 62) ≤ i ∧ i < 2 ^ 62 ∧ -(2 ^ 62) ≤ j ∧ j < 2 ^ 62) ∧ R (Itr i (j - i).toNat) H1 := fun {ds vs} r q1 => by
    split at q1
    · rename_i i j
      cases r with
      | cons ra rb =>
        cases ra
        cases rb with
        | cons ra rb =>
          cases ra
          cases rb
          by_cases hj : -1000000 < i ∧ i < 1000000 ∧ -1000000 < j ∧ j < 1000000
          · rw [if_pos hj] at q1
            exact ⟨i, j, rfl, ⟨by omega, by omega, by omega, by omega⟩, Aft.here q1 g1 itd_rng⟩
          · rw [if_neg hj] at q1
            exact q1.elim
    · exact q1.elim
  exact key r1 q1⟩
/-! ### for -/
def forL (g : FG) (body : FS) : List D → Env → Sto → Fl
  | [], ρ, S => .nx ρ S
  | d :: ds, ρ, S => match g d ρ with
    | none => .bad
    | some ρ1 => match body ρ1 S with
      | .nx ρ2 S2 => forL g body ds ρ2 S2
      | .ct ρ2 S2 => forL g body ds ρ2 S2
      | .bk ρ2 S2 => .nx ρ2 S2
      | o => o
def fFor (fi : FI) (g : FG) (body : FS) : FS := fun ρ S => (fi ρ S).thn ρ fun ds S1 => forL g body ds ρ S1
theorem fs_for {ws : List Nat} {fi : FI} {g : FG} {body : List Stmt} {fb : FS} (hp : PassesOwn (model X.prog X.w) X.A X.env X.xe) (hc : X.calm = true) (hi : PI X tg e (tI c fi)) (hg : PG X tg (tG c ws g)) (hb : PSs X body (tS c fb))
    (hs : ∀ x, foldedSetIterable e X.env x = pure x := by intro _; rfl) : PS X (.For tg e body [] pos) (tS c (fFor fi g fb)) := ps_imp (ps_for hp hc hi hg hb hs) fun N σ H ⟨G, F, io, S, ρ, gd, re, q⟩ => by
  refine ⟨G, F, io, S, ρ, gd, re, AftS.step q re fun ds S1 J F1 i1 H1 e1 g1 it q1 => ?_⟩
  refine ⟨fun i m σ' H' => m = ds.length - i ∧ i ≤ ds.length ∧ ∃ G F2 io2 S2 ρ2, Ext F1 i1 F2 io2 ∧ Good c.K G F2 io2 H' S2 ∧ REnv c F2 io2 σ' ρ2 ∧ AftS c G F2 io2 N (forL g fb (ds.drop i) ρ2 S2),
    ⟨_, rfl, Nat.zero_le _, G, F1, i1, S1, ρ, Ext.refl _ _, g1, renv_mono e1 re, q1⟩, ?_⟩
  rintro i m σ' H' ⟨rfl, hi, G, F2, io2, S2, ρ2, e2, g2, re2, q2⟩
  by_cases hlt : i < ds.length
  · obtain ⟨hgo, hy⟩ := it.go i G H' F2 io2 S2 hlt e2 g2
    refine .inr ⟨hgo, _, fun σ3 H3 n => ⟨ds.length - (i + 1), by omega, n⟩, fun x H3 y => ?_⟩
    obtain ⟨F3, e3, g3, d, hd, rd⟩ := hy x H3 y
    have hdr : ds.drop i = d :: ds.drop (i + 1) := by
      rw [List.drop_eq_getElem_cons hlt]
      rw [List.getElem?_eq_getElem hlt] at hd
      rw [Option.some.inj hd]
    rw [hdr] at q2
    have q2 : AftS c G F2 io2 N (match g d ρ2 with
      | none => .bad
      | some ρ1 => match fb ρ1 S2 with
        | .nx ρ2 S2 => forL g fb (ds.drop (i + 1)) ρ2 S2
        | .ct ρ2 S2 => forL g fb (ds.drop (i + 1)) ρ2 S2
        | .bk ρ2 S2 => .nx ρ2 S2
        | o => o) := q2
    cases h : g d ρ2 with
    | none => rw [h] at q2; exact q2.elim
    | some ρ3 =>
      rw [h] at q2
      refine ⟨G, F3, io2, S2, d, ρ2, ρ3, g3, rd, renv_mono e3 re2, h, fun σ4 re4 _ => ⟨G, F3, io2, S2, ρ3, g3, re4, ?_⟩⟩
      have q2 := AftS.ext q2 e3
      have q2 : AftS c G F3 io2 N (match fb ρ3 S2 with
        | .nx ρ2 S2 => forL g fb (ds.drop (i + 1)) ρ2 S2
        | .ct ρ2 S2 => forL g fb (ds.drop (i + 1)) ρ2 S2
        | .bk ρ2 S2 => .nx ρ2 S2
        | o => o) := q2
      cases hb2 : fb ρ3 S2 with
      | nx ρ4 S4 =>
        rw [hb2] at q2
        exact fun σ5 F5 io5 H5 e5 g5 re5 => ⟨rfl, hlt, G, F5, io5, S4, ρ4, (e2.trans e3).trans e5, g5, re5, AftS.ext (r := forL g fb (ds.drop (i + 1)) ρ4 S4) q2 e5⟩
      | ct ρ4 S4 =>
        rw [hb2] at q2
        exact fun σ5 F5 io5 H5 e5 g5 re5 => ⟨rfl, hlt, G, F5, io5, S4, ρ4, (e2.trans e3).trans e5, g5, re5, AftS.ext (r := forL g fb (ds.drop (i + 1)) ρ4 S4) q2 e5⟩
      | bk ρ4 S4 => rw [hb2] at q2; exact q2
      | rt d S4 => rw [hb2] at q2; exact q2
      | exc n as ρ4 S4 => rw [hb2] at q2; exact q2
      | bad => rw [hb2] at q2; exact q2
  · have e0 : i = ds.length := by omega
    subst e0
    rw [List.drop_length] at q2
    exact .inl ⟨it.stop _ G H' F2 io2 S2 (Nat.le_refl _) e2 g2, AftS.here q2 g2 re2⟩
/-! ### while -/
def whileN (fc : FE) (body : FS) : Nat → Env → Sto → Fl
  | 0, _, _ => .bad
  | n + 1, ρ, S => (fc ρ S).asB.thn ρ fun b S1 => if b = true then (match body ρ S1 with
      | .nx ρ2 S2 => whileN fc body n ρ2 S2
      | .ct ρ2 S2 => whileN fc body n ρ2 S2
      | .bk ρ2 S2 => .nx ρ2 S2
      | o => o) else .nx ρ S1
def fWhile (n : Nat) (fc : FE) (body : FS) : FS := whileN fc body n
theorem fs_while {n : Nat} {fc : FE} {body : List Stmt} {fb : FS} (hp : PassesOwn (model X.prog X.w) X.A X.env X.xe) (hc : PT X e (tT c fc)) (hb : PSs X body (tS c fb)) : PS X (.While e body [] pos) (tS c (fWhile n fc fb)) := ps_imp (ps_while hp hc hb) fun N σ H ⟨G, F, io, S, ρ, gd, re, q⟩ => by
  refine ⟨fun m σ' H' => ∃ G F2 io2 S2 ρ2, Good c.K G F2 io2 H' S2 ∧ REnv c F2 io2 σ' ρ2 ∧ AftS c G F2 io2 N (whileN fc fb m ρ2 S2), ⟨n, G, F, io, S, ρ, gd, re, q⟩, ?_⟩
  rintro m σ' H' ⟨G, F2, io2, S2, ρ2, g2, re2, q2⟩
  cases m with
  | zero => exact q2.elim
  | succ m =>
    refine ⟨G, F2, io2, S2, ρ2, g2, re2, AftS.step (k := fun b S1 => if b = true then (match fb ρ2 S1 with
      | .nx ρ2 S2 => whileN fc fb m ρ2 S2
      | .ct ρ2 S2 => whileN fc fb m ρ2 S2
      | .bk ρ2 S2 => .nx ρ2 S2
      | o => o) else .nx ρ2 S1) q2 re2 fun k S3 k' F3 i3 H3 e3 g3 r3 q3 => ?_⟩
    have r3 : k' = k := r3
    subst r3
    cases k' with
    | false => exact AftS.here (show AftS c G F3 i3 N (.nx ρ2 S3) from q3) g3 (renv_mono e3 re2)
    | true =>
      have q3 : AftS c G F3 i3 N (match fb ρ2 S3 with
        | .nx ρ2 S2 => whileN fc fb m ρ2 S2
        | .ct ρ2 S2 => whileN fc fb m ρ2 S2
        | .bk ρ2 S2 => .nx ρ2 S2
        | o => o) := q3
      refine ⟨_, fun σ4 H4 z => ⟨m, Nat.lt_succ_self m, z⟩, G, F3, i3, S3, ρ2, g3, renv_mono e3 re2, ?_⟩
      cases hb2 : fb ρ2 S3 with
      | nx ρ4 S4 =>
        rw [hb2] at q3
        exact fun σ5 F5 io5 H5 e5 g5 re5 => ⟨G, F5, io5, S4, ρ4, g5, re5, AftS.ext (r := whileN fc fb m ρ4 S4) q3 e5⟩
      | ct ρ4 S4 =>
        rw [hb2] at q3
        exact fun σ5 F5 io5 H5 e5 g5 re5 => ⟨G, F5, io5, S4, ρ4, g5, re5, AftS.ext (r := whileN fc fb m ρ4 S4) q3 e5⟩
      | bk ρ4 S4 => rw [hb2] at q3; exact q3
      | rt d S4 => rw [hb2] at q3; exact q3
      | exc n as ρ4 S4 => rw [hb2] at q3; exact q3
      | bad => rw [hb2] at q3; exact q3
end
end Tw
namespace Tw
open PySem PySem.Spec PyProof.Rows L2

/-! ### a def's promise: it hands back what m says -/
abbrev cE (K : PySem.W.Frag) (E : XK) : Cw := ⟨K, none, fun cls d _ H => E cls d H⟩
def spF (K : PySem.W.Frag) (m : List D → Sto → Res D) (n : Nat) : Sp := fun vs H Q E => vs.length = n ∧ ∃ G F io S ds, Good K G F io H S ∧ RpA K F io vs ds ∧ Aft (cE K E) G F io [] (rp (cE K E)) Q (m ds S)
def lowM (n : Nat) : Nat ⊕ PyData → Bool
  | .inl k => decide (k < n)
  | .inr _ => true
def D.low (n : Nat) : D → Bool
  | .own k => decide (k < n)
  | .mix xs => xs.all (lowM n)
  | .mtp xs => xs.all (lowM n)
  | _ => true
def O.low (n : Nat) : O → Bool
  | .lst xs => xs.all (D.low n)
  | .dic kvs => kvs.all fun q => q.2.low n
  | .ins _ fs => fs.all fun q => q.2.low n
  | .fz d => d.low n
  | .raw _ => false
  | .odx _ => false
  | .gone => true
def trim (S : Sto) (d : D) (S' : Sto) : Res D := if S'.length = S.length then .ok d S' else if (d.low S.length && (S'.take S.length).all (O.low S.length)) = true then .ok d (S'.take S.length) else .bad
def trimX (S : Sto) (n : Str) (as : List PyData) (S' : Sto) : Res D := if S'.length = S.length then .exc n as S' else if ((S'.take S.length).all (O.low S.length)) = true then .exc n as (S'.take S.length) else .bad
def callM (nN : Nat) (f : FS) : List D → Sto → Res D := fun ds S => match f (ds.map some ++ List.replicate (nN - ds.length) none) S with
  | .rt d S' => trim S d S'
  | .nx _ S' => trim S (.p .none) S'
  | .exc n as _ S' => trimX S n as S'
  | _ => .bad
section
variable {K : PySem.W.Frag} {G F : Hp} {io : List Addr} {H : Hp} {S : Sto}
theorem rpm_low {n : Nat} : ∀ {ds : List (Nat ⊕ PyData)} {vs : List V}, ds.all (lowM n) = true → Paired (RpM K F io) vs ds → Paired (RpM K F (io.take n)) vs ds
  | [], _, _, r => by cases r; exact .nil
  | d :: ds, _, h, r => by
    cases r with
    | cons r1 r2 =>
      rw [List.all_cons, Bool.and_eq_true] at h
      refine .cons ?_ (rpm_low h.2 r2)
      cases d with
      | inl k =>
        obtain ⟨a, h1, h2⟩ := r1
        exact ⟨a, h1, by rw [List.getElem?_take_of_lt (of_decide_eq_true h.1)]; exact h2⟩
      | inr p => exact r1
theorem rp_low {n : Nat} {v : V} : ∀ {d : D}, d.low n = true → Rp K F io v d → Rp K F (io.take n) v d
  | .p _, _, r => r
  | .own k, h, ⟨a, h1, h2⟩ => ⟨a, h1, by rw [List.getElem?_take_of_lt (of_decide_eq_true h)]; exact h2⟩
  | .wld _ _, _, r => r
  | .exn, _, r => r
  | .scr _, _, r => r
  | .dz _, _, r => r
  | .fn _, _, r => r
  | .err _ _, _, r => r
  | .mix _, h, ⟨a, vs, h1, h2, h3⟩ => ⟨a, vs, h1, h2, rpm_low h h3⟩
  | .mtp _, h, ⟨a, vs, h1, h2, h3⟩ => ⟨a, vs, h1, h2, rpm_low h h3⟩
theorem rpa_low {n : Nat} : ∀ {ds : List D} {vs : List V}, ds.all (D.low n) = true → RpA K F io vs ds → RpA K F (io.take n) vs ds
  | [], _, _, r => by cases r; exact .nil
  | d :: ds, _, h, r => by
    cases r with
    | cons r1 r2 =>
      rw [List.all_cons, Bool.and_eq_true] at h
      exact .cons (rp_low h.1 r1) (rpa_low h.2 r2)
theorem prs_low {κ : Type} {n : Nat} : ∀ {fs : List (κ × D)} {vs : List (κ × V)}, (fs.all fun q => q.2.low n) = true → Paired (fun (p : κ × V) (q : κ × D) => p.1 = q.1 ∧ Rp K F io p.2 q.2) vs fs → Paired (fun (p : κ × V) (q : κ × D) => p.1 = q.1 ∧ Rp K F (io.take n) p.2 q.2) vs fs
  | [], _, _, r => by cases r; exact .nil
  | d :: ds, _, h, r => by
    cases r with
    | cons r1 r2 =>
      rw [List.all_cons, Bool.and_eq_true] at h
      exact .cons ⟨r1.1, rp_low h.1 r1.2⟩ (prs_low h.2 r2)
theorem oat_low {n : Nat} {a : Addr} : ∀ {o : O}, o.low n = true → OAt K F io H a o → OAt K F (io.take n) H a o
  | .lst xs, h, ⟨h0, vs, h1, r⟩ => ⟨h0, vs, h1, rpa_low h r⟩
  | .dic kvs, h, ⟨h0, kws, h1, r⟩ => ⟨h0, kws, h1, prs_low h r⟩
  | .ins m fs, h, ⟨h0, dx, fvs, h1, h2, r⟩ => ⟨h0, dx, fvs, h1, h2, prs_low h r⟩
  | .fz d, h, ⟨h0, r⟩ => ⟨h0, rp_low h r⟩
  | .gone, _, h => h
theorem Good.trim (g : Good K G F io H S) {n : Nat} (h : ((S.take n).all (O.low n)) = true) : Good K G F (io.take n) H (S.take n) where
  ex := g.ex
  gx := g.gx
  gf := fun a o q => ⟨(g.gf a o q).1, fun hm => (g.gf a o q).2 (List.mem_of_mem_take hm)⟩
  nd := g.nd.sublist (List.take_sublist _ _)
  len := by rw [List.length_take, List.length_take, g.len]
  ob := fun k a o h1 h2 => by
    have hk : k < n := by
      have := (List.getElem?_eq_some_iff.mp h1).1
      rw [List.length_take] at this
      omega
    have hl := List.all_eq_true.mp h o (List.mem_of_getElem? h2)
    rw [List.getElem?_take_of_lt hk] at h1 h2
    exact oat_low hl (g.ob k a o h1 h2)
  gt := g.gt
end
theorem take_ext {F F' : Hp} {io io' : List Addr} (e : Ext F io F' io') {n : Nat} (h : io.length = n) : io'.take n = io := by
  obtain ⟨t, ht⟩ := e.more
  subst ht
  subst h
  simp
section
variable {K : PySem.W.Frag} {P : Program} {w : World} {mg : Str → Option Value} {base : Heap} {x qual : Str} {params : Arguments} {body : List Stmt} {scope : Scope} {f : Addr} {fd : FuncData} {N ps : List Str} {k : Nat} {m : FS}
theorem start_renv {c : Cw} {F : Hp} {io : List Addr} {vs : List V} {ds : List D} (r : RpA c.K F io vs ds) : REnv c F io (L2.start N vs) (ds.map some ++ List.replicate (N.length - ds.length) none) := by
  unfold L2.start
  have hl := paired_len r
  refine ⟨by simp [hl], fun i d h => ?_⟩
  by_cases hi : i < ds.length
  · rw [List.getElem?_append_left (by simpa using hi), List.getElem?_map] at h
    rw [List.getElem?_append_left (by simpa [hl] using hi), List.getElem?_map]
    cases e : ds[i]? with
    | none => rw [e] at h; cases h
    | some d' =>
      rw [e] at h
      have h : d' = d := Option.some.inj (Option.some.inj h)
      subst h
      obtain ⟨v, h1, h2⟩ := paired_get r e
      exact ⟨v, by rw [h1]; rfl, rpe_of h2⟩
  · rw [List.getElem?_append_right (by simpa using Nat.le_of_not_lt hi), List.getElem?_replicate] at h
    split at h
    · cases h
    · cases h
theorem fn_ok (Fn : FunD K x qual params body scope [] [] f fd) (S : FnScope N ps scope)
    (hb : ∀ (cdv : Value) (A : Around) (outer : List PySem.Env) (s : Shared) (H : Hp) (E : XK), Room k (A.deeper (envOfC qual scope s.heap.objs.size f cdv)) → PSs (cxOf (L2.CX P w) P w K mg base N qual scope f cdv A outer s H E) body (tS (cE K E) m)) :
    FnOk P w K mg base (L2.CX P w) (k + 1) f fd ps (spF K (callM N.length m) ps.length) := by
  refine Fn.ok S (fun vs H Q E h => h.1) fun cdv A outer s H vs Q E hr h => ⟨_, hb cdv A outer s H E hr, ?_⟩
  obtain ⟨_, G, F, io, St, ds, g, r, q⟩ := h
  refine ⟨G, F, io, St, _, g, start_renv (c := cE K E) (N := N) r, ?_⟩
  unfold callM at q
  have keep : ∀ {d : D} {S' : Sto}, Aft (cE K E) G F io [] (rp (cE K E)) Q (trim St d S') → ∀ v F' io' H', Ext F io F' io' → Good K G F' io' H' S' → Rp K F' io' v d → Q v H' := fun {d S'} q v F' io' H' e' g' r' => by
    unfold trim at q
    by_cases h1 : S'.length = St.length
    · rw [if_pos h1] at q
      exact q v F' io' H' e' g' r'
    · rw [if_neg h1] at q
      by_cases h2 : (d.low St.length && (S'.take St.length).all (O.low St.length)) = true
      · rw [if_pos h2] at q
        rw [Bool.and_eq_true] at h2
        have e3 := take_ext e' (g.len)
        have g3 := g'.trim h2.2
        have r3 := rp_low h2.1 r'
        rw [e3] at g3 r3
        exact q v F' io H' ⟨e'.same, [], by simp⟩ g3 r3
      · rw [if_neg h2] at q
        exact q.elim
  cases hm : m (ds.map some ++ List.replicate (N.length - ds.length) none) St with
  | rt d S' =>
    rw [hm] at q
    exact keep q
  | nx ρ' S' =>
    rw [hm] at q
    exact fun σ F' io' H' e' g' _ => keep q .non F' io' H' e' g' Dq.non
  | exc n as ρ' S' =>
    rw [hm] at q
    have q : Aft (cE K E) G F io [] (rp (cE K E)) Q (trimX St n as S') := q
    unfold trimX at q
    intro cls dd σ F' io' H' e' g' _ x'
    by_cases h1 : S'.length = St.length
    · rw [if_pos h1] at q
      exact q cls dd F' io' H' e' g' x'
    · rw [if_neg h1] at q
      by_cases h2 : ((S'.take St.length).all (O.low St.length)) = true
      · rw [if_pos h2] at q
        have e3 := take_ext e' (g.len)
        have g3 := g'.trim h2
        rw [e3] at g3
        exact q cls dd F' io H' ⟨e'.same, [], by simp⟩ g3 x'
      · rw [if_neg h2] at q
        exact q.elim
  | bk ρ' S' => rw [hm] at q; exact q.elim
  | ct ρ' S' => rw [hm] at q; exact q.elim
  | bad => rw [hm] at q; exact q.elim
end
section
variable {X : Cx} {c : Cw} {e : Expr} {es : List Expr} {fr : FA}
/-- a call of a def of one's own -/
theorem fe_own {m : List D → Sto → Res D} {n : Nat} (h : ∀ {t : TA}, PA X es t → PE X e (tCallS (spF c.K m n) (WE c.W) t)) (ha : PA X es (tA c fr)) (hn : es.length = n) (hl : ∀ ρ S ds S', fr ρ S = .ok ds S' → ds.length = es.length) : PE X e (tE c (fCall m fr)) :=
  pe_imp (h ha) fun σ H Q ⟨G, F, io, S, ρ, gd, re, q⟩ => ⟨G, F, io, S, ρ, gd, re, by
    unfold fCall at q
    cases hr : fr ρ S with
    | ok ds S1 =>
      rw [hr] at q
      intro vs F1 i1 H1 e1 g1 r1
      have q2 := Aft.ext (r := m ds S1) q e1
      refine ⟨by rw [paired_len r1, hl ρ S ds S1 hr, hn], G, F1, i1, S1, ds, g1, r1, ?_⟩
      cases hm : m ds S1 with
      | ok d S2 => rw [hm] at q2; exact q2
      | exc n as S2 => rw [hm] at q2; exact q2
      | bad => rw [hm] at q2; exact q2
    | exc n as S1 => rw [hr] at q; exact q
    | bad => rw [hr] at q; exact q⟩
theorem fr_len_nil {ρ : Env} {S : Sto} {ds : List D} {S' : Sto} (h : fNil ρ S = .ok ds S') : ds.length = 0 := by
  unfold fNil at h
  injection h with h1 _
  rw [← h1]
  rfl
theorem fr_len_cons {fa : FE} {fr : FA} {n : Nat} (hr : ∀ ρ S ds S', fr ρ S = .ok ds S' → ds.length = n) {ρ : Env} {S : Sto} {ds : List D} {S' : Sto} (h : fCons fa fr ρ S = .ok ds S') : ds.length = n + 1 := by
  unfold fCons at h
  cases h1 : fa ρ S with
  | ok x S1 =>
    rw [h1] at h
    have h : ((fr ρ S1).bind fun xs S2 => .ok (x :: xs) S2) = .ok ds S' := h
    cases h2 : fr ρ S1 with
    | ok xs S2 =>
      rw [h2] at h
      have h : Res.ok (x :: xs) S2 = .ok ds S' := h
      injection h with h3 _
      rw [← h3, List.length_cons, hr _ _ _ _ h2]
    | exc n as S2 => rw [h2] at h; cases h
    | bad => rw [h2] at h; cases h
  | exc n as S1 => rw [h1] at h; cases h
  | bad => rw [h1] at h; cases h
end
/-! ### built-ins -/
section
variable {c : Cw}
def gLen : List D → Sto → Res D := fun ds S => match ds with
  | [.p (.tuple xs)] => .ok (.p (.int xs.length)) S
  | [.p (.list xs)] => .ok (.p (.int xs.length)) S
  | [.own k] => match S[k]? with
    | some (.lst xs) => .ok (.p (.int xs.length)) S
    | _ => .bad
  | [.mix xs] => .ok (.p (.int xs.length)) S
  | _ => .bad
theorem bc_len : BCall c (fun xs H Q => ∃ p ys, xs = [.ref p] ∧ (SqL c.K H p ys ∨ SqT c.K H p ys) ∧ Q (.int ys.length) H) gLen := fun G F io H S σ xs ds Q gd r q => by
  cases r with
  | nil => exact q.elim
  | @cons v d _ _ ra rb =>
    cases rb with
    | cons _ _ =>
      cases d with
      | p a => cases a <;> exact q.elim
      | _ => exact q.elim
    | nil =>
      cases d with
      | p a =>
        cases a with
        | tuple zs =>
          cases ra with
          | @tup p vs _ hx ha => exact ⟨p, vs, rfl, .inr (sq_t gd.ex hx.sq), hereP q gd (by rw [dpa_len _ _ ha]; exact Dq.int _)⟩
        | list zs =>
          cases ra with
          | @lst p vs _ hx ha => exact ⟨p, vs, rfl, .inl (SqL.of (gd.ex _ _ hx)), hereP q gd (by rw [dpa_len _ _ ha]; exact Dq.int _)⟩
        | _ => exact q.elim
      | own k =>
        have q : Aft c G F io σ (rp c) Q (match S[k]? with
          | some (.lst xs) => .ok (.p (.int xs.length)) S
          | _ => .bad) := q
        cases hk : S[k]? with
        | none => rw [hk] at q; exact q.elim
        | some o =>
          rw [hk] at q
          cases o with
          | lst ys =>
            obtain ⟨a, e1, e2⟩ := ra
            obtain ⟨a', e3, h0, vs, h1, h2⟩ := gd.at_ hk
            rw [e2] at e3
            have e3 : a = a' := Option.some.inj e3
            subst e3
            exact ⟨a, vs, by rw [e1], .inl (SqL.of h1), hereP q gd (by rw [paired_len h2]; exact Dq.int _)⟩
          | _ => exact q.elim
      | mix ys =>
        obtain ⟨a, vs, e1, h1, h2⟩ := ra
        exact ⟨a, vs, by rw [e1], .inl (SqL.of (gd.ex _ _ h1)), hereP q gd (by rw [paired_len h2]; exact Dq.int _)⟩
      | _ => exact q.elim
theorem two_i {α : Type} {t : Int → Int → α} {z : α} {ds : List D} (P : α → Prop) (h : P (match ds with
  | [.p (.int i), .p (.int j)] => t i j
  | _ => z)) (hz : ¬ P z) : ∃ i j, ds = [.p (.int i), .p (.int j)] ∧ P (t i j) := by
  split at h
  · exact ⟨_, _, rfl, h⟩
  · exact absurd h hz
theorem rpa2 {F : Hp} {io : List Addr} {xs : List V} {i j : Int} (r : RpA c.K F io xs [.p (.int i), .p (.int j)]) : xs = [.int i, .int j] := by
  cases r with
  | cons ra rb =>
    cases ra
    cases rb with
    | cons ra rb =>
      cases ra
      cases rb
      rfl
def gMax2 : List D → Sto → Res D := fun ds S => match ds with
  | [.p (.int i), .p (.int j)] => .ok (.p (.int (if j > i then j else i))) S
  | _ => .bad
def gMin2 : List D → Sto → Res D := fun ds S => match ds with
  | [.p (.int i), .p (.int j)] => .ok (.p (.int (if j < i then j else i))) S
  | _ => .bad
theorem bc_max2 : BCall c (fun xs H Q => ∃ i j, xs = [.int i, .int j] ∧ Q (.int (if j > i then j else i)) H) gMax2 := fun G F io H S σ xs ds Q gd r q => by
  obtain ⟨i, j, rfl, q⟩ := two_i (Aft c G F io σ (rp c) Q) q aft_bad
  exact ⟨i, j, rpa2 r, hereP q gd (Dq.int _)⟩
theorem bc_min2 : BCall c (fun xs H Q => ∃ i j, xs = [.int i, .int j] ∧ Q (.int (if j < i then j else i)) H) gMin2 := fun G F io H S σ xs ds Q gd r q => by
  obtain ⟨i, j, rfl, q⟩ := two_i (Aft c G F io σ (rp c) Q) q aft_bad
  exact ⟨i, j, rpa2 r, hereP q gd (Dq.int _)⟩
def gInt : List D → Sto → Res D := fun ds S => match ds with
  | [.p (.int i)] => .ok (.p (.int i)) S
  | [.p (.bool b)] => .ok (.p (.int (if b then 1 else 0))) S
  | _ => .bad
theorem bc_int : BCall c (fun xs H Q => (∃ i, xs = [.int i] ∧ Q (.int i) H) ∨ ∃ k, xs = [.bl k] ∧ Q (.int (if k then 1 else 0)) H) gInt := fun G F io H S σ xs ds Q gd r q => by
  unfold gInt at q
  split at q
  · cases r with
    | cons ra rb =>
      cases ra
      cases rb
      exact .inl ⟨_, rfl, hereP q gd (Dq.int _)⟩
  · cases r with
    | cons ra rb =>
      cases ra
      cases rb
      exact .inr ⟨_, rfl, hereP q gd (Dq.int _)⟩
  · exact q.elim
def boolsOf : List PyData → Option (List Bool)
  | [] => some []
  | .bool b :: r => (boolsOf r).map (b :: ·)
  | _ :: _ => none
theorem bools_ok {F : Hp} : ∀ {ds : List PyData} {vs : List V} {bs : List Bool}, boolsOf ds = some bs → DqA c.K F vs ds → vs = bs.map V.bl
  | [], _, bs, h, r => by
    cases r
    have h : [] = bs := Option.some.inj h
    subst h
    rfl
  | .bool b :: ds, _, bs, h, r => by
    cases r with
    | cons r1 r2 =>
      have h : (boolsOf ds).map (b :: ·) = some bs := h
      cases e : boolsOf ds with
      | none => rw [e] at h; cases h
      | some bs' =>
        rw [e] at h
        have h : b :: bs' = bs := Option.some.inj h
        subst h
        cases r1
        rw [List.map_cons, bools_ok e r2]
  | .none :: _, _, _, h, _ => by cases h
  | .int _ :: _, _, _, h, _ => by cases h
  | .str _ :: _, _, _, h, _ => by cases h
  | .list _ :: _, _, _, h, _ => by cases h
  | .tuple _ :: _, _, _, h, _ => by cases h
  | .dict _ :: _, _, _, h, _ => by cases h
def gAll : List D → Sto → Res D := fun ds S => match ds with
  | [.p (.list xs)] => match boolsOf xs with
    | some bs => .ok (.p (.bool (bs.all id))) S
    | none => .bad
  | _ => .bad
def gAny : List D → Sto → Res D := fun ds S => match ds with
  | [.p (.list xs)] => match boolsOf xs with
    | some bs => .ok (.p (.bool (bs.any id))) S
    | none => .bad
  | _ => .bad
theorem bc_all : BCall c (rAll c.K) gAll := fun G F io H S σ xs ds Q gd r q => by
  unfold gAll at q
  split at q
  · cases r with
    | cons ra rb =>
      cases rb
      cases ra with
      | @lst a vs _ hx ha =>
        split at q
        · rename_i bs hb
          refine ⟨a, bs, rfl, ?_, hereP q gd (Dq.bl _)⟩
          rw [← bools_ok hb ha]
          exact SqL.of (gd.ex _ _ hx)
        · exact q.elim
  · exact q.elim
theorem bc_any : BCall c (rAny c.K) gAny := fun G F io H S σ xs ds Q gd r q => by
  unfold gAny at q
  split at q
  · cases r with
    | cons ra rb =>
      cases rb
      cases ra with
      | @lst a vs _ hx ha =>
        split at q
        · rename_i bs hb
          refine ⟨a, bs, rfl, ?_, hereP q gd (Dq.bl _)⟩
          rw [← bools_ok hb ha]
          exact SqL.of (gd.ex _ _ hx)
        · exact q.elim
  · exact q.elim
/-! isinstance -/
inductive Ty where
  | int | bool | tuple | list | str | dict
def Ty.nm : Ty → String
  | .int => "int"
  | .bool => "bool"
  | .tuple => "tuple"
  | .list => "list"
  | .str => "str"
  | .dict => "dict"
def isT : Ty → PyData → Bool
  | .int, .int _ => true
  | .int, .bool _ => true
  | .bool, .bool _ => true
  | .tuple, .tuple _ => true
  | .list, .list _ => true
  | .str, .str _ => true
  | .dict, .dict _ => true
  | _, _ => false
def tyN : PyData → String
  | .none => "NoneType"
  | .bool _ => "bool"
  | .int _ => "int"
  | .str _ => "str"
  | .list _ => "list"
  | .tuple _ => "tuple"
  | .dict _ => "dict"
theorem tyx_of {K : PySem.W.Frag} {F H : Hp} (e : Same F H) {v : V} {d : PyData} (h : Dq K F v d) : TyX K H v (.type (tyN d)) := by
  cases h with
  | non => exact .base .non
  | bl b => exact .base (.bl b)
  | int i => exact .base (.int i)
  | str x => exact .base (.str x)
  | lst hx ha => exact .base (.lst (e _ _ hx))
  | dic hx ha => exact .base (.dT (e _ _ hx))
  | tup hx ha =>
    rcases hx.sq with (hx | ⟨o, hx⟩) | ⟨o, its, n, h1, h2, _⟩
    · exact .base (.tup (e _ _ hx))
    · exact .fTuple (e _ _ hx)
    · exact .kTuple h1 h2
def isK : Ty → String → Bool
  | .int, "int" => true
  | .int, "bool" => true
  | .bool, "bool" => true
  | .tuple, "tuple" => true
  | .list, "list" => true
  | .str, "str" => true
  | .dict, "dict" => true
  | _, _ => false
theorem isK_of (t : Ty) (d : PyData) : isK t (tyN d) = isT t d := by
  cases d <;> cases t <;> rfl
theorem kit_nm : ∀ n ∈ ["NoneType", "bool", "int", "str", "list", "tuple", "dict"], ∀ t : Ty, kitB n t.nm = some (isK t n) := by
  intro n hn t
  simp only [List.mem_cons, List.not_mem_nil, or_false] at hn
  rcases hn with rfl | rfl | rfl | rfl | rfl | rfl | rfl <;> cases t <;> decide +kernel
theorem kit_isT (t : Ty) (d : PyData) : kitB (tyN d) t.nm = some (isT t d) := by
  rw [← isK_of t d]
  refine kit_nm _ ?_ t
  cases d <;> simp [tyN]
end
end Tw
namespace Tw
open PySem PySem.Spec PyProof.Rows L2

/-! ### list comprehensions -/
def Res.noX {α : Type} : Res α → Res α
  | .exc _ _ _ => .bad
  | r => r
def wipeE (ρ : Env) : List Nat → Env
  | [] => ρ
  | v :: vs => (wipeE ρ vs).set v none
theorem renv_wipe {c : Cw} {F : Hp} {io : List Addr} {σ : L2.St} {ρ : Env} (h : REnv c F io σ ρ) : ∀ vs : List Nat, REnv c F io (wipe σ vs) (wipeE ρ vs)
  | [] => h
  | v :: vs => renv_none (renv_wipe h vs) v
def compL (g : FG) (ft fe : FE) (ρw : Env) : List D → Sto → Res (List D)
  | [], S => .ok [] S
  | d :: ds, S => match g d ρw with
    | none => .bad
    | some ρ1 => (ft ρ1 S).noX.asB.bind fun k S1 => if k = true then (fe ρ1 S1).noX.bind fun x S2 => (compL g ft fe ρw ds S2).bind fun xs S3 => .ok (x :: xs) S3 else compL g ft fe ρw ds S1
def fYes : FE := fun _ S => .ok (.p (.bool true)) S
def compEnd (xs : List D) (S : Sto) : Res D := match asPs xs with
  | some ps => .ok (.p (.list ps)) S
  | none => .bad
def fComp (vs : List Nat) (fi : FI) (g : FG) (ft fe : FE) : FE := fun ρ S => (fi ρ S).bind fun ds S1 => if ds.length < lim then (compL g ft fe (wipeE ρ vs) ds S1).bind compEnd else .bad
theorem gtu {G : Hp} {p : Addr} {o : HO} (h : ∀ (a : Addr) (u : HO), G a = some u → ∀ xs, u ≠ .tup xs) (ho : ∀ xs, o ≠ .tup xs) : ∀ (a : Addr) (u : HO), upd G p o a = some u → ∀ xs, u ≠ .tup xs := fun a u q => by
  by_cases ha : a = p
  · subst ha
    rw [upd_same] at q
    obtain rfl := Option.some.inj q
    exact ho
  · rw [upd_ne ha] at q
    exact h a u q
theorem Good.hold {K : PySem.W.Frag} {G F : Hp} {io : List Addr} {H : Hp} {S : Sto} {p : Addr} {o : HO} (g : Good K G F io H S) (h : H p = none) (ho : ∀ xs, o ≠ .tup xs := by intro xs z; cases z) : Good K (upd G p o) F io (upd H p o) S := by
  have hf := g.out h
  have hne : ∀ {a : Addr}, a ∈ io → a ≠ p := fun ha => by
    obtain ⟨u, hu⟩ := g.mem ha
    exact ne_of_none hu h
  refine ⟨fun b u q => ?_, upd_both g.gx, fun a u q => ?_, g.nd, g.len, fun k a o' h1 h2 => ?_, gtu g.gt ho⟩
  · rw [upd_ne (ne_of_none q hf)]
    exact g.ex _ _ q
  · by_cases ha : a = p
    · subst ha
      exact ⟨hf, fun hm => hne hm rfl⟩
    · rw [upd_ne ha] at q
      exact g.gf a u q
  · have ha := hne (List.mem_of_getElem? h1)
    exact oat_step (Ext.refl F io) (fun z => z) (fun _ => upd_ne ha) (g.ob k a o' h1 h2)
theorem Good.rehold {K : PySem.W.Frag} {G F : Hp} {io : List Addr} {H : Hp} {S : Sto} {p : Addr} {o u : HO} (g : Good K (upd G p o) F io H S) (ho : ∀ xs, u ≠ .tup xs := by intro xs z; cases z) : Good K (upd G p u) F io (upd H p u) S := by
  obtain ⟨hf, hio⟩ := g.gf p o upd_same
  refine ⟨fun b u q => ?_, fun b v q => ?_, fun a v q => ?_, g.nd, g.len, fun k a o' h1 h2 => ?_, fun a v q => ?_⟩
  · rw [upd_ne (ne_of_none q hf)]
    exact g.ex _ _ q
  · by_cases hb : b = p
    · subst hb
      rw [upd_same] at q ⊢
      exact q
    · rw [upd_ne hb] at q ⊢
      exact g.gx _ _ (by rw [upd_ne hb]; exact q)
  · by_cases ha : a = p
    · subst ha
      exact ⟨hf, hio⟩
    · rw [upd_ne ha] at q
      exact g.gf a v (by rw [upd_ne ha]; exact q)
  · have ha : a ≠ p := fun z => hio (z ▸ List.mem_of_getElem? h1)
    exact oat_step (Ext.refl F io) (fun z => z) (fun _ => upd_ne ha) (g.ob k a o' h1 h2)
  · by_cases ha : a = p
    · subst ha
      rw [upd_same] at q
      obtain rfl := Option.some.inj q
      exact ho
    · rw [upd_ne ha] at q
      exact g.gt a v (by rw [upd_ne ha]; exact q)
theorem Good.unhold {K : PySem.W.Frag} {G F : Hp} {io : List Addr} {H : Hp} {S : Sto} {p : Addr} {o : HO} (g : Good K (upd G p o) F io H S) (hG : G p = none) : Good K G (upd F p o) io H S ∧ Ext F io (upd F p o) io := by
  obtain ⟨hf, hio⟩ := g.gf p o upd_same
  have e : Ext F io (upd F p o) io := ⟨upd_one hf, [], by simp⟩
  refine ⟨⟨fun b u q => ?_, fun b v q => g.gx _ _ (by rw [upd_ne (ne_of_none q hG)]; exact q), fun a v q => ?_, g.nd, g.len, fun k a o' h1 h2 => ?_, fun a v q => g.gt a v (by rw [upd_ne (ne_of_none q hG)]; exact q)⟩, e⟩
  · by_cases hb : b = p
    · subst hb
      rw [upd_same] at q
      have hq : o = u := Option.some.inj q
      subst hq
      exact g.gx _ _ upd_same
    · rw [upd_ne hb] at q
      exact g.ex _ _ q
  · have ha := ne_of_none q hG
    obtain ⟨h1, h2⟩ := g.gf a v (by rw [upd_ne ha]; exact q)
    exact ⟨by rw [upd_ne ha]; exact h1, h2⟩
  · have ha : a ≠ p := fun z => hio (z ▸ List.mem_of_getElem? h1)
    exact oat_step e (fun z => by rw [upd_ne ha]; exact z) (fun _ => rfl) (g.ob k a o' h1 h2)
abbrev Cw.dry (c : Cw) : Cw := ⟨c.K, c.U, fun _ _ _ _ => False⟩
section
variable {c : Cw}
theorem renv_dry {F : Hp} {io : List Addr} {σ : L2.St} {ρ : Env} (h : REnv c F io σ ρ) : REnv c.dry F io σ ρ := ⟨h.1, fun i d q => by
  obtain ⟨v, h1, h2⟩ := h.2 i d q
  exact ⟨v, h1, by cases d <;> exact h2⟩⟩
/-- what follows r, from what follows r without errors -/
theorem Aft.dry {α β γ δ : Type} {G F : Hp} {io : List Addr} {σ τ : L2.St} {R : Hp → List Addr → β → α → Prop} {Q : β → Hp → Prop} {R1 : Hp → List Addr → δ → γ → Prop} {Q1 : δ → Hp → Prop} {r : Res γ} {k : γ → Sto → Res α}
    (h : Aft c G F io σ R Q (r.noX.bind k)) (go : ∀ d S1 v F1 io1 H1, Ext F io F1 io1 → Good c.K G F1 io1 H1 S1 → R1 F1 io1 v d → Aft c G F1 io1 σ R Q (k d S1) → Q1 v H1) {G2 : Hp}
    (gg : ∀ F1 io1 H1 S1, Good c.K G2 F1 io1 H1 S1 → Good c.K G F1 io1 H1 S1) : Aft c.dry G2 F io τ R1 Q1 r := by
  cases r with
  | ok d S1 => exact fun v F1 io1 H1 e g r => go d S1 v F1 io1 H1 e (gg _ _ _ _ g) r (Aft.ext (r := k d S1) h e)
  | exc n as S => exact h.elim
  | bad => exact h.elim
end
theorem Good.drop {K : PySem.W.Frag} {G F : Hp} {io : List Addr} {H : Hp} {S : Sto} {p : Addr} {o : HO} (g : Good K (upd G p o) F io H S) (hG : G p = none) : Good K G F io H S :=
  ⟨g.ex, fun b v q => g.gx _ _ (by rw [upd_ne (ne_of_none q hG)]; exact q), fun a v q => g.gf a v (by rw [upd_ne (ne_of_none q hG)]; exact q), g.nd, g.len, g.ob, fun a v q => g.gt a v (by rw [upd_ne (ne_of_none q hG)]; exact q)⟩
theorem asPs_app : ∀ {xs ys : List D}, asPs (xs ++ ys) = (asPs xs).bind fun a => (asPs ys).map (a ++ ·)
  | [], ys => by cases h : asPs ys <;> simp [asPs, h]
  | .p d :: xs, ys => by
    show (asPs (xs ++ ys)).map (d :: ·) = ((asPs xs).map (d :: ·)).bind fun a => (asPs ys).map (a ++ ·)
    rw [asPs_app]
    cases asPs xs with
    | none => rfl
    | some a => cases asPs ys <;> rfl
  | .own _ :: _, _ => rfl
  | .wld _ _ :: _, _ => rfl
  | .exn :: _, _ => rfl
  | .scr _ :: _, _ => rfl
  | .dz _ :: _, _ => rfl
  | .fn _ :: _, _ => rfl
  | .err _ _ :: _, _ => rfl
  | .mix _ :: _, _ => rfl
  | .mtp _ :: _, _ => rfl
theorem paired_app {α β : Type} {R : α → β → Prop} : ∀ {xs : List α} {ys : List β} {as : List α} {bs : List β}, Paired R xs ys → Paired R as bs → Paired R (xs ++ as) (ys ++ bs)
  | _, _, _, _, .nil, h => h
  | _, _, _, _, .cons r t, h => .cons r (paired_app t h)
section
variable {X : Cx} {c : Cw} {e elt tg iter : Expr} {vs : List Nat} {fi : FI} {g : FG} {ft fe : FE}
/-- what ends a comprehension's run: the list at hand becomes a value -/
def CeOk (c : Cw) (ce : List D → Sto → Res D) : Prop := ∀ {G F : Hp} {io : List Addr} {H : Hp} {S : Sto} {σ : L2.St} {Q : VK} {Dl : Addr} {vacc : List V} {acc : List D}, Good c.K (upd G Dl (.lst vacc)) F io H S → G Dl = none → RpA c.K F io vacc acc → Aft c G F io σ (rp c) Q (ce acc S) → Q (.ref Dl) H
def fCompG (ce : List D → Sto → Res D) (vs : List Nat) (fi : FI) (g : FG) (ft fe : FE) : FE := fun ρ S => (fi ρ S).bind fun ds S1 => if ds.length < lim then (compL g ft fe (wipeE ρ vs) ds S1).bind ce else .bad
theorem ce_end : CeOk c compEnd := fun {G F io H S σ Q Dl vacc acc} g2 hG ra q2 => by
  unfold compEnd at q2
  cases ha : asPs acc with
  | none => rw [ha] at q2; exact q2.elim
  | some ps =>
    rw [ha] at q2
    obtain ⟨g4, e4⟩ := g2.unhold hG
    exact q2 (.ref Dl) _ _ _ e4 g4 (.lst upd_same (dpa_mono e4.same _ _ (asPs_ok ha ra)))
theorem lc_mainG {ce : List D → Sto → Res D} (hce : CeOk c ce) (σ : L2.St) (H : Hp) (Q : VK) (h : tE c (fCompG ce vs fi g ft fe) σ H Q) : tLc (tI c fi) (tG c.dry vs g) (tT c.dry ft) (tE c.dry fe) vs σ H Q := by
  obtain ⟨G, F, io, S, ρ, gd, re, q⟩ := h
  refine ⟨G, F, io, S, ρ, gd, re, Aft.step q fun ds S1 J F1 i1 H1 e1 g1 it q1 Dl hD => ?_⟩
  have q1 : Aft c G F1 i1 σ (rp c) Q (if ds.length < lim then (compL g ft fe (wipeE ρ vs) ds S1).bind ce else .bad) := q1
  by_cases hlim : ds.length < lim
  · rw [if_pos hlim] at q1
    have hG : G Dl = none := by
      cases hq : G Dl with
      | none => rfl
      | some o =>
        have := g1.gx _ _ hq
        rw [hD] at this
        cases this
    refine ⟨fun i m H' => m = ds.length - i ∧ i ≤ ds.length ∧ ∃ F2 io2 S2 acc vacc, Ext F1 i1 F2 io2 ∧ Good c.K (upd G Dl (.lst vacc)) F2 io2 H' S2 ∧ RpA c.K F2 io2 vacc acc ∧ acc.length ≤ i ∧
        Aft c G F2 io2 σ (rp c) Q ((compL g ft fe (wipeE ρ vs) (ds.drop i) S2).bind fun xs S3 => ce (acc ++ xs) S3),
      ⟨_, rfl, Nat.zero_le _, F1, i1, S1, [], [], Ext.refl _ _, g1.hold hD, .nil, Nat.le_refl _, q1⟩, ?_⟩
    rintro i m H' ⟨rfl, hi, F2, io2, S2, acc, vacc, e2, g2, ra, hacc, q2⟩
    by_cases hlt : i < ds.length
    · obtain ⟨hgo, hy⟩ := it.go i _ H' F2 io2 S2 hlt e2 g2
      refine .inr ⟨hgo, _, fun H3 n => ⟨ds.length - (i + 1), by omega, n⟩, fun x H3 y => ?_⟩
      obtain ⟨F3, e3, g3, d, hd, rd⟩ := hy x H3 y
      have hdr : ds.drop i = d :: ds.drop (i + 1) := by
        rw [List.drop_eq_getElem_cons hlt]
        rw [List.getElem?_eq_getElem hlt] at hd
        rw [Option.some.inj hd]
      rw [hdr] at q2
      have q2 : Aft c G F2 io2 σ (rp c) Q ((match g d (wipeE ρ vs) with
        | none => .bad
        | some ρ1 => (ft ρ1 S2).noX.asB.bind fun k S1 => if k = true then (fe ρ1 S1).noX.bind fun x S2 => (compL g ft fe (wipeE ρ vs) (ds.drop (i + 1)) S2).bind fun xs S3 => .ok (x :: xs) S3 else compL g ft fe (wipeE ρ vs) (ds.drop (i + 1)) S1 : Res (List D)).bind fun xs S3 => ce (acc ++ xs) S3) := q2
      cases hg : g d (wipeE ρ vs) with
      | none => rw [hg] at q2; exact q2.elim
      | some ρ1 =>
        rw [hg] at q2
        have q2 := Aft.ext q2 e3
        have re3 := renv_wipe (renv_mono e3 (renv_mono e2 (renv_mono e1 re))) vs
        refine ⟨_, F3, io2, S2, d, _, ρ1, g3, rd, renv_dry re3, hg, fun σ4 re4 w4 => ⟨w4.trans (wipe_idem vs), _, F3, io2, S2, ρ1, g3, re4, ?_⟩⟩
        have key : ∀ {r : Res D} {k : Bool → Sto → Res (List D)}, Aft c G F3 io2 σ (rp c) Q ((r.noX.asB.bind k).bind fun xs S3 => ce (acc ++ xs) S3) → ∀ {Q1 : Bool → Hp → Prop},
            (∀ b S5 F5 io5 H5, Ext F3 io2 F5 io5 → Good c.K (upd G Dl (.lst vacc)) F5 io5 H5 S5 → Aft c G F5 io5 σ (rp c) Q ((k b S5).bind fun xs S3 => ce (acc ++ xs) S3) → Q1 b H5) → Aft c.dry (upd G Dl (.lst vacc)) F3 io2 σ4 rpB Q1 r.asB := fun {r k} q {Q1} go => by
          cases r with
          | ok d5 S5 =>
            cases d5 with
            | p d6 =>
              cases d6 with
              | bool b =>
                intro b' F5 io5 H5 e5 g5 r5
                have r5 : b' = b := r5
                subst r5
                exact go b' S5 F5 io5 H5 e5 g5 (Aft.ext (r := (k b' S5).bind fun xs S3 => ce (acc ++ xs) S3) q e5)
              | _ => exact q.elim
            | _ => exact q.elim
          | exc n as S5 => exact q.elim
          | bad => exact q.elim
        refine key q2 fun b S5 F5 io5 H5 e5 g5 q5 => ?_
        cases b with
        | false =>
          have q5 : Aft c G F5 io5 σ (rp c) Q ((compL g ft fe (wipeE ρ vs) (ds.drop (i + 1)) S5).bind fun xs S3 => ce (acc ++ xs) S3) := q5
          exact ⟨rfl, hlt, F5, io5, S5, acc, vacc, (e2.trans e3).trans e5, g5, rpa_mono (e3.trans e5) ra, Nat.le_succ_of_le hacc, q5⟩
        | true =>
          have q5 : Aft c G F5 io5 σ (rp c) Q (((fe ρ1 S5).noX.bind fun x S2 => (compL g ft fe (wipeE ρ vs) (ds.drop (i + 1)) S2).bind fun xs S3 => .ok (x :: xs) S3).bind fun xs S3 => ce (acc ++ xs) S3) := q5
          refine ⟨_, F5, io5, S5, ρ1, g5, renv_mono e5 re4, ?_⟩
          cases hr : fe ρ1 S5 with
          | exc n as S6 => rw [hr] at q5; exact q5.elim
          | bad => rw [hr] at q5; exact q5.elim
          | ok y S6 =>
            rw [hr] at q5
            intro v F6 io6 H6 e6 g6 r6
            have q6 : Aft c G F5 io5 σ (rp c) Q (((compL g ft fe (wipeE ρ vs) (ds.drop (i + 1)) S6).bind fun xs S3 => .ok (y :: xs) S3).bind fun xs S3 => ce (acc ++ xs) S3) := q5
            have q6 := Aft.ext q6 e6
            refine ⟨vacc, g6.gx _ _ upd_same, ?_, rfl, hlt, F6, io6, S6, acc ++ [y], vacc ++ [v], ((e2.trans e3).trans e5).trans e6, g6.rehold, paired_app (rpa_mono ((e3.trans e5).trans e6) ra) (.cons r6 .nil), by simp; omega, ?_⟩
            · rw [paired_len ra]
              exact Nat.lt_of_lt_of_le (Nat.lt_of_le_of_lt hacc (Nat.lt_trans hlt hlim)) lim_line
            · have same : (((compL g ft fe (wipeE ρ vs) (ds.drop (i + 1)) S6).bind fun xs S3 => .ok (y :: xs) S3).bind fun xs S3 => ce (acc ++ xs) S3) = ((compL g ft fe (wipeE ρ vs) (ds.drop (i + 1)) S6).bind fun xs S3 => ce (acc ++ [y] ++ xs) S3) := by
                cases compL g ft fe (wipeE ρ vs) (ds.drop (i + 1)) S6 with
                | ok xs S7 =>
                  show ce (acc ++ y :: xs) S7 = ce (acc ++ [y] ++ xs) S7
                  rw [List.append_assoc]
                  rfl
                | exc n as S7 => rfl
                | bad => rfl
              rw [same] at q6
              exact q6
    · have e0 : i = ds.length := by omega
      subst e0
      rw [List.drop_length] at q2
      refine .inl ⟨it.stop _ _ H' F2 io2 S2 (Nat.le_refl _) e2 g2, ?_⟩
      have q2 : Aft c G F2 io2 σ (rp c) Q (ce (acc ++ []) S2) := q2
      rw [List.append_nil] at q2
      exact hce g2 hG ra q2
  · rw [if_neg hlim] at q1
    exact q1.elim
where
  wipe_idem {σ : L2.St} (vs : List Nat) : wipe (wipe σ vs) vs = wipe σ vs := by
    have off : ∀ {σ : L2.St} {i : Nat} {ws : List Nat}, i ∈ ws → (wipe σ ws).set i none = wipe σ ws := fun {σ i ws} => by
      induction ws with
      | nil => intro h; cases h
      | cons w ws ih =>
        intro h
        show ((wipe σ ws).set w none).set i none = (wipe σ ws).set w none
        by_cases hw : i = w
        · subst hw
          rw [List.set_set]
        · rw [List.set_comm _ _ (Ne.symm hw), ih ((List.mem_cons.mp h).resolve_left hw)]
    have sub : ∀ (us : List Nat), (∀ u ∈ us, u ∈ vs) → wipe (wipe σ vs) us = wipe σ vs := by
      intro us
      induction us with
      | nil => intro _; rfl
      | cons u us ih =>
        intro h
        show (wipe (wipe σ vs) us).set u none = wipe σ vs
        rw [ih fun x hx => h x (List.mem_cons_of_mem _ hx), off (h u List.mem_cons_self)]
    exact sub vs fun _ h => h
theorem lc_main (σ : L2.St) (H : Hp) (Q : VK) (h : tE c (fComp vs fi g ft fe) σ H Q) : tLc (tI c fi) (tG c.dry vs g) (tT c.dry ft) (tE c.dry fe) vs σ H Q := lc_mainG ce_end σ H Q h
theorem fe_comp (h : ∀ {wi : TI} {tg' : TG} {tt : TT} {te : TE}, PI X tg iter wi → (∀ (s : Shared) (H : Hp) (C : Addr) (cl : List (Str × Addr)) (fp : List Addr), PG (X.blk s H scope (compEnvC scope cl C X.env) fp) tg tg') →
    (∀ (s : Shared) (H : Hp) (C : Addr) (cl : List (Str × Addr)) (fp : List Addr), PTs (X.blk s H scope (compEnvC scope cl C X.env) fp) ifs tt) → (∀ (s : Shared) (H : Hp) (C : Addr) (cl : List (Str × Addr)) (fp : List Addr), PE (X.blk s H scope (compEnvC scope cl C X.env) fp) elt te) →
    PE X e (tLc wi tg' tt te vs)) (hi : PI X tg iter (tI c fi)) (hg : ∀ (s : Shared) (H : Hp) (C : Addr) (cl : List (Str × Addr)) (fp : List Addr), PG (X.blk s H scope (compEnvC scope cl C X.env) fp) tg (tG c.dry vs g))
    (ht : ∀ (s : Shared) (H : Hp) (C : Addr) (cl : List (Str × Addr)) (fp : List Addr), PTs (X.blk s H scope (compEnvC scope cl C X.env) fp) ifs (tT c.dry ft)) (he : ∀ (s : Shared) (H : Hp) (C : Addr) (cl : List (Str × Addr)) (fp : List Addr), PE (X.blk s H scope (compEnvC scope cl C X.env) fp) elt (tE c.dry fe)) :
    PE X e (tE c (fComp vs fi g ft fe)) := pe_imp (h hi hg ht he) lc_main
theorem fs_comp {i : Nat} {st : Stmt} (h : ∀ {wi : TI} {tg' : TG} {tt : TT} {te : TE}, PI X tg iter wi → (∀ (s : Shared) (H : Hp) (C : Addr) (cl : List (Str × Addr)) (fp : List Addr), PG (X.blk s H scope (compEnvC scope cl C X.env) fp) tg tg') →
    (∀ (s : Shared) (H : Hp) (C : Addr) (cl : List (Str × Addr)) (fp : List Addr), PTs (X.blk s H scope (compEnvC scope cl C X.env) fp) ifs tt) → (∀ (s : Shared) (H : Hp) (C : Addr) (cl : List (Str × Addr)) (fp : List Addr), PE (X.blk s H scope (compEnvC scope cl C X.env) fp) elt te) →
    PS X st (tAsg (tLc wi tg' tt te vs) (gName i))) (hi : PI X tg iter (tI c fi)) (hg : ∀ (s : Shared) (H : Hp) (C : Addr) (cl : List (Str × Addr)) (fp : List Addr), PG (X.blk s H scope (compEnvC scope cl C X.env) fp) tg (tG c.dry vs g))
    (ht : ∀ (s : Shared) (H : Hp) (C : Addr) (cl : List (Str × Addr)) (fp : List Addr), PTs (X.blk s H scope (compEnvC scope cl C X.env) fp) ifs (tT c.dry ft)) (he : ∀ (s : Shared) (H : Hp) (C : Addr) (cl : List (Str × Addr)) (fp : List Addr), PE (X.blk s H scope (compEnvC scope cl C X.env) fp) elt (tE c.dry fe)) :
    PS X st (tS c (fSet i (fComp vs fi g ft fe))) := ps_imp (h hi hg ht he) fun N σ H ⟨G, F, io, S, ρ, gd, re, q⟩ =>
  lc_main σ H _ ⟨G, F, io, S, ρ, gd, re, AftS.step q re fun d S1 v F1 io1 H1 e1 g1 r1 q1 => AftS.here q1 g1 (renv_set (renv_mono e1 re) (rpe_of r1) i)⟩
theorem fts_nil : PTs X [] (tT c fYes) := ⟨fun pins s σ H Q I ⟨G, F, io, S, ρ, gd, re, q⟩ => pts_nil.run pins s σ H Q I (Aft.here (v := true) q gd rfl)⟩
theorem fts_one {f : FE} (h : PT X e (tT c f)) : PTs X [e] (tT c f) := pts_one h
end
end Tw
namespace Tw
open PySem PySem.Spec PyProof.Rows L2

section
variable {X : Cx} {c : Cw} {e : Expr} {fa fb fd : FE}
/-! ### a < b < d -/
def fChain (g g' : D → D → Sto → Res D) (fa fb fd : FE) : FE := fun ρ S => (fa ρ S).bind fun x S1 => (fb ρ S1).bind fun y S2 => (g x y S2).asB.bind fun k S3 => if k = true then (fd ρ S3).bind fun z S4 => g' y z S4 else .ok (.p (.bool false)) S3
theorem chain_main {r r' : R2} {g g' : D → D → Sto → Res D} (hr : BOp c r g) (hr' : BOp c r' g') (σ : L2.St) (H : Hp) (Q : VK) (h : tE c (fChain g g' fa fb fd) σ H Q) : tChain r r' (tE c fa) (tE c fb) (tE c fd) σ H Q := by
  obtain ⟨G, F, io, S, ρ, gd, re, q⟩ := h
  refine ⟨G, F, io, S, ρ, gd, re, Aft.step q fun d1 S1 v1 F1 i1 H1 e1 g1 r1 q1 => ⟨G, F1, i1, S1, ρ, g1, renv_mono e1 re, Aft.step q1 fun d2 S2 v2 F2 i2 H2 e2 g2 r2 q2 => ?_⟩⟩
  refine hr G F2 i2 H2 S2 σ v1 v2 d1 d2 _ g2 (rp_mono e2 r1) r2 (aft_b (Q := fun k H3 => if k = true then tE c fd σ H3 fun w' H4 => r' v2 w' H4 Q else Q (.bl false) H3) (Aft.step q2 fun k S3 k' F3 i3 H3 e3 g3 r3 q3 => ?_))
  have r3 : k' = k := r3
  subst r3
  cases k' with
  | true => exact ⟨G, F3, i3, S3, ρ, g3, renv_mono (e1.trans (e2.trans e3)) re, Aft.step q3 fun d4 S4 v4 F4 i4 H4 e4 g4 r4 q4 => hr' G F4 i4 H4 S4 σ v2 v4 d2 d4 Q g4 (rp_mono (e3.trans e4) r2) r4 q4⟩
  | false => exact hereP (v := .bl false) q3 g3 (Dq.bl false)
theorem fe_chain {r r' : R2} {g g' : D → D → Sto → Res D} {a b d : Expr} (h : ∀ {ta tb td : TE}, PE X a ta → PE X b tb → PE X d td → PE X e (tChain r r' ta tb td)) (hr : BOp c r g) (hr' : BOp c r' g') (ha : PE X a (tE c fa)) (hb : PE X b (tE c fb)) (hd : PE X d (tE c fd)) : PE X e (tE c (fChain g g' fa fb fd)) :=
  pe_imp (h ha hb hd) (chain_main hr hr')
theorem ft_chain {r r' : R2} {g g' : D → D → Sto → Res D} {a b d : Expr} (h : ∀ {ta tb td : TE}, PE X a ta → PE X b tb → PE X d td → PT X e (tTest (tChain r r' ta tb td))) (hr : BOp c r g) (hr' : BOp c r' g') (ha : PE X a (tE c fa)) (hb : PE X b (tE c fb)) (hd : PE X d (tE c fd)) : PT X e (tT c (fChain g g' fa fb fd)) :=
  pt_imp (h ha hb hd) fun σ H Q ⟨G, F, io, S, ρ, gd, re, q⟩ => chain_main hr hr' σ H _ ⟨G, F, io, S, ρ, gd, re, aft_b q⟩
/-! ### isinstance(x, T) -/
def fIsi (t : Ty) (fa : FE) : FE := fun ρ S => (fa ρ S).bind fun d S1 => match d with
  | .p d => .ok (.p (.bool (isT t d))) S1
  | .wld _ _ => .bad
  | _ => .bad
theorem fe_isi {t : Ty} {a : Expr} (h : ∀ {ta : TE}, PE X a ta → PE X e (tCB (rIsi c.K) (tCons ta (tCons (tC (.ty t.nm)) tNil)))) (ha : PE X a (tE c fa)) : PE X e (tE c (fIsi t fa)) :=
  pe_imp (h ha) fun σ H Q ⟨G, F, io, S, ρ, gd, re, q⟩ => ⟨G, F, io, S, ρ, gd, re, Aft.step q fun d1 S1 v1 F1 i1 H1 e1 g1 r1 q1 => by
    cases d1 with
    | p d => exact ⟨v1, _, _, _, _, rfl, .ty _, tyx_of g1.ex r1, kit_ty (kit_isT t d), hereP q1 g1 (Dq.bl _)⟩
    | _ => exact q1.elim⟩
/-! ### lists that change -/
def fApp (fo fa : FE) : FE := fun ρ S => (fo ρ S).bind fun o S1 => match o with
  | .own k => match S1[k]? with
    | some (.lst _) => (fa ρ S1).bind fun d S2 => match S2[k]? with
      | some (.lst xs) => if xs.length < lim then .ok (.p .none) (S2.set k (.lst (xs ++ [d]))) else .bad
      | _ => .bad
    | _ => .bad
  | _ => .bad
theorem fe_app {fo : FE} {o a : Expr} (h : ∀ {to ta : TE}, PE X o to → PE X a ta → PE X e (tBM c.K "list" rAppend to (tCons ta tNil))) (ho : PE X o (tE c fo)) (ha : PE X a (tE c fa)) : PE X e (tE c (fApp fo fa)) :=
  pe_imp (h ho ha) fun σ H Q ⟨G, F, io, S, ρ, gd, re, q⟩ => ⟨G, F, io, S, ρ, gd, re, Aft.step q fun o S1 v1 F1 i1 H1 e1 g1 r1 q1 => by
    cases o with
    | own k =>
      have q1 : Aft c G F1 i1 σ (rp c) Q (match S1[k]? with
        | some (.lst _) => (fa ρ S1).bind fun d S2 => match S2[k]? with
          | some (.lst xs) => if xs.length < lim then .ok (.p .none) (S2.set k (.lst (xs ++ [d]))) else .bad
          | _ => .bad
        | _ => .bad) := q1
      cases hk : S1[k]? with
      | none => rw [hk] at q1; exact q1.elim
      | some ob =>
        rw [hk] at q1
        cases ob with
        | lst xs0 =>
          obtain ⟨a0, ea, eo⟩ := r1
          obtain ⟨a', e3, h0, vs, h1, h2⟩ := g1.at_ hk
          rw [eo] at e3
          have e3 : a0 = a' := Option.some.inj e3
          subst e3
          subst ea
          refine ⟨.inl ⟨rfl, vs, SqL.of h1⟩, G, F1, i1, S1, ρ, g1, renv_mono e1 re, Aft.step q1 fun d S2 v2 F2 i2 H2 e2 g2 r2 q2 => ?_⟩
          have q2 : Aft c G F2 i2 σ (rp c) Q (match S2[k]? with
            | some (.lst xs) => if xs.length < lim then .ok (.p .none) (S2.set k (.lst (xs ++ [d]))) else .bad
            | _ => .bad) := q2
          cases hk2 : S2[k]? with
          | none => rw [hk2] at q2; exact q2.elim
          | some ob2 =>
            rw [hk2] at q2
            cases ob2 with
            | lst xs =>
              have q2 : Aft c G F2 i2 σ (rp c) Q (if xs.length < lim then .ok (.p .none) (S2.set k (.lst (xs ++ [d]))) else .bad) := q2
              by_cases hl : xs.length < lim
              · rw [if_pos hl] at q2
                obtain ⟨a', e3, h0', vs', h1', h2'⟩ := g2.at_ hk2
                rw [e2.ix eo] at e3
                have e3 : a0 = a' := Option.some.inj e3
                subst e3
                refine ⟨a0, vs', v2, rfl, rfl, h1', by rw [paired_len h2']; exact Nat.lt_of_lt_of_le hl lim_line, hereP (v := .non) q2 (g2.put (e2.ix eo) h0' ?_) Dq.non⟩
                exact ⟨h0', _, upd_same, paired_app h2' (.cons r2 .nil)⟩
              · rw [if_neg hl] at q2
                exact q2.elim
            | _ => exact q2.elim
        | _ => exact q1.elim
    | _ => exact q1.elim⟩
/-- xs[i] = v -/
def fSetIx (fv fo fi : FE) : FS := fun ρ S => (fv ρ S).thn ρ fun v S1 => (fo ρ S1).thn ρ fun o S2 => (fi ρ S2).thn ρ fun i S3 => match o, i with
  | .own k, .p (.int j) => match S3[k]? with
    | some (.lst xs) => match ixN xs.length j with
      | some m => .nx ρ (S3.set k (.lst (xs.set m v)))
      | none => .bad
    | _ => .bad
  | _, _ => .bad
theorem paired_set {α β : Type} {R : α → β → Prop} {x : α} {y : β} (r : R x y) : ∀ {xs : List α} {ys : List β} (i : Nat), Paired R xs ys → Paired R (xs.set i x) (ys.set i y)
  | _, _, _, .nil => .nil
  | _, _, 0, .cons _ t => .cons r t
  | _, _, i + 1, .cons q t => .cons q (paired_set r i t)
theorem fs_setIx {fv fo fi : FE} {st : Stmt} {ev eo ei : Expr} (h : ∀ {tv to ti : TE}, PE X ev tv → PE X eo to → PE X ei ti → PS X st (tAsg tv (gSub to ti rSetL))) (hv : PE X ev (tE c fv)) (ho : PE X eo (tE c fo)) (hi : PE X ei (tE c fi)) : PS X st (tS c (fSetIx fv fo fi)) :=
  ps_imp (h hv ho hi) fun N σ H ⟨G, F, io, S, ρ, gd, re, q⟩ => ⟨G, F, io, S, ρ, gd, re, AftS.step q re fun d1 S1 v1 F1 i1 H1 e1 g1 r1 q1 =>
    ⟨G, F1, i1, S1, ρ, g1, renv_mono e1 re, AftS.step q1 (renv_mono e1 re) fun d2 S2 v2 F2 i2 H2 e2 g2 r2 q2 =>
      ⟨G, F2, i2, S2, ρ, g2, renv_mono (e1.trans e2) re, AftS.step q2 (renv_mono (e1.trans e2) re) fun d3 S3 v3 F3 i3 H3 e3 g3 r3 q3 => by
        cases d2 with
        | own k =>
          cases d3 with
          | p a =>
            cases a with
            | int j =>
              have q3 : AftS c G F3 i3 N (match S3[k]? with
                | some (.lst xs) => match ixN xs.length j with
                  | some m => .nx ρ (S3.set k (.lst (xs.set m d1)))
                  | none => .bad
                | _ => .bad) := q3
              cases hk : S3[k]? with
              | none => rw [hk] at q3; exact q3.elim
              | some ob =>
                rw [hk] at q3
                cases ob with
                | lst xs =>
                  have q3 : AftS c G F3 i3 N (match ixN xs.length j with
                    | some m => .nx ρ (S3.set k (.lst (xs.set m d1)))
                    | none => .bad) := q3
                  cases hm : ixN xs.length j with
                  | none => rw [hm] at q3; exact q3.elim
                  | some m =>
                    rw [hm] at q3
                    obtain ⟨a0, ea, eo⟩ := r2
                    obtain ⟨a', e4, h0, vs, h1, h2⟩ := g3.at_ hk
                    rw [e3.ix eo] at e4
                    have e4 : a0 = a' := Option.some.inj e4
                    subst e4
                    subst ea
                    cases r3
                    refine ⟨a0, vs, j, m, rfl, rfl, h1, by rw [paired_len h2]; exact hm, AftS.here q3 (g3.put (e3.ix eo) h0 ?_) (renv_mono (e1.trans (e2.trans e3)) re)⟩
                    exact ⟨h0, _, upd_same, paired_set (rp_mono (e2.trans e3) r1) m h2⟩
                | _ => exact q3.elim
            | _ => exact q3.elim
          | _ => exact q3.elim
        | _ => exact q3.elim⟩⟩⟩
/-- what a list that changes holds now, as data: it never changes again -/
def fFrz (fa : FE) : FE := fun ρ S => (fa ρ S).bind fun d S1 => match d with
  | .own k => match S1[k]? with
    | some (.lst xs) => match asPs xs with
      | some ps => .ok (.p (.list ps)) (S1.set k (.fz (.p (.list ps))))
      | none => .bad
    | _ => .bad
  | _ => .bad
theorem fe_frz (h : PE X e (tE c fa)) : PE X e (tE c (fFrz fa)) := pe_imp h fun σ H Q ⟨G, F, io, S, ρ, gd, re, q⟩ => ⟨G, F, io, S, ρ, gd, re, Aft.step q fun d S1 v F1 i1 H1 e1 g1 r1 q1 => by
  cases d with
  | own k =>
    have q1 : Aft c G F1 i1 σ (rp c) Q (match S1[k]? with
      | some (.lst xs) => match asPs xs with
        | some ps => .ok (.p (.list ps)) (S1.set k (.fz (.p (.list ps))))
        | none => .bad
      | _ => .bad) := q1
    cases hk : S1[k]? with
    | none => rw [hk] at q1; exact q1.elim
    | some ob =>
      rw [hk] at q1
      cases ob with
      | lst xs =>
        have q1 : Aft c G F1 i1 σ (rp c) Q (match asPs xs with
          | some ps => .ok (.p (.list ps)) (S1.set k (.fz (.p (.list ps))))
          | none => .bad) := q1
        cases ha : asPs xs with
        | none => rw [ha] at q1; exact q1.elim
        | some ps =>
          rw [ha] at q1
          obtain ⟨a0, ea, eo⟩ := r1
          obtain ⟨a', e4, h0, vs, h1, h2⟩ := g1.at_ hk
          rw [eo] at e4
          have e4 : a0 = a' := Option.some.inj e4
          subst e4
          subst ea
          have rd : Rp c.K (upd F1 a0 (.lst vs)) i1 (.ref a0) (.p (.list ps)) := .lst upd_same (dpa_mono (upd_one h0) _ _ (asPs_ok ha h2))
          obtain ⟨g2, e2⟩ := g1.freeze eo h0 h1 rd
          exact q1 (.ref a0) _ _ _ e2 g2 rd
      | _ => exact q1.elim
  | _ => exact q1.elim⟩
/-! ### tuple(x), list(x) -/
def gTuple : List D → Sto → Res D := fun ds S => match ds with
  | [.p (.tuple xs)] => .ok (.p (.tuple xs)) S
  | [.p (.list xs)] => .ok (.p (.tuple xs)) S
  | [.own k] => match S[k]? with
    | some (.lst xs) => match asPs xs with
      | some ps => .ok (.p (.tuple ps)) S
      | none => .bad
    | _ => .bad
  | _ => .bad
theorem bc_tuple : BCall c (fun xs H Q => ∃ p ys, xs = [.ref p] ∧ ((SqL c.K H p ys ∧ ∀ l, H l = none → Q (.ref l) (upd H l (.tup ys))) ∨ (SqT c.K H p ys ∧ Q (.ref p) H))) gTuple := fun G F io H S σ xs ds Q gd r q => by
  unfold gTuple at q
  split at q
  · cases r with
    | cons ra rb =>
      cases rb
      cases ra with
      | @tup p vs _ hx ha => exact ⟨p, vs, rfl, .inr ⟨sq_t gd.ex hx.sq, hereP q gd (.tup hx ha)⟩⟩
  · cases r with
    | cons ra rb =>
      cases rb
      cases ra with
      | @lst p vs _ hx ha => exact ⟨p, vs, rfl, .inl ⟨SqL.of (gd.ex _ _ hx), new_tup gd ha q⟩⟩
  · rename_i k
    cases r with
    | cons ra rb =>
      cases rb
      obtain ⟨a0, ea, eo⟩ := ra
      subst ea
      split at q
      · rename_i xs hk
        split at q
        · rename_i ps ha
          obtain ⟨a', e4, h0, vs, h1, h2⟩ := gd.at_ hk
          rw [eo] at e4
          have e4 : a0 = a' := Option.some.inj e4
          subst e4
          exact ⟨a0, vs, rfl, .inl ⟨SqL.of h1, new_tup gd (asPs_ok ha h2) q⟩⟩
        · exact q.elim
      · exact q.elim
  · exact q.elim
def gListO : List D → Sto → Res D := fun ds S => match ds with
  | [.scr ns] => .ok (.own S.length) (S ++ [.lst ((ns.map PyData.int).map D.p)])
  | [.p (.tuple xs)] => .ok (.own S.length) (S ++ [.lst (xs.map D.p)])
  | [.p (.list xs)] => .ok (.own S.length) (S ++ [.lst (xs.map D.p)])
  | _ => .bad
def gList : List D → Sto → Res D := fun ds S => match ds with
  | [.p (.tuple xs)] => .ok (.p (.list xs)) S
  | [.p (.list xs)] => .ok (.p (.list xs)) S
  | _ => .bad
theorem new_own {G F H : Hp} {io : List Addr} {S : Sto} {σ : L2.St} {Q : VK} {vs : List V} {ds : List PyData} (g : Good c.K G F io H S) (r : DqA c.K F vs ds) (q : Aft c G F io σ (rp c) Q (.ok (.own S.length) (S ++ [.lst (ds.map D.p)]))) : ∀ p, H p = none → Q (.ref p) (upd H p (.lst vs)) := fun p hp => by
  have e0 : Ext F io F (io ++ [p]) := ⟨Same.refl _, [p], rfl⟩
  obtain ⟨g2, e2⟩ := g.newOwn (o := .lst vs) (x := .lst (ds.map D.p)) hp ⟨g.out hp, vs, upd_same, dqa_rpa r⟩
  exact q (.ref p) _ _ _ e2 g2 ⟨p, rfl, by rw [← g.len]; exact own_last⟩
theorem bc_listO : BCall c (fun xs H Q => ∃ p ys, xs = [.ref p] ∧ (SqL c.K H p ys ∨ SqT c.K H p ys) ∧ ∀ l, H l = none → Q (.ref l) (upd H l (.lst ys))) gListO := fun G F io H S σ xs ds Q gd r q => by
  unfold gListO at q
  split at q
  · rename_i ns
    cases r with
    | cons ra rb =>
      cases rb
      obtain ⟨a0, ea, eo⟩ := ra
      subst ea
      exact ⟨a0, ns.map V.int, rfl, .inl (gd.ex.seq eo), new_own gd (dqa_ints ns) q⟩
  · cases r with
    | cons ra rb =>
      cases rb
      cases ra with
      | @tup p vs _ hx ha => exact ⟨p, vs, rfl, .inr (sq_t gd.ex hx.sq), new_own gd ha q⟩
  · cases r with
    | cons ra rb =>
      cases rb
      cases ra with
      | @lst p vs _ hx ha => exact ⟨p, vs, rfl, .inl (SqL.of (gd.ex _ _ hx)), new_own gd ha q⟩
  · exact q.elim
theorem bc_list : BCall c (fun xs H Q => ∃ p ys, xs = [.ref p] ∧ (SqL c.K H p ys ∨ SqT c.K H p ys) ∧ ∀ l, H l = none → Q (.ref l) (upd H l (.lst ys))) gList := fun G F io H S σ xs ds Q gd r q => by
  unfold gList at q
  split at q
  · cases r with
    | cons ra rb =>
      cases rb
      cases ra with
      | @tup p vs _ hx ha => exact ⟨p, vs, rfl, .inr (sq_t gd.ex hx.sq), new_lst gd ha q⟩
  · cases r with
    | cons ra rb =>
      cases rb
      cases ra with
      | @lst p vs _ hx ha => exact ⟨p, vs, rfl, .inl (SqL.of (gd.ex _ _ hx)), new_lst gd ha q⟩
  · exact q.elim
/-! ### KINDS.index(kind) -/
def fKix (fa : FE) : FE := fun ρ S => (fa ρ S).bind fun d S1 => match d with
  | .p (.str z) => if z = ("a" : Str) then .ok (.p (.int 0)) S1 else if z = ("b" : Str) then .ok (.p (.int 1)) S1 else .bad
  | _ => .bad
theorem fe_kix {a : Expr} {A0 : Addr} (hk : ∃ o, c.K.lookup A0 = some o ∧ o.cls = .type "tuple" ∧ o.dict = none) (hs : ∀ H, SqT c.K H A0 [.str ("a" : Str), .str ("b" : Str)])
    (h : ∀ {ta : TE}, PE X a ta → PE X e (tBM c.K "tuple" (fun x xs H Q => ∃ p, ∃ ys : List Str, ∃ z j, x = .ref p ∧ xs = [.str z] ∧ SqT c.K H p (ys.map V.str) ∧ ys[j]? = some z ∧ (∀ m, m < j → ys[m]? ≠ some z) ∧ Q (.int (j : Nat)) H) (tC (.ref A0)) (tCons ta tNil))) (ha : PE X a (tE c fa)) : PE X e (tE c (fKix fa)) :=
  pe_imp (h ha) fun σ H Q ⟨G, F, io, S, ρ, gd, re, q⟩ => ⟨.inr (.inl ⟨rfl, hk⟩), G, F, io, S, ρ, gd, re, Aft.step q fun d S1 v F1 i1 H1 e1 g1 r1 q1 => by
    cases d with
    | p b =>
      cases b with
      | str z =>
        cases r1
        have q1 : Aft c G F1 i1 σ (rp c) Q (if z = ("a" : Str) then .ok (.p (.int 0)) S1 else if z = ("b" : Str) then .ok (.p (.int 1)) S1 else .bad) := q1
        by_cases h1 : z = ("a" : Str)
        · rw [if_pos h1] at q1
          exact ⟨A0, [("a" : Str), ("b" : Str)], z, 0, rfl, rfl, hs H1, by rw [h1]; rfl, fun m hm => absurd hm (Nat.not_lt_zero m), hereP q1 g1 (Dq.int 0)⟩
        · rw [if_neg h1] at q1
          by_cases h2 : z = ("b" : Str)
          · rw [if_pos h2] at q1
            refine ⟨A0, [("a" : Str), ("b" : Str)], z, 1, rfl, rfl, hs H1, by rw [h2]; rfl, fun m hm => ?_, hereP q1 g1 (Dq.int 1)⟩
            have : m = 0 := by omega
            subst this
            exact fun w => h1 (Option.some.inj w).symm
          · rw [if_neg h2] at q1
            exact q1.elim
      | _ => exact q1.elim
    | _ => exact q1.elim⟩
/-! ### raise -/
def fRaise0 (n : Str) : FS := fun ρ S => .exc n [] ρ S
theorem fs_raise0 {n : Str} {st : Stmt} (h : PS X st (fun _ σ H => c.W (.ref (He.ga c.K n)) none σ H)) : PS X st (tS c (fRaise0 n)) := ps_imp h fun N σ H ⟨G, F, io, S, ρ, gd, re, q⟩ =>
  q _ _ σ F io H (Ext.refl _ _) gd re ⟨rfl, .inl ⟨rfl, rfl⟩⟩
theorem mk_bare {C : Addr} {bmB : List Value} {B newId initId : String} {x : Str} {p pos : Pos} (B0 : ExcBaseFacts B newId initId bmB) (q : PySem.W.excIn X.K C bmB newId = true) (gC : X.mg x = some (.ref C))
    (kC : PySem.W.keepIn X.K (.ref C) = true) (r : Raises X (.ref C)) (hg : Gl X x) (hdb : (x == ("__debug__" : Str)) = false := by decide) : PMk X (.Call (.Name x p) [] [] pos) (fun _ H Q => Q (.ref C) none H) := fun pins s σ H Q I h => by
  refine wpAny_Call_Name_kw (ld_glob I hg gC ?_ hdb)
  refine PySem.W.callWith_K0 I.kIn kC ?_
  show wpAny _ _ (call (.ref C) []) _ _ _
  obtain ⟨bm, N0, nm, qn, bs, hdct, sn, sub, ab, col, dd, k0, k1, k2, k3, k5, mN, hC, hN, hni, T⟩ := exc_obj I.kIn q
  obtain ⟨hp, gs, dr, tk, os⟩ := s
  exact wpAny_call_exc_subT B0 T hC hN hni (fun h' e0 hm => mk_of I hm r h (I.hok.gone hm.new)) (Nat.zero_le _)
end
/-! ### no error leaves the law -/
theorem fn_calm {P : Program} {w : World} {K : PySem.W.Frag} {mg : Str → Option Value} {base : Heap} {k : Nat} {f : Addr} {fd : FuncData} {ps : List Str} {sp sp' : Sp} (Fn : FnOk P w K mg base (L2.CX P w) k f fd ps sp)
    (h : ∀ vs H Q E, sp' vs H Q E → sp vs H Q fun _ _ _ => False) : FnOk P w K mg base CX0 k f fd ps sp' := by
  refine ⟨fun vs H Q E q => Fn.len vs H Q _ (h vs H Q E q), fun A outer s H args us vs Q E hr e0 hb r hs => ?_⟩
  refine codeAny_mono (Fn.run A outer s H args us vs Q _ hr e0 hb r (h vs H Q E hs)) fun res s' hq => ?_
  cases res with
  | error er =>
    obtain ⟨_, _, _, _, _, _, _, _, _, _, _, _, z⟩ := (show L2.CX P w outer H s (fun _ _ _ => False) er s' from hq)
    exact z.elim
  | ok fl => cases fl <;> exact hq
end Tw
namespace Tw
open PySem PySem.Spec PyProof.Rows L2

/-! ### try with several clauses, some of them with a name -/
structure Cl where
  cv : Value
  nm : Option Nat
  ts : Addr → Value → Option Addr → TS
/-- the ends behind a suite: the name's slot is empty -/
def endsOf (N : Ends) : Option Nat → Ends
  | none => N
  | some i => ⟨fun τ K' => N.nx (τ.set i none) K', N.rt, fun τ K' => N.bk (τ.set i none) K', fun τ K' => N.ct (τ.set i none) K'⟩
def slotOf (τ : L2.St) (a : Addr) : Option Nat → L2.St
  | none => τ
  | some i => τ.set i (some (.ref a))
def wMix (K : PySem.W.Frag) (Wo : WX) (N : Ends) : List Cl → WX
  | [] => Wo
  | l :: r => fun cv dd τ K' => ∃ b, PySem.W.exmOne K cv l.cv = some b ∧ (b = true → ∀ a, K' a = none → l.ts a cv dd (endsOf N l.nm) (slotOf τ a l.nm) K') ∧ (b = false → wMix K Wo N r cv dd τ K')
inductive ClsOk (X : Cx) : List ExceptHandler → List Cl → Prop
  | nil : ClsOk X [] []
  | bare {x : Str} {cv : Value} {ts : Addr → Value → Option Addr → TS} {b0 : Stmt} {su : List Stmt} {p1 p2 : Pos} {hs : List ExceptHandler} {l : List Cl} (hn : Names X x cv)
      (hsu : ∀ (a : Addr) (ob : Obj) (cl : Value) (dd : Option Addr) (pn : List (Addr × Obj)), Zc cl dd ob → (∃ us, ob.data = .fields us) → PSs (X.suite a ((a, ob) :: pn)) (b0 :: su) (ts a cl dd)) (r : ClsOk X hs l) :
      ClsOk X (.ExceptHandler (some (.Name x p1)) none (b0 :: su) p2 :: hs) (⟨cv, none, ts⟩ :: l)
  | named {x n : Str} {i : Nat} {cv : Value} {ts : Addr → Value → Option Addr → TS} {b0 : Stmt} {su : List Stmt} {p1 p2 : Pos} {hs : List ExceptHandler} {l : List Cl} (hn : Names X x cv) (hi : X.N[i]? = some n) (hl : X.env.kindOf n = some .local)
      (hsu : ∀ (a : Addr) (ob : Obj) (cl : Value) (dd : Option Addr) (pn : List (Addr × Obj)), Zc cl dd ob → (∃ us, ob.data = .fields us) → PSs (X.suite a ((a, ob) :: pn)) (b0 :: su) (ts a cl dd)) (r : ClsOk X hs l) :
      ClsOk X (.ExceptHandler (some (.Name x p1)) (some n) (b0 :: su) p2 :: hs) (⟨cv, some i, ts⟩ :: l)
section
variable {X : Cx} {body : List Stmt} {hd : ExceptHandler} {hs : List ExceptHandler} {l : List Cl} {pos : Pos} {tb : WX → TS} {Wo : WX}
theorem ps_try_mix (st : X.stack = X.env :: X.outer) (fr : X.env.frame = some X.env.locals) (nd : X.N.Nodup) (tk : Takes X Wo)
    (hb : ∀ (W : WX) (pn : List (Addr × Obj)) (xe : Value → Shared → Prop), Takes (X.tr pn xe) W → PassesOwn (model X.prog X.w) X.A X.env xe → PSs (X.tr pn xe) body (tb W))
    (hh : ClsOk X (hd :: hs) l) : PS X (.Try body (hd :: hs) [] [] pos) (fun N τ K' => tb (wMix X.K Wo N l) N τ K') := by
  refine ⟨fun ps s0 τ K' N I0 h => ?_⟩
  have xok := I0.ok
  have frs0 : X.A.frames = some (X.env :: X.outer) := by
    rw [xok.frames]
    rw [st]
  refine wpAny_Try_except ?_
  have hbody := hb (wMix X.K Wo N l) (X.pn ++ ps)
    (fun ev z1 => wpAny (model X.prog X.w) X.A (noteFrame ev X.env) (fun _ z2 => wpAny (model X.prog X.w) X.A (setFlight ev none)
      (fun _ z3 => wpAny (model X.prog X.w) X.A (handleBy ev X.env (hd :: hs)) (SP X ps N) X.xe z3) X.xe z2) X.xe z1)
    (fun u z xx => ?_) PassesOwn.looking
  · refine wpAny_mono (hbody.run [] s0 τ K' N (I0.toTry _) h) (fun fl z1 sp => ?_) (fun _ _ he => he)
    cases fl with
    | next =>
      obtain ⟨t1, k1, j1, q⟩ := sp
      exact wpAny_execs_nil ⟨t1, k1, j1.ofTry xok, q⟩
    | brk =>
      obtain ⟨t1, k1, j1, q⟩ := sp
      exact ⟨t1, k1, j1.ofTry xok, q⟩
    | cont =>
      obtain ⟨t1, k1, j1, q⟩ := sp
      exact ⟨t1, k1, j1.ofTry xok, q⟩
    | ret u =>
      obtain ⟨v, t1, k1, j1, rv, q⟩ := sp
      exact ⟨v, t1, k1, j1.ofTry xok, rv, q⟩
  · -- an error of the body
    obtain ⟨a, B, sI, ps', t1, k1, cl, dd, rfl, j1, nb, up, sky, na, os, ag, wi⟩ := xx
    have J : Inv X ps t1 k1 sI := j1.ofTry xok
    have sky1 : Sky B (X.env :: X.outer) a (Zc cl dd) X.env.locals z.heap := by
      rw [st] at sky
      exact sky
    show wpAny (model X.prog X.w) X.A (noteFrame (.ref a) X.env) _ _ _
    refine Sky.land Zc.steady frs0 fr sky1 fun g3 fl3 up3 => ?_
    have J3 : Inv X ps t1 k1 { z with heap := g3 } := J.landed nb fl3.1 (up.trans up3) os ag
    obtain ⟨o3, us3, at3, zc3, da3⟩ := fl3.there
    have nfr : a ∉ frs (X.env :: X.outer) := fun hm => by
      obtain ⟨_, o9, e9, hno⟩ := fl3.2.2.1.mem hm
      rw [at3] at e9
      cases e9
      exact hno _ da3
    have nL : a ≠ X.env.locals := fun e => nfr (List.mem_filterMap.mpr ⟨X.env, List.mem_cons_self, by rw [fr, e]⟩)
    have nF : a ∉ X.fs := fun hm => by
      obtain ⟨en, h1, h2⟩ := List.mem_filterMap.mp hm
      exact nfr (List.mem_filterMap.mpr ⟨en, List.mem_cons_of_mem _ h1, h2⟩)
    have S3 := J3.suite at3 da3 na nL nF
    have tyA : PySem.W.Looks (model X.prog X.w) g3 (typeOf (.ref a)) cl := fun A Q E s k q => wpAny_typeOf_ref (k _ _ at3) (by
      rw [zc3.1]
      exact q)
    have nameOf : ∀ {x : Str} {cv : Value} {p1 : Pos}, Names X x cv → ∀ {Q E : Value → Shared → Prop}, Q cv { z with heap := g3 } →
        wpAny (model X.prog X.w) (X.A.mark (some (.ref a))) (eval (.Name x p1) X.env) Q E { z with heap := g3 } := fun {x cv p1} hn {Q E} q => by
      obtain ⟨n1, n2, n3 | ⟨n3, n4, n5⟩⟩ := hn
      · exact ld_glob (X := X.suite a ((a, o3) :: (X.pn ++ ps))) S3 n1 n3 q n2
      · exact ld_blt (X := X.suite a ((a, o3) :: (X.pn ++ ps))) S3 n1 n3 n4 q n5 n2
    have walk : ∀ {hs1 : List ExceptHandler} {l1 : List Cl}, ClsOk X hs1 l1 → wMix X.K Wo N l1 cl dd t1 k1 →
        wpAny (model X.prog X.w) X.A (handleBy (.ref a) X.env hs1) (SP X ps N) X.xe { z with heap := g3 } := by
      intro hs1 l1 ok
      induction ok with
      | nil =>
        intro wi
        refine wpAny_handleBy_nil ?_
        obtain ⟨_, _, _, ob, us, T, oT, ts', he, hz, hda, h1, hr⟩ := id fl3
        unfold PySem.passOn
        refine wpAny_bind (wpAny_field he hda h1 ?_)
        rw [if_neg (show ¬ ((Value.ref T == Value.none) = true) from by simp)]
        have last : wpAny (model X.prog X.w) X.A (setFlight (.ref a) X.env.frame) (fun _ z4 => wpAny (model X.prog X.w) X.A (throw (.ref a) : Sem Flow) (SP X ps N) X.xe z4) X.xe { z with heap := g3 } := by
          rw [fr]
          refine HandSPX.setFlight_upZ fl3 fun g4 held up4 => wpAny_throw (tk _ _ ?_)
          refine ⟨a, B, sI, ps, t1, k1, cl, dd, rfl, J, nb, (up.trans up3).trans up4, .inr (.inr ?_), na, os, ag, wi⟩
          rw [st]
          exact held
        first
          | exact wpAny_bind (wpAny_pure (wpAny_bind last))
          | exact wpAny_bind last
      | @bare x cv ts b0 su p1 p2 hs2 l2 hn hsu r ih =>
        intro wi
        obtain ⟨b, eb, yes, no⟩ := wi
        refine wpAny_handleBy_cons (codeAny_handlers_test ?_) (by intro e; cases e)
        refine nameOf hn ((PySem.W.exm_one (M := model X.prog X.w) J3.kIn tyA eb).here ?_)
        cases b with
        | false =>
          show wpAny _ X.A (handleBy (.ref a) X.env hs2) _ _ _
          exact ih (no rfl)
        | true =>
          refine codeAny_handlers_suite ?_
          refine HandSPX.lands_againZ fl3 fun g4 fl4 up4 => ?_
          have J4 : Inv X ps t1 k1 { z with heap := g4 } := J.landed nb fl4.1 ((up.trans up3).trans up4) os ag
          obtain ⟨o4, us4, at4, zc4, da4⟩ := fl4.there
          have S4 := J4.suite at4 da4 na nL nF
          refine wpAny_mono ((hsu a o4 cl dd (X.pn ++ ps) zc4 ⟨_, da4⟩).run [] _ _ k1 _ S4 (yes rfl a na)) (fun fl z6 sp => ?_) (fun _ _ e => False.elim e)
          cases fl with
          | next =>
            obtain ⟨t6, k6, j6, q6⟩ := sp
            exact ⟨t6, k6, j6.unsuite xok, q6⟩
          | brk =>
            obtain ⟨t6, k6, j6, q6⟩ := sp
            exact ⟨t6, k6, j6.unsuite xok, q6⟩
          | cont =>
            obtain ⟨t6, k6, j6, q6⟩ := sp
            exact ⟨t6, k6, j6.unsuite xok, q6⟩
          | ret u =>
            obtain ⟨v6, t6, k6, j6, rv, q6⟩ := sp
            exact ⟨v6, t6, k6, j6.unsuite xok, rv, q6⟩
      | @named x n i cv ts b0 su p1 p2 hs2 l2 hn hi hl hsu r ih =>
        intro wi
        obtain ⟨b, eb, yes, no⟩ := wi
        refine wpAny_handleBy_cons (codeAny_handlers_test ?_) (by intro e; cases e)
        refine nameOf hn ((PySem.W.exm_one (M := model X.prog X.w) J3.kIn tyA eb).here ?_)
        cases b with
        | false =>
          show wpAny _ X.A (handleBy (.ref a) X.env hs2) _ _ _
          exact ih (no rfl)
        | true =>
          refine codeAny_handlers_suite_as ?_
          refine HandSPX.lands_againZ fl3 fun g4 fl4 up4 => ?_
          have J4 : Inv X ps t1 k1 { z with heap := g4 } := J.landed nb fl4.1 ((up.trans up3).trans up4) os ag
          obtain ⟨o4, us4, at4, zc4, da4⟩ := fl4.there
          have S4 := J4.suite at4 da4 na nL nF
          refine store_ok (X := X.suite a ((a, o4) :: (X.pn ++ ps))) (v := .ref a) S4 nd hi (.inl hl) rfl (fun z5 S5 => ?_) (.inr hl)
          refine wpAny_mono ((hsu a o4 cl dd (X.pn ++ ps) zc4 ⟨_, da4⟩).run [] z5 _ k1 _ S5 (yes rfl a na)) (fun fl z6 sp => ?_) (fun _ _ e => False.elim e)
          have off : ∀ {t6 : L2.St} {k6 : Hp} {Q : Shared → Prop}, Inv (X.suite a ((a, o4) :: (X.pn ++ ps))) [] t6 k6 z6 → (∀ z7, Inv X ps (t6.set i none) k6 z7 → Q z7) →
              wpAny (model X.prog X.w) X.A (do bindName X.env n .none; unbindBehindTheSuite X.env n p2) (fun _ z7 => Q z7) X.xe z6 := fun {t6 k6 Q} j6 hq => gone_ok (j6.unsuite xok) nd hi hl hq
          cases fl with
          | next =>
            obtain ⟨t6, k6, j6, q6⟩ := sp
            exact off j6 fun z7 j7 => ⟨_, _, j7, q6⟩
          | brk =>
            obtain ⟨t6, k6, j6, q6⟩ := sp
            exact off j6 fun z7 j7 => ⟨_, _, j7, q6⟩
          | cont =>
            obtain ⟨t6, k6, j6, q6⟩ := sp
            exact off j6 fun z7 j7 => ⟨_, _, j7, q6⟩
          | ret u =>
            obtain ⟨v6, t6, k6, j6, rv, q6⟩ := sp
            exact off j6 fun z7 j7 => ⟨_, _, _, j7, rv, q6⟩
    exact walk hh wi
end
/-! ### the same, by functions -/
/-- a clause: its class, its name's slot, its suite for an error n with fields as -/
structure FCl where
  x : Str
  nm : Option Nat
  su : Str → List PyData → FS
def subX (n x : Str) : Bool := decide (n = x) || decide (x = ("WorthError" : Str))
def setN (ρ : Env) : Option Nat → Env
  | none => ρ
  | some i => ρ.set i (some .exn)
def unN (ρ : Env) : Option Nat → Env
  | none => ρ
  | some i => ρ.set i none
def flN (o : Option Nat) : Fl → Fl
  | .nx ρ S => .nx (unN ρ o) S
  | .bk ρ S => .bk (unN ρ o) S
  | .ct ρ S => .ct (unN ρ o) S
  | f => f
def noE (ρ : Env) : Bool := ρ.all fun
  | some .exn => false
  | _ => true
def chkN : Fl → Fl
  | .nx ρ S => if noE ρ = true then .nx ρ S else .bad
  | .bk ρ S => if noE ρ = true then .bk ρ S else .bad
  | .ct ρ S => if noE ρ = true then .ct ρ S else .bad
  | .exc _ _ _ _ => .bad
  | f => f
def clsF (n : Str) (as : List PyData) (ρ : Env) (S : Sto) : List FCl → Fl
  | [] => .exc n as ρ S
  | h :: r => if subX n h.x = true then chkN (flN h.nm (h.su n as (setN ρ h.nm) S)) else clsF n as ρ S r
/-- ns: the names of the classes whose errors the body may let out -/
def fTry (ns : List Str) (body : FS) (hs : List FCl) : FS := fun ρ S => match body ρ S with
  | .exc n as ρ1 S1 => if n ∈ ns then clsF n as ρ1 S1 hs else .bad
  | o => o
section
variable {X : Cx} {c : Cw} {body : List Stmt} {hd : ExceptHandler} {hs : List ExceptHandler} {fb : FS} {pos : Pos}
/-- the suite's context -/
abbrev Cw.sui (c : Cw) (a : Addr) (cl : Value) (dd : Option Addr) (n : Str) (as : List PyData) : Cw := ⟨c.K, some ⟨a, cl, dd, n, as⟩, fun _ _ _ _ => False⟩
def clOf (c : Cw) (h : FCl) : Cl := ⟨.ref (He.ga c.K h.x), h.nm, fun a cl dd N τ K' => ∃ n as, tS (c.sui a cl dd n as) (h.su n as) N τ K'⟩
theorem renv_sui {F : Hp} {io : List Addr} {σ : L2.St} {ρ : Env} (h : REnv c F io σ ρ) (hU : c.U = none) {a : Addr} {cl : Value} {dd : Option Addr} {n : Str} {as : List PyData} : REnv (c.sui a cl dd n as) F io σ ρ := ⟨h.1, fun i d q => by
  obtain ⟨v, h1, h2⟩ := h.2 i d q
  refine ⟨v, h1, ?_⟩
  cases d with
  | exn =>
    obtain ⟨u, h3, _⟩ := h2
    rw [hU] at h3
    cases h3
  | _ => exact h2⟩
theorem renv_uns {F : Hp} {io : List Addr} {σ : L2.St} {ρ : Env} {a : Addr} {cl : Value} {dd : Option Addr} {n : Str} {as : List PyData} (h : REnv (c.sui a cl dd n as) F io σ ρ) (hn : noE ρ = true) : REnv c F io σ ρ := ⟨h.1, fun i d q => by
  obtain ⟨v, h1, h2⟩ := h.2 i d q
  refine ⟨v, h1, ?_⟩
  cases d with
  | exn =>
    have := List.all_eq_true.mp hn _ (List.mem_of_getElem? q)
    cases this
  | _ => exact h2⟩
theorem renv_un {c' : Cw} {F : Hp} {io : List Addr} {σ : L2.St} {ρ : Env} (h : REnv c' F io σ ρ) : ∀ o : Option Nat, REnv c' F io (match o with | none => σ | some i => σ.set i none) (unN ρ o)
  | none => h
  | some i => renv_none h i
theorem suite_ok (hU : c.U = none) (h : FCl) {N : Ends} {G F : Hp} {io : List Addr} {H : Hp} {S : Sto} {σ : L2.St} {ρ : Env} {a : Addr} {cl : Value} {dd : Option Addr} {n : Str} {as : List PyData} (gd : Good c.K G F io H S) (re : REnv c F io σ ρ)
    (hx : IsX c.K F n as cl dd) (q : AftS c G F io N (chkN (flN h.nm (h.su n as (setN ρ h.nm) S)))) : tS (c.sui a cl dd n as) (h.su n as) (endsOf N h.nm) (slotOf σ a h.nm) H := by
  refine ⟨G, F, io, S, setN ρ h.nm, gd, ?_, ?_⟩
  · cases h.nm with
    | none => exact renv_sui re hU
    | some i => exact renv_set (renv_sui re hU) (d := .exn) ⟨_, rfl, rfl, hx⟩ i
  · cases hs : h.su n as (setN ρ h.nm) S with
    | nx ρ2 S2 =>
      rw [hs] at q
      have q : AftS c G F io N (if noE (unN ρ2 h.nm) = true then .nx (unN ρ2 h.nm) S2 else .bad) := q
      by_cases hn : noE (unN ρ2 h.nm) = true
      · rw [if_pos hn] at q
        intro σ' F' io' H' e' g' r'
        have z := q _ F' io' H' e' g' (renv_uns (renv_un r' h.nm) hn)
        cases hm : h.nm with
        | none => rw [hm] at z; exact z
        | some i => rw [hm] at z; exact z
      · rw [if_neg hn] at q
        exact q.elim
    | bk ρ2 S2 =>
      rw [hs] at q
      have q : AftS c G F io N (if noE (unN ρ2 h.nm) = true then .bk (unN ρ2 h.nm) S2 else .bad) := q
      by_cases hn : noE (unN ρ2 h.nm) = true
      · rw [if_pos hn] at q
        intro σ' F' io' H' e' g' r'
        have z := q _ F' io' H' e' g' (renv_uns (renv_un r' h.nm) hn)
        cases hm : h.nm with
        | none => rw [hm] at z; exact z
        | some i => rw [hm] at z; exact z
      · rw [if_neg hn] at q
        exact q.elim
    | ct ρ2 S2 =>
      rw [hs] at q
      have q : AftS c G F io N (if noE (unN ρ2 h.nm) = true then .ct (unN ρ2 h.nm) S2 else .bad) := q
      by_cases hn : noE (unN ρ2 h.nm) = true
      · rw [if_pos hn] at q
        intro σ' F' io' H' e' g' r'
        have z := q _ F' io' H' e' g' (renv_uns (renv_un r' h.nm) hn)
        cases hm : h.nm with
        | none => rw [hm] at z; exact z
        | some i => rw [hm] at z; exact z
      · rw [if_neg hn] at q
        exact q.elim
    | rt d S2 =>
      rw [hs] at q
      intro v F' io' H' e' g' r'
      have z := q v F' io' H' e' g' r'
      cases h.nm <;> exact z
    | exc n2 as2 ρ2 S2 => rw [hs] at q; exact q.elim
    | bad => rw [hs] at q; exact q.elim
theorem cls_ok (hU : c.U = none) {N : Ends} {n : Str} {as : List PyData} {cl : Value} {dd : Option Addr} {G F : Hp} {io : List Addr} {H : Hp} {S : Sto} {σ : L2.St} {ρ : Env} (gd : Good c.K G F io H S) (re : REnv c F io σ ρ) (hx : IsX c.K F n as cl dd) :
    ∀ hs : List FCl, (∀ h ∈ hs, PySem.W.exmOne c.K (.ref (He.ga c.K n)) (.ref (He.ga c.K h.x)) = some (subX n h.x)) → AftS c G F io N (clsF n as ρ S hs) → wMix c.K c.W N (hs.map (clOf c)) cl dd σ H
  | [], _, q => q cl dd σ F io H (Ext.refl _ _) gd re hx
  | h :: r, hf, q => by
    refine ⟨subX n h.x, by rw [hx.1]; exact hf h List.mem_cons_self, fun e a ha => ?_, fun e => ?_⟩
    · have q : AftS c G F io N (if subX n h.x = true then chkN (flN h.nm (h.su n as (setN ρ h.nm) S)) else clsF n as ρ S r) := q
      rw [if_pos e] at q
      exact ⟨n, as, suite_ok hU h gd re hx q⟩
    · have q : AftS c G F io N (if subX n h.x = true then chkN (flN h.nm (h.su n as (setN ρ h.nm) S)) else clsF n as ρ S r) := q
      rw [if_neg (by rw [e]; decide)] at q
      exact cls_ok hU gd re hx r (fun z hz => hf z (List.mem_cons_of_mem _ hz)) q
theorem fs_try {ns : List Str} {cs : List FCl} (hK : c.K = X.K) (hU : c.U = none) (st : X.stack = X.env :: X.outer) (fr : X.env.frame = some X.env.locals) (nd : X.N.Nodup) (tk : Takes X c.W)
    (hf : ∀ n ∈ ns, ∀ h ∈ cs, PySem.W.exmOne c.K (.ref (He.ga c.K n)) (.ref (He.ga c.K h.x)) = some (subX n h.x))
    (hb : ∀ (W : WX) (pn : List (Addr × Obj)) (xe : Value → Shared → Prop), Takes (X.tr pn xe) W → PassesOwn (model X.prog X.w) X.A X.env xe → PSs (X.tr pn xe) body (tS ⟨c.K, c.U, W⟩ fb))
    (hh : ClsOk X (hd :: hs) (cs.map (clOf c))) : PS X (.Try body (hd :: hs) [] [] pos) (tS c (fTry ns fb cs)) :=
  ps_imp (ps_try_mix st fr nd tk hb hh) fun N σ H ⟨G, F, io, S, ρ, gd, re, q⟩ => by
    have toW : ∀ {W : WX} {F : Hp} {io : List Addr} {σ : L2.St} {ρ : Env}, REnv ⟨c.K, c.U, W⟩ F io σ ρ → REnv c F io σ ρ := fun {W F io σ ρ} h => ⟨h.1, fun i d q => by
      obtain ⟨v, h1, h2⟩ := h.2 i d q
      exact ⟨v, h1, by cases d <;> exact h2⟩⟩
    have ofW : ∀ {W : WX} {F : Hp} {io : List Addr} {σ : L2.St} {ρ : Env}, REnv c F io σ ρ → REnv ⟨c.K, c.U, W⟩ F io σ ρ := fun {W F io σ ρ} h => ⟨h.1, fun i d q => by
      obtain ⟨v, h1, h2⟩ := h.2 i d q
      exact ⟨v, h1, by cases d <;> exact h2⟩⟩
    refine ⟨G, F, io, S, ρ, gd, ofW re, ?_⟩
    unfold fTry at q
    cases hm : fb ρ S with
    | nx ρ1 S1 => rw [hm] at q; exact fun σ' F' io' H' e' g' r' => q σ' F' io' H' e' g' (toW r')
    | bk ρ1 S1 => rw [hm] at q; exact fun σ' F' io' H' e' g' r' => q σ' F' io' H' e' g' (toW r')
    | ct ρ1 S1 => rw [hm] at q; exact fun σ' F' io' H' e' g' r' => q σ' F' io' H' e' g' (toW r')
    | rt d S1 => rw [hm] at q; exact q
    | bad => rw [hm] at q; exact q
    | exc n as ρ1 S1 =>
      rw [hm] at q
      have q : AftS c G F io N (if n ∈ ns then clsF n as ρ1 S1 cs else .bad) := q
      by_cases hn : n ∈ ns
      · rw [if_pos hn] at q
        intro cl dd σ' F' io' H' e' g' r' x'
        have z := cls_ok hU g' (toW r') x' cs (hf n hn) (AftS.ext q e')
        rw [hK] at z
        exact z
      · rw [if_neg hn] at q
        exact q.elim
theorem hs_nil : ClsOk X [] (([] : List FCl).map (clOf c)) := .nil
theorem hs_bare {x : Str} {b0 : Stmt} {su : List Stmt} {p1 p2 : Pos} {hs : List ExceptHandler} {cs : List FCl} {f : Str → List PyData → FS} (hn : Names X x (.ref (He.ga c.K x)))
    (hsu : ∀ (a : Addr) (ob : Obj) (cl : Value) (dd : Option Addr) (pn : List (Addr × Obj)) (n : Str) (as : List PyData), Zc cl dd ob → (∃ us, ob.data = .fields us) → PSs (X.suite a ((a, ob) :: pn)) (b0 :: su) (tS (c.sui a cl dd n as) (f n as)))
    (r : ClsOk X hs (cs.map (clOf c))) : ClsOk X (.ExceptHandler (some (.Name x p1)) none (b0 :: su) p2 :: hs) ((⟨x, none, f⟩ :: cs : List FCl).map (clOf c)) :=
  .bare hn (fun a ob cl dd pn hz hu => ⟨fun pins s σ H D I ⟨n, as, h⟩ => (hsu a ob cl dd pn n as hz hu).run pins s σ H D I h⟩) r
theorem hs_named {x m : Str} {i : Nat} {b0 : Stmt} {su : List Stmt} {p1 p2 : Pos} {hs : List ExceptHandler} {cs : List FCl} {f : Str → List PyData → FS} (hn : Names X x (.ref (He.ga c.K x))) (hi : X.N[i]? = some m) (hl : X.env.kindOf m = some .local)
    (hsu : ∀ (a : Addr) (ob : Obj) (cl : Value) (dd : Option Addr) (pn : List (Addr × Obj)) (n : Str) (as : List PyData), Zc cl dd ob → (∃ us, ob.data = .fields us) → PSs (X.suite a ((a, ob) :: pn)) (b0 :: su) (tS (c.sui a cl dd n as) (f n as)))
    (r : ClsOk X hs (cs.map (clOf c))) : ClsOk X (.ExceptHandler (some (.Name x p1)) (some m) (b0 :: su) p2 :: hs) ((⟨x, some i, f⟩ :: cs : List FCl).map (clOf c)) :=
  .named hn hi hl (fun a ob cl dd pn hz hu => ⟨fun pins s σ H D I ⟨n, as, h⟩ => (hsu a ob cl dd pn n as hz hu).run pins s σ H D I h⟩) r
end
end Tw
namespace Tw
open PySem PySem.Spec PyProof.Rows L2

/-! ### names of the module -/
section
variable {X : Cx} {c : Cw} {x : Str} {pos : Pos}
theorem fe_gint {i : Int} (hm : ∃ t, X.mg x = some (.int i t)) (hg : Gl X x := by rfl) (hd : (x == ("__debug__" : Str)) = false := by decide) : PE X (.Name x pos) (tE c (fCon (.int i))) := by
  obtain ⟨t, h⟩ := hm
  exact fe_con (pe_glob (v := .int i) hg h ⟨t, rfl⟩ hd) fun _ => .int i
theorem fe_gtup {A0 : Addr} {ss : List Str} (hm : X.mg x = some (.ref A0)) (hs : ∀ H, SqT c.K H A0 (ss.map V.str)) (hg : Gl X x := by rfl) (hd : (x == ("__debug__" : Str)) = false := by decide) : PE X (.Name x pos) (tE c (fCon (.tuple (ss.map PyData.str)))) :=
  fe_con (pe_glob (v := .ref A0) hg hm rfl hd) fun F => .tup (.inr ⟨hs F, by rw [List.all_map]; exact List.all_eq_true.mpr fun _ _ => rfl⟩) (dqa_txt ss)
where
  dqa_txt {K : PySem.W.Frag} {F : Hp} : ∀ ss : List Str, DqA K F (ss.map V.str) (ss.map PyData.str)
  | [] => .nil
  | s :: ss => .cons (.str s) (dqa_txt ss)
end
/-! ### a def that stands -/
structure Cal (P : Program) (w : World) (K : PySem.W.Frag) (mg : Str → Option Value) (base : Heap) (x : Str) (k n : Nat) (m : List D → Sto → Res D) : Prop where
  ex : ∃ f fd ps, FnOk P w K mg base (L2.CX P w) k f fd ps (spF K m n) ∧ mg x = some (.ref f) ∧ PySem.W.keepIn K (.ref f) = true ∧ Binds K fd ps []
theorem Cal.eq {P : Program} {w : World} {K : PySem.W.Frag} {mg : Str → Option Value} {base : Heap} {x : Str} {k n : Nat} {m m' : List D → Sto → Res D} (h : Cal P w K mg base x k n m) (e : m = m') : Cal P w K mg base x k n m' := e ▸ h
section
variable {X : Cx} {c : Cw} {x : Str} {p pos : Pos} {e : Expr} {es : List Expr} {k n : Nat} {m : List D → Sto → Res D} {fr : FA}
theorem fe_cal (h : Cal X.prog X.w X.K X.mg X.base x k n m) (hr : Room k X.A) (tk : Takes X c.W) (ha : PA X (e :: es) (tA c fr)) (hl : ∀ ρ S ds S', fr ρ S = .ok ds S' → ds.length = (e :: es).length) (hn : (e :: es).length = n := by rfl) (hK : c.K = X.K := by rfl) (hg : Gl X x := by rfl) (hdb : (x == ("__debug__" : Str)) = false := by decide)
    (he : starEach (e :: es) X.env = (false, eval e X.env) :: starEach es X.env := by rfl) (hpl : (backTo pos (starEach es X.env)).any (·.1) = false := by rfl) : PE X (.Call (.Name x p) (e :: es) [] pos) (tE c (fCall m fr)) := by
  obtain ⟨f, fd, ps, F, hm, hk, hb⟩ := h.ex
  refine fe_own (fun ht => ?_) ha hn hl
  rw [hK]
  exact pe_callS F hr hg hm hk hb (fun σ => passAt tk σ) ht hdb he hpl
end
theorem len0 : ∀ (ρ : Env) (S : Sto) (ds : List D) (S' : Sto), fNil ρ S = .ok ds S' → ds.length = 0 := fun _ _ _ _ => fr_len_nil
theorem lenS {fa : FE} {fr : FA} {n : Nat} (h : ∀ (ρ : Env) (S : Sto) (ds : List D) (S' : Sto), fr ρ S = .ok ds S' → ds.length = n) : ∀ (ρ : Env) (S : Sto) (ds : List D) (S' : Sto), fCons fa fr ρ S = .ok ds S' → ds.length = n + 1 := fun _ _ _ _ => fr_len_cons h
/-! ### what is walked, a list or a tuple -/
def fItS (fa : FE) : FI := fun ρ S => (fa ρ S).bind fun d S1 => match d with
  | .p (.tuple ds) => .ok (ds.map D.p) S1
  | .p (.list ds) => .ok (ds.map D.p) S1
  | .scr ns => .ok ((ns.map PyData.int).map D.p) S1
  | _ => .bad
theorem fi_seq {X : Cx} {c : Cw} {tg e : Expr} {fa : FE} (h : PE X e (tE c fa)) (hK : c.K = X.K := by rfl) : PI X tg e (tI c (fItS fa)) := ⟨fun pins s σ H R I ⟨G, F, io, S, ρ, gd, re, q⟩ => by
  have asT : (∃ ds S1, fa ρ S = .ok (.p (.tuple ds)) S1) → fItT fa ρ S = fItS fa ρ S := fun ⟨ds, S1, e⟩ => by
    unfold fItT fItS
    rw [e]
    rfl
  have asL : (¬ ∃ ds S1, fa ρ S = .ok (.p (.tuple ds)) S1) → fItL fa ρ S = fItS fa ρ S := fun ne => by
    unfold fItL fItS
    cases hf : fa ρ S with
    | ok d S1 =>
      cases d with
      | p a =>
        cases a with
        | tuple ds => exact absurd ⟨ds, S1, hf⟩ ne
        | _ => rfl
      | _ => rfl
    | exc n as S1 => rfl
    | bad => rfl
  by_cases ht : ∃ ds S1, fa ρ S = .ok (.p (.tuple ds)) S1
  · exact (fi_tup h hK).run pins s σ H R I ⟨G, F, io, S, ρ, gd, re, by rw [asT ht]; exact q⟩
  · exact (fi_lst h hK).run pins s σ H R I ⟨G, F, io, S, ρ, gd, re, by rw [asL ht]; exact q⟩⟩
/-! ### a def that hands back things that change -/
def callO (nN : Nat) (f : FS) : List D → Sto → Res D := fun ds S => match f (ds.map some ++ List.replicate (nN - ds.length) none) S with
  | .rt d S' => .ok d S'
  | .nx _ S' => .ok (.p .none) S'
  | .exc n as _ S' => .exc n as S'
  | _ => .bad
section
variable {K : PySem.W.Frag} {P : Program} {w : World} {mg : Str → Option Value} {base : Heap} {x qual : Str} {params : Arguments} {body : List Stmt} {scope : Scope} {f : Addr} {fd : FuncData} {N ps : List Str} {k : Nat} {m : FS}
theorem fn_okO (Fn : FunD K x qual params body scope [] [] f fd) (S : FnScope N ps scope)
    (hb : ∀ (cdv : Value) (A : Around) (outer : List PySem.Env) (s : Shared) (H : Hp) (E : XK), Room k (A.deeper (envOfC qual scope s.heap.objs.size f cdv)) → PSs (cxOf (L2.CX P w) P w K mg base N qual scope f cdv A outer s H E) body (tS (cE K E) m)) :
    FnOk P w K mg base (L2.CX P w) (k + 1) f fd ps (spF K (callO N.length m) ps.length) := by
  refine Fn.ok S (fun vs H Q E h => h.1) fun cdv A outer s H vs Q E hr h => ⟨_, hb cdv A outer s H E hr, ?_⟩
  obtain ⟨_, G, F, io, St, ds, g, r, q⟩ := h
  refine ⟨G, F, io, St, _, g, start_renv (c := cE K E) (N := N) r, ?_⟩
  unfold callO at q
  cases hm : m (ds.map some ++ List.replicate (N.length - ds.length) none) St with
  | rt d S' => rw [hm] at q; exact q
  | nx ρ' S' => rw [hm] at q; exact fun σ F' io' H' e' g' _ => q .non F' io' H' e' g' Dq.non
  | exc n as ρ' S' => rw [hm] at q; exact fun cls dd σ F' io' H' e' g' _ x' => q cls dd F' io' H' e' g' x'
  | bk ρ' S' => rw [hm] at q; exact q.elim
  | ct ρ' S' => rw [hm] at q; exact q.elim
  | bad => rw [hm] at q; exact q.elim
end
/-! ### what the top has left, by a Bool of the written part -/
/-- where a def stands: a global, what a class has under a name, or what reads a property -/
def adr (K : PySem.W.Frag) (p : Str × Option Str) : Addr := match p.2 with
  | none => He.ga K p.1
  | some m => match PySem.W.recIn K (He.ma K (He.ga K p.1) m) "property" with
    | some (.ref g :: _) => g
    | _ => He.ma K (He.ga K p.1) m
def fnA (K : PySem.W.Frag) (a : Addr) : He.FnW := (K.lookup a).bind fun o => match o.data with
  | .func g => some (g.name, g.qualname, g.params, g.body, g.scope, g.globals, g.closure, g.builtins)
  | _ => none
def okA (K : PySem.W.Frag) (a : Addr) (d : He.DefD) : Bool := (K.lookup a).any fun o => match o.data with
  | .func g => PySem.W.keepIn K (.ref a) && (PySem.W.codeIn K g.code d.qual && (He.dflB K g.defaults (d.dvs K) && He.kwdB K g.kwdefaults (d.kws K)))
  | _ => false
theorem funA {K : PySem.W.Frag} {a : Addr} {d : He.DefD} (e : fnA K a = d.val) (c : okA K a d = true) : ∃ fd, FunD K d.name d.qual d.params d.body d.scope (d.dvs K) (d.kws K) a fd := by
  unfold fnA at e
  unfold okA at c
  cases hl : K.lookup a with
  | none => rw [hl] at c; cases c
  | some o =>
    rw [hl] at e c
    obtain ⟨oc, od, dt, sl⟩ := o
    cases dt with
    | func g =>
      obtain ⟨g1, g2, g3, g4, g5, g6, g7, g8, g9, ga, gb, gc, gd, ge, gf⟩ := g
      have e2 := Option.some.inj e
      simp only [Prod.mk.injEq] at e2
      obtain ⟨q1, q2, q3, q4, q5, q6, q7, q8⟩ := e2
      subst q1 q2 q3 q4 q5 q6 q7 q8
      obtain ⟨c1, c2⟩ := He.ba c
      obtain ⟨c3, c4⟩ := He.ba c2
      obtain ⟨c5, c6⟩ := He.ba c4
      exact ⟨_, ⟨oc, od, g8, g9, ga, gb, gc, gd, ge, sl, rfl, hl, c3, He.dflB_ok c5, He.kwdB_ok c6⟩, c1⟩
    | _ => cases c
def SaysW (ex : PySem.W.Frag → Bool) (fn : List He.DefD) (K : PySem.W.Frag) : Prop := ((ex K && fn.all fun d => okA K (adr K d.at_) d, fn.map fun d => fnA K (adr K d.at_)) : He.AlD) = (true, fn.map He.DefD.val)
def obsW (n : Nat) (ex : PySem.W.Frag → Bool) (fn : List He.DefD) (g : Addr → Option Obj) : He.AlD := (ex (He.frG g (He.asD g n)) && fn.all fun d => okA (He.frG g (He.asD g n)) (adr (He.frG g (He.asD g n)) d.at_) d, fn.map fun d => fnA (He.frG g (He.asD g n)) (adr (He.frG g (He.asD g n)) d.at_))
def hookW (n : Nat) (ex : PySem.W.Frag → Bool) (fn : List He.DefD) : PySem.W.Hook where
  α := He.AlD
  obs := fun s => obsW n ex fn s.heap.get?
  val := fun _ => (true, fn.map He.DefD.val)
  says := fun _ h => ∃ K : PySem.W.Frag, K.In h ∧ SaysW ex fn K
  of := fun _ _ e => ⟨_, He.frG_in, e⟩
  keeps := fun _ _ _ ⟨K, hK, c⟩ k => ⟨K, PySem.W.Frag.In.keeps hK k, c⟩
theorem obsW_eq {n : Nat} {ex : PySem.W.Frag → Bool} {fn : List He.DefD} {g : Addr → Option Obj} {s : Shared} (h : ∀ a, g a = s.heap.get? a) : obsW n ex fn g = (hookW n ex fn).obs s := by
  have e : g = s.heap.get? := funext h
  rw [e]
  rfl
section
variable {ex : PySem.W.Frag → Bool} {fn : List He.DefD} {K : PySem.W.Frag}
theorem SaysW.two (c : SaysW ex fn K) : (ex K = true ∧ (fn.all fun d => okA K (adr K d.at_) d) = true) ∧ fn.map (fun d => fnA K (adr K d.at_)) = fn.map He.DefD.val := by
  have h := Prod.mk.inj c
  exact ⟨He.ba h.1, h.2⟩
theorem SaysW.yes (c : SaysW ex fn K) : ex K = true := c.two.1.1
theorem SaysW.fd (c : SaysW ex fn K) (i : Nat) {d : He.DefD} (h : fn[i]? = some d := by rfl) : ∃ fd, FunD K d.name d.qual d.params d.body d.scope (d.dvs K) (d.kws K) (adr K d.at_) fd := by
  have e2 := congrArg (fun l => l[i]?) c.two.2
  simp only [List.getElem?_map, h, Option.map_some, Option.some.injEq] at e2
  exact funA e2 (List.all_eq_true.mp c.two.1.2 d (List.mem_of_getElem? h))
end
/-- facts as a list of Bools -/
abbrev Facts := List (PySem.W.Frag → Bool)
def exOf (l : Facts) : PySem.W.Frag → Bool := fun K => l.all fun f => f K
theorem exOf_at {l : Facts} {K : PySem.W.Frag} (h : exOf l K = true) (i : Nat) {f : PySem.W.Frag → Bool} (e : l[i]? = some f := by rfl) : f K = true := List.all_eq_true.mp h f (List.mem_of_getElem? e)
def fcExc (x : Str) : PySem.W.Frag → Bool := (He.Fa.exc x).ok
def fcGlo (x : Str) : PySem.W.Frag → Bool := (He.Fa.glo x).ok
def fcFree (x : Str) : PySem.W.Frag → Bool := (He.Fa.free x).ok
def fcInt (x : Str) (i : Int) : PySem.W.Frag → Bool := (He.Fa.int x i).ok
def fcExm (x y : Str) : PySem.W.Frag → Bool := fun K => decide (PySem.W.exmOne K (.ref (He.ga K x)) (.ref (He.ga K y)) = some (subX x y))
def fcKit (x y : Str) : PySem.W.Frag → Bool := fun K => decide (PySem.W.kitOne K (.ref (He.ga K x)) (.ref (He.ga K y)) = some (subX x y))
def fcTup (x : Str) (ss : List Str) : PySem.W.Frag → Bool := fun K => He.tupB K x (ss.map He.Dv.str) && match K.lookup (He.ga K x) with
  | some ⟨.type c, none, _, _⟩ => decide (c = "tuple")
  | _ => false
def fcExcC (x : Str) : PySem.W.Frag → Bool := fun K => decide (PySem.W.findIn K (.ref (He.ga K x)) "__getattribute__" = some (some (.builtin "BaseException.__getattribute__"))) && (decide (PySem.W.findIn K (.ref (He.ga K x)) "__getattr__" = some none) &&
  (decide (PySem.W.subIn K (.ref (He.ga K x)) (.type "BaseException") = some true) && (PySem.W.hasDictIn K (He.ga K x) && (decide (PySem.W.findIn K (.ref (He.ga K x)) "__class__" = some (some (.builtin "object.__class__"))) &&
  (decide (PySem.W.specialIn K (.builtin "object.__class__") "__get__" = some (some (.builtin "getset_descriptor.__get__"))) && (decide (PySem.W.takesIn K (.builtin "object.__class__") = some true) && decide (PySem.W.mroIn K (He.ga K x) (.type "object") = some true)))))))
theorem fcExcC_ok {x : Str} {K : PySem.W.Frag} (h : fcExcC x K = true) : ExcC K (He.ga K x) := by
  obtain ⟨h1, h⟩ := He.ba h
  obtain ⟨h2, h⟩ := He.ba h
  obtain ⟨h3, h⟩ := He.ba h
  obtain ⟨h4, h⟩ := He.ba h
  obtain ⟨h5, h⟩ := He.ba h
  obtain ⟨h6, h⟩ := He.ba h
  obtain ⟨h7, h8⟩ := He.ba h
  exact ⟨of_decide_eq_true h1, of_decide_eq_true h2, of_decide_eq_true h3, h4, of_decide_eq_true h5, of_decide_eq_true h6, of_decide_eq_true h7, of_decide_eq_true h8⟩
theorem fcTup_ok {x : Str} {ss : List Str} {K : PySem.W.Frag} (h : fcTup x ss K = true) : (∀ H, SqT K H (He.ga K x) (ss.map V.str)) ∧ ∃ o, K.lookup (He.ga K x) = some o ∧ o.cls = .type "tuple" ∧ o.dict = none := by
  obtain ⟨h1, h2⟩ := He.ba h
  refine ⟨fun H => ?_, ?_⟩
  · have z := He.tupB_ok h1 H
    rw [List.map_map] at z
    exact z
  · cases e : K.lookup (He.ga K x) with
    | none => rw [e] at h2; cases h2
    | some o =>
      obtain ⟨oc, od, dt, sl⟩ := o
      rw [e] at h2
      cases oc with
      | type t =>
        cases od with
        | none =>
          have h2 : t = "tuple" := of_decide_eq_true h2
          subst h2
          exact ⟨_, rfl, rfl, rfl⟩
        | some d => cases h2
      | _ => cases od <;> cases h2
/-- the facts at hand -/
structure Tx (l : Facts) (fn : List He.DefD) (K : PySem.W.Frag) (mg : Str → Option Value) : Prop where
  says : SaysW (exOf l) fn K
  at_ : ∃ h : Heap, K.In h ∧ h.Ns mainGlobals mg
section
variable {l : Facts} {fn : List He.DefD} {K : PySem.W.Frag} {mg : Str → Option Value}
theorem Tx.fc (T : Tx l fn K mg) (i : Nat) {f : PySem.W.Frag → Bool} (e : l[i]? = some f := by rfl) : f K = true := exOf_at (SaysW.yes T.says) i e
theorem Tx.fr (T : Tx l fn K mg) (i : Nat) {x : Str} (e : l[i]? = some (fcFree x) := by rfl) : mg x = none := by
  obtain ⟨h, X, G⟩ := T.at_
  exact He.free_ok X G (T.fc i e)
theorem Tx.gl (T : Tx l fn K mg) (i : Nat) {x : Str} (e : l[i]? = some (fcGlo x) := by rfl) : mg x = some (.ref (He.ga K x)) := by
  obtain ⟨h, X, G⟩ := T.at_
  exact He.glo_ok X G (T.fc i e)
theorem Tx.int (T : Tx l fn K mg) (i : Nat) {x : Str} {j : Int} (e : l[i]? = some (fcInt x j) := by rfl) : ∃ t, mg x = some (.int j t) := by
  obtain ⟨h, X, G⟩ := T.at_
  exact He.int_ok X G (T.fc i e)
theorem Tx.exc (T : Tx l fn K mg) (i : Nat) {x : Str} (e : l[i]? = some (fcExc x) := by rfl) : PySem.W.excIn K (He.ga K x) He.veBase "ValueError.__new__" = true ∧ PySem.W.keepIn K (.ref (He.ga K x)) = true ∧ PySem.W.subIn K (.ref (He.ga K x)) (.type "BaseException") = some true ∧ PySem.W.typeIn K (.ref (He.ga K x)) = some (.type "type") := He.exc_ok (T.fc i e)
theorem Tx.exm (T : Tx l fn K mg) (i : Nat) {x y : Str} (e : l[i]? = some (fcExm x y) := by rfl) : PySem.W.exmOne K (.ref (He.ga K x)) (.ref (He.ga K y)) = some (subX x y) := of_decide_eq_true (T.fc i e)
theorem Tx.kit (T : Tx l fn K mg) (i : Nat) {x y : Str} (e : l[i]? = some (fcKit x y) := by rfl) : PySem.W.kitOne K (.ref (He.ga K x)) (.ref (He.ga K y)) = some (subX x y) := of_decide_eq_true (T.fc i e)
end
/-! ### += on ints -/
theorem bop_ip {c : Cw} {f : Int → Int → Int} : BOp c (ipI f) (gI fun i j => .int (f i j)) := fun G F io H S σ x y dx dy Q gd rx ry q => by
  obtain ⟨i, j, rfl, rfl, q⟩ := two_ints (Aft c G F io σ (rp c) Q) q aft_bad
  cases rx
  cases ry
  exact ⟨i, j, rfl, rfl, hereP (v := .int (f i j)) q gd (Dq.int _)⟩
/-! ### isinstance(e, X), e what the suite holds -/
def fIsX (ns : List Str) (i : Nat) (x n : Str) (as : List PyData) : FE := fun ρ S => match ρ[i]? with
  | some (some .exn) => if n ∈ ns ∧ as.isEmpty = true then .ok (.p (.bool (subX n x))) S else .bad
  | _ => .bad
theorem fe_isX {X : Cx} {c : Cw} {a : Addr} {ob : Obj} {cl : Value} {dd : Option Addr} {pn : List (Addr × Obj)} {n y x : Str} {as : List PyData} {ns : List Str} {i : Nat} {p1 p2 p3 pos : Pos} (hK : c.K = X.K) (hz : Zc cl dd ob) (hu : ∃ us, ob.data = .fields us)
    (hC : ∀ m ∈ ns, ExcC X.K (He.ga X.K m)) (hk : ∀ m ∈ ns, PySem.W.kitOne X.K (.ref (He.ga X.K m)) (.ref (He.ga X.K x)) = some (subX m x)) (gx : X.mg x = some (.ref (He.ga X.K x))) (b0 : X.mg "isinstance" = none) (hg : Gl X "isinstance") (hgx : Gl X x)
    (hy : X.N[i]? = some y) (hv : Vis X.env.scope y) (hd1 : (x == ("__debug__" : Str)) = false := by decide) (hd2 : (y == ("__debug__" : Str)) = false := by decide) (hd3 : (y == ("__classdict__" : Str)) = false := by decide)
    (bi : bootBuiltins "isinstance" = some (.builtin "isinstance") := by decide +kernel)
    (s1 : starEach [Expr.Name y p2, .Name x p3] X.env = (false, eval (.Name y p2) X.env) :: starEach [.Name x p3] X.env := by rfl) (s2 : starEach [Expr.Name x p3] X.env = (false, eval (.Name x p3) X.env) :: starEach [] X.env := by rfl)
    (s3 : (backTo pos (starEach [Expr.Name x p3] X.env)).any (·.1) = false := by rfl) :
    PE (X.suite a ((a, ob) :: pn)) (.Call (.Name "isinstance" p1) [.Name y p2, .Name x p3] [] pos) (tE (c.sui a cl dd n as) (fIsX ns i x n as)) := by
  refine ⟨fun pins s σ H Q I ⟨G, F, io, S, ρ, gd, re, q⟩ => ?_⟩
  unfold fIsX at q
  cases hr : ρ[i]? with
  | none => rw [hr] at q; exact q.elim
  | some o =>
    cases o with
    | none => rw [hr] at q; exact q.elim
    | some d =>
      cases d with
      | exn =>
        rw [hr] at q
        have q : Aft (c.sui a cl dd n as) G F io σ (rp (c.sui a cl dd n as)) Q (if n ∈ ns ∧ as.isEmpty = true then .ok (.p (.bool (subX n x))) S else .bad) := q
        by_cases hn : n ∈ ns ∧ as.isEmpty = true
        · rw [if_pos hn] at q
          obtain ⟨v, h1, u, h2, h3, h4⟩ := re.2 i _ hr
          have h2 := Option.some.inj h2
          subst h2
          obtain ⟨hcl, ⟨_, hdd⟩ | ⟨_, _, hne, _⟩⟩ := h4
          · have hcl : cl = .ref (He.ga c.K n) := hcl
            have hdd : dd = none := hdd
            subst hcl
            subst hdd
            rw [hK] at hz
            have hz' : Zc (.ref (He.ga X.K n)) none ob := hz
            refine (pe_callB (X := X.suite a ((a, ob) :: pn)) (call_isE (hC n hn.1) hz' hu) hg b0 bi (pa_cons (pe_var (X := X.suite a ((a, ob) :: pn)) hy hv hd2 hd3) (pa_cons (pe_glob (X := X.suite a ((a, ob) :: pn)) (v := .ref (He.ga X.K x)) hgx gx rfl hd1) pa_nil s2) s1) (by decide) (by decide) s1 s3).run pins s σ H Q I ?_
            exact ⟨v, h1, .ref (He.ga X.K x), .ref (He.ga X.K x), _, by rw [h3], fun u hu => hu, hk n hn.1, hereP (v := .bl _) q gd (Dq.bl _)⟩
          · have : as = [] := List.isEmpty_iff.mp hn.2
            exact absurd this hne
        · rw [if_neg hn] at q
          exact q.elim
      | _ => rw [hr] at q; exact q.elim
end Tw
namespace Tw
theorem fm0 {α : Type} {P : α → Prop} : ∀ x ∈ ([] : List α), P x := fun _ h => by cases h
theorem fmc {α : Type} {P : α → Prop} {a : α} {l : List α} (h : P a) (r : ∀ x ∈ l, P x) : ∀ x ∈ a :: l, P x := fun x hx => (List.mem_cons.mp hx).elim (fun e => e ▸ h) (r x)
end Tw
namespace Tw
open PySem PySem.Spec PyProof.Rows L2
theorem boot_isinstance : bootBuiltins ("isinstance" : Str) = some (.builtin "isinstance") := by decide +kernel
theorem boot_len : bootBuiltins ("len" : Str) = some (.builtin "len") := by decide +kernel
theorem boot_all : bootBuiltins ("all" : Str) = some (.builtin "all") := by decide +kernel
theorem boot_any : bootBuiltins ("any" : Str) = some (.builtin "any") := by decide +kernel
theorem boot_min : bootBuiltins ("min" : Str) = some (.builtin "min") := by decide +kernel
theorem boot_max : bootBuiltins ("max" : Str) = some (.builtin "max") := by decide +kernel
theorem boot_int : bootBuiltins ("int" : Str) = some (.type "int") := by decide +kernel
theorem boot_bool : bootBuiltins ("bool" : Str) = some (.type "bool") := by decide +kernel
theorem boot_str : bootBuiltins ("str" : Str) = some (.type "str") := by decide +kernel
theorem boot_tuple : bootBuiltins ("tuple" : Str) = some (.type "tuple") := by decide +kernel
theorem boot_list : bootBuiltins ("list" : Str) = some (.type "list") := by decide +kernel
theorem boot_dict : bootBuiltins ("dict" : Str) = some (.type "dict") := by decide +kernel
/-! ### a tuple times an int -/
def gRepT : D → D → Sto → Res D := fun dx dy S => match dx, dy with
  | .p (.tuple ds), .p (.int k) => if ds ≠ [] ∧ 2 ≤ k ∧ k ≤ 1000 ∧ ds.length ≤ 1000 then .ok (.p (.tuple (List.replicate k.toNat ds).flatten)) S else .bad
  | _, _ => .bad
theorem dqa_rep {K : PySem.W.Frag} {F : Hp} {ds : List PyData} {vs : List V} (r : DqA K F vs ds) : ∀ n : Nat, DqA K F (List.replicate n vs).flatten (List.replicate n ds).flatten
  | 0 => .nil
  | n + 1 => by
    rw [List.replicate_succ, List.replicate_succ, List.flatten_cons, List.flatten_cons]
    exact dpa_app r (dqa_rep r n)
theorem bop_repT {c : Cw} : BOp c (rRepT c.K) gRepT := fun G F io H S σ x y dx dy Q gd rx ry q => by
  unfold gRepT at q
  split at q
  · rename_i ds k
    by_cases hc : ds ≠ [] ∧ 2 ≤ k ∧ k ≤ 1000 ∧ ds.length ≤ 1000
    · rw [if_pos hc] at q
      cases ry
      cases rx with
      | @tup p vs _ hx ha =>
        have hl := dpa_len _ _ ha
        exact ⟨p, k, vs, rfl, rfl, sq_t gd.ex hx.sq, fun z => hc.1 ((nil_of ha).mp z), hc.2.1, hc.2.2.1, by rw [hl]; exact hc.2.2.2, new_tup gd (dqa_rep ha k.toNat) q⟩
    · rw [if_neg hc] at q
      exact q.elim
  · exact q.elim
end Tw
namespace Tw
open PySem PySem.Spec PyProof.Rows L2

/-! ### how the readings are computed: rules for simp -/
def Fl.seq (o : Fl) (g : FS) : Fl := match o with
  | .nx ρ S => g ρ S
  | o => o
def Fl.fin (o : Fl) (S : Sto) : Res D := match o with
  | .rt d S' => trim S d S'
  | .nx _ S' => trim S (.p .none) S'
  | .exc n as _ S' => trimX S n as S'
  | _ => .bad
def envOf : Nat → List D → Env
  | 0, _ => []
  | n + 1, [] => none :: envOf n []
  | n + 1, d :: ds => some d :: envOf n ds
theorem envOf_nil : ∀ n : Nat, envOf n [] = List.replicate n none
  | 0 => rfl
  | n + 1 => by rw [envOf, envOf_nil n, List.replicate_succ]
theorem envOf_eq : ∀ (n : Nat) (ds : List D), ds.length ≤ n → ds.map some ++ List.replicate (n - ds.length) none = envOf n ds
  | n, [], _ => by rw [envOf_nil]; rfl
  | n + 1, d :: ds, h => by
    rw [envOf, ← envOf_eq n ds (Nat.le_of_succ_le_succ h), List.map_cons, List.length_cons, Nat.add_sub_add_right]
    rfl
theorem callM_ap (nN : Nat) (f : FS) (ds : List D) (S : Sto) (h : ds.length ≤ nN) : callM nN f ds S = (f (envOf nN ds) S).fin S := by
  unfold callM
  rw [envOf_eq nN ds h]
  rfl
def Fl.finO (o : Fl) : Res D := match o with
  | .rt d S' => .ok d S'
  | .nx _ S' => .ok (.p .none) S'
  | .exc n as _ S' => .exc n as S'
  | _ => .bad
theorem callO_ap (nN : Nat) (f : FS) (ds : List D) (S : Sto) (h : ds.length ≤ nN) : callO nN f ds S = (f (envOf nN ds) S).finO := by
  unfold callO
  rw [envOf_eq nN ds h]
  rfl
@[simp] theorem finO_rt {d : D} {S : Sto} : (Fl.rt d S).finO = .ok d S := rfl
@[simp] theorem envOf_0 {ds : List D} : envOf 0 ds = [] := by cases ds <;> rfl
@[simp] theorem envOf_n {n : Nat} : envOf (n + 1) [] = none :: envOf n [] := rfl
@[simp] theorem envOf_s {n : Nat} {d : D} {ds : List D} : envOf (n + 1) (d :: ds) = some d :: envOf n ds := rfl
section
variable {α β : Type} {r r' : Res α} {k : α → Sto → Res β} {kf : α → Sto → Fl} {o o' : Fl} {g : FS} {S S' : Sto} {ρ : Env} {a : α} {n : Str} {as : List PyData} {d : D}
@[simp] theorem bind_ok : (Res.ok a S).bind k = k a S := rfl
@[simp] theorem bind_exc : (Res.exc n as S : Res α).bind k = .exc n as S := rfl
@[simp] theorem bind_bad : (Res.bad : Res α).bind k = .bad := rfl
@[simp] theorem thn_ok : (Res.ok a S).thn ρ kf = kf a S := rfl
@[simp] theorem thn_exc : (Res.exc n as S : Res α).thn ρ kf = .exc n as ρ S := rfl
@[simp] theorem thn_bad : (Res.bad : Res α).thn ρ kf = .bad := rfl
@[simp] theorem seq_nx : (Fl.nx ρ S).seq g = g ρ S := rfl
@[simp] theorem seq_rt : (Fl.rt d S).seq g = .rt d S := rfl
@[simp] theorem seq_bk : (Fl.bk ρ S).seq g = .bk ρ S := rfl
@[simp] theorem seq_ct : (Fl.ct ρ S).seq g = .ct ρ S := rfl
@[simp] theorem seq_exc : (Fl.exc n as ρ S).seq g = .exc n as ρ S := rfl
@[simp] theorem seq_bad : Fl.bad.seq g = .bad := rfl
@[simp] theorem fin_rt : (Fl.rt d S').fin S = trim S d S' := rfl
@[simp] theorem fin_nx : (Fl.nx ρ S').fin S = trim S (.p .none) S' := rfl
@[simp] theorem fin_exc : (Fl.exc n as ρ S').fin S = trimX S n as S' := rfl
theorem trim_same (h : S'.length = S.length) : trim S d S' = .ok d S' := if_pos h
theorem trimX_same (h : S'.length = S.length) : trimX S n as S' = .exc n as S' := if_pos h
@[simp] theorem trim_id : trim S d S = .ok d S := if_pos rfl
@[simp] theorem trimX_id : trimX S n as S = .exc n as S := if_pos rfl
@[simp] theorem asB_ok {b : Bool} : (Res.ok (.p (.bool b)) S).asB = .ok b S := rfl
@[simp] theorem asB_exc : (Res.exc n as S : Res D).asB = .exc n as S := rfl
end
section
variable {ρ : Env} {S : Sto} {f g fa fb fc fd : FS} {a b c e : FE} {fr : FA} {i j l : Nat} {d d1 d2 : D} {x y : PyData} {m n : Int} {xs ys : List PyData} {op op2 : D → D → Sto → Res D} {un : D → Sto → Res D} {bc : List D → Sto → Res D} {ds : List D} {gg : FG} {gs : FGs} {fi : FI} {v o : D} {b0 : Bool} {k : Nat} {z : Str} {fl fh : FO} {t : Ty} {kds : D}
@[simp ↓] theorem ap_seq : fSeq f g ρ S = (f ρ S).seq g := rfl
def tupR (ds : List D) (S1 : Sto) : Res D := match asPs ds with
  | some ps => if ds.length < lim then .ok (.p (.tuple ps)) S1 else .bad
  | none => .bad
def lstR (ds : List D) (S1 : Sto) : Res D := match asPs ds with
  | some ps => if ds.length < lim then .ok (.p (.list ps)) S1 else .bad
  | none => .bad
def setIx4 (v o i : D) (ρ : Env) (S3 : Sto) : Fl := match o, i with
  | .own k, .p (.int j) => match S3[k]? with
    | some (.lst xs) => match ixN xs.length j with
      | some m => .nx ρ (S3.set k (.lst (xs.set m v)))
      | none => .bad
    | _ => .bad
  | _, _ => .bad
@[simp] theorem setIx4_own {v : D} {k : Nat} : setIx4 v (.own k) (.p (.int m)) ρ S = (match S[k]? with
    | some (.lst xs) => (match ixN xs.length m with
      | some q => .nx ρ (S.set k (.lst (xs.set q v)))
      | none => .bad)
    | _ => .bad) := rfl
def bin2K (op : D → D → Sto → Res D) (v : D) (r : Res D) : Res D := r.bind fun y S2 => op v y S2
def binK (op : D → D → Sto → Res D) (b : FE) (ρ : Env) (r : Res D) : Res D := r.bind fun x S1 => (b ρ S1).bind fun y S2 => op x y S2
def cons2K (v : D) (r : Res (List D)) : Res (List D) := r.bind fun xs S2 => .ok (v :: xs) S2
def consK (fr : FA) (ρ : Env) (r : Res D) : Res (List D) := r.bind fun x S1 => (fr ρ S1).bind fun xs S2 => .ok (x :: xs) S2
def chain3K (op2 : D → D → Sto → Res D) (v : D) (c : FE) (ρ : Env) (r : Res D) : Res D := r.asB.bind fun k S3 => if k = true then (c ρ S3).bind fun z S4 => op2 v z S4 else .ok (.p (.bool false)) S3
def chain2K (op op2 : D → D → Sto → Res D) (v : D) (c : FE) (ρ : Env) (r : Res D) : Res D := r.bind fun y S2 => (op v y S2).asB.bind fun k S3 => if k = true then (c ρ S3).bind fun z S4 => op2 y z S4 else .ok (.p (.bool false)) S3
def chainK (op op2 : D → D → Sto → Res D) (b c : FE) (ρ : Env) (r : Res D) : Res D := r.bind fun x S1 => (b ρ S1).bind fun y S2 => (op x y S2).asB.bind fun k S3 => if k = true then (c ρ S3).bind fun z S4 => op2 y z S4 else .ok (.p (.bool false)) S3
def app2K (k : Nat) (r : Res D) : Res D := r.bind fun d S2 => (match S2[k]? with | some (.lst xs) => if xs.length < lim then .ok (.p .none) (S2.set k (.lst (xs ++ [d]))) else .bad | _ => .bad)
def appK (b : FE) (ρ : Env) (r : Res D) : Res D := r.bind fun o S1 => match o with | .own k => (match S1[k]? with | some (.lst _) => (b ρ S1).bind fun d S2 => (match S2[k]? with | some (.lst xs) => if xs.length < lim then .ok (.p .none) (S2.set k (.lst (xs ++ [d]))) else .bad | _ => .bad) | _ => .bad) | _ => .bad
def setIx3K (v o : D) (ρ : Env) (r : Res D) : Fl := r.thn ρ fun i S3 => setIx4 v o i ρ S3
def setIx2K (v : D) (c : FE) (ρ : Env) (r : Res D) : Fl := r.thn ρ fun o S2 => (c ρ S2).thn ρ fun i S3 => setIx4 v o i ρ S3
def setIxK (b c : FE) (ρ : Env) (r : Res D) : Fl := r.thn ρ fun v S1 => (b ρ S1).thn ρ fun o S2 => (c ρ S2).thn ρ fun i S3 => setIx4 v o i ρ S3
def retK (ρ : Env) (r : Res D) : Fl := r.thn ρ fun d S1 => .rt d S1
def setK (i : Nat) (ρ : Env) (r : Res D) : Fl := r.thn ρ fun d S1 => .nx (ρ.set i (some d)) S1
def dropK (ρ : Env) (r : Res D) : Fl := r.thn ρ fun _ S1 => .nx ρ S1
def ifSK (f g : FS) (ρ : Env) (r : Res D) : Fl := r.asB.thn ρ fun b S1 => if b = true then f ρ S1 else g ρ S1
def andK (b : FE) (ρ : Env) (r : Res D) : Res D := r.asB.bind fun k S1 => if k = true then b ρ S1 else .ok (.p (.bool false)) S1
def orK (b : FE) (ρ : Env) (r : Res D) : Res D := r.asB.bind fun k S1 => if k = true then .ok (.p (.bool true)) S1 else b ρ S1
def notK (r : Res D) : Res D := r.asB.bind fun k S1 => .ok (.p (.bool (!k))) S1
def ifK (a b : FE) (ρ : Env) (r : Res D) : Res D := r.asB.bind fun k S1 => if k = true then a ρ S1 else b ρ S1
def unK (un : D → Sto → Res D) (r : Res D) : Res D := r.bind un
def callK (bc : List D → Sto → Res D) (r : Res (List D)) : Res D := r.bind bc
def tupK (r : Res (List D)) : Res D := r.bind tupR
def lstK (r : Res (List D)) : Res D := r.bind lstR
def lstOK (r : Res (List D)) : Res D := r.bind fun ds S1 => if ds.length < lim then .ok (.own S1.length) (S1 ++ [.lst ds]) else .bad
def parK (i j : Nat) (ρ : Env) (r : Res (List D)) : Fl := r.thn ρ fun ds S1 => match ds with | [d, e] => .nx ((ρ.set i (some d)).set j (some e)) S1 | _ => .bad
def par3K (i j l : Nat) (ρ : Env) (r : Res (List D)) : Fl := r.thn ρ fun ds S1 => match ds with | [d, e, f] => .nx (((ρ.set i (some d)).set j (some e)).set l (some f)) S1 | _ => .bad
def asgK (gg : FG) (ρ : Env) (r : Res D) : Fl := r.thn ρ fun d S1 => match gg d ρ with | some ρ1 => .nx ρ1 S1 | none => .bad
def itSK (r : Res D) : Res (List D) := r.bind fun d S1 => match d with | .p (.tuple ds) => .ok (ds.map D.p) S1 | .p (.list ds) => .ok (ds.map D.p) S1 | .scr ns => .ok ((ns.map PyData.int).map D.p) S1 | _ => .bad
def rng1K (r : Res (List D)) : Res (List D) := r.bind fun ds S1 => match ds with | [.p (.int j)] => if -1000000 < j ∧ j < 1000000 then .ok (rng 0 j.toNat) S1 else .bad | _ => .bad
def rng2K (r : Res (List D)) : Res (List D) := r.bind fun ds S1 => match ds with | [.p (.int i), .p (.int j)] => if -1000000 < i ∧ i < 1000000 ∧ -1000000 < j ∧ j < 1000000 then .ok (rng i (j - i).toNat) S1 else .bad | _ => .bad
def forK (gg : FG) (f : FS) (ρ : Env) (r : Res (List D)) : Fl := r.thn ρ fun ds S1 => forL gg f ds ρ S1
def isiK (t : Ty) (r : Res D) : Res D := r.bind fun d S1 => match d with | .p d => .ok (.p (.bool (isT t d))) S1 | .wld _ _ => .bad | _ => .bad
def frzK (r : Res D) : Res D := r.bind fun d S1 => match d with | .own k => (match S1[k]? with | some (.lst xs) => (match asPs xs with | some ps => .ok (.p (.list ps)) (S1.set k (.fz (.p (.list ps)))) | none => .bad) | _ => .bad) | _ => .bad
def kixK (r : Res D) : Res D := r.bind fun d S1 => match d with | .p (.str z) => if z = ("a" : Str) then .ok (.p (.int 0)) S1 else if z = ("b" : Str) then .ok (.p (.int 1)) S1 else .bad | _ => .bad
def sliceK (fl fh : FO) (ρ : Env) (r : Res D) : Res D := r.bind fun x S1 => (fl ρ S1).bind fun l S2 => (fh ρ S2).bind fun h S3 => gSl x l h S3
def fsomeK (r : Res D) : Res (Option Int) := r.bind fun d S1 => match d with | .p (.int i) => .ok (some i) S1 | _ => .bad
@[simp] theorem bin2K_ok : bin2K op v (.ok d S) = (op v d S) := rfl
@[simp] theorem bin2K_exc {s : Str} : bin2K op v (.exc s xs S) = .exc s xs S := rfl
@[simp ↓] theorem ap_bin : fBin op a b ρ S = binK op b ρ (a ρ S) := rfl
@[simp] theorem binK_ok : binK op b ρ (.ok d S) = (bin2K op d (b ρ S)) := rfl
@[simp] theorem binK_exc {s : Str} : binK op b ρ (.exc s xs S) = .exc s xs S := rfl
@[simp] theorem cons2K_ok : cons2K v (.ok ds S) = (.ok (v :: ds) S) := rfl
@[simp] theorem cons2K_exc {s : Str} : cons2K v (.exc s xs S) = .exc s xs S := rfl
@[simp ↓] theorem ap_cons : fCons a fr ρ S = consK fr ρ (a ρ S) := rfl
@[simp] theorem consK_ok : consK fr ρ (.ok d S) = (cons2K d (fr ρ S)) := rfl
@[simp] theorem consK_exc {s : Str} : consK fr ρ (.exc s xs S) = .exc s xs S := rfl
@[simp] theorem chain3K_ok : chain3K op2 v c ρ (.ok (.p (.bool b0)) S) = (if b0 = true then bin2K op2 v (c ρ S) else .ok (.p (.bool false)) S) := rfl
@[simp] theorem chain3K_exc {s : Str} : chain3K op2 v c ρ (.exc s xs S) = .exc s xs S := rfl
@[simp] theorem chain2K_ok : chain2K op op2 v c ρ (.ok d S) = (chain3K op2 d c ρ (op v d S)) := rfl
@[simp] theorem chain2K_exc {s : Str} : chain2K op op2 v c ρ (.exc s xs S) = .exc s xs S := rfl
@[simp ↓] theorem ap_chain : fChain op op2 a b c ρ S = chainK op op2 b c ρ (a ρ S) := rfl
@[simp] theorem chainK_ok : chainK op op2 b c ρ (.ok d S) = (chain2K op op2 d c ρ (b ρ S)) := rfl
@[simp] theorem chainK_exc {s : Str} : chainK op op2 b c ρ (.exc s xs S) = .exc s xs S := rfl
@[simp] theorem app2K_ok : app2K k (.ok d S) = (match S[k]? with | some (.lst xs) => if xs.length < lim then .ok (.p .none) (S.set k (.lst (xs ++ [d]))) else .bad | _ => .bad) := rfl
@[simp] theorem app2K_exc {s : Str} : app2K k (.exc s xs S) = .exc s xs S := rfl
@[simp ↓] theorem ap_app : fApp a b ρ S = appK b ρ (a ρ S) := rfl
@[simp] theorem appK_ok : appK b ρ (.ok (.own k) S) = (match S[k]? with | some (.lst _) => app2K k (b ρ S) | _ => .bad) := rfl
@[simp] theorem appK_exc {s : Str} : appK b ρ (.exc s xs S) = .exc s xs S := rfl
@[simp] theorem setIx3K_ok : setIx3K v o ρ (.ok d S) = (setIx4 v o d ρ S) := rfl
@[simp] theorem setIx3K_exc {s : Str} : setIx3K v o ρ (.exc s xs S) = .exc s xs ρ S := rfl
@[simp] theorem setIx2K_ok : setIx2K v c ρ (.ok d S) = (setIx3K v d ρ (c ρ S)) := rfl
@[simp] theorem setIx2K_exc {s : Str} : setIx2K v c ρ (.exc s xs S) = .exc s xs ρ S := rfl
@[simp ↓] theorem ap_setIx : fSetIx a b c ρ S = setIxK b c ρ (a ρ S) := rfl
@[simp] theorem setIxK_ok : setIxK b c ρ (.ok d S) = (setIx2K d c ρ (b ρ S)) := rfl
@[simp] theorem setIxK_exc {s : Str} : setIxK b c ρ (.exc s xs S) = .exc s xs ρ S := rfl
@[simp ↓] theorem ap_ret : fRet a ρ S = retK ρ (a ρ S) := rfl
@[simp] theorem retK_ok : retK ρ (.ok d S) = (.rt d S) := rfl
@[simp] theorem retK_exc {s : Str} : retK ρ (.exc s xs S) = .exc s xs ρ S := rfl
@[simp ↓] theorem ap_set : fSet i a ρ S = setK i ρ (a ρ S) := rfl
@[simp] theorem setK_ok : setK i ρ (.ok d S) = (.nx (ρ.set i (some d)) S) := rfl
@[simp] theorem setK_exc {s : Str} : setK i ρ (.exc s xs S) = .exc s xs ρ S := rfl
@[simp ↓] theorem ap_drop : fDrop a ρ S = dropK ρ (a ρ S) := rfl
@[simp] theorem dropK_ok : dropK ρ (.ok d S) = (.nx ρ S) := rfl
@[simp] theorem dropK_exc {s : Str} : dropK ρ (.exc s xs S) = .exc s xs ρ S := rfl
@[simp ↓] theorem ap_ifS : fIfS a f g ρ S = ifSK f g ρ (a ρ S) := rfl
@[simp] theorem ifSK_ok : ifSK f g ρ (.ok (.p (.bool b0)) S) = (if b0 = true then f ρ S else g ρ S) := rfl
@[simp] theorem ifSK_exc {s : Str} : ifSK f g ρ (.exc s xs S) = .exc s xs ρ S := rfl
@[simp ↓] theorem ap_and : fAnd a b ρ S = andK b ρ (a ρ S) := rfl
@[simp] theorem andK_ok : andK b ρ (.ok (.p (.bool b0)) S) = (if b0 = true then b ρ S else .ok (.p (.bool false)) S) := rfl
@[simp] theorem andK_exc {s : Str} : andK b ρ (.exc s xs S) = .exc s xs S := rfl
@[simp ↓] theorem ap_or : fOr a b ρ S = orK b ρ (a ρ S) := rfl
@[simp] theorem orK_ok : orK b ρ (.ok (.p (.bool b0)) S) = (if b0 = true then .ok (.p (.bool true)) S else b ρ S) := rfl
@[simp] theorem orK_exc {s : Str} : orK b ρ (.exc s xs S) = .exc s xs S := rfl
@[simp ↓] theorem ap_not : fNot a ρ S = notK (a ρ S) := rfl
@[simp] theorem notK_ok : notK (.ok (.p (.bool b0)) S) = (.ok (.p (.bool (!b0))) S) := rfl
@[simp] theorem notK_exc {s : Str} : notK (.exc s xs S) = .exc s xs S := rfl
@[simp ↓] theorem ap_if : fIf c a b ρ S = ifK a b ρ (c ρ S) := rfl
@[simp] theorem ifK_ok : ifK a b ρ (.ok (.p (.bool b0)) S) = (if b0 = true then a ρ S else b ρ S) := rfl
@[simp] theorem ifK_exc {s : Str} : ifK a b ρ (.exc s xs S) = .exc s xs S := rfl
@[simp ↓] theorem ap_un : fUn un a ρ S = unK un (a ρ S) := rfl
@[simp] theorem unK_ok : unK un (.ok d S) = (un d S) := rfl
@[simp] theorem unK_exc {s : Str} : unK un (.exc s xs S) = .exc s xs S := rfl
@[simp ↓] theorem ap_call : fCall bc fr ρ S = callK bc (fr ρ S) := rfl
@[simp] theorem callK_ok : callK bc (.ok ds S) = (bc ds S) := rfl
@[simp] theorem callK_exc {s : Str} : callK bc (.exc s xs S) = .exc s xs S := rfl
@[simp ↓] theorem ap_tup : fTup fr ρ S = tupK (fr ρ S) := rfl
@[simp] theorem tupK_ok : tupK (.ok ds S) = (tupR ds S) := rfl
@[simp] theorem tupK_exc {s : Str} : tupK (.exc s xs S) = .exc s xs S := rfl
@[simp ↓] theorem ap_lst : fLst fr ρ S = lstK (fr ρ S) := rfl
@[simp] theorem lstK_ok : lstK (.ok ds S) = (lstR ds S) := rfl
@[simp] theorem lstK_exc {s : Str} : lstK (.exc s xs S) = .exc s xs S := rfl
@[simp ↓] theorem ap_lstO : fLstO fr ρ S = lstOK (fr ρ S) := rfl
@[simp] theorem lstOK_ok : lstOK (.ok ds S) = (if ds.length < lim then .ok (.own S.length) (S ++ [.lst ds]) else .bad) := rfl
@[simp] theorem lstOK_exc {s : Str} : lstOK (.exc s xs S) = .exc s xs S := rfl
@[simp ↓] theorem ap_par : fPar i j fr ρ S = parK i j ρ (fr ρ S) := rfl
@[simp] theorem parK_ok : parK i j ρ (.ok [d1, d2] S) = (.nx ((ρ.set i (some d1)).set j (some d2)) S) := rfl
@[simp] theorem parK_exc {s : Str} : parK i j ρ (.exc s xs S) = .exc s xs ρ S := rfl
@[simp ↓] theorem ap_par3 : fPar3 i j l fr ρ S = par3K i j l ρ (fr ρ S) := rfl
@[simp] theorem par3K_ok : par3K i j l ρ (.ok [d1, d2, d] S) = (.nx (((ρ.set i (some d1)).set j (some d2)).set l (some d)) S) := rfl
@[simp] theorem par3K_exc {s : Str} : par3K i j l ρ (.exc s xs S) = .exc s xs ρ S := rfl
@[simp ↓] theorem ap_asg : fAsg a gg ρ S = asgK gg ρ (a ρ S) := rfl
@[simp] theorem asgK_ok : asgK gg ρ (.ok d S) = (match gg d ρ with | some ρ1 => .nx ρ1 S | none => .bad) := rfl
@[simp] theorem asgK_exc {s : Str} : asgK gg ρ (.exc s xs S) = .exc s xs ρ S := rfl
@[simp ↓] theorem ap_itS : fItS a ρ S = itSK (a ρ S) := rfl
@[simp] theorem itSK_ok : itSK (.ok d S) = (match d with | .p (.tuple ds) => .ok (ds.map D.p) S | .p (.list ds) => .ok (ds.map D.p) S | .scr ns => .ok ((ns.map PyData.int).map D.p) S | _ => .bad) := rfl
@[simp] theorem itSK_exc {s : Str} : itSK (.exc s xs S) = .exc s xs S := rfl
@[simp ↓] theorem ap_rng1 : fRng1 fr ρ S = rng1K (fr ρ S) := rfl
@[simp] theorem rng1K_ok : rng1K (.ok [.p (.int m)] S) = (if -1000000 < m ∧ m < 1000000 then .ok (rng 0 m.toNat) S else .bad) := rfl
@[simp] theorem rng1K_exc {s : Str} : rng1K (.exc s xs S) = .exc s xs S := rfl
@[simp ↓] theorem ap_rng2 : fRng2 fr ρ S = rng2K (fr ρ S) := rfl
@[simp] theorem rng2K_ok : rng2K (.ok [.p (.int m), .p (.int n)] S) = (if -1000000 < m ∧ m < 1000000 ∧ -1000000 < n ∧ n < 1000000 then .ok (rng m (n - m).toNat) S else .bad) := rfl
@[simp] theorem rng2K_exc {s : Str} : rng2K (.exc s xs S) = .exc s xs S := rfl
@[simp ↓] theorem ap_for : fFor fi gg f ρ S = forK gg f ρ (fi ρ S) := rfl
@[simp] theorem forK_ok : forK gg f ρ (.ok ds S) = (forL gg f ds ρ S) := rfl
@[simp] theorem forK_exc {s : Str} : forK gg f ρ (.exc s xs S) = .exc s xs ρ S := rfl
@[simp ↓] theorem ap_isi {t : Ty} : fIsi t a ρ S = isiK t (a ρ S) := rfl
@[simp] theorem isiK_ok : isiK t (.ok (.p x) S) = (.ok (.p (.bool (isT t x))) S) := rfl
@[simp] theorem isiK_exc {s : Str} : isiK t (.exc s xs S) = .exc s xs S := rfl
@[simp ↓] theorem ap_frz : fFrz a ρ S = frzK (a ρ S) := rfl
@[simp] theorem frzK_ok : frzK (.ok (.own k) S) = (match S[k]? with | some (.lst xs) => (match asPs xs with | some ps => .ok (.p (.list ps)) (S.set k (.fz (.p (.list ps)))) | none => .bad) | _ => .bad) := rfl
@[simp] theorem frzK_exc {s : Str} : frzK (.exc s xs S) = .exc s xs S := rfl
@[simp ↓] theorem ap_kix : fKix a ρ S = kixK (a ρ S) := rfl
@[simp] theorem kixK_ok : kixK (.ok (.p (.str z)) S) = (if z = ("a" : Str) then .ok (.p (.int 0)) S else if z = ("b" : Str) then .ok (.p (.int 1)) S else .bad) := rfl
@[simp] theorem kixK_exc {s : Str} : kixK (.exc s xs S) = .exc s xs S := rfl
@[simp ↓] theorem ap_slice {fl fh : FO} : fSlice a fl fh ρ S = sliceK fl fh ρ (a ρ S) := rfl
@[simp] theorem sliceK_ok : sliceK fl fh ρ (.ok d S) = ((fl ρ S).bind fun l S2 => (fh ρ S2).bind fun h S3 => gSl d l h S3) := rfl
@[simp] theorem sliceK_exc {s : Str} : sliceK fl fh ρ (.exc s xs S) = .exc s xs S := rfl
@[simp ↓] theorem ap_fsome : fSome a ρ S = fsomeK (a ρ S) := rfl
@[simp] theorem fsomeK_ok : fsomeK (.ok (.p (.int m)) S) = (.ok (some m) S) := rfl
@[simp] theorem fsomeK_exc {s : Str} : fsomeK (.exc s xs S) = .exc s xs S := rfl
def augK (i : Nat) (op : D → D → Sto → Res D) (ρ : Env) (x : PyData) (r : Res D) : Fl := r.thn ρ fun d1 S1 => (op (.p x) d1 S1).thn ρ fun d2 S2 => .nx (ρ.set i (some d2)) S2
@[simp ↓] theorem ap_aug : fAug i op b ρ S = (match ρ[i]? with
  | some (some (.p d0)) => augK i op ρ d0 (b ρ S)
  | _ => .bad) := rfl
@[simp] theorem augK_ok : augK i op ρ x (.ok d S) = setK i ρ (op (.p x) d S) := rfl
@[simp] theorem augK_exc {s : Str} : augK i op ρ x (.exc s xs S) = .exc s xs ρ S := rfl
@[simp ↓] theorem ap_pass : fPass ρ S = .nx ρ S := rfl
@[simp ↓] theorem ap_retN : fRetN ρ S = .rt (.p .none) S := rfl
@[simp ↓] theorem ap_brk : fBrk ρ S = .bk ρ S := rfl
@[simp ↓] theorem ap_cnt : fCnt ρ S = .ct ρ S := rfl
@[simp ↓] theorem ap_var : fVar i ρ S = (match ρ[i]? with
  | some (some .exn) => .bad
  | some (some d) => .ok d S
  | _ => .bad) := rfl
@[simp ↓] theorem ap_con : fCon x ρ S = .ok (.p x) S := rfl
@[simp ↓] theorem ap_nil : fNil ρ S = .ok [] S := rfl
theorem lt_lim {n : Nat} (h : n < 1000000) : n < lim := h
@[simp] theorem lim_val : lim = 1000000 := rfl
@[simp] theorem asPs_nil : asPs [] = some [] := rfl
@[simp] theorem asPs_cons : asPs (.p x :: ds) = (asPs ds).map (x :: ·) := rfl
@[simp] theorem tupR_eq : tupR ds S = (match asPs ds with
  | some ps => if ds.length < lim then .ok (.p (.tuple ps)) S else .bad
  | none => .bad) := rfl
@[simp] theorem lstR_eq : lstR ds S = (match asPs ds with
  | some ps => if ds.length < lim then .ok (.p (.list ps)) S else .bad
  | none => .bad) := rfl
@[simp ↓] theorem ap_nm : gNm i d ρ = some (ρ.set i (some d)) := rfl
@[simp ↓] theorem ap_gsNil : gsNil [] ρ = some ρ := rfl
@[simp ↓] theorem ap_gsCons : gsCons gg gs (d :: ds) ρ = (gg d ρ).bind (gs ds) := rfl
@[simp ↓] theorem ap_gTp : gTp i gs (.p (.tuple xs)) ρ = if xs.length = i then gs (xs.map D.p) ρ else none := rfl
@[simp ↓] theorem ap_while {k : Nat} : fWhile k a f ρ S = whileN a f k ρ S := rfl
/-- what follows one round -/
def Fl.rnd (o : Fl) (k : Env → Sto → Fl) : Fl := match o with
  | .nx ρ2 S2 => k ρ2 S2
  | .ct ρ2 S2 => k ρ2 S2
  | .bk ρ2 S2 => .nx ρ2 S2
  | o => o

@[simp] theorem rnd_nx {k : Env → Sto → Fl} : (Fl.nx ρ S).rnd k = k ρ S := rfl
@[simp] theorem rnd_ct {k : Env → Sto → Fl} : (Fl.ct ρ S).rnd k = k ρ S := rfl
@[simp] theorem rnd_bk {k : Env → Sto → Fl} : (Fl.bk ρ S).rnd k = .nx ρ S := rfl
@[simp] theorem rnd_rt {k : Env → Sto → Fl} : (Fl.rt d S).rnd k = .rt d S := rfl
@[simp] theorem rnd_exc {k : Env → Sto → Fl} {n : Str} : (Fl.exc n xs ρ S).rnd k = .exc n xs ρ S := rfl
@[simp ↓] theorem forL_nil : forL gg f [] ρ S = .nx ρ S := rfl
@[simp ↓] theorem forL_cons : forL gg f (d :: ds) ρ S = (match gg d ρ with
  | none => .bad
  | some ρ1 => (f ρ1 S).rnd fun ρ2 S2 => forL gg f ds ρ2 S2) := rfl
theorem whileN_succ {k : Nat} : whileN a f (k + 1) ρ S = (a ρ S).asB.thn ρ fun b S1 => if b = true then (f ρ S1).rnd (whileN a f k) else .nx ρ S1 := rfl
@[simp ↓] theorem ap_raise0 {n : Str} : fRaise0 n ρ S = .exc n [] ρ S := rfl
@[simp ↓] theorem ap_no : fNo ρ S = .ok none S := rfl
@[simp] theorem ap_yes : fYes ρ S = .ok (.p (.bool true)) S := rfl
/-! the operators -/
@[simp] theorem g_gI {h : Int → Int → PyData} : gI h (.p (.int m)) (.p (.int n)) S = .ok (.p (h m n)) S := rfl
@[simp] theorem g_sub : gMinus (.p (.int m)) (.p (.int n)) S = .ok (.p (.int (m - n))) S := rfl
@[simp] theorem g_add : gAdd (.p (.int m)) (.p (.int n)) S = .ok (.p (.int (m + n))) S := rfl
@[simp] theorem g_neg : gNeg (.p (.int m)) S = .ok (.p (.int (-m))) S := rfl
theorem g_mul : gMul (.p (.int m)) (.p (.int n)) S = if cMul m n = true then .ok (.p (.int (m * n))) S else .bad := rfl
@[simp] theorem g_mulR (h : -18446744073709551616 < n ∧ n < 18446744073709551616) : gMul (.p (.int m)) (.p (.int n)) S = .ok (.p (.int (m * n))) S := by
  rw [g_mul, if_pos]
  unfold cMul
  rw [Bool.or_eq_true]
  exact .inr (decide_eq_true h)
@[simp] theorem g_mulL (h : -18446744073709551616 < m ∧ m < 18446744073709551616) : gMul (.p (.int m)) (.p (.int n)) S = .ok (.p (.int (m * n))) S := by
  rw [g_mul, if_pos]
  unfold cMul
  rw [Bool.or_eq_true]
  exact .inl (decide_eq_true h)
@[simp] theorem g_div (h : 0 < n ∧ n < 1073741824) : gDiv (.p (.int m)) (.p (.int n)) S = .ok (.p (.int (m / n))) S := if_pos (decide_eq_true h)
@[simp] theorem g_mod (h : 0 < n) : gMod (.p (.int m)) (.p (.int n)) S = .ok (.p (.int (m % n))) S := if_pos (decide_eq_true h)
@[simp] theorem g_pow (h : 0 ≤ n ∧ n ≤ 1000000 ∧ m.natAbs < 18446744073709551616) : gPow (.p (.int m)) (.p (.int n)) S = .ok (.p (.int (m ^ n.toNat))) S := if_pos (decide_eq_true h)
@[simp] theorem g_lt : gLt (.p (.int m)) (.p (.int n)) S = .ok (.p (.bool (decide (m < n)))) S := rfl
@[simp] theorem g_le : gLe (.p (.int m)) (.p (.int n)) S = .ok (.p (.bool (decide (m ≤ n)))) S := rfl
@[simp] theorem g_gt : gGt (.p (.int m)) (.p (.int n)) S = .ok (.p (.bool (decide (n < m)))) S := rfl
@[simp] theorem g_ge : gGe (.p (.int m)) (.p (.int n)) S = .ok (.p (.bool (decide (n ≤ m)))) S := rfl
@[simp] theorem g_isN : gIsN d (.p .none) S = .ok (.p (.bool (isN d))) S := rfl
@[simp] theorem g_notN : gNotN d (.p .none) S = .ok (.p (.bool (!isN d))) S := rfl
@[simp] theorem isN_non : isN (.p .none) = true := rfl
@[simp] theorem isN_int : isN (.p (.int m)) = false := rfl
@[simp] theorem isN_tup : isN (.p (.tuple xs)) = false := rfl
theorem g_eq (h : (SeqAt.shaped x && SeqAt.shaped y) = true) : gEq (.p x) (.p y) S = .ok (.p (.bool (PyData.eqv x y))) S := if_pos h
theorem g_ne (h : (SeqAt.shaped x && SeqAt.shaped y) = true) : gNe (.p x) (.p y) S = .ok (.p (.bool (!PyData.eqv x y))) S := if_pos h
@[simp] theorem g_eqI : gEq (.p (.int m)) (.p (.int n)) S = .ok (.p (.bool (decide (m = n)))) S := rfl
@[simp] theorem g_neI : gNe (.p (.int m)) (.p (.int n)) S = .ok (.p (.bool (!decide (m = n)))) S := rfl
theorem g_ixT : gIx (.p (.tuple xs)) (.p (.int m)) S = (match atI xs m with
  | some d => .ok (.p d) S
  | none => .bad) := rfl
theorem g_ixL : gIx (.p (.list xs)) (.p (.int m)) S = (match atI xs m with
  | some d => .ok (.p d) S
  | none => .bad) := rfl
theorem g_ixO {k : Nat} : gIx (.own k) (.p (.int m)) S = (match S[k]? with
  | some (.lst xs) => (match atI xs m with
    | some d => .ok d S
    | none => .bad)
  | _ => .bad) := rfl
@[simp] theorem g_len_t : gLen [.p (.tuple xs)] S = .ok (.p (.int xs.length)) S := rfl
@[simp] theorem g_len_l : gLen [.p (.list xs)] S = .ok (.p (.int xs.length)) S := rfl
@[simp] theorem g_len_o {k : Nat} : gLen [.own k] S = (match S[k]? with
  | some (.lst xs) => .ok (.p (.int xs.length)) S
  | _ => .bad) := rfl
@[simp] theorem g_max : gMax2 [.p (.int m), .p (.int n)] S = .ok (.p (.int (if n > m then n else m))) S := rfl
@[simp] theorem g_min : gMin2 [.p (.int m), .p (.int n)] S = .ok (.p (.int (if n < m then n else m))) S := rfl
@[simp] theorem g_int : gInt [.p (.int m)] S = .ok (.p (.int m)) S := rfl
@[simp] theorem g_intB {k : Bool} : gInt [.p (.bool k)] S = .ok (.p (.int (if k then 1 else 0))) S := rfl
end
theorem ixN_nat {n : Nat} {i : Int} (h0 : 0 ≤ i) (h1 : i < n) : ixN n i = some i.toNat := by
  unfold ixN
  rw [if_pos h0, if_pos h1]
theorem atI_some {α : Type} {xs : List α} {i : Int} {x : α} (h0 : 0 ≤ i) (h : xs[i.toNat]? = some x) : atI xs i = some x := by
  have h2 : i.toNat < xs.length := (List.getElem?_eq_some_iff.mp h).1
  unfold atI
  rw [ixN_nat h0 (by omega)]
  exact h
@[simp] theorem atI_0 {α : Type} {x : α} {xs : List α} : atI (x :: xs) 0 = some x := atI_some (by decide) rfl
@[simp] theorem atI_1 {α : Type} {x y : α} {xs : List α} : atI (x :: y :: xs) 1 = some y := atI_some (by decide) rfl
@[simp] theorem atI_2 {α : Type} {x y z : α} {xs : List α} : atI (x :: y :: z :: xs) 2 = some z := atI_some (by decide) rfl
@[simp] theorem atI_3 {α : Type} {x y z u : α} {xs : List α} : atI (x :: y :: z :: u :: xs) 3 = some u := atI_some (by decide) rfl
section
variable {ρ ρ1 : Env} {S : Sto} {a b ft fe : FE} {fi : FI} {g : FG} {vs : List Nat} {d : D} {ds : List D} {xs : List PyData} {b0 : Bool} {n : Str} {f : FS} {ns : List Str} {cl : List FCl}
def compE (r : Res (List D)) : Res D := r.bind compEnd
def compK (vs : List Nat) (g : FG) (ft fe : FE) (ρ : Env) (r : Res (List D)) : Res D := r.bind fun ds S1 => if ds.length < lim then compE (compL g ft fe (wipeE ρ vs) ds S1) else .bad
def cK3 (d : D) (r : Res (List D)) : Res (List D) := r.bind fun xs S3 => .ok (d :: xs) S3
def cK2 (g : FG) (ft fe : FE) (ρw : Env) (ds : List D) (r : Res D) : Res (List D) := r.noX.bind fun x S2 => cK3 x (compL g ft fe ρw ds S2)
def cK1 (g : FG) (ft fe : FE) (ρw : Env) (ds : List D) (ρ1 : Env) (r : Res D) : Res (List D) := r.noX.asB.bind fun k S1 => if k = true then cK2 g ft fe ρw ds (fe ρ1 S1) else compL g ft fe ρw ds S1
@[simp ↓] theorem ap_comp : fComp vs fi g ft fe ρ S = compK vs g ft fe ρ (fi ρ S) := rfl
@[simp] theorem compK_ok : compK vs g ft fe ρ (.ok ds S) = if ds.length < lim then compE (compL g ft fe (wipeE ρ vs) ds S) else .bad := rfl
@[simp] theorem compE_ok : compE (.ok ds S) = (match asPs ds with
  | some ps => .ok (.p (.list ps)) S
  | none => .bad) := rfl
@[simp ↓] theorem compL_nil : compL g ft fe ρ [] S = .ok [] S := rfl
@[simp ↓] theorem compL_cons : compL g ft fe ρ (d :: ds) S = (match g d ρ with
  | none => .bad
  | some ρ1 => cK1 g ft fe ρ ds ρ1 (ft ρ1 S)) := rfl
@[simp] theorem cK1_ok : cK1 g ft fe ρ ds ρ1 (.ok (.p (.bool b0)) S) = if b0 = true then cK2 g ft fe ρ ds (fe ρ1 S) else compL g ft fe ρ ds S := rfl
@[simp] theorem cK2_ok : cK2 g ft fe ρ ds (.ok d S) = cK3 d (compL g ft fe ρ ds S) := rfl
@[simp] theorem cK3_ok : cK3 d (.ok ds S) = .ok (d :: ds) S := rfl
@[simp] theorem wipe_0 : wipeE ρ [] = ρ := rfl
@[simp] theorem wipe_1 {v : Nat} : wipeE ρ (v :: vs) = (wipeE ρ vs).set v none := rfl
@[simp] theorem bools_nil : boolsOf [] = some [] := rfl
@[simp] theorem bools_cons : boolsOf (.bool b0 :: xs) = (boolsOf xs).map (b0 :: ·) := rfl
@[simp] theorem g_all : gAll [.p (.list xs)] S = (match boolsOf xs with
  | some bs => .ok (.p (.bool (bs.all id))) S
  | none => .bad) := rfl
@[simp] theorem g_any : gAny [.p (.list xs)] S = (match boolsOf xs with
  | some bs => .ok (.p (.bool (bs.any id))) S
  | none => .bad) := rfl
def tryK (ns : List Str) (cl : List FCl) (o : Fl) : Fl := match o with
  | .exc n as ρ1 S1 => if n ∈ ns then clsF n as ρ1 S1 cl else .bad
  | o => o
@[simp ↓] theorem ap_try : fTry ns f cl ρ S = tryK ns cl (f ρ S) := rfl
@[simp] theorem tryK_nx : tryK ns cl (.nx ρ S) = .nx ρ S := rfl
@[simp] theorem tryK_rt : tryK ns cl (.rt d S) = .rt d S := rfl
@[simp] theorem tryK_exc : tryK ns cl (.exc n xs ρ S) = if n ∈ ns then clsF n xs ρ S cl else .bad := rfl
@[simp] theorem isT_int {i : Int} : isT .int (.int i) = true := rfl
@[simp] theorem isT_bool {i : Int} : isT .bool (.int i) = false := rfl
@[simp] theorem isT_tup : isT .tuple (.tuple xs) = true := rfl
@[simp] theorem isT_lst : isT .list (.list xs) = true := rfl
@[simp] theorem isT_str : isT .str (.str n) = true := rfl
@[simp] theorem g_tup_t : gTuple [.p (.tuple xs)] S = .ok (.p (.tuple xs)) S := rfl
@[simp] theorem g_tup_l : gTuple [.p (.list xs)] S = .ok (.p (.tuple xs)) S := rfl
@[simp] theorem g_sl {l h : Option Int} : gSl (.p (.tuple xs)) l h S = .ok (.p (.tuple (cutD xs l h))) S := rfl
theorem g_in {d : PyData} {neg : Bool} (h : (flatD d && xs.all flatD) = true) : gIn neg (.p d) (.p (.tuple xs)) S = .ok (.p (.bool (if neg = true then !inF d xs else inF d xs))) S := if_pos h
end
end Tw
namespace Tw
open PySem PySem.Spec PyProof.Rows L2

/-! ### worlds: what of the text they need -/
abbrev wA (K : PySem.W.Frag) : Addr := He.ga K "World"
abbrev sP (K : PySem.W.Frag) (f : Str) : Addr := He.ma K (wA K) f
def sI (K : PySem.W.Frag) (f : Str) : Nat := (PySem.W.slotIn K (sP K f) (wA K)).getD 0
def fcSlot (f : Str) : PySem.W.Frag → Bool := fun K => decide (PySem.W.findIn K (.ref (wA K)) f = some (some (.ref (sP K f)))) && (decide (PySem.W.specialIn K (.ref (sP K f)) "__get__" = some (some (.builtin "member_descriptor.__get__"))) &&
  (decide (PySem.W.takesIn K (.ref (sP K f)) = some true) && (decide (PySem.W.typeIn K (.ref (sP K f)) = some (.type "member_descriptor")) && (decide (PySem.W.slotIn K (sP K f) (wA K) = some (sI K f)) && decide (sI K f < 1000)))))
theorem fcSlot_ok {f : Str} {K : PySem.W.Frag} (h : fcSlot f K = true) : SlX.Slot1 K (wA K) f (sP K f) (sI K f) := by
  obtain ⟨h1, h⟩ := He.ba h
  obtain ⟨h2, h⟩ := He.ba h
  obtain ⟨h3, h⟩ := He.ba h
  obtain ⟨h4, h⟩ := He.ba h
  obtain ⟨h5, h6⟩ := He.ba h
  exact ⟨of_decide_eq_true h1, of_decide_eq_true h2, of_decide_eq_true h3, of_decide_eq_true h4, of_decide_eq_true h5, of_decide_eq_true h6⟩
def fcWld : PySem.W.Frag → Bool := fun K => PySem.W.plainGet K (wA K) Str.empty && (PySem.W.isClsIn K (wA K) && (PySem.W.plainOver K (wA K) && (decide (PySem.W.findIn K (.ref (wA K)) "__setattr__" = some (some (.builtin "object.__setattr__"))) && (decide (sI K "rows" ≠ sI K "first") &&
  (fcSlot "rows" K && fcSlot "first" K)))))
structure WF (K : PySem.W.Frag) : Prop where
  sc : SlX.SCls K (wA K)
  r : SlX.Slot1 K (wA K) "rows" (sP K "rows") (sI K "rows")
  f : SlX.Slot1 K (wA K) "first" (sP K "first") (sI K "first")
  ne : sI K "rows" ≠ sI K "first"
theorem fcWld_ok {K : PySem.W.Frag} (h : fcWld K = true) : WF K := by
  obtain ⟨h1, h⟩ := He.ba h
  obtain ⟨h2, h⟩ := He.ba h
  obtain ⟨h3, h⟩ := He.ba h
  obtain ⟨h4, h⟩ := He.ba h
  obtain ⟨h5, h⟩ := He.ba h
  obtain ⟨h6, h7⟩ := He.ba h
  exact ⟨⟨h1, h2, h3, of_decide_eq_true h4⟩, fcSlot_ok h6, fcSlot_ok h7, of_decide_eq_true h5⟩
theorem wat_slt {K : PySem.W.Frag} {F H : Hp} {a : Addr} {d l : PyData} (e : Same F H) (h : WAt K F a d l) : ∃ dx vs, SlX.Slt H a (wA K) dx vs := by
  obtain ⟨dx, vs, _, _, _, _, _, _, h1, h2, _⟩ := h
  exact ⟨dx, vs, .inr ⟨e _ _ h1, e _ _ h2⟩⟩
/-! ### what a world holds -/
def fFld (b : Bool) (fa : FE) : FE := fun ρ S => (fa ρ S).bind fun d S1 => match d with
  | .wld r l => .ok (.p (if b = true then l else r)) S1
  | _ => .bad
section
variable {X : Cx} {c : Cw} {e : Expr} {pos : Pos} {fa : FE}
theorem fe_rows (w : WF X.K) (he : PE X e (tE c fa)) (hK : c.K = X.K := by rfl) (hb : attributeBase e "rows" X.env (eval e X.env) = eval e X.env := by rfl) : PE X (.Attribute e "rows" pos) (tE c (fFld false fa)) :=
  pe_imp (SlX.pe_sl he hb) fun σ H Q ⟨G, F, io, S, ρ, gd, re, q⟩ => ⟨G, F, io, S, ρ, gd, re, Aft.step q fun d1 S1 v1 F1 i1 H1 e1 g1 r1 q1 => by
    cases d1 with
    | wld r l =>
      obtain ⟨a, rfl, dx, vs, vr, vf, pr, ir, pf, jf, h1, h2, h3, h4, h5, h6, h7, h8⟩ := r1
      rw [hK] at h1 h3
      exact ⟨a, _, dx, pr, vs, ir, vr, rfl, .inr ⟨g1.ex _ _ h1, g1.ex _ _ h2⟩, w.sc, h3, h5, hereP (v := vr) q1 g1 h7⟩
    | _ => exact q1.elim⟩
theorem fe_first (w : WF X.K) (he : PE X e (tE c fa)) (hK : c.K = X.K := by rfl) (hb : attributeBase e "first" X.env (eval e X.env) = eval e X.env := by rfl) : PE X (.Attribute e "first" pos) (tE c (fFld true fa)) :=
  pe_imp (SlX.pe_sl he hb) fun σ H Q ⟨G, F, io, S, ρ, gd, re, q⟩ => ⟨G, F, io, S, ρ, gd, re, Aft.step q fun d1 S1 v1 F1 i1 H1 e1 g1 r1 q1 => by
    cases d1 with
    | wld r l =>
      obtain ⟨a, rfl, dx, vs, vr, vf, pr, ir, pf, jf, h1, h2, h3, h4, h5, h6, h7, h8⟩ := r1
      rw [hK] at h1 h4
      exact ⟨a, _, dx, pf, vs, jf, vf, rfl, .inr ⟨g1.ex _ _ h1, g1.ex _ _ h2⟩, w.sc, h4, h6, hereP (v := vf) q1 g1 h8⟩
    | _ => exact q1.elim⟩
end
/-! ### what is made -/
section
variable {K : PySem.W.Frag} {G F : Hp} {io : List Addr} {H : Hp} {S : Sto} {o : HO}
theorem Good.fix (g : Good K G F io H S) {k : Nat} {a : Addr} (h1 : io[k]? = some a) (hf : F a = none) {x : O} (hx : OAt K (upd F a o) io (upd H a o) a x) : Good K G (upd F a o) io (upd H a o) (S.set k x) ∧ Ext F io (upd F a o) io := by
  have e : Ext F io (upd F a o) io := ⟨upd_one hf, [], by simp⟩
  refine ⟨⟨upd_both g.ex, fun b u q => (upd_ne (g.gne q h1)).trans (g.gx b u q), fun b u q => ?_, g.nd, by simp [g.len], fun j b o' e1 e2 => ?_, g.gt⟩, e⟩
  · exact ⟨(upd_ne (g.gne q h1)).trans (g.gf b u q).1, (g.gf b u q).2⟩
  · by_cases hj : j = k
    · subst hj
      obtain rfl : a = b := Option.some.inj (h1.symm.trans e1)
      have hk : j < S.length := by simpa using (List.getElem?_eq_some_iff.mp e2).1
      rw [List.getElem?_set_self hk] at e2
      obtain rfl : x = o' := Option.some.inj e2
      exact hx
    · rw [List.getElem?_set_ne (Ne.symm hj)] at e2
      have hb : b ≠ a := fun z => by
        subst z
        obtain ⟨l1, z1⟩ := List.getElem?_eq_some_iff.mp e1
        obtain ⟨l2, z2⟩ := List.getElem?_eq_some_iff.mp h1
        exact hj ((List.getElem_inj g.nd).mp (z1.trans z2.symm))
      exact oat_step e (fun z => (upd_ne hb).trans z) (fun _ => upd_ne hb) (g.ob j b o' e1 e2)
theorem Good.new2 (g : Good K G F io H S) {x dx : Addr} (hx : H x = none) (hd : H dx = none) (ne : dx ≠ x) :
    Good K G F (io ++ [dx, x]) (upd (upd H dx (.own x)) x (.ins (wA K) dx [])) (S ++ [.odx (S.length + 1), .raw S.length]) ∧ Ext F io F (io ++ [dx, x]) := by
  have fx := g.out hx
  have fd := g.out hd
  have e : Ext F io F (io ++ [dx, x]) := ⟨Same.refl F, [dx, x], rfl⟩
  have nin : ∀ {p : Addr}, H p = none → p ∉ io := fun hp hm => by
    obtain ⟨u, hu⟩ := g.mem hm
    exact ne_of_none hu hp rfl
  have up : ∀ {b : Addr} {u : HO}, H b = some u → upd (upd H dx (.own x)) x (.ins (wA K) dx []) b = some u := fun {b u} q => by
    rw [upd_ne (ne_of_none q hx), upd_ne (ne_of_none q hd)]
    exact q
  refine ⟨⟨fun b u q => up (g.ex _ _ q), fun b u q => up (g.gx _ _ q), fun b u q => ⟨(g.gf b u q).1, fun hm => ?_⟩, ?_, by simp [g.len], fun k a o' h1 h2 => ?_, g.gt⟩, e⟩
  · rcases List.mem_append.mp hm with hm | hm
    · exact (g.gf b u q).2 hm
    · rcases List.mem_cons.mp hm with rfl | hm
      · exact g.gnew hd q rfl
      · exact g.gnew hx q (List.mem_singleton.mp hm)
  · refine List.nodup_append.mpr ⟨g.nd, by simp [ne], fun p hp q hq z => ?_⟩
    subst z
    rcases List.mem_cons.mp hq with rfl | hq
    · exact nin hd hp
    · exact nin hx ((List.mem_singleton.mp hq) ▸ hp)
  · by_cases hk : k < io.length
    · rw [List.getElem?_append_left hk] at h1
      rw [List.getElem?_append_left (by rw [← g.len]; exact hk)] at h2
      have hm := List.mem_of_getElem? h1
      have a1 : a ≠ x := fun z => nin hx (z ▸ hm)
      have a2 : a ≠ dx := fun z => nin hd (z ▸ hm)
      exact oat_step e (fun z => z) (fun _ => by rw [upd_ne a1, upd_ne a2]) (g.ob k a o' h1 h2)
    · obtain ⟨j, rfl⟩ : ∃ j, k = io.length + j := ⟨k - io.length, by omega⟩
      rw [List.getElem?_append_right (Nat.le_add_right _ _), Nat.add_sub_cancel_left] at h1
      rw [g.len, List.getElem?_append_right (Nat.le_add_right _ _), Nat.add_sub_cancel_left] at h2
      have i0 : (io ++ [dx, x])[S.length]? = some dx := by rw [← g.len, List.getElem?_append_right (Nat.le_refl _), Nat.sub_self]; rfl
      have i1 : (io ++ [dx, x])[S.length + 1]? = some x := by rw [← g.len, List.getElem?_append_right (Nat.le_succ _), show io.length.succ - io.length = 1 by omega]; rfl
      match j, h1, h2 with
      | 0, h1, h2 =>
        obtain rfl : dx = a := Option.some.inj h1
        obtain rfl := Option.some.inj h2
        exact ⟨fd, x, i1, by rw [upd_ne ne, upd_same]⟩
      | 1, h1, h2 =>
        obtain rfl : x = a := Option.some.inj h1
        obtain rfl := Option.some.inj h2
        exact ⟨fx, dx, i0, upd_same⟩
      | j + 2, h1, h2 => simp at h1
end
/-- C(..), its __init__ read by m -/
def mkW (m : List D → Sto → Res D) (ds : List D) (S : Sto) : Res D := match m (.own (S.length + 1) :: ds) (S ++ [.odx (S.length + 1), .raw S.length]) with
  | .ok (.p .none) S' => (match S'[S.length + 1]? with
    | some (.fz (.wld d l)) => if (S'.take S.length).all (O.low S.length) = true ∧ S.length ≤ S'.length then .ok (.wld d l) (S'.take S.length) else .bad
    | _ => .bad)
  | .exc n as S' => if (S'.take S.length).all (O.low S.length) = true then .exc n as (S'.take S.length) else .bad
  | _ => .bad
/-- self.rows = .., self.first = .. , both of variables: the world stands -/
def fNewW (i r f : Nat) : FS := fun ρ S => match ρ[i]?, ρ[r]?, ρ[f]? with
  | some (some (.own k)), some (some (.p d)), some (some (.p l)) => match S[k]? with
    | some (.raw j) => (match S[j]? with
      | some (.odx _) => .nx ρ ((S.set j .gone).set k (.fz (.wld d l)))
      | _ => .bad)
    | _ => .bad
  | _, _, _ => .bad
section
variable {X : Cx} {c : Cw}
theorem fs_newW {i r f : Nat} {s1 s2 : Stmt} (w : WF X.K) (h1 : PS X s1 (SlX.sSl X.K (tVar i) (tVar r) "rows")) (h2 : PS X s2 (SlX.sSl X.K (tVar i) (tVar f) "first")) (hK : c.K = X.K := by rfl) : PSs X [s1, s2] (tS c (fNewW i r f)) :=
  pss_imp (pss_cons h1 (pss_one h2)) fun N σ H ⟨G, F, io, S, ρ, gd, re, q⟩ => by
    unfold fNewW at q
    split at q
    · rename_i k d l q1 q2 q3
      split at q
      · rename_i j hj
        split at q
        · rename_i k' hk'
          obtain ⟨vs, z1, a, rfl, ia⟩ := re.2 i _ q1
          obtain ⟨vr, z2, rr⟩ := re.2 r _ q2
          obtain ⟨vf, z3, rf⟩ := re.2 f _ q3
          obtain ⟨a', ia', fa', dx, ix, ha⟩ := gd.at_ hj
          obtain rfl : a = a' := Option.some.inj (ia.symm.trans ia')
          obtain ⟨dx', ix', fd, b, ib, hd⟩ := gd.at_ hk'
          obtain rfl : dx = dx' := Option.some.inj (ix.symm.trans ix')
          have ne : dx ≠ a := fun z => by
            rw [z, ha] at hd
            cases Option.some.inj hd
          have s1 : SlX.Slt H a (wA X.K) dx [] := .inl ⟨by rw [← hK]; exact ha, rfl⟩
          refine ⟨vr, z2, .ref a, z1, a, _, dx, _, [], _, rfl, s1, w.sc, w.r, vf, z3, .ref a, z1, a, _, dx, _, _, _, rfl, SlX.slH_slt ne, w.sc, w.f, ?_⟩
          rw [SlX.slH_twice ne]
          generalize hvs : SlX.putS (sI X.K "first") vf (SlX.putS (sI X.K "rows") vr []) = ws
          have wr : ws[sI X.K "rows"]? = some (some vr) := by
            rw [← hvs]
            exact (SlX.putS_ne w.ne).mpr (SlX.putS_get _ _ _)
          have wf : ws[sI X.K "first"]? = some (some vf) := by
            rw [← hvs]
            exact SlX.putS_get _ _ _
          unfold SlX.slH
          obtain ⟨g1, e1⟩ := gd.fix (o := .xd []) (x := .gone) ix fd ⟨_, upd_same⟩
          have fa1 : upd F dx (.xd []) a = none := by
            rw [upd_ne (Ne.symm ne)]
            exact fa'
          obtain ⟨g2, e2⟩ := g1.fix (o := SlX.SlO a (wA X.K) dx ws) (x := .fz (.wld d l)) ia fa1 (by
            refine ⟨⟨_, upd_same⟩, a, rfl, dx, ws, vr, vf, _, _, _, _, by rw [hK]; exact upd_same, by rw [upd_ne ne, upd_same], by rw [hK]; exact w.r, by rw [hK]; exact w.f, wr, wf, ?_, ?_⟩
            · exact dp_mono (e1.same.trans (upd_one fa1)) _ _ rr
            · exact dp_mono (e1.same.trans (upd_one fa1)) _ _ rf)
          exact q σ _ _ _ (e1.trans e2) g2 (renv_mono (e1.trans e2) re)
        · exact q.elim
      · exact q.elim
    · exact q.elim
end
end Tw
namespace Tw
open PySem PySem.Spec PyProof.Rows L2

/-! ### defs of the class -/
section
variable (P : Program) (w : World) (K : PySem.W.Frag) (mg : Str → Option Value) (base : Heap) (x : Str) (k n : Nat) (m : List D → Sto → Res D)
structure CalI : Prop where
  ex : ∃ f fd ps, FnOk P w K mg base (L2.CX P w) k f fd ps (spF K m n) ∧ Mk K (wA K) f ∧ Binds K fd ps []
structure CalM : Prop where
  ex : ∃ f fd ps, FnOk P w K mg base (L2.CX P w) k f fd ps (spF K m n) ∧ Meth K (wA K) x f ∧ Binds K fd ps []
structure CalP : Prop where
  ex : ∃ p g fd ps, FnOk P w K mg base (L2.CX P w) k g fd ps (spF K m n) ∧ PropOf K (wA K) x p g ∧ Binds K fd ps []
end
theorem adr_fn {K : PySem.W.Frag} {x m : Str} (h : PySem.W.isFn K (.ref (He.ma K (He.ga K x) m)) = true) : adr K (x, some m) = He.ma K (He.ga K x) m := by
  have no : PySem.W.recIn K (He.ma K (He.ga K x) m) "property" = none := by
    have ty : PySem.W.typeIn K (.ref (He.ma K (He.ga K x) m)) = some (.type "function") := beq_iff_eq.mp h
    unfold PySem.W.recIn
    split
    · rename_i n d vs sl ho
      have e : PySem.W.typeIn K (.ref (He.ma K (He.ga K x) m)) = some (.type n) := by
        unfold PySem.W.typeIn
        simp [ho]
      rw [e] at ty
      have en : n = "function" := Value.type.inj (Option.some.inj ty)
      subst en
      rfl
    · rfl
  unfold adr
  simp only [no]
def fcProp (x f : Str) : PySem.W.Frag → Bool := fun K => decide (PySem.W.findIn K (.ref (He.ga K x)) f = some (some (.ref (He.ma K (He.ga K x) f)))) && (decide (PySem.W.specialIn K (.ref (He.ma K (He.ga K x) f)) "__get__" = some (some (.builtin "property.__get__"))) &&
  (decide (PySem.W.takesIn K (.ref (He.ma K (He.ga K x) f)) = some true) && (match PySem.W.recIn K (He.ma K (He.ga K x) f) "property" with
    | some (.ref _ :: _) => true
    | _ => false)))
theorem fcProp_ok {x f : Str} {K : PySem.W.Frag} (h : fcProp x f K = true) : PropOf K (He.ga K x) f (He.ma K (He.ga K x) f) (adr K (x, some f)) := by
  obtain ⟨h1, h⟩ := He.ba h
  obtain ⟨h2, h⟩ := He.ba h
  obtain ⟨h3, h4⟩ := He.ba h
  refine ⟨of_decide_eq_true h1, of_decide_eq_true h2, of_decide_eq_true h3, ?_⟩
  unfold adr
  cases hr : PySem.W.recIn K (He.ma K (He.ga K x) f) "property" with
  | none => rw [hr] at h4; cases h4
  | some l =>
    rw [hr] at h4
    cases l with
    | nil => cases h4
    | cons v r => cases v with
      | ref a => exact ⟨r, by simp [hr]⟩
      | _ => cases h4
/-! ### what reads a property -/
def sp0 (sp : Sp) : Sp := fun vs H Q _ => sp vs H Q fun _ _ _ => False
section
variable {X : Cx} {k : Nat} {C p g a dx : Addr} {f : Str} {fd : FuncData} {ps : List Str} {sp : Sp} {sl0 : List (Option V)} {E : XK}
theorem get_prp {pins : List (Addr × Obj)} {σ : L2.St} {H : Hp} {s : Shared} {Q : VK} {b : Bool} {E' : Value → Shared → Prop} (I : Inv X pins σ H s) (hs : SlX.Slt H a C dx sl0) (cl : SlX.SCls X.K C) (pr : PropOf X.K C f p g)
    (fn : FnOk X.prog X.w X.K X.mg X.base L2.CX0 k g fd ps sp) (rm : Room (k + 1) X.A) (bd : Binds X.K fd ps []) (q : sp [.ref a] H Q E) :
    wpAny (model X.prog X.w) X.A (getAttr (.ref a) f b) (EP X pins σ Q) E' s := by
  obtain ⟨_, od, _, inst, _⟩ := SlX.slt_inst I hs
  obtain ⟨_, hr⟩ := pr.rec_
  have T := I.tok (s.toks + 1)
  have n1 : [Value.ref a].length = ps.length := (fn.len _ _ _ _ q : [V.ref a].length = ps.length)
  have bs := bd { s with toks := s.toks + 1 } [.ref a] T.kIn (by rw [List.append_nil]; exact n1)
  rw [List.append_nil] at bs
  have pg := PySem.W.plainGet_of (cl.get f)
  have body := fn.run X.A.in1 X.stack { s with toks := s.toks + 1 } H ⟨[.ref a], []⟩ [.ref a] [.ref a] Q E rm.in1 T.env0.in1 bs (.cons rfl .nil) q
  refine PySem.W.get_bind I.kIn inst pg.1 (PySem.W.findObj_data cl.ic pr.at_ pr.get pr.tak) pg.2 (wpAny_call (PySem.W.prop_get T.kIn hr (codeAny_mono body ?_)))
  rintro (er | fl) s' z
  · exact False.elim z
  · cases fl with
    | ret u =>
      obtain ⟨v, H', J, rv, zq⟩ := T.after z
      show wpAny _ _ (handedOut u) _ _ _
      rw [PySem.W.handedOut_of (handed_of rv)]
      exact wpAny_pure ⟨v, H', J, rv, zq⟩
    | _ => exact False.elim z
end
/-- a property of a world -/
def fPrp (m : List D → Sto → Res D) (fa : FE) : FE := fun ρ S => (fa ρ S).bind fun d S1 => match d with
  | .wld r l => (match m [.wld r l] S1 with
    | .ok d S2 => .ok d S2
    | _ => .bad)
  | _ => .bad
section
variable {X : Cx} {c : Cw} {e : Expr} {es : List Expr} {pos p0 apos : Pos} {fa : FE} {fr : FA} {f x : Str} {k n : Nat} {m : List D → Sto → Res D}
theorem fe_prp (h : CalP X.prog X.w X.K X.mg X.base f k 1 m) (w : WF X.K) (hr : Room (k + 1) X.A) (he : PE X e (tE c fa)) (hK : c.K = X.K := by rfl) (hb : attributeBase e f X.env (eval e X.env) = eval e X.env := by rfl) : PE X (.Attribute e f pos) (tE c (fPrp m fa)) := by
  obtain ⟨p, g, fd, ps, fn, pr, bd⟩ := h.ex
  have fn0 : FnOk X.prog X.w X.K X.mg X.base L2.CX0 k g fd ps (sp0 (spF X.K m 1)) := fn_calm fn fun vs H Q E h => h
  refine ⟨fun pins s σ H Q I ⟨G, F, io, S, ρ, gd, re, q⟩ => attr_of hb (thn (he.run pins s σ H (fun v H1 => ∃ a dx sl, v = .ref a ∧ SlX.Slt H1 a (wA X.K) dx sl ∧ sp0 (spF X.K m 1) [.ref a] H1 Q fun _ _ _ => False) I ⟨G, F, io, S, ρ, gd, re, ?_⟩) ?_)⟩
  · refine Aft.step q fun d1 S1 v1 F1 i1 H1 e1 g1 r1 q1 => ?_
    cases d1 with
    | wld r l =>
      obtain ⟨a, rfl, wa⟩ := r1
      obtain ⟨dx, sl, hs⟩ := wat_slt g1.ex wa
      rw [hK] at hs
      refine ⟨a, dx, sl, rfl, hs, rfl, G, F1, i1, S1, [.wld r l], by rw [← hK]; exact g1, .cons ⟨a, rfl, by rw [← hK]; exact wa⟩ .nil, ?_⟩
      have q1 : Aft c G F1 i1 σ (rp c) Q (match m [.wld r l] S1 with
        | .ok d S2 => .ok d S2
        | _ => .bad) := q1
      cases hm : m [.wld r l] S1 with
      | ok d S2 =>
        rw [hm] at q1
        intro v F' io' H' e' g' r'
        exact q1 v F' io' H' e' (by rw [hK]; exact g') (by rw [show rp c = fun F io v d => Rp c.K F io v d from rfl, hK]; exact r')
      | exc n as S2 => rw [hm] at q1; exact q1.elim
      | bad => rw [hm] at q1; exact q1.elim
    | _ => exact q1.elim
  · rintro u s1 ⟨v, H1, I1, rv, a, dx, sl, rfl, hs, q2⟩
    obtain rfl : u = Value.ref a := rv
    exact get_prp I1 hs w.sc pr fn0 hr bd q2
end
end Tw
namespace Tw
open PySem PySem.Spec PyProof.Rows L2

/-- a call of a def of the class -/
def fMth (m : List D → Sto → Res D) (fa : FE) (fr : FA) : FE := fun ρ S => (fa ρ S).bind fun d S1 => match d with
  | .wld r l => (fr ρ S1).bind fun ds S2 => m (.wld r l :: ds) S2
  | _ => .bad
/-! ### a world is made -/
section
variable {X : Cx} {k : Nat} {C f : Addr} {fd : FuncData} {ps : List Str} {sp : Sp} {E : XK}
theorem run_mk {pins : List (Addr × Obj)} {σ : L2.St} {H : Hp} {s : Shared} {Q : VK} {us : List Value} {vs : List V} (M : Mk X.K C f) (fn : FnOk X.prog X.w X.K X.mg X.base (L2.CX X.prog X.w) k f fd ps sp) (rm : Room (k + 1) X.A) (bd : Binds X.K fd ps [])
    (out : PassesAt (L2.CX X.prog X.w) X σ E) (I : Inv X pins σ H s) (r : Vals vs us)
    (q : ∀ x dx, H x = none → H dx = none → dx ≠ x → sp (.ref x :: vs) (upd (upd H dx (.own x)) x (.ins C dx [])) (fun v H2 => v = .non ∧ Q (.ref x) H2) E) :
    wpAny (model X.prog X.w) X.A (call (.ref C) us) (EP X pins σ Q) X.xe s := by
  have at_ := q (s.heap.objs.size + 1) s.heap.objs.size (I.hok.fresh (Nat.le_succ _)) (I.hok.fresh (Nat.le_refl _)) (Nat.ne_of_lt (Nat.lt_succ_self _))
  have J := Inv.made (C := C) I
  have rs : Vals (V.ref (s.heap.objs.size + 1) :: vs) (Value.ref (s.heap.objs.size + 1) :: us) := .cons rfl r
  have n1 : (Value.ref (s.heap.objs.size + 1) :: us).length = ps.length := rs.length.symm.trans (fn.len _ _ _ _ at_)
  have bs := bd _ (Value.ref (s.heap.objs.size + 1) :: us) J.kIn (by rw [List.append_nil]; exact n1)
  rw [List.append_nil] at bs
  have body := fn.run _ X.stack _ _ ⟨Value.ref (s.heap.objs.size + 1) :: us, []⟩ _ _ _ E (rm.make C us []) (J.env0.make C us []) bs rs at_
  refine wpAny_call (make_map (f := f) I.kIn M.makes M.init (beq_iff_eq.mp M.fn) (codeAny_mono body ?_))
  rintro (er | fl) s' z
  · exact out pins _ _ er s' J z
  · cases fl with
    | ret u =>
      obtain ⟨v, H', J2, rv, ev, zq⟩ := J.after z
      rw [ev] at rv
      exact ⟨rv, ⟨V.ref (s.heap.objs.size + 1), H', J2, rfl, zq⟩⟩
    | _ => exact False.elim z
end
section
variable {X : Cx} {c : Cw} {e o : Expr} {es : List Expr} {pos p0 apos : Pos} {fa : FE} {fr : FA} {f x : Str} {k n : Nat} {m : List D → Sto → Res D}
theorem aft_mk {G F : Hp} {io : List Addr} {H : Hp} {σ : L2.St} {S : Sto} {Q : VK} {x dx : Addr} {vs : List V} {ds : List D} (g : Good c.K G F io H S) (r : RpA c.K F io vs ds) (q : Aft c G F io σ (rp c) Q (mkW m ds S)) (hx : H x = none) (hd : H dx = none) (ne : dx ≠ x) (hl : ds.length = n) :
    spF c.K m (n + 1) (.ref x :: vs) (upd (upd H dx (.own x)) x (.ins (wA c.K) dx [])) (fun v H2 => v = .non ∧ Q (.ref x) H2) (WE c.W σ) := by
  obtain ⟨g2, e2⟩ := g.new2 hx hd ne
  refine ⟨by rw [List.length_cons, paired_len r, hl], G, F, io ++ [dx, x], _, .own (S.length + 1) :: ds, g2, .cons ⟨x, rfl, ?_⟩ (rpa_mono e2 r), ?_⟩
  · rw [← g.len, List.getElem?_append_right (Nat.le_succ _), show io.length.succ - io.length = 1 by omega]
    rfl
  have back : ∀ {F' : Hp} {io' : List Addr} {H' : Hp} {S' : Sto}, Ext F (io ++ [dx, x]) F' io' → Good c.K G F' io' H' S' → (S'.take S.length).all (O.low S.length) = true → Good c.K G F' io H' (S'.take S.length) ∧ Ext F io F' io := fun {F' io' H' S'} e' g' hlow => by
    obtain ⟨t, ht⟩ := e'.more
    have hio : io'.take S.length = io := by
      rw [ht, ← g.len, List.append_assoc, List.take_left]
    have g3 := g'.trim hlow
    rw [hio] at g3
    exact ⟨g3, e'.same, [], by simp⟩
  unfold mkW at q
  cases hm : m (.own (S.length + 1) :: ds) (S ++ [.odx (S.length + 1), .raw S.length]) with
  | bad => rw [hm] at q; exact q.elim
  | exc nm as S' =>
    rw [hm] at q
    have q : Aft c G F io σ (rp c) Q (if (S'.take S.length).all (O.low S.length) = true then .exc nm as (S'.take S.length) else .bad) := q
    by_cases hlow : (S'.take S.length).all (O.low S.length) = true
    · rw [if_pos hlow] at q
      intro cls dd F' io' H' e' g' x'
      obtain ⟨g3, e3⟩ := back e' g' hlow
      exact q cls dd F' io H' e3 g3 x'
    · rw [if_neg hlow] at q
      exact q.elim
  | ok d S' =>
    rw [hm] at q
    intro v F' io' H' e' g' r'
    split at q
    · rename_i S0 h0
      obtain ⟨rfl, rfl⟩ := Res.ok.inj h0
      cases r'
      refine ⟨rfl, ?_⟩
      split at q
      · rename_i d l hS
        by_cases hc : (S'.take S.length).all (O.low S.length) = true ∧ S.length ≤ S'.length
        · rw [if_pos hc] at q
          obtain ⟨g3, e3⟩ := back e' g' hc.1
          obtain ⟨a, ha, oa⟩ := g'.at_ hS
          have hx2 : io'[S.length + 1]? = some x := by
            obtain ⟨t, ht⟩ := e'.more
            rw [ht, ← g.len, List.append_assoc, List.getElem?_append_right (Nat.le_succ _), show io.length.succ - io.length = 1 by omega]
            rfl
          obtain rfl : x = a := Option.some.inj (hx2.symm.trans ha)
          exact q (.ref x) F' io H' e3 g3 oa.2
        · rw [if_neg hc] at q
          exact q.elim
      · exact q.elim
    · rename_i h0
      cases h0
    · exact q.elim
theorem fe_mk (h : CalI X.prog X.w X.K X.mg X.base k (n + 1) m) (hm : X.mg "World" = some (.ref (wA X.K))) (hr : Room (k + 1) X.A) (tk : Takes X c.W) (ha : PA X (e :: es) (tA c fr)) (hl : ∀ ρ S ds S', fr ρ S = .ok ds S' → ds.length = (e :: es).length)
    (hn : (e :: es).length = n := by rfl) (hK : c.K = X.K := by rfl) (hg : Gl X "World" := by rfl)
    (he : starEach (e :: es) X.env = (false, eval e X.env) :: starEach es X.env := by rfl) (hpl : (backTo pos (starEach es X.env)).any (·.1) = false := by rfl) : PE X (.Call (.Name "World" p0) (e :: es) [] pos) (tE c (fCall (mkW m) fr)) := by
  obtain ⟨f, fd, ps, fn, M, bd⟩ := h.ex
  refine ⟨fun pins s σ H Q I ⟨G, F, io, S, ρ, gd, re, q⟩ => wpAny_Call_Name_kw (ld_glob I hg hm (PySem.W.callWith_K (h₀ := X.base) I.ok.mod.kin M.kp (thn (ha.run pos pins s σ H (fun vs H1 => ∀ x dx, H1 x = none → H1 dx = none → dx ≠ x → spF X.K m (n + 1) (.ref x :: vs) (upd (upd H1 dx (.own x)) x (.ins (wA X.K) dx [])) (fun v H2 => v = .non ∧ Q (.ref x) H2) (WE c.W σ)) I ⟨G, F, io, S, ρ, gd, re, ?_⟩) ?_) he hpl) (by decide))⟩
  · unfold fCall at q
    cases hf : fr ρ S with
    | bad => rw [hf] at q; exact q.elim
    | exc nm as S1 => rw [hf] at q; exact q
    | ok ds S1 =>
      rw [hf] at q
      intro vs F1 i1 H1 e1 g1 r1 x dx hx hd ne
      rw [← hK]
      exact aft_mk g1 r1 (Aft.ext (r := mkW m ds S1) q e1) hx hd ne ((hl ρ S ds S1 hf).trans hn)
  · rintro us s1 ⟨vs, H1, I1, r, q2⟩
    exact ⟨I1.kIn, run_mk M fn hr bd (passAt tk σ) I1 r q2⟩
/-! ### what a world does -/
theorem fe_mth {pl : Sem Bool} (h : CalM X.prog X.w X.K X.mg X.base x k (n + 1) m) (w : WF X.K) (hr : Room k X.A) (tk : Takes X c.W) (ho : PE X o (tE c fa)) (ha : PA X (e :: es) (tA c fr)) (hl : ∀ ρ S ds S', fr ρ S = .ok ds S' → ds.length = (e :: es).length)
    (hn : (e :: es).length = n := by rfl) (hK : c.K = X.K := by rfl) (hst : starEach (e :: es) X.env = (false, eval e X.env) :: starEach es X.env := by rfl) (hpl : (backTo pos (starEach es X.env)).any (·.1) = false := by rfl)
    (ht : eval (.Call (.Attribute o x apos) (e :: es) [] pos) X.env = (do
      let ov ← eval o X.env
      standAt apos.atName
      let (f, first) ← holding [ov] (getMethod ov x pl)
      callWith pos f first (backTo pos (starEach (e :: es) X.env)) (backToKw pos (keywordEach [] X.env))) := by rfl) :
    PE X (.Call (.Attribute o x apos) (e :: es) [] pos) (tE c (fMth m fa fr)) := by
  obtain ⟨f, fd, ps, fn, M, bd⟩ := h.ex
  refine ⟨fun pins s σ H Q I ⟨G, F, io, S, ρ, gd, re, q⟩ => PySem.W.methodCall_KW (pl := pl) (thn (ho.run pins s σ H (fun v H1 => ∃ a dx sl, v = .ref a ∧ SlX.Slt H1 a (wA X.K) dx sl ∧ tA c fr σ H1 fun ws H2 => spF X.K m (n + 1) (.ref a :: ws) H2 Q (WE c.W σ)) I ⟨G, F, io, S, ρ, gd, re, ?_⟩) ?_) ht⟩
  · refine Aft.step q fun d1 S1 v1 F1 i1 H1 e1 g1 r1 q1 => ?_
    cases d1 with
    | wld r l =>
      obtain ⟨a, rfl, wa⟩ := r1
      obtain ⟨dx, sl, hs⟩ := wat_slt g1.ex wa
      rw [hK] at hs
      refine ⟨a, dx, sl, rfl, hs, G, F1, i1, S1, ρ, g1, renv_mono e1 re, ?_⟩
      have q1 : Aft c G F1 i1 σ (rp c) Q ((fr ρ S1).bind fun ds S2 => m (.wld r l :: ds) S2) := q1
      cases hf : fr ρ S1 with
      | bad => rw [hf] at q1; exact q1.elim
      | exc nm as S2 => rw [hf] at q1; exact q1
      | ok ds S2 =>
        rw [hf] at q1
        intro ws F2 i2 H2 e2 g2 r2
        have q2 := Aft.ext (r := m (.wld r l :: ds) S2) q1 e2
        rw [← hK]
        refine ⟨by rw [List.length_cons, paired_len r2, hl ρ S1 ds S2 hf, hn], G, F2, i2, S2, .wld r l :: ds, g2, .cons ⟨a, rfl, wat_mono e2.same wa⟩ r2, ?_⟩
        cases hm : m (.wld r l :: ds) S2 with
        | ok d S3 => rw [hm] at q2; exact q2
        | exc nm as S3 => rw [hm] at q2; exact q2
        | bad => rw [hm] at q2; exact q2
    | _ => exact q1.elim
  · rintro u s1 ⟨v, H1, I1, rv, a, dx, sl, rfl, hs, q2⟩
    obtain rfl : u = Value.ref a := rv
    refine SlX.getmethsl_ok I1 hs w.sc M (PySem.W.callWith_K (first := [.ref a]) (h₀ := X.base) I1.ok.mod.kin M.kp (thn (ha.run pos pins s1 σ H1 _ I1 q2) ?_) hst hpl)
    rintro us s2 ⟨ws, H2, I2, r, q3⟩
    exact ⟨I2.kIn, run_fnS (us := .ref a :: us) (vs := .ref a :: ws) (E := WE c.W) fn hr bd (passAt tk σ) I2 (.cons rfl r) q3⟩
end
end Tw
namespace Tw
open PySem PySem.Spec PyProof.Rows L2

/-! ### isinstance of worlds -/
theorem cls_at {K : PySem.W.Frag} {C : Addr} (h : PySem.W.isClsIn K C = true) : ∃ oc od cd sl, K.lookup C = some ⟨oc, od, .cls cd, sl⟩ := by
  have h1 : (PySem.W.clsIn K C).isSome = true := h
  unfold PySem.W.clsIn at h1
  cases hl : K.lookup C with
  | none => rw [hl] at h1; cases h1
  | some o =>
    obtain ⟨oc, od, dt, sl⟩ := o
    cases dt with
    | cls cd => exact ⟨oc, od, cd, sl, rfl⟩
    | _ => rw [hl] at h1; cases h1
def fcKin : PySem.W.Frag → Bool := fun K => decide (PySem.W.findIn K (.ref (wA K)) "__class__" = some (some (.builtin "object.__class__"))) && (decide (PySem.W.specialIn K (.builtin "object.__class__") "__get__" = some (some (.builtin "getset_descriptor.__get__"))) &&
  (decide (PySem.W.takesIn K (.builtin "object.__class__") = some true) && decide (PySem.W.mroIn K (wA K) (.type "object") = some true)))
def fcKn (t : String) : PySem.W.Frag → Bool := fun K => decide (PySem.W.kitOne K (.type t) (.ref (wA K)) = some false) && PySem.W.notFirst K (wA K) (.type t)
def fcIsW : PySem.W.Frag → Bool := fun K => fcWld K && (fcKin K && (decide (PySem.W.kitOne K (.ref (wA K)) (.ref (wA K)) = some true) && ["NoneType", "bool", "int", "str", "list", "tuple", "dict"].all fun t => fcKn t K))
structure WK (K : PySem.W.Frag) : Prop where
  w : WF K
  kin : fcKin K = true
  one : PySem.W.kitOne K (.ref (wA K)) (.ref (wA K)) = some true
  no : ∀ t ∈ ["NoneType", "bool", "int", "str", "list", "tuple", "dict"], PySem.W.kitOne K (.type t) (.ref (wA K)) = some false ∧ PySem.W.notFirst K (wA K) (.type t) = true
theorem fcIsW_ok {K : PySem.W.Frag} (h : fcIsW K = true) : WK K := by
  obtain ⟨h1, h⟩ := He.ba h
  obtain ⟨h2, h⟩ := He.ba h
  obtain ⟨h3, h4⟩ := He.ba h
  refine ⟨fcWld_ok h1, h2, of_decide_eq_true h3, fun t ht => ?_⟩
  obtain ⟨z1, z2⟩ := He.ba (List.all_eq_true.mp h4 t ht)
  exact ⟨of_decide_eq_true z1, z2⟩
theorem kit_sl {K : PySem.W.Frag} {x : Addr} {ox od : Obj} (k : WK K) : PySem.W.KitX K (.ref x) (.ref (wA K)) (fun h => PySem.W.InstAt h x ox (wA K) (some od)) := by
  obtain ⟨oc, cdd, cd, sl, hl⟩ := cls_at k.w.sc.ic
  obtain ⟨k1, z⟩ := He.ba k.kin
  obtain ⟨k2, z⟩ := He.ba z
  obtain ⟨k3, k4⟩ := He.ba z
  have hg := PySem.W.plainGet_of (k.w.sc.get "__class__")
  refine ⟨fun M h _ i => i.type, fun M h X _ A Q E s kk q => ?_, fun h tp dd its n tsl X htp => ?_, fun {prog w A E Q s} X i q => ?_⟩
  · unfold isType loadHead
    exact wpAny_bind (wpAny_loadPart (kk _ _ (X _ _ hl)) (wpAny_pure q))
  · refine Bool.eq_false_iff.mpr fun e => ?_
    have et : wA K = tp := Value.ref.inj (beq_iff_eq.mp e)
    have two := (X _ _ hl).symm.trans (et ▸ htp)
    cases two
  · have fo := PySem.W.findObj_data (od := od) k.w.sc.ic (of_decide_eq_true k1) (of_decide_eq_true k2) (of_decide_eq_true k3)
    exact PySem.W.kin_open X i hg.1 (PySem.W.kin_hooked (s := { s with toks := s.toks + 1 }) X i fo hg.2 (wpAny_call (PySem.W.class_get (s := { s with toks := s.toks + 1 }) (ox := ox) (od := some od) X i (of_decide_eq_true k4) (PySem.W.handed_on rfl q))))
/-- isinstance(x, World) -/
def rIsW (K : PySem.W.Frag) : List V → Hp → VK → Prop := fun xs H Q => ∃ a dx sl c, xs = [.ref a, c] ∧ SlX.Slt H a (wA K) dx sl ∧ ClsV c (.ref (wA K)) ∧ Q (.bl true) H
theorem call_isW {X : Cx} (k : WK X.K) : CallR X (.builtin "isinstance") (rIsW X.K) := by
  rintro pins s σ H xs us Q I r ⟨a, dx, sl, c, rfl, hs, hc, q⟩
  obtain ⟨u1, u2, rfl, r1, r2⟩ := vals2 r
  obtain rfl : u1 = Value.ref a := r1
  have e2 := hc.eq r2
  subst e2
  obtain ⟨_, od, _, inst, _⟩ := SlX.slt_inst I hs
  exact PySem.W.kia_one (kit_sl k) I.kIn inst k.one (fun z => nomatch z) fun tk => ⟨.bl true, H, I.tok tk, rfl, q⟩
theorem tyN_in (d : PyData) : tyN d ∈ ["NoneType", "bool", "int", "str", "list", "tuple", "dict"] := by
  cases d <;> simp [tyN]
def fIsW (fa : FE) : FE := fun ρ S => (fa ρ S).bind fun d S1 => match d with
  | .p _ => .ok (.p (.bool false)) S1
  | .wld _ _ => .ok (.p (.bool true)) S1
  | _ => .bad
section
variable {X : Cx} {c : Cw} {e e2 a b : Expr} {pos p0 : Pos} {fa fb : FE} {k : Nat} {m : List D → Sto → Res D}
theorem fe_isW (wk : WK X.K) (h : ∀ {t : TE}, PE X a t → PE X e (tCB (fun xs H Q => rIsi X.K xs H Q ∨ rIsW X.K xs H Q) (fun σ H R => t σ H fun v H1 => R [v, .ref (wA X.K)] H1))) (ha : PE X a (tE c fa)) (hK : c.K = X.K := by rfl) : PE X e (tE c (fIsW fa)) :=
  pe_imp (h ha) fun σ H Q ⟨G, F, io, S, ρ, gd, re, q⟩ => ⟨G, F, io, S, ρ, gd, re, Aft.step q fun d1 S1 v1 F1 i1 H1 e1 g1 r1 q1 => by
    cases d1 with
    | p d =>
      refine .inl ⟨v1, .ref (wA X.K), .type (tyN d), .ref (wA X.K), false, rfl, .own _, ?_, (wk.no _ (tyN_in d)).1, hereP (v := .bl false) q1 g1 (Dq.bl _)⟩
      rw [← hK]
      exact tyx_of g1.ex r1
    | wld r l =>
      obtain ⟨a, rfl, wa⟩ := r1
      obtain ⟨dx, sl, hs⟩ := wat_slt g1.ex wa
      exact .inr ⟨a, dx, sl, .ref (wA X.K), rfl, by rw [← hK]; exact hs, .own _, hereP (v := .bl true) q1 g1 (Dq.bl _)⟩
    | _ => exact q1.elim⟩
end
/-! ### == of worlds -/
structure CalE (P : Program) (w : World) (K : PySem.W.Frag) (mg : Str → Option Value) (base : Heap) (k : Nat) (m : List D → Sto → Res D) : Prop where
  ex : ∃ f fd ps, FnOk P w K mg base (L2.CX P w) k f fd ps (spF K m 2) ∧ PySem.W.findIn K (.ref (wA K)) "__eq__" = some (some (.ref f)) ∧ PySem.W.isFn K (.ref f) = true ∧ Binds K fd ps []
def gEqW (m : List D → Sto → Res D) : D → D → Sto → Res D := fun dx dy S => match dx, dy with
  | .wld r l, .p d => (match m [.wld r l, .p d] S with
    | .ok (.p (.bool b)) S' => .ok (.p (.bool b)) S'
    | _ => .bad)
  | .wld r l, .wld r' l' => (match m [.wld r l, .wld r' l'] S with
    | .ok (.p (.bool b)) S' => .ok (.p (.bool b)) S'
    | _ => .bad)
  | .p a, .p b => gEq (.p a) (.p b) S
  | _, _ => .bad
def rEqW (K : PySem.W.Frag) (m : List D → Sto → Res D) : R2 := fun x y H Q => ∃ a dx sl T, x = .ref a ∧ SlX.Slt H a (wA K) dx sl ∧ (TyX K H y T ∨ ∃ b dy sl', y = .ref b ∧ SlX.Slt H b (wA K) dy sl' ∧ T = .ref (wA K)) ∧ PySem.W.notFirst K (wA K) T = true ∧
  sp0 (spF K m 2) [x, y] H (fun v H' => ∃ b, v = .bl b ∧ Q v H') fun _ _ _ => False
section
variable {X : Cx} {c : Cw} {k : Nat} {m : List D → Sto → Res D}
theorem op_eqW (wk : WK X.K) (h : CalE X.prog X.w X.K X.mg X.base k m) (hr : Room k X.A) : OpR X (compareOp .Eq) (rEqW X.K m) := by
  rintro pins s σ H x y v u Q I rx ry ⟨a, dx, sl, T, rfl, hs, hy, nf, q⟩
  obtain ⟨f, fd, ps, fn, hf, hfn, bd⟩ := h.ex
  have fn0 : FnOk X.prog X.w X.K X.mg X.base L2.CX0 k f fd ps (sp0 (spF X.K m 2)) := fn_calm fn fun vs H Q E h => h
  obtain rfl : v = Value.ref a := rx
  obtain ⟨_, od, _, inst, _⟩ := SlX.slt_inst I hs
  have ty : PySem.W.Looks (model X.prog X.w) s.heap (typeOf u) T := by
    rcases hy with ty | ⟨b, dy, sl', rfl, hs', rfl⟩
    · obtain ⟨P, Z, p, _⟩ := kit_of I ry ty
      exact Z.ty _ _ I.kIn p
    · obtain rfl : u = Value.ref b := ry
      obtain ⟨_, od', _, inst', _⟩ := SlX.slt_inst I hs'
      exact inst'.type
  obtain ⟨mm, fr⟩ := I.fr
  have n1 : [V.ref a, y].length = ps.length := fn0.len _ _ _ _ q
  have bs := bd s [.ref a, u] I.kIn (by rw [List.append_nil]; exact n1)
  rw [List.append_nil] at bs
  have body := fn0.run X.A X.stack s H ⟨[.ref a, u], []⟩ [.ref a, u] [.ref a, y] _ _ hr I.env0 bs (.cons rfl (.cons ry .nil)) q
  show wpAny (model X.prog X.w) X.A (richCompare .Eq (.ref a) u) (EP X pins σ Q) X.xe s
  refine PySem.W.cmp_K (op := .Eq) hr.units0 fr I.ok.mod.kin inst ty nf hf hfn (wpAny_call (codeAny_mono body ?_))
  rintro (er | fl) s' z
  · exact False.elim z
  · cases fl with
    | ret u' =>
      obtain ⟨v', H', J, rv, b, rfl, zq⟩ := I.after z
      obtain rfl : u' = Value.bool b := rv
      exact ⟨.bl b, H', J, rfl, zq⟩
    | _ => exact False.elim z
theorem bop_eqW (wk : WK c.K) : BOp c (fun x y H Q => rEqW c.K m x y H Q ∨ rEqD c.K x y H Q) (gEqW m) := fun G F io H S σ x y dx dy Q gd rx ry q => by
  have fin : ∀ {r l : PyData} {dy : D}, Rp c.K F io x (.wld r l) → Rp c.K F io y dy → Aft c G F io σ (rp c) Q (match m [.wld r l, dy] S with
      | .ok (.p (.bool b)) S' => .ok (.p (.bool b)) S'
      | _ => .bad) → sp0 (spF c.K m 2) [x, y] H (fun v H' => ∃ b, v = .bl b ∧ Q v H') fun _ _ _ => False := fun {r l dy} rx ry q => by
    refine ⟨rfl, G, F, io, S, [.wld r l, dy], gd, .cons rx (.cons ry .nil), ?_⟩
    cases hm : m [.wld r l, dy] S with
    | bad => rw [hm] at q; exact q.elim
    | exc nm as S' => rw [hm] at q; exact q.elim
    | ok d S' =>
      rw [hm] at q
      intro v F' io' H' e' g' r'
      cases d with
      | p d =>
        cases d with
        | bool b =>
          cases r'
          exact ⟨b, rfl, q (.bl b) F' io' H' e' g' (Dq.bl b)⟩
        | _ => exact q.elim
      | _ => exact q.elim
  cases dx with
  | wld r l =>
    obtain ⟨a, ea, wa⟩ := rx
    obtain ⟨dx, sl, hs⟩ := wat_slt gd.ex wa
    cases dy with
    | p d => exact .inl ⟨a, dx, sl, .type (tyN d), ea, hs, .inl (tyx_of gd.ex ry), (wk.no _ (tyN_in d)).2, fin (dy := .p d) ⟨a, ea, wa⟩ ry q⟩
    | wld r' l' =>
      have ry' := ry
      obtain ⟨b, eb, wb⟩ := ry
      obtain ⟨dy, sl', hs'⟩ := wat_slt gd.ex wb
      exact .inl ⟨a, dx, sl, .ref (wA c.K), ea, hs, .inr ⟨b, dy, sl', eb, hs', rfl⟩, by unfold PySem.W.notFirst; simp, fin (dy := .wld r' l') ⟨a, ea, wa⟩ ry' q⟩
    | _ => exact q.elim
  | p d =>
    cases dy with
    | p d' => exact .inr (bop_eq G F io H S σ x y (.p d) (.p d') Q gd rx ry q)
    | _ => exact q.elim
  | _ => cases dy <;> exact q.elim
end
end Tw
namespace Tw
open PySem PySem.Spec PyProof.Rows L2

/-! ### enumerate(tuple) -/
open Sem (wp) in
theorem meets_en1 {v : Value} {ob : Obj} {Pre : Heap → Prop} (start : PySem.Begins v ob Pre) :
    Meets (Builtin.«enumerate.__new__» ⟨[.type "enumerate", v], []⟩) (fun _ R s => Pre s.heap ∧
      R (.ok (.ret (.ref (Heap.push s.heap ob).objs.size))) { s with heap := (Heap.push s.heap ob).push { cls := .type "enumerate", data := .fields #[.none, .bool false, .ref s.heap.objs.size, rawInt 0, .none, .none] } }) :=
  .of_wp fun pg wd Ar Rr st hyp => by
    obtain ⟨hp, g, d, tk, os⟩ := st
    obtain ⟨pre, fin⟩ := hyp
    have hsub := sub_enumerate
    have begin_ : ∀ {A' : Around} {E : Value → Shared → Prop} {Q : Value → Shared → Prop}, Q (.ref hp.objs.size) ⟨hp.push ob, g, d, tk, os⟩ → wpAny (model pg wd) A' (pyIter v) Q E ⟨hp, g, d, tk, os⟩ := fun q => start.iter pg wd _ _ ⟨hp, g, d, tk, os⟩ _ pre q
    wp_walk using begin_
    refine wpAny_stack_any fun stk => wpAny_pure ?_
    split
    · rename_i c _ _ _ _ _
      cases (c == Value.type "enumerate") <;> (wp_walk using begin_; exact ⟨_, rfl, fin⟩)
    · wp_walk using begin_
      exact ⟨_, rfl, fin⟩
section
variable {prog : Program} {w : World} {A : Around} {E : Value → Shared → Prop} {s : Shared}
theorem call_en1 {t : Addr} {its : Array Value} {Q : Value → Shared → Prop} (ht : s.heap.IsTuple t its)
    (h : ∀ h', IsEnum h' (s.heap.objs.size + 1) s.heap.objs.size 0 .none → h'.IsTupleIter s.heap.objs.size t 0 → (∀ b o, s.heap.get? b = some o → h'.get? b = some o) → Q (.ref (s.heap.objs.size + 1)) { s with heap := h' }) :
    wpAny (model prog w) A (call (.type "enumerate") [.ref t]) Q E s := by
  refine callType_new F.called_enumerate (by decide) (F.typeCall_enumerate_1 _) (F.newCall_enumerate_1 _) (fun obj => F.args_object_init_2 obj _) F.entry_enumerate_new
    (meets_en1 (PySem.begins_tuple t its)) ⟨ht, ?_⟩
  have hz : (Heap.push s.heap { cls := .type "tuple_iterator", data := .fields #[.ref t, .int 0 0] }).objs.size = s.heap.objs.size + 1 := Heap.size_push ..
  show _ ∧ _
  rw [hz]
  have he : IsEnum ((Heap.push s.heap { cls := .type "tuple_iterator", data := .fields #[.ref t, .int 0 0] }).push { cls := .type "enumerate", data := .fields #[.none, .bool false, .ref s.heap.objs.size, rawInt 0, .none, .none] }) (s.heap.objs.size + 1) s.heap.objs.size 0 .none := by
    have two := Heap.get?_push_size (Heap.push s.heap { cls := .type "tuple_iterator", data := .fields #[.ref t, .int 0 0] }) (o := { cls := .type "enumerate", data := .fields #[.none, .bool false, .ref s.heap.objs.size, rawInt 0, .none, .none] }) rfl
    rw [hz] at two
    exact two
  exact ⟨⟨_, he, rfl⟩, h _ he ⟨_, Heap.get?_push_of_some _ (Heap.get?_push_size _ rfl), rfl, rfl⟩ fun b o x => Heap.get?_push_of_some _ (Heap.get?_push_of_some _ x)⟩
end
section
variable {prog : Program} {w : World} {A : Around} {E : Value → Shared → Prop} {s : Shared}
theorem en_end {e it t : Addr} {i : Int} {j : Nat} {its : Array Value} {old : Value} {Q : Option Value → Shared → Prop} (calm : A.in1.handled = none) (he : IsEnum s.heap e it i old) (hit : s.heap.IsTupleIter it t j) (pl : s.heap.IsTuple t its) (gone : its[j]? = none)
    (q : ∀ h', Heap.ExtBut it s.heap h' → Q none { s with heap := h' }) : wpAny (model prog w) A (pyNext (.ref e)) Q E s := by
  have isE : s.TypeIs (.ref e) "enumerate" := ⟨_, he, rfl⟩
  unfold pyNext
  refine wpAny_bind (wpAny_attempt (wpAny_callSpecial?_slot (name := Str.ofString "__next__") isE F.slot_enumerate_next (wpAny_call_entry F.slot_enumerate_next isE F.entry_enumerate_next ?_ (F.args_enumerate_next_1 _))))
  show wpAny _ _ (field (.ref e) 2 >>= _) _ _ s
  refine wpAny_bind (wpAny_field he rfl (x := .ref it) rfl (wpAny_bind (PySem.wpAny_nextOf_tuple_end calm hit pl gone fun h' x he' hx' => ?_)))
  obtain ⟨o, ho, hc⟩ := hx'
  exact wpAny_bind (wpAny_isInstance (T := "StopIteration") (b := true) ⟨o, ho, hc⟩ isSubtype_stop (wpAny_pure (q _ he')))
end
/-- the tuple at a, each item in a new pair -/
def ItE (K : PySem.W.Frag) (a : Addr) : It where
  go := fun i H => ∃ (xs : List V) (x : V), SqT K H a xs ∧ xs[i]? = some x
  yld := fun i H v H' => ∃ p x, v = .ref p ∧ H p = none ∧ H' = upd H p (.tup [.int (i : Nat), x]) ∧ ∀ xs, SqT K H a xs → xs[i]? = some x
  stop := fun i H => ∃ xs : List V, SqT K H a xs ∧ xs.length ≤ i
theorem turn_en {P : Program} {w : World} {K : PySem.W.Frag} {elts : List Expr} {kk : Nat} {tpos : Pos} (a e it : Addr) :
    Turn P w K (.Tuple elts kk tpos) (ItE K a) [e, it] e (fun i h => (∃ old, IsEnum h e it ((i : Nat) : Int) old) ∧ h.IsTupleIter it a i ∧ e ≠ it ∧ a ≠ it ∧ e ≠ a) where
  mem := List.mem_cons_self
  obj := fun i h st b hb => by
    obtain ⟨⟨old, he⟩, ⟨o, ho, hc, hd⟩, _⟩ := st
    rcases List.mem_cons.mp hb with rfl | hb
    · exact ⟨_, he, fun v q => nomatch q⟩
    · obtain rfl := List.mem_singleton.mp hb
      exact ⟨o, ho, fun v q => by rw [hd] at q; cases q⟩
  keep := fun i h h' st k => by
    obtain ⟨⟨old, he⟩, hi, ne⟩ := st
    exact ⟨⟨old, k e List.mem_cons_self _ he⟩, hi.at fun o q => k it (List.mem_cons_of_mem _ List.mem_cons_self) o q, ne⟩
  item := by
    rintro X rfl rfl rfl hc i pins s σ H E I hf ⟨⟨old, he⟩, hit, ne, nt, nea⟩ ⟨xs, x, hq, hx⟩
    obtain ⟨its, rv, pl, hz⟩ := I.tuple hq
    obtain ⟨u, hu, ru⟩ := rv.get hx
    have hel : e < s.heap.objs.size := Heap.lt_size he
    have hil : it < s.heap.objs.size := by
      obtain ⟨_, q, _⟩ := hit
      exact Heap.lt_size q
    have hlt : i < its.toArray.size := by
      have l1 := (List.getElem?_eq_some_iff.mp hu).1
      simpa using l1
    have hef : e ∉ [it, a] := fun m => by
      rcases List.mem_cons.mp m with m | m
      · exact ne m
      · exact nea (List.mem_singleton.mp m)
    refine wpAny_pyNext_enum_itemD (Draws.tuple (A := X.A.in1) (I.ok.hd hc) it a nt its.toArray) he ⟨hit, pl⟩ hlt ne hef fun y h' tk hy ho st' hT hsz hk => ?_
    obtain rfl : u = y := by
      have z : its.toArray[i]? = some u := by simpa using hu
      exact Option.some.inj (z.symm.trans hy)
    refine ⟨_, rfl, wpAny_letOwnedTupleGo_enum (s := { s with heap := h', toks := tk + 1 }) ho fun h'' he' sb => ?_⟩
    have hT2 : h''.get? s.heap.objs.size = some { cls := .type "tuple", data := .seq #[.int i tk, u] } := (sb.2 _ (Nat.ne_of_gt hel)).trans hT
    have new : ObjOk X.prog X.w (upd H s.heap.objs.size (.tup [.int (i : Nat), x])) h'' s.heap.objs.size (.tup [.int (i : Nat), x]) :=
      ⟨by show 2 ≤ sizeLine; decide, [.int i tk, u], .cons ⟨_, rfl⟩ (.cons ru .nil), ⟨_, hT2, rfl, _, rfl⟩⟩
    have I1 : Inv X pins σ (upd H s.heap.objs.size (.tup [.int (i : Nat), x])) { s with heap := h'', toks := tk + 1 } :=
      I.turnedNew (ch := [e, it]) (fun b ob hb q => (sb.2 b fun z => hb (by simp [z])).trans (hk b ob (fun z => hb (by simp [z])) (fun z => hb (by simp [z])) q)) hf (Nat.le_refl _) new
    refine ⟨.ref s.heap.objs.size, _, I1, rfl, ⟨_, x, rfl, I.hok.fresh (Nat.le_refl _), rfl, fun ys hy => by rw [I.tuple_inj hy hq]; exact hx⟩, ⟨⟨u, ?_⟩, st'.1.at fun o q => (sb.2 it (Ne.symm ne)).trans q, ne, nt, nea⟩, fun b hb => ?_⟩
    · have e1 : ((i + 1 : Nat) : Int) = (i : Int) + 1 := by omega
      rw [e1]
      exact he'
    · have hb' : b < s.heap.objs.size := by
        rcases List.mem_cons.mp hb with rfl | hb
        · exact hel
        · exact (List.mem_singleton.mp hb) ▸ hil
      rw [upd_ne (Nat.ne_of_lt hb')]
      exact (hf b hb).1
  done := by
    rintro X rfl rfl rfl hc i pins s σ H E I hf ⟨⟨old, he⟩, hit, ne, nt, nea⟩ ⟨xs, hq, hx⟩
    obtain ⟨its, rv, pl, hz⟩ := I.tuple hq
    obtain ⟨f0, f1, f2, f3, f4, f5⟩ := hf it (List.mem_cons_of_mem _ List.mem_cons_self)
    have out : its.toArray[i]? = none := by
      have l1 := rv.length
      simp
      omega
    exact en_end (I.ok.hd hc) he hit pl out fun h' eb => ⟨rfl, I.turned (t' := s.toks) (fun b o hb q => eb b o hb q) f0 f1 f3 f4 f5⟩
  self := fun A i s Q E st h => by
    obtain ⟨⟨_, he⟩, _⟩ := st
    exact wpAny_pyIter_enum he h
def iEnT (K : PySem.W.Frag) (ta : TA) : TI := fun σ H R => ta σ H fun vs H1 => ∃ a xs, vs = [.ref a] ∧ SqT K H1 a xs ∧ R (ItE K a) H1
theorem pi_enT {X : Cx} {e : Expr} {ta : TA} {p pos tpos : Pos} {elts : List Expr} {kk : Nat} (hg : Gl X "enumerate") (hm : X.mg "enumerate" = none) (ha : PA X [e] ta) (hs : starEach [e] X.env = [(false, eval e X.env)] := by rfl) :
    PI X (.Tuple elts kk tpos) (.Call (.Name "enumerate" p) [e] [] pos) (iEnT X.K ta) := by
  refine ⟨fun pins s σ H R I h => Call_ (ld_blt I hg hm boot_enumerate (PyProof.Rows.callWith_type1 (thn (ha.run pos pins s σ H _ I h) ?_) hs rfl))⟩
  rintro us s1 ⟨vs, H1, I1, r1, a, xs, rfl, hq, q⟩
  cases r1 with
  | cons r rr =>
    cases rr
    cases r
    obtain ⟨its, rv, pl, hz⟩ := I1.tuple hq
    have al : a < s1.heap.objs.size := by
      obtain ⟨_, z, _⟩ := pl
      exact Heap.lt_size z
    refine call_en1 pl fun h' he hit hk => wpAny_pyIter_enum he ?_
    have I2 : Inv X pins σ H1 { s1 with heap := h' } := I1.kept (t' := s1.toks) hk
    refine ⟨s1.heap.objs.size + 1, [s1.heap.objs.size + 1, s1.heap.objs.size], _, _, H1, rfl, I2, turn_en a (s1.heap.objs.size + 1) s1.heap.objs.size, ⟨⟨.none, he⟩, hit, Nat.succ_ne_self _, Nat.ne_of_lt al, Nat.ne_of_gt (Nat.lt_succ_of_lt al)⟩, fun b hb => ?_, q⟩
    have hle : s1.heap.objs.size ≤ b := by
      rcases List.mem_cons.mp hb with rfl | hb
      · exact Nat.le_succ _
      · exact Nat.le_of_eq (List.mem_singleton.mp hb).symm
    exact I1.fpOk hle (I1.hok.fresh hle)
def iEnB (K : PySem.W.Frag) (ta : TA) : TI := fun σ H R => ta σ H fun vs H1 => ∃ a xs, vs = [.ref a] ∧ ((SqT K H1 a xs ∧ R (ItE K a) H1) ∨ (SqL K H1 a xs ∧ R (Ite K a) H1))
theorem pi_enB {X : Cx} {e : Expr} {ta : TA} {p pos tpos : Pos} {elts : List Expr} {kk : Nat} (hg : Gl X "enumerate") (hm : X.mg "enumerate" = none) (ha : PA X [e] ta) (hs : starEach [e] X.env = [(false, eval e X.env)] := by rfl) :
    PI X (.Tuple elts kk tpos) (.Call (.Name "enumerate" p) [e] [] pos) (iEnB X.K ta) := by
  refine ⟨fun pins s σ H R I h => Call_ (ld_blt I hg hm boot_enumerate (PyProof.Rows.callWith_type1 (thn (ha.run pos pins s σ H _ I h) ?_) hs rfl))⟩
  rintro us s1 ⟨vs, H1, I1, r1, a, xs, rfl, ⟨hq, q⟩ | ⟨hq, q⟩⟩
  · cases r1 with
    | cons r rr =>
      cases rr
      cases r
      obtain ⟨its, rv, pl, hz⟩ := I1.tuple hq
      have al : a < s1.heap.objs.size := by
        obtain ⟨_, z, _⟩ := pl
        exact Heap.lt_size z
      refine call_en1 pl fun h' he hit hk => wpAny_pyIter_enum he ?_
      have I2 : Inv X pins σ H1 { s1 with heap := h' } := I1.kept (t' := s1.toks) hk
      refine ⟨s1.heap.objs.size + 1, [s1.heap.objs.size + 1, s1.heap.objs.size], _, _, H1, rfl, I2, turn_en a (s1.heap.objs.size + 1) s1.heap.objs.size, ⟨⟨.none, he⟩, hit, Nat.succ_ne_self _, Nat.ne_of_lt al, Nat.ne_of_gt (Nat.lt_succ_of_lt al)⟩, fun b hb => ?_, q⟩
      have hle : s1.heap.objs.size ≤ b := by
        rcases List.mem_cons.mp hb with rfl | hb
        · exact Nat.le_succ _
        · exact Nat.le_of_eq (List.mem_singleton.mp hb).symm
      exact I1.fpOk hle (I1.hok.fresh hle)
  · cases r1 with
    | cons r rr =>
      cases rr
      cases r
      obtain ⟨its, rv, p', hz⟩ := I1.list hq
      refine call_enumerate_list p'.isList fun h' he hit hsz hk => wpAny_pyIter_enum he ?_
      have I2 : Inv X pins σ H1 { s1 with heap := h' } := I1.kept (t' := s1.toks) hk
      refine ⟨s1.heap.objs.size + 1, [s1.heap.objs.size + 1, s1.heap.objs.size], _, _, H1, rfl, I2, turn_enum a (s1.heap.objs.size + 1) s1.heap.objs.size, ⟨⟨.none, he⟩, hit, Nat.succ_ne_self _⟩, fun b hb => ?_, q⟩
      have hle : s1.heap.objs.size ≤ b := by
        rcases List.mem_cons.mp hb with rfl | hb
        · exact Nat.le_succ _
        · exact Nat.le_of_eq (List.mem_singleton.mp hb).symm
      exact I1.fpOk hle (I1.hok.fresh hle)
def enuL : Nat → List PyData → List D
  | _, [] => []
  | i, d :: ds => .p (.tuple [.int (i : Int), d]) :: enuL (i + 1) ds
theorem enuL_len : ∀ (i : Nat) (ds : List PyData), (enuL i ds).length = ds.length
  | _, [] => rfl
  | i, d :: ds => by rw [enuL, List.length_cons, List.length_cons, enuL_len]
theorem enuL_at : ∀ (i : Nat) (ds : List PyData) (j : Nat) (d : PyData), ds[j]? = some d → (enuL i ds)[j]? = some (.p (.tuple [.int ((i + j : Nat) : Int), d]))
  | i, [], j, d, h => by simp at h
  | i, e :: ds, 0, d, h => by
    obtain rfl : e = d := by simpa using h
    rfl
  | i, e :: ds, j + 1, d, h => by
    have z := enuL_at (i + 1) ds j d (by simpa using h)
    rw [enuL, List.getElem?_cons_succ, z, show i + 1 + j = i + (j + 1) by omega]
def fEnu (fa : FE) : FI := fun ρ S => (fa ρ S).bind fun d S1 => match d with
  | .p (.tuple ds) => .ok (enuL 0 ds) S1
  | .p (.list ds) => .ok (enuL 0 ds) S1
  | _ => .bad
theorem itd_enL {c : Cw} {F : Hp} {io : List Addr} {a : Addr} {vs : List V} {ds : List PyData} (hx : F a = some (.lst vs)) (ha : DqA c.K F vs ds) : ItD c F io (Ite c.K a) (enuL 0 ds) where
  go := fun i G H F1 io1 S1 hi e g => by
    rw [enuL_len] at hi
    obtain ⟨v, h1, h2⟩ := dpa_get _ _ i ds[i] ha (List.getElem?_eq_getElem hi)
    have sl : SqL c.K H a vs := SqL.of (g.ex _ _ (e.same _ _ hx))
    refine ⟨⟨vs, v, sl, h1⟩, ?_⟩
    rintro x H' ⟨p, y, rfl, hp, rfl, hy⟩
    have hv := hy vs sl
    rw [h1] at hv
    obtain rfl := Option.some.inj hv
    obtain ⟨g2, e2⟩ := g.new (o := .tup [.int (i : Nat), v]) hp
    refine ⟨_, e2, g2, _, enuL_at 0 ds i ds[i] (List.getElem?_eq_getElem hi), ?_⟩
    rw [Nat.zero_add]
    exact .tup (.inl upd_same) (.cons (.int _) (.cons (dp_mono (e.same.trans e2.same) _ _ h2) .nil))
  stop := fun i G H F1 io1 S1 hi e g => ⟨vs, SqL.of (g.ex _ _ (e.same _ _ hx)), by rw [dpa_len _ _ ha]; rw [enuL_len] at hi; exact hi⟩
theorem itd_en {c : Cw} {F : Hp} {io : List Addr} {a : Addr} {vs : List V} {ds : List PyData} (hx : SqT c.K F a vs) (ha : DqA c.K F vs ds) : ItD c F io (ItE c.K a) (enuL 0 ds) where
  go := fun i G H F1 io1 S1 hi e g => by
    rw [enuL_len] at hi
    obtain ⟨v, h1, h2⟩ := dpa_get _ _ i ds[i] ha (List.getElem?_eq_getElem hi)
    refine ⟨⟨vs, v, sq_t g.ex (sq_t e.same hx), h1⟩, ?_⟩
    rintro x H' ⟨p, y, rfl, hp, rfl, hy⟩
    have hv := hy vs (sq_t g.ex (sq_t e.same hx))
    rw [h1] at hv
    obtain rfl := Option.some.inj hv
    obtain ⟨g2, e2⟩ := g.new (o := .tup [.int (i : Nat), v]) hp
    refine ⟨_, e2, g2, _, enuL_at 0 ds i ds[i] (List.getElem?_eq_getElem hi), ?_⟩
    rw [Nat.zero_add]
    exact .tup (.inl upd_same) (.cons (.int _) (.cons (dp_mono (e.same.trans e2.same) _ _ h2) .nil))
  stop := fun i G H F1 io1 S1 hi e g => ⟨vs, sq_t g.ex (sq_t e.same hx), by rw [dpa_len _ _ ha]; rw [enuL_len] at hi; exact hi⟩
theorem fi_en {X : Cx} {c : Cw} {tg e : Expr} {fa : FE} {iter : Expr} (h : ∀ {te : TE}, PE X e te → PI X tg iter (iEnB X.K (tCons te tNil))) (he : PE X e (tE c fa)) (hK : c.K = X.K := by rfl) : PI X tg iter (tI c (fEnu fa)) :=
  pi_imp (h he) fun σ H R ⟨G, F, io, S, ρ, gd, re, q⟩ => ⟨G, F, io, S, ρ, gd, re, Aft.step q fun d S1 v F1 i1 H1 e1 g1 r1 q1 => by
    cases d with
    | p a =>
      cases a with
      | tuple ds =>
        cases r1 with
        | @tup a xs _ hx ha =>
          rw [← hK]
          exact ⟨a, xs, rfl, .inl ⟨sq_t g1.ex hx.sq, Aft.here q1 g1 (itd_en hx.sq ha)⟩⟩
      | list ds =>
        cases r1 with
        | @lst a xs _ hx ha =>
          rw [← hK]
          exact ⟨a, xs, rfl, .inr ⟨SqL.of (g1.ex _ _ hx), Aft.here q1 g1 (itd_enL hx ha)⟩⟩
      | _ => exact q1.elim
    | _ => exact q1.elim⟩
end Tw
namespace Tw
open PySem PySem.Spec PyProof.Rows L2

/-! ### errors with one field -/
def oexB (K : PySem.W.Frag) (C : Addr) : Bool := match K.lookup C with
  | some ⟨.type "type", _, .cls cd, sl⟩ => (match cd.mro, sl.toList with
    | .ref D :: above, [_, _, _, _, some (.builtin mk), _] => D == C && (mk == "ValueError.__new__" && (!cd.hasDel && (cd.hasDict && PySem.HandSPX.refsVE above)))
    | _, _ => false)
  | _ => false
theorem oexB_ok {K : PySem.W.Frag} {C : Addr} (h : oexB K C = true) : ∃ nm q N bs bm sn sub ab col dd k0 k1 k2 k3 k5, K.lookup C = some (excClassObj nm q C N bs bm true sn sub ab col dd k0 k1 k2 k3 k5 "ValueError.__new__") ∧ PySem.HandSPX.refsVE bm = true := by
  unfold oexB at h
  split at h
  · rename_i dd cd sl hl
    split at h
    · rename_i D above k0 k1 k2 k3 mk k5 hm hs
      obtain ⟨h1, h⟩ := He.ba h
      obtain ⟨h2, h⟩ := He.ba h
      obtain ⟨h3, h⟩ := He.ba h
      obtain ⟨h4, h5⟩ := He.ba h
      obtain rfl := beq_iff_eq.mp h1
      obtain rfl := beq_iff_eq.mp h2
      obtain ⟨nm, bs, mro, ns, qn, hd, sn, sub, ab, col, del⟩ := cd
      dsimp only at hm h3 h4
      subst hm h4
      obtain rfl : del = false := by simpa using h3
      obtain ⟨l⟩ := sl
      dsimp only at hs
      subst hs
      exact ⟨nm, qn, ns, bs, above, sn, sub, ab, col, dd, k0, k1, k2, k3, k5, hl, h5⟩
    · cases h
  · cases h
def fcOex (n f : Str) : PySem.W.Frag → Bool := fun K => oexB K (He.ga K n) && (decide (PySem.W.findIn K (.ref (He.ga K n)) "__setattr__" = some (some (.builtin "object.__setattr__"))) && (decide (PySem.W.subIn K (.ref (He.ga K n)) (.type "BaseException") = some true) &&
  (decide (PySem.W.typeIn K (.ref (He.ga K n)) = some (.type "type")) && (PySem.W.keepIn K (.ref (He.ga K n)) && (decide (PySem.W.findIn K (.ref (He.ga K n)) f = some none) && (decide (PySem.W.findIn K (.ref (He.ga K n)) "__init__" = some (some (.ref (He.ma K (He.ga K n) "__init__")))) &&
  decide (PySem.W.typeIn K (.ref (He.ma K (He.ga K n) "__init__")) = some (.type "function"))))))))
structure Oex (K : PySem.W.Frag) (n f : Str) : Prop where
  c : OexC K (He.ga K n)
  no : PySem.W.findIn K (.ref (He.ga K n)) f = some none
  ini : PySem.W.findIn K (.ref (He.ga K n)) "__init__" = some (some (.ref (He.ma K (He.ga K n) "__init__")))
  ty : PySem.W.typeIn K (.ref (He.ma K (He.ga K n) "__init__")) = some (.type "function")
theorem fcOex_ok {n f : Str} {K : PySem.W.Frag} (h : fcOex n f K = true) : Oex K n f := by
  obtain ⟨h1, h⟩ := He.ba h
  obtain ⟨h2, h⟩ := He.ba h
  obtain ⟨h3, h⟩ := He.ba h
  obtain ⟨h4, h⟩ := He.ba h
  obtain ⟨h5, h⟩ := He.ba h
  obtain ⟨h6, h⟩ := He.ba h
  obtain ⟨h7, h8⟩ := He.ba h
  exact ⟨⟨oexB_ok h1, of_decide_eq_true h2, of_decide_eq_true h3, of_decide_eq_true h4, h5⟩, of_decide_eq_true h6, of_decide_eq_true h7, of_decide_eq_true h8⟩
/-- what an __init__ that stores one field keeps -/
def spX1 (K : PySem.W.Frag) (n f : Str) : Sp := fun vs H Q _ => ∃ a y, vs = [.ref a, y] ∧ H a = some (exo a (He.ga K n) none) ∧ ∀ dx, H dx = none → dx ≠ a → Q .non (upd (upd H dx (exd dx [(f, y)])) a (exo a (He.ga K n) (some dx)))
structure CalX (P : Program) (w : World) (K : PySem.W.Frag) (mg : Str → Option Value) (base : Heap) (n f : Str) (k : Nat) : Prop where
  ex : ∃ fd ps, FnOk P w K mg base L2.CX0 k (He.ma K (He.ga K n) "__init__") fd ps (spX1 K n f) ∧ Binds K fd ps []
section
variable {K : PySem.W.Frag} {P : Program} {w : World} {mg : Str → Option Value} {base : Heap} {qual n f : Str} {params : Arguments} {body : List Stmt} {scope : Scope} {fa : Addr} {fd : FuncData} {N ps : List Str} {k : Nat}
theorem fn_x1 (Fn : FunD K "__init__" qual params body scope [] [] fa fd) (S : FnScope N ps scope) (hl : ps.length = 2) (O : Oex K n f)
    (hb : ∀ (cdv : Value) (A : Around) (outer : List PySem.Env) (s : Shared) (H : Hp) (E : XK), PSs (cxOf L2.CX0 P w K mg base N qual scope fa cdv A outer s H E) body (tOst K f (tVar 0) (tVar 1))) (hN : 2 ≤ N.length) :
    FnOk P w K mg base L2.CX0 (k + 1) fa fd ps (spX1 K n f) := by
  refine Fn.ok S (fun vs H Q E h => ?_) fun cdv A outer s H vs Q E hr h => ⟨_, hb cdv A outer s H E, ?_⟩
  · obtain ⟨a, y, rfl, _⟩ := h
    exact hl.symm
  · obtain ⟨a, y, rfl, ha, q⟩ := h
    have s0 : (L2.start N [V.ref a, y])[0]? = some (some (.ref a)) := by
      unfold L2.start
      rfl
    have s1 : (L2.start N [V.ref a, y])[1]? = some (some y) := by
      unfold L2.start
      rfl
    exact ⟨y, s1, .ref a, s0, a, He.ga K n, rfl, O.c, O.no, .inl ⟨ha, q⟩⟩
end
def fRaise1 (n : Str) (fa : FE) : FS := fun ρ S => (fa ρ S).thn ρ fun d S1 => match d with
  | .p d => .exc n [d] ρ S1
  | _ => .bad
section
variable {X : Cx} {c : Cw} {n : Str} {e : Expr} {p p2 pos : Pos} {fa : FE} {k : Nat}
theorem fs_raise1 (h : CalX X.prog X.w X.K X.mg X.base n "index" k) (O : Oex X.K n "index") (hm : X.mg n = some (.ref (He.ga X.K n))) (hr : Room (k + 1) X.A) (hg : Gl X n) (he : PE X e (tE c fa))
    (ps : ∀ {tm : L2.St → Hp → XK → Prop}, PMk X (.Call (.Name n p) [e] [] p2) tm → PS X (.Raise (some (.Call (.Name n p) [e] [] p2)) none pos) (fun N σ H => tm σ H fun cls d H' => c.W cls d σ H')) (hK : c.K = X.K := by rfl)
    (hdb : (n == ("__debug__" : Str)) = false := by decide) (hs0 : starEach [e] X.env = (false, eval e X.env) :: starEach [] X.env := by rfl) (hpl : (backTo p2 (starEach [] X.env)).any (·.1) = false := by rfl) : PS X (.Raise (some (.Call (.Name n p) [e] [] p2)) none pos) (tS c (fRaise1 n fa)) := by
  obtain ⟨fd, pp, fn, bd⟩ := h.ex
  refine ps_imp (ps (pmk_oex O.c O.ini O.ty fn hr bd .nil (fun _ _ _ _ _ _ _ z => z.elim) hg hm (pa_cons he pa_nil hs0) hdb hs0 hpl)) fun N σ H ⟨G, F, io, S, ρ, gd, re, q⟩ => ⟨G, F, io, S, ρ, gd, re, ?_⟩
  unfold fRaise1 at q
  cases hf : fa ρ S with
  | bad => rw [hf] at q; exact q.elim
  | exc m as S1 => rw [hf] at q; exact fun cls dd F' io' H' e' g' x' => q cls dd σ F' io' H' e' g' (renv_mono e' re) x'
  | ok d S1 =>
    rw [hf] at q
    intro v F1 i1 H1 e1 g1 r1
    cases d with
    | p d =>
      refine ⟨by show 1 ≤ 1000; decide, fun a ha => ⟨a, v, rfl, upd_same, fun dx hdx hne => ⟨rfl, dx, [("index", v)], upd_same, by rw [upd_ne hne, upd_same], ?_, ?_⟩⟩⟩
      · rw [upd_ne hne] at hdx
        exact hdx
      · have hd1 : H1 dx = none := by
          rw [upd_ne hne] at hdx
          exact hdx
        have same : upd (del (upd (upd (upd H1 a (exo a (He.ga X.K n) none)) dx (exd dx [("index", v)])) a (exo a (He.ga X.K n) (some dx))) a) dx (.xd [("index", v)]) = upd H1 dx (.xd [("index", v)]) := by
          funext b
          by_cases hb : b = dx
          · rw [hb, upd_same, upd_same]
          · rw [upd_ne hb, upd_ne hb]
            by_cases hba : b = a
            · rw [hba, del_same, ha]
            · rw [del_ne hba, upd_ne hba, upd_ne hb, upd_ne hba]
        rw [same]
        obtain ⟨g2, e2⟩ := g1.new (o := .xd [("index", v)]) hd1
        refine q _ _ σ _ _ _ (e1.trans e2) g2 (renv_mono (e1.trans e2) re) ⟨by rw [hK], .inr ⟨dx, [v], by simp, rfl, upd_same, .cons (dp_mono e2.same _ _ r1) .nil⟩⟩
    | _ => exact q.elim
end
end Tw
namespace Tw
open PySem PySem.Spec PyProof.Rows L2

/-! ### what a caught error holds; isinstance of it -/
def fcXf (n f : Str) : PySem.W.Frag → Bool := fun K => xfB K (He.ga K n) && decide (PySem.W.findIn K (.ref (He.ga K n)) f = some none)
theorem fcXf_ok {n f : Str} {K : PySem.W.Frag} (h : fcXf n f K = true) : XfC K (He.ga K n) ∧ PySem.W.findIn K (.ref (He.ga K n)) f = some none := by
  obtain ⟨h1, h2⟩ := He.ba h
  exact ⟨xfB_ok h1, of_decide_eq_true h2⟩
/-- e.index, e what the suite holds -/
def fXi (ns : List Str) (i : Nat) (n : Str) (as : List PyData) : FE := fun ρ S => match ρ[i]? with
  | some (some .exn) => if n ∈ ns then (match as with
    | [d] => .ok (.p d) S
    | _ => .bad) else .bad
  | _ => .bad
/-- isinstance(e, x) -/
def fIsY (ns : List Str) (i : Nat) (x n : Str) : FE := fun ρ S => match ρ[i]? with
  | some (some .exn) => if n ∈ ns then .ok (.p (.bool (subX n x))) S else .bad
  | _ => .bad
def rIsF (K : PySem.W.Frag) (D a : Addr) (dd : Option Addr) : List V → Hp → VK → Prop := fun xs H Q => ∃ (c : V) (cv : Value) (b : Bool), xs = [.ref a, c] ∧ (∀ u, RelV c u → u = cv) ∧ PySem.W.kitOne K (.ref D) cv = some b ∧ (dd = none ∨ ∃ d fs, dd = some d ∧ H d = some (.xd fs)) ∧ Q (.bl b) H
theorem call_isF {X : Cx} {a D : Addr} {dd : Option Addr} {oe : Obj} {pn : List (Addr × Obj)} (C : ExcC X.K D) (hz : Zc (.ref D) dd oe) (hf : ∃ vs, oe.data = .fields vs) : CallR (X.suite a ((a, oe) :: pn)) (.builtin "isinstance") (rIsF X.K D a dd) := by
  rintro pins s σ H xs us Q I r ⟨c, cv, b, rfl, hcv, e, hdd, q⟩
  obtain ⟨u1, u2, rfl, r1, r2⟩ := vals2 r
  obtain rfl : u1 = Value.ref a := r1
  obtain rfl := hcv _ r2
  obtain ⟨hget, _⟩ := I.pin (a, oe) (List.mem_append_left _ List.mem_cons_self)
  obtain ⟨vs, hv⟩ := hf
  have inst : ∃ od, PySem.W.InstAt s.heap a oe D od := by
    have nc : PySem.W.notCls oe = true := by
      unfold PySem.W.notCls
      rw [hv]
    rcases hdd with rfl | ⟨d, fs, rfl, hd⟩
    · exact ⟨none, hget, hz.1, nc, by rw [hz.2]; trivial⟩
    · obtain ⟨mA, hns, hr⟩ := (show ObjOk X.prog X.w H s.heap d (.xd fs) from I.hok d _ hd)
      obtain ⟨od, ho, _⟩ := lookIn_ns hns
      exact ⟨some od, hget, hz.1, nc, by rw [hz.2]; exact ho⟩
  obtain ⟨od, J⟩ := inst
  have cl : (PySem.W.clsIn X.K D).isSome = true := by
    obtain ⟨cd, hc, _⟩ := PySem.W.any_some C.hd
    rw [hc]
    rfl
  exact PySem.W.kia_one (PySem.W.kitx_exc cl C.hg C.hk C.hs C.ha C.hn C.ht C.hm) I.kIn J e (fun z => nomatch z) fun tk => ⟨.bl b, H, I.kept (t' := tk) fun _ _ z => z, rfl, q⟩
section
variable {X : Cx} {c : Cw} {a : Addr} {ob : Obj} {cl : Value} {dd : Option Addr} {pn : List (Addr × Obj)} {n y x : Str} {as : List PyData} {ns : List Str} {i : Nat} {p1 p2 p3 pos : Pos}
theorem exn_at {F : Hp} {io : List Addr} {σ : L2.St} {ρ : Env} (re : REnv (c.sui a cl dd n as) F io σ ρ) (hr : ρ[i]? = some (some .exn)) : σ[i]? = some (some (.ref a)) ∧ IsX c.K F n as cl dd := by
  obtain ⟨v, h1, u, h2, h3, h4⟩ := re.2 i _ hr
  obtain rfl := Option.some.inj h2
  rw [h3] at h1
  exact ⟨h1, h4⟩
theorem fe_isY (hK : c.K = X.K) (hz : Zc cl dd ob) (hu : ∃ us, ob.data = .fields us)
    (hC : ∀ m ∈ ns, ExcC X.K (He.ga X.K m)) (hk : ∀ m ∈ ns, PySem.W.kitOne X.K (.ref (He.ga X.K m)) (.ref (He.ga X.K x)) = some (subX m x)) (gx : X.mg x = some (.ref (He.ga X.K x))) (b0 : X.mg "isinstance" = none) (hg : Gl X "isinstance") (hgx : Gl X x)
    (hy : X.N[i]? = some y) (hv : Vis X.env.scope y) (hd1 : (x == ("__debug__" : Str)) = false := by decide) (hd2 : (y == ("__debug__" : Str)) = false := by decide) (hd3 : (y == ("__classdict__" : Str)) = false := by decide)
    (s1 : starEach [Expr.Name y p2, .Name x p3] X.env = (false, eval (.Name y p2) X.env) :: starEach [.Name x p3] X.env := by rfl) (s2 : starEach [Expr.Name x p3] X.env = (false, eval (.Name x p3) X.env) :: starEach [] X.env := by rfl)
    (s3 : (backTo pos (starEach [Expr.Name x p3] X.env)).any (·.1) = false := by rfl) :
    PE (X.suite a ((a, ob) :: pn)) (.Call (.Name "isinstance" p1) [.Name y p2, .Name x p3] [] pos) (tE (c.sui a cl dd n as) (fIsY ns i x n)) := by
  refine ⟨fun pins s σ H Q I ⟨G, F, io, S, ρ, gd, re, q⟩ => ?_⟩
  unfold fIsY at q
  split at q
  · rename_i hr
    by_cases hn : n ∈ ns
    · rw [if_pos hn] at q
      obtain ⟨h1, hcl, hdd⟩ := exn_at re hr
      have hcl : cl = .ref (He.ga X.K n) := by rw [← hK]; exact hcl
      subst hcl
      have hdd' : dd = none ∨ ∃ d fs, dd = some d ∧ H d = some (.xd fs) := by
        rcases hdd with ⟨_, h⟩ | ⟨d, vs, _, h, h2, _⟩
        · exact .inl h
        · exact .inr ⟨d, _, h, gd.ex _ _ h2⟩
      refine (pe_callB (X := X.suite a ((a, ob) :: pn)) (call_isF (hC n hn) hz hu) hg b0 boot_isinstance (pa_cons (pe_var (X := X.suite a ((a, ob) :: pn)) hy hv hd2 hd3) (pa_cons (pe_glob (X := X.suite a ((a, ob) :: pn)) (v := .ref (He.ga X.K x)) hgx gx rfl hd1) pa_nil s2) s1) (by decide) (by decide) s1 s3).run pins s σ H Q I ?_
      exact ⟨.ref a, h1, .ref (He.ga X.K x), .ref (He.ga X.K x), _, rfl, fun u hu => hu, hk n hn, hdd', hereP (v := .bl _) q gd (Dq.bl _)⟩
    · rw [if_neg hn] at q
      exact q.elim
  · exact q.elim
theorem fe_xi (hK : c.K = X.K) (hz : Zc cl dd ob) (hu : ∃ us, ob.data = .fields us) (hC : ∀ m ∈ ns, XfC X.K (He.ga X.K m) ∧ PySem.W.findIn X.K (.ref (He.ga X.K m)) "index" = some none)
    (hy : X.N[i]? = some y) (hv : Vis X.env.scope y) (hd2 : (y == ("__debug__" : Str)) = false := by decide) (hd3 : (y == ("__classdict__" : Str)) = false := by decide)
    (hb : attributeBase (.Name y p2) "index" X.env (eval (.Name y p2) X.env) = eval (.Name y p2) X.env := by rfl) :
    PE (X.suite a ((a, ob) :: pn)) (.Attribute (.Name y p2) "index" pos) (tE (c.sui a cl dd n as) (fXi ns i n as)) := by
  refine ⟨fun pins s σ H Q I ⟨G, F, io, S, ρ, gd, re, q⟩ => ?_⟩
  unfold fXi at q
  split at q
  · rename_i hr
    by_cases hn : n ∈ ns
    · rw [if_pos hn] at q
      split at q
      · rename_i d
        obtain ⟨h1, hcl, hdd⟩ := exn_at re hr
        have hcl : cl = .ref (He.ga X.K n) := by rw [← hK]; exact hcl
        subst hcl
        rcases hdd with ⟨h, _⟩ | ⟨dx, vs, _, rfl, h2, h3⟩
        · cases h
        · cases h3 with
          | @cons v vs _ _ hv1 hv2 =>
            cases hv2
            refine (pe_xf (X := X) (C := He.ga X.K n) (hC n hn).1 (hC n hn).2 hz hu (pe_var (X := X.suite a ((a, ob) :: pn)) (i := i) hy hv hd2 hd3) hb).run pins s σ H Q I ?_
            exact ⟨.ref a, h1, rfl, rfl, dx, _, v, rfl, gd.ex _ _ h2, rfl, hereP (v := v) q gd hv1⟩
      · exact q.elim
    · rw [if_neg hn] at q
      exact q.elim
  · exact q.elim
end
/-! ### *xs in a display -/
def fStar (fa : FE) (fr : FA) : FA := fun ρ S => (fa ρ S).bind fun d S1 => match d with
  | .p (.tuple ds) => (fr ρ S1).bind fun xs S2 => .ok (ds.map D.p ++ xs) S2
  | .p (.list ds) => (fr ρ S1).bind fun xs S2 => .ok (ds.map D.p ++ xs) S2
  | _ => .bad
theorem rpa_of {K : PySem.W.Frag} {F : Hp} {io : List Addr} : ∀ {ds : List PyData} {vs : List V}, DqA K F vs ds → RpA K F io vs (ds.map D.p)
  | [], _, h => by cases h; exact .nil
  | d :: ds, _, h => by
    cases h with
    | cons h1 h2 => exact .cons h1 (rpa_of h2)
section
variable {X : Cx} {c : Cw} {e : Expr} {es : List Expr} {p : Pos} {fa : FE} {fr : FA}
theorem fa_star (he : PE X e (tE c fa)) (hr : PA X es (tA c fr)) (hK : c.K = X.K := by rfl) (hs : starEach (.Starred e p :: es) X.env = (true, eval e X.env) :: starEach es X.env := by rfl) : PA X (.Starred e p :: es) (tA c (fStar fa fr)) :=
  pa_imp (StX.pa_star he hr hs) fun σ H Q ⟨G, F, io, S, ρ, gd, re, q⟩ => ⟨G, F, io, S, ρ, gd, re, Aft.step q fun d1 S1 v1 F1 i1 H1 e1 g1 r1 q1 => by
    have go : ∀ {a : Addr} {vs : List V} {ds : List PyData}, v1 = .ref a → (SqT X.K H1 a vs ∨ SqL X.K H1 a vs) → DqA c.K F1 vs ds → Aft c G F1 i1 σ (rpA c) Q ((fr ρ S1).bind fun xs S2 => .ok (ds.map D.p ++ xs) S2) →
        ∃ p xs, v1 = V.ref p ∧ (SqT X.K H1 p xs ∨ SqL X.K H1 p xs) ∧ (tA c fr) σ H1 fun ys H2 => Q (xs ++ ys) H2 := fun {a vs ds} ev hs ha q => by
      refine ⟨a, vs, ev, hs, G, F1, i1, S1, ρ, g1, renv_mono e1 re, Aft.step q fun xs S2 ys F2 i2 H2 e2 g2 r2 q2 => ?_⟩
      exact Aft.here (v := vs ++ ys) q2 g2 (paired_app (rpa_of (dpa_mono e2.same _ _ ha)) r2)
    cases d1 with
    | p d =>
      cases d with
      | tuple ds =>
        cases r1 with
        | @tup a xs _ hx ha => exact go rfl (.inl (by rw [← hK]; exact sq_t g1.ex hx.sq)) ha q1
      | list ds =>
        cases r1 with
        | @lst a xs _ hx ha => exact go rfl (.inr (SqL.of (g1.ex _ _ hx))) ha q1
      | _ => exact q1.elim
    | _ => exact q1.elim⟩
end
end Tw
namespace Tw
open PySem PySem.Spec PyProof.Rows L2

/-! ### what is not reached -/
def fBad : FS := fun _ _ => .bad
def fBadE : FE := fun _ _ => .bad
theorem fs_bad {X : Cx} {c : Cw} {st : Stmt} : PS X st (tS c fBad) := ⟨fun _ _ _ _ _ _ ⟨_, _, _, _, _, _, _, q⟩ => q.elim⟩
theorem fe_bad {X : Cx} {c : Cw} {e : Expr} : PE X e (tE c fBadE) := ⟨fun _ _ _ _ _ _ ⟨_, _, _, _, _, _, _, q⟩ => q.elim⟩
/-! ### the class's defs stand -/
def clsBody : Stmt → List Stmt
  | .ClassDef (body := b) .. => b
  | _ => []
theorem FunD.to {K : PySem.W.Frag} {x qual : Str} {params : Arguments} {body : List Stmt} {scope : Scope} {dvs : List V} {kws : List (Str × V)} {a a' : Addr} {fd : FuncData} (h : FunD K x qual params body scope dvs kws a fd) (e : a = a') : FunD K x qual params body scope dvs kws a' fd := e ▸ h
def fcMkr (x : Str) : PySem.W.Frag → Bool := (He.Fa.mkr x).ok
def fcMeth (x m : Str) : PySem.W.Frag → Bool := (He.Fa.meth x m).ok
theorem fn_of_ty {K : PySem.W.Frag} {a : Addr} (h : PySem.W.typeIn K (.ref a) = some (.type "function")) : PySem.W.isFn K (.ref a) = true := by
  unfold PySem.W.isFn
  rw [h]
  rfl
section
variable {P : Program} {w : World} {K : PySem.W.Frag} {mg : Str → Option Value} {base : Heap} {x q : Str} {params : Arguments} {body : List Stmt} {scope : Scope} {fd : FuncData} {k n : Nat} {m : List D → Sto → Res D} {ps : List Str}
theorem calI_of (h : fcMkr "World" K = true) (F : ∀ fd : FuncData, FunD K "__init__" q params body scope [] [] (He.ma K (wA K) "__init__") fd → FnOk P w K mg base (L2.CX P w) k (He.ma K (wA K) "__init__") fd ps (spF K m n) ∧ Binds K fd ps [])
    (Fd : ∃ fd, FunD K "__init__" q params body scope [] [] (adr K ("World", some "__init__")) fd) : CalI P w K mg base k n m := by
  have M := He.mkr_ok h
  obtain ⟨fd, Fd⟩ := Fd
  obtain ⟨f1, f2⟩ := F fd (FunD.to Fd (adr_fn M.fn))
  exact ⟨_, fd, ps, f1, M, f2⟩
theorem calM_of (h : fcMeth "World" x K = true) (F : ∀ fd : FuncData, FunD K x q params body scope [] [] (He.ma K (wA K) x) fd → FnOk P w K mg base (L2.CX P w) k (He.ma K (wA K) x) fd ps (spF K m n) ∧ Binds K fd ps [])
    (Fd : ∃ fd, FunD K x q params body scope [] [] (adr K ("World", some x)) fd) : CalM P w K mg base x k n m := by
  have M := He.meth_ok h
  obtain ⟨fd, Fd⟩ := Fd
  obtain ⟨f1, f2⟩ := F fd (FunD.to Fd (adr_fn M.fn))
  exact ⟨_, fd, ps, f1, M, f2⟩
theorem calE_of (h : fcMeth "World" "__eq__" K = true) (F : ∀ fd : FuncData, FunD K "__eq__" q params body scope [] [] (He.ma K (wA K) "__eq__") fd → FnOk P w K mg base (L2.CX P w) k (He.ma K (wA K) "__eq__") fd ps (spF K m 2) ∧ Binds K fd ps [])
    (Fd : ∃ fd, FunD K "__eq__" q params body scope [] [] (adr K ("World", some "__eq__")) fd) : CalE P w K mg base k m := by
  have M := He.meth_ok h
  obtain ⟨fd, Fd⟩ := Fd
  obtain ⟨f1, f2⟩ := F fd (FunD.to Fd (adr_fn M.fn))
  exact ⟨_, fd, ps, f1, M.at_, M.fn, f2⟩
theorem calP_of (h : fcProp "World" x K = true) (F : ∀ fd : FuncData, FunD K x q params body scope [] [] (adr K ("World", some x)) fd → FnOk P w K mg base (L2.CX P w) k (adr K ("World", some x)) fd ps (spF K m n) ∧ Binds K fd ps [])
    (Fd : ∃ fd, FunD K x q params body scope [] [] (adr K ("World", some x)) fd) : CalP P w K mg base x k n m := by
  obtain ⟨fd, Fd⟩ := Fd
  obtain ⟨f1, f2⟩ := F fd Fd
  exact ⟨_, _, fd, ps, f1, fcProp_ok h, f2⟩
theorem calX_of {e : Str} {N : List Str} (h : fcOex e "index" K = true) (S : FnScope N ps scope) (hl : ps.length = 2) (hN : 2 ≤ N.length)
    (hb : ∀ (cdv : Value) (A : Around) (outer : List PySem.Env) (s : Shared) (H : Hp) (E : XK), PSs (cxOf L2.CX0 P w K mg base N q scope (He.ma K (He.ga K e) "__init__") cdv A outer s H E) body (tOst K "index" (tVar 0) (tVar 1)))
    (B : ∀ fd : FuncData, FunD K "__init__" q params body scope [] [] (He.ma K (He.ga K e) "__init__") fd → Binds K fd ps [])
    (Fd : ∃ fd, FunD K "__init__" q params body scope [] [] (adr K (e, some "__init__")) fd) : CalX P w K mg base e "index" (k + 1) := by
  have O := fcOex_ok h
  obtain ⟨fd, Fd⟩ := Fd
  have Fd2 := FunD.to Fd (adr_fn (fn_of_ty O.ty))
  exact ⟨fd, ps, fn_x1 Fd2 S hl O hb hN, B fd Fd2⟩
end
end Tw
namespace Tw
open PySem PySem.Spec PyProof.Rows L2

/-! ### list comprehensions with two fors -/
def compL2 (g : FG) (ft : FE) (fi1 : FI) (vs1 : List Nat) (g1 : FG) (ft1 fe : FE) (ρw : Env) : List D → Nat → Sto → Res (List D)
  | [], _, S => .ok [] S
  | d :: ds, n, S => match g d ρw with
    | none => .bad
    | some ρ1 => (ft ρ1 S).noX.asB.bind fun k S1 => if k = true then ((fi1 ρ1 S1).noX.bind fun ds1 S2 => if n + ds1.length < lim then ((compL g1 ft1 fe (wipeE ρ1 vs1) ds1 S2).bind fun xs S3 => (compL2 g ft fi1 vs1 g1 ft1 fe ρw ds (n + xs.length) S3).bind fun ys S4 => .ok (xs ++ ys) S4) else .bad)
      else compL2 g ft fi1 vs1 g1 ft1 fe ρw ds n S1
def fComp2 (vs : List Nat) (fi : FI) (g : FG) (ft : FE) (fi1 : FI) (vs1 : List Nat) (g1 : FG) (ft1 fe : FE) : FE := fun ρ S => (fi ρ S).bind fun ds S1 => (compL2 g ft fi1 vs1 g1 ft1 fe (wipeE ρ vs) ds 0 S1).bind compEnd
theorem bind_assoc {α β γ : Type} (r : Res α) (f : α → Sto → Res β) (g : β → Sto → Res γ) : (r.bind f).bind g = r.bind fun a S => (f a S).bind g := by cases r <;> rfl
section
variable {X : Cx} {c : Cw} {e elt tg iter tg1 iter1 : Expr} {vs vs1 : List Nat} {fi fi1 : FI} {g g1 : FG} {ft ft1 fe : FE}
theorem test_dry {G G2 F : Hp} {io : List Addr} {σ τ : L2.St} {Q : VK} {r : Res D} {k : Bool → Sto → Res D} {Q1 : Bool → Hp → Prop} (q : Aft c G F io σ (rp c) Q (r.noX.asB.bind k))
    (go : ∀ b S5 F5 io5 H5, Ext F io F5 io5 → Good c.K G2 F5 io5 H5 S5 → Aft c G F5 io5 σ (rp c) Q (k b S5) → Q1 b H5) : Aft c.dry G2 F io τ rpB Q1 r.asB := by
  cases r with
  | ok d5 S5 =>
    cases d5 with
    | p d6 =>
      cases d6 with
      | bool b =>
        intro b' F5 io5 H5 e5 g5 r5
        obtain rfl : b' = b := r5
        exact go b' S5 F5 io5 H5 e5 g5 (Aft.ext (r := k b' S5) q e5)
      | _ => exact q.elim
    | _ => exact q.elim
  | exc n as S5 => exact q.elim
  | bad => exact q.elim
theorem lc2_main (σ : L2.St) (H : Hp) (Q : VK) (h : tE c (fComp2 vs fi g ft fi1 vs1 g1 ft1 fe) σ H Q) : tLc2 (tI c fi) (tG c.dry vs g) (tT c.dry ft) (tI c.dry fi1) (tG c.dry vs1 g1) (tT c.dry ft1) (tE c.dry fe) vs vs1 σ H Q := by
  obtain ⟨G, F, io, S, ρ, gd, re, q⟩ := h
  refine ⟨G, F, io, S, ρ, gd, re, Aft.step q fun ds S1 J F1 i1 H1 e1 g0 it q1 Dl hD => ?_⟩
  have q1 : Aft c G F1 i1 σ (rp c) Q ((compL2 g ft fi1 vs1 g1 ft1 fe (wipeE ρ vs) ds 0 S1).bind compEnd) := q1
  · have hG : G Dl = none := by
      cases hq : G Dl with
      | none => rfl
      | some o =>
        have := g0.gx _ _ hq
        rw [hD] at this
        cases this
    refine ⟨fun i m H' => m = ds.length - i ∧ i ≤ ds.length ∧ ∃ F2 io2 S2 acc vacc, Ext F1 i1 F2 io2 ∧ Good c.K (upd G Dl (.lst vacc)) F2 io2 H' S2 ∧ RpA c.K F2 io2 vacc acc ∧
        Aft c G F2 io2 σ (rp c) Q ((compL2 g ft fi1 vs1 g1 ft1 fe (wipeE ρ vs) (ds.drop i) acc.length S2).bind fun xs S3 => compEnd (acc ++ xs) S3),
      ⟨_, rfl, Nat.zero_le _, F1, i1, S1, [], [], Ext.refl _ _, g0.hold hD, .nil, q1⟩, ?_⟩
    rintro i m H' ⟨rfl, hi, F2, io2, S2, acc, vacc, e2, g2, ra, q2⟩
    by_cases hlt : i < ds.length
    · obtain ⟨hgo, hy⟩ := it.go i _ H' F2 io2 S2 hlt e2 g2
      let Nx : Hp → Prop := fun H3 => ∃ F2 io2 S2 acc vacc, Ext F1 i1 F2 io2 ∧ Good c.K (upd G Dl (.lst vacc)) F2 io2 H3 S2 ∧ RpA c.K F2 io2 vacc acc ∧
        Aft c G F2 io2 σ (rp c) Q ((compL2 g ft fi1 vs1 g1 ft1 fe (wipeE ρ vs) (ds.drop (i + 1)) acc.length S2).bind fun xs S3 => compEnd (acc ++ xs) S3)
      refine .inr ⟨hgo, Nx, fun H3 n => ⟨ds.length - (i + 1), by omega, rfl, hlt, n⟩, fun x H3 y => ?_⟩
      obtain ⟨F3, e3, g3, d, hd, rd⟩ := hy x H3 y
      have hdr : ds.drop i = d :: ds.drop (i + 1) := by
        rw [List.drop_eq_getElem_cons hlt]
        rw [List.getElem?_eq_getElem hlt] at hd
        rw [Option.some.inj hd]
      rw [hdr] at q2
      unfold compL2 at q2
      cases hg : g d (wipeE ρ vs) with
      | none => rw [hg] at q2; exact q2.elim
      | some ρ1 =>
        rw [hg] at q2
        dsimp only at q2
        rw [bind_assoc] at q2
        have q2 := Aft.ext q2 e3
        have re3 := renv_wipe (renv_mono e3 (renv_mono e2 (renv_mono e1 re))) vs
        refine ⟨_, F3, io2, S2, d, _, ρ1, g3, rd, renv_dry re3, hg, fun σ4 re4 w4 => ⟨w4.trans (lc_mainG.wipe_idem vs), _, F3, io2, S2, ρ1, g3, re4, ?_⟩⟩
        refine test_dry q2 fun b S5 F5 io5 H5 e5 g5 q5 => ?_
        cases b with
        | false => exact ⟨F5, io5, S5, acc, vacc, (e2.trans e3).trans e5, g5, rpa_mono (e3.trans e5) ra, q5⟩
        | true =>
          have q5 : Aft c G F5 io5 σ (rp c) Q (((fi1 ρ1 S5).noX.bind fun ds1 S2 => if acc.length + ds1.length < lim then ((compL g1 ft1 fe (wipeE ρ1 vs1) ds1 S2).bind fun xs S3 => (compL2 g ft fi1 vs1 g1 ft1 fe (wipeE ρ vs) (ds.drop (i + 1)) (acc.length + xs.length) S3).bind fun ys S4 => .ok (xs ++ ys) S4) else .bad).bind fun xs S3 => compEnd (acc ++ xs) S3) := q5
          rw [bind_assoc] at q5
          have re5 := renv_mono e5 re4
          refine ⟨_, F5, io5, S5, ρ1, g5, re5, ?_⟩
          cases hr : fi1 ρ1 S5 with
          | exc n as S6 => rw [hr] at q5; exact q5.elim
          | bad => rw [hr] at q5; exact q5.elim
          | ok ds1 S6 =>
            rw [hr] at q5
            intro J1 F6 io6 H6 e6 g6 it1
            have q6 : Aft c G F5 io5 σ (rp c) Q ((if acc.length + ds1.length < lim then ((compL g1 ft1 fe (wipeE ρ1 vs1) ds1 S6).bind fun xs S3 => (compL2 g ft fi1 vs1 g1 ft1 fe (wipeE ρ vs) (ds.drop (i + 1)) (acc.length + xs.length) S3).bind fun ys S4 => .ok (xs ++ ys) S4) else .bad : Res (List D)).bind fun xs S3 => compEnd (acc ++ xs) S3) := q5
            have q6 := Aft.ext q6 e6
            by_cases hl1 : acc.length + ds1.length < lim
            · rw [if_pos hl1] at q6
              let Kn : List D → List D → Sto → Res D := fun acc xs S3 => (compL2 g ft fi1 vs1 g1 ft1 fe (wipeE ρ vs) (ds.drop (i + 1)) (acc.length + xs.length) S3).bind fun ys S4 => compEnd (acc ++ (xs ++ ys)) S4
              have toK : ∀ {acc : List D} {r : Res (List D)}, ((r.bind fun xs S3 => (compL2 g ft fi1 vs1 g1 ft1 fe (wipeE ρ vs) (ds.drop (i + 1)) (acc.length + xs.length) S3).bind fun ys S4 => .ok (xs ++ ys) S4).bind fun xs S3 => compEnd (acc ++ xs) S3) = r.bind (Kn acc) := fun {acc r} => by
                rw [bind_assoc]
                cases r with
                | ok xs S3 =>
                  show (Res.bind _ _).bind _ = _
                  rw [bind_assoc]
                  rfl
                | exc n as S3 => rfl
                | bad => rfl
              rw [toK] at q6
              have re6 := renv_mono e6 re5
              obtain ⟨n0, hn0⟩ : ∃ n0, n0 = acc.length := ⟨_, rfl⟩
              rw [← hn0] at hl1
              refine ⟨fun j k H7 => k = ds1.length - j ∧ j ≤ ds1.length ∧ ∃ F7 io7 S7 acc vacc, Ext F6 io6 F7 io7 ∧ Good c.K (upd G Dl (.lst vacc)) F7 io7 H7 S7 ∧ RpA c.K F7 io7 vacc acc ∧ acc.length ≤ n0 + j ∧
                  Aft c G F7 io7 σ (rp c) Q ((compL g1 ft1 fe (wipeE ρ1 vs1) (ds1.drop j) S7).bind (Kn acc)),
                ⟨_, rfl, Nat.zero_le _, F6, io6, S6, acc, vacc, Ext.refl _ _, g6, rpa_mono ((e3.trans e5).trans e6) ra, by omega, q6⟩, ?_⟩
              rintro j k H7 ⟨rfl, hj, F7, io7, S7, acc, vacc, e7, g7, ra7, hacc7, q7⟩
              by_cases hjt : j < ds1.length
              · obtain ⟨hgo1, hy1⟩ := it1.go j _ H7 F7 io7 S7 hjt e7 g7
                refine .inr ⟨hgo1, _, fun H8 n => ⟨ds1.length - (j + 1), by omega, n⟩, fun x H8 y => ?_⟩
                obtain ⟨F8, e8, g8, d1, hd1, rd1⟩ := hy1 x H8 y
                have hdr1 : ds1.drop j = d1 :: ds1.drop (j + 1) := by
                  rw [List.drop_eq_getElem_cons hjt]
                  rw [List.getElem?_eq_getElem hjt] at hd1
                  rw [Option.some.inj hd1]
                rw [hdr1] at q7
                unfold compL at q7
                cases hg1 : g1 d1 (wipeE ρ1 vs1) with
                | none => rw [hg1] at q7; exact q7.elim
                | some ρ2 =>
                  rw [hg1] at q7
                  dsimp only at q7
                  rw [bind_assoc] at q7
                  have q7 := Aft.ext q7 e8
                  have re8 := renv_wipe (renv_mono e8 (renv_mono e7 re6)) vs1
                  refine ⟨_, F8, io7, S7, d1, _, ρ2, g8, rd1, re8, hg1, fun σ9 re9 w9 => ⟨w9.trans (lc_mainG.wipe_idem vs1), _, F8, io7, S7, ρ2, g8, re9, ?_⟩⟩
                  refine test_dry q7 fun b S9 F9 io9 H9 e9 g9 q9 => ?_
                  cases b with
                  | false => exact ⟨rfl, hjt, F9, io9, S9, acc, vacc, (e7.trans e8).trans e9, g9, rpa_mono (e8.trans e9) ra7, by omega, q9⟩
                  | true =>
                    have q9 : Aft c G F9 io9 σ (rp c) Q (((fe ρ2 S9).noX.bind fun x S2 => (compL g1 ft1 fe (wipeE ρ1 vs1) (ds1.drop (j + 1)) S2).bind fun xs S3 => .ok (x :: xs) S3).bind (Kn acc)) := q9
                    refine ⟨_, F9, io9, S9, ρ2, g9, renv_mono e9 re9, ?_⟩
                    cases hr2 : fe ρ2 S9 with
                    | exc n as S10 => rw [hr2] at q9; exact q9.elim
                    | bad => rw [hr2] at q9; exact q9.elim
                    | ok y1 S10 =>
                      rw [hr2] at q9
                      intro v Fa ioa Ha ea ga ra'
                      have qa : Aft c G F9 io9 σ (rp c) Q (((compL g1 ft1 fe (wipeE ρ1 vs1) (ds1.drop (j + 1)) S10).bind fun xs S3 => .ok (y1 :: xs) S3).bind (Kn acc)) := q9
                      have qa := Aft.ext qa ea
                      refine ⟨vacc, ga.gx _ _ upd_same, ?_, rfl, hjt, Fa, ioa, S10, acc ++ [y1], vacc ++ [v], ((e7.trans e8).trans e9).trans ea, ga.rehold, paired_app (rpa_mono ((e8.trans e9).trans ea) ra7) (.cons ra' .nil), by simp; omega, ?_⟩
                      · rw [paired_len ra7]
                        refine Nat.lt_of_lt_of_le ?_ lim_line
                        omega
                      · have same : (((compL g1 ft1 fe (wipeE ρ1 vs1) (ds1.drop (j + 1)) S10).bind fun xs S3 => .ok (y1 :: xs) S3).bind (Kn acc)) = (compL g1 ft1 fe (wipeE ρ1 vs1) (ds1.drop (j + 1)) S10).bind (Kn (acc ++ [y1])) := by
                          rw [bind_assoc]
                          have ek : ∀ xs S3, Kn acc (y1 :: xs) S3 = Kn (acc ++ [y1]) xs S3 := fun xs S3 => by
                            show (compL2 g ft fi1 vs1 g1 ft1 fe (wipeE ρ vs) (ds.drop (i + 1)) (acc.length + (y1 :: xs).length) S3).bind _ = (compL2 g ft fi1 vs1 g1 ft1 fe (wipeE ρ vs) (ds.drop (i + 1)) ((acc ++ [y1]).length + xs.length) S3).bind _
                            have en : acc.length + (y1 :: xs).length = (acc ++ [y1]).length + xs.length := by
                              rw [List.length_append, List.length_cons, List.length_singleton]
                              omega
                            rw [en]
                            simp only [List.append_assoc, List.cons_append, List.nil_append]
                          cases compL g1 ft1 fe (wipeE ρ1 vs1) (ds1.drop (j + 1)) S10 with
                          | ok xs S3 => exact ek xs S3
                          | exc n as S3 => rfl
                          | bad => rfl
                        rw [same] at qa
                        exact qa
              · have e0 : j = ds1.length := by omega
                subst e0
                rw [List.drop_length] at q7
                refine .inl ⟨it1.stop _ _ H7 F7 io7 S7 (Nat.le_refl _) e7 g7, F7, io7, S7, acc, vacc, ((e2.trans e3).trans e5).trans (e6.trans e7), g7, ra7, ?_⟩
                exact q7
            · rw [if_neg hl1] at q6
              exact q6.elim
    · have e0 : i = ds.length := by omega
      subst e0
      rw [List.drop_length] at q2
      refine .inl ⟨it.stop _ _ H' F2 io2 S2 (Nat.le_refl _) e2 g2, ?_⟩
      have q2 : Aft c G F2 io2 σ (rp c) Q (compEnd (acc ++ []) S2) := q2
      rw [List.append_nil] at q2
      unfold compEnd at q2
      cases ha : asPs acc with
      | none => rw [ha] at q2; exact q2.elim
      | some ps =>
        rw [ha] at q2
        obtain ⟨g4, e4⟩ := g2.unhold hG
        exact q2 (.ref Dl) _ _ _ e4 g4 (.lst upd_same (dpa_mono e4.same _ _ (asPs_ok ha ra)))
theorem fe_comp2 {ifs ifs1 : List Expr} {scope : Scope} (h : ∀ {wi wi1 : TI} {tg' tg1' : TG} {tt tt1 : TT} {te : TE}, PI X tg iter wi → (∀ (s : Shared) (H : Hp) (C : Addr) (cl : List (Str × Addr)) (fp : List Addr), PG (X.blk s H scope (compEnvC scope cl C X.env) fp) tg tg') → (∀ (s : Shared) (H : Hp) (C : Addr) (cl : List (Str × Addr)) (fp : List Addr), PTs (X.blk s H scope (compEnvC scope cl C X.env) fp) ifs tt) → (∀ (s : Shared) (H : Hp) (C : Addr) (cl : List (Str × Addr)) (fp : List Addr), PI (X.blk s H scope (compEnvC scope cl C X.env) fp) tg1 iter1 wi1) → (∀ (s : Shared) (H : Hp) (C : Addr) (cl : List (Str × Addr)) (fp : List Addr), PG (X.blk s H scope (compEnvC scope cl C X.env) fp) tg1 tg1') → (∀ (s : Shared) (H : Hp) (C : Addr) (cl : List (Str × Addr)) (fp : List Addr), PTs (X.blk s H scope (compEnvC scope cl C X.env) fp) ifs1 tt1) → (∀ (s : Shared) (H : Hp) (C : Addr) (cl : List (Str × Addr)) (fp : List Addr), PE (X.blk s H scope (compEnvC scope cl C X.env) fp) elt te) → PE X e (tLc2 wi tg' tt wi1 tg1' tt1 te vs vs1))
    (hi : PI X tg iter (tI c fi)) (hg : ∀ (s : Shared) (H : Hp) (C : Addr) (cl : List (Str × Addr)) (fp : List Addr), PG (X.blk s H scope (compEnvC scope cl C X.env) fp) tg (tG c.dry vs g)) (ht : ∀ (s : Shared) (H : Hp) (C : Addr) (cl : List (Str × Addr)) (fp : List Addr), PTs (X.blk s H scope (compEnvC scope cl C X.env) fp) ifs (tT c.dry ft)) (hi1 : ∀ (s : Shared) (H : Hp) (C : Addr) (cl : List (Str × Addr)) (fp : List Addr), PI (X.blk s H scope (compEnvC scope cl C X.env) fp) tg1 iter1 (tI c.dry fi1)) (hg1 : ∀ (s : Shared) (H : Hp) (C : Addr) (cl : List (Str × Addr)) (fp : List Addr), PG (X.blk s H scope (compEnvC scope cl C X.env) fp) tg1 (tG c.dry vs1 g1)) (ht1 : ∀ (s : Shared) (H : Hp) (C : Addr) (cl : List (Str × Addr)) (fp : List Addr), PTs (X.blk s H scope (compEnvC scope cl C X.env) fp) ifs1 (tT c.dry ft1)) (he : ∀ (s : Shared) (H : Hp) (C : Addr) (cl : List (Str × Addr)) (fp : List Addr), PE (X.blk s H scope (compEnvC scope cl C X.env) fp) elt (tE c.dry fe)) : PE X e (tE c (fComp2 vs fi g ft fi1 vs1 g1 ft1 fe)) := pe_imp (h hi hg ht hi1 hg1 ht1 he) lc2_main
theorem fs_comp2 {ifs ifs1 : List Expr} {scope : Scope} {i : Nat} {st : Stmt} (h : ∀ {wi wi1 : TI} {tg' tg1' : TG} {tt tt1 : TT} {te : TE}, PI X tg iter wi → (∀ (s : Shared) (H : Hp) (C : Addr) (cl : List (Str × Addr)) (fp : List Addr), PG (X.blk s H scope (compEnvC scope cl C X.env) fp) tg tg') → (∀ (s : Shared) (H : Hp) (C : Addr) (cl : List (Str × Addr)) (fp : List Addr), PTs (X.blk s H scope (compEnvC scope cl C X.env) fp) ifs tt) → (∀ (s : Shared) (H : Hp) (C : Addr) (cl : List (Str × Addr)) (fp : List Addr), PI (X.blk s H scope (compEnvC scope cl C X.env) fp) tg1 iter1 wi1) → (∀ (s : Shared) (H : Hp) (C : Addr) (cl : List (Str × Addr)) (fp : List Addr), PG (X.blk s H scope (compEnvC scope cl C X.env) fp) tg1 tg1') → (∀ (s : Shared) (H : Hp) (C : Addr) (cl : List (Str × Addr)) (fp : List Addr), PTs (X.blk s H scope (compEnvC scope cl C X.env) fp) ifs1 tt1) → (∀ (s : Shared) (H : Hp) (C : Addr) (cl : List (Str × Addr)) (fp : List Addr), PE (X.blk s H scope (compEnvC scope cl C X.env) fp) elt te) → PS X st (tAsg (tLc2 wi tg' tt wi1 tg1' tt1 te vs vs1) (gName i)))
    (hi : PI X tg iter (tI c fi)) (hg : ∀ (s : Shared) (H : Hp) (C : Addr) (cl : List (Str × Addr)) (fp : List Addr), PG (X.blk s H scope (compEnvC scope cl C X.env) fp) tg (tG c.dry vs g)) (ht : ∀ (s : Shared) (H : Hp) (C : Addr) (cl : List (Str × Addr)) (fp : List Addr), PTs (X.blk s H scope (compEnvC scope cl C X.env) fp) ifs (tT c.dry ft)) (hi1 : ∀ (s : Shared) (H : Hp) (C : Addr) (cl : List (Str × Addr)) (fp : List Addr), PI (X.blk s H scope (compEnvC scope cl C X.env) fp) tg1 iter1 (tI c.dry fi1)) (hg1 : ∀ (s : Shared) (H : Hp) (C : Addr) (cl : List (Str × Addr)) (fp : List Addr), PG (X.blk s H scope (compEnvC scope cl C X.env) fp) tg1 (tG c.dry vs1 g1)) (ht1 : ∀ (s : Shared) (H : Hp) (C : Addr) (cl : List (Str × Addr)) (fp : List Addr), PTs (X.blk s H scope (compEnvC scope cl C X.env) fp) ifs1 (tT c.dry ft1)) (he : ∀ (s : Shared) (H : Hp) (C : Addr) (cl : List (Str × Addr)) (fp : List Addr), PE (X.blk s H scope (compEnvC scope cl C X.env) fp) elt (tE c.dry fe)) : PS X st (tS c (fSet i (fComp2 vs fi g ft fi1 vs1 g1 ft1 fe))) := ps_imp (h hi hg ht hi1 hg1 ht1 he) fun N σ H ⟨G, F, io, S, ρ, gd, re, q⟩ =>
  lc2_main σ H _ ⟨G, F, io, S, ρ, gd, re, AftS.step q re fun d S1 v F1 io1 H1 e1 g1 r1 q1 => AftS.here q1 g1 (renv_set (renv_mono e1 re) (rpe_of r1) i)⟩
end
end Tw
namespace Tw
open PySem PySem.Spec PyProof.Rows L2

/-! ### min of a list of data -/
def isNon : PyData → Bool
  | .none => true
  | _ => false
def alikeB (l : List PyData) : Bool := (l.all fun x => l.all fun y => PySem.W.alike x y) && (l.all fun x => !isNon x)
theorem alikeB_ok {l : List PyData} (h : alikeB l = true) : PySem.W.AlikeAll l := by
  obtain ⟨h1, h2⟩ := He.ba h
  refine ⟨fun x hx y hy => List.all_eq_true.mp (List.all_eq_true.mp h1 x hx) y hy, fun x hx z => ?_⟩
  subst z
  have := List.all_eq_true.mp h2 _ hx
  cases this
def gMinD : List D → Sto → Res D := fun ds S => match ds with
  | [.p (.list (x :: xs))] => if alikeB (x :: xs) = true ∧ PyData.depthAll (x :: xs) ≤ 60 ∧ PyData.canLayAll0 (x :: xs) = true then .ok (.p (PySem.W.minD x xs)) S else .bad
  | _ => .bad
def rMinDD (K : PySem.W.Frag) : List V → Hp → VK → Prop := fun vs H Q => ∃ a ys x xs, vs = [.ref a] ∧ SqL K H a ys ∧ DpAll K H ys (x :: xs) ∧ alikeB (x :: xs) = true ∧ PyData.depthAll (x :: xs) ≤ 60 ∧ ∀ (i : Nat) v, ys[i]? = some v → (x :: xs)[i]? = some (PySem.W.minD x xs) → Q v H
theorem call_minDD {X : Cx} (hu : X.A.units + 64 < cLine) (hc : X.calm = true) : CallR X (.builtin "min") (rMinDD X.K) := by
  rintro pins s σ H vs us Q I r ⟨a, ys, x, xs, rfl, hs, hd, hal, hdp, q⟩
  obtain ⟨its, rv, hl, _⟩ := I.list hs
  rw [Vals.ref1 r]
  obtain ⟨as, hr⟩ := Dp.readsAll I (x :: xs) ys its hd rv
  refine PySem.W.min_list_data (I.ok.hd hc) hl.isList (by simpa using hr) (alikeB_ok hal) (by omega) fun i v h' tk bs hv hrd hk => ?_
  have hv' : its[i]? = some v := by simpa using hv
  obtain ⟨hi, hv2⟩ := List.getElem?_eq_some_iff.mp hv'
  have hlen : ys.length = its.length := rv.length
  have hlen2 : its.length = (x :: xs).length := by
    have z := PySem.W.readsAll_len (vs := its.toArray) (by simpa using hr)
    simpa using z
  have hiy : i < ys.length := by omega
  have hix : i < (x :: xs).length := by omega
  obtain ⟨u, hu2, ru⟩ := rv.get (List.getElem?_eq_getElem hiy)
  rw [hv'] at hu2
  obtain rfl := Option.some.inj hu2
  have rd1 : ∃ bs, Reads s.heap v ((x :: xs)[i]) bs := by
    obtain ⟨bs, z, _⟩ := PySem.W.readsAll_at hr i v hv'
    rw [List.getD_eq_getElem?_getD, List.getElem?_eq_getElem hix] at z
    exact ⟨bs, z⟩
  obtain ⟨bs1, rd1⟩ := rd1
  have e : (x :: xs)[i] = PySem.W.minD x xs := (PySem.Reads.unique (PySem.W.reads_keeps hk rd1) _ _ hrd).1
  exact ⟨_, H, I.kept hk, ru, q i _ (List.getElem?_eq_getElem hiy) (by rw [List.getElem?_eq_getElem hix, e])⟩
theorem bc_minDD {c : Cw} : BCall c (rMinDD c.K) gMinD := fun G F io H S σ vs ds Q gd r q => by
  unfold gMinD at q
  split at q
  · rename_i x xs
    by_cases hc : alikeB (x :: xs) = true ∧ PyData.depthAll (x :: xs) ≤ 60 ∧ PyData.canLayAll0 (x :: xs) = true
    · rw [if_pos hc] at q
      cases r with
      | cons r1 r2 =>
        cases r2
        cases r1 with
        | @lst a ys _ hx ha =>
          refine ⟨a, ys, x, xs, rfl, SqL.of (gd.ex _ _ hx), dpa_of gd.ex _ _ hc.2.2 ha, hc.1, hc.2.1, fun i v hv hx2 => ?_⟩
          obtain ⟨v', hv', rv⟩ := dpa_get _ _ i _ ha hx2
          rw [hv] at hv'
          obtain rfl := Option.some.inj hv'
          exact hereP (v := v) q gd rv
    · rw [if_neg hc] at q
      exact q.elim
  · exact q.elim
end Tw
namespace Tw
open PySem PySem.Spec PyProof.Rows L2

/-! ### rules for simp, further readings -/
section
variable {ρ ρ1 : Env} {S : Sto} {a b fa : FE} {fr : FA} {fi fi1 : FI} {g g1 : FG} {ft ft1 fe : FE} {vs vs1 : List Nat} {d x : D} {ds xs ys : List D} {ps : List PyData} {r l : PyData} {m : List D → Sto → Res D} {n f y : Str} {as : List PyData} {b0 : Bool} {i j k : Nat} {e : FE} {ns : List Str}
def fldK (b : Bool) (q : Res D) : Res D := q.bind fun d S1 => match d with
  | .wld r l => .ok (.p (if b = true then l else r)) S1
  | _ => .bad
@[simp ↓] theorem ap_fld : fFld b0 fa ρ S = fldK b0 (fa ρ S) := rfl
@[simp] theorem fldK_r : fldK false (.ok (.wld r l) S) = .ok (.p r) S := rfl
@[simp] theorem fldK_l : fldK true (.ok (.wld r l) S) = .ok (.p l) S := rfl
def prpK (m : List D → Sto → Res D) (q : Res D) : Res D := q.bind fun d S1 => match d with
  | .wld r l => (match m [.wld r l] S1 with
    | .ok d S2 => .ok d S2
    | _ => .bad)
  | _ => .bad
@[simp ↓] theorem ap_prp : fPrp m fa ρ S = prpK m (fa ρ S) := rfl
theorem prpK_ok {S2 : Sto} (h : m [.wld r l] S = .ok d S2) : prpK m (.ok (.wld r l) S) = .ok d S2 := by
  show (match m [.wld r l] S with
    | .ok d S2 => .ok d S2
    | _ => .bad : Res D) = _
  rw [h]
@[simp ↓] theorem ap_mth : fMth m fa fr ρ S = (fa ρ S).bind fun d S1 => match d with
  | .wld r l => (fr ρ S1).bind fun ds S2 => m (.wld r l :: ds) S2
  | _ => .bad := rfl
def isWK (q : Res D) : Res D := q.bind fun d S1 => match d with
  | .p _ => .ok (.p (.bool false)) S1
  | .wld _ _ => .ok (.p (.bool true)) S1
  | _ => .bad
@[simp ↓] theorem ap_isW : fIsW fa ρ S = isWK (fa ρ S) := rfl
@[simp] theorem isWK_p : isWK (.ok (.p r) S) = .ok (.p (.bool false)) S := rfl
@[simp] theorem isWK_w : isWK (.ok (.wld r l) S) = .ok (.p (.bool true)) S := rfl
def enuK (q : Res D) : Res (List D) := q.bind fun d S1 => match d with
  | .p (.tuple ds) => .ok (enuL 0 ds) S1
  | .p (.list ds) => .ok (enuL 0 ds) S1
  | _ => .bad
@[simp] theorem enuK_okL : enuK (.ok (.p (.list ps)) S) = .ok (enuL 0 ps) S := rfl
@[simp ↓] theorem ap_enu : fEnu fa ρ S = enuK (fa ρ S) := rfl
@[simp] theorem enuK_ok : enuK (.ok (.p (.tuple ps)) S) = .ok (enuL 0 ps) S := rfl
def raise1K (n : Str) (ρ : Env) (q : Res D) : Fl := q.thn ρ fun d S1 => match d with
  | .p d => .exc n [d] ρ S1
  | _ => .bad
@[simp ↓] theorem ap_raise1 : fRaise1 n fa ρ S = raise1K n ρ (fa ρ S) := rfl
@[simp] theorem raise1K_ok : raise1K n ρ (.ok (.p r) S) = .exc n [r] ρ S := rfl
def starK (fr : FA) (ρ : Env) (q : Res D) : Res (List D) := q.bind fun d S1 => match d with
  | .p (.tuple ds) => (fr ρ S1).bind fun xs S2 => .ok (ds.map D.p ++ xs) S2
  | .p (.list ds) => (fr ρ S1).bind fun xs S2 => .ok (ds.map D.p ++ xs) S2
  | _ => .bad
def star2K (ps : List PyData) (q : Res (List D)) : Res (List D) := q.bind fun xs S2 => .ok (ps.map D.p ++ xs) S2
@[simp ↓] theorem ap_star : fStar fa fr ρ S = starK fr ρ (fa ρ S) := rfl
@[simp] theorem starK_t : starK fr ρ (.ok (.p (.tuple ps)) S) = star2K ps (fr ρ S) := rfl
@[simp] theorem starK_l : starK fr ρ (.ok (.p (.list ps)) S) = star2K ps (fr ρ S) := rfl
@[simp] theorem star2K_ok : star2K ps (.ok xs S) = .ok (ps.map D.p ++ xs) S := rfl
def comp2K (vs : List Nat) (g : FG) (ft : FE) (fi1 : FI) (vs1 : List Nat) (g1 : FG) (ft1 fe : FE) (ρ : Env) (q : Res (List D)) : Res D := q.bind fun ds S1 => compE (compL2 g ft fi1 vs1 g1 ft1 fe (wipeE ρ vs) ds 0 S1)
@[simp ↓] theorem ap_comp2 : fComp2 vs fi g ft fi1 vs1 g1 ft1 fe ρ S = comp2K vs g ft fi1 vs1 g1 ft1 fe ρ (fi ρ S) := rfl
@[simp] theorem comp2K_ok : comp2K vs g ft fi1 vs1 g1 ft1 fe ρ (.ok ds S) = compE (compL2 g ft fi1 vs1 g1 ft1 fe (wipeE ρ vs) ds 0 S) := rfl
theorem asPs_map : ∀ xs : List PyData, asPs (xs.map D.p) = some xs
  | [] => rfl
  | x :: xs => by rw [List.map_cons, asPs, asPs_map xs]; rfl
theorem asPs_two : ∀ (xs ys : List PyData), asPs (xs.map D.p ++ ys.map D.p) = some (xs ++ ys) := fun xs ys => by
  rw [← List.map_append, asPs_map]
@[simp] theorem g_tlist : gList [.p (.tuple ps)] S = .ok (.p (.list ps)) S := rfl
@[simp] theorem g_llist : gList [.p (.list ps)] S = .ok (.p (.list ps)) S := rfl
theorem g_addL {ps qs : List PyData} (h : ps.length + qs.length < 1000000) : gAdd (.p (.list ps)) (.p (.list qs)) S = .ok (.p (.list (ps ++ qs))) S := if_pos h
theorem g_addT {ps qs : List PyData} (h : ps.length + qs.length < 1000000) : gAdd (.p (.tuple ps)) (.p (.tuple qs)) S = .ok (.p (.tuple (ps ++ qs))) S := if_pos h
theorem trim_low {S0 S' : Sto} (hl : S0.length < S'.length) (hd : d.low S0.length = true) (ho : (S'.take S0.length).all (O.low S0.length) = true) : trim S0 d S' = .ok d (S'.take S0.length) := by
  unfold trim
  rw [if_neg (by omega), if_pos (by rw [hd, ho]; rfl)]
end
end Tw
namespace Tw
open PySem PySem.Spec PyProof.Rows L2

/-! ### methods of a list that changes -/
def fLm (op : List D → List D → Option (D × List D)) (fo : FE) (fr : FA) : FE := fun ρ S => (fo ρ S).bind fun o S1 => match o with
  | .own k => match S1[k]? with
    | some (.lst _) => (fr ρ S1).bind fun ds S2 => match S2[k]? with
      | some (.lst xs) => match op xs ds with
        | some r => .ok r.1 (S2.set k (.lst r.2))
        | none => .bad
      | _ => .bad
    | _ => .bad
  | _ => .bad
def LOp (c : Cw) (r : V → List V → Hp → VK → Prop) (op : List D → List D → Option (D × List D)) : Prop :=
  ∀ F io vs xs us ds ret xs', RpA c.K F io vs xs → RpA c.K F io us ds → op xs ds = some (ret, xs') → ∃ v vs', RpA c.K F io vs' xs' ∧ Rp c.K F io v ret ∧ ∀ a H Q, H a = some (.lst vs) → Q v (upd H a (.lst vs')) → r (.ref a) us H Q
section
variable {X : Cx} {c : Cw} {e o : Expr} {es : List Expr} {fo : FE} {fr : FA}
theorem fe_lm {r : V → List V → Hp → VK → Prop} {op : List D → List D → Option (D × List D)} (h : ∀ {to : TE} {t : TA}, PE X o to → PA X es t → PE X e (tBM c.K "list" r to t)) (hop : LOp c r op) (ho : PE X o (tE c fo)) (ha : PA X es (tA c fr)) : PE X e (tE c (fLm op fo fr)) :=
  pe_imp (h ho ha) fun σ H Q ⟨G, F, io, S, ρ, gd, re, q⟩ => ⟨G, F, io, S, ρ, gd, re, Aft.step q fun o S1 v1 F1 i1 H1 e1 g1 r1 q1 => by
    cases o with
    | own k =>
      have q1 : Aft c G F1 i1 σ (rp c) Q (match S1[k]? with
        | some (.lst _) => (fr ρ S1).bind fun ds S2 => match S2[k]? with
          | some (.lst xs) => match op xs ds with
            | some r => .ok r.1 (S2.set k (.lst r.2))
            | none => .bad
          | _ => .bad
        | _ => .bad) := q1
      cases hk : S1[k]? with
      | none => rw [hk] at q1; exact q1.elim
      | some ob =>
        rw [hk] at q1
        cases ob with
        | lst xs0 =>
          obtain ⟨a0, ea, eo⟩ := r1
          obtain ⟨a', e3, h0, vs, h1, h2⟩ := g1.at_ hk
          rw [eo] at e3
          have e3 : a0 = a' := Option.some.inj e3
          subst e3
          subst ea
          refine ⟨.inl ⟨rfl, vs, SqL.of h1⟩, G, F1, i1, S1, ρ, g1, renv_mono e1 re, Aft.step q1 fun ds S2 us F2 i2 H2 e2 g2 r2 q2 => ?_⟩
          have q2 : Aft c G F2 i2 σ (rp c) Q (match S2[k]? with
            | some (.lst xs) => match op xs ds with
              | some r => .ok r.1 (S2.set k (.lst r.2))
              | none => .bad
            | _ => .bad) := q2
          cases hk2 : S2[k]? with
          | none => rw [hk2] at q2; exact q2.elim
          | some ob2 =>
            rw [hk2] at q2
            cases ob2 with
            | lst xs =>
              have q2 : Aft c G F2 i2 σ (rp c) Q (match op xs ds with
                | some r => .ok r.1 (S2.set k (.lst r.2))
                | none => .bad) := q2
              cases hp : op xs ds with
              | none => rw [hp] at q2; exact q2.elim
              | some r2' =>
                rw [hp] at q2
                obtain ⟨ret, xs'⟩ := r2'
                obtain ⟨a', e3, h0', vs', h1', h2'⟩ := g2.at_ hk2
                rw [e2.ix eo] at e3
                have e3 : a0 = a' := Option.some.inj e3
                subst e3
                obtain ⟨v, ws, k1, k2, k3⟩ := hop F2 i2 vs' xs us ds ret xs' h2' r2 hp
                exact k3 a0 H2 Q h1' (Aft.here (v := v) q2 (g2.put (e2.ix eo) h0' ⟨h0', _, upd_same, k1⟩) k2)
            | _ => exact q2.elim
        | _ => exact q1.elim
    | _ => exact q1.elim⟩
theorem paired_at2 {α β : Type} {R : α → β → Prop} : ∀ {xs : List α} {ys : List β} {i : Nat} {y : β}, Paired R xs ys → ys[i]? = some y → ∃ x, xs[i]? = some x ∧ R x y
  | _, _, i, y, .nil, h => by simp at h
  | _, _, 0, y, .cons r t, h => ⟨_, rfl, by have h := Option.some.inj h; rw [← h]; exact r⟩
  | _, _, i + 1, y, .cons r t, h => paired_at2 (i := i) t (by simpa using h)
theorem paired_erase {α β : Type} {R : α → β → Prop} : ∀ {xs : List α} {ys : List β} (i : Nat), Paired R xs ys → Paired R (xs.eraseIdx i) (ys.eraseIdx i)
  | _, _, _, .nil => .nil
  | _, _, 0, .cons r t => t
  | _, _, i + 1, .cons r t => .cons r (paired_erase i t)
theorem paired_take2 {α β : Type} {R : α → β → Prop} : ∀ {xs : List α} {ys : List β} (i : Nat), Paired R xs ys → Paired R (xs.take i) (ys.take i)
  | _, _, 0, h => by cases h <;> exact .nil
  | _, _, i + 1, .nil => .nil
  | _, _, i + 1, .cons r t => .cons r (paired_take2 i t)
theorem paired_drop2 {α β : Type} {R : α → β → Prop} : ∀ {xs : List α} {ys : List β} (i : Nat), Paired R xs ys → Paired R (xs.drop i) (ys.drop i)
  | _, _, 0, h => h
  | _, _, i + 1, .nil => .nil
  | _, _, i + 1, .cons r t => paired_drop2 i t
def oPop : List D → List D → Option (D × List D) := fun xs ds => match ds with
  | [.p (.int i)] => if 0 ≤ i ∧ i < 1000000 then (xs[i.toNat]?).map fun y => (y, xs.eraseIdx i.toNat) else none
  | _ => none
theorem lop_pop : LOp c rPopAt oPop := fun F io vs xs us ds ret xs' h1 h2 h => by
  unfold oPop at h
  split at h
  · rename_i i
    cases h2 with
    | cons r t =>
      cases t
      cases r
      split at h
      · rename_i hi
        obtain ⟨y, hy, e⟩ := Option.map_eq_some_iff.mp h
        obtain ⟨rfl, rfl⟩ := Prod.mk.inj e
        obtain ⟨v, hv, rv⟩ := paired_at2 h1 hy
        have hl : i.toNat < vs.length := (List.getElem?_eq_some_iff.mp hv).1
        refine ⟨v, vs.eraseIdx i.toNat, paired_erase _ h1, rv, fun a H Q hH q => ⟨a, vs, i, i.toNat, v, rfl, rfl, hH, by omega, by omega, ?_, hv, q⟩⟩
        unfold seqIndex?
        simp only
        split <;> rename_i hc <;> simp_all <;> omega
      · cases h
  · cases h
def oIns : List D → List D → Option (D × List D) := fun xs ds => match ds with
  | [.p (.int i), y] => if 0 ≤ i ∧ i < 1000000 ∧ xs.length < lim then some (.p .none, xs.take i.toNat ++ [y] ++ xs.drop i.toNat) else none
  | _ => none
theorem lim_lt_line : lim < sizeLine := by decide
theorem lop_ins : LOp c (fun x vs H Q => ∃ (l : Addr) (xs : List V) (i : Int) (y : V), x = .ref l ∧ vs = [.int i, y] ∧ H l = some (.lst xs) ∧ xs.length < sizeLine ∧ 0 ≤ i ∧ i < 2 ^ 63 ∧
    Q .non (upd H l (.lst (xs.take i.toNat ++ [y] ++ xs.drop i.toNat)))) oIns := fun F io vs xs us ds ret xs' h1 h2 h => by
  unfold oIns at h
  split at h
  · rename_i i y
    cases h2 with
    | cons r t =>
      cases t with
      | cons r2 t2 =>
        cases t2
        cases r
        split at h
        · rename_i hi
          obtain ⟨rfl, rfl⟩ := Prod.mk.inj (Option.some.inj h)
          rename_i v
          have hl := paired_len h1
          have hlt := lim_lt_line
          exact ⟨.non, vs.take i.toNat ++ [v] ++ vs.drop i.toNat, paired_app (paired_app (paired_take2 _ h1) (.cons r2 .nil)) (paired_drop2 _ h1), Dq.non, fun a H Q hH q => ⟨a, vs, i, v, rfl, rfl, hH, by omega, hi.1, by omega, q⟩⟩
        · cases h
  · cases h
/-! ### xs[::-1] -/
def gRev : D → Sto → Res D := fun d S => match d with
  | .p (.list ds) => .ok (.p (.list ds.reverse)) S
  | .own k => match S[k]? with
    | some (.lst xs) => match asPs xs with
      | some ds => .ok (.p (.list ds.reverse)) S
      | none => .bad
    | _ => .bad
  | _ => .bad
theorem dpa_rev {F : Hp} : ∀ {ds : List PyData} {vs : List V}, DqA c.K F vs ds → DqA c.K F vs.reverse ds.reverse
  | [], _, h => by cases h; exact .nil
  | d :: ds, _, h => by
    cases h with
    | cons h1 h2 =>
      rw [List.reverse_cons, List.reverse_cons]
      exact dpa_app (dpa_rev h2) (.cons h1 .nil)
theorem fe_rev {k : Nat} {p1 p2 p3 pos : Pos} {fa : FE} (he : PE X e (tE c fa)) (hK : c.K = X.K := by rfl) : PE X (.Subscript e (.Slice none none (some (.UnaryOp .USub (.Constant (.int 1) k p1) p2)) p3) pos) (tE c (fUn gRev fa)) :=
  pe_imp (pe_revL he) fun σ H Q ⟨G, F, io, S, ρ, gd, re, q⟩ => ⟨G, F, io, S, ρ, gd, re, Aft.step q fun d1 S1 v1 F1 i1 H1 e1 g1 r1 q1 => by
    cases d1 with
    | p d =>
      cases d with
      | list ds =>
        cases r1 with
        | lst hs ha =>
          refine ⟨_, _, rfl, SqL.of (g1.ex _ _ hs), fun p hp => ?_⟩
          obtain ⟨g2, e2⟩ := g1.new (o := .lst _) hp
          exact q1 (.ref p) _ _ _ e2 g2 (.lst upd_same (dpa_mono e2.same _ _ (dpa_rev ha)))
      | _ => exact q1.elim
    | own k =>
      have q1 : Aft c G F1 i1 σ (rp c) Q (match S1[k]? with
        | some (.lst xs) => match asPs xs with
          | some ds => .ok (.p (.list ds.reverse)) S1
          | none => .bad
        | _ => .bad) := q1
      cases hk : S1[k]? with
      | none => rw [hk] at q1; exact q1.elim
      | some ob =>
        rw [hk] at q1
        cases ob with
        | lst xs =>
          have q1 : Aft c G F1 i1 σ (rp c) Q (match asPs xs with
            | some ds => .ok (.p (.list ds.reverse)) S1
            | none => .bad) := q1
          cases ha : asPs xs with
          | none => rw [ha] at q1; exact q1.elim
          | some ds =>
            rw [ha] at q1
            obtain ⟨a0, ea, eo⟩ := r1
            obtain ⟨a', e3, h0, vs, h1, h2⟩ := g1.at_ hk
            rw [eo] at e3
            have e3 : a0 = a' := Option.some.inj e3
            subst e3
            subst ea
            refine ⟨_, _, rfl, SqL.of h1, fun p hp => ?_⟩
            obtain ⟨g2, e2⟩ := g1.new (o := .lst _) hp
            exact q1 (.ref p) _ _ _ e2 g2 (.lst upd_same (dpa_mono e2.same _ _ (dpa_rev (asPs_ok ha h2))))
        | _ => exact q1.elim
    | _ => exact q1.elim⟩
/-! ### == of lists that change -/
def datO : D → Sto → Option PyData := fun d S => match d with
  | .p a => some a
  | .own k => match S[k]? with
    | some (.lst xs) => (asPs xs).map .list
    | _ => none
  | _ => none
theorem datO_ok {G F : Hp} {io : List Addr} {H : Hp} {S : Sto} {x : V} {d : D} {a : PyData} (gd : Good c.K G F io H S) (r : Rp c.K F io x d) (h : datO d S = some a) (n : SeqAt.shaped a = true) : Dp c.K H x a := by
  cases d with
  | p b =>
    have h : b = a := Option.some.inj h
    subst h
    exact dp_of gd.ex _ _ (lay_sh n) r
  | own k =>
    have h : (match S[k]? with
      | some (.lst xs) => (asPs xs).map .list
      | _ => none) = some a := h
    cases hk : S[k]? with
    | none => rw [hk] at h; cases h
    | some ob =>
      rw [hk] at h
      cases ob with
      | lst xs =>
        obtain ⟨ds, hd, rfl⟩ := Option.map_eq_some_iff.mp h
        obtain ⟨a0, ea, eo⟩ := r
        obtain ⟨a', e3, h0, vs, h1, h2⟩ := gd.at_ hk
        rw [eo] at e3
        have e3 : a0 = a' := Option.some.inj e3
        subst e3
        subst ea
        exact .lst (SqL.of h1) (dpa_of gd.ex _ _ (by simpa [PyData.canLay0] using lay_sh n) (asPs_ok hd h2))
      | _ => cases h
  | _ => cases h
def gEqO : D → D → Sto → Res D := fun dx dy S => match datO dx S, datO dy S with
  | some a, some b => if (SeqAt.shaped a && SeqAt.shaped b) = true then .ok (.p (.bool (PyData.eqv a b))) S else .bad
  | _, _ => .bad
def gNeO : D → D → Sto → Res D := fun dx dy S => match datO dx S, datO dy S with
  | some a, some b => if (SeqAt.shaped a && SeqAt.shaped b) = true then .ok (.p (.bool (!PyData.eqv a b))) S else .bad
  | _, _ => .bad
theorem bop_eqO : BOp c (rEqD c.K) gEqO := fun G F io H S σ x y dx dy Q gd rx ry q => by
  unfold gEqO at q
  cases h1 : datO dx S with
  | none => rw [h1] at q; exact q.elim
  | some a =>
    cases h2 : datO dy S with
    | none => rw [h1, h2] at q; exact q.elim
    | some b =>
      rw [h1, h2] at q
      have q : Aft c G F io σ (rp c) Q (if (SeqAt.shaped a && SeqAt.shaped b) = true then .ok (.p (.bool (PyData.eqv a b))) S else .bad) := q
      by_cases hs : (SeqAt.shaped a && SeqAt.shaped b) = true
      · rw [if_pos hs] at q
        rw [Bool.and_eq_true] at hs
        exact ⟨a, b, datO_ok gd rx h1 hs.1, datO_ok gd ry h2 hs.2, hs.1, hs.2, hereP (v := .bl _) q gd (Dq.bl _)⟩
      · rw [if_neg hs] at q
        exact q.elim
theorem bop_neO : BOp c (rNeD c.K) gNeO := fun G F io H S σ x y dx dy Q gd rx ry q => by
  unfold gNeO at q
  cases h1 : datO dx S with
  | none => rw [h1] at q; exact q.elim
  | some a =>
    cases h2 : datO dy S with
    | none => rw [h1, h2] at q; exact q.elim
    | some b =>
      rw [h1, h2] at q
      have q : Aft c G F io σ (rp c) Q (if (SeqAt.shaped a && SeqAt.shaped b) = true then .ok (.p (.bool (!PyData.eqv a b))) S else .bad) := q
      by_cases hs : (SeqAt.shaped a && SeqAt.shaped b) = true
      · rw [if_pos hs] at q
        rw [Bool.and_eq_true] at hs
        exact ⟨a, b, datO_ok gd rx h1 hs.1, datO_ok gd ry h2 hs.2, hs.1, hs.2, hereP (v := .bl _) q gd (Dq.bl _)⟩
      · rw [if_neg hs] at q
        exact q.elim
end
/-! ### rules for simp -/
section
variable {ρ : Env} {S : Sto} {fo fa : FE} {fr : FA} {op : List D → List D → Option (D × List D)} {k : Nat} {xs ds : List D} {ps : List PyData} {d e : D}
def lm2K (op : List D → List D → Option (D × List D)) (k : Nat) (q : Res (List D)) : Res D := q.bind fun ds S2 => match S2[k]? with
  | some (.lst xs) => match op xs ds with
    | some r => .ok r.1 (S2.set k (.lst r.2))
    | none => .bad
  | _ => .bad
def lmK (op : List D → List D → Option (D × List D)) (fr : FA) (ρ : Env) (q : Res D) : Res D := q.bind fun o S1 => match o with
  | .own k => match S1[k]? with
    | some (.lst _) => lm2K op k (fr ρ S1)
    | _ => .bad
  | _ => .bad
@[simp ↓] theorem ap_lm : fLm op fo fr ρ S = lmK op fr ρ (fo ρ S) := rfl
@[simp] theorem lmK_ok : lmK op fr ρ (.ok (.own k) S) = (match S[k]? with | some (.lst _) => lm2K op k (fr ρ S) | _ => .bad) := rfl
@[simp] theorem lm2K_ok : lm2K op k (.ok ds S) = (match S[k]? with
  | some (.lst xs) => match op xs ds with
    | some r => .ok r.1 (S.set k (.lst r.2))
    | none => .bad
  | _ => .bad) := rfl
@[simp] theorem g_rev_l : gRev (.p (.list ps)) S = .ok (.p (.list ps.reverse)) S := rfl
theorem g_rev_o : gRev (.own k) S = (match S[k]? with
    | some (.lst xs) => match asPs xs with
      | some ds => .ok (.p (.list ds.reverse)) S
      | none => .bad
    | _ => .bad) := rfl
end
end Tw
namespace Tw
open PySem PySem.Spec PyProof.Rows L2

theorem room65 {k : Nat} {A : Around} (r : Room k A) : A.units + 65 < cLine := by have := r.un; omega
/-! ### x in a list of deep data; // and % by negative numbers -/
def gInD (neg : Bool) : D → D → Sto → Res D := fun dx dy S => match datO dx S, datO dy S with
  | some a, some (.list bs) => if (SeqAt.shaped a && SeqAt.shaped (.list bs)) = true then .ok (.p (.bool (if neg = true then !(bs.any fun z => PyData.eqv z a) else bs.any fun z => PyData.eqv z a))) S else .bad
  | _, _ => .bad
section
variable {X : Cx} {c : Cw}
theorem bop_inDL : BOp c (rInD c.K) (gInD false) := fun G F io H S σ x y dx dy Q gd rx ry q => by
  unfold gInD at q
  cases h1 : datO dx S with
  | none => rw [h1] at q; exact q.elim
  | some a =>
    cases h2 : datO dy S with
    | none => rw [h1, h2] at q; exact q.elim
    | some b =>
      rw [h1, h2] at q
      cases b with
      | list bs =>
        have q : Aft c G F io σ (rp c) Q (if (SeqAt.shaped a && SeqAt.shaped (.list bs)) = true then .ok (.p (.bool (bs.any fun z => PyData.eqv z a))) S else .bad) := q
        by_cases hs : (SeqAt.shaped a && SeqAt.shaped (.list bs)) = true
        · rw [if_pos hs] at q
          rw [Bool.and_eq_true] at hs
          exact ⟨a, bs, datO_ok gd rx h1 hs.1, datO_ok gd ry h2 hs.2, hs.1, hs.2, hereP (v := .bl _) q gd (Dq.bl _)⟩
        · rw [if_neg hs] at q
          exact q.elim
      | _ => exact q.elim
theorem bop_notInDL : BOp c (rNotInD c.K) (gInD true) := fun G F io H S σ x y dx dy Q gd rx ry q => by
  unfold gInD at q
  cases h1 : datO dx S with
  | none => rw [h1] at q; exact q.elim
  | some a =>
    cases h2 : datO dy S with
    | none => rw [h1, h2] at q; exact q.elim
    | some b =>
      rw [h1, h2] at q
      cases b with
      | list bs =>
        have q : Aft c G F io σ (rp c) Q (if (SeqAt.shaped a && SeqAt.shaped (.list bs)) = true then .ok (.p (.bool (!(bs.any fun z => PyData.eqv z a)))) S else .bad) := q
        by_cases hs : (SeqAt.shaped a && SeqAt.shaped (.list bs)) = true
        · rw [if_pos hs] at q
          rw [Bool.and_eq_true] at hs
          exact ⟨a, bs, datO_ok gd rx h1 hs.1, datO_ok gd ry h2 hs.2, hs.1, hs.2, hereP (v := .bl _) q gd (Dq.bl _)⟩
        · rw [if_neg hs] at q
          exact q.elim
      | _ => exact q.elim
def gDivN := gIC (fun _ j => decide (j ≠ 0 ∧ j.natAbs < 1073741824)) fun i j => .int (i.fdiv j)
def gModN := gIC (fun _ j => decide (j ≠ 0)) fun i j => .int (i.fmod j)
theorem bop_divN : BOp c (rI CDivN fun i j => .int (i.fdiv j)) gDivN := bop_IC (fun i j h => (of_decide_eq_true h : j ≠ 0 ∧ j.natAbs < 1073741824)) fun _ _ _ => .int _
theorem bop_modN : BOp c (rI (fun _ j => j ≠ 0) fun i j => .int (i.fmod j)) gModN := bop_IC (fun _ _ h => of_decide_eq_true h) fun _ _ _ => .int _
end
section
variable {S : Sto} {m n : Int} {x : PyData} {bs : List PyData} {neg : Bool}
@[simp] theorem g_divN (h : n ≠ 0 ∧ n.natAbs < 1073741824) : gDivN (.p (.int m)) (.p (.int n)) S = .ok (.p (.int (m.fdiv n))) S := if_pos (decide_eq_true h)
@[simp] theorem g_modN (h : n ≠ 0) : gModN (.p (.int m)) (.p (.int n)) S = .ok (.p (.int (m.fmod n))) S := if_pos (decide_eq_true h)
theorem g_inD (h1 : SeqAt.shaped x = true) (h2 : SeqAt.shaped (.list bs) = true) : gInD neg (.p x) (.p (.list bs)) S = .ok (.p (.bool (if neg = true then !(bs.any fun z => PyData.eqv z x) else bs.any fun z => PyData.eqv z x))) S := if_pos (by rw [h1, h2]; rfl)
end
end Tw
namespace Tw
open PySem PySem.Spec PyProof.Rows L2

/-! ### isinstance of two types; an empty dict; a list times an int -/
def fIsi2 (t1 t2 : Ty) (fa : FE) : FE := fun ρ S => (fa ρ S).bind fun d S1 => match d with
  | .p d => .ok (.p (.bool (isT t1 d || isT t2 d))) S1
  | _ => .bad
section
variable {X : Cx} {c : Cw} {e a : Expr} {fa : FE} {pos : Pos}
theorem kit_two {K : PySem.W.Frag} (t1 t2 : Ty) (d : PyData) : PySem.W.kitAny K (.type (tyN d)) [.type t1.nm, .type t2.nm] = some (isT t1 d || isT t2 d) := by
  unfold PySem.W.kitAny
  rw [kit_ty (K := K) (kit_isT t1 d)]
  cases h1 : isT t1 d with
  | true => rfl
  | false =>
    show PySem.W.kitAny K (.type (tyN d)) [.type t2.nm] = _
    unfold PySem.W.kitAny
    rw [kit_ty (K := K) (kit_isT t2 d)]
    cases h2 : isT t2 d <;> rfl
theorem fe_isi2 {t1 t2 : Ty} (h : ∀ {ta : TE}, PE X a ta → PE X e (tCB (rIsiT c.K) (tCons ta (tCons (tTup (tCons (tC (.ty t1.nm)) (tCons (tC (.ty t2.nm)) tNil))) tNil)))) (ha : PE X a (tE c fa)) : PE X e (tE c (fIsi2 t1 t2 fa)) :=
  pe_imp (h ha) fun σ H Q ⟨G, F, io, S, ρ, gd, re, q⟩ => ⟨G, F, io, S, ρ, gd, re, Aft.step q fun d1 S1 v1 F1 i1 H1 e1 g1 r1 q1 => by
    cases d1 with
    | p d =>
      refine ⟨by show 2 ≤ sizeLine; decide, fun p hp => ?_⟩
      obtain ⟨g2, e2⟩ := g1.new (o := .tup [.ty t1.nm, .ty t2.nm]) hp
      have r2 : Dq c.K (upd F1 p (.tup [.ty t1.nm, .ty t2.nm])) v1 d := dp_mono e2.same d v1 r1
      exact ⟨v1, p, [.ty t1.nm, .ty t2.nm], .type (tyN d), [.type t1.nm, .type t2.nm], isT t1 d || isT t2 d, rfl, upd_same, .cons (.ty _) (.cons (.ty _) .nil), tyx_of g2.ex r2, kit_two t1 t2 d, hereP (v := .bl _) (Aft.ext (r := Res.ok (D.p (.bool (isT t1 d || isT t2 d))) S1) q1 e2) g2 (Dq.bl _)⟩
    | _ => exact q1.elim⟩
theorem fe_dicE : PE X (.Dict [] [] pos) (tE c (fCon (.dict []))) :=
  pe_imp pe_dnewT fun σ H Q ⟨G, F, io, S, ρ, gd, re, q⟩ p hp => by
    obtain ⟨g2, e2⟩ := gd.new (o := .dT []) hp
    exact q (.ref p) _ _ _ e2 g2 (.dic upd_same .nil)
def gRepL : D → D → Sto → Res D := fun dx dy S => match dx, dy with
  | .p (.list ds), .p (.int k) => if 0 ≤ k ∧ k ≤ 1000 ∧ ds.length ≤ 1000 then .ok (.p (.list (List.replicate k.toNat ds).flatten)) S else .bad
  | _, _ => .bad
theorem bop_repL : BOp c rRep gRepL := fun G F io H S σ x y dx dy Q gd rx ry q => by
  unfold gRepL at q
  split at q
  · rename_i ds k
    by_cases hc : 0 ≤ k ∧ k ≤ 1000 ∧ ds.length ≤ 1000
    · rw [if_pos hc] at q
      cases ry
      cases rx with
      | @lst p vs _ hx ha =>
        have hl := dpa_len _ _ ha
        have hm : vs.length * k.toNat ≤ 1000 * 1000 := Nat.mul_le_mul (by omega) (by omega)
        refine ⟨p, k, vs, rfl, rfl, gd.ex _ _ hx, by omega, by omega, Nat.le_trans hm (by decide), fun l hl2 => ?_⟩
        obtain ⟨g2, e2⟩ := gd.new (o := .lst (List.replicate k.toNat vs).flatten) hl2
        exact q (.ref l) _ _ _ e2 g2 (.lst upd_same (dpa_mono e2.same _ _ (dqa_rep ha k.toNat)))
    · rw [if_neg hc] at q
      exact q.elim
  · exact q.elim
end
section
variable {ρ : Env} {S : Sto} {fa : FE} {t1 t2 : Ty} {d : PyData}
def isi2K (t1 t2 : Ty) (q : Res D) : Res D := q.bind fun d S1 => match d with
  | .p d => .ok (.p (.bool (isT t1 d || isT t2 d))) S1
  | _ => .bad
@[simp ↓] theorem ap_isi2 : fIsi2 t1 t2 fa ρ S = isi2K t1 t2 (fa ρ S) := rfl
@[simp] theorem isi2K_ok : isi2K t1 t2 (.ok (.p d) S) = .ok (.p (.bool (isT t1 d || isT t2 d))) S := rfl
end
end Tw
namespace Tw
open PySem PySem.Spec PyProof.Rows L2

/-! ### dicts whose keys are pairs of ints -/
def keyI : D → Option (List Key)
  | .p (.tuple [.int i, .int j]) => some [.inl i, .inl j]
  | _ => none
section
variable {α : Type}
def valG (kvs : List (List Key × α)) (k : List Key) : Option α := match kvs with
  | [] => none
  | q :: r => if q.1 = k then some q.2 else valG r k
def putG (kvs : List (List Key × α)) (k : List Key) (v : α) : List (List Key × α) :=
  if (valG kvs k).isSome = true then kvs.map fun q => if q.1 = k then (k, v) else q else kvs ++ [(k, v)]
abbrev KR (R : V → α → Prop) : List (List Key × V) → List (List Key × α) → Prop := Paired fun p q => p.1 = q.1 ∧ R p.2 q.2
theorem kr_val {R : V → α → Prop} {kws : List (List Key × V)} {kvs : List (List Key × α)} (h : KR R kws kvs) (k : List Key) : (∀ d, valG kvs k = some d → ∃ v, valV kws k = some v ∧ R v d) ∧ (valG kvs k = none → valV kws k = none) := by
  induction h with
  | nil => exact ⟨fun d z => (by cases z), fun _ => rfl⟩
  | @cons p q ps qs r t ih =>
    by_cases e : p.1 = k
    · have e2 : q.1 = k := r.1.symm.trans e
      refine ⟨fun d z => ⟨p.2, valV_pos e, ?_⟩, fun z => ?_⟩
      · have z : (if q.1 = k then some q.2 else valG qs k) = some d := z
        rw [if_pos e2] at z
        rw [← Option.some.inj z]
        exact r.2
      · have z : (if q.1 = k then some q.2 else valG qs k) = none := z
        rw [if_pos e2] at z
        cases z
    · have e2 : ¬ q.1 = k := fun z => e (r.1.trans z)
      have z2 : valG (q :: qs) k = valG qs k := if_neg e2
      rw [z2, valV_neg e]
      exact ih
theorem kr_some {R : V → α → Prop} {kws : List (List Key × V)} {kvs : List (List Key × α)} (h : KR R kws kvs) (k : List Key) : (valV kws k).isSome = (valG kvs k).isSome := by
  obtain ⟨a, b⟩ := kr_val h k
  cases e : valG kvs k with
  | none =>
    rw [b e]
    rfl
  | some d =>
    obtain ⟨v, e2, _⟩ := a d e
    rw [e2]
    rfl
theorem kr_map {R : V → α → Prop} {k : List Key} {v : V} {d : α} (rv : R v d) : ∀ {kws : List (List Key × V)} {kvs : List (List Key × α)}, KR R kws kvs → KR R (kws.map fun x => if x.1 = k then (x.1, v) else x) (kvs.map fun x => if x.1 = k then (k, d) else x)
  | _, _, .nil => .nil
  | _, _, .cons (a := p) (b := q) r t => by
    rw [List.map_cons, List.map_cons]
    refine .cons ?_ (kr_map rv t)
    by_cases e : p.1 = k
    · rw [if_pos e, if_pos (r.1.symm.trans e)]
      exact ⟨e, rv⟩
    · rw [if_neg e, if_neg fun z => e (r.1.trans z)]
      exact r
theorem kr_put {R : V → α → Prop} {kws : List (List Key × V)} {kvs : List (List Key × α)} (h : KR R kws kvs) (k : List Key) {v : V} {d : α} (rv : R v d) : KR R (putK kws k v) (putG kvs k d) := by
  unfold putK putG
  rw [valV_any, kr_some h k]
  by_cases e : (valG kvs k).isSome = true
  · rw [if_pos e, if_pos e]
    exact kr_map rv h
  · rw [if_neg e, if_neg e]
    exact paired_app h (.cons ⟨rfl, rv⟩ .nil)
end
def unZ (kvs : List (List Key × PyData)) : List (List Key × D) := kvs.map fun q => (q.1, .p q.2)
/-- what a dict holds, its own or a locked one -/
def dOf : D → Sto → Option (List (List Key × D)) := fun d S => match d with
  | .dz kvs => some (unZ kvs)
  | .own k => match S[k]? with
    | some (.dic kvs) => some kvs
    | some (.fz (.dz kvs)) => some (unZ kvs)
    | _ => none
  | _ => none
section
variable {K : PySem.W.Frag} {G F : Hp} {io : List Addr} {H : Hp} {S : Sto}
theorem key_at {v : V} {d : D} {k : List Key} (r : Rp K F io v d) (h : keyI d = some k) : ∃ b, v = .ref b ∧ F b = some (.tup (k.map kV)) := by
  unfold keyI at h
  split at h
  · rename_i i j
    obtain rfl := Option.some.inj h
    cases r with
    | @tup a xs _ hx ha =>
      cases ha with
      | cons h1 h2 =>
        cases h1
        cases h2 with
        | cons h3 h4 =>
          cases h3
          cases h4
          rcases hx with hx | ⟨_, n⟩
          · exact ⟨a, rfl, hx⟩
          · simp [isS] at n
  · cases h
theorem kr_unZ {kws : List (List Key × V)} {kvs : List (List Key × PyData)} (h : KR (Dq K F) kws kvs) : KR (Rp K F io) kws (unZ kvs) := by
  unfold unZ
  induction h with
  | nil => exact .nil
  | cons r t ih => exact .cons r ih
theorem dOf_ok (g : Good K G F io H S) {v : V} {d : D} {kvs : List (List Key × D)} (r : Rp K F io v d) (h : dOf d S = some kvs) : ∃ a kws, v = .ref a ∧ Rd H a (.dT kws) ∧ KR (Rp K F io) kws kvs := by
  have lk : ∀ {v : V} {zs : List (List Key × PyData)}, Rp K F io v (.dz zs) → some (unZ zs) = some kvs → ∃ a kws, v = .ref a ∧ Rd H a (.dT kws) ∧ KR (Rp K F io) kws kvs := fun {v zs} r h => by
    obtain rfl := Option.some.inj h
    obtain ⟨a, od, kws, e, h1, h2⟩ := r
    exact ⟨a, kws, e, .inr ⟨od, g.ex _ _ h1⟩, kr_unZ h2⟩
  cases d with
  | dz zs => exact lk r h
  | own k =>
    have h : (match S[k]? with
      | some (.dic kvs) => some kvs
      | some (.fz (.dz kvs)) => some (unZ kvs)
      | _ => none) = some kvs := h
    obtain ⟨a, rfl, ia⟩ := r
    cases hk : S[k]? with
    | none => rw [hk] at h; cases h
    | some ob =>
      rw [hk] at h
      obtain ⟨a', ia', oa⟩ := g.at_ hk
      obtain rfl : a = a' := Option.some.inj (ia.symm.trans ia')
      cases ob with
      | dic zs =>
        obtain rfl : zs = kvs := Option.some.inj h
        obtain ⟨_, kws, h1, h2⟩ := oa
        exact ⟨a, kws, rfl, .inl h1, h2⟩
      | fz d =>
        cases d with
        | dz zs => exact lk oa.2 h
        | _ => cases h
      | _ => cases h
  | _ => cases h
end
/-! ### {} ; d[k] ; d.get(k, x) ; k in d ; d[k] = v ; d.setdefault(k, v) -/
def fDnew : FE := fun _ S => .ok (.own S.length) (S ++ [.dic []])
def fDget (fd fi : FE) : FE := fun ρ S => (fd ρ S).bind fun d S1 => (fi ρ S1).bind fun i S2 => match dOf d S2, keyI i with
  | some kvs, some k => match valG kvs k with
    | some v => .ok v S2
    | none => .bad
  | _, _ => .bad
def fDget2 (fd fi fx : FE) : FE := fun ρ S => (fd ρ S).bind fun d S1 => match dOf d S1 with
  | some _ => (fi ρ S1).bind fun i S2 => (fx ρ S2).bind fun x S3 => match dOf d S3, keyI i with
    | some kvs, some k => .ok ((valG kvs k).getD x) S3
    | _, _ => .bad
  | none => .bad
def gInT : D → D → Sto → Res D := fun dx dy S => match keyI dx, dOf dy S with
  | some k, some kvs => .ok (.p (.bool (valG kvs k).isSome)) S
  | _, _ => .bad
def putS (ρ : Env) (S : Sto) (v d y : D) : Fl := match d, keyI y with
  | .own n, some k => match S[n]? with
    | some (.dic kvs) => if kvs.length < lim then .nx ρ (S.set n (.dic (putG kvs k v))) else .bad
    | _ => .bad
  | _, _ => .bad
def fDput (fv fd fi : FE) : FS := fun ρ S => (fv ρ S).thn ρ fun v S1 => (fd ρ S1).thn ρ fun d S2 => (fi ρ S2).thn ρ fun y S3 => putS ρ S3 v d y
section
variable {X : Cx} {c : Cw} {e o i x : Expr} {fa fd fi fx fv : FE} {pos pos' : Pos}
theorem fe_dnew : PE X (.Dict [] [] pos) (tE c fDnew) := pe_imp pe_dnewT fun σ H Q ⟨G, F, io, S, ρ, gd, re, q⟩ p hp => by
  obtain ⟨g2, e2⟩ := gd.newOwn (o := .dT []) (x := .dic []) hp ⟨gd.out hp, [], upd_same, .nil⟩
  refine q (.ref p) _ _ _ e2 g2 ⟨p, rfl, ?_⟩
  rw [← gd.len, List.getElem?_append_right (Nat.le_refl _), Nat.sub_self]
  rfl
theorem fe_dget (hu : X.A.units + 1 < cLine) (ho : PE X o (tE c fd)) (hi : PE X i (tE c fi)) (hs : NoSl i) : PE X (.Subscript o i pos) (tE c (fDget fd fi)) :=
  pe_imp (pe_dget hu ho hi hs) fun σ H Q ⟨G, F, io, S, ρ, gd, re, q⟩ => ⟨G, F, io, S, ρ, gd, re, Aft.step q fun d S1 v1 F1 i1 H1 e1 g1 r1 q1 =>
    ⟨G, F1, i1, S1, ρ, g1, renv_mono e1 re, Aft.step q1 fun y S2 v2 F2 i2 H2 e2 g2 r2 q2 => by
      have q2 : Aft c G F2 i2 σ (rp c) Q (match dOf d S2, keyI y with
        | some kvs, some k => match valG kvs k with
          | some v => .ok v S2
          | none => .bad
        | _, _ => .bad) := q2
      cases h1 : dOf d S2 with
      | none => rw [h1] at q2; exact q2.elim
      | some kvs =>
        cases h2 : keyI y with
        | none => rw [h1, h2] at q2; exact q2.elim
        | some k =>
          rw [h1, h2] at q2
          have q2 : Aft c G F2 i2 σ (rp c) Q (match valG kvs k with
            | some v => .ok v S2
            | none => .bad) := q2
          cases h3 : valG kvs k with
          | none => rw [h3] at q2; exact q2.elim
          | some w =>
            rw [h3] at q2
            obtain ⟨a, kws, rfl, hd, kr⟩ := dOf_ok g2 (rp_mono e2 r1) h1
            obtain ⟨b, rfl, hb⟩ := key_at r2 h2
            obtain ⟨u, hu, ru⟩ := (kr_val kr k).1 w h3
            exact ⟨a, u, rfl, .inr ⟨kws, k, b, hd, rfl, g2.ex _ _ hb, hu.symm⟩, Aft.here (v := u) q2 g2 ru⟩⟩⟩
theorem fe_dget2 (hu : X.A.units + 1 < cLine) (ho : PE X o (tE c fd)) (hi : PE X i (tE c fi)) (hx : PE X x (tE c fx)) {apos cpos : Pos} (m : M2 X o "get" apos i x cpos) : PE X (.Call (.Attribute o "get" apos) [i, x] [] cpos) (tE c (fDget2 fd fi fx)) :=
  pe_imp (pe_dget2 hu ho hi hx m) fun σ H Q ⟨G, F, io, S, ρ, gd, re, q⟩ => ⟨G, F, io, S, ρ, gd, re, Aft.step q fun d S1 v1 F1 i1 H1 e1 g1 r1 q1 => by
    have q1 : Aft c G F1 i1 σ (rp c) Q (match dOf d S1 with
      | some _ => (fi ρ S1).bind fun i S2 => (fx ρ S2).bind fun x S3 => match dOf d S3, keyI i with
        | some kvs, some k => .ok ((valG kvs k).getD x) S3
        | _, _ => .bad
      | none => .bad) := q1
    cases h1 : dOf d S1 with
    | none => rw [h1] at q1; exact q1.elim
    | some kvs0 =>
      rw [h1] at q1
      obtain ⟨a, kws, rfl, hd, kr⟩ := dOf_ok g1 r1 h1
      refine ⟨a, rfl, .inr ⟨kws, hd⟩, G, F1, i1, S1, ρ, g1, renv_mono e1 re, Aft.step q1 fun y S2 v2 F2 i2 H2 e2 g2 r2 q2 => ⟨G, F2, i2, S2, ρ, g2, renv_mono (e1.trans e2) re, Aft.step q2 fun z S3 v3 F3 i3 H3 e3 g3 r3 q3 => ?_⟩⟩
      have q3 : Aft c G F3 i3 σ (rp c) Q (match dOf d S3, keyI y with
        | some kvs, some k => .ok ((valG kvs k).getD z) S3
        | _, _ => .bad) := q3
      cases h2 : dOf d S3 with
      | none => rw [h2] at q3; exact q3.elim
      | some kvs =>
        cases h3 : keyI y with
        | none => rw [h2, h3] at q3; exact q3.elim
        | some k =>
          rw [h2, h3] at q3
          obtain ⟨a', kws, ea, hd, kr⟩ := dOf_ok g3 (rp_mono (e2.trans e3) r1) h2
          cases ea
          obtain ⟨b, rfl, hb⟩ := key_at (rp_mono e3 r2) h3
          refine ⟨_, .inr ⟨kws, k, b, hd, rfl, g3.ex _ _ hb, rfl⟩, ?_⟩
          obtain ⟨z1, z2⟩ := kr_val kr k
          have q3 : Aft c G F3 i3 σ (rp c) Q (.ok ((valG kvs k).getD z) S3) := q3
          cases h4 : valG kvs k with
          | none =>
            rw [h4] at q3
            rw [z2 h4]
            exact Aft.here (v := v3) q3 g3 r3
          | some w =>
            rw [h4] at q3
            obtain ⟨u, hu, ru⟩ := z1 w h4
            rw [hu]
            exact Aft.here (v := u) q3 g3 ru⟩
def rInT : R2 := fun y x H Q => ∃ a o, x = .ref a ∧ DGet H a y o ∧ Q (.bl o.isSome) H
theorem op_inT (hu : X.A.units + 1 < cLine) : OpR X (compareOp .In) rInT := fun pins s σ H y x v u Q I ry rx h => by
  obtain ⟨a, ov, rfl, g, q⟩ := h
  obtain rfl : u = Value.ref a := rx
  exact d_in hu I g ry fun s1 I1 => ⟨.bl ov.isSome, H, I1, rfl, q⟩
theorem bop_inT : BOp c rInT gInT := fun G F io H S σ x y dx dy Q gd rx ry q => by
  unfold gInT at q
  cases h1 : keyI dx with
  | none => rw [h1] at q; exact q.elim
  | some k =>
    cases h2 : dOf dy S with
    | none => rw [h1, h2] at q; exact q.elim
    | some kvs =>
      rw [h1, h2] at q
      obtain ⟨a, kws, rfl, hd, kr⟩ := dOf_ok gd ry h2
      obtain ⟨b, rfl, hb⟩ := key_at rx h1
      refine ⟨a, _, rfl, .inr ⟨kws, k, b, hd, rfl, gd.ex _ _ hb, rfl⟩, ?_⟩
      rw [kr_some kr k]
      exact hereP (v := .bl _) q gd (Dq.bl _)
theorem fs_dput (hu : X.A.units + 1 < cLine) (hv : PE X e (tE c fv)) (ho : PE X o (tE c fd)) (hi : PE X i (tE c fi)) (hs : swapsWith e (some (.Subscript o i pos')) pos.line X.env = pure false) : PS X (.Assign [.Subscript o i pos'] e pos) (tS c (fDput fv fd fi)) :=
  ps_imp (ps_dput hu ho hi hv hs) fun N σ H ⟨G, F, io, S, ρ, gd, re, q⟩ => ⟨G, F, io, S, ρ, gd, re, AftS.step q re fun d1 S1 v1 F1 i1 H1 e1 g1 r1 q1 =>
    ⟨G, F1, i1, S1, ρ, g1, renv_mono e1 re, AftS.step q1 (renv_mono e1 re) fun d2 S2 v2 F2 i2 H2 e2 g2 r2 q2 =>
      ⟨G, F2, i2, S2, ρ, g2, renv_mono (e1.trans e2) re, AftS.step q2 (renv_mono (e1.trans e2) re) fun d3 S3 v3 F3 i3 H3 e3 g3 r3 q3 => by
        have q3 : AftS c G F3 i3 N (putS ρ S3 d1 d2 d3) := q3
        unfold putS at q3
        split at q3
        · rename_i n k h1 _
          split at q3
          · rename_i kvs h2
            split at q3
            · rename_i hl
              obtain ⟨a, rfl, ia⟩ := r2
              obtain ⟨a', ia', h0, kws, h4, h5⟩ := g3.at_ h2
              obtain rfl : a = a' := Option.some.inj ((e3.ix ia).symm.trans ia')
              obtain ⟨b, rfl, hb⟩ := key_at r3 h1
              refine ⟨a, _, rfl, .inr ⟨kws, k, b, h4, rfl, g3.ex _ _ hb, ?_, rfl⟩, AftS.here q3 (g3.put ia' h0 ⟨h0, _, upd_same, kr_put h5 k (rp_mono (e2.trans e3) r1)⟩) (renv_mono ((e1.trans e2).trans e3) re)⟩
              have := paired_len h5
              have := lim_lt_line
              omega
            · exact q3.elim
          · exact q3.elim
        · exact q3.elim⟩⟩⟩
end
end Tw
namespace Tw
open PySem PySem.Spec PyProof.Rows L2

/-! ### the keys of a dict: walked, listed -/
def keysZ {α : Type} (kvs : List (List Key × α)) : List PyData := kvs.map fun q => .tuple (q.1.map kD)
def asZ : List (List Key × D) → Option (List (List Key × PyData))
  | [] => some []
  | (k, .p d) :: r => (asZ r).map ((k, d) :: ·)
  | _ => none
def itK (d : D) (S : Sto) : Res (List D) := match d with
  | .dz kvs => .ok ((keysZ kvs).map D.p) S
  | .own k => match S[k]? with
    | some (.fz (.dz kvs)) => .ok ((keysZ kvs).map D.p) S
    | some (.dic kvs) => match asZ kvs with
      | some zs => .ok ((keysZ kvs).map D.p) (S.set k (.fz (.dz zs)))
      | none => .bad
    | _ => .bad
  | _ => .bad
def fItK (fa : FE) : FI := fun ρ S => (fa ρ S).bind itK
def gListD : List D → Sto → Res D := fun ds S => match ds with
  | [d] => match dOf d S with
    | some kvs => .ok (.p (.list (keysZ kvs))) S
    | none => .bad
  | _ => .bad
theorem asZ_kr {K : PySem.W.Frag} {F : Hp} {io : List Addr} : ∀ {kvs : List (List Key × D)} {zs : List (List Key × PyData)} {kws : List (List Key × V)}, asZ kvs = some zs → KR (Rp K F io) kws kvs → KR (Dq K F) kws zs
  | [], zs, _, h, r => by
    obtain rfl : [] = zs := Option.some.inj h
    cases r
    exact .nil
  | (k, .p d) :: kvs, zs, _, h, r => by
    have h : (asZ kvs).map ((k, d) :: ·) = some zs := h
    obtain ⟨ys, h1, rfl⟩ := Option.map_eq_some_iff.mp h
    cases r with
    | cons r1 r2 => exact .cons r1 (asZ_kr h1 r2)
  | (k, .own _) :: _, _, _, h, _ => by cases h
  | (k, .wld _ _) :: _, _, _, h, _ => by cases h
  | (k, .exn) :: _, _, _, h, _ => by cases h
  | (k, .scr _) :: _, _, _, h, _ => by cases h
  | (k, .dz _) :: _, _, _, h, _ => by cases h
  | (k, .fn _) :: _, _, _, h, _ => by cases h
  | (k, .err _ _) :: _, _, _, h, _ => by cases h
  | (k, .mix _) :: _, _, _, h, _ => by cases h
  | (k, .mtp _) :: _, _, _, h, _ => by cases h
theorem kr_keys {α : Type} {R : V → α → Prop} : ∀ {kws : List (List Key × V)} {kvs : List (List Key × α)}, KR R kws kvs → keysZ kws = keysZ kvs
  | _, _, .nil => rfl
  | _, _, .cons (a := p) (b := q) r t => by
    have e := kr_keys t
    unfold keysZ at e ⊢
    rw [List.map_cons, List.map_cons, e, r.1]
section
variable {K : PySem.W.Frag} {G F : Hp} {io : List Addr} {H : Hp} {S : Sto}
theorem dqa_kD : ∀ k : List Key, DqA K F (k.map kV) (k.map kD)
  | [] => .nil
  | .inl i :: r => .cons (Dq.int i) (dqa_kD r)
  | .inr x :: r => .cons (Dq.str x) (dqa_kD r)
theorem dq_key {b : Addr} {k : List Key} (h : F b = some (.tup (k.map kV))) : Dq K F (.ref b) (.tuple (k.map kD)) := .tup (.inl h) (dqa_kD k)
theorem Good.learnK (g : Good K G F io H S) : ∀ {kws : List (List Key × V)} {bs : List Addr}, IsKeys H kws bs → ∃ F1, Ext F io F1 io ∧ Good K G F1 io H S ∧ DqA K F1 (bs.map V.ref) (keysZ kws)
  | _, _, .nil => ⟨F, Ext.refl F io, g, .nil⟩
  | _, _, .cons h t => by
    obtain ⟨F1, e1, g1, r1⟩ := g.learnK t
    obtain ⟨F2, e2, g2, h2⟩ := g1.learn h
    exact ⟨F2, e1.trans e2, g2, .cons (dq_key h2) (dpa_mono e2.same _ _ r1)⟩
end
section
variable {X : Cx} {c : Cw} {e tg : Expr} {fa : FE}
theorem pe_lockA {t : TE} (h : PE X e t) : PE X e (fun σ H Q => t σ H fun v H1 => Q v H1 ∨ ∃ d u, H1 d = some u ∧ Mut (some u) ∧ ∀ od, Q v (upd H1 d (.frz od u))) :=
  ⟨fun pins s σ H Q I hw => thn (h.run pins s σ H _ I hw) fun v s1 ⟨x, H1, I1, r, q⟩ => by
    rcases q with q | ⟨d, u, hd, mu, q⟩
    · exact ⟨x, H1, I1, r, q⟩
    · obtain ⟨od, I2⟩ := I1.lock hd mu
      exact ⟨x, _, I2, r, q od⟩⟩
theorem itd_keys {F : Hp} {io : List Addr} {a : Addr} {od : Obj} {kws : List (List Key × V)} (hd : F a = some (.frz od (.dT kws))) : ItD c F io (Itkt a od kws) ((keysZ kws).map D.p) where
  go := fun i G H F1 io1 S1 hi e g => by
    have hi : i < kws.length := by simpa [keysZ] using hi
    refine ⟨⟨g.ex _ _ (e.same _ _ hd), hi⟩, fun x H1 ⟨e1, k, v, b, hk, ex, hb⟩ => ?_⟩
    subst e1
    subst ex
    obtain ⟨F2, e2, g2, h2⟩ := g.learn hb
    refine ⟨F2, e2, g2, .p (.tuple (k.map kD)), ?_, dq_key h2⟩
    unfold keysZ
    rw [List.getElem?_map, List.getElem?_map, hk]
    rfl
  stop := fun i G H F1 io1 S1 hi e g => ⟨g.ex _ _ (e.same _ _ hd), by simpa [keysZ] using hi⟩
theorem fi_keys (h : PE X e (tE c fa)) : PI X tg e (tI c (fItK fa)) := pi_imp (pi_keys (pe_lockA h)) fun σ H R ⟨G, F, io, S, ρ, gd, re, q⟩ => ⟨G, F, io, S, ρ, gd, re, Aft.step q fun d S1 v F1 i1 H1 e1 g1 r1 q1 => by
  have zed : ∀ {kvs : List (List Key × PyData)}, Rp c.K F1 i1 v (.dz kvs) → Aft c G F1 i1 σ (fun F' io' (J : It) (ds : List D) => ItD c F' io' J ds) R (.ok ((keysZ kvs).map D.p) S1) → ∃ d o, v = V.ref d ∧ ((∃ kvs, H1 d = some (.frz o (.dK kvs)) ∧ R (Itk d o kvs) H1) ∨ ∃ kvs, H1 d = some (.frz o (.dT kvs)) ∧ R (Itkt d o kvs) H1) := fun {kvs} r q => by
    obtain ⟨a, od, kws, ev, h1, h2⟩ := r
    refine ⟨a, od, ev, .inr ⟨kws, g1.ex _ _ h1, Aft.here q g1 ?_⟩⟩
    rw [← kr_keys h2]
    exact itd_keys h1
  have q1 : Aft c G F1 i1 σ (fun F' io' (J : It) (ds : List D) => ItD c F' io' J ds) R (itK d S1) := q1
  unfold itK at q1
  split at q1
  · exact .inl (zed r1 q1)
  · rename_i k _
    split at q1
    · rename_i zs hk
      obtain ⟨a, rfl, ia⟩ := r1
      obtain ⟨a', ia', oa⟩ := g1.at_ hk
      obtain rfl : a = a' := Option.some.inj (ia.symm.trans ia')
      exact .inl (zed oa.2 q1)
    · rename_i kvs hk
      split at q1
      · rename_i zs hz
        obtain ⟨a, rfl, ia⟩ := r1
        obtain ⟨a', ia', h0, kws, h1, h2⟩ := g1.at_ hk
        obtain rfl : a = a' := Option.some.inj (ia.symm.trans ia')
        refine .inr ⟨a, _, h1, True.intro, fun od => ⟨a, od, rfl, .inr ⟨kws, upd_same, ?_⟩⟩⟩
        have e2 : Same F1 (upd F1 a (.frz od (.dT kws))) := upd_one h0
        have kz := asZ_kr hz h2
        obtain ⟨g2, e3⟩ := g1.fix (o := .frz od (.dT kws)) (x := .fz (.dz zs)) ia h0 ⟨⟨_, upd_same⟩, a, od, kws, rfl, upd_same, Paired.mapP kz fun _ _ z => ⟨z.1, dp_mono e2 _ _ z.2⟩⟩
        refine q1 _ _ _ _ e3 g2 ?_
        rw [← kr_keys h2]
        exact itd_keys upd_same
      · exact q1.elim
    · exact q1.elim
  · exact q1.elim⟩
theorem bc_listD : BCall c (fun xs H Q => ∃ d kvs, xs = [V.ref d] ∧ Rd H d (.dT kvs) ∧ ∀ p bs, H p = none → IsKeys H kvs bs → Q (.ref p) (upd H p (.lst (bs.map V.ref)))) gListD := fun G F io H S σ xs ds Q gd r q => by
  unfold gListD at q
  split at q
  · cases r with
    | cons r1 r2 =>
      cases r2
      split at q
      · rename_i kvs hd
        obtain ⟨a, kws, rfl, h1, h2⟩ := dOf_ok gd r1 hd
        refine ⟨a, kws, rfl, h1, fun p bs hp hb => ?_⟩
        obtain ⟨F1, e1, g1, r3⟩ := gd.learnK hb
        obtain ⟨g2, e2⟩ := g1.new (o := .lst (bs.map V.ref)) hp
        refine q (.ref p) _ _ _ (e1.trans e2) g2 (.lst upd_same ?_)
        rw [← kr_keys h2]
        exact dpa_mono e2.same _ _ r3
      · exact q.elim
  · exact q.elim
/-! ### d.setdefault(k, v) -/
def rSdf : V → List V → Hp → VK → Prop := fun x xs H Q => ∃ (a : Addr) (kws : List (List Key × V)) (k : List Key) (b : Addr) (v : V), x = .ref a ∧ xs = [.ref b, v] ∧ H a = some (.dT kws) ∧ H b = some (.tup (k.map kV)) ∧ kws.length < sizeLine ∧
  (∀ z, valV kws k = some z → Q z H) ∧ (valV kws k = none → Q v (upd H a (.dT (putK kws k v))))
theorem mt_sdf (hu : X.A.units + 1 < cLine) : MtR X "dict.setdefault" rSdf := by
  intro pins s σ H x xs v us Q I rx rxs hw
  obtain ⟨a, kws, k, b, y, rfl, rfl, ha, hb, hl, here, fresh⟩ := hw
  cases rx
  obtain ⟨u1, u2, rfl, r1, r2⟩ := vals2 rxs
  cases r1
  obtain ⟨z, hd, ks, rel, dd⟩ := dt_of I.hok ha
  have hz : ks.length ≤ sizeLine := Paired.length rel ▸ z
  have look := rel.val k
  refine call_meetsIn PySem.F.slot_dict_setdefault dd.typeIs PySem.F.entry_dict_setdefault (PySem.F.args_dict_setdefault_3 _ _ _) (meetsH_dict_setdefault (tupleKind (mixKind X.prog X.w)) a b hd u2)
    ⟨tupleKind_room_in1 hu, k, ks, key_of I.hok hb, dd, hz, fun p hp => ?_, fun hn h' dd' hs => ?_⟩
  · rw [hp] at look
    cases ev : valV kws k with
    | none => rw [ev] at look; exact (show False from look).elim
    | some w0 =>
      rw [ev] at look
      exact (show EP X pins σ Q p.2 _ from ⟨w0, H, I.tok _, look, here w0 ev⟩)
  · rw [hn] at look
    have ev : valV kws k = none := by
      cases ev : valV kws k with
      | none => rfl
      | some w0 => rw [ev] at look; exact (show False from look).elim
    have hl2 : (putK kws k y).length ≤ sizeLine := by
      have := length_putK kws k y
      omega
    obtain ⟨od, es, ep, hq, h2, h3, h4, _, h5⟩ := dd'
    have I2 : Inv X pins σ (upd H a (.dT (putK kws k y))) { s with heap := h', toks := s.toks + (tupleKind (mixKind X.prog X.w)).draws k } :=
      d_write I (ha ▸ True.intro) hs ⟨od, hq⟩ ⟨hl2, hd, _, KT.keeps (rel.put k hb r2) fun b' ys eb => (upd_ne (ne_of eb ha fun w => nomatch w)).trans eb, od, es, ep, hq, h2, h3, h4, h5⟩
    exact (show EP X pins σ Q u2 _ from ⟨y, _, I2, r2, fresh ev⟩)
def sdfS (n : Nat) (ds : List D) (S : Sto) : Res D := match ds with
  | [y, v] => match S[n]?, keyI y with
    | some (.dic kvs), some k => if kvs.length < lim then (match valG kvs k with
      | some w => .ok w S
      | none => .ok v (S.set n (.dic (putG kvs k v)))) else .bad
    | _, _ => .bad
  | _ => .bad
def fSdf (fo : FE) (fr : FA) : FE := fun ρ S => (fo ρ S).bind fun o S1 => match o with
  | .own n => match S1[n]? with
    | some (.dic _) => (fr ρ S1).bind fun ds S2 => sdfS n ds S2
    | _ => .bad
  | _ => .bad
theorem fe_sdf {o : Expr} {es : List Expr} {fo : FE} {fr : FA} (h : ∀ {to : TE} {t : TA}, PE X o to → PA X es t → PE X e (tBM c.K "dict" rSdf to t)) (ho : PE X o (tE c fo)) (ha : PA X es (tA c fr)) : PE X e (tE c (fSdf fo fr)) :=
  pe_imp (h ho ha) fun σ H Q ⟨G, F, io, S, ρ, gd, re, q⟩ => ⟨G, F, io, S, ρ, gd, re, Aft.step q fun o S1 v1 F1 i1 H1 e1 g1 r1 q1 => by
    cases o with
    | own n =>
      have q1 : Aft c G F1 i1 σ (rp c) Q (match S1[n]? with
        | some (.dic _) => (fr ρ S1).bind fun ds S2 => sdfS n ds S2
        | _ => .bad) := q1
      split at q1
      · rename_i kvs0 hk
        obtain ⟨a, rfl, ia⟩ := r1
        obtain ⟨a', ia', h0, kws, h1, h2⟩ := g1.at_ hk
        obtain rfl : a = a' := Option.some.inj (ia.symm.trans ia')
        refine ⟨.inr (.inr (.inl ⟨rfl, .inr ⟨kws, h1⟩⟩)), G, F1, i1, S1, ρ, g1, renv_mono e1 re, Aft.step q1 fun ds S2 us F2 i2 H2 e2 g2 r2 q2 => ?_⟩
        unfold sdfS at q2
        split at q2
        · rename_i y v
          split at q2
          · rename_i kvs k hk2 hy
            split at q2
            · rename_i hl
              obtain ⟨a', ia', h0', kws', h1', h2'⟩ := g2.at_ hk2
              obtain rfl : a = a' := Option.some.inj ((e2.ix ia).symm.trans ia')
              cases r2 with
              | cons s1 s2 =>
                cases s2 with
                | cons s3 s4 =>
                  cases s4
                  obtain ⟨b, rfl, hb⟩ := key_at s1 hy
                  obtain ⟨z1, z2⟩ := kr_val h2' k
                  refine ⟨a, kws', k, b, _, rfl, rfl, h1', g2.ex _ _ hb, ?_, fun z hz => ?_, fun hz => ?_⟩
                  · have := paired_len h2'
                    have := lim_lt_line
                    omega
                  · cases hv : valG kvs k with
                    | none =>
                      rw [z2 hv] at hz
                      cases hz
                    | some w =>
                      rw [hv] at q2
                      obtain ⟨z', hz', rz⟩ := z1 w hv
                      rw [hz] at hz'
                      obtain rfl := Option.some.inj hz'
                      exact Aft.here (v := z) q2 g2 rz
                  · cases hv : valG kvs k with
                    | none =>
                      rw [hv] at q2
                      exact q2 _ _ _ _ (Ext.refl _ _) (g2.put (e2.ix ia) h0' ⟨h0', _, upd_same, kr_put h2' k s3⟩) s3
                    | some w =>
                      obtain ⟨z', hz', _⟩ := z1 w hv
                      rw [hz] at hz'
                      cases hz'
            · exact q2.elim
          · exact q2.elim
        · exact q2.elim
      · exact q1.elim
    | _ => exact q1.elim⟩
end
end Tw
namespace Tw
open PySem PySem.Spec PyProof.Rows L2

/-! ### sorted(..) of pairs of small ints -/
def okP : PyData → Bool
  | .tuple [.int i, .int j] => decide (0 ≤ i) && (decide (i < 64) && (decide (0 ≤ j) && decide (j < 64)))
  | _ => false
def rkP : PyData → Int
  | .tuple [.int i, .int j] => i * 64 + j
  | _ => 0
def insP (p : PyData) : List PyData → List PyData
  | [] => [p]
  | x :: r => if rkP p ≤ rkP x then p :: x :: r else x :: insP p r
def srtP : List PyData → List PyData
  | [] => []
  | p :: r => insP p (srtP r)
theorem okP_shape {p : PyData} (h : okP p = true) : ∃ i j : Int, p = .tuple [.int i, .int j] ∧ 0 ≤ i ∧ i < 64 ∧ 0 ≤ j ∧ j < 64 := by
  unfold okP at h
  split at h
  · rename_i i j
    simp only [Bool.and_eq_true, decide_eq_true_eq] at h
    exact ⟨i, j, rfl, h.1, h.2.1, h.2.2.1, h.2.2.2⟩
  · cases h
theorem rkP_inj {p q : PyData} (hp : okP p = true) (hq : okP q = true) (e : rkP p = rkP q) : p = q := by
  obtain ⟨i, j, rfl, h1, h2, h3, h4⟩ := okP_shape hp
  obtain ⟨k, l, rfl, g1, g2, g3, g4⟩ := okP_shape hq
  have e : i * 64 + j = k * 64 + l := e
  have e1 : i = k := by omega
  have e2 : j = l := by omega
  rw [e1, e2]
theorem insP_perm (p : PyData) : ∀ l : List PyData, (insP p l).Perm (p :: l)
  | [] => .refl _
  | x :: r => by
    unfold insP
    split
    · exact .refl _
    · exact ((insP_perm p r).cons x).trans (.swap p x r)
theorem srtP_perm : ∀ l : List PyData, (srtP l).Perm l
  | [] => .refl _
  | p :: r => (insP_perm p (srtP r)).trans ((srtP_perm r).cons p)
theorem insP_up (p : PyData) : ∀ {l : List PyData}, l.Pairwise (fun x y => rkP x ≤ rkP y) → (insP p l).Pairwise (fun x y => rkP x ≤ rkP y)
  | [], _ => List.pairwise_singleton _ _
  | x :: r, h => by
    obtain ⟨h1, h2⟩ := List.pairwise_cons.mp h
    unfold insP
    split
    · rename_i hl
      exact List.pairwise_cons.mpr ⟨fun y hy => by
        rcases List.mem_cons.mp hy with rfl | hy
        · exact hl
        · exact Int.le_trans hl (h1 y hy), h⟩
    · rename_i hl
      refine List.pairwise_cons.mpr ⟨fun y hy => ?_, insP_up p h2⟩
      rcases List.mem_cons.mp ((insP_perm p r).mem_iff.mp hy) with rfl | hy
      · omega
      · exact h1 y hy
theorem srtP_up : ∀ l : List PyData, (srtP l).Pairwise (fun x y => rkP x ≤ rkP y)
  | [] => .nil
  | p :: r => insP_up p (srtP_up r)
theorem srt_only : ∀ {l m : List PyData}, l.Perm m → (∀ p ∈ l, okP p = true) → l.Pairwise (fun x y => rkP x ≤ rkP y) → m.Pairwise (fun x y => rkP x ≤ rkP y) → l = m
  | [], m, h, _, _, _ => by rw [List.nil_perm.mp h]
  | p :: l, [], h, _, _, _ => by
    have := h.length_eq
    simp at this
  | p :: l, q :: m, h, ok, h1, h2 => by
    obtain ⟨a1, a2⟩ := List.pairwise_cons.mp h1
    obtain ⟨b1, b2⟩ := List.pairwise_cons.mp h2
    have pq : p = q := by
      have hp : p ∈ q :: m := h.mem_iff.mp List.mem_cons_self
      have hq : q ∈ p :: l := h.mem_iff.mpr List.mem_cons_self
      have l1 : rkP q ≤ rkP p := by
        rcases List.mem_cons.mp hp with rfl | hp
        · exact Int.le_refl _
        · exact b1 p hp
      have l2 : rkP p ≤ rkP q := by
        rcases List.mem_cons.mp hq with rfl | hq
        · exact Int.le_refl _
        · exact a1 q hq
      exact rkP_inj (ok p List.mem_cons_self) (ok q hq) (Int.le_antisymm l2 l1)
    subst pq
    rw [srt_only h.cons_inv (fun x hx => ok x (List.mem_cons_of_mem _ hx)) a2 b2]
theorem dqa_perm {K : PySem.W.Frag} {F : Hp} {xs ys : List V} (h : ys.Perm xs) : ∀ {ps : List PyData}, DqA K F xs ps → ∃ qs, qs.Perm ps ∧ DqA K F ys qs := by
  induction h with
  | nil => intro ps r; exact ⟨ps, .refl _, r⟩
  | cons x _ ih =>
    intro ps r
    cases r with
    | cons r1 r2 =>
      obtain ⟨qs, h1, h2⟩ := ih r2
      exact ⟨_ :: qs, h1.cons _, .cons r1 h2⟩
  | swap x y l =>
    intro ps r
    cases r with
    | cons r1 r2 =>
      cases r2 with
      | cons r3 r4 => exact ⟨_, .swap _ _ _, .cons r3 (.cons r1 r4)⟩
  | trans _ _ ih1 ih2 =>
    intro ps r
    obtain ⟨qs, h1, h2⟩ := ih2 r
    obtain ⟨qs2, h3, h4⟩ := ih1 h2
    exact ⟨qs2, h3.trans h1, h4⟩
section
variable {X : Cx} {c : Cw}
theorem tupI_of {K : PySem.W.Frag} {F H : Hp} (e : Same F H) {x : V} {p : PyData} (r : Dq K F x p) (h : okP p = true) : ∃ ns, TupI K H x ns ∧ ns.length = 2 ∧ TS.Bd 64 ns ∧ TS.code 64 ns = rkP p := by
  obtain ⟨i, j, rfl, h1, h2, h3, h4⟩ := okP_shape h
  cases r with
  | @tup a xs _ hx ha =>
    cases ha with
    | cons z1 z2 =>
      cases z1
      cases z2 with
      | cons z3 z4 =>
        cases z3
        cases z4
        refine ⟨[i, j], ⟨a, rfl, sq_t e hx.sq⟩, rfl, fun m hm => ?_, code_pair i j⟩
        rcases List.mem_cons.mp hm with rfl | hm
        · exact ⟨h1, h2⟩
        · obtain rfl := List.mem_singleton.mp hm
          exact ⟨h3, h4⟩
theorem up_of {K : PySem.W.Frag} {F H : Hp} (e : Same F H) : ∀ {ys : List V} {qs : List PyData}, DqA K F ys qs → (∀ p ∈ qs, okP p = true) → ys.Pairwise (fun x y => ∀ n m, TupI K H x n → TupI K H y m → TS.code 64 n ≤ TS.code 64 m) → qs.Pairwise (fun x y => rkP x ≤ rkP y)
  | [], _, r, _, _ => by
    cases r
    exact .nil
  | y :: ys, _, r, ok, h => by
    cases r with
    | @cons _ _ d ds r1 r2 =>
      obtain ⟨h1, h2⟩ := List.pairwise_cons.mp h
      refine List.pairwise_cons.mpr ⟨fun q hq => ?_, up_of e r2 (fun p hp => ok p (List.mem_cons_of_mem _ hp)) h2⟩
      obtain ⟨i, hi⟩ := List.getElem?_of_mem hq
      obtain ⟨v, hv, rv⟩ := dpa_get _ _ i q r2 hi
      obtain ⟨n, t1, _, _, e1⟩ := tupI_of e r1 (ok d List.mem_cons_self)
      obtain ⟨m, t2, _, _, e2⟩ := tupI_of e rv (ok q (List.mem_cons_of_mem _ hq))
      have := h1 v (List.mem_of_getElem? hv) n m t1 t2
      rw [e1, e2] at this
      exact this
def gSrtL : List D → Sto → Res D := fun ds S => match ds with
  | [.p (.list ps)] => if (ps.all okP && decide (ps.length < 64)) = true then .ok (.p (.list (srtP ps))) S else .bad
  | _ => .bad
theorem bc_srtL : BCall c (rSortU c.K 2 64) gSrtL := fun G F io H S σ xs ds Q gd r q => by
  unfold gSrtL at q
  split at q
  · rename_i ps
    split at q
    · rename_i hk
      rw [Bool.and_eq_true, List.all_eq_true] at hk
      cases r with
      | cons r1 r2 =>
        cases r2
        cases r1 with
        | @lst a vs _ hx ha =>
          have hl := dpa_len _ _ ha
          refine ⟨a, vs, rfl, SqL.of (gd.ex _ _ hx), by have := of_decide_eq_true hk.2; omega, fun x hx => ?_, fun ys p hp hu hn => ?_⟩
          · obtain ⟨i, hi⟩ := List.getElem?_of_mem hx
            have hlt : i < ps.length := by
              have := (List.getElem?_eq_some_iff.mp hi).1
              omega
            obtain ⟨v, hv, rv⟩ := dpa_get _ _ i ps[i] ha (List.getElem?_eq_getElem hlt)
            rw [hi] at hv
            obtain rfl := Option.some.inj hv
            obtain ⟨ns, t1, t2, t3, _⟩ := tupI_of gd.ex rv (hk.1 _ (List.getElem_mem hlt))
            exact ⟨ns, t1, t2, t3⟩
          · obtain ⟨qs, hq, rq⟩ := dqa_perm hp ha
            have okq : ∀ p ∈ qs, okP p = true := fun p hp => hk.1 p (hq.mem_iff.mp hp)
            have e : qs = srtP ps := srt_only (hq.trans (srtP_perm ps).symm) okq (up_of gd.ex rq okq hu) (srtP_up ps)
            obtain ⟨g2, e2⟩ := gd.new (o := .lst ys) hn
            rw [← e] at q
            exact q (.ref p) _ _ _ e2 g2 (.lst upd_same (dpa_mono e2.same _ _ rq))
    · exact q.elim
  · exact q.elim
/-! ### sorted(d) of a dict with such keys -/
def rSrtT (K : PySem.W.Frag) : List V → Hp → VK → Prop := fun vs H Q => ∃ (a : Addr) (kws : List (List Key × V)), vs = [V.ref a] ∧ Rd H a (.dT kws) ∧ kws.length < 64 ∧ (∀ q ∈ kws, ∃ ns : List Int, q.1 = ns.map Sum.inl ∧ ns.length = 2 ∧ TS.Bd 64 ns) ∧
  ∀ (bs : List Addr) (ys : List V) (p : Addr), IsKeys H kws bs → ys.Perm (bs.map V.ref) → ys.Pairwise (fun x y => ∀ n m, TupI K H x n → TupI K H y m → TS.code 64 n ≤ TS.code 64 m) → H p = none → Q (.ref p) (upd H p (.lst ys))
theorem inl_map : ∀ ns : List Int, (ns.map (Sum.inl : Int → Key)).map kV = ns.map V.int
  | [] => rfl
  | n :: ns => by
    rw [List.map_cons, List.map_cons, List.map_cons, inl_map ns]
    rfl
def adOf : Value → Addr
  | .ref a => a
  | _ => 0
theorem ad_map : ∀ cs : List Addr, (cs.map Value.ref).map adOf = cs
  | [] => rfl
  | a :: cs => by
    rw [List.map_cons, List.map_cons, ad_map cs]
    rfl
theorem refs_bk : ∀ {us : List Value} {bs : List Addr}, us.Perm (bs.map Value.ref) → ∃ cs : List Addr, us = cs.map Value.ref ∧ cs.Perm bs := by
  have all : ∀ {us : List Value}, (∀ u ∈ us, ∃ a, u = Value.ref a) → ∃ cs : List Addr, us = cs.map Value.ref := by
    intro us
    induction us with
    | nil => intro _; exact ⟨[], rfl⟩
    | cons u us ih =>
      intro h
      obtain ⟨a, rfl⟩ := h u List.mem_cons_self
      obtain ⟨cs, rfl⟩ := ih fun v hv => h v (List.mem_cons_of_mem _ hv)
      exact ⟨a :: cs, rfl⟩
  intro us bs h
  obtain ⟨cs, rfl⟩ := all fun u hu => by
    obtain ⟨b, _, e⟩ := List.mem_map.mp (h.mem_iff.mp hu)
    exact ⟨b, e.symm⟩
  refine ⟨cs, rfl, ?_⟩
  have h2 := h.map adOf
  rw [ad_map, ad_map] at h2
  exact h2
theorem call_srtT (hc : X.calm = true) : CallR X (.builtin "sorted") (rSrtT X.K) := by
  intro pins s σ H vs us Q I r hw
  obtain ⟨a, kws, rfl, hd, h64, hk, q⟩ := hw
  rw [Vals.ref1 r]
  obtain ⟨z, lo, ks, pr, o, es, ep, ho, hx, hdt, he, hn⟩ := (show ObjOk X.prog X.w H s.heap a (.dT kws) from hd.ok I.hok)
  have n1 : es.size = ks.length := size_of_entries he
  have n2 : kws.length = ks.length := Paired.length pr
  refine Calls.call_function_entry kind_sorted plain_sorted entry_sorted (args_sorted1 _) ?_
  unfold Builtin.«sorted»
  refine wpAny_bind (m := checkCount "sorted" 1 1 _) (wpAny_pure ?_)
  refine wpAny_bind (PySem.W.kdu_collect (A := X.A.in1) (kdl_raw lo hx hdt) (I.ok.hd hc) ho (by omega) fun h1 tk acc stay its => ?_)
  generalize hL : acc.toList = L
  have bs : L = (ks.map fun x => x.2.1).map Value.ref := by
    rw [← hL, List.map_map]
    refine List.ext_getElem? fun j => ?_
    rw [List.getElem?_map]
    cases hb : ks[j]? with
    | none =>
      have : ks.length ≤ j := List.getElem?_eq_none_iff.mp hb
      rw [List.getElem?_eq_none (by rw [Array.length_toList, its.1]; omega)]
      rfl
    | some b =>
      have hj : j < acc.size := by
        have := (List.getElem?_eq_some_iff.mp hb).1
        rw [its.1]
        omega
      obtain ⟨en, hen, hv⟩ := its.2 j acc[j] (Array.getElem?_eq_getElem hj)
      have ent := entry_at he j
      rw [hen, hb] at ent
      have ent : en = entryOfKey (tupleKind (mixKind X.prog X.w)) b := Option.some.inj ent
      rw [Array.getElem?_toList, Array.getElem?_eq_getElem hj, hv, ent]
      rfl
  have kys := isKeys_of pr
  have hLl : L.length < 64 := by
    rw [bs, List.length_map, List.length_map]
    omega
  have I1 : Inv X pins σ H { s with heap := h1, toks := tk } := I.kept stay
  refine wpAny_bind (wpAny_newList ?_ (by rw [sizeLine_eq]; omega))
  have hlst : (h1.push (seqObj "list" L.toArray 0)).get? h1.objs.size = some (seqObj "list" L.toArray 0) := Heap.get?_push_size _ rfl
  have I2 : Inv X pins σ H { s with heap := h1.push (seqObj "list" L.toArray 0), toks := tk } := I.kept fun b u e => Heap.get?_push_of_some _ (stay b u e)
  have mem : ∀ {b : Addr}, b ∈ (ks.map fun x => x.2.1) → ∃ ns, SqT X.K H b (ns.map V.int) ∧ ns.length = 2 ∧ TS.Bd 64 ns := fun {b} hb => by
    obtain ⟨i, hi⟩ := List.getElem?_of_mem hb
    obtain ⟨p, hp, hh⟩ := paired_at2 (R := fun (p : List Key × V) b => H b = some (.tup (p.1.map kV))) kys hi
    obtain ⟨ns, en, l2, bd⟩ := hk p (List.mem_of_getElem? hp)
    have hh : H b = some (.tup (p.1.map kV)) := hh
    rw [en, inl_map] at hh
    exact ⟨ns, SqT.of hh, l2, bd⟩
  have oks : TS.TupsOk (h1.push (seqObj "list" L.toArray 0)) 2 64 L := fun v hv => by
    rw [bs] at hv
    obtain ⟨b, hb, rfl⟩ := List.mem_map.mp hv
    obtain ⟨ns, t, l2, bd⟩ := mem hb
    exact ⟨ns, tupI_raw I2 t, l2, bd⟩
  show wpAny _ _ _ _ _ { s with heap := h1.push (seqObj "list" L.toArray 0), toks := tk }
  refine wpAny_bind (wpAny_holding (wpAny_call_entry slot_list_sort ⟨_, hlst, rfl⟩ entry_list_sort (TS.sort_tups (s := { s with heap := h1.push (seqObj "list" L.toArray 0), toks := tk }) hlst hLl (by decide) oks
    (fun v => TS.code 64 (TS.intsOf (h1.push (seqObj "list" L.toArray 0)) v)) (fun v _ ns t => by
      show TS.code 64 (TS.intsOf (h1.push (seqObj "list" L.toArray 0)) v) = TS.code 64 ns
      rw [t.ints]) fun out o1 o2 => ⟨_, rfl, ?_⟩) (args_list_sort _)))
  rw [bs] at o1
  obtain ⟨cs, ec, pc⟩ := refs_bk o1
  obtain ⟨ep2, at2⟩ := sortedHeap_at (vs := L) (out := out) hlst
  have hz : (cs.map V.ref).length ≤ sizeLine := by
    rw [List.length_map, pc.length_eq, List.length_map, sizeLine_eq]
    omega
  refine wpAny_pure ⟨_, rfl, .ref h1.objs.size, upd H h1.objs.size (.lst (cs.map V.ref)), I1.laid (t' := tk) (fun b u eb => ?_) (Nat.le_refl _) ⟨hz, out.toList, ep2, by rw [ec]; exact vals_refs cs, by rw [Array.toArray_toList]; exact at2⟩, rfl,
    q _ _ _ kys (pc.map V.ref) ?_ (I1.hok.fresh (Nat.le_refl _))⟩
  · have lt : b < h1.objs.size := Heap.lt_size eb
    rw [sortedHeap_old (Nat.ne_of_lt lt) (by rw [size_push']; exact Nat.lt_succ_of_lt lt)]
    exact Heap.get?_push_of_some _ eb
  · rw [ec, List.pairwise_map] at o2
    rw [List.pairwise_map]
    refine o2.imp fun {x y} hxy n m tn tm => ?_
    obtain ⟨t1, e1, s1⟩ := tn
    obtain ⟨t2, e2, s2⟩ := tm
    cases e1
    cases e2
    have hxy : TS.code 64 (TS.intsOf (h1.push (seqObj "list" L.toArray 0)) (.ref x)) ≤ TS.code 64 (TS.intsOf (h1.push (seqObj "list" L.toArray 0)) (.ref y)) := hxy
    rw [(tupI_raw I2 s1).ints, (tupI_raw I2 s2).ints] at hxy
    exact hxy
def gSrtT : List D → Sto → Res D := fun ds S => match ds with
  | [d] => match dOf d S with
    | some kvs => if ((keysZ kvs).all okP && decide (kvs.length < 64)) = true then .ok (.p (.list (srtP (keysZ kvs)))) S else .bad
    | none => .bad
  | _ => .bad
theorem key_ints : ∀ {k : List Key}, okP (.tuple (k.map kD)) = true → ∃ ns : List Int, k = ns.map Sum.inl ∧ ns.length = 2 ∧ TS.Bd 64 ns := fun {k} h => by
  obtain ⟨i, j, e, h1, h2, h3, h4⟩ := okP_shape h
  have e := PyData.tuple.inj e
  match k, e with
  | [.inl a, .inl b], e =>
    simp only [List.map_cons, List.map_nil, kD, List.cons.injEq, PyData.int.injEq, and_true] at e
    refine ⟨[a, b], rfl, rfl, fun m hm => ?_⟩
    rcases List.mem_cons.mp hm with rfl | hm
    · omega
    · obtain rfl := List.mem_singleton.mp hm
      omega
  | [.inl a, .inr b], e => simp [kD] at e
  | [.inr a, _], e => simp [kD] at e
  | [], e => simp at e
  | [_], e => simp at e
  | _ :: _ :: _ :: _, e => simp at e
theorem bc_srtT : BCall c (rSrtT c.K) gSrtT := fun G F io H S σ xs ds Q gd r q => by
  unfold gSrtT at q
  split at q
  · cases r with
    | cons r1 r2 =>
      cases r2
      split at q
      · rename_i kvs hd
        split at q
        · rename_i hk
          rw [Bool.and_eq_true, List.all_eq_true] at hk
          obtain ⟨a, kws, rfl, h1, h2⟩ := dOf_ok gd r1 hd
          have hz := kr_keys h2
          refine ⟨a, kws, rfl, h1, by have := of_decide_eq_true hk.2; have := paired_len h2; omega, fun p hp => ?_, fun bs ys p hb hp hu hn => ?_⟩
          · refine key_ints (hk.1 _ ?_)
            rw [← hz]
            exact List.mem_map.mpr ⟨p, hp, rfl⟩
          · obtain ⟨F1, e1, g1, r3⟩ := gd.learnK hb
            rw [hz] at r3
            obtain ⟨qs, hq, rq⟩ := dqa_perm hp r3
            have okq : ∀ p ∈ qs, okP p = true := fun p hp => hk.1 p (hq.mem_iff.mp hp)
            have e : qs = srtP (keysZ kvs) := srt_only (hq.trans (srtP_perm _).symm) okq (up_of g1.ex rq okq hu) (srtP_up _)
            obtain ⟨g2, e2⟩ := g1.new (o := .lst ys) hn
            rw [← e] at q
            exact q (.ref p) _ _ _ (e1.trans e2) g2 (.lst upd_same (dpa_mono e2.same _ _ rq))
        · exact q.elim
      · exact q.elim
  · exact q.elim
end
end Tw
namespace Tw
open PySem PySem.Spec PyProof.Rows L2

/-! ### {k: v for target in iter}, the keys pairs -/
def dzPut (D : Addr) (Nx : Hp → Prop) (y z : V) (H : Hp) : Prop := ∃ kws k b, y = .ref b ∧ H b = some (.tup (k.map kV)) ∧ H D = some (.dT kws) ∧ kws.length < sizeLine ∧ Nx (upd H D (.dT (putK kws k z)))
def DzTurn (J : It) (g : TG) (tk tv : TE) (σw : L2.St) (vs : List Nat) (D : Addr) (Fin : Hp → Prop) (W : Nat → Nat → Hp → Prop) : Prop :=
  ∀ i m H, W i m H → (J.stop i H ∧ Fin H) ∨ (J.go i H ∧ ∃ Nx : Hp → Prop, (∀ H1, Nx H1 → ∃ m1, m1 < m ∧ W (i + 1) m1 H1) ∧
    ∀ x H1, J.yld i H x H1 → g x σw H1 fun σ2 H2 => wipe σ2 vs = σw ∧ tk σ2 H2 fun y H3 => tv σ2 H3 fun z H4 => dzPut D Nx y z H4)
def tDz (wi : TI) (g : TG) (tk tv : TE) (vs : List Nat) : TE := fun σ H Q => wi σ H fun J H1 => ∀ D, H1 D = none → ∃ W : Nat → Nat → Hp → Prop, (∃ m, W 0 m (upd H1 D (.dT []))) ∧ DzTurn J g tk tv (wipe σ vs) vs D (fun H2 => Q (.ref D) H2) W
section
variable {X : Cx} {pins : List (Addr × Obj)} {σ : L2.St} {H : Hp} {s : Shared}
theorem put_dz {D : Addr} {Nx : Hp → Prop} {y z : V} {u r : Value} {E : Value → Shared → Prop} {Q : Unit → Shared → Prop} (hu : X.A.units + 1 < cLine) (I : Inv X pins σ H s) (p : dzPut D Nx y z H) (ry : RelV y u) (rz : RelV z r)
    (q : ∀ s1 H1, Inv X pins σ H1 s1 → Nx H1 → Q () s1) : wpAny (model X.prog X.w) X.A (dictSet D u r) Q E s := by
  obtain ⟨kws, k, b, rfl, hb, hD, hl, nx⟩ := p
  obtain rfl : u = Value.ref b := ry
  obtain ⟨zz, lo, xs, rel, dd⟩ := dt_of I.hok hD
  have hl2 := length_putK kws k z
  have room : (tupleKind (mixKind X.prog X.w)).room X.A := by
    show X.A.units < cLine
    omega
  refine wpAny_dictSet_heap (hsz := Paired.length rel ▸ zz) room (key_of I.hok hb) dd fun h1 dd1 sb => q _ _ ?_ nx
  obtain ⟨od, es, ep, e1, e2, e3, e4, _, e6⟩ := dd1
  exact d_write I (hD ▸ True.intro) sb ⟨od, e1⟩ ⟨Nat.le_trans hl2 hl, lo, _, KT.keeps (rel.put k hb rz) fun c ys ec => (upd_ne (ne_of ec hD fun w => nomatch w)).trans ec, od, es, ep, e1, e2, e3, e4, e6⟩
theorem wipe_back {σ τ : L2.St} {vs : List Nat} (h : wipe σ vs = τ) : τ.length = σ.length ∧ ∀ (i : Nat) (v : V), τ[i]? = some (some v) → σ[i]? = some (some v) := by
  subst h
  exact ⟨wipe_length σ vs, fun i v e => (wipe_some e).1⟩
/-- the loop of the block -/
theorem dz_loop {Y : Cx} {tg kx vx iter : Expr} {scope : Scope} {pos : Pos} {it D : Addr} {fp : List Addr} {tn : Nat → Heap → Prop} {J : It} {g : TG} {tk tv : TE} {τ : L2.St} {vs : List Nat} {W : Nat → Nat → Hp → Prop} {Fin : Hp → Prop} {R : Result → Shared → Prop}
    (dry : Y.xe = fun _ _ => False) (hc : Y.calm = true) (hu : Y.A.units + 1 < cLine) (T : Turn Y.prog Y.w Y.K tg J fp it tn) (pg : PG Y tg g) (pk : PE Y kx tk) (pv : PE Y vx tv) (tu : DzTurn J g tk tv τ vs D Fin W)
    (stay : ∀ {σ2 : L2.St} {H2 : Hp} {s2 : Shared}, Inv Y [] σ2 H2 s2 → (∀ b ∈ fp, H2 b = none) → ∀ b ∈ fp, FpOk Y [] H2 b)
    (out : ∀ s2 H2, Inv Y [] τ H2 s2 → Fin H2 → R (.ok .next) s2) {m0 : Nat} {H0 : Hp} {s0 : Shared} (I0 : Inv Y [] τ H0 s0) (t0 : tn 0 s0.heap) (n0 : ∀ b ∈ fp, H0 b = none) (w0 : W 0 m0 H0) :
    codeAny (model Y.prog Y.w) Y.A (.compLoop (.DictComp kx vx [⟨tg, iter, [], 0⟩] scope pos) 0 (.ref it) (.ref D) Y.env) R s0 := by
  have lift : ∀ {α : Type} {t : Sem α} {Q1 Q2 : α → Shared → Prop} {E : Value → Shared → Prop} {s1 : Shared}, wpAny (model Y.prog Y.w) Y.A t Q1 Y.xe s1 → (∀ a s2, Q1 a s2 → Q2 a s2) → wpAny (model Y.prog Y.w) Y.A t Q2 E s1 := fun {α t Q1 Q2 E s1} h q => by
    rw [dry] at h
    exact thnF h q
  refine compLoop_anyD (fun n s1 => ∃ i H1, Inv Y [] τ H1 s1 ∧ tn i s1.heap ∧ (∀ b ∈ fp, H1 b = none) ∧ W i n H1) (fun n s1 ⟨i, H1, I1, t1, n1, w1⟩ => ?_) m0 ⟨0, H0, I0, t0, n0, w0⟩
  rcases tu i n H1 w1 with ⟨end1, fin1⟩ | ⟨go1, Nx, back, one⟩
  · refine lift (T.done Y rfl rfl rfl hc i [] s1 τ H1 Y.xe I1 (stay I1 n1) t1 end1) fun r s2 ⟨e, I2⟩ => ?_
    subst e
    exact out s2 H1 I2 fin1
  refine lift (T.item Y rfl rfl rfl hc i [] s1 τ H1 Y.xe I1 (stay I1 n1) t1 go1) fun r s2 ⟨u, e, more⟩ => ?_
  subst e
  refine lift more fun _ s3 ⟨x, H3, I3, rx, yx, t3, n3⟩ => ?_
  have P3 := I3.pinned (stay I3 n3) (T.obj _ _ t3)
  refine lift (pg.run _ s3 _ H3 x u _ P3 rx (one x H3 yx)) fun _ s4 ⟨σ4, H4, I4, w4, q4⟩ => ?_
  rw [List.forIn_nil]
  refine wpAny_pure ?_
  show wpAny _ _ _ _ _ s4
  refine lift (pk.run _ s4 σ4 H4 _ I4 q4) fun ku s5 ⟨y, H5, I5, ry, q5⟩ => lift (pv.run _ s5 σ4 H5 _ I5 q5) fun vu s6 ⟨z, H6, I6, rz, q6⟩ => put_dz hu I6 q6 ry rz fun s7 H7 I7 nx => ?_
  obtain ⟨m1, lt1, w7⟩ := back H7 nx
  obtain ⟨hl, hb⟩ := wipe_back w4
  have same : ∀ b ∈ fp, ∀ ob, s3.heap.get? b = some ob → s7.heap.get? b = some ob ∧ H7 b = none := fun b m ob e => by
    have pin := I7.pin (b, ob) (List.mem_append_right _ (List.mem_append_right _ (mem_pinsAt m e)))
    exact ⟨pin.1, pin.2.1⟩
  refine ⟨m1, lt1, i + 1, H7, I7.unpinned.weak hl hb, T.keep _ _ _ t3 fun b m ob e => (same b m ob e).1, fun b m => ?_, w7⟩
  obtain ⟨ob, e, _⟩ := T.obj _ _ t3 b m
  exact (same b m ob e).2
theorem pe_dz {kx vx tg iter : Expr} {scope : Scope} {own : List (Str × Nat)} {pos : Pos} {wi : TI} {g : TG} {tk tv : TE} (hc : X.calm = true) (hu : X.A.units + 1 < cLine) (hN : X.N.Nodup) (hi : PI X tg iter wi) (ok : BlkOk X.N X.env.scope scope own)
    (hg : ∀ (s : Shared) (H : Hp) (C : Addr) (cl : List (Str × Addr)) (fp : List Addr), PG (X.blk s H scope (compEnvC scope cl C X.env) fp) tg g)
    (hk : ∀ (s : Shared) (H : Hp) (C : Addr) (cl : List (Str × Addr)) (fp : List Addr), PE (X.blk s H scope (compEnvC scope cl C X.env) fp) kx tk)
    (hv : ∀ (s : Shared) (H : Hp) (C : Addr) (cl : List (Str × Addr)) (fp : List Addr), PE (X.blk s H scope (compEnvC scope cl C X.env) fp) vx tv) (hs : ∀ x, foldedSetIterable iter X.env x = pure x := by intro _; rfl) :
    PE X (.DictComp kx vx [⟨tg, iter, [], 0⟩] scope pos) (tDz wi g tk tv (own.map (·.2))) := by
  refine ⟨fun pins s σ H Q I hw => ?_⟩
  rw [arm_eval_DictComp]
  have cells : ∀ y ∈ scope.names, y.2 = .free → ∃ c, X.env.cells.lookup y.1 = some c := fun y hy e => (ok.free y hy e).elim (fun z => I.ok.has _ (.inl z)) fun z => I.ok.has _ (.inr z)
  refine wpAny_comprehension_free rfl hs (closure_ok cells) ok.kind (fun y hy e => (ok.uniq y hy).trans (by rw [e])) (thn (hi.run pins s σ H _ I hw) fun u s1 h1 => thn h1 fun itv s2 h2 => ?_)
  obtain ⟨it, fp, tn, J, H2, rfl, I2, T, t2, f2, q2⟩ := h2
  refine wpAny_newObj_type (newEnv_comp ?_)
  have fresh : H2 s2.heap.objs.size = none := I2.hok.fresh (Nat.le_refl _)
  obtain ⟨W, ⟨m0, w0⟩, tu⟩ := q2 _ fresh
  have below : ∀ b ∈ fp, b < s2.heap.objs.size := fun b m => by
    obtain ⟨ob, e, _⟩ := T.obj _ _ t2 b m
    exact Heap.lt_size e
  have I3 : Inv X pins σ (upd H2 s2.heap.objs.size (.dT [])) { s2 with heap := s2.heap.push { cls := .type "dict", data := .dict #[] } } := I2.laid (t' := s2.toks) (fun b u e => Heap.get?_push_of_some _ e) (Nat.le_refl _) (dt_empty s2.heap I2.big)
  have z3 : (s2.heap.push { cls := .type "dict", data := .dict #[] }).objs.size = s2.heap.objs.size + 1 := Heap.size_push ..
  have keep3 : ∀ b ob, s2.heap.get? b = some ob → (s2.heap.push { cls := .type "dict", data := .dict #[] }).get? b = some ob := fun b ob e => Heap.get?_push_of_some _ e
  generalize hD : s2.heap.objs.size = D at fresh w0 tu below I3 z3 ⊢
  generalize hH3 : upd H2 D (.dT []) = H3 at w0 I3
  have none3 : ∀ b ∈ fp, H3 b = none := fun b m => by
    rw [← hH3, upd_ne (Nat.ne_of_lt (below b m))]
    exact (f2 b m).1
  generalize hh3 : s2.heap.push { cls := .type "dict", data := .dict #[] } = h3 at I3 z3 keep3 ⊢
  have f3 : ∀ b ∈ fp, FpOk X pins H3 b ∧ b < h3.objs.size := fun b m => ⟨⟨none3 b m, (f2 b m).2⟩, by rw [z3]; exact Nat.lt_succ_of_lt (below b m)⟩
  have I4 := block_start I3 ok hN f3
  have pg := hg { s2 with heap := h3 } H3 h3.objs.size (cellsFrom (h3.objs.size + 1) scope.names (cloFrom X.env.cells scope.names [])) fp
  have pk := hk { s2 with heap := h3 } H3 h3.objs.size (cellsFrom (h3.objs.size + 1) scope.names (cloFrom X.env.cells scope.names [])) fp
  have pv := hv { s2 with heap := h3 } H3 h3.objs.size (cellsFrom (h3.objs.size + 1) scope.names (cloFrom X.env.cells scope.names [])) fp
  have loc : (compEnvC scope (cellsFrom (h3.objs.size + 1) scope.names (cloFrom X.env.cells scope.names [])) h3.objs.size X.env).locals = h3.objs.size := rfl
  show codeAny _ _ (.compStart _ 0 (.ref it) (.ref D) (compEnvC scope (cellsFrom (h3.objs.size + 1) scope.names (cloFrom X.env.cells scope.names [])) h3.objs.size X.env)) (compPost (model X.prog X.w) X.A X.xe none _ (.ref D) h3.objs.size) { s2 with heap := pushCells (h3.push { cls := .type "dict", data := .dict #[] }) scope.names }
  have t4 : tn 0 (pushCells (h3.push { cls := .type "dict", data := .dict #[] }) scope.names) := T.keep _ _ _ t2 fun b _ ob e => pushCells_keeps _ _ _ _ (Heap.get?_push_of_some _ (keep3 b ob e))
  generalize compEnvC scope (cellsFrom (h3.objs.size + 1) scope.names (cloFrom X.env.cells scope.names [])) h3.objs.size X.env = ce at I4 pg pk pv loc ⊢
  have lp := dz_loop (Y := X.blk { s2 with heap := h3 } H3 scope ce fp) (iter := iter) (scope := scope) (pos := pos) (R := compPost (model X.prog X.w) X.A X.xe none (EP X pins σ Q) (.ref D) h3.objs.size) rfl hc hu T pg pk pv tu
    (fun {σ5 H5 s5} I5 n5 b m => ⟨n5 b m, (I5.ok.exf b m).1, I5.ok.exfs b m, .inl m, fun x cc e => (I5.ok.exf b m).2 x cc e, fun p hp => absurd (show p ∈ ([] : List (Addr × Obj)) ++ [] from hp) List.not_mem_nil⟩)
    (fun s5 H5 I5 fin5 => ?_) I4 t4 none3 w0
  · exact codeAny_compStart_dict lp (T.self X.A 0 _ _ _ t4 lp)
  · have I6 : Inv X pins σ H5 s5 := I3.call' (ch := fp) I5.os I5.base I5.hok I5.bare fun b m => by
      obtain ⟨_, a1, _, a3, a4, a5⟩ := (f3 b m).1
      exact ⟨a3, a1, a4, a5⟩
    have gone : H5 h3.objs.size = none := loc ▸ I5.free
    obtain ⟨m, hn, _⟩ := I5.loc
    have hn : s5.heap.Ns ce.locals m := hn
    obtain ⟨a0, a1, _, a3, a4, a5⟩ := I3.fpOk (Nat.le_refl _) gone
    refine ⟨m, loc ▸ hn, fun h6 sb => ⟨.ref D, H5, I6.turned (t' := s5.toks) (fun b ob hb e => (sb.2 b hb).trans e) a0 a1 a3 a4 a5, rfl, fin5⟩⟩
end
end Tw
namespace Tw
open PySem PySem.Spec PyProof.Rows L2

/-! ### {k: v for target in iter}: a locked dict -/
def compZ (g : FG) (fk fv : FE) (ρw : Env) : List D → Sto → List (List Key × D) → Res (List (List Key × D))
  | [], S, acc => .ok acc S
  | d :: ds, S, acc => match g d ρw with
    | none => .bad
    | some ρ1 => (fk ρ1 S).noX.bind fun y S1 => (fv ρ1 S1).noX.bind fun z S2 => match keyI y with
      | none => .bad
      | some k => if acc.length < lim then compZ g fk fv ρw ds S2 (putG acc k z) else .bad
def zEnd (acc : List (List Key × D)) (S : Sto) : Res D := match asZ acc with
  | some zs => .ok (.dz zs) S
  | none => .bad
def fDz (vs : List Nat) (fi : FI) (g : FG) (fk fv : FE) : FE := fun ρ S => (fi ρ S).bind fun ds S1 => (compZ g fk fv (wipeE ρ vs) ds S1 []).bind zEnd
section
variable {X : Cx} {c : Cw} {e kx vx tg iter : Expr} {vs : List Nat} {fi : FI} {g : FG} {fk fv : FE}
theorem dz_main (σ : L2.St) (H : Hp) (Q : VK) (h : tE c (fDz vs fi g fk fv) σ H Q) : tDz (tI c fi) (tG c.dry vs g) (tE c.dry fk) (tE c.dry fv) vs σ H (fun v H1 => Q v H1 ∨ ∃ d u, H1 d = some u ∧ Mut (some u) ∧ ∀ od, Q v (upd H1 d (.frz od u))) := by
  obtain ⟨G, F, io, S, ρ, gd, re, q⟩ := h
  refine ⟨G, F, io, S, ρ, gd, re, Aft.step q fun ds S1 J F1 i1 H1 e1 g1 it q1 Dd hD => ?_⟩
  have q1 : Aft c G F1 i1 σ (rp c) Q ((compZ g fk fv (wipeE ρ vs) ds S1 []).bind zEnd) := q1
  have hG : G Dd = none := by
    cases hq : G Dd with
    | none => rfl
    | some o =>
      have := g1.gx _ _ hq
      rw [hD] at this
      cases this
  refine ⟨fun i m H2 => m = ds.length - i ∧ i ≤ ds.length ∧ ∃ F2 io2 S2 acc kws, Ext F1 i1 F2 io2 ∧ Good c.K (upd G Dd (.dT kws)) F2 io2 H2 S2 ∧ KR (Rp c.K F2 io2) kws acc ∧ Aft c G F2 io2 σ (rp c) Q ((compZ g fk fv (wipeE ρ vs) (ds.drop i) S2 acc).bind zEnd),
    ⟨_, rfl, Nat.zero_le _, F1, i1, S1, [], [], Ext.refl _ _, g1.hold hD, .nil, q1⟩, ?_⟩
  rintro i m H2 ⟨rfl, hi, F2, io2, S2, acc, kws, e2, g2, kr, q2⟩
  by_cases hlt : i < ds.length
  · obtain ⟨hgo, hy⟩ := it.go i _ H2 F2 io2 S2 hlt e2 g2
    refine .inr ⟨hgo, _, fun H3 n => ⟨ds.length - (i + 1), by omega, n⟩, fun x H3 y => ?_⟩
    obtain ⟨F3, e3, g3, d, hd, rd⟩ := hy x H3 y
    have hdr : ds.drop i = d :: ds.drop (i + 1) := by
      rw [List.drop_eq_getElem_cons hlt]
      rw [List.getElem?_eq_getElem hlt] at hd
      rw [Option.some.inj hd]
    rw [hdr] at q2
    unfold compZ at q2
    cases hg : g d (wipeE ρ vs) with
    | none => rw [hg] at q2; exact q2.elim
    | some ρ1 =>
      rw [hg] at q2
      have q3 : Aft c G F3 io2 σ (rp c) Q (((fk ρ1 S2).noX.bind fun y S1 => (fv ρ1 S1).noX.bind fun z S2 => match keyI y with
        | none => .bad
        | some k => if acc.length < lim then compZ g fk fv (wipeE ρ vs) (ds.drop (i + 1)) S2 (putG acc k z) else .bad).bind zEnd) := Aft.ext q2 e3
      have re3 := renv_wipe (renv_mono e3 (renv_mono e2 (renv_mono e1 re))) vs
      refine ⟨_, F3, io2, S2, d, _, ρ1, g3, rd, renv_dry re3, hg, fun σ4 re4 w4 => ⟨w4.trans (lc_mainG.wipe_idem vs), _, F3, io2, S2, ρ1, g3, re4, ?_⟩⟩
      cases hk : fk ρ1 S2 with
      | exc n as S5 => rw [hk] at q3; exact q3.elim
      | bad => rw [hk] at q3; exact q3.elim
      | ok y5 S5 =>
        intro v5 F5 io5 H5 e5 g5 r5
        refine ⟨_, F5, io5, S5, ρ1, g5, renv_mono e5 re4, ?_⟩
        rw [hk] at q3
        have q4 : Aft c G F3 io2 σ (rp c) Q (((fv ρ1 S5).noX.bind fun z S2 => match keyI y5 with
          | none => .bad
          | some k => if acc.length < lim then compZ g fk fv (wipeE ρ vs) (ds.drop (i + 1)) S2 (putG acc k z) else .bad).bind zEnd) := q3
        cases hv : fv ρ1 S5 with
        | exc n as S6 => rw [hv] at q4; exact q4.elim
        | bad => rw [hv] at q4; exact q4.elim
        | ok z6 S6 =>
          intro v6 F6 io6 H6 e6 g6 r6
          rw [hv] at q4
          have q4 : Aft c G F3 io2 σ (rp c) Q ((match keyI y5 with
              | none => .bad
              | some k => if acc.length < lim then compZ g fk fv (wipeE ρ vs) (ds.drop (i + 1)) S6 (putG acc k z6) else .bad : Res (List (List Key × D))).bind zEnd) := q4
          cases hy : keyI y5 with
          | none => rw [hy] at q4; exact q4.elim
          | some k =>
            rw [hy] at q4
            have q4 : Aft c G F3 io2 σ (rp c) Q ((if acc.length < lim then compZ g fk fv (wipeE ρ vs) (ds.drop (i + 1)) S6 (putG acc k z6) else .bad : Res (List (List Key × D))).bind zEnd) := q4
            by_cases hl : acc.length < lim
            · rw [if_pos hl] at q4
              obtain ⟨b, rfl, hb⟩ := key_at (rp_mono (K := c.K) e6 r5) hy
              refine ⟨kws, k, b, rfl, g6.ex _ _ hb, g6.gx _ _ upd_same, ?_, rfl, hlt, F6, io6, S6, putG acc k z6, putK kws k v6, ((e2.trans e3).trans e5).trans e6, g6.rehold, ?_, Aft.ext q4 (e5.trans e6)⟩
              · have := paired_len kr
                have := lim_lt_line
                omega
              · exact kr_put (Paired.mapP kr fun _ _ z => ⟨z.1, rp_mono ((e3.trans e5).trans e6) z.2⟩) k r6
            · rw [if_neg hl] at q4
              exact q4.elim
  · have e0 : i = ds.length := by omega
    subst e0
    rw [List.drop_length] at q2
    refine .inl ⟨it.stop _ _ H2 F2 io2 S2 (Nat.le_refl _) e2 g2, ?_⟩
    have q2 : Aft c G F2 io2 σ (rp c) Q (zEnd acc S2) := q2
    unfold zEnd at q2
    cases ha : asZ acc with
    | none => rw [ha] at q2; exact q2.elim
    | some zs =>
      rw [ha] at q2
      refine .inr ⟨Dd, _, g2.gx _ _ upd_same, True.intro, fun od => ?_⟩
      obtain ⟨g4, e4⟩ := (g2.rehold (u := .frz od (.dT kws))).unhold hG
      refine q2 (.ref Dd) _ _ _ e4 g4 ⟨Dd, od, kws, rfl, upd_same, ?_⟩
      exact Paired.mapP (asZ_kr ha kr) fun _ _ z => ⟨z.1, dp_mono e4.same _ _ z.2⟩
theorem fe_dz (h : ∀ {wi : TI} {tg' : TG} {tk tv : TE}, PI X tg iter wi → (∀ (s : Shared) (H : Hp) (C : Addr) (cl : List (Str × Addr)) (fp : List Addr), PG (X.blk s H scope (compEnvC scope cl C X.env) fp) tg tg') →
    (∀ (s : Shared) (H : Hp) (C : Addr) (cl : List (Str × Addr)) (fp : List Addr), PE (X.blk s H scope (compEnvC scope cl C X.env) fp) kx tk) → (∀ (s : Shared) (H : Hp) (C : Addr) (cl : List (Str × Addr)) (fp : List Addr), PE (X.blk s H scope (compEnvC scope cl C X.env) fp) vx tv) →
    PE X e (tDz wi tg' tk tv vs)) (hi : PI X tg iter (tI c fi)) (hg : ∀ (s : Shared) (H : Hp) (C : Addr) (cl : List (Str × Addr)) (fp : List Addr), PG (X.blk s H scope (compEnvC scope cl C X.env) fp) tg (tG c.dry vs g))
    (hk : ∀ (s : Shared) (H : Hp) (C : Addr) (cl : List (Str × Addr)) (fp : List Addr), PE (X.blk s H scope (compEnvC scope cl C X.env) fp) kx (tE c.dry fk)) (hv : ∀ (s : Shared) (H : Hp) (C : Addr) (cl : List (Str × Addr)) (fp : List Addr), PE (X.blk s H scope (compEnvC scope cl C X.env) fp) vx (tE c.dry fv)) :
    PE X e (tE c (fDz vs fi g fk fv)) := pe_imp (pe_lockA (h hi hg hk hv)) dz_main
end
end Tw
namespace Tw
open PySem PySem.Spec PyProof.Rows L2

theorem room1 {k : Nat} {A : Around} (r : Room k A) : A.units + 1 < cLine := by
  have := room65 r
  omega
theorem boot_sorted : bootBuiltins ("sorted" : Str) = some (.builtin "sorted") := by decide +kernel
/-! ### rules for simp -/
section
variable {ρ : Env} {S : Sto} {fa fb fd fi fx fv fk fo : FE} {fr : FA} {d v y x z : D} {ds xs : List D} {i j : Int} {n : Nat} {kvs : List (List Key × D)} {zs : List (List Key × PyData)} {k : List Key} {vs : List Nat} {f : FI} {g : FG}
@[simp ↓] theorem ap_dnew : fDnew ρ S = .ok (.own S.length) (S ++ [.dic []]) := rfl
def getZ2 (d y : D) (S : Sto) : Res D := match dOf d S, keyI y with
  | some kvs, some k => match valG kvs k with
    | some v => .ok v S
    | none => .bad
  | _, _ => .bad
def getZ1 (d : D) (q : Res D) : Res D := q.bind fun y S2 => getZ2 d y S2
def getZ (fi : FE) (ρ : Env) (q : Res D) : Res D := q.bind fun d S1 => getZ1 d (fi ρ S1)
@[simp ↓] theorem ap_dget : fDget fd fi ρ S = getZ fi ρ (fd ρ S) := rfl
@[simp] theorem getZ_ok : getZ fi ρ (.ok d S) = getZ1 d (fi ρ S) := rfl
@[simp] theorem getZ1_ok : getZ1 d (.ok y S) = getZ2 d y S := rfl
theorem getZ2_ok (h1 : dOf d S = some kvs) (h2 : keyI y = some k) (h3 : valG kvs k = some v) : getZ2 d y S = .ok v S := by
  unfold getZ2
  rw [h1, h2]
  show (match valG kvs k with
    | some v => .ok v S
    | none => .bad : Res D) = _
  rw [h3]
def orZ3 (d y x : D) (S : Sto) : Res D := match dOf d S, keyI y with
  | some kvs, some k => .ok ((valG kvs k).getD x) S
  | _, _ => .bad
def orZ2 (d y : D) (q : Res D) : Res D := q.bind fun x S3 => orZ3 d y x S3
def orZ1 (d : D) (fx : FE) (ρ : Env) (q : Res D) : Res D := q.bind fun y S2 => orZ2 d y (fx ρ S2)
def orZ0 (d : D) (fi fx : FE) (ρ : Env) (S : Sto) : Res D := match dOf d S with
  | some _ => orZ1 d fx ρ (fi ρ S)
  | none => .bad
def orZ (fi fx : FE) (ρ : Env) (q : Res D) : Res D := q.bind fun d S1 => orZ0 d fi fx ρ S1
@[simp ↓] theorem ap_dget2 : fDget2 fd fi fx ρ S = orZ fi fx ρ (fd ρ S) := rfl
@[simp] theorem orZ_ok : orZ fi fx ρ (.ok d S) = orZ0 d fi fx ρ S := rfl
theorem orZ0_ok (h : dOf d S = some kvs) : orZ0 d fi fx ρ S = orZ1 d fx ρ (fi ρ S) := by
  unfold orZ0
  rw [h]
@[simp] theorem orZ1_ok : orZ1 d fx ρ (.ok y S) = orZ2 d y (fx ρ S) := rfl
@[simp] theorem orZ2_ok : orZ2 d y (.ok x S) = orZ3 d y x S := rfl
theorem orZ3_ok (h1 : dOf d S = some kvs) (h2 : keyI y = some k) : orZ3 d y x S = .ok ((valG kvs k).getD x) S := by
  unfold orZ3
  rw [h1, h2]
theorem g_inT (h1 : keyI x = some k) (h2 : dOf d S = some kvs) : gInT x d S = .ok (.p (.bool (valG kvs k).isSome)) S := by
  unfold gInT
  rw [h1, h2]
def putZ2 (ρ : Env) (v d : D) (q : Res D) : Fl := q.thn ρ fun y S3 => putS ρ S3 v d y
def putZ1 (fi : FE) (ρ : Env) (v : D) (q : Res D) : Fl := q.thn ρ fun d S2 => putZ2 ρ v d (fi ρ S2)
def putZ (fd fi : FE) (ρ : Env) (q : Res D) : Fl := q.thn ρ fun v S1 => putZ1 fi ρ v (fd ρ S1)
@[simp ↓] theorem ap_dput : fDput fv fd fi ρ S = putZ fd fi ρ (fv ρ S) := rfl
@[simp] theorem putZ_ok : putZ fd fi ρ (.ok v S) = putZ1 fi ρ v (fd ρ S) := rfl
@[simp] theorem putZ1_ok : putZ1 fi ρ v (.ok d S) = putZ2 ρ v d (fi ρ S) := rfl
@[simp] theorem putZ2_ok : putZ2 ρ v d (.ok y S) = putS ρ S v d y := rfl
theorem putS_ok (h1 : keyI y = some k) (h2 : S[n]? = some (.dic kvs)) (h3 : kvs.length < lim) : putS ρ S v (.own n) y = .nx ρ (S.set n (.dic (putG kvs k v))) := by
  unfold putS
  rw [h1]
  show (match S[n]? with
    | some (.dic kvs) => if kvs.length < lim then .nx ρ (S.set n (.dic (putG kvs k v))) else .bad
    | _ => .bad : Fl) = _
  rw [h2]
  exact if_pos h3
def itKK (q : Res D) : Res (List D) := q.bind itK
@[simp ↓] theorem ap_itK : fItK fa ρ S = itKK (fa ρ S) := rfl
@[simp] theorem itKK_ok : itKK (.ok d S) = itK d S := rfl
@[simp] theorem itK_dz : itK (.dz zs) S = .ok ((keysZ zs).map D.p) S := rfl
theorem itK_own (h1 : S[n]? = some (.dic kvs)) (h2 : asZ kvs = some zs) : itK (.own n) S = .ok ((keysZ kvs).map D.p) (S.set n (.fz (.dz zs))) := by
  show (match S[n]? with
    | some (.fz (.dz kvs)) => .ok ((keysZ kvs).map D.p) S
    | some (.dic kvs) => match asZ kvs with
      | some zs => .ok ((keysZ kvs).map D.p) (S.set n (.fz (.dz zs)))
      | none => .bad
    | _ => .bad : Res (List D)) = _
  rw [h1]
  show (match asZ kvs with
      | some zs => .ok ((keysZ kvs).map D.p) (S.set n (.fz (.dz zs)))
      | none => .bad : Res (List D)) = _
  rw [h2]
theorem g_listD (h : dOf d S = some kvs) : gListD [d] S = .ok (.p (.list (keysZ kvs))) S := by
  show (match dOf d S with
    | some kvs => .ok (.p (.list (keysZ kvs))) S
    | none => .bad : Res D) = _
  rw [h]
theorem g_srtL {ps : List PyData} (h1 : ps.all okP = true) (h2 : ps.length < 64) : gSrtL [.p (.list ps)] S = .ok (.p (.list (srtP ps))) S := if_pos (by rw [h1, decide_eq_true h2]; rfl)
theorem g_srtT (h : dOf d S = some kvs) (h1 : (keysZ kvs).all okP = true) (h2 : kvs.length < 64) : gSrtT [d] S = .ok (.p (.list (srtP (keysZ kvs)))) S := by
  show (match dOf d S with
    | some kvs => if ((keysZ kvs).all okP && decide (kvs.length < 64)) = true then .ok (.p (.list (srtP (keysZ kvs)))) S else .bad
    | none => .bad : Res D) = _
  rw [h]
  exact if_pos (by rw [h1, decide_eq_true h2]; rfl)
def sdf2 (n : Nat) (q : Res (List D)) : Res D := q.bind fun ds S2 => sdfS n ds S2
def sdf1 (fr : FA) (ρ : Env) (q : Res D) : Res D := q.bind fun o S1 => match o with
  | .own n => match S1[n]? with
    | some (.dic _) => sdf2 n (fr ρ S1)
    | _ => .bad
  | _ => .bad
@[simp ↓] theorem ap_sdf : fSdf fo fr ρ S = sdf1 fr ρ (fo ρ S) := rfl
theorem sdf1_ok (h : S[n]? = some (.dic kvs)) : sdf1 fr ρ (.ok (.own n) S) = sdf2 n (fr ρ S) := by
  show (match S[n]? with
    | some (.dic _) => sdf2 n (fr ρ S)
    | _ => .bad : Res D) = _
  rw [h]
@[simp] theorem sdf2_ok : sdf2 n (.ok ds S) = sdfS n ds S := rfl
theorem sdfS_ok (h1 : keyI y = some k) (h2 : S[n]? = some (.dic kvs)) (h3 : kvs.length < lim) : sdfS n [y, v] S = (match valG kvs k with
    | some w => .ok w S
    | none => .ok v (S.set n (.dic (putG kvs k v)))) := by
  unfold sdfS
  simp only [h1, h2, if_pos h3]
  try rfl
def dzK (vs : List Nat) (g : FG) (fk fv : FE) (ρ : Env) (q : Res (List D)) : Res D := q.bind fun ds S1 => (compZ g fk fv (wipeE ρ vs) ds S1 []).bind zEnd
@[simp ↓] theorem ap_dz : fDz vs f g fk fv ρ S = dzK vs g fk fv ρ (f ρ S) := rfl
@[simp] theorem dzK_ok : dzK vs g fk fv ρ (.ok ds S) = (compZ g fk fv (wipeE ρ vs) ds S []).bind zEnd := rfl
@[simp] theorem key_pair : keyI (.p (.tuple [.int i, .int j])) = some [.inl i, .inl j] := rfl
@[simp] theorem dOf_dz : dOf (.dz zs) S = some (unZ zs) := rfl
end
end Tw
namespace Tw
open PySem PySem.Spec PyProof.Rows L2

/-! ### min(d.values()) -/
def valO (p d : Addr) : HO := .ext fun h => h.IsValuesView p d
def tValsZ (td : TE) : TE := fun σ H Q => td σ H fun x H1 => ∃ a kws, x = .ref a ∧ Rd H1 a (.dT kws) ∧ ∀ p, H1 p = none → Q (.ref p) (upd H1 p (valO p a))
section
variable {X : Cx} {o : Expr} {td : TE} {apos cpos : Pos}
theorem pe_valuesZ (ho : PE X o td) (hb : attributeBase o "values" X.env (eval o X.env) = eval o X.env := by rfl) (hl : (apos.endLine == cpos.line) = true := by rfl) : PE X (.Call (.Attribute o "values" apos) [] [] cpos) (tValsZ td) := by
  refine ⟨fun pins s σ H Q I hw => ?_⟩
  refine wpAny_Call_method (T := "dict") (id := "dict.values") hb rfl hl PySem.F.plainAttrs_dict PySem.F.slot_dict_values PySem.F.type_dict_values (thn (ho.run pins s σ H _ I hw) fun u s1 ⟨x, H1, I1, rx, a, kws, ex, hd, q⟩ => ?_)
  subst ex
  obtain rfl : u = Value.ref a := rx
  obtain ⟨t1, t2, t3⟩ := isD_at I1 (.inr ⟨kws, hd⟩)
  obtain ⟨_, _, xs, _, ob, es, ep, e1, e2, e3, _⟩ := dt_rd I1.hok hd
  refine ⟨t1, t2, ?_⟩
  show wpAny _ _ (callWith cpos (.builtin "dict.values") [.ref a] [] []) _ X.xe s1
  refine method_meetsIn PySem.F.slot_dict_values PySem.F.entry_dict_values rfl (PySem.evalArgs_none ⟨rfl, t1, PySem.F.args_dict_values_1 _, _, meets_dict_values_raw a t3, ⟨es, ep, ob, e1, e2, e3⟩, ?_⟩)
  have new : (s1.heap.push { cls := .type "dict_values", data := .fields #[.ref a] }).get? s1.heap.objs.size = some { cls := .type "dict_values", data := .fields #[.ref a] } := Heap.get?_push_size _ rfl
  refine ⟨.ref s1.heap.objs.size, upd H1 s1.heap.objs.size (valO s1.heap.objs.size a), I1.laid (t' := s1.toks) (fun b ob e => Heap.get?_push_of_some _ e) (Nat.le_refl _) ?_, rfl, q _ (I1.hok.fresh (Nat.le_refl _))⟩
  exact ⟨⟨_, new, rfl, rfl⟩, ⟨_, new⟩, fun h1 h2 x k => let ⟨o, ho, r⟩ := x; ⟨o, k o ho, r⟩⟩
/-- min of such a view -/
def rMinV (K : PySem.W.Frag) : List V → Hp → VK → Prop := fun vs H Q => ∃ p a kws x xs, vs = [V.ref p] ∧ H p = some (valO p a) ∧ Rd H a (.dT kws) ∧ DpAll K H (kws.map (·.2)) (x :: xs) ∧ alikeB (x :: xs) = true ∧ PyData.depthAll (x :: xs) ≤ 60 ∧
  ∀ (i : Nat) v, (kws.map (·.2))[i]? = some v → (x :: xs)[i]? = some (PySem.W.minD x xs) → Q v H
theorem kt_vals {H : Hp} : ∀ {kws : List (List Key × V)} {xs : List (List Key × Addr × Value)}, KT H kws xs → Vals (kws.map (·.2)) (xs.map fun x => x.2.2)
  | _, _, .nil => .nil
  | _, _, .cons h t => .cons h.2.2 (kt_vals t)
theorem call_minV {X : Cx} (hu : X.A.units + 64 < cLine) (hc : X.calm = true) : CallR X (.builtin "min") (rMinV X.K) := by
  rintro pins s σ H vs us Q I r ⟨p, a, kws, x, xs, rfl, hp, hd, hdp, hal, hde, q⟩
  rw [Vals.ref1 r]
  have hv : s.heap.IsValuesView p a := (show ObjOk X.prog X.w H s.heap p (valO p a) from I.hok p _ hp).1
  obtain ⟨z, lo, ks, pr, o, es, ep, ho, hx, hdt, he, hn⟩ := (show ObjOk X.prog X.w H s.heap a (.dT kws) from hd.ok I.hok)
  have raw : s.heap.DictRaw a es ep := ⟨o, ho, hx, hdt⟩
  have n1 : es.size = ks.length := size_of_entries he
  have n2 : kws.length = ks.length := Paired.length pr
  have rv := kt_vals pr
  generalize hits : (ks.map fun x => x.2.2) = its at rv
  have item : ∀ (i : Nat) (v : Value), (∃ hi : i < es.size, v = es[i].val) → its.toArray[i]? = some v := fun i v ⟨hi, e⟩ => by
    have hj : i < ks.length := by omega
    have ent := entry_at he i
    rw [Array.getElem?_eq_getElem hi, List.getElem?_eq_getElem hj] at ent
    have ent : es[i] = entryOfKey (tupleKind (mixKind X.prog X.w)) ks[i] := Option.some.inj ent
    rw [e, ent, ← hits]
    simp only [List.getElem?_toArray, List.getElem?_map, List.getElem?_eq_getElem hj]
    rfl
  obtain ⟨as, hr⟩ := Dp.readsAll I (x :: xs) (kws.map (·.2)) its hdp rv
  have hr2 : ReadsAll s.heap its.toArray.toList (x :: xs) as := by simpa using hr
  have hlen : its.length = (x :: xs).length := by
    have w := PySem.W.readsAll_len (vs := its.toArray) hr2
    simpa using w
  have hlen2 : es.size = xs.length + 1 := by
    rw [n1, ← List.length_map (as := ks) (f := fun x => x.2.2), hits, hlen]
    rfl
  have hlt : a < s.heap.objs.size := Heap.lt_size ho
  have cmp := PySem.W.cmpIn_lt (prog := X.prog) (w := X.w) (A := X.A.in1) hr2 (alikeB_ok hal) (by show X.A.units + 1 + _ < _; omega)
  have hh : X.A.in1.handled = none := by
    have := I.ok.hd hc
    simp [this]
  refine PySem.call_min_walkH (wpAny_pyIter_values_raw hv raw ⟨s.heap.objs.size, _, _, _, _, _, _, s.heap, _, rfl, (Walks.rawValues (A := X.A.in1) hh s.heap.objs.size a (Nat.ne_of_lt hlt) es ep).toS, ⟨⟨_, Heap.get?_push_size _ rfl, rfl, rfl⟩, raw.at fun o e => Heap.get?_push_of_some _ e⟩, fun b hb => ?_, by omega, fun b ob e hb => ?_, fun b ob e => Heap.get?_push_of_some _ e,
    fun i j vi vj s1 Q1 E1 k1 p1 p2 q1 => cmp i j vi vj s1 Q1 E1 k1 (item i vi p1) (item j vj p2) q1, fun v s1 hP m => ?_⟩)
  · show b < (s.heap.push _).objs.size
    rw [Heap.size_push]
    rcases List.mem_cons.mp hb with rfl | hb
    · exact Nat.lt_succ_self _
    · rw [List.mem_singleton.mp hb]
      exact Nat.lt_succ_of_lt hlt
  · exact absurd (Heap.lt_size e) ((List.mem_singleton.mp hb) ▸ Nat.lt_irrefl _)
  · obtain ⟨h1, tk, rfl, keep⟩ := PySem.W.moved_old rfl rfl m
    have at1 := item _ v hP
    obtain ⟨bs, rd, _⟩ := PySem.W.readsAll_at hr2 _ v ((Array.getElem?_toList (xs := its.toArray)).trans at1)
    have e2 := (PySem.W.argBest_fold PySem.W.dataLt PyData.none x xs xs.length (Nat.le_refl _)).2
    rw [List.take_length] at e2
    have e1 : es.size - 1 = xs.length := by omega
    rw [e1] at rd at1
    obtain ⟨idx, hidx⟩ : ∃ idx, idx = PySem.argBest (fun i j => PySem.W.dataLt ((x :: xs).getD i .none) ((x :: xs).getD j .none)) xs.length := ⟨_, rfl⟩
    rw [← hidx] at at1 rd
    have e2 : (x :: xs).getD idx .none = _ := hidx ▸ e2
    have at2 : its[idx]? = some v := by simpa using at1
    have hi : idx < its.length := (List.getElem?_eq_some_iff.mp at2).1
    have hix : idx < (x :: xs).length := by omega
    have hiy : idx < (kws.map (·.2)).length := by rw [rv.length]; exact hi
    obtain ⟨u, hu2, ru⟩ := rv.get (List.getElem?_eq_getElem hiy)
    rw [at2] at hu2
    obtain rfl := Option.some.inj hu2
    refine ⟨_, H, I.kept keep, ru, q idx _ (List.getElem?_eq_getElem hiy) ?_⟩
    rw [List.getElem?_eq_getElem hix]
    have : (x :: xs).getD idx .none = (x :: xs)[idx] := by rw [List.getD_eq_getElem?_getD, List.getElem?_eq_getElem hix]; rfl
    rw [← this]
    show some _ = some (PySem.W.minD x xs)
    unfold PySem.W.minD
    rw [← e2]
theorem kr_snd {K : PySem.W.Frag} {F : Hp} {io : List Addr} : ∀ {kws : List (List Key × V)} {kvs : List (List Key × D)}, KR (Rp K F io) kws kvs → RpA K F io (kws.map (·.2)) (kvs.map (·.2))
  | _, _, .nil => .nil
  | _, _, .cons h t => .cons h.2 (kr_snd t)
def minV (d : D) (S : Sto) : Res D := match dOf d S with
  | some kvs => match asPs (kvs.map (·.2)) with
    | some (x :: xs) => if alikeB (x :: xs) = true ∧ PyData.depthAll (x :: xs) ≤ 60 ∧ PyData.canLayAll0 (x :: xs) = true then .ok (.p (PySem.W.minD x xs)) S else .bad
    | _ => .bad
  | none => .bad
def fMinV (fd : FE) : FE := fun ρ S => (fd ρ S).bind minV
theorem fe_minV {X : Cx} {c : Cw} {e o : Expr} {fd : FE} (h : ∀ {td : TE}, PE X o td → PE X e (tCB (rMinV c.K) (tCons (tValsZ td) tNil))) (ho : PE X o (tE c fd)) : PE X e (tE c (fMinV fd)) :=
  pe_imp (h ho) fun σ H Q ⟨G, F, io, S, ρ, gd, re, q⟩ => ⟨G, F, io, S, ρ, gd, re, Aft.step q fun d S1 v1 F1 i1 H1 e1 g1 r1 q1 => by
    have q1 : Aft c G F1 i1 σ (rp c) Q (minV d S1) := q1
    unfold minV at q1
    split at q1
    · rename_i kvs hk
      split at q1
      · rename_i x xs hx
        split at q1
        · rename_i hc
          obtain ⟨a, kws, rfl, hd, kr⟩ := dOf_ok g1 r1 hk
          refine ⟨a, kws, rfl, hd, fun p hp => ?_⟩
          obtain ⟨g2, e2⟩ := g1.new (o := valO p a) hp
          have ra := asPs_ok hx (kr_snd (K := c.K) kr)
          have ne : a ≠ p := fun z => by
            subst z
            rcases hd with hd | ⟨od, hd⟩ <;> (rw [hp] at hd; cases hd)
          refine ⟨p, a, kws, x, xs, rfl, upd_same, ?_, dpa_of (g1.ex.trans (upd_one hp)) _ _ hc.2.2 ra, hc.1, hc.2.1, fun i v hv hm => ?_⟩
          · rcases hd with hd | ⟨od, hd⟩
            · exact .inl ((upd_ne ne).trans hd)
            · exact .inr ⟨od, (upd_ne ne).trans hd⟩
          · obtain ⟨v', hv', rv⟩ := dpa_get _ _ i _ ra hm
            have hv : (kws.map (·.2))[i]? = some v := hv
            rw [hv] at hv'
            obtain rfl := Option.some.inj hv'
            exact q1 v _ _ _ e2 g2 (dp_mono e2.same _ _ rv)
        · exact q1.elim
      · exact q1.elim
    · exact q1.elim⟩
section
variable {ρ : Env} {S : Sto} {fd : FE} {d : D} {kvs : List (List Key × D)} {x : PyData} {xs : List PyData}
def minVK (q : Res D) : Res D := q.bind minV
@[simp ↓] theorem ap_minV : fMinV fd ρ S = minVK (fd ρ S) := rfl
@[simp] theorem minVK_ok : minVK (.ok d S) = minV d S := rfl
theorem minV_ok (h1 : dOf d S = some kvs) (h2 : asPs (kvs.map (·.2)) = some (x :: xs)) (h3 : alikeB (x :: xs) = true) (h4 : PyData.depthAll (x :: xs) ≤ 60) (h5 : PyData.canLayAll0 (x :: xs) = true) : minV d S = .ok (.p (PySem.W.minD x xs)) S := by
  unfold minV
  rw [h1]
  show (match asPs (kvs.map (·.2)) with
    | some (x :: xs) => if alikeB (x :: xs) = true ∧ PyData.depthAll (x :: xs) ≤ 60 ∧ PyData.canLayAll0 (x :: xs) = true then .ok (.p (PySem.W.minD x xs)) S else .bad
    | _ => .bad : Res D) = _
  rw [h2]
  exact if_pos ⟨h3, h4, h5⟩
end
end
end Tw
namespace Tw
open PySem PySem.Spec PyProof.Rows L2

/-! ### len(set(xs)), xs a list, however long, of pairs of ints below seven -/
theorem pigeon {α : Type} [DecidableEq α] : ∀ (l m : List α), l.Nodup → (∀ x ∈ l, x ∈ m) → l.length ≤ m.length
  | [], _, _, _ => Nat.zero_le _
  | x :: l, m, hn, hs => by
    obtain ⟨n1, n2⟩ := List.nodup_cons.mp hn
    have hx := hs x List.mem_cons_self
    have := pigeon l (m.erase x) n2 fun y hy => (List.mem_erase_of_ne fun z => n1 (by rw [← z]; exact hy)).mpr (hs y (List.mem_cons_of_mem _ hy))
    rw [List.length_erase_of_mem hx] at this
    have := List.length_pos_of_mem hx
    rw [List.length_cons]
    omega
section
variable {P : Program} {w : World} {A : Around} {E : Value → Shared → Prop}
/-- what the kit's bound of 64 items is for here: the keys are among a few -/
theorem fill_set {it S : Addr} {fp wr : List Addr} {G : Array GenState → Array GenState → Prop} {N : Nat} {Pv : Nat → Value → Prop} {St : Nat → Shared → Prop} {R : Result → Shared → Prop} (wk : WalksS P w A.in1 it fp wr G N Pv St)
    (few : List (List Int)) (hD : few.length < 63) (ts : List (Addr × List Int)) (hN : N = ts.length) (hts : ∀ p ∈ ts, p.2 ∈ few) (hv : ∀ i v, Pv i v → ∃ p, ts[i]? = some p ∧ v = .ref p.1)
    (old : Heap) (tup0 : ∀ p ∈ ts, IsT P w old p.2 p.1) (off : S ∉ fp) (S0 : old.get? S = none) (wr0 : ∀ b ∈ wr, old.get? b = none) (un : A.in1.units < cLine) :
    ∀ (left i : Nat) (z : Shared), i + left = N → St i z → (∀ b o, old.get? b = some o → z.heap.get? b = some o) → (∃ L es ep t, SetTR P w z.heap S L es ep t ∧ Got ts i L) →
      (∀ y L es ep t, Moved (S :: wr) G z y → SetTR P w y.heap S L es ep t → Got ts N L → (∀ b o, old.get? b = some o → y.heap.get? b = some o) → R (.ok (.ret .none)) y) →
      codeAny (model P w) A (.builtin "set.update.loop" ⟨[.ref S, .ref it], []⟩) R z
  | left, i, z, hi, hst, kp, ⟨L, es, ep, t, hR, got⟩, fin => by
    have notw : S ∉ wr := fun h => off (wk.sub _ h)
    have up : ∀ {y : Shared}, Moved wr G z y → ∀ b o, old.get? b = some o → y.heap.get? b = some o := fun mv b o e => mv.heap b o (fun hb => by
      have := wr0 b hb
      rw [e] at this
      cases this) (kp b o e)
    have inTs : ∀ p ∈ L, p ∈ ts := fun p hp => List.mem_of_mem_take (got.sub p hp)
    have stay : ∀ {y : Shared}, Moved wr G z y → SetTR P w y.heap S L es ep t := fun mv => hR.keep (fun o e => mv.heap S o notw e) fun p hp => isT_keep (tup0 p (inTs p hp)) (up mv)
    refine codeAny_builtin F.entry_set_update_loop ?_
    rw [Around.under_plainId F.plain_set_update_loop _]
    show wpAny _ A.in1 (pyNext (.ref it) >>= _) _ _ z
    cases left with
    | zero =>
      have hi : i = N := hi
      subst hi
      refine wpAny_bind (wk.done z _ _ hst fun y mv => ?_)
      show wpAny _ A.in1 (ret Value.none) _ _ y
      exact wpAny_pure (fin y L es ep t (mv.mono fun b hb => List.mem_cons_of_mem _ hb) (stay mv) got (up mv))
    | succ left =>
      refine wpAny_bind (wk.item i z _ _ (by omega) hst fun v y pv hst2 mv => ?_)
      obtain ⟨p, ep2, rfl⟩ := hv i v pv
      have hp : p ∈ ts := List.mem_of_getElem? ep2
      have tup1 : IsT P w y.heap p.2 p.1 := isT_keep (tup0 p hp) (up mv)
      have room : L.length + 1 < 64 := by
        have := pigeon (L.map (·.2)) few hR.nd fun k hk => by
          obtain ⟨q, hq, rfl⟩ := List.mem_map.mp hk
          exact hts q (inTs q hq)
        rw [List.length_map] at this
        omega
      show wpAny _ A.in1 (holding [Value.ref p.1] (setAdd S (.ref p.1)) >>= _) _ _ y
      refine wpAny_bind (wpAny_holding ?_)
      unfold setAdd
      refine wpAny_holding (wpAny_bind (wpAny_pyHash_tuple un tup1 ?_))
      have R1 : SetTR P w y.heap S L es ep t := stay mv
      refine add_at (s := { y with toks := y.toks + (p.2.length + 1) }) R1 tup1 un room fun b h2 L2 es2 ep3 t2 sb R2 old1 new1 => ?_
      have got2 : Got ts (i + 1) L2 := by
        by_cases hm : p.2 ∈ L.map (·.2)
        · rw [old1 hm]
          exact got.same ep2 hm
        · exact got.more ep2 (new1 hm)
      have kp2 : ∀ b o, old.get? b = some o → h2.get? b = some o := fun b o e => (sb.2 b (fun zz => by
        rw [zz, S0] at e
        cases e)).trans (up mv b o e)
      refine wpAny_pure ⟨plainId_quiet F.plain_set_update_loop _, fill_set wk few hD ts hN hts hv old tup0 off S0 wr0 un left (i + 1) _ (by omega) (wk.frame _ y _ _ hst2 (Nat.le_add_right _ _) fun b hb o e => ?_) kp2 ⟨L2, es2, ep3, t2, R2, got2⟩ fun x L3 es3 ep4 t3 mv3 R3 got3 kp3 => ?_⟩
      · have hne : b ≠ S := fun zz => off (by rw [← zz]; exact hb)
        exact (sb.2 b hne).trans e
      · refine fin x L3 es3 ep4 t3 (Moved.trans wk.gtrans ((mv.mono fun b hb => List.mem_cons_of_mem _ hb).then_heap (Nat.le_add_right _ _) fun b o hb e => ?_) mv3) R3 got3 kp3
        exact (sb.2 b fun zz => hb (by rw [zz]; exact List.mem_cons_self)).trans e

abbrev bareSet (w : World) : Obj := { cls := .type "set", dict := none, data := .set #[] 0 (.fresh 0 0 (!w.params.followText "set-order")) }
theorem none_past {h : Heap} {b : Addr} (hb : h.objs.size ≤ b) : h.get? b = none := by
  cases q : h.get? b with
  | none => rfl
  | some o => exact absurd (Nat.lt_of_lt_of_le (Heap.lt_size q) hb) (Nat.lt_irrefl _)
variable {s : Shared}
/-- set(xs) -/
theorem new_set {l : Addr} {vs : Array Value} (ts : List (Addr × List Int)) (few : List (List Int)) {Q : Value → Shared → Prop} (hd : A.handled = none) (isl : s.heap.IsList l vs) (hvs : vs.toList = ts.map fun p => Value.ref p.1)
    (tup0 : ∀ p ∈ ts, IsT P w s.heap p.2 p.1) (hD : few.length < 63) (hts : ∀ p ∈ ts, p.2 ∈ few) (un : A.units + 3 < cLine)
    (fin : ∀ (h2 : Heap) (tk : Nat) L es ep t, SetTR P w h2 s.heap.objs.size L es ep t → Got ts ts.length L → (∀ b o, s.heap.get? b = some o → h2.get? b = some o) → Q (.ref s.heap.objs.size) { s with heap := h2, toks := tk }) :
    wpAny (model P w) A (call (.type "set") [.ref l]) Q E s := by
  have size1 : vs.size = ts.length := by
    have := congrArg List.length hvs
    rwa [Array.length_toList, List.length_map] at this
  obtain ⟨mc, mtl, mro1⟩ := F.called_set.mro
  have mk1 := F.called_set.made
  have mk2 := F.called_set.sub
  refine wpAny_call (codeAny_of_tree ?_)
  show wpAny _ _ (callAny (.type "set") _) _ _ _
  refine wpAny_pure ⟨Code.quiet_builtin _ (by decide +kernel), codeAny_builtin F.entry_type_call ?_⟩
  rw [Around.under_plain (weight_type_call_type "set" [.ref l] []) rfl]
  have mk3 := F.called_set.notType
  have mk4 := F.called_set.canCreate
  have mk5 := F.typeCall_set_1 (.ref l)
  repeat any_goals first | assumption | wp_step
  refine codeAny_mono (code_set_led1 (.ref l) (E := E) (Q₁ := fun u z => u = .ref s.heap.objs.size ∧ z = { s with heap := s.heap.push (bareSet w) }) ⟨rfl, rfl⟩) fun out z hz => ?_
  cases out with
  | error e => exact hz
  | ok fl =>
    cases fl with
    | ret u =>
      obtain ⟨rfl, rfl⟩ := hz
      have atS : (s.heap.push (bareSet w)).get? s.heap.objs.size = some (bareSet w) := Heap.get?_push_size _ rfl
      have ty : Shared.TypeIs { s with heap := s.heap.push (bareSet w) } (.ref s.heap.objs.size) "set" := ⟨_, atS, rfl⟩
      have in1 := F.called_set.init.lookup
      have in2 := F.called_set.init.bind (.ref s.heap.objs.size)
      repeat any_goals first | assumption | wp_step
      refine codeAny_mono (codeAny_call_builtin (R := wants (fun r y => r = .none ∧ ∃ h2 tk L es ep t, y = { s with heap := h2, toks := tk } ∧ SetTR P w h2 s.heap.objs.size L es ep t ∧ Got ts ts.length L ∧
          (∀ b o, s.heap.get? b = some o → h2.get? b = some o)) E) F.called_set.init.plain F.entry_set_init (check_set_init_1 ty ?_)) fun out2 y hy => ?_
      · obtain ⟨ol, hol, hcl, nl, hdl⟩ := isl
        obtain ⟨oc, od, odt, osl⟩ := ol
        simp only at hcl hdl
        subst hcl hdl
        have hol2 : (s.heap.push (bareSet w)).get? l = some { cls := .type "list", dict := od, data := .seq vs nl, slots := osl } := Heap.get?_push_of_some _ hol
        have sb1 := F.sub_list_set
        have sb2 := F.sub_list_frozenset
        have nd : (Value.type "list" == Value.type "dict") = false := by decide
        have isl1 : (s.heap.push (bareSet w)).IsList l vs := ⟨_, hol2, rfl, nl, rfl⟩
        unfold Builtin.«set.__init__» noKeywords Builtin.Frozenset.updateFrom
        generalize hIt : pyIter = IT
        wp_walk
        subst hIt
        refine wpAny_pyIter_list isl1 (wpAny_bind (wpAny_runValue ?_))
        have ltl : l < s.heap.objs.size := Heap.lt_size hol
        have hd3 : A.in1.in1.in1.handled = none := by simp [hd]
        have sz1 : (s.heap.push (bareSet w)).objs.size = s.heap.objs.size + 1 := Heap.size_push ..
        have ne1 : l ≠ (s.heap.push (bareSet w)).objs.size := by
          rw [sz1]
          exact Nat.ne_of_lt (Nat.lt_succ_of_lt ltl)
        have off : s.heap.objs.size ∉ [(s.heap.push (bareSet w)).objs.size, l] := fun hm => by
          rw [sz1] at hm
          rcases List.mem_cons.mp hm with h | h
          · exact absurd h (Nat.ne_of_lt (Nat.lt_succ_self _))
          · exact absurd (List.mem_singleton.mp h) (Nat.ne_of_gt ltl)
        have at2 : ((s.heap.push (bareSet w)).push { cls := .type "list_iterator", data := .fields #[.ref l, .int 0 0] }).get? s.heap.objs.size = some (bareSet w) := Heap.get?_push_of_some _ atS
        refine fill_set ((Walks.list hd3 _ l ne1 vs).toS) few hD ts size1 hts (fun i v hv => ?_) s.heap tup0 off (none_past (Nat.le_refl _)) (fun b hb => none_past ?_) un vs.size 0 _ (Nat.zero_add _) ⟨⟨_, Heap.get?_push_size _ rfl, rfl, rfl⟩, isl1.push _⟩
          (fun b o e => Heap.get?_push_of_some _ (Heap.get?_push_of_some _ e)) ⟨[], #[], 0, _, setTR_fresh at2, Got.zero ts⟩ fun y L es ep t mv R2 got kp => ?_
        · have q : vs.toList[i]? = some v := by
            rw [Array.getElem?_toList]
            exact hv
          rw [hvs, List.getElem?_map] at q
          obtain ⟨p, hp, rfl⟩ := Option.map_eq_some_iff.mp q
          exact ⟨p, hp, rfl⟩
        · rw [List.mem_singleton.mp hb, sz1]
          exact Nat.le_succ _
        · obtain ⟨h2, g2, d2, tk2, os2⟩ := y
          obtain rfl : g2 = s.gens := mv.gens
          obtain rfl : d2 = s.drawn := mv.drawn
          obtain rfl : os2 = s.os := mv.os
          show wpAny _ _ _ _ _ _
          refine wpAny_pure ?_
          show wpAny _ _ (ret Value.none) _ _ _
          rw [size1] at got
          exact wpAny_pure ⟨rfl, h2, tk2, L, es, ep, t, rfl, R2, got, kp⟩
      · cases out2 with
        | error e => exact hy
        | ok fl2 =>
          cases fl2 with
          | ret r =>
            obtain ⟨rfl, h2, tk, L, es, ep, t, rfl, R2, got, kp⟩ := hy
            repeat any_goals first | assumption | wp_step
            exact fin _ _ _ _ _ _ R2 got kp
          | _ => exact hy.elim
    | _ => exact hz.elim
end
/-! ### the same, by functions -/
def fewQ : List (List Int) := (List.range 7).flatMap fun (i : Nat) => (List.range 7).map fun (j : Nat) => [Int.ofNat i, Int.ofNat j]
theorem fewQ_len : fewQ.length < 63 := by decide +kernel
theorem fewQ_mem {i j : Int} (h1 : 0 ≤ i) (h2 : i < 7) (h3 : 0 ≤ j) (h4 : j < 7) : [i, j] ∈ fewQ := by
  unfold fewQ
  refine List.mem_flatMap.mpr ⟨i.toNat, List.mem_range.mpr (by omega), List.mem_map.mpr ⟨j.toNat, List.mem_range.mpr (by omega), ?_⟩⟩
  have e1 : Int.ofNat i.toNat = i := Int.toNat_of_nonneg h1
  have e2 : Int.ofNat j.toNat = j := Int.toNat_of_nonneg h3
  rw [e1, e2]
def rSetQ (K : PySem.W.Frag) (P : Program) (w : World) : List V → Hp → VK → Prop := fun xs H Q => ∃ (l : Addr) (ts : List (Addr × List Int)), xs = [V.ref l] ∧ SqL K H l (ts.map fun p => V.ref p.1) ∧ (∀ p ∈ ts, SqT K H p.1 (p.2.map V.int)) ∧ (∀ p ∈ ts, p.2 ∈ fewQ) ∧
  ∀ a L, H a = none → (L.map (·.2)).Nodup → (∀ p ∈ L, p ∈ ts) → (∀ p ∈ ts, p.2 ∈ L.map (·.2)) → Q (.ref a) (upd H a (SetTO P w a L))
def rLenQ (K : PySem.W.Frag) (P : Program) (w : World) : List V → Hp → VK → Prop := fun xs H Q => ∃ a L, xs = [V.ref a] ∧ H a = some (SetTO P w a L) ∧ (∀ p ∈ L, SqT K H p.1 (p.2.map V.int)) ∧ Q (.int L.length) H
def rLenS (K : PySem.W.Frag) (P : Program) (w : World) : List V → Hp → VK → Prop := fun xs H Q => rSetQ K P w xs H fun v H2 => rLenQ K P w [v] H2 Q
section
variable {X : Cx}
theorem call_setQ (hc : X.calm = true) (hu : X.A.units + 64 < cLine) : CallR X (.type "set") (rSetQ X.K X.prog X.w) := by
  rintro pins s σ H xs us Q I r ⟨l, ts, rfl, hl, hk, hf, q⟩
  rw [Vals.ref1 r]
  obtain ⟨its, rv, pl, hz⟩ := I.list hl
  have hn : H s.heap.objs.size = none := I.hok.fresh (Nat.le_refl _)
  refine new_set (P := X.prog) (w := X.w) ts fewQ (I.ok.hd hc) pl.isList (by simpa using refs_of_vals rv) (fun p hp => I.isT (hk p hp)) fewQ_len hf (by omega) fun h2 tk L es ep t R got kp => ?_
  refine ⟨.ref s.heap.objs.size, upd H s.heap.objs.size (SetTO X.prog X.w s.heap.objs.size L), I.laid (t' := tk) kp (Nat.le_refl _) (setTO_new R.t0), rfl, q _ L hn R.nd (fun p hp => List.mem_of_mem_take (got.sub p hp)) fun p hp => ?_⟩
  exact got.all p (by rw [List.take_length]; exact hp)
theorem call_lenQ : CallR X (.builtin "len") (rLenQ X.K X.prog X.w) := by
  rintro pins s σ H xs us Q I r ⟨a, L, rfl, ha, hk, q⟩
  rw [Vals.ref1 r]
  have R0 : SetT0 X.prog X.w s.heap a L := (I.hok a _ ha).1
  obtain ⟨es, ep, t, R⟩ := R0.full fun p hp => I.isT (hk p hp)
  obtain ⟨o, ho, hex, hd⟩ := R.ob
  have hs := R.size
  have hfew := R.few
  refine call_len_set ho hex hd R.fits (by rw [hs]; omega) ⟨.int L.length, H, I.tok _, ⟨_, by rw [hs]⟩, q⟩
end
def okQ : PyData → Bool
  | .tuple [.int i, .int j] => decide (0 ≤ i) && (decide (i < 7) && (decide (0 ≤ j) && decide (j < 7)))
  | _ => false
def prQ : PyData → Int × Int
  | .tuple [.int i, .int j] => (i, j)
  | _ => (0, 0)
theorem okQ_shape {p : PyData} (h : okQ p = true) : ∃ i j : Int, p = .tuple [.int i, .int j] ∧ 0 ≤ i ∧ i < 7 ∧ 0 ≤ j ∧ j < 7 := by
  unfold okQ at h
  split at h
  · rename_i i j
    simp only [Bool.and_eq_true, decide_eq_true_eq] at h
    exact ⟨i, j, rfl, h.1, h.2.1, h.2.2.1, h.2.2.2⟩
  · cases h
def dedP : List (Int × Int) → List (Int × Int)
  | [] => []
  | x :: l => if x ∈ dedP l then dedP l else x :: dedP l
theorem dedP_mem {x : Int × Int} : ∀ {l : List (Int × Int)}, x ∈ dedP l ↔ x ∈ l
  | [] => Iff.rfl
  | y :: l => by
    have ih := dedP_mem (x := x) (l := l)
    unfold dedP
    split
    · rename_i hy
      rw [ih, List.mem_cons]
      refine ⟨.inr, fun h => ?_⟩
      rcases h with rfl | h
      · exact dedP_mem.mp hy
      · exact h
    · rw [List.mem_cons, List.mem_cons, ih]
theorem dedP_nodup : ∀ l : List (Int × Int), (dedP l).Nodup
  | [] => List.nodup_nil
  | y :: l => by
    unfold dedP
    split
    · exact dedP_nodup l
    · rename_i hy
      exact List.nodup_cons.mpr ⟨hy, dedP_nodup l⟩
def gLenSet : List D → Sto → Res D
  | [.p (.list ds)], S => if ds.all okQ = true then .ok (.p (.int ((dedP (ds.map prQ)).length : Nat))) S else .bad
  | _, _ => .bad
theorem tups_of {K : PySem.W.Frag} {F H : Hp} (e : Same F H) : ∀ {xs : List V} {ds : List PyData}, DqA K F xs ds → ds.all okQ = true → ∃ ts : List (Addr × List Int), xs = (ts.map fun p => V.ref p.1) ∧ (∀ p ∈ ts, SqT K F p.1 (p.2.map V.int)) ∧ (∀ p ∈ ts, p.2 ∈ fewQ) ∧
    ts.map (·.2) = (ds.map prQ).map fun q => [q.1, q.2]
  | _, _, .nil, _ => ⟨[], rfl, fun p hp => (by cases hp), fun p hp => (by cases hp), rfl⟩
  | _, _, .cons h1 h2, ok => by
    rw [List.all_cons, Bool.and_eq_true] at ok
    obtain ⟨ts, e1, e2, e3, e4⟩ := tups_of e h2 ok.2
    obtain ⟨i, j, rfl, k1, k2, k3, k4⟩ := okQ_shape ok.1
    cases h1 with
    | @tup a xs _ hx ha =>
      cases ha with
      | cons z1 z2 =>
        cases z1
        cases z2 with
        | cons z3 z4 =>
          cases z3
          cases z4
          refine ⟨(a, [i, j]) :: ts, by rw [e1]; rfl, fun p hp => ?_, fun p hp => ?_, ?_⟩
          · rcases List.mem_cons.mp hp with rfl | hp
            · exact hx.sq
            · exact e2 p hp
          · rcases List.mem_cons.mp hp with rfl | hp
            · exact fewQ_mem k1 k2 k3 k4
            · exact e3 p hp
          · rw [List.map_cons, e4]
            rfl
theorem len_ded {L : List (List Int)} {ps : List (Int × Int)} (hn : L.Nodup) (h : ∀ k, k ∈ L ↔ k ∈ ps.map fun q => [q.1, q.2]) : L.length = (dedP ps).length := by
  have nd : ((dedP ps).map fun q => ([q.1, q.2] : List Int)).Nodup := by
    refine List.pairwise_map.mpr ((dedP_nodup ps).imp fun {x y} hne e => hne ?_)
    obtain ⟨a, b⟩ := x
    obtain ⟨c, d⟩ := y
    simp only [List.cons.injEq, and_true] at e
    rw [e.1, e.2]
  have l1 := pigeon L ((dedP ps).map fun q => [q.1, q.2]) hn fun k hk => by
    obtain ⟨q, hq, rfl⟩ := List.mem_map.mp ((h k).mp hk)
    exact List.mem_map.mpr ⟨q, dedP_mem.mpr hq, rfl⟩
  have l2 := pigeon ((dedP ps).map fun q => [q.1, q.2]) L nd fun k hk => by
    obtain ⟨q, hq, rfl⟩ := List.mem_map.mp hk
    exact (h _).mpr (List.mem_map.mpr ⟨q, dedP_mem.mp hq, rfl⟩)
  rw [List.length_map] at l1 l2
  omega
theorem bc_lenSet {c : Cw} {P : Program} {w : World} : BCall c (rLenS c.K P w) gLenSet := fun G F io H S σ vs ds Q gd rv q => by
  unfold gLenSet at q
  split at q
  · rename_i ds
    split at q
    · rename_i hok
      cases rv with
      | cons r1 r2 =>
        cases r2
        cases r1 with
        | @lst a xs _ hx ha =>
          obtain ⟨ts, e1, e2, e3, e4⟩ := tups_of gd.ex ha hok
          refine ⟨a, ts, rfl, SqL.of ((gd.ex _ _ hx).trans (by rw [e1])), fun p hp => sq_t gd.ex (e2 p hp), e3, fun b L hb hn hs hall => ?_⟩
          obtain ⟨g2, x2⟩ := gd.new (o := SetTO P w b L) hb
          refine ⟨b, L, rfl, upd_same, fun p hp => sq_t (upd_one hb) (sq_t gd.ex (e2 p (hs p hp))), ?_⟩
          have len : L.length = (dedP (ds.map prQ)).length := by
            have := len_ded (ps := ds.map prQ) hn fun k => ⟨fun hk => ?_, fun hk => ?_⟩
            · rwa [List.length_map] at this
            · obtain ⟨p, hp, rfl⟩ := List.mem_map.mp hk
              rw [← e4]
              exact List.mem_map.mpr ⟨p, hs p hp, rfl⟩
            · rw [← e4] at hk
              obtain ⟨p, hp, rfl⟩ := List.mem_map.mp hk
              exact hall p hp
          rw [len]
          exact q _ _ _ _ x2 g2 (Dq.int _)
    · exact q.elim
  · exact q.elim
theorem pe_lenSet {X : Cx} {e : Expr} {t : TA} (h : PE X e (tCB (rLenQ X.K X.prog X.w) (tCons (tCB (rSetQ X.K X.prog X.w) t) tNil))) : PE X e (tCB (rLenS X.K X.prog X.w) t) := h
theorem boot_set : bootBuiltins ("set" : Str) = some (.type "set") := by decide +kernel
section
variable {S : Sto} {ds : List PyData}
theorem g_lenSet (h : ds.all okQ = true) : gLenSet [.p (.list ds)] S = .ok (.p (.int ((dedP (ds.map prQ)).length : Nat))) S := if_pos h
end
/-! ### an own list that stands from its first reading on -/
def frzA (d : D) (S1 : Sto) : Res D := match d with
  | .own k => match S1[k]? with
    | some (.lst xs) => match asPs xs with
      | some ps => .ok (.p (.list ps)) (S1.set k (.fz (.p (.list ps))))
      | none => .bad
    | some (.fz (.p d)) => .ok (.p d) S1
    | _ => .bad
  | _ => .bad
def fFrzA (fa : FE) : FE := fun ρ S => (fa ρ S).bind frzA
section
variable {X : Cx} {c : Cw} {e : Expr} {fa : FE}
theorem fe_frzA (h : PE X e (tE c fa)) : PE X e (tE c (fFrzA fa)) := pe_imp h fun σ H Q ⟨G, F, io, S, ρ, gd, re, q⟩ => ⟨G, F, io, S, ρ, gd, re, Aft.step q fun d S1 v F1 i1 H1 e1 g1 r1 q1 => by
  have q1 : Aft c G F1 i1 σ (rp c) Q (frzA d S1) := q1
  unfold frzA at q1
  split at q1
  · rename_i k
    split at q1
    · rename_i xs hk
      split at q1
      · rename_i ps ha
        obtain ⟨a0, ea, eo⟩ := r1
        obtain ⟨a', e4, h0, vs, h1, h2⟩ := g1.at_ hk
        rw [eo] at e4
        have e4 : a0 = a' := Option.some.inj e4
        subst e4
        subst ea
        have rd : Rp c.K (upd F1 a0 (.lst vs)) i1 (.ref a0) (.p (.list ps)) := .lst upd_same (dpa_mono (upd_one h0) _ _ (asPs_ok ha h2))
        obtain ⟨g2, e2⟩ := g1.freeze eo h0 h1 rd
        exact q1 (.ref a0) _ _ _ e2 g2 rd
      · exact q1.elim
    · rename_i d hk
      obtain ⟨a0, ea, eo⟩ := r1
      obtain ⟨a', e4, h0, h1⟩ := g1.at_ hk
      rw [eo] at e4
      have e4 : a0 = a' := Option.some.inj e4
      subst e4
      subst ea
      exact q1 (.ref a0) _ _ _ (Ext.refl _ _) g1 h1
    · exact q1.elim
  · exact q1.elim⟩
end
section
variable {fa : FE} {ρ : Env} {S : Sto} {n : Nat} {xs : List D} {ps : List PyData} {d : D} {e : PyData}
def frzAK (q : Res D) : Res D := q.bind frzA
@[simp ↓] theorem ap_frzA : fFrzA fa ρ S = frzAK (fa ρ S) := rfl
@[simp] theorem frzAK_ok : frzAK (.ok d S) = frzA d S := rfl
theorem frzA_lst (h1 : S[n]? = some (.lst xs)) (h2 : asPs xs = some ps) : frzA (.own n) S = .ok (.p (.list ps)) (S.set n (.fz (.p (.list ps)))) := by
  unfold frzA
  simp only [h1, h2]
theorem frzA_fz (h1 : S[n]? = some (.fz (.p e))) : frzA (.own n) S = .ok (.p e) S := by
  unfold frzA
  simp only [h1]
end
end Tw
namespace Tw
open PySem PySem.Spec PyProof.Rows L2

/-! ### defs as values: a list of them that is walked, a call of a variable -/
def fFn (q : Str) : FE := fun _ S => .ok (.fn q) S
/-- over a list display -/
def fItF (fr : FA) : FI := fun ρ S => (fr ρ S).bind fun ds S1 => if ds.length < lim then .ok ds S1 else .bad
def fCalV (tbl : List (Str × (List D → Sto → Res D))) (i : Nat) (fr : FA) : FE := fun ρ S => match ρ[i]? with
  | some (some (.fn q)) => (match tbl.lookup q with
    | some m => (fr ρ S).bind m
    | none => .bad)
  | _ => .bad
section
variable {X : Cx} {c : Cw} {tg e : Expr} {es : List Expr} {fr : FA} {p pos : Pos} {q x : Str} {k n i : Nat} {tbl : List (Str × (List D → Sto → Res D))}
theorem fe_fn (hg : Gl X q) (gx : X.mg q = some (.ref (He.ga X.K q))) (hK : c.K = X.K := by rfl) (hd : (q == ("__debug__" : Str)) = false := by decide) : PE X (.Name q p) (tE c (fFn q)) :=
  pe_imp (pe_glob (X := X) (v := .ref (He.ga X.K q)) hg gx rfl hd) fun σ H Q ⟨G, F, io, S, ρ, gd, re, z⟩ => by
    have r : rp c F io (V.ref (He.ga X.K q)) (.fn q) := by
      show V.ref (He.ga X.K q) = V.ref (He.ga c.K q)
      rw [hK]
    have z : Aft c G F io σ (rp c) Q (.ok (.fn q) S) := z
    exact Aft.here (v := V.ref (He.ga X.K q)) z gd r
theorem itd_lstD {F : Hp} {io : List Addr} {a : Addr} {vs : List V} {ds : List D} (hx : SqL c.K F a vs) (ha : RpA c.K F io vs ds) : ItD c F io (Itl c.K a) ds where
  go := fun i G H F1 io1 S1 hi e g => by
    obtain ⟨v, h1, h2⟩ := paired_get ha (List.getElem?_eq_getElem hi)
    refine ⟨⟨vs, v, g.ex.seq (e.same.seq hx), h1⟩, fun x H' ⟨e1, y⟩ => ?_⟩
    subst e1
    have hv := y vs (g.ex.seq (e.same.seq hx))
    rw [h1] at hv
    have hv : v = x := Option.some.inj hv
    subst hv
    exact ⟨F1, Ext.refl _ _, g, ds[i], List.getElem?_eq_getElem hi, rp_mono e h2⟩
  stop := fun i G H F1 io1 S1 hi e g => ⟨vs, g.ex.seq (e.same.seq hx), by rw [paired_len ha]; exact hi⟩
theorem fi_fns (h : PA X es (tA c fr)) (hK : c.K = X.K := by rfl) : PI X tg (.List es pos) (tI c (fItF fr)) :=
  pi_imp (pi_list (pe_lst h)) fun σ H R ⟨G, F, io, S, ρ, gd, re, z⟩ => ⟨G, F, io, S, ρ, gd, re, Aft.step z fun ds S1 vs F1 i1 H1 e1 g1 r1 q1 => by
    have q1 : Aft c G F1 i1 σ (fun F' io' (J : It) (ds : List D) => ItD c F' io' J ds) R (if ds.length < lim then .ok ds S1 else .bad) := q1
    by_cases hl : ds.length < lim
    · rw [if_pos hl] at q1
      refine ⟨by rw [paired_len r1]; exact Nat.le_trans (Nat.le_of_lt hl) lim_line, fun p hp => ?_⟩
      obtain ⟨g2, e2⟩ := g1.new (o := .lst vs) hp
      have hx : SqL c.K (upd F1 p (.lst vs)) p vs := SqL.of upd_same
      rw [← hK]
      exact ⟨p, rfl, ⟨vs, g2.ex.seq hx⟩, q1 _ _ _ _ e2 g2 (itd_lstD hx (rpa_mono e2 r1))⟩
    · rw [if_neg hl] at q1
      exact q1.elim⟩
theorem fe_calV (hT : ∀ q m, tbl.lookup q = some m → Cal X.prog X.w X.K X.mg X.base q k n m ∧ X.mg q = some (.ref (He.ga X.K q))) (hr : Room k X.A) (tk : Takes X c.W) (ha : PA X (e :: es) (tA c fr)) (hl : ∀ ρ S ds S', fr ρ S = .ok ds S' → ds.length = (e :: es).length)
    (hx : PE X (.Name x p) (tVar i)) (hn : (e :: es).length = n := by rfl) (hK : c.K = X.K := by rfl)
    (he : starEach (e :: es) X.env = (false, eval e X.env) :: starEach es X.env := by rfl) (hpl : (backTo pos (starEach es X.env)).any (·.1) = false := by rfl) : PE X (.Call (.Name x p) (e :: es) [] pos) (tE c (fCalV tbl i fr)) := by
  refine ⟨fun pins s σ H Q I ⟨G, F, io, S, ρ, gd, re, z⟩ => ?_⟩
  unfold fCalV at z
  split at z
  · rename_i q hq
    split at z
    · rename_i m hm
      obtain ⟨⟨f, fd, ps, Fn, hm1, hk, hb⟩, hm2⟩ := hT q m hm
      obtain rfl : f = He.ga X.K q := by
        rw [hm1] at hm2
        exact Value.ref.inj (Option.some.inj hm2)
      obtain ⟨v, h1, h2⟩ := re.2 i _ hq
      have h2 : v = .ref (He.ga c.K q) := h2
      rw [hK] at h2
      subst h2
      refine wpAny_Call_Name_kw (thn (hx.run pins s σ H (fun u H1 => u = .ref (He.ga X.K q) ∧ tA c fr σ H1 fun vs H2 => spF X.K m n vs H2 Q (WE c.W σ)) I ⟨_, h1, rfl, G, F, io, S, ρ, gd, re, ?_⟩) fun u s1 ⟨v, H1, I1, r1, e1, z1⟩ => ?_)
      · cases hf : fr ρ S with
        | ok ds S1 =>
          rw [hf] at z
          intro vs F1 i1 H1 e1 g1 r1
          have z2 := Aft.ext (r := m ds S1) z e1
          rw [← hK]
          refine ⟨by rw [paired_len r1, hl ρ S ds S1 hf, hn], G, F1, i1, S1, ds, g1, r1, ?_⟩
          cases hmm : m ds S1 with
          | ok d S2 => rw [hmm] at z2; exact z2
          | exc nm as S2 => rw [hmm] at z2; exact z2
          | bad => rw [hmm] at z2; exact z2
        | exc nm as S1 => rw [hf] at z; exact z
        | bad => rw [hf] at z; exact z
      · subst e1
        obtain rfl : u = Value.ref (He.ga X.K q) := r1
        refine PySem.W.callWith_K (h₀ := X.base) I1.ok.mod.kin hk (thn (ha.run pos pins s1 σ H1 _ I1 z1) fun us s2 ⟨vs, H2, I2, r, z2⟩ => ⟨I2.kIn, ?_⟩) he hpl
        exact run_fnS (E := WE c.W) Fn hr hb (passAt tk σ) I2 r z2
    · exact z.elim
  · exact z.elim
end
theorem tbl2 {β : Type} {Pr : Str → β → Prop} {q1 q2 : Str} {m1 m2 : β} (h1 : Pr q1 m1) (h2 : Pr q2 m2) : ∀ q m, ([(q1, m1), (q2, m2)] : List (Str × β)).lookup q = some m → Pr q m := by
  intro q m h
  by_cases e1 : q = q1
  · subst e1
    have h : ([(q, m1), (q2, m2)] : List (Str × β)).lookup q = some m := h
    rw [List.lookup_cons_self] at h
    rw [← Option.some.inj h]
    exact h1
  · have b1 : (q == q1) = false := by simpa using e1
    rw [List.lookup_cons, b1] at h
    dsimp only at h
    by_cases e2 : q = q2
    · subst e2
      rw [List.lookup_cons_self] at h
      rw [← Option.some.inj h]
      exact h2
    · have b2 : (q == q2) = false := by simpa using e2
      rw [List.lookup_cons, b2] at h
      cases h
section
variable {ρ : Env} {S : Sto} {fr : FA} {ds : List D} {q : Str} {i : Nat} {tbl : List (Str × (List D → Sto → Res D))} {m : List D → Sto → Res D}
@[simp ↓] theorem ap_fn : fFn q ρ S = .ok (.fn q) S := rfl
def itFK (r : Res (List D)) : Res (List D) := r.bind fun ds S1 => if ds.length < lim then .ok ds S1 else .bad
@[simp ↓] theorem ap_itF : fItF fr ρ S = itFK (fr ρ S) := rfl
theorem itFK_ok (h : ds.length < lim) : itFK (.ok ds S) = .ok ds S := if_pos h
theorem ap_calV (h1 : ρ[i]? = some (some (.fn q))) (h2 : tbl.lookup q = some m) : fCalV tbl i fr ρ S = (fr ρ S).bind m := by
  unfold fCalV
  rw [h1]
  dsimp only
  rw [h2]
end
end Tw
namespace Tw
open PySem PySem.Spec PyProof.Rows L2

/-! ### instances with attributes -/
def fcCls (cn : Str) : PySem.W.Frag → Bool := fun K => PySem.W.plainGet K (He.ga K cn) Str.empty && (PySem.W.hasDictIn K (He.ga K cn) && (PySem.W.plainOver K (He.ga K cn) && decide (PySem.W.findIn K (.ref (He.ga K cn)) "__setattr__" = some (some (.builtin "object.__setattr__")))))
theorem fcCls_ok {cn : Str} {K : PySem.W.Frag} (h : fcCls cn K = true) : Cls K (He.ga K cn) := by
  obtain ⟨h1, h⟩ := He.ba h
  obtain ⟨h2, h⟩ := He.ba h
  obtain ⟨h3, h4⟩ := He.ba h
  exact ⟨h1, h2, h3, of_decide_eq_true h4⟩
def fcNo (cn f : Str) : PySem.W.Frag → Bool := fun K => decide (PySem.W.findIn K (.ref (He.ga K cn)) f = some none)
theorem fcNo_ok {cn f : Str} {K : PySem.W.Frag} (h : fcNo cn f K = true) : NoAttr K (He.ga K cn) f := (of_decide_eq_true h : PySem.W.findIn K (.ref (He.ga K cn)) f = some none)
abbrev FsR (K : PySem.W.Frag) (F : Hp) (io : List Addr) : List (Str × V) → List (Str × D) → Prop := Paired (fun (p : Str × V) (q : Str × D) => p.1 = q.1 ∧ Rp K F io p.2 q.2)
theorem fs_look {K : PySem.W.Frag} {F : Hp} {io : List Addr} {f : Str} : ∀ {fvs : List (Str × V)} {fs : List (Str × D)}, FsR K F io fvs fs → (fs.lookup f = none → fvs.lookup f = none) ∧ ∀ x, fs.lookup f = some x → ∃ v, fvs.lookup f = some v ∧ Rp K F io v x
  | _, _, .nil => ⟨fun _ => rfl, fun x h => (by cases h)⟩
  | _, _, .cons (a := p) (b := q) h t => by
    obtain ⟨g, v⟩ := p
    obtain ⟨g', d⟩ := q
    obtain ⟨h1, h2⟩ := h
    have h1 : g = g' := h1
    subst h1
    obtain ⟨i1, i2⟩ := fs_look (f := f) t
    rw [lookup_put, lookup_cons_fs]
    by_cases e : f = g
    · rw [if_pos e, if_pos e]
      exact ⟨fun z => (by cases z), fun x z => ⟨v, rfl, by rw [← Option.some.inj z]; exact h2⟩⟩
    · rw [if_neg e, if_neg e]
      exact ⟨i1, i2⟩
where
  lookup_cons_fs {f g : Str} {d : D} {fs : List (Str × D)} : ((g, d) :: fs).lookup f = if f = g then some d else fs.lookup f := by
    by_cases h : f = g
    · subst h
      simp [List.lookup]
    · have e : (f == g) = false := by simpa using h
      rw [if_neg h]
      simp [List.lookup, e]
def putL (f : Str) (d : D) : List (Str × D) → List (Str × D)
  | [] => [(f, d)]
  | (g, x) :: r => if g = f then (g, d) :: r else (g, x) :: putL f d r
theorem fs_put {K : PySem.W.Frag} {F : Hp} {io : List Addr} {f : Str} {v : V} {d : D} (r : Rp K F io v d) : ∀ {fvs : List (Str × V)} {fs : List (Str × D)}, FsR K F io fvs fs → FsR K F io (putF f v fvs) (putL f d fs)
  | _, _, .nil => .cons ⟨rfl, r⟩ .nil
  | _, _, .cons (a := p) (b := q) h t => by
    obtain ⟨g, v0⟩ := p
    obtain ⟨g', d0⟩ := q
    obtain ⟨h1, h2⟩ := h
    have h1 : g = g' := h1
    subst h1
    unfold putF putL
    by_cases e : g = f
    · rw [if_pos e, if_pos e]
      exact .cons ⟨rfl, r⟩ t
    · rw [if_neg e, if_neg e]
      exact .cons ⟨rfl, h2⟩ (fs_put r t)
/-- e.f -/
def getI (cn f : Str) (d : D) (S : Sto) : Res D := match d with
  | .own k => match S[k]? with
    | some (.ins n fs) => if n = cn then (match fs.lookup f with
      | some x => .ok x S
      | none => .bad) else .bad
    | _ => .bad
  | _ => .bad
def fGetI (cn f : Str) (fa : FE) : FE := fun ρ S => (fa ρ S).bind (getI cn f)
/-- o.f = e -/
def putI (cn f : Str) (ρ : Env) (y d : D) (S : Sto) : Fl := match d with
  | .own k => match S[k]? with
    | some (.ins n fs) => if n = cn ∧ fs.length < 900 then .nx ρ (S.set k (.ins n (putL f y fs))) else .bad
    | _ => .bad
  | _ => .bad
def fPutI (cn f : Str) (fv fo : FE) : FS := fun ρ S => (fv ρ S).thn ρ fun y S1 => (fo ρ S1).thn ρ fun d S2 => putI cn f ρ y d S2
section
variable {X : Cx} {c : Cw} {e o value : Expr} {pos pos' : Pos} {fa fv fo : FE} {cn f : Str}
theorem fe_getI (cl : Cls X.K (He.ga X.K cn)) (no : NoAttr X.K (He.ga X.K cn) f) (he : PE X e (tE c fa)) (hK : c.K = X.K := by rfl) (hb : attributeBase e f X.env (eval e X.env) = eval e X.env := by rfl) : PE X (.Attribute e f pos) (tE c (fGetI cn f fa)) :=
  pe_imp (pe_fld he hb) fun σ H Q ⟨G, F, io, S, ρ, gd, re, q⟩ => ⟨G, F, io, S, ρ, gd, re, Aft.step q fun d S1 v F1 i1 H1 e1 g1 r1 q1 => by
    have q1 : Aft c G F1 i1 σ (rp c) Q (getI cn f d S1) := q1
    unfold getI at q1
    split at q1
    · rename_i k
      split at q1
      · rename_i n fs hk
        split at q1
        · rename_i hn
          split at q1
          · rename_i x hx
            obtain ⟨a, rfl, ia⟩ := r1
            obtain ⟨a', ia', h0, dx, fvs, h1, h2, h3⟩ := g1.at_ hk
            obtain rfl : a = a' := Option.some.inj (ia.symm.trans ia')
            obtain ⟨v', l1, l2⟩ := (fs_look h3).2 x hx
            exact ⟨a, He.ga X.K cn, dx, fvs, v', rfl, by rw [← hK, ← hn]; exact h1, cl, no, l1, q1 v' _ _ _ (Ext.refl _ _) g1 l2⟩
          · exact q1.elim
        · exact q1.elim
      · exact q1.elim
    · exact q1.elim⟩
theorem fs_putI (cl : Cls X.K (He.ga X.K cn)) (no : NoAttr X.K (He.ga X.K cn) f) (hv : PE X value (tE c fv)) (ho : PE X o (tE c fo)) (hK : c.K = X.K := by rfl) (hs : swapsWith value (some (.Attribute o f pos')) pos.line X.env = pure false := by rfl) : PS X (.Assign [.Attribute o f pos'] value pos) (tS c (fPutI cn f fv fo)) :=
  ps_imp (ps_fld ho hv hs) fun N σ H ⟨G, F, io, S, ρ, gd, re, q⟩ => ⟨G, F, io, S, ρ, gd, re, AftS.step q re fun y S1 v F1 i1 H1 e1 g1 r1 q1 => ⟨G, F1, i1, S1, ρ, g1, renv_mono e1 re, AftS.step q1 (renv_mono e1 re) fun d S2 v2 F2 i2 H2 e2 g2 r2 q2 => by
    have q2 : AftS c G F2 i2 N (putI cn f ρ y d S2) := q2
    unfold putI at q2
    split at q2
    · rename_i k
      split at q2
      · rename_i n fs hk
        split at q2
        · rename_i hn
          obtain ⟨hn, hl⟩ := hn
          obtain ⟨a, rfl, ia⟩ := r2
          obtain ⟨a', ia', h0, dx, fvs, h1, h2, h3⟩ := g2.at_ hk
          obtain rfl : a = a' := Option.some.inj (ia.symm.trans ia')
          have len := paired_len h3
          refine ⟨a, He.ga X.K cn, dx, fvs, rfl, by rw [← hK, ← hn]; exact h1, cl, no, by omega, ?_⟩
          rw [← hK, ← hn]
          have g3 := g2.put (o := .ins (He.ga c.K n) dx (putF f v fvs)) (x := .ins n (putL f y fs)) ia h0 ⟨h0, dx, _, upd_same, h2, fs_put (rp_mono e2 r1) h3⟩
          exact q2 σ _ _ _ (Ext.refl _ _) g3 (renv_mono (e1.trans e2) re)
        · exact q2.elim
      · exact q2.elim
    · exact q2.elim⟩⟩
end
end Tw
namespace Tw
open PySem PySem.Spec PyProof.Rows L2

/-! ### instances are made; what they do -/
theorem Good.newI {K : PySem.W.Frag} {G F : Hp} {io : List Addr} {H : Hp} {S : Sto} {x dx : Addr} {cn : Str} (g : Good K G F io H S) (hx : H x = none) (hd : H dx = none) (ne : dx ≠ x) :
    Good K G (upd F dx (.own x)) (io ++ [x]) (upd (upd H dx (.own x)) x (.ins (He.ga K cn) dx [])) (S ++ [.ins cn []]) ∧ Ext F io (upd F dx (.own x)) (io ++ [x]) := by
  obtain ⟨g1, e1⟩ := g.new (o := .own x) hd
  have hx2 : upd H dx (.own x) x = none := (upd_ne (Ne.symm ne)).trans hx
  have fx : upd F dx (.own x) x = none := (upd_ne (Ne.symm ne)).trans (g.out hx)
  obtain ⟨g2, e2⟩ := g1.newOwn (o := .ins (He.ga K cn) dx []) (x := .ins cn []) hx2 ⟨fx, dx, [], upd_same, upd_same, .nil⟩
  exact ⟨g2, e1.trans e2⟩
section
variable (P : Program) (w : World) (K : PySem.W.Frag) (mg : Str → Option Value) (base : Heap) (cn x : Str) (k n : Nat) (m : List D → Sto → Res D)
structure CalTI : Prop where
  ex : ∃ f fd ps, FnOk P w K mg base (L2.CX P w) k f fd ps (spF K m n) ∧ Mk K (He.ga K cn) f ∧ Binds K fd ps []
structure CalTM : Prop where
  ex : ∃ f fd ps, FnOk P w K mg base (L2.CX P w) k f fd ps (spF K m n) ∧ Meth K (He.ga K cn) x f ∧ Binds K fd ps []
structure CalTP : Prop where
  ex : ∃ p g fd ps, FnOk P w K mg base (L2.CX P w) k g fd ps (spF K m n) ∧ PropOf K (He.ga K cn) x p g ∧ Binds K fd ps []
end
/-- C(..), its __init__ read by m, which leaves what it makes -/
def mkI (cn : Str) (m : List D → Sto → Res D) (ds : List D) (S : Sto) : Res D := match m (.own S.length :: ds) (S ++ [.ins cn []]) with
  | .ok (.p .none) S' => .ok (.own S.length) S'
  | .exc n as S' => .exc n as S'
  | _ => .bad
/-- the place of an instance of cn that has no attribute x -/
def insAt (cn x : Str) (d : D) (S : Sto) : Bool := match d with
  | .own k => match S[k]? with
    | some (.ins n fs) => decide (n = cn) && (fs.lookup x).isNone
    | _ => false
  | _ => false
def fMtI (cn x : Str) (m : List D → Sto → Res D) (fa : FE) (fr : FA) : FE := fun ρ S => (fa ρ S).bind fun d S1 => if insAt cn x d S1 = true then (fr ρ S1).bind fun ds S2 => m (d :: ds) S2 else .bad
def fPrI (cn x : Str) (m : List D → Sto → Res D) (fa : FE) : FE := fun ρ S => (fa ρ S).bind fun d S1 => if insAt cn x d S1 = true then (match m [d] S1 with
  | .ok d S2 => .ok d S2
  | _ => .bad) else .bad
theorem insAt_ok {K : PySem.W.Frag} {G F : Hp} {io : List Addr} {H : Hp} {S : Sto} {cn x : Str} {d : D} {v : V} (g : Good K G F io H S) (h : insAt cn x d S = true) (r : Rp K F io v d) : ∃ a dx fvs, v = .ref a ∧ H a = some (.ins (He.ga K cn) dx fvs) ∧ fvs.lookup x = none := by
  unfold insAt at h
  split at h
  · rename_i k
    split at h
    · rename_i n fs hk
      rw [Bool.and_eq_true] at h
      have hn : n = cn := of_decide_eq_true h.1
      obtain ⟨a, rfl, ia⟩ := r
      obtain ⟨a', ia', h0, dx, fvs, h1, h2, h3⟩ := g.at_ hk
      obtain rfl : a = a' := Option.some.inj (ia.symm.trans ia')
      refine ⟨a, dx, fvs, rfl, by rw [← hn]; exact h1, (fs_look h3).1 ?_⟩
      cases hl : fs.lookup x with
      | none => rfl
      | some y =>
        rw [hl] at h
        cases h.2
    · cases h
  · cases h
section
variable {X : Cx} {c : Cw} {e o : Expr} {es : List Expr} {pos p0 apos : Pos} {fa : FE} {fr : FA} {cn x : Str} {k n : Nat} {m : List D → Sto → Res D}
theorem aft_mkI {G F : Hp} {io : List Addr} {H : Hp} {σ : L2.St} {S : Sto} {Q : VK} {x dx : Addr} {vs : List V} {ds : List D} (g : Good c.K G F io H S) (r : RpA c.K F io vs ds) (q : Aft c G F io σ (rp c) Q (mkI cn m ds S)) (hx : H x = none) (hd : H dx = none) (ne : dx ≠ x) (hl : ds.length = n) :
    spF c.K m (n + 1) (.ref x :: vs) (upd (upd H dx (.own x)) x (.ins (He.ga c.K cn) dx [])) (fun v H2 => v = .non ∧ Q (.ref x) H2) (WE c.W σ) := by
  obtain ⟨g2, e2⟩ := g.newI (cn := cn) hx hd ne
  have ix : (io ++ [x])[S.length]? = some x := by
    rw [← g.len]
    exact own_last
  refine ⟨by rw [List.length_cons, paired_len r, hl], G, _, io ++ [x], _, .own S.length :: ds, g2, .cons ⟨x, rfl, ix⟩ (rpa_mono e2 r), ?_⟩
  unfold mkI at q
  cases hm : m (.own S.length :: ds) (S ++ [.ins cn []]) with
  | bad => rw [hm] at q; exact q.elim
  | exc nm as S' =>
    rw [hm] at q
    exact fun cls dd F' io' H' e' g' x' => q cls dd F' io' H' (e2.trans e') g' x'
  | ok d S' =>
    rw [hm] at q
    intro v F' io' H' e' g' r'
    split at q
    · rename_i S0 h0
      obtain ⟨rfl, rfl⟩ := Res.ok.inj h0
      cases r'
      exact ⟨rfl, q (.ref x) F' io' H' (e2.trans e') g' ⟨x, rfl, e'.ix ix⟩⟩
    · rename_i h0
      cases h0
    · exact q.elim
theorem fe_mkI (h : CalTI X.prog X.w X.K X.mg X.base cn k (n + 1) m) (hm : X.mg cn = some (.ref (He.ga X.K cn))) (hr : Room (k + 1) X.A) (tk : Takes X c.W) (ha : PA X (e :: es) (tA c fr)) (hl : ∀ ρ S ds S', fr ρ S = .ok ds S' → ds.length = (e :: es).length)
    (hn : (e :: es).length = n := by rfl) (hK : c.K = X.K := by rfl) (hg : Gl X cn := by rfl) (hdb : (cn == ("__debug__" : Str)) = false := by decide)
    (he : starEach (e :: es) X.env = (false, eval e X.env) :: starEach es X.env := by rfl) (hpl : (backTo pos (starEach es X.env)).any (·.1) = false := by rfl) : PE X (.Call (.Name cn p0) (e :: es) [] pos) (tE c (fCall (mkI cn m) fr)) := by
  obtain ⟨f, fd, ps, fn, M, bd⟩ := h.ex
  refine ⟨fun pins s σ H Q I ⟨G, F, io, S, ρ, gd, re, q⟩ => wpAny_Call_Name_kw (ld_glob I hg hm (PySem.W.callWith_K (h₀ := X.base) I.ok.mod.kin M.kp (thn (ha.run pos pins s σ H (fun vs H1 => ∀ x dx, H1 x = none → H1 dx = none → dx ≠ x → spF X.K m (n + 1) (.ref x :: vs) (upd (upd H1 dx (.own x)) x (.ins (He.ga X.K cn) dx [])) (fun v H2 => v = .non ∧ Q (.ref x) H2) (WE c.W σ)) I ⟨G, F, io, S, ρ, gd, re, ?_⟩) ?_) he hpl) hdb)⟩
  · unfold fCall at q
    cases hf : fr ρ S with
    | bad => rw [hf] at q; exact q.elim
    | exc nm as S1 => rw [hf] at q; exact q
    | ok ds S1 =>
      rw [hf] at q
      intro vs F1 i1 H1 e1 g1 r1 x dx hx hd ne
      rw [← hK]
      exact aft_mkI g1 r1 (Aft.ext (r := mkI cn m ds S1) q e1) hx hd ne ((hl ρ S ds S1 hf).trans hn)
  · rintro us s1 ⟨vs, H1, I1, r, q2⟩
    exact ⟨I1.kIn, run_mk M fn hr bd (passAt tk σ) I1 r q2⟩
theorem fe_mtI {pl : Sem Bool} (h : CalTM X.prog X.w X.K X.mg X.base cn x k (n + 1) m) (cl : Cls X.K (He.ga X.K cn)) (hr : Room k X.A) (tk : Takes X c.W) (ho : PE X o (tE c fa)) (ha : PA X (e :: es) (tA c fr)) (hl : ∀ ρ S ds S', fr ρ S = .ok ds S' → ds.length = (e :: es).length)
    (hn : (e :: es).length = n := by rfl) (hK : c.K = X.K := by rfl) (hst : starEach (e :: es) X.env = (false, eval e X.env) :: starEach es X.env := by rfl) (hpl : (backTo pos (starEach es X.env)).any (·.1) = false := by rfl)
    (ht : eval (.Call (.Attribute o x apos) (e :: es) [] pos) X.env = (do
      let ov ← eval o X.env
      standAt apos.atName
      let (f, first) ← holding [ov] (getMethod ov x pl)
      callWith pos f first (backTo pos (starEach (e :: es) X.env)) (backToKw pos (keywordEach [] X.env))) := by rfl) :
    PE X (.Call (.Attribute o x apos) (e :: es) [] pos) (tE c (fMtI cn x m fa fr)) := by
  obtain ⟨f, fd, ps, fn, M, bd⟩ := h.ex
  refine ⟨fun pins s σ H Q I ⟨G, F, io, S, ρ, gd, re, q⟩ => PySem.W.methodCall_KW (pl := pl) (thn (ho.run pins s σ H (fun v H1 => ∃ a dx fvs, v = .ref a ∧ H1 a = some (.ins (He.ga X.K cn) dx fvs) ∧ fvs.lookup x = none ∧ tA c fr σ H1 fun ws H2 => spF X.K m (n + 1) (.ref a :: ws) H2 Q (WE c.W σ)) I ⟨G, F, io, S, ρ, gd, re, ?_⟩) ?_) ht⟩
  · refine Aft.step q fun d S1 v1 F1 i1 H1 e1 g1 r1 q1 => ?_
    have q1 : Aft c G F1 i1 σ (rp c) Q (if insAt cn x d S1 = true then (fr ρ S1).bind fun ds S2 => m (d :: ds) S2 else .bad) := q1
    by_cases hi : insAt cn x d S1 = true
    · rw [if_pos hi] at q1
      obtain ⟨a, dx, fvs, rfl, h1, h2⟩ := insAt_ok g1 hi r1
      rw [hK] at h1
      refine ⟨a, dx, fvs, rfl, h1, h2, G, F1, i1, S1, ρ, g1, renv_mono e1 re, ?_⟩
      cases hf : fr ρ S1 with
      | bad => rw [hf] at q1; exact q1.elim
      | exc nm as S2 => rw [hf] at q1; exact q1
      | ok ds S2 =>
        rw [hf] at q1
        intro ws F2 i2 H2 e2 g2 r2
        have q2 := Aft.ext (r := m (d :: ds) S2) q1 e2
        rw [← hK]
        refine ⟨by rw [List.length_cons, paired_len r2, hl ρ S1 ds S2 hf, hn], G, F2, i2, S2, d :: ds, g2, .cons (rp_mono e2 r1) r2, ?_⟩
        cases hm : m (d :: ds) S2 with
        | ok d S3 => rw [hm] at q2; exact q2
        | exc nm as S3 => rw [hm] at q2; exact q2
        | bad => rw [hm] at q2; exact q2
    · rw [if_neg hi] at q1
      exact q1.elim
  · rintro u s1 ⟨v, H1, I1, rv, a, dx, fvs, rfl, ea, l, q2⟩
    obtain rfl : u = Value.ref a := rv
    refine getmeth_ok I1 ea cl M l (PySem.W.callWith_K (first := [.ref a]) (h₀ := X.base) I1.ok.mod.kin M.kp (thn (ha.run pos pins s1 σ H1 _ I1 q2) ?_) hst hpl)
    rintro us s2 ⟨ws, H2, I2, r, q3⟩
    exact ⟨I2.kIn, run_fnS (us := .ref a :: us) (vs := .ref a :: ws) (E := WE c.W) fn hr bd (passAt tk σ) I2 (.cons rfl r) q3⟩
/-- the same, no argument -/
theorem fe_mtI0 {pl : Sem Bool} (h : CalTM X.prog X.w X.K X.mg X.base cn x k 1 m) (cl : Cls X.K (He.ga X.K cn)) (hr : Room k X.A) (tk : Takes X c.W) (ho : PE X o (tE c fa)) (hK : c.K = X.K := by rfl)
    (ht : eval (.Call (.Attribute o x apos) [] [] pos) X.env = (do
      let ov ← eval o X.env
      standAt apos.atName
      let (f, first) ← holding [ov] (getMethod ov x pl)
      callWith pos f first (backTo pos (starEach [] X.env)) (backToKw pos (keywordEach [] X.env))) := by rfl) :
    PE X (.Call (.Attribute o x apos) [] [] pos) (tE c (fMtI cn x m fa fNil)) := by
  obtain ⟨f, fd, ps, fn, M, bd⟩ := h.ex
  refine ⟨fun pins s σ H Q I ⟨G, F, io, S, ρ, gd, re, q⟩ => PySem.W.methodCall_KW (pl := pl) (thn (ho.run pins s σ H (fun v H1 => ∃ a dx fvs, v = .ref a ∧ H1 a = some (.ins (He.ga X.K cn) dx fvs) ∧ fvs.lookup x = none ∧ spF X.K m 1 [.ref a] H1 Q (WE c.W σ)) I ⟨G, F, io, S, ρ, gd, re, ?_⟩) ?_) ht⟩
  · refine Aft.step q fun d S1 v1 F1 i1 H1 e1 g1 r1 q1 => ?_
    have q1 : Aft c G F1 i1 σ (rp c) Q (if insAt cn x d S1 = true then m [d] S1 else .bad) := q1
    by_cases hi : insAt cn x d S1 = true
    · rw [if_pos hi] at q1
      obtain ⟨a, dx, fvs, rfl, h1, h2⟩ := insAt_ok g1 hi r1
      rw [hK] at h1
      refine ⟨a, dx, fvs, rfl, h1, h2, ?_⟩
      rw [← hK]
      refine ⟨rfl, G, F1, i1, S1, [d], g1, .cons r1 .nil, ?_⟩
      cases hm : m [d] S1 with
      | ok d S3 => rw [hm] at q1; exact q1
      | exc nm as S3 => rw [hm] at q1; exact q1
      | bad => rw [hm] at q1; exact q1
    · rw [if_neg hi] at q1
      exact q1.elim
  · rintro u s1 ⟨v, H1, I1, rv, a, dx, fvs, rfl, ea, l, q2⟩
    obtain rfl : u = Value.ref a := rv
    refine getmeth_ok I1 ea cl M l ?_
    exact PySem.W.callWith_K0 (first := [.ref a]) I1.kIn M.kp (run_fnS (us := [.ref a]) (vs := [.ref a]) (E := WE c.W) fn hr bd (passAt tk σ) I1 (.cons rfl .nil) q2)
theorem fe_prI (h : CalTP X.prog X.w X.K X.mg X.base cn x k 1 m) (cl : Cls X.K (He.ga X.K cn)) (hr : Room (k + 1) X.A) (he : PE X e (tE c fa)) (hK : c.K = X.K := by rfl) (hb : attributeBase e x X.env (eval e X.env) = eval e X.env := by rfl) : PE X (.Attribute e x pos) (tE c (fPrI cn x m fa)) := by
  obtain ⟨p, g, fd, ps, fn, pr, bd⟩ := h.ex
  have fn0 : FnOk X.prog X.w X.K X.mg X.base L2.CX0 k g fd ps (sp0 (spF X.K m 1)) := fn_calm fn fun vs H Q E h => h
  refine ⟨fun pins s σ H Q I ⟨G, F, io, S, ρ, gd, re, q⟩ => attr_of hb (thn (he.run pins s σ H (fun v H1 => ∃ a dx fvs, v = .ref a ∧ H1 a = some (.ins (He.ga X.K cn) dx fvs) ∧ sp0 (spF X.K m 1) [.ref a] H1 Q fun _ _ _ => False) I ⟨G, F, io, S, ρ, gd, re, ?_⟩) ?_)⟩
  · refine Aft.step q fun d S1 v1 F1 i1 H1 e1 g1 r1 q1 => ?_
    have q1 : Aft c G F1 i1 σ (rp c) Q (if insAt cn x d S1 = true then (match m [d] S1 with
      | .ok d S2 => .ok d S2
      | _ => .bad) else .bad) := q1
    by_cases hi : insAt cn x d S1 = true
    · rw [if_pos hi] at q1
      obtain ⟨a, dx, fvs, rfl, h1, h2⟩ := insAt_ok g1 hi r1
      rw [hK] at h1
      refine ⟨a, dx, fvs, rfl, h1, rfl, G, F1, i1, S1, [d], by rw [← hK]; exact g1, .cons (by rw [← hK]; exact r1) .nil, ?_⟩
      cases hm : m [d] S1 with
      | ok d S2 =>
        rw [hm] at q1
        intro v F' io' H' e' g' r'
        exact q1 v F' io' H' e' (by rw [hK]; exact g') (by rw [show rp c = fun F io v d => Rp c.K F io v d from rfl, hK]; exact r')
      | exc n as S2 => rw [hm] at q1; exact q1.elim
      | bad => rw [hm] at q1; exact q1.elim
    · rw [if_neg hi] at q1
      exact q1.elim
  · rintro u s1 ⟨v, H1, I1, rv, a, dx, fvs, rfl, ea, q2⟩
    obtain rfl : u = Value.ref a := rv
    exact getprop_ok (dvs := []) (ds := []) (E := fun _ _ _ => False) I1 ea cl pr fn0 hr bd .nil pass0 q2
end
end Tw
namespace Tw
open PySem PySem.Spec PyProof.Rows L2

/-! ### len(x), x an instance of a class with __len__ -/
theorem own_special {M : Model} {A : Around} {E : Value → Shared → Prop} {s : Shared} {self : Value} {name : Str} {f : Addr} {Q : Option Value → Shared → Prop} (sp : PySem.W.Looks M s.heap (specialOf self name) (some (.ref f))) (hb : PySem.W.Looks M s.heap (bindSpecial (.ref f) self) (.ref f, [self]))
    (hc : wpAny M A (call (.ref f) [self]) (fun v => Q (some v)) E s) : wpAny M A (callSpecial? self name []) Q E s := by
  simp only [callSpecial?]
  refine wpAny_bind (sp.here ?_)
  refine wpAny_holding (wpAny_bind (hb.here ?_))
  exact wpAny_bind (wpAny_mono hc (fun v s' h' => wpAny_pure h') fun _ _ h' => h')
def rLenI (K : PySem.W.Frag) (cn : Str) (m : List D → Sto → Res D) : List V → Hp → VK → Prop := fun xs H Q => ∃ a dx fvs, xs = [V.ref a] ∧ H a = some (.ins (He.ga K cn) dx fvs) ∧ sp0 (spF K m 1) [.ref a] H (fun v H' => ∃ i : Int, v = .int i ∧ 0 ≤ i ∧ i < 1000000 ∧ Q (.int i) H') fun _ _ _ => False
section
variable {X : Cx} {c : Cw} {cn : Str} {k : Nat} {m : List D → Sto → Res D}
theorem call_lenI (h : CalTM X.prog X.w X.K X.mg X.base cn "__len__" k 1 m) (hr : Room (k + 1) X.A) : CallR X (.builtin "len") (rLenI X.K cn m) := by
  rintro pins s σ H xs us Q I r ⟨a, dx, fvs, rfl, ea, q⟩
  rw [Vals.ref1 r]
  obtain ⟨f, fd, ps, fn, M, bd⟩ := h.ex
  have fn0 : FnOk X.prog X.w X.K X.mg X.base L2.CX0 k f fd ps (sp0 (spF X.K m 1)) := fn_calm fn fun vs H Q E h => h
  obtain ⟨mA, O, _, _, _, _⟩ := ins_get I.hok ea
  obtain ⟨od, J, _⟩ := O.look
  have sp : PySem.W.Looks (model X.prog X.w) s.heap (specialOf (.ref a) "__len__") (some (.ref f)) := J.type.andThen (PySem.W.looks_findIn I.kIn M.at_)
  have bs : PySem.W.Looks (model X.prog X.w) s.heap (bindSpecial (.ref f) (.ref a)) (.ref f, [.ref a]) := PySem.W.bind_fn I.kIn (.ref a) (beq_iff_eq.mp M.fn)
  refine Calls.call_function_entry kind_len plain_len entry_len (args_len1 _) ?_
  unfold Builtin.«len»
  refine wpAny_bind (m := oneArg "len" _) (wpAny_pure ?_)
  refine wpAny_bind (m := callSpecial? (.ref a) (Str.ofString "__len__")) (own_special sp bs ?_)
  have n1 : [V.ref a].length = ps.length := fn0.len _ _ _ _ q
  have b1 := bd s [.ref a] I.kIn (by rw [List.append_nil]; exact n1)
  rw [List.append_nil] at b1
  have body := fn0.run X.A.in1 X.stack s H ⟨[.ref a], []⟩ [.ref a] [.ref a] _ _ hr.in1 I.env0.in1 b1 (.cons rfl .nil) q
  refine wpAny_call (codeAny_mono body ?_)
  rintro (er | fl) s' z
  · exact False.elim z
  · cases fl with
    | ret u =>
      obtain ⟨v, H', J2, rv, i, rfl, i0, i1, zq⟩ := I.after z
      obtain ⟨tk, rfl⟩ := rv
      refine wpAny_bind (wpAny_holding (wpAny_pure ?_))
      refine wpAny_bind (wpAny_letGo ?_)
      show wpAny _ _ (if i < 0 then _ else _) _ _ _
      rw [if_neg (by omega)]
      show wpAny _ _ (if i ≥ 2 ^ 63 then _ else _) _ _ _
      rw [if_neg (by omega)]
      exact wpAny_bind (wpAny_mkInt (wpAny_pure ⟨_, rfl, .int i, H', J2.tok _, ⟨_, rfl⟩, zq⟩))
    | _ => exact False.elim z
end
end Tw
namespace Tw
open PySem PySem.Spec PyProof.Rows L2

/-! ### defs of such a class; len, pop(), index, list(..) of a list that changes; a list unpacked -/
section
variable {P : Program} {w : World} {K : PySem.W.Frag} {mg : Str → Option Value} {base : Heap} {cn x q : Str} {params : Arguments} {body : List Stmt} {scope : Scope} {fd : FuncData} {k n : Nat} {m : List D → Sto → Res D} {ps : List Str}
theorem calTI_of (h : fcMkr cn K = true) (Fd : ∃ fd, FunD K "__init__" q params body scope [] [] (adr K (cn, some "__init__")) fd)
    (F : ∀ fd : FuncData, FunD K "__init__" q params body scope [] [] (He.ma K (He.ga K cn) "__init__") fd → FnOk P w K mg base (L2.CX P w) k (He.ma K (He.ga K cn) "__init__") fd ps (spF K m n) ∧ Binds K fd ps []) : CalTI P w K mg base cn k n m := by
  have M := He.mkr_ok h
  obtain ⟨fd, Fd⟩ := Fd
  obtain ⟨f1, f2⟩ := F fd (FunD.to Fd (adr_fn M.fn))
  exact ⟨_, fd, ps, f1, M, f2⟩
theorem calTM_of (h : fcMeth cn x K = true) (Fd : ∃ fd, FunD K x q params body scope [] [] (adr K (cn, some x)) fd)
    (F : ∀ fd : FuncData, FunD K x q params body scope [] [] (He.ma K (He.ga K cn) x) fd → FnOk P w K mg base (L2.CX P w) k (He.ma K (He.ga K cn) x) fd ps (spF K m n) ∧ Binds K fd ps []) : CalTM P w K mg base cn x k n m := by
  have M := He.meth_ok h
  obtain ⟨fd, Fd⟩ := Fd
  obtain ⟨f1, f2⟩ := F fd (FunD.to Fd (adr_fn M.fn))
  exact ⟨_, fd, ps, f1, M, f2⟩
theorem calTP_of (h : fcProp cn x K = true) (Fd : ∃ fd, FunD K x q params body scope [] [] (adr K (cn, some x)) fd)
    (F : ∀ fd : FuncData, FunD K x q params body scope [] [] (adr K (cn, some x)) fd → FnOk P w K mg base (L2.CX P w) k (adr K (cn, some x)) fd ps (spF K m n) ∧ Binds K fd ps []) : CalTP P w K mg base cn x k n m := by
  obtain ⟨fd, Fd⟩ := Fd
  obtain ⟨f1, f2⟩ := F fd Fd
  exact ⟨_, _, fd, ps, f1, fcProp_ok h, f2⟩
end
def gLenI (cn : Str) (m : List D → Sto → Res D) : List D → Sto → Res D := fun ds S => match ds with
  | [d] => if insAt cn "__len__" d S = true then (match m [d] S with
    | .ok (.p (.int i)) S2 => if 0 ≤ i ∧ i < 1000000 then .ok (.p (.int i)) S2 else .bad
    | _ => .bad) else .bad
  | _ => .bad
/-- list(x), x a list that changes -/
def gListC : List D → Sto → Res D := fun ds S => match ds with
  | [.own k] => (match S[k]? with
    | some (.lst xs) => (match asPs xs with
      | some ps => .ok (.own S.length) (S ++ [.lst (ps.map D.p)])
      | none => .bad)
    | _ => .bad)
  | _ => .bad
def oPop0 : List D → Option (D × List D) := fun xs => (xs[xs.length - 1]?).map fun y => (y, xs.dropLast)
def fLm0 (op : List D → Option (D × List D)) (fo : FE) : FE := fun ρ S => (fo ρ S).bind fun o S1 => match o with
  | .own k => match S1[k]? with
    | some (.lst xs) => match op xs with
      | some r => .ok r.1 (S1.set k (.lst r.2))
      | none => .bad
    | _ => .bad
  | _ => .bad
/-- [..].index(x), flat items -/
def gIxF (bs : List PyData) (d : D) (S : Sto) : Res D := match d with
  | .p a => if (flatD a && bs.all flatD) = true then (match bs.findIdx? (fun y => eqF y a) with
    | some j => .ok (.p (.int j)) S
    | none => .bad) else .bad
  | _ => .bad
def fLix (fo fa : FE) : FE := fun ρ S => (fo ρ S).bind fun o S1 => match o with
  | .p (.list bs) => (fa ρ S1).bind (gIxF bs)
  | _ => .bad
def gTl (n : Nat) (gs : FGs) : FG := fun d ρ => match d with
  | .p (.list ds) => if ds.length = n then gs (ds.map D.p) ρ else none
  | _ => none
section
variable {X : Cx} {c : Cw} {e o : Expr} {fo fa : FE} {cn : Str} {m : List D → Sto → Res D} {pos : Pos}
theorem bc_lenI (hK : c.K = X.K := by rfl) : BCall c (rLenI X.K cn m) (gLenI cn m) := fun G F io H S σ xs ds Q gd r q => by
  unfold gLenI at q
  split at q
  · rename_i d
    cases r with
    | cons ra rb =>
      cases rb
      by_cases hi : insAt cn "__len__" d S = true
      · rw [if_pos hi] at q
        obtain ⟨a, dx, fvs, rfl, h1, h2⟩ := insAt_ok gd hi ra
        rw [hK] at h1
        refine ⟨a, dx, fvs, rfl, h1, rfl, G, F, io, S, [d], by rw [← hK]; exact gd, .cons (by rw [← hK]; exact ra) .nil, ?_⟩
        cases hm : m [d] S with
        | ok d2 S2 =>
          rw [hm] at q
          intro v F' io' H' e' g' r'
          cases d2 with
          | p d3 =>
            cases d3 with
            | int i =>
              have q : Aft c G F io σ (rp c) Q (if 0 ≤ i ∧ i < 1000000 then .ok (.p (.int i)) S2 else .bad) := q
              by_cases hc : 0 ≤ i ∧ i < 1000000
              · rw [if_pos hc] at q
                cases r'
                exact ⟨i, rfl, hc.1, hc.2, q (.int i) F' io' H' e' (by rw [hK]; exact g') (Dq.int i)⟩
              · rw [if_neg hc] at q
                exact q.elim
            | _ => exact q.elim
          | _ => exact q.elim
        | exc n as S2 => rw [hm] at q; exact q.elim
        | bad => rw [hm] at q; exact q.elim
      · rw [if_neg hi] at q
        exact q.elim
  · exact q.elim
theorem bc_listC : BCall c (fun xs H Q => ∃ p ys, xs = [.ref p] ∧ (SqL c.K H p ys ∨ SqT c.K H p ys) ∧ ∀ l, H l = none → Q (.ref l) (upd H l (.lst ys))) gListC := fun G F io H S σ xs ds Q gd r q => by
  unfold gListC at q
  split at q
  · rename_i k
    cases r with
    | cons ra rb =>
      cases rb
      obtain ⟨a0, ea, eo⟩ := ra
      subst ea
      split at q
      · rename_i xs hk
        split at q
        · rename_i ps ha
          obtain ⟨a', e4, h0, vs, h1, h2⟩ := gd.at_ hk
          rw [eo] at e4
          have e4 : a0 = a' := Option.some.inj e4
          subst e4
          exact ⟨a0, vs, rfl, .inl (SqL.of h1), new_own gd (asPs_ok ha h2) q⟩
        · exact q.elim
      · exact q.elim
  · exact q.elim
theorem paired_dropLast {α β : Type} {R : α → β → Prop} : ∀ {xs : List α} {ys : List β}, Paired R xs ys → Paired R xs.dropLast ys.dropLast
  | _, _, .nil => .nil
  | _, _, .cons r .nil => .nil
  | _, _, .cons r (.cons r2 t) => .cons r (paired_dropLast (.cons r2 t))
theorem fe_pop0 (h : ∀ {to : TE}, PE X o to → PE X e (tBM0 c.K "list" rPop to)) (ho : PE X o (tE c fo)) : PE X e (tE c (fLm0 oPop0 fo)) :=
  pe_imp (h ho) fun σ H Q ⟨G, F, io, S, ρ, gd, re, q⟩ => ⟨G, F, io, S, ρ, gd, re, Aft.step q fun o S1 v1 F1 i1 H1 e1 g1 r1 q1 => by
    cases o with
    | own k =>
      have q1 : Aft c G F1 i1 σ (rp c) Q (match S1[k]? with
        | some (.lst xs) => match oPop0 xs with
          | some r => .ok r.1 (S1.set k (.lst r.2))
          | none => .bad
        | _ => .bad) := q1
      cases hk : S1[k]? with
      | none => rw [hk] at q1; exact q1.elim
      | some ob =>
        rw [hk] at q1
        cases ob with
        | lst xs =>
          have q1 : Aft c G F1 i1 σ (rp c) Q (match oPop0 xs with
            | some r => .ok r.1 (S1.set k (.lst r.2))
            | none => .bad) := q1
          obtain ⟨a0, ea, eo⟩ := r1
          obtain ⟨a', e3, h0, vs, h1, h2⟩ := g1.at_ hk
          rw [eo] at e3
          have e3 : a0 = a' := Option.some.inj e3
          subst e3
          subst ea
          unfold oPop0 at q1
          cases hy : xs[xs.length - 1]? with
          | none => rw [hy] at q1; exact q1.elim
          | some y =>
            rw [hy] at q1
            obtain ⟨v, hv, rv⟩ := paired_at2 h2 hy
            refine ⟨.inl ⟨rfl, vs, SqL.of h1⟩, a0, vs, v, rfl, rfl, h1, by rw [paired_len h2]; exact hv, ?_⟩
            exact Aft.here (v := v) q1 (g1.put eo h0 ⟨h0, _, upd_same, paired_dropLast h2⟩) rv
        | _ => exact q1.elim
    | _ => exact q1.elim⟩
theorem fe_lix (h : ∀ {to ta : TE}, PE X o to → PE X a ta → PE X e (tBM c.K "list" (rIndex c.K) to (tCons ta tNil))) (ho : PE X o (tE c fo)) (ha : PE X a (tE c fa)) : PE X e (tE c (fLix fo fa)) :=
  pe_imp (h ho ha) fun σ H Q ⟨G, F, io, S, ρ, gd, re, q⟩ => ⟨G, F, io, S, ρ, gd, re, Aft.step q fun o S1 v1 F1 i1 H1 e1 g1 r1 q1 => by
    cases o with
    | p b =>
      cases b with
      | list bs =>
        cases r1 with
        | @lst p vs _ hx hb =>
          refine ⟨.inl ⟨rfl, vs, SqL.of (g1.ex _ _ hx)⟩, G, F1, i1, S1, ρ, g1, renv_mono e1 re, Aft.step q1 fun d S2 v2 F2 i2 H2 e2 g2 r2 q2 => ?_⟩
          have q2 : Aft c G F2 i2 σ (rp c) Q (gIxF bs d S2) := q2
          unfold gIxF at q2
          split at q2
          · rename_i d
            split at q2
            · rename_i hf
              rw [Bool.and_eq_true] at hf
              split at q2
              · rename_i j hj
                obtain ⟨ev, fv⟩ := flat_toV r2 hf.1
                obtain ⟨es, fs⟩ := flats_toV hb hf.2
                obtain ⟨hl, h1, h2⟩ := List.findIdx?_eq_some_iff_getElem.mp hj
                have el : vs.length = bs.length := by rw [es, List.length_map]
                refine ⟨p, vs, v2, j, toV bs[j], rfl, rfl, SqL.of (g2.ex _ _ (e2.same _ _ hx)), fv, fs, ?_, by rw [ev]; exact h1, fun m z hm hz => ?_, hereP (v := .int j) q2 g2 (Dq.int _)⟩
                · rw [es, List.getElem?_map, List.getElem?_eq_getElem hl]
                  rfl
                · have hml : m < bs.length := Nat.lt_trans hm hl
                  rw [es, List.getElem?_map, List.getElem?_eq_getElem hml] at hz
                  rw [← Option.some.inj hz, ev]
                  simpa [eqF] using h2 m hm
              · exact q2.elim
            · exact q2.elim
          · exact q2.elim
      | _ => exact q1.elim
    | _ => exact q1.elim⟩
theorem fg_lst {es : List Expr} {k : Nat} {n : Nat} {ws : List Nat} {gs : FGs} (hc : X.calm = true) (h : PGs X es (tGs c ws gs)) (hK : c.K = X.K) (hn : (assignEach es X.env).length = n := by rfl) (hst : (assignEach es X.env).findIdx? (·.1) = none := by rfl) : PG X (.Tuple es k pos) (tG c ws (gTl n gs)) :=
  pg_imp (pg_unl hc h hn hst) fun v σ H Q ⟨G, F, io, S, d, ρ, ρ', gd, r, re, e, q⟩ => by
    cases d with
    | p a =>
      cases a with
      | list ds =>
        have e : (if ds.length = n then gs (ds.map D.p) ρ else none) = some ρ' := e
        by_cases hl : ds.length = n
        · rw [if_pos hl] at e
          cases r with
          | @lst a xs _ hx ha =>
            exact ⟨a, xs, rfl, by rw [← hK]; exact SqL.of (gd.ex _ _ hx), by rw [dpa_len _ _ ha]; exact hl, G, F, io, S, ds.map D.p, ρ, ρ', gd, dqa_rpa ha, re, e, q⟩
        · rw [if_neg hl] at e
          cases e
      | _ => cases e
    | _ => cases e
end
/-! ### rules for simp -/
section
variable {ρ : Env} {S : Sto} {a b fa fo fv : FE} {fr : FA} {d y : D} {ds xs : List D} {ps bs : List PyData} {m : List D → Sto → Res D} {cn f x : Str} {k : Nat} {fs : List (Str × D)} {gs : FGs} {n : Nat}
def getIK (cn f : Str) (q : Res D) : Res D := q.bind (getI cn f)
@[simp ↓] theorem ap_getI : fGetI cn f fa ρ S = getIK cn f (fa ρ S) := rfl
@[simp] theorem getIK_ok : getIK cn f (.ok d S) = getI cn f d S := rfl
theorem getI_ok (h : S[k]? = some (.ins cn fs)) (h2 : fs.lookup f = some y) : getI cn f (.own k) S = .ok y S := by
  unfold getI
  simp only [h, h2, if_true]
def putIK2 (cn f : Str) (ρ : Env) (y : D) (q : Res D) : Fl := q.thn ρ fun d S2 => putI cn f ρ y d S2
def putIK (cn f : Str) (fo : FE) (ρ : Env) (q : Res D) : Fl := q.thn ρ fun y S1 => putIK2 cn f ρ y (fo ρ S1)
@[simp ↓] theorem ap_putI : fPutI cn f fv fo ρ S = putIK cn f fo ρ (fv ρ S) := rfl
@[simp] theorem putIK_ok : putIK cn f fo ρ (.ok y S) = putIK2 cn f ρ y (fo ρ S) := rfl
@[simp] theorem putIK2_ok : putIK2 cn f ρ y (.ok d S) = putI cn f ρ y d S := rfl
theorem putI_ok (h : S[k]? = some (.ins cn fs)) (h2 : fs.length < 900) : putI cn f ρ y (.own k) S = .nx ρ (S.set k (.ins cn (putL f y fs))) := by
  unfold putI
  simp only [h, h2, true_and, if_true]
theorem insAt_own (h : S[k]? = some (.ins cn fs)) (h2 : fs.lookup x = none) : insAt cn x (.own k) S = true := by
  unfold insAt
  simp [h, h2]
def mtIK (cn x : Str) (m : List D → Sto → Res D) (fr : FA) (ρ : Env) (q : Res D) : Res D := q.bind fun d S1 => if insAt cn x d S1 = true then (fr ρ S1).bind fun ds S2 => m (d :: ds) S2 else .bad
@[simp ↓] theorem ap_mtI : fMtI cn x m fa fr ρ S = mtIK cn x m fr ρ (fa ρ S) := rfl
def mtIK2 (m : List D → Sto → Res D) (d : D) (q : Res (List D)) : Res D := q.bind fun ds S2 => m (d :: ds) S2
@[simp] theorem mtIK2_ok : mtIK2 m d (.ok ds S) = m (d :: ds) S := rfl
theorem mtIK_ok (h : insAt cn x d S = true) : mtIK cn x m fr ρ (.ok d S) = mtIK2 m d (fr ρ S) := by
  show (if insAt cn x d S = true then (fr ρ S).bind fun ds S2 => m (d :: ds) S2 else .bad) = _
  rw [if_pos h]
  rfl
def prIK (cn x : Str) (m : List D → Sto → Res D) (q : Res D) : Res D := q.bind fun d S1 => if insAt cn x d S1 = true then (match m [d] S1 with
  | .ok d S2 => .ok d S2
  | _ => .bad) else .bad
@[simp ↓] theorem ap_prI : fPrI cn x m fa ρ S = prIK cn x m (fa ρ S) := rfl
theorem prIK_ok {S2 : Sto} {y : D} (h : insAt cn x d S = true) (h2 : m [d] S = .ok y S2) : prIK cn x m (.ok d S) = .ok y S2 := by
  show (if insAt cn x d S = true then (match m [d] S with
    | .ok d S2 => .ok d S2
    | _ => .bad) else .bad : Res D) = _
  rw [if_pos h, h2]
theorem gLenI_ok {S2 : Sto} {i : Int} (h : insAt cn "__len__" d S = true) (h2 : m [d] S = .ok (.p (.int i)) S2) (h3 : 0 ≤ i) (h4 : i < 1000000) : gLenI cn m [d] S = .ok (.p (.int i)) S2 := by
  unfold gLenI
  simp only [h, h2, h3, h4]
  rfl
theorem gListC_ok (h : S[k]? = some (.lst xs)) (h2 : asPs xs = some ps) : gListC [.own k] S = .ok (.own S.length) (S ++ [.lst (ps.map D.p)]) := by
  unfold gListC
  simp only [h, h2]
def lm0K (op : List D → Option (D × List D)) (q : Res D) : Res D := q.bind fun o S1 => match o with
  | .own k => match S1[k]? with
    | some (.lst xs) => match op xs with
      | some r => .ok r.1 (S1.set k (.lst r.2))
      | none => .bad
    | _ => .bad
  | _ => .bad
@[simp ↓] theorem ap_lm0 {op : List D → Option (D × List D)} : fLm0 op fo ρ S = lm0K op (fo ρ S) := rfl
theorem pop0_ok (h : S[k]? = some (.lst (xs ++ [y]))) : lm0K oPop0 (.ok (.own k) S) = .ok y (S.set k (.lst xs)) := by
  show (match S[k]? with
    | some (.lst xs) => match oPop0 xs with
      | some r => .ok r.1 (S.set k (.lst r.2))
      | none => .bad
    | _ => .bad : Res D) = _
  rw [h]
  simp [oPop0]
def lixK2 (bs : List PyData) (q : Res D) : Res D := q.bind (gIxF bs)
def lixK (fa : FE) (ρ : Env) (q : Res D) : Res D := q.bind fun o S1 => match o with
  | .p (.list bs) => lixK2 bs (fa ρ S1)
  | _ => .bad
@[simp ↓] theorem ap_lix : fLix fo fa ρ S = lixK fa ρ (fo ρ S) := rfl
@[simp] theorem lixK_ok : lixK fa ρ (.ok (.p (.list bs)) S) = lixK2 bs (fa ρ S) := rfl
@[simp] theorem lixK2_ok : lixK2 bs (.ok d S) = gIxF bs d S := rfl
@[simp ↓] theorem ap_gTl : gTl n gs (.p (.list ps)) ρ = if ps.length = n then gs (ps.map D.p) ρ else none := rfl
end
end Tw
namespace Tw
open PySem PySem.Spec PyProof.Rows L2

/-! ### a dict display, keys tuples; != of such dicts -/
def mergeT (kvs more : List (List Key × V)) : List (List Key × V) := more.foldl (fun acc kv => putK acc kv.1 kv.2) kvs
/-- q: where the key stands, the key, the value -/
abbrev QR (H : Hp) : List (Addr × List Key × V) → List (List Key × Addr × Value) → Prop := Paired fun q r => r.1 = q.2.1 ∧ r.2.1 = q.1 ∧ H q.1 = some (.tup (q.2.1.map kV)) ∧ RelV q.2.2 r.2.2
theorem kt_merge {H : Hp} {qs : List (Addr × List Key × V)} {rs : List (List Key × Addr × Value)} (h : QR H qs rs) : ∀ {kvs : List (List Key × V)} {xs : List (List Key × Addr × Value)}, KT H kvs xs → KT H (mergeT kvs (qs.map (·.2))) (storedAllH xs rs) := by
  induction h with
  | nil => exact fun g => g
  | @cons q r qs rs h t ih =>
    intro kvs xs g
    obtain ⟨qa, qk, qv⟩ := q
    obtain ⟨rk, ra, rv⟩ := r
    obtain ⟨h1, h2, h3, h4⟩ := h
    have h1 : rk = qk := h1
    have h2 : ra = qa := h2
    subst h1 h2
    exact ih (g.put rk h3 h4)
theorem merge_len : ∀ (more kvs : List (List Key × V)), (mergeT kvs more).length ≤ kvs.length + more.length
  | [], kvs => Nat.le_refl _
  | p :: r, kvs => by
    have h1 := merge_len r (putK kvs p.1 p.2)
    have h2 := length_putK kvs p.1 p.2
    show (mergeT (putK kvs p.1 p.2) r).length ≤ _
    rw [List.length_cons]
    omega
theorem carries_qs {P : Program} {w : World} {H : Hp} {h : Heap} (ok : HOk P w H h) : ∀ {qs : List (Addr × List Key × V)} {ws : List (Value × Value)}, (∀ q ∈ qs, H q.1 = some (.tup (q.2.1.map kV))) → VV (qs.map fun q => (V.ref q.1, q.2.2)) ws → ∃ rs, CarriesH (tupleKind (mixKind P w)) h ws rs ∧ QR H qs rs
  | [], _, _, r => by rw [List.map_nil] at r; cases r; exact ⟨[], trivial, .nil⟩
  | q :: qs, _, hk, r => by
    rw [List.map_cons] at r
    cases r with
    | @cons a b as bs h1 t =>
      obtain ⟨rs, c, g⟩ := carries_qs ok (fun x hx => hk x (List.mem_cons_of_mem _ hx)) t
      obtain ⟨b1, b2⟩ := b
      obtain ⟨r1, r2⟩ := h1
      have r1 : b1 = Value.ref q.1 := r1
      exact ⟨(q.2.1, q.1, b2) :: rs, ⟨r1, rfl, key_of ok (hk q List.mem_cons_self), c⟩, .cons ⟨rfl, rfl, hk q List.mem_cons_self, r2⟩ g⟩
def tDispT (trs : List (TE × TE)) : TE := fun σ H Q => ∀ p, H p = none → tPairs trs σ (upd H p (.dT [])) fun ps H2 => H2 p = some (.dT []) ∧ ∃ qs : List (Addr × List Key × V), ps = qs.map (fun q => (V.ref q.1, q.2.2)) ∧ (∀ q ∈ qs, H2 q.1 = some (.tup (q.2.1.map kV))) ∧ qs.length ≤ 15 ∧ Q (.ref p) (upd H2 p (.dT (mergeT [] (qs.map (·.2)))))
theorem pe_dispT {X : Cx} {pos : Pos} {keys : List (Option Expr)} {values : List Expr} {trs : List (TE × TE)} (hu : X.A.units + 1 < cLine) (h : PPs X pos keys values trs) (hall : keys.all (·.isSome) = true) (hl : keys.length = values.length) (h0 : keys ≠ [])
    (h15 : keys.length ≤ 15) : PE X (.Dict keys values pos) (tDispT trs) := by
  refine ⟨fun pins s σ H Q I q => ?_⟩
  have hn := I.hok.fresh (Nat.le_refl s.heap.objs.size)
  have I1 := I.laid (a := s.heap.objs.size) (o := .dT []) (h' := s.heap.push { cls := .type "dict", data := .dict #[] }) (t' := s.toks) (fun _ _ q => Heap.get?_push_of_some _ q) (Nat.le_refl _) (dt_empty s.heap I.big)
  have hp := pairTrees_length keys values X.env pos hall hl
  have hne : pairTrees keys values X.env pos ≠ [] := fun he => by
    rw [he] at hp
    exact h0 (List.length_eq_zero_iff.mp hp.symm)
  rw [arm_eval_Dict, zip_pairTrees keys values X.env pos hall hl, dictDisplay_pairs _ hne (by rw [hp]; omega)]
  refine wpAny_bind (wpAny_standAt (wpAny_bind (wpAny_subDictH (knd := tupleKind (mixKind X.prog X.w)) (Nat.lt_of_succ_lt hu) (by rw [hp]; exact h15) (thn (h.run pins _ σ _ _ I1 (q _ hn)) fun ws s2 ⟨ps, H2, I2, rel, e, qs, ep, hk, lk, q2⟩ => ?_))))
  subst ep
  obtain ⟨rs, c, qr⟩ := carries_qs I2.hok hk rel
  obtain ⟨z, hd, xs0, r0, dd⟩ := dt_of I2.hok e
  cases r0
  refine ⟨rs, c, dd, fun h' tk dd' hs => wpAny_pure ⟨.ref s.heap.objs.size, _, ?_, rfl, q2⟩⟩
  have hz : (mergeT [] (qs.map (·.2))).length ≤ sizeLine := by
    have h1 := merge_len (qs.map (·.2)) []
    rw [List.length_nil, List.length_map] at h1
    rw [sizeLine_eq]
    omega
  obtain ⟨o, es, ep, hq, h2, h3, h4, _, h5⟩ := dd'
  refine d_write I2 (by rw [e]; exact True.intro) hs ⟨o, hq⟩ ⟨hz, hd, _, (kt_merge qr .nil).keeps fun b ys eb => ?_, o, es, ep, hq, h2, h3, h4, h5⟩
  rw [upd_ne (ne_of eb e (fun z => nomatch z))]
  exact eb
section
variable {prog : Program} {w : World} {K : Type} [DecidableEq K] {knd : HeapKind prog w K} {A : Around} {E : Value → Shared → Prop} {s : Shared}
inductive HitsH (prog : Program) (w : World) (A : Around) (s : Shared) (kb : List (K × Addr × Value)) : List (K × Addr × Value) → Bool → Prop
  | nil : HitsH prog w A s kb [] true
  | miss {k : K} {a : Addr} {v : Value} {r : List (K × Addr × Value)} : atKey kb k = none → HitsH prog w A s kb ((k, a, v) :: r) false
  | hit {k : K} {a b : Addr} {v y : Value} {r : List (K × Addr × Value)} {e b' : Bool} : atKey kb k = some (b, y) → SeqAt.EqP prog w A s v y e → HitsH prog w A s kb r b' → HitsH prog w A s kb ((k, a, v) :: r) (e && b')
theorem HitsH.inv {kb : List (K × Addr × Value)} {k : K} {a : Addr} {v : Value} {r : List (K × Addr × Value)} {b : Bool} (h : HitsH prog w A s kb ((k, a, v) :: r) b) :
    (atKey kb k = none ∧ b = false) ∨ ∃ c y e b', atKey kb k = some (c, y) ∧ SeqAt.EqP prog w A s v y e ∧ HitsH prog w A s kb r b' ∧ b = (e && b') := by
  cases h with
  | miss hn => exact .inl ⟨hn, rfl⟩
  | hit hy he hr => exact .inr ⟨_, _, _, _, hy, he, hr, rfl⟩
theorem samePairsH {nm : String} {a b : Addr} {ka kb : List (K × Addr × Value)} {r : Bool} {Q : Bool → Shared → Prop} (hu : knd.room A) (ha : (a == sysModules) = false) (hb : (b == sysModules) = false)
    (da : s.heap.DictOfH knd a ka) (db : s.heap.DictOfH knd b kb) (hits : ka.length = kb.length → HitsH prog w A s kb ka r) (h : Q (ka.length == kb.length && r) s) :
    wpAny (model prog w) A (Builtin.Dict.samePairs nm a b) Q E s := by
  obtain ⟨oa, es, ep, hoa, _, hda, hea, hia, hna⟩ := da
  obtain ⟨ob, es', ep', hob, _, hdb, heb, hib, hnb⟩ := db
  have hla : ka.length = es.size := (size_of_entries hea).symm
  have hlb : kb.length = es'.size := (size_of_entries heb).symm
  rw [hla, hlb] at h
  unfold Builtin.Dict.samePairs Builtin.Dict.showsAll
  rw [if_neg (show ¬ (a == sysModules) = true by rw [ha]; exact Bool.false_ne_true), if_neg (show ¬ (b == sysModules) = true by rw [hb]; exact Bool.false_ne_true)]
  refine wpAny_bind (wpAny_pure (wpAny_bind (wpAny_pure ?_)))
  refine wpAny_bind (wpAny_dictEntries hoa hda ?_)
  dsimp only
  refine wpAny_bind (wpAny_dictEntries hob hdb ?_)
  by_cases hsz : es.size = es'.size
  case neg =>
    rw [if_pos (by simpa using hsz)]
    have hbf : (es.size == es'.size) = false := by simpa using hsz
    rw [hbf, Bool.false_and] at h
    exact wpAny_bind (wpAny_rule (wpAny_pure h))
  case pos =>
    have h' : Q r s := by simpa [hsz] using h
    have hits' := hits (by rw [hla, hlb]; exact hsz)
    rw [if_neg (by rw [hsz]; simp)]
    refine wpAny_bind (wpAny_dictEpoch hoa hda ?_)
    refine wpAny_bind ?_
    rw [Std.Legacy.Range.forIn_eq_forIn_range']
    simp only [Std.Legacy.Range.size, Nat.sub_zero, Nat.add_sub_cancel, Nat.div_one]
    refine wpAny_forIn_list _
      (fun rest q s' => s' = s ∧ q = (none, ()) ∧ ∃ i, rest = List.range' i (es.size - i) ∧ i ≤ es.size ∧ HitsH prog w A s kb (ka.drop i) r)
      _ ?_ ?_ _ _ ⟨rfl, rfl, 0, by simp, Nat.zero_le _, hits'⟩
    · rintro x rest q s' ⟨rfl, rfl, i, hr, hi, hpre⟩
      have hlt : i < es.size := by
        rcases Nat.lt_or_ge i es.size with h | h
        · exact h
        · rw [Nat.sub_eq_zero_of_le h] at hr; simp at hr
      obtain ⟨rfl, hrest⟩ : x = i ∧ rest = List.range' (i + 1) (es.size - (i + 1)) := by
        have e : es.size - i = (es.size - (i + 1)) + 1 := by omega
        rw [e, List.range'_succ] at hr
        injection hr with h1 h2
        exact ⟨h1, h2⟩
      refine wpAny_bind (wpAny_dictEntries hoa hda ?_)
      rw [Array.getElem?_eq_getElem hlt]
      have hlt' : x < ka.length := by rw [hla]; exact hlt
      obtain ⟨k, c, v, hkv⟩ : ∃ k c v, ka[x] = (k, c, v) := ⟨_, _, _, rfl⟩
      have hdrop : ka.drop x = (k, c, v) :: ka.drop (x + 1) := by rw [← hkv]; exact List.drop_eq_getElem_cons hlt'
      have ent : es[x] = entryOfKey knd (k, c, v) := by
        have e := entry_at hea x
        rw [Array.getElem?_eq_getElem hlt, List.getElem?_eq_getElem hlt', hkv] at e
        exact Option.some.inj e
      have hkey : knd.is s'.heap k c := hia (k, c, v) (hkv ▸ List.getElem_mem hlt')
      rw [hdrop] at hpre
      show wpAny _ _ (holding [es[x].key, es[x].val] _ >>= _) _ _ _
      rw [ent]
      refine wpAny_bind (wpAny_holding (wpAny_bind (wpAny_dictFind_heap (k := k) (a := c) hu hkey hob hdb heb hib hnb (fun hno => ?_) (fun j p hj => ?_))))
      · have hn : atKey kb k = none := atKey_none_of_get hno
        rcases hpre.inv with ⟨_, er⟩ | ⟨_, y, _, _, hy, _⟩
        · rw [er] at h'
          refine wpAny_pure ?_
          show wpAny _ _ (if (!false) = true then _ else _) _ _ _
          rw [if_pos (by decide)]
          exact wpAny_pure (wpAny_pure h')
        · rw [hn] at hy; exact nomatch hy
      · obtain ⟨c2, y2⟩ := p
        have hv' : atKey kb k = some (c2, y2) := atKey_of_get hnb hj
        have hjlt : j < es'.size := by rw [← hlb]; exact (List.getElem?_eq_some_iff.mp hj).1
        have ent2 : es'[j] = entryOfKey knd (k, c2, y2) := by
          have e := entry_at heb j
          rw [Array.getElem?_eq_getElem hjlt, hj] at e
          exact Option.some.inj e
        refine wpAny_bind (wpAny_dictEntries hob hdb ?_)
        rw [Array.getElem?_eq_getElem hjlt]
        rcases hpre.inv with ⟨hn, _⟩ | ⟨_, y, e, b', hy, he, hrr, er⟩
        · rw [hv'] at hn; exact nomatch hn
        · rw [hv'] at hy
          have hy2 : y2 = y := (Prod.mk.inj (Option.some.inj hy)).2
          rw [ent2]
          subst hy2
          refine wpAny_holding (he _ _ ?_)
          cases e with
          | false =>
            rw [er, Bool.false_and] at h'
            show wpAny _ _ (if (!false) = true then _ else _) _ _ _
            rw [if_pos (by decide)]
            exact wpAny_pure (wpAny_pure h')
          | true =>
            rw [Bool.true_and] at er
            rw [← er] at hrr
            show wpAny _ _ (if (!true) = true then _ else _) _ _ _
            rw [if_neg (by decide)]
            refine wpAny_bind (wpAny_dictEpoch hoa hda ?_)
            rw [if_neg (by simp)]
            exact wpAny_pure ⟨rfl, rfl, x + 1, hrest, hlt, hrr⟩
    · rintro q s' ⟨rfl, rfl, i, hr, hi, hpre⟩
      have hin : i = es.size := by
        rcases Nat.lt_or_ge i es.size with h | h
        · have e : es.size - i = (es.size - (i + 1)) + 1 := by omega
          rw [e, List.range'_succ] at hr; exact nomatch hr
        · exact Nat.le_antisymm hi h
      refine wpAny_pure ?_
      rw [hin, ← hla, List.drop_length] at hpre
      cases hpre
      exact h'
theorem dictH_type {h : Heap} {a : Addr} {ka : List (K × Addr × Value)} {s : Shared} (d : s.heap.DictOfH knd a ka) : s.TypeIs (.ref a) "dict" := d.typeIs
theorem ne_dictsH {a b : Addr} {ka kb : List (K × Addr × Value)} {r : Bool} {Q : Value → Shared → Prop} (hr : knd.room A.in1) (ha : (a == sysModules) = false) (hb : (b == sysModules) = false)
    (da : s.heap.DictOfH knd a ka) (db : s.heap.DictOfH knd b kb) (hu : A.units < cLine) (hits : ka.length = kb.length → HitsH prog w A.in1 s kb ka r) (h : Q (.bool (!(ka.length == kb.length && r))) s) :
    wpAny (model prog w) A (compareOp .NotEq (.ref a) (.ref b)) Q E s := by
  refine wpAny_richCompare_same_room (op := .NotEq) da.typeIs db.typeIs PySem.F.slot_dict_ne (wpAny_call_entry PySem.F.slot_dict_ne da.typeIs PySem.F.entry_dict_ne ?_ (PySem.F.args_dict_ne_2 _ _)) hu
  show wpAny _ _ (Builtin.Dict.dictSlotArgs "__ne__" ⟨[.ref a, .ref b], []⟩ >>= _) _ _ s
  refine wpAny_bind ?_
  unfold Builtin.Dict.dictSlotArgs
  refine wpAny_bind (wpAny_notOrdered_dict da.typeIs ?_)
  show wpAny _ _ (pure (Value.ref a, Value.ref b)) _ _ s
  refine wpAny_pure ?_
  refine wpAny_bind (wpAny_isInstance (T := "dict") db.typeIs PySem.F.sub_dict_dict ?_)
  simp only [Bool.not_true, Bool.false_eq_true, if_false]
  refine wpAny_bind (wpAny_pure (wpAny_bind (wpAny_pure ?_)))
  refine wpAny_bind (samePairsH hr ha hb da db hits ?_)
  refine wpAny_pure ⟨_, rfl, ?_, ?_⟩
  · exact fun x => nomatch x
  · simpa using h
end
end Tw
namespace Tw
open PySem PySem.Spec PyProof.Rows L2

/-! ### calls without arguments -/
def fCalE (tbl : List (Str × (List D → Sto → Res D))) (fa : FE) : FE := fun ρ S => (fa ρ S).bind fun d S1 => match d with
  | .fn q => (match tbl.lookup q with
    | some m => m [] S1
    | none => .bad)
  | _ => .bad
section
variable {X : Cx} {c : Cw} {x : Str} {p pos : Pos} {k : Nat} {m : List D → Sto → Res D} {tbl : List (Str × (List D → Sto → Res D))} {fe : Expr} {fa : FE}
theorem fe_cal0 (h : Cal X.prog X.w X.K X.mg X.base x k 0 m) (hr : Room k X.A) (tk : Takes X c.W) (hK : c.K = X.K := by rfl) (hg : Gl X x := by rfl) (hdb : (x == ("__debug__" : Str)) = false := by decide) : PE X (.Call (.Name x p) [] [] pos) (tE c (fCall m fNil)) := by
  obtain ⟨f, fd, ps, fn, hm, hk, hb⟩ := h.ex
  refine ⟨fun pins s σ H Q I ⟨G, F, io, S, ρ, gd, re, q⟩ => wpAny_Call_Name_kw (ld_glob I hg hm ?_ hdb)⟩
  have q : Aft c G F io σ (rp c) Q (m [] S) := q
  refine PySem.W.callWith_K0 I.kIn hk (run_fnS (us := []) (vs := []) (E := WE c.W) fn hr hb (passAt tk σ) I .nil ?_)
  rw [← hK]
  refine ⟨rfl, G, F, io, S, [], gd, .nil, ?_⟩
  cases hmm : m [] S with
  | ok d S3 => rw [hmm] at q; exact q
  | exc nm as S3 => rw [hmm] at q; exact q
  | bad => rw [hmm] at q; exact q
theorem fe_calE (hT : ∀ q m, tbl.lookup q = some m → (∃ j, j ≤ k ∧ Cal X.prog X.w X.K X.mg X.base q j 0 m) ∧ X.mg q = some (.ref (He.ga X.K q))) (hr : Room k X.A) (tk : Takes X c.W) (hf : PE X fe (tE c fa)) (hK : c.K = X.K := by rfl)
    (ht : eval (.Call fe [] [] pos) X.env = (do callWith pos (← eval fe X.env) [] (backTo pos (starEach [] X.env)) (backToKw pos (keywordEach [] X.env))) := by rfl) : PE X (.Call fe [] [] pos) (tE c (fCalE tbl fa)) := by
  refine ⟨fun pins s σ H Q I ⟨G, F, io, S, ρ, gd, re, q⟩ => ?_⟩
  refine Call_ (thn (hf.run pins s σ H (fun v H1 => ∃ q m, tbl.lookup q = some m ∧ v = .ref (He.ga X.K q) ∧ spF X.K m 0 [] H1 Q (WE c.W σ)) I ⟨G, F, io, S, ρ, gd, re, ?_⟩) ?_) ht
  · refine Aft.step q fun d S1 v1 F1 i1 H1 e1 g1 r1 q1 => ?_
    cases d with
    | fn q =>
      have q1 : Aft c G F1 i1 σ (rp c) Q (match tbl.lookup q with
        | some m => m [] S1
        | none => .bad) := q1
      cases hm : tbl.lookup q with
      | none => rw [hm] at q1; exact q1.elim
      | some m =>
        rw [hm] at q1
        have q1 : Aft c G F1 i1 σ (rp c) Q (m [] S1) := q1
        have r1 : v1 = .ref (He.ga c.K q) := r1
        refine ⟨q, m, hm, by rw [r1, hK], ?_⟩
        rw [← hK]
        refine ⟨rfl, G, F1, i1, S1, [], g1, .nil, ?_⟩
        cases hmm : m [] S1 with
        | ok d S3 => rw [hmm] at q1; exact q1
        | exc nm as S3 => rw [hmm] at q1; exact q1
        | bad => rw [hmm] at q1; exact q1
    | _ => exact q1.elim
  · rintro u s1 ⟨v, H1, I1, rv, q, m, hm, ev, z⟩
    obtain ⟨⟨j, hj, ⟨f, fd, ps, fn, hm1, hk, hb⟩⟩, hm2⟩ := hT q m hm
    obtain rfl : f = He.ga X.K q := by
      rw [hm1] at hm2
      exact Value.ref.inj (Option.some.inj hm2)
    subst ev
    obtain rfl : u = Value.ref (He.ga X.K q) := rv
    exact PySem.W.callWith_K0 I1.kIn hk (run_fnS (us := []) (vs := []) (E := WE c.W) fn (hr.mono hj) hb (passAt tk σ) I1 .nil z)
theorem tblC {β : Type} {Pr : Str → β → Prop} {q1 : Str} {m1 : β} {r : List (Str × β)} (h : Pr q1 m1) (hr : ∀ q m, r.lookup q = some m → Pr q m) : ∀ q m, ((q1, m1) :: r).lookup q = some m → Pr q m := by
  intro q m z
  by_cases e1 : q = q1
  · subst e1
    rw [List.lookup_cons_self] at z
    rw [← Option.some.inj z]
    exact h
  · have b1 : (q == q1) = false := by simpa using e1
    rw [List.lookup_cons, b1] at z
    exact hr q m z
theorem tbl0 {β : Type} {Pr : Str → β → Prop} : ∀ q m, ([] : List (Str × β)).lookup q = some m → Pr q m := fun q m z => by cases z
end
/-! ### a dict display -/
def fPairs : List (FE × FE) → Env → Sto → Res (List (D × D))
  | [], _, S => .ok [] S
  | (fk, fv) :: r, ρ, S => (fk ρ S).bind fun k S1 => (fv ρ S1).bind fun v S2 => (fPairs r ρ S2).bind fun ps S3 => .ok ((k, v) :: ps) S3
def toZ : List (D × D) → Option (List (List Key × PyData))
  | [] => some []
  | (k, .p d) :: r => match keyI k with
    | some k => (toZ r).map ((k, d) :: ·)
    | none => none
  | _ => none
def mergeG (kvs more : List (List Key × PyData)) : List (List Key × PyData) := more.foldl (fun acc kv => putG acc kv.1 kv.2) kvs
def pyZ (kvs : List (List Key × PyData)) : PyData := .dict (kvs.map fun q => (.tuple (q.1.map kD), q.2))
def dispE (qs : List (D × D)) (S : Sto) : Res D := match toZ qs with
  | some zs => if zs.length ≤ 15 then .ok (.p (pyZ (mergeG [] zs))) S else .bad
  | none => .bad
def fDisp (ps : List (FE × FE)) : FE := fun ρ S => (fPairs ps ρ S).noX.bind dispE
section
variable {c : Cw}
theorem Aft.dry2 {α β γ δ : Type} {G F : Hp} {io : List Addr} {σ τ : L2.St} {R : Hp → List Addr → β → α → Prop} {Q : β → Hp → Prop} {R1 : Hp → List Addr → δ → γ → Prop} {Q1 : δ → Hp → Prop} {r : Res γ} {k : γ → Sto → Res α} {G2 : Hp}
    (h : Aft c G F io σ R Q (r.noX.bind k)) (go : ∀ d S1 v F1 io1 H1, Ext F io F1 io1 → Good c.K G2 F1 io1 H1 S1 → R1 F1 io1 v d → Aft c G F1 io1 σ R Q (k d S1) → Q1 v H1) : Aft c.dry G2 F io τ R1 Q1 r := by
  cases r with
  | ok d S1 => exact fun v F1 io1 H1 e g r => go d S1 v F1 io1 H1 e g r (Aft.ext (r := k d S1) h e)
  | exc n as S => exact h.elim
  | bad => exact h.elim
abbrev PR (K : PySem.W.Frag) (F : Hp) (io : List Addr) : List (V × V) → List (D × D) → Prop := Paired fun x d => Rp K F io x.1 d.1 ∧ Rp K F io x.2 d.2
theorem pr_mono {K : PySem.W.Frag} {F F' : Hp} {i i' : List Addr} (e : Ext F i F' i') {vs : List (V × V)} {ds : List (D × D)} (h : PR K F i vs ds) : PR K F' i' vs ds := Paired.mapP h fun _ _ r => ⟨rp_mono e r.1, rp_mono e r.2⟩
theorem pairs_run {Gx : Hp} {σ : L2.St} {ρ : Env} : ∀ (ps : List (FE × FE)) (Q : List (V × V) → Hp → Prop) (F : Hp) (io : List Addr) (H : Hp) (S : Sto), Good c.K Gx F io H S → REnv c F io σ ρ → Aft c Gx F io σ (fun F io v d => PR c.K F io v d) Q (fPairs ps ρ S) →
    tPairs (ps.map fun p => (tE c p.1, tE c p.2)) σ H Q
  | [], Q, F, io, H, S, gd, re, q => Aft.here (v := ([] : List (V × V))) q gd .nil
  | (fk, fv) :: ps, Q, F, io, H, S, gd, re, q => ⟨Gx, F, io, S, ρ, gd, re, Aft.step q fun k S1 x F1 i1 H1 e1 g1 r1 q1 => ⟨Gx, F1, i1, S1, ρ, g1, renv_mono e1 re, Aft.step q1 fun v S2 y F2 i2 H2 e2 g2 r2 q2 =>
      pairs_run ps _ F2 i2 H2 S2 g2 (renv_mono (e1.trans e2) re) (Aft.step q2 fun ds S3 vs F3 i3 H3 e3 g3 r3 q3 => Aft.here (v := (x, y) :: vs) q3 g3 (.cons ⟨rp_mono (e2.trans e3) r1, rp_mono e3 r2⟩ r3))⟩⟩
theorem toz_ok {K : PySem.W.Frag} {F : Hp} {io : List Addr} : ∀ {qs : List (D × D)} {zs : List (List Key × PyData)} {vs : List (V × V)}, toZ qs = some zs → PR K F io vs qs →
    ∃ rs : List (Addr × List Key × V), vs = rs.map (fun q => (V.ref q.1, q.2.2)) ∧ (∀ q ∈ rs, F q.1 = some (.tup (q.2.1.map kV))) ∧ KR (Dq K F) (rs.map (·.2)) zs
  | [], zs, _, h, r => by
    obtain rfl : [] = zs := Option.some.inj h
    cases r
    exact ⟨[], rfl, fun q hq => (by cases hq), .nil⟩
  | (k, .p d) :: qs, zs, _, h, r => by
    have h : (match keyI k with
      | some k => (toZ qs).map ((k, d) :: ·)
      | none => none) = some zs := h
    cases hk : keyI k with
    | none => rw [hk] at h; cases h
    | some kk =>
      rw [hk] at h
      obtain ⟨ys, h1, rfl⟩ := Option.map_eq_some_iff.mp h
      cases r with
      | @cons x _ vs _ r1 r2 =>
        obtain ⟨rs, e, f, g⟩ := toz_ok h1 r2
        obtain ⟨x1, x2⟩ := x
        obtain ⟨b, eb, fb⟩ := key_at r1.1 hk
        have eb : x1 = V.ref b := eb
        subst eb
        refine ⟨(b, kk, x2) :: rs, by rw [e]; rfl, fun q hq => ?_, .cons ⟨rfl, r1.2⟩ g⟩
        rcases List.mem_cons.mp hq with rfl | hq
        · exact fb
        · exact f q hq
  | (k, .own _) :: _, _, _, h, _ => by cases h
  | (k, .wld _ _) :: _, _, _, h, _ => by cases h
  | (k, .exn) :: _, _, _, h, _ => by cases h
  | (k, .scr _) :: _, _, _, h, _ => by cases h
  | (k, .dz _) :: _, _, _, h, _ => by cases h
  | (k, .fn _) :: _, _, _, h, _ => by cases h
  | (k, .err _ _) :: _, _, _, h, _ => by cases h
  | (k, .mix _) :: _, _, _, h, _ => by cases h
  | (k, .mtp _) :: _, _, _, h, _ => by cases h
theorem kr_merge {R : V → PyData → Prop} : ∀ {more : List (List Key × V)} {zs : List (List Key × PyData)} {kws : List (List Key × V)} {kvs : List (List Key × PyData)}, KR R more zs → KR R kws kvs → KR R (mergeT kws more) (mergeG kvs zs)
  | _, _, _, _, .nil, g => g
  | _, _, kws, kvs, .cons (a := p) (b := q) h t, g => by
    obtain ⟨pk, pv⟩ := p
    obtain ⟨qk, qv⟩ := q
    obtain ⟨h1, h2⟩ := h
    have h1 : pk = qk := h1
    subst h1
    exact kr_merge (kws := putK kws pk pv) (kvs := putG kvs pk qv) t (kr_put g pk h2)
theorem dqk_of {K : PySem.W.Frag} {F : Hp} : ∀ {kws : List (List Key × V)} {zs : List (List Key × PyData)}, KR (Dq K F) kws zs → DqK K F kws (zs.map fun q => (.tuple (q.1.map kD), q.2))
  | _, _, .nil => .nil
  | _, _, .cons (a := p) (b := q) h t => by
    obtain ⟨pk, pv⟩ := p
    obtain ⟨qk, qv⟩ := q
    obtain ⟨h1, h2⟩ := h
    have h1 : pk = qk := h1
    subst h1
    exact .cons h2 (dqk_of t)
theorem kr_mono {K : PySem.W.Frag} {F F' : Hp} (e : Same F F') {kws : List (List Key × V)} {zs : List (List Key × PyData)} (h : KR (Dq K F) kws zs) : KR (Dq K F') kws zs := Paired.mapP h fun _ _ r => ⟨r.1, dp_mono e _ _ r.2⟩
theorem fe_disp {X : Cx} {pos : Pos} {keys : List (Option Expr)} {values : List Expr} (ps : List (FE × FE)) (hu : X.A.units + 1 < cLine) (h : PPs X pos keys values (ps.map fun p => (tE c.dry p.1, tE c.dry p.2))) (hall : keys.all (·.isSome) = true := by rfl) (hl : keys.length = values.length := by rfl)
    (h0 : keys ≠ [] := by (intro z; cases z)) (h15 : keys.length ≤ 15 := by decide) : PE X (.Dict keys values pos) (tE c (fDisp ps)) :=
  pe_imp (pe_dispT hu h hall hl h0 h15) fun σ H Q ⟨G, F, io, S, ρ, gd, re, q⟩ p hp => by
    have hG : G p = none := by
      cases hq : G p with
      | none => rfl
      | some o =>
        have := gd.gx _ _ hq
        rw [hp] at this
        cases this
    refine pairs_run (c := c.dry) (Gx := upd G p (.dT [])) (ρ := ρ) ps _ F io _ S (gd.hold hp) (renv_dry re) (Aft.dry2 (R1 := fun F io v d => PR c.K F io v d) q fun qs S1 vs F1 i1 H1 e1 g1 r1 q1 => ?_)
    have q1 : Aft c G F1 i1 σ (rp c) Q (dispE qs S1) := q1
    unfold dispE at q1
    split at q1
    · rename_i zs hz
      split at q1
      · rename_i h15'
        obtain ⟨rs, e, f, g⟩ := toz_ok hz r1
        have hlen : rs.length ≤ 15 := by
          have := paired_len g
          rw [List.length_map] at this
          omega
        refine ⟨g1.gx _ _ upd_same, rs, e, fun x hx => g1.ex _ _ (f x hx), hlen, ?_⟩
        obtain ⟨g4, e4⟩ := (g1.rehold (u := .dT (mergeT [] (rs.map (·.2))))).unhold hG
        exact q1 (.ref p) _ _ _ e4 g4 (.dic upd_same (dqk_of (kr_mono e4.same (kr_merge g .nil))))
      · exact q1.elim
    · exact q1.elim
end
/-! ### != of dicts -/
def keyU : List PyData → Option (List Key)
  | [] => some []
  | .int i :: r => (keyU r).map (.inl i :: ·)
  | .str s :: r => (keyU r).map (.inr s :: ·)
  | _ => none
theorem keyU_ok : ∀ k : List Key, keyU (k.map kD) = some k
  | [] => rfl
  | .inl i :: r => by
    show (keyU (r.map kD)).map (.inl i :: ·) = _
    rw [keyU_ok r]
    rfl
  | .inr s :: r => by
    show (keyU (r.map kD)).map (.inr s :: ·) = _
    rw [keyU_ok r]
    rfl
def unD : List (PyData × PyData) → Option (List (List Key × PyData))
  | [] => some []
  | (.tuple ks, d) :: r => match keyU ks with
    | some k => (unD r).map ((k, d) :: ·)
    | none => none
  | _ => none
def zOf (d : D) (S : Sto) : Option (List (List Key × PyData)) := match d with
  | .p (.dict kvs) => unD kvs
  | d => (dOf d S).bind asZ
def eqZ (a b : List (List Key × PyData)) : Bool := a.length == b.length && a.all fun q => match valG b q.1 with
  | some d => PyData.eqv q.2 d
  | none => false
def shZ (a : List (List Key × PyData)) : Bool := a.all fun q => SeqAt.shaped q.2
def gNeZ : D → D → Sto → Res D := fun dx dy S => match zOf dx S, zOf dy S with
  | some a, some b => if (shZ a && shZ b) = true then .ok (.p (.bool (!eqZ a b))) S else .bad
  | _, _ => .bad
def rNeZ (K : PySem.W.Frag) : R2 := fun x y H Q => ∃ a b kws lws zs ys, x = .ref a ∧ y = .ref b ∧ Rd H a (.dT kws) ∧ Rd H b (.dT lws) ∧ KR (Dp K H) kws zs ∧ KR (Dp K H) lws ys ∧ shZ zs = true ∧ shZ ys = true ∧ Q (.bl (!eqZ zs ys)) H
theorem valG_mem {ys : List (List Key × PyData)} {k : List Key} {d : PyData} (h : valG ys k = some d) : ∃ q ∈ ys, q.2 = d := by
  induction ys with
  | nil => cases h
  | cons q r ih =>
    have h : (if q.1 = k then some q.2 else valG r k) = some d := h
    by_cases e : q.1 = k
    · rw [if_pos e] at h
      exact ⟨q, List.mem_cons_self, Option.some.inj h⟩
    · rw [if_neg e] at h
      obtain ⟨q', h1, h2⟩ := ih h
      exact ⟨q', List.mem_cons_of_mem _ h1, h2⟩
section
variable {X : Cx} {pins : List (Addr × Obj)} {σ : L2.St} {H : Hp} {s : Shared}
theorem hits_z (I : Inv X pins σ H s) (hu : X.A.units + 65 < cLine) {lws : List (List Key × V)} {ys : List (List Key × PyData)} {kb : List (List Key × Addr × Value)} (b1 : KT H lws kb) (b2 : KR (Dp X.K H) lws ys) (sy : shZ ys = true) :
    ∀ {kws : List (List Key × V)} {zs : List (List Key × PyData)} {ka : List (List Key × Addr × Value)}, KT H kws ka → KR (Dp X.K H) kws zs → shZ zs = true → HitsH X.prog X.w X.A.in1 s kb ka (zs.all fun q => match valG ys q.1 with
      | some d => PyData.eqv q.2 d
      | none => false) := by
  intro kws zs ka h1
  revert zs
  induction h1 with
  | nil =>
    intro zs h2 _
    cases h2
    exact .nil
  | @cons p q ps qs h t ih =>
    intro zs h2 sz
    cases h2 with
    | @cons _ z _ zs z1 z2 =>
      obtain ⟨pk, pv⟩ := p
      obtain ⟨qk, qa, qv⟩ := q
      obtain ⟨zk, zd⟩ := z
      obtain ⟨e1, hb, rv⟩ := h
      obtain ⟨e2, dv⟩ := z1
      have e1 : pk = qk := e1
      have e2 : pk = zk := e2
      subst e1 e2
      have sz : (SeqAt.shaped zd && shZ zs) = true := sz
      rw [Bool.and_eq_true] at sz
      have rest := ih z2 sz.2
      obtain ⟨v1, v2⟩ := kr_val b2 pk
      have rb := b1.val pk
      rw [List.all_cons]
      cases hy : valG ys pk with
      | none =>
        rw [v2 hy] at rb
        have hn : atKey kb pk = none := by
          have := rb.none_of
          cases ha : atKey kb pk with
          | none => rfl
          | some x => rw [ha] at this; cases this
        show HitsH X.prog X.w X.A.in1 s kb ((pk, qa, qv) :: qs) (false && _)
        rw [Bool.false_and]
        exact .miss hn
      | some d =>
        obtain ⟨v', e3, dv'⟩ := v1 d hy
        rw [e3] at rb
        obtain ⟨y, hy1, ry⟩ := rb.some_of
        obtain ⟨⟨cb, y'⟩, ha, rfl⟩ := Option.map_eq_some_iff.mp hy1
        obtain ⟨q', hq', rfl⟩ := valG_mem hy
        have sd : SeqAt.shaped q'.2 = true := List.all_eq_true.mp sy q' hq'
        obtain ⟨as, r1⟩ := Dp.reads I zd pv qv dv rv
        obtain ⟨bs, r2⟩ := Dp.reads I q'.2 v' y' dv' ry
        exact .hit ha (PySem.W.keq_at (A := X.A) r1 r2 sz.1 sd (by show X.A.units + 1 + 64 < _; omega)).eqP rest
theorem op_neZ (hu : X.A.units + 65 < cLine) : OpR X (compareOp .NotEq) (rNeZ X.K) := by
  rintro pins s σ H x y v u Q I rx ry ⟨a, b, kws, lws, zs, ys, rfl, rfl, ha, hb, r1, r2, s1, s2, q⟩
  obtain rfl : v = Value.ref a := rx
  obtain rfl : u = Value.ref b := ry
  obtain ⟨_, na, ka, ta, da⟩ := dt_rd I.hok ha
  obtain ⟨_, nb, kb, tb, db⟩ := dt_rd I.hok hb
  have l1 : ka.length = zs.length := (paired_len ta).symm.trans (paired_len r1)
  have l2 : kb.length = ys.length := (paired_len tb).symm.trans (paired_len r2)
  refine ne_dictsH (tupleKind_room_in1 (by omega)) na nb da db (by omega) (fun _ => hits_z I hu tb r2 s2 ta r1 s1) ⟨.bl _, H, I, rfl, ?_⟩
  rw [l1, l2]
  exact q
end
section
variable {c : Cw} {F : Hp} {io : List Addr}
theorem unD_ok {K : PySem.W.Frag} : ∀ {kvs : List (PyData × PyData)} {zs : List (List Key × PyData)} {kws : List (List Key × V)}, unD kvs = some zs → DqK K F kws kvs → KR (Dq K F) kws zs
  | [], zs, _, h, r => by
    obtain rfl : [] = zs := Option.some.inj h
    cases r
    exact .nil
  | (kd, d) :: kvs, zs, _, h, r => by
    cases r with
    | @cons k v _ rws _ r1 r2 =>
      have h : (match keyU (k.map kD) with
        | some k => (unD kvs).map ((k, d) :: ·)
        | none => none) = some zs := h
      rw [keyU_ok] at h
      obtain ⟨ys, h1, rfl⟩ := Option.map_eq_some_iff.mp h
      exact .cons ⟨rfl, r1⟩ (unD_ok h1 r2)
theorem zOf_ok {G : Hp} {H : Hp} {S : Sto} (g : Good c.K G F io H S) {v : V} {d : D} {zs : List (List Key × PyData)} (r : Rp c.K F io v d) (h : zOf d S = some zs) : ∃ a kws, v = .ref a ∧ Rd H a (.dT kws) ∧ KR (Dq c.K F) kws zs := by
  unfold zOf at h
  split at h
  · cases r with
    | @dic a kws kvs h1 h2 => exact ⟨a, kws, rfl, .inl (g.ex _ _ h1), unD_ok h h2⟩
  · obtain ⟨kvs, h1, h2⟩ := Option.bind_eq_some_iff.mp h
    obtain ⟨a, kws, e, hd, kr⟩ := dOf_ok g r h1
    exact ⟨a, kws, e, hd, asZ_kr h2 kr⟩
theorem krp_of {H : Hp} (e : Same F H) : ∀ {kws : List (List Key × V)} {zs : List (List Key × PyData)}, KR (Dq c.K F) kws zs → shZ zs = true → KR (Dp c.K H) kws zs
  | _, _, .nil, _ => .nil
  | _, _, .cons (a := p) (b := q) h t, s => by
    have s : (SeqAt.shaped q.2 && shZ _) = true := s
    rw [Bool.and_eq_true] at s
    exact .cons ⟨h.1, dp_of e _ _ (lay_sh s.1) h.2⟩ (krp_of e t s.2)
theorem bop_neZ : BOp c (rNeZ c.K) gNeZ := fun G F io H S σ x y dx dy Q gd rx ry q => by
  unfold gNeZ at q
  split at q
  · rename_i a b h1 h2
    by_cases hs : (shZ a && shZ b) = true
    · rw [if_pos hs] at q
      rw [Bool.and_eq_true] at hs
      obtain ⟨pa, kws, e1, d1, k1⟩ := zOf_ok gd rx h1
      obtain ⟨pb, lws, e2, d2, k2⟩ := zOf_ok gd ry h2
      exact ⟨pa, pb, kws, lws, a, b, e1, e2, d1, d2, krp_of gd.ex k1 hs.1, krp_of gd.ex k2 hs.2, hs.1, hs.2, hereP (v := .bl _) q gd (Dq.bl _)⟩
    · rw [if_neg hs] at q
      exact q.elim
  · exact q.elim
end
/-! ### rules for simp -/
section
variable {ρ : Env} {S : Sto} {fa : FE} {q : Str} {tbl : List (Str × (List D → Sto → Res D))} {m : List D → Sto → Res D} {ps : List (FE × FE)} {qs : List (D × D)}
def calEK (tbl : List (Str × (List D → Sto → Res D))) (r : Res D) : Res D := r.bind fun d S1 => match d with
  | .fn q => (match tbl.lookup q with
    | some m => m [] S1
    | none => .bad)
  | _ => .bad
@[simp ↓] theorem ap_calE : fCalE tbl fa ρ S = calEK tbl (fa ρ S) := rfl
theorem calEK_ok (h : tbl.lookup q = some m) : calEK tbl (.ok (.fn q) S) = m [] S := by
  show (match tbl.lookup q with
    | some m => m [] S
    | none => .bad : Res D) = _
  rw [h]
def dispK (r : Res (List (D × D))) : Res D := r.noX.bind dispE
@[simp ↓] theorem ap_disp : fDisp ps ρ S = dispK (fPairs ps ρ S) := rfl
@[simp] theorem dispK_ok : dispK (.ok qs S) = dispE qs S := rfl
def prs3K (d e : D) (r : Res (List (D × D))) : Res (List (D × D)) := r.bind fun ps S3 => .ok ((d, e) :: ps) S3
def prs2K (d : D) (r : List (FE × FE)) (ρ : Env) (z : Res D) : Res (List (D × D)) := z.bind fun v S2 => prs3K d v (fPairs r ρ S2)
def prsK (fv : FE) (r : List (FE × FE)) (ρ : Env) (z : Res D) : Res (List (D × D)) := z.bind fun k S1 => prs2K k r ρ (fv ρ S1)
@[simp ↓] theorem ap_pairs0 : fPairs [] ρ S = .ok [] S := rfl
@[simp ↓] theorem ap_pairs {fk fv : FE} : fPairs ((fk, fv) :: ps) ρ S = prsK fv ps ρ (fk ρ S) := rfl
@[simp] theorem prsK_ok {fv : FE} {d : D} : prsK fv ps ρ (.ok d S) = prs2K d ps ρ (fv ρ S) := rfl
@[simp] theorem prs2K_ok {d e : D} : prs2K d ps ρ (.ok e S) = prs3K d e (fPairs ps ρ S) := rfl
@[simp] theorem prs3K_ok {d e : D} : prs3K d e (.ok qs S) = .ok ((d, e) :: qs) S := rfl
end
end Tw
namespace Tw
open PySem PySem.Spec PyProof.Rows L2

/-! ### texts -/
def fcStr (x z : Str) : PySem.W.Frag → Bool := fun K => (He.Fa.str x z).ok K
theorem Tx.str {l : Facts} {fn : List He.DefD} {K : PySem.W.Frag} {mg : Str → Option Value} (T : Tx l fn K mg) (i : Nat) {x z : Str} (e : l[i]? = some (fcStr x z) := by rfl) : ∃ t, mg x = some (.str z t) := by
  obtain ⟨h, X, G⟩ := T.at_
  exact He.str_ok X G (T.fc i e)
def gStr : List D → Sto → Res D := fun ds S => match ds with
  | [.p (.int i)] => if -1000 < i ∧ i < 1000 then .ok (.p (.str (Str.ofString (toString i)))) S else .bad
  | _ => .bad
def gIntT : List D → Sto → Res D := fun ds S => match ds with
  | [.p (.str a)] => match PySem.intText? a with
    | some n => if a.length < 640 then .ok (.p (.int n)) S else .bad
    | none => .bad
  | _ => .bad
def gRepS : D → D → Sto → Res D := fun dx dy S => match dx, dy with
  | .p (.str a), .p (.int i) => if a.length ≤ 1000 ∧ 0 ≤ i ∧ i ≤ 1000 then .ok (.p (.str (Txt.mul a i))) S else .bad
  | _, _ => .bad
def gSplit (a : Str) (d : D) (S : Sto) : Res D := match d with
  | .p (.str b) => if (b.length == 0) = false ∧ a.length < lim then .ok (.p (.list ((Txt.split a b).map PyData.str))) S else .bad
  | _ => .bad
def fSplit (fo fa : FE) : FE := fun ρ S => (fo ρ S).bind fun o S1 => match o with
  | .p (.str a) => (fa ρ S1).bind (gSplit a)
  | _ => .bad
def strsOf : List PyData → Option (List Str)
  | [] => some []
  | .str x :: r => (strsOf r).map (x :: ·)
  | _ :: _ => none
def gJoin (a : Str) (d : D) (S : Sto) : Res D := match d with
  | .p (.list ds) => (match strsOf ds with
    | some ys => if (ys.map (·.length)).sum + ys.length * a.length < lim then .ok (.p (.str (Txt.join a ys))) S else .bad
    | none => .bad)
  | _ => .bad
def fJoin (fo fa : FE) : FE := fun ρ S => (fo ρ S).bind fun o S1 => match o with
  | .p (.str a) => (fa ρ S1).bind (gJoin a)
  | _ => .bad
theorem strs_ok {K : PySem.W.Frag} {F : Hp} : ∀ {ds : List PyData} {vs : List V} {ys : List Str}, strsOf ds = some ys → DqA K F vs ds → vs = ys.map V.str
  | [], _, ys, h, r => by
    cases r
    obtain rfl := Option.some.inj (show some [] = some ys from h)
    rfl
  | .str x :: ds, _, ys, h, r => by
    cases r with
    | cons r1 r2 =>
      cases r1
      have h : (strsOf ds).map (x :: ·) = some ys := h
      cases q : strsOf ds with
      | none => rw [q] at h; cases h
      | some zs =>
        rw [q] at h
        obtain rfl := Option.some.inj h
        rw [strs_ok q r2]
        rfl
  | .none :: _, _, _, h, _ => by cases h
  | .bool _ :: _, _, _, h, _ => by cases h
  | .int _ :: _, _, _, h, _ => by cases h
  | .list _ :: _, _, _, h, _ => by cases h
  | .tuple _ :: _, _, _, h, _ => by cases h
  | .dict _ :: _, _, _, h, _ => by cases h
theorem dqa_txts {K : PySem.W.Frag} {F : Hp} : ∀ ss : List Str, DqA K F (ss.map V.str) (ss.map PyData.str)
  | [] => .nil
  | s :: ss => .cons (.str s) (dqa_txts ss)
theorem lim_small {n : Nat} (h : n < lim) : n + 2 ≤ sizeLine := by
  have e : lim = 1000000 := rfl
  have e2 : sizeLine = 16777216 := sizeLine_eq
  omega
section
variable {X : Cx} {c : Cw} {x : Str} {pos apos : Pos} {o e : Expr} {fo fa : FE}
theorem fe_gstr {z : Str} (hm : ∃ t, X.mg x = some (.str z t)) (hg : Gl X x := by rfl) (hd : (x == ("__debug__" : Str)) = false := by decide) : PE X (.Name x pos) (tE c (fCon (.str z))) := by
  obtain ⟨t, h⟩ := hm
  exact fe_con (pe_glob (v := .str z) hg h ⟨t, rfl⟩ hd) fun _ => .str z
theorem bc_str : BCall c (fun xs H Q => ∃ i, xs = [.int i] ∧ i.natAbs.log2 < 1920 ∧ Q (.str (toString i)) H) gStr := fun G F io H S σ xs ds Q gd r q => by
  unfold gStr at q
  split at q
  · rename_i i
    cases r with
    | cons ra rb =>
      cases rb
      cases ra
      split at q
      · rename_i hi
        refine ⟨i, rfl, Nat.lt_of_le_of_lt (Nat.log2_le_self _) (by omega), hereP q gd (Dq.str _)⟩
      · exact q.elim
  · exact q.elim
theorem bc_intT : BCall c (fun xs H Q => ∃ a n, xs = [.str a] ∧ PySem.intText? a = some n ∧ a.length ≤ 640 ∧ Q (.int n) H) gIntT := fun G F io H S σ xs ds Q gd r q => by
  unfold gIntT at q
  split at q
  · rename_i a
    cases r with
    | cons ra rb =>
      cases rb
      cases ra
      split at q
      · rename_i n hn
        split at q
        · rename_i hl
          exact ⟨a, n, rfl, hn, Nat.le_of_lt hl, hereP q gd (Dq.int _)⟩
        · exact q.elim
      · exact q.elim
  · exact q.elim
def rRepS : R2 := fun x y H Q => ∃ a i, x = .str a ∧ y = .int i ∧ MulOk a i ∧ Q (.str (Txt.mul a i)) H
theorem op_repS : OpR X (binaryOp .Mult) rRepS := by
  intro pins s σ H x y v u Q I rx ry h
  obtain ⟨a, i, rfl, rfl, hz, q⟩ := h
  obtain ⟨t, rfl⟩ := rx
  obtain ⟨t', rfl⟩ := ry
  exact SB.mul hz fun t' k => ⟨.str (Txt.mul a i), H, I.tok _, ⟨_, rfl⟩, q⟩
theorem bop_repS : BOp c rRepS gRepS := fun G F io H S σ x y dx dy Q gd rx ry q => by
  unfold gRepS at q
  split at q
  · rename_i a i
    cases rx
    cases ry
    split at q
    · rename_i h
      exact ⟨a, i, rfl, rfl, mulOk_of 1000 1000 h.1 h.2.2 (by omega) (by decide) (by decide), hereP q gd (Dq.str _)⟩
    · exact q.elim
  · exact q.elim
theorem fe_split (ho : PE X o (tE c fo)) (he : PE X e (tE c fa)) (hs : starEach [e] X.env = [(false, eval e X.env)] := by rfl) (hbase : attributeBase o "split" X.env (eval o X.env) = eval o X.env := by rfl) (hline : (apos.endLine == pos.line) = true := by rfl) :
    PE X (.Call (.Attribute o "split" apos) [e] [] pos) (tE c (fSplit fo fa)) :=
  pe_imp (pe_split ho he hs hbase hline) fun σ H Q ⟨G, F, io, S, ρ, gd, re, q⟩ => ⟨G, F, io, S, ρ, gd, re, Aft.step q fun d S1 v1 F1 i1 H1 e1 g1 r1 q1 => by
    cases d with
    | p b =>
      cases b with
      | str a =>
        cases r1
        refine ⟨⟨a, rfl⟩, G, F1, i1, S1, ρ, g1, renv_mono e1 re, Aft.step q1 fun d S2 v2 F2 i2 H2 e2 g2 r2 q2 => ?_⟩
        replace q2 : Aft c G F2 i2 σ (rp c) Q (gSplit a d S2) := q2
        unfold gSplit at q2
        split at q2
        · rename_i b
          cases r2
          split at q2
          · rename_i h
            exact ⟨a, b, rfl, rfl, h.1, lim_small h.2, new_lst g2 (dqa_txts _) q2⟩
          · exact q2.elim
        · exact q2.elim
      | _ => exact q1.elim
    | _ => exact q1.elim⟩
theorem fe_join (hK : c.K = X.K) (ho : PE X o (tE c fo)) (he : PE X e (tE c fa)) (hs : starEach [e] X.env = [(false, eval e X.env)] := by rfl) (hbase : attributeBase o "join" X.env (eval o X.env) = eval o X.env := by rfl) (hline : (apos.endLine == pos.line) = true := by rfl) :
    PE X (.Call (.Attribute o "join" apos) [e] [] pos) (tE c (fJoin fo fa)) :=
  pe_imp (pe_join ho he hs hbase hline) fun σ H Q ⟨G, F, io, S, ρ, gd, re, q⟩ => ⟨G, F, io, S, ρ, gd, re, Aft.step q fun d S1 v1 F1 i1 H1 e1 g1 r1 q1 => by
    cases d with
    | p b =>
      cases b with
      | str a =>
        cases r1
        refine ⟨⟨a, rfl⟩, G, F1, i1, S1, ρ, g1, renv_mono e1 re, Aft.step q1 fun d S2 v2 F2 i2 H2 e2 g2 r2 q2 => ?_⟩
        replace q2 : Aft c G F2 i2 σ (rp c) Q (gJoin a d S2) := q2
        unfold gJoin at q2
        split at q2
        · rename_i ds
          split at q2
          · rename_i ys hy
            split at q2
            · rename_i h
              cases r2 with
              | @lst p vs _ hx hb =>
                have ev := strs_ok hy hb
                rw [ev] at hx
                have e : lim = 1000000 := rfl
                exact ⟨a, p, ys, rfl, rfl, .inl (by rw [← hK]; exact SqL.of (g2.ex _ _ hx)), by omega, hereP q2 g2 (Dq.str _)⟩
            · exact q2.elim
          · exact q2.elim
        · exact q2.elim
      | _ => exact q1.elim
    | _ => exact q1.elim⟩
end
/-! ### o.f += e -/
def augI3 (cn f : Str) (k : Nat) (ρ : Env) (z : D) (S : Sto) : Fl := match S[k]? with
  | some (.ins n fs) => if n = cn ∧ fs.length < 900 then .nx ρ (S.set k (.ins n (putL f z fs))) else .bad
  | _ => .bad
def augI (cn f : Str) (g : D → D → Sto → Res D) (fv : FE) (ρ : Env) (d : D) (S : Sto) : Fl := match d with
  | .own k => match S[k]? with
    | some (.ins n fs) => if n = cn then (match fs.lookup f with
      | some x => (fv ρ S).thn ρ fun y S2 => (g x y S2).thn ρ (augI3 cn f k ρ)
      | none => .bad) else .bad
    | _ => .bad
  | _ => .bad
def fAugI (cn f : Str) (g : D → D → Sto → Res D) (fv fo : FE) : FS := fun ρ S => (fo ρ S).thn ρ (augI cn f g fv ρ)
theorem bop_rAdd {c : Cw} : BOp c rAdd (gI fun i j => .int (i + j)) := bop_I0 fun _ _ _ => .int _
section
variable {X : Cx} {c : Cw} {o value : Expr} {pos tpos : Pos} {fv fo : FE} {cn f : Str} {op : Operator} {rd : R2} {g : D → D → Sto → Res D}
theorem fs_augI (cl : Cls X.K (He.ga X.K cn)) (no : NoAttr X.K (He.ga X.K cn) f) (hop : InOp X op rd) (hr : BOp c rd g) (hv : PE X value (tE c fv)) (ho : PE X o (tE c fo)) (hK : c.K = X.K := by rfl) : PS X (.AugAssign (.Attribute o f tpos) op value pos) (tS c (fAugI cn f g fv fo)) :=
  ps_imp (ps_fldaug ho hv hop) fun N σ H ⟨G, F, io, S, ρ, gd, re, q⟩ => ⟨G, F, io, S, ρ, gd, re, AftS.step q re fun d S1 v F1 i1 H1 e1 g1 r1 q1 => by
    replace q1 : AftS c G F1 i1 N (augI cn f g fv ρ d S1) := q1
    unfold augI at q1
    split at q1
    · rename_i k
      split at q1
      · rename_i n fs hk
        split at q1
        · rename_i hn
          split at q1
          · rename_i x hx
            obtain ⟨a, rfl, ia⟩ := r1
            obtain ⟨a', ia', h0, dx, fvs, h1, h2, h3⟩ := g1.at_ hk
            obtain rfl : a = a' := Option.some.inj (ia.symm.trans ia')
            obtain ⟨v', l1, l2⟩ := (fs_look h3).2 x hx
            refine ⟨a, He.ga X.K cn, dx, fvs, v', rfl, by rw [← hK, ← hn]; exact h1, cl, no, l1, G, F1, i1, S1, ρ, g1, renv_mono e1 re, AftS.step q1 (renv_mono e1 re) fun y S2 v2 F2 i2 H2 e2 g2 r2 q2 => ?_⟩
            refine hr G F2 i2 H2 S2 σ v' v2 x y _ g2 (rp_mono e2 l2) r2 (AftS.step q2 (renv_mono (e1.trans e2) re) fun z S3 v3 F3 i3 H3 e3 g3 r3 q3 => ?_)
            replace q3 : AftS c G F3 i3 N (augI3 cn f k ρ z S3) := q3
            unfold augI3 at q3
            split at q3
            · rename_i n' fs' hk'
              split at q3
              · rename_i hn'
                obtain ⟨hn', hl⟩ := hn'
                obtain ⟨a', ia', h0', dx', fvs', h1', h2', h3'⟩ := g3.at_ hk'
                have ia3 := (e2.trans e3).ix ia
                obtain rfl : a = a' := Option.some.inj (ia3.symm.trans ia')
                have len := paired_len h3'
                refine ⟨dx', fvs', by rw [← hK, ← hn']; exact h1', by omega, ?_⟩
                rw [← hK, ← hn']
                have g4 := g3.put (o := .ins (He.ga c.K n') dx' (putF f v3 fvs')) (x := .ins n' (putL f z fs')) ia3 h0' ⟨h0', dx', _, upd_same, h2', fs_put r3 h3'⟩
                exact q3 σ _ _ _ (Ext.refl _ _) g4 (renv_mono ((e1.trans e2).trans e3) re)
              · exact q3.elim
            · exact q3.elim
          · exact q1.elim
        · exact q1.elim
      · exact q1.elim
    · exact q1.elim⟩
end
/-! ### lists that hold own things -/
abbrev Mx := Nat ⊕ PyData
def mD : Mx → D
  | .inl k => .own k
  | .inr p => .p p
def asMs : List D → Option (List Mx)
  | [] => some []
  | .p d :: r => (asMs r).map (.inr d :: ·)
  | .own k :: r => (asMs r).map (.inl k :: ·)
  | _ :: _ => none
theorem asMs_ok {K : PySem.W.Frag} {F : Hp} {io : List Addr} : ∀ {ds : List D} {vs : List V} {ms : List Mx}, asMs ds = some ms → RpA K F io vs ds → Paired (RpM K F io) vs ms
  | [], _, ms, h, r => by
    cases r
    obtain rfl := Option.some.inj (show some [] = some ms from h)
    exact .nil
  | .p d :: ds, _, ms, h, r => by
    cases r with
    | cons r1 r2 =>
      have h : (asMs ds).map (.inr d :: ·) = some ms := h
      cases q : asMs ds with
      | none => rw [q] at h; cases h
      | some ms' =>
        rw [q] at h
        obtain rfl := Option.some.inj h
        exact .cons r1 (asMs_ok q r2)
  | .own k :: ds, _, ms, h, r => by
    cases r with
    | cons r1 r2 =>
      have h : (asMs ds).map (.inl k :: ·) = some ms := h
      cases q : asMs ds with
      | none => rw [q] at h; cases h
      | some ms' =>
        rw [q] at h
        obtain rfl := Option.some.inj h
        exact .cons r1 (asMs_ok q r2)
  | .wld _ _ :: _, _, _, h, _ => by cases h
  | .exn :: _, _, _, h, _ => by cases h
  | .scr _ :: _, _, _, h, _ => by cases h
  | .dz _ :: _, _, _, h, _ => by cases h
  | .fn _ :: _, _, _, h, _ => by cases h
  | .err _ _ :: _, _, _, h, _ => by cases h
  | .mix _ :: _, _, _, h, _ => by cases h
  | .mtp _ :: _, _, _, h, _ => by cases h
theorem rpm_rp {K : PySem.W.Frag} {F : Hp} {io : List Addr} {v : V} : ∀ {m : Mx}, RpM K F io v m → Rp K F io v (mD m)
  | .inl _, h => h
  | .inr _, h => h
theorem rpm_rpa {K : PySem.W.Frag} {F : Hp} {io : List Addr} : ∀ {vs : List V} {ms : List Mx}, Paired (RpM K F io) vs ms → RpA K F io vs (ms.map mD)
  | _, _, .nil => .nil
  | _, _, .cons r t => .cons (rpm_rp r) (rpm_rpa t)
def compEndM (xs : List D) (S : Sto) : Res D := match asMs xs with
  | some ms => .ok (.mix ms) S
  | none => .bad
theorem ce_endM {c : Cw} : CeOk c compEndM := fun {G F io H S σ Q Dl vacc acc} g2 hG ra q2 => by
  unfold compEndM at q2
  cases ha : asMs acc with
  | none => rw [ha] at q2; exact q2.elim
  | some ms =>
    rw [ha] at q2
    obtain ⟨g4, e4⟩ := g2.unhold hG
    exact q2 (.ref Dl) _ _ _ e4 g4 ⟨Dl, vacc, rfl, upd_same, Paired.mapP (asMs_ok ha ra) fun _ _ z => rpm_mono e4 z⟩
abbrev fCompM := fCompG compEndM
section
variable {X : Cx} {c : Cw} {e elt tg iter : Expr} {scope : Scope} {ifs : List Expr} {vs : List Nat} {fi : FI} {g : FG} {ft fe fa : FE}
theorem fs_compM {i : Nat} {st : Stmt} (h : ∀ {wi : TI} {tg' : TG} {tt : TT} {te : TE}, PI X tg iter wi → (∀ (s : Shared) (H : Hp) (C : Addr) (cl : List (Str × Addr)) (fp : List Addr), PG (X.blk s H scope (compEnvC scope cl C X.env) fp) tg tg') →
    (∀ (s : Shared) (H : Hp) (C : Addr) (cl : List (Str × Addr)) (fp : List Addr), PTs (X.blk s H scope (compEnvC scope cl C X.env) fp) ifs tt) → (∀ (s : Shared) (H : Hp) (C : Addr) (cl : List (Str × Addr)) (fp : List Addr), PE (X.blk s H scope (compEnvC scope cl C X.env) fp) elt te) →
    PS X st (tAsg (tLc wi tg' tt te vs) (gName i))) (hi : PI X tg iter (tI c fi)) (hg : ∀ (s : Shared) (H : Hp) (C : Addr) (cl : List (Str × Addr)) (fp : List Addr), PG (X.blk s H scope (compEnvC scope cl C X.env) fp) tg (tG c.dry vs g))
    (ht : ∀ (s : Shared) (H : Hp) (C : Addr) (cl : List (Str × Addr)) (fp : List Addr), PTs (X.blk s H scope (compEnvC scope cl C X.env) fp) ifs (tT c.dry ft)) (he : ∀ (s : Shared) (H : Hp) (C : Addr) (cl : List (Str × Addr)) (fp : List Addr), PE (X.blk s H scope (compEnvC scope cl C X.env) fp) elt (tE c.dry fe)) :
    PS X st (tS c (fSet i (fCompM vs fi g ft fe))) := ps_imp (h hi hg ht he) fun N σ H ⟨G, F, io, S, ρ, gd, re, q⟩ =>
  lc_mainG ce_endM σ H _ ⟨G, F, io, S, ρ, gd, re, AftS.step q re fun d S1 v F1 io1 H1 e1 g1 r1 q1 => AftS.here q1 g1 (renv_set (renv_mono e1 re) (rpe_of r1) i)⟩
def enuM : Nat → List Mx → List D
  | _, [] => []
  | i, m :: ms => .mtp [.inr (.int (i : Int)), m] :: enuM (i + 1) ms
theorem enuM_len : ∀ (i : Nat) (ds : List Mx), (enuM i ds).length = ds.length
  | _, [] => rfl
  | i, d :: ds => by rw [enuM, List.length_cons, List.length_cons, enuM_len]
theorem enuM_at : ∀ (i : Nat) (ds : List Mx) (j : Nat) (d : Mx), ds[j]? = some d → (enuM i ds)[j]? = some (.mtp [.inr (.int ((i + j : Nat) : Int)), d])
  | i, [], j, d, h => by simp at h
  | i, e :: ds, 0, d, h => by
    obtain rfl : e = d := by simpa using h
    rfl
  | i, e :: ds, j + 1, d, h => by
    have z := enuM_at (i + 1) ds j d (by simpa using h)
    rw [enuM, List.getElem?_cons_succ, z, show i + 1 + j = i + (j + 1) by omega]
def fEnuM (fa : FE) : FI := fun ρ S => (fa ρ S).bind fun d S1 => match d with
  | .mix ms => .ok (enuM 0 ms) S1
  | _ => .bad
def fItM (fa : FE) : FI := fun ρ S => (fa ρ S).bind fun d S1 => match d with
  | .mix ms => .ok (ms.map mD) S1
  | _ => .bad
theorem paired_get2 {α β : Type} {R : α → β → Prop} : ∀ {xs : List α} {ys : List β} {i : Nat} {y : β}, Paired R xs ys → ys[i]? = some y → ∃ x, xs[i]? = some x ∧ R x y
  | _, _, i, y, .nil, h => by simp at h
  | x :: xs, z :: ys, 0, y, .cons r t, h => by
    obtain rfl : z = y := by simpa using h
    exact ⟨x, rfl, r⟩
  | x :: xs, z :: ys, i + 1, y, .cons r t, h => by
    obtain ⟨v, q, w⟩ := paired_get2 t (show ys[i]? = some y by simpa using h)
    exact ⟨v, by simpa using q, w⟩
theorem itd_enM {F : Hp} {io : List Addr} {a : Addr} {vs : List V} {ms : List Mx} (hx : F a = some (.lst vs)) (ha : Paired (RpM c.K F io) vs ms) : ItD c F io (Ite c.K a) (enuM 0 ms) where
  go := fun i G H F1 io1 S1 hi e g => by
    rw [enuM_len] at hi
    obtain ⟨v, h1, h2⟩ := paired_get2 ha (List.getElem?_eq_getElem hi)
    have sl : SqL c.K H a vs := SqL.of (g.ex _ _ (e.same _ _ hx))
    refine ⟨⟨vs, v, sl, h1⟩, ?_⟩
    rintro x H' ⟨p, y, rfl, hp, rfl, hy⟩
    have hv := hy vs sl
    rw [h1] at hv
    obtain rfl := Option.some.inj hv
    obtain ⟨g2, e2⟩ := g.new (o := .tup [.int (i : Nat), v]) hp
    refine ⟨_, e2, g2, _, enuM_at 0 ms i ms[i] (List.getElem?_eq_getElem hi), ?_⟩
    rw [Nat.zero_add]
    exact ⟨p, _, rfl, upd_same, .cons (Dq.int _) (.cons (rpm_mono (e.trans e2) h2) .nil)⟩
  stop := fun i G H F1 io1 S1 hi e g => ⟨vs, SqL.of (g.ex _ _ (e.same _ _ hx)), by rw [paired_len ha]; rw [enuM_len] at hi; exact hi⟩
theorem itd_M {F : Hp} {io : List Addr} {a : Addr} {vs : List V} {ms : List Mx} (hx : F a = some (.lst vs)) (ha : Paired (RpM c.K F io) vs ms) : ItD c F io (Itl c.K a) (ms.map mD) where
  go := fun i G H F1 io1 S1 hi e g => by
    have hi' : i < ms.length := by simpa using hi
    obtain ⟨v, h1, h2⟩ := paired_get2 ha (List.getElem?_eq_getElem hi')
    have sl : SqL c.K H a vs := SqL.of (g.ex _ _ (e.same _ _ hx))
    refine ⟨⟨vs, v, sl, h1⟩, fun x H' ⟨e1, y⟩ => ?_⟩
    subst e1
    have hv := y vs sl
    rw [h1] at hv
    obtain rfl := Option.some.inj hv
    refine ⟨F1, Ext.refl _ _, g, mD ms[i], ?_, rpm_rp (rpm_mono e h2)⟩
    rw [List.getElem?_map, List.getElem?_eq_getElem hi']
    rfl
  stop := fun i G H F1 io1 S1 hi e g => ⟨vs, SqL.of (g.ex _ _ (e.same _ _ hx)), by rw [paired_len ha]; simpa using hi⟩
theorem fi_enM (h : ∀ {te : TE}, PE X e te → PI X tg iter (iEnB X.K (tCons te tNil))) (he : PE X e (tE c fa)) (hK : c.K = X.K := by rfl) : PI X tg iter (tI c (fEnuM fa)) :=
  pi_imp (h he) fun σ H R ⟨G, F, io, S, ρ, gd, re, q⟩ => ⟨G, F, io, S, ρ, gd, re, Aft.step q fun d S1 v F1 i1 H1 e1 g1 r1 q1 => by
    cases d with
    | mix ms =>
      obtain ⟨a, vs, rfl, hx, ha⟩ := r1
      rw [← hK]
      exact ⟨a, vs, rfl, .inr ⟨SqL.of (g1.ex _ _ hx), Aft.here q1 g1 (itd_enM hx ha)⟩⟩
    | _ => exact q1.elim⟩
theorem fi_M (h : PE X e (tE c fa)) (hK : c.K = X.K := by rfl) : PI X tg e (tI c (fItM fa)) := pi_imp (pi_list h) fun σ H R ⟨G, F, io, S, ρ, gd, re, q⟩ => ⟨G, F, io, S, ρ, gd, re, Aft.step q fun d S1 v F1 i1 H1 e1 g1 r1 q1 => by
  cases d with
  | mix ms =>
    obtain ⟨a, vs, rfl, hx, ha⟩ := r1
    rw [← hK]
    exact ⟨a, rfl, ⟨vs, SqL.of (g1.ex _ _ hx)⟩, Aft.here q1 g1 (itd_M hx ha)⟩
  | _ => exact q1.elim⟩
def gTpM (n : Nat) (gs : FGs) : FG := fun d ρ => match d with
  | .mtp ms => if ms.length = n then gs (ms.map mD) ρ else none
  | _ => none
theorem fg_tupM {es : List Expr} {k : Nat} {n : Nat} {ws : List Nat} {gs : FGs} {pos : Pos} (hc : X.calm = true) (h : PGs X es (tGs c ws gs)) (hK : c.K = X.K) (hn : (assignEach es X.env).length = n := by rfl) (hst : (assignEach es X.env).findIdx? (·.1) = none := by rfl) : PG X (.Tuple es k pos) (tG c ws (gTpM n gs)) :=
  pg_imp (pg_tup hc h hn hst) fun v σ H Q ⟨G, F, io, S, d, ρ, ρ', gd, r, re, e, q⟩ => by
    cases d with
    | mtp ms =>
      have e : (if ms.length = n then gs (ms.map mD) ρ else none) = some ρ' := e
      by_cases hl : ms.length = n
      · rw [if_pos hl] at e
        obtain ⟨a, xs, rfl, hx, ha⟩ := r
        exact ⟨a, xs, rfl, by rw [← hK]; exact SqT.of (gd.ex _ _ hx), by rw [paired_len ha]; exact hl, G, F, io, S, ms.map mD, ρ, ρ', gd, rpm_rpa ha, re, e, q⟩
      · rw [if_neg hl] at e
        cases e
    | _ => cases e
end
/-! ### rules for simp -/
section
variable {ρ : Env} {S : Sto} {a fo fv fa : FE} {d y z : D} {ds : List D} {x : Str} {n : Nat} {gs : FGs} {ms : List Mx} {k : Nat} {cn f : Str} {fs : List (Str × D)} {g : D → D → Sto → Res D}
def splK2 (a : Str) (q : Res D) : Res D := q.bind (gSplit a)
def splK (fa : FE) (ρ : Env) (q : Res D) : Res D := q.bind fun o S1 => match o with
  | .p (.str a) => splK2 a (fa ρ S1)
  | _ => .bad
@[simp ↓] theorem ap_split : fSplit fo fa ρ S = splK fa ρ (fo ρ S) := rfl
@[simp] theorem splK_ok : splK fa ρ (.ok (.p (.str x)) S) = splK2 x (fa ρ S) := rfl
@[simp] theorem splK2_ok : splK2 x (.ok d S) = gSplit x d S := rfl
def joiK2 (a : Str) (q : Res D) : Res D := q.bind (gJoin a)
def joiK (fa : FE) (ρ : Env) (q : Res D) : Res D := q.bind fun o S1 => match o with
  | .p (.str a) => joiK2 a (fa ρ S1)
  | _ => .bad
@[simp ↓] theorem ap_join : fJoin fo fa ρ S = joiK fa ρ (fo ρ S) := rfl
@[simp] theorem joiK_ok : joiK fa ρ (.ok (.p (.str x)) S) = joiK2 x (fa ρ S) := rfl
@[simp] theorem joiK2_ok : joiK2 x (.ok d S) = gJoin x d S := rfl
def augIK (cn f : Str) (g : D → D → Sto → Res D) (fv : FE) (ρ : Env) (q : Res D) : Fl := q.thn ρ (augI cn f g fv ρ)
@[simp ↓] theorem ap_augI : fAugI cn f g fv fo ρ S = augIK cn f g fv ρ (fo ρ S) := rfl
@[simp] theorem augIK_ok : augIK cn f g fv ρ (.ok d S) = augI cn f g fv ρ d S := rfl
theorem augI_ok {S2 S3 : Sto} {y z x0 : D} {fs3 : List (Str × D)} (h : S[k]? = some (.ins cn fs)) (h2 : fs.lookup f = some x0) (h3 : fv ρ S = .ok y S2) (h4 : g x0 y S2 = .ok z S3) (h5 : S3[k]? = some (.ins cn fs3)) (h6 : fs3.length < 900) : augI cn f g fv ρ (.own k) S = .nx ρ (S3.set k (.ins cn (putL f z fs3))) := by
  unfold augI
  simp only [h, h2, h3, if_true, Res.thn, h4, augI3, h5, h6, true_and]
end
end Tw
namespace Tw
open PySem PySem.Spec PyProof.Rows L2
def m_span : FS := (fSeq (fAsg (fTup (fCons (fCon (.int 1)) (fCons (fCon .none) fNil))) (gTp 2 (gsCons (gNm 2) (gsCons (gNm 3) gsNil))))
  (fSeq (fFor (fItS (fVar 0)) (gTp 3 (gsCons (gNm 4) (gsCons (gNm 5) (gsCons (gNm 6) gsNil))))
   (fSeq (fSet 7 (fBin gAdd (fBin gMul (fVar 4) (fVar 1)) (fVar 6)))
  (fIfS (fBin gGt (fVar 5) (fCon (.int 0))) (fSet 2 (fCall gMax2 (fCons (fVar 2) (fCons (fUn gNeg (fBin gDiv (fVar 7) (fVar 5))) fNil)))) (fIfS (fBin gLt (fVar 5) (fCon (.int 0))) (fSet 3 (fIf (fBin gIsN (fVar 3) (fCon .none)) (fBin gDiv (fVar 7) (fUn gNeg (fVar 5))) (fCall gMin2 (fCons (fVar 3) (fCons (fBin gDiv (fVar 7) (fUn gNeg (fVar 5))) fNil))))) (fIfS (fBin gLt (fVar 7) (fCon (.int 0))) (fRet (fCon .none)) fPass)))))
  (fRet (fIf (fOr (fBin gIsN (fVar 3) (fCon .none)) (fBin gLe (fVar 2) (fVar 3))) (fTup (fCons (fVar 2) (fCons (fVar 3) fNil))) (fCon .none)))))

def m_least_from : FS := (fSeq (fFor (fRng2 (fCons (fVar 1) (fCons (fCon (.int 800)) fNil))) (gNm 2)
   (fSeq (fSet 3 (fCall (callM 8 m_span) (fCons (fVar 0) (fCons (fVar 2) fNil))))
  (fIfS (fBin gNotN (fVar 3) (fCon .none)) (fRet (fTup (fCons (fVar 2) (fCons (fBin gIx (fVar 3) (fCon (.int 0))) fNil)))) fPass)))
  (fRet (fCon .none)))

def m_least_point : FS := (fRet (fCall (callM 4 m_least_from) (fCons (fVar 0) (fCons (fCon (.int 1)) fNil))))

def m_below : FS := (fRet (fTup (fCons (fUn gNeg (fBin gIx (fVar 0) (fCon (.int 0)))) (fCons (fUn gNeg (fBin gIx (fVar 0) (fCon (.int 1)))) (fCons (fUn gNeg (fBin gIx (fVar 0) (fCon (.int 2)))) fNil)))))

def m_least_of : FS := (fSeq (fSet 1 (fComp [2] (fItS (fVar 0)) (gNm 2) (fBin gNotN (fVar 2) (fCon .none)) (fVar 2)))
  (fRet (fIf (fBin gNe (fVar 1) (fLst fNil)) (fCall gMinD (fCons (fVar 1) fNil)) (fCon .none))))

def m_first_free : FS := (fSeq (fSet 3 (fCall (callM 8 m_span) (fCons (fVar 0) (fCons (fVar 2) fNil))))
  (fSeq (fIfS (fOr (fBin gIsN (fVar 3) (fCon .none)) (fCall gAny (fCons (fComp [6, 7, 8] (fItS (fVar 1)) (gTp 3 (gsCons (gNm 6) (gsCons (gNm 7) (gsCons (gNm 8) gsNil)))) fYes (fAnd (fBin gEq (fVar 7) (fCon (.int 0))) (fBin gEq (fBin gAdd (fBin gMul (fVar 6) (fVar 2)) (fVar 8)) (fCon (.int 0))))) fNil))) (fRet (fCon .none)) fPass)
  (fSeq (fSet 4 (fComp [6, 7, 8] (fItS (fVar 1)) (gTp 3 (gsCons (gNm 6) (gsCons (gNm 7) (gsCons (gNm 8) gsNil)))) (fAnd (fBin gNe (fVar 7) (fCon (.int 0))) (fBin gEq (fBin gModN (fBin gAdd (fBin gMul (fVar 6) (fVar 2)) (fVar 8)) (fVar 7)) (fCon (.int 0)))) (fBin gDivN (fUn gNeg (fBin gAdd (fBin gMul (fVar 6) (fVar 2)) (fVar 8))) (fVar 7))))
  (fSeq (fSet 5 (fBin gIx (fVar 3) (fCon (.int 0))))
  (fSeq (fWhile 1000 (fBin (gIn false) (fVar 5) (fVar 4)) (fAug 5 (gI fun i j => .int (i + j)) (fCon (.int 1))))
  (fRet (fIf (fOr (fBin gIsN (fBin gIx (fVar 3) (fCon (.int 1))) (fCon .none)) (fBin gLe (fVar 5) (fBin gIx (fVar 3) (fCon (.int 1))))) (fVar 5) (fCon .none))))))))

def m_least_off : FS := (fSeq (fIfS (fBin (gInD false) (fTup (fCons (fCon (.int 0)) (fCons (fCon (.int 0)) (fCons (fCon (.int 0)) fNil)))) (fVar 1)) (fRet (fCon .none)) fPass)
  (fSeq (fFor (fRng2 (fCons (fCon (.int 1)) (fCons (fCon (.int 2400)) fNil))) (gNm 2)
   (fSeq (fSet 3 (fCall (callM 9 m_first_free) (fCons (fVar 0) (fCons (fVar 1) (fCons (fVar 2) fNil)))))
  (fIfS (fBin gNotN (fVar 3) (fCon .none)) (fRet (fTup (fCons (fVar 2) (fCons (fVar 3) fNil)))) fPass)))
  (fRet (fCon .none))))

def m_is_integer : FS := (fRet (fAnd (fIsi .int (fVar 0)) (fAnd (fNot (fIsi .bool (fVar 0))) (fChain gLe gLe (fVar 1) (fVar 0) (fVar 2)))))

def m_is_row : FS := (fSeq (fIfS (fOr (fNot (fIsi .tuple (fVar 0))) (fBin gNe (fCall gLen (fCons (fVar 0) fNil)) (fCon (.int 3)))) (fRet (fCon (.bool false))) fPass)
  (fRet (fAnd (fCall gAll (fCons (fComp [3] (fItS (fSlice (fVar 0) fNo (fSome (fCon (.int 2))))) (gNm 3) fYes (fCall (callM 3 m_is_integer) (fCons (fVar 3) (fCons (fUn gNeg (fVar 1)) (fCons (fVar 1) fNil))))) fNil)) (fCall (callM 3 m_is_integer) (fCons (fBin gIx (fVar 0) (fCon (.int 2))) (fCons (fUn gNeg (fVar 2)) (fCons (fVar 2) fNil)))))))

def m_is_fact : FS := (fRet (fCall (callM 4 m_is_row) (fCons (fVar 0) (fCons (fCon (.int 3)) (fCons (fCon (.int 12)) fNil)))))

def m_World___init__ : FS := (fSeq (fIfS (fOr (fNot (fIsi .tuple (fVar 1))) (fBin gGt (fCall gLen (fCons (fVar 1) fNil)) (fCon (.int 4)))) (fRaise1 ("InvalidFact" : PySem.Str) (fCon .none)) fPass)
  (fSeq (fFor (fEnu (fVar 1)) (gTp 2 (gsCons (gNm 2) (gsCons (gNm 3) gsNil)))
   (fIfS (fNot (fCall (callM 1 m_is_fact) (fCons (fVar 3) fNil))) (fRaise1 ("InvalidFact" : PySem.Str) (fVar 2)) fPass))
  (fSeq (fSet 4 (fCall (callM 1 m_least_point) (fCons (fVar 1) fNil)))
  (fSeq (fIfS (fBin gIsN (fVar 4) (fCon .none)) (fRaise0 ("NoWorths" : PySem.Str)) fPass)
  (fNewW 0 1 4)))))

def m_is_pair : FS := (fRet (fAnd (fIsi .tuple (fVar 0)) (fAnd (fBin gEq (fCall gLen (fCons (fVar 0) fNil)) (fCon (.int 2))) (fCall gAll (fCons (fComp [2] (fItS (fVar 0)) (gNm 2) fYes (fCall (callM 3 m_is_integer) (fCons (fVar 2) (fCons (fCon (.int 0)) (fCons (fVar 1) fNil))))) fNil)))))

def m_is_purse : FS := (fRet (fCall (callM 3 m_is_pair) (fCons (fVar 0) (fCons (fCon (.int 4)) fNil))))

def m_is_total : FS := (fSeq (fIfS (fOr (fNot (fIsi .tuple (fVar 0))) (fOr (fBin gNe (fCall gLen (fCons (fVar 0) fNil)) (fCon (.int 3))) (fNot (fCall (callM 3 m_is_pair) (fCons (fSlice (fVar 0) fNo (fSome (fCon (.int 2)))) (fCons (fCon (.int 4)) fNil)))))) (fRet (fCon (.bool false))) fPass)
  (fRet (fCall (callM 3 m_is_integer) (fCons (fBin gIx (fVar 0) (fCon (.int 2))) (fCons (fUn gNeg (fCon (.int 12))) (fCons (fCon (.int 12)) fNil))))))

def m_is_step : FS := (fSeq (fIfS (fOr (fNot (fIsi .tuple (fVar 0))) (fOr (fBin gNe (fCall gLen (fCons (fVar 0) fNil)) (fCon (.int 2))) (fNot (fCall gAll (fCons (fComp [1] (fItS (fVar 0)) (gNm 1) fYes (fIsi .str (fVar 1))) fNil))))) (fRet (fCon (.bool false))) fPass)
  (fRet (fAnd (fBin (gIn false) (fBin gIx (fVar 0) (fCon (.int 0))) (fCon (.tuple [.str ("most" : PySem.Str), .str ("one" : PySem.Str)]))) (fBin (gIn false) (fBin gIx (fVar 0) (fCon (.int 1))) (fCon (.tuple [.str ("a" : PySem.Str), .str ("b" : PySem.Str)]))))))

def m_is_recipe : FS := (fRet (fAnd (fIsi .tuple (fVar 0)) (fAnd (fBin gLe (fCall gLen (fCons (fVar 0) fNil)) (fCon (.int 4))) (fCall gAll (fCons (fComp [1] (fItS (fVar 0)) (gNm 1) fYes (fCall (callM 2 m_is_step) (fCons (fVar 1) fNil))) fNil)))))

def m_look_at : FS := (fSeq (fIfS (fNot (fCall (callM 1 m_is_purse) (fCons (fVar 0) fNil))) (fRaise0 ("InvalidPurse" : PySem.Str)) fPass)
  (fSeq (fIfS (fNot (fCall (callM 1 m_is_total) (fCons (fVar 1) fNil))) (fRaise0 ("InvalidTotal" : PySem.Str)) fPass)
  (fIfS (fNot (fCall gAll (fCons (fComp [3] (fItS (fVar 2)) (gNm 3) fYes (fCall (callM 2 m_is_recipe) (fCons (fVar 3) fNil))) fNil))) (fRaise0 ("InvalidRecipe" : PySem.Str)) fPass)))

def m_left_of : FS := (fRet (fTup (fCons (fBin gMinus (fBin gIx (fVar 0) (fCon (.int 0))) (fBin gIx (fVar 1) (fCon (.int 0)))) (fCons (fBin gMinus (fBin gIx (fVar 0) (fCon (.int 1))) (fBin gIx (fVar 1) (fCon (.int 1)))) (fCons (fBin gIx (fVar 0) (fCon (.int 2))) fNil)))))

def m_all_coins : FS := (fRet (fComp2 [1, 2] (fRng1 (fCons (fBin gAdd (fBin gIx (fVar 0) (fCon (.int 0))) (fCon (.int 1))) fNil)) (gNm 1) fYes (fRng1 (fCons (fBin gAdd (fBin gIx (fVar 0) (fCon (.int 1))) (fCon (.int 1))) fNil)) [2] (gNm 2) fYes (fTup (fCons (fVar 1) (fCons (fVar 2) fNil)))))

def m_payable : FS := (fSeq (fDrop (fCall (callM 4 m_look_at) (fCons (fVar 1) (fCons (fVar 2) (fCons (fTup fNil) fNil)))))
  (fSeq (fSet 3 (fComp [5] (fItS (fCall (callM 3 m_all_coins) (fCons (fVar 1) fNil))) (gNm 5) fYes (fCall (callM 2 m_left_of) (fCons (fVar 2) (fCons (fVar 5) fNil)))))
  (fSeq (fSet 4 (fCall (callM 3 m_least_of) (fCons (fComp [6] (fItS (fVar 3)) (gNm 6) fYes (fCall (callM 1 m_least_point) (fCons (fLst (fStar (fFld false (fVar 0)) (fCons (fVar 6) (fCons (fCall (callM 1 m_below) (fCons (fVar 6) fNil)) fNil)))) fNil))) fNil)))
  (fRet (fTup (fCons (fVar 4) (fCons (fCall (callM 4 m_least_off) (fCons (fFld false (fVar 0)) (fCons (fVar 3) fNil))) fNil)))))))

def m__law_mix : FS := (fSeq (fSet 2 (fVar 1))
  (fSeq (fFor (fItS (fVar 0)) (gNm 3)
   (fSet 2 (fBin gMod (fCall gInt (fCons (fBin gAdd (fBin gAdd (fBin gMul (fVar 2) (fCon (.int 48271))) (fBin gMod (fCall gInt (fCons (fVar 3) fNil)) (fCon (.int 2147483629)))) (fCon (.int 1))) fNil)) (fCon (.int 2147483647)))))
  (fRet (fLstO (fCons (fVar 2) (fCons (fCall gListO (fCons (fVar 0) fNil)) (fCons (fCon (.int 0)) (fCons (fCon (.int 14)) fNil))))))))

def m__law_next : FS := (fSeq (fSet 2 (fBin gIx (fBin gAdd (fBin gIx (fVar 0) (fCon (.int 1))) (fLst (fCons (fCon (.int 0)) fNil))) (fBin gMod (fCall gInt (fCons (fBin gIx (fVar 0) (fCon (.int 2))) fNil)) (fCall gMax2 (fCons (fCon (.int 1)) (fCons (fCall gLen (fCons (fBin gIx (fVar 0) (fCon (.int 1))) fNil)) fNil))))))
  (fSeq (fIfS (fBin gGe (fVar 2) (fBin gPow (fCon (.int 10)) (fCon (.int 18)))) (fSeq (fSetIx (fBin gDiv (fVar 2) (fVar 1)) (fBin gIx (fVar 0) (fCon (.int 1))) (fBin gMod (fCall gInt (fCons (fBin gIx (fVar 0) (fCon (.int 2))) fNil)) (fCall gLen (fCons (fBin gIx (fVar 0) (fCon (.int 1))) fNil))))
  (fRet (fBin gMod (fCall gInt (fCons (fVar 2) fNil)) (fVar 1)))) fPass)
  (fSeq (fSetIx (fBin gMod (fCall gInt (fCons (fBin gAdd (fBin gAdd (fBin gMul (fBin gIx (fVar 0) (fCon (.int 0))) (fCon (.int 48271))) (fBin gMul (fVar 2) (fCon (.int 69621)))) (fCon (.int 11))) fNil)) (fCon (.int 2147483647))) (fVar 0) (fCon (.int 0)))
  (fSeq (fSetIx (fBin gAdd (fBin gIx (fVar 0) (fCon (.int 2))) (fCon (.int 1))) (fVar 0) (fCon (.int 2)))
  (fRet (fBin gMod (fCall gInt (fCons (fBin gDiv (fBin gIx (fVar 0) (fCon (.int 0))) (fCon (.int 7))) fNil)) (fVar 1)))))))

def m__law_at : FS := (fRet (fBin gAdd (fBin gAdd (fBin gMul (fBin gIx (fVar 0) (fCon (.int 0))) (fBin gIx (fVar 1) (fCon (.int 0)))) (fBin gMul (fBin gIx (fVar 0) (fCon (.int 1))) (fBin gIx (fVar 1) (fCon (.int 1))))) (fBin gIx (fVar 0) (fCon (.int 2)))))

def m__law_fact : FS := (fSeq (fSet 2 (fTup (fCons (fBin gMinus (fCall (callM 3 m__law_next) (fCons (fVar 0) (fCons (fCon (.int 7)) fNil))) (fCon (.int 3))) (fCons (fBin gMinus (fCall (callM 3 m__law_next) (fCons (fVar 0) (fCons (fCon (.int 7)) fNil))) (fCon (.int 3))) (fCons (fBin gMinus (fCall (callM 3 m__law_next) (fCons (fVar 0) (fCons (fCon (.int 25)) fNil))) (fCon (.int 12))) fNil)))))
  (fSeq (fIfS (fBin gLt (fCall (callM 2 m__law_at) (fCons (fVar 2) (fCons (fVar 1) fNil))) (fCon (.int 0))) (fSet 2 (fTup (fCons (fUn gNeg (fBin gIx (fVar 2) (fCon (.int 0)))) (fCons (fUn gNeg (fBin gIx (fVar 2) (fCon (.int 1)))) (fCons (fUn gNeg (fBin gIx (fVar 2) (fCon (.int 2)))) fNil))))) fPass)
  (fRet (fVar 2))))

def m__law_facts : FS := (fSeq (fSet 2 (fTup (fCons (fBin gAdd (fCon (.int 1)) (fCall (callM 3 m__law_next) (fCons (fVar 0) (fCons (fCon (.int 9)) fNil)))) (fCons (fBin gAdd (fCon (.int 1)) (fCall (callM 3 m__law_next) (fCons (fVar 0) (fCons (fCon (.int 15)) fNil)))) fNil))))
  (fSeq (fSet 3 (fLst (fCons (fTup (fCons (fUn gNeg (fCon (.int 1))) (fCons (fCon (.int 1)) (fCons (fUn gNeg (fCon (.int 1))) fNil)))) (fCons (fTup (fCons (fCon (.int 2)) (fCons (fUn gNeg (fCon (.int 1))) (fCons (fCon (.int 0)) fNil)))) (fCons (fTup (fCons (fCon (.int 3)) (fCons (fUn gNeg (fCon (.int 1))) (fCons (fCon (.int 0)) fNil)))) (fCons (fTup (fCons (fCon (.int 1)) (fCons (fCon (.int 0)) (fCons (fUn gNeg (fCon (.int 2))) fNil)))) fNil))))))
  (fSeq (fSet 4 (fLstO fNil))
  (fSeq (fFor (fRng1 (fCons (fCall (callM 3 m__law_next) (fCons (fVar 0) (fCons (fBin gAdd (fVar 1) (fCon (.int 1))) fNil))) fNil)) (gNm 5)
   (fSeq (fSet 6 (fBin gIx (fVar 3) (fCall (callM 3 m__law_next) (fCons (fVar 0) (fCons (fCon (.int 4)) fNil)))))
  (fIfS (fAnd (fBin gEq (fCall (callM 3 m__law_next) (fCons (fVar 0) (fCons (fCon (.int 2)) fNil))) (fCon (.int 0))) (fBin gGe (fCall (callM 2 m__law_at) (fCons (fVar 6) (fCons (fVar 2) fNil))) (fCon (.int 0)))) (fDrop (fApp (fVar 4) (fVar 6))) (fDrop (fApp (fVar 4) (fCall (callM 3 m__law_fact) (fCons (fVar 0) (fCons (fVar 2) fNil))))))))
  (fRet (fCall gTuple (fCons (fVar 4) fNil)))))))

def m__law_keeps : FS := (fSeq (fFor (fItS (fVar 0)) (gNm 2)
   (fIfS (fBin gLt (fCall (callM 2 m__law_at) (fCons (fVar 2) (fCons (fVar 1) fNil))) (fCon (.int 0))) (fRet (fCon (.bool false))) fPass))
  (fRet (fCon (.bool true))))

def m__law_grid : FS := (fSeq (fSet 2 (fLstO fNil))
  (fSeq (fFor (fRng2 (fCons (fCon (.int 1)) (fCons (fBin gAdd (fVar 1) (fCon (.int 1))) fNil))) (gNm 3)
   (fFor (fRng2 (fCons (fCon (.int 1)) (fCons (fBin gAdd (fBin gMul (fCon (.int 8)) (fVar 3)) (fCon (.int 40))) fNil))) (gNm 4)
   (fIfS (fCall (callM 3 m__law_keeps) (fCons (fVar 0) (fCons (fTup (fCons (fVar 3) (fCons (fVar 4) fNil))) fNil))) (fDrop (fApp (fVar 2) (fTup (fCons (fVar 3) (fCons (fVar 4) fNil))))) fPass)))
  (fRet (fFrz (fVar 2)))))

def m__law_purse : FS := (fRet (fTup (fCons (fCall (callM 3 m__law_next) (fCons (fVar 0) (fCons (fCon (.int 5)) fNil))) (fCons (fCall (callM 3 m__law_next) (fCons (fVar 0) (fCons (fCon (.int 5)) fNil))) fNil))))

def m__law_total : FS := (fRet (fTup (fCons (fCall (callM 3 m__law_next) (fCons (fVar 0) (fCons (fCon (.int 5)) fNil))) (fCons (fCall (callM 3 m__law_next) (fCons (fVar 0) (fCons (fCon (.int 5)) fNil))) (fCons (fBin gIx (fLst (fCons (fCon (.int 0)) (fCons (fCon (.int 0)) (fCons (fBin gMinus (fCall (callM 3 m__law_next) (fCons (fVar 0) (fCons (fCon (.int 25)) fNil))) (fCon (.int 12))) (fCons (fBin gMinus (fCall (callM 3 m__law_next) (fCons (fVar 0) (fCons (fCon (.int 7)) fNil))) (fCon (.int 3))) fNil))))) (fCall (callM 3 m__law_next) (fCons (fVar 0) (fCons (fCon (.int 4)) fNil)))) fNil)))))

def m_is_worths : FS := (fRet (fAnd (fCall (callM 3 m_is_pair) (fCons (fVar 0) (fCons (fCon (.int 1000000000)) fNil))) (fBin (gIn true) (fCon (.int 0)) (fVar 0))))

def m_more_of : FS := (fRet (fIf (fBin gEq (fVar 1) (fCon (.int 0))) (fTup (fCons (fBin gAdd (fBin gIx (fVar 0) (fCon (.int 0))) (fVar 2)) (fCons (fBin gIx (fVar 0) (fCon (.int 1))) fNil))) (fTup (fCons (fBin gIx (fVar 0) (fCon (.int 0))) (fCons (fBin gAdd (fBin gIx (fVar 0) (fCon (.int 1))) (fVar 2)) fNil)))))

def m_steps_done : FS := (fSeq (fSet 4 (fTup (fCons (fCon (.int 0)) (fCons (fCon (.int 0)) fNil))))
  (fSeq (fFor (fItS (fVar 3)) (gTp 2 (gsCons (gNm 5) (gsCons (gNm 6) gsNil)))
   (fSeq (fSet 7 (fKix (fVar 6)))
  (fSeq (fSet 8 (fBin gMinus (fBin gIx (fVar 1) (fVar 7)) (fBin gIx (fVar 4) (fVar 7))))
  (fSeq (fSet 9 (fCall gMin2 (fCons (fVar 8) (fCons (fCall gInt (fCons (fBin gGt (fVar 2) (fCon (.int 0))) fNil)) fNil))))
  (fSeq (fIfS (fBin gEq (fVar 5) (fCon (.str ("most" : PySem.Str)))) (fSet 9 (fCall gMin2 (fCons (fVar 8) (fCons (fBin gDiv (fCall gMax2 (fCons (fVar 2) (fCons (fCon (.int 0)) fNil))) (fBin gIx (fVar 0) (fVar 7))) fNil)))) fPass)
  (fSeq (fSet 4 (fCall (callM 3 m_more_of) (fCons (fVar 4) (fCons (fVar 7) (fCons (fVar 9) fNil)))))
  (fAug 2 (gI fun i j => .int (i - j)) (fBin gMul (fVar 9) (fBin gIx (fVar 0) (fVar 7))))))))))
  (fRet (fTup (fCons (fVar 4) (fCons (fVar 2) fNil))))))

def m_paid : FS := (fSeq (fIfS (fNot (fCall (callM 1 m_is_worths) (fCons (fVar 0) fNil))) (fRaise0 ("InvalidWorths" : PySem.Str)) fPass)
  (fSeq (fDrop (fCall (callM 4 m_look_at) (fCons (fVar 1) (fCons (fVar 2) (fCons (fTup (fCons (fVar 3) fNil)) fNil)))))
  (fRet (fCall (callM 10 m_steps_done) (fCons (fVar 0) (fCons (fVar 1) (fCons (fBin gAdd (fBin gAdd (fBin gMul (fBin gIx (fVar 2) (fCon (.int 0))) (fBin gIx (fVar 0) (fCon (.int 0)))) (fBin gMul (fBin gIx (fVar 2) (fCon (.int 1))) (fBin gIx (fVar 0) (fCon (.int 1))))) (fBin gIx (fVar 2) (fCon (.int 2)))) (fCons (fVar 3) fNil))))))))

def m__law_recipe : FS := (fSeq (fSet 1 (fLstO fNil))
  (fSeq (fFor (fRng1 (fCons (fCall (callM 3 m__law_next) (fCons (fVar 0) (fCons (fCon (.int 5)) fNil))) fNil)) (gNm 2)
   (fDrop (fApp (fVar 1) (fTup (fCons (fBin gIx (fLst (fCons (fCon (.str ("most" : PySem.Str))) (fCons (fCon (.str ("one" : PySem.Str))) (fCons (fCon (.str ("most" : PySem.Str))) fNil)))) (fCall (callM 3 m__law_next) (fCons (fVar 0) (fCons (fCon (.int 3)) fNil)))) (fCons (fBin gIx (fLst (fCons (fCon (.str ("a" : PySem.Str))) (fCons (fCon (.str ("b" : PySem.Str))) fNil))) (fCall (callM 3 m__law_next) (fCons (fVar 0) (fCons (fCon (.int 2)) fNil)))) fNil))))))
  (fRet (fCall gTuple (fCons (fVar 1) fNil)))))

def m__law_done : FS := (fSeq (fSet 4 (fBin gAdd (fBin gAdd (fBin gMul (fBin gIx (fVar 2) (fCon (.int 0))) (fBin gIx (fVar 0) (fCon (.int 0)))) (fBin gMul (fBin gIx (fVar 2) (fCon (.int 1))) (fBin gIx (fVar 0) (fCon (.int 1))))) (fBin gIx (fVar 2) (fCon (.int 2)))))
  (fSeq (fSet 5 (fLstO (fCons (fBin gIx (fVar 1) (fCon (.int 0))) (fCons (fBin gIx (fVar 1) (fCon (.int 1))) fNil))))
  (fSeq (fFor (fItS (fVar 3)) (gTp 2 (gsCons (gNm 6) (gsCons (gNm 7) gsNil)))
   (fSeq (fSet 8 (fIf (fBin gEq (fVar 7) (fCon (.str ("a" : PySem.Str)))) (fCon (.int 0)) (fCon (.int 1))))
  (fIfS (fBin gEq (fVar 6) (fCon (.str ("one" : PySem.Str)))) (fIfS (fAnd (fBin gGt (fBin gIx (fVar 5) (fVar 8)) (fCon (.int 0))) (fBin gGt (fVar 4) (fCon (.int 0)))) (fSeq (fSetIx (fBin gMinus (fBin gIx (fVar 5) (fVar 8)) (fCon (.int 1))) (fVar 5) (fVar 8))
  (fSet 4 (fBin gMinus (fVar 4) (fBin gIx (fVar 0) (fVar 8))))) fPass) (fWhile 1000 (fAnd (fBin gGt (fBin gIx (fVar 5) (fVar 8)) (fCon (.int 0))) (fBin gLe (fBin gIx (fVar 0) (fVar 8)) (fVar 4))) (fSeq (fSetIx (fBin gMinus (fBin gIx (fVar 5) (fVar 8)) (fCon (.int 1))) (fVar 5) (fVar 8))
  (fSet 4 (fBin gMinus (fVar 4) (fBin gIx (fVar 0) (fVar 8)))))))))
  (fRet (fTup (fCons (fTup (fCons (fBin gMinus (fBin gIx (fVar 1) (fCon (.int 0))) (fBin gIx (fVar 5) (fCon (.int 0)))) (fCons (fBin gMinus (fBin gIx (fVar 1) (fCon (.int 1))) (fBin gIx (fVar 5) (fCon (.int 1)))) fNil))) (fCons (fVar 4) fNil)))))))

def m_above : FS := (fRet (fTup (fCons (fBin gIx (fVar 0) (fCon (.int 0))) (fCons (fBin gIx (fVar 0) (fCon (.int 1))) (fCons (fBin gMinus (fBin gIx (fVar 0) (fCon (.int 2))) (fCon (.int 1))) fNil)))))

def m_branches : FS := (fSeq (fAsg (fVar 3) (gTp 2 (gsCons (gNm 4) (gsCons (gNm 5) gsNil))))
  (fSeq (fSet 6 (fKix (fVar 5)))
  (fSeq (fSet 7 (fBin gMinus (fBin gIx (fVar 0) (fVar 6)) (fBin gIx (fVar 2) (fVar 6))))
  (fSeq (fIfS (fBin gEq (fVar 4) (fCon (.str ("one" : PySem.Str)))) (fSeq (fSet 8 (fCall (callM 2 m_left_of) (fCons (fVar 1) (fCons (fVar 2) fNil))))
  (fSeq (fIfS (fBin gEq (fVar 7) (fCon (.int 0))) (fRet (fLst (fCons (fTup (fCons (fVar 2) (fCons (fLst fNil) fNil))) fNil))) fPass)
  (fRet (fLst (fCons (fTup (fCons (fCall (callM 3 m_more_of) (fCons (fVar 2) (fCons (fVar 6) (fCons (fCon (.int 1)) fNil)))) (fCons (fLst (fCons (fCall (callM 1 m_above) (fCons (fVar 8) fNil)) fNil)) fNil))) (fCons (fTup (fCons (fVar 2) (fCons (fLst (fCons (fCall (callM 1 m_below) (fCons (fVar 8) fNil)) fNil)) fNil))) fNil)))))) fPass)
  (fSeq (fSet 9 (fLstO fNil))
  (fSeq (fFor (fRng1 (fCons (fBin gAdd (fVar 7) (fCon (.int 1))) fNil)) (gNm 10)
   (fSeq (fSet 11 (fCall (callM 3 m_more_of) (fCons (fVar 2) (fCons (fVar 6) (fCons (fVar 10) fNil)))))
  (fSeq (fSet 12 (fIf (fBin gGt (fVar 10) (fCon (.int 0))) (fLstO (fCons (fCall (callM 2 m_left_of) (fCons (fVar 1) (fCons (fVar 11) fNil))) fNil)) (fLstO fNil)))
  (fSeq (fIfS (fBin gLt (fVar 10) (fVar 7)) (fDrop (fApp (fVar 12) (fCall (callM 1 m_above) (fCons (fCall (callM 1 m_below) (fCons (fCall (callM 2 m_left_of) (fCons (fVar 1) (fCons (fCall (callM 3 m_more_of) (fCons (fVar 11) (fCons (fVar 6) (fCons (fCon (.int 1)) fNil)))) fNil))) fNil)) fNil)))) fPass)
  (fDrop (fApp (fVar 9) (fTup (fCons (fVar 11) (fCons (fFrz (fVar 12)) fNil)))))))))
  (fRet (fFrz (fVar 9)))))))))

def m_leaves : FS := (fSeq (fSet 4 (fLst (fCons (fTup (fCons (fTup (fCons (fCon (.int 0)) (fCons (fCon (.int 0)) fNil))) (fCons (fCall gList (fCons (fVar 0) fNil)) fNil))) fNil)))
  (fSeq (fFor (fItS (fVar 3)) (gNm 5)
   (fSeq (fSet 6 (fLstO fNil))
  (fSeq (fFor (fItS (fVar 4)) (gTp 2 (gsCons (gNm 7) (gsCons (gNm 8) gsNil)))
   (fFor (fItS (fCall (callM 13 m_branches) (fCons (fVar 1) (fCons (fVar 2) (fCons (fVar 7) (fCons (fVar 5) fNil)))))) (gTp 2 (gsCons (gNm 9) (gsCons (gNm 10) gsNil)))
   (fIfS (fBin gNotN (fCall (callM 1 m_least_point) (fCons (fBin gAdd (fVar 8) (fVar 10)) fNil)) (fCon .none)) (fDrop (fApp (fVar 6) (fTup (fCons (fVar 9) (fCons (fBin gAdd (fVar 8) (fVar 10)) fNil))))) fPass)))
  (fSet 4 (fFrz (fVar 6))))))
  (fRet (fVar 4))))

def m_cases : FS := (fSeq (fDrop (fCall (callM 4 m_look_at) (fCons (fVar 1) (fCons (fVar 2) (fCons (fTup (fCons (fVar 3) fNil)) fNil)))))
  (fSeq (fSet 4 fDnew)
  (fSeq (fFor (fItS (fCall (callM 11 m_leaves) (fCons (fFld false (fVar 0)) (fCons (fVar 1) (fCons (fVar 2) (fCons (fVar 3) fNil)))))) (gTp 2 (gsCons (gNm 5) (gsCons (gNm 6) gsNil)))
   (fDput (fCall (callM 3 m_least_of) (fCons (fLst (fCons (fDget2 (fVar 4) (fVar 5) (fCon .none)) (fCons (fCall (callM 1 m_least_point) (fCons (fVar 6) fNil)) fNil))) fNil)) (fVar 4) (fVar 5)))
  (fRet (fDz [5] (fItS (fCall gSrtT (fCons (fVar 4) fNil))) (gNm 5) (fVar 5) (fDget (fVar 4) (fVar 5)))))))

def m_short : FS := (fSeq (fDrop (fCall (callM 4 m_look_at) (fCons (fVar 1) (fCons (fVar 2) (fCons (fTup (fCons (fVar 3) fNil)) fNil)))))
  (fSeq (fSet 4 (fCall (callM 11 m_leaves) (fCons (fFld false (fVar 0)) (fCons (fVar 1) (fCons (fVar 2) (fCons (fVar 3) fNil))))))
  (fRet (fCall (callM 3 m_least_of) (fCons (fComp [5, 6] (fItS (fVar 4)) (gTp 2 (gsCons (gNm 5) (gsCons (gNm 6) gsNil))) fYes (fCall (callM 1 m_least_point) (fCons (fLst (fStar (fVar 6) (fCons (fCall (callM 1 m_above) (fCons (fCall (callM 2 m_left_of) (fCons (fVar 2) (fCons (fVar 5) fNil))) fNil)) fNil))) fNil))) fNil)))))

def m_lavish : FS := (fSeq (fDrop (fCall (callM 4 m_look_at) (fCons (fVar 1) (fCons (fVar 2) (fCons (fTup (fCons (fVar 3) fNil)) fNil)))))
  (fSeq (fSet 4 (fLstO fNil))
  (fSeq (fFor (fItS (fCall (callM 11 m_leaves) (fCons (fFld false (fVar 0)) (fCons (fVar 1) (fCons (fVar 2) (fCons (fVar 3) fNil)))))) (gTp 2 (gsCons (gNm 5) (gsCons (gNm 6) gsNil)))
   (fSeq (fSet 7 (fLst (fStar (fVar 6) (fCons (fCall (callM 1 m_below) (fCons (fCall (callM 2 m_left_of) (fCons (fVar 2) (fCons (fVar 5) fNil))) fNil)) fNil))))
  (fFor (fItS (fCall (callM 3 m_all_coins) (fCons (fVar 1) fNil))) (gNm 8)
   (fSeq (fSet 9 (fTup (fCons (fBin gMinus (fBin gIx (fVar 5) (fCon (.int 0))) (fBin gIx (fVar 8) (fCon (.int 0)))) (fCons (fBin gMinus (fBin gIx (fVar 5) (fCon (.int 1))) (fBin gIx (fVar 8) (fCon (.int 1)))) (fCons (fUn gNeg (fCon (.int 1))) fNil)))))
  (fIfS (fOr (fBin gGt (fBin gIx (fVar 9) (fCon (.int 0))) (fCon (.int 0))) (fBin gGt (fBin gIx (fVar 9) (fCon (.int 1))) (fCon (.int 0)))) (fDrop (fApp (fVar 4) (fCall (callM 1 m_least_point) (fCons (fLst (fStar (fVar 7) (fCons (fCall (callM 1 m_below) (fCons (fCall (callM 2 m_left_of) (fCons (fVar 2) (fCons (fVar 8) fNil))) fNil)) (fCons (fVar 9) fNil)))) fNil)))) fPass)))))
  (fRet (fCall (callM 3 m_least_of) (fCons (fFrz (fVar 4)) fNil))))))

def m_own_parting : FS := (fSeq (fDrop (fCall (callM 4 m_look_at) (fCons (fVar 1) (fCons (fVar 2) (fCons (fTup (fCons (fVar 3) (fCons (fVar 4) fNil))) fNil)))))
  (fSeq (fSet 5 (fLstO fNil))
  (fSeq (fFor (fItS (fCall (callM 11 m_leaves) (fCons (fFld false (fVar 0)) (fCons (fVar 1) (fCons (fVar 2) (fCons (fVar 3) fNil)))))) (gTp 2 (gsCons (gNm 6) (gsCons (gNm 7) gsNil)))
   (fFor (fItS (fCall (callM 11 m_leaves) (fCons (fVar 7) (fCons (fVar 1) (fCons (fVar 2) (fCons (fVar 4) fNil)))))) (gTp 2 (gsCons (gNm 8) (gsCons (gNm 9) gsNil)))
   (fIfS (fBin gNe (fVar 6) (fVar 8)) (fDrop (fApp (fVar 5) (fCall (callM 1 m_least_point) (fCons (fVar 9) fNil)))) fPass)))
  (fRet (fCall (callM 3 m_least_of) (fCons (fFrz (fVar 5)) fNil))))))

def m_parting : FS := (fRet (fCall (callM 10 m_own_parting) (fCons (fVar 0) (fCons (fVar 1) (fCons (fVar 2) (fCons (fVar 3) (fCons (fVar 4) fNil)))))))

def m_alike : FS := (fRet (fBin gIsN (fCall (callM 10 m_own_parting) (fCons (fVar 0) (fCons (fVar 1) (fCons (fVar 2) (fCons (fVar 3) (fCons (fVar 4) fNil)))))) (fCon .none)))

def m_has_other : FS := (fSeq (fSet 2 (fCall (callM 8 m_span) (fCons (fVar 0) (fCons (fBin gIx (fVar 1) (fCon (.int 0))) fNil))))
  (fSeq (fIfS (fAnd (fBin gNotN (fVar 2) (fCon .none)) (fOr (fBin gIsN (fBin gIx (fVar 2) (fCon (.int 1))) (fCon .none)) (fBin gGt (fBin gIx (fVar 2) (fCon (.int 1))) (fBin gIx (fVar 1) (fCon (.int 1)))))) (fRet (fCon (.bool true))) fPass)
  (fRet (fBin gNotN (fCall (callM 4 m_least_from) (fCons (fVar 0) (fCons (fBin gAdd (fBin gIx (fVar 1) (fCon (.int 0))) (fCon (.int 1))) fNil))) (fCon .none)))))

def m_is_ask : FS := (fSeq (fIfS (fOr (fNot (fIsi .tuple (fVar 0))) (fBin gNe (fCall gLen (fCons (fVar 0) fNil)) (fCon (.int 3)))) (fRet (fCon (.bool false))) fPass)
  (fRet (fAnd (fCall (callM 1 m_is_purse) (fCons (fBin gIx (fVar 0) (fCon (.int 0))) fNil)) (fAnd (fCall (callM 1 m_is_total) (fCons (fBin gIx (fVar 0) (fCon (.int 1))) fNil)) (fCall (callM 2 m_is_recipe) (fCons (fBin gIx (fVar 0) (fCon (.int 2))) fNil))))))

def m_is_payment : FS := (fSeq (fIfS (fOr (fNot (fIsi .tuple (fVar 0))) (fBin gNe (fCall gLen (fCons (fVar 0) fNil)) (fCon (.int 4)))) (fRet (fCon (.bool false))) fPass)
  (fRet (fAnd (fCall (callM 1 m_is_ask) (fCons (fSlice (fVar 0) fNo (fSome (fCon (.int 3)))) fNil)) (fCall (callM 3 m_is_pair) (fCons (fBin gIx (fVar 0) (fCon (.int 3))) (fCons (fCon (.int 4)) fNil))))))

def m_regions_of : FS := (fSeq (fIfS (fOr (fNot (fIsi2 .list .tuple (fVar 1))) (fBin gGt (fCall gLen (fCons (fVar 1) fNil)) (fCon (.int 4)))) (fRaise1 ("InvalidSeen" : PySem.Str) (fCon .none)) fPass)
  (fSeq (fFor (fEnu (fVar 1)) (gTp 2 (gsCons (gNm 2) (gsCons (gNm 3) gsNil)))
   (fIfS (fNot (fCall (callM 1 m_is_payment) (fCons (fVar 3) fNil))) (fRaise1 ("InvalidSeen" : PySem.Str) (fVar 2)) fPass))
  (fSeq (fSet 4 (fLst (fCons (fCall gList (fCons (fFld false (fVar 0)) fNil)) fNil)))
  (fSeq (fFor (fItS (fVar 1)) (gTp 4 (gsCons (gNm 5) (gsCons (gNm 6) (gsCons (gNm 7) (gsCons (gNm 8) gsNil)))))
   (fSet 4 (fComp2 [9, 10, 11] (fItS (fVar 4)) (gNm 9) fYes (fItS (fCall (callM 11 m_leaves) (fCons (fVar 9) (fCons (fVar 5) (fCons (fVar 6) (fCons (fVar 7) fNil)))))) [10, 11] (gTp 2 (gsCons (gNm 10) (gsCons (gNm 11) gsNil))) (fBin gEq (fVar 10) (fVar 8)) (fVar 11))))
  (fRet (fVar 4))))))

def m_fitting : FS := (fRet (fCall (callM 3 m_least_of) (fCons (fComp [2] (fItS (fCall (callM 12 m_regions_of) (fCons (fVar 0) (fCons (fVar 1) fNil)))) (gNm 2) fYes (fCall (callM 1 m_least_point) (fCons (fVar 2) fNil))) fNil)))

def m_settled : FS := (fSeq (fSet 2 (fCall (callM 12 m_regions_of) (fCons (fVar 0) (fCons (fVar 1) fNil))))
  (fSeq (fSet 3 (fCall (callM 3 m_least_of) (fCons (fComp [4] (fItS (fVar 2)) (gNm 4) fYes (fCall (callM 1 m_least_point) (fCons (fVar 4) fNil))) fNil)))
  (fSeq (fIfS (fOr (fBin gIsN (fVar 3) (fCon .none)) (fCall gAny (fCons (fComp [4] (fItS (fVar 2)) (gNm 4) fYes (fOr (fBin gNe (fCall (callM 1 m_least_point) (fCons (fVar 4) fNil)) (fVar 3)) (fCall (callM 3 m_has_other) (fCons (fVar 4) (fCons (fVar 3) fNil))))) fNil))) (fRet (fCon .none)) fPass)
  (fRet (fVar 3)))))

def m__law_fits : FS := (fSeq (fFor (fItS (fVar 1)) (gTp 4 (gsCons (gNm 2) (gsCons (gNm 3) (gsCons (gNm 4) (gsCons (gNm 5) gsNil)))))
   (fIfS (fBin gNe (fBin gIx (fCall (callM 9 m__law_done) (fCons (fVar 0) (fCons (fVar 2) (fCons (fVar 3) (fCons (fVar 4) fNil))))) (fCon (.int 0))) (fVar 5)) (fRet (fCon (.bool false))) fPass))
  (fRet (fCon (.bool true))))

def m_asking : FS := (fSeq (fSet 3 (fCall (callM 12 m_regions_of) (fCons (fVar 0) (fCons (fVar 1) fNil))))
  (fSeq (fFor (fEnu (fVar 2)) (gTp 2 (gsCons (gNm 4) (gsCons (gNm 5) gsNil)))
   (fIfS (fNot (fCall (callM 1 m_is_ask) (fCons (fVar 5) fNil))) (fRaise1 ("InvalidAsk" : PySem.Str) (fVar 4)) fPass))
  (fSeq (fFor (fEnu (fVar 2)) (gTp 2 (gsCons (gNm 4) (gsCons (gTp 3 (gsCons (gNm 6) (gsCons (gNm 7) (gsCons (gNm 8) gsNil)))) gsNil)))
   (fSeq (fSet 9 (fComp2 [10, 11, 12] (fItS (fVar 3)) (gNm 10) fYes (fItS (fCall (callM 11 m_leaves) (fCons (fVar 10) (fCons (fVar 6) (fCons (fVar 7) (fCons (fVar 8) fNil)))))) [11, 12] (gTp 2 (gsCons (gNm 11) (gsCons (gNm 12) gsNil))) fYes (fVar 11)))
  (fIfS (fBin gGt (fCall gLenSet (fCons (fVar 9) fNil)) (fCon (.int 1))) (fRet (fVar 4)) fPass)))
  (fRet (fCon .none)))))

def m_form_at : FS := (fRet (fBin gAdd (fBin gAdd (fBin gMul (fBin gIx (fVar 0) (fCon (.int 0))) (fBin gIx (fVar 1) (fCon (.int 0)))) (fBin gMul (fBin gIx (fVar 0) (fCon (.int 1))) (fBin gIx (fVar 1) (fCon (.int 1))))) (fBin gIx (fVar 0) (fCon (.int 2)))))

def m_World_least : FS := (fRet (fFld true (fVar 0)))

def m_Till___init__ : FS := (fSeq (fIfS (fOr (fNot (fCall (callM 1 m_is_worths) (fCons (fVar 2) fNil))) (fNot (fCall gAll (fCons (fComp [5] (fItS (fFld false (fVar 1))) (gNm 5) fYes (fBin gGe (fCall (callM 2 m_form_at) (fCons (fVar 5) (fCons (fVar 2) fNil))) (fCon (.int 0)))) fNil)))) (fRaise0 ("InvalidWorths" : PySem.Str)) fPass)
  (fSeq (fIfS (fNot (fCall (callM 1 m_is_purse) (fCons (fVar 3) fNil))) (fRaise0 ("InvalidPurse" : PySem.Str)) fPass)
  (fSeq (fIfS (fNot (fCall (callM 1 m_is_total) (fCons (fVar 4) fNil))) (fRaise0 ("InvalidTotal" : PySem.Str)) fPass)
  (fSeq (fPutI "Till" ("source" : PySem.Str) (fVar 1) (fVar 0))
  (fSeq (fPutI "Till" ("known" : PySem.Str) (fVar 2) (fVar 0))
  (fSeq (fPutI "Till" ("have" : PySem.Str) (fVar 3) (fVar 0))
  (fSeq (fPutI "Till" ("goal" : PySem.Str) (fVar 4) (fVar 0))
  (fPutI "Till" ("states" : PySem.Str) (fLstO (fCons (fTup (fCons (fCon (.int 0)) (fCons (fCon (.int 0)) fNil))) fNil)) (fVar 0)))))))))

def m_Till_coins : FS := (fRet (fBin gIx (fGetI "Till" ("states" : PySem.Str) (fVar 0)) (fUn gNeg (fCon (.int 1)))))

def m_left_in : FS := (fSeq (fAsg (fBin gIx (fGetI "Till" ("states" : PySem.Str) (fVar 0)) (fUn gNeg (fCon (.int 1)))) (gTp 2 (gsCons (gNm 1) (gsCons (gNm 2) gsNil))))
  (fRet (fCall (callM 2 m_form_at) (fCons (fTup (fCons (fBin gMinus (fBin gIx (fGetI "Till" ("goal" : PySem.Str) (fVar 0)) (fCon (.int 0))) (fVar 1)) (fCons (fBin gMinus (fBin gIx (fGetI "Till" ("goal" : PySem.Str) (fVar 0)) (fCon (.int 1))) (fVar 2)) (fCons (fBin gIx (fGetI "Till" ("goal" : PySem.Str) (fVar 0)) (fCon (.int 2))) fNil)))) (fCons (fGetI "Till" ("known" : PySem.Str) (fVar 0)) fNil)))))

def m_Till_left : FS := (fRet (fCall (callM 3 m_left_in) (fCons (fVar 0) fNil)))

def m_Till_is_just : FS := (fRet (fBin gEq (fCall (callM 3 m_left_in) (fCons (fVar 0) fNil)) (fCon (.int 0))))

def m_Till___len__ : FS := (fRet (fCall gLen (fCons (fSlice (fGetI "Till" ("states" : PySem.Str) (fVar 0)) (fSome (fCon (.int 1))) fNo) fNil)))

def m_spot_of : FS := (fSeq (fIfS (fOr (fNot (fIsi .str (fVar 0))) (fBin (gIn true) (fVar 0) (fCon (.tuple [.str ("a" : PySem.Str), .str ("b" : PySem.Str)])))) (fRaise0 ("InvalidKind" : PySem.Str)) fPass)
  (fRet (fKix (fVar 0))))

def m_Till_pay : FS := (fSeq (fSet 2 (fCall (callM 1 m_spot_of) (fCons (fVar 1) fNil)))
  (fSeq (fIfS (fBin gEq (fBin gIx (fBin gIx (fGetI "Till" ("states" : PySem.Str) (fVar 0)) (fUn gNeg (fCon (.int 1)))) (fVar 2)) (fBin gIx (fGetI "Till" ("have" : PySem.Str) (fVar 0)) (fVar 2))) (fRaise0 ("NoCoin" : PySem.Str)) fPass)
  (fDrop (fApp (fGetI "Till" ("states" : PySem.Str) (fVar 0)) (fCall (callM 3 m_more_of) (fCons (fBin gIx (fGetI "Till" ("states" : PySem.Str) (fVar 0)) (fUn gNeg (fCon (.int 1)))) (fCons (fVar 2) (fCons (fCon (.int 1)) fNil))))))))

def m_Till_take_back : FS := (fSeq (fSet 2 (fCall (callM 1 m_spot_of) (fCons (fVar 1) fNil)))
  (fSeq (fIfS (fBin gEq (fBin gIx (fBin gIx (fGetI "Till" ("states" : PySem.Str) (fVar 0)) (fUn gNeg (fCon (.int 1)))) (fVar 2)) (fCon (.int 0))) (fRaise0 ("NoCoin" : PySem.Str)) fPass)
  (fDrop (fApp (fGetI "Till" ("states" : PySem.Str) (fVar 0)) (fCall (callM 3 m_more_of) (fCons (fBin gIx (fGetI "Till" ("states" : PySem.Str) (fVar 0)) (fUn gNeg (fCon (.int 1)))) (fCons (fVar 2) (fCons (fUn gNeg (fCon (.int 1))) fNil))))))))

def m_Till_follow : FS := (fSeq (fIfS (fNot (fCall (callM 2 m_is_recipe) (fCons (fVar 1) fNil))) (fRaise0 ("InvalidRecipe" : PySem.Str)) fPass)
  (fSeq (fAsg (fBin gIx (fGetI "Till" ("states" : PySem.Str) (fVar 0)) (fUn gNeg (fCon (.int 1)))) (gTp 2 (gsCons (gNm 2) (gsCons (gNm 3) gsNil))))
  (fSeq (fSet 4 (fTup (fCons (fBin gMinus (fBin gIx (fGetI "Till" ("have" : PySem.Str) (fVar 0)) (fCon (.int 0))) (fVar 2)) (fCons (fBin gMinus (fBin gIx (fGetI "Till" ("have" : PySem.Str) (fVar 0)) (fCon (.int 1))) (fVar 3)) fNil))))
  (fSeq (fSet 5 (fBin gIx (fCall (callM 10 m_steps_done) (fCons (fGetI "Till" ("known" : PySem.Str) (fVar 0)) (fCons (fVar 4) (fCons (fCall (callM 3 m_left_in) (fCons (fVar 0) fNil)) (fCons (fVar 1) fNil))))) (fCon (.int 0))))
  (fSeq (fDrop (fApp (fGetI "Till" ("states" : PySem.Str) (fVar 0)) (fTup (fCons (fBin gAdd (fVar 2) (fBin gIx (fVar 5) (fCon (.int 0)))) (fCons (fBin gAdd (fVar 3) (fBin gIx (fVar 5) (fCon (.int 1)))) fNil)))))
  (fRet (fVar 5)))))))

def m_Till_undo : FS := (fSeq (fIfS (fBin gEq (fCall gLen (fCons (fGetI "Till" ("states" : PySem.Str) (fVar 0)) fNil)) (fCon (.int 1))) (fRet (fCon (.bool false))) fPass)
  (fSeq (fDrop (fLm0 oPop0 (fGetI "Till" ("states" : PySem.Str) (fVar 0))))
  (fRet (fCon (.bool true)))))

def m_Till_copy : FS := (fSeq (fSet 1 (fCall (mkI "Till" (callO 6 m_Till___init__)) (fCons (fGetI "Till" ("source" : PySem.Str) (fVar 0)) (fCons (fGetI "Till" ("known" : PySem.Str) (fVar 0)) (fCons (fGetI "Till" ("have" : PySem.Str) (fVar 0)) (fCons (fGetI "Till" ("goal" : PySem.Str) (fVar 0)) fNil))))))
  (fSeq (fPutI "Till" ("states" : PySem.Str) (fCall gListC (fCons (fGetI "Till" ("states" : PySem.Str) (fVar 0)) fNil)) (fVar 1))
  (fRet (fVar 1))))

def m_World___eq__ : FS := (fRet (fAnd (fIsW (fVar 1)) (fBin gEq (fFld false (fVar 0)) (fFld false (fVar 1)))))

def m_write_world : FS := (fSeq (fIfS (fBin gEq (fFld false (fVar 0)) (fTup fNil)) (fRet (fCon (.str ("none" : PySem.Str)))) fPass)
  (fRet (fJoin (fCon (.str ("\n" : PySem.Str))) (fComp [1] (fItS (fFld false (fVar 0))) (gNm 1) fYes (fJoin (fCon (.str (" " : PySem.Str))) (fLst (fCons (fCon (.str ("fact" : PySem.Str))) (fStar (fComp [2] (fItS (fVar 1)) (gNm 2) fYes (fCall gStr (fCons (fVar 2) fNil))) fNil))))))))

def m_Line___init__ : FS := (fSeq (fPutI "Line" ("at" : PySem.Str) (fVar 2) (fVar 0))
  (fSeq (fPutI "Line" ("pieces" : PySem.Str) (fComp [3] (fItS (fSplit (fVar 1) (fCon (.str (" " : PySem.Str))))) (gNm 3) (fBin gNe (fVar 3) (fCon (.str ("" : PySem.Str)))) (fVar 3)) (fVar 0))
  (fPutI "Line" ("spot" : PySem.Str) (fCon (.int 0)) (fVar 0))))

def m_heads : FS := (fSeq (fIfS (fBin gEq (fVar 0) (fCon (.int 0))) (fRet (fTup (fCons (fCon (.str ("fact" : PySem.Str))) (fCons (fCon (.str ("none" : PySem.Str))) fNil)))) fPass)
  (fRet (fIf (fBin gLt (fVar 0) (fCon (.int 4))) (fTup (fCons (fCon (.str ("fact" : PySem.Str))) fNil)) (fTup fNil))))

def m_turned : FS := (fRet (fTup (fCons (fUn gNeg (fBin gIx (fVar 0) (fCon (.int 0)))) (fCons (fUn gNeg (fBin gIx (fVar 0) (fCon (.int 1)))) (fCons (fBin gMinus (fUn gNeg (fBin gIx (fVar 0) (fCon (.int 2)))) (fCon (.int 1))) fNil)))))

def m_is_form : FS := (fRet (fCall (callM 4 m_is_row) (fCons (fVar 0) (fCons (fCon (.int 8)) (fCons (fCon (.int 24)) fNil)))))

def m_World_and_so : FS := (fSeq (fIfS (fOr (fBin gEq (fCall gLen (fCons (fFld false (fVar 0)) fNil)) (fCon (.int 4))) (fNot (fCall (callM 1 m_is_fact) (fCons (fVar 1) fNil)))) (fRaise1 ("InvalidFact" : PySem.Str) (fCall gLen (fCons (fFld false (fVar 0)) fNil))) fPass)
  (fRet (fCall (mkW (callM 5 m_World___init__)) (fCons (fTup (fStar (fFld false (fVar 0)) (fCons (fVar 1) fNil))) fNil))))

def m_spare : FS := (fSeq (fSet 1 (fLstO fNil))
  (fSeq (fFor (fEnu (fFld false (fVar 0))) (gTp 2 (gsCons (gNm 2) (gsCons (gNm 3) gsNil)))
   (fSeq (fSet 4 (fBin gAdd (fSlice (fFld false (fVar 0)) fNo (fSome (fVar 2))) (fSlice (fFld false (fVar 0)) (fSome (fBin gAdd (fVar 2) (fCon (.int 1)))) fNo)))
  (fIfS (fBin gIsN (fCall (callM 1 m_least_point) (fCons (fLst (fStar (fVar 4) (fCons (fCall (callM 1 m_turned) (fCons (fVar 3) fNil)) fNil))) fNil)) (fCon .none)) (fDrop (fApp (fVar 1) (fVar 2))) fPass)))
  (fRet (fFrz (fVar 1)))))

def m_signs : FS := (fSeq (fIfS (fNot (fCall (callM 1 m_is_form) (fCons (fVar 1) fNil))) (fRaise1 ("InvalidForm" : PySem.Str) (fCon (.int 0))) fPass)
  (fSeq (fSet 2 (fLstO fNil))
  (fSeq (fIfS (fBin gNotN (fCall (callM 1 m_least_point) (fCons (fLst (fStar (fFld false (fVar 0)) (fCons (fCall (callM 1 m_turned) (fCons (fVar 1) fNil)) fNil))) fNil)) (fCon .none)) (fDrop (fApp (fVar 2) (fUn gNeg (fCon (.int 1))))) fPass)
  (fSeq (fIfS (fBin gNotN (fCall (callM 1 m_least_point) (fCons (fLst (fStar (fFld false (fVar 0)) (fCons (fVar 1) (fCons (fCall (callM 1 m_below) (fCons (fVar 1) fNil)) fNil)))) fNil)) (fCon .none)) (fDrop (fApp (fVar 2) (fCon (.int 0)))) fPass)
  (fSeq (fIfS (fBin gNotN (fCall (callM 1 m_least_point) (fCons (fLst (fStar (fFld false (fVar 0)) (fCons (fCall (callM 1 m_above) (fCons (fVar 1) fNil)) fNil))) fNil)) (fCon .none)) (fDrop (fApp (fVar 2) (fCon (.int 1)))) fPass)
  (fRet (fCall gTuple (fCons (fVar 2) fNil))))))))

def m_World_facts : FS := (fRet (fFld false (fVar 0)))

def m_where : FS := (fSeq (fIfS (fOr (fNot (fIsi2 .list .tuple (fVar 1))) (fBin gGt (fCall gLen (fCons (fVar 1) fNil)) (fCon (.int 6)))) (fRaise1 ("InvalidForm" : PySem.Str) (fCon .none)) fPass)
  (fSeq (fFor (fEnu (fVar 1)) (gTp 2 (gsCons (gNm 2) (gsCons (gNm 3) gsNil)))
   (fIfS (fNot (fCall (callM 1 m_is_form) (fCons (fVar 3) fNil))) (fRaise1 ("InvalidForm" : PySem.Str) (fVar 2)) fPass))
  (fRet (fCall (callM 1 m_least_point) (fCons (fLst (fStar (fFld false (fVar 0)) (fStar (fVar 1) fNil))) fNil)))))

def m_Line_take : FS := (fSeq (fIfS (fOr (fBin gEq (fGetI "Line" ("spot" : PySem.Str) (fVar 0)) (fCall gLen (fCons (fGetI "Line" ("pieces" : PySem.Str) (fVar 0)) fNil))) (fBin (gIn true) (fBin gIx (fGetI "Line" ("pieces" : PySem.Str) (fVar 0)) (fGetI "Line" ("spot" : PySem.Str) (fVar 0))) (fVar 1))) fBad fPass)
  (fSeq (fAugI "Line" ("spot" : PySem.Str) (gI fun i j => .int (i + j)) (fCon (.int 1)) (fVar 0))
  (fRet (fBin gIx (fGetI "Line" ("pieces" : PySem.Str) (fVar 0)) (fBin gMinus (fGetI "Line" ("spot" : PySem.Str) (fVar 0)) (fCon (.int 1)))))))

def m_Line_take_number : FS := (fRet (fCall gIntT (fCons (fMtI "Line" ("take" : PySem.Str) (callM 2 m_Line_take) (fVar 0) (fCons (fComp [2] (fRng2 (fCons (fUn gNeg (fVar 1)) (fCons (fBin gAdd (fVar 1) (fCon (.int 1))) fNil))) (gNm 2) fYes (fCall gStr (fCons (fVar 2) fNil))) fNil)) fNil)))

def m_Line_finish : FS := (fIfS (fBin gLt (fGetI "Line" ("spot" : PySem.Str) (fVar 0)) (fCall gLen (fCons (fGetI "Line" ("pieces" : PySem.Str) (fVar 0)) fNil))) fBad fPass)

def m_read_world : FS := (fSeq (fSet 1 (fCompM [3, 7] (fEnu (fSplit (fVar 0) (fCon (.str ("\n" : PySem.Str))))) (gTp 2 (gsCons (gNm 3) (gsCons (gNm 7) gsNil))) fYes (fCall (mkI "Line" (callO 4 m_Line___init__)) (fCons (fVar 7) (fCons (fBin gAdd (fVar 3) (fCon (.int 1))) fNil)))))
  (fSeq (fSet 2 (fLstO fNil))
  (fSeq (fFor (fEnuM (fVar 1)) (gTpM 2 (gsCons (gNm 3) (gsCons (gNm 4) gsNil)))
   (fSeq (fIfS (fBin gEq (fMtI "Line" ("take" : PySem.Str) (callM 2 m_Line_take) (fVar 4) (fCons (fCall (callM 1 m_heads) (fCons (fVar 3) fNil)) fNil)) (fCon (.str ("none" : PySem.Str)))) (fSeq (fDrop (fMtI "Line" ("finish" : PySem.Str) (callM 1 m_Line_finish) (fVar 4) fNil))
  (fSeq (fIfS (fBin gGt (fCall gLen (fCons (fVar 1) fNil)) (fCon (.int 1))) fBad fPass)
  (fRet (fCall (mkW (callM 5 m_World___init__)) (fCons (fTup fNil) fNil))))) fPass)
  (fSeq (fSet 5 (fMtI "Line" ("take_number" : PySem.Str) (callM 3 m_Line_take_number) (fVar 4) (fCons (fCon (.int 3)) fNil)))
  (fSeq (fSet 6 (fMtI "Line" ("take_number" : PySem.Str) (callM 3 m_Line_take_number) (fVar 4) (fCons (fCon (.int 3)) fNil)))
  (fSeq (fDrop (fApp (fVar 2) (fTup (fCons (fVar 5) (fCons (fVar 6) (fCons (fMtI "Line" ("take_number" : PySem.Str) (callM 3 m_Line_take_number) (fVar 4) (fCons (fCon (.int 12)) fNil)) fNil))))))
  (fDrop (fMtI "Line" ("finish" : PySem.Str) (callM 1 m_Line_finish) (fVar 4) fNil)))))))
  (fRet (fCall (mkW (callM 5 m_World___init__)) (fCons (fCall gTuple (fCons (fVar 2) fNil)) fNil))))))

def m__law_loose : FS := (fSeq (fSet 2 (fBin gRepS (fCon (.str (" " : PySem.Str))) (fCall (callM 3 m__law_next) (fCons (fVar 0) (fCons (fCon (.int 3)) fNil)))))
  (fSeq (fFor (fItS (fSplit (fVar 1) (fCon (.str (" " : PySem.Str))))) (gNm 3)
   (fSet 2 (fBin gAdd (fBin gAdd (fVar 2) (fVar 3)) (fBin gRepS (fCon (.str (" " : PySem.Str))) (fBin gAdd (fCon (.int 1)) (fCall (callM 3 m__law_next) (fCons (fVar 0) (fCons (fCon (.int 3)) fNil))))))))
  (fRet (fVar 2))))

def m_law : FS := (fSeq (fSet 1 (fCall (callO 4 m__law_mix) (fCons (fVar 0) (fCons (fCon (.int 12)) fNil))))
  (fSeq (fSet 2 (fCall (callM 7 m__law_facts) (fCons (fVar 1) (fCons (fCon (.int 4)) fNil))))
  (fSeq (fSet 3 (fCall (mkW (callM 5 m_World___init__)) (fCons (fVar 2) fNil)))
  (fSeq (fSet 4 (fComp [6] (fItS (fVar 2)) (gNm 6) fYes (fJoin (fCon (.str (" " : PySem.Str))) (fBin gAdd (fLst (fCons (fCon (.str ("fact" : PySem.Str))) fNil)) (fComp [8] (fItS (fVar 6)) (gNm 8) fYes (fCall gStr (fCons (fVar 8) fNil)))))))
  (fSeq (fSet 4 (fIf (fBin gNe (fVar 4) (fLst fNil)) (fVar 4) (fLst (fCons (fCon (.str ("none" : PySem.Str))) fNil))))
  (fSeq (fIfS (fOr (fBin gNe (fCall (callM 3 m_write_world) (fCons (fVar 3) fNil)) (fJoin (fCon (.str ("\n" : PySem.Str))) (fVar 4))) (fNot (fBin (gEqW (callM 2 m_World___eq__)) (fCall (callM 8 m_read_world) (fCons (fCall (callM 3 m_write_world) (fCons (fVar 3) fNil)) fNil)) (fVar 3)))) (fRet (fCon (.bool false))) fPass)
  (fSeq (fSet 5 (fJoin (fCon (.str ("\n" : PySem.Str))) (fComp [7] (fItS (fVar 4)) (gNm 7) fYes (fCall (callM 4 m__law_loose) (fCons (fVar 1) (fCons (fVar 7) fNil))))))
  (fRet (fBin (gEqW (callM 2 m_World___eq__)) (fCall (callM 8 m_read_world) (fCons (fVar 5) fNil)) (fVar 3))))))))))

/-! ### the text -/
def tp (i : Nat) : Stmt := PySem.Challenge.pw_twoworths_k12_worlds_written.main.body.getD i (.Pass ⟨0, 0, 0, 0⟩)
def tc (i j : Nat) : Stmt := (clsBody (tp i)).getD j (.Pass ⟨0, 0, 0, 0⟩)
def facts : Tw.Facts := [Tw.fcOex "InvalidFact" "index", Tw.fcFree "max", Tw.fcFree "min", Tw.fcGlo "span", Tw.fcInt "BOUND" 800, Tw.fcFree "range", Tw.fcGlo "least_from", Tw.fcGlo "least_point", Tw.fcFree "isinstance", Tw.fcFree "int", Tw.fcFree "bool", Tw.fcGlo "is_integer", Tw.fcFree "tuple", Tw.fcFree "len", Tw.fcFree "all", Tw.fcGlo "is_row", Tw.fcGlo "is_fact", Tw.fcInt "MOST_FACTS" 4, Tw.fcGlo "InvalidFact", Tw.fcFree "enumerate", Tw.fcExc "NoWorths", Tw.fcGlo "NoWorths", Tw.fcIsW, Tw.fcMkr "World", Tw.fcGlo "World", Tw.fcMeth "World" "__eq__", Tw.fcStr "NONE" "none", Tw.fcFree "str", Tw.fcGlo "write_world", Tw.fcCls "Line", Tw.fcNo "Line" "at", Tw.fcNo "Line" "pieces", Tw.fcNo "Line" "spot", Tw.fcMkr "Line", Tw.fcMeth "Line" "take", Tw.fcMeth "Line" "take_number", Tw.fcMeth "Line" "finish", Tw.fcGlo "heads", Tw.fcGlo "Line", Tw.fcInt "MOST_FACTOR" 3, Tw.fcInt "MOST_REST" 12, Tw.fcGlo "read_world", Tw.fcFree "list", Tw.fcGlo "_law_mix", Tw.fcGlo "_law_next", Tw.fcGlo "_law_at", Tw.fcGlo "_law_fact", Tw.fcGlo "_law_facts", Tw.fcGlo "_law_loose", Tw.fcGlo "law"]
def fns : List He.DefD := [⟨("InvalidFact", some "__init__"), "__init__", "InvalidFact.__init__", defArgs (tc 3 0), defBody (tc 3 0), defScope (tc 3 0), [], []⟩,
  ⟨("span", none), "span", "span", defArgs (tp 8), defBody (tp 8), defScope (tp 8), [], []⟩,
  ⟨("least_from", none), "least_from", "least_from", defArgs (tp 9), defBody (tp 9), defScope (tp 9), [], []⟩,
  ⟨("least_point", none), "least_point", "least_point", defArgs (tp 10), defBody (tp 10), defScope (tp 10), [], []⟩,
  ⟨("is_integer", none), "is_integer", "is_integer", defArgs (tp 13), defBody (tp 13), defScope (tp 13), [], []⟩,
  ⟨("is_row", none), "is_row", "is_row", defArgs (tp 14), defBody (tp 14), defScope (tp 14), [], []⟩,
  ⟨("is_fact", none), "is_fact", "is_fact", defArgs (tp 15), defBody (tp 15), defScope (tp 15), [], []⟩,
  ⟨("World", some "__init__"), "__init__", "World.__init__", defArgs (tc 16 1), defBody (tc 16 1), defScope (tc 16 1), [], []⟩,
  ⟨("World", some "__eq__"), "__eq__", "World.__eq__", defArgs (tc 16 4), defBody (tc 16 4), defScope (tc 16 4), [], []⟩,
  ⟨("write_world", none), "write_world", "write_world", defArgs (tp 21), defBody (tp 21), defScope (tp 21), [], []⟩,
  ⟨("Line", some "__init__"), "__init__", "Line.__init__", defArgs (tc 22 0), defBody (tc 22 0), defScope (tc 22 0), [], []⟩,
  ⟨("Line", some "take"), "take", "Line.take", defArgs (tc 22 2), defBody (tc 22 2), defScope (tc 22 2), [], []⟩,
  ⟨("Line", some "take_number"), "take_number", "Line.take_number", defArgs (tc 22 3), defBody (tc 22 3), defScope (tc 22 3), [], []⟩,
  ⟨("Line", some "finish"), "finish", "Line.finish", defArgs (tc 22 4), defBody (tc 22 4), defScope (tc 22 4), [], []⟩,
  ⟨("heads", none), "heads", "heads", defArgs (tp 23), defBody (tp 23), defScope (tp 23), [], []⟩,
  ⟨("read_world", none), "read_world", "read_world", defArgs (tp 24), defBody (tp 24), defScope (tp 24), [], []⟩,
  ⟨("_law_mix", none), "_law_mix", "_law_mix", defArgs (tp 26), defBody (tp 26), defScope (tp 26), [], []⟩,
  ⟨("_law_next", none), "_law_next", "_law_next", defArgs (tp 27), defBody (tp 27), defScope (tp 27), [], []⟩,
  ⟨("_law_at", none), "_law_at", "_law_at", defArgs (tp 28), defBody (tp 28), defScope (tp 28), [], []⟩,
  ⟨("_law_fact", none), "_law_fact", "_law_fact", defArgs (tp 29), defBody (tp 29), defScope (tp 29), [], []⟩,
  ⟨("_law_facts", none), "_law_facts", "_law_facts", defArgs (tp 30), defBody (tp 30), defScope (tp 30), [], []⟩,
  ⟨("_law_loose", none), "_law_loose", "_law_loose", defArgs (tp 31), defBody (tp 31), defScope (tp 31), [], []⟩,
  ⟨("law", none), "law", "law", defArgs (tp 32), defBody (tp 32), defScope (tp 32), [], []⟩]
section
variable {P : Program} {w : World} {K : PySem.W.Frag} {mg : Str → Option Value} {base : Heap}
theorem sc_InvalidFact___init__ : FnScope ["self", "index"] ["self", "index"] (defScope (tc 3 0)) := ⟨rfl, rfl, rfl, by decide +kernel, rfl, by decide +kernel, by decide +kernel⟩
theorem cal_InvalidFact___init__ (T : Tx facts fns K mg) : CalX P w K mg base "InvalidFact" "index" 2 :=
  calX_of (k := 1) (T.fc 0) sc_InvalidFact___init__ rfl (by decide) (fun cdv A outer s H E => pss_one (ps_ost (pv 0) (pv 1))) (fun fd Fd => Fd.bindsN fun _ _ _ _ _ _ us hl => match us, hl with | [_, _], _ => rfl) (SaysW.fd T.says 0)

theorem sc_span : FnScope ["rows", "a", "low", "high", "p", "q", "r", "here"] ["rows", "a"] (defScope (tp 8)) := ⟨rfl, rfl, rfl, by decide +kernel, rfl, by decide +kernel, by decide +kernel⟩
theorem cal_span (T : Tx facts fns K mg) : Cal P w K mg base "span" 1 2 (callM 8 m_span) := by
  obtain ⟨fd, Fd⟩ := SaysW.fd T.says 1
  have sc := sc_span
  exact ⟨_, fd, _, fn_ok Fd sc_span (fun cdv A outer s H E hr =>
    (fss_cons (fs_asg (fun h1 h2 => ps_asg h1 h2) (fe_tup (fa_cons fe_int (fa_cons fe_non fa_nil))) (fg_tup rfl (fgs_cons (fg_name (ws := [2, 3]) (pg_name (i := 2) sc.nd rfl (.inl rfl)) (by decide)) (fgs_cons (fg_name (ws := [2, 3]) (pg_name (i := 3) sc.nd rfl (.inl rfl)) (by decide)) fgs_nil)) rfl))
    (fss_cons (fs_for (passes_of rfl) rfl (fi_seq (fe_var (pv 0))) (fg_tup rfl (fgs_cons (fg_name (ws := [4, 5, 6]) (pg_name (i := 4) sc.nd rfl (.inl rfl)) (by decide)) (fgs_cons (fg_name (ws := [4, 5, 6]) (pg_name (i := 5) sc.nd rfl (.inl rfl)) (by decide)) (fgs_cons (fg_name (ws := [4, 5, 6]) (pg_name (i := 6) sc.nd rfl (.inl rfl)) (by decide)) fgs_nil))) rfl)
     (fss_cons (fs_set (fun h => ps_set (i := 7) sc.nd rfl (.inl rfl) h) (fe_op (fun h1 h2 => pe_op op_addU h1 h2) bop_add (fe_op (fun h1 h2 => pe_op op_mul h1 h2) bop_mul (fe_var (pv 4)) (fe_var (pv 1))) (fe_var (pv 6))))
    (fss_one (fs_if (ft_op (fun h1 h2 => pt_cmpR op_gt h1 h2 (nomark _)) bop_gt (fe_var (pv 5)) fe_int) (fss_one (fs_set (fun h => ps_set (i := 2) sc.nd rfl (.inl rfl) h) (fe_call (fun h => pe_callB (call_max2 rfl) (by rfl) (T.fr 1) Tw.boot_max h) bc_max2 (fa_cons (fe_var (pv 2)) (fa_cons (fe_un (fun h => pe_un un_neg h) uop_neg (fe_op (fun h1 h2 => pe_op op_fdiv h1 h2) bop_div (fe_var (pv 7)) (fe_var (pv 5)))) fa_nil))))) (fss_one (fs_if (ft_op (fun h1 h2 => pt_cmpR op_lt h1 h2 (nomark _)) bop_lt (fe_var (pv 5)) fe_int) (fss_one (fs_set (fun h => ps_set (i := 3) sc.nd rfl (.inl rfl) h) (fe_if (ft_op (fun h1 h2 => pt_cmpR op_isN h1 h2 (nomark _)) bop_isN (fe_var (pv 3)) fe_non) (fe_op (fun h1 h2 => pe_op op_fdiv h1 h2) bop_div (fe_var (pv 7)) (fe_un (fun h => pe_un un_neg h) uop_neg (fe_var (pv 5)))) (fe_call (fun h => pe_callB (call_min2 rfl) (by rfl) (T.fr 2) Tw.boot_min h) bc_min2 (fa_cons (fe_var (pv 3)) (fa_cons (fe_op (fun h1 h2 => pe_op op_fdiv h1 h2) bop_div (fe_var (pv 7)) (fe_un (fun h => pe_un un_neg h) uop_neg (fe_var (pv 5)))) fa_nil)))))) (fss_one (fs_if (ft_op (fun h1 h2 => pt_cmpR op_lt h1 h2 (nomark _)) bop_lt (fe_var (pv 7)) fe_int) (fss_one (fs_ret fe_non)) fss_nil))))))))
    (fss_one (fs_ret (fe_if ((fw_or (ft_op (fun h1 h2 => pt_cmpR op_isN h1 h2 (nomark _)) bop_isN (fe_var (pv 3)) fe_non) (fw_or1 (ft_op (fun h1 h2 => pt_cmpR op_le h1 h2 (nomark _)) bop_le (fe_var (pv 2)) (fe_var (pv 3)))))).pt (fe_tup (fa_cons (fe_var (pv 2)) (fa_cons (fe_var (pv 3)) fa_nil))) fe_non)))))), (T.gl 3), Fd.kp, Fd.bindsN fun _ _ _ _ _ _ us hl => match us, hl with | [_, _], _ => rfl⟩

theorem sc_least_from : FnScope ["rows", "begin", "a", "found"] ["rows", "begin"] (defScope (tp 9)) := ⟨rfl, rfl, rfl, by decide +kernel, rfl, by decide +kernel, by decide +kernel⟩
theorem cal_least_from (T : Tx facts fns K mg) : Cal P w K mg base "least_from" 2 2 (callM 4 m_least_from) := by
  have C_span := cal_span (P := P) (w := w) (base := base) T
  obtain ⟨fd, Fd⟩ := SaysW.fd T.says 2
  have sc := sc_least_from
  exact ⟨_, fd, _, fn_ok Fd sc_least_from (fun cdv A outer s H E hr =>
    (fss_cons (fs_for (passes_of rfl) rfl (fi_rng2 (fun h => pi_range2 (by rfl) (T.fr 5) h) (fa_cons (fe_var (pv 1)) (fa_cons (fe_gint (T.int 4)) fa_nil))) (fg_name (ws := [2]) (pg_name (i := 2) sc.nd rfl (.inl rfl)) (by decide))
     (fss_cons (fs_set (fun h => ps_set (i := 3) sc.nd rfl (.inl rfl) h) (fe_cal C_span (hr.mono (by decide)) (takes_of rfl rfl rfl rfl) (fa_cons (fe_var (pv 0)) (fa_cons (fe_var (pv 2)) fa_nil)) (lenS (lenS len0))))
    (fss_one (fs_if (ft_op (fun h1 h2 => pt_cmpR op_notN h1 h2 (nomark _)) bop_notN (fe_var (pv 3)) fe_non) (fss_one (fs_ret (fe_tup (fa_cons (fe_var (pv 2)) (fa_cons (fe_op (fun h1 h2 => pe_ix ix_seq h1 h2 (fun _ _ => rfl)) bop_ix (fe_var (pv 3)) fe_int) fa_nil))))) fss_nil))))
    (fss_one (fs_ret fe_non)))), (T.gl 6), Fd.kp, Fd.bindsN fun _ _ _ _ _ _ us hl => match us, hl with | [_, _], _ => rfl⟩

theorem sc_least_point : FnScope ["rows"] ["rows"] (defScope (tp 10)) := ⟨rfl, rfl, rfl, by decide +kernel, rfl, by decide +kernel, by decide +kernel⟩
theorem cal_least_point (T : Tx facts fns K mg) : Cal P w K mg base "least_point" 3 1 (callM 1 m_least_point) := by
  have C_least_from := cal_least_from (P := P) (w := w) (base := base) T
  obtain ⟨fd, Fd⟩ := SaysW.fd T.says 3
  have sc := sc_least_point
  exact ⟨_, fd, _, fn_ok Fd sc_least_point (fun cdv A outer s H E hr =>
    (fss_one (fs_ret (fe_cal C_least_from (hr.mono (by decide)) (takes_of rfl rfl rfl rfl) (fa_cons (fe_var (pv 0)) (fa_cons fe_int fa_nil)) (lenS (lenS len0)))))), (T.gl 7), Fd.kp, Fd.bindsN fun _ _ _ _ _ _ us hl => match us, hl with | [_], _ => rfl⟩

theorem sc_is_integer : FnScope ["value", "least", "most"] ["value", "least", "most"] (defScope (tp 13)) := ⟨rfl, rfl, rfl, by decide +kernel, rfl, by decide +kernel, by decide +kernel⟩
theorem cal_is_integer (T : Tx facts fns K mg) : Cal P w K mg base "is_integer" 1 3 (callM 3 m_is_integer) := by
  obtain ⟨fd, Fd⟩ := SaysW.fd T.says 4
  have sc := sc_is_integer
  exact ⟨_, fd, _, fn_ok Fd sc_is_integer (fun cdv A outer s H E hr =>
    (fss_one (fs_ret (fe_and (fe_isi (t := .int) (fun h => pe_callB call_isi (by rfl) (T.fr 8) Tw.boot_isinstance (pa_cons h (pa_cons (pe_bltn (v := .ty "int") (by rfl) (T.fr 9) Tw.boot_int rfl) pa_nil))) (fe_var (pv 0))) (fe_and (fe_not (fe_isi (t := .bool) (fun h => pe_callB call_isi (by rfl) (T.fr 8) Tw.boot_isinstance (pa_cons h (pa_cons (pe_bltn (v := .ty "bool") (by rfl) (T.fr 10) Tw.boot_bool rfl) pa_nil))) (fe_var (pv 0)))) (fe_and1 (fe_chain (fun h1 h2 h3 => pe_chain op_le op_le h1 h2 h3) bop_le bop_le (fe_var (pv 1)) (fe_var (pv 0)) (fe_var (pv 2))))))))), (T.gl 11), Fd.kp, Fd.bindsN fun _ _ _ _ _ _ us hl => match us, hl with | [_, _, _], _ => rfl⟩

theorem sc_is_row : FnScope ["value", "factor", "rest", "part"] ["value", "factor", "rest"] (defScope (tp 14)) := ⟨rfl, rfl, rfl, by decide +kernel, rfl, by decide +kernel, by decide +kernel⟩
theorem cal_is_row (T : Tx facts fns K mg) : Cal P w K mg base "is_row" 2 3 (callM 4 m_is_row) := by
  have C_is_integer := cal_is_integer (P := P) (w := w) (base := base) T
  obtain ⟨fd, Fd⟩ := SaysW.fd T.says 5
  have sc := sc_is_row
  exact ⟨_, fd, _, fn_ok Fd sc_is_row (fun cdv A outer s H E hr =>
    (fss_cons (fs_if ((fw_or (ft_not (ft_val (fe_isi (t := .tuple) (fun h => pe_callB call_isi (by rfl) (T.fr 8) Tw.boot_isinstance (pa_cons h (pa_cons (pe_bltn (v := .ty "tuple") (by rfl) (T.fr 12) Tw.boot_tuple rfl) pa_nil))) (fe_var (pv 0))))) (fw_or1 (ft_op (fun h1 h2 => pt_cmpR (op_neD hr.units) h1 h2 (nomark _)) bop_ne (fe_call (fun h => pe_callB call_len_seq (by rfl) (T.fr 13) Tw.boot_len h) bc_len (fa_cons (fe_var (pv 0)) fa_nil)) fe_int)))).pt (fss_one (fs_ret fe_bl)) fss_nil)
    (fss_one (fs_ret (fe_and (fe_call (fun h => pe_callB (cr_all rfl) (by rfl) (T.fr 14) Tw.boot_all h) bc_all (fa_cons (fe_comp (fun h1 h2 h3 h4 => pe_lc (own := [(("part" : PySem.Str), 3)]) rfl sc.nd h1 (blkOk_by (N := ["value", "factor", "rest", "part"]) (sc := defScope (tp 14)) (by decide +kernel)) h2 h3 h4) (fi_seq (fe_slice (fe_var (pv 0)) fo_none (fo_some fe_int) rfl)) (fun _ _ _ _ _ => (fg_name (ws := [3]) (pg_name (i := 3) sc.nd rfl (.inl rfl)) (by decide))) (fun _ _ _ _ _ => fts_nil) (fun _ _ _ _ _ => (fe_cal C_is_integer (hr.mono (by decide)) takes0 (fa_cons (fe_var (pv 3)) (fa_cons (fe_un (fun h => pe_un un_neg h) uop_neg (fe_var (pv 1))) (fa_cons (fe_var (pv 1)) fa_nil))) (lenS (lenS (lenS len0)))))) fa_nil)) (fe_and1 (fe_cal C_is_integer (hr.mono (by decide)) (takes_of rfl rfl rfl rfl) (fa_cons (fe_op (fun h1 h2 => pe_ix ix_seq h1 h2 (fun _ _ => rfl)) bop_ix (fe_var (pv 0)) fe_int) (fa_cons (fe_un (fun h => pe_un un_neg h) uop_neg (fe_var (pv 2))) (fa_cons (fe_var (pv 2)) fa_nil))) (lenS (lenS (lenS len0)))))))))), (T.gl 15), Fd.kp, Fd.bindsN fun _ _ _ _ _ _ us hl => match us, hl with | [_, _, _], _ => rfl⟩

theorem sc_is_fact : FnScope ["value"] ["value"] (defScope (tp 15)) := ⟨rfl, rfl, rfl, by decide +kernel, rfl, by decide +kernel, by decide +kernel⟩
theorem cal_is_fact (T : Tx facts fns K mg) : Cal P w K mg base "is_fact" 3 1 (callM 1 m_is_fact) := by
  have C_is_row := cal_is_row (P := P) (w := w) (base := base) T
  obtain ⟨fd, Fd⟩ := SaysW.fd T.says 6
  have sc := sc_is_fact
  exact ⟨_, fd, _, fn_ok Fd sc_is_fact (fun cdv A outer s H E hr =>
    (fss_one (fs_ret (fe_cal C_is_row (hr.mono (by decide)) (takes_of rfl rfl rfl rfl) (fa_cons (fe_var (pv 0)) (fa_cons fe_int (fa_cons fe_int fa_nil))) (lenS (lenS (lenS len0))))))), (T.gl 16), Fd.kp, Fd.bindsN fun _ _ _ _ _ _ us hl => match us, hl with | [_], _ => rfl⟩

theorem sc_World___init__ : FnScope ["self", "facts", "index", "fact", "first"] ["self", "facts"] (defScope (tc 16 1)) := ⟨rfl, rfl, rfl, by decide +kernel, rfl, by decide +kernel, by decide +kernel⟩
theorem cal_World___init__ (T : Tx facts fns K mg) : CalI P w K mg base 4 2 (callM 5 m_World___init__) := by
  have C_InvalidFact___init__ := cal_InvalidFact___init__ (P := P) (w := w) (base := base) T
  have C_is_fact := cal_is_fact (P := P) (w := w) (base := base) T
  have C_least_point := cal_least_point (P := P) (w := w) (base := base) T
  have sc := sc_World___init__
  exact calI_of (T.fc 23) (fun fd Fd => ⟨fn_ok Fd sc_World___init__ (fun cdv A outer s H E hr =>
    (fss_cons (fs_if ((fw_or (ft_not (ft_val (fe_isi (t := .tuple) (fun h => pe_callB call_isi (by rfl) (T.fr 8) Tw.boot_isinstance (pa_cons h (pa_cons (pe_bltn (v := .ty "tuple") (by rfl) (T.fr 12) Tw.boot_tuple rfl) pa_nil))) (fe_var (pv 1))))) (fw_or1 (ft_op (fun h1 h2 => pt_cmpR op_gt h1 h2 (nomark _)) bop_gt (fe_call (fun h => pe_callB call_len_seq (by rfl) (T.fr 13) Tw.boot_len h) bc_len (fa_cons (fe_var (pv 1)) fa_nil)) (fe_gint (T.int 17)))))).pt (fss_one (fs_raise1 C_InvalidFact___init__ (fcOex_ok (T.fc 0)) (T.gl 18) (hr.mono (by decide)) (by rfl) fe_non (fun h => ps_raise rfl (takes_of rfl rfl rfl rfl) h))) fss_nil)
    (fss_cons (fs_for (passes_of rfl) rfl (fi_en (fun h => pi_enB (by rfl) (T.fr 19) (pa_cons h pa_nil)) (fe_var (pv 1))) (fg_tup rfl (fgs_cons (fg_name (ws := [2, 3]) (pg_name (i := 2) sc.nd rfl (.inl rfl)) (by decide)) (fgs_cons (fg_name (ws := [2, 3]) (pg_name (i := 3) sc.nd rfl (.inl rfl)) (by decide)) fgs_nil)) rfl)
     (fss_one (fs_if (ft_not (ft_val (fe_cal C_is_fact (hr.mono (by decide)) (takes_of rfl rfl rfl rfl) (fa_cons (fe_var (pv 3)) fa_nil) (lenS len0)))) (fss_one (fs_raise1 C_InvalidFact___init__ (fcOex_ok (T.fc 0)) (T.gl 18) (hr.mono (by decide)) (by rfl) (fe_var (pv 2)) (fun h => ps_raise rfl (takes_of rfl rfl rfl rfl) h))) fss_nil)))
    (fss_cons (fs_set (fun h => ps_set (i := 4) sc.nd rfl (.inl rfl) h) (fe_cal C_least_point (hr.mono (by decide)) (takes_of rfl rfl rfl rfl) (fa_cons (fe_var (pv 1)) fa_nil) (lenS len0)))
    (fss_cons (fs_if (ft_op (fun h1 h2 => pt_cmpR op_isN h1 h2 (nomark _)) bop_isN (fe_var (pv 4)) fe_non) (fss_one (fs_raise0 (ps_raise rfl (takes_of rfl rfl rfl rfl) (mk_bare PySem.F.excBase_ValueError (T.exc 20).1 (T.gl 21) (T.exc 20).2.1 (raises_own (T.exc 20).2.2.1 (T.exc 20).2.2.2) (by rfl))))) fss_nil)
    (fs_newW (fcIsW_ok (T.fc 22)).w (SlX.ps_sl (pv 0) (pv 1)) (SlX.ps_sl (pv 0) (pv 4)))))))), Fd.bindsN fun _ _ _ _ _ _ us hl => match us, hl with | [_, _], _ => rfl⟩) (SaysW.fd T.says 7)

theorem sc_World___eq__ : FnScope ["self", "other"] ["self", "other"] (defScope (tc 16 4)) := ⟨rfl, rfl, rfl, by decide +kernel, rfl, by decide +kernel, by decide +kernel⟩
theorem cal_World___eq__ (T : Tx facts fns K mg) : CalE P w K mg base 1 (callM 2 m_World___eq__) := by
  have sc := sc_World___eq__
  exact calE_of (T.fc 25) (fun fd Fd => ⟨fn_ok Fd sc_World___eq__ (fun cdv A outer s H E hr =>
    (fss_one (fs_ret (fe_and (fe_isW (fcIsW_ok (T.fc 22)) (fun h => pe_callB (call_isi.or (call_isW (fcIsW_ok (T.fc 22)))) (by rfl) (T.fr 8) Tw.boot_isinstance (pa_cons h (pa_cons (pe_glob (v := .ref _) (by rfl) (T.gl 24) rfl) pa_nil))) (fe_var (pv 1))) (fe_and1 (fe_op (fun h1 h2 => pe_cmpR (op_eqD hr.units) h1 h2 (nomark _)) bop_eq (fe_rows (fcIsW_ok (T.fc 22)).w (fe_var (pv 0))) (fe_rows (fcIsW_ok (T.fc 22)).w (fe_var (pv 1))))))))), Fd.bindsN fun _ _ _ _ _ _ us hl => match us, hl with | [_, _], _ => rfl⟩) (SaysW.fd T.says 8)

theorem sc_write_world : FnScope ["world", "fact", "part"] ["world"] (defScope (tp 21)) := ⟨rfl, rfl, rfl, by decide +kernel, rfl, by decide +kernel, by decide +kernel⟩
theorem cal_write_world (T : Tx facts fns K mg) : Cal P w K mg base "write_world" 1 1 (callM 3 m_write_world) := by
  obtain ⟨fd, Fd⟩ := SaysW.fd T.says 9
  have sc := sc_write_world
  exact ⟨_, fd, _, fn_ok Fd sc_write_world (fun cdv A outer s H E hr =>
    (fss_cons (fs_if (ft_op (fun h1 h2 => pt_cmpR (op_eqD hr.units) h1 h2 (nomark _)) bop_eq (fe_rows (fcIsW_ok (T.fc 22)).w (fe_var (pv 0))) (fe_tup fa_nil)) (fss_one (fs_ret (fe_gstr (T.str 26)))) fss_nil)
    (fss_one (fs_ret (fe_join rfl fe_str (fe_comp (fun h1 h2 h3 h4 => pe_lc (own := [(("fact" : PySem.Str), 1)]) rfl sc.nd h1 (blkOk_by (N := ["world", "fact", "part"]) (sc := defScope (tp 21)) (by decide +kernel)) h2 h3 h4) (fi_seq (fe_rows (fcIsW_ok (T.fc 22)).w (fe_var (pv 0)))) (fun _ _ _ _ _ => (fg_name (ws := [1]) (pg_name (i := 1) sc.nd rfl (.inl rfl)) (by decide))) (fun _ _ _ _ _ => fts_nil) (fun _ _ _ _ _ => (fe_join rfl fe_str (fe_lst (fa_cons fe_str (fa_star (fe_comp (fun h1 h2 h3 h4 => pe_lc (own := [(("part" : PySem.Str), 2)]) rfl sc.nd h1 (blkOk_by (by kernel_rfl)) h2 h3 h4) (fi_seq (fe_var (pv 1))) (fun _ _ _ _ _ => (fg_name (ws := [2]) (pg_name (i := 2) sc.nd rfl (.inl rfl)) (by decide))) (fun _ _ _ _ _ => fts_nil) (fun _ _ _ _ _ => (fe_call (fun h => pe_callTy call_str_int (by rfl) (T.fr 27) Tw.boot_str h) bc_str (fa_cons (fe_var (pv 2)) fa_nil)))) fa_nil))))))))))), (T.gl 28), Fd.kp, Fd.bindsN fun _ _ _ _ _ _ us hl => match us, hl with | [_], _ => rfl⟩

theorem sc_Line___init__ : FnScope ["self", "text", "at", "word"] ["self", "text", "at"] (defScope (tc 22 0)) := ⟨rfl, rfl, rfl, by decide +kernel, rfl, by decide +kernel, by decide +kernel⟩
theorem cal_Line___init__ (T : Tx facts fns K mg) : CalTI P w K mg base "Line" 1 3 (callO 4 m_Line___init__) := by
  have sc := sc_Line___init__
  exact calTI_of (T.fc 33) (SaysW.fd T.says 10) (fun fd Fd => ⟨fn_okO Fd sc_Line___init__ (fun cdv A outer s H E hr =>
    (fss_cons (fs_putI (fcCls_ok (T.fc 29)) (fcNo_ok (T.fc 30)) (fe_var (pv 2)) (fe_var (pv 0)))
    (fss_cons (fs_putI (fcCls_ok (T.fc 29)) (fcNo_ok (T.fc 31)) (fe_comp (fun h1 h2 h3 h4 => pe_lc (own := [(("word" : PySem.Str), 3)]) rfl sc.nd h1 (blkOk_by (N := ["self", "text", "at", "word"]) (sc := defScope (tc 22 0)) (by decide +kernel)) h2 h3 h4) (fi_seq (fe_split (fe_var (pv 1)) fe_str)) (fun _ _ _ _ _ => (fg_name (ws := [3]) (pg_name (i := 3) sc.nd rfl (.inl rfl)) (by decide))) (fun _ _ _ _ _ => (fts_one (ft_op (fun h1 h2 => pt_cmpR (op_neD hr.units) h1 h2 (nomark _)) bop_ne (fe_var (pv 3)) fe_str))) (fun _ _ _ _ _ => (fe_var (pv 3)))) (fe_var (pv 0)))
    (fss_one (fs_putI (fcCls_ok (T.fc 29)) (fcNo_ok (T.fc 32)) fe_int (fe_var (pv 0))))))), Fd.bindsN fun _ _ _ _ _ _ us hl => match us, hl with | [_, _, _], _ => rfl⟩)

theorem sc_Line_take : FnScope ["self", "words"] ["self", "words"] (defScope (tc 22 2)) := ⟨rfl, rfl, rfl, by decide +kernel, rfl, by decide +kernel, by decide +kernel⟩
theorem cal_Line_take (T : Tx facts fns K mg) : CalTM P w K mg base "Line" "take" 1 2 (callM 2 m_Line_take) := by
  have sc := sc_Line_take
  exact calTM_of (T.fc 34) (SaysW.fd T.says 11) (fun fd Fd => ⟨fn_ok Fd sc_Line_take (fun cdv A outer s H E hr =>
    (fss_cons (fs_if ((fw_or (ft_op (fun h1 h2 => pt_cmpR (op_eqD hr.units) h1 h2 (nomark _)) bop_eq (fe_getI (fcCls_ok (T.fc 29)) (fcNo_ok (T.fc 32)) (fe_var (pv 0))) (fe_call (fun h => pe_callB call_len_seq (by rfl) (T.fr 13) Tw.boot_len h) bc_len (fa_cons (fe_getI (fcCls_ok (T.fc 29)) (fcNo_ok (T.fc 31)) (fe_var (pv 0))) fa_nil))) (fw_or1 (ft_op (fun h1 h2 => pt_cmpR op_notIn_seq h1 h2 rfl) (bop_in (neg := true)) (fe_op (fun h1 h2 => pe_ix ix_seq h1 h2 (fun _ _ => rfl)) bop_ix (fe_getI (fcCls_ok (T.fc 29)) (fcNo_ok (T.fc 31)) (fe_var (pv 0))) (fe_getI (fcCls_ok (T.fc 29)) (fcNo_ok (T.fc 32)) (fe_var (pv 0)))) (fe_var (pv 1)))))).pt (fss_one fs_bad) fss_nil)
    (fss_cons (fs_augI (fcCls_ok (T.fc 29)) (fcNo_ok (T.fc 32)) in_add bop_rAdd fe_int (fe_var (pv 0)))
    (fss_one (fs_ret (fe_op (fun h1 h2 => pe_ix ix_seq h1 h2 (fun _ _ => rfl)) bop_ix (fe_getI (fcCls_ok (T.fc 29)) (fcNo_ok (T.fc 31)) (fe_var (pv 0))) (fe_op (fun h1 h2 => pe_op op_sub h1 h2) bop_sub (fe_getI (fcCls_ok (T.fc 29)) (fcNo_ok (T.fc 32)) (fe_var (pv 0))) fe_int))))))), Fd.bindsN fun _ _ _ _ _ _ us hl => match us, hl with | [_, _], _ => rfl⟩)

theorem sc_Line_take_number : FnScope ["self", "most", "number"] ["self", "most"] (defScope (tc 22 3)) := ⟨rfl, rfl, rfl, by decide +kernel, rfl, by decide +kernel, by decide +kernel⟩
theorem cal_Line_take_number (T : Tx facts fns K mg) : CalTM P w K mg base "Line" "take_number" 2 2 (callM 3 m_Line_take_number) := by
  have C_Line_take := cal_Line_take (P := P) (w := w) (base := base) T
  have sc := sc_Line_take_number
  exact calTM_of (T.fc 35) (SaysW.fd T.says 12) (fun fd Fd => ⟨fn_ok Fd sc_Line_take_number (fun cdv A outer s H E hr =>
    (fss_one (fs_ret (fe_call (fun h => pe_callTy call_int_str (by rfl) (T.fr 9) Tw.boot_int h) bc_intT (fa_cons (fe_mtI C_Line_take (fcCls_ok (T.fc 29)) (hr.mono (by decide)) (takes_of rfl rfl rfl rfl) (fe_var (pv 0)) (fa_cons (fe_comp (fun h1 h2 h3 h4 => pe_lc (own := [(("number" : PySem.Str), 2)]) rfl sc.nd h1 (blkOk_by (N := ["self", "most", "number"]) (sc := defScope (tc 22 3)) (by decide +kernel)) h2 h3 h4) (fi_rng2 (fun h => pi_range2 (by rfl) (T.fr 5) h) (fa_cons (fe_un (fun h => pe_un un_neg h) uop_neg (fe_var (pv 1))) (fa_cons (fe_op (fun h1 h2 => pe_op op_addU h1 h2) bop_add (fe_var (pv 1)) fe_int) fa_nil))) (fun _ _ _ _ _ => (fg_name (ws := [2]) (pg_name (i := 2) sc.nd rfl (.inl rfl)) (by decide))) (fun _ _ _ _ _ => fts_nil) (fun _ _ _ _ _ => (fe_call (fun h => pe_callTy call_str_int (by rfl) (T.fr 27) Tw.boot_str h) bc_str (fa_cons (fe_var (pv 2)) fa_nil)))) fa_nil) (lenS len0)) fa_nil))))), Fd.bindsN fun _ _ _ _ _ _ us hl => match us, hl with | [_, _], _ => rfl⟩)

theorem sc_Line_finish : FnScope ["self"] ["self"] (defScope (tc 22 4)) := ⟨rfl, rfl, rfl, by decide +kernel, rfl, by decide +kernel, by decide +kernel⟩
theorem cal_Line_finish (T : Tx facts fns K mg) : CalTM P w K mg base "Line" "finish" 1 1 (callM 1 m_Line_finish) := by
  have sc := sc_Line_finish
  exact calTM_of (T.fc 36) (SaysW.fd T.says 13) (fun fd Fd => ⟨fn_ok Fd sc_Line_finish (fun cdv A outer s H E hr =>
    (fss_one (fs_if (ft_op (fun h1 h2 => pt_cmpR op_lt h1 h2 (nomark _)) bop_lt (fe_getI (fcCls_ok (T.fc 29)) (fcNo_ok (T.fc 32)) (fe_var (pv 0))) (fe_call (fun h => pe_callB call_len_seq (by rfl) (T.fr 13) Tw.boot_len h) bc_len (fa_cons (fe_getI (fcCls_ok (T.fc 29)) (fcNo_ok (T.fc 31)) (fe_var (pv 0))) fa_nil))) (fss_one fs_bad) fss_nil))), Fd.bindsN fun _ _ _ _ _ _ us hl => match us, hl with | [_], _ => rfl⟩)

theorem sc_heads : FnScope ["index"] ["index"] (defScope (tp 23)) := ⟨rfl, rfl, rfl, by decide +kernel, rfl, by decide +kernel, by decide +kernel⟩
theorem cal_heads (T : Tx facts fns K mg) : Cal P w K mg base "heads" 1 1 (callM 1 m_heads) := by
  obtain ⟨fd, Fd⟩ := SaysW.fd T.says 14
  have sc := sc_heads
  exact ⟨_, fd, _, fn_ok Fd sc_heads (fun cdv A outer s H E hr =>
    (fss_cons (fs_if (ft_op (fun h1 h2 => pt_cmpR (op_eqD hr.units) h1 h2 (nomark _)) bop_eq (fe_var (pv 0)) fe_int) (fss_one (fs_ret (fe_tup (fa_cons fe_str (fa_cons (fe_gstr (T.str 26)) fa_nil))))) fss_nil)
    (fss_one (fs_ret (fe_if (ft_op (fun h1 h2 => pt_cmpR op_lt h1 h2 (nomark _)) bop_lt (fe_var (pv 0)) (fe_gint (T.int 17))) (fe_tup (fa_cons fe_str fa_nil)) (fe_tup fa_nil)))))), (T.gl 37), Fd.kp, Fd.bindsN fun _ _ _ _ _ _ us hl => match us, hl with | [_], _ => rfl⟩

theorem sc_read_world : FnScope ["text", "lines", "found", "index", "line", "p", "q", "row"] ["text"] (defScope (tp 24)) := ⟨rfl, rfl, rfl, by decide +kernel, rfl, by decide +kernel, by decide +kernel⟩
theorem cal_read_world (T : Tx facts fns K mg) : Cal P w K mg base "read_world" 6 1 (callM 8 m_read_world) := by
  have C_Line___init__ := cal_Line___init__ (P := P) (w := w) (base := base) T
  have C_Line_take := cal_Line_take (P := P) (w := w) (base := base) T
  have C_heads := cal_heads (P := P) (w := w) (base := base) T
  have C_Line_finish := cal_Line_finish (P := P) (w := w) (base := base) T
  have C_World___init__ := cal_World___init__ (P := P) (w := w) (base := base) T
  have C_Line_take_number := cal_Line_take_number (P := P) (w := w) (base := base) T
  obtain ⟨fd, Fd⟩ := SaysW.fd T.says 15
  have sc := sc_read_world
  exact ⟨_, fd, _, fn_ok Fd sc_read_world (fun cdv A outer s H E hr =>
    (fss_cons (fs_compM (fun h1 h2 h3 h4 => ps_setLc (i := 1) (own := [(("index" : PySem.Str), 3), (("row" : PySem.Str), 7)]) rfl sc.nd rfl rfl (sw_true rfl rfl rfl (by decide +kernel)) h1 (blkOk_by (N := ["text", "lines", "found", "index", "line", "p", "q", "row"]) (sc := defScope (tp 24)) (by decide +kernel)) h2 h3 h4) (fi_en (fun h => pi_enB (by rfl) (T.fr 19) (pa_cons h pa_nil)) (fe_split (fe_var (pv 0)) fe_str)) (fun _ _ _ _ _ => (fg_tup rfl (fgs_cons (fg_name (ws := [3, 7]) (pg_name (i := 3) sc.nd rfl (.inl rfl)) (by decide)) (fgs_cons (fg_name (ws := [3, 7]) (pg_name (i := 7) sc.nd rfl (.inl rfl)) (by decide)) fgs_nil)) rfl)) (fun _ _ _ _ _ => fts_nil) (fun _ _ _ _ _ => (fe_mkI C_Line___init__ (T.gl 38) (hr.mono (by decide)) takes0 (fa_cons (fe_var (pv 7)) (fa_cons (fe_op (fun h1 h2 => pe_op op_addU h1 h2) bop_add (fe_var (pv 3)) fe_int) fa_nil)) (lenS (lenS len0)))))
    (fss_cons (fs_set (fun h => ps_set (i := 2) sc.nd rfl (.inl rfl) h) (fe_lstO fa_nil))
    (fss_cons (fs_for (passes_of rfl) rfl (fi_enM (fun h => pi_enB (by rfl) (T.fr 19) (pa_cons h pa_nil)) (fe_var (pv 1))) (fg_tupM rfl (fgs_cons (fg_name (ws := [3, 4]) (pg_name (i := 3) sc.nd rfl (.inl rfl)) (by decide)) (fgs_cons (fg_name (ws := [3, 4]) (pg_name (i := 4) sc.nd rfl (.inl rfl)) (by decide)) fgs_nil)) rfl)
     (fss_cons (fs_if (ft_op (fun h1 h2 => pt_cmpR (op_eqD hr.units) h1 h2 (nomark _)) bop_eq (fe_mtI C_Line_take (fcCls_ok (T.fc 29)) (hr.mono (by decide)) (takes_of rfl rfl rfl rfl) (fe_var (pv 4)) (fa_cons (fe_cal C_heads (hr.mono (by decide)) (takes_of rfl rfl rfl rfl) (fa_cons (fe_var (pv 3)) fa_nil) (lenS len0)) fa_nil) (lenS len0)) (fe_gstr (T.str 26))) (fss_cons (fs_drop (fun h => ps_expr h) (fe_mtI0 C_Line_finish (fcCls_ok (T.fc 29)) (hr.mono (by decide)) (takes_of rfl rfl rfl rfl) (fe_var (pv 4))))
    (fss_cons (fs_if (ft_op (fun h1 h2 => pt_cmpR op_gt h1 h2 (nomark _)) bop_gt (fe_call (fun h => pe_callB call_len_seq (by rfl) (T.fr 13) Tw.boot_len h) bc_len (fa_cons (fe_var (pv 1)) fa_nil)) fe_int) (fss_one fs_bad) fss_nil)
    (fss_one (fs_ret (fe_mk C_World___init__ (T.gl 24) (hr.mono (by decide)) (takes_of rfl rfl rfl rfl) (fa_cons (fe_tup fa_nil) fa_nil) (lenS len0)))))) fss_nil)
    (fss_cons (fs_set (fun h => ps_set (i := 5) sc.nd rfl (.inl rfl) h) (fe_mtI C_Line_take_number (fcCls_ok (T.fc 29)) (hr.mono (by decide)) (takes_of rfl rfl rfl rfl) (fe_var (pv 4)) (fa_cons (fe_gint (T.int 39)) fa_nil) (lenS len0)))
    (fss_cons (fs_set (fun h => ps_set (i := 6) sc.nd rfl (.inl rfl) h) (fe_mtI C_Line_take_number (fcCls_ok (T.fc 29)) (hr.mono (by decide)) (takes_of rfl rfl rfl rfl) (fe_var (pv 4)) (fa_cons (fe_gint (T.int 39)) fa_nil) (lenS len0)))
    (fss_cons (fs_drop (fun h => ps_expr h) (fe_app (fun h1 h2 => pe_bm PySem.F.plainAttrs_list PySem.F.slot_list_append PySem.F.type_list_append mt_append h1 (pa_cons h2 pa_nil)) (fe_var (pv 2)) (fe_tup (fa_cons (fe_var (pv 5)) (fa_cons (fe_var (pv 6)) (fa_cons (fe_mtI C_Line_take_number (fcCls_ok (T.fc 29)) (hr.mono (by decide)) (takes_of rfl rfl rfl rfl) (fe_var (pv 4)) (fa_cons (fe_gint (T.int 40)) fa_nil) (lenS len0)) fa_nil))))))
    (fss_one (fs_drop (fun h => ps_expr h) (fe_mtI0 C_Line_finish (fcCls_ok (T.fc 29)) (hr.mono (by decide)) (takes_of rfl rfl rfl rfl) (fe_var (pv 4))))))))))
    (fss_one (fs_ret (fe_mk C_World___init__ (T.gl 24) (hr.mono (by decide)) (takes_of rfl rfl rfl rfl) (fa_cons (fe_call (fun h => pe_callTy call_tuple_of (by rfl) (T.fr 12) Tw.boot_tuple h) bc_tuple (fa_cons (fe_var (pv 2)) fa_nil)) fa_nil) (lenS len0)))))))), (T.gl 41), Fd.kp, Fd.bindsN fun _ _ _ _ _ _ us hl => match us, hl with | [_], _ => rfl⟩

theorem sc__law_mix : FnScope ["_law_script", "_law_seed", "_law_state", "_law_cell"] ["_law_script", "_law_seed"] (defScope (tp 26)) := ⟨rfl, rfl, rfl, by decide +kernel, rfl, by decide +kernel, by decide +kernel⟩
theorem cal__law_mix (T : Tx facts fns K mg) : Cal P w K mg base "_law_mix" 1 2 (callO 4 m__law_mix) := by
  obtain ⟨fd, Fd⟩ := SaysW.fd T.says 16
  have sc := sc__law_mix
  exact ⟨_, fd, _, fn_okO Fd sc__law_mix (fun cdv A outer s H E hr =>
    (fss_cons (fs_set (fun h => ps_set (i := 2) sc.nd rfl (.inl rfl) h) (fe_var (pv 1)))
    (fss_cons (fs_for (passes_of rfl) rfl (fi_seq (fe_var (pv 0))) (fg_name (ws := [3]) (pg_name (i := 3) sc.nd rfl (.inl rfl)) (by decide))
     (fss_one (fs_set (fun h => ps_set (i := 2) sc.nd rfl (.inl rfl) h) (fe_op (fun h1 h2 => pe_op op_mod h1 h2) bop_mod (fe_call (fun h => pe_callTy call_int1 (by rfl) (T.fr 9) Tw.boot_int h) bc_int (fa_cons (fe_op (fun h1 h2 => pe_op op_addU h1 h2) bop_add (fe_op (fun h1 h2 => pe_op op_addU h1 h2) bop_add (fe_op (fun h1 h2 => pe_op op_mul h1 h2) bop_mul (fe_var (pv 2)) fe_int) (fe_op (fun h1 h2 => pe_op op_mod h1 h2) bop_mod (fe_call (fun h => pe_callTy call_int1 (by rfl) (T.fr 9) Tw.boot_int h) bc_int (fa_cons (fe_var (pv 3)) fa_nil)) fe_int)) fe_int) fa_nil)) fe_int))))
    (fss_one (fs_ret (fe_lstO (fa_cons (fe_var (pv 2)) (fa_cons (fe_call (fun h => pe_callTy call_list_of (by rfl) (T.fr 42) Tw.boot_list h) bc_listO (fa_cons (fe_var (pv 0)) fa_nil)) (fa_cons fe_int (fa_cons fe_int fa_nil)))))))))), (T.gl 43), Fd.kp, Fd.bindsN fun _ _ _ _ _ _ us hl => match us, hl with | [_, _], _ => rfl⟩

theorem sc__law_next : FnScope ["_law_h", "_law_bound", "_law_cell"] ["_law_h", "_law_bound"] (defScope (tp 27)) := ⟨rfl, rfl, rfl, by decide +kernel, rfl, by decide +kernel, by decide +kernel⟩
theorem cal__law_next (T : Tx facts fns K mg) : Cal P w K mg base "_law_next" 1 2 (callM 3 m__law_next) := by
  obtain ⟨fd, Fd⟩ := SaysW.fd T.says 17
  have sc := sc__law_next
  exact ⟨_, fd, _, fn_ok Fd sc__law_next (fun cdv A outer s H E hr =>
    (fss_cons (fs_set (fun h => ps_set (i := 2) sc.nd rfl (.inl rfl) h) (fe_op (fun h1 h2 => pe_ix ix_seq h1 h2 (fun _ _ => rfl)) bop_ix (fe_op (fun h1 h2 => pe_op op_addU h1 h2) bop_add (fe_op (fun h1 h2 => pe_ix ix_seq h1 h2 (fun _ _ => rfl)) bop_ix (fe_var (pv 0)) fe_int) (fe_lst (fa_cons fe_int fa_nil))) (fe_op (fun h1 h2 => pe_op op_mod h1 h2) bop_mod (fe_call (fun h => pe_callTy call_int1 (by rfl) (T.fr 9) Tw.boot_int h) bc_int (fa_cons (fe_op (fun h1 h2 => pe_ix ix_seq h1 h2 (fun _ _ => rfl)) bop_ix (fe_var (pv 0)) fe_int) fa_nil)) (fe_call (fun h => pe_callB (call_max2 rfl) (by rfl) (T.fr 1) Tw.boot_max h) bc_max2 (fa_cons fe_int (fa_cons (fe_call (fun h => pe_callB call_len_seq (by rfl) (T.fr 13) Tw.boot_len h) bc_len (fa_cons (fe_op (fun h1 h2 => pe_ix ix_seq h1 h2 (fun _ _ => rfl)) bop_ix (fe_var (pv 0)) fe_int) fa_nil)) fa_nil))))))
    (fss_cons (fs_if (ft_op (fun h1 h2 => pt_cmpR op_ge h1 h2 (nomark _)) bop_ge (fe_var (pv 2)) (fe_op (fun h1 h2 => pe_op op_pow h1 h2) bop_pow fe_int fe_int)) (fss_cons (fs_setIx (fun h1 h2 h3 => ps_asg h1 (pg_sub h2 h3 set_list)) (fe_op (fun h1 h2 => pe_op op_fdiv h1 h2) bop_div (fe_var (pv 2)) (fe_var (pv 1))) (fe_op (fun h1 h2 => pe_ix ix_seq h1 h2 (fun _ _ => rfl)) bop_ix (fe_var (pv 0)) fe_int) (fe_op (fun h1 h2 => pe_op op_mod h1 h2) bop_mod (fe_call (fun h => pe_callTy call_int1 (by rfl) (T.fr 9) Tw.boot_int h) bc_int (fa_cons (fe_op (fun h1 h2 => pe_ix ix_seq h1 h2 (fun _ _ => rfl)) bop_ix (fe_var (pv 0)) fe_int) fa_nil)) (fe_call (fun h => pe_callB call_len_seq (by rfl) (T.fr 13) Tw.boot_len h) bc_len (fa_cons (fe_op (fun h1 h2 => pe_ix ix_seq h1 h2 (fun _ _ => rfl)) bop_ix (fe_var (pv 0)) fe_int) fa_nil))))
    (fss_one (fs_ret (fe_op (fun h1 h2 => pe_op op_mod h1 h2) bop_mod (fe_call (fun h => pe_callTy call_int1 (by rfl) (T.fr 9) Tw.boot_int h) bc_int (fa_cons (fe_var (pv 2)) fa_nil)) (fe_var (pv 1)))))) fss_nil)
    (fss_cons (fs_setIx (fun h1 h2 h3 => ps_asg h1 (pg_sub h2 h3 set_list)) (fe_op (fun h1 h2 => pe_op op_mod h1 h2) bop_mod (fe_call (fun h => pe_callTy call_int1 (by rfl) (T.fr 9) Tw.boot_int h) bc_int (fa_cons (fe_op (fun h1 h2 => pe_op op_addU h1 h2) bop_add (fe_op (fun h1 h2 => pe_op op_addU h1 h2) bop_add (fe_op (fun h1 h2 => pe_op op_mul h1 h2) bop_mul (fe_op (fun h1 h2 => pe_ix ix_seq h1 h2 (fun _ _ => rfl)) bop_ix (fe_var (pv 0)) fe_int) fe_int) (fe_op (fun h1 h2 => pe_op op_mul h1 h2) bop_mul (fe_var (pv 2)) fe_int)) fe_int) fa_nil)) fe_int) (fe_var (pv 0)) fe_int)
    (fss_cons (fs_setIx (fun h1 h2 h3 => ps_asg h1 (pg_sub h2 h3 set_list)) (fe_op (fun h1 h2 => pe_op op_addU h1 h2) bop_add (fe_op (fun h1 h2 => pe_ix ix_seq h1 h2 (fun _ _ => rfl)) bop_ix (fe_var (pv 0)) fe_int) fe_int) (fe_var (pv 0)) fe_int)
    (fss_one (fs_ret (fe_op (fun h1 h2 => pe_op op_mod h1 h2) bop_mod (fe_call (fun h => pe_callTy call_int1 (by rfl) (T.fr 9) Tw.boot_int h) bc_int (fa_cons (fe_op (fun h1 h2 => pe_op op_fdiv h1 h2) bop_div (fe_op (fun h1 h2 => pe_ix ix_seq h1 h2 (fun _ _ => rfl)) bop_ix (fe_var (pv 0)) fe_int) fe_int) fa_nil)) (fe_var (pv 1)))))))))), (T.gl 44), Fd.kp, Fd.bindsN fun _ _ _ _ _ _ us hl => match us, hl with | [_, _], _ => rfl⟩

theorem sc__law_at : FnScope ["_law_form", "_law_worths"] ["_law_form", "_law_worths"] (defScope (tp 28)) := ⟨rfl, rfl, rfl, by decide +kernel, rfl, by decide +kernel, by decide +kernel⟩
theorem cal__law_at (T : Tx facts fns K mg) : Cal P w K mg base "_law_at" 1 2 (callM 2 m__law_at) := by
  obtain ⟨fd, Fd⟩ := SaysW.fd T.says 18
  have sc := sc__law_at
  exact ⟨_, fd, _, fn_ok Fd sc__law_at (fun cdv A outer s H E hr =>
    (fss_one (fs_ret (fe_op (fun h1 h2 => pe_op op_addU h1 h2) bop_add (fe_op (fun h1 h2 => pe_op op_addU h1 h2) bop_add (fe_op (fun h1 h2 => pe_op op_mul h1 h2) bop_mul (fe_op (fun h1 h2 => pe_ix ix_seq h1 h2 (fun _ _ => rfl)) bop_ix (fe_var (pv 0)) fe_int) (fe_op (fun h1 h2 => pe_ix ix_seq h1 h2 (fun _ _ => rfl)) bop_ix (fe_var (pv 1)) fe_int)) (fe_op (fun h1 h2 => pe_op op_mul h1 h2) bop_mul (fe_op (fun h1 h2 => pe_ix ix_seq h1 h2 (fun _ _ => rfl)) bop_ix (fe_var (pv 0)) fe_int) (fe_op (fun h1 h2 => pe_ix ix_seq h1 h2 (fun _ _ => rfl)) bop_ix (fe_var (pv 1)) fe_int))) (fe_op (fun h1 h2 => pe_ix ix_seq h1 h2 (fun _ _ => rfl)) bop_ix (fe_var (pv 0)) fe_int))))), (T.gl 45), Fd.kp, Fd.bindsN fun _ _ _ _ _ _ us hl => match us, hl with | [_, _], _ => rfl⟩

theorem sc__law_fact : FnScope ["_law_h", "_law_worths", "_law_fact_here"] ["_law_h", "_law_worths"] (defScope (tp 29)) := ⟨rfl, rfl, rfl, by decide +kernel, rfl, by decide +kernel, by decide +kernel⟩
theorem cal__law_fact (T : Tx facts fns K mg) : Cal P w K mg base "_law_fact" 2 2 (callM 3 m__law_fact) := by
  have C__law_next := cal__law_next (P := P) (w := w) (base := base) T
  have C__law_at := cal__law_at (P := P) (w := w) (base := base) T
  obtain ⟨fd, Fd⟩ := SaysW.fd T.says 19
  have sc := sc__law_fact
  exact ⟨_, fd, _, fn_ok Fd sc__law_fact (fun cdv A outer s H E hr =>
    (fss_cons (fs_set (fun h => ps_set (i := 2) sc.nd rfl (.inl rfl) h) (fe_tup (fa_cons (fe_op (fun h1 h2 => pe_op op_sub h1 h2) bop_sub (fe_cal C__law_next (hr.mono (by decide)) (takes_of rfl rfl rfl rfl) (fa_cons (fe_var (pv 0)) (fa_cons fe_int fa_nil)) (lenS (lenS len0))) fe_int) (fa_cons (fe_op (fun h1 h2 => pe_op op_sub h1 h2) bop_sub (fe_cal C__law_next (hr.mono (by decide)) (takes_of rfl rfl rfl rfl) (fa_cons (fe_var (pv 0)) (fa_cons fe_int fa_nil)) (lenS (lenS len0))) fe_int) (fa_cons (fe_op (fun h1 h2 => pe_op op_sub h1 h2) bop_sub (fe_cal C__law_next (hr.mono (by decide)) (takes_of rfl rfl rfl rfl) (fa_cons (fe_var (pv 0)) (fa_cons fe_int fa_nil)) (lenS (lenS len0))) fe_int) fa_nil)))))
    (fss_cons (fs_if (ft_op (fun h1 h2 => pt_cmpR op_lt h1 h2 (nomark _)) bop_lt (fe_cal C__law_at (hr.mono (by decide)) (takes_of rfl rfl rfl rfl) (fa_cons (fe_var (pv 2)) (fa_cons (fe_var (pv 1)) fa_nil)) (lenS (lenS len0))) fe_int) (fss_one (fs_set (fun h => ps_set (i := 2) sc.nd rfl (.inl rfl) h) (fe_tup (fa_cons (fe_un (fun h => pe_un un_neg h) uop_neg (fe_op (fun h1 h2 => pe_ix ix_seq h1 h2 (fun _ _ => rfl)) bop_ix (fe_var (pv 2)) fe_int)) (fa_cons (fe_un (fun h => pe_un un_neg h) uop_neg (fe_op (fun h1 h2 => pe_ix ix_seq h1 h2 (fun _ _ => rfl)) bop_ix (fe_var (pv 2)) fe_int)) (fa_cons (fe_un (fun h => pe_un un_neg h) uop_neg (fe_op (fun h1 h2 => pe_ix ix_seq h1 h2 (fun _ _ => rfl)) bop_ix (fe_var (pv 2)) fe_int)) fa_nil)))))) fss_nil)
    (fss_one (fs_ret (fe_var (pv 2))))))), (T.gl 46), Fd.kp, Fd.bindsN fun _ _ _ _ _ _ us hl => match us, hl with | [_, _], _ => rfl⟩

theorem sc__law_facts : FnScope ["_law_h", "_law_most", "_law_worths", "_law_some", "_law_found", "_law_k", "_law_pick"] ["_law_h", "_law_most"] (defScope (tp 30)) := ⟨rfl, rfl, rfl, by decide +kernel, rfl, by decide +kernel, by decide +kernel⟩
theorem cal__law_facts (T : Tx facts fns K mg) : Cal P w K mg base "_law_facts" 3 2 (callM 7 m__law_facts) := by
  have C__law_next := cal__law_next (P := P) (w := w) (base := base) T
  have C__law_at := cal__law_at (P := P) (w := w) (base := base) T
  have C__law_fact := cal__law_fact (P := P) (w := w) (base := base) T
  obtain ⟨fd, Fd⟩ := SaysW.fd T.says 20
  have sc := sc__law_facts
  exact ⟨_, fd, _, fn_ok Fd sc__law_facts (fun cdv A outer s H E hr =>
    (fss_cons (fs_set (fun h => ps_set (i := 2) sc.nd rfl (.inl rfl) h) (fe_tup (fa_cons (fe_op (fun h1 h2 => pe_op op_addU h1 h2) bop_add fe_int (fe_cal C__law_next (hr.mono (by decide)) (takes_of rfl rfl rfl rfl) (fa_cons (fe_var (pv 0)) (fa_cons fe_int fa_nil)) (lenS (lenS len0)))) (fa_cons (fe_op (fun h1 h2 => pe_op op_addU h1 h2) bop_add fe_int (fe_cal C__law_next (hr.mono (by decide)) (takes_of rfl rfl rfl rfl) (fa_cons (fe_var (pv 0)) (fa_cons fe_int fa_nil)) (lenS (lenS len0)))) fa_nil))))
    (fss_cons (fs_set (fun h => ps_set (i := 3) sc.nd rfl (.inl rfl) h) (fe_lst (fa_cons (fe_tup (fa_cons (fe_un (fun h => pe_un un_neg h) uop_neg fe_int) (fa_cons fe_int (fa_cons (fe_un (fun h => pe_un un_neg h) uop_neg fe_int) fa_nil)))) (fa_cons (fe_tup (fa_cons fe_int (fa_cons (fe_un (fun h => pe_un un_neg h) uop_neg fe_int) (fa_cons fe_int fa_nil)))) (fa_cons (fe_tup (fa_cons fe_int (fa_cons (fe_un (fun h => pe_un un_neg h) uop_neg fe_int) (fa_cons fe_int fa_nil)))) (fa_cons (fe_tup (fa_cons fe_int (fa_cons fe_int (fa_cons (fe_un (fun h => pe_un un_neg h) uop_neg fe_int) fa_nil)))) fa_nil))))))
    (fss_cons (fs_set (fun h => ps_set (i := 4) sc.nd rfl (.inl rfl) h) (fe_lstO fa_nil))
    (fss_cons (fs_for (passes_of rfl) rfl (fi_rng1 (fun h => pi_range1 (by rfl) (T.fr 5) h) (fa_cons (fe_cal C__law_next (hr.mono (by decide)) (takes_of rfl rfl rfl rfl) (fa_cons (fe_var (pv 0)) (fa_cons (fe_op (fun h1 h2 => pe_op op_addU h1 h2) bop_add (fe_var (pv 1)) fe_int) fa_nil)) (lenS (lenS len0))) fa_nil)) (fg_name (ws := [5]) (pg_name (i := 5) sc.nd rfl (.inl rfl)) (by decide))
     (fss_cons (fs_set (fun h => ps_set (i := 6) sc.nd rfl (.inl rfl) h) (fe_op (fun h1 h2 => pe_ix ix_seq h1 h2 (fun _ _ => rfl)) bop_ix (fe_var (pv 3)) (fe_cal C__law_next (hr.mono (by decide)) (takes_of rfl rfl rfl rfl) (fa_cons (fe_var (pv 0)) (fa_cons fe_int fa_nil)) (lenS (lenS len0)))))
    (fss_one (fs_if ((fw_and (ft_op (fun h1 h2 => pt_cmpR (op_eqD hr.units) h1 h2 (nomark _)) bop_eq (fe_cal C__law_next (hr.mono (by decide)) (takes_of rfl rfl rfl rfl) (fa_cons (fe_var (pv 0)) (fa_cons fe_int fa_nil)) (lenS (lenS len0))) fe_int) (fw_and1 (ft_op (fun h1 h2 => pt_cmpR op_ge h1 h2 (nomark _)) bop_ge (fe_cal C__law_at (hr.mono (by decide)) (takes_of rfl rfl rfl rfl) (fa_cons (fe_var (pv 6)) (fa_cons (fe_var (pv 2)) fa_nil)) (lenS (lenS len0))) fe_int)))).pt (fss_one (fs_drop (fun h => ps_expr h) (fe_app (fun h1 h2 => pe_bm PySem.F.plainAttrs_list PySem.F.slot_list_append PySem.F.type_list_append mt_append h1 (pa_cons h2 pa_nil)) (fe_var (pv 4)) (fe_var (pv 6))))) (fss_one (fs_drop (fun h => ps_expr h) (fe_app (fun h1 h2 => pe_bm PySem.F.plainAttrs_list PySem.F.slot_list_append PySem.F.type_list_append mt_append h1 (pa_cons h2 pa_nil)) (fe_var (pv 4)) (fe_cal C__law_fact (hr.mono (by decide)) (takes_of rfl rfl rfl rfl) (fa_cons (fe_var (pv 0)) (fa_cons (fe_var (pv 2)) fa_nil)) (lenS (lenS len0))))))))))
    (fss_one (fs_ret (fe_call (fun h => pe_callTy call_tuple_of (by rfl) (T.fr 12) Tw.boot_tuple h) bc_tuple (fa_cons (fe_var (pv 4)) fa_nil))))))))), (T.gl 47), Fd.kp, Fd.bindsN fun _ _ _ _ _ _ us hl => match us, hl with | [_, _], _ => rfl⟩

theorem sc__law_loose : FnScope ["_law_h", "_law_row", "_law_found", "_law_word"] ["_law_h", "_law_row"] (defScope (tp 31)) := ⟨rfl, rfl, rfl, by decide +kernel, rfl, by decide +kernel, by decide +kernel⟩
theorem cal__law_loose (T : Tx facts fns K mg) : Cal P w K mg base "_law_loose" 2 2 (callM 4 m__law_loose) := by
  have C__law_next := cal__law_next (P := P) (w := w) (base := base) T
  obtain ⟨fd, Fd⟩ := SaysW.fd T.says 21
  have sc := sc__law_loose
  exact ⟨_, fd, _, fn_ok Fd sc__law_loose (fun cdv A outer s H E hr =>
    (fss_cons (fs_set (fun h => ps_set (i := 2) sc.nd rfl (.inl rfl) h) (fe_op (fun h1 h2 => pe_op op_repS h1 h2) bop_repS fe_str (fe_cal C__law_next (hr.mono (by decide)) (takes_of rfl rfl rfl rfl) (fa_cons (fe_var (pv 0)) (fa_cons fe_int fa_nil)) (lenS (lenS len0)))))
    (fss_cons (fs_for (passes_of rfl) rfl (fi_seq (fe_split (fe_var (pv 1)) fe_str)) (fg_name (ws := [3]) (pg_name (i := 3) sc.nd rfl (.inl rfl)) (by decide))
     (fss_one (fs_set (fun h => ps_set (i := 2) sc.nd rfl (.inl rfl) h) (fe_op (fun h1 h2 => pe_op op_addU h1 h2) bop_add (fe_op (fun h1 h2 => pe_op op_addU h1 h2) bop_add (fe_var (pv 2)) (fe_var (pv 3))) (fe_op (fun h1 h2 => pe_op op_repS h1 h2) bop_repS fe_str (fe_op (fun h1 h2 => pe_op op_addU h1 h2) bop_add fe_int (fe_cal C__law_next (hr.mono (by decide)) (takes_of rfl rfl rfl rfl) (fa_cons (fe_var (pv 0)) (fa_cons fe_int fa_nil)) (lenS (lenS len0)))))))))
    (fss_one (fs_ret (fe_var (pv 2))))))), (T.gl 48), Fd.kp, Fd.bindsN fun _ _ _ _ _ _ us hl => match us, hl with | [_, _], _ => rfl⟩

theorem sc_law : FnScope ["_law_script", "_law_h", "_law_facts_here", "_law_world", "_law_rows", "_law_loose_here", "_law_fact_here", "_law_row", "_law_part"] ["_law_script"] (defScope (tp 32)) := ⟨rfl, rfl, rfl, by decide +kernel, rfl, by decide +kernel, by decide +kernel⟩
theorem ok_law (T : Tx facts fns K mg) : ∃ fd, (∀ (s : Shared) (u : Value), BindsTo s fd ⟨[u], []⟩ [("_law_script", u)]) ∧ mg "law" = some (.ref (adr K ("law", none))) ∧ ∀ base : Heap, FnOk P w K mg base (L2.CX P w) 7 (adr K ("law", none)) fd ["_law_script"] (spF K (callM 9 m_law) 1) := by
  obtain ⟨fd, Fd⟩ := SaysW.fd T.says 22
  have sc := sc_law
  refine ⟨fd, fun s u => Fd.bindsA (ps := ["_law_script"]) (fun _ _ _ _ _ _ us hl => match us, hl with | [_], _ => rfl) s [u] rfl, T.gl 49, fun base => ?_⟩
  have C__law_mix := cal__law_mix (P := P) (w := w) (base := base) T
  have C__law_facts := cal__law_facts (P := P) (w := w) (base := base) T
  have C_World___init__ := cal_World___init__ (P := P) (w := w) (base := base) T
  have C_write_world := cal_write_world (P := P) (w := w) (base := base) T
  have C_World___eq__ := cal_World___eq__ (P := P) (w := w) (base := base) T
  have C_read_world := cal_read_world (P := P) (w := w) (base := base) T
  have C__law_loose := cal__law_loose (P := P) (w := w) (base := base) T
  exact fn_ok Fd sc_law (fun cdv A outer s H E hr =>
    (fss_cons (fs_set (fun h => ps_set (i := 1) sc.nd rfl (.inr rfl) h) (fe_cal C__law_mix (hr.mono (by decide)) (takes_of rfl rfl rfl rfl) (fa_cons (fe_var (pv 0)) (fa_cons fe_int fa_nil)) (lenS (lenS len0))))
    (fss_cons (fs_set (fun h => ps_set (i := 2) sc.nd rfl (.inl rfl) h) (fe_cal C__law_facts (hr.mono (by decide)) (takes_of rfl rfl rfl rfl) (fa_cons (fe_var (pv 1)) (fa_cons fe_int fa_nil)) (lenS (lenS len0))))
    (fss_cons (fs_set (fun h => ps_set (i := 3) sc.nd rfl (.inl rfl) h) (fe_mk C_World___init__ (T.gl 24) (hr.mono (by decide)) (takes_of rfl rfl rfl rfl) (fa_cons (fe_var (pv 2)) fa_nil) (lenS len0)))
    (fss_cons (fs_comp (fun h1 h2 h3 h4 => ps_setLc (i := 4) (own := [(("_law_fact_here" : PySem.Str), 6)]) rfl sc.nd rfl rfl (sw_true rfl rfl rfl (by decide +kernel)) h1 (blkOk_by (N := ["_law_script", "_law_h", "_law_facts_here", "_law_world", "_law_rows", "_law_loose_here", "_law_fact_here", "_law_row", "_law_part"]) (sc := defScope (tp 32)) (by decide +kernel)) h2 h3 h4) (fi_seq (fe_var (pv 2))) (fun _ _ _ _ _ => (fg_name (ws := [6]) (pg_name (i := 6) sc.nd rfl (.inl rfl)) (by decide))) (fun _ _ _ _ _ => fts_nil) (fun _ _ _ _ _ => (fe_join rfl fe_str (fe_op (fun h1 h2 => pe_op op_addU h1 h2) bop_add (fe_lst (fa_cons fe_str fa_nil)) (fe_comp (fun h1 h2 h3 h4 => pe_lc (own := [(("_law_part" : PySem.Str), 8)]) rfl sc.nd h1 (blkOk_by (by kernel_rfl)) h2 h3 h4) (fi_seq (fe_var (pv 6))) (fun _ _ _ _ _ => (fg_name (ws := [8]) (pg_name (i := 8) sc.nd rfl (.inl rfl)) (by decide))) (fun _ _ _ _ _ => fts_nil) (fun _ _ _ _ _ => (fe_call (fun h => pe_callTy call_str_int (by rfl) (T.fr 27) Tw.boot_str h) bc_str (fa_cons (fe_var (pv 8)) fa_nil))))))))
    (fss_cons (fs_set (fun h => ps_set (i := 4) sc.nd rfl (.inl rfl) h) (fe_if (ft_op (fun h1 h2 => pt_cmpR (op_neD hr.units) h1 h2 (nomark _)) bop_ne (fe_var (pv 4)) (fe_lst fa_nil)) (fe_var (pv 4)) (fe_lst (fa_cons fe_str fa_nil))))
    (fss_cons (fs_if ((fw_or (ft_op (fun h1 h2 => pt_cmpR (op_neD hr.units) h1 h2 (nomark _)) bop_ne (fe_cal C_write_world (hr.mono (by decide)) (takes_of rfl rfl rfl rfl) (fa_cons (fe_var (pv 3)) fa_nil) (lenS len0)) (fe_join rfl fe_str (fe_var (pv 4)))) (fw_or1 (ft_not (ft_op (fun h1 h2 => pt_cmpR ((op_eqW (fcIsW_ok (T.fc 22)) C_World___eq__ (hr.mono (by decide))).or (op_eqD hr.units)) h1 h2 (nomark _)) (bop_eqW (fcIsW_ok (T.fc 22))) (fe_cal C_read_world (hr.mono (by decide)) (takes_of rfl rfl rfl rfl) (fa_cons (fe_cal C_write_world (hr.mono (by decide)) (takes_of rfl rfl rfl rfl) (fa_cons (fe_var (pv 3)) fa_nil) (lenS len0)) fa_nil) (lenS len0)) (fe_var (pv 3))))))).pt (fss_one (fs_ret fe_bl)) fss_nil)
    (fss_cons (fs_set (fun h => ps_set (i := 5) sc.nd rfl (.inl rfl) h) (fe_join rfl fe_str (fe_comp (fun h1 h2 h3 h4 => pe_lc (own := [(("_law_row" : PySem.Str), 7)]) rfl sc.nd h1 (blkOk_by (N := ["_law_script", "_law_h", "_law_facts_here", "_law_world", "_law_rows", "_law_loose_here", "_law_fact_here", "_law_row", "_law_part"]) (sc := defScope (tp 32)) (by decide +kernel)) h2 h3 h4) (fi_seq (fe_var (pv 4))) (fun _ _ _ _ _ => (fg_name (ws := [7]) (pg_name (i := 7) sc.nd rfl (.inl rfl)) (by decide))) (fun _ _ _ _ _ => fts_nil) (fun _ _ _ _ _ => (fe_cal C__law_loose (hr.mono (by decide)) takes0 (fa_cons (fe_var (pv 1)) (fa_cons (fe_var (pv 7)) fa_nil)) (lenS (lenS len0)))))))
    (fss_one (fs_ret (fe_op (fun h1 h2 => pe_cmpR ((op_eqW (fcIsW_ok (T.fc 22)) C_World___eq__ (hr.mono (by decide))).or (op_eqD hr.units)) h1 h2 (nomark _)) (bop_eqW (fcIsW_ok (T.fc 22))) (fe_cal C_read_world (hr.mono (by decide)) (takes_of rfl rfl rfl rfl) (fa_cons (fe_var (pv 5)) fa_nil) (lenS len0)) (fe_var (pv 3)))))))))))))

end
/-! ### plain: the law's draws -/
def hs (R : Sto) (s : Int) (cs : List Int) (i : Int) : Sto := .lst (cs.map fun c => D.p (.int c)) :: .lst [.p (.int s), .own 0, .p (.int i), .p (.int 14)] :: R
theorem asPs_ints : ∀ cs : List Int, asPs (cs.map fun c => D.p (.int c)) = some (cs.map PyData.int)
  | [] => rfl
  | c :: cs => by rw [List.map_cons, List.map_cons, asPs, asPs_ints cs]; rfl
theorem map_set_int (cs : List Int) (k : Nat) (v : Int) : (cs.map fun c => D.p (.int c)).set k (.p (.int v)) = (cs.set k v).map fun c => D.p (.int c) := by
  rw [List.map_set]
/-- the state after some draws -/
def IsH (R S : Sto) : Prop := ∃ s cs i, cs.length ≤ 63 ∧ S = hs R s cs i
theorem IsH.len {R S : Sto} (h : IsH R S) : S.length = R.length + 2 := by
  obtain ⟨s, cs, i, hc, rfl⟩ := h
  rfl
theorem next_ok {R S : Sto} (h : IsH R S) (b : Int) (hb : 0 < b) (hb2 : b < 1073741824) : ∃ r S', 0 ≤ r ∧ r < b ∧ IsH R S' ∧ callM 3 m__law_next [.own 1, .p (.int b)] S = .ok (.p (.int r)) S' := by
  obtain ⟨s, cs, i, hc, rfl⟩ := h
  have hn : ∃ n : Int, n = (if (cs.length : Int) > 1 then (cs.length : Int) else 1) ∧ 0 < n ∧ n ≤ cs.length + 1 ∧ (cs ≠ [] → n = cs.length) := by
    refine ⟨_, rfl, ?_, ?_, fun h => ?_⟩
    · split <;> omega
    · split <;> omega
    · have := List.length_pos_iff.mpr h
      split <;> omega
  obtain ⟨n, en, hn0, hn1, hn2⟩ := hn
  have h0 : 0 ≤ i % n := Int.emod_nonneg _ (by omega)
  have h1 : i % n < n := Int.emod_lt_of_pos _ hn0
  have hcell : ∃ c, atI ((cs.map PyData.int) ++ [PyData.int 0]) (i % n) = some (.int c) ∧ (c ≠ 0 → cs ≠ []) := by
    by_cases hk : (i % n).toNat < cs.length
    · refine ⟨cs[(i % n).toNat], atI_some h0 ?_, fun _ h => by rw [h] at hk; cases hk⟩
      rw [List.getElem?_append_left (by simpa using hk)]
      simp [hk]
    · refine ⟨0, atI_some h0 ?_, fun h => absurd rfl h⟩
      rw [List.getElem?_append_right (by simpa using Nat.le_of_not_lt hk), List.length_map]
      have : (i % n).toNat - cs.length = 0 := by omega
      rw [this]
      rfl
  obtain ⟨c, hc1, hc2⟩ := hcell
  have hlim : (cs.map PyData.int).length + [PyData.int 0].length < lim := by
    simp only [List.length_map, List.length_cons, List.length_nil]
    show cs.length + (0 + 1) < 1000000
    omega
  have a1 : gAdd (.own 0) (.p (.list [.int 0])) (hs R s cs i) = .ok (.p (.list (cs.map PyData.int ++ [.int 0]))) (hs R s cs i) := by
    show (match asPs (cs.map fun c => D.p (.int c)) with
      | some a => if a.length + [PyData.int 0].length < lim then Res.ok (D.p (.list (a ++ [PyData.int 0]))) (hs R s cs i) else .bad
      | none => .bad) = _
    rw [asPs_ints]
    exact if_pos hlim
  rw [callM_ap 3 _ _ _ (by show 2 ≤ 3; decide)]
  have g0 : (hs R s cs i)[0]? = some (.lst (cs.map fun c => D.p (.int c))) := rfl
  have g1 : (hs R s cs i)[1]? = some (.lst [D.p (.int s), D.own 0, D.p (.int i), D.p (.int 14)]) := rfl
  by_cases hbig : (1000000000000000000 : Int) ≤ c
  · have hne : cs ≠ [] := hc2 (by omega)
    have hpos : 0 < cs.length := List.length_pos_iff.mpr hne
    have hix : ixN cs.length (i % cs.length) = some (i % cs.length).toNat := by
      have := hn2 hne
      subst this
      exact ixN_nat h0 h1
    refine ⟨c % b, hs R s (cs.set (i % cs.length).toNat (c / b)) i, Int.emod_nonneg _ (by omega), Int.emod_lt_of_pos _ hb, ⟨_, _, _, by rw [List.length_set]; exact hc, rfl⟩, ?_⟩
    have st : (hs R s cs i).set 0 (O.lst ((cs.map fun c => D.p (.int c)).set (i % cs.length).toNat (D.p (.int (c / b))))) = hs R s (cs.set (i % cs.length).toNat (c / b)) i := by
      rw [map_set_int]
      rfl
    have tl : (hs R s (cs.set (i % cs.length).toNat (c / b)) i).length = (hs R s cs i).length := rfl
    simp [m__law_next, g_ixO, g_ixT, g_ixL, g0, g1, a1, ← en, hn0, hc1, hbig, hb, hb2, hpos, hix, st, trim_same tl]
  · refine ⟨(((s * 48271 + c * 69621 + 11) % 2147483647) / 7) % b, hs R ((s * 48271 + c * 69621 + 11) % 2147483647) cs (i + 1), Int.emod_nonneg _ (by omega), Int.emod_lt_of_pos _ hb, ⟨_, _, _, hc, rfl⟩, ?_⟩
    have i0 : ixN 4 0 = some 0 := rfl
    have i2 : ixN 4 2 = some 2 := rfl
    have g1' : ∀ x, (hs R x cs i)[1]? = some (.lst [D.p (.int x), D.own 0, D.p (.int i), D.p (.int 14)]) := fun _ => rfl
    have g1'' : ∀ x, (hs R x cs (i + 1))[1]? = some (.lst [D.p (.int x), D.own 0, D.p (.int (i + 1)), D.p (.int 14)]) := fun _ => rfl
    have s1 : ∀ x, (hs R s cs i).set 1 (.lst [D.p (.int x), D.own 0, D.p (.int i), D.p (.int 14)]) = hs R x cs i := fun _ => rfl
    have s2 : ∀ x, (hs R x cs i).set 1 (.lst [D.p (.int x), D.own 0, D.p (.int (i + 1)), D.p (.int 14)]) = hs R x cs (i + 1) := fun _ => rfl
    have tl : ∀ x, (hs R x cs (i + 1)).length = (hs R s cs i).length := fun _ => rfl
    simp [m__law_next, g_ixO, g_ixT, g_ixL, g0, g1', g1'', s1, s2, a1, ← en, hn0, hc1, hbig, hb, hb2, i0, i2, trim_same (tl _)]

theorem IsH.set0 {x y : O} {R S : Sto} (h : IsH (x :: R) S) : S[2]? = some x ∧ IsH (y :: R) (S.set 2 y) := by
  obtain ⟨s, cs, i, hc, rfl⟩ := h
  exact ⟨rfl, s, cs, i, hc, rfl⟩
theorem IsH.push {R S : Sto} (h : IsH R S) (x : O) : IsH (R ++ [x]) (S ++ [x]) := by
  obtain ⟨s, cs, i, hc, rfl⟩ := h
  exact ⟨s, cs, i, hc, rfl⟩
theorem IsH.pop {R S S0 : Sto} (h : IsH R S) (h0 : IsH [] S0) (hR : 0 < R.length) (d : PyData) : ∃ S', IsH [] S' ∧ trim S0 (.p d) S = .ok (.p d) S' := by
  obtain ⟨s, cs, i, hc, rfl⟩ := h
  refine ⟨hs [] s cs i, ⟨s, cs, i, hc, rfl⟩, ?_⟩
  unfold trim
  rw [h0.len, if_neg (by show ¬ (R.length + 1 + 1 = 0 + 2); omega)]
  refine if_pos ?_
  show ((cs.map fun c => D.p (.int c)).all (D.low 2) && true) = true
  rw [List.all_map, Bool.and_true, List.all_eq_true]
  exact fun _ _ => rfl
theorem IsH.back {R S S0 : Sto} (h : IsH R S) (h0 : IsH R S0) (d : D) : trim S0 d S = .ok d S := trim_same (by rw [h.len, h0.len])
theorem mix_ok (ns : List Int) (k : Int) (h : ns.length ≤ 63) : ∃ S, IsH [] S ∧ callO 4 m__law_mix [.scr ns, .p (.int k)] [] = .ok (.own 1) S := by
  rw [callO_ap 4 _ _ _ (by show 2 ≤ 4; decide)]
  have loop : ∀ (l : List Int) (st : Int) (x : Option D), ∃ st' x', forL (gNm 3) (fSet 2 (fBin gMod (fCall gInt (fCons (fBin gAdd (fBin gAdd (fBin gMul (fVar 2) (fCon (.int 48271))) (fBin gMod (fCall gInt (fCons (fVar 3) fNil)) (fCon (.int 2147483629)))) (fCon (.int 1))) fNil)) (fCon (.int 2147483647)))) ((l.map PyData.int).map D.p) [some (.scr ns), some (.p (.int k)), some (.p (.int st)), x] [] = .nx [some (.scr ns), some (.p (.int k)), some (.p (.int st')), x'] [] := by
    intro l
    induction l with
    | nil => exact fun st x => ⟨st, x, rfl⟩
    | cons y l ih =>
      intro st x
      obtain ⟨st', x', e⟩ := ih ((st * 48271 + y % 2147483629 + 1) % 2147483647) (some (.p (.int y)))
      refine ⟨st', x', ?_⟩
      rw [List.map_cons, List.map_cons]
      simp
      simpa using e
  obtain ⟨st', x', e⟩ := loop ns k none
  refine ⟨hs [] st' ns 0, ⟨_, _, _, h, rfl⟩, ?_⟩
  simp [m__law_mix]
  simp at e
  rw [e]
  simp [gListO, hs]
def wayS (m : Bool) : Str := if m = true then "most" else "one"
def kindS (k : Bool) : Str := if k = true then "b" else "a"
def encS (s : Bool × Bool) : PyData := .tuple [.str (wayS s.1), .str (kindS s.2)]
/-! ### plain: what is paid -/
theorem integer_yes {S : Sto} {v lo hi : Int} (h1 : lo ≤ v) (h2 : v ≤ hi) : callM 3 m_is_integer [.p (.int v), .p (.int lo), .p (.int hi)] S = .ok (.p (.bool true)) S := by
  rw [callM_ap 3 _ _ _ (by show 3 ≤ 3; decide)]
  simp [m_is_integer, h1, h2]
theorem pair_yes {S : Sto} {a b m : Int} (ha : 0 ≤ a ∧ a ≤ m) (hb : 0 ≤ b ∧ b ≤ m) : callM 3 m_is_pair [.p (.tuple [.int a, .int b]), .p (.int m)] S = .ok (.p (.bool true)) S := by
  rw [callM_ap 3 _ _ _ (by show 2 ≤ 3; decide)]
  simp [m_is_pair, integer_yes ha.1 ha.2, integer_yes hb.1 hb.2]
theorem purse_yes {S : Sto} {a b : Int} (ha : 0 ≤ a ∧ a < 5) (hb : 0 ≤ b ∧ b < 5) : callM 1 m_is_purse [.p (.tuple [.int a, .int b])] S = .ok (.p (.bool true)) S := by
  rw [callM_ap 1 _ _ _ (by show 1 ≤ 1; decide)]
  simp [m_is_purse, pair_yes (show 0 ≤ a ∧ a ≤ 4 by omega) (show 0 ≤ b ∧ b ≤ 4 by omega)]
theorem total_yes {S : Sto} {a b c : Int} (ha : 0 ≤ a ∧ a < 5) (hb : 0 ≤ b ∧ b < 5) (hc : -12 ≤ c ∧ c ≤ 12) : callM 1 m_is_total [.p (.tuple [.int a, .int b, .int c])] S = .ok (.p (.bool true)) S := by
  rw [callM_ap 1 _ _ _ (by show 1 ≤ 1; decide)]
  have e : cutD [PyData.int a, .int b, .int c] none (some 2) = [.int a, .int b] := rfl
  simp [m_is_total, g_ixT, e, pair_yes (show 0 ≤ a ∧ a ≤ 4 by omega) (show 0 ≤ b ∧ b ≤ 4 by omega), integer_yes hc.1 hc.2]
theorem worths_yes {S : Sto} {a b : Int} (ha : 1 ≤ a ∧ a ≤ 1000000000) (hb : 1 ≤ b ∧ b ≤ 1000000000) : callM 1 m_is_worths [.p (.tuple [.int a, .int b])] S = .ok (.p (.bool true)) S := by
  rw [callM_ap 1 _ _ _ (by show 1 ≤ 1; decide)]
  have e1 : gIn true (.p (.int 0)) (.p (.tuple [.int a, .int b])) S = .ok (.p (.bool true)) S := by
    show Res.ok (D.p (.bool (!(decide (a = 0) || (decide (b = 0) || false))))) S = _
    have z1 : ¬ a = 0 := by omega
    have z2 : ¬ b = 0 := by omega
    simp [z1, z2]
  simp [m_is_worths, e1, pair_yes (show 0 ≤ a ∧ a ≤ 1000000000 by omega) (show 0 ≤ b ∧ b ≤ 1000000000 by omega)]
theorem step_yes {S : Sto} (s : Bool × Bool) : callM 2 m_is_step [.p (encS s)] S = .ok (.p (.bool true)) S := by
  obtain ⟨m, k⟩ := s
  cases m <;> cases k <;> (
    rw [callM_ap 2 _ _ _ (by show 1 ≤ 2; decide)]
    refine (congrArg (fun o : Fl => o.fin S) (?_ : _ = Fl.rt (.p (.bool true)) S)).trans trim_id
    kernel_rfl)
theorem recipe_yes {S : Sto} {st : List (Bool × Bool)} (h : st.length ≤ 4) : callM 2 m_is_recipe [.p (.tuple (st.map encS))] S = .ok (.p (.bool true)) S := by
  rw [callM_ap 2 _ _ _ (by show 1 ≤ 2; decide)]
  have all : ∀ (l : List (Bool × Bool)) (ρ : Env) (S : Sto), ρ.length = 2 → ∃ bs, boolsOf bs = some (l.map fun _ => true) ∧ compL (gNm 1) fYes (fCall (callM 2 m_is_step) (fCons (fVar 1) fNil)) ρ ((l.map encS).map D.p) S = .ok (bs.map D.p) S := by
    intro l
    induction l with
    | nil => exact fun ρ S _ => ⟨[], rfl, rfl⟩
    | cons s l ih =>
      intro ρ S hρ
      obtain ⟨bs, e1, e2⟩ := ih ρ S hρ
      refine ⟨.bool true :: bs, by simp [e1], ?_⟩
      have g : (ρ.set 1 (some (D.p (encS s))))[1]? = some (some (D.p (encS s))) := by
        rw [List.getElem?_set_self (by omega)]
      rw [List.map_cons, List.map_cons]
      simp [g, step_yes, -List.map_map, e2]
  obtain ⟨bs, e1, e2⟩ := all st [some (.p (.tuple (st.map encS))), none] S rfl
  have hl : st.length < 1000000 := by omega
  have h4 : (st.length : Int) ≤ 4 := by omega
  simp [m_is_recipe, h, h4, hl, e2, -List.map_map, asPs_map, e1]
theorem look_yes {S : Sto} {a b c d e : Int} {st : List (Bool × Bool)} (ha : 0 ≤ a ∧ a < 5) (hb : 0 ≤ b ∧ b < 5) (hc : 0 ≤ c ∧ c < 5) (hd : 0 ≤ d ∧ d < 5) (he : -12 ≤ e ∧ e ≤ 12) (hst : st.length ≤ 4) :
    callM 4 m_look_at [.p (.tuple [.int a, .int b]), .p (.tuple [.int c, .int d, .int e]), .p (.tuple [.tuple (st.map encS)])] S = .ok (.p .none) S := by
  rw [callM_ap 4 _ _ _ (by show 3 ≤ 4; decide)]
  simp [m_look_at, purse_yes ha hb, total_yes hc hd he, recipe_yes hst]
/-- one step: how many coins -/
def manyS (m : Bool) (there left w : Int) : Int := if m = true then (if (if 0 > left then 0 else left) / w < there then (if 0 > left then 0 else left) / w else there) else (if (if 0 < left then 1 else 0) < there then (if 0 < left then 1 else 0) else there)
def payStep (w0 w1 h0 h1 : Int) (s : Bool × Bool) (t : Int × Int × Int) : Int × Int × Int :=
  if s.2 = true then (t.1, t.2.1 + manyS s.1 (h1 - t.2.1) t.2.2 w1, t.2.2 - manyS s.1 (h1 - t.2.1) t.2.2 w1 * w1)
  else (t.1 + manyS s.1 (h0 - t.1) t.2.2 w0, t.2.1, t.2.2 - manyS s.1 (h0 - t.1) t.2.2 w0 * w0)
def payAll (w0 w1 h0 h1 : Int) : List (Bool × Bool) → Int × Int × Int → Int × Int × Int
  | [], t => t
  | s :: l, t => payAll w0 w1 h0 h1 l (payStep w0 w1 h0 h1 s t)
theorem more_ok {S : Sto} {a b k n : Int} : callM 3 m_more_of [.p (.tuple [.int a, .int b]), .p (.int k), .p (.int n)] S = .ok (.p (.tuple (if k = 0 then [.int (a + n), .int b] else [.int a, .int (b + n)]))) S := by
  rw [callM_ap 3 _ _ _ (by show 3 ≤ 3; decide)]
  by_cases h : k = 0
  · simp [m_more_of, g_ixT, h]
  · simp [m_more_of, g_ixT, h]
theorem steps_ok {S : Sto} {w0 w1 h0 h1 : Int} (hw0 : 1 ≤ w0 ∧ w0 ≤ 1000000000) (hw1 : 1 ≤ w1 ∧ w1 ≤ 1000000000) (l : Int) (st : List (Bool × Bool)) :
    callM 10 m_steps_done [.p (.tuple [.int w0, .int w1]), .p (.tuple [.int h0, .int h1]), .p (.int l), .p (.tuple (st.map encS))] S =
      .ok (.p (.tuple [.tuple [.int (payAll w0 w1 h0 h1 st (0, 0, l)).1, .int (payAll w0 w1 h0 h1 st (0, 0, l)).2.1], .int (payAll w0 w1 h0 h1 st (0, 0, l)).2.2])) S := by
  rw [callM_ap 10 _ _ _ (by show 4 ≤ 10; decide)]
  unfold m_steps_done
  generalize hbody : (fSeq (fSet 7 (fKix (fVar 6))) _) = body
  have one : ∀ (s : Bool × Bool) (c0 c1 l : Int) (R u7 u8 u9 : Option D), ∃ x7 x8 x9, body [some (.p (.tuple [.int w0, .int w1])), some (.p (.tuple [.int h0, .int h1])), some (.p (.int l)), R, some (.p (.tuple [.int c0, .int c1])), some (.p (.str (wayS s.1))), some (.p (.str (kindS s.2))), u7, u8, u9] S =
      .nx [some (.p (.tuple [.int w0, .int w1])), some (.p (.tuple [.int h0, .int h1])), some (.p (.int (payStep w0 w1 h0 h1 s (c0, c1, l)).2.2)), R, some (.p (.tuple [.int (payStep w0 w1 h0 h1 s (c0, c1, l)).1, .int (payStep w0 w1 h0 h1 s (c0, c1, l)).2.1])), some (.p (.str (wayS s.1))), some (.p (.str (kindS s.2))), x7, x8, x9] S := by
    intro s c0 c1 l R u7 u8 u9
    obtain ⟨m, k⟩ := s
    have z0 : 0 < w0 ∧ w0 < 1073741824 := by omega
    have z1 : 0 < w1 ∧ w1 < 1073741824 := by omega
    have y0 : -18446744073709551616 < w0 ∧ w0 < 18446744073709551616 := by omega
    have y1 : -18446744073709551616 < w1 ∧ w1 < 18446744073709551616 := by omega
    have ne : ¬ (("b" : Str) = "a") := by decide
    have ne2 : gEq (.p (.str ("one" : Str))) (.p (.str ("most" : Str))) S = .ok (.p (.bool false)) S := by kernel_rfl
    have ne3 : gEq (.p (.str ("most" : Str))) (.p (.str ("most" : Str))) S = .ok (.p (.bool true)) S := by kernel_rfl
    subst hbody
    cases k with
    | false =>
      refine ⟨some (.p (.int 0)), some (.p (.int (h0 - c0))), some (.p (.int (manyS m (h0 - c0) l w0))), ?_⟩
      cases m <;> simp [wayS, kindS, ne, ne2, ne3, g_ixT, more_ok, payStep, manyS, z0, z1, y0, y1, -Int.not_lt, -gt_iff_lt]
    | true =>
      refine ⟨some (.p (.int 1)), some (.p (.int (h1 - c1))), some (.p (.int (manyS m (h1 - c1) l w1))), ?_⟩
      cases m <;> simp [wayS, kindS, ne, ne2, ne3, g_ixT, more_ok, payStep, manyS, z0, z1, y0, y1, -Int.not_lt, -gt_iff_lt]
  have loop : ∀ (st : List (Bool × Bool)) (c0 c1 l : Int) (R u5 u6 u7 u8 u9 : Option D), ∃ x5 x6 x7 x8 x9, forL (gTp 2 (gsCons (gNm 5) (gsCons (gNm 6) gsNil))) body ((st.map encS).map D.p) [some (.p (.tuple [.int w0, .int w1])), some (.p (.tuple [.int h0, .int h1])), some (.p (.int l)), R, some (.p (.tuple [.int c0, .int c1])), u5, u6, u7, u8, u9] S =
      .nx [some (.p (.tuple [.int w0, .int w1])), some (.p (.tuple [.int h0, .int h1])), some (.p (.int (payAll w0 w1 h0 h1 st (c0, c1, l)).2.2)), R, some (.p (.tuple [.int (payAll w0 w1 h0 h1 st (c0, c1, l)).1, .int (payAll w0 w1 h0 h1 st (c0, c1, l)).2.1])), x5, x6, x7, x8, x9] S := by
    intro st
    induction st with
    | nil => exact fun c0 c1 l R x5 x6 x7 x8 x9 => ⟨x5, x6, x7, x8, x9, rfl⟩
    | cons s st ih =>
      intro c0 c1 l R x5 x6 x7 x8 x9
      obtain ⟨y7, y8, y9, e1⟩ := one s c0 c1 l R x7 x8 x9
      obtain ⟨z5, z6, z7, z8, z9, e2⟩ := ih _ _ _ R (some (.p (.str (wayS s.1)))) (some (.p (.str (kindS s.2)))) y7 y8 y9
      refine ⟨z5, z6, z7, z8, z9, ?_⟩
      rw [List.map_cons, List.map_cons]
      have e3 : encS s = .tuple [.str (wayS s.1), .str (kindS s.2)] := rfl
      rw [e3]
      simp [e1]
      rw [List.map_map] at e2
      exact e2
  obtain ⟨x5, x6, x7, x8, x9, e⟩ := loop st 0 0 l (some (.p (.tuple (st.map encS)))) none none none none none
  rw [List.map_map] at e
  simp [e]
/-! ### plain: spans and least worths -/
abbrev Row := Int × Int × Int
def encT (t : Row) : PyData := .tuple [.int t.1, .int t.2.1, .int t.2.2]
def encO : Option Int → PyData
  | none => .none
  | some h => .int h
/-- rows whose factors are small -/
def SmallR (t : Row) : Prop := -1000 ≤ t.1 ∧ t.1 ≤ 1000 ∧ -1000 ≤ t.2.1 ∧ t.2.1 ≤ 1000
def hereR (a : Int) (t : Row) : Int := t.1 * a + t.2.2
def spanS (a : Int) (t : Row) (s : Int × Option Int) : Option (Int × Option Int) :=
  if 0 < t.2.1 then some ((if -(hereR a t / t.2.1) > s.1 then -(hereR a t / t.2.1) else s.1), s.2)
  else if t.2.1 < 0 then some (s.1, some (match s.2 with
    | none => hereR a t / -t.2.1
    | some h => if hereR a t / -t.2.1 < h then hereR a t / -t.2.1 else h))
  else if hereR a t < 0 then none else some s
def spanL (a : Int) : List Row → Int × Option Int → Option (Int × Option Int)
  | [], s => some s
  | t :: r, s => (spanS a t s).bind (spanL a r)
def spanF (a : Int) (rows : List Row) : Option (Int × Option Int) := (spanL a rows (1, none)).bind fun s => match s.2 with
  | none => some s
  | some h => if s.1 ≤ h then some s else none
def encS2 : Option (Int × Option Int) → PyData
  | none => .none
  | some (lo, hi) => .tuple [.int lo, encO hi]
theorem span_ok {S : Sto} {rows : List Row} {a : Int} {rd : PyData} (hr : ∀ t ∈ rows, SmallR t) (hd : rd = .tuple (rows.map encT) ∨ rd = .list (rows.map encT)) : callM 8 m_span [.p rd, .p (.int a)] S = .ok (.p (encS2 (spanF a rows))) S := by
  rw [callM_ap 8 _ _ _ (by show 2 ≤ 8; decide)]
  unfold m_span
  generalize hbody : (fSeq (fSet 7 _) _) = body
  have one : ∀ (t : Row) (lo : Int) (hi : Option Int) (R x7 : Option D), SmallR t → body [R, some (.p (.int a)), some (.p (.int lo)), some (.p (encO hi)), some (.p (.int t.1)), some (.p (.int t.2.1)), some (.p (.int t.2.2)), x7] S =
      (match spanS a t (lo, hi) with
        | none => .rt (.p .none) S
        | some s => .nx [R, some (.p (.int a)), some (.p (.int s.1)), some (.p (encO s.2)), some (.p (.int t.1)), some (.p (.int t.2.1)), some (.p (.int t.2.2)), some (.p (.int (hereR a t)))] S) := by
    intro t lo hi R x7 ht
    obtain ⟨p, q, r⟩ := t
    obtain ⟨p0, p1, q0, q1⟩ := ht
    simp only at p0 p1 q0 q1
    have m1 : -18446744073709551616 < p ∧ p < 18446744073709551616 := by omega
    subst hbody
    by_cases h1 : 0 < q
    · have z : 0 < q ∧ q < 1073741824 := by omega
      simp [spanS, hereR, h1, z, m1, -gt_iff_lt, -Int.not_lt]
      try rfl
    · by_cases h2 : q < 0
      · have z : 0 < -q ∧ -q < 1073741824 := by omega
        have z1 : q < 0 ∧ -q < 1073741824 := by omega
        cases hi with
        | none => simp [spanS, hereR, h1, h2, z, z1, m1, encO]
        | some h =>
          have ne : gIsN (.p (.int h)) (.p .none) S = .ok (.p (.bool false)) S := rfl
          simp [spanS, hereR, h1, h2, z, z1, m1, encO, ne, -gt_iff_lt, -Int.not_lt]
      · by_cases h3 : p * a + r < 0
        · simp [spanS, hereR, h1, h2, h3, m1]
        · simp [spanS, hereR, h1, h2, h3, m1]
  have loop : ∀ (rows : List Row) (lo : Int) (hi : Option Int) (R x4 x5 x6 x7 : Option D), (∀ t ∈ rows, SmallR t) → ∃ y4 y5 y6 y7, forL (gTp 3 (gsCons (gNm 4) (gsCons (gNm 5) (gsCons (gNm 6) gsNil)))) body ((rows.map encT).map D.p) [R, some (.p (.int a)), some (.p (.int lo)), some (.p (encO hi)), x4, x5, x6, x7] S =
      (match spanL a rows (lo, hi) with
        | none => .rt (.p .none) S
        | some s => .nx [R, some (.p (.int a)), some (.p (.int s.1)), some (.p (encO s.2)), y4, y5, y6, y7] S) := by
    intro rows
    induction rows with
    | nil => exact fun lo hi R x4 x5 x6 x7 _ => ⟨x4, x5, x6, x7, rfl⟩
    | cons t rows ih =>
      intro lo hi R x4 x5 x6 x7 hs
      have e1 := one t lo hi R x7 (hs t List.mem_cons_self)
      rw [List.map_cons, List.map_cons]
      have e3 : encT t = .tuple [.int t.1, .int t.2.1, .int t.2.2] := rfl
      rw [e3]
      cases h1 : spanS a t (lo, hi) with
      | none =>
        rw [h1] at e1
        refine ⟨none, none, none, none, ?_⟩
        simp [e1, spanL, h1]
      | some s =>
        rw [h1] at e1
        obtain ⟨y4, y5, y6, y7, e2⟩ := ih s.1 s.2 R (some (.p (.int t.1))) (some (.p (.int t.2.1))) (some (.p (.int t.2.2))) (some (.p (.int (hereR a t)))) (fun u hu => hs u (List.mem_cons_of_mem _ hu))
        refine ⟨y4, y5, y6, y7, ?_⟩
        simp only [spanL, h1]
        simp [e1]
        rw [List.map_map] at e2
        exact e2
  obtain ⟨y4, y5, y6, y7, e⟩ := loop rows 1 none (some (.p rd)) none none none none hr
  have e0 : encO none = .none := rfl
  rw [e0, List.map_map] at e
  unfold spanF
  cases hs : spanL a rows (1, none) with
  | none =>
    rw [hs] at e
    rcases hd with rfl | rfl <;> simp [e, encS2]
  | some s =>
    rw [hs] at e
    obtain ⟨lo, hi⟩ := s
    cases hi with
    | none => rcases hd with rfl | rfl <;> simp [e, encS2, encO]
    | some h =>
      by_cases hl : lo ≤ h
      · rcases hd with rfl | rfl <;> simp [e, encS2, encO, hl, gIsN, isN]
      · rcases hd with rfl | rfl <;> simp [e, encS2, encO, hl, gIsN, isN]
/-- a row is kept by the worths a, b -/
def keepsR (a b : Int) (t : Row) : Prop := 0 ≤ t.1 * a + t.2.1 * b + t.2.2
def InS (b : Int) (s : Int × Option Int) : Prop := s.1 ≤ b ∧ ∀ x, s.2 = some x → b ≤ x
theorem spanS_sem (a b : Int) (t : Row) (s : Int × Option Int) : (match spanS a t s with
    | some s' => InS b s' ↔ (InS b s ∧ keepsR a b t)
    | none => ¬ keepsR a b t) := by
  obtain ⟨p, q, r⟩ := t
  obtain ⟨lo, hi⟩ := s
  unfold spanS keepsR hereR
  dsimp only
  by_cases h1 : 0 < q
  · rw [if_pos h1]
    have k : -((p * a + r) / q) ≤ b ↔ 0 ≤ p * a + q * b + r := by
      have z := Int.le_ediv_iff_mul_le (a := -b) (b := p * a + r) h1
      rw [Int.neg_mul, Int.mul_comm b q] at z
      omega
    show InS b (_, hi) ↔ _
    unfold InS
    dsimp only
    constructor
    · rintro ⟨h2, h3⟩
      split at h2
      · exact ⟨⟨by omega, h3⟩, k.mp (by omega)⟩
      · exact ⟨⟨h2, h3⟩, k.mp (by omega)⟩
    · rintro ⟨⟨h2, h3⟩, h4⟩
      have h5 := k.mpr h4
      exact ⟨by split <;> omega, h3⟩
  · rw [if_neg h1]
    by_cases h2 : q < 0
    · rw [if_pos h2]
      have k : b ≤ (p * a + r) / -q ↔ 0 ≤ p * a + q * b + r := by
        have z := Int.le_ediv_iff_mul_le (a := b) (b := p * a + r) (c := -q) (by omega)
        rw [Int.mul_neg, Int.mul_comm b q] at z
        omega
      show InS b (lo, _) ↔ _
      unfold InS
      dsimp only
      cases hi with
      | none =>
        constructor
        · rintro ⟨h3, h4⟩
          exact ⟨⟨h3, fun x hx => by cases hx⟩, k.mp (h4 _ rfl)⟩
        · rintro ⟨⟨h3, _⟩, h5⟩
          exact ⟨h3, fun x hx => by cases hx; exact k.mpr h5⟩
      | some h =>
        constructor
        · rintro ⟨h3, h4⟩
          have h6 : b ≤ (if (p * a + r) / -q < h then (p * a + r) / -q else h) := h4 _ rfl
          split at h6
          · exact ⟨⟨h3, fun x hx => by have hx : h = x := Option.some.inj hx; omega⟩, k.mp h6⟩
          · exact ⟨⟨h3, fun x hx => by have hx : h = x := Option.some.inj hx; omega⟩, k.mp (by omega)⟩
        · rintro ⟨⟨h3, h4⟩, h5⟩
          have h6 := h4 _ rfl
          have h7 := k.mpr h5
          exact ⟨h3, fun x hx => by rw [← Option.some.inj hx]; dsimp only; split <;> omega⟩
    · rw [if_neg h2]
      have hq : q = 0 := by omega
      subst hq
      by_cases h3 : p * a + r < 0
      · rw [if_pos h3]
        show ¬ (0 ≤ p * a + 0 * b + r)
        omega
      · rw [if_neg h3]
        show InS b (lo, hi) ↔ _
        constructor
        · exact fun h => ⟨h, by omega⟩
        · exact fun h => h.1
theorem spanL_sem (a b : Int) : ∀ (rows : List Row) (s : Int × Option Int), (match spanL a rows s with
    | some s' => InS b s' ↔ (InS b s ∧ ∀ t ∈ rows, keepsR a b t)
    | none => ¬ (InS b s ∧ ∀ t ∈ rows, keepsR a b t))
  | [], s => by
    show InS b s ↔ _
    simp
  | t :: rows, s => by
    have h1 := spanS_sem a b t s
    unfold spanL
    cases e : spanS a t s with
    | none =>
      rw [e] at h1
      show ¬ _
      exact fun h => h1 (h.2 t List.mem_cons_self)
    | some s1 =>
      rw [e] at h1
      have h1 : InS b s1 ↔ (InS b s ∧ keepsR a b t) := h1
      have h2 := spanL_sem a b rows s1
      show (match spanL a rows s1 with
        | some s' => _
        | none => _)
      cases e2 : spanL a rows s1 with
      | none =>
        rw [e2] at h2
        exact fun h => h2 ⟨h1.mpr ⟨h.1, h.2 t List.mem_cons_self⟩, fun u hu => h.2 u (List.mem_cons_of_mem _ hu)⟩
      | some s2 =>
        rw [e2] at h2
        have h2 : InS b s2 ↔ (InS b s1 ∧ ∀ t ∈ rows, keepsR a b t) := h2
        show InS b s2 ↔ _
        rw [h2, h1]
        constructor
        · rintro ⟨⟨z1, z2⟩, z3⟩
          refine ⟨z1, fun u hu => ?_⟩
          rcases List.mem_cons.mp hu with rfl | hu
          · exact z2
          · exact z3 u hu
        · rintro ⟨z1, z2⟩
          exact ⟨⟨z1, z2 t List.mem_cons_self⟩, fun u hu => z2 u (List.mem_cons_of_mem _ hu)⟩
/-- the worths that keep all rows -/
def Keeps (rows : List Row) (a b : Int) : Prop := 1 ≤ b ∧ ∀ t ∈ rows, keepsR a b t
theorem spanF_none {rows : List Row} {a : Int} (h : spanF a rows = none) (b : Int) : ¬ Keeps rows a b := by
  have s := spanL_sem a b rows (1, none)
  unfold spanF at h
  intro k
  have k1 : InS b (1, none) ∧ ∀ t ∈ rows, keepsR a b t := ⟨⟨k.1, fun x hx => by cases hx⟩, k.2⟩
  cases e : spanL a rows (1, none) with
  | none => rw [e] at s; exact s k1
  | some s1 =>
    rw [e] at s h
    have s : InS b s1 ↔ _ := s
    obtain ⟨z1, z2⟩ := s.mpr k1
    obtain ⟨lo, hi⟩ := s1
    cases hi with
    | none => cases h
    | some x =>
      have h : (if lo ≤ x then some (lo, some x) else none) = none := h
      have z3 := z2 x rfl
      have z1 : lo ≤ b := z1
      rw [if_pos (by omega)] at h
      cases h
theorem spanF_some {rows : List Row} {a lo : Int} {hi : Option Int} (h : spanF a rows = some (lo, hi)) (b : Int) : Keeps rows a b ↔ InS b (lo, hi) := by
  have s := spanL_sem a b rows (1, none)
  unfold spanF at h
  have k1 : (InS b (1, none) ∧ ∀ t ∈ rows, keepsR a b t) ↔ Keeps rows a b := ⟨fun z => ⟨z.1.1, z.2⟩, fun k => ⟨⟨k.1, fun x hx => by cases hx⟩, k.2⟩⟩
  cases e : spanL a rows (1, none) with
  | none => rw [e] at h; cases h
  | some s1 =>
    rw [e] at s h
    have s : InS b s1 ↔ _ := s
    obtain ⟨lo1, hi1⟩ := s1
    cases hi1 with
    | none =>
      obtain ⟨rfl, rfl⟩ := Prod.mk.inj (Option.some.inj h)
      exact (s.trans k1).symm
    | some x =>
      have h : (if lo1 ≤ x then some (lo1, some x) else none) = some (lo, hi) := h
      split at h
      · obtain ⟨rfl, rfl⟩ := Prod.mk.inj (Option.some.inj h)
        exact (s.trans k1).symm
      · cases h
theorem spanF_lo {rows : List Row} {a lo : Int} {hi : Option Int} (h : spanF a rows = some (lo, hi)) : Keeps rows a lo := by
  refine (spanF_some h lo).mpr ⟨Int.le_refl _, fun x hx => ?_⟩
  unfold spanF at h
  cases e : spanL a rows (1, none) with
  | none => rw [e] at h; cases h
  | some s1 =>
    rw [e] at h
    obtain ⟨lo1, hi1⟩ := s1
    cases hi1 with
    | none =>
      obtain ⟨rfl, rfl⟩ := Prod.mk.inj (Option.some.inj h)
      cases hx
    | some y =>
      have h : (if lo1 ≤ y then some (lo1, some y) else none) = some (lo, hi) := h
      split at h
      · obtain ⟨rfl, rfl⟩ := Prod.mk.inj (Option.some.inj h)
        cases hx
        assumption
      · cases h
def encP : Option (Int × Int) → PyData
  | none => .none
  | some (a, b) => .tuple [.int a, .int b]
def firstA (rows : List Row) : List Int → Option (Int × Int)
  | [] => none
  | a :: r => match spanF a rows with
    | some s => some (a, s.1)
    | none => firstA rows r
def upFrom (b : Int) (n : Nat) : List Int := (List.range n).map fun (i : Nat) => b + (i : Int)
def leastFrom (rows : List Row) (b : Int) : Option (Int × Int) := firstA rows (upFrom b (800 - b).toNat)
theorem least_from_ok {S : Sto} {rows : List Row} {b : Int} {rd : PyData} (hr : ∀ t ∈ rows, SmallR t) (hd : rd = .tuple (rows.map encT) ∨ rd = .list (rows.map encT)) (hb : -1000000 < b ∧ b < 1000000) : callM 4 m_least_from [.p rd, .p (.int b)] S = .ok (.p (encP (leastFrom rows b))) S := by
  rw [callM_ap 4 _ _ _ (by show 2 ≤ 4; decide)]
  unfold m_least_from
  generalize hbody : (fSeq (fSet 3 _) _) = body
  have one : ∀ (a : Int) (R1 x3 : Option D), body [some (.p rd), R1, some (.p (.int a)), x3] S = (match spanF a rows with
      | some s => .rt (.p (encP (some (a, s.1)))) S
      | none => .nx [some (.p rd), R1, some (.p (.int a)), some (.p .none)] S) := by
    intro a R1 x3
    subst hbody
    have e := span_ok (S := S) (a := a) hr hd
    cases hs : spanF a rows with
    | none =>
      rw [hs] at e
      simp [e, encS2]
    | some s =>
      rw [hs] at e
      obtain ⟨lo, hi⟩ := s
      simp [e, encS2, encP, g_ixT]
  have loop : ∀ (as : List Int) (R1 x2 x3 : Option D), ∃ y2 y3, forL (gNm 2) body (as.map fun a => D.p (.int a)) [some (.p rd), R1, x2, x3] S = (match firstA rows as with
      | some s => .rt (.p (encP (some s))) S
      | none => .nx [some (.p rd), R1, y2, y3] S) := by
    intro as
    induction as with
    | nil => exact fun R1 x2 x3 => ⟨x2, x3, rfl⟩
    | cons a as ih =>
      intro R1 x2 x3
      have e1 := one a R1 x3
      rw [List.map_cons]
      cases hs : spanF a rows with
      | some s =>
        rw [hs] at e1
        refine ⟨none, none, ?_⟩
        simp [e1, firstA, hs]
      | none =>
        rw [hs] at e1
        obtain ⟨y2, y3, e2⟩ := ih R1 (some (.p (.int a))) (some (.p .none))
        refine ⟨y2, y3, ?_⟩
        simp only [firstA, hs]
        simp [e1]
        exact e2
  obtain ⟨y2, y3, e⟩ := loop (upFrom b (800 - b).toNat) (some (.p (.int b))) none none
  have er : rng b (800 - b).toNat = (upFrom b (800 - b).toNat).map fun a => D.p (.int a) := by
    unfold rng upFrom
    rw [List.map_map]
    rfl
  unfold leastFrom
  cases hs : firstA rows (upFrom b (800 - b).toNat) with
  | none =>
    rw [hs] at e
    simp [er, hb, e, encP]
  | some s =>
    rw [hs] at e
    simp [er, hb, e]
def leastPt (rows : List Row) : Option (Int × Int) := leastFrom rows 1
theorem least_point_ok {S : Sto} {rows : List Row} {rd : PyData} (hr : ∀ t ∈ rows, SmallR t) (hd : rd = .tuple (rows.map encT) ∨ rd = .list (rows.map encT)) : callM 1 m_least_point [.p rd] S = .ok (.p (encP (leastPt rows))) S := by
  rw [callM_ap 1 _ _ _ (by show 1 ≤ 1; decide)]
  simp [m_least_point, least_from_ok hr hd (show (-1000000 : Int) < 1 ∧ (1 : Int) < 1000000 by decide), leastPt]
/-- no worths below: what firstA finds is the first -/
theorem firstA_sem (rows : List Row) : ∀ as : List Int, (match firstA rows as with
    | none => ∀ a ∈ as, ∀ b, ¬ Keeps rows a b
    | some (a, b) => a ∈ as ∧ Keeps rows a b ∧ (∀ b', Keeps rows a b' → b ≤ b') ∧ ∃ l r, as = l ++ a :: r ∧ ∀ a' ∈ l, ∀ b', ¬ Keeps rows a' b')
  | [] => fun a h => by cases h
  | a :: as => by
    have ih := firstA_sem rows as
    unfold firstA
    cases hs : spanF a rows with
    | some s =>
      obtain ⟨lo, hi⟩ := s
      exact ⟨List.mem_cons_self, spanF_lo hs, fun b' k => ((spanF_some hs b').mp k).1, [], as, rfl, fun _ h => by cases h⟩
    | none =>
      show (match firstA rows as with
        | none => _
        | some (a, b) => _)
      cases e : firstA rows as with
      | none =>
        rw [e] at ih
        intro a' h b
        rcases List.mem_cons.mp h with rfl | h
        · exact spanF_none hs b
        · exact ih a' h b
      | some s =>
        rw [e] at ih
        obtain ⟨a1, b1⟩ := s
        obtain ⟨h1, h2, h3, l, r, h4, h5⟩ := ih
        refine ⟨List.mem_cons_of_mem _ h1, h2, h3, a :: l, r, by rw [h4]; rfl, fun a' h b' => ?_⟩
        rcases List.mem_cons.mp h with rfl | h
        · exact spanF_none hs b'
        · exact h5 a' h b'
/-- leastPt: the least worths below 800 -/
theorem leastPt_none {rows : List Row} (h : leastPt rows = none) {a b : Int} (h1 : 1 ≤ a) (h2 : a < 800) : ¬ Keeps rows a b := by
  have s := firstA_sem rows (upFrom 1 (800 - 1 : Int).toNat)
  unfold leastPt leastFrom at h
  rw [h] at s
  refine s a ?_ b
  unfold upFrom
  exact List.mem_map.mpr ⟨(a - 1).toNat, List.mem_range.mpr (by omega), by omega⟩
theorem leastPt_some {rows : List Row} {a b : Int} (h : leastPt rows = some (a, b)) : 1 ≤ a ∧ a < 800 ∧ Keeps rows a b ∧ (∀ b', Keeps rows a b' → b ≤ b') ∧ ∀ a', 1 ≤ a' → a' < a → ∀ b', ¬ Keeps rows a' b' := by
  have s := firstA_sem rows (upFrom 1 (800 - 1 : Int).toNat)
  unfold leastPt leastFrom at h
  rw [h] at s
  obtain ⟨h1, h2, h3, l, r, h4, h5⟩ := s
  have h6 : ∃ i : Nat, i < 799 ∧ 1 + (i : Int) = a := by
    unfold upFrom at h1
    obtain ⟨i, hi, e⟩ := List.mem_map.mp h1
    exact ⟨i, by have := List.mem_range.mp hi; omega, e⟩
  obtain ⟨i, hi, ea⟩ := h6
  refine ⟨by omega, by omega, h2, h3, fun a' h7 h8 b' => ?_⟩
  have hl : l.length = i := by
    have e1 : (upFrom 1 (800 - 1 : Int).toNat)[l.length]? = some a := by rw [h4]; simp
    unfold upFrom at e1
    rw [List.getElem?_map] at e1
    obtain ⟨j, hj, ej⟩ := Option.map_eq_some_iff.mp e1
    have := List.getElem?_eq_some_iff.mp hj
    obtain ⟨hj1, hj2⟩ := this
    rw [List.getElem_range] at hj2
    omega
  refine h5 a' ?_ b'
  have e2 : (upFrom 1 (800 - 1 : Int).toNat)[(a' - 1).toNat]? = some a' := by
    unfold upFrom
    rw [List.getElem?_map, List.getElem?_range (by omega)]
    simp
    omega
  rw [h4, List.getElem?_append_left (by omega)] at e2
  exact List.mem_of_getElem? e2
/-! ### plain: the least of some worths -/
def ltP (p q : Int × Int) : Bool := decide (p.1 < q.1 ∨ (p.1 = q.1 ∧ p.2 < q.2))
theorem dataLt_pair (p q : Int × Int) : PySem.W.dataLt (encP (some p)) (encP (some q)) = ltP p q := by
  obtain ⟨a, b⟩ := p
  obtain ⟨c, d⟩ := q
  show ((decide ((1 : Int) < 1)) || (!(decide ((1 : Int) < 1)) && ((decide (a < c)) || (!(decide (c < a)) && ((decide ((1 : Int) < 1)) || (!(decide ((1 : Int) < 1)) && ((decide (b < d)) || (!(decide (d < b)) && ((decide ((0 : Int) < 0)) || (!(decide ((0 : Int) < 0)) && false)))))))))) = _
  unfold ltP
  dsimp only
  by_cases h1 : a < c
  · simp [h1]
  · by_cases h2 : c < a
    · have h3 : ¬ a = c := by omega
      simp [h1, h2, h3]
    · have h3 : a = c := by omega
      subst h3
      simp
def minP (x : Int × Int) (xs : List (Int × Int)) : Int × Int := xs.foldl (fun a y => if ltP y a = true then y else a) x
theorem minD_pair : ∀ (xs : List (Int × Int)) (x : Int × Int), PySem.W.minD (encP (some x)) (xs.map fun p => encP (some p)) = encP (some (minP x xs))
  | [], x => rfl
  | y :: xs, x => by
    have ih := minD_pair xs (if ltP y x = true then y else x)
    unfold PySem.W.minD minP at ih ⊢
    rw [List.map_cons, List.foldl_cons, List.foldl_cons, dataLt_pair]
    have e : (if ltP y x = true then encP (some y) else encP (some x)) = encP (some (if ltP y x = true then y else x)) := by split <;> rfl
    rw [e]
    exact ih
theorem minP_sem : ∀ (xs : List (Int × Int)) (x : Int × Int), minP x xs ∈ x :: xs ∧ ∀ y ∈ x :: xs, ltP y (minP x xs) = false
  | [], x => ⟨List.mem_cons_self, fun y hy => by
    obtain rfl : y = x := by simpa using hy
    show decide (y.1 < y.1 ∨ (y.1 = y.1 ∧ y.2 < y.2)) = false
    simp⟩
  | y :: xs, x => by
    have ih := minP_sem xs (if ltP y x = true then y else x)
    have e : minP x (y :: xs) = minP (if ltP y x = true then y else x) xs := rfl
    rw [e]
    obtain ⟨h1, h2⟩ := ih
    have tr : ∀ {p q r : Int × Int}, ltP p q = false → ltP q r = false → ltP p r = false := fun {p q r} k1 k2 => by
      have k1 := of_decide_eq_false k1
      have k2 := of_decide_eq_false k2
      refine decide_eq_false ?_
      omega
    have an : ∀ {p q : Int × Int}, ltP p q = true → ltP q p = false := fun {p q} k1 => by
      have k1 := of_decide_eq_true k1
      refine decide_eq_false ?_
      omega
    by_cases hy : ltP y x = true
    · rw [if_pos hy] at h1 h2 ⊢
      refine ⟨List.mem_cons_of_mem _ h1, fun z hz => ?_⟩
      rcases List.mem_cons.mp hz with rfl | hz
      · exact tr (an hy) (h2 y List.mem_cons_self)
      · exact h2 z hz
    · rw [if_neg hy] at h1 h2 ⊢
      refine ⟨?_, fun z hz => ?_⟩
      · rcases List.mem_cons.mp h1 with h | h
        · rw [h]
          exact List.mem_cons_self
        · exact List.mem_cons_of_mem _ (List.mem_cons_of_mem _ h)
      · rcases List.mem_cons.mp hz with rfl | hz
        · exact h2 z List.mem_cons_self
        · rcases List.mem_cons.mp hz with rfl | hz
          · exact tr (by simpa using hy) (h2 x List.mem_cons_self)
          · exact h2 z (List.mem_cons_of_mem _ hz)
def somes (ps : List (Option (Int × Int))) : List (Int × Int) := ps.filterMap id
def leastOf (ps : List (Option (Int × Int))) : Option (Int × Int) := match somes ps with
  | [] => none
  | x :: xs => some (minP x xs)
theorem alike_pairs (xs : List (Int × Int)) : alikeB (xs.map fun p => encP (some p)) = true := by
  unfold alikeB
  rw [Bool.and_eq_true]
  refine ⟨List.all_eq_true.mpr fun x hx => List.all_eq_true.mpr fun y hy => ?_, List.all_eq_true.mpr fun x hx => ?_⟩
  · obtain ⟨p, _, rfl⟩ := List.mem_map.mp hx
    obtain ⟨q, _, rfl⟩ := List.mem_map.mp hy
    rfl
  · obtain ⟨p, _, rfl⟩ := List.mem_map.mp hx
    rfl
theorem depth_pairs : ∀ xs : List (Int × Int), PyData.depthAll (xs.map fun p => encP (some p)) ≤ 60
  | [] => by show 0 ≤ 60; omega
  | p :: xs => by
    have ih := depth_pairs xs
    have e : PyData.depth (encP (some p)) ≤ 60 := by
      obtain ⟨a, b⟩ := p
      simp [encP, PyData.depth, PyData.depthAll]
    rw [List.map_cons, PyData.depthAll]
    omega
theorem least_of_ok {S : Sto} {ps : List (Option (Int × Int))} (h : ps.length < 1000000) : callM 3 m_least_of [.p (.list (ps.map encP))] S = .ok (.p (encP (leastOf ps))) S := by
  rw [callM_ap 3 _ _ _ (by show 1 ≤ 3; decide)]
  have comp : ∀ (l : List (Option (Int × Int))) (r0 r1 : Option D), compL (gNm 2) (fBin gNotN (fVar 2) (fCon .none)) (fVar 2) [r0, r1, none] ((l.map encP).map D.p) S = .ok (((somes l).map fun p => encP (some p)).map D.p) S := by
    intro l
    induction l with
    | nil => exact fun _ _ => rfl
    | cons o l ih =>
      intro r0 r1
      rw [List.map_cons, List.map_cons]
      cases o with
      | none =>
        have e : gNotN (.p (encP none)) (.p .none) S = .ok (.p (.bool false)) S := rfl
        have e2 : somes (none :: l) = somes l := rfl
        rw [e2]
        simp only [compL_cons, ap_nm]
        simp [e]
        have z := ih r0 r1
        rw [List.map_map, List.map_map] at z
        exact z
      | some p =>
        have e : gNotN (.p (encP (some p))) (.p .none) S = .ok (.p (.bool true)) S := rfl
        have e2 : somes (some p :: l) = p :: somes l := rfl
        rw [e2]
        simp only [compL_cons, ap_nm]
        have z := ih r0 r1
        rw [List.map_map, List.map_map] at z
        simp [e, z]
  have c1 := comp ps (some (.p (.list (ps.map encP)))) none
  have c2 : asPs (((somes ps).map fun p => encP (some p)).map D.p) = some ((somes ps).map fun p => encP (some p)) := asPs_map _
  have c3 : fComp [2] (fItS (fVar 0)) (gNm 2) (fBin gNotN (fVar 2) (fCon .none)) (fVar 2) [some (.p (.list (ps.map encP))), none, none] S = .ok (.p (.list ((somes ps).map fun p => encP (some p)))) S := by
    have c5 := c2
    rw [List.map_map] at c1 c5
    simp [h, c1, c5]
  have c4 : ∀ l : List (Int × Int), PyData.canLayAll0 (l.map fun p => encP (some p)) = true := fun l => by
    induction l with
    | nil => rfl
    | cons p l ih =>
      rw [List.map_cons, PyData.canLayAll0, ih]
      rfl
  unfold m_least_of
  simp only [ap_seq, ap_set, envOf_s, envOf_n, envOf_0]
  rw [c3]
  cases hs : somes ps with
  | nil =>
    have e : gNe (.p (.list [])) (.p (.list [])) S = .ok (.p (.bool false)) S := rfl
    simp [e, leastOf, hs, encP]
  | cons x xs =>
    have d1 := depth_pairs (x :: xs)
    have e : gNe (.p (.list ((x :: xs).map fun p => encP (some p)))) (.p (.list [])) S = .ok (.p (.bool true)) S := by
      rw [g_ne]
      · rfl
      · have s1 : SeqAt.shaped (.list ((x :: xs).map fun p => encP (some p))) = true := by
          unfold SeqAt.shaped
          rw [Bool.and_eq_true]
          refine ⟨c4 (x :: xs), decide_eq_true ?_⟩
          show PyData.depthAll _ + 1 ≤ 64
          omega
        rw [s1]
        rfl
    have e2 : gMinD [.p (.list ((x :: xs).map fun p => encP (some p)))] S = .ok (.p (encP (some (minP x xs)))) S := by
      rw [← minD_pair]
      exact if_pos ⟨alike_pairs (x :: xs), d1, c4 (x :: xs)⟩
    rw [List.map_cons] at e e2
    simp [e, e2, leastOf, hs]
/-! ### plain: facts and worlds -/
def FactR (t : Row) : Prop := -3 ≤ t.1 ∧ t.1 ≤ 3 ∧ -3 ≤ t.2.1 ∧ t.2.1 ≤ 3 ∧ -12 ≤ t.2.2 ∧ t.2.2 ≤ 12
theorem FactR.small {t : Row} (h : FactR t) : SmallR t := by
  obtain ⟨h1, h2, h3, h4, _, _⟩ := h
  exact ⟨by omega, by omega, by omega, by omega⟩
theorem integer_in {S : Sto} {v lo hi : Int} (h1 : lo ≤ v) (h2 : v ≤ hi) : callM 3 m_is_integer [.p (.int v), .p (.int lo), .p (.int hi)] S = .ok (.p (.bool true)) S := by
  rw [callM_ap 3 _ _ _ (by show 3 ≤ 3; decide)]
  simp [m_is_integer, h1, h2]
theorem fact_yes {S : Sto} {t : Row} (h : FactR t) : callM 1 m_is_fact [.p (encT t)] S = .ok (.p (.bool true)) S := by
  obtain ⟨p, q, r⟩ := t
  obtain ⟨h1, h2, h3, h4, h5, h6⟩ := h
  simp only at h1 h2 h3 h4 h5 h6
  have e : cutD [PyData.int p, .int q, .int r] none (some 2) = [.int p, .int q] := rfl
  have row : callM 4 m_is_row [.p (.tuple [.int p, .int q, .int r]), .p (.int 3), .p (.int 12)] S = .ok (.p (.bool true)) S := by
    rw [callM_ap 4 _ _ _ (by show 3 ≤ 4; decide)]
    simp [m_is_row, g_ixT, e, integer_in h1 h2, integer_in h3 h4, integer_in h5 h6]
  rw [callM_ap 1 _ _ _ (by show 1 ≤ 1; decide)]
  simp [m_is_fact, encT, row]
theorem world_ok {S : Sto} {rows : List Row} {w : Int × Int} (hS : IsH [] S) (hl : rows.length ≤ 4) (hf : ∀ t ∈ rows, FactR t) (hw : leastPt rows = some w) :
    mkW (callM 5 m_World___init__) [.p (.tuple (rows.map encT))] S = .ok (.wld (.tuple (rows.map encT)) (encP (some w))) S := by
  obtain ⟨s, cs, i, hc, rfl⟩ := hS
  have body : callM 5 m_World___init__ [.own 3, .p (.tuple (rows.map encT))] (hs [.odx 3, .raw 2] s cs i) = .ok (.p .none) (hs [.gone, .fz (.wld (.tuple (rows.map encT)) (encP (some w)))] s cs i) := by
    rw [callM_ap 5 _ _ _ (by show 2 ≤ 5; decide)]
    have loop : ∀ (l : List Row) (k : Nat) (S : Sto) (r0 r1 r2 r3 r4 : Option D), (∀ t ∈ l, FactR t) → ∃ y2 y3, forL (gTp 2 (gsCons (gNm 2) (gsCons (gNm 3) gsNil))) (fIfS (fNot (fCall (callM 1 m_is_fact) (fCons (fVar 3) fNil))) (fRaise1 ("InvalidFact" : PySem.Str) (fVar 2)) fPass) (enuL k (l.map encT)) [r0, r1, r2, r3, r4] S = .nx [r0, r1, y2, y3, r4] S := by
      intro l
      induction l with
      | nil => exact fun k S r0 r1 r2 r3 r4 _ => ⟨r2, r3, rfl⟩
      | cons t l ih =>
        intro k S r0 r1 r2 r3 r4 h
        obtain ⟨y2, y3, e⟩ := ih (k + 1) S r0 r1 (some (.p (.int (k : Int)))) (some (.p (encT t))) r4 fun u hu => h u (List.mem_cons_of_mem _ hu)
        refine ⟨y2, y3, ?_⟩
        rw [List.map_cons, enuL]
        simp [fact_yes (h t List.mem_cons_self), e]
    obtain ⟨y2, y3, e⟩ := loop rows 0 (hs [.odx 3, .raw 2] s cs i) (some (.own 3)) (some (.p (.tuple (rows.map encT)))) none none none hf
    have lp := least_point_ok (S := hs [.odx 3, .raw 2] s cs i) (rd := .tuple (rows.map encT)) (fun t ht => (hf t ht).small) (.inl rfl)
    rw [hw] at lp
    have h4 : ¬ (4 : Int) < rows.length := by omega
    have ne : gIsN (.p (encP (some w))) (.p .none) (hs [.odx 3, .raw 2] s cs i) = .ok (.p (.bool false)) (hs [.odx 3, .raw 2] s cs i) := rfl
    have fin : fNewW 0 1 4 [some (.own 3), some (.p (.tuple (rows.map encT))), y2, y3, some (.p (encP (some w)))] (hs [.odx 3, .raw 2] s cs i) = .nx [some (.own 3), some (.p (.tuple (rows.map encT))), y2, y3, some (.p (encP (some w)))] (hs [.gone, .fz (.wld (.tuple (rows.map encT)) (encP (some w)))] s cs i) := rfl
    simp [m_World___init__, h4, e, lp, ne, fin]
    exact trim_same rfl
  have body2 : callM 5 m_World___init__ (D.own ((hs [] s cs i).length + 1) :: [D.p (.tuple (rows.map encT))]) (hs [] s cs i ++ [O.odx ((hs [] s cs i).length + 1), O.raw (hs [] s cs i).length]) = .ok (.p .none) (hs [.gone, .fz (.wld (.tuple (rows.map encT)) (encP (some w)))] s cs i) := body
  unfold mkW
  rw [body2]
  show ite _ _ _ = _
  refine if_pos ⟨?_, by show 2 ≤ 4; decide⟩
  show ((cs.map fun c => D.p (.int c)).all (D.low 2) && true) = true
  rw [List.all_map, Bool.and_true, List.all_eq_true]
  exact fun _ _ => rfl
/-! ### plain: facts that are drawn -/
theorem at_ok {S : Sto} {p q r a b : Int} (hp : -1000 ≤ p ∧ p ≤ 1000) (hq : -1000 ≤ q ∧ q ≤ 1000) : callM 2 m__law_at [.p (.tuple [.int p, .int q, .int r]), .p (.tuple [.int a, .int b])] S = .ok (.p (.int (p * a + q * b + r))) S := by
  rw [callM_ap 2 _ _ _ (by show 2 ≤ 2; decide)]
  have h1 : -18446744073709551616 < p ∧ p < 18446744073709551616 := by omega
  have h2 : -18446744073709551616 < q ∧ q < 18446744073709551616 := by omega
  simp [m__law_at, g_ixT, h1, h2]
theorem fact_draw {R S : Sto} (h : IsH R S) {a b : Int} : ∃ t S', FactR t ∧ keepsR a b t ∧ IsH R S' ∧ callM 3 m__law_fact [.own 1, .p (.tuple [.int a, .int b])] S = .ok (.p (encT t)) S' := by
  obtain ⟨p, S1, p0, p1, h1, e1⟩ := next_ok h 7 (by decide) (by decide)
  obtain ⟨q, S2, q0, q1, h2, e2⟩ := next_ok h1 7 (by decide) (by decide)
  obtain ⟨r, S3, r0, r1, h3, e3⟩ := next_ok h2 25 (by decide) (by decide)
  have e4 := at_ok (S := S3) (p := p - 3) (q := q - 3) (r := r - 12) (a := a) (b := b) (by omega) (by omega)
  by_cases hn : (p - 3) * a + (q - 3) * b + (r - 12) < 0
  · refine ⟨(-(p - 3), -(q - 3), -(r - 12)), S3, ⟨by simp only; omega, by simp only; omega, by simp only; omega, by simp only; omega, by simp only; omega, by simp only; omega⟩, ?_, h3, ?_⟩
    · show 0 ≤ -(p - 3) * a + -(q - 3) * b + -(r - 12)
      rw [Int.neg_mul, Int.neg_mul]
      omega
    · rw [callM_ap 3 _ _ _ (by show 2 ≤ 3; decide)]
      simp only [m__law_fact]
      simp [e1, e2, e3, e4, hn, g_ixT, h3.back h, encT]
  · refine ⟨(p - 3, q - 3, r - 12), S3, ⟨by simp only; omega, by simp only; omega, by simp only; omega, by simp only; omega, by simp only; omega, by simp only; omega⟩, ?_, h3, ?_⟩
    · show 0 ≤ (p - 3) * a + (q - 3) * b + (r - 12)
      omega
    · rw [callM_ap 3 _ _ _ (by show 2 ≤ 3; decide)]
      simp only [m__law_fact]
      simp [e1, e2, e3, e4, hn, h3.back h, encT]
def pick4 : List Row := [(-1, 1, -1), (2, -1, 0), (3, -1, 0), (1, 0, -2)]
theorem facts_draw {S : Sto} (h : IsH [] S) {most : Int} (hm : 0 ≤ most ∧ most ≤ 4) : ∃ (rows : List Row) (w0 w1 : Int) (S' : Sto), (rows.length : Int) ≤ most ∧ (∀ t ∈ rows, FactR t ∧ keepsR w0 w1 t) ∧ (1 ≤ w0 ∧ w0 ≤ 9) ∧ (1 ≤ w1 ∧ w1 ≤ 15) ∧ IsH [] S' ∧
    callM 7 m__law_facts [.own 1, .p (.int most)] S = .ok (.p (.tuple (rows.map encT))) S' := by
  obtain ⟨a, S1, a0, a1, h1, e1⟩ := next_ok h 9 (by decide) (by decide)
  obtain ⟨b, S2, b0, b1, h2, e2⟩ := next_ok h1 15 (by decide) (by decide)
  obtain ⟨n, S3, n0, n1, h3, e3⟩ := next_ok (h2.push (.lst [])) (most + 1) (by omega) (by omega)
  rw [callM_ap 7 _ _ _ (by show 2 ≤ 7; decide)]
  unfold m__law_facts
  generalize hbody : (fSeq (fSet 6 _) _) = body
  have one : ∀ (rows : List Row) (S : Sto) (k x6 : Option D), rows.length ≤ 10 → IsH [.lst ((rows.map encT).map D.p)] S → ∃ t S' y6, FactR t ∧ keepsR (1 + a) (1 + b) t ∧ IsH [.lst (((rows ++ [t]).map encT).map D.p)] S' ∧
      body [some (.own 1), some (.p (.int most)), some (.p (.tuple [.int (1 + a), .int (1 + b)])), some (.p (.list (pick4.map encT))), some (.own 2), k, x6] S = .nx [some (.own 1), some (.p (.int most)), some (.p (.tuple [.int (1 + a), .int (1 + b)])), some (.p (.list (pick4.map encT))), some (.own 2), k, y6] S' := by
    intro rows S k x6 hl h
    obtain ⟨i, T1, i0, i1, g1, f1⟩ := next_ok h 4 (by decide) (by decide)
    obtain ⟨j, T2, j0, j1, g2, f2⟩ := next_ok g1 2 (by decide) (by decide)
    have pk : ∃ t : Row, atI (pick4.map encT) i = some (encT t) ∧ FactR t := by
      have : i = 0 ∨ i = 1 ∨ i = 2 ∨ i = 3 := by omega
      rcases this with rfl | rfl | rfl | rfl
      · exact ⟨(-1, 1, -1), rfl, by unfold FactR; decide⟩
      · exact ⟨(2, -1, 0), rfl, by unfold FactR; decide⟩
      · exact ⟨(3, -1, 0), rfl, by unfold FactR; decide⟩
      · exact ⟨(1, 0, -2), rfl, by unfold FactR; decide⟩
    obtain ⟨t, et, ft⟩ := pk
    have at1 := at_ok (S := T2) (p := t.1) (q := t.2.1) (r := t.2.2) (a := 1 + a) (b := 1 + b) (by have := ft; unfold FactR at this; omega) (by have := ft; unfold FactR at this; omega)
    have et2 : encT t = .tuple [.int t.1, .int t.2.1, .int t.2.2] := rfl
    have hlen : rows.length < 1000000 := by omega
    subst hbody
    by_cases hc : j = 0 ∧ 0 ≤ t.1 * (1 + a) + t.2.1 * (1 + b) + t.2.2
    · obtain ⟨hj, hk⟩ := hc
      subst hj
      have g0 := (g2.set0 (y := .raw 0)).1
      refine ⟨t, _, some (.p (encT t)), ft, hk, (g2.set0 (y := .lst (((rows ++ [t]).map encT).map D.p))).2, ?_⟩
      rw [et2] at et
      simp [f1, f2, g_ixL, et, et2, at1, hk, g0, hlen]
    · obtain ⟨u, T3, fu, ku, g3, f3⟩ := fact_draw g2 (a := 1 + a) (b := 1 + b)
      have g0 := (g2.set0 (y := .raw 0)).1
      have g03 := (g3.set0 (y := .raw 0)).1
      refine ⟨u, _, some (.p (encT t)), fu, ku, (g3.set0 (y := .lst (((rows ++ [u]).map encT).map D.p))).2, ?_⟩
      rw [et2] at et
      by_cases hj : j = 0
      · subst hj
        have hk : ¬ 0 ≤ t.1 * (1 + a) + t.2.1 * (1 + b) + t.2.2 := fun z => hc ⟨rfl, z⟩
        simp [f1, f2, f3, g_ixL, et, et2, at1, hk, g0, g03, hlen]
      · simp [f1, f2, f3, g_ixL, et, et2, hj, g0, g03, hlen]
  have loop : ∀ (ds : List D) (rows : List Row) (S : Sto) (k x6 : Option D), rows.length + ds.length ≤ 10 → (∀ t ∈ rows, FactR t ∧ keepsR (1 + a) (1 + b) t) → IsH [.lst ((rows.map encT).map D.p)] S → ∃ (rows' : List Row) (S' : Sto) (y5 y6 : Option D), rows'.length = rows.length + ds.length ∧ (∀ t ∈ rows', FactR t ∧ keepsR (1 + a) (1 + b) t) ∧ IsH [.lst ((rows'.map encT).map D.p)] S' ∧
      forL (gNm 5) body ds [some (.own 1), some (.p (.int most)), some (.p (.tuple [.int (1 + a), .int (1 + b)])), some (.p (.list (pick4.map encT))), some (.own 2), k, x6] S = .nx [some (.own 1), some (.p (.int most)), some (.p (.tuple [.int (1 + a), .int (1 + b)])), some (.p (.list (pick4.map encT))), some (.own 2), y5, y6] S' := by
    intro ds
    induction ds with
    | nil => exact fun rows S k x6 _ hr h => ⟨rows, S, k, x6, by simp, hr, h, by simp⟩
    | cons d ds ih =>
      intro rows S k x6 hl hr h
      rw [List.length_cons] at hl
      obtain ⟨t, S', y6, ft, kt, h', e'⟩ := one rows S (some d) x6 (by omega) h
      obtain ⟨rows', S'', z5, z6, l', hr', h'', e''⟩ := ih (rows ++ [t]) S' (some d) y6 (by simp; omega) (fun u hu => by
        rcases List.mem_append.mp hu with hu | hu
        · exact hr u hu
        · rw [List.mem_singleton.mp hu]
          exact ⟨ft, kt⟩) h'
      refine ⟨rows', S'', z5, z6, by simp at l'; simp; omega, hr', h'', ?_⟩
      simp [e', e'']
  obtain ⟨rows, S4, y5, y6, hl, hr, h4, e4⟩ := loop (rng 0 n.toNat) [] S3 none none (by simp [rng]; omega) (fun t ht => by cases ht) h3
  obtain ⟨S5, h5, e5⟩ := h4.pop h (by show 0 < 1; decide) (.tuple (rows.map encT))
  have hl2 : rows.length = n.toNat := by simpa [rng] using hl
  refine ⟨rows, 1 + a, 1 + b, S5, by omega, hr, by omega, by omega, h5, ?_⟩
  have g0 := (h4.set0 (y := .raw 0)).1
  have c1 : -1000000 < n ∧ n < 1000000 := by omega
  have hS2 : S2.length = 2 := h2.len
  simp [pick4, encT] at e4
  simp [e1, e2, hS2, e3, c1, e4, gTuple, g0, asPs_map, -List.map_map, e5]
/-! ### plain: the courses of a recipe -/
def belowR (t : Row) : Row := (-t.1, -t.2.1, -t.2.2)
def aboveR (t : Row) : Row := (t.1, t.2.1, t.2.2 - 1)
def leftR (t : Row) (c : Int × Int) : Row := (t.1 - c.1, t.2.1 - c.2, t.2.2)
def moreC (c : Int × Int) (k : Bool) (n : Int) : Int × Int := if k = true then (c.1, c.2 + n) else (c.1 + n, c.2)
def encC (c : Int × Int) : PyData := .tuple [.int c.1, .int c.2]
def kN (k : Bool) : Int := if k = true then 1 else 0
theorem below_ok {S : Sto} (t : Row) : callM 1 m_below [.p (encT t)] S = .ok (.p (encT (belowR t))) S := by
  rw [callM_ap 1 _ _ _ (by show 1 ≤ 1; decide)]
  simp [m_below, encT, belowR, g_ixT]
theorem above_ok {S : Sto} (t : Row) : callM 1 m_above [.p (encT t)] S = .ok (.p (encT (aboveR t))) S := by
  rw [callM_ap 1 _ _ _ (by show 1 ≤ 1; decide)]
  simp [m_above, encT, aboveR, g_ixT]
theorem left_ok {S : Sto} (t : Row) (c : Int × Int) : callM 2 m_left_of [.p (encT t), .p (encC c)] S = .ok (.p (encT (leftR t c))) S := by
  rw [callM_ap 2 _ _ _ (by show 2 ≤ 2; decide)]
  simp [m_left_of, encT, encC, leftR, g_ixT]
theorem moreC_ok {S : Sto} (c : Int × Int) (k : Bool) (n : Int) : callM 3 m_more_of [.p (encC c), .p (.int (kN k)), .p (.int n)] S = .ok (.p (encC (moreC c k n))) S := by
  rw [callM_ap 3 _ _ _ (by show 3 ≤ 3; decide)]
  cases k <;> simp [m_more_of, encC, kN, moreC, g_ixT]
def atC (c : Int × Int) (k : Bool) : Int := if k = true then c.2 else c.1
def formsR (total : Row) (c : Int × Int) (k : Bool) (have_ n : Int) : List Row :=
  (if 0 < n then [leftR total (moreC c k n)] else []) ++ (if n < have_ then [aboveR (belowR (leftR total (moreC (moreC c k n) k 1)))] else [])
def branchF (purse : Int × Int) (total : Row) (c : Int × Int) (s : Bool × Bool) : List ((Int × Int) × List Row) :=
  let have_ := atC purse s.2 - atC c s.2
  if s.1 = true then (upFrom 0 (have_ + 1).toNat).map fun n => (moreC c s.2 n, formsR total c s.2 have_ n)
  else if have_ = 0 then [(c, [])] else [(moreC c s.2 1, [aboveR (leftR total c)]), (c, [belowR (leftR total c)])]
def encB (b : (Int × Int) × List Row) : PyData := .tuple [encC b.1, .list (b.2.map encT)]
def LowS (S : Sto) : Prop := S.all (O.low S.length) = true
theorem LowS.trim {S : Sto} (h : LowS S) (T : Sto) (d : PyData) (hT : T ≠ []) : trim S (.p d) (S ++ T) = .ok (.p d) S := by
  have hl : 0 < T.length := List.length_pos_iff.mpr hT
  have e : (S ++ T).take S.length = S := List.take_left
  unfold Tw.trim
  rw [if_neg (by rw [List.length_append]; omega), e, if_pos]
  show (true && S.all (O.low S.length)) = true
  rw [Bool.true_and]
  exact h
theorem at_len {S T : Sto} {x : O} : (S ++ x :: T)[S.length]? = some x := by
  rw [List.getElem?_append_right (Nat.le_refl _), Nat.sub_self]
  rfl
theorem set_len {S T : Sto} {x y : O} : (S ++ x :: T).set S.length y = S ++ y :: T := by
  rw [List.set_append_right _ _ (Nat.le_refl _), Nat.sub_self]
  rfl
theorem branches_one {S : Sto} {purse c : Int × Int} {total : Row} {k : Bool} : callM 13 m_branches [.p (encC purse), .p (encT total), .p (encC c), .p (encS (false, k))] S = .ok (.p (.list ((branchF purse total c (false, k)).map encB))) S := by
  rw [callM_ap 13 _ _ _ (by show 4 ≤ 13; decide)]
  have ne : ∀ S, gEq (.p (.str ("one" : Str))) (.p (.str ("one" : Str))) S = Res.ok (D.p (.bool true)) S := fun S => by kernel_rfl
  have kb : ¬ (("b" : Str) = "a") := by decide
  have l1 := left_ok (S := S) total c
  have a1 := above_ok (S := S) (leftR total c)
  have b1 := below_ok (S := S) (leftR total c)
  have m1 := moreC_ok (S := S) c k 1
  have ec : encC c = .tuple [.int c.1, .int c.2] := rfl
  have ep : encC purse = .tuple [.int purse.1, .int purse.2] := rfl
  cases k
  · have m2 : callM 3 m_more_of [.p (.tuple [.int c.1, .int c.2]), .p (.int 0), .p (.int 1)] S = _ := m1
    have l2 : callM 2 m_left_of [.p (encT total), .p (.tuple [.int c.1, .int c.2])] S = _ := l1
    by_cases h0 : purse.1 - c.1 = 0
    · simp [m_branches, encS, wayS, kindS, ne, g_ixT, ec, ep, h0, l2, branchF, atC, encB]
    · simp [m_branches, encS, wayS, kindS, ne, g_ixT, ec, ep, h0, l2, a1, b1, m2, branchF, atC, encB]
  · have m2 : callM 3 m_more_of [.p (.tuple [.int c.1, .int c.2]), .p (.int 1), .p (.int 1)] S = _ := m1
    have l2 : callM 2 m_left_of [.p (encT total), .p (.tuple [.int c.1, .int c.2])] S = _ := l1
    by_cases h0 : purse.2 - c.2 = 0
    · simp [m_branches, encS, wayS, kindS, kb, ne, g_ixT, ec, ep, h0, l2, branchF, atC, encB]
    · simp [m_branches, encS, wayS, kindS, kb, ne, g_ixT, ec, ep, h0, l2, a1, b1, m2, branchF, atC, encB]
theorem get_old {S T U : Sto} {x : O} : (S ++ x :: (T ++ U))[S.length]? = some x := at_len
theorem turn_most {S T : Sto} {purse c : Int × Int} {total : Row} {k : Bool} {n have_ : Int} {acc : List PyData} {R0 R3 R4 R5 R8 x11 x12 : Option D} (hacc : acc.length < 1000) :
    ∃ y11 y12 T', (fSeq (fSet 11 (fCall (callM 3 m_more_of) (fCons (fVar 2) (fCons (fVar 6) (fCons (fVar 10) fNil)))))
  (fSeq (fSet 12 (fIf (fBin gGt (fVar 10) (fCon (.int 0))) (fLstO (fCons (fCall (callM 2 m_left_of) (fCons (fVar 1) (fCons (fVar 11) fNil))) fNil)) (fLstO fNil)))
  (fSeq (fIfS (fBin gLt (fVar 10) (fVar 7)) (fDrop (fApp (fVar 12) (fCall (callM 1 m_above) (fCons (fCall (callM 1 m_below) (fCons (fCall (callM 2 m_left_of) (fCons (fVar 1) (fCons (fCall (callM 3 m_more_of) (fCons (fVar 11) (fCons (fVar 6) (fCons (fCon (.int 1)) fNil)))) fNil))) fNil)) fNil)))) fPass)
  (fDrop (fApp (fVar 9) (fTup (fCons (fVar 11) (fCons (fFrz (fVar 12)) fNil))))))))
      [R0, some (.p (encT total)), some (.p (encC c)), R3, R4, R5, some (.p (.int (kN k))), some (.p (.int have_)), R8, some (.own S.length), some (.p (.int n)), x11, x12] (S ++ .lst (acc.map D.p) :: T) =
    .nx [R0, some (.p (encT total)), some (.p (encC c)), R3, R4, R5, some (.p (.int (kN k))), some (.p (.int have_)), R8, some (.own S.length), some (.p (.int n)), y11, y12] (S ++ .lst ((acc ++ [encB (moreC c k n, formsR total c k have_ n)]).map D.p) :: T') := by
  obtain ⟨X, hX⟩ : ∃ X, X = S ++ O.lst (acc.map D.p) :: T := ⟨_, rfl⟩
  rw [← hX]
  have gX : ∀ y, (X ++ [y])[X.length]? = some y := fun y => by simp
  have sX : ∀ y z, (X ++ [y]).set X.length z = X ++ [z] := fun y z => by simp
  have gS : ∀ y, (X ++ [y])[S.length]? = some (O.lst (acc.map D.p)) := fun y => by
    rw [hX, List.append_assoc, List.cons_append]
    exact at_len
  have sS : ∀ y z, (X ++ [y]).set S.length z = S ++ z :: (T ++ [y]) := fun y z => by
    rw [hX, List.append_assoc, List.cons_append]
    exact set_len
  have m1 : ∀ S, callM 3 m_more_of [.p (encC c), .p (.int (kN k)), .p (.int n)] S = .ok (.p (encC (moreC c k n))) S := fun S => moreC_ok c k n
  have m2 : ∀ S, callM 3 m_more_of [.p (encC (moreC c k n)), .p (.int (kN k)), .p (.int 1)] S = .ok (.p (encC (moreC (moreC c k n) k 1))) S := fun S => moreC_ok _ k 1
  have l1 : ∀ (c : Int × Int) S, callM 2 m_left_of [.p (encT total), .p (encC c)] S = .ok (.p (encT (leftR total c))) S := fun c S => left_ok total c
  have b1 : ∀ t S, callM 1 m_below [.p (encT t)] S = .ok (.p (encT (belowR t))) S := fun t S => below_ok t
  have a1 : ∀ t S, callM 1 m_above [.p (encT t)] S = .ok (.p (encT (aboveR t))) S := fun t S => above_ok t
  have hl : acc.length < 1000000 := by omega
  by_cases h0 : 0 < n
  · by_cases h1 : n < have_
    · exact ⟨_, _, T ++ [_], by simp [m1, m2, l1, b1, a1, h0, h1, gX, sX, gS, sS, hl, formsR, encB]; exact ⟨⟨rfl, rfl⟩, rfl⟩⟩
    · exact ⟨_, _, T ++ [_], by simp [m1, m2, l1, b1, a1, h0, h1, gX, sX, gS, sS, hl, formsR, encB]; exact ⟨⟨rfl, rfl⟩, rfl⟩⟩
  · by_cases h1 : n < have_
    · exact ⟨_, _, T ++ [_], by simp [m1, m2, l1, b1, a1, h0, h1, gX, sX, gS, sS, hl, formsR, encB]; exact ⟨⟨rfl, rfl⟩, rfl⟩⟩
    · exact ⟨_, _, T ++ [_], by simp [m1, m2, l1, b1, a1, h0, h1, gX, sX, gS, sS, hl, formsR, encB]; exact ⟨⟨rfl, rfl⟩, rfl⟩⟩
/-! ### plain: loops -/
section
variable {α β : Type} {gg g1 : FG} {body : FS} {enc : α → D} {enc1 : β → D} {ft fe ft1 : FE} {fi1 : FI} {vs1 : List Nat}
theorem forL_pre {P : List α → Env → Sto → Prop} (xs : List α)
    (step : ∀ l x r, xs = l ++ x :: r → ∀ ρ S, P l ρ S → ∃ ρ1 ρ2 S2, gg (enc x) ρ = some ρ1 ∧ body ρ1 S = .nx ρ2 S2 ∧ P (l ++ [x]) ρ2 S2)
    {ρ : Env} {S : Sto} (h0 : P [] ρ S) : ∃ ρ' S', forL gg body (xs.map enc) ρ S = .nx ρ' S' ∧ P xs ρ' S' := by
  have go : ∀ (r l : List α) (ρ : Env) (S : Sto), xs = l ++ r → P l ρ S → ∃ ρ' S', forL gg body (r.map enc) ρ S = .nx ρ' S' ∧ P xs ρ' S' := by
    intro r
    induction r with
    | nil =>
      intro l ρ S e h
      rw [List.append_nil] at e
      exact ⟨ρ, S, rfl, e ▸ h⟩
    | cons x r ih =>
      intro l ρ S e h
      obtain ⟨ρ1, ρ2, S2, e1, e2, h2⟩ := step l x r e ρ S h
      obtain ⟨ρ', S', e3, h3⟩ := ih (l ++ [x]) ρ2 S2 (by rw [e, List.append_assoc]; rfl) h2
      refine ⟨ρ', S', ?_, h3⟩
      rw [List.map_cons, forL_cons, e1]
      dsimp only
      rw [e2, rnd_nx, e3]
  exact go xs [] ρ S rfl h0
/-- a loop that may answer -/
theorem forL_rt {P : List α → Env → Sto → Prop} {Q : D → Sto → Prop} (xs : List α)
    (step : ∀ l x r, xs = l ++ x :: r → ∀ ρ S, P l ρ S → ∃ ρ1, gg (enc x) ρ = some ρ1 ∧ ((∃ ρ2 S2, body ρ1 S = .nx ρ2 S2 ∧ P (l ++ [x]) ρ2 S2) ∨ ∃ d S2, body ρ1 S = .rt d S2 ∧ Q d S2))
    {ρ : Env} {S : Sto} (h0 : P [] ρ S) : (∃ ρ' S', forL gg body (xs.map enc) ρ S = .nx ρ' S' ∧ P xs ρ' S') ∨ ∃ d S', forL gg body (xs.map enc) ρ S = .rt d S' ∧ Q d S' := by
  have go : ∀ (r l : List α) (ρ : Env) (S : Sto), xs = l ++ r → P l ρ S → (∃ ρ' S', forL gg body (r.map enc) ρ S = .nx ρ' S' ∧ P xs ρ' S') ∨ ∃ d S', forL gg body (r.map enc) ρ S = .rt d S' ∧ Q d S' := by
    intro r
    induction r with
    | nil =>
      intro l ρ S e h
      rw [List.append_nil] at e
      exact .inl ⟨ρ, S, rfl, e ▸ h⟩
    | cons x r ih =>
      intro l ρ S e h
      obtain ⟨ρ1, e1, ⟨ρ2, S2, e2, h2⟩ | ⟨d, S2, e2, h2⟩⟩ := step l x r e ρ S h
      · rcases ih (l ++ [x]) ρ2 S2 (by rw [e, List.append_assoc]; rfl) h2 with ⟨ρ', S', e3, h3⟩ | ⟨d, S', e3, h3⟩
        · refine .inl ⟨ρ', S', ?_, h3⟩
          rw [List.map_cons, forL_cons, e1]
          dsimp only
          rw [e2, rnd_nx, e3]
        · refine .inr ⟨d, S', ?_, h3⟩
          rw [List.map_cons, forL_cons, e1]
          dsimp only
          rw [e2, rnd_nx, e3]
      · refine .inr ⟨d, S2, ?_, h2⟩
        rw [List.map_cons, forL_cons, e1]
        dsimp only
        rw [e2, rnd_rt]
  exact go xs [] ρ S rfl h0
theorem compL_map {p : α → Bool} {val : α → PyData} {ρ : Env} {S : Sto} : ∀ (xs : List α), (∀ x ∈ xs, ∃ ρ1, gg (enc x) ρ = some ρ1 ∧ ft ρ1 S = .ok (.p (.bool (p x))) S ∧ (p x = true → fe ρ1 S = .ok (.p (val x)) S)) →
    compL gg ft fe ρ (xs.map enc) S = .ok (((xs.filter p).map val).map D.p) S
  | [], _ => rfl
  | x :: xs, h => by
    obtain ⟨ρ1, e1, e2, e3⟩ := h x List.mem_cons_self
    have ih := compL_map xs fun y hy => h y (List.mem_cons_of_mem _ hy)
    rw [List.map_cons, compL_cons, e1]
    dsimp only
    rw [e2, cK1_ok]
    by_cases hp : p x = true
    · rw [if_pos hp, e3 hp, cK2_ok, ih, cK3_ok, List.filter_cons_of_pos hp]
      rfl
    · rw [if_neg hp, ih, List.filter_cons_of_neg hp]
theorem compL_all {val : α → PyData} {ρ : Env} {S : Sto} (xs : List α) (h : ∀ x ∈ xs, ∃ ρ1, gg (enc x) ρ = some ρ1 ∧ fe ρ1 S = .ok (.p (val x)) S) :
    compL gg fYes fe ρ (xs.map enc) S = .ok ((xs.map val).map D.p) S := by
  have e := compL_map (gg := gg) (ft := fYes) (fe := fe) (p := fun _ => true) (val := val) (ρ := ρ) (S := S) xs fun x hx => by
    obtain ⟨ρ1, e1, e2⟩ := h x hx
    exact ⟨ρ1, e1, rfl, fun _ => e2⟩
  rw [e]
  have : xs.filter (fun _ => true) = xs := List.filter_eq_self.mpr fun _ _ => rfl
  rw [this]
theorem compL2_map {ys : α → List β} {p : α → β → Bool} {val : α → β → PyData} {ρ : Env} {S : Sto} : ∀ (xs : List α) (n : Nat), (∀ x ∈ xs, ∃ ρ1, gg (enc x) ρ = some ρ1 ∧ fi1 ρ1 S = .ok ((ys x).map enc1) S ∧
      ∀ y ∈ ys x, ∃ ρ2, g1 (enc1 y) (wipeE ρ1 vs1) = some ρ2 ∧ ft1 ρ2 S = .ok (.p (.bool (p x y))) S ∧ (p x y = true → fe ρ2 S = .ok (.p (val x y)) S)) →
    (∀ l x r, xs = l ++ x :: r → n + (l.flatMap fun x => ((ys x).filter (p x)).map (val x)).length + (ys x).length < 1000000) →
    compL2 gg fYes fi1 vs1 g1 ft1 fe ρ (xs.map enc) n S = .ok ((xs.flatMap fun x => ((ys x).filter (p x)).map (val x)).map D.p) S
  | [], _, _, _ => rfl
  | x :: xs, n, h, hn => by
    obtain ⟨ρ1, e1, e2, h2⟩ := h x List.mem_cons_self
    have e3 := compL_map (gg := g1) (enc := enc1) (ft := ft1) (fe := fe) (p := p x) (val := val x) (ρ := wipeE ρ1 vs1) (S := S) (ys x) h2
    have hl : n + (ys x).length < 1000000 := by
      have := hn [] x xs rfl
      simpa using this
    have hl2 : n + ((ys x).map enc1).length < lim := by rw [List.length_map]; exact hl
    have ih := compL2_map xs (n + (((ys x).filter (p x)).map (val x)).length) (fun y hy => h y (List.mem_cons_of_mem _ hy)) fun l y r e => by
      have := hn (x :: l) y r (by rw [e]; rfl)
      rw [List.flatMap_cons, List.length_append] at this
      omega
    rw [List.map_cons]
    unfold compL2
    rw [e1]
    show ((fi1 ρ1 S).noX.bind fun ds1 S2 => if n + ds1.length < lim then ((compL g1 ft1 fe (wipeE ρ1 vs1) ds1 S2).bind fun xs1 S3 => (compL2 gg fYes fi1 vs1 g1 ft1 fe ρ (xs.map enc) (n + xs1.length) S3).bind fun ys S4 => .ok (xs1 ++ ys) S4) else .bad) = _
    rw [e2]
    show (if n + ((ys x).map enc1).length < lim then ((compL g1 ft1 fe (wipeE ρ1 vs1) ((ys x).map enc1) S).bind fun xs1 S3 => (compL2 gg fYes fi1 vs1 g1 ft1 fe ρ (xs.map enc) (n + xs1.length) S3).bind fun ys S4 => Res.ok (xs1 ++ ys) S4) else .bad) = _
    rw [if_pos hl2, e3]
    show ((compL2 gg fYes fi1 vs1 g1 ft1 fe ρ (xs.map enc) (n + ((((ys x).filter (p x)).map (val x)).map D.p).length) S).bind fun ys2 S4 => Res.ok ((((ys x).filter (p x)).map (val x)).map D.p ++ ys2) S4) = _
    rw [List.length_map, ih, List.flatMap_cons, List.map_append]
    rfl
end
theorem compE_map {S : Sto} (xs : List PyData) : compE (.ok (xs.map D.p) S) = .ok (.p (.list xs)) S := by
  rw [compE_ok, asPs_map]
theorem rngN (n : Nat) (b : Int) : rng b n = (upFrom b n).map fun a => D.p (.int a) := by
  unfold rng upFrom
  rw [List.map_map]
  rfl
theorem mem_upFrom {b x : Int} {n : Nat} : x ∈ upFrom b n ↔ b ≤ x ∧ x < b + n := by
  unfold upFrom
  rw [List.mem_map]
  constructor
  · rintro ⟨i, hi, rfl⟩
    have := List.mem_range.mp hi
    omega
  · intro h
    exact ⟨(x - b).toNat, List.mem_range.mpr (by omega), by omega⟩
theorem upFrom_len {b : Int} {n : Nat} : (upFrom b n).length = n := by simp [upFrom]
theorem LowS.app {S T : Sto} (h : LowS S) (hT : ∀ o ∈ T, ∀ n, o.low n = true) : LowS (S ++ T) := by
  unfold LowS at *
  rw [List.all_append, Bool.and_eq_true]
  refine ⟨?_, List.all_eq_true.mpr fun o ho => hT o ho _⟩
  rw [List.all_eq_true] at *
  intro o ho
  have := h o ho
  have dM : ∀ m : Nat ⊕ PyData, lowM S.length m = true → lowM (S ++ T).length m = true := by
    intro m hm
    cases m with
    | inl k =>
      have := of_decide_eq_true hm
      exact decide_eq_true (by rw [List.length_append]; omega)
    | inr _ => rfl
  have dm : ∀ d : D, d.low S.length = true → d.low (S ++ T).length = true := by
    intro d hd
    cases d with
    | own k =>
      have := of_decide_eq_true hd
      exact decide_eq_true (by rw [List.length_append]; omega)
    | mix xs => exact List.all_eq_true.mpr fun m hm => dM m (List.all_eq_true.mp (show xs.all (lowM S.length) = true from hd) m hm)
    | mtp xs => exact List.all_eq_true.mpr fun m hm => dM m (List.all_eq_true.mp (show xs.all (lowM S.length) = true from hd) m hm)
    | _ => rfl
  cases o with
  | lst xs => exact List.all_eq_true.mpr fun d hd => dm d (List.all_eq_true.mp this d hd)
  | dic kvs => exact List.all_eq_true.mpr fun q hq => dm q.2 (List.all_eq_true.mp this q hq)
  | ins n fs => exact List.all_eq_true.mpr fun q hq => dm q.2 (List.all_eq_true.mp this q hq)
  | fz d => exact dm d this
  | _ => first | exact this | (have := of_decide_eq_true this; exact decide_eq_true (by rw [List.length_append]; omega))
theorem low_lst (ps : List PyData) (n : Nat) : O.low n (.lst (ps.map D.p)) = true := by
  show (ps.map D.p).all (D.low n) = true
  rw [List.all_map, List.all_eq_true]
  exact fun _ _ => rfl
theorem low_fz (d : PyData) (n : Nat) : O.low n (.fz (.p d)) = true := rfl
theorem IsH.lowS {R S : Sto} (h : IsH R S) (hR : ∀ o ∈ R, ∀ n, o.low n = true) : LowS S := by
  obtain ⟨s, cs, i, hc, rfl⟩ := h
  unfold LowS hs
  rw [List.all_cons, List.all_cons, Bool.and_eq_true, Bool.and_eq_true]
  refine ⟨?_, ?_, List.all_eq_true.mpr fun o ho => hR o ho _⟩
  · show (cs.map fun c => D.p (.int c)).all _ = true
    rw [List.all_map, List.all_eq_true]
    exact fun _ _ => rfl
  · show ([D.p (.int s), D.own 0, D.p (.int i), D.p (.int 14)] : List D).all _ = true
    simp [D.low]
theorem filt_one {α β : Type} (p : α → Bool) (f : α → β) (acc : List β) (l : List α) (x : α) : acc ++ (l.filter p).map f ++ (if p x = true then [f x] else []) = acc ++ ((l ++ [x]).filter p).map f := by
  rw [List.filter_append, List.map_append, List.append_assoc]
  by_cases h : p x = true
  · rw [if_pos h, List.filter_cons_of_pos h]
    rfl
  · rw [if_neg h, List.filter_cons_of_neg h]
    rfl
theorem flat_one {α β : Type} (f : α → List β) (l : List α) (x : α) : (l ++ [x]).flatMap f = l.flatMap f ++ f x := by
  rw [List.flatMap_append, List.flatMap_cons, List.flatMap_nil, List.append_nil]
theorem ixC0 {S : Sto} (c : Int × Int) : gIx (.p (encC c)) (.p (.int 0)) S = .ok (.p (.int c.1)) S := by simp [encC, g_ixT]
theorem ixC1 {S : Sto} (c : Int × Int) : gIx (.p (encC c)) (.p (.int 1)) S = .ok (.p (.int c.2)) S := by simp [encC, g_ixT]
theorem kix_kind {S : Sto} (k : Bool) : kixK (.ok (.p (.str (kindS k))) S) = .ok (.p (.int (kN k))) S := by
  cases k
  · rfl
  · show (if ("b" : Str) = ("a" : Str) then Res.ok (D.p (.int 0)) S else if ("b" : Str) = ("b" : Str) then .ok (.p (.int 1)) S else .bad) = _
    rw [if_neg (by decide), if_pos rfl]
    rfl
theorem ixCk {S : Sto} (c : Int × Int) (k : Bool) : gIx (.p (encC c)) (.p (.int (kN k))) S = .ok (.p (.int (atC c k))) S := by
  cases k
  · exact ixC0 c
  · exact ixC1 c
theorem branches_most {S : Sto} {purse c : Int × Int} {total : Row} {k : Bool} (hS : LowS S) (hh : -1 ≤ atC purse k - atC c k ∧ atC purse k - atC c k ≤ 100) : callM 13 m_branches [.p (encC purse), .p (encT total), .p (encC c), .p (encS (true, k))] S = .ok (.p (.list ((branchF purse total c (true, k)).map encB))) S := by
  rw [callM_ap 13 _ _ _ (by show 4 ≤ 13; decide)]
  unfold m_branches
  generalize hbody : (fSeq (fSet 11 _) _) = body
  have ne : ∀ S, gEq (.p (.str ("most" : Str))) (.p (.str ("one" : Str))) S = Res.ok (D.p (.bool false)) S := fun S => by kernel_rfl
  have loop := forL_pre (gg := gNm 10) (body := body) (enc := fun n : Int => D.p (.int n)) (xs := upFrom 0 (atC purse k - atC c k + 1).toNat)
    (P := fun l ρ St => ∃ y10 y11 y12 T, ρ = [some (.p (encC purse)), some (.p (encT total)), some (.p (encC c)), some (.p (encS (true, k))), some (.p (.str "most")), some (.p (.str (kindS k))), some (.p (.int (kN k))), some (.p (.int (atC purse k - atC c k))), none, some (.own S.length), y10, y11, y12] ∧
      St = S ++ .lst ((l.map fun n => encB (moreC c k n, formsR total c k (atC purse k - atC c k) n)).map D.p) :: T)
    (fun l n r hx ρ St h => by
      obtain ⟨y10, y11, y12, T, rfl, rfl⟩ := h
      have hl : l.length < 1000 := by
        have := congrArg List.length hx
        rw [upFrom_len, List.length_append, List.length_cons] at this
        omega
      obtain ⟨z11, z12, T1, e1⟩ := turn_most (S := S) (T := T) (purse := purse) (c := c) (total := total) (k := k) (n := n) (have_ := atC purse k - atC c k) (acc := l.map fun n => encB (moreC c k n, formsR total c k (atC purse k - atC c k) n)) (R0 := some (.p (encC purse))) (R3 := some (.p (encS (true, k)))) (R4 := some (.p (.str "most"))) (R5 := some (.p (.str (kindS k)))) (R8 := none) (x11 := y11) (x12 := y12) (by rw [List.length_map]; exact hl)
      rw [hbody] at e1
      exact ⟨_, _, _, rfl, e1, some (.p (.int n)), z11, z12, T1, rfl, by simp⟩)
    (ρ := [some (.p (encC purse)), some (.p (encT total)), some (.p (encC c)), some (.p (encS (true, k))), some (.p (.str "most")), some (.p (.str (kindS k))), some (.p (.int (kN k))), some (.p (.int (atC purse k - atC c k))), none, some (.own S.length), none, none, none]) (S := S ++ [.lst []])
    ⟨none, none, none, [], rfl, rfl⟩
  obtain ⟨ρ', S', e, y10, y11, y12, T, rfl, rfl⟩ := loop
  have hb : -1000000 < atC purse k - atC c k + 1 ∧ atC purse k - atC c k + 1 < 1000000 := by omega
  have es : encS (true, k) = .tuple [.str "most", .str (kindS k)] := rfl
  have hf : branchF purse total c (true, k) = (upFrom 0 (atC purse k - atC c k + 1).toNat).map fun n => (moreC c k n, formsR total c k (atC purse k - atC c k) n) := rfl
  have tr := hS.trim (O.fz (.p (.list ((branchF purse total c (true, k)).map encB))) :: T) (.list ((branchF purse total c (true, k)).map encB)) (by simp)
  rw [hf, List.map_map] at tr ⊢
  rw [es] at e ⊢
  rw [← rngN] at e
  simp [ne, kix_kind, ixCk, hb, e, at_len, set_len, asPs_map, -List.map_map, -kixK_ok]
  exact tr
theorem branches_ok {S : Sto} {purse c : Int × Int} {total : Row} {s : Bool × Bool} (hS : LowS S) (hh : -1 ≤ atC purse s.2 - atC c s.2 ∧ atC purse s.2 - atC c s.2 ≤ 100) : callM 13 m_branches [.p (encC purse), .p (encT total), .p (encC c), .p (encS s)] S = .ok (.p (.list ((branchF purse total c s).map encB))) S := by
  obtain ⟨m, k⟩ := s
  cases m
  · exact branches_one
  · exact branches_most hS hh
/-! ### plain: what a recipe can pay, course by course -/
def FineR (t : Row) : Prop := -8 ≤ t.1 ∧ t.1 ≤ 8 ∧ -8 ≤ t.2.1 ∧ t.2.1 ≤ 8 ∧ -26 ≤ t.2.2 ∧ t.2.2 ≤ 26
theorem FineR.small {t : Row} (h : FineR t) : SmallR t := by
  obtain ⟨h1, h2, h3, h4, _, _⟩ := h
  exact ⟨by omega, by omega, by omega, by omega⟩
theorem FactR.fine {t : Row} (h : FactR t) : FineR t := by
  obtain ⟨h1, h2, h3, h4, h5, h6⟩ := h
  exact ⟨by omega, by omega, by omega, by omega, by omega, by omega⟩
def OkP (p : Int × Int) : Prop := 0 ≤ p.1 ∧ p.1 < 5 ∧ 0 ≤ p.2 ∧ p.2 < 5
def OkT (t : Row) : Prop := (0 ≤ t.1 ∧ t.1 < 5) ∧ (0 ≤ t.2.1 ∧ t.2.1 < 5) ∧ (-12 ≤ t.2.2 ∧ t.2.2 ≤ 12)
def OkC (p c : Int × Int) : Prop := 0 ≤ c.1 ∧ c.1 ≤ p.1 ∧ 0 ≤ c.2 ∧ c.2 ≤ p.2
theorem left_fine {p c : Int × Int} {t : Row} (hP : OkP p) (hT : OkT t) (hc : OkC p c) : FineR (leftR t c) ∧ FineR (aboveR (leftR t c)) ∧ FineR (belowR (leftR t c)) ∧ FineR (aboveR (belowR (leftR t c))) := by
  obtain ⟨p0, p1, p2, p3⟩ := hP
  obtain ⟨⟨t0, t1⟩, ⟨t2, t3⟩, t4, t5⟩ := hT
  obtain ⟨c0, c1, c2, c3⟩ := hc
  refine ⟨⟨?_, ?_, ?_, ?_, ?_, ?_⟩, ⟨?_, ?_, ?_, ?_, ?_, ?_⟩, ⟨?_, ?_, ?_, ?_, ?_, ?_⟩, ⟨?_, ?_, ?_, ?_, ?_, ?_⟩⟩ <;> (simp only [leftR, aboveR, belowR]; omega)
theorem branch_good {p c : Int × Int} {t : Row} {s : Bool × Bool} (hP : OkP p) (hT : OkT t) (hc : OkC p c) : ∀ x ∈ branchF p t c s, OkC p x.1 ∧ (∀ u ∈ x.2, FineR u) ∧ x.2.length ≤ 2 := by
  obtain ⟨m, k⟩ := s
  intro x hx
  unfold branchF at hx
  dsimp only at hx
  cases m
  · rw [if_neg (by decide)] at hx
    have lf := left_fine hP hT hc
    by_cases h0 : atC p k - atC c k = 0
    · rw [if_pos h0] at hx
      obtain rfl := List.mem_singleton.mp hx
      exact ⟨hc, fun u hu => (by cases hu), Nat.zero_le _⟩
    · rw [if_neg h0] at hx
      rcases List.mem_cons.mp hx with rfl | hx
      · refine ⟨?_, fun u hu => ?_, by show 1 ≤ 2; decide⟩
        · obtain ⟨c0, c1, c2, c3⟩ := hc
          cases k
          · simp only [atC, if_neg (show ¬ false = true by decide)] at h0
            exact ⟨by show 0 ≤ c.1 + 1; omega, by show c.1 + 1 ≤ p.1; omega, c2, c3⟩
          · simp only [atC, if_pos] at h0
            exact ⟨c0, c1, by show 0 ≤ c.2 + 1; omega, by show c.2 + 1 ≤ p.2; omega⟩
        · rw [List.mem_singleton.mp hu]
          exact lf.2.1
      · obtain rfl := List.mem_singleton.mp hx
        refine ⟨hc, fun u hu => ?_, by show 1 ≤ 2; decide⟩
        rw [List.mem_singleton.mp hu]
        exact lf.2.2.1
  · rw [if_pos rfl] at hx
    obtain ⟨n, hn, rfl⟩ := List.mem_map.mp hx
    rw [mem_upFrom] at hn
    have ok : ∀ j, 0 ≤ j → j ≤ atC p k - atC c k → OkC p (moreC c k j) := by
      intro j h0 h1
      obtain ⟨c0, c1, c2, c3⟩ := hc
      cases k
      · simp only [atC, if_neg (show ¬ false = true by decide)] at h1
        exact ⟨by show 0 ≤ c.1 + j; omega, by show c.1 + j ≤ p.1; omega, c2, c3⟩
      · simp only [atC, if_pos] at h1
        exact ⟨c0, c1, by show 0 ≤ c.2 + j; omega, by show c.2 + j ≤ p.2; omega⟩
    have mm : ∀ j, moreC (moreC c k j) k 1 = moreC c k (j + 1) := by
      intro j
      cases k <;> simp [moreC, Int.add_assoc]
    refine ⟨ok n (by omega) (by omega), fun u hu => ?_, ?_⟩
    · unfold formsR at hu
      rcases List.mem_append.mp hu with hu | hu
      · split at hu
        · rw [List.mem_singleton.mp hu]
          exact (left_fine hP hT (ok n (by omega) (by omega))).1
        · cases hu
      · split at hu
        · rw [List.mem_singleton.mp hu, mm]
          exact (left_fine hP hT (ok (n + 1) (by omega) (by omega))).2.2.2
        · cases hu
    · show (formsR t c k _ n).length ≤ 2
      unfold formsR
      rw [List.length_append]
      split <;> split <;> simp
theorem branch_len {p c : Int × Int} {t : Row} {s : Bool × Bool} (hP : OkP p) (hc : OkC p c) : (branchF p t c s).length ≤ 5 := by
  obtain ⟨m, k⟩ := s
  obtain ⟨p0, p1, p2, p3⟩ := hP
  obtain ⟨c0, c1, c2, c3⟩ := hc
  unfold branchF
  dsimp only
  split
  · rw [List.length_map, upFrom_len]
    cases k <;> simp only [atC, if_neg (show ¬ false = true by decide), if_pos] <;> omega
  · split <;> simp
abbrev Crs := (Int × Int) × List Row
def kidsF (p : Int × Int) (t : Row) (s : Bool × Bool) (x : Crs) : List Crs := ((branchF p t x.1 s).filter fun y => (leastPt (x.2 ++ y.2)).isSome).map fun y => (y.1, x.2 ++ y.2)
def stepF (p : Int × Int) (t : Row) (s : Bool × Bool) (xs : List Crs) : List Crs := xs.flatMap (kidsF p t s)
def leavesF (rows : List Row) (p : Int × Int) (t : Row) (st : List (Bool × Bool)) : List Crs := st.foldl (fun xs s => stepF p t s xs) [((0, 0), rows)]
def GoodC (p : Int × Int) (n : Nat) (x : Crs) : Prop := OkC p x.1 ∧ (∀ u ∈ x.2, FineR u) ∧ x.2.length ≤ n
theorem kids_good {p : Int × Int} {t : Row} {s : Bool × Bool} {x : Crs} {n : Nat} (hP : OkP p) (hT : OkT t) (hx : GoodC p n x) : ∀ y ∈ kidsF p t s x, GoodC p (n + 2) y := by
  intro y hy
  obtain ⟨z, hz, rfl⟩ := List.mem_map.mp hy
  obtain ⟨g1, g2, g3⟩ := branch_good hP hT hx.1 z (List.mem_filter.mp hz).1
  refine ⟨g1, fun u hu => ?_, ?_⟩
  · rcases List.mem_append.mp hu with hu | hu
    · exact hx.2.1 u hu
    · exact g2 u hu
  · have := hx.2.2
    show (x.2 ++ z.2).length ≤ n + 2
    rw [List.length_append]
    omega
theorem kids_len {p : Int × Int} {t : Row} {s : Bool × Bool} {x : Crs} {n : Nat} (hP : OkP p) (hx : GoodC p n x) : (kidsF p t s x).length ≤ 5 := by
  unfold kidsF
  rw [List.length_map]
  exact Nat.le_trans (List.length_filter_le _ _) (branch_len hP hx.1)
theorem step_len {p : Int × Int} {t : Row} {s : Bool × Bool} {n : Nat} (hP : OkP p) : ∀ xs : List Crs, (∀ x ∈ xs, GoodC p n x) → (stepF p t s xs).length ≤ 5 * xs.length
  | [], _ => Nat.le_refl _
  | x :: xs, h => by
    have ih := step_len (t := t) (s := s) hP xs fun y hy => h y (List.mem_cons_of_mem _ hy)
    have := kids_len (t := t) (s := s) hP (h x List.mem_cons_self)
    unfold stepF at *
    rw [List.flatMap_cons, List.length_append, List.length_cons]
    omega
theorem step_good {p : Int × Int} {t : Row} {s : Bool × Bool} {n : Nat} (hP : OkP p) (hT : OkT t) {xs : List Crs} (h : ∀ x ∈ xs, GoodC p n x) : ∀ y ∈ stepF p t s xs, GoodC p (n + 2) y := by
  intro y hy
  obtain ⟨x, hx, hy⟩ := List.mem_flatMap.mp hy
  exact kids_good hP hT (h x hx) y hy
theorem leaves_good {p : Int × Int} {t : Row} {rows : List Row} (hP : OkP p) (hT : OkT t) (hr : ∀ u ∈ rows, FineR u) : ∀ st : List (Bool × Bool), (∀ y ∈ leavesF rows p t st, GoodC p (rows.length + 2 * st.length) y) ∧ (leavesF rows p t st).length ≤ 5 ^ st.length := by
  intro st
  have go : ∀ (st : List (Bool × Bool)) (xs : List Crs) (n k : Nat), (∀ x ∈ xs, GoodC p n x) → xs.length ≤ k → (∀ y ∈ st.foldl (fun xs s => stepF p t s xs) xs, GoodC p (n + 2 * st.length) y) ∧ (st.foldl (fun xs s => stepF p t s xs) xs).length ≤ k * 5 ^ st.length := by
    intro st
    induction st with
    | nil => exact fun xs n k h hk => ⟨h, by simpa using hk⟩
    | cons s st ih =>
      intro xs n k h hk
      have h1 := step_good (s := s) hP hT h
      have h2 := step_len (t := t) (s := s) hP xs h
      obtain ⟨g1, g2⟩ := ih _ (n + 2) (5 * k) h1 (by omega)
      refine ⟨fun y hy => ?_, ?_⟩
      · have := g1 y hy
        rw [List.length_cons]
        have e : n + 2 * (st.length + 1) = n + 2 + 2 * st.length := by omega
        rw [e]
        exact this
      · rw [List.foldl_cons, List.length_cons, Nat.pow_succ]
        have e : k * (5 ^ st.length * 5) = 5 * k * 5 ^ st.length := by rw [Nat.mul_comm (5 ^ st.length) 5, ← Nat.mul_assoc, Nat.mul_comm k 5]
        rw [e]
        exact g2
  have := go st [((0, 0), rows)] rows.length 1 (fun x hx => by
    rw [List.mem_singleton.mp hx]
    obtain ⟨p0, p1, p2, p3⟩ := hP
    exact ⟨⟨Int.le_refl 0, by show 0 ≤ p.1; omega, Int.le_refl 0, by show 0 ≤ p.2; omega⟩, hr, Nat.le_refl _⟩) (Nat.le_refl 1)
  rw [Nat.one_mul] at this
  exact this
theorem leaf_turn {X : Sto} {acc : List PyData} {c : Int × Int} {own forms : List Row} {R0 R1 R2 R3 R4 R5 R7 : Option D} (ha : acc.length < 1000000) (ho : ∀ u ∈ own, FineR u) (hf : ∀ u ∈ forms, FineR u) (hl : own.length + forms.length < 1000000) :
    (fIfS (fBin gNotN (fCall (callM 1 m_least_point) (fCons (fBin gAdd (fVar 8) (fVar 10)) fNil)) (fCon .none)) (fDrop (fApp (fVar 6) (fTup (fCons (fVar 9) (fCons (fBin gAdd (fVar 8) (fVar 10)) fNil))))) fPass)
      [R0, R1, R2, R3, R4, R5, some (.own X.length), R7, some (.p (.list (own.map encT))), some (.p (encC c)), some (.p (.list (forms.map encT)))] (X ++ [.lst (acc.map D.p)]) =
    .nx [R0, R1, R2, R3, R4, R5, some (.own X.length), R7, some (.p (.list (own.map encT))), some (.p (encC c)), some (.p (.list (forms.map encT)))] (X ++ [.lst ((if (leastPt (own ++ forms)).isSome = true then acc ++ [encB (c, own ++ forms)] else acc).map D.p)]) := by
  have ad : ∀ S, gAdd (.p (.list (own.map encT))) (.p (.list (forms.map encT))) S = .ok (.p (.list ((own ++ forms).map encT))) S := fun S => by
    rw [g_addL (by rw [List.length_map, List.length_map]; exact hl), List.map_append]
  have lp := fun S => least_point_ok (S := S) (rows := own ++ forms) (rd := .list ((own ++ forms).map encT)) (fun u hu => (List.mem_append.mp hu).elim (fun h => (ho u h).small) fun h => (hf u h).small) (.inr rfl)
  have g1 : ∀ y, (X ++ [y])[X.length]? = some y := fun y => by simp
  have s1 : ∀ y z, (X ++ [y]).set X.length z = X ++ [z] := fun y z => by simp
  cases h : leastPt (own ++ forms) with
  | none =>
    have nn : ∀ S, gNotN (.p (encP none)) (.p .none) S = .ok (.p (.bool false)) S := fun _ => rfl
    rw [h] at lp
    simp [ad, lp, nn, -List.map_append]
  | some w =>
    have nn : ∀ S, gNotN (.p (encP (some w))) (.p .none) S = .ok (.p (.bool true)) S := fun _ => rfl
    rw [h] at lp
    simp [ad, lp, nn, g1, s1, ha, encB, -List.map_append]
    simp
theorem leaves_ok {S : Sto} {rows : List Row} {p : Int × Int} {t : Row} {st : List (Bool × Bool)} {rd : PyData} (hS : LowS S) (hP : OkP p) (hT : OkT t) (hr : ∀ u ∈ rows, FineR u) (hl : rows.length ≤ 1000) (hst : st.length ≤ 4) (hd : rd = .tuple (rows.map encT) ∨ rd = .list (rows.map encT)) :
    callM 11 m_leaves [.p rd, .p (encC p), .p (encT t), .p (.tuple (st.map encS))] S = .ok (.p (.list ((leavesF rows p t st).map encB))) S := by
  rw [callM_ap 11 _ _ _ (by show 4 ≤ 11; decide)]
  unfold m_leaves
  generalize hbody : (fIfS (fBin gNotN _ _) _ _) = body
  have inner : ∀ (T : Sto) (s : Bool × Bool) (x : Crs) (acc : List PyData) (R0 R3 R4 y9 y10 : Option D), (∀ o ∈ T, ∀ n, O.low n o = true) → GoodC p (rows.length + 8) x → acc.length + 10 < 1000000 → ∃ z9 z10,
      (fFor (fItS (fCall (callM 13 m_branches) (fCons (fVar 1) (fCons (fVar 2) (fCons (fVar 7) (fCons (fVar 5) fNil)))))) (gTp 2 (gsCons (gNm 9) (gsCons (gNm 10) gsNil))) body)
        [R0, some (.p (encC p)), some (.p (encT t)), R3, R4, some (.p (encS s)), some (.own (S ++ T).length), some (.p (encC x.1)), some (.p (.list (x.2.map encT))), y9, y10] ((S ++ T) ++ [.lst (acc.map D.p)]) =
      .nx [R0, some (.p (encC p)), some (.p (encT t)), R3, R4, some (.p (encS s)), some (.own (S ++ T).length), some (.p (encC x.1)), some (.p (.list (x.2.map encT))), z9, z10] ((S ++ T) ++ [.lst ((acc ++ (kidsF p t s x).map encB).map D.p)]) := by
    intro T s x acc R0 R3 R4 y9 y10 hT2 hx ha
    have low : LowS ((S ++ T) ++ [.lst (acc.map D.p)]) := (hS.app hT2).app fun o ho n => by
      rw [List.mem_singleton.mp ho]
      exact low_lst acc n
    have hh : -1 ≤ atC p s.2 - atC x.1 s.2 ∧ atC p s.2 - atC x.1 s.2 ≤ 100 := by
      obtain ⟨⟨c0, c1, c2, c3⟩, _⟩ := hx
      obtain ⟨p0, p1, p2, p3⟩ := hP
      unfold atC
      split <;> omega
    have br := branches_ok (total := t) low hh
    have loop := forL_pre (gg := gTp 2 (gsCons (gNm 9) (gsCons (gNm 10) gsNil))) (body := body) (enc := fun y : Crs => D.p (encB y)) (xs := branchF p t x.1 s)
      (P := fun l ρ St => ∃ z9 z10, ρ = [R0, some (.p (encC p)), some (.p (encT t)), R3, R4, some (.p (encS s)), some (.own (S ++ T).length), some (.p (encC x.1)), some (.p (.list (x.2.map encT))), z9, z10] ∧
        St = (S ++ T) ++ [.lst ((acc ++ ((l.filter fun y => (leastPt (x.2 ++ y.2)).isSome).map fun y => (y.1, x.2 ++ y.2)).map encB).map D.p)])
      (fun l y r hy ρ St h => by
        obtain ⟨z9, z10, rfl, rfl⟩ := h
        have hmem : y ∈ branchF p t x.1 s := by rw [hy]; exact List.mem_append_right _ List.mem_cons_self
        obtain ⟨b1, b2, b3⟩ := branch_good hP hT hx.1 y hmem
        have hlen : l.length ≤ 5 := by
          have h1 := branch_len (t := t) (s := s) hP hx.1
          rw [hy, List.length_append, List.length_cons] at h1
          omega
        have hfl := List.length_filter_le (fun y : Crs => (leastPt (x.2 ++ y.2)).isSome) l
        have tn := leaf_turn (X := S ++ T) (acc := acc ++ ((l.filter fun y => (leastPt (x.2 ++ y.2)).isSome).map fun y => (y.1, x.2 ++ y.2)).map encB) (c := y.1) (own := x.2) (forms := y.2) (R0 := R0) (R1 := some (.p (encC p))) (R2 := some (.p (encT t))) (R3 := R3) (R4 := R4) (R5 := some (.p (encS s))) (R7 := some (.p (encC x.1)))
          (by rw [List.length_append, List.length_map, List.length_map]; omega) hx.2.1 b2 (by have := hx.2.2; omega)
        rw [hbody] at tn
        refine ⟨_, _, _, rfl, tn, some (.p (encC y.1)), some (.p (.list (y.2.map encT))), rfl, ?_⟩
        by_cases hs : (leastPt (x.2 ++ y.2)).isSome = true
        · simp [hs, List.filter_append, List.filter_cons]
        · simp [hs, List.filter_append, List.filter_cons])
      (ρ := [R0, some (.p (encC p)), some (.p (encT t)), R3, R4, some (.p (encS s)), some (.own (S ++ T).length), some (.p (encC x.1)), some (.p (.list (x.2.map encT))), y9, y10]) (S := (S ++ T) ++ [.lst (acc.map D.p)])
      ⟨y9, y10, rfl, by simp⟩
    obtain ⟨ρ', S', e, z9, z10, rfl, rfl⟩ := loop
    refine ⟨z9, z10, ?_⟩
    have e2 : ((branchF p t x.1 s).map encB).map D.p = (branchF p t x.1 s).map fun y => D.p (encB y) := by rw [List.map_map]; rfl
    rw [ap_for, ap_itS, ap_call, ap_cons]
    simp only [ap_var, ap_cons, ap_nil, consK_ok, cons2K_ok, callK_ok, List.getElem?_cons_succ, List.getElem?_cons_zero]
    rw [br, itSK_ok]
    dsimp only
    rw [forK_ok, e2, e]
    rfl
  have mid : ∀ (T : Sto) (s : Bool × Bool) (xs : List Crs) (R0 R3 y6 y7 y8 y9 y10 : Option D), (∀ o ∈ T, ∀ n, O.low n o = true) → (∀ x ∈ xs, GoodC p (rows.length + 8) x) → xs.length ≤ 125 → ∃ z6 z7 z8 z9 z10 o, (∀ n, O.low n o = true) ∧
      (fSeq (fSet 6 (fLstO fNil)) (fSeq (fFor (fItS (fVar 4)) (gTp 2 (gsCons (gNm 7) (gsCons (gNm 8) gsNil)))
        (fFor (fItS (fCall (callM 13 m_branches) (fCons (fVar 1) (fCons (fVar 2) (fCons (fVar 7) (fCons (fVar 5) fNil)))))) (gTp 2 (gsCons (gNm 9) (gsCons (gNm 10) gsNil))) body)) (fSet 4 (fFrz (fVar 6)))))
        [R0, some (.p (encC p)), some (.p (encT t)), R3, some (.p (.list (xs.map encB))), some (.p (encS s)), y6, y7, y8, y9, y10] (S ++ T) =
      .nx [R0, some (.p (encC p)), some (.p (encT t)), R3, some (.p (.list ((stepF p t s xs).map encB))), some (.p (encS s)), z6, z7, z8, z9, z10] (S ++ (T ++ [o])) := by
    intro T s xs R0 R3 y6 y7 y8 y9 y10 hT2 hx hlen
    have loop := forL_pre (gg := gTp 2 (gsCons (gNm 7) (gsCons (gNm 8) gsNil))) (body := fFor (fItS (fCall (callM 13 m_branches) (fCons (fVar 1) (fCons (fVar 2) (fCons (fVar 7) (fCons (fVar 5) fNil)))))) (gTp 2 (gsCons (gNm 9) (gsCons (gNm 10) gsNil))) body) (enc := fun y : Crs => D.p (encB y)) (xs := xs)
      (P := fun l ρ St => ∃ z7 z8 z9 z10, ρ = [R0, some (.p (encC p)), some (.p (encT t)), R3, some (.p (.list (xs.map encB))), some (.p (encS s)), some (.own (S ++ T).length), z7, z8, z9, z10] ∧
        St = (S ++ T) ++ [.lst (((stepF p t s l).map encB).map D.p)])
      (fun l x r hy ρ St h => by
        obtain ⟨z7, z8, z9, z10, rfl, rfl⟩ := h
        have hmem : x ∈ xs := by rw [hy]; exact List.mem_append_right _ List.mem_cons_self
        have hl2 : (stepF p t s l).length ≤ 5 * l.length := step_len hP l fun z hz => hx z (by rw [hy]; exact List.mem_append_left _ hz)
        have hl3 : l.length ≤ 125 := by
          have h1 := hlen
          rw [hy, List.length_append] at h1
          omega
        obtain ⟨u9, u10, e⟩ := inner T s x ((stepF p t s l).map encB) R0 R3 (some (.p (.list (xs.map encB)))) z9 z10 hT2 (hx x hmem) (by rw [List.length_map]; omega)
        refine ⟨_, _, _, rfl, e, some (.p (encC x.1)), some (.p (.list (x.2.map encT))), u9, u10, rfl, ?_⟩
        rw [← List.map_append]
        unfold stepF
        rw [List.flatMap_append, List.flatMap_cons, List.flatMap_nil, List.append_nil])
      (ρ := [R0, some (.p (encC p)), some (.p (encT t)), R3, some (.p (.list (xs.map encB))), some (.p (encS s)), some (.own (S ++ T).length), y7, y8, y9, y10]) (S := (S ++ T) ++ [.lst []])
      ⟨y7, y8, y9, y10, rfl, rfl⟩
    obtain ⟨ρ', S', e, z7, z8, z9, z10, rfl, rfl⟩ := loop
    refine ⟨some (.own (S ++ T).length), z7, z8, z9, z10, O.fz (.p (.list ((stepF p t s xs).map encB))), low_fz _, ?_⟩
    have e2 : (xs.map encB).map D.p = xs.map fun y => D.p (encB y) := by rw [List.map_map]; rfl
    have g1 : ∀ y, ((S ++ T) ++ [y])[(S ++ T).length]? = some y := fun y => by simp
    have s1 : ∀ y z, ((S ++ T) ++ [y]).set (S ++ T).length z = (S ++ T) ++ [z] := fun y z => by simp
    rw [← e2] at e
    rw [← List.append_assoc]
    generalize S ++ T = X at *
    rw [ap_seq, ap_set, ap_lstO, ap_nil, lstOK_ok, if_pos (by decide), setK_ok, seq_nx, ap_seq, ap_for, ap_itS]
    simp only [ap_var, List.set_cons_succ, List.set_cons_zero, List.getElem?_cons_succ, List.getElem?_cons_zero]
    rw [itSK_ok]
    dsimp only
    rw [forK_ok, e, seq_nx, ap_set, ap_frz]
    simp only [ap_var, List.getElem?_cons_succ, List.getElem?_cons_zero]
    rw [frzK_ok, g1]
    dsimp only
    rw [asPs_map]
    dsimp only
    rw [s1]
    rfl
  have loop := forL_pre (gg := gNm 5) (body := (fSeq (fSet 6 (fLstO fNil)) (fSeq (fFor (fItS (fVar 4)) (gTp 2 (gsCons (gNm 7) (gsCons (gNm 8) gsNil)))
        (fFor (fItS (fCall (callM 13 m_branches) (fCons (fVar 1) (fCons (fVar 2) (fCons (fVar 7) (fCons (fVar 5) fNil)))))) (gTp 2 (gsCons (gNm 9) (gsCons (gNm 10) gsNil))) body)) (fSet 4 (fFrz (fVar 6)))))) (enc := fun s : Bool × Bool => D.p (encS s)) (xs := st)
      (P := fun l ρ St => ∃ z5 z6 z7 z8 z9 z10 T, (∀ o ∈ T, ∀ n, O.low n o = true) ∧ T.length = l.length ∧ ρ = [some (.p rd), some (.p (encC p)), some (.p (encT t)), some (.p (.tuple (st.map encS))), some (.p (.list ((leavesF rows p t l).map encB))), z5, z6, z7, z8, z9, z10] ∧ St = S ++ T)
      (fun l s r hy ρ St h => by
        obtain ⟨z5, z6, z7, z8, z9, z10, T, hT2, hTl, rfl, rfl⟩ := h
        have hl3 : l.length ≤ 3 := by
          have h1 := hst
          rw [hy, List.length_append, List.length_cons] at h1
          omega
        obtain ⟨g1, g2⟩ := leaves_good hP hT hr l
        have g3 : 5 ^ l.length ≤ 125 := Nat.pow_le_pow_right (n := 5) (by decide) hl3
        obtain ⟨u6, u7, u8, u9, u10, o, ho, e⟩ := mid T s (leavesF rows p t l) (some (.p rd)) (some (.p (.tuple (st.map encS)))) z6 z7 z8 z9 z10 hT2 (fun x hx => by
          obtain ⟨k1, k2, k3⟩ := g1 x hx
          exact ⟨k1, k2, by omega⟩) (by omega)
        refine ⟨_, _, _, rfl, e, some (.p (encS s)), u6, u7, u8, u9, u10, T ++ [o], fun q hq => ?_, by simp [hTl], ?_, rfl⟩
        · rcases List.mem_append.mp hq with hq | hq
          · exact hT2 q hq
          · rw [List.mem_singleton.mp hq]
            exact ho
        · unfold leavesF
          rw [List.foldl_append]
          rfl)
      (ρ := [some (.p rd), some (.p (encC p)), some (.p (encT t)), some (.p (.tuple (st.map encS))), some (.p (.list ([(((0, 0), rows) : Crs)].map encB))), none, none, none, none, none, none]) (S := S)
      ⟨none, none, none, none, none, none, [], fun o ho => (by cases ho), rfl, rfl, by simp⟩
  obtain ⟨ρ', S', e, z5, z6, z7, z8, z9, z10, T, hT2, hTl, rfl, rfl⟩ := loop
  have tr : trim S (.p (.list ((leavesF rows p t st).map encB))) (S ++ T) = .ok (.p (.list ((leavesF rows p t st).map encB))) S := by
    by_cases h : T = []
    · subst h
      rw [List.append_nil]
      exact trim_id
    · exact hS.trim T _ h
  have e2 : (st.map encS).map D.p = st.map fun y => D.p (encS y) := by rw [List.map_map]; rfl
  rw [← e2] at e
  have hd2 : ∀ S, gList [.p rd] S = .ok (.p (.list (rows.map encT))) S := fun S => by rcases hd with rfl | rfl <;> rfl
  have hs0 : [PyData.tuple [.tuple [.int 0, .int 0], .list (rows.map encT)]] = ([(((0, 0), rows) : Crs)].map encB) := rfl
  simp only [List.map_cons, List.map_nil] at hs0
  simp only [List.map_cons, List.map_nil] at e
  have hl2 : (1 : Nat) < 1000000 := by decide
  simp [hd2, hs0, -List.map_map]
  rw [e]
  simp [tr, -List.map_map]
/-! ### plain: what the courses of a recipe mean -/
def val (t : Row) (a b : Int) : Int := t.1 * a + t.2.1 * b + t.2.2
theorem many_in {m : Bool} {v l w : Int} (hv : 0 ≤ v) (hw : 0 < w) : 0 ≤ manyS m v l w ∧ manyS m v l w ≤ v := by
  have h3 : 0 ≤ (if 0 > l then 0 else l) / w := Int.ediv_nonneg (by split <;> omega) (by omega)
  unfold manyS
  generalize (if 0 > l then 0 else l) / w = z at h3 ⊢
  cases m
  · rw [if_neg (by decide)]
    split <;> split <;> omega
  · rw [if_pos rfl]
    split <;> omega
theorem many_most {v l w n : Int} (hv : 0 ≤ v) (hw : 0 < w) : n = manyS true v l w ↔ (0 ≤ n ∧ n ≤ v ∧ (0 < n → n * w ≤ l) ∧ (n < v → l < (n + 1) * w)) := by
  unfold manyS
  rw [if_pos rfl]
  obtain ⟨L, hL⟩ : ∃ L, L = (if 0 > l then 0 else l) := ⟨_, rfl⟩
  rw [← hL]
  have h0 : 0 ≤ L := by rw [hL]; split <;> omega
  have hLl : 0 < L → L = l := by rw [hL]; split <;> omega
  have hlL : l ≤ L := by rw [hL]; split <;> omega
  have k1 : ∀ j : Int, j ≤ L / w ↔ j * w ≤ L := fun j => Int.le_ediv_iff_mul_le hw
  have k0 : 0 ≤ L / w := Int.ediv_nonneg h0 (by omega)
  generalize L / w = z at k1 k0
  constructor
  · intro h
    have hn : n ≤ z ∧ (n < v → n = z) ∧ 0 ≤ n ∧ n ≤ v := by
      rw [h]
      split <;> omega
    obtain ⟨n1, n2, n3, n4⟩ := hn
    refine ⟨n3, n4, fun hp => ?_, fun hlt => ?_⟩
    · have := (k1 n).mp n1
      have hw2 : 0 < n * w := Int.mul_pos hp hw
      have := hLl (by omega)
      omega
    · have h2 := n2 hlt
      have h3 : ¬ (n + 1) * w ≤ L := fun hc => by
        have := (k1 (n + 1)).mpr hc
        omega
      omega
  · rintro ⟨n3, n4, n5, n6⟩
    have n1 : n ≤ z := by
      by_cases hp : 0 < n
      · exact (k1 n).mpr (by have := n5 hp; omega)
      · omega
    by_cases hlt : n < v
    · have h2 := n6 hlt
      have hz : ¬ (n + 1) ≤ z := fun hc => by
        have h3 := (k1 (n + 1)).mp hc
        have h4 : 0 < (n + 1) * w := Int.mul_pos (by omega) hw
        have := hLl (by omega)
        omega
      split <;> omega
    · split <;> omega
theorem many_one {v l w n : Int} (hv : 0 ≤ v) : n = manyS false v l w ↔ (n = 1 ∧ 0 < v ∧ 0 < l) ∨ (n = 0 ∧ (v = 0 ∨ l ≤ 0)) := by
  unfold manyS
  rw [if_neg (by decide)]
  split <;> split <;> omega
def nextC (a b : Int) (p : Int × Int) (t : Row) (s : Bool × Bool) (c : Int × Int) : Int × Int := moreC c s.2 (manyS s.1 (atC p s.2 - atC c s.2) (val (leftR t c) a b) (atC (a, b) s.2))
theorem val_more {a b n : Int} {t : Row} {c : Int × Int} {k : Bool} : val (leftR t (moreC c k n)) a b = val (leftR t c) a b - n * atC (a, b) k := by
  cases k <;> simp [val, leftR, moreC, atC, Int.sub_mul, Int.add_mul] <;> omega
theorem val_above {a b : Int} {t : Row} : val (aboveR t) a b = val t a b - 1 := by
  simp only [val, aboveR]
  omega
theorem val_below {a b : Int} {t : Row} : val (belowR t) a b = - val t a b := by
  simp only [val, belowR, Int.neg_mul]
  omega
theorem more_more {c : Int × Int} {k : Bool} {n j : Int} : moreC (moreC c k n) k j = moreC c k (n + j) := by
  cases k <;> simp [moreC, Int.add_assoc]
theorem more_0 {c : Int × Int} {k : Bool} : moreC c k 0 = c := by
  cases k <;> simp [moreC]
theorem keeps_val {a b : Int} {t : Row} : keepsR a b t ↔ 0 ≤ val t a b := Iff.rfl
theorem atC_pos {a b : Int} (ha : 1 ≤ a) (hb : 1 ≤ b) (k : Bool) : 0 < atC (a, b) k := by
  cases k
  · show 0 < a
    omega
  · show 0 < b
    omega
theorem okC_at {p c : Int × Int} (h : OkC p c) (k : Bool) : 0 ≤ atC p k - atC c k := by
  obtain ⟨c0, c1, c2, c3⟩ := h
  cases k <;> simp only [atC, if_neg (show ¬ false = true by decide), if_pos] <;> omega
theorem forms_keep {a b n h : Int} {t : Row} {c : Int × Int} {k : Bool} : (∀ u ∈ formsR t c k h n, keepsR a b u) ↔ ((0 < n → n * atC (a, b) k ≤ val (leftR t c) a b) ∧ (n < h → val (leftR t c) a b < (n + 1) * atC (a, b) k)) := by
  unfold formsR
  constructor
  · intro hk
    constructor
    · intro hn
      have := hk _ (List.mem_append_left _ (by rw [if_pos hn]; exact List.mem_cons_self))
      rw [keeps_val, val_more] at this
      omega
    · intro hn
      have := hk _ (List.mem_append_right _ (by rw [if_pos hn]; exact List.mem_cons_self))
      rw [keeps_val, val_above, val_below, more_more, val_more] at this
      omega
  · rintro ⟨h1, h2⟩ u hu
    rcases List.mem_append.mp hu with hu | hu
    · split at hu
      · rename_i hn
        rw [List.mem_singleton.mp hu, keeps_val, val_more]
        have := h1 hn
        omega
      · cases hu
    · split at hu
      · rename_i hn
        rw [List.mem_singleton.mp hu, keeps_val, val_above, val_below, more_more, val_more]
        have := h2 hn
        omega
      · cases hu
theorem branch_mem {a b : Int} {p c : Int × Int} {t : Row} {s : Bool × Bool} (ha : 1 ≤ a) (hb : 1 ≤ b) (hc : OkC p c) {x : Crs} (hx : x ∈ branchF p t c s) (hk : ∀ u ∈ x.2, keepsR a b u) : x.1 = nextC a b p t s c := by
  obtain ⟨m, k⟩ := s
  have h0 := okC_at hc k
  have hw := atC_pos ha hb k
  unfold nextC
  unfold branchF at hx
  dsimp only at hx ⊢
  cases m
  · rw [if_neg (by decide)] at hx
    by_cases hz : atC p k - atC c k = 0
    · rw [if_pos hz] at hx
      obtain rfl := List.mem_singleton.mp hx
      have : 0 = manyS false (atC p k - atC c k) (val (leftR t c) a b) (atC (a, b) k) := (many_one h0).mpr (.inr ⟨rfl, .inl hz⟩)
      rw [← this, more_0]
    · rw [if_neg hz] at hx
      rcases List.mem_cons.mp hx with rfl | hx
      · have h1 := hk _ List.mem_cons_self
        rw [keeps_val, val_above] at h1
        have : 1 = manyS false (atC p k - atC c k) (val (leftR t c) a b) (atC (a, b) k) := (many_one h0).mpr (.inl ⟨rfl, by omega, by omega⟩)
        rw [← this]
      · obtain rfl := List.mem_singleton.mp hx
        have h1 := hk _ List.mem_cons_self
        rw [keeps_val, val_below] at h1
        have : 0 = manyS false (atC p k - atC c k) (val (leftR t c) a b) (atC (a, b) k) := (many_one h0).mpr (.inr ⟨rfl, .inr (by omega)⟩)
        rw [← this, more_0]
  · rw [if_pos rfl] at hx
    obtain ⟨n, hn, rfl⟩ := List.mem_map.mp hx
    rw [mem_upFrom] at hn
    have h1 := forms_keep.mp hk
    have : n = manyS true (atC p k - atC c k) (val (leftR t c) a b) (atC (a, b) k) := (many_most h0 hw).mpr ⟨by omega, by omega, h1.1, h1.2⟩
    rw [← this]
theorem branch_ex {a b : Int} {p c : Int × Int} {t : Row} {s : Bool × Bool} (ha : 1 ≤ a) (hb : 1 ≤ b) (hc : OkC p c) : ∃ x ∈ branchF p t c s, (∀ u ∈ x.2, keepsR a b u) ∧ x.1 = nextC a b p t s c := by
  obtain ⟨m, k⟩ := s
  have h0 := okC_at hc k
  have hw := atC_pos ha hb k
  unfold nextC branchF
  dsimp only
  cases m
  · rw [if_neg (by decide)]
    rcases (many_one (n := manyS false (atC p k - atC c k) (val (leftR t c) a b) (atC (a, b) k)) h0).mp rfl with ⟨h1, h2, h3⟩ | ⟨h1, h2⟩
    · rw [h1, if_neg (by omega)]
      refine ⟨_, List.mem_cons_self, fun u hu => ?_, rfl⟩
      rw [List.mem_singleton.mp hu, keeps_val, val_above]
      omega
    · rw [h1, more_0]
      by_cases hz : atC p k - atC c k = 0
      · rw [if_pos hz]
        exact ⟨_, List.mem_cons_self, fun u hu => (by cases hu), rfl⟩
      · rw [if_neg hz]
        refine ⟨_, List.mem_cons_of_mem _ List.mem_cons_self, fun u hu => ?_, rfl⟩
        rw [List.mem_singleton.mp hu, keeps_val, val_below]
        omega
  · rw [if_pos rfl]
    obtain ⟨h1, h2, h3, h4⟩ := (many_most (n := manyS true (atC p k - atC c k) (val (leftR t c) a b) (atC (a, b) k)) h0 hw).mp rfl
    exact ⟨_, List.mem_map.mpr ⟨_, mem_upFrom.mpr (by omega), rfl⟩, forms_keep.mpr ⟨h3, h4⟩, rfl⟩
theorem next_okC {a b : Int} {p c : Int × Int} {t : Row} {s : Bool × Bool} (ha : 1 ≤ a) (hb : 1 ≤ b) (hc : OkC p c) : OkC p (nextC a b p t s c) := by
  obtain ⟨m, k⟩ := s
  have h0 := okC_at hc k
  have hw := atC_pos ha hb k
  have h1 := many_in (m := m) (l := val (leftR t c) a b) h0 hw
  unfold nextC
  dsimp only
  generalize manyS m (atC p k - atC c k) (val (leftR t c) a b) (atC (a, b) k) = n at h1
  obtain ⟨c0, c1, c2, c3⟩ := hc
  cases k
  · simp only [atC, if_neg (show ¬ false = true by decide)] at h1
    exact ⟨by show 0 ≤ c.1 + n; omega, by show c.1 + n ≤ p.1; omega, c2, c3⟩
  · simp only [atC, if_pos] at h1
    exact ⟨c0, c1, by show 0 ≤ c.2 + n; omega, by show c.2 + n ≤ p.2; omega⟩
def runC (a b : Int) (p : Int × Int) (t : Row) (st : List (Bool × Bool)) (c : Int × Int) : Int × Int := st.foldl (fun c s => nextC a b p t s c) c
theorem pay_run {a b : Int} {p : Int × Int} {t : Row} : ∀ (st : List (Bool × Bool)) (c : Int × Int), payAll a b p.1 p.2 st (c.1, c.2, val (leftR t c) a b) = ((runC a b p t st c).1, (runC a b p t st c).2, val (leftR t (runC a b p t st c)) a b)
  | [], c => rfl
  | s :: st, c => by
    have ih := pay_run (a := a) (b := b) (p := p) (t := t) st (nextC a b p t s c)
    have e : payStep a b p.1 p.2 s (c.1, c.2, val (leftR t c) a b) = ((nextC a b p t s c).1, (nextC a b p t s c).2, val (leftR t (nextC a b p t s c)) a b) := by
      obtain ⟨m, k⟩ := s
      unfold nextC
      rw [val_more]
      cases k <;> rfl
    rw [payAll, e, ih]
    rfl
/-- the coins that are paid with the worths a, b -/
def paidC (a b : Int) (p : Int × Int) (t : Row) (st : List (Bool × Bool)) : Int × Int := runC a b p t st (0, 0)
theorem pay_paid {a b : Int} {p : Int × Int} {t : Row} {st : List (Bool × Bool)} : payAll a b p.1 p.2 st (0, 0, t.1 * a + t.2.1 * b + t.2.2) = ((paidC a b p t st).1, (paidC a b p t st).2, val (leftR t (paidC a b p t st)) a b) := by
  have := pay_run (a := a) (b := b) (p := p) (t := t) st (0, 0)
  have e : val (leftR t (0, 0)) a b = t.1 * a + t.2.1 * b + t.2.2 := by simp [val, leftR]
  rw [e] at this
  exact this
theorem keeps_app {xs ys : List Row} {a b : Int} : Keeps (xs ++ ys) a b ↔ Keeps xs a b ∧ ∀ u ∈ ys, keepsR a b u := by
  constructor
  · rintro ⟨h1, h2⟩
    exact ⟨⟨h1, fun u hu => h2 u (List.mem_append_left _ hu)⟩, fun u hu => h2 u (List.mem_append_right _ hu)⟩
  · rintro ⟨⟨h1, h2⟩, h3⟩
    exact ⟨h1, fun u hu => (List.mem_append.mp hu).elim (h2 u) (h3 u)⟩
theorem kids_mem {a b : Int} {p : Int × Int} {t : Row} {s : Bool × Bool} {x y : Crs} (ha : 1 ≤ a) (hc : OkC p x.1) (hy : y ∈ kidsF p t s x) (hk : Keeps y.2 a b) : Keeps x.2 a b ∧ y.1 = nextC a b p t s x.1 := by
  obtain ⟨z, hz, rfl⟩ := List.mem_map.mp hy
  obtain ⟨h1, h2⟩ := keeps_app.mp hk
  exact ⟨h1, branch_mem (x := z) ha h1.1 hc (List.mem_filter.mp hz).1 h2⟩
theorem kids_ex {a b : Int} {p : Int × Int} {t : Row} {s : Bool × Bool} {x : Crs} (ha : 1 ≤ a) (ha2 : a < 800) (hc : OkC p x.1) (hk : Keeps x.2 a b) : ∃ y ∈ kidsF p t s x, Keeps y.2 a b ∧ y.1 = nextC a b p t s x.1 := by
  obtain ⟨z, hz, h1, h2⟩ := branch_ex (s := s) (t := t) ha hk.1 hc
  have h3 : Keeps (x.2 ++ z.2) a b := keeps_app.mpr ⟨hk, h1⟩
  refine ⟨(z.1, x.2 ++ z.2), List.mem_map.mpr ⟨z, List.mem_filter.mpr ⟨hz, ?_⟩, rfl⟩, h3, h2⟩
  cases h : leastPt (x.2 ++ z.2) with
  | none => exact absurd h3 (leastPt_none h ha ha2)
  | some w => rfl
theorem run_mem {a b : Int} {p : Int × Int} {t : Row} (hP : OkP p) (hT : OkT t) (ha : 1 ≤ a) : ∀ (st : List (Bool × Bool)) (xs : List Crs) (n : Nat) (y : Crs), (∀ x ∈ xs, GoodC p n x) → y ∈ st.foldl (fun xs s => stepF p t s xs) xs → Keeps y.2 a b → ∃ x ∈ xs, Keeps x.2 a b ∧ y.1 = runC a b p t st x.1
  | [], xs, n, y, _, hy, hk => ⟨y, hy, hk, rfl⟩
  | s :: st, xs, n, y, h, hy, hk => by
    obtain ⟨z, hz, hz2, e⟩ := run_mem hP hT ha st (stepF p t s xs) (n + 2) y (step_good hP hT h) hy hk
    obtain ⟨x, hx, hz⟩ := List.mem_flatMap.mp hz
    obtain ⟨h1, h2⟩ := kids_mem ha (h x hx).1 hz hz2
    refine ⟨x, hx, h1, ?_⟩
    rw [e, h2]
    rfl
theorem run_ex {a b : Int} {p : Int × Int} {t : Row} (hP : OkP p) (hT : OkT t) (ha : 1 ≤ a) (ha2 : a < 800) : ∀ (st : List (Bool × Bool)) (xs : List Crs) (n : Nat) (x : Crs), (∀ x ∈ xs, GoodC p n x) → x ∈ xs → Keeps x.2 a b → ∃ y ∈ st.foldl (fun xs s => stepF p t s xs) xs, Keeps y.2 a b ∧ y.1 = runC a b p t st x.1
  | [], xs, n, x, _, hx, hk => ⟨x, hx, hk, rfl⟩
  | s :: st, xs, n, x, h, hx, hk => by
    obtain ⟨z, hz, hz2, e⟩ := kids_ex (s := s) (t := t) ha ha2 (h x hx).1 hk
    obtain ⟨y, hy, hy2, e2⟩ := run_ex hP hT ha ha2 st (stepF p t s xs) (n + 2) z (step_good hP hT h) (List.mem_flatMap.mpr ⟨x, hx, hz⟩) hz2
    refine ⟨y, hy, hy2, ?_⟩
    rw [e2, e]
    rfl
theorem start_good {p : Int × Int} {rows : List Row} (hP : OkP p) (hr : ∀ u ∈ rows, FineR u) : ∀ x ∈ [(((0, 0), rows) : Crs)], GoodC p rows.length x := fun x hx => by
  rw [List.mem_singleton.mp hx]
  obtain ⟨p0, p1, p2, p3⟩ := hP
  exact ⟨⟨Int.le_refl 0, by show 0 ≤ p.1; omega, Int.le_refl 0, by show 0 ≤ p.2; omega⟩, hr, Nat.le_refl _⟩
theorem leaves_mem {a b : Int} {p : Int × Int} {t : Row} {rows : List Row} {st : List (Bool × Bool)} {y : Crs} (hP : OkP p) (hT : OkT t) (hr : ∀ u ∈ rows, FineR u) (ha : 1 ≤ a) (hy : y ∈ leavesF rows p t st) (hk : Keeps y.2 a b) : Keeps rows a b ∧ y.1 = paidC a b p t st := by
  obtain ⟨x, hx, h1, h2⟩ := run_mem hP hT ha st _ rows.length y (start_good hP hr) hy hk
  rw [List.mem_singleton.mp hx] at h1 h2
  exact ⟨h1, h2⟩
theorem leaves_ex {a b : Int} {p : Int × Int} {t : Row} {rows : List Row} {st : List (Bool × Bool)} (hP : OkP p) (hT : OkT t) (hr : ∀ u ∈ rows, FineR u) (ha : 1 ≤ a) (ha2 : a < 800) (hk : Keeps rows a b) : ∃ y ∈ leavesF rows p t st, Keeps y.2 a b ∧ y.1 = paidC a b p t st :=
  run_ex hP hT ha ha2 st _ rows.length ((0, 0), rows) (start_good hP hr) List.mem_cons_self hk
theorem run_okC {a b : Int} {p : Int × Int} {t : Row} (ha : 1 ≤ a) (hb : 1 ≤ b) : ∀ (st : List (Bool × Bool)) (c : Int × Int), OkC p c → OkC p (runC a b p t st c)
  | [], c, h => h
  | s :: st, c, h => run_okC ha hb st _ (next_okC (s := s) (t := t) ha hb h)
theorem paid_okC {a b : Int} {p : Int × Int} {t : Row} {st : List (Bool × Bool)} (hP : OkP p) (ha : 1 ≤ a) (hb : 1 ≤ b) : OkC p (paidC a b p t st) := by
  obtain ⟨p0, p1, p2, p3⟩ := hP
  exact run_okC ha hb st (0, 0) ⟨Int.le_refl 0, by show 0 ≤ p.1; omega, Int.le_refl 0, by show 0 ≤ p.2; omega⟩
/-! ### plain: least worths -/
def IsLeast (N : Int) (P : Int → Int → Prop) (o : Option (Int × Int)) : Prop :=
  (∀ a b, o = some (a, b) → (1 ≤ a ∧ a < N) ∧ (1 ≤ b ∧ b ≤ 8 * a + 39) ∧ P a b) ∧ ∀ a b, 1 ≤ a → a < N → P a b → ∃ x y, o = some (x, y) ∧ (x < a ∨ (x = a ∧ y ≤ b))
theorem IsLeast.congr {N : Int} {P P' : Int → Int → Prop} {o : Option (Int × Int)} (h : IsLeast N P o) (h1 : ∀ a b, 1 ≤ a → 1 ≤ b → P a b → P' a b) (h2 : ∀ a b, 1 ≤ a → a < N → P' a b → P a b) : IsLeast N P' o :=
  ⟨fun a b e => by
    obtain ⟨k1, k2, k4⟩ := h.1 a b e
    exact ⟨k1, k2, h1 a b k1.1 k2.1 k4⟩, fun a b ha hb hp => h.2 a b ha hb (h2 a b ha hb hp)⟩
theorem fine_step {a b : Int} {u : Row} (ha : 1 ≤ a) (hu : FineR u) (hb : 8 * a + 39 < b) (hk : keepsR a b u) : keepsR a (b - 1) u := by
  obtain ⟨p, q, r⟩ := u
  obtain ⟨h1, h2, h3, h4, h5, h6⟩ := hu
  simp only at h1 h2 h3 h4 h5 h6
  unfold keepsR at *
  simp only at hk ⊢
  have e : q * (b - 1) = q * b - q := by rw [Int.mul_sub, Int.mul_one]
  by_cases hq : 0 < q
  · have m1 : -8 * a ≤ p * a := Int.mul_le_mul_of_nonneg_right h1 (by omega)
    have m2 : 1 * (b - 1) ≤ q * (b - 1) := Int.mul_le_mul_of_nonneg_right (by omega) (by omega)
    omega
  · omega
theorem leastPt_least {rows : List Row} (hr : ∀ u ∈ rows, FineR u) : IsLeast 800 (Keeps rows) (leastPt rows) := by
  constructor
  · intro a b e
    obtain ⟨h1, h2, h3, h4, h5⟩ := leastPt_some e
    refine ⟨⟨h1, h2⟩, ⟨h3.1, ?_⟩, h3⟩
    by_cases hb : 8 * a + 39 < b
    · have := h4 (b - 1) ⟨by omega, fun u hu => fine_step h1 (hr u hu) hb (h3.2 u hu)⟩
      omega
    · omega
  · intro a b ha ha2 hk
    cases e : leastPt rows with
    | none => exact absurd hk (leastPt_none e ha ha2)
    | some w =>
      obtain ⟨x, y⟩ := w
      obtain ⟨h1, h2, h3, h4, h5⟩ := leastPt_some e
      refine ⟨x, y, rfl, ?_⟩
      by_cases hx : x < a
      · exact .inl hx
      · by_cases hxa : a < x
        · exact absurd hk (h5 a ha hxa b)
        · have : x = a := by omega
          subst this
          exact .inr ⟨rfl, h4 b hk⟩
theorem leastOf_least {α : Type} {N : Int} {P : α → Int → Int → Prop} {f : α → Option (Int × Int)} (xs : List α) (h : ∀ x ∈ xs, IsLeast N (P x) (f x)) : IsLeast N (fun a b => ∃ x ∈ xs, P x a b) (leastOf (xs.map f)) := by
  have hm : ∀ w, w ∈ somes (xs.map f) ↔ ∃ x ∈ xs, f x = some w := by
    intro w
    unfold somes
    rw [List.mem_filterMap]
    constructor
    · rintro ⟨o, ho, e⟩
      obtain ⟨x, hx, rfl⟩ := List.mem_map.mp ho
      exact ⟨x, hx, e⟩
    · rintro ⟨x, hx, e⟩
      exact ⟨f x, List.mem_map.mpr ⟨x, hx, rfl⟩, e⟩
  have two : ∀ o, o = leastOf (xs.map f) → (∀ w, o = some w → w ∈ somes (xs.map f)) ∧ ∀ v ∈ somes (xs.map f), ∃ w, o = some w ∧ ltP v w = false := by
    intro o e
    unfold leastOf at e
    cases hs : somes (xs.map f) with
    | nil =>
      rw [hs] at e
      subst e
      exact ⟨fun w hw => (by cases hw), fun v hv => (by cases hv)⟩
    | cons z zs =>
      rw [hs] at e
      have sem := minP_sem zs z
      subst e
      exact ⟨fun w hw => by rw [← Option.some.inj hw]; exact sem.1, fun v hv => ⟨_, rfl, sem.2 v hv⟩⟩
  obtain ⟨t1, t2⟩ := two _ rfl
  constructor
  · intro a b e
    obtain ⟨x, hx, ex⟩ := (hm _).mp (t1 _ e)
    obtain ⟨k1, k2, k4⟩ := (h x hx).1 a b ex
    exact ⟨k1, k2, x, hx, k4⟩
  · rintro a b ha ha2 ⟨x, hx, hp⟩
    obtain ⟨c, d, e, hc⟩ := (h x hx).2 a b ha ha2 hp
    obtain ⟨w, ew, hw⟩ := t2 (c, d) ((hm _).mpr ⟨x, hx, e⟩)
    obtain ⟨w1, w2⟩ := w
    refine ⟨w1, w2, ew, ?_⟩
    have := of_decide_eq_false hw
    simp only at this
    omega
/-! ### plain: short and lavish -/
theorem look_ok {S : Sto} {p : Int × Int} {t : Row} {st : List (Bool × Bool)} (hP : OkP p) (hT : OkT t) (hst : st.length ≤ 4) : callM 4 m_look_at [.p (encC p), .p (encT t), .p (.tuple [.tuple (st.map encS)])] S = .ok (.p .none) S :=
  look_yes ⟨hP.1, hP.2.1⟩ ⟨hP.2.2.1, hP.2.2.2⟩ hT.1 hT.2.1 hT.2.2 hst
def allC (p : Int × Int) : List (Int × Int) := (upFrom 0 (p.1 + 1).toNat).flatMap fun x => (upFrom 0 (p.2 + 1).toNat).map fun y => (x, y)
theorem mem_allC {p c : Int × Int} (hP : OkP p) : c ∈ allC p ↔ OkC p c := by
  obtain ⟨p0, p1, p2, p3⟩ := hP
  unfold allC
  rw [List.mem_flatMap]
  constructor
  · rintro ⟨x, hx, hc⟩
    obtain ⟨y, hy, rfl⟩ := List.mem_map.mp hc
    rw [mem_upFrom] at hx hy
    exact ⟨by show 0 ≤ x; omega, by show x ≤ p.1; omega, by show 0 ≤ y; omega, by show y ≤ p.2; omega⟩
  · rintro ⟨c0, c1, c2, c3⟩
    exact ⟨c.1, mem_upFrom.mpr (by omega), List.mem_map.mpr ⟨c.2, mem_upFrom.mpr (by omega), rfl⟩⟩
theorem flat_len {α β : Type} {n : Nat} {f : α → List β} : ∀ xs : List α, (∀ x ∈ xs, (f x).length ≤ n) → (xs.flatMap f).length ≤ xs.length * n
  | [], _ => Nat.zero_le _
  | x :: xs, h => by
    have ih := flat_len xs fun y hy => h y (List.mem_cons_of_mem _ hy)
    have := h x List.mem_cons_self
    rw [List.flatMap_cons, List.length_append, List.length_cons, Nat.succ_mul]
    omega
theorem allC_len {p : Int × Int} (hP : OkP p) : (allC p).length ≤ 25 := by
  obtain ⟨p0, p1, p2, p3⟩ := hP
  have := flat_len (n := 5) (f := fun x => (upFrom 0 (p.2 + 1).toNat).map fun y => (x, y)) (upFrom 0 (p.1 + 1).toNat) (fun x _ => by rw [List.length_map, upFrom_len]; omega)
  rw [upFrom_len] at this
  unfold allC
  omega
theorem all_coins_ok {S : Sto} {p : Int × Int} (hP : OkP p) : callM 3 m_all_coins [.p (encC p)] S = .ok (.p (.list ((allC p).map encC))) S := by
  rw [callM_ap 3 _ _ _ (by show 1 ≤ 3; decide)]
  obtain ⟨p0, p1, p2, p3⟩ := hP
  have c1 : -1000000 < p.1 + 1 ∧ p.1 + 1 < 1000000 := by omega
  have c2 : -1000000 < p.2 + 1 ∧ p.2 + 1 < 1000000 := by omega
  have e := compL2_map (gg := gNm 1) (enc := fun x : Int => D.p (.int x)) (enc1 := fun x : Int => D.p (.int x)) (fi1 := fRng1 (fCons (fBin gAdd (fBin gIx (fVar 0) (fCon (.int 1))) (fCon (.int 1))) fNil)) (vs1 := [2]) (g1 := gNm 2) (ft1 := fYes) (fe := fTup (fCons (fVar 1) (fCons (fVar 2) fNil)))
    (ys := fun _ => upFrom 0 (p.2 + 1).toNat) (p := fun _ _ => true) (val := fun x y => encC (x, y)) (ρ := [some (.p (encC p)), none, none]) (S := S) (upFrom 0 (p.1 + 1).toNat) 0 (fun x _ => by
      refine ⟨_, rfl, ?_, fun y _ => ⟨_, rfl, rfl, fun _ => ?_⟩⟩
      · simp [ixC1, c2, rngN]
      · simp [encC]) (fun l x r hx => by
      have h1 := congrArg List.length hx
      rw [upFrom_len, List.length_append] at h1
      have h2 := flat_len (n := 5) (f := fun x => ((upFrom 0 (p.2 + 1).toNat).filter fun _ => true).map fun y => encC (x, y)) l (fun z _ => by
        rw [List.length_map]
        refine Nat.le_trans (List.length_filter_le _ _) ?_
        rw [upFrom_len]
        omega)
      rw [upFrom_len]
      omega)
  have e2 : ((upFrom 0 (p.1 + 1).toNat).flatMap fun x => ((upFrom 0 (p.2 + 1).toNat).filter fun _ => true).map fun y => encC (x, y)) = (allC p).map encC := by
    unfold allC
    rw [List.map_flatMap]
    congr 1
    funext x
    rw [List.map_map, List.filter_eq_self.mpr fun _ _ => rfl]
    rfl
  rw [e2] at e
  have hl : ((upFrom 0 (p.1 + 1).toNat).map fun x : Int => D.p (.int x)).length < 1000 := by rw [List.length_map, upFrom_len]; omega
  unfold m_all_coins
  rw [ap_ret, ap_comp2, ap_rng1, ap_cons, ap_bin]
  simp only [ap_bin, envOf_s, envOf_n, envOf_0, ap_var, ap_con, ap_nil, List.getElem?_cons_succ, List.getElem?_cons_zero, binK_ok, bin2K_ok, ixC0, g_add, consK_ok, cons2K_ok]
  rw [rng1K_ok, if_pos c1, rngN, comp2K_ok]
  have w : wipeE [some (D.p (encC p)), none, none] [1, 2] = [some (D.p (encC p)), none, none] := rfl
  rw [w, e, compE_map]
  simp
def shortF (rows : List Row) (p : Int × Int) (t : Row) (st : List (Bool × Bool)) : Option (Int × Int) := leastOf ((leavesF rows p t st).map fun y => leastPt (y.2 ++ [aboveR (leftR t y.1)]))
theorem map_enc {α : Type} (f : α → PyData) (xs : List α) : (xs.map f).map D.p = xs.map fun y => D.p (f y) := by
  rw [List.map_map]
  rfl
theorem short_ok {S : Sto} {rows : List Row} {p : Int × Int} {t : Row} {st : List (Bool × Bool)} {w : PyData} (hS : LowS S) (hP : OkP p) (hT : OkT t) (hr : ∀ u ∈ rows, FineR u) (hl : rows.length ≤ 1000) (hst : st.length ≤ 4) :
    callM 7 m_short [.wld (.tuple (rows.map encT)) w, .p (encC p), .p (encT t), .p (.tuple (st.map encS))] S = .ok (.p (encP (shortF rows p t st))) S := by
  rw [callM_ap 7 _ _ _ (by show 4 ≤ 7; decide)]
  obtain ⟨g1, g2⟩ := leaves_good (rows := rows) hP hT hr st
  have g3 : 5 ^ st.length ≤ 5 ^ 4 := Nat.pow_le_pow_right (n := 5) (by decide) hst
  have lv := leaves_ok (S := S) (rd := .tuple (rows.map encT)) hS hP hT hr hl hst (.inl rfl)
  have e := compL_all (gg := gTp 2 (gsCons (gNm 5) (gsCons (gNm 6) gsNil))) (enc := fun y : Crs => D.p (encB y)) (fe := fCall (callM 1 m_least_point) (fCons (fLst (fStar (fVar 6) (fCons (fCall (callM 1 m_above) (fCons (fCall (callM 2 m_left_of) (fCons (fVar 2) (fCons (fVar 5) fNil))) fNil)) fNil))) fNil))
    (val := fun y => encP (leastPt (y.2 ++ [aboveR (leftR t y.1)]))) (ρ := [some (.wld (.tuple (rows.map encT)) w), some (.p (encC p)), some (.p (encT t)), some (.p (.tuple (st.map encS))), some (.p (.list ((leavesF rows p t st).map encB))), none, none]) (S := S) (leavesF rows p t st) (fun y hy => by
      obtain ⟨k1, k2, k3⟩ := g1 y hy
      have lp := least_point_ok (S := S) (rows := y.2 ++ [aboveR (leftR t y.1)]) (rd := .list ((y.2 ++ [aboveR (leftR t y.1)]).map encT)) (fun u hu => (List.mem_append.mp hu).elim (fun h => (k2 u h).small) fun h => by
        rw [List.mem_singleton.mp h]
        exact (left_fine hP hT k1).2.1.small) (.inr rfl)
      have as := asPs_two (y.2.map encT) [encT (aboveR (leftR t y.1))]
      have hlen : y.2.length + 1 < 1000000 := by omega
      rw [List.map_append] at lp
      simp only [List.map_cons, List.map_nil] at lp as
      refine ⟨_, rfl, ?_⟩
      simp [left_ok, above_ok, as, hlen, lp, -List.map_map])
  have lo := least_of_ok (S := S) (ps := (leavesF rows p t st).map fun y => leastPt (y.2 ++ [aboveR (leftR t y.1)])) (by rw [List.length_map]; omega)
  rw [List.map_map] at lo
  have hlim : (leavesF rows p t st).length < 1000000 := by omega
  rw [← map_enc] at e
  have lo : callM 3 m_least_of [.p (.list ((leavesF rows p t st).map fun y => encP (leastPt (y.2 ++ [aboveR (leftR t y.1)]))))] S = .ok (.p (encP (shortF rows p t st))) S := lo
  simp [m_short, look_ok hP hT hst, lv, hlim, e, asPs_map, lo, -List.map_map, -compE_ok, compE_map]
def lavP (p : Int × Int) (t : Row) (y : Crs) (o : Int × Int) : List Row := y.2 ++ [belowR (leftR t y.1), belowR (leftR t o), (y.1.1 - o.1, y.1.2 - o.2, -1)]
def lavO (p : Int × Int) (y : Crs) : List (Int × Int) := (allC p).filter fun o => decide (0 < y.1.1 - o.1) || decide (0 < y.1.2 - o.2)
def lavL (rows : List Row) (p : Int × Int) (t : Row) (st : List (Bool × Bool)) : List (Crs × (Int × Int)) := (leavesF rows p t st).flatMap fun y => (lavO p y).map fun o => (y, o)
def lavishF (rows : List Row) (p : Int × Int) (t : Row) (st : List (Bool × Bool)) : Option (Int × Int) := leastOf ((lavL rows p t st).map fun z => leastPt (lavP p t z.1 z.2))
theorem lav_fine {p : Int × Int} {t : Row} {y : Crs} {o : Int × Int} (hP : OkP p) (hT : OkT t) (h1 : OkC p y.1) (h2 : ∀ u ∈ y.2, FineR u) (ho : OkC p o) : ∀ u ∈ lavP p t y o, FineR u := by
  intro u hu
  rcases List.mem_append.mp hu with hu | hu
  · exact h2 u hu
  · rcases List.mem_cons.mp hu with rfl | hu
    · exact (left_fine hP hT h1).2.2.1
    · rcases List.mem_cons.mp hu with rfl | hu
      · exact (left_fine hP hT ho).2.2.1
      · rw [List.mem_singleton.mp hu]
        obtain ⟨p0, p1, p2, p3⟩ := hP
        obtain ⟨c0, c1, c2, c3⟩ := h1
        obtain ⟨o0, o1, o2, o3⟩ := ho
        exact ⟨by show -8 ≤ y.1.1 - o.1; omega, by show y.1.1 - o.1 ≤ 8; omega, by show -8 ≤ y.1.2 - o.2; omega, by show y.1.2 - o.2 ≤ 8; omega, by show -26 ≤ (-1 : Int); omega, by show (-1 : Int) ≤ 26; omega⟩
theorem lavish_ok {S : Sto} {rows : List Row} {p : Int × Int} {t : Row} {st : List (Bool × Bool)} {w : PyData} (hS : LowS S) (hP : OkP p) (hT : OkT t) (hr : ∀ u ∈ rows, FineR u) (hl : rows.length ≤ 1000) (hst : st.length ≤ 4) :
    callM 10 m_lavish [.wld (.tuple (rows.map encT)) w, .p (encC p), .p (encT t), .p (.tuple (st.map encS))] S = .ok (.p (encP (lavishF rows p t st))) S := by
  rw [callM_ap 10 _ _ _ (by show 4 ≤ 10; decide)]
  obtain ⟨g1, g2⟩ := leaves_good (rows := rows) hP hT hr st
  have g3 : 5 ^ st.length ≤ 5 ^ 4 := Nat.pow_le_pow_right (n := 5) (by decide) hst
  have lowL : ∀ acc : List PyData, LowS (S ++ [.lst (acc.map D.p)]) := fun acc => hS.app fun o ho n => by
    rw [List.mem_singleton.mp ho]
    exact low_lst acc n
  have lv := leaves_ok (S := S ++ [.lst (([] : List PyData).map D.p)]) (rd := .tuple (rows.map encT)) (lowL []) hP hT hr hl hst (.inl rfl)
  have gX : ∀ y, (S ++ [y])[S.length]? = some y := fun y => by simp
  have sX : ∀ y z, (S ++ [y]).set S.length z = S ++ [z] := fun y z => by simp
  unfold m_lavish
  generalize hb2 : (fSeq (fSet 9 _) _) = body2
  generalize hb1 : (fSeq (fSet 7 _) _) = body1
  have inner : ∀ (y : Crs) (o : Int × Int) (acc : List PyData) (R0 R1 R3 R6 x9 : Option D), OkC p y.1 → (∀ u ∈ y.2, FineR u) → y.2.length ≤ 2000 → OkC p o → acc.length < 1000000 → ∃ z9,
      body2 [R0, R1, some (.p (encT t)), R3, some (.own S.length), some (.p (encC y.1)), R6, some (.p (.list ((y.2 ++ [belowR (leftR t y.1)]).map encT))), some (.p (encC o)), x9] (S ++ [.lst (acc.map D.p)]) =
      .nx [R0, R1, some (.p (encT t)), R3, some (.own S.length), some (.p (encC y.1)), R6, some (.p (.list ((y.2 ++ [belowR (leftR t y.1)]).map encT))), some (.p (encC o)), z9]
        (S ++ [.lst ((acc ++ if (decide (0 < y.1.1 - o.1) || decide (0 < y.1.2 - o.2)) = true then [encP (leastPt (lavP p t y o))] else []).map D.p)]) := by
    intro y o acc R0 R1 R3 R6 x9 k1 k2 k3 ho ha
    have lp := fun S => least_point_ok (S := S) (rows := lavP p t y o) (rd := .list ((lavP p t y o).map encT)) (fun u hu => (lav_fine hP hT k1 k2 ho u hu).small) (.inr rfl)
    have el : (lavP p t y o).map encT = (y.2 ++ [belowR (leftR t y.1)]).map encT ++ [encT (belowR (leftR t o)), .tuple [.int (y.1.1 - o.1), .int (y.1.2 - o.2), .int (-1)]] := by
      unfold lavP
      rw [List.map_append, List.map_append]
      simp [encT]
    rw [el] at lp
    have as := asPs_two ((y.2 ++ [belowR (leftR t y.1)]).map encT) [encT (belowR (leftR t o)), .tuple [.int (y.1.1 - o.1), .int (y.1.2 - o.2), .int (-1)]]
    simp only [List.map_cons, List.map_nil] at as
    have hlen : ((y.2 ++ [belowR (leftR t y.1)]).map encT).length + 2 < 1000000 := by simp; omega
    generalize (y.2 ++ [belowR (leftR t y.1)]).map encT = rs at *
    subst hb2
    by_cases h1 : 0 < y.1.1 - o.1
    · refine ⟨some (.p (.tuple [.int (y.1.1 - o.1), .int (y.1.2 - o.2), .int (-1)])), ?_⟩
      rw [if_pos (by rw [decide_eq_true h1]; rfl)]
      have h1' : o.1 < y.1.1 := by omega
      simp [ixC0, ixC1, g_ixT, h1', left_ok, below_ok, as, hlen, lp, gX, sX, ha, -List.map_map]
    · by_cases h2 : 0 < y.1.2 - o.2
      · refine ⟨some (.p (.tuple [.int (y.1.1 - o.1), .int (y.1.2 - o.2), .int (-1)])), ?_⟩
        rw [if_pos (by rw [decide_eq_true h2, Bool.or_true])]
        have h1' : ¬ o.1 < y.1.1 := by omega
        have h2' : o.2 < y.1.2 := by omega
        simp [ixC0, ixC1, g_ixT, h1', h2', left_ok, below_ok, as, hlen, lp, gX, sX, ha, -List.map_map]
      · refine ⟨some (.p (.tuple [.int (y.1.1 - o.1), .int (y.1.2 - o.2), .int (-1)])), ?_⟩
        rw [if_neg (by rw [decide_eq_false h1, decide_eq_false h2]; decide)]
        have h1' : ¬ o.1 < y.1.1 := by omega
        have h2' : ¬ o.2 < y.1.2 := by omega
        simp [ixC0, ixC1, g_ixT, h1', h2', left_ok, below_ok, -List.map_map]
  have mid : ∀ (y : Crs) (acc : List PyData) (R0 R3 x7 x8 x9 : Option D), OkC p y.1 → (∀ u ∈ y.2, FineR u) → y.2.length ≤ 2000 → acc.length + 25 < 1000000 → ∃ z7 z8 z9,
      body1 [R0, some (.p (encC p)), some (.p (encT t)), R3, some (.own S.length), some (.p (encC y.1)), some (.p (.list (y.2.map encT))), x7, x8, x9] (S ++ [.lst (acc.map D.p)]) =
      .nx [R0, some (.p (encC p)), some (.p (encT t)), R3, some (.own S.length), some (.p (encC y.1)), some (.p (.list (y.2.map encT))), z7, z8, z9]
        (S ++ [.lst ((acc ++ (lavO p y).map fun o => encP (leastPt (lavP p t y o))).map D.p)]) := by
    intro y acc R0 R3 x7 x8 x9 k1 k2 k3 ha
    have loop := forL_pre (gg := gNm 8) (body := body2) (enc := fun o : Int × Int => D.p (encC o)) (xs := allC p)
      (P := fun l ρ St => ∃ z8 z9, ρ = [R0, some (.p (encC p)), some (.p (encT t)), R3, some (.own S.length), some (.p (encC y.1)), some (.p (.list (y.2.map encT))), some (.p (.list ((y.2 ++ [belowR (leftR t y.1)]).map encT))), z8, z9] ∧
        St = S ++ [.lst ((acc ++ (l.filter fun o => decide (0 < y.1.1 - o.1) || decide (0 < y.1.2 - o.2)).map fun o => encP (leastPt (lavP p t y o))).map D.p)])
      (fun l o r hy ρ St h => by
        obtain ⟨z8, z9, rfl, rfl⟩ := h
        have hmem : o ∈ allC p := by rw [hy]; exact List.mem_append_right _ List.mem_cons_self
        have hlen : l.length ≤ 25 := by
          have h1 := allC_len hP
          rw [hy, List.length_append] at h1
          omega
        have hfl := List.length_filter_le (fun o : Int × Int => decide (0 < y.1.1 - o.1) || decide (0 < y.1.2 - o.2)) l
        obtain ⟨u9, e⟩ := inner y o (acc ++ (l.filter fun o => decide (0 < y.1.1 - o.1) || decide (0 < y.1.2 - o.2)).map fun o => encP (leastPt (lavP p t y o))) R0 (some (.p (encC p))) R3 (some (.p (.list (y.2.map encT)))) z9 k1 k2 k3 ((mem_allC hP).mp hmem) (by rw [List.length_append, List.length_map]; omega)
        refine ⟨_, _, _, rfl, e, some (.p (encC o)), u9, rfl, ?_⟩
        exact congrArg (fun z => S ++ [O.lst (z.map D.p)]) (filt_one (fun o : Int × Int => decide (0 < y.1.1 - o.1) || decide (0 < y.1.2 - o.2)) (fun o => encP (leastPt (lavP p t y o))) acc l o))
      (ρ := [R0, some (.p (encC p)), some (.p (encT t)), R3, some (.own S.length), some (.p (encC y.1)), some (.p (.list (y.2.map encT))), some (.p (.list ((y.2 ++ [belowR (leftR t y.1)]).map encT))), x8, x9]) (S := S ++ [.lst (acc.map D.p)])
      ⟨x8, x9, rfl, by simp⟩
    obtain ⟨ρ', S', e, z8, z9, rfl, rfl⟩ := loop
    refine ⟨some (.p (.list (y.2.map encT ++ [encT (belowR (leftR t y.1))]))), z8, z9, ?_⟩
    have as := asPs_two (y.2.map encT) [encT (belowR (leftR t y.1))]
    have hlen : (y.2.map encT).length + 1 < 1000000 := by rw [List.length_map]; omega
    have em : (y.2 ++ [belowR (leftR t y.1)]).map encT = y.2.map encT ++ [encT (belowR (leftR t y.1))] := by rw [List.map_append]; rfl
    rw [em] at e
    simp only [List.map_cons, List.map_nil] at as
    rw [← map_enc] at e
    subst hb1
    generalize y.2.map encT = rs at *
    simp [left_ok, below_ok, as, hlen, all_coins_ok hP, -List.map_map, -List.map_append]
    rw [e]
    rfl
  have loop := forL_pre (gg := gTp 2 (gsCons (gNm 5) (gsCons (gNm 6) gsNil))) (body := body1) (enc := fun y : Crs => D.p (encB y)) (xs := leavesF rows p t st)
      (P := fun l ρ St => ∃ z5 z6 z7 z8 z9, ρ = [some (.wld (.tuple (rows.map encT)) w), some (.p (encC p)), some (.p (encT t)), some (.p (.tuple (st.map encS))), some (.own S.length), z5, z6, z7, z8, z9] ∧
        St = S ++ [.lst ((((l.flatMap fun y => (lavO p y).map fun o => (y, o)).map fun z => leastPt (lavP p t z.1 z.2)).map encP).map D.p)])
      (fun l y r hy ρ St h => by
        obtain ⟨z5, z6, z7, z8, z9, rfl, rfl⟩ := h
        have hmem : y ∈ leavesF rows p t st := by rw [hy]; exact List.mem_append_right _ List.mem_cons_self
        obtain ⟨k1, k2, k3⟩ := g1 y hmem
        have hlen : l.length ≤ 625 := by
          rw [hy, List.length_append] at g2
          omega
        have hfl := flat_len (n := 25) (f := fun y => (lavO p y).map fun o => (y, o)) l (fun x _ => by
          rw [List.length_map]
          exact Nat.le_trans (List.length_filter_le _ _) (allC_len hP))
        obtain ⟨u7, u8, u9, e⟩ := mid y (((l.flatMap fun y => (lavO p y).map fun o => (y, o)).map fun z => leastPt (lavP p t z.1 z.2)).map encP) (some (.wld (.tuple (rows.map encT)) w)) (some (.p (.tuple (st.map encS)))) z7 z8 z9 k1 k2 (by omega) (by rw [List.length_map, List.length_map]; omega)
        refine ⟨_, _, _, rfl, e, some (.p (encC y.1)), some (.p (.list (y.2.map encT))), u7, u8, u9, rfl, ?_⟩
        rw [flat_one]
        simp)
      (ρ := [some (.wld (.tuple (rows.map encT)) w), some (.p (encC p)), some (.p (encT t)), some (.p (.tuple (st.map encS))), some (.own S.length), none, none, none, none, none]) (S := S ++ [.lst []])
      ⟨none, none, none, none, none, rfl, rfl⟩
  obtain ⟨ρ', S', e, z5, z6, z7, z8, z9, rfl, rfl⟩ := loop
  have hll : (lavL rows p t st).length < 1000000 := by
    have hfl := flat_len (n := 25) (f := fun y => (lavO p y).map fun o => (y, o)) (leavesF rows p t st) (fun x _ => by
          rw [List.length_map]
          exact Nat.le_trans (List.length_filter_le _ _) (allC_len hP))
    unfold lavL
    omega
  have lo := fun S => least_of_ok (S := S) (ps := (lavL rows p t st).map fun z => leastPt (lavP p t z.1 z.2)) (by rw [List.length_map]; exact hll)
  have tr := hS.trim [O.fz (.p (.list (((lavL rows p t st).map fun z => leastPt (lavP p t z.1 z.2)).map encP)))] (encP (lavishF rows p t st)) (by simp)
  have lo : ∀ S, callM 3 m_least_of [.p (.list (((lavL rows p t st).map fun z => leastPt (lavP p t z.1 z.2)).map encP))] S = .ok (.p (encP (lavishF rows p t st))) S := lo
  rw [← map_enc] at e
  simp only [List.map_nil] at lv
  have gX2 : ∀ y, (S ++ [y])[S.length]? = some y := gX
  simp only [envOf_s, envOf_n, envOf_0]
  simp [look_ok hP hT hst, lv, -List.map_map]
  rw [e]
  unfold lavL at lo tr
  simp [asPs_map, lo, tr, -List.map_map]
/-! ### plain: draws with other own things behind -/
def LowR (R : Sto) : Prop := ∀ o ∈ R, ∀ n, O.low n o = true
theorem LowR.nil : LowR [] := fun o ho => by cases ho
theorem LowR.app {R T : Sto} (h : LowR R) (h2 : LowR T) : LowR (R ++ T) := fun o ho => (List.mem_append.mp ho).elim (h o) (h2 o)
theorem LowR.lst (ps : List PyData) : LowR [.lst (ps.map D.p)] := fun o ho n => by
  rw [List.mem_singleton.mp ho]
  exact low_lst ps n
theorem IsH.setR {x y : O} {R S : Sto} (h : IsH (R ++ [x]) S) : S[R.length + 2]? = some x ∧ IsH (R ++ [y]) (S.set (R.length + 2) y) := by
  obtain ⟨s, cs, i, hc, rfl⟩ := h
  refine ⟨?_, s, cs, i, hc, ?_⟩
  · show (_ :: _ :: (R ++ [x]))[R.length + 2]? = _
    rw [List.getElem?_cons_succ, List.getElem?_cons_succ]
    exact at_len
  · show (_ :: _ :: (R ++ [x])).set (R.length + 2) y = _
    rw [List.set_cons_succ, List.set_cons_succ, set_len]
    rfl
theorem IsH.popR {R T S S0 : Sto} (h : IsH (R ++ T) S) (h0 : IsH R S0) (hR : LowR R) (hT : T ≠ []) (d : PyData) : ∃ S', IsH R S' ∧ trim S0 (.p d) S = .ok (.p d) S' := by
  obtain ⟨s, cs, i, hc, rfl⟩ := h
  refine ⟨hs R s cs i, ⟨s, cs, i, hc, rfl⟩, ?_⟩
  have hl : S0.length = (hs R s cs i).length := by
    rw [h0.len]
    rfl
  have low : LowS (hs R s cs i) := IsH.lowS ⟨s, cs, i, hc, rfl⟩ hR
  have := low.trim T d hT
  unfold trim at *
  rw [hl]
  exact this
/-! ### plain: purses, totals, recipes -/
theorem purse_ok {R S : Sto} (h : IsH R S) : ∃ p q S', 0 ≤ p ∧ p < 5 ∧ 0 ≤ q ∧ q < 5 ∧ IsH R S' ∧ callM 1 m__law_purse [.own 1] S = .ok (.p (.tuple [.int p, .int q])) S' := by
  obtain ⟨p, S1, p0, p1, h1, e1⟩ := next_ok h 5 (by decide) (by decide)
  obtain ⟨q, S2, q0, q1, h2, e2⟩ := next_ok h1 5 (by decide) (by decide)
  refine ⟨p, q, S2, p0, p1, q0, q1, h2, ?_⟩
  rw [callM_ap 1 _ _ _ (by show 1 ≤ 1; decide)]
  simp [m__law_purse, e1, e2, h2.back h]
theorem total_ok {R S : Sto} (h : IsH R S) : ∃ p q r S', 0 ≤ p ∧ p < 5 ∧ 0 ≤ q ∧ q < 5 ∧ -12 ≤ r ∧ r ≤ 12 ∧ IsH R S' ∧ callM 1 m__law_total [.own 1] S = .ok (.p (.tuple [.int p, .int q, .int r])) S' := by
  obtain ⟨p, S1, p0, p1, h1, e1⟩ := next_ok h 5 (by decide) (by decide)
  obtain ⟨q, S2, q0, q1, h2, e2⟩ := next_ok h1 5 (by decide) (by decide)
  obtain ⟨a, S3, a0, a1, h3, e3⟩ := next_ok h2 25 (by decide) (by decide)
  obtain ⟨b, S4, b0, b1, h4, e4⟩ := next_ok h3 7 (by decide) (by decide)
  obtain ⟨c, S5, c0, c1, h5, e5⟩ := next_ok h4 4 (by decide) (by decide)
  have pick : ∃ r, -12 ≤ r ∧ r ≤ 12 ∧ atI [PyData.int 0, .int 0, .int (a - 12), .int (b - 3)] c = some (.int r) := by
    have : c = 0 ∨ c = 1 ∨ c = 2 ∨ c = 3 := by omega
    rcases this with rfl | rfl | rfl | rfl
    · exact ⟨0, by decide, by decide, by simp⟩
    · exact ⟨0, by decide, by decide, by simp⟩
    · exact ⟨a - 12, by omega, by omega, by simp⟩
    · exact ⟨b - 3, by omega, by omega, by simp⟩
  obtain ⟨r, r0, r1, er⟩ := pick
  refine ⟨p, q, r, S5, p0, p1, q0, q1, r0, r1, h5, ?_⟩
  rw [callM_ap 1 _ _ _ (by show 1 ≤ 1; decide)]
  simp [m__law_total, e1, e2, e3, e4, e5, g_ixL, er, h5.back h]
theorem recipe_ok {R S : Sto} (hR : LowR R) (h : IsH R S) : ∃ (st : List (Bool × Bool)) (S' : Sto), st.length ≤ 4 ∧ IsH R S' ∧ callM 3 m__law_recipe [.own 1] S = .ok (.p (.tuple (st.map encS))) S' := by
  have loop : ∀ (ds : List D) (st : List (Bool × Bool)) (S : Sto) (x : Option D), st.length + ds.length ≤ 10 → IsH (R ++ [.lst ((st.map encS).map D.p)]) S → ∃ (st' : List (Bool × Bool)) (S' : Sto) (x' : Option D), st'.length = st.length + ds.length ∧ IsH (R ++ [.lst ((st'.map encS).map D.p)]) S' ∧
      forL (gNm 2) (fDrop (fApp (fVar 1) (fTup (fCons (fBin gIx (fLst (fCons (fCon (.str ("most" : PySem.Str))) (fCons (fCon (.str ("one" : PySem.Str))) (fCons (fCon (.str ("most" : PySem.Str))) fNil)))) (fCall (callM 3 m__law_next) (fCons (fVar 0) (fCons (fCon (.int 3)) fNil)))) (fCons (fBin gIx (fLst (fCons (fCon (.str ("a" : PySem.Str))) (fCons (fCon (.str ("b" : PySem.Str))) fNil))) (fCall (callM 3 m__law_next) (fCons (fVar 0) (fCons (fCon (.int 2)) fNil)))) fNil))))) ds [some (.own 1), some (.own (R.length + 2)), x] S = .nx [some (.own 1), some (.own (R.length + 2)), x'] S' := by
    intro ds
    induction ds with
    | nil => exact fun st S x _ h => ⟨st, S, x, by simp, h, by simp⟩
    | cons d ds ih =>
      intro st S x hl h
      rw [List.length_cons] at hl
      obtain ⟨r, S1, r0, r1, h1, e1⟩ := next_ok h 3 (by decide) (by decide)
      obtain ⟨k, S2, k0, k1, h2, e2⟩ := next_ok h1 2 (by decide) (by decide)
      have er : ∃ m, atI [PyData.str "most", .str "one", .str "most"] r = some (.str (wayS m)) := by
        have : r = 0 ∨ r = 1 ∨ r = 2 := by omega
        rcases this with rfl | rfl | rfl
        · exact ⟨true, by simp [wayS]⟩
        · exact ⟨false, by simp [wayS]⟩
        · exact ⟨true, by simp [wayS]⟩
      have ek : ∃ m, atI [PyData.str "a", .str "b"] k = some (.str (kindS m)) := by
        have : k = 0 ∨ k = 1 := by omega
        rcases this with rfl | rfl
        · exact ⟨false, by simp [kindS]⟩
        · exact ⟨true, by simp [kindS]⟩
      obtain ⟨m, em⟩ := er
      obtain ⟨q, eq⟩ := ek
      have g0 := (h.setR (y := .raw 0)).1
      have g2 := (h2.setR (y := .raw 0)).1
      have h3 := (h2.setR (y := .lst (((st ++ [(m, q)]).map encS).map D.p))).2
      obtain ⟨st', S', x', l', h', e'⟩ := ih (st ++ [(m, q)]) _ (some d) (by simp; omega) h3
      refine ⟨st', S', x', by simp at l'; simp; omega, h', ?_⟩
      have hlen : ¬ 1000000 ≤ st.length := by omega
      have hlen' : st.length < 1000000 := by omega
      simp [g0, g2, e1, e2, em, eq, g_ixL, hlen']
      simpa [encS] using e'
  obtain ⟨n, S1, n0, n1, h1, e1⟩ := next_ok (h.push (.lst [])) 5 (by decide) (by decide)
  obtain ⟨st', S', x', l', h', e'⟩ := loop (rng 0 n.toNat) [] S1 none (by simp [rng]; omega) h1
  obtain ⟨S2, h2, e2⟩ := h'.popR h hR (by simp) (.tuple (st'.map encS))
  refine ⟨st', S2, ?_, h2, ?_⟩
  · simp [rng] at l'
    omega
  · rw [callM_ap 3 _ _ _ (by show 1 ≤ 3; decide)]
    have g0 := (h'.setR (y := .raw 0)).1
    have c1 : -1000000 < n ∧ n < 1000000 := by omega
    have hl : S.length = R.length + 2 := h.len
    simp [m__law_recipe, hl, e1, c1, e', gTuple, g0, asPs_map, -List.map_map, e2]
/-- a loop that takes coins while it can -/
theorem many_next {a l w : Int} (ha : 0 < a) (hw : 0 < w) (hl : w ≤ l) : manyS true a l w = 1 + manyS true (a - 1) (l - w) w := by
  have e : l / w = 1 + (l - w) / w := by
    have h1 : l = (l - w) + 1 * w := by omega
    have h2 : ((l - w) + 1 * w) / w = (l - w) / w + 1 := Int.add_mul_ediv_right _ _ (by omega)
    rw [← h1] at h2
    omega
  have hn : ¬ 0 > l := by omega
  have hn2 : ¬ 0 > l - w := by omega
  unfold manyS
  rw [if_pos rfl, if_pos rfl, if_neg hn, if_neg hn2]
  split <;> split <;> omega
theorem many_zero {a l w : Int} (ha : 0 ≤ a) (hw : 0 < w) (h : ¬ (0 < a ∧ w ≤ l)) : manyS true a l w = 0 := by
  unfold manyS
  rw [if_pos rfl]
  have h3 : 0 ≤ (if 0 > l then 0 else l) / w := Int.ediv_nonneg (by split <;> omega) (by omega)
  by_cases h0 : 0 < a
  · have hl : ¬ w ≤ l := fun z => h ⟨h0, z⟩
    have h2 : (if 0 > l then 0 else l) / w = 0 := Int.ediv_eq_zero_of_lt (by split <;> omega) (by split <;> omega)
    rw [h2]
    exact if_pos h0
  · have : a = 0 := by omega
    subst this
    generalize (if 0 > l then 0 else l) / w = z at h3 ⊢
    split <;> omega
/-- the coins still there: v of the kind k, u of the other -/
def owL (k : Bool) (v u : Int) : List D := if k = true then [.p (.int u), .p (.int v)] else [.p (.int v), .p (.int u)]
def kI (k : Bool) : Int := if k = true then 1 else 0
def cond04 : FE := fAnd (fBin gGt (fBin gIx (fVar 5) (fVar 8)) (fCon (.int 0))) (fBin gLe (fBin gIx (fVar 0) (fVar 8)) (fVar 4))
def take04 : FS := fSeq (fSetIx (fBin gMinus (fBin gIx (fVar 5) (fVar 8)) (fCon (.int 1))) (fVar 5) (fVar 8)) (fSet 4 (fBin gMinus (fVar 4) (fBin gIx (fVar 0) (fVar 8))))
section
variable {w0 w1 : Int} {k : Bool} {v u l : Int} {S R : Sto} {R1 R2 R3 R6 R7 : Option D}
def env04 (R : Sto) (w0 w1 : Int) (R1 R2 R3 R6 R7 : Option D) (k : Bool) (l : Int) : Env := [some (.p (.tuple [.int w0, .int w1])), R1, R2, R3, some (.p (.int l)), some (.own (R.length + 2)), R6, R7, some (.p (.int (kI k)))]
theorem take04_ok (h : IsH (R ++ [.lst (owL k v u)]) S) : ∃ S', IsH (R ++ [.lst (owL k (v - 1) u)]) S' ∧ take04 (env04 R w0 w1 R1 R2 R3 R6 R7 k l) S = .nx (env04 R w0 w1 R1 R2 R3 R6 R7 k (l - if k = true then w1 else w0)) S' := by
  have g0 := (h.setR (y := .raw 0)).1
  refine ⟨_, (h.setR (y := .lst (owL k (v - 1) u))).2, ?_⟩
  have g2 := (((h.setR (y := .lst (owL k (v - 1) u))).2).setR (y := .raw 0)).1
  cases k
  · have i0 : ixN 2 0 = some 0 := rfl
    simp [owL] at g0 g2
    simp [take04, env04, kI, g_ixO, g_ixT, g0, owL, i0]
  · have i0 : ixN 2 1 = some 1 := rfl
    simp [owL] at g0 g2
    simp [take04, env04, kI, g_ixO, g_ixT, g0, owL, i0]
theorem cond04_ok (h : IsH (R ++ [.lst (owL k v u)]) S) : cond04 (env04 R w0 w1 R1 R2 R3 R6 R7 k l) S = .ok (.p (.bool (decide (0 < v ∧ (if k = true then w1 else w0) ≤ l)))) S := by
  have g0 := (h.setR (y := .raw 0)).1
  by_cases hv : 0 < v
  · cases k <;> (simp [owL] at g0; simp [cond04, env04, kI, g_ixO, g_ixT, g0, hv])
  · cases k <;> (simp [owL] at g0; simp [cond04, env04, kI, g_ixO, g_ixT, g0, hv])
theorem while04 (hw : 0 < (if k = true then w1 else w0)) : ∀ (n f : Nat) (v l : Int) (S : Sto), v = n → n < f → IsH (R ++ [.lst (owL k v u)]) S → ∃ S', IsH (R ++ [.lst (owL k (v - manyS true v l (if k = true then w1 else w0)) u)]) S' ∧
    whileN cond04 take04 f (env04 R w0 w1 R1 R2 R3 R6 R7 k l) S = .nx (env04 R w0 w1 R1 R2 R3 R6 R7 k (l - manyS true v l (if k = true then w1 else w0) * (if k = true then w1 else w0))) S' := by
  intro n
  induction n with
  | zero =>
    intro f v l S hv hf h
    have hc : ¬ (0 < v ∧ (if k = true then w1 else w0) ≤ l) := fun z => by omega
    have hm := many_zero (a := v) (l := l) (by omega) hw hc
    rw [hm]
    obtain ⟨f, rfl⟩ : ∃ m, f = m + 1 := ⟨f - 1, by omega⟩
    refine ⟨S, by simpa using h, ?_⟩
    rw [whileN_succ, cond04_ok h, decide_eq_false hc]
    simp
  | succ n ih =>
    intro f v l S hv hf h
    obtain ⟨f, rfl⟩ : ∃ m, f = m + 1 := ⟨f - 1, by omega⟩
    by_cases hc : 0 < v ∧ (if k = true then w1 else w0) ≤ l
    · obtain ⟨S1, h1, e1⟩ := take04_ok (w0 := w0) (w1 := w1) (R1 := R1) (R2 := R2) (R3 := R3) (R6 := R6) (R7 := R7) (l := l) h
      obtain ⟨S2, h2, e2⟩ := ih f (v - 1) (l - (if k = true then w1 else w0)) S1 (by omega) (by omega) h1
      have hm := many_next hc.1 hw hc.2
      refine ⟨S2, ?_, ?_⟩
      · rw [hm]
        have : v - (1 + manyS true (v - 1) (l - if k = true then w1 else w0) (if k = true then w1 else w0)) = v - 1 - manyS true (v - 1) (l - if k = true then w1 else w0) (if k = true then w1 else w0) := by omega
        rw [this]
        exact h2
      · rw [whileN_succ, cond04_ok h, decide_eq_true hc, asB_ok, thn_ok, if_pos rfl, e1, rnd_nx, e2, hm]
        have : (l - (1 + manyS true (v - 1) (l - if k = true then w1 else w0) (if k = true then w1 else w0)) * if k = true then w1 else w0) = l - (if k = true then w1 else w0) - manyS true (v - 1) (l - if k = true then w1 else w0) (if k = true then w1 else w0) * (if k = true then w1 else w0) := by
          rw [Int.add_mul, Int.one_mul]
          omega
        rw [this]
    · have hm := many_zero (a := v) (l := l) (by omega) hw hc
      rw [hm]
      refine ⟨S, by simpa using h, ?_⟩
      rw [whileN_succ, cond04_ok h, decide_eq_false hc]
      simp
def body04 : FS := fSeq (fSet 8 (fIf (fBin gEq (fVar 7) (fCon (.str ("a" : PySem.Str)))) (fCon (.int 0)) (fCon (.int 1))))
  (fIfS (fBin gEq (fVar 6) (fCon (.str ("one" : PySem.Str)))) (fIfS (fAnd (fBin gGt (fBin gIx (fVar 5) (fVar 8)) (fCon (.int 0))) (fBin gGt (fVar 4) (fCon (.int 0)))) take04 fPass) (fWhile 1000 cond04 take04))
theorem body04_ok {m k : Bool} (hw : 0 < (if k = true then w1 else w0)) (hv : 0 ≤ v ∧ v < 5) (h : IsH (R ++ [.lst (owL k v u)]) S) (x : Option D) : ∃ S', IsH (R ++ [.lst (owL k (v - manyS m v l (if k = true then w1 else w0)) u)]) S' ∧
    body04 [some (.p (.tuple [.int w0, .int w1])), R1, R2, R3, some (.p (.int l)), some (.own (R.length + 2)), some (.p (.str (wayS m))), some (.p (.str (kindS k))), x] S = .nx (env04 R w0 w1 R1 R2 R3 (some (.p (.str (wayS m)))) (some (.p (.str (kindS k)))) k (l - manyS m v l (if k = true then w1 else w0) * (if k = true then w1 else w0))) S' := by
  have ne : ∀ S, gEq (.p (.str ("b" : Str))) (.p (.str ("a" : Str))) S = Res.ok (D.p (.bool false)) S := fun S => by kernel_rfl
  have ne1 : ∀ S, gEq (.p (.str ("a" : Str))) (.p (.str ("a" : Str))) S = Res.ok (D.p (.bool true)) S := fun S => by kernel_rfl
  have ne2 : ∀ S, gEq (.p (.str ("one" : Str))) (.p (.str ("one" : Str))) S = Res.ok (D.p (.bool true)) S := fun S => by kernel_rfl
  have ne3 : ∀ S, gEq (.p (.str ("most" : Str))) (.p (.str ("one" : Str))) S = Res.ok (D.p (.bool false)) S := fun S => by kernel_rfl
  have first : ∀ g : FS, fSeq (fSet 8 (fIf (fBin gEq (fVar 7) (fCon (.str ("a" : PySem.Str)))) (fCon (.int 0)) (fCon (.int 1)))) g [some (.p (.tuple [.int w0, .int w1])), R1, R2, R3, some (.p (.int l)), some (.own (R.length + 2)), some (.p (.str (wayS m))), some (.p (.str (kindS k))), x] S = g (env04 R w0 w1 R1 R2 R3 (some (.p (.str (wayS m)))) (some (.p (.str (kindS k)))) k l) S := by
    intro g
    cases k <;> simp [kindS, ne, ne1, env04, kI]
  unfold body04
  rw [first]
  have g0 := (h.setR (y := .raw 0)).1
  cases m with
  | true =>
    obtain ⟨S', h', e'⟩ := while04 (R1 := R1) (R2 := R2) (R3 := R3) (R6 := some (.p (.str (wayS true)))) (R7 := some (.p (.str (kindS k)))) hw v.toNat 1000 v l S (by omega) (by omega) h
    refine ⟨S', h', ?_⟩
    rw [← e']
    simp [env04, wayS, ne3]
  | false =>
    have hm : manyS false v l (if k = true then w1 else w0) = if 0 < v ∧ 0 < l then 1 else 0 := by
      unfold manyS
      rw [if_neg (by decide)]
      split <;> split <;> split <;> omega
    have hat : atI (owL k v u) (kI k) = some (.p (.int v)) := by cases k <;> simp [owL, kI]
    by_cases hc : 0 < v ∧ 0 < l
    · rw [hm, if_pos hc]
      obtain ⟨S1, h1, e1⟩ := take04_ok (w0 := w0) (w1 := w1) (R1 := R1) (R2 := R2) (R3 := R3) (R6 := some (.p (.str (wayS false)))) (R7 := some (.p (.str (kindS k)))) (l := l) h
      refine ⟨S1, h1, ?_⟩
      rw [Int.one_mul, ← e1]
      simp [env04, wayS, ne2, g_ixO, g0, hat, hc.1, hc.2]
    · rw [hm, if_neg hc]
      refine ⟨S, by simpa using h, ?_⟩
      by_cases hv0 : 0 < v
      · have hl : ¬ 0 < l := fun z => hc ⟨hv0, z⟩
        simp [env04, wayS, ne2, g_ixO, g0, hat, hv0, hl]
      · simp [env04, wayS, ne2, g_ixO, g0, hat, hv0]
end
theorem many_range {m : Bool} {v l w : Int} (hv : 0 ≤ v) (hw : 0 < w) : 0 ≤ manyS m v l w ∧ manyS m v l w ≤ v := by
  have h3 : 0 ≤ (if 0 > l then 0 else l) / w := Int.ediv_nonneg (by split <;> omega) (by omega)
  unfold manyS
  generalize (if 0 > l then 0 else l) / w = z at h3 ⊢
  cases m
  · rw [if_neg (by decide)]
    split <;> split <;> omega
  · rw [if_pos rfl]
    split <;> omega
theorem done_ok {R S : Sto} {w0 w1 p q a b r : Int} {st : List (Bool × Bool)} (hR : LowR R) (h : IsH R S) (hw0 : 1 ≤ w0 ∧ w0 ≤ 1000000000) (hw1 : 1 ≤ w1 ∧ w1 ≤ 1000000000) (hp : 0 ≤ p ∧ p < 5) (hq : 0 ≤ q ∧ q < 5) :
    ∃ S', IsH R S' ∧ callM 9 m__law_done [.p (.tuple [.int w0, .int w1]), .p (.tuple [.int p, .int q]), .p (.tuple [.int a, .int b, .int r]), .p (.tuple (st.map encS))] S =
      .ok (.p (.tuple [.tuple [.int (payAll w0 w1 p q st (0, 0, a * w0 + b * w1 + r)).1, .int (payAll w0 w1 p q st (0, 0, a * w0 + b * w1 + r)).2.1], .int (payAll w0 w1 p q st (0, 0, a * w0 + b * w1 + r)).2.2])) S' := by
  have y0 : -18446744073709551616 < w0 ∧ w0 < 18446744073709551616 := by omega
  have y1 : -18446744073709551616 < w1 ∧ w1 < 18446744073709551616 := by omega
  rw [callM_ap 9 _ _ _ (by show 4 ≤ 9; decide)]
  have loop : ∀ (st : List (Bool × Bool)) (c0 c1 l : Int) (S : Sto) (R1 R2 R3 x6 x7 x8 : Option D), 0 ≤ c0 ∧ c0 ≤ p → 0 ≤ c1 ∧ c1 ≤ q → IsH (R ++ [.lst [.p (.int (p - c0)), .p (.int (q - c1))]]) S → ∃ S' y6 y7 y8, IsH (R ++ [.lst [.p (.int (p - (payAll w0 w1 p q st (c0, c1, l)).1)), .p (.int (q - (payAll w0 w1 p q st (c0, c1, l)).2.1))]]) S' ∧
      forL (gTp 2 (gsCons (gNm 6) (gsCons (gNm 7) gsNil))) body04 ((st.map encS).map D.p) [some (.p (.tuple [.int w0, .int w1])), R1, R2, R3, some (.p (.int l)), some (.own (R.length + 2)), x6, x7, x8] S =
        .nx [some (.p (.tuple [.int w0, .int w1])), R1, R2, R3, some (.p (.int (payAll w0 w1 p q st (c0, c1, l)).2.2)), some (.own (R.length + 2)), y6, y7, y8] S' := by
    intro st
    induction st with
    | nil => exact fun c0 c1 l S R1 R2 R3 x6 x7 x8 _ _ h => ⟨S, x6, x7, x8, h, rfl⟩
    | cons s st ih =>
      intro c0 c1 l S R1 R2 R3 x6 x7 x8 hc0 hc1 h
      obtain ⟨m, k⟩ := s
      rw [List.map_cons, List.map_cons]
      have e3 : encS (m, k) = .tuple [.str (wayS m), .str (kindS k)] := rfl
      cases k with
      | false =>
        obtain ⟨S1, h1, e1⟩ := body04_ok (w0 := w0) (w1 := w1) (l := l) (R1 := R1) (R2 := R2) (R3 := R3) (m := m) (k := false) (v := p - c0) (u := q - c1) (by simp; omega) (by omega) (by simpa [owL] using h) x8
        have hr := many_range (m := m) (v := p - c0) (l := l) (w := w0) (by omega) (by omega)
        obtain ⟨S2, y6, y7, y8, h2, e2⟩ := ih (c0 + manyS m (p - c0) l w0) c1 (l - manyS m (p - c0) l w0 * w0) S1 R1 R2 R3 (some (.p (.str (wayS m)))) (some (.p (.str (kindS false)))) (some (.p (.int 0))) (by omega) hc1 (by
          have e : p - (c0 + manyS m (p - c0) l w0) = p - c0 - manyS m (p - c0) l w0 := by omega
          rw [e]
          simpa [owL] using h1)
        refine ⟨S2, y6, y7, y8, h2, ?_⟩
        rw [e3]
        simp [env04, kI] at e1
        rw [List.map_map] at e2
        simp [e1]
        rw [e2]
        rfl
      | true =>
        obtain ⟨S1, h1, e1⟩ := body04_ok (w0 := w0) (w1 := w1) (l := l) (R1 := R1) (R2 := R2) (R3 := R3) (m := m) (k := true) (v := q - c1) (u := p - c0) (by simp; omega) (by omega) (by simpa [owL] using h) x8
        have hr := many_range (m := m) (v := q - c1) (l := l) (w := w1) (by omega) (by omega)
        obtain ⟨S2, y6, y7, y8, h2, e2⟩ := ih c0 (c1 + manyS m (q - c1) l w1) (l - manyS m (q - c1) l w1 * w1) S1 R1 R2 R3 (some (.p (.str (wayS m)))) (some (.p (.str (kindS true)))) (some (.p (.int 1))) hc0 (by omega) (by
          have e : q - (c1 + manyS m (q - c1) l w1) = q - c1 - manyS m (q - c1) l w1 := by omega
          rw [e]
          simpa [owL] using h1)
        refine ⟨S2, y6, y7, y8, h2, ?_⟩
        rw [e3]
        simp [env04, kI] at e1
        rw [List.map_map] at e2
        simp [e1]
        rw [e2]
        rfl
  obtain ⟨S1, y6, y7, y8, h1, e1⟩ := loop st 0 0 (a * w0 + b * w1 + r) (S ++ [O.lst [D.p (.int (p - 0)), D.p (.int (q - 0))]]) (some (.p (.tuple [.int p, .int q]))) (some (.p (.tuple [.int a, .int b, .int r]))) (some (.p (.tuple (st.map encS)))) none none none (by omega) (by omega) (h.push (O.lst [D.p (.int (p - 0)), D.p (.int (q - 0))]))
  obtain ⟨S2, h2, e2⟩ := h1.popR h hR (by simp) (.tuple [.tuple [.int (payAll w0 w1 p q st (0, 0, a * w0 + b * w1 + r)).1, .int (payAll w0 w1 p q st (0, 0, a * w0 + b * w1 + r)).2.1], .int (payAll w0 w1 p q st (0, 0, a * w0 + b * w1 + r)).2.2])
  refine ⟨S2, h2, ?_⟩
  have hl : S.length = R.length + 2 := h.len
  have g0 := (h1.setR (y := .raw 0)).1
  have mir : m__law_done = fSeq (fSet 4 (fBin gAdd (fBin gAdd (fBin gMul (fBin gIx (fVar 2) (fCon (.int 0))) (fBin gIx (fVar 0) (fCon (.int 0)))) (fBin gMul (fBin gIx (fVar 2) (fCon (.int 1))) (fBin gIx (fVar 0) (fCon (.int 1))))) (fBin gIx (fVar 2) (fCon (.int 2))))) (fSeq (fSet 5 (fLstO (fCons (fBin gIx (fVar 1) (fCon (.int 0))) (fCons (fBin gIx (fVar 1) (fCon (.int 1))) fNil)))) (fSeq (fFor (fItS (fVar 3)) (gTp 2 (gsCons (gNm 6) (gsCons (gNm 7) gsNil))) body04) (fRet (fTup (fCons (fTup (fCons (fBin gMinus (fBin gIx (fVar 1) (fCon (.int 0))) (fBin gIx (fVar 5) (fCon (.int 0)))) (fCons (fBin gMinus (fBin gIx (fVar 1) (fCon (.int 1))) (fBin gIx (fVar 5) (fCon (.int 1)))) fNil))) (fCons (fVar 4) fNil)))))) := rfl
  rw [mir]
  rw [List.map_map] at e1
  simp only [Int.sub_zero] at e1
  have c1 : ∀ x : Int, p - (p - x) = x := fun x => by omega
  have c2 : ∀ x : Int, q - (q - x) = x := fun x => by omega
  simp [g_ixT, g_ixO, y0, y1, hl, e1, g0, c1, c2, e2]
/-! ### plain: the law's grid -/
def keepB (rows : List Row) (w : Int × Int) : Bool := rows.all fun t => decide (0 ≤ val t w.1 w.2)
theorem keepB_iff {rows : List Row} {a b : Int} : keepB rows (a, b) = true ↔ ∀ t ∈ rows, keepsR a b t := by
  unfold keepB
  rw [List.all_eq_true]
  exact ⟨fun h t ht => by have := of_decide_eq_true (h t ht); exact this, fun h t ht => decide_eq_true (show 0 ≤ val t a b from h t ht)⟩
theorem keeps_keepB {rows : List Row} {a b : Int} (hb : 1 ≤ b) : Keeps rows a b ↔ keepB rows (a, b) = true := by
  rw [keepB_iff]
  exact ⟨fun h => h.2, fun h => ⟨hb, h⟩⟩
theorem keeps_ok {S : Sto} {rows : List Row} {w : Int × Int} (hr : ∀ u ∈ rows, FineR u) : callM 3 m__law_keeps [.p (.tuple (rows.map encT)), .p (encC w)] S = .ok (.p (.bool (keepB rows w))) S := by
  rw [callM_ap 3 _ _ _ (by show 2 ≤ 3; decide)]
  unfold m__law_keeps
  generalize hb : (fIfS _ _ _) = body
  have loop := forL_rt (gg := gNm 2) (body := body) (enc := fun t : Row => D.p (encT t)) (xs := rows)
    (P := fun l ρ St => ∃ y2, ρ = [some (.p (.tuple (rows.map encT))), some (.p (encC w)), y2] ∧ St = S ∧ keepB l w = true)
    (Q := fun d St => d = .p (.bool false) ∧ St = S ∧ keepB rows w = false)
    (fun l t r hx ρ St h => by
      obtain ⟨y2, rfl, rfl, hk⟩ := h
      have ht : FineR t := hr t (by rw [hx]; exact List.mem_append_right _ List.mem_cons_self)
      obtain ⟨h1, h2, h3, h4, _, _⟩ := ht
      have e : callM 2 m__law_at [.p (encT t), .p (encC w)] St = .ok (.p (.int (val t w.1 w.2))) St := at_ok (by omega) (by omega)
      refine ⟨_, rfl, ?_⟩
      subst hb
      by_cases hv : val t w.1 w.2 < 0
      · refine .inr ⟨.p (.bool false), St, by simp [e, hv], rfl, rfl, ?_⟩
        unfold keepB
        rw [hx, List.all_append, List.all_cons, decide_eq_false (by omega)]
        simp
      · refine .inl ⟨[some (.p (.tuple (rows.map encT))), some (.p (encC w)), some (.p (encT t))], St, by simp [e, hv], _, rfl, rfl, ?_⟩
        unfold keepB at hk ⊢
        rw [List.all_append, hk, List.all_cons, decide_eq_true (by omega)]
        rfl)
    (ρ := [some (.p (.tuple (rows.map encT))), some (.p (encC w)), none]) (S := S) ⟨none, rfl, rfl, rfl⟩
  rw [← map_enc] at loop
  rcases loop with ⟨ρ', S', e, y2, rfl, rfl, hk⟩ | ⟨d, S', e, rfl, rfl, hk⟩
  · rw [hk]
    simp [e, -List.map_map]
  · rw [hk]
    simp [e, -List.map_map]
def gridA (rows : List Row) (a : Int) : List (Int × Int) := ((upFrom 1 (8 * a + 39).toNat).map fun b => (a, b)).filter (keepB rows)
def gridF (rows : List Row) (most : Int) : List (Int × Int) := (upFrom 1 most.toNat).flatMap (gridA rows)
theorem grid_ok {S : Sto} {rows : List Row} {most : Int} (hS : LowS S) (hr : ∀ u ∈ rows, FineR u) (h0 : 0 ≤ most) (h1 : most ≤ 30) : callM 5 m__law_grid [.p (.tuple (rows.map encT)), .p (.int most)] S = .ok (.p (.list ((gridF rows most).map encC))) S := by
  rw [callM_ap 5 _ _ _ (by show 2 ≤ 5; decide)]
  unfold m__law_grid
  generalize hb : (fIfS _ _ _) = body
  have gS : ∀ y, (S ++ [y])[S.length]? = some y := fun y => by simp
  have sS : ∀ y z, (S ++ [y]).set S.length z = S ++ [z] := fun y z => by simp
  have inner : ∀ (a : Int) (acc : List PyData) (x4 : Option D), 1 ≤ a → a ≤ 30 → acc.length + 300 < 1000000 → ∃ y4, forL (gNm 4) body ((upFrom 1 (8 * a + 39).toNat).map fun b => D.p (.int b)) [some (.p (.tuple (rows.map encT))), some (.p (.int most)), some (.own S.length), some (.p (.int a)), x4] (S ++ [.lst (acc.map D.p)]) =
      .nx [some (.p (.tuple (rows.map encT))), some (.p (.int most)), some (.own S.length), some (.p (.int a)), y4] (S ++ [.lst ((acc ++ (gridA rows a).map encC).map D.p)]) := by
    intro a acc x4 ha0 ha1 hacc
    have loop := forL_pre (gg := gNm 4) (body := body) (enc := fun b : Int => D.p (.int b)) (xs := upFrom 1 (8 * a + 39).toNat)
      (P := fun l ρ St => ∃ y4, ρ = [some (.p (.tuple (rows.map encT))), some (.p (.int most)), some (.own S.length), some (.p (.int a)), y4] ∧ St = S ++ [.lst ((acc ++ (((l.map fun b => (a, b)).filter (keepB rows)).map encC)).map D.p)])
      (fun l b r hx ρ St h => by
        obtain ⟨y4, rfl, rfl⟩ := h
        have hlen : l.length ≤ 279 := by
          have h2 := congrArg List.length hx
          rw [upFrom_len, List.length_append] at h2
          omega
        have hfl := List.length_filter_le (keepB rows) (l.map fun b => (a, b))
        rw [List.length_map] at hfl
        have hl2 : (acc ++ (((l.map fun b => (a, b)).filter (keepB rows)).map encC)).length < 1000000 := by
          rw [List.length_append, List.length_map]
          omega
        have fo := filt_one (keepB rows) encC acc (l.map fun b => (a, b)) (a, b)
        rw [← List.map_singleton (f := fun b => (a, b)), ← List.map_append] at fo
        refine ⟨_, [some (.p (.tuple (rows.map encT))), some (.p (.int most)), some (.own S.length), some (.p (.int a)), some (.p (.int b))], _, rfl, ?_, some (.p (.int b)), rfl, rfl⟩
        rw [← fo]
        have k := fun S => keeps_ok (S := S) (w := (a, b)) hr
        have ec : encC (a, b) = .tuple [.int a, .int b] := rfl
        generalize acc ++ (((l.map fun b => (a, b)).filter (keepB rows)).map encC) = ac at *
        subst hb
        rw [ec] at k
        by_cases hk : keepB rows (a, b) = true
        · rw [if_pos hk]
          rw [hk] at k
          simp [k, gS, sS, hl2, ec]
        · rw [if_neg hk]
          have hk2 : keepB rows (a, b) = false := by simpa using hk
          rw [hk2] at k
          simp [k])
      (ρ := [some (.p (.tuple (rows.map encT))), some (.p (.int most)), some (.own S.length), some (.p (.int a)), x4]) (S := S ++ [.lst (acc.map D.p)]) ⟨x4, rfl, by simp⟩
    obtain ⟨ρ', S', e, y4, rfl, rfl⟩ := loop
    exact ⟨y4, e⟩
  have glen : ∀ a, 1 ≤ a → a ≤ 30 → (gridA rows a).length ≤ 279 := fun a h2 h3 => by
    unfold gridA
    refine Nat.le_trans (List.length_filter_le _ _) ?_
    rw [List.length_map, upFrom_len]
    omega
  have loop := forL_pre (gg := gNm 3) (body := fFor (fRng2 (fCons (fCon (.int 1)) (fCons (fBin gAdd (fBin gMul (fCon (.int 8)) (fVar 3)) (fCon (.int 40))) fNil))) (gNm 4) body) (enc := fun b : Int => D.p (.int b)) (xs := upFrom 1 most.toNat)
      (P := fun l ρ St => ∃ y3 y4, ρ = [some (.p (.tuple (rows.map encT))), some (.p (.int most)), some (.own S.length), y3, y4] ∧ St = S ++ [.lst (((l.flatMap (gridA rows)).map encC).map D.p)])
      (fun l a r hx ρ St h => by
        obtain ⟨y3, y4, rfl, rfl⟩ := h
        have hm : ∀ x ∈ l ++ [a], 1 ≤ x ∧ x ≤ 30 := fun x hxm => by
          have : x ∈ upFrom 1 most.toNat := by
            rw [hx]
            rcases List.mem_append.mp hxm with h | h
            · exact List.mem_append_left _ h
            · rw [List.mem_singleton.mp h]
              exact List.mem_append_right _ List.mem_cons_self
          rw [mem_upFrom] at this
          omega
        have ha := hm a (List.mem_append_right _ List.mem_cons_self)
        have hlen : l.length ≤ 30 := by
          have h2 := congrArg List.length hx
          rw [upFrom_len, List.length_append] at h2
          omega
        have hfl := flat_len (n := 279) (f := gridA rows) l fun x hxl => by
          have := hm x (List.mem_append_left _ hxl)
          exact glen x this.1 this.2
        obtain ⟨z4, e⟩ := inner a ((l.flatMap (gridA rows)).map encC) y4 ha.1 ha.2 (by rw [List.length_map]; omega)
        refine ⟨_, _, _, rfl, ?_, some (.p (.int a)), z4, rfl, rfl⟩
        rw [flat_one, List.map_append]
        have c1 : -1000000 < 8 * a + 40 ∧ 8 * a + 40 < 1000000 := by omega
        have er : rng 1 ((8 * a + 40).toNat - 1) = (upFrom 1 (8 * a + 39).toNat).map fun b => D.p (.int b) := by
          rw [rngN]
          congr 2
          omega
        simp [c1, er, -List.map_map, -List.map_append]
        exact e)
      (ρ := [some (.p (.tuple (rows.map encT))), some (.p (.int most)), some (.own S.length), none, none]) (S := S ++ [.lst []]) ⟨none, none, rfl, rfl⟩
  obtain ⟨ρ', S', e, y3, y4, rfl, rfl⟩ := loop
  have c1 : -1000000 < most + 1 ∧ most + 1 < 1000000 := by omega
  have er : rng 1 (most + 1 - 1).toNat = (upFrom 1 most.toNat).map fun b => D.p (.int b) := by
    rw [rngN]
    congr 3
    omega
  have tr := hS.trim [O.fz (.p (.list ((gridF rows most).map encC)))] (.list ((gridF rows most).map encC)) (by simp)
  unfold gridF at tr ⊢
  simp only [envOf_s, envOf_n, envOf_0]
  have c2 : (-1000000 : Int) < 1 ∧ (1 : Int) < 1000000 := by decide
  rw [ap_seq, ap_set, ap_lstO, ap_nil, lstOK_ok, if_pos (by decide), setK_ok, seq_nx, ap_seq, ap_for, ap_rng2, ap_cons, ap_con, consK_ok]
  simp only [ap_cons, ap_bin, ap_var, ap_con, ap_nil, List.set_cons_succ, List.set_cons_zero, List.getElem?_cons_succ, List.getElem?_cons_zero, binK_ok, bin2K_ok, g_add, consK_ok, cons2K_ok]
  rw [rng2K_ok, if_pos ⟨c2.1, c2.2, c1.1, c1.2⟩, er, forK_ok, e]
  simp [gS, sS, asPs_map, tr, -List.map_map]
theorem grid_mem {rows : List Row} {most a b : Int} : (a, b) ∈ gridF rows most ↔ (1 ≤ a ∧ a ≤ most) ∧ (1 ≤ b ∧ b ≤ 8 * a + 39) ∧ keepB rows (a, b) = true := by
  unfold gridF gridA
  rw [List.mem_flatMap]
  constructor
  · rintro ⟨x, hx, h⟩
    obtain ⟨h1, h2⟩ := List.mem_filter.mp h
    obtain ⟨y, hy, e⟩ := List.mem_map.mp h1
    obtain ⟨rfl, rfl⟩ := Prod.mk.inj e
    rw [mem_upFrom] at hx hy
    exact ⟨by omega, by omega, h2⟩
  · rintro ⟨h1, h2, h3⟩
    exact ⟨a, mem_upFrom.mpr (by omega), List.mem_filter.mpr ⟨List.mem_map.mpr ⟨b, mem_upFrom.mpr (by omega), rfl⟩, h3⟩⟩
def ltW (v w : Int × Int) : Prop := v.1 < w.1 ∨ (v.1 = w.1 ∧ v.2 < w.2)
theorem upFrom_sorted (b : Int) (n : Nat) : (upFrom b n).Pairwise (· < ·) := by
  unfold upFrom
  rw [List.pairwise_map]
  exact List.Pairwise.imp (fun {x y} h => by omega) List.pairwise_lt_range
theorem grid_sorted (rows : List Row) (most : Int) : (gridF rows most).Pairwise ltW := by
  unfold gridF
  rw [List.pairwise_flatMap]
  constructor
  · intro a _
    unfold gridA
    refine List.Pairwise.filter _ ?_
    rw [List.pairwise_map]
    exact List.Pairwise.imp (fun {x y} h => .inr ⟨rfl, h⟩) (upFrom_sorted _ _)
  · refine List.Pairwise.imp (fun {x y} h v hv w hw => .inl ?_) (upFrom_sorted _ _)
    unfold gridA at hv hw
    obtain ⟨v1, _, rfl⟩ := List.mem_map.mp (List.mem_filter.mp hv).1
    obtain ⟨w1, _, rfl⟩ := List.mem_map.mp (List.mem_filter.mp hw).1
    exact h
/-- the first of the grid is the least -/
theorem grid_sem {rows : List Row} {most N : Int} {P : Int → Int → Prop} {o : Option (Int × Int)} {p : Int × Int → Bool} (h : IsLeast N P o) (hN : most < N) (hK : ∀ a b, 1 ≤ a → 1 ≤ b → P a b → keepB rows (a, b) = true) (hp : ∀ a b, 1 ≤ a → 1 ≤ b → keepB rows (a, b) = true → (p (a, b) = true ↔ P a b)) :
    (∀ w, (gridF rows most).find? p = some w → o = some w) ∧ ((gridF rows most).find? p = none → ∀ a b, o = some (a, b) → (most < a ∧ a < N) ∧ (1 ≤ b ∧ b ≤ 8 * a + 39) ∧ keepB rows (a, b) = true ∧ p (a, b) = true) := by
  have inG : ∀ a b, o = some (a, b) → a ≤ most → (a, b) ∈ gridF rows most ∧ p (a, b) = true := fun a b e hm => by
    obtain ⟨⟨h1, _⟩, ⟨h2, h3⟩, h4⟩ := h.1 a b e
    have hk := hK a b h1 h2 h4
    exact ⟨grid_mem.mpr ⟨⟨h1, hm⟩, ⟨h2, h3⟩, hk⟩, (hp a b h1 h2 hk).mpr h4⟩
  constructor
  · rintro ⟨a, b⟩ e
    obtain ⟨hp1, l, r, hx, hl⟩ := List.find?_eq_some_iff_append.mp e
    have hm : (a, b) ∈ gridF rows most := by rw [hx]; exact List.mem_append_right _ List.mem_cons_self
    obtain ⟨g1, g2, g3⟩ := grid_mem.mp hm
    obtain ⟨x, y, eo, hlt⟩ := h.2 a b g1.1 (by omega) ((hp a b g1.1 g2.1 g3).mp hp1)
    obtain ⟨k1, k2⟩ := inG x y eo (by omega)
    rw [hx] at k1
    rcases List.mem_append.mp k1 with k1 | k1
    · have := hl _ k1
      rw [k2] at this
      cases this
    · rcases List.mem_cons.mp k1 with k1 | k1
      · rw [eo, k1]
      · have s := grid_sorted rows most
        rw [hx] at s
        have := (List.pairwise_cons.mp (List.pairwise_append.mp s).2.1).1 _ k1
        unfold ltW at this
        simp only at this
        omega
  · intro e a b eo
    obtain ⟨⟨h1, hN2⟩, ⟨h2, h3⟩, h4⟩ := h.1 a b eo
    have hk := hK a b h1 h2 h4
    refine ⟨⟨?_, hN2⟩, ⟨h2, h3⟩, hk, (hp a b h1 h2 hk).mpr h4⟩
    by_cases hm : a ≤ most
    · obtain ⟨k1, k2⟩ := inG a b eo hm
      have := List.find?_eq_none.mp e _ k1
      exact absurd k2 this
    · omega
/-! ### plain: what short and lavish mean; what the law's walk answers -/
theorem short_least {rows : List Row} {p : Int × Int} {t : Row} {st : List (Bool × Bool)} (hP : OkP p) (hT : OkT t) (hr : ∀ u ∈ rows, FineR u) : IsLeast 800 (fun a b => Keeps rows a b ∧ 0 < val (leftR t (paidC a b p t st)) a b) (shortF rows p t st) := by
  obtain ⟨g1, _⟩ := leaves_good (rows := rows) hP hT hr st
  refine (leastOf_least (P := fun y a b => Keeps (y.2 ++ [aboveR (leftR t y.1)]) a b) (leavesF rows p t st) fun y hy => leastPt_least fun u hu => ?_).congr ?_ ?_
  · obtain ⟨k1, k2, k3⟩ := g1 y hy
    rcases List.mem_append.mp hu with hu | hu
    · exact k2 u hu
    · rw [List.mem_singleton.mp hu]
      exact (left_fine hP hT k1).2.1
  · rintro a b ha hb ⟨y, hy, hk⟩
    obtain ⟨h1, h2⟩ := keeps_app.mp hk
    obtain ⟨h3, h4⟩ := leaves_mem hP hT hr ha hy h1
    refine ⟨h3, ?_⟩
    have := h2 _ List.mem_cons_self
    rw [keeps_val, val_above] at this
    rw [← h4]
    omega
  · rintro a b ha ha2 ⟨hk, hv⟩
    obtain ⟨y, hy, h1, h2⟩ := leaves_ex (st := st) hP hT hr ha ha2 hk
    refine ⟨y, hy, keeps_app.mpr ⟨h1, fun u hu => ?_⟩⟩
    rw [List.mem_singleton.mp hu, keeps_val, val_above, h2]
    omega
def IsLav (a b : Int) (p : Int × Int) (t : Row) (st : List (Bool × Bool)) : Prop := val (leftR t (paidC a b p t st)) a b ≤ 0 ∧ ∃ o, OkC p o ∧ val t a b ≤ o.1 * a + o.2 * b ∧ o.1 * a + o.2 * b < val t a b - val (leftR t (paidC a b p t st)) a b
theorem val_left {a b : Int} {t : Row} {c : Int × Int} : val (leftR t c) a b = val t a b - (c.1 * a + c.2 * b) := by
  simp only [val, leftR, Int.sub_mul]
  omega
theorem lavish_least {rows : List Row} {p : Int × Int} {t : Row} {st : List (Bool × Bool)} (hP : OkP p) (hT : OkT t) (hr : ∀ u ∈ rows, FineR u) : IsLeast 800 (fun a b => Keeps rows a b ∧ IsLav a b p t st) (lavishF rows p t st) := by
  obtain ⟨g1, _⟩ := leaves_good (rows := rows) hP hT hr st
  have hmem : ∀ z, z ∈ lavL rows p t st ↔ z.1 ∈ leavesF rows p t st ∧ OkC p z.2 ∧ (0 < z.1.1.1 - z.2.1 ∨ 0 < z.1.1.2 - z.2.2) := by
    rintro ⟨y, o⟩
    unfold lavL lavO
    rw [List.mem_flatMap]
    constructor
    · rintro ⟨x, hx, h⟩
      obtain ⟨q, hq, e⟩ := List.mem_map.mp h
      obtain ⟨rfl, rfl⟩ := Prod.mk.inj e
      obtain ⟨h1, h2⟩ := List.mem_filter.mp hq
      rw [Bool.or_eq_true, decide_eq_true_eq, decide_eq_true_eq] at h2
      exact ⟨hx, (mem_allC hP).mp h1, h2⟩
    · rintro ⟨hx, h1, h2⟩
      exact ⟨y, hx, List.mem_map.mpr ⟨o, List.mem_filter.mpr ⟨(mem_allC hP).mpr h1, by rw [Bool.or_eq_true, decide_eq_true_eq, decide_eq_true_eq]; exact h2⟩, rfl⟩⟩
  have hval : ∀ (y : Crs) (o : Int × Int) (a b : Int), (∀ u ∈ [belowR (leftR t y.1), belowR (leftR t o), (y.1.1 - o.1, y.1.2 - o.2, -1)], keepsR a b u) ↔ (val (leftR t y.1) a b ≤ 0 ∧ val t a b ≤ o.1 * a + o.2 * b ∧ o.1 * a + o.2 * b < val t a b - val (leftR t y.1) a b) := by
    intro y o a b
    have e3 : val (y.1.1 - o.1, y.1.2 - o.2, -1) a b = (y.1.1 * a + y.1.2 * b) - (o.1 * a + o.2 * b) - 1 := by
      simp only [val, Int.sub_mul]
      omega
    constructor
    · intro h
      have h1 := h _ List.mem_cons_self
      have h2 := h _ (List.mem_cons_of_mem _ List.mem_cons_self)
      have h3 := h _ (List.mem_cons_of_mem _ (List.mem_cons_of_mem _ List.mem_cons_self))
      rw [keeps_val, val_below, val_left] at h1 h2
      rw [keeps_val, e3] at h3
      rw [val_left]
      omega
    · rintro ⟨h1, h2, h3⟩ u hu
      rw [val_left] at h1 h3
      rcases List.mem_cons.mp hu with rfl | hu
      · rw [keeps_val, val_below, val_left]
        omega
      · rcases List.mem_cons.mp hu with rfl | hu
        · rw [keeps_val, val_below, val_left]
          omega
        · rw [List.mem_singleton.mp hu, keeps_val, e3]
          omega
  refine (leastOf_least (P := fun z a b => Keeps (lavP p t z.1 z.2) a b) (lavL rows p t st) fun z hz => leastPt_least ?_).congr ?_ ?_
  · obtain ⟨h1, h2, _⟩ := (hmem z).mp hz
    obtain ⟨k1, k2, k3⟩ := g1 _ h1
    exact lav_fine hP hT k1 k2 h2
  · rintro a b ha hb ⟨⟨y, o⟩, hz, hk⟩
    obtain ⟨h1, h2, _⟩ := (hmem _).mp hz
    obtain ⟨k1, k2⟩ := keeps_app.mp hk
    obtain ⟨k3, k4⟩ := leaves_mem hP hT hr ha h1 k1
    have k4 : y.1 = _ := k4
    have k5 := (hval y o a b).mp k2
    rw [k4] at k5
    exact ⟨k3, k5.1, o, h2, k5.2⟩
  · rintro a b ha ha2 ⟨hk, hv, o, ho, h1, h2⟩
    obtain ⟨y, hy, k1, k2⟩ := leaves_ex (st := st) hP hT hr ha ha2 hk
    rw [← k2] at hv h2
    refine ⟨(y, o), (hmem _).mpr ⟨hy, ho, ?_⟩, keeps_app.mpr ⟨k1, (hval y o a b).mpr ⟨hv, h1, h2⟩⟩⟩
    rw [val_left] at h2
    show 0 < y.1.1 - o.1 ∨ 0 < y.1.2 - o.2
    by_cases c1 : 0 < y.1.1 - o.1
    · exact .inl c1
    · by_cases c2 : 0 < y.1.2 - o.2
      · exact .inr c2
      · have m1 : y.1.1 * a ≤ o.1 * a := Int.mul_le_mul_of_nonneg_right (by omega) (by omega)
        have m2 : y.1.2 * b ≤ o.2 * b := Int.mul_le_mul_of_nonneg_right (by omega) (by have := hk.1; omega)
        omega
theorem done_paid {R S : Sto} {a b : Int} {p : Int × Int} {t : Row} {st : List (Bool × Bool)} (hR : LowR R) (h : IsH R S) (ha : 1 ≤ a ∧ a ≤ 1000000000) (hb : 1 ≤ b ∧ b ≤ 1000000000) (hP : OkP p) :
    ∃ S', IsH R S' ∧ callM 9 m__law_done [.p (encC (a, b)), .p (encC p), .p (encT t), .p (.tuple (st.map encS))] S = .ok (.p (.tuple [encC (paidC a b p t st), .int (val (leftR t (paidC a b p t st)) a b)])) S' := by
  obtain ⟨S', h', e⟩ := done_ok (p := p.1) (q := p.2) (a := t.1) (b := t.2.1) (r := t.2.2) (st := st) hR h ha hb ⟨hP.1, hP.2.1⟩ ⟨hP.2.2.1, hP.2.2.2⟩
  rw [pay_paid] at e
  exact ⟨S', h', e⟩
/-! ### plain: a world that is drawn; comparing worths -/
theorem encP_some (w : Int × Int) : encP (some w) = encC w := by
  obtain ⟨a, b⟩ := w
  rfl
theorem shaped_C (w : Int × Int) : SeqAt.shaped (encC w) = true := rfl
theorem shaped_P (o : Option (Int × Int)) : SeqAt.shaped (encP o) = true := by
  cases o with
  | none => rfl
  | some w => obtain ⟨a, b⟩ := w; rfl
theorem ne_same {S : Sto} (w : Int × Int) : gNe (.p (encC w)) (.p (encC w)) S = .ok (.p (.bool false)) S := by
  rw [g_ne (by rw [shaped_C]; rfl)]
  simp [encC, PyData.eqv, PyData.eqvAll]
theorem eqv_C (v w : Int × Int) : PyData.eqv (encC v) (encC w) = decide (v = w) := by
  obtain ⟨a, b⟩ := v
  obtain ⟨c, d⟩ := w
  simp only [encC, PyData.eqv, PyData.eqvAll, Bool.and_true, Prod.mk.injEq]
  by_cases h1 : a = c
  · by_cases h2 : b = d
    · simp [h1, h2]
    · simp [h1, h2]
  · simp [h1]
theorem ne_C {S : Sto} (v w : Int × Int) : gNe (.p (encC v)) (.p (encC w)) S = .ok (.p (.bool (!decide (v = w)))) S := by
  rw [g_ne (by rw [shaped_C, shaped_C]; rfl), eqv_C]
theorem eq_C {S : Sto} (v w : Int × Int) : gEq (.p (encC v)) (.p (encC w)) S = .ok (.p (.bool (decide (v = w)))) S := by
  rw [g_eq (by rw [shaped_C, shaped_C]; rfl), eqv_C]
theorem facts_stand {rows : List Row} {a b : Int} (h : ∀ t ∈ rows, FactR t ∧ keepsR a b t) (ha : 1 ≤ a ∧ a ≤ 9) (hb : 1 ≤ b) : ∃ w, leastPt rows = some w := by
  cases e : leastPt rows with
  | some w => exact ⟨w, rfl⟩
  | none => exact absurd ⟨hb, fun t ht => (h t ht).2⟩ (leastPt_none e ha.1 (by omega))
theorem isN_P {S : Sto} (o : Option (Int × Int)) : gIsN (.p (encP o)) (.p .none) S = .ok (.p (.bool o.isNone)) S := by
  cases o with
  | none => rfl
  | some w => obtain ⟨a, b⟩ := w; rfl
theorem notN_P {S : Sto} (o : Option (Int × Int)) : gNotN (.p (encP o)) (.p .none) S = .ok (.p (.bool o.isSome)) S := by
  cases o with
  | none => rfl
  | some w => obtain ⟨a, b⟩ := w; rfl
theorem find_one {α : Type} (p : α → Bool) (l : List α) (x : α) : (l ++ [x]).find? p = if (l.find? p).isNone = true ∧ p x = true then some x else l.find? p := by
  rw [List.find?_append]
  cases h : l.find? p with
  | some y => rfl
  | none =>
    by_cases hp : p x = true
    · rw [if_pos ⟨rfl, hp⟩, List.find?_cons_of_pos hp]
      rfl
    · rw [if_neg fun z => hp z.2, List.find?_cons_of_neg hp]
      rfl
@[simp] theorem isN_encP (o : Option (Int × Int)) : isN (.p (encP o)) = o.isNone := by
  cases o with
  | none => rfl
  | some w => obtain ⟨a, b⟩ := w; rfl
@[simp] theorem isN_encC (w : Int × Int) : isN (.p (encC w)) = false := rfl
/-! ### plain: a world made of facts, or NoWorths -/
def newW (S : Sto) (rows : List Row) : Res D := match leastPt rows with
  | some w => .ok (.wld (.tuple (rows.map encT)) (encP (some w))) S
  | none => .exc "NoWorths" [] S
theorem world_new {S : Sto} {rows : List Row} (hS : LowS S) (hl : rows.length ≤ 4) (hf : ∀ t ∈ rows, FactR t) :
    mkW (callM 5 m_World___init__) [.p (.tuple (rows.map encT))] S = newW S rows := by
  have low : S.all (O.low S.length) = true := hS
  have loop : ∀ (l : List Row) (k : Nat) (S : Sto) (r0 r1 r2 r3 r4 : Option D), (∀ t ∈ l, FactR t) → ∃ y2 y3, forL (gTp 2 (gsCons (gNm 2) (gsCons (gNm 3) gsNil))) (fIfS (fNot (fCall (callM 1 m_is_fact) (fCons (fVar 3) fNil))) (fRaise1 ("InvalidFact" : PySem.Str) (fVar 2)) fPass) (enuL k (l.map encT)) [r0, r1, r2, r3, r4] S = .nx [r0, r1, y2, y3, r4] S := by
    intro l
    induction l with
    | nil => exact fun k S r0 r1 r2 r3 r4 _ => ⟨r2, r3, rfl⟩
    | cons t l ih =>
      intro k S r0 r1 r2 r3 r4 h
      obtain ⟨y2, y3, e⟩ := ih (k + 1) S r0 r1 (some (.p (.int (k : Int)))) (some (.p (encT t))) r4 fun u hu => h u (List.mem_cons_of_mem _ hu)
      refine ⟨y2, y3, ?_⟩
      rw [List.map_cons, enuL]
      simp [fact_yes (h t List.mem_cons_self), e]
  obtain ⟨X, hX⟩ : ∃ X, X = S ++ [O.odx (S.length + 1), O.raw S.length] := ⟨_, rfl⟩
  have g0 : X[S.length]? = some (.odx (S.length + 1)) := by rw [hX]; simp
  have g1 : X[S.length + 1]? = some (.raw S.length) := by rw [hX]; simp
  have st : ∀ x y, (X.set S.length x).set (S.length + 1) y = S ++ [x, y] := fun x y => by rw [hX]; simp
  have tk : X.take S.length = S := by rw [hX]; exact List.take_left
  obtain ⟨y2, y3, e⟩ := loop rows 0 X (some (.own (S.length + 1))) (some (.p (.tuple (rows.map encT)))) none none none hf
  have lp := least_point_ok (S := X) (rd := .tuple (rows.map encT)) (fun t ht => (hf t ht).small) (.inl rfl)
  have h4 : ¬ (4 : Int) < rows.length := by omega
  unfold newW mkW
  rw [← hX]
  cases hw : leastPt rows with
  | none =>
    rw [hw] at lp
    have n1 : encP none = PyData.none := rfl
    rw [n1] at lp
    have body : callM 5 m_World___init__ (D.own (S.length + 1) :: [D.p (.tuple (rows.map encT))]) X = .exc "NoWorths" [] X := by
      rw [callM_ap 5 _ _ _ (by show 2 ≤ 5; decide)]
      simp [m_World___init__, h4, e, lp, -List.map_map]
      try exact if_pos rfl
    rw [body]
    show (if (X.take S.length).all (O.low S.length) = true then Res.exc _ _ (X.take S.length) else .bad) = _
    rw [tk, if_pos low]
  | some w =>
    rw [hw] at lp
    have ne : gIsN (.p (encP (some w))) (.p .none) X = .ok (.p (.bool false)) X := rfl
    have fin : fNewW 0 1 4 [some (.own (S.length + 1)), some (.p (.tuple (rows.map encT))), y2, y3, some (.p (encP (some w)))] X = .nx [some (.own (S.length + 1)), some (.p (.tuple (rows.map encT))), y2, y3, some (.p (encP (some w)))] (S ++ [.gone, .fz (.wld (.tuple (rows.map encT)) (encP (some w)))]) := by
      show (match X[S.length + 1]? with
        | some (.raw j) => (match X[j]? with
          | some (.odx _) => .nx _ ((X.set j .gone).set (S.length + 1) (.fz (.wld (.tuple (rows.map encT)) (encP (some w)))))
          | _ => .bad)
        | _ => .bad : Fl) = _
      rw [g1]
      show (match X[S.length]? with
          | some (.odx _) => .nx _ ((X.set S.length .gone).set (S.length + 1) (.fz (.wld (.tuple (rows.map encT)) (encP (some w)))))
          | _ => .bad : Fl) = _
      rw [g0]
      show Fl.nx _ _ = _
      rw [st]
    have body : callM 5 m_World___init__ (D.own (S.length + 1) :: [D.p (.tuple (rows.map encT))]) X = .ok (.p .none) (S ++ [.gone, .fz (.wld (.tuple (rows.map encT)) (encP (some w)))]) := by
      rw [callM_ap 5 _ _ _ (by show 2 ≤ 5; decide)]
      simp [m_World___init__, h4, e, lp, ne, fin, -List.map_map]
      exact trim_same (by rw [hX]; simp)
    rw [body]
    show (match (S ++ [O.gone, .fz (.wld (.tuple (rows.map encT)) (encP (some w)))])[S.length + 1]? with
      | some (.fz (.wld d l)) => if ((S ++ [O.gone, .fz (.wld (.tuple (rows.map encT)) (encP (some w)))]).take S.length).all (O.low S.length) = true ∧ S.length ≤ (S ++ [O.gone, .fz (.wld (.tuple (rows.map encT)) (encP (some w)))]).length then .ok (.wld d l) ((S ++ [O.gone, .fz (.wld (.tuple (rows.map encT)) (encP (some w)))]).take S.length) else .bad
      | _ => .bad : Res D) = _
    have g2 : (S ++ [O.gone, .fz (.wld (.tuple (rows.map encT)) (encP (some w)))])[S.length + 1]? = some (.fz (.wld (.tuple (rows.map encT)) (encP (some w)))) := by simp
    rw [g2]
    show (if ((S ++ [O.gone, .fz (.wld (.tuple (rows.map encT)) (encP (some w)))]).take S.length).all (O.low S.length) = true ∧ S.length ≤ (S ++ [O.gone, .fz (.wld (.tuple (rows.map encT)) (encP (some w)))]).length then Res.ok (D.wld _ _) ((S ++ [O.gone, .fz (.wld (.tuple (rows.map encT)) (encP (some w)))]).take S.length) else .bad) = _
    rw [List.take_left, if_pos ⟨low, by simp⟩]
theorem and_so_ok {S : Sto} {rows : List Row} {f : Row} {l : PyData} (hS : LowS S) (hl : rows.length ≤ 3) (hf : ∀ t ∈ rows, FactR t) (ff : FactR f) :
    callM 2 m_World_and_so [.wld (.tuple (rows.map encT)) l, .p (encT f)] S = newW S (rows ++ [f]) := by
  rw [callM_ap 2 _ _ _ (by show 2 ≤ 2; decide)]
  have wn := world_new (S := S) (rows := rows ++ [f]) hS (by simp; omega) (fun u hu => (List.mem_append.mp hu).elim (hf u) fun h => by rw [List.mem_singleton.mp h]; exact ff)
  have e1 : (rows ++ [f]).map encT = rows.map encT ++ [encT f] := by simp
  rw [e1] at wn
  have h4 : ¬ (rows.length : Int) = 4 := by omega
  have ap1 : asPs ((rows.map encT).map D.p ++ [D.p (encT f)]) = some (rows.map encT ++ [encT f]) := by
    have : (rows.map encT).map D.p ++ [D.p (encT f)] = (rows.map encT ++ [encT f]).map D.p := by simp
    rw [this, asPs_map]
  have nc := wn
  have k1 : rows.length + 1 < 1000000 := by omega
  unfold newW at nc ⊢
  cases hw : leastPt (rows ++ [f]) with
  | none =>
    rw [hw] at nc
    simp [m_World_and_so, h4, fact_yes ff, ap1, nc, k1, -List.map_map]
    try exact if_pos rfl
  | some w =>
    rw [hw] at nc
    simp [m_World_and_so, h4, fact_yes ff, ap1, nc, k1, -List.map_map]
    try exact if_pos rfl
/-! ### plain: texts, sign by sign -/
section
open TL
theorem tl_nl : tl ("\n" : Str) = [10] := by decide +kernel
theorem tl_bl : tl (" " : Str) = [32] := by decide +kernel
theorem tl_e : tl ("" : Str) = [] := by decide +kernel
theorem str_e {x : Str} : tl x = [] ↔ x = ("" : Str) := ⟨fun h => ext_tl (h.trans tl_e.symm), fun h => by rw [h, tl_e]⟩
def numS (i : Int) : Str := Str.ofString (toString i)
def wordB (x : Str) : Bool := (tl x).all (fun c => decide (c ≠ 32) && (decide (c ≠ 10) && decide (c < 128))) && (!(tl x).isEmpty && decide (x.length ≤ 4))
def numB (i : Int) : Bool := decide (PySem.intText? (numS i) = some i) && wordB (numS i)
theorem nums_all : ((List.range 25).map fun k => numB ((k : Nat) - 12 : Int)).all id = true := by decide +kernel
theorem num_at {i : Int} (h : -12 ≤ i ∧ i ≤ 12) : numB i = true := by
  have z := List.all_eq_true.mp nums_all (numB (((i + 12).toNat : Nat) - 12 : Int)) (List.mem_map.mpr ⟨(i + 12).toNat, List.mem_range.mpr (by omega), rfl⟩)
  rw [show (((i + 12).toNat : Nat) - 12 : Int) = i by omega] at z
  exact z
theorem num_int {i : Int} (h : -12 ≤ i ∧ i ≤ 12) : PySem.intText? (numS i) = some i := of_decide_eq_true (Bool.and_eq_true_iff.mp (num_at h)).1
theorem num_word {i : Int} (h : -12 ≤ i ∧ i ≤ 12) : wordB (numS i) = true := (Bool.and_eq_true_iff.mp (num_at h)).2
theorem fact_word : wordB "fact" = true := by decide +kernel
theorem none_word : wordB "none" = true := by decide +kernel
theorem word_ne {x : Str} (h : wordB x = true) : tl x ≠ [] := fun e => by
  unfold wordB at h
  rw [e] at h
  simp at h
theorem word_free {x : Str} (h : wordB x = true) : 32 ∉ tl x ∧ 10 ∉ tl x := by
  unfold wordB at h
  rw [Bool.and_eq_true, List.all_eq_true] at h
  constructor <;> (intro hm; simpa using h.1 _ hm)
def okS (x : Str) : Prop := ∀ c ∈ tl x, c < 1114112
theorem strOk_of {x : Str} (h : okS x) : PyData.strOk x = true := by
  unfold PyData.strOk
  rw [← Array.all_toList, List.all_eq_true]
  exact fun c hc => decide_eq_true (h c hc)
theorem sh_S {x : Str} (h : okS x) : SeqAt.shaped (.str x) = true := by
  unfold SeqAt.shaped
  rw [Bool.and_eq_true]
  exact ⟨strOk_of h, rfl⟩
theorem word_ok {x : Str} (h : wordB x = true) : okS x := fun c hc => by
  unfold wordB at h
  rw [Bool.and_eq_true, List.all_eq_true] at h
  have := h.1 c hc
  simp only [Bool.and_eq_true, decide_eq_true_eq] at this
  omega
theorem word_len {x : Str} (h : wordB x = true) : x.length ≤ 4 := by
  unfold wordB at h
  simp only [Bool.and_eq_true, decide_eq_true_eq] at h
  exact h.2.2
theorem eqv_S (x y : Str) : PyData.eqv (.str x) (.str y) = decide (x = y) := by
  simp only [PyData.eqv]
  by_cases h : x = y
  · rw [h, decide_eq_true rfl]
    exact beq_self_eq_true y
  · rw [decide_eq_false h]
    exact beq_eq_false_iff_ne.mpr h
def pz (l : List Nat) : List (List Nat) := (spl [32] 0 [] l).filter fun p => !p.isEmpty
theorem pz_nil : pz [] = [] := rfl
theorem pz_bl (l : List Nat) : pz (32 :: l) = pz l := by
  have z := spl_part1 (s := 32) (S := []) (p := []) (rest := l) (acc := []) (by simp)
  have z : spl [32] 0 [] (32 :: l) = [] :: spl [32] 0 [] l := z
  unfold pz
  rw [z]
  rfl
theorem pz_word {w l : List Nat} (h : 32 ∉ w) (hw : w ≠ []) : pz (w ++ 32 :: l) = w :: pz l := by
  have z := spl_part1 (s := 32) (S := []) (p := w) (rest := l) (acc := []) h
  have z : spl [32] 0 [] (w ++ 32 :: l) = w :: spl [32] 0 [] l := z
  unfold pz
  rw [z, List.filter_cons_of_pos (by cases w with | nil => exact absurd rfl hw | cons _ _ => rfl)]
theorem pz_bls (n : Nat) (l : List Nat) : pz (List.replicate n 32 ++ l) = pz l := by
  induction n with
  | zero => rfl
  | succ n ih => rw [List.replicate_succ, List.cons_append, pz_bl, ih]
def pcs (r : Str) : List Str := (Txt.split r " ").filter fun x => !PyData.eqv (.str x) (.str "")
theorem pcs_pz (r : Str) : (pcs r).map tl = pz (tl r) := by
  have h := split_spl r " " (by rw [tl_bl]; simp) (kind_ok (by decide +kernel))
  rw [tl_bl] at h
  unfold pcs pz
  rw [← h, List.filter_map]
  congr 1
  refine List.filter_congr fun x _ => ?_
  have e := eqv_S x ""
  rw [e]
  show (!decide (x = "")) = !(tl x).isEmpty
  by_cases hx : x = ("" : Str)
  · rw [decide_eq_true hx, str_e.mpr hx]
    rfl
  · rw [decide_eq_false hx]
    cases ht : tl x with
    | nil => exact absurd (str_e.mp ht) hx
    | cons _ _ => rfl
theorem pcs_of {r : Str} {ws : List Str} (h : pz (tl r) = ws.map tl) : pcs r = ws := map_tl_inj ((pcs_pz r).trans h)
theorem joinL_len (S : List Nat) : ∀ ps : List (List Nat), (joinL S ps).length ≤ (ps.map (·.length)).sum + ps.length * S.length
  | [] => by simp [joinL]
  | [p] => by simp [joinL]
  | p :: q :: r => by
    have ih := joinL_len S (q :: r)
    show (p ++ (S ++ joinL S (q :: r))).length ≤ _
    simp only [List.length_append, List.map_cons, List.sum_cons, List.length_cons] at ih ⊢
    have : (r.length + 1 + 1) * S.length = (r.length + 1) * S.length + S.length := by rw [Nat.add_mul (r.length + 1) 1, Nat.one_mul]
    omega
theorem joinL_mem {S : List Nat} {c : Nat} : ∀ {ps : List (List Nat)}, c ∈ joinL S ps → c ∈ S ∨ ∃ p ∈ ps, c ∈ p
  | [], hm => by cases hm
  | [p], hm => .inr ⟨p, List.mem_cons_self, hm⟩
  | p :: q :: r, hm => by
    have hm : c ∈ p ++ (S ++ joinL S (q :: r)) := hm
    rcases List.mem_append.mp hm with hm | hm
    · exact .inr ⟨p, List.mem_cons_self, hm⟩
    · rcases List.mem_append.mp hm with hm | hm
      · exact .inl hm
      · rcases joinL_mem hm with h | ⟨z, hz, h⟩
        · exact .inl h
        · exact .inr ⟨z, List.mem_cons_of_mem _ hz, h⟩
theorem joinL_free {s : Nat} {S : List Nat} (hS : s ∉ S) {ps : List (List Nat)} (h : ∀ p ∈ ps, s ∉ p) : s ∉ joinL S ps := fun hm => by
  rcases joinL_mem hm with z | ⟨p, hp, z⟩
  · exact hS z
  · exact h p hp z
theorem join_okS {y : Str} (hy : okS y) {ps : List Str} (h : ∀ p ∈ ps, okS p) : okS (Txt.join y ps) := fun c hc => by
  rw [join_eq, tl_join] at hc
  rcases joinL_mem hc with z | ⟨p, hp, z⟩
  · exact hy c z
  · obtain ⟨x, hx, rfl⟩ := List.mem_map.mp hp
    exact h x hx c z
theorem okS_bl : okS " " := fun c hc => by
  rw [tl_bl] at hc
  obtain rfl := List.mem_singleton.mp hc
  decide
theorem okS_nl : okS "\n" := fun c hc => by
  rw [tl_nl] at hc
  obtain rfl := List.mem_singleton.mp hc
  decide
theorem spl_mem (S : List Nat) : ∀ (l : List Nat) (k : Nat) (acc p : List Nat), p ∈ spl S k acc l → ∀ c ∈ p, c ∈ acc ∨ c ∈ l
  | [], k, acc, p, h, c, hc => by
    rw [spl_nil] at h
    obtain rfl := List.mem_singleton.mp h
    exact .inl hc
  | a :: r, 0, acc, p, h, c, hc => by
    by_cases hp : pre S (a :: r) = true
    · rw [spl_hit hp] at h
      rcases List.mem_cons.mp h with rfl | h
      · exact .inl hc
      · rcases spl_mem S r _ _ p h c hc with z | z
        · cases z
        · exact .inr (List.mem_cons_of_mem _ z)
    · rw [spl_miss (by simpa using hp)] at h
      rcases spl_mem S r _ _ p h c hc with z | z
      · rcases List.mem_append.mp z with z | z
        · exact .inl z
        · exact .inr (List.mem_singleton.mp z ▸ List.mem_cons_self)
      · exact .inr (List.mem_cons_of_mem _ z)
  | a :: r, k + 1, acc, p, h, c, hc => by
    rcases spl_mem S r k acc p h c hc with z | z
    · exact .inl z
    · exact .inr (List.mem_cons_of_mem _ z)
theorem split_okS {x y : Str} (hy : tl y ≠ []) (hk : y.cps.all (· < 256) = true) (hx : okS x) {p : Str} (hp : p ∈ Txt.split x y) : okS p := fun c hc => by
  have h := split_spl x y hy (kind_ok hk)
  have hm : tl p ∈ spl (tl y) 0 [] (tl x) := h ▸ List.mem_map.mpr ⟨p, hp, rfl⟩
  rcases spl_mem _ _ _ _ _ hm c hc with z | z
  · cases z
  · exact hx c z
/-- a row's words, a row -/
def wsT (t : Row) : List Str := ["fact", numS t.1, numS t.2.1, numS t.2.2]
theorem wsT_word {t : Row} (h : FactR t) : ∀ x ∈ wsT t, wordB x = true := by
  unfold FactR at h
  intro x hx
  rcases List.mem_cons.mp hx with rfl | hx
  · exact fact_word
  rcases List.mem_cons.mp hx with rfl | hx
  · exact num_word (by omega)
  rcases List.mem_cons.mp hx with rfl | hx
  · exact num_word (by omega)
  rcases List.mem_cons.mp hx with rfl | hx
  · exact num_word (by omega)
  · cases hx
def rowW (ws : List Str) : Str := Txt.join " " ws
theorem rowW_split {ws : List Str} (hn : ws ≠ []) (h : ∀ x ∈ ws, wordB x = true) : Txt.split (rowW ws) " " = ws := split_join tl_bl (by decide +kernel) hn fun p hp => (word_free (h p hp)).1
theorem words_full {ws : List Str} (h : ∀ x ∈ ws, wordB x = true) : (ws.filter fun x => !PyData.eqv (.str x) (.str "")) = ws := List.filter_eq_self.mpr fun x hx => by
  have e := eqv_S x ""
  rw [e, decide_eq_false fun z => word_ne (h x hx) (str_e.mpr z)]
  rfl
theorem rowW_pcs {ws : List Str} (hn : ws ≠ []) (h : ∀ x ∈ ws, wordB x = true) : pcs (rowW ws) = ws := by
  unfold pcs
  rw [rowW_split hn h, words_full h]
theorem tl_rowW (ws : List Str) : tl (rowW ws) = joinL [32] (ws.map tl) := by
  unfold rowW
  rw [join_eq, tl_join, tl_bl]
theorem rowW_free {ws : List Str} (h : ∀ x ∈ ws, wordB x = true) : 10 ∉ tl (rowW ws) := by
  rw [tl_rowW]
  refine joinL_free (by decide) fun p hp => ?_
  obtain ⟨x, hx, rfl⟩ := List.mem_map.mp hp
  exact (word_free (h x hx)).2
theorem sum_le (k : Nat) : ∀ l : List Nat, (∀ x ∈ l, x ≤ k) → l.sum ≤ l.length * k
  | [], _ => Nat.zero_le _
  | x :: l, h => by
    have ih := sum_le k l fun y hy => h y (List.mem_cons_of_mem _ hy)
    have hx := h x List.mem_cons_self
    rw [List.sum_cons, List.length_cons, Nat.add_mul, Nat.one_mul]
    omega
theorem rowW_len {ws : List Str} (h : ∀ x ∈ ws, wordB x = true) : (rowW ws).length ≤ ws.length * 5 := by
  rw [len_tl, tl_rowW]
  have h1 := joinL_len [32] (ws.map tl)
  have h2 := sum_le 4 ((ws.map tl).map (·.length)) fun x hx => by
    obtain ⟨p, hp, rfl⟩ := List.mem_map.mp hx
    obtain ⟨y, hy, rfl⟩ := List.mem_map.mp hp
    show (tl y).length ≤ 4
    rw [← len_tl]
    exact word_len (h y hy)
  simp only [List.length_map, List.length_cons, List.length_nil] at h1 h2
  omega
/-- blanks -/
def blS (n : Int) : Str := Txt.mul " " n
theorem tl_blS {n : Int} (h : 0 ≤ n ∧ n ≤ 3) : tl (blS n) = List.replicate n.toNat 32 := by
  have : n = 0 ∨ n = 1 ∨ n = 2 ∨ n = 3 := by omega
  rcases this with rfl | rfl | rfl | rfl <;> decide +kernel
end
/-! ### plain: a world is written -/
section
open TL
theorem canLay_T2 : ∀ l : List Row, PyData.canLayAll0 (l.map encT) = true
  | [] => rfl
  | t :: l => by
    rw [List.map_cons, PyData.canLayAll0, canLay_T2 l]
    rfl
theorem depth_T2 : ∀ l : List Row, PyData.depthAll (l.map encT) ≤ 10
  | [] => by show 0 ≤ 10; omega
  | t :: l => by
    have ih := depth_T2 l
    have e : PyData.depth (encT t) ≤ 10 := by simp [encT, PyData.depth, PyData.depthAll]
    rw [List.map_cons, PyData.depthAll]
    omega
theorem shaped_TT (l : List Row) : SeqAt.shaped (.tuple (l.map encT)) = true := by
  unfold SeqAt.shaped
  rw [Bool.and_eq_true]
  refine ⟨canLay_T2 l, decide_eq_true ?_⟩
  have := depth_T2 l
  show PyData.depthAll _ + 1 ≤ 64
  omega
theorem str_ok {S : Sto} {i : Int} (h : -12 ≤ i ∧ i ≤ 12) : gStr [.p (.int i)] S = .ok (.p (.str (numS i))) S := by
  unfold gStr
  have c : -1000 < i ∧ i < 1000 := by omega
  show (if -1000 < i ∧ i < 1000 then Res.ok (D.p (.str (numS i))) S else .bad) = _
  rw [if_pos c]
theorem strsOf_map : ∀ ys : List Str, strsOf (ys.map PyData.str) = some ys
  | [] => rfl
  | y :: ys => by
    show (strsOf (ys.map PyData.str)).map (y :: ·) = _
    rw [strsOf_map ys]
    rfl
theorem join_ok {S : Sto} {a : Str} {ys : List Str} (h : (ys.map (·.length)).sum + ys.length * a.length < 1000000) : gJoin a (.p (.list (ys.map PyData.str))) S = .ok (.p (.str (Txt.join a ys))) S := by
  unfold gJoin
  show (match strsOf (ys.map PyData.str) with
    | some ys => if (ys.map fun x : Str => x.length).sum + ys.length * a.length < lim then Res.ok (D.p (.str (Txt.join a ys))) S else .bad
    | none => .bad) = _
  rw [strsOf_map]
  exact if_pos h
theorem len_bl : (" " : Str).length = 1 := by decide +kernel
theorem len_nl : ("\n" : Str).length = 1 := by decide +kernel
theorem sum_words {ws : List Str} (h : ∀ x ∈ ws, wordB x = true) : (ws.map fun x : Str => x.length).sum ≤ ws.length * 4 := by
  have := sum_le 4 (ws.map fun x : Str => x.length) fun x hx => by
    obtain ⟨y, hy, rfl⟩ := List.mem_map.mp hx
    exact word_len (h y hy)
  simpa using this
theorem join_words {S : Sto} {ws : List Str} (h : ∀ x ∈ ws, wordB x = true) (hl : ws.length ≤ 10) : gJoin " " (.p (.list (ws.map PyData.str))) S = .ok (.p (.str (rowW ws))) S := by
  have := sum_words h
  exact join_ok (by rw [len_bl]; omega)
def txtW (rows : List Row) : Str := if rows = [] then "none" else Txt.join "\n" (rows.map fun t => rowW (wsT t))
theorem join_rows {S : Sto} {ls : List Str} (hl : ls.length ≤ 4) (h : ∀ x ∈ ls, x.length ≤ 100) : gJoin "\n" (.p (.list (ls.map PyData.str))) S = .ok (.p (.str (Txt.join "\n" ls))) S := by
  have := sum_le 100 (ls.map fun x : Str => x.length) fun x hx => by
    obtain ⟨y, hy, rfl⟩ := List.mem_map.mp hx
    exact h y hy
  rw [List.length_map] at this
  exact join_ok (by rw [len_nl]; omega)
theorem row_short {t : Row} (h : FactR t) : (rowW (wsT t)).length ≤ 100 := by
  have := rowW_len (wsT_word h)
  have e : (wsT t).length = 4 := rfl
  omega
theorem factR_12 {t : Row} (h : FactR t) : (-12 ≤ t.1 ∧ t.1 ≤ 12) ∧ (-12 ≤ t.2.1 ∧ t.2.1 ≤ 12) ∧ (-12 ≤ t.2.2 ∧ t.2.2 ≤ 12) := by
  unfold FactR at h
  omega
theorem write_ok {S : Sto} {rows : List Row} {l : PyData} (hr : ∀ t ∈ rows, FactR t) (hl : rows.length ≤ 4) : callM 3 m_write_world [.wld (.tuple (rows.map encT)) l] S = .ok (.p (.str (txtW rows))) S := by
  rw [callM_ap 3 _ _ _ (by show 1 ≤ 3; decide)]
  have eq : gEq (.p (.tuple (rows.map encT))) (.p (.tuple [])) S = .ok (.p (.bool (decide (rows = [])))) S := by
    rw [g_eq (by rw [shaped_TT]; rfl)]
    cases rows <;> rfl
  by_cases hn : rows = []
  · subst hn
    simp only [List.map_nil] at eq
    simp [m_write_world, eq, txtW]
  · have cl := compL_all (gg := gNm 1) (enc := fun t : Row => D.p (encT t)) (fe := fJoin (fCon (.str (" " : PySem.Str))) (fLst (fCons (fCon (.str ("fact" : PySem.Str))) (fStar (fComp [2] (fItS (fVar 1)) (gNm 2) fYes (fCall gStr (fCons (fVar 2) fNil))) fNil)))) (val := fun t => .str (rowW (wsT t)))
      (ρ := [some (.wld (.tuple (rows.map encT)) l), none, none]) (S := S) rows (fun t ht => by
        refine ⟨_, rfl, ?_⟩
        obtain ⟨h1, h2, h3⟩ := factR_12 (hr t ht)
        have j := join_words (S := S) (wsT_word (hr t ht)) (by show 4 ≤ 10; decide)
        simp only [wsT, List.map_cons, List.map_nil] at j
        simp [encT, str_ok h1, str_ok h2, str_ok h3, j, wsT])
    have hlim : rows.length < 1000000 := by omega
    have j := join_rows (S := S) (ls := rows.map fun t => rowW (wsT t)) (by simpa using hl) (fun x hx => by
      obtain ⟨t, ht, rfl⟩ := List.mem_map.mp hx
      exact row_short (hr t ht))
    have e : (rows.map fun t => rowW (wsT t)).map PyData.str = rows.map fun t => PyData.str (rowW (wsT t)) := by rw [List.map_map]; rfl
    rw [e] at j
    have ce : compE (.ok (rows.map fun t => D.p (PyData.str (rowW (wsT t)))) S) = .ok (.p (.list (rows.map fun t => PyData.str (rowW (wsT t))))) S := by
      rw [← map_enc (fun t => PyData.str (rowW (wsT t))), compE_map]
    simp [m_write_world, eq, hn, hlim, map_enc, -List.map_map, cl, ce, -compE_ok, j, txtW]
end
/-! ### plain: a line -/
section
open TL
theorem spl_len (S : List Nat) : ∀ (l : List Nat) (k : Nat) (acc : List Nat), (spl S k acc l).length ≤ l.length + 1
  | [], k, acc => by rw [spl_nil]; exact Nat.le_refl _
  | c :: r, 0, acc => by
    by_cases h : pre S (c :: r) = true
    · rw [spl_hit h, List.length_cons, List.length_cons]
      have := spl_len S r (S.length - 1) []
      omega
    · rw [spl_miss (by simpa using h), List.length_cons]
      have := spl_len S r 0 (acc ++ [c])
      omega
  | c :: r, k + 1, acc => by
    show (spl S k acc r).length ≤ _
    have := spl_len S r k acc
    rw [List.length_cons]
    omega
theorem split_len {x y : Str} (hy : tl y ≠ []) (hk : y.cps.all (· < 256) = true) : (Txt.split x y).length ≤ x.length + 1 := by
  have h := split_spl x y hy (kind_ok hk)
  have h2 := congrArg List.length h
  rw [List.length_map] at h2
  rw [h2, len_tl]
  exact spl_len _ _ _ _
theorem sh_S2 {x y : Str} (hx : okS x) (hy : okS y) : (SeqAt.shaped (.str x) && SeqAt.shaped (.str y)) = true := by rw [sh_S hx, sh_S hy]; rfl
theorem okS_e : okS "" := fun c hc => by
  rw [tl_e] at hc
  cases hc
theorem split_ok {S : Sto} {a b : Str} (hb : (b.length == 0) = false) (ha : a.length < 1000000) : gSplit a (.p (.str b)) S = .ok (.p (.list ((Txt.split a b).map PyData.str))) S := if_pos ⟨hb, ha⟩
def lineF (a : Int) (ps : List Str) (s : Int) : List (Str × D) := [("at", .p (.int a)), ("pieces", .p (.list (ps.map PyData.str))), ("spot", .p (.int s))]
theorem putA {y : D} : putL "at" y [] = ([("at", y)] : List (Str × D)) := by kernel_rfl
theorem putB {a y : D} : putL "pieces" y [("at", a)] = ([("at", a), ("pieces", y)] : List (Str × D)) := by kernel_rfl
theorem putC {a b y : D} : putL "spot" y [("at", a), ("pieces", b)] = ([("at", a), ("pieces", b), ("spot", y)] : List (Str × D)) := by kernel_rfl
theorem putD {a b c y : D} : putL "spot" y [("at", a), ("pieces", b), ("spot", c)] = ([("at", a), ("pieces", b), ("spot", y)] : List (Str × D)) := by kernel_rfl
theorem put_newL {S : Sto} {f : Str} {fs : List (Str × D)} {y : D} {ρ : Env} (h : fs.length < 900) : putI "Line" f ρ y (.own S.length) (S ++ [O.ins "Line" fs]) = .nx ρ (S ++ [O.ins "Line" (putL f y fs)]) := by
  rw [putI_ok (fs := fs) (by simp) h]
  congr 1
  simp
theorem line_new {S : Sto} {r : Str} {a : Int} (hr : r.length ≤ 1000) (ho : okS r) : mkI "Line" (callO 4 m_Line___init__) [.p (.str r), .p (.int a)] S = .ok (.own S.length) (S ++ [.ins "Line" (lineF a (pcs r) 0)]) := by
  have body : callO 4 m_Line___init__ [.own S.length, .p (.str r), .p (.int a)] (S ++ [.ins "Line" []]) = .ok (.p .none) (S ++ [.ins "Line" (lineF a (pcs r) 0)]) := by
    rw [callO_ap 4 _ _ _ (by show 3 ≤ 4; decide)]
    obtain ⟨S1, hS1⟩ : ∃ S1, S1 = S ++ [O.ins "Line" [("at", .p (.int a))]] := ⟨_, rfl⟩
    have sp := split_ok (S := S1) (a := r) (b := " ") (by decide +kernel) (by omega)
    have sl := split_len (x := r) (y := " ") (by rw [tl_bl]; simp) (by decide +kernel)
    have cl := compL_map (gg := gNm 3) (enc := fun x : Str => D.p (.str x)) (ft := fBin gNe (fVar 3) (fCon (.str ("" : PySem.Str)))) (fe := fVar 3) (p := fun x => !PyData.eqv (.str x) (.str "")) (val := fun x => .str x)
      (ρ := [some (.own S.length), some (.p (.str r)), some (.p (.int a)), none]) (S := S1) (Txt.split r " ") (fun x hx => by
        refine ⟨_, rfl, ?_, fun _ => rfl⟩
        show gNe (.p (.str x)) (.p (.str ("" : PySem.Str))) S1 = _
        exact g_ne (sh_S2 (split_okS (by rw [tl_bl]; simp) (by decide +kernel) ho hx) okS_e))
    have hlim : (Txt.split r " ").length < 1000000 := by omega
    have ce : compE (.ok (((((Txt.split r " ").filter fun x => !PyData.eqv (.str x) (.str ""))).map fun x => PyData.str x).map D.p) S1) = .ok (.p (.list ((pcs r).map PyData.str))) S1 := by
      rw [compE_map]
      rfl
    have mm : ((Txt.split r " ").map PyData.str).map D.p = (Txt.split r " ").map fun x => D.p (.str x) := by rw [List.map_map]; rfl
    have p1 := fun ρ => put_newL (S := S) (ρ := ρ) (f := "at") (fs := []) (y := .p (.int a)) (by show 0 < 900; decide)
    rw [putA, ← hS1] at p1
    have p2 := fun ρ => put_newL (S := S) (ρ := ρ) (f := "pieces") (fs := [("at", .p (.int a))]) (y := .p (.list ((pcs r).map PyData.str))) (by show 1 < 900; decide)
    rw [putB, ← hS1] at p2
    have p3 := fun ρ => put_newL (S := S) (ρ := ρ) (f := "spot") (fs := [("at", .p (.int a)), ("pieces", .p (.list ((pcs r).map PyData.str)))]) (y := .p (.int 0)) (by show 2 < 900; decide)
    rw [putC] at p3
    simp [m_Line___init__, p1, sp, mm, hlim, -List.map_map, cl, ce, -compE_ok, p2, p3]
    rfl
  unfold mkI
  rw [body]
theorem inF_mem {d : PyData} (hf : flatD d = true) : ∀ {ds : List PyData}, d ∈ ds → inF d ds = true := fun {ds} h => by
  unfold inF
  refine List.any_eq_true.mpr ⟨d, h, ?_⟩
  unfold eqF eqV
  cases d <;> first | simp [toV] | cases hf
theorem g_inL {xs : List PyData} {d : PyData} {neg : Bool} {S : Sto} (h : (flatD d && xs.all flatD) = true) : gIn neg (.p d) (.p (.list xs)) S = .ok (.p (.bool (if neg = true then !inF d xs else inF d xs))) S := if_pos h
theorem take_ok {S : Sto} {k : Nat} {a : Int} {ps : List Str} {s : Nat} {w : Str} {bs : List PyData} {dd : D} (hk : S[k]? = some (.ins "Line" (lineF a ps s))) (hw : ps[s]? = some w) (hb : bs.all flatD = true) (hi : .str w ∈ bs) (hd : dd = .p (.tuple bs) ∨ dd = .p (.list bs)) :
    callM 2 m_Line_take [.own k, dd] S = .ok (.p (.str w)) (S.set k (.ins "Line" (lineF a ps (s + 1)))) := by
  rw [callM_ap 2 _ _ _ (by show 2 ≤ 2; decide)]
  have hs : s < ps.length := (List.getElem?_eq_some_iff.mp hw).1
  have g1 : getI "Line" "spot" (.own k) S = .ok (.p (.int s)) S := getI_ok hk rfl
  have g2 : getI "Line" "pieces" (.own k) S = .ok (.p (.list (ps.map PyData.str))) S := getI_ok hk rfl
  have ne : ¬ (s : Int) = ps.length := by omega
  have ix : atI (ps.map PyData.str) (s : Int) = some (.str w) := atI_some (by omega) (by rw [Int.toNat_natCast, List.getElem?_map, hw]; rfl)
  have inn : gIn true (.p (.str w)) dd S = .ok (.p (.bool false)) S := by
    have hfl : (flatD (.str w) && bs.all flatD) = true := by rw [hb]; rfl
    rcases hd with rfl | rfl
    · rw [g_in hfl, inF_mem rfl hi]; rfl
    · rw [g_inL hfl, inF_mem rfl hi]; rfl
  have au := augI_ok (S := S) (S2 := S) (S3 := S) (k := k) (cn := "Line") (f := "spot") (g := gI fun i j => .int (i + j)) (fv := fCon (.int 1)) (ρ := [some (.own k), some dd]) (fs := lineF a ps s) (y := .p (.int 1)) (z := .p (.int (s + 1))) (x0 := .p (.int s)) (fs3 := lineF a ps s) hk rfl rfl rfl hk (by show 3 < 900; decide)
  have pd : putL "spot" (.p (.int (s + 1))) (lineF a ps s) = lineF a ps (s + 1) := putD
  rw [pd] at au
  have hk2 : (S.set k (.ins "Line" (lineF a ps (s + 1))))[k]? = some (.ins "Line" (lineF a ps (s + 1))) := List.getElem?_set_self (List.getElem?_eq_some_iff.mp hk).1
  have g3 : getI "Line" "spot" (.own k) (S.set k (.ins "Line" (lineF a ps (s + 1)))) = .ok (.p (.int (s + 1))) (S.set k (.ins "Line" (lineF a ps (s + 1)))) := getI_ok hk2 rfl
  have g4 : getI "Line" "pieces" (.own k) (S.set k (.ins "Line" (lineF a ps (s + 1)))) = .ok (.p (.list (ps.map PyData.str))) (S.set k (.ins "Line" (lineF a ps (s + 1)))) := getI_ok hk2 rfl
  have e1 : (s : Int) + 1 - 1 = s := by omega
  have tr : trim S (.p (.str w)) (S.set k (.ins "Line" (lineF a ps (s + 1)))) = .ok (.p (.str w)) (S.set k (.ins "Line" (lineF a ps (s + 1)))) := trim_same (by simp)
  rcases hd with rfl | rfl <;> simp [m_Line_take, g1, g2, ne, g_ixL, ix, inn, au, g3, g4, e1, tr]
theorem nums_comp {S : Sto} {m : Int} (h : m = 3 ∨ m = 12) (ρ : Env) (hρ : ρ.length = 3) : compL (gNm 2) fYes (fCall gStr (fCons (fVar 2) fNil)) ρ (rng (-m) (m + 1 + m).toNat) S = .ok ((((upFrom (-m) (m + 1 + m).toNat).map fun i => PyData.str (numS i))).map D.p) S := by
  rw [rngN]
  refine compL_all (gg := gNm 2) (enc := fun i : Int => D.p (.int i)) (val := fun i => .str (numS i)) _ fun i hi => ⟨_, rfl, ?_⟩
  have hi := mem_upFrom.mp hi
  have g : (ρ.set 2 (some (D.p (.int i))))[2]? = some (some (D.p (.int i))) := by rw [List.getElem?_set_self (by omega)]
  simp [g, str_ok (S := S) (i := i) (by omega)]
theorem numbers_ok {S : Sto} {k : Nat} {a : Int} {ps : List Str} {s : Nat} {i m : Int} (hk : S[k]? = some (.ins "Line" (lineF a ps s))) (hw : ps[s]? = some (numS i)) (hm : m = 3 ∨ m = 12) (hi : -m ≤ i ∧ i ≤ m) :
    callM 3 m_Line_take_number [.own k, .p (.int m)] S = .ok (.p (.int i)) (S.set k (.ins "Line" (lineF a ps (s + 1)))) := by
  rw [callM_ap 3 _ _ _ (by show 2 ≤ 3; decide)]
  obtain ⟨ds, hds⟩ : ∃ ds, ds = (upFrom (-m) (m + 1 + m).toNat).map fun i => PyData.str (numS i) := ⟨_, rfl⟩
  have cl := nums_comp (S := S) hm [some (.own k), some (.p (.int m)), none] rfl
  rw [← hds] at cl
  have ce := compE_map (S := S) ds
  have ia : insAt "Line" "take" (.own k) S = true := insAt_own hk rfl
  have hfl : ds.all flatD = true := by
    rw [hds, List.all_map, List.all_eq_true]
    exact fun _ _ => rfl
  have hin : PyData.str (numS i) ∈ ds := by
    rw [hds]
    exact List.mem_map.mpr ⟨i, mem_upFrom.mpr (by omega), rfl⟩
  have tk := take_ok (dd := .p (.list ds)) hk hw hfl hin (.inr rfl)
  have c1 : -1000000 < -m ∧ -m < 1000000 ∧ -1000000 < m + 1 ∧ m + 1 < 1000000 := by omega
  have ll : (rng (-m) (m + 1 + m).toNat).length < 1000000 := by
    rw [rngN, List.length_map, upFrom_len]
    omega
  have it : ∀ S, gIntT [.p (.str (numS i))] S = .ok (.p (.int i)) S := fun S => by
    unfold gIntT
    show (match PySem.intText? (numS i) with
      | some n => if (numS i).length < 640 then Res.ok (D.p (.int n)) S else .bad
      | none => .bad) = _
    have h12 : -12 ≤ i ∧ i ≤ 12 := by omega
    rw [num_int h12]
    have := word_len (num_word h12)
    exact if_pos (by omega)
  have tr : trim S (.p (.int i)) (S.set k (.ins "Line" (lineF a ps (s + 1)))) = .ok (.p (.int i)) (S.set k (.ins "Line" (lineF a ps (s + 1)))) := trim_same (by simp)
  have mt : ∀ fr ρ, mtIK "Line" "take" (callM 2 m_Line_take) fr ρ (.ok (.own k) S) = mtIK2 (callM 2 m_Line_take) (.own k) (fr ρ S) := fun fr ρ => mtIK_ok ia
  simp [m_Line_take_number, mt, c1, ll, cl, ce, -compE_ok, tk, it, tr]
theorem finish_ok {S : Sto} {k : Nat} {a : Int} {ps : List Str} {s : Nat} (hk : S[k]? = some (.ins "Line" (lineF a ps s))) (hs : ps.length = s) : callM 1 m_Line_finish [.own k] S = .ok (.p .none) S := by
  rw [callM_ap 1 _ _ _ (by show 1 ≤ 1; decide)]
  have g1 : getI "Line" "spot" (.own k) S = .ok (.p (.int s)) S := getI_ok hk rfl
  have g2 : getI "Line" "pieces" (.own k) S = .ok (.p (.list (ps.map PyData.str))) S := getI_ok hk rfl
  simp [m_Line_finish, g1, g2, hs]
theorem heads_0 {S : Sto} : callM 1 m_heads [.p (.int 0)] S = .ok (.p (.tuple [.str "fact", .str "none"])) S := by
  rw [callM_ap 1 _ _ _ (by show 1 ≤ 1; decide)]
  simp [m_heads]
theorem heads_n {S : Sto} {i : Int} (h : 0 < i ∧ i < 4) : callM 1 m_heads [.p (.int i)] S = .ok (.p (.tuple [.str "fact"])) S := by
  rw [callM_ap 1 _ _ _ (by show 1 ≤ 1; decide)]
  have h1 : ¬ i = 0 := by omega
  simp [m_heads, h1, h.2]
end
/-! ### plain: a world is read -/
section
open TL
def linesO : Int → List Str → List O
  | _, [] => []
  | i, r :: rs => .ins "Line" (lineF (i + 1) (pcs r) 0) :: linesO (i + 1) rs
theorem linesO_len : ∀ (i : Int) (rs : List Str), (linesO i rs).length = rs.length
  | _, [] => rfl
  | i, r :: rs => by rw [linesO, List.length_cons, List.length_cons, linesO_len]
def ownsFrom : Nat → Nat → List D
  | _, 0 => []
  | b, n + 1 => .own b :: ownsFrom (b + 1) n
def msFrom : Nat → Nat → List Mx
  | _, 0 => []
  | b, n + 1 => .inl b :: msFrom (b + 1) n
theorem msFrom_len : ∀ b n : Nat, (msFrom b n).length = n
  | _, 0 => rfl
  | b, n + 1 => by rw [msFrom, List.length_cons, msFrom_len]
theorem asMs_owns : ∀ b n : Nat, asMs (ownsFrom b n) = some (msFrom b n)
  | _, 0 => rfl
  | b, n + 1 => by
    show (asMs (ownsFrom (b + 1) n)).map (.inl b :: ·) = _
    rw [asMs_owns (b + 1) n]
    rfl
def lineFe : FE := fCall (mkI "Line" (callO 4 m_Line___init__)) (fCons (fVar 7) (fCons (fBin gAdd (fVar 3) (fCon (.int 1))) fNil))
theorem lines_comp (ρ : Env) (hρ : ρ.length = 8) : ∀ (rs : List Str) (i : Nat) (S : Sto), (∀ r ∈ rs, r.length ≤ 1000 ∧ okS r) →
    compL (gTp 2 (gsCons (gNm 3) (gsCons (gNm 7) gsNil))) fYes lineFe ρ (enuL i (rs.map PyData.str)) S = .ok (ownsFrom S.length rs.length) (S ++ linesO i rs) := by
  intro rs
  induction rs with
  | nil =>
    intro i S _
    show Res.ok [] S = Res.ok [] (S ++ [])
    rw [List.append_nil]
  | cons r rs ih =>
    intro i S h
    obtain ⟨h1, h2⟩ := h r List.mem_cons_self
    have ih := ih (i + 1) (S ++ [.ins "Line" (lineF (i + 1) (pcs r) 0)]) fun x hx => h x (List.mem_cons_of_mem _ hx)
    rw [List.length_append, List.length_cons, List.length_nil, List.append_assoc] at ih
    have e1 : (((i + 1 : Nat) : Int)) = (i : Int) + 1 := by omega
    rw [e1] at ih
    have ln := line_new (S := S) (r := r) (a := (i : Int) + 1) h1 h2
    have g3 : ((ρ.set 3 (some (.p (.int (i : Int))))).set 7 (some (.p (.str r))))[3]? = some (some (.p (.int (i : Int)))) := by
      rw [List.getElem?_set_ne (by decide), List.getElem?_set_self (by omega)]
    have g7 : ((ρ.set 3 (some (D.p (.int (i : Int))))).set 7 (some (.p (.str r))))[7]? = some (some (.p (.str r))) := by
      rw [List.getElem?_set_self (by rw [List.length_set]; omega)]
    have fe : lineFe ((ρ.set 3 (some (D.p (.int (i : Int))))).set 7 (some (.p (.str r)))) S = .ok (.own S.length) (S ++ [.ins "Line" (lineF (i + 1) (pcs r) 0)]) := by
      unfold lineFe
      simp [g3, g7, ln]
    rw [List.map_cons, enuL, compL_cons]
    show cK1 _ _ _ _ _ ((ρ.set 3 (some (D.p (.int (i : Int))))).set 7 (some (.p (.str r)))) (.ok (.p (.bool true)) S) = _
    rw [cK1_ok, if_pos rfl, fe, cK2_ok, ih, cK3_ok]
    rfl
def bodyR : FS := (fSeq (fIfS (fBin gEq (fMtI "Line" ("take" : PySem.Str) (callM 2 m_Line_take) (fVar 4) (fCons (fCall (callM 1 m_heads) (fCons (fVar 3) fNil)) fNil)) (fCon (.str ("none" : PySem.Str)))) (fSeq (fDrop (fMtI "Line" ("finish" : PySem.Str) (callM 1 m_Line_finish) (fVar 4) fNil))
  (fSeq (fIfS (fBin gGt (fCall gLen (fCons (fVar 1) fNil)) (fCon (.int 1))) fBad fPass)
  (fRet (fCall (mkW (callM 5 m_World___init__)) (fCons (fTup fNil) fNil))))) fPass)
  (fSeq (fSet 5 (fMtI "Line" ("take_number" : PySem.Str) (callM 3 m_Line_take_number) (fVar 4) (fCons (fCon (.int 3)) fNil)))
  (fSeq (fSet 6 (fMtI "Line" ("take_number" : PySem.Str) (callM 3 m_Line_take_number) (fVar 4) (fCons (fCon (.int 3)) fNil)))
  (fSeq (fDrop (fApp (fVar 2) (fTup (fCons (fVar 5) (fCons (fVar 6) (fCons (fMtI "Line" ("take_number" : PySem.Str) (callM 3 m_Line_take_number) (fVar 4) (fCons (fCon (.int 12)) fNil)) fNil))))))
  (fDrop (fMtI "Line" ("finish" : PySem.Str) (callM 1 m_Line_finish) (fVar 4) fNil))))))
theorem read_def : m_read_world = (fSeq (fSet 1 (fCompM [3, 7] (fEnu (fSplit (fVar 0) (fCon (.str ("\n" : PySem.Str))))) (gTp 2 (gsCons (gNm 3) (gsCons (gNm 7) gsNil))) fYes lineFe))
  (fSeq (fSet 2 (fLstO fNil))
  (fSeq (fFor (fEnuM (fVar 1)) (gTpM 2 (gsCons (gNm 3) (gsCons (gNm 4) gsNil))) bodyR)
  (fRet (fCall (mkW (callM 5 m_World___init__)) (fCons (fCall gTuple (fCons (fVar 2) fNil)) fNil)))))) := rfl
theorem fact_none : ("fact" : Str) ≠ "none" := by decide +kernel
theorem eq_strs {S : Sto} {x y : Str} (hx : okS x) (hy : okS y) : gEq (.p (.str x)) (.p (.str y)) S = .ok (.p (.bool (decide (x = y)))) S := by
  rw [g_eq (sh_S2 hx hy), eqv_S]
theorem heads_has {S : Sto} {i : Nat} (h : i < 4) : ∃ bs, callM 1 m_heads [.p (.int i)] S = .ok (.p (.tuple bs)) S ∧ bs.all flatD = true ∧ PyData.str "fact" ∈ bs := by
  by_cases h0 : i = 0
  · subst h0
    exact ⟨_, heads_0, rfl, List.mem_cons_self⟩
  · exact ⟨_, heads_n (by omega), rfl, List.mem_cons_self⟩
theorem body_ok {S : Sto} {b f i : Nat} {a : Int} {t : Row} {acc : List Row} {x0 x1 x5 x6 x7 : Option D} (hb : S[b]? = some (.ins "Line" (lineF a (wsT t) 0))) (hf : S[f]? = some (.lst ((acc.map encT).map D.p))) (hi : i < 4) (ha : acc.length < 1000) (ht : FactR t) :
    bodyR [x0, x1, some (.own f), some (.p (.int i)), some (.own b), x5, x6, x7] S = .nx [x0, x1, some (.own f), some (.p (.int i)), some (.own b), some (.p (.int t.1)), some (.p (.int t.2.1)), x7] ((S.set b (.ins "Line" (lineF a (wsT t) 4))).set f (.lst (((acc ++ [t]).map encT).map D.p))) := by
  have hlb := (List.getElem?_eq_some_iff.mp hb).1
  have hlf := (List.getElem?_eq_some_iff.mp hf).1
  have ne : f ≠ b := fun z => by
    subst z
    rw [hf] at hb
    cases Option.some.inj hb
  obtain ⟨L, hL⟩ : ∃ L : Int → O, L = fun s => .ins "Line" (lineF a (wsT t) s) := ⟨_, rfl⟩
  have gL : ∀ s : Int, (S.set b (L s))[b]? = some (.ins "Line" (lineF a (wsT t) s)) := fun s => by rw [List.getElem?_set_self hlb, hL]
  have gF : ∀ s : Int, (S.set b (L s))[f]? = some (.lst ((acc.map encT).map D.p)) := fun s => by rw [List.getElem?_set_ne (Ne.symm ne)]; exact hf
  have ss : ∀ s u : Int, (S.set b (L s)).set b (L u) = S.set b (L u) := fun s u => List.set_set _
  obtain ⟨bs, h1, h2, h3⟩ := heads_has (S := S) hi
  obtain ⟨p, q, r⟩ := t
  obtain ⟨r1, r2, r3, r4, r5, r6⟩ := ht
  have Ls : ∀ s : Int, O.ins "Line" (lineF a (wsT (p, q, r)) s) = L s := fun s => by rw [hL]
  have tk := take_ok (s := 0) (dd := .p (.tuple bs)) hb rfl h2 h3 (.inl rfl)
  have n1 := numbers_ok (s := 1) (i := p) (m := 3) (gL 1) rfl (.inl rfl) ⟨r1, r2⟩
  have n2 := numbers_ok (s := 2) (i := q) (m := 3) (gL 2) rfl (.inl rfl) ⟨r3, r4⟩
  have n3 := numbers_ok (s := 3) (i := r) (m := 12) (gL 3) rfl (.inr rfl) ⟨r5, r6⟩
  have e1 : ((0 : Nat) : Int) + 1 = 1 := rfl
  have e2 : ((1 : Nat) : Int) + 1 = 2 := rfl
  have e3 : ((2 : Nat) : Int) + 1 = 3 := rfl
  have e4 : ((3 : Nat) : Int) + 1 = 4 := rfl
  rw [e1, Ls] at tk
  rw [e2, Ls, ss] at n1
  rw [e3, Ls, ss] at n2
  rw [e4, Ls, ss] at n3
  have eq := eq_strs (S := S.set b (L 1)) (word_ok fact_word) (word_ok none_word)
  rw [decide_eq_false fact_none] at eq
  have i0 : insAt "Line" "take" (.own b) S = true := insAt_own hb rfl
  have i1 : ∀ s, insAt "Line" "take_number" (.own b) (S.set b (L s)) = true := fun s => insAt_own (gL s) rfl
  have gX : ((S.set b (L 4)).set f (.lst (((acc ++ [(p, q, r)]).map encT).map D.p)))[b]? = some (.ins "Line" (lineF a (wsT (p, q, r)) 4)) := by
    rw [List.getElem?_set_ne ne]
    exact gL 4
  have i2 : insAt "Line" "finish" (.own b) ((S.set b (L 4)).set f (.lst (((acc ++ [(p, q, r)]).map encT).map D.p))) = true := insAt_own gX rfl
  have fi := finish_ok (s := 4) gX rfl
  have ac : acc.length < 1000000 := by omega
  rw [Ls]
  have m0 : ∀ fr ρ, mtIK "Line" "take" (callM 2 m_Line_take) fr ρ (.ok (.own b) S) = mtIK2 (callM 2 m_Line_take) (.own b) (fr ρ S) := fun fr ρ => mtIK_ok i0
  have m1 : ∀ s fr ρ, mtIK "Line" "take_number" (callM 3 m_Line_take_number) fr ρ (.ok (.own b) (S.set b (L s))) = mtIK2 (callM 3 m_Line_take_number) (.own b) (fr ρ (S.set b (L s))) := fun s fr ρ => mtIK_ok (i1 s)
  have m2 : ∀ fr ρ, mtIK "Line" "finish" (callM 1 m_Line_finish) fr ρ (.ok (.own b) ((S.set b (L 4)).set f (.lst (((acc ++ [(p, q, r)]).map encT).map D.p)))) = mtIK2 (callM 1 m_Line_finish) (.own b) (fr ρ ((S.set b (L 4)).set f (.lst (((acc ++ [(p, q, r)]).map encT).map D.p)))) := fun fr ρ => mtIK_ok i2
  have enc1 : ((acc ++ [(p, q, r)]).map encT).map D.p = (acc.map encT).map D.p ++ [D.p (.tuple [.int p, .int q, .int r])] := by
    rw [List.map_append, List.map_append]
    rfl
  rw [enc1] at m2 fi ⊢
  simp [bodyR, m0, h1, tk, eq, m1, n1, n2, n3, gF, ac, m2, fi, -List.map_map]
def linesT : Int → List Row → List O
  | _, [] => []
  | i, t :: ts => .ins "Line" (lineF (i + 1) (wsT t) 0) :: linesT (i + 1) ts
theorem linesT_len : ∀ (i : Int) (ts : List Row), (linesT i ts).length = ts.length
  | _, [] => rfl
  | i, t :: ts => by rw [linesT, List.length_cons, List.length_cons, linesT_len]
theorem linesT_of : ∀ (i : Int) (rs : List Str) (ts : List Row), rs.map pcs = ts.map wsT → linesO i rs = linesT i ts
  | _, [], [], _ => rfl
  | _, [], _ :: _, h => by cases h
  | _, _ :: _, [], h => by cases h
  | i, r :: rs, t :: ts, h => by
    rw [List.map_cons, List.map_cons] at h
    obtain ⟨h1, h2⟩ := List.cons.inj h
    rw [linesO, linesT, h1, linesT_of (i + 1) rs ts h2]
theorem low_line {a : Int} {ps : List Str} {s : Int} (n : Nat) : O.low n (.ins "Line" (lineF a ps s)) = true := rfl
theorem set_two {R Dn L : Sto} {x y z w : O} {b f : Nat} (hb : b = (R ++ Dn).length) (hf : f = (R ++ Dn ++ x :: L).length) : ((R ++ (Dn ++ (y :: L ++ [z]))).set b x).set f w = R ++ ((Dn ++ [x]) ++ (L ++ [w])) := by
  have e1 : R ++ (Dn ++ (y :: L ++ [z])) = (R ++ Dn) ++ y :: (L ++ [z]) := by simp
  have e2 : (R ++ Dn) ++ x :: (L ++ [z]) = (R ++ Dn ++ x :: L) ++ z :: [] := by simp
  subst hb hf
  rw [e1, set_len, e2, set_len]
  simp
theorem loop_ok {R : Sto} {x0 x1 : Option D} : ∀ (ts : List Row) (done : List O) (i : Nat) (acc : List Row) (x3 x4 x5 x6 x7 : Option D), (∀ t ∈ ts, FactR t) → i + ts.length ≤ 4 → acc.length + ts.length < 1000 →
    ∃ (dn : List O) (y3 y4 y5 y6 : Option D), dn.length = done.length + ts.length ∧ ((∀ o ∈ done, ∀ n, O.low n o = true) → ∀ o ∈ dn, ∀ n, O.low n o = true) ∧
      forL (gTpM 2 (gsCons (gNm 3) (gsCons (gNm 4) gsNil))) bodyR (enuM i (msFrom (R.length + done.length) ts.length)) [x0, x1, some (.own (R.length + (done.length + ts.length))), x3, x4, x5, x6, x7] (R ++ (done ++ (linesT i ts ++ [.lst ((acc.map encT).map D.p)]))) =
        .nx [x0, x1, some (.own (R.length + (done.length + ts.length))), y3, y4, y5, y6, x7] (R ++ (dn ++ [.lst (((acc ++ ts).map encT).map D.p)])) := by
  intro ts
  induction ts with
  | nil =>
    intro done i acc x3 x4 x5 x6 x7 _ _ _
    refine ⟨done, x3, x4, x5, x6, rfl, fun h => h, ?_⟩
    rw [List.append_nil]
    rfl
  | cons t ts ih =>
    intro done i acc x3 x4 x5 x6 x7 hf hi ha
    rw [List.length_cons] at hi ha
    obtain ⟨x, hx⟩ : ∃ x : O, x = .ins "Line" (lineF ((i : Int) + 1) (wsT t) 4) := ⟨_, rfl⟩
    obtain ⟨dn, y3, y4, y5, y6, l1, l2, l3⟩ := ih (done ++ [x]) (i + 1) (acc ++ [t]) (some (.p (.int (i : Int)))) (some (.own (R.length + done.length))) (some (.p (.int t.1))) (some (.p (.int t.2.1))) x7 (fun u hu => hf u (List.mem_cons_of_mem _ hu)) (by omega) (by simp; omega)
    obtain ⟨f, hfe⟩ : ∃ f, f = R.length + (done.length + (t :: ts).length) := ⟨_, rfl⟩
    have fe2 : R.length + ((done ++ [x]).length + ts.length) = f := by
      rw [hfe]
      simp only [List.length_append, List.length_cons, List.length_nil]
      omega
    have be2 : R.length + (done ++ [x]).length = R.length + done.length + 1 := by
      simp only [List.length_append, List.length_cons, List.length_nil]
      omega
    rw [fe2, be2] at l3
    obtain ⟨S, hS⟩ : ∃ S, S = R ++ (done ++ (linesT i (t :: ts) ++ [.lst ((acc.map encT).map D.p)])) := ⟨_, rfl⟩
    have ll := linesT_len ((i : Int) + 1) ts
    have hb : S[R.length + done.length]? = some (.ins "Line" (lineF ((i : Int) + 1) (wsT t) 0)) := by
      rw [hS, List.getElem?_append_right (by omega), List.getElem?_append_right (by omega)]
      rw [show R.length + done.length - R.length - done.length = 0 by omega]
      rfl
    have hff : S[f]? = some (.lst ((acc.map encT).map D.p)) := by
      rw [hS, hfe, List.length_cons, List.getElem?_append_right (by omega), List.getElem?_append_right (by omega), linesT, List.cons_append]
      rw [show R.length + (done.length + (ts.length + 1)) - R.length - done.length = ts.length + 1 by omega, List.getElem?_cons_succ, List.getElem?_append_right (by omega), ll, Nat.sub_self]
      rfl
    have bo := body_ok (x0 := x0) (x1 := x1) (x5 := x5) (x6 := x6) (x7 := x7) hb hff (show i < 4 by omega) (show acc.length < 1000 by omega) (hf t List.mem_cons_self)
    have hSet : (S.set (R.length + done.length) (.ins "Line" (lineF ((i : Int) + 1) (wsT t) 4))).set f (.lst (((acc ++ [t]).map encT).map D.p)) = R ++ ((done ++ [x]) ++ (linesT ((i + 1 : Nat) : Int) ts ++ [.lst (((acc ++ [t]).map encT).map D.p)])) := by
      rw [hS, hx, linesT]
      exact set_two (by simp) (by rw [hfe]; simp [ll])
    rw [hSet] at bo
    refine ⟨dn, y3, y4, y5, y6, by simp at l1 ⊢; omega, fun h => l2 fun o ho n => ?_, ?_⟩
    · rcases List.mem_append.mp ho with ho | ho
      · exact h o ho n
      · rw [List.mem_singleton.mp ho, hx]
        rfl
    · rw [← hS, ← hfe, List.length_cons, msFrom, enuM, forL_cons]
      show (bodyR [x0, x1, some (.own f), some (.p (.int (i : Int))), some (.own (R.length + done.length)), x5, x6, x7] S).rnd _ = _
      rw [bo, rnd_nx, l3, List.append_assoc]
      rfl
end
/-! ### plain: read_world -/
section
open TL
section
variable {vs : List Nat} {fi : FI} {g : FG} {ft fe fa : FE} {ρ : Env} {S : Sto} {ds : List D} {ms : List Mx} {gs : FGs} {n : Nat}
def compME (r : Res (List D)) : Res D := r.bind compEndM
def compMK (vs : List Nat) (g : FG) (ft fe : FE) (ρ : Env) (r : Res (List D)) : Res D := r.bind fun ds S1 => if ds.length < lim then compME (compL g ft fe (wipeE ρ vs) ds S1) else .bad
theorem ap_compM : fCompM vs fi g ft fe ρ S = compMK vs g ft fe ρ (fi ρ S) := rfl
theorem compMK_ok : compMK vs g ft fe ρ (.ok ds S) = if ds.length < lim then compME (compL g ft fe (wipeE ρ vs) ds S) else .bad := rfl
theorem compME_own {b n : Nat} : compME (.ok (ownsFrom b n) S) = .ok (.mix (msFrom b n)) S := by
  show compEndM (ownsFrom b n) S = _
  unfold compEndM
  rw [asMs_owns]
def enuMK (r : Res D) : Res (List D) := r.bind fun d S1 => match d with
  | .mix ms => .ok (enuM 0 ms) S1
  | _ => .bad
theorem ap_enuM : fEnuM fa ρ S = enuMK (fa ρ S) := rfl
theorem enuMK_ok : enuMK (.ok (.mix ms) S) = .ok (enuM 0 ms) S := rfl
end
theorem trim_wld {S T : Sto} (h : LowS S) (hT : T ≠ []) {a b : PyData} : trim S (.wld a b) (S ++ T) = .ok (.wld a b) S := by
  have hl : 0 < T.length := List.length_pos_iff.mpr hT
  have e : (S ++ T).take S.length = S := List.take_left
  unfold Tw.trim
  rw [if_neg (by rw [List.length_append]; omega), e, if_pos]
  show (true && S.all (O.low S.length)) = true
  rw [Bool.true_and]
  exact h
theorem nl_ne : ((("\n" : Str).length == 0)) = false := by decide +kernel
theorem gSplit_nl {S : Sto} {T : Str} {rs : List Str} (h : Txt.split T "\n" = rs) (hT : T.length < 1000000) : gSplit T (.p (.str "\n")) S = .ok (.p (.list (rs.map PyData.str))) S := by
  rw [split_ok nl_ne hT, h]
theorem read_ok {S : Sto} (hS : LowS S) {T : Str} {rs : List Str} {ts : List Row} {w : Int × Int} (hsp : Txt.split T "\n" = rs) (hpc : rs.map pcs = ts.map wsT) (hr : ∀ r ∈ rs, r.length ≤ 1000 ∧ okS r) (hf : ∀ t ∈ ts, FactR t) (hl : ts.length ≤ 4) (hw : leastPt ts = some w) (hT : T.length < 1000000) :
    callM 8 m_read_world [.p (.str T)] S = .ok (.wld (.tuple (ts.map encT)) (encP (some w))) S := by
  rw [callM_ap 8 _ _ _ (by show 1 ≤ 8; decide), read_def]
  have ll : rs.length = ts.length := by simpa using congrArg List.length hpc
  have lc := lines_comp [some (.p (.str T)), none, none, none, none, none, none, none] rfl rs 0 S hr
  have e0 : ((0 : Nat) : Int) = 0 := rfl
  rw [e0, linesT_of 0 rs ts hpc, ll] at lc
  obtain ⟨f, hfe⟩ : ∃ f, f = S.length + ts.length := ⟨_, rfl⟩
  obtain ⟨dn, y3, y4, y5, y6, l1, l2, l3⟩ := loop_ok (R := S) (x0 := some (.p (.str T))) (x1 := some (.mix (msFrom S.length ts.length))) ts [] 0 [] none none none none none hf (by omega) (by simp; omega)
  simp only [List.length_nil, Nat.add_zero, Nat.zero_add, List.map_nil, List.nil_append, e0] at l1 l2 l3
  rw [← hfe] at l3
  have hlen : (S ++ linesT 0 ts).length = f := by rw [List.length_append, linesT_len, hfe]
  have lowT : ∀ o ∈ dn ++ [.lst ((ts.map encT).map D.p)], ∀ n, O.low n o = true := fun o ho n => by
    rcases List.mem_append.mp ho with ho | ho
    · exact l2 (fun o ho => by cases ho) o ho n
    · rw [List.mem_singleton.mp ho]
      exact low_lst _ _
  have lowF : LowS (S ++ (dn ++ [.lst ((ts.map encT).map D.p)])) := hS.app lowT
  have wn := world_new lowF hl hf
  unfold newW at wn
  rw [hw] at wn
  have gF : (S ++ (dn ++ [.lst ((ts.map encT).map D.p)]))[f]? = some (.lst ((ts.map encT).map D.p)) := by
    rw [List.getElem?_append_right (by omega), List.getElem?_append_right (by omega)]
    rw [show f - S.length - dn.length = 0 by omega]
    rfl
  have tw := trim_wld hS (T := dn ++ [.lst ((ts.map encT).map D.p)]) (by simp) (a := .tuple (ts.map encT)) (b := encP (some w))
  have gt : gTuple [.own f] (S ++ (dn ++ [.lst ((ts.map encT).map D.p)])) = .ok (.p (.tuple (ts.map encT))) (S ++ (dn ++ [.lst ((ts.map encT).map D.p)])) := by
    unfold gTuple
    simp only [gF, asPs_map]
  have gs := gSplit_nl (S := S) hsp hT
  have hlim : (enuL 0 (rs.map PyData.str)).length < 1000000 := by rw [enuL_len, List.length_map]; omega
  have cm := compME_own (S := S ++ linesT 0 ts) (b := S.length) (n := ts.length)
  have as : S ++ linesT 0 ts ++ [O.lst []] = S ++ (linesT 0 ts ++ [O.lst []]) := List.append_assoc _ _ _
  simp [ap_compM, compMK_ok, gs, hlim, lc, cm, hlen, ap_enuM, enuMK_ok, l3, gt, wn, tw, -List.map_map]
theorem pcs_none {r : Str} (h : pcs r = [("none" : Str)]) {S : Sto} (hS : LowS S) {T : Str} {w : Int × Int} (hsp : Txt.split T "\n" = [r]) (hr : r.length ≤ 1000 ∧ okS r) (hw : leastPt [] = some w) (hT : T.length < 1000000) :
    callM 8 m_read_world [.p (.str T)] S = .ok (.wld (.tuple []) (encP (some w))) S := by
  rw [callM_ap 8 _ _ _ (by show 1 ≤ 8; decide), read_def]
  have lc := lines_comp [some (.p (.str T)), none, none, none, none, none, none, none] rfl [r] 0 S (fun x hx => List.mem_singleton.mp hx ▸ hr)
  obtain ⟨x, hx⟩ : ∃ x : Int → O, x = fun s => .ins "Line" (lineF 1 [("none" : Str)] s) := ⟨_, rfl⟩
  have lo : linesO ((0 : Nat) : Int) [r] = [x 0] := by
    rw [linesO, linesO, h, hx]
    rfl
  rw [lo] at lc
  have gs := gSplit_nl (S := S) hsp hT
  have cm := compME_own (S := S ++ [x 0]) (b := S.length) (n := 1)
  obtain ⟨X, hX⟩ : ∃ X : Int → Sto, X = fun s => S ++ x s :: [O.lst []] := ⟨_, rfl⟩
  have g0 : ∀ s, (X s)[S.length]? = some (.ins "Line" (lineF 1 [("none" : Str)] s)) := fun s => by rw [hX]; show (S ++ x s :: [O.lst []])[S.length]? = _; rw [at_len, hx]
  have s0 : ∀ s u, (X s).set S.length (.ins "Line" (lineF 1 [("none" : Str)] u)) = X u := fun s u => by rw [hX]; show (S ++ x s :: [O.lst []]).set S.length _ = S ++ x u :: [O.lst []]; rw [set_len, hx]
  have tk := take_ok (s := 0) (dd := .p (.tuple [.str "fact", .str "none"])) (g0 0) (w := "none") rfl rfl (by simp) (.inl rfl)
  have e1 : ((0 : Nat) : Int) + 1 = 1 := rfl
  rw [e1, s0] at tk
  have i0 : insAt "Line" "take" (.own S.length) (X 0) = true := insAt_own (g0 0) rfl
  have i1 : insAt "Line" "finish" (.own S.length) (X 1) = true := insAt_own (g0 1) rfl
  have m0 : ∀ fr ρ, mtIK "Line" "take" (callM 2 m_Line_take) fr ρ (.ok (.own S.length) (X 0)) = mtIK2 (callM 2 m_Line_take) (.own S.length) (fr ρ (X 0)) := fun fr ρ => mtIK_ok i0
  have m1 : ∀ fr ρ, mtIK "Line" "finish" (callM 1 m_Line_finish) fr ρ (.ok (.own S.length) (X 1)) = mtIK2 (callM 1 m_Line_finish) (.own S.length) (fr ρ (X 1)) := fun fr ρ => mtIK_ok i1
  have fi := finish_ok (s := 1) (g0 1) rfl
  have eq := eq_strs (S := X 1) (word_ok none_word) (word_ok none_word)
  rw [decide_eq_true rfl] at eq
  have lowX : LowS (X 1) := by
    rw [hX]
    exact hS.app fun o ho n => by
      rcases List.mem_cons.mp ho with rfl | ho
      · rw [hx]
        rfl
      · rw [List.mem_singleton.mp ho]
        rfl
  have wn := world_new (rows := []) lowX (by decide) (fun t ht => by cases ht)
  unfold newW at wn
  rw [hw] at wn
  have wn : mkW (callM 5 m_World___init__) [.p (.tuple [])] (X 1) = .ok (.wld (.tuple []) (encP (some w))) (X 1) := wn
  have tw : trim S (.wld (.tuple []) (encP (some w))) (X 1) = .ok (.wld (.tuple []) (encP (some w))) S := by
    rw [hX]
    exact trim_wld hS (by simp)
  have hX0 : S ++ ([x 0] ++ [O.lst []]) = X 0 := by rw [hX]; rfl
  have hX1 : S ++ [x 0] ++ [O.lst []] = X 0 := by rw [hX, List.append_assoc]; rfl
  have mm : msFrom S.length 1 = [.inl S.length] := rfl
  have h0 := heads_0 (S := X 0)
  have gl : gLen [.mix [.inl S.length]] (X 1) = .ok (.p (.int 1)) (X 1) := rfl
  have hlim : (enuL 0 [PyData.str r]).length < 1000000 := by show 1 < 1000000; decide
  have lc : compL (gTp 2 (gsCons (gNm 3) (gsCons (gNm 7) gsNil))) fYes lineFe [some (.p (.str T)), none, none, none, none, none, none, none] (enuL 0 [PyData.str r]) S = .ok (ownsFrom S.length 1) (S ++ [x 0]) := lc
  have gs : gSplit T (.p (.str "\n")) S = .ok (.p (.list [PyData.str r])) S := gs
  have lp : forL (gTpM 2 (gsCons (gNm 3) (gsCons (gNm 4) gsNil))) bodyR (enuM 0 [.inl S.length]) [some (.p (.str T)), some (.mix [.inl S.length]), some (.own (S.length + 1)), none, none, none, none, none] (X 0) = .rt (.wld (.tuple []) (encP (some w))) (X 1) := by
    rw [enuM, forL_cons]
    show (bodyR [some (.p (.str T)), some (.mix [.inl S.length]), some (.own (S.length + 1)), some (.p (.int 0)), some (.own S.length), none, none, none] (X 0)).rnd _ = _
    simp [bodyR, m0, h0, tk, eq, m1, fi, gl, wn]
  rw [mm] at cm
  simp [ap_compM, compMK_ok, gs, hlim, lc, cm, ap_enuM, enuMK_ok, hX0, hX1, lp, tw]
theorem eqW_ok {S : Sto} {rows : List Row} {l l' : PyData} : gEqW (callM 2 m_World___eq__) (.wld (.tuple (rows.map encT)) l) (.wld (.tuple (rows.map encT)) l') S = .ok (.p (.bool true)) S := by
  have eq : callM 2 m_World___eq__ [.wld (.tuple (rows.map encT)) l, .wld (.tuple (rows.map encT)) l'] S = .ok (.p (.bool true)) S := by
    rw [callM_ap 2 _ _ _ (by show 2 ≤ 2; decide)]
    have e : gEq (.p (.tuple (rows.map encT))) (.p (.tuple (rows.map encT))) S = .ok (.p (.bool true)) S := by
      rw [g_eq (by rw [shaped_TT]; rfl), SeqAt.eqv_refl _ (lay_sh (shaped_TT rows))]
    simp [m_World___eq__, e]
  show (match callM 2 m_World___eq__ [.wld (.tuple (rows.map encT)) l, .wld (.tuple (rows.map encT)) l'] S with
    | .ok (.p (.bool b)) S' => Res.ok (D.p (.bool b)) S'
    | _ => .bad) = _
  rw [eq]
end
/-! ### plain: loose rows, the law -/
section
open TL
theorem rep_S {S : Sto} {i : Int} (h : 0 ≤ i ∧ i ≤ 3) : gRepS (.p (.str " ")) (.p (.int i)) S = .ok (.p (.str (blS i))) S := by
  have c : (" " : Str).length ≤ 1000 ∧ 0 ≤ i ∧ i ≤ 1000 := ⟨by rw [len_bl]; omega, by omega, by omega⟩
  exact if_pos c
theorem add_S {S : Sto} {x y : Str} (h : x.length + y.length < 1000000) : gAdd (.p (.str x)) (.p (.str y)) S = .ok (.p (.str (x ++ y))) S := if_pos h
theorem bl_okS {n : Int} (h : 0 ≤ n ∧ n ≤ 3) : okS (blS n) := fun c hc => by
  rw [tl_blS h] at hc
  rw [List.eq_of_mem_replicate hc]
  decide
theorem app_okS {x y : Str} (hx : okS x) (hy : okS y) : okS (x ++ y) := fun c hc => by
  rw [tl_append] at hc
  rcases List.mem_append.mp hc with h | h
  · exact hx c h
  · exact hy c h
structure LooseR (ws : List Str) (F : Str) : Prop where
  pz : ∀ rest, pz (tl F ++ rest) = ws.map tl ++ pz rest
  nl : 10 ∉ tl F
  len : F.length ≤ 3 + 10 * ws.length
  ok : okS F
theorem loose_ok {R S : Sto} (h : IsH R S) {ws : List Str} (hn : ws ≠ []) (hw : ∀ x ∈ ws, wordB x = true) (hl : ws.length ≤ 4) : ∃ L S', IsH R S' ∧ callM 4 m__law_loose [.own 1, .p (.str (rowW ws))] S = .ok (.p (.str L)) S' ∧ LooseR ws L := by
  obtain ⟨k, S1, k0, k1, h1, e1⟩ := next_ok h 3 (by decide) (by decide)
  rw [callM_ap 4 _ _ _ (by show 2 ≤ 4; decide)]
  unfold m__law_loose
  generalize hb : (fSet 2 (fBin gAdd _ _)) = body
  have len2 := rowW_len hw
  have sp : ∀ S, gSplit (rowW ws) (.p (.str " ")) S = .ok (.p (.list (ws.map PyData.str))) S := fun S => by
    rw [split_ok (by decide +kernel) (by omega), rowW_split hn hw]
  have loop := forL_pre (gg := gNm 3) (body := body) (enc := fun x : Str => D.p (.str x)) (xs := ws)
    (P := fun l ρ St => ∃ F y3, ρ = [some (.own 1), some (.p (.str (rowW ws))), some (.p (.str F)), y3] ∧ IsH R St ∧ LooseR l F)
    (fun l x r hx ρ St hh => by
      obtain ⟨F, y3, rfl, hSt, hF⟩ := hh
      obtain ⟨j, S2, j0, j1, h2, e2⟩ := next_ok hSt 3 (by decide) (by decide)
      have hxw : wordB x = true := hw x (by rw [hx]; simp)
      have hll : l.length ≤ 4 := by
        have := congrArg List.length hx
        simp at this
        omega
      have xl := word_len hxw
      have fl := hF.len
      have bl : (blS (1 + j)).length = (1 + j).toNat := by rw [len_tl, tl_blS (by omega), List.length_replicate]
      have t1 : tl (F ++ x ++ blS (1 + j)) = tl F ++ (tl x ++ 32 :: List.replicate j.toNat 32) := by
        rw [tl_append, tl_append, tl_blS (by omega), show (1 + j).toNat = j.toNat + 1 by omega, List.replicate_succ, List.append_assoc]
      have fx : (F ++ x).length = F.length + x.length := by rw [len_tl, tl_append, List.length_append, ← len_tl, ← len_tl]
      refine ⟨_, [some (.own 1), some (.p (.str (rowW ws))), some (.p (.str (F ++ x ++ blS (1 + j)))), some (.p (.str x))], S2, rfl, ?_, _, _, rfl, h2, ⟨fun rest => ?_, fun hm => ?_, ?_, app_okS (app_okS hF.ok (word_ok hxw)) (bl_okS (by omega))⟩⟩
      · subst hb
        have a1 := add_S (S := St) (x := F) (y := x) (by omega)
        have a2 := add_S (S := S2) (x := F ++ x) (y := blS (1 + j)) (by omega)
        have rp := rep_S (S := S2) (i := 1 + j) (by omega)
        simp [a1, e2, rp, a2]
      · rw [t1, List.append_assoc, hF.pz, List.append_assoc, List.cons_append, pz_word (word_free hxw).1 (word_ne hxw), pz_bls, List.map_append, List.append_assoc]
        rfl
      · rw [t1] at hm
        rcases List.mem_append.mp hm with hm | hm
        · exact hF.nl hm
        · rcases List.mem_append.mp hm with hm | hm
          · exact (word_free hxw).2 hm
          · rw [← List.replicate_succ] at hm
            have := List.eq_of_mem_replicate hm
            omega
      · rw [len_tl, tl_append, List.length_append, ← len_tl, ← len_tl, List.length_append, List.length_cons, List.length_nil]
        omega)
    (ρ := [some (.own 1), some (.p (.str (rowW ws))), some (.p (.str (blS k))), none]) (S := S1) ⟨blS k, none, rfl, h1, ⟨fun rest => by rw [tl_blS (by omega), pz_bls]; rfl, fun hm => by
      rw [tl_blS (by omega)] at hm
      have := List.eq_of_mem_replicate hm
      omega, by rw [len_tl, tl_blS (by omega), List.length_replicate]; omega, bl_okS (by omega)⟩⟩
  obtain ⟨ρ', S', e3, F, y3, rfl, h3, hF⟩ := loop
  refine ⟨F, S', h3, ?_, hF⟩
  have rp := rep_S (S := S1) (i := k) (by omega)
  have mm : (ws.map PyData.str).map D.p = ws.map fun x => D.p (.str x) := by rw [List.map_map]; rfl
  simp [e1, rp, sp, mm, e3, h3.back h, -List.map_map]
theorem LooseR.pcs {ws : List Str} {L : Str} (h : LooseR ws L) : pcs L = ws := pcs_of (by
  have := h.pz []
  rw [List.append_nil, pz_nil, List.append_nil] at this
  exact this)
/-- the words of all rows -/
def allW (rows : List Row) : List (List Str) := if rows = [] then [["none"]] else rows.map wsT
theorem allW_word {rows : List Row} (hf : ∀ t ∈ rows, FactR t) : ∀ ws ∈ allW rows, ws ≠ [] ∧ ws.length ≤ 4 ∧ ∀ x ∈ ws, wordB x = true := fun ws hw => by
  unfold allW at hw
  by_cases hn : rows = []
  · rw [if_pos hn] at hw
    rw [List.mem_singleton.mp hw]
    exact ⟨by simp, by decide, fun x hx => by rw [List.mem_singleton.mp hx]; exact none_word⟩
  · rw [if_neg hn] at hw
    obtain ⟨t, ht, rfl⟩ := List.mem_map.mp hw
    exact ⟨by simp [wsT], by show 4 ≤ 4; decide, wsT_word (hf t ht)⟩
theorem allW_len {rows : List Row} (hl : rows.length ≤ 4) : (allW rows).length ≤ 4 ∧ allW rows ≠ [] := by
  unfold allW
  by_cases hn : rows = []
  · rw [if_pos hn]
    exact ⟨by decide, by simp⟩
  · rw [if_neg hn]
    exact ⟨by rw [List.length_map]; exact hl, by simpa using hn⟩
theorem rowW_none : rowW ["none"] = ("none" : Str) := by decide +kernel
theorem join_none : Txt.join "\n" ["none"] = ("none" : Str) := by decide +kernel
theorem txtW_all {rows : List Row} : txtW rows = Txt.join "\n" ((allW rows).map rowW) := by
  unfold txtW allW
  by_cases hn : rows = []
  · rw [if_pos hn, if_pos hn, List.map_cons, rowW_none, List.map_nil, join_none]
  · rw [if_neg hn, if_neg hn, List.map_map]
    rfl
theorem joins_len {ls : List Str} (hl : ls.length ≤ 4) (h : ∀ x ∈ ls, x.length ≤ 100) : (Txt.join "\n" ls).length < 1000 := by
  rw [join_eq, len_tl, tl_join, tl_nl]
  have h1 := joinL_len [10] (ls.map tl)
  have h2 := sum_le 100 ((ls.map tl).map (·.length)) fun x hx => by
    obtain ⟨p, hp, rfl⟩ := List.mem_map.mp hx
    obtain ⟨y, hy, rfl⟩ := List.mem_map.mp hp
    show (tl y).length ≤ 100
    rw [← len_tl]
    exact h y hy
  simp only [List.length_map, List.length_cons, List.length_nil] at h1 h2
  omega
theorem read_all {S : Sto} (hS : LowS S) {rows : List Row} {ls : List Str} {w : Int × Int} (hf : ∀ t ∈ rows, FactR t) (hl : rows.length ≤ 4) (hw : leastPt rows = some w) (hp : ls.map pcs = allW rows) (h : ∀ x ∈ ls, x.length ≤ 100 ∧ okS x ∧ 10 ∉ tl x) :
    callM 8 m_read_world [.p (.str (Txt.join "\n" ls))] S = .ok (.wld (.tuple (rows.map encT)) (encP (some w))) S := by
  obtain ⟨al, an⟩ := allW_len hl
  have ll : ls.length = (allW rows).length := by rw [← hp, List.length_map]
  have ln : ls ≠ [] := fun z => an (by rw [← hp, z]; rfl)
  have sp : Txt.split (Txt.join "\n" ls) "\n" = ls := split_join tl_nl (by decide +kernel) ln fun p hx => (h p hx).2.2
  have jl := joins_len (ls := ls) (by omega) fun x hx => (h x hx).1
  by_cases hn : rows = []
  · subst hn
    match ls, hp, sp, jl with
    | [r], hp, sp, jl =>
      have hp : [pcs r] = [[("none" : Str)]] := hp
      exact pcs_none (List.cons.inj hp).1 hS sp ⟨by have := (h r List.mem_cons_self).1; omega, (h r List.mem_cons_self).2.1⟩ hw (by omega)
    | [], hp, _, _ => exact absurd hp (by simp [allW])
    | _ :: _ :: _, hp, _, _ =>
      have hp := congrArg List.length hp
      simp [allW] at hp
  · unfold allW at hp
    rw [if_neg hn] at hp
    exact read_ok hS sp hp (fun x hx => ⟨by have := (h x hx).1; omega, (h x hx).2.1⟩) hf hl hw (by omega)
theorem canLay_SL : ∀ ss : List Str, (∀ s ∈ ss, okS s) → PyData.canLayAll0 (ss.map PyData.str) = true
  | [], _ => rfl
  | s :: ss, h => by
    rw [List.map_cons, PyData.canLayAll0, canLay_SL ss fun x hx => h x (List.mem_cons_of_mem _ hx)]
    rw [show (PyData.str s).canLay0 = PyData.strOk s from rfl, strOk_of (h s List.mem_cons_self)]
    rfl
theorem depth_SL : ∀ ss : List Str, PyData.depthAll (ss.map PyData.str) ≤ 10
  | [] => by show 0 ≤ 10; omega
  | t :: l => by
    have ih := depth_SL l
    have e : PyData.depth (.str t) ≤ 10 := by simp [PyData.depth]
    rw [List.map_cons, PyData.depthAll]
    omega
theorem shaped_SL {ss : List Str} (h : ∀ s ∈ ss, okS s) : SeqAt.shaped (.list (ss.map PyData.str)) = true := by
  unfold SeqAt.shaped
  rw [Bool.and_eq_true]
  refine ⟨canLay_SL ss h, decide_eq_true ?_⟩
  have := depth_SL ss
  show PyData.depthAll _ + 1 ≤ 64
  omega
def looseFe : FE := fCall (callM 4 m__law_loose) (fCons (fVar 1) (fCons (fVar 7) fNil))
theorem loose_all {ρ : Env} (hρ : ρ.length = 9) (h1 : ρ[1]? = some (some (.own 1))) : ∀ (wss : List (List Str)) (S : Sto), IsH [] S → (∀ ws ∈ wss, ws ≠ [] ∧ ws.length ≤ 4 ∧ ∀ x ∈ ws, wordB x = true) → ∃ (ls : List Str) (S' : Sto), IsH [] S' ∧ ls.map pcs = wss ∧ (∀ x ∈ ls, x.length ≤ 100 ∧ okS x ∧ 10 ∉ tl x) ∧
    compL (gNm 7) fYes looseFe ρ ((wss.map rowW).map fun x => D.p (.str x)) S = .ok (ls.map fun x => D.p (.str x)) S' := by
  intro wss
  induction wss with
  | nil => exact fun S h _ => ⟨[], S, h, rfl, fun x hx => (by cases hx), rfl⟩
  | cons ws wss ih =>
    intro S h hw
    obtain ⟨a1, a2, a3⟩ := hw ws List.mem_cons_self
    obtain ⟨L, S1, g1, e1, hL⟩ := loose_ok h a1 a3 a2
    obtain ⟨ls, S2, g2, b1, b2, e2⟩ := ih S1 g1 fun x hx => hw x (List.mem_cons_of_mem _ hx)
    refine ⟨L :: ls, S2, g2, by rw [List.map_cons, hL.pcs, b1], fun x hx => ?_, ?_⟩
    · rcases List.mem_cons.mp hx with rfl | hx
      · exact ⟨by have := hL.len; omega, hL.ok, hL.nl⟩
      · exact b2 x hx
    · have n1 : (ρ.set 7 (some (D.p (.str (rowW ws)))))[1]? = some (some (.own 1)) := by rw [List.getElem?_set_ne (by decide)]; exact h1
      have n7 : (ρ.set 7 (some (D.p (.str (rowW ws)))))[7]? = some (some (D.p (.str (rowW ws)))) := List.getElem?_set_self (by omega)
      have fe : looseFe (ρ.set 7 (some (D.p (.str (rowW ws))))) S = .ok (.p (.str L)) S1 := by
        unfold looseFe
        simp [n1, n7, e1]
      rw [List.map_cons, List.map_cons, compL_cons]
      show cK1 _ _ _ _ _ (ρ.set 7 (some (D.p (.str (rowW ws))))) (.ok (.p (.bool true)) S) = _
      rw [cK1_ok, if_pos rfl, fe, cK2_ok, e2, cK3_ok]
      rfl
theorem map_S (ss : List Str) : (ss.map PyData.str).map D.p = ss.map fun x => D.p (.str x) := by rw [List.map_map]; rfl
theorem law_plain (ns : List Int) (hns : ns.length ≤ 63) : ∃ S', callM 9 m_law [.scr ns] [] = .ok (.p (.bool true)) S' := by
  obtain ⟨S0, h0, e0⟩ := mix_ok ns 12 hns
  obtain ⟨rows, w0, w1, S1, hl, hf, hw0, hw1, h1, e1⟩ := facts_draw h0 (most := 4) (by decide)
  obtain ⟨w, hw⟩ := facts_stand hf hw0 hw1.1
  have hfr : ∀ t ∈ rows, FactR t := fun t ht => (hf t ht).1
  have hl4 : rows.length ≤ 4 := by omega
  have e2 := world_ok h1 hl4 hfr hw
  obtain ⟨al, an⟩ := allW_len hl4
  have aw := allW_word hfr
  have low1 : LowS S1 := h1.lowS LowR.nil
  -- the rows
  have cl := compL_all (gg := gNm 6) (enc := fun t : Row => D.p (encT t)) (fe := fJoin (fCon (.str (" " : PySem.Str))) (fBin gAdd (fLst (fCons (fCon (.str ("fact" : PySem.Str))) fNil)) (fComp [8] (fItS (fVar 6)) (gNm 8) fYes (fCall gStr (fCons (fVar 8) fNil))))) (val := fun t => .str (rowW (wsT t)))
      (ρ := [some (.scr ns), some (.own 1), some (.p (.tuple (rows.map encT))), some (.wld (.tuple (rows.map encT)) (encP (some w))), none, none, none, none, none]) (S := S1) rows (fun t ht => by
        refine ⟨_, rfl, ?_⟩
        obtain ⟨g1, g2, g3⟩ := factR_12 (hfr t ht)
        have j := join_words (S := S1) (wsT_word (hfr t ht)) (by show 4 ≤ 10; decide)
        simp only [wsT, List.map_cons, List.map_nil] at j
        have ad : gAdd (.p (.list [.str "fact"])) (.p (.list [.str (numS t.1), .str (numS t.2.1), .str (numS t.2.2)])) S1 = .ok (.p (.list [.str "fact", .str (numS t.1), .str (numS t.2.1), .str (numS t.2.2)])) S1 := by
          exact if_pos (e := Res.bad) (show 1 + 3 < lim by decide)
        simp [encT, str_ok g1, str_ok g2, str_ok g3, j, wsT, ad])
  have ce : compE (.ok (rows.map fun t => D.p (PyData.str (rowW (wsT t)))) S1) = .ok (.p (.list ((rows.map fun t => rowW (wsT t)).map PyData.str))) S1 := by
    have e : (rows.map fun t => rowW (wsT t)).map PyData.str = rows.map fun t => PyData.str (rowW (wsT t)) := by rw [List.map_map]; rfl
    rw [e, ← map_enc (fun t => PyData.str (rowW (wsT t))), compE_map]
  have neq : gNe (.p (.list ((rows.map fun t => rowW (wsT t)).map PyData.str))) (.p (.list [])) S1 = .ok (.p (.bool (!decide (rows = [])))) S1 := by
    rw [g_ne (by
      rw [shaped_SL fun s hs => ?_]
      · rfl
      · obtain ⟨t, ht, rfl⟩ := List.mem_map.mp hs
        exact join_okS okS_bl fun x hx => word_ok (wsT_word (hfr t ht) x hx))]
    cases rows <;> rfl
  have wr := write_ok (S := S1) (l := encP (some w)) hfr hl4
  have okR : ∀ x ∈ (allW rows).map rowW, x.length ≤ 100 ∧ okS x ∧ 10 ∉ tl x := fun x hx => by
    obtain ⟨ws, hws, rfl⟩ := List.mem_map.mp hx
    obtain ⟨a1, a2, a3⟩ := aw ws hws
    have := rowW_len a3
    exact ⟨by omega, join_okS okS_bl fun y hy => word_ok (a3 y hy), rowW_free a3⟩
  have pcR : ((allW rows).map rowW).map pcs = allW rows := by
    rw [List.map_map]
    have : ∀ ws ∈ allW rows, (pcs ∘ rowW) ws = ws := fun ws hws => rowW_pcs (aw ws hws).1 (aw ws hws).2.2
    rw [List.map_congr_left this, List.map_id']
  have jn := join_rows (S := S1) (ls := (allW rows).map rowW) (by rw [List.length_map]; exact al) (fun x hx => (okR x hx).1)
  have okT : okS (txtW rows) := by
    rw [txtW_all]
    exact join_okS okS_nl fun x hx => (okR x hx).2.1
  have neT : gNe (.p (.str (txtW rows))) (.p (.str (txtW rows))) S1 = .ok (.p (.bool false)) S1 := by
    rw [g_ne (sh_S2 okT okT), eqv_S, decide_eq_true rfl]
    rfl
  rw [← txtW_all] at jn
  have rd := read_all low1 hfr hl4 hw pcR okR
  rw [← txtW_all] at rd
  obtain ⟨x4, hx4⟩ : ∃ x4, x4 = some (D.p (.list (((allW rows).map rowW).map PyData.str))) := ⟨_, rfl⟩
  obtain ⟨ls, S2, h2, b1, b2, e3⟩ := loose_all (ρ := [some (.scr ns), some (.own 1), some (.p (.tuple (rows.map encT))), some (.wld (.tuple (rows.map encT)) (encP (some w))), x4, none, none, none, none]) rfl rfl (allW rows) S1 h1 aw
  have low2 : LowS S2 := h2.lowS LowR.nil
  have rd2 := read_all low2 hfr hl4 hw b1 b2
  have ll : ls.length = (allW rows).length := by rw [← b1, List.length_map]
  have jn2 := join_rows (S := S2) (ls := ls) (by omega) (fun x hx => (b2 x hx).1)
  have ce2 : compE (.ok (ls.map fun x => D.p (.str x)) S2) = .ok (.p (.list (ls.map PyData.str))) S2 := by
    rw [← map_S, compE_map]
  have lf : looseFe = fCall (callM 4 m__law_loose) (fCons (fVar 1) (fCons (fVar 7) fNil)) := rfl
  have hlim : rows.length < 1000000 := by omega
  have alim : (allW rows).length < 1000000 := by omega
  rw [lf] at e3
  rw [callM_ap 9 _ _ _ (by show 1 ≤ 9; decide)]
  have sel : (if rows = [] then [PyData.str "none"] else (rows.map fun t => rowW (wsT t)).map PyData.str) = ((allW rows).map rowW).map PyData.str := by
    unfold allW
    by_cases hn : rows = []
    · rw [if_pos hn, if_pos hn, List.map_cons, rowW_none]
      rfl
    · rw [if_neg hn, if_neg hn, List.map_map, List.map_map, List.map_map]
      rfl
  obtain ⟨S3, e4⟩ : ∃ S3, trim [] (.p (.bool true)) S2 = .ok (.p (.bool true)) S3 := by
    obtain ⟨s, cs, i, hc, rfl⟩ := h2
    exact ⟨[], rfl⟩
  refine ⟨S3, ?_⟩
  subst hx4
  by_cases hn : rows = []
  · rw [if_pos hn] at sel
    rw [decide_eq_true hn] at neq
    have hWs : (allW rows).map rowW = [("none" : Str)] := by
      unfold allW
      rw [if_pos hn, List.map_cons, rowW_none]
      rfl
    rw [← sel, hWs] at e3
    rw [← sel] at jn
    have e3 : compL (gNm 7) fYes (fCall (callM 4 m__law_loose) (fCons (fVar 1) (fCons (fVar 7) fNil))) [some (.scr ns), some (.own 1), some (.p (.tuple (rows.map encT))), some (.wld (.tuple (rows.map encT)) (encP (some w))), some (.p (.list [.str "none"])), none, none, none, none] [D.p (.str "none")] S1 = .ok (ls.map fun x => D.p (.str x)) S2 := e3
    simp [-compL_cons, m_law, e0, e1, e2, hlim, alim, map_enc, cl, ce, -compE_ok, neq, wr, jn, neT, rd, eqW_ok, e3, ce2, jn2, rd2, e4, -List.map_map]
  · rw [if_neg hn] at sel
    rw [decide_eq_false hn] at neq
    have hWs : (allW rows).map rowW = rows.map fun t => rowW (wsT t) := by
      unfold allW
      rw [if_neg hn, List.map_map]
      rfl
    rw [← sel, hWs] at e3
    rw [← sel] at jn
    simp [m_law, e0, e1, e2, hlim, alim, map_enc, cl, ce, -compE_ok, neq, wr, jn, neT, rd, eqW_ok, e3, ce2, jn2, rd2, e4, -List.map_map]
end
abbrev hR : PySem.W.OpenRow := PySem.W.OpenLaw.row PySem.Challenge.rw_twoworths_k12_worlds_written
abbrev hk : PySem.W.Hook := Tw.hookW 6 (Tw.exOf facts) fns
def ob (s : PySem.W.SharedT) : He.AlD := Tw.obsW 6 (Tw.exOf facts) fns (HandSHeadRun.getT s)
theorem ob_eq (s : PySem.W.SharedT) : ob s = hk.obs s.abs := Tw.obsW_eq (HandSHeadRun.getT_eq s)
def loose : List PySem.Str := [("_wall" : PySem.Str), ("__name__" : PySem.Str), ("WorthError" : PySem.Str), ("InvalidFact" : PySem.Str), ("NoWorths" : PySem.Str), ("InvalidText" : PySem.Str), ("BOUND" : PySem.Str), ("span" : PySem.Str), ("least_from" : PySem.Str), ("least_point" : PySem.Str), ("MOST_FACTS" : PySem.Str), ("is_integer" : PySem.Str), ("is_row" : PySem.Str), ("is_fact" : PySem.Str), ("World" : PySem.Str), ("NONE" : PySem.Str), ("MOST_FACTOR" : PySem.Str), ("MOST_REST" : PySem.Str), ("write_world" : PySem.Str), ("Line" : PySem.Str), ("heads" : PySem.Str), ("read_world" : PySem.Str), ("_law_mix" : PySem.Str), ("_law_next" : PySem.Str), ("_law_at" : PySem.Str), ("_law_fact" : PySem.Str), ("_law_facts" : PySem.Str), ("_law_loose" : PySem.Str)]
theorem run (w : World) : HandSHeadRun.RunEq hR (PySem.W.view hR.prog [32]) hk ob 30000 loose w := by
  intro os
  kernel_rfl
theorem law_end {P : Program} {w : World} {K : PySem.W.Frag} {mg : Str → Option Value} {fa : Addr} {h : Heap} (T : Tx facts fns K mg) (KX : K.In h) (hmg : mg "law" = some (.ref fa)) :
    ∃ (K : PySem.W.Frag) (fd : FuncData) (sp : Sp), K.In h ∧ (∀ (s : Shared) (u : Value), BindsTo s fd ⟨[u], []⟩ [("_law_script", u)]) ∧
      (∀ (H : Hp) (a : Addr) (ns : List Int), ns.length ≤ 63 → Only H → SqL K H a (ns.map V.int) → sp [.ref a] H (fun v _ => v = .bl true) fun _ _ _ => False) ∧
      ∀ base : Heap, K.In base → base.Ns mainGlobals mg → FnOk P w K mg base CX0 7 fa fd ["_law_script"] sp := by
  obtain ⟨fd, hb, hg, hF⟩ := ok_law (P := P) (w := w) T
  have e : fa = adr K ("law", none) := by
    rw [hmg] at hg
    exact Value.ref.inj (Option.some.inj hg)
  subst e
  refine ⟨K, fd, fun vs H Q E => spF K (callM 9 m_law) 1 vs H Q fun _ _ _ => False, KX, hb, ?_, fun base _ _ => fn_calm (hF base) fun vs H Q E h => h⟩
  intro H a ns hl ho hs
  obtain ⟨S', e⟩ := law_plain ns hl
  refine ⟨rfl, fun _ => none, H, [], [], [.scr ns], ⟨fun _ _ q => q, fun _ _ q => by (cases q), fun _ _ q => by (cases q), List.nodup_nil, rfl, fun k a o h1 h2 => (by (simp at h1)), fun _ _ q => by (cases q)⟩, .cons ⟨a, rfl, hs⟩ .nil, ?_⟩
  rw [e]
  intro v F' io' H' _ _ r
  cases r
  rfl
end Tw
open PySem PySem.W PySem.Calls PyProof.Rows
theorem PySem.Challenge.cw_twoworths_k12_worlds_written_holds : PySem.Challenge.rw_twoworths_k12_worlds_written.Holds := by
  w_on; o_law
  refine HandSHeadRun.head_any (r := OpenLaw.row PySem.Challenge.rw_twoworths_k12_worlds_written) (q := view (OpenLaw.row PySem.Challenge.rw_twoworths_k12_worlds_written).prog [32]) (H := Tw.hk) (ob := Tw.ob) (M := 30000) (loose := Tw.loose) (d := HandSHeadRun.topDef (OpenLaw.row PySem.Challenge.rw_twoworths_k12_worlds_written).prog 32) (kwd := []) Tw.ob_eq
    (by kernel_rfl) (fun s => by kernel_rfl) Tw.run (by kernel_rfl) (by kernel_rfl) (by kernel_rfl) (by rfl) (by first | assumption | decide +kernel) (by decide +kernel) ⟨rfl, rfl, rfl, rfl, rfl, by decide +kernel⟩ ?hw ?hc
  case hw => w_witness2
  case hc =>
    refine L2.walk_ofE (l := PySem.Challenge.rw_twoworths_k12_worlds_written) (n := 63) (k := 7) (x := "_law_script") (CX := L2.CX0) rfl (by decide) (by kernel_rfl) ⟨rfl, by decide, by decide⟩ ?F (fun _ _ _ _ z => z)
    intro w mg fa h Y G hmg0
    obtain ⟨K, KX, c⟩ := Y
    have hmg : mg ("law" : PySem.Str) = some (.ref fa) := by
      have e : (HandSHeadRun.topDef (OpenLaw.row PySem.Challenge.rw_twoworths_k12_worlds_written).prog 32).name = ("law" : PySem.Str) := by kernel_rfl
      rw [← e]
      exact hmg0
    exact Tw.law_end ⟨c, h, KX, G⟩ KX hmg
