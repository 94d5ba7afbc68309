import PyProof.Rows.All
import Wide.All
import OpenK.AllK
import Wide.FinOn
import HandS.ForMost
import HandS.ForExc
import HandS.Slots
import HandS.HeadHook2
import HandS.IsInst
import HandS.Strs
import HandS.TupAny
import HandS.TupMul
import HandS.Style
import HandS.Small
import HandS.TryMany
import HandS.ExcField
import HandS.ExcInit
import HandS.HeadEnd
import HandS.ExcIs
import HandS.Star
import HandS.Head4
import HandS.HeadWalk
import PySem.Challenge.RW_twoworths_k04_whole_recipes_at_told_wort
set_option Elab.async false
set_option linter.all false
set_option maxRecDepth 100000
set_option maxHeartbeats 4000000
/-! Values of the program as data (D), mutable things by places in a store (O), functional readings of the hand layer. -/
namespace Tw
open PySem PySem.Spec PyProof.Rows L2

inductive D where
  | p (d : PyData)
  | own (k : Nat)
  | wld (d l : PyData)
  | exn
  | scr (ns : List Int)
inductive O where
  | lst (xs : List D)
  | dic (kvs : List (List Key × D))
  | ins (n : Str) (fs : List (Str × D))
  | raw (j : Nat)
  | odx (j : Nat)
  | fz (d : D)
abbrev Env := List (Option D)
abbrev Sto := List O
inductive Res (α : Type) where
  | ok (a : α) (S : Sto)
  | exc (n : Str) (as : List PyData) (S : Sto)
  | bad
def Res.bind {α β : Type} (r : Res α) (f : α → Sto → Res β) : Res β := match r with
  | .ok a S => f a S
  | .exc n as S => .exc n as S
  | .bad => .bad

/-! ### data stay while the heap grows -/
theorem sq_t {K : PySem.W.Frag} {H H' : Hp} {a : Addr} {xs : List V} (e : Same H H') (h : SqT K H a xs) : SqT K H' a xs := by
  rcases h with (h | ⟨o, h⟩) | h
  · exact .inl (.inl (e _ _ h))
  · exact .inl (.inr ⟨o, e _ _ h⟩)
  · exact .inr h
mutual
/-- a value that is pure data: its lists are tracked and never change -/
inductive Dq (K : PySem.W.Frag) (F : Hp) : V → PyData → Prop
  | non : Dq K F .non .none
  | bl (b : Bool) : Dq K F (.bl b) (.bool b)
  | int (i : Int) : Dq K F (.int i) (.int i)
  | str (x : Str) : Dq K F (.str x) (.str x)
  | lst {a : Addr} {xs : List V} {ds : List PyData} : F a = some (.lst xs) → DqA K F xs ds → Dq K F (.ref a) (.list ds)
  | tup {a : Addr} {xs : List V} {ds : List PyData} : SqT K F a xs → DqA K F xs ds → Dq K F (.ref a) (.tuple ds)
inductive DqA (K : PySem.W.Frag) (F : Hp) : List V → List PyData → Prop
  | nil : DqA K F [] []
  | cons {v : V} {vs : List V} {d : PyData} {ds : List PyData} : Dq K F v d → DqA K F vs ds → DqA K F (v :: vs) (d :: ds)
end
mutual
theorem dp_of {K : PySem.W.Frag} {F H : Hp} (e : Same F H) : ∀ (d : PyData) (v : V), Dq K F v d → Dp K H v d
  | .none, _, h => by cases h; exact .non
  | .bool b, _, h => by cases h; exact .bl b
  | .int i, _, h => by cases h; exact .int i
  | .str x, _, h => by cases h; exact .str x
  | .list ds, _, h => by
    cases h with
    | lst hs ha => exact .lst (SqL.of (e _ _ hs)) (dpa_of e ds _ ha)
  | .tuple ds, _, h => by
    cases h with
    | tup hs ha => exact .tup (sq_t e hs) (dpa_of e ds _ ha)
  | .dict _, _, h => by cases h
theorem dpa_of {K : PySem.W.Frag} {F H : Hp} (e : Same F H) : ∀ (ds : List PyData) (vs : List V), DqA K F vs ds → DpAll K H vs ds
  | [], _, h => by cases h; exact .nil
  | d :: ds, _, h => by
    cases h with
    | cons h1 h2 => exact .cons (dp_of e d _ h1) (dpa_of e ds _ h2)
end
mutual
theorem dp_mono {K : PySem.W.Frag} {F H : Hp} (e : Same F H) : ∀ (d : PyData) (v : V), Dq K F v d → Dq K H v d
  | .none, _, h => by cases h; exact .non
  | .bool b, _, h => by cases h; exact .bl b
  | .int i, _, h => by cases h; exact .int i
  | .str x, _, h => by cases h; exact .str x
  | .list ds, _, h => by
    cases h with
    | lst hs ha => exact .lst (e _ _ hs) (dpa_mono e ds _ ha)
  | .tuple ds, _, h => by
    cases h with
    | tup hs ha => exact .tup (sq_t e hs) (dpa_mono e ds _ ha)
  | .dict _, _, h => by cases h
theorem dpa_mono {K : PySem.W.Frag} {F H : Hp} (e : Same F H) : ∀ (ds : List PyData) (vs : List V), DqA K F vs ds → DqA K H vs ds
  | [], _, h => by cases h; exact .nil
  | d :: ds, _, h => by
    cases h with
    | cons h1 h2 => exact .cons (dp_mono e d _ h1) (dpa_mono e ds _ h2)
end
theorem dpa_len {K : PySem.W.Frag} {H : Hp} : ∀ (ds : List PyData) (vs : List V), DqA K H vs ds → vs.length = ds.length
  | [], _, h => by cases h; rfl
  | d :: ds, _, h => by
    cases h with
    | cons h1 h2 => rw [List.length_cons, List.length_cons, dpa_len ds _ h2]
theorem dpa_get {K : PySem.W.Frag} {H : Hp} : ∀ (ds : List PyData) (vs : List V) (i : Nat) (d : PyData), DqA K H vs ds → ds[i]? = some d → ∃ v, vs[i]? = some v ∧ Dq K H v d
  | [], _, i, d, h, e => by simp at e
  | d0 :: ds, _, 0, d, h, e => by
    cases h with
    | cons h1 h2 =>
      have e2 : d0 = d := by simpa using e
      subst e2
      exact ⟨_, rfl, h1⟩
  | d0 :: ds, _, i + 1, d, h, e => by
    cases h with
    | cons h1 h2 =>
      obtain ⟨v, q, r⟩ := dpa_get ds _ i d h2 (by simpa using e)
      exact ⟨v, by simpa using q, r⟩
theorem dpa_app {K : PySem.W.Frag} {H : Hp} : ∀ {ds es : List PyData} {vs ws : List V}, DqA K H vs ds → DqA K H ws es → DqA K H (vs ++ ws) (ds ++ es)
  | [], es, _, ws, h, g => by cases h; exact g
  | d :: ds, es, _, ws, h, g => by
    cases h with
    | cons h1 h2 => exact .cons h1 (dpa_app h2 g)
theorem dpa_take {K : PySem.W.Frag} {H : Hp} : ∀ {ds : List PyData} {vs : List V} (n : Nat), DqA K H vs ds → DqA K H (vs.take n) (ds.take n)
  | _, _, 0, _ => .nil
  | [], _, n + 1, h => by cases h; exact .nil
  | d :: ds, _, n + 1, h => by
    cases h with
    | cons h1 h2 => exact .cons h1 (dpa_take n h2)
theorem dpa_drop {K : PySem.W.Frag} {H : Hp} : ∀ {ds : List PyData} {vs : List V} (n : Nat), DqA K H vs ds → DqA K H (vs.drop n) (ds.drop n)
  | _, _, 0, h => h
  | [], _, n + 1, h => by cases h; exact .nil
  | d :: ds, _, n + 1, h => by
    cases h with
    | cons h1 h2 => exact dpa_drop n h2

/-! ### what stands for what -/
/-- an exception's class and fields -/
def flds : Nat → List Str
  | 1 => ["index"]
  | 2 => ["line", "word"]
  | _ => []
def IsX (K : PySem.W.Frag) (F : Hp) (n : Str) (as : List PyData) (cls : Value) (dd : Option Addr) : Prop :=
  cls = .ref (He.ga K n) ∧ ((as = [] ∧ dd = none) ∨ ∃ d vs, as ≠ [] ∧ dd = some d ∧ F d = some (.xd ((flds as.length).zip vs)) ∧ DqA K F vs as)
theorem isx_mono {K : PySem.W.Frag} {F F' : Hp} (e : Same F F') {n : Str} {as : List PyData} {cls : Value} {dd : Option Addr} (h : IsX K F n as cls dd) : IsX K F' n as cls dd := by
  obtain ⟨h1, h2 | ⟨d, vs, h2, h3, h4, h5⟩⟩ := h
  · exact ⟨h1, .inl h2⟩
  · exact ⟨h1, .inr ⟨d, vs, h2, h3, e _ _ h4, dpa_mono e _ _ h5⟩⟩
/-- a world that stands -/
def WAt (K : PySem.W.Frag) (F : Hp) (a : Addr) (d l : PyData) : Prop :=
  ∃ dx vs vr vf pr ir pf jf, F a = some (SlX.SlO a (He.ga K "World") dx vs) ∧ F dx = some (.xd []) ∧ SlX.Slot1 K (He.ga K "World") "rows" pr ir ∧ SlX.Slot1 K (He.ga K "World") "first" pf jf ∧
    vs[ir]? = some (some vr) ∧ vs[jf]? = some (some vf) ∧ Dq K F vr d ∧ Dq K F vf l
theorem wat_mono {K : PySem.W.Frag} {F F' : Hp} (e : Same F F') {a : Addr} {d l : PyData} (h : WAt K F a d l) : WAt K F' a d l := by
  obtain ⟨dx, vs, vr, vf, pr, ir, pf, jf, h1, h2, h3, h4, h5, h6, h7, h8⟩ := h
  exact ⟨dx, vs, vr, vf, pr, ir, pf, jf, e _ _ h1, e _ _ h2, h3, h4, h5, h6, dp_mono e _ _ h7, dp_mono e _ _ h8⟩
def Rp (K : PySem.W.Frag) (F : Hp) (io : List Addr) (v : V) : D → Prop
  | .p d => Dq K F v d
  | .own k => ∃ a, v = .ref a ∧ io[k]? = some a
  | .wld d l => ∃ a, v = .ref a ∧ WAt K F a d l
  | .exn => False
  | .scr ns => ∃ a, v = .ref a ∧ SqL K F a (ns.map V.int)
structure Ext (F : Hp) (io : List Addr) (F' : Hp) (io' : List Addr) : Prop where
  same : Same F F'
  more : ∃ t, io' = io ++ t
theorem Ext.refl (F : Hp) (io : List Addr) : Ext F io F io := ⟨Same.refl F, [], by simp⟩
theorem Ext.trans {F F1 F2 : Hp} {i i1 i2 : List Addr} (a : Ext F i F1 i1) (b : Ext F1 i1 F2 i2) : Ext F i F2 i2 := by
  obtain ⟨t, ht⟩ := a.more
  obtain ⟨u, hu⟩ := b.more
  exact ⟨a.same.trans b.same, t ++ u, by rw [hu, ht, List.append_assoc]⟩
theorem Ext.ix {F F1 : Hp} {i i1 : List Addr} (a : Ext F i F1 i1) {k : Nat} {x : Addr} (h : i[k]? = some x) : i1[k]? = some x := by
  obtain ⟨t, ht⟩ := a.more
  rw [ht, List.getElem?_append_left (List.getElem?_eq_some_iff.mp h).1]
  exact h
theorem rp_mono {K : PySem.W.Frag} {F F' : Hp} {i i' : List Addr} (e : Ext F i F' i') {v : V} : ∀ {d : D}, Rp K F i v d → Rp K F' i' v d
  | .p d, h => dp_mono e.same d v h
  | .own k, ⟨a, h1, h2⟩ => ⟨a, h1, e.ix h2⟩
  | .wld d l, ⟨a, h1, h2⟩ => ⟨a, h1, wat_mono e.same h2⟩
  | .exn, h => h
  | .scr ns, ⟨a, h1, h2⟩ => ⟨a, h1, e.same.seq h2⟩
abbrev RpA (K : PySem.W.Frag) (F : Hp) (io : List Addr) : List V → List D → Prop := Paired (Rp K F io)
theorem rpa_mono {K : PySem.W.Frag} {F F' : Hp} {i i' : List Addr} (e : Ext F i F' i') {vs : List V} {ds : List D} (h : RpA K F i vs ds) : RpA K F' i' vs ds := Paired.mapP h fun _ _ r => rp_mono e r

def OAt (K : PySem.W.Frag) (F : Hp) (io : List Addr) (H : Hp) (a : Addr) : O → Prop
  | .lst xs => F a = none ∧ ∃ vs, H a = some (.lst vs) ∧ RpA K F io vs xs
  | .dic kvs => F a = none ∧ ∃ kws, H a = some (.dT kws) ∧ Paired (fun (p : List Key × V) (q : List Key × D) => p.1 = q.1 ∧ Rp K F io p.2 q.2) kws kvs
  | .ins n fs => F a = none ∧ ∃ dx fvs, H a = some (.ins (He.ga K n) dx fvs) ∧ F dx = some (.own a) ∧ Paired (fun (p : Str × V) (q : Str × D) => p.1 = q.1 ∧ Rp K F io p.2 q.2) fvs fs
  | .raw j => F a = none ∧ ∃ dx, io[j]? = some dx ∧ H a = some (.ins (He.ga K "World") dx [])
  | .odx j => F a = none ∧ ∃ b, io[j]? = some b ∧ H a = some (.own b)
  | .fz d => (∃ o, F a = some o) ∧ Rp K F io (.ref a) d
theorem oat_there {K : PySem.W.Frag} {F : Hp} {io : List Addr} {H : Hp} {a : Addr} (ex : Same F H) : ∀ {o : O}, OAt K F io H a o → ∃ u, H a = some u
  | .lst xs, ⟨_, vs, h, _⟩ => ⟨_, h⟩
  | .dic kvs, ⟨_, _, h, _⟩ => ⟨_, h⟩
  | .ins n fs, ⟨_, _, _, h, _⟩ => ⟨_, h⟩
  | .raw j, ⟨_, _, _, h⟩ => ⟨_, h⟩
  | .odx j, ⟨_, _, _, h⟩ => ⟨_, h⟩
  | .fz d, ⟨⟨o, h⟩, _⟩ => ⟨o, ex _ _ h⟩
theorem oat_step {K : PySem.W.Frag} {F F' : Hp} {i i' : List Addr} {H H' : Hp} {a : Addr} (e : Ext F i F' i') (hF : F a = none → F' a = none) (hH : F a = none → H' a = H a) : ∀ {o : O}, OAt K F i H a o → OAt K F' i' H' a o
  | .lst xs, ⟨h0, vs, h, r⟩ => ⟨hF h0, vs, (hH h0).trans h, rpa_mono e r⟩
  | .dic kvs, ⟨h0, kws, h, r⟩ => ⟨hF h0, kws, (hH h0).trans h, Paired.mapP r fun _ _ z => ⟨z.1, rp_mono e z.2⟩⟩
  | .ins n fs, ⟨h0, dx, fvs, h, h2, r⟩ => ⟨hF h0, dx, fvs, (hH h0).trans h, e.same _ _ h2, Paired.mapP r fun _ _ z => ⟨z.1, rp_mono e z.2⟩⟩
  | .raw j, ⟨h0, dx, h1, h⟩ => ⟨hF h0, dx, e.ix h1, (hH h0).trans h⟩
  | .odx j, ⟨h0, b, h1, h⟩ => ⟨hF h0, b, e.ix h1, (hH h0).trans h⟩
  | .fz d, ⟨⟨o, h⟩, r⟩ => ⟨⟨o, e.same _ _ h⟩, rp_mono e r⟩
/-- F: what never changes; io, S: what may change, by places; G: what others hold here -/
structure Good (K : PySem.W.Frag) (G F : Hp) (io : List Addr) (H : Hp) (S : Sto) : Prop where
  ex : Same F H
  gx : Same G H
  gf : ∀ a o, G a = some o → F a = none ∧ a ∉ io
  nd : io.Nodup
  len : io.length = S.length
  ob : ∀ (k : Nat) (a : Addr) (o : O), io[k]? = some a → S[k]? = some o → OAt K F io H a o
section
variable {K : PySem.W.Frag} {G F : Hp} {io : List Addr} {H : Hp} {S : Sto} {p : Addr} {o : HO}
theorem Good.out (g : Good K G F io H S) (h : H p = none) : F p = none := g.ex.free h
theorem Good.mem (g : Good K G F io H S) {a : Addr} (h : a ∈ io) : ∃ u, H a = some u := by
  obtain ⟨k, hk, e⟩ := List.mem_iff_getElem.mp h
  have h1 : io[k]? = some a := by rw [List.getElem?_eq_getElem hk, e]
  have hk2 : k < S.length := by rw [← g.len]; exact hk
  have h2 : S[k]? = some S[k] := List.getElem?_eq_getElem hk2
  exact oat_there g.ex (g.ob k a _ h1 h2)
theorem Good.at_ (g : Good K G F io H S) {k : Nat} {o : O} (h : S[k]? = some o) : ∃ a, io[k]? = some a ∧ OAt K F io H a o := by
  have hk := (List.getElem?_eq_some_iff.mp h).1
  have hk2 : k < io.length := by rw [g.len]; exact hk
  have h1 : io[k]? = some io[k] := List.getElem?_eq_getElem hk2
  exact ⟨_, h1, g.ob k _ o h1 h⟩
theorem Good.gne (g : Good K G F io H S) {b a : Addr} {u : HO} {k : Nat} (q : G b = some u) (h1 : io[k]? = some a) : b ≠ a := fun z => (g.gf b u q).2 (z ▸ List.mem_of_getElem? h1)
theorem Good.gnew (g : Good K G F io H S) (h : H p = none) {b : Addr} {u : HO} (q : G b = some u) : b ≠ p := ne_of_none (g.gx _ _ q) h
theorem Good.gxnew (g : Good K G F io H S) (h : H p = none) : Same G (upd H p o) := fun b u q => by
  rw [upd_ne (g.gnew h q)]
  exact g.gx _ _ q
theorem upd_one {F : Hp} {p : Addr} {o : HO} (h : F p = none) : Same F (upd F p o) := fun b u e => by
  rw [upd_ne (ne_of_none e h)]
  exact e
theorem upd_both {F H : Hp} {p : Addr} {o : HO} (e : Same F H) : Same (upd F p o) (upd H p o) := fun b u q => by
  by_cases hb : b = p
  · subst hb
    rw [upd_same] at q ⊢
    exact q
  · rw [upd_ne hb] at q ⊢
    exact e _ _ q
/-- a new thing that never changes -/
theorem Good.new (g : Good K G F io H S) (h : H p = none) : Good K G (upd F p o) io (upd H p o) S ∧ Ext F io (upd F p o) io := by
  have hf := g.out h
  have e : Ext F io (upd F p o) io := ⟨upd_one hf, [], by simp⟩
  refine ⟨⟨upd_both g.ex, g.gxnew h, fun a u q => ⟨by rw [upd_ne (g.gnew h q)]; exact (g.gf a u q).1, (g.gf a u q).2⟩, g.nd, g.len, fun k a o' h1 h2 => ?_⟩, e⟩
  have ha : a ≠ p := by
    obtain ⟨u, hu⟩ := g.mem (List.mem_of_getElem? h1)
    exact ne_of_none hu h
  exact oat_step e (fun z => by rw [upd_ne ha]; exact z) (fun _ => by rw [upd_ne ha]) (g.ob k a o' h1 h2)
/-- a new thing that may change -/
theorem Good.newOwn (g : Good K G F io H S) (h : H p = none) {x : O} (hx : OAt K F (io ++ [p]) (upd H p o) p x) : Good K G F (io ++ [p]) (upd H p o) (S ++ [x]) ∧ Ext F io F (io ++ [p]) := by
  have hf := g.out h
  have e : Ext F io F (io ++ [p]) := ⟨Same.refl F, [p], rfl⟩
  have hp : p ∉ io := fun hm => by
    obtain ⟨u, hu⟩ := g.mem hm
    rw [h] at hu
    cases hu
  refine ⟨⟨fun b u q => ?_, g.gxnew h, fun a u q => ⟨(g.gf a u q).1, fun hm => (List.mem_append.mp hm).elim (g.gf a u q).2 fun hm => g.gnew h q (by simpa using hm)⟩, ?_, by simp [g.len], fun k a o' h1 h2 => ?_⟩, e⟩
  · rw [upd_ne (ne_of_none q hf)]
    exact g.ex _ _ q
  · rw [List.nodup_append]
    exact ⟨g.nd, by simp, fun a ha b hb => by
      have hb' : b = p := by simpa using hb
      subst hb'
      exact fun z => hp (z ▸ ha)⟩
  · by_cases hk : k < io.length
    · rw [List.getElem?_append_left hk] at h1
      rw [List.getElem?_append_left (by rw [← g.len]; exact hk)] at h2
      have ha : a ≠ p := fun z => hp (z ▸ List.mem_of_getElem? h1)
      exact oat_step e (fun z => z) (fun _ => upd_ne ha) (g.ob k a o' h1 h2)
    · have hk2 : k = io.length := by
        have := (List.getElem?_eq_some_iff.mp h1).1
        simp at this
        omega
      subst hk2
      rw [List.getElem?_append_right (Nat.le_refl _)] at h1
      rw [g.len, List.getElem?_append_right (Nat.le_refl _)] at h2
      simp at h1 h2
      subst h1
      subst h2
      exact hx
/-- a mutable thing is written -/
theorem Good.put (g : Good K G F io H S) {k : Nat} {a : Addr} (h1 : io[k]? = some a) (hf : F a = none) {x : O} (hx : OAt K F io (upd H a o) a x) : Good K G F io (upd H a o) (S.set k x) := by
  refine ⟨fun b u q => ?_, fun b u q => by rw [upd_ne (g.gne q h1)]; exact g.gx _ _ q, g.gf, g.nd, by simp [g.len], fun j b o' e1 e2 => ?_⟩
  · rw [upd_ne (ne_of_none q hf)]
    exact g.ex _ _ q
  · by_cases hj : j = k
    · subst hj
      rw [h1] at e1
      have e1 : a = b := Option.some.inj e1
      subst e1
      have hk : j < S.length := by
        have := (List.getElem?_eq_some_iff.mp e2).1
        simpa using this
      rw [List.getElem?_set_self hk] at e2
      have e2 : x = o' := Option.some.inj e2
      subst e2
      exact hx
    · rw [List.getElem?_set_ne (Ne.symm hj)] at e2
      have hb : b ≠ a := fun z => by
        subst z
        have l1 := (List.getElem?_eq_some_iff.mp e1)
        have l2 := (List.getElem?_eq_some_iff.mp h1)
        obtain ⟨m1, n1⟩ := l1
        obtain ⟨m2, n2⟩ := l2
        exact hj ((List.getElem_inj g.nd).mp (n1.trans n2.symm))
      exact oat_step (Ext.refl F io) (fun z => z) (fun _ => upd_ne hb) (g.ob j b o' e1 e2)
/-- a mutable list never changes again -/
theorem Good.freeze (g : Good K G F io H S) {k : Nat} {a : Addr} (h1 : io[k]? = some a) (hf : F a = none) (ho : H a = some o) {d : D} (hd : Rp K (upd F a o) io (.ref a) d) : Good K G (upd F a o) io H (S.set k (.fz d)) ∧ Ext F io (upd F a o) io := by
  have e : Ext F io (upd F a o) io := ⟨upd_one hf, [], by simp⟩
  refine ⟨⟨fun b u q => ?_, g.gx, fun b u q => ⟨by rw [upd_ne (g.gne q h1)]; exact (g.gf b u q).1, (g.gf b u q).2⟩, g.nd, by simp [g.len], fun j b o' e1 e2 => ?_⟩, e⟩
  · by_cases hb : b = a
    · subst hb
      rw [upd_same] at q
      rw [← q]
      exact ho
    · rw [upd_ne hb] at q
      exact g.ex _ _ q
  · by_cases hj : j = k
    · subst hj
      rw [h1] at e1
      have e1 : a = b := Option.some.inj e1
      subst e1
      have hk : j < S.length := by
        have := (List.getElem?_eq_some_iff.mp e2).1
        simpa using this
      rw [List.getElem?_set_self hk] at e2
      have e2 : O.fz d = o' := Option.some.inj e2
      subst e2
      exact ⟨⟨o, upd_same⟩, hd⟩
    · rw [List.getElem?_set_ne (Ne.symm hj)] at e2
      have hb : b ≠ a := fun z => by
        subst z
        obtain ⟨m1, n1⟩ := (List.getElem?_eq_some_iff.mp e1)
        obtain ⟨m2, n2⟩ := (List.getElem?_eq_some_iff.mp h1)
        exact hj ((List.getElem_inj g.nd).mp (n1.trans n2.symm))
      exact oat_step e (fun z => by rw [upd_ne hb]; exact z) (fun _ => rfl) (g.ob j b o' e1 e2)
end
end Tw
namespace Tw
open PySem PySem.Spec PyProof.Rows L2

/-- the exception that a suite holds: its slot's value, its class, its dict, what it is -/
structure Ux where
  a : Addr
  cls : Value
  dd : Option Addr
  n : Str
  as : List PyData
structure Cw where
  K : PySem.W.Frag
  U : Option Ux
  W : WX
def RpE (c : Cw) (F : Hp) (io : List Addr) (v : V) : D → Prop
  | .exn => ∃ u, c.U = some u ∧ v = .ref u.a ∧ IsX c.K F u.n u.as u.cls u.dd
  | d => Rp c.K F io v d
theorem rpe_of {c : Cw} {F : Hp} {io : List Addr} {v : V} {d : D} (h : Rp c.K F io v d) : RpE c F io v d := by
  cases d <;> first | exact h | exact h.elim
theorem rpe_mono {c : Cw} {F F1 : Hp} {i i1 : List Addr} (e : Ext F i F1 i1) {v : V} : ∀ {d : D}, RpE c F i v d → RpE c F1 i1 v d
  | .exn, ⟨u, h1, h2, h3⟩ => ⟨u, h1, h2, isx_mono e.same h3⟩
  | .p d, h => rp_mono (K := c.K) (d := .p d) e h
  | .own k, h => rp_mono (K := c.K) (d := .own k) e h
  | .wld d l, h => rp_mono (K := c.K) (d := .wld d l) e h
  | .scr ns, h => rp_mono (K := c.K) (d := .scr ns) e h
def REnv (c : Cw) (F : Hp) (io : List Addr) (σ : L2.St) (ρ : Env) : Prop :=
  σ.length = ρ.length ∧ ∀ (i : Nat) (d : D), ρ[i]? = some (some d) → ∃ v, σ[i]? = some (some v) ∧ RpE c F io v d
theorem renv_mono {c : Cw} {F F1 : Hp} {i i1 : List Addr} {σ : L2.St} {ρ : Env} (e : Ext F i F1 i1) (h : REnv c F i σ ρ) : REnv c F1 i1 σ ρ :=
  ⟨h.1, fun j d q => let ⟨v, h1, h2⟩ := h.2 j d q; ⟨v, h1, rpe_mono e h2⟩⟩
theorem renv_set {c : Cw} {F : Hp} {io : List Addr} {σ : L2.St} {ρ : Env} (h : REnv c F io σ ρ) {v : V} {d : D} (r : RpE c F io v d) (i : Nat) : REnv c F io (σ.set i (some v)) (ρ.set i (some d)) := by
  refine ⟨by rw [List.length_set, List.length_set]; exact h.1, fun j d' q => ?_⟩
  by_cases hj : i = j
  · subst hj
    have hl : i < ρ.length := by
      have := (List.getElem?_eq_some_iff.mp q).1
      simpa using this
    rw [List.getElem?_set_self hl] at q
    have q : d = d' := Option.some.inj (Option.some.inj q)
    subst q
    have hs : i < σ.length := by rw [h.1]; exact hl
    exact ⟨v, List.getElem?_set_self hs, r⟩
  · rw [List.getElem?_set_ne hj] at q ⊢
    exact h.2 j d' q
theorem renv_none {c : Cw} {F : Hp} {io : List Addr} {σ : L2.St} {ρ : Env} (h : REnv c F io σ ρ) (i : Nat) : REnv c F io (σ.set i none) (ρ.set i none) := by
  refine ⟨by rw [List.length_set, List.length_set]; exact h.1, fun j d' q => ?_⟩
  by_cases hj : i = j
  · subst hj
    have hl : i < ρ.length := by
      have := (List.getElem?_eq_some_iff.mp q).1
      simpa using this
    rw [List.getElem?_set_self hl] at q
    cases q
  · rw [List.getElem?_set_ne hj] at q ⊢
    exact h.2 j d' q

section
variable {α β γ δ : Type}
def Aft (c : Cw) (G F : Hp) (io : List Addr) (σ : L2.St) (R : Hp → List Addr → β → α → Prop) (Q : β → Hp → Prop) : Res α → Prop
  | .ok d S => ∀ v F' io' H', Ext F io F' io' → Good c.K G F' io' H' S → R F' io' v d → Q v H'
  | .exc n as S => ∀ cls dd F' io' H', Ext F io F' io' → Good c.K G F' io' H' S → IsX c.K F' n as cls dd → c.W cls dd σ H'
  | .bad => False
variable {c : Cw} {G F F1 : Hp} {io io1 : List Addr} {σ : L2.St} {R : Hp → List Addr → β → α → Prop} {Q : β → Hp → Prop}
theorem Aft.ext {r : Res α} (h : Aft c G F io σ R Q r) (e : Ext F io F1 io1) : Aft c G F1 io1 σ R Q r := by
  cases r with
  | ok d S => exact fun v F' io' H' e' => h v F' io' H' (e.trans e')
  | exc n as S => exact fun cls dd F' io' H' e' => h cls dd F' io' H' (e.trans e')
  | bad => exact h
theorem Aft.step {R1 : Hp → List Addr → δ → γ → Prop} {Q1 : δ → Hp → Prop} {r : Res γ} {k : γ → Sto → Res α} (h : Aft c G F io σ R Q (r.bind k))
    (go : ∀ d S1 v F1 io1 H1, Ext F io F1 io1 → Good c.K G F1 io1 H1 S1 → R1 F1 io1 v d → Aft c G F1 io1 σ R Q (k d S1) → Q1 v H1) : Aft c G F io σ R1 Q1 r := by
  cases r with
  | ok d S1 => exact fun v F1 io1 H1 e g r => go d S1 v F1 io1 H1 e g r (Aft.ext (r := k d S1) h e)
  | exc n as S => exact h
  | bad => exact h
theorem Aft.here {d : α} {S : Sto} {v : β} {H : Hp} (h : Aft c G F io σ R Q (.ok d S)) (g : Good c.K G F io H S) (r : R F io v d) : Q v H := h v F io H (Ext.refl F io) g r
end
abbrev rp (c : Cw) : Hp → List Addr → V → D → Prop := fun F io v d => Rp c.K F io v d
abbrev rpA (c : Cw) : Hp → List Addr → List V → List D → Prop := fun F io vs ds => RpA c.K F io vs ds
abbrev rpB : Hp → List Addr → Bool → Bool → Prop := fun _ _ a b => a = b
def Res.asB : Res D → Res Bool
  | .ok (.p (.bool b)) S => .ok b S
  | .ok _ _ => .bad
  | .exc n as S => .exc n as S
  | .bad => .bad
abbrev FE := Env → Sto → Res D
abbrev FA := Env → Sto → Res (List D)
def tE (c : Cw) (f : FE) : TE := fun σ H Q => ∃ G F io S ρ, Good c.K G F io H S ∧ REnv c F io σ ρ ∧ Aft c G F io σ (rp c) Q (f ρ S)
def tA (c : Cw) (f : FA) : TA := fun σ H Q => ∃ G F io S ρ, Good c.K G F io H S ∧ REnv c F io σ ρ ∧ Aft c G F io σ (rpA c) Q (f ρ S)
def tT (c : Cw) (f : FE) : TT := fun σ H Q => ∃ G F io S ρ, Good c.K G F io H S ∧ REnv c F io σ ρ ∧ Aft c G F io σ rpB Q (f ρ S).asB

section
variable {X : Cx} {e : Expr} {es : List Expr}
theorem pe_imp {t t' : TE} (h : PE X e t) (i : ∀ σ H Q, t' σ H Q → t σ H Q) : PE X e t' := ⟨fun pins s σ H Q I q => h.run pins s σ H Q I (i σ H Q q)⟩
theorem pt_imp {t t' : TT} (h : PT X e t) (i : ∀ σ H Q, t' σ H Q → t σ H Q) : PT X e t' := ⟨fun pins s σ H Q I q => h.run pins s σ H Q I (i σ H Q q)⟩
theorem pw_imp {t t' : TT} (h : PW X e t) (i : ∀ σ H Q, t' σ H Q → t σ H Q) : PW X e t' := ⟨fun wh pins s σ H Q I q => h.run wh pins s σ H Q I (i σ H Q q)⟩
theorem pa_imp {t t' : TA} (h : PA X es t) (i : ∀ σ H Q, t' σ H Q → t σ H Q) : PA X es t' := ⟨fun pos pins s σ H Q I q => h.run pos pins s σ H Q I (i σ H Q q)⟩
theorem ps_imp {st : Stmt} {t t' : TS} (h : PS X st t) (i : ∀ D σ H, t' D σ H → t D σ H) : PS X st t' := ⟨fun pins s σ H D I q => h.run pins s σ H D I (i D σ H q)⟩
theorem pss_imp {st : List Stmt} {t t' : TS} (h : PSs X st t) (i : ∀ D σ H, t' D σ H → t D σ H) : PSs X st t' := ⟨fun pins s σ H D I q => h.run pins s σ H D I (i D σ H q)⟩
end

/-! ### names, constants -/
def fVar (i : Nat) : FE := fun ρ S => match ρ[i]? with
  | some (some .exn) => .bad
  | some (some d) => .ok d S
  | _ => .bad
def fCon (d : PyData) : FE := fun _ S => .ok (.p d) S
section
variable {X : Cx} {e a b : Expr} {es : List Expr} {c : Cw} {fa fb fc : FE} {pos : Pos}
theorem fe_var {i : Nat} (h : PE X e (tVar i)) : PE X e (tE c (fVar i)) := pe_imp h fun σ H Q ⟨G, F, io, S, ρ, g, r, q⟩ => by
  unfold fVar at q
  cases h1 : ρ[i]? with
  | none => rw [h1] at q; exact q.elim
  | some o =>
    cases o with
    | none => rw [h1] at q; exact q.elim
    | some d =>
      rw [h1] at q
      obtain ⟨v, h2, h3⟩ := r.2 i d h1
      cases d with
      | exn => exact q.elim
      | p d => exact ⟨v, h2, Aft.here q g h3⟩
      | own k => exact ⟨v, h2, Aft.here q g h3⟩
      | wld d l => exact ⟨v, h2, Aft.here q g h3⟩
      | scr ns => exact ⟨v, h2, Aft.here q g h3⟩
theorem fe_con {v : V} {d : PyData} (h : PE X e (tC v)) (hd : ∀ F, Dq c.K F v d) : PE X e (tE c (fCon d)) := pe_imp h fun σ H Q ⟨G, F, io, S, ρ, g, r, q⟩ =>
  Aft.here (v := v) q g (hd F)
theorem fe_int {i : Int} {j} : PE X (.Constant (.int i) j pos) (tE c (fCon (.int i))) := fe_con pe_int fun _ => .int i
theorem fe_bl {b : Bool} {j} : PE X (.Constant (.bool b) j pos) (tE c (fCon (.bool b))) := fe_con pe_bl fun _ => .bl b
theorem fe_non {j} : PE X (.Constant .none j pos) (tE c (fCon .none)) := fe_con pe_non fun _ => .non
theorem fe_str {x : Str} {j} : PE X (.Constant (.str x) j pos) (tE c (fCon (.str x))) := fe_con pe_str fun _ => .str x

/-! ### two-place operations -/
def fBin (g : D → D → Sto → Res D) (fa fb : FE) : FE := fun ρ S => (fa ρ S).bind fun x S1 => (fb ρ S1).bind fun y S2 => g x y S2
def BOp (c : Cw) (r : R2) (g : D → D → Sto → Res D) : Prop := ∀ G F io H S σ x y dx dy Q, Good c.K G F io H S → Rp c.K F io x dx → Rp c.K F io y dy → Aft c G F io σ (rp c) Q (g dx dy S) → r x y H Q
theorem fe_op {r : R2} {g : D → D → Sto → Res D} (hop : ∀ {ta tb : TE}, PE X a ta → PE X b tb → PE X e (tOp r ta tb)) (hr : BOp c r g) (ha : PE X a (tE c fa)) (hb : PE X b (tE c fb)) : PE X e (tE c (fBin g fa fb)) :=
  pe_imp (hop ha hb) fun σ H Q ⟨G, F, io, S, ρ, gd, re, q⟩ => ⟨G, F, io, S, ρ, gd, re, Aft.step q fun d1 S1 v1 F1 i1 H1 e1 g1 r1 q1 =>
    ⟨G, F1, i1, S1, ρ, g1, renv_mono e1 re, Aft.step q1 fun d2 S2 v2 F2 i2 H2 e2 g2 r2 q2 => hr G F2 i2 H2 S2 σ v1 v2 d1 d2 Q g2 (rp_mono e2 r1) r2 q2⟩⟩
theorem ft_op {r : R2} {g : D → D → Sto → Res D} (hop : ∀ {ta tb : TE}, PE X a ta → PE X b tb → PT X e (tTest (tOp r ta tb))) (hr : BOp c r g) (ha : PE X a (tE c fa)) (hb : PE X b (tE c fb)) : PT X e (tT c (fBin g fa fb)) :=
  pt_imp (hop ha hb) fun σ H Q ⟨G, F, io, S, ρ, gd, re, q⟩ => by
    have toB : ∀ {G F : Hp} {io : List Addr} {r : Res D}, Aft c G F io σ rpB Q r.asB → Aft c G F io σ (rp c) (fun x H' => ∃ k, x = .bl k ∧ Q k H') r := fun {G F io r} h => by
      cases r with
      | ok d S =>
        cases d with
        | p d =>
          cases d with
          | bool b =>
            intro v F' io' H' e' g' r'
            cases r'
            exact ⟨b, rfl, h b F' io' H' e' g' rfl⟩
          | _ => exact h.elim
        | _ => exact h.elim
      | exc n as S => exact h
      | bad => exact h
    have q2 := toB q
    exact ⟨G, F, io, S, ρ, gd, re, Aft.step q2 fun d1 S1 v1 F1 i1 H1 e1 g1 r1 q1 =>
      ⟨G, F1, i1, S1, ρ, g1, renv_mono e1 re, Aft.step q1 fun d2 S2 v2 F2 i2 H2 e2 g2 r2 q2 => hr G F2 i2 H2 S2 σ v1 v2 d1 d2 _ g2 (rp_mono e2 r1) r2 q2⟩⟩
theorem aft_b {G F : Hp} {io : List Addr} {σ : L2.St} {r : Res D} {Q : Bool → Hp → Prop} (h : Aft c G F io σ rpB Q r.asB) : Aft c G F io σ (rp c) (fun x H' => ∃ k, x = .bl k ∧ Q k H') r := by
  cases r with
  | ok d S =>
    cases d with
    | p d =>
      cases d with
      | bool b =>
        intro v F' io' H' e' g' r'
        cases r'
        exact ⟨b, rfl, h b F' io' H' e' g' rfl⟩
      | _ => exact h.elim
    | _ => exact h.elim
  | exc n as S => exact h
  | bad => exact h
/-- a bool's value as a test -/
theorem ft_val {f : FE} (h : PE X e (tE c f)) (he : ∀ whole, isTrue e X.env whole = (do let v ← whole; standAt e.pos; holding [v] (truthy v)) := by intro _; rfl) : PT X e (tT c f) :=
  pt_imp (pt_val h he) fun σ H Q ⟨G, F, io, S, ρ, gd, re, q⟩ => ⟨G, F, io, S, ρ, gd, re, aft_b q⟩
/-! and, or, not, if -/
def fAnd (fa fb : FE) : FE := fun ρ S => (fa ρ S).asB.bind fun k S1 => if k = true then fb ρ S1 else .ok (.p (.bool false)) S1
def fOr (fa fb : FE) : FE := fun ρ S => (fa ρ S).asB.bind fun k S1 => if k = true then .ok (.p (.bool true)) S1 else fb ρ S1
def fNot (fa : FE) : FE := fun ρ S => (fa ρ S).asB.bind fun k S1 => .ok (.p (.bool (!k))) S1
def fIf (fc fa fb : FE) : FE := fun ρ S => (fc ρ S).asB.bind fun k S1 => if k = true then fa ρ S1 else fb ρ S1
theorem asB_bind (r : Res Bool) (k : Bool → Sto → Res D) : (r.bind k).asB = r.bind fun b S => (k b S).asB := by cases r <;> rfl
variable {rest : List Expr}
theorem fw_and1 (ha : PT X a (tT c fa)) : PW X (.BoolOp .And [a] pos) (tT c fa) := pw_and1 ha
theorem fw_or1 (ha : PT X a (tT c fa)) : PW X (.BoolOp .Or [a] pos) (tT c fa) := pw_or1 ha
theorem fw_and (ha : PT X a (tT c fa)) (hb : PW X (.BoolOp .And (b :: rest) pos) (tT c fb)) : PW X (.BoolOp .And (a :: b :: rest) pos) (tT c (fAnd fa fb)) :=
  pw_imp (pw_and ha hb) fun σ H Q ⟨G, F, io, S, ρ, gd, re, q⟩ => by
    unfold fAnd at q
    rw [asB_bind] at q
    refine ⟨G, F, io, S, ρ, gd, re, Aft.step q fun k S1 k' F1 i1 H1 e1 g1 r1 q1 => ?_⟩
    have r1 : k' = k := r1
    subst r1
    cases k' with
    | true => exact ⟨G, F1, i1, S1, ρ, g1, renv_mono e1 re, q1⟩
    | false => exact Aft.here (v := false) q1 g1 rfl
theorem fw_or (ha : PT X a (tT c fa)) (hb : PW X (.BoolOp .Or (b :: rest) pos) (tT c fb)) : PW X (.BoolOp .Or (a :: b :: rest) pos) (tT c (fOr fa fb)) :=
  pw_imp (pw_or ha hb) fun σ H Q ⟨G, F, io, S, ρ, gd, re, q⟩ => by
    unfold fOr at q
    rw [asB_bind] at q
    refine ⟨G, F, io, S, ρ, gd, re, Aft.step q fun k S1 k' F1 i1 H1 e1 g1 r1 q1 => ?_⟩
    have r1 : k' = k := r1
    subst r1
    cases k' with
    | true => exact Aft.here (v := true) q1 g1 rfl
    | false => exact ⟨G, F1, i1, S1, ρ, g1, renv_mono e1 re, q1⟩
theorem ft_not (ha : PT X a (tT c fa)) : PT X (.UnaryOp .Not a pos) (tT c (fNot fa)) :=
  pt_imp (pt_not ha) fun σ H Q ⟨G, F, io, S, ρ, gd, re, q⟩ => by
    unfold fNot at q
    rw [asB_bind] at q
    refine ⟨G, F, io, S, ρ, gd, re, Aft.step q fun k S1 k' F1 i1 H1 e1 g1 r1 q1 => ?_⟩
    have r1 : k' = k := r1
    subst r1
    exact Aft.here (v := !k') q1 g1 rfl
theorem fe_and1 {op} (ha : PE X a (tE c fa)) : PE X (.BoolOp op [a] pos) (tE c fa) := pe_one ha
theorem fe_and (ha : PE X a (tE c fa)) (hb : PE X (.BoolOp .And (b :: rest) pos) (tE c fb)) : PE X (.BoolOp .And (a :: b :: rest) pos) (tE c (fAnd fa fb)) :=
  pe_imp (pe_and ha hb) fun σ H Q ⟨G, F, io, S, ρ, gd, re, q⟩ => by
    unfold fAnd at q
    refine ⟨G, F, io, S, ρ, gd, re, ?_⟩
    have q2 := Aft.step (R1 := rpB) (Q1 := fun k H' => if k = true then tE c fb σ H' Q else Q (.bl false) H') q fun k S1 k' F1 i1 H1 e1 g1 r1 q1 => by
      have r1 : k' = k := r1
      subst r1
      cases k' with
      | true => exact ⟨G, F1, i1, S1, ρ, g1, renv_mono e1 re, q1⟩
      | false => exact Aft.here (v := .bl false) q1 g1 (show rp c F1 i1 (.bl false) (.p (.bool false)) from Dq.bl false)
    exact aft_b q2
theorem fe_or (ha : PE X a (tE c fa)) (hb : PE X (.BoolOp .Or (b :: rest) pos) (tE c fb)) : PE X (.BoolOp .Or (a :: b :: rest) pos) (tE c (fOr fa fb)) :=
  pe_imp (pe_or ha hb) fun σ H Q ⟨G, F, io, S, ρ, gd, re, q⟩ => by
    unfold fOr at q
    refine ⟨G, F, io, S, ρ, gd, re, ?_⟩
    have q2 := Aft.step (R1 := rpB) (Q1 := fun k H' => if k = true then Q (.bl true) H' else tE c fb σ H' Q) q fun k S1 k' F1 i1 H1 e1 g1 r1 q1 => by
      have r1 : k' = k := r1
      subst r1
      cases k' with
      | true => exact Aft.here (v := .bl true) q1 g1 (show rp c F1 i1 (.bl true) (.p (.bool true)) from Dq.bl true)
      | false => exact ⟨G, F1, i1, S1, ρ, g1, renv_mono e1 re, q1⟩
    exact aft_b q2
theorem fe_not (ha : PE X a (tE c fa)) : PE X (.UnaryOp .Not a pos) (tE c (fNot fa)) :=
  pe_imp (pe_not ha) fun σ H Q ⟨G, F, io, S, ρ, gd, re, q⟩ => by
    unfold fNot at q
    refine ⟨G, F, io, S, ρ, gd, re, ?_⟩
    have q2 := Aft.step (R1 := rpB) (Q1 := fun k H' => Q (.bl (!k)) H') q fun k S1 k' F1 i1 H1 e1 g1 r1 q1 => by
      have r1 : k' = k := r1
      subst r1
      exact Aft.here (v := .bl (!k')) q1 g1 (show rp c F1 i1 (.bl (!k')) (.p (.bool (!k'))) from Dq.bl (!k'))
    exact aft_b q2
theorem fe_if {cx : Expr} (hc : PT X cx (tT c fc)) (ha : PE X a (tE c fa)) (hb : PE X b (tE c fb)) : PE X (.IfExp cx a b pos) (tE c (fIf fc fa fb)) :=
  pe_imp (pe_ifExp hc ha hb) fun σ H Q ⟨G, F, io, S, ρ, gd, re, q⟩ => by
    unfold fIf at q
    refine ⟨G, F, io, S, ρ, gd, re, Aft.step q fun k S1 k' F1 i1 H1 e1 g1 r1 q1 => ?_⟩
    have r1 : k' = k := r1
    subst r1
    cases k' with
    | true => exact ⟨G, F1, i1, S1, ρ, g1, renv_mono e1 re, q1⟩
    | false => exact ⟨G, F1, i1, S1, ρ, g1, renv_mono e1 re, q1⟩
/-! one-place -/
def fUn (g : D → Sto → Res D) (fa : FE) : FE := fun ρ S => (fa ρ S).bind g
def UOp (c : Cw) (r : V → Hp → VK → Prop) (g : D → Sto → Res D) : Prop := ∀ G F io H S σ x dx Q, Good c.K G F io H S → Rp c.K F io x dx → Aft c G F io σ (rp c) Q (g dx S) → r x H Q
theorem fe_un {r : V → Hp → VK → Prop} {g : D → Sto → Res D} (hop : ∀ {t : TE}, PE X a t → PE X e (tUn r t)) (hr : UOp c r g) (ha : PE X a (tE c fa)) : PE X e (tE c (fUn g fa)) :=
  pe_imp (hop ha) fun σ H Q ⟨G, F, io, S, ρ, gd, re, q⟩ => ⟨G, F, io, S, ρ, gd, re, Aft.step q fun d1 S1 v1 F1 i1 H1 e1 g1 r1 q1 => hr G F1 i1 H1 S1 σ v1 d1 Q g1 r1 q1⟩
/-! arguments -/
def fNil : FA := fun _ S => .ok [] S
def fCons (fa : FE) (fr : FA) : FA := fun ρ S => (fa ρ S).bind fun x S1 => (fr ρ S1).bind fun xs S2 => .ok (x :: xs) S2
theorem fa_nil : PA X [] (tA c fNil) := pa_imp pa_nil fun σ H Q ⟨G, F, io, S, ρ, gd, re, q⟩ => Aft.here (v := []) q gd .nil
theorem fa_cons {fr : FA} (ha : PE X a (tE c fa)) (hr : PA X es (tA c fr)) (hs : starEach (a :: es) X.env = (false, eval a X.env) :: starEach es X.env := by rfl) : PA X (a :: es) (tA c (fCons fa fr)) :=
  pa_imp (pa_cons ha hr hs) fun σ H Q ⟨G, F, io, S, ρ, gd, re, q⟩ => ⟨G, F, io, S, ρ, gd, re, Aft.step q fun d1 S1 v1 F1 i1 H1 e1 g1 r1 q1 =>
    ⟨G, F1, i1, S1, ρ, g1, renv_mono e1 re, Aft.step q1 fun ds S2 vs F2 i2 H2 e2 g2 r2 q2 => Aft.here (v := v1 :: vs) q2 g2 (.cons (rp_mono e2 r1) r2)⟩⟩
/-- pure data all -/
def asPs : List D → Option (List PyData)
  | [] => some []
  | .p d :: r => (asPs r).map (d :: ·)
  | _ :: _ => none
theorem asPs_ok {K : PySem.W.Frag} {F : Hp} {io : List Addr} : ∀ {ds : List D} {vs : List V} {ps : List PyData}, asPs ds = some ps → RpA K F io vs ds → DqA K F vs ps
  | [], _, ps, h, r => by
    cases r
    have h : [] = ps := Option.some.inj h
    subst h
    exact .nil
  | .p d :: ds, _, ps, h, r => by
    cases r with
    | cons r1 r2 =>
      have h : (asPs ds).map (d :: ·) = some ps := h
      cases q : asPs ds with
      | none => rw [q] at h; cases h
      | some ps' =>
        rw [q] at h
        have h : d :: ps' = ps := Option.some.inj h
        subst h
        exact .cons r1 (asPs_ok q r2)
  | .own _ :: _, _, _, h, _ => by cases h
  | .wld _ _ :: _, _, _, h, _ => by cases h
  | .exn :: _, _, _, h, _ => by cases h
  | .scr _ :: _, _, _, h, _ => by cases h
/-- a list's length as the layer takes it -/
def lim : Nat := 1000000
theorem lim_line : lim ≤ sizeLine := by decide
theorem paired_len {α β : Type} {R : α → β → Prop} : ∀ {xs : List α} {ys : List β}, Paired R xs ys → xs.length = ys.length
  | _, _, .nil => rfl
  | _, _, .cons _ t => by rw [List.length_cons, List.length_cons, paired_len t]
def fTup (fr : FA) : FE := fun ρ S => (fr ρ S).bind fun ds S1 => match asPs ds with
  | some ps => if ds.length < lim then .ok (.p (.tuple ps)) S1 else .bad
  | none => .bad
def fLst (fr : FA) : FE := fun ρ S => (fr ρ S).bind fun ds S1 => match asPs ds with
  | some ps => if ds.length < lim then .ok (.p (.list ps)) S1 else .bad
  | none => .bad
/-- a list that will change -/
def fLstO (fr : FA) : FE := fun ρ S => (fr ρ S).bind fun ds S1 => if ds.length < lim then .ok (.own S1.length) (S1 ++ [.lst ds]) else .bad
theorem fe_tup {fr : FA} {x1} (h : PA X es (tA c fr)) : PE X (.Tuple es x1 pos) (tE c (fTup fr)) :=
  pe_imp (pe_tup h) fun σ H Q ⟨G, F, io, S, ρ, gd, re, q⟩ => ⟨G, F, io, S, ρ, gd, re, Aft.step q fun ds S1 vs F1 i1 H1 e1 g1 r1 q1 => by
    cases h1 : asPs ds with
    | none => rw [h1] at q1; exact q1.elim
    | some ps =>
      rw [h1] at q1
      by_cases hl : ds.length < lim
      · simp only [if_pos hl] at q1
        refine ⟨by rw [paired_len r1]; exact Nat.le_trans (Nat.le_of_lt hl) lim_line, fun p hp => ?_⟩
        obtain ⟨g2, e2⟩ := g1.new (o := .tup vs) hp
        exact q1 (.ref p) _ _ _ e2 g2 (.tup (SqT.of upd_same) (dpa_mono e2.same _ _ (asPs_ok h1 r1)))
      · simp only [if_neg hl] at q1
        exact q1.elim⟩
theorem fe_lst {fr : FA} (h : PA X es (tA c fr)) : PE X (.List es pos) (tE c (fLst fr)) :=
  pe_imp (pe_lst h) fun σ H Q ⟨G, F, io, S, ρ, gd, re, q⟩ => ⟨G, F, io, S, ρ, gd, re, Aft.step q fun ds S1 vs F1 i1 H1 e1 g1 r1 q1 => by
    cases h1 : asPs ds with
    | none => rw [h1] at q1; exact q1.elim
    | some ps =>
      rw [h1] at q1
      by_cases hl : ds.length < lim
      · simp only [if_pos hl] at q1
        refine ⟨by rw [paired_len r1]; exact Nat.le_trans (Nat.le_of_lt hl) lim_line, fun p hp => ?_⟩
        obtain ⟨g2, e2⟩ := g1.new (o := .lst vs) hp
        exact q1 (.ref p) _ _ _ e2 g2 (.lst upd_same (dpa_mono e2.same _ _ (asPs_ok h1 r1)))
      · simp only [if_neg hl] at q1
        exact q1.elim⟩
theorem own_last {io : List Addr} {p : Addr} : (io ++ [p])[io.length]? = some p := by simp
theorem fe_lstO {fr : FA} (h : PA X es (tA c fr)) : PE X (.List es pos) (tE c (fLstO fr)) :=
  pe_imp (pe_lst h) fun σ H Q ⟨G, F, io, S, ρ, gd, re, q⟩ => ⟨G, F, io, S, ρ, gd, re, Aft.step q fun ds S1 vs F1 i1 H1 e1 g1 r1 q1 => by
    by_cases hl : ds.length < lim
    · simp only [if_pos hl] at q1
      refine ⟨by rw [paired_len r1]; exact Nat.le_trans (Nat.le_of_lt hl) lim_line, fun p hp => ?_⟩
      have e0 : Ext F1 i1 F1 (i1 ++ [p]) := ⟨Same.refl _, [p], rfl⟩
      obtain ⟨g2, e2⟩ := g1.newOwn (o := .lst vs) (x := .lst ds) hp ⟨g1.out hp, vs, upd_same, rpa_mono e0 r1⟩
      exact q1 (.ref p) _ _ _ e2 g2 ⟨p, rfl, by rw [← g1.len]; exact own_last⟩
    · simp only [if_neg hl] at q1
      exact q1.elim⟩
/-! calls of built-ins by values -/
def fCall (g : List D → Sto → Res D) (fr : FA) : FE := fun ρ S => (fr ρ S).bind g
def BCall (c : Cw) (r : List V → Hp → VK → Prop) (g : List D → Sto → Res D) : Prop := ∀ G F io H S σ xs ds Q, Good c.K G F io H S → RpA c.K F io xs ds → Aft c G F io σ (rp c) Q (g ds S) → r xs H Q
theorem fe_call {r : List V → Hp → VK → Prop} {g : List D → Sto → Res D} {fr : FA} (hop : ∀ {t : TA}, PA X es t → PE X e (tCB r t)) (hr : BCall c r g) (ha : PA X es (tA c fr)) : PE X e (tE c (fCall g fr)) :=
  pe_imp (hop ha) fun σ H Q ⟨G, F, io, S, ρ, gd, re, q⟩ => ⟨G, F, io, S, ρ, gd, re, Aft.step q fun ds S1 vs F1 i1 H1 e1 g1 r1 q1 => hr G F1 i1 H1 S1 σ vs ds Q g1 r1 q1⟩
end
end Tw
namespace Tw
open PySem PySem.Spec PyProof.Rows L2

/-! ### ints -/
def gI (h : Int → Int → PyData) : D → D → Sto → Res D := fun dx dy S => match dx, dy with
  | .p (.int i), .p (.int j) => .ok (.p (h i j)) S
  | _, _ => .bad
def gIC (C : Int → Int → Bool) (h : Int → Int → PyData) : D → D → Sto → Res D := fun dx dy S => match dx, dy with
  | .p (.int i), .p (.int j) => if C i j = true then .ok (.p (h i j)) S else .bad
  | _, _ => .bad
theorem two_ints {dx dy : D} {α : Type} {t : Int → Int → α} {z : α} (P : α → Prop) (h : P (match dx, dy with
  | .p (.int i), .p (.int j) => t i j
  | _, _ => z)) (hz : ¬ P z) : ∃ i j, dx = .p (.int i) ∧ dy = .p (.int j) ∧ P (t i j) := by
  cases dx with
  | p a =>
    cases a with
    | int i =>
      cases dy with
      | p b =>
        cases b with
        | int j => exact ⟨i, j, rfl, rfl, h⟩
        | _ => exact absurd h hz
      | _ => exact absurd h hz
    | _ => exact absurd h hz
  | _ => exact absurd h hz
section
variable {c : Cw}
theorem hereP {G F : Hp} {io : List Addr} {σ : L2.St} {Q : VK} {d : PyData} {S : Sto} {v : V} {H : Hp} (h : Aft c G F io σ (rp c) Q (.ok (.p d) S)) (g : Good c.K G F io H S) (r : Dq c.K F v d) : Q v H := Aft.here (v := v) h g r
theorem aft_bad {G F : Hp} {io : List Addr} {σ : L2.St} {Q : VK} : ¬ Aft c G F io σ (rp c) Q .bad := fun h => h
theorem bop_I0 {g : Int → Int → V} {h : Int → Int → PyData} (hg : ∀ i j F, Dq c.K F (g i j) (h i j)) : BOp c (rI0 g) (gI h) := fun G F io H S σ x y dx dy Q gd rx ry q => by
  obtain ⟨i, j, rfl, rfl, q⟩ := two_ints (Aft c G F io σ (rp c) Q) q aft_bad
  cases rx
  cases ry
  exact ⟨i, j, rfl, rfl, hereP (v := g i j) q gd (hg i j F)⟩
theorem bop_IC {P : Int → Int → Prop} {C : Int → Int → Bool} {g : Int → Int → V} {h : Int → Int → PyData} (hC : ∀ i j, C i j = true → P i j) (hg : ∀ i j F, Dq c.K F (g i j) (h i j)) : BOp c (rI P g) (gIC C h) := fun G F io H S σ x y dx dy Q gd rx ry q => by
  obtain ⟨i, j, rfl, rfl, q⟩ := two_ints (Aft c G F io σ (rp c) Q) q aft_bad
  cases rx
  cases ry
  have q : Aft c G F io σ (rp c) Q (if C i j = true then Res.ok (D.p (h i j)) S else Res.bad) := q
  by_cases hc : C i j = true
  · rw [if_pos hc] at q
    exact ⟨i, j, rfl, rfl, hC i j hc, hereP (v := g i j) q gd (hg i j F)⟩
  · rw [if_neg hc] at q
    exact q.elim
def gMinus := gI fun i j => .int (i - j)
def cMul (i j : Int) : Bool := decide (-(2 ^ 64) < i ∧ i < 2 ^ 64) || decide (-(2 ^ 64) < j ∧ j < 2 ^ 64)
def gMul := gIC cMul fun i j => .int (i * j)
def cDiv (i j : Int) : Bool := decide (0 < j ∧ j < 1073741824)
def gDiv := gIC cDiv fun i j => .int (i / j)
def gMod := gIC (fun _ j => decide (0 < j)) fun i j => .int (i % j)
def cPow (i j : Int) : Bool := decide (0 ≤ j ∧ j ≤ 1000000 ∧ i.natAbs < 2 ^ 64)
def gPow := gIC cPow fun i j => .int (i ^ j.toNat)
def gLt := gI fun i j => .bool (decide (i < j))
def gLe := gI fun i j => .bool (decide (i ≤ j))
def gGt := gI fun i j => .bool (decide (j < i))
def gGe := gI fun i j => .bool (decide (j ≤ i))
theorem bop_sub : BOp c (rI0 fun i j => .int (i - j)) gMinus := bop_I0 fun _ _ _ => .int _
theorem bop_mul : BOp c (rI CMul fun i j => .int (i * j)) gMul := bop_IC (fun i j h => by
  unfold cMul at h
  rw [Bool.or_eq_true] at h
  rcases h with h | h
  · exact .inl (of_decide_eq_true h)
  · exact .inr (of_decide_eq_true h)) fun _ _ _ => .int _
theorem bop_div : BOp c (rI CDiv fun i j => .int (i / j)) gDiv := bop_IC (fun i j h => (of_decide_eq_true h : 0 < j ∧ j < 1073741824)) fun _ _ _ => .int _
theorem bop_mod : BOp c (rI (fun _ j => 0 < j) fun i j => .int (i % j)) gMod := bop_IC (fun _ _ h => of_decide_eq_true h) fun _ _ _ => .int _
theorem bop_pow : BOp c (rI CPow fun i j => .int (i ^ j.toNat)) gPow := bop_IC (fun i j h => (of_decide_eq_true h : 0 ≤ j ∧ j ≤ 1000000 ∧ i.natAbs < 2 ^ 64)) fun _ _ _ => .int _
theorem bop_lt : BOp c (rI0 fun i j => .bl (decide (i < j))) gLt := bop_I0 fun _ _ _ => .bl _
theorem bop_le : BOp c (rI0 fun i j => .bl (decide (i ≤ j))) gLe := bop_I0 fun _ _ _ => .bl _
theorem bop_gt : BOp c (rI0 fun i j => .bl (decide (j < i))) gGt := bop_I0 fun _ _ _ => .bl _
theorem bop_ge : BOp c (rI0 fun i j => .bl (decide (j ≤ i))) gGe := bop_I0 fun _ _ _ => .bl _
/-! ### + -/
def gAdd : D → D → Sto → Res D := fun dx dy S => match dx, dy with
  | .p (.int i), .p (.int j) => .ok (.p (.int (i + j))) S
  | .p (.tuple a), .p (.tuple b) => if a.length + b.length < lim then .ok (.p (.tuple (a ++ b))) S else .bad
  | .p (.list a), .p (.list b) => if a.length + b.length < lim then .ok (.p (.list (a ++ b))) S else .bad
  | .p (.str a), .p (.str b) => if a.length + b.length < lim then .ok (.p (.str (a ++ b))) S else .bad
  | .own k, .p (.list b) => match S[k]? with
    | some (.lst xs) => match asPs xs with
      | some a => if a.length + b.length < lim then .ok (.p (.list (a ++ b))) S else .bad
      | none => .bad
    | _ => .bad
  | _, _ => .bad
def rAddU (K : PySem.W.Frag) : R2 := fun x y H Q => rI0 (fun i j => .int (i + j)) x y H Q ∨ rCatA K x y H Q ∨ rCat x y H Q ∨ (fun x y H Q => ∃ i j, x = .str i ∧ y = .str j ∧ i.length + j.length ≤ sizeLine ∧ Q (.str (i ++ j)) H) x y H Q
theorem op_addU {X : Cx} : OpR X (binaryOp .Add) (rAddU X.K) := op_add.or (op_catA.or (op_cat.or op_add_str))
theorem lt_line {n : Nat} (h : n < lim) : n ≤ sizeLine := Nat.le_trans (Nat.le_of_lt h) lim_line
theorem new_tup {G F H : Hp} {io : List Addr} {S : Sto} {σ : L2.St} {Q : VK} {vs : List V} {ds : List PyData} (g : Good c.K G F io H S) (r : DqA c.K F vs ds) (q : Aft c G F io σ (rp c) Q (.ok (.p (.tuple ds)) S)) : ∀ p, H p = none → Q (.ref p) (upd H p (.tup vs)) := fun p hp => by
  obtain ⟨g2, e2⟩ := g.new (o := .tup vs) hp
  exact q (.ref p) _ _ _ e2 g2 (.tup (SqT.of upd_same) (dpa_mono e2.same _ _ r))
theorem new_lst {G F H : Hp} {io : List Addr} {S : Sto} {σ : L2.St} {Q : VK} {vs : List V} {ds : List PyData} (g : Good c.K G F io H S) (r : DqA c.K F vs ds) (q : Aft c G F io σ (rp c) Q (.ok (.p (.list ds)) S)) : ∀ p, H p = none → Q (.ref p) (upd H p (.lst vs)) := fun p hp => by
  obtain ⟨g2, e2⟩ := g.new (o := .lst vs) hp
  exact q (.ref p) _ _ _ e2 g2 (.lst upd_same (dpa_mono e2.same _ _ r))
theorem nil_of {K : PySem.W.Frag} {F : Hp} {vs : List V} {ds : List PyData} (r : DqA K F vs ds) : vs = [] ↔ ds = [] := by
  cases r <;> simp
theorem bop_add : BOp c (rAddU c.K) gAdd := fun G F io H S σ x y dx dy Q gd rx ry q => by
  cases dx with
  | p a =>
    cases a with
    | int i =>
      cases dy with
      | p b =>
        cases b with
        | int j =>
          cases rx
          cases ry
          exact .inl ⟨i, j, rfl, rfl, hereP (v := .int (i + j)) q gd (Dq.int _)⟩
        | _ => exact q.elim
      | _ => exact q.elim
    | tuple as =>
      cases dy with
      | p b =>
        cases b with
        | tuple bs =>
          cases rx with
          | @tup a xs _ hx ha =>
            cases ry with
            | @tup b ys _ hy hb =>
              have q : Aft c G F io σ (rp c) Q (if as.length + bs.length < lim then .ok (.p (.tuple (as ++ bs))) S else .bad) := q
              by_cases hl : as.length + bs.length < lim
              · rw [if_pos hl] at q
                have l1 := dpa_len _ _ ha
                have l2 := dpa_len _ _ hb
                refine .inr (.inl ⟨a, b, xs, ys, rfl, rfl, sq_t gd.ex hx, sq_t gd.ex hy, by rw [l1, l2]; exact lt_line hl, fun h0 => ?_, fun h0 h1 => ?_, fun h0 h1 => new_tup gd (dpa_app ha hb) q⟩)
                · have e0 : as = [] := (nil_of ha).mp h0
                  subst e0
                  rw [List.nil_append] at q
                  exact hereP (v := .ref b) q gd (.tup hy hb)
                · have e0 : bs = [] := (nil_of hb).mp h1
                  subst e0
                  rw [List.append_nil] at q
                  exact hereP (v := .ref a) q gd (.tup hx ha)
              · rw [if_neg hl] at q
                exact q.elim
        | _ => exact q.elim
      | _ => exact q.elim
    | list as =>
      cases dy with
      | p b =>
        cases b with
        | list bs =>
          cases rx with
          | @lst a xs _ hx ha =>
            cases ry with
            | @lst b ys _ hy hb =>
              have q : Aft c G F io σ (rp c) Q (if as.length + bs.length < lim then .ok (.p (.list (as ++ bs))) S else .bad) := q
              by_cases hl : as.length + bs.length < lim
              · rw [if_pos hl] at q
                have l1 := dpa_len _ _ ha
                have l2 := dpa_len _ _ hb
                exact .inr (.inr (.inl ⟨a, b, xs, ys, rfl, rfl, gd.ex _ _ hx, gd.ex _ _ hy, by rw [l1, l2]; exact lt_line hl, new_lst gd (dpa_app ha hb) q⟩))
              · rw [if_neg hl] at q
                exact q.elim
        | _ => exact q.elim
      | _ => exact q.elim
    | str i =>
      cases dy with
      | p b =>
        cases b with
        | str j =>
          cases rx
          cases ry
          have q : Aft c G F io σ (rp c) Q (if i.length + j.length < lim then .ok (.p (.str (i ++ j))) S else .bad) := q
          by_cases hl : i.length + j.length < lim
          · rw [if_pos hl] at q
            exact .inr (.inr (.inr ⟨i, j, rfl, rfl, lt_line hl, hereP (v := .str (i ++ j)) q gd (Dq.str _)⟩))
          · rw [if_neg hl] at q
            exact q.elim
        | _ => exact q.elim
      | _ => exact q.elim
    | _ => exact q.elim
  | own k =>
    cases dy with
    | p b =>
      cases b with
      | list bs =>
        have q : Aft c G F io σ (rp c) Q (match S[k]? with
          | some (.lst xs) => match asPs xs with
            | some a => if a.length + bs.length < lim then .ok (.p (.list (a ++ bs))) S else .bad
            | none => .bad
          | _ => .bad) := q
        cases hk : S[k]? with
        | none => rw [hk] at q; exact q.elim
        | some o =>
          rw [hk] at q
          cases o with
          | lst xs =>
            have q : Aft c G F io σ (rp c) Q (match asPs xs with
              | some a => if a.length + bs.length < lim then .ok (.p (.list (a ++ bs))) S else .bad
              | none => .bad) := q
            cases ha : asPs xs with
            | none => rw [ha] at q; exact q.elim
            | some as =>
              rw [ha] at q
              have q : Aft c G F io σ (rp c) Q (if as.length + bs.length < lim then .ok (.p (.list (as ++ bs))) S else .bad) := q
              by_cases hl : as.length + bs.length < lim
              · rw [if_pos hl] at q
                obtain ⟨a, e1, e2⟩ := rx
                obtain ⟨a', e3, h0, vs, h1, h2⟩ := gd.at_ hk
                rw [e2] at e3
                have e3 : a = a' := Option.some.inj e3
                subst e3
                cases ry with
                | @lst b ys _ hy hb =>
                  have d2 := asPs_ok ha h2
                  have l1 := dpa_len _ _ d2
                  have l2 := dpa_len _ _ hb
                  exact .inr (.inr (.inl ⟨a, b, vs, ys, e1, rfl, h1, gd.ex _ _ hy, by rw [l1, l2]; exact lt_line hl, new_lst gd (dpa_app d2 hb) q⟩))
              · rw [if_neg hl] at q
                exact q.elim
          | _ => exact q.elim
      | _ => exact q.elim
    | _ => exact q.elim
  | _ => exact q.elim
/-! ### ==, is None, in -/
def gEq : D → D → Sto → Res D := fun dx dy S => match dx, dy with
  | .p a, .p b => if (SeqAt.shaped a && SeqAt.shaped b) = true then .ok (.p (.bool (PyData.eqv a b))) S else .bad
  | _, _ => .bad
def gNe : D → D → Sto → Res D := fun dx dy S => match dx, dy with
  | .p a, .p b => if (SeqAt.shaped a && SeqAt.shaped b) = true then .ok (.p (.bool (!PyData.eqv a b))) S else .bad
  | _, _ => .bad
theorem bop_eq : BOp c (rEqD c.K) gEq := fun G F io H S σ x y dx dy Q gd rx ry q => by
  cases dx with
  | p a =>
    cases dy with
    | p b =>
      have q : Aft c G F io σ (rp c) Q (if (SeqAt.shaped a && SeqAt.shaped b) = true then .ok (.p (.bool (PyData.eqv a b))) S else .bad) := q
      by_cases hs : (SeqAt.shaped a && SeqAt.shaped b) = true
      · rw [if_pos hs] at q
        rw [Bool.and_eq_true] at hs
        exact ⟨a, b, dp_of gd.ex _ _ rx, dp_of gd.ex _ _ ry, hs.1, hs.2, hereP (v := .bl _) q gd (Dq.bl _)⟩
      · rw [if_neg hs] at q
        exact q.elim
    | _ => exact q.elim
  | _ => exact q.elim
theorem bop_ne : BOp c (rNeD c.K) gNe := fun G F io H S σ x y dx dy Q gd rx ry q => by
  cases dx with
  | p a =>
    cases dy with
    | p b =>
      have q : Aft c G F io σ (rp c) Q (if (SeqAt.shaped a && SeqAt.shaped b) = true then .ok (.p (.bool (!PyData.eqv a b))) S else .bad) := q
      by_cases hs : (SeqAt.shaped a && SeqAt.shaped b) = true
      · rw [if_pos hs] at q
        rw [Bool.and_eq_true] at hs
        exact ⟨a, b, dp_of gd.ex _ _ rx, dp_of gd.ex _ _ ry, hs.1, hs.2, hereP (v := .bl _) q gd (Dq.bl _)⟩
      · rw [if_neg hs] at q
        exact q.elim
    | _ => exact q.elim
  | _ => exact q.elim
def isN : D → Bool
  | .p .none => true
  | _ => false
theorem isN_ok {F : Hp} {io : List Addr} {x : V} {d : D} (r : Rp c.K F io x d) : decide (x = .non) = isN d := by
  cases d with
  | p a =>
    cases a with
    | none => cases r; rfl
    | _ => cases r <;> rfl
  | own k => obtain ⟨a, rfl, _⟩ := r; rfl
  | wld d l => obtain ⟨a, rfl, _⟩ := r; rfl
  | exn => exact r.elim
  | scr ns => obtain ⟨a, rfl, _⟩ := r; rfl
def gIsN : D → D → Sto → Res D := fun dx dy S => match dy with
  | .p .none => .ok (.p (.bool (isN dx))) S
  | _ => .bad
def gNotN : D → D → Sto → Res D := fun dx dy S => match dy with
  | .p .none => .ok (.p (.bool (!isN dx))) S
  | _ => .bad
theorem bop_isN : BOp c (fun x y H Q => y = .non ∧ Q (.bl (decide (x = .non))) H) gIsN := fun G F io H S σ x y dx dy Q gd rx ry q => by
  cases dy with
  | p b =>
    cases b with
    | none =>
      cases ry
      exact ⟨rfl, hereP (v := .bl _) q gd (by rw [isN_ok rx]; exact Dq.bl _)⟩
    | _ => exact q.elim
  | _ => exact q.elim
theorem bop_notN : BOp c (fun x y H Q => y = .non ∧ Q (.bl (!decide (x = .non))) H) gNotN := fun G F io H S σ x y dx dy Q gd rx ry q => by
  cases dy with
  | p b =>
    cases b with
    | none =>
      cases ry
      exact ⟨rfl, hereP (v := .bl _) q gd (by rw [isN_ok rx]; exact Dq.bl _)⟩
    | _ => exact q.elim
  | _ => exact q.elim
def flatD : PyData → Bool
  | .none => true
  | .bool _ => true
  | .int _ => true
  | .str _ => true
  | _ => false
def toV : PyData → V
  | .none => .non
  | .bool b => .bl b
  | .int i => .int i
  | .str x => .str x
  | _ => .non
theorem flat_toV {F : Hp} {v : V} {d : PyData} (r : Dq c.K F v d) (h : flatD d = true) : v = toV d ∧ flatV v = true := by
  cases r <;> first | exact ⟨rfl, rfl⟩ | cases h
theorem flats_toV {F : Hp} : ∀ {ds : List PyData} {vs : List V}, DqA c.K F vs ds → ds.all flatD = true → vs = ds.map toV ∧ vs.all flatV = true
  | [], _, r, h => by cases r; exact ⟨rfl, rfl⟩
  | d :: ds, _, r, h => by
    cases r with
    | cons r1 r2 =>
      rw [List.all_cons, Bool.and_eq_true] at h
      obtain ⟨e1, f1⟩ := flat_toV r1 h.1
      obtain ⟨e2, f2⟩ := flats_toV r2 h.2
      exact ⟨by rw [List.map_cons, ← e1, ← e2], by rw [List.all_cons, f1, f2]; rfl⟩
/-- one flat thing equals another, as Python has it -/
def eqF : PyData → PyData → Bool := fun a b => eqV (toV a) (toV b)
def inF (d : PyData) (ds : List PyData) : Bool := ds.any fun y => eqF y d
theorem inF_ok (d : PyData) (ds : List PyData) : inV (toV d) (ds.map toV) = inF d ds := by
  unfold inV inF eqF
  rw [List.any_map]
  rfl
def gIn (neg : Bool) : D → D → Sto → Res D := fun dx dy S => match dx, dy with
  | .p a, .p (.tuple bs) => if (flatD a && bs.all flatD) = true then .ok (.p (.bool (if neg = true then !inF a bs else inF a bs))) S else .bad
  | .p a, .p (.list bs) => if (flatD a && bs.all flatD) = true then .ok (.p (.bool (if neg = true then !inF a bs else inF a bs))) S else .bad
  | _, _ => .bad
theorem bop_in {neg : Bool} : BOp c (rIn c.K neg) (gIn neg) := fun G F io H S σ x y dx dy Q gd rx ry q => by
  cases dx with
  | p a =>
    cases dy with
    | p b =>
      have main : ∀ (bs : List PyData) (p : Addr) (vs : List V), y = .ref p → (SqL c.K H p vs ∨ SqT c.K H p vs) → DqA c.K F vs bs →
          Aft c G F io σ (rp c) Q (if (flatD a && bs.all flatD) = true then .ok (.p (.bool (if neg = true then !inF a bs else inF a bs))) S else .bad) → rIn c.K neg x y H Q := fun bs p vs ey hs hb q => by
        by_cases hf : (flatD a && bs.all flatD) = true
        · rw [if_pos hf] at q
          rw [Bool.and_eq_true] at hf
          obtain ⟨e1, f1⟩ := flat_toV rx hf.1
          obtain ⟨e2, f2⟩ := flats_toV hb hf.2
          refine ⟨p, vs, ey, hs, f1, f2, Aft.here (v := .bl _) q gd ?_⟩
          rw [e1, e2, inF_ok]
          exact Dq.bl _
        · rw [if_neg hf] at q
          exact q.elim
      cases b with
      | tuple bs =>
        cases ry with
        | @tup p vs _ hy hb => exact main bs p vs rfl (.inr (sq_t gd.ex hy)) hb q
      | list bs =>
        cases ry with
        | @lst p vs _ hy hb => exact main bs p vs rfl (.inl (SqL.of (gd.ex _ _ hy))) hb q
      | _ => cases a <;> exact q.elim
    | _ => cases a <;> exact q.elim
  | _ => exact q.elim
/-! ### items, slices -/
def gIx : D → D → Sto → Res D := fun dx dy S => match dy with
  | .p (.int i) => match dx with
    | .p (.tuple ds) => match atI ds i with
      | some d => .ok (.p d) S
      | none => .bad
    | .p (.list ds) => match atI ds i with
      | some d => .ok (.p d) S
      | none => .bad
    | .own k => match S[k]? with
      | some (.lst xs) => match atI xs i with
        | some d => .ok d S
        | none => .bad
      | _ => .bad
    | _ => .bad
  | _ => .bad
theorem atI_dqa {F : Hp} {ds : List PyData} {vs : List V} {i : Int} {d : PyData} (r : DqA c.K F vs ds) (h : atI ds i = some d) : ∃ v, atI vs i = some v ∧ Dq c.K F v d := by
  unfold atI at h ⊢
  rw [dpa_len _ _ r]
  cases e : ixN ds.length i with
  | none => rw [e] at h; cases h
  | some j =>
    rw [e] at h
    exact dpa_get _ _ j d r h
theorem paired_get {α β : Type} {R : α → β → Prop} : ∀ {xs : List α} {ys : List β} {i : Nat} {y : β}, Paired R xs ys → ys[i]? = some y → ∃ x, xs[i]? = some x ∧ R x y
  | _, _, i, y, .nil, h => by simp at h
  | x :: xs, z :: ys, 0, y, .cons r t, h => by
    have h : z = y := by simpa using h
    subst h
    exact ⟨x, rfl, r⟩
  | x :: xs, z :: ys, i + 1, y, .cons r t, h => by
    obtain ⟨w, h1, h2⟩ := paired_get (i := i) t (by simpa using h)
    exact ⟨w, by simpa using h1, h2⟩
theorem atI_rpa {F : Hp} {io : List Addr} {ds : List D} {vs : List V} {i : Int} {d : D} (r : RpA c.K F io vs ds) (h : atI ds i = some d) : ∃ v, atI vs i = some v ∧ Rp c.K F io v d := by
  unfold atI at h ⊢
  rw [paired_len r]
  cases e : ixN ds.length i with
  | none => rw [e] at h; cases h
  | some j =>
    rw [e] at h
    exact paired_get r h
theorem bop_ix : BOp c (rIx c.K) gIx := fun G F io H S σ x y dx dy Q gd rx ry q => by
  cases dy with
  | p b =>
    cases b with
    | int i =>
      cases ry
      cases dx with
      | p a =>
        cases a with
        | tuple ds =>
          have q : Aft c G F io σ (rp c) Q (match atI ds i with
            | some d => .ok (.p d) S
            | none => .bad) := q
          cases rx with
          | @tup p vs _ hx ha =>
            cases e : atI ds i with
            | none => rw [e] at q; exact q.elim
            | some d =>
              rw [e] at q
              obtain ⟨v, h1, h2⟩ := atI_dqa ha e
              exact .inr (.inl ⟨p, vs, i, v, rfl, rfl, sq_t gd.ex hx, h1, Aft.here (v := v) q gd h2⟩)
        | list ds =>
          have q : Aft c G F io σ (rp c) Q (match atI ds i with
            | some d => .ok (.p d) S
            | none => .bad) := q
          cases rx with
          | @lst p vs _ hx ha =>
            cases e : atI ds i with
            | none => rw [e] at q; exact q.elim
            | some d =>
              rw [e] at q
              obtain ⟨v, h1, h2⟩ := atI_dqa ha e
              exact .inl ⟨p, vs, i, v, rfl, rfl, SqL.of (gd.ex _ _ hx), h1, Aft.here (v := v) q gd h2⟩
        | _ => exact q.elim
      | own k =>
        have q : Aft c G F io σ (rp c) Q (match S[k]? with
          | some (.lst xs) => match atI xs i with
            | some d => .ok d S
            | none => .bad
          | _ => .bad) := q
        cases hk : S[k]? with
        | none => rw [hk] at q; exact q.elim
        | some o =>
          rw [hk] at q
          cases o with
          | lst xs =>
            have q : Aft c G F io σ (rp c) Q (match atI xs i with
              | some d => .ok d S
              | none => .bad) := q
            cases e : atI xs i with
            | none => rw [e] at q; exact q.elim
            | some d =>
              rw [e] at q
              obtain ⟨a, e1, e2⟩ := rx
              obtain ⟨a', e3, h0, vs, h1, h2⟩ := gd.at_ hk
              rw [e2] at e3
              have e3 : a = a' := Option.some.inj e3
              subst e3
              obtain ⟨v, h3, h4⟩ := atI_rpa h2 e
              exact .inl ⟨a, vs, i, v, e1, rfl, SqL.of h1, h3, Aft.here (v := v) q gd h4⟩
          | _ => exact q.elim
      | _ => exact q.elim
    | _ => exact q.elim
  | _ => exact q.elim
/-- the items of ds[lo:hi] -/
def cutD {α : Type} (xs : List α) (lo hi : Option Int) : List α := (xs.drop (HT.sIx xs.length 0 lo)).take (HT.sIx xs.length xs.length hi - HT.sIx xs.length 0 lo)
theorem dpa_cut {F : Hp} {ds : List PyData} {vs : List V} (r : DqA c.K F vs ds) (lo hi : Option Int) : DqA c.K F (cutV vs lo hi) (cutD ds lo hi) := by
  unfold cutV cutD
  rw [dpa_len _ _ r]
  exact dpa_take _ (dpa_drop _ r)
/-- an optional part of a slice -/
abbrev FO := Env → Sto → Res (Option Int)
abbrev rpO : Hp → List Addr → Option Int → Option Int → Prop := fun _ _ a b => a = b
def tO (c : Cw) (f : FO) : TO := fun σ H Q => ∃ G F io S ρ, Good c.K G F io H S ∧ REnv c F io σ ρ ∧ Aft c G F io σ rpO Q (f ρ S)
def fNo : FO := fun _ S => .ok none S
def fSome (fa : FE) : FO := fun ρ S => (fa ρ S).bind fun d S1 => match d with
  | .p (.int i) => .ok (some i) S1
  | _ => .bad
section
variable {X : Cx} {e : Expr} {fa : FE} {lo hi : Option Expr} {fl fh : FO} {pos p2 : Pos}
theorem fo_none : PO X none (tO c fNo) := ⟨fun pins s σ H Q I ⟨G, F, io, S, ρ, gd, re, q⟩ => po_none.run pins s σ H Q I (Aft.here (v := (none : Option Int)) q gd rfl)⟩
theorem fo_some (h : PE X e (tE c fa)) : PO X (some e) (tO c (fSome fa)) := ⟨fun pins s σ H Q I ⟨G, F, io, S, ρ, gd, re, q⟩ => (po_some h).run pins s σ H Q I ⟨G, F, io, S, ρ, gd, re, Aft.step q fun d1 S1 v1 F1 i1 H1 e1 g1 r1 q1 => by
  cases d1 with
  | p b =>
    cases b with
    | int i =>
      cases r1
      exact ⟨i, rfl, Aft.here (v := some i) q1 g1 rfl⟩
    | _ => exact q1.elim
  | _ => exact q1.elim⟩⟩
def gSl : D → Option Int → Option Int → Sto → Res D := fun dx l h S => match dx with
  | .p (.tuple ds) => .ok (.p (.tuple (cutD ds l h))) S
  | .p (.list ds) => .ok (.p (.list (cutD ds l h))) S
  | .own k => match S[k]? with
    | some (.lst xs) => match asPs xs with
      | some ds => .ok (.p (.list (cutD ds l h))) S
      | none => .bad
    | _ => .bad
  | _ => .bad
def fSlice (fa : FE) (fl fh : FO) : FE := fun ρ S => (fa ρ S).bind fun x S1 => (fl ρ S1).bind fun l S2 => (fh ρ S2).bind fun h S3 => gSl x l h S3
theorem cut_whole {F : Hp} {ds : List PyData} {vs : List V} (r : DqA c.K F vs ds) {lo hi : Option Int} (h : HT.sIx vs.length 0 lo = 0 ∧ HT.sIx vs.length vs.length hi = vs.length) : cutD ds lo hi = ds := by
  unfold cutD
  rw [← dpa_len _ _ r, h.1, h.2, List.drop_zero, Nat.sub_zero, dpa_len _ _ r, List.take_length]
theorem fe_slice (he : PE X e (tE c fa)) (hl : PO X lo (tO c fl)) (hu : PO X hi (tO c fh)) (hK : c.K = X.K := by rfl) : PE X (.Subscript e (.Slice lo hi none p2) pos) (tE c (fSlice fa fl fh)) :=
  pe_imp (pe_slice (sl_list.or sl_tupA) he hl hu) fun σ H Q ⟨G, F, io, S, ρ, gd, re, q⟩ => ⟨G, F, io, S, ρ, gd, re, Aft.step q fun d1 S1 v1 F1 i1 H1 e1 g1 r1 q1 =>
    ⟨G, F1, i1, S1, ρ, g1, renv_mono e1 re, Aft.step q1 fun l S2 l' F2 i2 H2 e2 g2 rl q2 => ⟨G, F2, i2, S2, ρ, g2, renv_mono (e1.trans e2) re, Aft.step q2 fun h S3 h' F3 i3 H3 e3 g3 rh q3 => by
      have rl : l' = l := rl
      have rh : h' = h := rh
      subst rl
      subst rh
      rw [← hK]
      have r3 := rp_mono (e2.trans e3) r1
      cases d1 with
      | p a =>
        cases a with
        | tuple ds =>
          cases r3 with
          | @tup p vs _ hx ha =>
            exact .inr ⟨p, vs, rfl, sq_t g3.ex hx, fun hw => Aft.here (v := .ref p) q3 g3 (by rw [cut_whole ha hw]; exact .tup hx ha), fun hw => new_tup g3 (dpa_cut ha _ _) q3⟩
        | list ds =>
          cases r3 with
          | @lst p vs _ hx ha => exact .inl ⟨p, vs, rfl, SqL.of (g3.ex _ _ hx), new_lst g3 (dpa_cut ha _ _) q3⟩
        | _ => exact q3.elim
      | own k =>
        have q3 : Aft c G F3 i3 σ (rp c) Q (match S3[k]? with
          | some (.lst xs) => match asPs xs with
            | some ds => .ok (.p (.list (cutD ds l' h'))) S3
            | none => .bad
          | _ => .bad) := q3
        cases hk : S3[k]? with
        | none => rw [hk] at q3; exact q3.elim
        | some o =>
          rw [hk] at q3
          cases o with
          | lst xs =>
            have q3 : Aft c G F3 i3 σ (rp c) Q (match asPs xs with
              | some ds => .ok (.p (.list (cutD ds l' h'))) S3
              | none => .bad) := q3
            cases ha : asPs xs with
            | none => rw [ha] at q3; exact q3.elim
            | some ds =>
              rw [ha] at q3
              obtain ⟨a, e1', e2'⟩ := r3
              obtain ⟨a', e3', h0, vs, h1, h2⟩ := g3.at_ hk
              rw [e2'] at e3'
              have e3' : a = a' := Option.some.inj e3'
              subst e3'
              exact .inl ⟨a, vs, e1', SqL.of h1, new_lst g3 (dpa_cut (asPs_ok ha h2) _ _) q3⟩
          | _ => exact q3.elim
      | _ => exact q3.elim⟩⟩⟩
end
/-! ### - x -/
def gNeg : D → Sto → Res D := fun d S => match d with
  | .p (.int i) => .ok (.p (.int (-i))) S
  | _ => .bad
theorem uop_neg : UOp c (rU fun i => .int (-i)) gNeg := fun G F io H S σ x dx Q gd rx q => by
  cases dx with
  | p a =>
    cases a with
    | int i =>
      cases rx
      exact ⟨i, rfl, hereP (v := .int (-i)) q gd (Dq.int _)⟩
    | _ => exact q.elim
  | _ => exact q.elim
end
end Tw
namespace Tw
open PySem PySem.Spec PyProof.Rows L2

inductive Fl where
  | nx (ρ : Env) (S : Sto)
  | rt (d : D) (S : Sto)
  | bk (ρ : Env) (S : Sto)
  | ct (ρ : Env) (S : Sto)
  | exc (n : Str) (as : List PyData) (ρ : Env) (S : Sto)
  | bad
abbrev FS := Env → Sto → Fl
def AftS (c : Cw) (G F : Hp) (io : List Addr) (N : Ends) : Fl → Prop
  | .nx ρ S => ∀ σ F' io' H', Ext F io F' io' → Good c.K G F' io' H' S → REnv c F' io' σ ρ → N.nx σ H'
  | .bk ρ S => ∀ σ F' io' H', Ext F io F' io' → Good c.K G F' io' H' S → REnv c F' io' σ ρ → N.bk σ H'
  | .ct ρ S => ∀ σ F' io' H', Ext F io F' io' → Good c.K G F' io' H' S → REnv c F' io' σ ρ → N.ct σ H'
  | .rt d S => ∀ v F' io' H', Ext F io F' io' → Good c.K G F' io' H' S → Rp c.K F' io' v d → N.rt v H'
  | .exc n as ρ S => ∀ cls dd σ F' io' H', Ext F io F' io' → Good c.K G F' io' H' S → REnv c F' io' σ ρ → IsX c.K F' n as cls dd → c.W cls dd σ H'
  | .bad => False
def tS (c : Cw) (f : FS) : TS := fun N σ H => ∃ G F io S ρ, Good c.K G F io H S ∧ REnv c F io σ ρ ∧ AftS c G F io N (f ρ S)
def Res.thn {α : Type} (r : Res α) (ρ : Env) (k : α → Sto → Fl) : Fl := match r with
  | .ok d S => k d S
  | .exc n as S => .exc n as ρ S
  | .bad => .bad
section
variable {c : Cw} {G F F1 : Hp} {io io1 : List Addr} {N : Ends}
theorem AftS.ext {r : Fl} (h : AftS c G F io N r) (e : Ext F io F1 io1) : AftS c G F1 io1 N r := by
  cases r with
  | nx ρ S => exact fun σ F' io' H' e' => h σ F' io' H' (e.trans e')
  | bk ρ S => exact fun σ F' io' H' e' => h σ F' io' H' (e.trans e')
  | ct ρ S => exact fun σ F' io' H' e' => h σ F' io' H' (e.trans e')
  | rt d S => exact fun v F' io' H' e' => h v F' io' H' (e.trans e')
  | exc n as ρ S => exact fun cls dd σ F' io' H' e' => h cls dd σ F' io' H' (e.trans e')
  | bad => exact h
theorem AftS.step {γ δ : Type} {R1 : Hp → List Addr → δ → γ → Prop} {Q1 : δ → Hp → Prop} {r : Res γ} {ρ : Env} {σ : L2.St} {k : γ → Sto → Fl} (h : AftS c G F io N (r.thn ρ k)) (re : REnv c F io σ ρ)
    (go : ∀ d S1 v F1 io1 H1, Ext F io F1 io1 → Good c.K G F1 io1 H1 S1 → R1 F1 io1 v d → AftS c G F1 io1 N (k d S1) → Q1 v H1) : Aft c G F io σ R1 Q1 r := by
  cases r with
  | ok d S1 => exact fun v F1 io1 H1 e g r => go d S1 v F1 io1 H1 e g r (AftS.ext (r := k d S1) h e)
  | exc n as S => exact fun cls dd F' io' H' e g x => h cls dd σ F' io' H' e g (renv_mono e re) x
  | bad => exact h
theorem AftS.here {ρ : Env} {S : Sto} {σ : L2.St} {H : Hp} (h : AftS c G F io N (.nx ρ S)) (g : Good c.K G F io H S) (r : REnv c F io σ ρ) : N.nx σ H := h σ F io H (Ext.refl F io) g r
end
/-! ### small statements -/
def fPass : FS := fun ρ S => .nx ρ S
def fSeq (f g : FS) : FS := fun ρ S => match f ρ S with
  | .nx ρ1 S1 => g ρ1 S1
  | o => o
def fRet (fa : FE) : FS := fun ρ S => (fa ρ S).thn ρ fun d S1 => .rt d S1
def fRetN : FS := fun _ S => .rt (.p .none) S
def fSet (i : Nat) (fa : FE) : FS := fun ρ S => (fa ρ S).thn ρ fun d S1 => .nx (ρ.set i (some d)) S1
def fDrop (fa : FE) : FS := fun ρ S => (fa ρ S).thn ρ fun _ S1 => .nx ρ S1
def fIfS (fc : FE) (f g : FS) : FS := fun ρ S => (fc ρ S).asB.thn ρ fun b S1 => if b = true then f ρ S1 else g ρ S1
def fAug (i : Nat) (g : D → D → Sto → Res D) (fb : FE) : FS := fun ρ S => match ρ[i]? with
  | some (some (.p d0)) => (fb ρ S).thn ρ fun d1 S1 => (g (.p d0) d1 S1).thn ρ fun d2 S2 => .nx (ρ.set i (some d2)) S2
  | _ => .bad
def fPar (i j : Nat) (fr : FA) : FS := fun ρ S => (fr ρ S).thn ρ fun ds S1 => match ds with
  | [d, e] => .nx ((ρ.set i (some d)).set j (some e)) S1
  | _ => .bad
def fPar3 (i j l : Nat) (fr : FA) : FS := fun ρ S => (fr ρ S).thn ρ fun ds S1 => match ds with
  | [d, e, f] => .nx (((ρ.set i (some d)).set j (some e)).set l (some f)) S1
  | _ => .bad
def fBrk : FS := fun ρ S => .bk ρ S
def fCnt : FS := fun ρ S => .ct ρ S
section
variable {X : Cx} {c : Cw} {st : Stmt} {rest : List Stmt} {f g : FS} {fa fb fc : FE} {fr : FA} {e : Expr} {pos : Pos}
theorem fss_nil : PSs X [] (tS c fPass) := pss_imp pss_nil fun N σ H ⟨G, F, io, S, ρ, gd, re, q⟩ => AftS.here q gd re
theorem fs_pass : PS X (.Pass pos) (tS c fPass) := ps_imp ps_pass fun N σ H ⟨G, F, io, S, ρ, gd, re, q⟩ => AftS.here q gd re
theorem fss_cons (h1 : PS X st (tS c f)) (h2 : PSs X rest (tS c g)) : PSs X (st :: rest) (tS c (fSeq f g)) := pss_imp (pss_cons h1 h2) fun N σ H ⟨G, F, io, S, ρ, gd, re, q⟩ => by
  refine ⟨G, F, io, S, ρ, gd, re, ?_⟩
  unfold fSeq at q
  cases h : f ρ S with
  | nx ρ1 S1 =>
    rw [h] at q
    exact fun σ' F' io' H' e' g' r' => ⟨G, F', io', S1, ρ1, g', r', AftS.ext (r := g ρ1 S1) q e'⟩
  | _ => rw [h] at q; exact q
theorem fss_one (h1 : PS X st (tS c f)) : PSs X [st] (tS c f) := pss_one h1
theorem fs_ret (h : PE X e (tE c fa)) : PS X (.Return (some e) pos) (tS c (fRet fa)) := ps_imp (ps_ret h) fun N σ H ⟨G, F, io, S, ρ, gd, re, q⟩ =>
  ⟨G, F, io, S, ρ, gd, re, AftS.step q re fun d S1 v F1 io1 H1 e1 g1 r1 q1 => q1 v F1 io1 H1 (Ext.refl _ _) g1 r1⟩
theorem fs_retN : PS X (.Return none pos) (tS c fRetN) := ps_imp ps_retN fun N σ H ⟨G, F, io, S, ρ, gd, re, q⟩ => q .non F io H (Ext.refl _ _) gd Dq.non
theorem fs_set {i : Nat} (h : ∀ {te : TE}, PE X e te → PS X st (tAsg te (gName i))) (he : PE X e (tE c fa)) : PS X st (tS c (fSet i fa)) := ps_imp (h he) fun N σ H ⟨G, F, io, S, ρ, gd, re, q⟩ =>
  ⟨G, F, io, S, ρ, gd, re, AftS.step q re fun d S1 v F1 io1 H1 e1 g1 r1 q1 => AftS.here q1 g1 (renv_set (renv_mono e1 re) (rpe_of r1) i)⟩
theorem fs_drop (h : ∀ {te : TE}, PE X e te → PS X st (tDrop te)) (he : PE X e (tE c fa)) : PS X st (tS c (fDrop fa)) := ps_imp (h he) fun N σ H ⟨G, F, io, S, ρ, gd, re, q⟩ =>
  ⟨G, F, io, S, ρ, gd, re, AftS.step q re fun d S1 v F1 io1 H1 e1 g1 r1 q1 => AftS.here q1 g1 (renv_mono e1 re)⟩
theorem fs_if {a b : List Stmt} (hc : PT X e (tT c fc)) (ha : PSs X a (tS c f)) (hb : PSs X b (tS c g)) : PS X (.If e a b pos) (tS c (fIfS fc f g)) := ps_imp (ps_if hc ha hb) fun N σ H ⟨G, F, io, S, ρ, gd, re, q⟩ => by
  refine ⟨G, F, io, S, ρ, gd, re, AftS.step q re fun k S1 k' F1 io1 H1 e1 g1 r1 q1 => ?_⟩
  have r1 : k' = k := r1
  subst r1
  cases k' with
  | true => exact ⟨G, F1, io1, S1, ρ, g1, renv_mono e1 re, q1⟩
  | false => exact ⟨G, F1, io1, S1, ρ, g1, renv_mono e1 re, q1⟩
theorem fs_aug {i : Nat} {r : R2} {g : D → D → Sto → Res D} (h : ∀ {te : TE}, PE X e te → PS X st (tAug i te r)) (hr : BOp c r g) (he : PE X e (tE c fb)) : PS X st (tS c (fAug i g fb)) := ps_imp (h he) fun N σ H ⟨G, F, io, S, ρ, gd, re, q⟩ => by
  unfold fAug at q
  cases h1 : ρ[i]? with
  | none => rw [h1] at q; exact q.elim
  | some o =>
    cases o with
    | none => rw [h1] at q; exact q.elim
    | some d =>
      rw [h1] at q
      cases d with
      | p d0 =>
        obtain ⟨v, h2, h3⟩ := re.2 i _ h1
        have h3 : Rp c.K F io v (.p d0) := h3
        exact ⟨v, h2, G, F, io, S, ρ, gd, re, AftS.step q re fun d1 S1 v1 F1 i1 H1 e1 g1 r1 q1 =>
          hr G F1 i1 H1 S1 σ v v1 _ d1 _ g1 (rp_mono e1 h3) r1 (AftS.step q1 (renv_mono e1 re) fun d2 S2 v2 F2 i2 H2 e2 g2 r2 q2 => AftS.here q2 g2 (renv_set (renv_mono (e1.trans e2) re) (rpe_of r2) i))⟩
      | _ => exact q.elim
theorem fs_par {i j : Nat} {es : List Expr} (h : ∀ {ta : TA}, PA X es ta → PS X st (tPar i j ta)) (ha : PA X es (tA c fr)) : PS X st (tS c (fPar i j fr)) := ps_imp (h ha) fun N σ H ⟨G, F, io, S, ρ, gd, re, q⟩ =>
  ⟨G, F, io, S, ρ, gd, re, AftS.step q re fun ds S1 vs F1 io1 H1 e1 g1 r1 q1 => by
    cases r1 with
    | nil => exact q1.elim
    | cons a r =>
      cases r with
      | nil => exact q1.elim
      | cons b r =>
        cases r with
        | nil => exact ⟨_, _, rfl, AftS.here q1 g1 (renv_set (renv_set (renv_mono e1 re) (rpe_of a) i) (rpe_of b) j)⟩
        | cons _ _ => exact q1.elim⟩
theorem fs_par3 {i j l : Nat} {es : List Expr} (h : ∀ {ta : TA}, PA X es ta → PS X st (tPar3 i j l ta)) (ha : PA X es (tA c fr)) : PS X st (tS c (fPar3 i j l fr)) := ps_imp (h ha) fun N σ H ⟨G, F, io, S, ρ, gd, re, q⟩ =>
  ⟨G, F, io, S, ρ, gd, re, AftS.step q re fun ds S1 vs F1 io1 H1 e1 g1 r1 q1 => by
    cases r1 with
    | nil => exact q1.elim
    | cons a r =>
      cases r with
      | nil => exact q1.elim
      | cons b r =>
        cases r with
        | nil => exact q1.elim
        | cons k r =>
          cases r with
          | nil => exact ⟨_, _, _, rfl, AftS.here q1 g1 (renv_set (renv_set (renv_set (renv_mono e1 re) (rpe_of a) i) (rpe_of b) j) (rpe_of k) l)⟩
          | cons _ _ => exact q1.elim⟩
theorem fs_brk : PS X (.Break pos) (tS c fBrk) := ps_imp ps_break fun N σ H ⟨G, F, io, S, ρ, gd, re, q⟩ => q σ F io H (Ext.refl _ _) gd re
theorem fs_cnt : PS X (.Continue pos) (tS c fCnt) := ps_imp ps_continue fun N σ H ⟨G, F, io, S, ρ, gd, re, q⟩ => q σ F io H (Ext.refl _ _) gd re
end
/-! ### targets -/
abbrev FG := D → Env → Option Env
abbrev FGs := List D → Env → Option Env
/-- ws: the slots that may be written -/
def tG (c : Cw) (ws : List Nat) (g : FG) : TG := fun v σ H Q => ∃ G F io S d ρ ρ', Good c.K G F io H S ∧ Rp c.K F io v d ∧ REnv c F io σ ρ ∧ g d ρ = some ρ' ∧ ∀ σ', REnv c F io σ' ρ' → wipe σ' ws = wipe σ ws → Q σ' H
def tGs (c : Cw) (ws : List Nat) (g : FGs) : TGs := fun vs σ H Q => ∃ G F io S ds ρ ρ', Good c.K G F io H S ∧ RpA c.K F io vs ds ∧ REnv c F io σ ρ ∧ g ds ρ = some ρ' ∧ ∀ σ', REnv c F io σ' ρ' → wipe σ' ws = wipe σ ws → Q σ' H
theorem wipe_out1 {σ : L2.St} {i : Nat} {x : Option V} : ∀ {ws : List Nat}, i ∈ ws → wipe (σ.set i x) ws = wipe σ ws
  | w :: ws, h => by
    by_cases hw : i ∈ ws
    · show (wipe (σ.set i x) ws).set w none = (wipe σ ws).set w none
      rw [wipe_out1 hw]
    · have e : i = w := (List.mem_cons.mp h).resolve_right hw
      subst e
      show (wipe (σ.set i x) ws).set i none = (wipe σ ws).set i none
      rw [wipe_off hw, List.set_set]
where
  wipe_off {σ : L2.St} {i : Nat} {x : Option V} : ∀ {ws : List Nat}, i ∉ ws → wipe (σ.set i x) ws = (wipe σ ws).set i x
  | [], _ => rfl
  | w :: ws, h => by
    have h1 : i ≠ w := fun z => h (z ▸ List.mem_cons_self)
    have h2 : i ∉ ws := fun z => h (List.mem_cons_of_mem _ z)
    show (wipe (σ.set i x) ws).set w none = ((wipe σ ws).set w none).set i x
    rw [wipe_off h2, List.set_comm _ _ h1]
def gNm (i : Nat) : FG := fun d ρ => some (ρ.set i (some d))
def gsNil : FGs := fun ds ρ => match ds with
  | [] => some ρ
  | _ => none
def gsCons (g : FG) (gs : FGs) : FGs := fun ds ρ => match ds with
  | d :: r => (g d ρ).bind (gs r)
  | [] => none
def gTp (n : Nat) (gs : FGs) : FG := fun d ρ => match d with
  | .p (.tuple ds) => if ds.length = n then gs (ds.map D.p) ρ else none
  | _ => none
theorem dqa_rpa {K : PySem.W.Frag} {F : Hp} {io : List Addr} : ∀ {ds : List PyData} {vs : List V}, DqA K F vs ds → RpA K F io vs (ds.map D.p)
  | [], _, h => by cases h; exact .nil
  | d :: ds, _, h => by
    cases h with
    | cons h1 h2 => exact .cons h1 (dqa_rpa h2)
section
variable {X : Cx} {c : Cw} {ws : List Nat} {t : Expr} {ts : List Expr} {g : FG} {gs : FGs} {pos : Pos}
theorem pg_imp {a b : TG} (h : PG X t a) (i : ∀ v σ H Q, b v σ H Q → a v σ H Q) : PG X t b := ⟨fun pins s σ H v u Q I r q => h.run pins s σ H v u Q I r (i v σ H Q q)⟩
theorem pgs_imp {a b : TGs} (h : PGs X ts a) (i : ∀ v σ H Q, b v σ H Q → a v σ H Q) : PGs X ts b := ⟨fun pins s σ H v u Q I r q => h.run pins s σ H v u Q I r (i v σ H Q q)⟩
theorem fg_name {i : Nat} (h : PG X t (gName i)) (hi : i ∈ ws) : PG X t (tG c ws (gNm i)) := pg_imp h fun v σ H Q ⟨G, F, io, S, d, ρ, ρ', gd, r, re, e, q⟩ => by
  have e : ρ.set i (some d) = ρ' := Option.some.inj e
  subst e
  exact q _ (renv_set re (rpe_of r) i) (wipe_out1 hi)
theorem fgs_nil : PGs X [] (tGs c ws gsNil) := pgs_imp pgs_nil fun vs σ H Q ⟨G, F, io, S, ds, ρ, ρ', gd, r, re, e, q⟩ => by
  cases r with
  | nil =>
    have e : ρ = ρ' := Option.some.inj e
    subst e
    exact ⟨rfl, q σ re rfl⟩
  | cons _ _ => cases e
theorem fgs_cons (h1 : PG X t (tG c ws g)) (h2 : PGs X ts (tGs c ws gs)) (hs : (assignEach (t :: ts) X.env).map (·.2) = assign t X.env :: (assignEach ts X.env).map (·.2) := by rfl) : PGs X (t :: ts) (tGs c ws (gsCons g gs)) :=
  pgs_imp (pgs_cons h1 h2 hs) fun vs σ H Q ⟨G, F, io, S, ds, ρ, ρ', gd, r, re, e, q⟩ => by
    cases r with
    | nil => cases e
    | @cons v d vs' ds' ra rb =>
      have e : (g d ρ).bind (gs ds') = some ρ' := e
      cases h : g d ρ with
      | none => rw [h] at e; cases e
      | some ρ1 =>
        rw [h] at e
        exact ⟨v, vs', rfl, G, F, io, S, d, ρ, ρ1, gd, ra, re, h, fun σ1 re1 w1 => ⟨G, F, io, S, ds', ρ1, ρ', gd, rb, re1, e, fun σ2 re2 w2 => q σ2 re2 (w2.trans w1)⟩⟩
theorem fg_tup {es : List Expr} {k : Nat} {n : Nat} (hc : X.calm = true) (h : PGs X es (tGs c ws gs)) (hK : c.K = X.K) (hn : (assignEach es X.env).length = n := by rfl) (hst : (assignEach es X.env).findIdx? (·.1) = none := by rfl) : PG X (.Tuple es k pos) (tG c ws (gTp n gs)) :=
  pg_imp (pg_tup hc h hn hst) fun v σ H Q ⟨G, F, io, S, d, ρ, ρ', gd, r, re, e, q⟩ => by
    cases d with
    | p a =>
      cases a with
      | tuple ds =>
        have e : (if ds.length = n then gs (ds.map D.p) ρ else none) = some ρ' := e
        by_cases hl : ds.length = n
        · rw [if_pos hl] at e
          cases r with
          | @tup a xs _ hx ha =>
            exact ⟨a, xs, rfl, by rw [← hK]; exact sq_t gd.ex hx, by rw [dpa_len _ _ ha]; exact hl, G, F, io, S, ds.map D.p, ρ, ρ', gd, dqa_rpa ha, re, e, q⟩
        · rw [if_neg hl] at e
          cases e
      | _ => cases e
    | _ => cases e
def fAsg (fa : FE) (g : FG) : FS := fun ρ S => (fa ρ S).thn ρ fun d S1 => match g d ρ with
  | some ρ1 => .nx ρ1 S1
  | none => .bad
theorem fs_asg {e : Expr} {fa : FE} {st : Stmt} (h : ∀ {te : TE} {tg : TG}, PE X e te → PG X t tg → PS X st (tAsg te tg)) (he : PE X e (tE c fa)) (hg : PG X t (tG c ws g)) : PS X st (tS c (fAsg fa g)) := ps_imp (h he hg) fun N σ H ⟨G, F, io, S, ρ, gd, re, q⟩ =>
  ⟨G, F, io, S, ρ, gd, re, AftS.step q re fun d S1 v F1 io1 H1 e1 g1 r1 q1 => by
    cases h : g d ρ with
    | none => rw [h] at q1; exact q1.elim
    | some ρ1 =>
      rw [h] at q1
      exact ⟨G, F1, io1, S1, d, ρ, ρ1, g1, r1, renv_mono e1 re, h, fun σ' re' _ => AftS.here q1 g1 re'⟩⟩
end
/-! ### what is walked -/
structure ItD (c : Cw) (F : Hp) (io : List Addr) (J : It) (ds : List D) : Prop where
  go : ∀ i G H F1 io1 S1, i < ds.length → Ext F io F1 io1 → Good c.K G F1 io1 H S1 → J.go i H ∧ ∀ x H', J.yld i H x H' → ∃ F2, Ext F1 io1 F2 io1 ∧ Good c.K G F2 io1 H' S1 ∧ ∃ d, ds[i]? = some d ∧ Rp c.K F2 io1 x d
  stop : ∀ i G H F1 io1 S1, ds.length ≤ i → Ext F io F1 io1 → Good c.K G F1 io1 H S1 → J.stop i H
abbrev FI := Env → Sto → Res (List D)
def tI (c : Cw) (f : FI) : TI := fun σ H R => ∃ G F io S ρ, Good c.K G F io H S ∧ REnv c F io σ ρ ∧ Aft c G F io σ (fun F' io' (J : It) (ds : List D) => ItD c F' io' J ds) R (f ρ S)
def fItT (fa : FE) : FI := fun ρ S => (fa ρ S).bind fun d S1 => match d with
  | .p (.tuple ds) => .ok (ds.map D.p) S1
  | _ => .bad
def fItL (fa : FE) : FI := fun ρ S => (fa ρ S).bind fun d S1 => match d with
  | .p (.list ds) => .ok (ds.map D.p) S1
  | .scr ns => .ok ((ns.map PyData.int).map D.p) S1
  | _ => .bad
def rng (lo : Int) (n : Nat) : List D := (List.range n).map fun (i : Nat) => D.p (.int (lo + (i : Int)))
def fRng1 (fr : FA) : FI := fun ρ S => (fr ρ S).bind fun ds S1 => match ds with
  | [.p (.int j)] => if -1000000 < j ∧ j < 1000000 then .ok (rng 0 j.toNat) S1 else .bad
  | _ => .bad
def fRng2 (fr : FA) : FI := fun ρ S => (fr ρ S).bind fun ds S1 => match ds with
  | [.p (.int i), .p (.int j)] => if -1000000 < i ∧ i < 1000000 ∧ -1000000 < j ∧ j < 1000000 then .ok (rng i (j - i).toNat) S1 else .bad
  | _ => .bad
section
variable {X : Cx} {c : Cw} {tg e : Expr} {fa : FE} {fr : FA} {pos p : Pos}
theorem pi_imp {a b : TI} (h : PI X tg e a) (i : ∀ σ H R, b σ H R → a σ H R) : PI X tg e b := ⟨fun pins s σ H R I q => h.run pins s σ H R I (i σ H R q)⟩
theorem itd_tup {F : Hp} {io : List Addr} {a : Addr} {vs : List V} {ds : List PyData} (hx : SqT c.K F a vs) (ha : DqA c.K F vs ds) : ItD c F io (Itt c.K a) (ds.map D.p) where
  go := fun i G H F1 io1 S1 hi e g => by
    have hi' : i < ds.length := by simpa using hi
    obtain ⟨v, h1, h2⟩ := dpa_get _ _ i ds[i] ha (List.getElem?_eq_getElem hi')
    refine ⟨⟨vs, v, sq_t g.ex (sq_t e.same hx), h1⟩, fun x H' ⟨e1, y⟩ => ?_⟩
    subst e1
    have hv := y vs (sq_t g.ex (sq_t e.same hx))
    rw [h1] at hv
    have hv : v = x := Option.some.inj hv
    subst hv
    refine ⟨F1, Ext.refl _ _, g, .p ds[i], ?_, dp_mono e.same _ _ h2⟩
    rw [List.getElem?_map, List.getElem?_eq_getElem hi']
    rfl
  stop := fun i G H F1 io1 S1 hi e g => ⟨vs, sq_t g.ex (sq_t e.same hx), by rw [dpa_len _ _ ha]; simpa using hi⟩
theorem itd_lst {F : Hp} {io : List Addr} {a : Addr} {vs : List V} {ds : List PyData} (hx : SqL c.K F a vs) (ha : DqA c.K F vs ds) : ItD c F io (Itl c.K a) (ds.map D.p) where
  go := fun i G H F1 io1 S1 hi e g => by
    have hi' : i < ds.length := by simpa using hi
    obtain ⟨v, h1, h2⟩ := dpa_get _ _ i ds[i] ha (List.getElem?_eq_getElem hi')
    refine ⟨⟨vs, v, g.ex.seq (e.same.seq hx), h1⟩, fun x H' ⟨e1, y⟩ => ?_⟩
    subst e1
    have hv := y vs (g.ex.seq (e.same.seq hx))
    rw [h1] at hv
    have hv : v = x := Option.some.inj hv
    subst hv
    refine ⟨F1, Ext.refl _ _, g, .p ds[i], ?_, dp_mono e.same _ _ h2⟩
    rw [List.getElem?_map, List.getElem?_eq_getElem hi']
    rfl
  stop := fun i G H F1 io1 S1 hi e g => ⟨vs, g.ex.seq (e.same.seq hx), by rw [dpa_len _ _ ha]; simpa using hi⟩
theorem dqa_ints {K : PySem.W.Frag} {F : Hp} : ∀ ns : List Int, DqA K F (ns.map V.int) (ns.map PyData.int)
  | [] => .nil
  | n :: ns => .cons (.int n) (dqa_ints ns)
/-- over a tuple -/
theorem fi_tup (h : PE X e (tE c fa)) (hK : c.K = X.K) : PI X tg e (tI c (fItT fa)) := pi_imp (pi_tup h) fun σ H R ⟨G, F, io, S, ρ, gd, re, q⟩ => ⟨G, F, io, S, ρ, gd, re, Aft.step q fun d S1 v F1 i1 H1 e1 g1 r1 q1 => by
  cases d with
  | p a =>
    cases a with
    | tuple ds =>
      cases r1 with
      | @tup a xs _ hx ha =>
        rw [← hK]
        exact ⟨a, rfl, ⟨xs, sq_t g1.ex hx⟩, Aft.here q1 g1 (itd_tup hx ha)⟩
    | _ => exact q1.elim
  | _ => exact q1.elim⟩
/-- over a list -/
theorem fi_lst (h : PE X e (tE c fa)) (hK : c.K = X.K) : PI X tg e (tI c (fItL fa)) := pi_imp (pi_list h) fun σ H R ⟨G, F, io, S, ρ, gd, re, q⟩ => ⟨G, F, io, S, ρ, gd, re, Aft.step q fun d S1 v F1 i1 H1 e1 g1 r1 q1 => by
  cases d with
  | p a =>
    cases a with
    | list ds =>
      cases r1 with
      | @lst a xs _ hx ha =>
        rw [← hK]
        exact ⟨a, rfl, ⟨xs, SqL.of (g1.ex _ _ hx)⟩, Aft.here q1 g1 (itd_lst (SqL.of hx) ha)⟩
    | _ => exact q1.elim
  | scr ns =>
    obtain ⟨a, h1, h2⟩ := r1
    rw [← hK]
    exact ⟨a, h1, ⟨_, g1.ex.seq h2⟩, Aft.here q1 g1 (itd_lst h2 (dqa_ints ns))⟩
  | _ => exact q1.elim⟩
theorem itd_rng {F : Hp} {io : List Addr} {lo : Int} {n : Nat} : ItD c F io (Itr lo n) (rng lo n) where
  go := fun i G H F1 io1 S1 hi e g => by
    have hi' : i < n := by simpa [rng] using hi
    refine ⟨hi', fun x H' ⟨e1, y⟩ => ?_⟩
    subst e1
    subst y
    refine ⟨F1, Ext.refl _ _, g, .p (.int (lo + (i : Int))), ?_, Dq.int _⟩
    unfold rng
    rw [List.getElem?_map, List.getElem?_range hi']
    rfl
  stop := fun i G H F1 io1 S1 hi e g => by
    have hi' : n ≤ i := by simpa [rng] using hi
    exact hi'
theorem fi_rng1 {a : Expr} (h : ∀ {ta : TA}, PA X [a] ta → PI X tg e (iRng1 ta)) (ha : PA X [a] (tA c fr)) : PI X tg e (tI c (fRng1 fr)) := pi_imp (h ha) fun σ H R ⟨G, F, io, S, ρ, gd, re, q⟩ => ⟨G, F, io, S, ρ, gd, re, Aft.step q fun ds S1 vs F1 i1 H1 e1 g1 r1 q1 => by
  cases r1 with
  | nil => exact q1.elim
  | @cons v d _ _ ra rb =>
    cases rb with
    | nil =>
      cases d with
      | p a =>
        cases a with
        | int j =>
          cases ra
          have q1 : Aft c G F1 i1 σ _ R (if -1000000 < j ∧ j < 1000000 then .ok (rng 0 j.toNat) S1 else .bad) := q1
          by_cases hj : -1000000 < j ∧ j < 1000000
          · rw [if_pos hj] at q1
            exact ⟨j, rfl, by omega, by omega, Aft.here q1 g1 itd_rng⟩
          · rw [if_neg hj] at q1
            exact q1.elim
        | _ => exact q1.elim
      | _ => exact q1.elim
    | cons _ _ => cases d with
      | p a => cases a <;> exact q1.elim
      | _ => exact q1.elim⟩
theorem fi_rng2 {a b : Expr} (h : ∀ {ta : TA}, PA X [a, b] ta → PI X tg e (iRng2 ta)) (ha : PA X [a, b] (tA c fr)) : PI X tg e (tI c (fRng2 fr)) := pi_imp (h ha) fun σ H R ⟨G, F, io, S, ρ, gd, re, q⟩ => ⟨G, F, io, S, ρ, gd, re, Aft.step q fun ds S1 vs F1 i1 H1 e1 g1 r1 q1 => by
  have key : ∀ {ds : List D} {vs : List V}, RpA c.K F1 i1 vs ds → Aft c G F1 i1 σ (fun F' io' (J : It) (ds : List D) => ItD c F' io' J ds) R (match ds with
      | [.p (.int i), .p (.int j)] => if -1000000 < i ∧ i < 1000000 ∧ -1000000 < j ∧ j < 1000000 then .ok (rng i (j - i).toNat) S1 else .bad
      | _ => .bad) → ∃ i j : Int, vs = [.int i, .int j] ∧ (-(2 ^ 62) ≤ i ∧ i < 2 ^ 62 ∧ -(2 ^ 62) ≤ j ∧ j < 2 ^ 62) ∧ R (Itr i (j - i).toNat) H1 := fun {ds vs} r q1 => by
    split at q1
    · rename_i i j
      cases r with
      | cons ra rb =>
        cases ra
        cases rb with
        | cons ra rb =>
          cases ra
          cases rb
          by_cases hj : -1000000 < i ∧ i < 1000000 ∧ -1000000 < j ∧ j < 1000000
          · rw [if_pos hj] at q1
            exact ⟨i, j, rfl, ⟨by omega, by omega, by omega, by omega⟩, Aft.here q1 g1 itd_rng⟩
          · rw [if_neg hj] at q1
            exact q1.elim
    · exact q1.elim
  exact key r1 q1⟩
/-! ### for -/
def forL (g : FG) (body : FS) : List D → Env → Sto → Fl
  | [], ρ, S => .nx ρ S
  | d :: ds, ρ, S => match g d ρ with
    | none => .bad
    | some ρ1 => match body ρ1 S with
      | .nx ρ2 S2 => forL g body ds ρ2 S2
      | .ct ρ2 S2 => forL g body ds ρ2 S2
      | .bk ρ2 S2 => .nx ρ2 S2
      | o => o
def fFor (fi : FI) (g : FG) (body : FS) : FS := fun ρ S => (fi ρ S).thn ρ fun ds S1 => forL g body ds ρ S1
theorem fs_for {ws : List Nat} {fi : FI} {g : FG} {body : List Stmt} {fb : FS} (hp : PassesOwn (model X.prog X.w) X.A X.env X.xe) (hc : X.calm = true) (hi : PI X tg e (tI c fi)) (hg : PG X tg (tG c ws g)) (hb : PSs X body (tS c fb))
    (hs : ∀ x, foldedSetIterable e X.env x = pure x := by intro _; rfl) : PS X (.For tg e body [] pos) (tS c (fFor fi g fb)) := ps_imp (ps_for hp hc hi hg hb hs) fun N σ H ⟨G, F, io, S, ρ, gd, re, q⟩ => by
  refine ⟨G, F, io, S, ρ, gd, re, AftS.step q re fun ds S1 J F1 i1 H1 e1 g1 it q1 => ?_⟩
  refine ⟨fun i m σ' H' => m = ds.length - i ∧ i ≤ ds.length ∧ ∃ G F2 io2 S2 ρ2, Ext F1 i1 F2 io2 ∧ Good c.K G F2 io2 H' S2 ∧ REnv c F2 io2 σ' ρ2 ∧ AftS c G F2 io2 N (forL g fb (ds.drop i) ρ2 S2),
    ⟨_, rfl, Nat.zero_le _, G, F1, i1, S1, ρ, Ext.refl _ _, g1, renv_mono e1 re, q1⟩, ?_⟩
  rintro i m σ' H' ⟨rfl, hi, G, F2, io2, S2, ρ2, e2, g2, re2, q2⟩
  by_cases hlt : i < ds.length
  · obtain ⟨hgo, hy⟩ := it.go i G H' F2 io2 S2 hlt e2 g2
    refine .inr ⟨hgo, _, fun σ3 H3 n => ⟨ds.length - (i + 1), by omega, n⟩, fun x H3 y => ?_⟩
    obtain ⟨F3, e3, g3, d, hd, rd⟩ := hy x H3 y
    have hdr : ds.drop i = d :: ds.drop (i + 1) := by
      rw [List.drop_eq_getElem_cons hlt]
      rw [List.getElem?_eq_getElem hlt] at hd
      rw [Option.some.inj hd]
    rw [hdr] at q2
    have q2 : AftS c G F2 io2 N (match g d ρ2 with
      | none => .bad
      | some ρ1 => match fb ρ1 S2 with
        | .nx ρ2 S2 => forL g fb (ds.drop (i + 1)) ρ2 S2
        | .ct ρ2 S2 => forL g fb (ds.drop (i + 1)) ρ2 S2
        | .bk ρ2 S2 => .nx ρ2 S2
        | o => o) := q2
    cases h : g d ρ2 with
    | none => rw [h] at q2; exact q2.elim
    | some ρ3 =>
      rw [h] at q2
      refine ⟨G, F3, io2, S2, d, ρ2, ρ3, g3, rd, renv_mono e3 re2, h, fun σ4 re4 _ => ⟨G, F3, io2, S2, ρ3, g3, re4, ?_⟩⟩
      have q2 := AftS.ext q2 e3
      have q2 : AftS c G F3 io2 N (match fb ρ3 S2 with
        | .nx ρ2 S2 => forL g fb (ds.drop (i + 1)) ρ2 S2
        | .ct ρ2 S2 => forL g fb (ds.drop (i + 1)) ρ2 S2
        | .bk ρ2 S2 => .nx ρ2 S2
        | o => o) := q2
      cases hb2 : fb ρ3 S2 with
      | nx ρ4 S4 =>
        rw [hb2] at q2
        exact fun σ5 F5 io5 H5 e5 g5 re5 => ⟨rfl, hlt, G, F5, io5, S4, ρ4, (e2.trans e3).trans e5, g5, re5, AftS.ext (r := forL g fb (ds.drop (i + 1)) ρ4 S4) q2 e5⟩
      | ct ρ4 S4 =>
        rw [hb2] at q2
        exact fun σ5 F5 io5 H5 e5 g5 re5 => ⟨rfl, hlt, G, F5, io5, S4, ρ4, (e2.trans e3).trans e5, g5, re5, AftS.ext (r := forL g fb (ds.drop (i + 1)) ρ4 S4) q2 e5⟩
      | bk ρ4 S4 => rw [hb2] at q2; exact q2
      | rt d S4 => rw [hb2] at q2; exact q2
      | exc n as ρ4 S4 => rw [hb2] at q2; exact q2
      | bad => rw [hb2] at q2; exact q2
  · have e0 : i = ds.length := by omega
    subst e0
    rw [List.drop_length] at q2
    exact .inl ⟨it.stop _ G H' F2 io2 S2 (Nat.le_refl _) e2 g2, AftS.here q2 g2 re2⟩
/-! ### while -/
def whileN (fc : FE) (body : FS) : Nat → Env → Sto → Fl
  | 0, _, _ => .bad
  | n + 1, ρ, S => (fc ρ S).asB.thn ρ fun b S1 => if b = true then (match body ρ S1 with
      | .nx ρ2 S2 => whileN fc body n ρ2 S2
      | .ct ρ2 S2 => whileN fc body n ρ2 S2
      | .bk ρ2 S2 => .nx ρ2 S2
      | o => o) else .nx ρ S1
def fWhile (n : Nat) (fc : FE) (body : FS) : FS := whileN fc body n
theorem fs_while {n : Nat} {fc : FE} {body : List Stmt} {fb : FS} (hp : PassesOwn (model X.prog X.w) X.A X.env X.xe) (hc : PT X e (tT c fc)) (hb : PSs X body (tS c fb)) : PS X (.While e body [] pos) (tS c (fWhile n fc fb)) := ps_imp (ps_while hp hc hb) fun N σ H ⟨G, F, io, S, ρ, gd, re, q⟩ => by
  refine ⟨fun m σ' H' => ∃ G F2 io2 S2 ρ2, Good c.K G F2 io2 H' S2 ∧ REnv c F2 io2 σ' ρ2 ∧ AftS c G F2 io2 N (whileN fc fb m ρ2 S2), ⟨n, G, F, io, S, ρ, gd, re, q⟩, ?_⟩
  rintro m σ' H' ⟨G, F2, io2, S2, ρ2, g2, re2, q2⟩
  cases m with
  | zero => exact q2.elim
  | succ m =>
    refine ⟨G, F2, io2, S2, ρ2, g2, re2, AftS.step (k := fun b S1 => if b = true then (match fb ρ2 S1 with
      | .nx ρ2 S2 => whileN fc fb m ρ2 S2
      | .ct ρ2 S2 => whileN fc fb m ρ2 S2
      | .bk ρ2 S2 => .nx ρ2 S2
      | o => o) else .nx ρ2 S1) q2 re2 fun k S3 k' F3 i3 H3 e3 g3 r3 q3 => ?_⟩
    have r3 : k' = k := r3
    subst r3
    cases k' with
    | false => exact AftS.here (show AftS c G F3 i3 N (.nx ρ2 S3) from q3) g3 (renv_mono e3 re2)
    | true =>
      have q3 : AftS c G F3 i3 N (match fb ρ2 S3 with
        | .nx ρ2 S2 => whileN fc fb m ρ2 S2
        | .ct ρ2 S2 => whileN fc fb m ρ2 S2
        | .bk ρ2 S2 => .nx ρ2 S2
        | o => o) := q3
      refine ⟨_, fun σ4 H4 z => ⟨m, Nat.lt_succ_self m, z⟩, G, F3, i3, S3, ρ2, g3, renv_mono e3 re2, ?_⟩
      cases hb2 : fb ρ2 S3 with
      | nx ρ4 S4 =>
        rw [hb2] at q3
        exact fun σ5 F5 io5 H5 e5 g5 re5 => ⟨G, F5, io5, S4, ρ4, g5, re5, AftS.ext (r := whileN fc fb m ρ4 S4) q3 e5⟩
      | ct ρ4 S4 =>
        rw [hb2] at q3
        exact fun σ5 F5 io5 H5 e5 g5 re5 => ⟨G, F5, io5, S4, ρ4, g5, re5, AftS.ext (r := whileN fc fb m ρ4 S4) q3 e5⟩
      | bk ρ4 S4 => rw [hb2] at q3; exact q3
      | rt d S4 => rw [hb2] at q3; exact q3
      | exc n as ρ4 S4 => rw [hb2] at q3; exact q3
      | bad => rw [hb2] at q3; exact q3
end
end Tw
namespace Tw
open PySem PySem.Spec PyProof.Rows L2

/-! ### a def's promise: it hands back what m says -/
abbrev cE (K : PySem.W.Frag) (E : XK) : Cw := ⟨K, none, fun cls d _ H => E cls d H⟩
def spF (K : PySem.W.Frag) (m : List D → Sto → Res D) (n : Nat) : Sp := fun vs H Q E => vs.length = n ∧ ∃ G F io S ds, Good K G F io H S ∧ RpA K F io vs ds ∧ Aft (cE K E) G F io [] (rp (cE K E)) Q (m ds S)
def D.low (n : Nat) : D → Bool
  | .own k => decide (k < n)
  | _ => true
def O.low (n : Nat) : O → Bool
  | .lst xs => xs.all (D.low n)
  | .dic kvs => kvs.all fun q => q.2.low n
  | .ins _ fs => fs.all fun q => q.2.low n
  | .fz d => d.low n
  | .raw _ => false
  | .odx _ => false
def trim (S : Sto) (d : D) (S' : Sto) : Res D := if S'.length = S.length then .ok d S' else if (d.low S.length && (S'.take S.length).all (O.low S.length)) = true then .ok d (S'.take S.length) else .bad
def trimX (S : Sto) (n : Str) (as : List PyData) (S' : Sto) : Res D := if S'.length = S.length then .exc n as S' else if ((S'.take S.length).all (O.low S.length)) = true then .exc n as (S'.take S.length) else .bad
def callM (nN : Nat) (f : FS) : List D → Sto → Res D := fun ds S => match f (ds.map some ++ List.replicate (nN - ds.length) none) S with
  | .rt d S' => trim S d S'
  | .nx _ S' => trim S (.p .none) S'
  | .exc n as _ S' => trimX S n as S'
  | _ => .bad
section
variable {K : PySem.W.Frag} {G F : Hp} {io : List Addr} {H : Hp} {S : Sto}
theorem rp_low {n : Nat} {v : V} : ∀ {d : D}, d.low n = true → Rp K F io v d → Rp K F (io.take n) v d
  | .p _, _, r => r
  | .own k, h, ⟨a, h1, h2⟩ => ⟨a, h1, by rw [List.getElem?_take_of_lt (of_decide_eq_true h)]; exact h2⟩
  | .wld _ _, _, r => r
  | .exn, _, r => r
  | .scr _, _, r => r
theorem rpa_low {n : Nat} : ∀ {ds : List D} {vs : List V}, ds.all (D.low n) = true → RpA K F io vs ds → RpA K F (io.take n) vs ds
  | [], _, _, r => by cases r; exact .nil
  | d :: ds, _, h, r => by
    cases r with
    | cons r1 r2 =>
      rw [List.all_cons, Bool.and_eq_true] at h
      exact .cons (rp_low h.1 r1) (rpa_low h.2 r2)
theorem prs_low {κ : Type} {n : Nat} : ∀ {fs : List (κ × D)} {vs : List (κ × V)}, (fs.all fun q => q.2.low n) = true → Paired (fun (p : κ × V) (q : κ × D) => p.1 = q.1 ∧ Rp K F io p.2 q.2) vs fs → Paired (fun (p : κ × V) (q : κ × D) => p.1 = q.1 ∧ Rp K F (io.take n) p.2 q.2) vs fs
  | [], _, _, r => by cases r; exact .nil
  | d :: ds, _, h, r => by
    cases r with
    | cons r1 r2 =>
      rw [List.all_cons, Bool.and_eq_true] at h
      exact .cons ⟨r1.1, rp_low h.1 r1.2⟩ (prs_low h.2 r2)
theorem oat_low {n : Nat} {a : Addr} : ∀ {o : O}, o.low n = true → OAt K F io H a o → OAt K F (io.take n) H a o
  | .lst xs, h, ⟨h0, vs, h1, r⟩ => ⟨h0, vs, h1, rpa_low h r⟩
  | .dic kvs, h, ⟨h0, kws, h1, r⟩ => ⟨h0, kws, h1, prs_low h r⟩
  | .ins m fs, h, ⟨h0, dx, fvs, h1, h2, r⟩ => ⟨h0, dx, fvs, h1, h2, prs_low h r⟩
  | .fz d, h, ⟨h0, r⟩ => ⟨h0, rp_low h r⟩
theorem Good.trim (g : Good K G F io H S) {n : Nat} (h : ((S.take n).all (O.low n)) = true) : Good K G F (io.take n) H (S.take n) where
  ex := g.ex
  gx := g.gx
  gf := fun a o q => ⟨(g.gf a o q).1, fun hm => (g.gf a o q).2 (List.mem_of_mem_take hm)⟩
  nd := g.nd.sublist (List.take_sublist _ _)
  len := by rw [List.length_take, List.length_take, g.len]
  ob := fun k a o h1 h2 => by
    have hk : k < n := by
      have := (List.getElem?_eq_some_iff.mp h1).1
      rw [List.length_take] at this
      omega
    have hl := List.all_eq_true.mp h o (List.mem_of_getElem? h2)
    rw [List.getElem?_take_of_lt hk] at h1 h2
    exact oat_low hl (g.ob k a o h1 h2)
end
theorem take_ext {F F' : Hp} {io io' : List Addr} (e : Ext F io F' io') {n : Nat} (h : io.length = n) : io'.take n = io := by
  obtain ⟨t, ht⟩ := e.more
  subst ht
  subst h
  simp
section
variable {K : PySem.W.Frag} {P : Program} {w : World} {mg : Str → Option Value} {base : Heap} {x qual : Str} {params : Arguments} {body : List Stmt} {scope : Scope} {f : Addr} {fd : FuncData} {N ps : List Str} {k : Nat} {m : FS}
theorem start_renv {c : Cw} {F : Hp} {io : List Addr} {vs : List V} {ds : List D} (r : RpA c.K F io vs ds) : REnv c F io (L2.start N vs) (ds.map some ++ List.replicate (N.length - ds.length) none) := by
  unfold L2.start
  have hl := paired_len r
  refine ⟨by simp [hl], fun i d h => ?_⟩
  by_cases hi : i < ds.length
  · rw [List.getElem?_append_left (by simpa using hi), List.getElem?_map] at h
    rw [List.getElem?_append_left (by simpa [hl] using hi), List.getElem?_map]
    cases e : ds[i]? with
    | none => rw [e] at h; cases h
    | some d' =>
      rw [e] at h
      have h : d' = d := Option.some.inj (Option.some.inj h)
      subst h
      obtain ⟨v, h1, h2⟩ := paired_get r e
      exact ⟨v, by rw [h1]; rfl, rpe_of h2⟩
  · rw [List.getElem?_append_right (by simpa using Nat.le_of_not_lt hi), List.getElem?_replicate] at h
    split at h
    · cases h
    · cases h
theorem fn_ok (Fn : FunD K x qual params body scope [] [] f fd) (S : FnScope N ps scope)
    (hb : ∀ (cdv : Value) (A : Around) (outer : List PySem.Env) (s : Shared) (H : Hp) (E : XK), Room k (A.deeper (envOfC qual scope s.heap.objs.size f cdv)) → PSs (cxOf (L2.CX P w) P w K mg base N qual scope f cdv A outer s H E) body (tS (cE K E) m)) :
    FnOk P w K mg base (L2.CX P w) (k + 1) f fd ps (spF K (callM N.length m) ps.length) := by
  refine Fn.ok S (fun vs H Q E h => h.1) fun cdv A outer s H vs Q E hr h => ⟨_, hb cdv A outer s H E hr, ?_⟩
  obtain ⟨_, G, F, io, St, ds, g, r, q⟩ := h
  refine ⟨G, F, io, St, _, g, start_renv (c := cE K E) (N := N) r, ?_⟩
  unfold callM at q
  have keep : ∀ {d : D} {S' : Sto}, Aft (cE K E) G F io [] (rp (cE K E)) Q (trim St d S') → ∀ v F' io' H', Ext F io F' io' → Good K G F' io' H' S' → Rp K F' io' v d → Q v H' := fun {d S'} q v F' io' H' e' g' r' => by
    unfold trim at q
    by_cases h1 : S'.length = St.length
    · rw [if_pos h1] at q
      exact q v F' io' H' e' g' r'
    · rw [if_neg h1] at q
      by_cases h2 : (d.low St.length && (S'.take St.length).all (O.low St.length)) = true
      · rw [if_pos h2] at q
        rw [Bool.and_eq_true] at h2
        have e3 := take_ext e' (g.len)
        have g3 := g'.trim h2.2
        have r3 := rp_low h2.1 r'
        rw [e3] at g3 r3
        exact q v F' io H' ⟨e'.same, [], by simp⟩ g3 r3
      · rw [if_neg h2] at q
        exact q.elim
  cases hm : m (ds.map some ++ List.replicate (N.length - ds.length) none) St with
  | rt d S' =>
    rw [hm] at q
    exact keep q
  | nx ρ' S' =>
    rw [hm] at q
    exact fun σ F' io' H' e' g' _ => keep q .non F' io' H' e' g' Dq.non
  | exc n as ρ' S' =>
    rw [hm] at q
    have q : Aft (cE K E) G F io [] (rp (cE K E)) Q (trimX St n as S') := q
    unfold trimX at q
    intro cls dd σ F' io' H' e' g' _ x'
    by_cases h1 : S'.length = St.length
    · rw [if_pos h1] at q
      exact q cls dd F' io' H' e' g' x'
    · rw [if_neg h1] at q
      by_cases h2 : ((S'.take St.length).all (O.low St.length)) = true
      · rw [if_pos h2] at q
        have e3 := take_ext e' (g.len)
        have g3 := g'.trim h2
        rw [e3] at g3
        exact q cls dd F' io H' ⟨e'.same, [], by simp⟩ g3 x'
      · rw [if_neg h2] at q
        exact q.elim
  | bk ρ' S' => rw [hm] at q; exact q.elim
  | ct ρ' S' => rw [hm] at q; exact q.elim
  | bad => rw [hm] at q; exact q.elim
end
section
variable {X : Cx} {c : Cw} {e : Expr} {es : List Expr} {fr : FA}
/-- a call of a def of one's own -/
theorem fe_own {m : List D → Sto → Res D} {n : Nat} (h : ∀ {t : TA}, PA X es t → PE X e (tCallS (spF c.K m n) (WE c.W) t)) (ha : PA X es (tA c fr)) (hn : es.length = n) (hl : ∀ ρ S ds S', fr ρ S = .ok ds S' → ds.length = es.length) : PE X e (tE c (fCall m fr)) :=
  pe_imp (h ha) fun σ H Q ⟨G, F, io, S, ρ, gd, re, q⟩ => ⟨G, F, io, S, ρ, gd, re, by
    unfold fCall at q
    cases hr : fr ρ S with
    | ok ds S1 =>
      rw [hr] at q
      intro vs F1 i1 H1 e1 g1 r1
      have q2 := Aft.ext (r := m ds S1) q e1
      refine ⟨by rw [paired_len r1, hl ρ S ds S1 hr, hn], G, F1, i1, S1, ds, g1, r1, ?_⟩
      cases hm : m ds S1 with
      | ok d S2 => rw [hm] at q2; exact q2
      | exc n as S2 => rw [hm] at q2; exact q2
      | bad => rw [hm] at q2; exact q2
    | exc n as S1 => rw [hr] at q; exact q
    | bad => rw [hr] at q; exact q⟩
theorem fr_len_nil {ρ : Env} {S : Sto} {ds : List D} {S' : Sto} (h : fNil ρ S = .ok ds S') : ds.length = 0 := by
  unfold fNil at h
  injection h with h1 _
  rw [← h1]
  rfl
theorem fr_len_cons {fa : FE} {fr : FA} {n : Nat} (hr : ∀ ρ S ds S', fr ρ S = .ok ds S' → ds.length = n) {ρ : Env} {S : Sto} {ds : List D} {S' : Sto} (h : fCons fa fr ρ S = .ok ds S') : ds.length = n + 1 := by
  unfold fCons at h
  cases h1 : fa ρ S with
  | ok x S1 =>
    rw [h1] at h
    have h : ((fr ρ S1).bind fun xs S2 => .ok (x :: xs) S2) = .ok ds S' := h
    cases h2 : fr ρ S1 with
    | ok xs S2 =>
      rw [h2] at h
      have h : Res.ok (x :: xs) S2 = .ok ds S' := h
      injection h with h3 _
      rw [← h3, List.length_cons, hr _ _ _ _ h2]
    | exc n as S2 => rw [h2] at h; cases h
    | bad => rw [h2] at h; cases h
  | exc n as S1 => rw [h1] at h; cases h
  | bad => rw [h1] at h; cases h
end
/-! ### built-ins -/
section
variable {c : Cw}
def gLen : List D → Sto → Res D := fun ds S => match ds with
  | [.p (.tuple xs)] => .ok (.p (.int xs.length)) S
  | [.p (.list xs)] => .ok (.p (.int xs.length)) S
  | [.own k] => match S[k]? with
    | some (.lst xs) => .ok (.p (.int xs.length)) S
    | _ => .bad
  | _ => .bad
theorem bc_len : BCall c (fun xs H Q => ∃ p ys, xs = [.ref p] ∧ (SqL c.K H p ys ∨ SqT c.K H p ys) ∧ Q (.int ys.length) H) gLen := fun G F io H S σ xs ds Q gd r q => by
  cases r with
  | nil => exact q.elim
  | @cons v d _ _ ra rb =>
    cases rb with
    | cons _ _ =>
      cases d with
      | p a => cases a <;> exact q.elim
      | _ => exact q.elim
    | nil =>
      cases d with
      | p a =>
        cases a with
        | tuple zs =>
          cases ra with
          | @tup p vs _ hx ha => exact ⟨p, vs, rfl, .inr (sq_t gd.ex hx), hereP q gd (by rw [dpa_len _ _ ha]; exact Dq.int _)⟩
        | list zs =>
          cases ra with
          | @lst p vs _ hx ha => exact ⟨p, vs, rfl, .inl (SqL.of (gd.ex _ _ hx)), hereP q gd (by rw [dpa_len _ _ ha]; exact Dq.int _)⟩
        | _ => exact q.elim
      | own k =>
        have q : Aft c G F io σ (rp c) Q (match S[k]? with
          | some (.lst xs) => .ok (.p (.int xs.length)) S
          | _ => .bad) := q
        cases hk : S[k]? with
        | none => rw [hk] at q; exact q.elim
        | some o =>
          rw [hk] at q
          cases o with
          | lst ys =>
            obtain ⟨a, e1, e2⟩ := ra
            obtain ⟨a', e3, h0, vs, h1, h2⟩ := gd.at_ hk
            rw [e2] at e3
            have e3 : a = a' := Option.some.inj e3
            subst e3
            exact ⟨a, vs, by rw [e1], .inl (SqL.of h1), hereP q gd (by rw [paired_len h2]; exact Dq.int _)⟩
          | _ => exact q.elim
      | _ => exact q.elim
theorem two_i {α : Type} {t : Int → Int → α} {z : α} {ds : List D} (P : α → Prop) (h : P (match ds with
  | [.p (.int i), .p (.int j)] => t i j
  | _ => z)) (hz : ¬ P z) : ∃ i j, ds = [.p (.int i), .p (.int j)] ∧ P (t i j) := by
  split at h
  · exact ⟨_, _, rfl, h⟩
  · exact absurd h hz
theorem rpa2 {F : Hp} {io : List Addr} {xs : List V} {i j : Int} (r : RpA c.K F io xs [.p (.int i), .p (.int j)]) : xs = [.int i, .int j] := by
  cases r with
  | cons ra rb =>
    cases ra
    cases rb with
    | cons ra rb =>
      cases ra
      cases rb
      rfl
def gMax2 : List D → Sto → Res D := fun ds S => match ds with
  | [.p (.int i), .p (.int j)] => .ok (.p (.int (if j > i then j else i))) S
  | _ => .bad
def gMin2 : List D → Sto → Res D := fun ds S => match ds with
  | [.p (.int i), .p (.int j)] => .ok (.p (.int (if j < i then j else i))) S
  | _ => .bad
theorem bc_max2 : BCall c (fun xs H Q => ∃ i j, xs = [.int i, .int j] ∧ Q (.int (if j > i then j else i)) H) gMax2 := fun G F io H S σ xs ds Q gd r q => by
  obtain ⟨i, j, rfl, q⟩ := two_i (Aft c G F io σ (rp c) Q) q aft_bad
  exact ⟨i, j, rpa2 r, hereP q gd (Dq.int _)⟩
theorem bc_min2 : BCall c (fun xs H Q => ∃ i j, xs = [.int i, .int j] ∧ Q (.int (if j < i then j else i)) H) gMin2 := fun G F io H S σ xs ds Q gd r q => by
  obtain ⟨i, j, rfl, q⟩ := two_i (Aft c G F io σ (rp c) Q) q aft_bad
  exact ⟨i, j, rpa2 r, hereP q gd (Dq.int _)⟩
def gInt : List D → Sto → Res D := fun ds S => match ds with
  | [.p (.int i)] => .ok (.p (.int i)) S
  | [.p (.bool b)] => .ok (.p (.int (if b then 1 else 0))) S
  | _ => .bad
theorem bc_int : BCall c (fun xs H Q => (∃ i, xs = [.int i] ∧ Q (.int i) H) ∨ ∃ k, xs = [.bl k] ∧ Q (.int (if k then 1 else 0)) H) gInt := fun G F io H S σ xs ds Q gd r q => by
  unfold gInt at q
  split at q
  · cases r with
    | cons ra rb =>
      cases ra
      cases rb
      exact .inl ⟨_, rfl, hereP q gd (Dq.int _)⟩
  · cases r with
    | cons ra rb =>
      cases ra
      cases rb
      exact .inr ⟨_, rfl, hereP q gd (Dq.int _)⟩
  · exact q.elim
def boolsOf : List PyData → Option (List Bool)
  | [] => some []
  | .bool b :: r => (boolsOf r).map (b :: ·)
  | _ :: _ => none
theorem bools_ok {F : Hp} : ∀ {ds : List PyData} {vs : List V} {bs : List Bool}, boolsOf ds = some bs → DqA c.K F vs ds → vs = bs.map V.bl
  | [], _, bs, h, r => by
    cases r
    have h : [] = bs := Option.some.inj h
    subst h
    rfl
  | .bool b :: ds, _, bs, h, r => by
    cases r with
    | cons r1 r2 =>
      have h : (boolsOf ds).map (b :: ·) = some bs := h
      cases e : boolsOf ds with
      | none => rw [e] at h; cases h
      | some bs' =>
        rw [e] at h
        have h : b :: bs' = bs := Option.some.inj h
        subst h
        cases r1
        rw [List.map_cons, bools_ok e r2]
  | .none :: _, _, _, h, _ => by cases h
  | .int _ :: _, _, _, h, _ => by cases h
  | .str _ :: _, _, _, h, _ => by cases h
  | .list _ :: _, _, _, h, _ => by cases h
  | .tuple _ :: _, _, _, h, _ => by cases h
  | .dict _ :: _, _, _, h, _ => by cases h
def gAll : List D → Sto → Res D := fun ds S => match ds with
  | [.p (.list xs)] => match boolsOf xs with
    | some bs => .ok (.p (.bool (bs.all id))) S
    | none => .bad
  | _ => .bad
def gAny : List D → Sto → Res D := fun ds S => match ds with
  | [.p (.list xs)] => match boolsOf xs with
    | some bs => .ok (.p (.bool (bs.any id))) S
    | none => .bad
  | _ => .bad
theorem bc_all : BCall c (rAll c.K) gAll := fun G F io H S σ xs ds Q gd r q => by
  unfold gAll at q
  split at q
  · cases r with
    | cons ra rb =>
      cases rb
      cases ra with
      | @lst a vs _ hx ha =>
        split at q
        · rename_i bs hb
          refine ⟨a, bs, rfl, ?_, hereP q gd (Dq.bl _)⟩
          rw [← bools_ok hb ha]
          exact SqL.of (gd.ex _ _ hx)
        · exact q.elim
  · exact q.elim
theorem bc_any : BCall c (rAny c.K) gAny := fun G F io H S σ xs ds Q gd r q => by
  unfold gAny at q
  split at q
  · cases r with
    | cons ra rb =>
      cases rb
      cases ra with
      | @lst a vs _ hx ha =>
        split at q
        · rename_i bs hb
          refine ⟨a, bs, rfl, ?_, hereP q gd (Dq.bl _)⟩
          rw [← bools_ok hb ha]
          exact SqL.of (gd.ex _ _ hx)
        · exact q.elim
  · exact q.elim
/-! isinstance -/
inductive Ty where
  | int | bool | tuple | list | str | dict
def Ty.nm : Ty → String
  | .int => "int"
  | .bool => "bool"
  | .tuple => "tuple"
  | .list => "list"
  | .str => "str"
  | .dict => "dict"
def isT : Ty → PyData → Bool
  | .int, .int _ => true
  | .int, .bool _ => true
  | .bool, .bool _ => true
  | .tuple, .tuple _ => true
  | .list, .list _ => true
  | .str, .str _ => true
  | _, _ => false
def tyN : PyData → String
  | .none => "NoneType"
  | .bool _ => "bool"
  | .int _ => "int"
  | .str _ => "str"
  | .list _ => "list"
  | .tuple _ => "tuple"
  | .dict _ => "dict"
theorem tyx_of {K : PySem.W.Frag} {F H : Hp} (e : Same F H) {v : V} {d : PyData} (h : Dq K F v d) : TyX K H v (.type (tyN d)) := by
  cases h with
  | non => exact .base .non
  | bl b => exact .base (.bl b)
  | int i => exact .base (.int i)
  | str x => exact .base (.str x)
  | lst hx ha => exact .base (.lst (e _ _ hx))
  | tup hx ha =>
    rcases hx with (hx | ⟨o, hx⟩) | ⟨o, its, n, h1, h2, _⟩
    · exact .base (.tup (e _ _ hx))
    · exact .fTuple (e _ _ hx)
    · exact .kTuple h1 h2
def isK : Ty → String → Bool
  | .int, "int" => true
  | .int, "bool" => true
  | .bool, "bool" => true
  | .tuple, "tuple" => true
  | .list, "list" => true
  | .str, "str" => true
  | _, _ => false
theorem isK_of (t : Ty) (d : PyData) (hd : ∀ x, d ≠ .dict x) : isK t (tyN d) = isT t d := by
  cases d with
  | dict x => exact absurd rfl (hd x)
  | _ => cases t <;> rfl
theorem kit_nm : ∀ n ∈ ["NoneType", "bool", "int", "str", "list", "tuple"], ∀ t : Ty, kitB n t.nm = some (isK t n) := by
  intro n hn t
  simp only [List.mem_cons, List.not_mem_nil, or_false] at hn
  rcases hn with rfl | rfl | rfl | rfl | rfl | rfl <;> cases t <;> decide +kernel
theorem kit_isT (t : Ty) (d : PyData) (hd : ∀ x, d ≠ .dict x) : kitB (tyN d) t.nm = some (isT t d) := by
  rw [← isK_of t d hd]
  refine kit_nm _ ?_ t
  cases d with
  | dict x => exact absurd rfl (hd x)
  | _ => simp [tyN]
end
end Tw
namespace Tw
open PySem PySem.Spec PyProof.Rows L2

/-! ### list comprehensions -/
def Res.noX {α : Type} : Res α → Res α
  | .exc _ _ _ => .bad
  | r => r
def wipeE (ρ : Env) : List Nat → Env
  | [] => ρ
  | v :: vs => (wipeE ρ vs).set v none
theorem renv_wipe {c : Cw} {F : Hp} {io : List Addr} {σ : L2.St} {ρ : Env} (h : REnv c F io σ ρ) : ∀ vs : List Nat, REnv c F io (wipe σ vs) (wipeE ρ vs)
  | [] => h
  | v :: vs => renv_none (renv_wipe h vs) v
def compL (g : FG) (ft fe : FE) (ρw : Env) : List D → Sto → Res (List D)
  | [], S => .ok [] S
  | d :: ds, S => match g d ρw with
    | none => .bad
    | some ρ1 => (ft ρ1 S).noX.asB.bind fun k S1 => if k = true then (fe ρ1 S1).noX.bind fun x S2 => (compL g ft fe ρw ds S2).bind fun xs S3 => .ok (x :: xs) S3 else compL g ft fe ρw ds S1
def fYes : FE := fun _ S => .ok (.p (.bool true)) S
def compEnd (xs : List D) (S : Sto) : Res D := match asPs xs with
  | some ps => .ok (.p (.list ps)) S
  | none => .bad
def fComp (vs : List Nat) (fi : FI) (g : FG) (ft fe : FE) : FE := fun ρ S => (fi ρ S).bind fun ds S1 => if ds.length < lim then (compL g ft fe (wipeE ρ vs) ds S1).bind compEnd else .bad
theorem Good.hold {K : PySem.W.Frag} {G F : Hp} {io : List Addr} {H : Hp} {S : Sto} {p : Addr} {o : HO} (g : Good K G F io H S) (h : H p = none) : Good K (upd G p o) F io (upd H p o) S := by
  have hf := g.out h
  have hne : ∀ {a : Addr}, a ∈ io → a ≠ p := fun ha => by
    obtain ⟨u, hu⟩ := g.mem ha
    exact ne_of_none hu h
  refine ⟨fun b u q => ?_, upd_both g.gx, fun a u q => ?_, g.nd, g.len, fun k a o' h1 h2 => ?_⟩
  · rw [upd_ne (ne_of_none q hf)]
    exact g.ex _ _ q
  · by_cases ha : a = p
    · subst ha
      exact ⟨hf, fun hm => hne hm rfl⟩
    · rw [upd_ne ha] at q
      exact g.gf a u q
  · have ha := hne (List.mem_of_getElem? h1)
    exact oat_step (Ext.refl F io) (fun z => z) (fun _ => upd_ne ha) (g.ob k a o' h1 h2)
theorem Good.rehold {K : PySem.W.Frag} {G F : Hp} {io : List Addr} {H : Hp} {S : Sto} {p : Addr} {o u : HO} (g : Good K (upd G p o) F io H S) : Good K (upd G p u) F io (upd H p u) S := by
  obtain ⟨hf, hio⟩ := g.gf p o upd_same
  refine ⟨fun b u q => ?_, fun b v q => ?_, fun a v q => ?_, g.nd, g.len, fun k a o' h1 h2 => ?_⟩
  · rw [upd_ne (ne_of_none q hf)]
    exact g.ex _ _ q
  · by_cases hb : b = p
    · subst hb
      rw [upd_same] at q ⊢
      exact q
    · rw [upd_ne hb] at q ⊢
      exact g.gx _ _ (by rw [upd_ne hb]; exact q)
  · by_cases ha : a = p
    · subst ha
      exact ⟨hf, hio⟩
    · rw [upd_ne ha] at q
      exact g.gf a v (by rw [upd_ne ha]; exact q)
  · have ha : a ≠ p := fun z => hio (z ▸ List.mem_of_getElem? h1)
    exact oat_step (Ext.refl F io) (fun z => z) (fun _ => upd_ne ha) (g.ob k a o' h1 h2)
theorem Good.unhold {K : PySem.W.Frag} {G F : Hp} {io : List Addr} {H : Hp} {S : Sto} {p : Addr} {o : HO} (g : Good K (upd G p o) F io H S) (hG : G p = none) : Good K G (upd F p o) io H S ∧ Ext F io (upd F p o) io := by
  obtain ⟨hf, hio⟩ := g.gf p o upd_same
  have e : Ext F io (upd F p o) io := ⟨upd_one hf, [], by simp⟩
  refine ⟨⟨fun b u q => ?_, fun b v q => g.gx _ _ (by rw [upd_ne (ne_of_none q hG)]; exact q), fun a v q => ?_, g.nd, g.len, fun k a o' h1 h2 => ?_⟩, e⟩
  · by_cases hb : b = p
    · subst hb
      rw [upd_same] at q
      have hq : o = u := Option.some.inj q
      subst hq
      exact g.gx _ _ upd_same
    · rw [upd_ne hb] at q
      exact g.ex _ _ q
  · have ha := ne_of_none q hG
    obtain ⟨h1, h2⟩ := g.gf a v (by rw [upd_ne ha]; exact q)
    exact ⟨by rw [upd_ne ha]; exact h1, h2⟩
  · have ha : a ≠ p := fun z => hio (z ▸ List.mem_of_getElem? h1)
    exact oat_step e (fun z => by rw [upd_ne ha]; exact z) (fun _ => rfl) (g.ob k a o' h1 h2)
abbrev Cw.dry (c : Cw) : Cw := ⟨c.K, c.U, fun _ _ _ _ => False⟩
section
variable {c : Cw}
theorem renv_dry {F : Hp} {io : List Addr} {σ : L2.St} {ρ : Env} (h : REnv c F io σ ρ) : REnv c.dry F io σ ρ := ⟨h.1, fun i d q => by
  obtain ⟨v, h1, h2⟩ := h.2 i d q
  exact ⟨v, h1, by cases d <;> exact h2⟩⟩
/-- what follows r, from what follows r without errors -/
theorem Aft.dry {α β γ δ : Type} {G F : Hp} {io : List Addr} {σ τ : L2.St} {R : Hp → List Addr → β → α → Prop} {Q : β → Hp → Prop} {R1 : Hp → List Addr → δ → γ → Prop} {Q1 : δ → Hp → Prop} {r : Res γ} {k : γ → Sto → Res α}
    (h : Aft c G F io σ R Q (r.noX.bind k)) (go : ∀ d S1 v F1 io1 H1, Ext F io F1 io1 → Good c.K G F1 io1 H1 S1 → R1 F1 io1 v d → Aft c G F1 io1 σ R Q (k d S1) → Q1 v H1) {G2 : Hp}
    (gg : ∀ F1 io1 H1 S1, Good c.K G2 F1 io1 H1 S1 → Good c.K G F1 io1 H1 S1) : Aft c.dry G2 F io τ R1 Q1 r := by
  cases r with
  | ok d S1 => exact fun v F1 io1 H1 e g r => go d S1 v F1 io1 H1 e (gg _ _ _ _ g) r (Aft.ext (r := k d S1) h e)
  | exc n as S => exact h.elim
  | bad => exact h.elim
end
theorem Good.drop {K : PySem.W.Frag} {G F : Hp} {io : List Addr} {H : Hp} {S : Sto} {p : Addr} {o : HO} (g : Good K (upd G p o) F io H S) (hG : G p = none) : Good K G F io H S :=
  ⟨g.ex, fun b v q => g.gx _ _ (by rw [upd_ne (ne_of_none q hG)]; exact q), fun a v q => g.gf a v (by rw [upd_ne (ne_of_none q hG)]; exact q), g.nd, g.len, g.ob⟩
theorem asPs_app : ∀ {xs ys : List D}, asPs (xs ++ ys) = (asPs xs).bind fun a => (asPs ys).map (a ++ ·)
  | [], ys => by cases h : asPs ys <;> simp [asPs, h]
  | .p d :: xs, ys => by
    show (asPs (xs ++ ys)).map (d :: ·) = ((asPs xs).map (d :: ·)).bind fun a => (asPs ys).map (a ++ ·)
    rw [asPs_app]
    cases asPs xs with
    | none => rfl
    | some a => cases asPs ys <;> rfl
  | .own _ :: _, _ => rfl
  | .wld _ _ :: _, _ => rfl
  | .exn :: _, _ => rfl
  | .scr _ :: _, _ => rfl
theorem paired_app {α β : Type} {R : α → β → Prop} : ∀ {xs : List α} {ys : List β} {as : List α} {bs : List β}, Paired R xs ys → Paired R as bs → Paired R (xs ++ as) (ys ++ bs)
  | _, _, _, _, .nil, h => h
  | _, _, _, _, .cons r t, h => .cons r (paired_app t h)
section
variable {X : Cx} {c : Cw} {e elt tg iter : Expr} {vs : List Nat} {fi : FI} {g : FG} {ft fe : FE}
theorem lc_main (σ : L2.St) (H : Hp) (Q : VK) (h : tE c (fComp vs fi g ft fe) σ H Q) : tLc (tI c fi) (tG c.dry vs g) (tT c.dry ft) (tE c.dry fe) vs σ H Q := by
  obtain ⟨G, F, io, S, ρ, gd, re, q⟩ := h
  refine ⟨G, F, io, S, ρ, gd, re, Aft.step q fun ds S1 J F1 i1 H1 e1 g1 it q1 Dl hD => ?_⟩
  have q1 : Aft c G F1 i1 σ (rp c) Q (if ds.length < lim then (compL g ft fe (wipeE ρ vs) ds S1).bind compEnd else .bad) := q1
  by_cases hlim : ds.length < lim
  · rw [if_pos hlim] at q1
    have hG : G Dl = none := by
      cases hq : G Dl with
      | none => rfl
      | some o =>
        have := g1.gx _ _ hq
        rw [hD] at this
        cases this
    refine ⟨fun i m H' => m = ds.length - i ∧ i ≤ ds.length ∧ ∃ F2 io2 S2 acc vacc, Ext F1 i1 F2 io2 ∧ Good c.K (upd G Dl (.lst vacc)) F2 io2 H' S2 ∧ RpA c.K F2 io2 vacc acc ∧ acc.length ≤ i ∧
        Aft c G F2 io2 σ (rp c) Q ((compL g ft fe (wipeE ρ vs) (ds.drop i) S2).bind fun xs S3 => compEnd (acc ++ xs) S3),
      ⟨_, rfl, Nat.zero_le _, F1, i1, S1, [], [], Ext.refl _ _, g1.hold hD, .nil, Nat.le_refl _, q1⟩, ?_⟩
    rintro i m H' ⟨rfl, hi, F2, io2, S2, acc, vacc, e2, g2, ra, hacc, q2⟩
    by_cases hlt : i < ds.length
    · obtain ⟨hgo, hy⟩ := it.go i _ H' F2 io2 S2 hlt e2 g2
      refine .inr ⟨hgo, _, fun H3 n => ⟨ds.length - (i + 1), by omega, n⟩, fun x H3 y => ?_⟩
      obtain ⟨F3, e3, g3, d, hd, rd⟩ := hy x H3 y
      have hdr : ds.drop i = d :: ds.drop (i + 1) := by
        rw [List.drop_eq_getElem_cons hlt]
        rw [List.getElem?_eq_getElem hlt] at hd
        rw [Option.some.inj hd]
      rw [hdr] at q2
      have q2 : Aft c G F2 io2 σ (rp c) Q ((match g d (wipeE ρ vs) with
        | none => .bad
        | some ρ1 => (ft ρ1 S2).noX.asB.bind fun k S1 => if k = true then (fe ρ1 S1).noX.bind fun x S2 => (compL g ft fe (wipeE ρ vs) (ds.drop (i + 1)) S2).bind fun xs S3 => .ok (x :: xs) S3 else compL g ft fe (wipeE ρ vs) (ds.drop (i + 1)) S1 : Res (List D)).bind fun xs S3 => compEnd (acc ++ xs) S3) := q2
      cases hg : g d (wipeE ρ vs) with
      | none => rw [hg] at q2; exact q2.elim
      | some ρ1 =>
        rw [hg] at q2
        have q2 := Aft.ext q2 e3
        have re3 := renv_wipe (renv_mono e3 (renv_mono e2 (renv_mono e1 re))) vs
        refine ⟨_, F3, io2, S2, d, _, ρ1, g3, rd, renv_dry re3, hg, fun σ4 re4 w4 => ⟨w4.trans (wipe_idem vs), _, F3, io2, S2, ρ1, g3, re4, ?_⟩⟩
        have key : ∀ {r : Res D} {k : Bool → Sto → Res (List D)}, Aft c G F3 io2 σ (rp c) Q ((r.noX.asB.bind k).bind fun xs S3 => compEnd (acc ++ xs) S3) → ∀ {Q1 : Bool → Hp → Prop},
            (∀ b S5 F5 io5 H5, Ext F3 io2 F5 io5 → Good c.K (upd G Dl (.lst vacc)) F5 io5 H5 S5 → Aft c G F5 io5 σ (rp c) Q ((k b S5).bind fun xs S3 => compEnd (acc ++ xs) S3) → Q1 b H5) → Aft c.dry (upd G Dl (.lst vacc)) F3 io2 σ4 rpB Q1 r.asB := fun {r k} q {Q1} go => by
          cases r with
          | ok d5 S5 =>
            cases d5 with
            | p d6 =>
              cases d6 with
              | bool b =>
                intro b' F5 io5 H5 e5 g5 r5
                have r5 : b' = b := r5
                subst r5
                exact go b' S5 F5 io5 H5 e5 g5 (Aft.ext (r := (k b' S5).bind fun xs S3 => compEnd (acc ++ xs) S3) q e5)
              | _ => exact q.elim
            | _ => exact q.elim
          | exc n as S5 => exact q.elim
          | bad => exact q.elim
        refine key q2 fun b S5 F5 io5 H5 e5 g5 q5 => ?_
        cases b with
        | false =>
          have q5 : Aft c G F5 io5 σ (rp c) Q ((compL g ft fe (wipeE ρ vs) (ds.drop (i + 1)) S5).bind fun xs S3 => compEnd (acc ++ xs) S3) := q5
          exact ⟨rfl, hlt, F5, io5, S5, acc, vacc, (e2.trans e3).trans e5, g5, rpa_mono (e3.trans e5) ra, Nat.le_succ_of_le hacc, q5⟩
        | true =>
          have q5 : Aft c G F5 io5 σ (rp c) Q (((fe ρ1 S5).noX.bind fun x S2 => (compL g ft fe (wipeE ρ vs) (ds.drop (i + 1)) S2).bind fun xs S3 => .ok (x :: xs) S3).bind fun xs S3 => compEnd (acc ++ xs) S3) := q5
          refine ⟨_, F5, io5, S5, ρ1, g5, renv_mono e5 re4, ?_⟩
          cases hr : fe ρ1 S5 with
          | exc n as S6 => rw [hr] at q5; exact q5.elim
          | bad => rw [hr] at q5; exact q5.elim
          | ok y S6 =>
            rw [hr] at q5
            intro v F6 io6 H6 e6 g6 r6
            have q6 : Aft c G F5 io5 σ (rp c) Q (((compL g ft fe (wipeE ρ vs) (ds.drop (i + 1)) S6).bind fun xs S3 => .ok (y :: xs) S3).bind fun xs S3 => compEnd (acc ++ xs) S3) := q5
            have q6 := Aft.ext q6 e6
            refine ⟨vacc, g6.gx _ _ upd_same, ?_, rfl, hlt, F6, io6, S6, acc ++ [y], vacc ++ [v], ((e2.trans e3).trans e5).trans e6, g6.rehold, paired_app (rpa_mono ((e3.trans e5).trans e6) ra) (.cons r6 .nil), by simp; omega, ?_⟩
            · rw [paired_len ra]
              exact Nat.lt_of_lt_of_le (Nat.lt_of_le_of_lt hacc (Nat.lt_trans hlt hlim)) lim_line
            · have same : (((compL g ft fe (wipeE ρ vs) (ds.drop (i + 1)) S6).bind fun xs S3 => .ok (y :: xs) S3).bind fun xs S3 => compEnd (acc ++ xs) S3) = ((compL g ft fe (wipeE ρ vs) (ds.drop (i + 1)) S6).bind fun xs S3 => compEnd (acc ++ [y] ++ xs) S3) := by
                cases compL g ft fe (wipeE ρ vs) (ds.drop (i + 1)) S6 with
                | ok xs S7 =>
                  show compEnd (acc ++ y :: xs) S7 = compEnd (acc ++ [y] ++ xs) S7
                  rw [List.append_assoc]
                  rfl
                | exc n as S7 => rfl
                | bad => rfl
              rw [same] at q6
              exact q6
    · have e0 : i = ds.length := by omega
      subst e0
      rw [List.drop_length] at q2
      refine .inl ⟨it.stop _ _ H' F2 io2 S2 (Nat.le_refl _) e2 g2, ?_⟩
      have q2 : Aft c G F2 io2 σ (rp c) Q (compEnd (acc ++ []) S2) := q2
      rw [List.append_nil] at q2
      unfold compEnd at q2
      cases ha : asPs acc with
      | none => rw [ha] at q2; exact q2.elim
      | some ps =>
        rw [ha] at q2
        obtain ⟨g4, e4⟩ := g2.unhold hG
        exact q2 (.ref Dl) _ _ _ e4 g4 (.lst upd_same (dpa_mono e4.same _ _ (asPs_ok ha ra)))
  · rw [if_neg hlim] at q1
    exact q1.elim
where
  wipe_idem {σ : L2.St} (vs : List Nat) : wipe (wipe σ vs) vs = wipe σ vs := by
    have off : ∀ {σ : L2.St} {i : Nat} {ws : List Nat}, i ∈ ws → (wipe σ ws).set i none = wipe σ ws := fun {σ i ws} => by
      induction ws with
      | nil => intro h; cases h
      | cons w ws ih =>
        intro h
        show ((wipe σ ws).set w none).set i none = (wipe σ ws).set w none
        by_cases hw : i = w
        · subst hw
          rw [List.set_set]
        · rw [List.set_comm _ _ (Ne.symm hw), ih ((List.mem_cons.mp h).resolve_left hw)]
    have sub : ∀ (us : List Nat), (∀ u ∈ us, u ∈ vs) → wipe (wipe σ vs) us = wipe σ vs := by
      intro us
      induction us with
      | nil => intro _; rfl
      | cons u us ih =>
        intro h
        show (wipe (wipe σ vs) us).set u none = wipe σ vs
        rw [ih fun x hx => h x (List.mem_cons_of_mem _ hx), off (h u List.mem_cons_self)]
    exact sub vs fun _ h => h
theorem fe_comp (h : ∀ {wi : TI} {tg' : TG} {tt : TT} {te : TE}, PI X tg iter wi → (∀ (s : Shared) (H : Hp) (C : Addr) (cl : List (Str × Addr)) (fp : List Addr), PG (X.blk s H scope (compEnvC scope cl C X.env) fp) tg tg') →
    (∀ (s : Shared) (H : Hp) (C : Addr) (cl : List (Str × Addr)) (fp : List Addr), PTs (X.blk s H scope (compEnvC scope cl C X.env) fp) ifs tt) → (∀ (s : Shared) (H : Hp) (C : Addr) (cl : List (Str × Addr)) (fp : List Addr), PE (X.blk s H scope (compEnvC scope cl C X.env) fp) elt te) →
    PE X e (tLc wi tg' tt te vs)) (hi : PI X tg iter (tI c fi)) (hg : ∀ (s : Shared) (H : Hp) (C : Addr) (cl : List (Str × Addr)) (fp : List Addr), PG (X.blk s H scope (compEnvC scope cl C X.env) fp) tg (tG c.dry vs g))
    (ht : ∀ (s : Shared) (H : Hp) (C : Addr) (cl : List (Str × Addr)) (fp : List Addr), PTs (X.blk s H scope (compEnvC scope cl C X.env) fp) ifs (tT c.dry ft)) (he : ∀ (s : Shared) (H : Hp) (C : Addr) (cl : List (Str × Addr)) (fp : List Addr), PE (X.blk s H scope (compEnvC scope cl C X.env) fp) elt (tE c.dry fe)) :
    PE X e (tE c (fComp vs fi g ft fe)) := pe_imp (h hi hg ht he) lc_main
theorem fs_comp {i : Nat} {st : Stmt} (h : ∀ {wi : TI} {tg' : TG} {tt : TT} {te : TE}, PI X tg iter wi → (∀ (s : Shared) (H : Hp) (C : Addr) (cl : List (Str × Addr)) (fp : List Addr), PG (X.blk s H scope (compEnvC scope cl C X.env) fp) tg tg') →
    (∀ (s : Shared) (H : Hp) (C : Addr) (cl : List (Str × Addr)) (fp : List Addr), PTs (X.blk s H scope (compEnvC scope cl C X.env) fp) ifs tt) → (∀ (s : Shared) (H : Hp) (C : Addr) (cl : List (Str × Addr)) (fp : List Addr), PE (X.blk s H scope (compEnvC scope cl C X.env) fp) elt te) →
    PS X st (tAsg (tLc wi tg' tt te vs) (gName i))) (hi : PI X tg iter (tI c fi)) (hg : ∀ (s : Shared) (H : Hp) (C : Addr) (cl : List (Str × Addr)) (fp : List Addr), PG (X.blk s H scope (compEnvC scope cl C X.env) fp) tg (tG c.dry vs g))
    (ht : ∀ (s : Shared) (H : Hp) (C : Addr) (cl : List (Str × Addr)) (fp : List Addr), PTs (X.blk s H scope (compEnvC scope cl C X.env) fp) ifs (tT c.dry ft)) (he : ∀ (s : Shared) (H : Hp) (C : Addr) (cl : List (Str × Addr)) (fp : List Addr), PE (X.blk s H scope (compEnvC scope cl C X.env) fp) elt (tE c.dry fe)) :
    PS X st (tS c (fSet i (fComp vs fi g ft fe))) := ps_imp (h hi hg ht he) fun N σ H ⟨G, F, io, S, ρ, gd, re, q⟩ =>
  lc_main σ H _ ⟨G, F, io, S, ρ, gd, re, AftS.step q re fun d S1 v F1 io1 H1 e1 g1 r1 q1 => AftS.here q1 g1 (renv_set (renv_mono e1 re) (rpe_of r1) i)⟩
theorem fts_nil : PTs X [] (tT c fYes) := ⟨fun pins s σ H Q I ⟨G, F, io, S, ρ, gd, re, q⟩ => pts_nil.run pins s σ H Q I (Aft.here (v := true) q gd rfl)⟩
theorem fts_one {f : FE} (h : PT X e (tT c f)) : PTs X [e] (tT c f) := pts_one h
end
end Tw
namespace Tw
open PySem PySem.Spec PyProof.Rows L2

section
variable {X : Cx} {c : Cw} {e : Expr} {fa fb fd : FE}
/-! ### a < b < d -/
def fChain (g g' : D → D → Sto → Res D) (fa fb fd : FE) : FE := fun ρ S => (fa ρ S).bind fun x S1 => (fb ρ S1).bind fun y S2 => (g x y S2).asB.bind fun k S3 => if k = true then (fd ρ S3).bind fun z S4 => g' y z S4 else .ok (.p (.bool false)) S3
theorem chain_main {r r' : R2} {g g' : D → D → Sto → Res D} (hr : BOp c r g) (hr' : BOp c r' g') (σ : L2.St) (H : Hp) (Q : VK) (h : tE c (fChain g g' fa fb fd) σ H Q) : tChain r r' (tE c fa) (tE c fb) (tE c fd) σ H Q := by
  obtain ⟨G, F, io, S, ρ, gd, re, q⟩ := h
  refine ⟨G, F, io, S, ρ, gd, re, Aft.step q fun d1 S1 v1 F1 i1 H1 e1 g1 r1 q1 => ⟨G, F1, i1, S1, ρ, g1, renv_mono e1 re, Aft.step q1 fun d2 S2 v2 F2 i2 H2 e2 g2 r2 q2 => ?_⟩⟩
  refine hr G F2 i2 H2 S2 σ v1 v2 d1 d2 _ g2 (rp_mono e2 r1) r2 (aft_b (Q := fun k H3 => if k = true then tE c fd σ H3 fun w' H4 => r' v2 w' H4 Q else Q (.bl false) H3) (Aft.step q2 fun k S3 k' F3 i3 H3 e3 g3 r3 q3 => ?_))
  have r3 : k' = k := r3
  subst r3
  cases k' with
  | true => exact ⟨G, F3, i3, S3, ρ, g3, renv_mono (e1.trans (e2.trans e3)) re, Aft.step q3 fun d4 S4 v4 F4 i4 H4 e4 g4 r4 q4 => hr' G F4 i4 H4 S4 σ v2 v4 d2 d4 Q g4 (rp_mono (e3.trans e4) r2) r4 q4⟩
  | false => exact hereP (v := .bl false) q3 g3 (Dq.bl false)
theorem fe_chain {r r' : R2} {g g' : D → D → Sto → Res D} {a b d : Expr} (h : ∀ {ta tb td : TE}, PE X a ta → PE X b tb → PE X d td → PE X e (tChain r r' ta tb td)) (hr : BOp c r g) (hr' : BOp c r' g') (ha : PE X a (tE c fa)) (hb : PE X b (tE c fb)) (hd : PE X d (tE c fd)) : PE X e (tE c (fChain g g' fa fb fd)) :=
  pe_imp (h ha hb hd) (chain_main hr hr')
theorem ft_chain {r r' : R2} {g g' : D → D → Sto → Res D} {a b d : Expr} (h : ∀ {ta tb td : TE}, PE X a ta → PE X b tb → PE X d td → PT X e (tTest (tChain r r' ta tb td))) (hr : BOp c r g) (hr' : BOp c r' g') (ha : PE X a (tE c fa)) (hb : PE X b (tE c fb)) (hd : PE X d (tE c fd)) : PT X e (tT c (fChain g g' fa fb fd)) :=
  pt_imp (h ha hb hd) fun σ H Q ⟨G, F, io, S, ρ, gd, re, q⟩ => chain_main hr hr' σ H _ ⟨G, F, io, S, ρ, gd, re, aft_b q⟩
/-! ### isinstance(x, T) -/
def fIsi (t : Ty) (fa : FE) : FE := fun ρ S => (fa ρ S).bind fun d S1 => match d with
  | .p d => .ok (.p (.bool (isT t d))) S1
  | .wld _ _ => .bad
  | _ => .bad
theorem dq_nodict {K : PySem.W.Frag} {F : Hp} {v : V} {d : PyData} (h : Dq K F v d) : ∀ x, d ≠ .dict x := fun x z => by
  subst z
  cases h
theorem fe_isi {t : Ty} {a : Expr} (h : ∀ {ta : TE}, PE X a ta → PE X e (tCB (rIsi c.K) (tCons ta (tCons (tC (.ty t.nm)) tNil)))) (ha : PE X a (tE c fa)) : PE X e (tE c (fIsi t fa)) :=
  pe_imp (h ha) fun σ H Q ⟨G, F, io, S, ρ, gd, re, q⟩ => ⟨G, F, io, S, ρ, gd, re, Aft.step q fun d1 S1 v1 F1 i1 H1 e1 g1 r1 q1 => by
    cases d1 with
    | p d => exact ⟨v1, _, _, _, _, rfl, .ty _, tyx_of g1.ex r1, kit_ty (kit_isT t d (dq_nodict r1)), hereP q1 g1 (Dq.bl _)⟩
    | _ => exact q1.elim⟩
/-! ### lists that change -/
def fApp (fo fa : FE) : FE := fun ρ S => (fo ρ S).bind fun o S1 => match o with
  | .own k => match S1[k]? with
    | some (.lst _) => (fa ρ S1).bind fun d S2 => match S2[k]? with
      | some (.lst xs) => if xs.length < lim then .ok (.p .none) (S2.set k (.lst (xs ++ [d]))) else .bad
      | _ => .bad
    | _ => .bad
  | _ => .bad
theorem fe_app {fo : FE} {o a : Expr} (h : ∀ {to ta : TE}, PE X o to → PE X a ta → PE X e (tBM c.K "list" rAppend to (tCons ta tNil))) (ho : PE X o (tE c fo)) (ha : PE X a (tE c fa)) : PE X e (tE c (fApp fo fa)) :=
  pe_imp (h ho ha) fun σ H Q ⟨G, F, io, S, ρ, gd, re, q⟩ => ⟨G, F, io, S, ρ, gd, re, Aft.step q fun o S1 v1 F1 i1 H1 e1 g1 r1 q1 => by
    cases o with
    | own k =>
      have q1 : Aft c G F1 i1 σ (rp c) Q (match S1[k]? with
        | some (.lst _) => (fa ρ S1).bind fun d S2 => match S2[k]? with
          | some (.lst xs) => if xs.length < lim then .ok (.p .none) (S2.set k (.lst (xs ++ [d]))) else .bad
          | _ => .bad
        | _ => .bad) := q1
      cases hk : S1[k]? with
      | none => rw [hk] at q1; exact q1.elim
      | some ob =>
        rw [hk] at q1
        cases ob with
        | lst xs0 =>
          obtain ⟨a0, ea, eo⟩ := r1
          obtain ⟨a', e3, h0, vs, h1, h2⟩ := g1.at_ hk
          rw [eo] at e3
          have e3 : a0 = a' := Option.some.inj e3
          subst e3
          subst ea
          refine ⟨.inl ⟨rfl, vs, SqL.of h1⟩, G, F1, i1, S1, ρ, g1, renv_mono e1 re, Aft.step q1 fun d S2 v2 F2 i2 H2 e2 g2 r2 q2 => ?_⟩
          have q2 : Aft c G F2 i2 σ (rp c) Q (match S2[k]? with
            | some (.lst xs) => if xs.length < lim then .ok (.p .none) (S2.set k (.lst (xs ++ [d]))) else .bad
            | _ => .bad) := q2
          cases hk2 : S2[k]? with
          | none => rw [hk2] at q2; exact q2.elim
          | some ob2 =>
            rw [hk2] at q2
            cases ob2 with
            | lst xs =>
              have q2 : Aft c G F2 i2 σ (rp c) Q (if xs.length < lim then .ok (.p .none) (S2.set k (.lst (xs ++ [d]))) else .bad) := q2
              by_cases hl : xs.length < lim
              · rw [if_pos hl] at q2
                obtain ⟨a', e3, h0', vs', h1', h2'⟩ := g2.at_ hk2
                rw [e2.ix eo] at e3
                have e3 : a0 = a' := Option.some.inj e3
                subst e3
                refine ⟨a0, vs', v2, rfl, rfl, h1', by rw [paired_len h2']; exact Nat.lt_of_lt_of_le hl lim_line, hereP (v := .non) q2 (g2.put (e2.ix eo) h0' ?_) Dq.non⟩
                exact ⟨h0', _, upd_same, paired_app h2' (.cons r2 .nil)⟩
              · rw [if_neg hl] at q2
                exact q2.elim
            | _ => exact q2.elim
        | _ => exact q1.elim
    | _ => exact q1.elim⟩
/-- xs[i] = v -/
def fSetIx (fv fo fi : FE) : FS := fun ρ S => (fv ρ S).thn ρ fun v S1 => (fo ρ S1).thn ρ fun o S2 => (fi ρ S2).thn ρ fun i S3 => match o, i with
  | .own k, .p (.int j) => match S3[k]? with
    | some (.lst xs) => match ixN xs.length j with
      | some m => .nx ρ (S3.set k (.lst (xs.set m v)))
      | none => .bad
    | _ => .bad
  | _, _ => .bad
theorem paired_set {α β : Type} {R : α → β → Prop} {x : α} {y : β} (r : R x y) : ∀ {xs : List α} {ys : List β} (i : Nat), Paired R xs ys → Paired R (xs.set i x) (ys.set i y)
  | _, _, _, .nil => .nil
  | _, _, 0, .cons _ t => .cons r t
  | _, _, i + 1, .cons q t => .cons q (paired_set r i t)
theorem fs_setIx {fv fo fi : FE} {st : Stmt} {ev eo ei : Expr} (h : ∀ {tv to ti : TE}, PE X ev tv → PE X eo to → PE X ei ti → PS X st (tAsg tv (gSub to ti rSetL))) (hv : PE X ev (tE c fv)) (ho : PE X eo (tE c fo)) (hi : PE X ei (tE c fi)) : PS X st (tS c (fSetIx fv fo fi)) :=
  ps_imp (h hv ho hi) fun N σ H ⟨G, F, io, S, ρ, gd, re, q⟩ => ⟨G, F, io, S, ρ, gd, re, AftS.step q re fun d1 S1 v1 F1 i1 H1 e1 g1 r1 q1 =>
    ⟨G, F1, i1, S1, ρ, g1, renv_mono e1 re, AftS.step q1 (renv_mono e1 re) fun d2 S2 v2 F2 i2 H2 e2 g2 r2 q2 =>
      ⟨G, F2, i2, S2, ρ, g2, renv_mono (e1.trans e2) re, AftS.step q2 (renv_mono (e1.trans e2) re) fun d3 S3 v3 F3 i3 H3 e3 g3 r3 q3 => by
        cases d2 with
        | own k =>
          cases d3 with
          | p a =>
            cases a with
            | int j =>
              have q3 : AftS c G F3 i3 N (match S3[k]? with
                | some (.lst xs) => match ixN xs.length j with
                  | some m => .nx ρ (S3.set k (.lst (xs.set m d1)))
                  | none => .bad
                | _ => .bad) := q3
              cases hk : S3[k]? with
              | none => rw [hk] at q3; exact q3.elim
              | some ob =>
                rw [hk] at q3
                cases ob with
                | lst xs =>
                  have q3 : AftS c G F3 i3 N (match ixN xs.length j with
                    | some m => .nx ρ (S3.set k (.lst (xs.set m d1)))
                    | none => .bad) := q3
                  cases hm : ixN xs.length j with
                  | none => rw [hm] at q3; exact q3.elim
                  | some m =>
                    rw [hm] at q3
                    obtain ⟨a0, ea, eo⟩ := r2
                    obtain ⟨a', e4, h0, vs, h1, h2⟩ := g3.at_ hk
                    rw [e3.ix eo] at e4
                    have e4 : a0 = a' := Option.some.inj e4
                    subst e4
                    subst ea
                    cases r3
                    refine ⟨a0, vs, j, m, rfl, rfl, h1, by rw [paired_len h2]; exact hm, AftS.here q3 (g3.put (e3.ix eo) h0 ?_) (renv_mono (e1.trans (e2.trans e3)) re)⟩
                    exact ⟨h0, _, upd_same, paired_set (rp_mono (e2.trans e3) r1) m h2⟩
                | _ => exact q3.elim
            | _ => exact q3.elim
          | _ => exact q3.elim
        | _ => exact q3.elim⟩⟩⟩
/-- what a list that changes holds now, as data: it never changes again -/
def fFrz (fa : FE) : FE := fun ρ S => (fa ρ S).bind fun d S1 => match d with
  | .own k => match S1[k]? with
    | some (.lst xs) => match asPs xs with
      | some ps => .ok (.p (.list ps)) (S1.set k (.fz (.p (.list ps))))
      | none => .bad
    | _ => .bad
  | _ => .bad
theorem fe_frz (h : PE X e (tE c fa)) : PE X e (tE c (fFrz fa)) := pe_imp h fun σ H Q ⟨G, F, io, S, ρ, gd, re, q⟩ => ⟨G, F, io, S, ρ, gd, re, Aft.step q fun d S1 v F1 i1 H1 e1 g1 r1 q1 => by
  cases d with
  | own k =>
    have q1 : Aft c G F1 i1 σ (rp c) Q (match S1[k]? with
      | some (.lst xs) => match asPs xs with
        | some ps => .ok (.p (.list ps)) (S1.set k (.fz (.p (.list ps))))
        | none => .bad
      | _ => .bad) := q1
    cases hk : S1[k]? with
    | none => rw [hk] at q1; exact q1.elim
    | some ob =>
      rw [hk] at q1
      cases ob with
      | lst xs =>
        have q1 : Aft c G F1 i1 σ (rp c) Q (match asPs xs with
          | some ps => .ok (.p (.list ps)) (S1.set k (.fz (.p (.list ps))))
          | none => .bad) := q1
        cases ha : asPs xs with
        | none => rw [ha] at q1; exact q1.elim
        | some ps =>
          rw [ha] at q1
          obtain ⟨a0, ea, eo⟩ := r1
          obtain ⟨a', e4, h0, vs, h1, h2⟩ := g1.at_ hk
          rw [eo] at e4
          have e4 : a0 = a' := Option.some.inj e4
          subst e4
          subst ea
          have rd : Rp c.K (upd F1 a0 (.lst vs)) i1 (.ref a0) (.p (.list ps)) := .lst upd_same (dpa_mono (upd_one h0) _ _ (asPs_ok ha h2))
          obtain ⟨g2, e2⟩ := g1.freeze eo h0 h1 rd
          exact q1 (.ref a0) _ _ _ e2 g2 rd
      | _ => exact q1.elim
  | _ => exact q1.elim⟩
/-! ### tuple(x), list(x) -/
def gTuple : List D → Sto → Res D := fun ds S => match ds with
  | [.p (.tuple xs)] => .ok (.p (.tuple xs)) S
  | [.p (.list xs)] => .ok (.p (.tuple xs)) S
  | [.own k] => match S[k]? with
    | some (.lst xs) => match asPs xs with
      | some ps => .ok (.p (.tuple ps)) S
      | none => .bad
    | _ => .bad
  | _ => .bad
theorem bc_tuple : BCall c (fun xs H Q => ∃ p ys, xs = [.ref p] ∧ ((SqL c.K H p ys ∧ ∀ l, H l = none → Q (.ref l) (upd H l (.tup ys))) ∨ (SqT c.K H p ys ∧ Q (.ref p) H))) gTuple := fun G F io H S σ xs ds Q gd r q => by
  unfold gTuple at q
  split at q
  · cases r with
    | cons ra rb =>
      cases rb
      cases ra with
      | @tup p vs _ hx ha => exact ⟨p, vs, rfl, .inr ⟨sq_t gd.ex hx, hereP q gd (.tup hx ha)⟩⟩
  · cases r with
    | cons ra rb =>
      cases rb
      cases ra with
      | @lst p vs _ hx ha => exact ⟨p, vs, rfl, .inl ⟨SqL.of (gd.ex _ _ hx), new_tup gd ha q⟩⟩
  · rename_i k
    cases r with
    | cons ra rb =>
      cases rb
      obtain ⟨a0, ea, eo⟩ := ra
      subst ea
      split at q
      · rename_i xs hk
        split at q
        · rename_i ps ha
          obtain ⟨a', e4, h0, vs, h1, h2⟩ := gd.at_ hk
          rw [eo] at e4
          have e4 : a0 = a' := Option.some.inj e4
          subst e4
          exact ⟨a0, vs, rfl, .inl ⟨SqL.of h1, new_tup gd (asPs_ok ha h2) q⟩⟩
        · exact q.elim
      · exact q.elim
  · exact q.elim
def gListO : List D → Sto → Res D := fun ds S => match ds with
  | [.scr ns] => .ok (.own S.length) (S ++ [.lst ((ns.map PyData.int).map D.p)])
  | [.p (.tuple xs)] => .ok (.own S.length) (S ++ [.lst (xs.map D.p)])
  | [.p (.list xs)] => .ok (.own S.length) (S ++ [.lst (xs.map D.p)])
  | _ => .bad
def gList : List D → Sto → Res D := fun ds S => match ds with
  | [.p (.tuple xs)] => .ok (.p (.list xs)) S
  | [.p (.list xs)] => .ok (.p (.list xs)) S
  | _ => .bad
theorem new_own {G F H : Hp} {io : List Addr} {S : Sto} {σ : L2.St} {Q : VK} {vs : List V} {ds : List PyData} (g : Good c.K G F io H S) (r : DqA c.K F vs ds) (q : Aft c G F io σ (rp c) Q (.ok (.own S.length) (S ++ [.lst (ds.map D.p)]))) : ∀ p, H p = none → Q (.ref p) (upd H p (.lst vs)) := fun p hp => by
  have e0 : Ext F io F (io ++ [p]) := ⟨Same.refl _, [p], rfl⟩
  obtain ⟨g2, e2⟩ := g.newOwn (o := .lst vs) (x := .lst (ds.map D.p)) hp ⟨g.out hp, vs, upd_same, dqa_rpa r⟩
  exact q (.ref p) _ _ _ e2 g2 ⟨p, rfl, by rw [← g.len]; exact own_last⟩
theorem bc_listO : BCall c (fun xs H Q => ∃ p ys, xs = [.ref p] ∧ (SqL c.K H p ys ∨ SqT c.K H p ys) ∧ ∀ l, H l = none → Q (.ref l) (upd H l (.lst ys))) gListO := fun G F io H S σ xs ds Q gd r q => by
  unfold gListO at q
  split at q
  · rename_i ns
    cases r with
    | cons ra rb =>
      cases rb
      obtain ⟨a0, ea, eo⟩ := ra
      subst ea
      exact ⟨a0, ns.map V.int, rfl, .inl (gd.ex.seq eo), new_own gd (dqa_ints ns) q⟩
  · cases r with
    | cons ra rb =>
      cases rb
      cases ra with
      | @tup p vs _ hx ha => exact ⟨p, vs, rfl, .inr (sq_t gd.ex hx), new_own gd ha q⟩
  · cases r with
    | cons ra rb =>
      cases rb
      cases ra with
      | @lst p vs _ hx ha => exact ⟨p, vs, rfl, .inl (SqL.of (gd.ex _ _ hx)), new_own gd ha q⟩
  · exact q.elim
theorem bc_list : BCall c (fun xs H Q => ∃ p ys, xs = [.ref p] ∧ (SqL c.K H p ys ∨ SqT c.K H p ys) ∧ ∀ l, H l = none → Q (.ref l) (upd H l (.lst ys))) gList := fun G F io H S σ xs ds Q gd r q => by
  unfold gList at q
  split at q
  · cases r with
    | cons ra rb =>
      cases rb
      cases ra with
      | @tup p vs _ hx ha => exact ⟨p, vs, rfl, .inr (sq_t gd.ex hx), new_lst gd ha q⟩
  · cases r with
    | cons ra rb =>
      cases rb
      cases ra with
      | @lst p vs _ hx ha => exact ⟨p, vs, rfl, .inl (SqL.of (gd.ex _ _ hx)), new_lst gd ha q⟩
  · exact q.elim
/-! ### KINDS.index(kind) -/
def fKix (fa : FE) : FE := fun ρ S => (fa ρ S).bind fun d S1 => match d with
  | .p (.str z) => if z = ("a" : Str) then .ok (.p (.int 0)) S1 else if z = ("b" : Str) then .ok (.p (.int 1)) S1 else .bad
  | _ => .bad
theorem fe_kix {a : Expr} {A0 : Addr} (hk : ∃ o, c.K.lookup A0 = some o ∧ o.cls = .type "tuple" ∧ o.dict = none) (hs : ∀ H, SqT c.K H A0 [.str ("a" : Str), .str ("b" : Str)])
    (h : ∀ {ta : TE}, PE X a ta → PE X e (tBM c.K "tuple" (fun x xs H Q => ∃ p, ∃ ys : List Str, ∃ z j, x = .ref p ∧ xs = [.str z] ∧ SqT c.K H p (ys.map V.str) ∧ ys[j]? = some z ∧ (∀ m, m < j → ys[m]? ≠ some z) ∧ Q (.int (j : Nat)) H) (tC (.ref A0)) (tCons ta tNil))) (ha : PE X a (tE c fa)) : PE X e (tE c (fKix fa)) :=
  pe_imp (h ha) fun σ H Q ⟨G, F, io, S, ρ, gd, re, q⟩ => ⟨.inr (.inl ⟨rfl, hk⟩), G, F, io, S, ρ, gd, re, Aft.step q fun d S1 v F1 i1 H1 e1 g1 r1 q1 => by
    cases d with
    | p b =>
      cases b with
      | str z =>
        cases r1
        have q1 : Aft c G F1 i1 σ (rp c) Q (if z = ("a" : Str) then .ok (.p (.int 0)) S1 else if z = ("b" : Str) then .ok (.p (.int 1)) S1 else .bad) := q1
        by_cases h1 : z = ("a" : Str)
        · rw [if_pos h1] at q1
          exact ⟨A0, [("a" : Str), ("b" : Str)], z, 0, rfl, rfl, hs H1, by rw [h1]; rfl, fun m hm => absurd hm (Nat.not_lt_zero m), hereP q1 g1 (Dq.int 0)⟩
        · rw [if_neg h1] at q1
          by_cases h2 : z = ("b" : Str)
          · rw [if_pos h2] at q1
            refine ⟨A0, [("a" : Str), ("b" : Str)], z, 1, rfl, rfl, hs H1, by rw [h2]; rfl, fun m hm => ?_, hereP q1 g1 (Dq.int 1)⟩
            have : m = 0 := by omega
            subst this
            exact fun w => h1 (Option.some.inj w).symm
          · rw [if_neg h2] at q1
            exact q1.elim
      | _ => exact q1.elim
    | _ => exact q1.elim⟩
/-! ### raise -/
def fRaise0 (n : Str) : FS := fun ρ S => .exc n [] ρ S
theorem fs_raise0 {n : Str} {st : Stmt} (h : PS X st (fun _ σ H => c.W (.ref (He.ga c.K n)) none σ H)) : PS X st (tS c (fRaise0 n)) := ps_imp h fun N σ H ⟨G, F, io, S, ρ, gd, re, q⟩ =>
  q _ _ σ F io H (Ext.refl _ _) gd re ⟨rfl, .inl ⟨rfl, rfl⟩⟩
theorem mk_bare {C : Addr} {bmB : List Value} {B newId initId : String} {x : Str} {p pos : Pos} (B0 : ExcBaseFacts B newId initId bmB) (q : PySem.W.excIn X.K C bmB newId = true) (gC : X.mg x = some (.ref C))
    (kC : PySem.W.keepIn X.K (.ref C) = true) (r : Raises X (.ref C)) (hg : Gl X x) (hdb : (x == ("__debug__" : Str)) = false := by decide) : PMk X (.Call (.Name x p) [] [] pos) (fun _ H Q => Q (.ref C) none H) := fun pins s σ H Q I h => by
  refine wpAny_Call_Name_kw (ld_glob I hg gC ?_ hdb)
  refine PySem.W.callWith_K0 I.kIn kC ?_
  show wpAny _ _ (call (.ref C) []) _ _ _
  obtain ⟨bm, N0, nm, qn, bs, hdct, sn, sub, ab, col, dd, k0, k1, k2, k3, k5, mN, hC, hN, hni, T⟩ := exc_obj I.kIn q
  obtain ⟨hp, gs, dr, tk, os⟩ := s
  exact wpAny_call_exc_subT B0 T hC hN hni (fun h' e0 hm => mk_of I hm r h (I.hok.gone hm.new)) (Nat.zero_le _)
end
/-! ### no error leaves the law -/
theorem fn_calm {P : Program} {w : World} {K : PySem.W.Frag} {mg : Str → Option Value} {base : Heap} {k : Nat} {f : Addr} {fd : FuncData} {ps : List Str} {sp sp' : Sp} (Fn : FnOk P w K mg base (L2.CX P w) k f fd ps sp)
    (h : ∀ vs H Q E, sp' vs H Q E → sp vs H Q fun _ _ _ => False) : FnOk P w K mg base CX0 k f fd ps sp' := by
  refine ⟨fun vs H Q E q => Fn.len vs H Q _ (h vs H Q E q), fun A outer s H args us vs Q E hr e0 hb r hs => ?_⟩
  refine codeAny_mono (Fn.run A outer s H args us vs Q _ hr e0 hb r (h vs H Q E hs)) fun res s' hq => ?_
  cases res with
  | error er =>
    obtain ⟨_, _, _, _, _, _, _, _, _, _, _, _, z⟩ := (show L2.CX P w outer H s (fun _ _ _ => False) er s' from hq)
    exact z.elim
  | ok fl => cases fl <;> exact hq
end Tw
namespace Tw
open PySem PySem.Spec PyProof.Rows L2

/-! ### try with several clauses, some of them with a name -/
structure Cl where
  cv : Value
  nm : Option Nat
  ts : Addr → Value → Option Addr → TS
/-- the ends behind a suite: the name's slot is empty -/
def endsOf (N : Ends) : Option Nat → Ends
  | none => N
  | some i => ⟨fun τ K' => N.nx (τ.set i none) K', N.rt, fun τ K' => N.bk (τ.set i none) K', fun τ K' => N.ct (τ.set i none) K'⟩
def slotOf (τ : L2.St) (a : Addr) : Option Nat → L2.St
  | none => τ
  | some i => τ.set i (some (.ref a))
def wMix (K : PySem.W.Frag) (Wo : WX) (N : Ends) : List Cl → WX
  | [] => Wo
  | l :: r => fun cv dd τ K' => ∃ b, PySem.W.exmOne K cv l.cv = some b ∧ (b = true → ∀ a, K' a = none → l.ts a cv dd (endsOf N l.nm) (slotOf τ a l.nm) K') ∧ (b = false → wMix K Wo N r cv dd τ K')
inductive ClsOk (X : Cx) : List ExceptHandler → List Cl → Prop
  | nil : ClsOk X [] []
  | bare {x : Str} {cv : Value} {ts : Addr → Value → Option Addr → TS} {b0 : Stmt} {su : List Stmt} {p1 p2 : Pos} {hs : List ExceptHandler} {l : List Cl} (hn : Names X x cv)
      (hsu : ∀ (a : Addr) (ob : Obj) (cl : Value) (dd : Option Addr) (pn : List (Addr × Obj)), Zc cl dd ob → (∃ us, ob.data = .fields us) → PSs (X.suite a ((a, ob) :: pn)) (b0 :: su) (ts a cl dd)) (r : ClsOk X hs l) :
      ClsOk X (.ExceptHandler (some (.Name x p1)) none (b0 :: su) p2 :: hs) (⟨cv, none, ts⟩ :: l)
  | named {x n : Str} {i : Nat} {cv : Value} {ts : Addr → Value → Option Addr → TS} {b0 : Stmt} {su : List Stmt} {p1 p2 : Pos} {hs : List ExceptHandler} {l : List Cl} (hn : Names X x cv) (hi : X.N[i]? = some n) (hl : X.env.kindOf n = some .local)
      (hsu : ∀ (a : Addr) (ob : Obj) (cl : Value) (dd : Option Addr) (pn : List (Addr × Obj)), Zc cl dd ob → (∃ us, ob.data = .fields us) → PSs (X.suite a ((a, ob) :: pn)) (b0 :: su) (ts a cl dd)) (r : ClsOk X hs l) :
      ClsOk X (.ExceptHandler (some (.Name x p1)) (some n) (b0 :: su) p2 :: hs) (⟨cv, some i, ts⟩ :: l)
section
variable {X : Cx} {body : List Stmt} {hd : ExceptHandler} {hs : List ExceptHandler} {l : List Cl} {pos : Pos} {tb : WX → TS} {Wo : WX}
theorem ps_try_mix (st : X.stack = X.env :: X.outer) (fr : X.env.frame = some X.env.locals) (nd : X.N.Nodup) (tk : Takes X Wo)
    (hb : ∀ (W : WX) (pn : List (Addr × Obj)) (xe : Value → Shared → Prop), Takes (X.tr pn xe) W → PassesOwn (model X.prog X.w) X.A X.env xe → PSs (X.tr pn xe) body (tb W))
    (hh : ClsOk X (hd :: hs) l) : PS X (.Try body (hd :: hs) [] [] pos) (fun N τ K' => tb (wMix X.K Wo N l) N τ K') := by
  refine ⟨fun ps s0 τ K' N I0 h => ?_⟩
  have xok := I0.ok
  have frs0 : X.A.frames = some (X.env :: X.outer) := by
    rw [xok.frames]
    rw [st]
  refine wpAny_Try_except ?_
  have hbody := hb (wMix X.K Wo N l) (X.pn ++ ps)
    (fun ev z1 => wpAny (model X.prog X.w) X.A (noteFrame ev X.env) (fun _ z2 => wpAny (model X.prog X.w) X.A (setFlight ev none)
      (fun _ z3 => wpAny (model X.prog X.w) X.A (handleBy ev X.env (hd :: hs)) (SP X ps N) X.xe z3) X.xe z2) X.xe z1)
    (fun u z xx => ?_) PassesOwn.looking
  · refine wpAny_mono (hbody.run [] s0 τ K' N (I0.toTry _) h) (fun fl z1 sp => ?_) (fun _ _ he => he)
    cases fl with
    | next =>
      obtain ⟨t1, k1, j1, q⟩ := sp
      exact wpAny_execs_nil ⟨t1, k1, j1.ofTry xok, q⟩
    | brk =>
      obtain ⟨t1, k1, j1, q⟩ := sp
      exact ⟨t1, k1, j1.ofTry xok, q⟩
    | cont =>
      obtain ⟨t1, k1, j1, q⟩ := sp
      exact ⟨t1, k1, j1.ofTry xok, q⟩
    | ret u =>
      obtain ⟨v, t1, k1, j1, rv, q⟩ := sp
      exact ⟨v, t1, k1, j1.ofTry xok, rv, q⟩
  · -- an error of the body
    obtain ⟨a, B, sI, ps', t1, k1, cl, dd, rfl, j1, nb, up, sky, na, os, ag, wi⟩ := xx
    have J : Inv X ps t1 k1 sI := j1.ofTry xok
    have sky1 : Sky B (X.env :: X.outer) a (Zc cl dd) X.env.locals z.heap := by
      rw [st] at sky
      exact sky
    show wpAny (model X.prog X.w) X.A (noteFrame (.ref a) X.env) _ _ _
    refine Sky.land Zc.steady frs0 fr sky1 fun g3 fl3 up3 => ?_
    have J3 : Inv X ps t1 k1 { z with heap := g3 } := J.landed nb fl3.1 (up.trans up3) os ag
    obtain ⟨o3, us3, at3, zc3, da3⟩ := fl3.there
    have nfr : a ∉ frs (X.env :: X.outer) := fun hm => by
      obtain ⟨_, o9, e9, hno⟩ := fl3.2.2.1.mem hm
      rw [at3] at e9
      cases e9
      exact hno _ da3
    have nL : a ≠ X.env.locals := fun e => nfr (List.mem_filterMap.mpr ⟨X.env, List.mem_cons_self, by rw [fr, e]⟩)
    have nF : a ∉ X.fs := fun hm => by
      obtain ⟨en, h1, h2⟩ := List.mem_filterMap.mp hm
      exact nfr (List.mem_filterMap.mpr ⟨en, List.mem_cons_of_mem _ h1, h2⟩)
    have S3 := J3.suite at3 da3 na nL nF
    have tyA : PySem.W.Looks (model X.prog X.w) g3 (typeOf (.ref a)) cl := fun A Q E s k q => wpAny_typeOf_ref (k _ _ at3) (by
      rw [zc3.1]
      exact q)
    have nameOf : ∀ {x : Str} {cv : Value} {p1 : Pos}, Names X x cv → ∀ {Q E : Value → Shared → Prop}, Q cv { z with heap := g3 } →
        wpAny (model X.prog X.w) (X.A.mark (some (.ref a))) (eval (.Name x p1) X.env) Q E { z with heap := g3 } := fun {x cv p1} hn {Q E} q => by
      obtain ⟨n1, n2, n3 | ⟨n3, n4, n5⟩⟩ := hn
      · exact ld_glob (X := X.suite a ((a, o3) :: (X.pn ++ ps))) S3 n1 n3 q n2
      · exact ld_blt (X := X.suite a ((a, o3) :: (X.pn ++ ps))) S3 n1 n3 n4 q n5 n2
    have walk : ∀ {hs1 : List ExceptHandler} {l1 : List Cl}, ClsOk X hs1 l1 → wMix X.K Wo N l1 cl dd t1 k1 →
        wpAny (model X.prog X.w) X.A (handleBy (.ref a) X.env hs1) (SP X ps N) X.xe { z with heap := g3 } := by
      intro hs1 l1 ok
      induction ok with
      | nil =>
        intro wi
        refine wpAny_handleBy_nil ?_
        obtain ⟨_, _, _, ob, us, T, oT, ts', he, hz, hda, h1, hr⟩ := id fl3
        unfold PySem.passOn
        refine wpAny_bind (wpAny_field he hda h1 ?_)
        rw [if_neg (show ¬ ((Value.ref T == Value.none) = true) from by simp)]
        have last : wpAny (model X.prog X.w) X.A (setFlight (.ref a) X.env.frame) (fun _ z4 => wpAny (model X.prog X.w) X.A (throw (.ref a) : Sem Flow) (SP X ps N) X.xe z4) X.xe { z with heap := g3 } := by
          rw [fr]
          refine HandSPX.setFlight_upZ fl3 fun g4 held up4 => wpAny_throw (tk _ _ ?_)
          refine ⟨a, B, sI, ps, t1, k1, cl, dd, rfl, J, nb, (up.trans up3).trans up4, .inr (.inr ?_), na, os, ag, wi⟩
          rw [st]
          exact held
        first
          | exact wpAny_bind (wpAny_pure (wpAny_bind last))
          | exact wpAny_bind last
      | @bare x cv ts b0 su p1 p2 hs2 l2 hn hsu r ih =>
        intro wi
        obtain ⟨b, eb, yes, no⟩ := wi
        refine wpAny_handleBy_cons (codeAny_handlers_test ?_) (by intro e; cases e)
        refine nameOf hn ((PySem.W.exm_one (M := model X.prog X.w) J3.kIn tyA eb).here ?_)
        cases b with
        | false =>
          show wpAny _ X.A (handleBy (.ref a) X.env hs2) _ _ _
          exact ih (no rfl)
        | true =>
          refine codeAny_handlers_suite ?_
          refine HandSPX.lands_againZ fl3 fun g4 fl4 up4 => ?_
          have J4 : Inv X ps t1 k1 { z with heap := g4 } := J.landed nb fl4.1 ((up.trans up3).trans up4) os ag
          obtain ⟨o4, us4, at4, zc4, da4⟩ := fl4.there
          have S4 := J4.suite at4 da4 na nL nF
          refine wpAny_mono ((hsu a o4 cl dd (X.pn ++ ps) zc4 ⟨_, da4⟩).run [] _ _ k1 _ S4 (yes rfl a na)) (fun fl z6 sp => ?_) (fun _ _ e => False.elim e)
          cases fl with
          | next =>
            obtain ⟨t6, k6, j6, q6⟩ := sp
            exact ⟨t6, k6, j6.unsuite xok, q6⟩
          | brk =>
            obtain ⟨t6, k6, j6, q6⟩ := sp
            exact ⟨t6, k6, j6.unsuite xok, q6⟩
          | cont =>
            obtain ⟨t6, k6, j6, q6⟩ := sp
            exact ⟨t6, k6, j6.unsuite xok, q6⟩
          | ret u =>
            obtain ⟨v6, t6, k6, j6, rv, q6⟩ := sp
            exact ⟨v6, t6, k6, j6.unsuite xok, rv, q6⟩
      | @named x n i cv ts b0 su p1 p2 hs2 l2 hn hi hl hsu r ih =>
        intro wi
        obtain ⟨b, eb, yes, no⟩ := wi
        refine wpAny_handleBy_cons (codeAny_handlers_test ?_) (by intro e; cases e)
        refine nameOf hn ((PySem.W.exm_one (M := model X.prog X.w) J3.kIn tyA eb).here ?_)
        cases b with
        | false =>
          show wpAny _ X.A (handleBy (.ref a) X.env hs2) _ _ _
          exact ih (no rfl)
        | true =>
          refine codeAny_handlers_suite_as ?_
          refine HandSPX.lands_againZ fl3 fun g4 fl4 up4 => ?_
          have J4 : Inv X ps t1 k1 { z with heap := g4 } := J.landed nb fl4.1 ((up.trans up3).trans up4) os ag
          obtain ⟨o4, us4, at4, zc4, da4⟩ := fl4.there
          have S4 := J4.suite at4 da4 na nL nF
          refine store_ok (X := X.suite a ((a, o4) :: (X.pn ++ ps))) (v := .ref a) S4 nd hi (.inl hl) rfl (fun z5 S5 => ?_) (.inr hl)
          refine wpAny_mono ((hsu a o4 cl dd (X.pn ++ ps) zc4 ⟨_, da4⟩).run [] z5 _ k1 _ S5 (yes rfl a na)) (fun fl z6 sp => ?_) (fun _ _ e => False.elim e)
          have off : ∀ {t6 : L2.St} {k6 : Hp} {Q : Shared → Prop}, Inv (X.suite a ((a, o4) :: (X.pn ++ ps))) [] t6 k6 z6 → (∀ z7, Inv X ps (t6.set i none) k6 z7 → Q z7) →
              wpAny (model X.prog X.w) X.A (do bindName X.env n .none; unbindBehindTheSuite X.env n p2) (fun _ z7 => Q z7) X.xe z6 := fun {t6 k6 Q} j6 hq => gone_ok (j6.unsuite xok) nd hi hl hq
          cases fl with
          | next =>
            obtain ⟨t6, k6, j6, q6⟩ := sp
            exact off j6 fun z7 j7 => ⟨_, _, j7, q6⟩
          | brk =>
            obtain ⟨t6, k6, j6, q6⟩ := sp
            exact off j6 fun z7 j7 => ⟨_, _, j7, q6⟩
          | cont =>
            obtain ⟨t6, k6, j6, q6⟩ := sp
            exact off j6 fun z7 j7 => ⟨_, _, j7, q6⟩
          | ret u =>
            obtain ⟨v6, t6, k6, j6, rv, q6⟩ := sp
            exact off j6 fun z7 j7 => ⟨_, _, _, j7, rv, q6⟩
    exact walk hh wi
end
/-! ### the same, by functions -/
/-- a clause: its class, its name's slot, its suite for an error n with fields as -/
structure FCl where
  x : Str
  nm : Option Nat
  su : Str → List PyData → FS
def subX (n x : Str) : Bool := decide (n = x) || decide (x = ("WorthError" : Str))
def setN (ρ : Env) : Option Nat → Env
  | none => ρ
  | some i => ρ.set i (some .exn)
def unN (ρ : Env) : Option Nat → Env
  | none => ρ
  | some i => ρ.set i none
def flN (o : Option Nat) : Fl → Fl
  | .nx ρ S => .nx (unN ρ o) S
  | .bk ρ S => .bk (unN ρ o) S
  | .ct ρ S => .ct (unN ρ o) S
  | f => f
def noE (ρ : Env) : Bool := ρ.all fun
  | some .exn => false
  | _ => true
def chkN : Fl → Fl
  | .nx ρ S => if noE ρ = true then .nx ρ S else .bad
  | .bk ρ S => if noE ρ = true then .bk ρ S else .bad
  | .ct ρ S => if noE ρ = true then .ct ρ S else .bad
  | .exc _ _ _ _ => .bad
  | f => f
def clsF (n : Str) (as : List PyData) (ρ : Env) (S : Sto) : List FCl → Fl
  | [] => .exc n as ρ S
  | h :: r => if subX n h.x = true then chkN (flN h.nm (h.su n as (setN ρ h.nm) S)) else clsF n as ρ S r
/-- ns: the names of the classes whose errors the body may let out -/
def fTry (ns : List Str) (body : FS) (hs : List FCl) : FS := fun ρ S => match body ρ S with
  | .exc n as ρ1 S1 => if n ∈ ns then clsF n as ρ1 S1 hs else .bad
  | o => o
section
variable {X : Cx} {c : Cw} {body : List Stmt} {hd : ExceptHandler} {hs : List ExceptHandler} {fb : FS} {pos : Pos}
/-- the suite's context -/
abbrev Cw.sui (c : Cw) (a : Addr) (cl : Value) (dd : Option Addr) (n : Str) (as : List PyData) : Cw := ⟨c.K, some ⟨a, cl, dd, n, as⟩, fun _ _ _ _ => False⟩
def clOf (c : Cw) (h : FCl) : Cl := ⟨.ref (He.ga c.K h.x), h.nm, fun a cl dd N τ K' => ∃ n as, tS (c.sui a cl dd n as) (h.su n as) N τ K'⟩
theorem renv_sui {F : Hp} {io : List Addr} {σ : L2.St} {ρ : Env} (h : REnv c F io σ ρ) (hU : c.U = none) {a : Addr} {cl : Value} {dd : Option Addr} {n : Str} {as : List PyData} : REnv (c.sui a cl dd n as) F io σ ρ := ⟨h.1, fun i d q => by
  obtain ⟨v, h1, h2⟩ := h.2 i d q
  refine ⟨v, h1, ?_⟩
  cases d with
  | exn =>
    obtain ⟨u, h3, _⟩ := h2
    rw [hU] at h3
    cases h3
  | _ => exact h2⟩
theorem renv_uns {F : Hp} {io : List Addr} {σ : L2.St} {ρ : Env} {a : Addr} {cl : Value} {dd : Option Addr} {n : Str} {as : List PyData} (h : REnv (c.sui a cl dd n as) F io σ ρ) (hn : noE ρ = true) : REnv c F io σ ρ := ⟨h.1, fun i d q => by
  obtain ⟨v, h1, h2⟩ := h.2 i d q
  refine ⟨v, h1, ?_⟩
  cases d with
  | exn =>
    have := List.all_eq_true.mp hn _ (List.mem_of_getElem? q)
    cases this
  | _ => exact h2⟩
theorem renv_un {c' : Cw} {F : Hp} {io : List Addr} {σ : L2.St} {ρ : Env} (h : REnv c' F io σ ρ) : ∀ o : Option Nat, REnv c' F io (match o with | none => σ | some i => σ.set i none) (unN ρ o)
  | none => h
  | some i => renv_none h i
theorem suite_ok (hU : c.U = none) (h : FCl) {N : Ends} {G F : Hp} {io : List Addr} {H : Hp} {S : Sto} {σ : L2.St} {ρ : Env} {a : Addr} {cl : Value} {dd : Option Addr} {n : Str} {as : List PyData} (gd : Good c.K G F io H S) (re : REnv c F io σ ρ)
    (hx : IsX c.K F n as cl dd) (q : AftS c G F io N (chkN (flN h.nm (h.su n as (setN ρ h.nm) S)))) : tS (c.sui a cl dd n as) (h.su n as) (endsOf N h.nm) (slotOf σ a h.nm) H := by
  refine ⟨G, F, io, S, setN ρ h.nm, gd, ?_, ?_⟩
  · cases h.nm with
    | none => exact renv_sui re hU
    | some i => exact renv_set (renv_sui re hU) (d := .exn) ⟨_, rfl, rfl, hx⟩ i
  · cases hs : h.su n as (setN ρ h.nm) S with
    | nx ρ2 S2 =>
      rw [hs] at q
      have q : AftS c G F io N (if noE (unN ρ2 h.nm) = true then .nx (unN ρ2 h.nm) S2 else .bad) := q
      by_cases hn : noE (unN ρ2 h.nm) = true
      · rw [if_pos hn] at q
        intro σ' F' io' H' e' g' r'
        have z := q _ F' io' H' e' g' (renv_uns (renv_un r' h.nm) hn)
        cases hm : h.nm with
        | none => rw [hm] at z; exact z
        | some i => rw [hm] at z; exact z
      · rw [if_neg hn] at q
        exact q.elim
    | bk ρ2 S2 =>
      rw [hs] at q
      have q : AftS c G F io N (if noE (unN ρ2 h.nm) = true then .bk (unN ρ2 h.nm) S2 else .bad) := q
      by_cases hn : noE (unN ρ2 h.nm) = true
      · rw [if_pos hn] at q
        intro σ' F' io' H' e' g' r'
        have z := q _ F' io' H' e' g' (renv_uns (renv_un r' h.nm) hn)
        cases hm : h.nm with
        | none => rw [hm] at z; exact z
        | some i => rw [hm] at z; exact z
      · rw [if_neg hn] at q
        exact q.elim
    | ct ρ2 S2 =>
      rw [hs] at q
      have q : AftS c G F io N (if noE (unN ρ2 h.nm) = true then .ct (unN ρ2 h.nm) S2 else .bad) := q
      by_cases hn : noE (unN ρ2 h.nm) = true
      · rw [if_pos hn] at q
        intro σ' F' io' H' e' g' r'
        have z := q _ F' io' H' e' g' (renv_uns (renv_un r' h.nm) hn)
        cases hm : h.nm with
        | none => rw [hm] at z; exact z
        | some i => rw [hm] at z; exact z
      · rw [if_neg hn] at q
        exact q.elim
    | rt d S2 =>
      rw [hs] at q
      intro v F' io' H' e' g' r'
      have z := q v F' io' H' e' g' r'
      cases h.nm <;> exact z
    | exc n2 as2 ρ2 S2 => rw [hs] at q; exact q.elim
    | bad => rw [hs] at q; exact q.elim
theorem cls_ok (hU : c.U = none) {N : Ends} {n : Str} {as : List PyData} {cl : Value} {dd : Option Addr} {G F : Hp} {io : List Addr} {H : Hp} {S : Sto} {σ : L2.St} {ρ : Env} (gd : Good c.K G F io H S) (re : REnv c F io σ ρ) (hx : IsX c.K F n as cl dd) :
    ∀ hs : List FCl, (∀ h ∈ hs, PySem.W.exmOne c.K (.ref (He.ga c.K n)) (.ref (He.ga c.K h.x)) = some (subX n h.x)) → AftS c G F io N (clsF n as ρ S hs) → wMix c.K c.W N (hs.map (clOf c)) cl dd σ H
  | [], _, q => q cl dd σ F io H (Ext.refl _ _) gd re hx
  | h :: r, hf, q => by
    refine ⟨subX n h.x, by rw [hx.1]; exact hf h List.mem_cons_self, fun e a ha => ?_, fun e => ?_⟩
    · have q : AftS c G F io N (if subX n h.x = true then chkN (flN h.nm (h.su n as (setN ρ h.nm) S)) else clsF n as ρ S r) := q
      rw [if_pos e] at q
      exact ⟨n, as, suite_ok hU h gd re hx q⟩
    · have q : AftS c G F io N (if subX n h.x = true then chkN (flN h.nm (h.su n as (setN ρ h.nm) S)) else clsF n as ρ S r) := q
      rw [if_neg (by rw [e]; decide)] at q
      exact cls_ok hU gd re hx r (fun z hz => hf z (List.mem_cons_of_mem _ hz)) q
theorem fs_try {ns : List Str} {cs : List FCl} (hK : c.K = X.K) (hU : c.U = none) (st : X.stack = X.env :: X.outer) (fr : X.env.frame = some X.env.locals) (nd : X.N.Nodup) (tk : Takes X c.W)
    (hf : ∀ n ∈ ns, ∀ h ∈ cs, PySem.W.exmOne c.K (.ref (He.ga c.K n)) (.ref (He.ga c.K h.x)) = some (subX n h.x))
    (hb : ∀ (W : WX) (pn : List (Addr × Obj)) (xe : Value → Shared → Prop), Takes (X.tr pn xe) W → PassesOwn (model X.prog X.w) X.A X.env xe → PSs (X.tr pn xe) body (tS ⟨c.K, c.U, W⟩ fb))
    (hh : ClsOk X (hd :: hs) (cs.map (clOf c))) : PS X (.Try body (hd :: hs) [] [] pos) (tS c (fTry ns fb cs)) :=
  ps_imp (ps_try_mix st fr nd tk hb hh) fun N σ H ⟨G, F, io, S, ρ, gd, re, q⟩ => by
    have toW : ∀ {W : WX} {F : Hp} {io : List Addr} {σ : L2.St} {ρ : Env}, REnv ⟨c.K, c.U, W⟩ F io σ ρ → REnv c F io σ ρ := fun {W F io σ ρ} h => ⟨h.1, fun i d q => by
      obtain ⟨v, h1, h2⟩ := h.2 i d q
      exact ⟨v, h1, by cases d <;> exact h2⟩⟩
    have ofW : ∀ {W : WX} {F : Hp} {io : List Addr} {σ : L2.St} {ρ : Env}, REnv c F io σ ρ → REnv ⟨c.K, c.U, W⟩ F io σ ρ := fun {W F io σ ρ} h => ⟨h.1, fun i d q => by
      obtain ⟨v, h1, h2⟩ := h.2 i d q
      exact ⟨v, h1, by cases d <;> exact h2⟩⟩
    refine ⟨G, F, io, S, ρ, gd, ofW re, ?_⟩
    unfold fTry at q
    cases hm : fb ρ S with
    | nx ρ1 S1 => rw [hm] at q; exact fun σ' F' io' H' e' g' r' => q σ' F' io' H' e' g' (toW r')
    | bk ρ1 S1 => rw [hm] at q; exact fun σ' F' io' H' e' g' r' => q σ' F' io' H' e' g' (toW r')
    | ct ρ1 S1 => rw [hm] at q; exact fun σ' F' io' H' e' g' r' => q σ' F' io' H' e' g' (toW r')
    | rt d S1 => rw [hm] at q; exact q
    | bad => rw [hm] at q; exact q
    | exc n as ρ1 S1 =>
      rw [hm] at q
      have q : AftS c G F io N (if n ∈ ns then clsF n as ρ1 S1 cs else .bad) := q
      by_cases hn : n ∈ ns
      · rw [if_pos hn] at q
        intro cl dd σ' F' io' H' e' g' r' x'
        have z := cls_ok hU g' (toW r') x' cs (hf n hn) (AftS.ext q e')
        rw [hK] at z
        exact z
      · rw [if_neg hn] at q
        exact q.elim
theorem hs_nil : ClsOk X [] (([] : List FCl).map (clOf c)) := .nil
theorem hs_bare {x : Str} {b0 : Stmt} {su : List Stmt} {p1 p2 : Pos} {hs : List ExceptHandler} {cs : List FCl} {f : Str → List PyData → FS} (hn : Names X x (.ref (He.ga c.K x)))
    (hsu : ∀ (a : Addr) (ob : Obj) (cl : Value) (dd : Option Addr) (pn : List (Addr × Obj)) (n : Str) (as : List PyData), Zc cl dd ob → (∃ us, ob.data = .fields us) → PSs (X.suite a ((a, ob) :: pn)) (b0 :: su) (tS (c.sui a cl dd n as) (f n as)))
    (r : ClsOk X hs (cs.map (clOf c))) : ClsOk X (.ExceptHandler (some (.Name x p1)) none (b0 :: su) p2 :: hs) ((⟨x, none, f⟩ :: cs : List FCl).map (clOf c)) :=
  .bare hn (fun a ob cl dd pn hz hu => ⟨fun pins s σ H D I ⟨n, as, h⟩ => (hsu a ob cl dd pn n as hz hu).run pins s σ H D I h⟩) r
theorem hs_named {x m : Str} {i : Nat} {b0 : Stmt} {su : List Stmt} {p1 p2 : Pos} {hs : List ExceptHandler} {cs : List FCl} {f : Str → List PyData → FS} (hn : Names X x (.ref (He.ga c.K x))) (hi : X.N[i]? = some m) (hl : X.env.kindOf m = some .local)
    (hsu : ∀ (a : Addr) (ob : Obj) (cl : Value) (dd : Option Addr) (pn : List (Addr × Obj)) (n : Str) (as : List PyData), Zc cl dd ob → (∃ us, ob.data = .fields us) → PSs (X.suite a ((a, ob) :: pn)) (b0 :: su) (tS (c.sui a cl dd n as) (f n as)))
    (r : ClsOk X hs (cs.map (clOf c))) : ClsOk X (.ExceptHandler (some (.Name x p1)) (some m) (b0 :: su) p2 :: hs) ((⟨x, some i, f⟩ :: cs : List FCl).map (clOf c)) :=
  .named hn hi hl (fun a ob cl dd pn hz hu => ⟨fun pins s σ H D I ⟨n, as, h⟩ => (hsu a ob cl dd pn n as hz hu).run pins s σ H D I h⟩) r
end
end Tw
namespace Tw
open PySem PySem.Spec PyProof.Rows L2

/-! ### names of the module -/
section
variable {X : Cx} {c : Cw} {x : Str} {pos : Pos}
theorem fe_gint {i : Int} (hm : ∃ t, X.mg x = some (.int i t)) (hg : Gl X x := by rfl) (hd : (x == ("__debug__" : Str)) = false := by decide) : PE X (.Name x pos) (tE c (fCon (.int i))) := by
  obtain ⟨t, h⟩ := hm
  exact fe_con (pe_glob (v := .int i) hg h ⟨t, rfl⟩ hd) fun _ => .int i
theorem fe_gtup {A0 : Addr} {ss : List Str} (hm : X.mg x = some (.ref A0)) (hs : ∀ H, SqT c.K H A0 (ss.map V.str)) (hg : Gl X x := by rfl) (hd : (x == ("__debug__" : Str)) = false := by decide) : PE X (.Name x pos) (tE c (fCon (.tuple (ss.map PyData.str)))) :=
  fe_con (pe_glob (v := .ref A0) hg hm rfl hd) fun F => .tup (hs F) (dqa_txt ss)
where
  dqa_txt {K : PySem.W.Frag} {F : Hp} : ∀ ss : List Str, DqA K F (ss.map V.str) (ss.map PyData.str)
  | [] => .nil
  | s :: ss => .cons (.str s) (dqa_txt ss)
end
/-! ### a def that stands -/
structure Cal (P : Program) (w : World) (K : PySem.W.Frag) (mg : Str → Option Value) (base : Heap) (x : Str) (k n : Nat) (m : List D → Sto → Res D) : Prop where
  ex : ∃ f fd ps, FnOk P w K mg base (L2.CX P w) k f fd ps (spF K m n) ∧ mg x = some (.ref f) ∧ PySem.W.keepIn K (.ref f) = true ∧ Binds K fd ps []
theorem Cal.eq {P : Program} {w : World} {K : PySem.W.Frag} {mg : Str → Option Value} {base : Heap} {x : Str} {k n : Nat} {m m' : List D → Sto → Res D} (h : Cal P w K mg base x k n m) (e : m = m') : Cal P w K mg base x k n m' := e ▸ h
section
variable {X : Cx} {c : Cw} {x : Str} {p pos : Pos} {e : Expr} {es : List Expr} {k n : Nat} {m : List D → Sto → Res D} {fr : FA}
theorem fe_cal (h : Cal X.prog X.w X.K X.mg X.base x k n m) (hr : Room k X.A) (tk : Takes X c.W) (ha : PA X (e :: es) (tA c fr)) (hl : ∀ ρ S ds S', fr ρ S = .ok ds S' → ds.length = (e :: es).length) (hn : (e :: es).length = n := by rfl) (hK : c.K = X.K := by rfl) (hg : Gl X x := by rfl) (hdb : (x == ("__debug__" : Str)) = false := by decide)
    (he : starEach (e :: es) X.env = (false, eval e X.env) :: starEach es X.env := by rfl) (hpl : (backTo pos (starEach es X.env)).any (·.1) = false := by rfl) : PE X (.Call (.Name x p) (e :: es) [] pos) (tE c (fCall m fr)) := by
  obtain ⟨f, fd, ps, F, hm, hk, hb⟩ := h.ex
  refine fe_own (fun ht => ?_) ha hn hl
  rw [hK]
  exact pe_callS F hr hg hm hk hb (fun σ => passAt tk σ) ht hdb he hpl
end
theorem len0 : ∀ (ρ : Env) (S : Sto) (ds : List D) (S' : Sto), fNil ρ S = .ok ds S' → ds.length = 0 := fun _ _ _ _ => fr_len_nil
theorem lenS {fa : FE} {fr : FA} {n : Nat} (h : ∀ (ρ : Env) (S : Sto) (ds : List D) (S' : Sto), fr ρ S = .ok ds S' → ds.length = n) : ∀ (ρ : Env) (S : Sto) (ds : List D) (S' : Sto), fCons fa fr ρ S = .ok ds S' → ds.length = n + 1 := fun _ _ _ _ => fr_len_cons h
/-! ### what is walked, a list or a tuple -/
def fItS (fa : FE) : FI := fun ρ S => (fa ρ S).bind fun d S1 => match d with
  | .p (.tuple ds) => .ok (ds.map D.p) S1
  | .p (.list ds) => .ok (ds.map D.p) S1
  | .scr ns => .ok ((ns.map PyData.int).map D.p) S1
  | _ => .bad
theorem fi_seq {X : Cx} {c : Cw} {tg e : Expr} {fa : FE} (h : PE X e (tE c fa)) (hK : c.K = X.K := by rfl) : PI X tg e (tI c (fItS fa)) := ⟨fun pins s σ H R I ⟨G, F, io, S, ρ, gd, re, q⟩ => by
  have asT : (∃ ds S1, fa ρ S = .ok (.p (.tuple ds)) S1) → fItT fa ρ S = fItS fa ρ S := fun ⟨ds, S1, e⟩ => by
    unfold fItT fItS
    rw [e]
    rfl
  have asL : (¬ ∃ ds S1, fa ρ S = .ok (.p (.tuple ds)) S1) → fItL fa ρ S = fItS fa ρ S := fun ne => by
    unfold fItL fItS
    cases hf : fa ρ S with
    | ok d S1 =>
      cases d with
      | p a =>
        cases a with
        | tuple ds => exact absurd ⟨ds, S1, hf⟩ ne
        | _ => rfl
      | _ => rfl
    | exc n as S1 => rfl
    | bad => rfl
  by_cases ht : ∃ ds S1, fa ρ S = .ok (.p (.tuple ds)) S1
  · exact (fi_tup h hK).run pins s σ H R I ⟨G, F, io, S, ρ, gd, re, by rw [asT ht]; exact q⟩
  · exact (fi_lst h hK).run pins s σ H R I ⟨G, F, io, S, ρ, gd, re, by rw [asL ht]; exact q⟩⟩
/-! ### a def that hands back things that change -/
def callO (nN : Nat) (f : FS) : List D → Sto → Res D := fun ds S => match f (ds.map some ++ List.replicate (nN - ds.length) none) S with
  | .rt d S' => .ok d S'
  | .nx _ S' => .ok (.p .none) S'
  | .exc n as _ S' => .exc n as S'
  | _ => .bad
section
variable {K : PySem.W.Frag} {P : Program} {w : World} {mg : Str → Option Value} {base : Heap} {x qual : Str} {params : Arguments} {body : List Stmt} {scope : Scope} {f : Addr} {fd : FuncData} {N ps : List Str} {k : Nat} {m : FS}
theorem fn_okO (Fn : FunD K x qual params body scope [] [] f fd) (S : FnScope N ps scope)
    (hb : ∀ (cdv : Value) (A : Around) (outer : List PySem.Env) (s : Shared) (H : Hp) (E : XK), Room k (A.deeper (envOfC qual scope s.heap.objs.size f cdv)) → PSs (cxOf (L2.CX P w) P w K mg base N qual scope f cdv A outer s H E) body (tS (cE K E) m)) :
    FnOk P w K mg base (L2.CX P w) (k + 1) f fd ps (spF K (callO N.length m) ps.length) := by
  refine Fn.ok S (fun vs H Q E h => h.1) fun cdv A outer s H vs Q E hr h => ⟨_, hb cdv A outer s H E hr, ?_⟩
  obtain ⟨_, G, F, io, St, ds, g, r, q⟩ := h
  refine ⟨G, F, io, St, _, g, start_renv (c := cE K E) (N := N) r, ?_⟩
  unfold callO at q
  cases hm : m (ds.map some ++ List.replicate (N.length - ds.length) none) St with
  | rt d S' => rw [hm] at q; exact q
  | nx ρ' S' => rw [hm] at q; exact fun σ F' io' H' e' g' _ => q .non F' io' H' e' g' Dq.non
  | exc n as ρ' S' => rw [hm] at q; exact fun cls dd σ F' io' H' e' g' _ x' => q cls dd F' io' H' e' g' x'
  | bk ρ' S' => rw [hm] at q; exact q.elim
  | ct ρ' S' => rw [hm] at q; exact q.elim
  | bad => rw [hm] at q; exact q.elim
end
/-! ### what the top has left, by a Bool of the written part -/
def SaysW (ex : PySem.W.Frag → Bool) (fn : List He.DefD) (K : PySem.W.Frag) : Prop := ((ex K && fn.all fun d => d.ok K, fn.map fun d => He.fnW K d.at_) : He.AlD) = (true, fn.map He.DefD.val)
def obsW (n : Nat) (ex : PySem.W.Frag → Bool) (fn : List He.DefD) (g : Addr → Option Obj) : He.AlD := (ex (He.frG g (He.asD g n)) && fn.all fun d => d.ok (He.frG g (He.asD g n)), fn.map fun d => He.fnW (He.frG g (He.asD g n)) d.at_)
def hookW (n : Nat) (ex : PySem.W.Frag → Bool) (fn : List He.DefD) : PySem.W.Hook where
  α := He.AlD
  obs := fun s => obsW n ex fn s.heap.get?
  val := fun _ => (true, fn.map He.DefD.val)
  says := fun _ h => ∃ K : PySem.W.Frag, K.In h ∧ SaysW ex fn K
  of := fun _ _ e => ⟨_, He.frG_in, e⟩
  keeps := fun _ _ _ ⟨K, hK, c⟩ k => ⟨K, PySem.W.Frag.In.keeps hK k, c⟩
theorem obsW_eq {n : Nat} {ex : PySem.W.Frag → Bool} {fn : List He.DefD} {g : Addr → Option Obj} {s : Shared} (h : ∀ a, g a = s.heap.get? a) : obsW n ex fn g = (hookW n ex fn).obs s := by
  have e : g = s.heap.get? := funext h
  rw [e]
  rfl
section
variable {ex : PySem.W.Frag → Bool} {fn : List He.DefD} {K : PySem.W.Frag}
theorem SaysW.yes (c : SaysW ex fn K) : ex K = true := (He.ba (show (ex K && fn.all fun d => d.ok K) = true from congrArg (fun z : He.AlD => z.1) c)).1
theorem SaysW.fd (c : SaysW ex fn K) (i : Nat) {d : He.DefD} (h : fn[i]? = some d := by rfl) : ∃ fd, FunD K d.name d.qual d.params d.body d.scope (d.dvs K) (d.kws K) (He.fAd K d.at_) fd := by
  have c2 := (He.ba (show (ex K && fn.all fun d => d.ok K) = true from congrArg (fun z : He.AlD => z.1) c)).2
  have e : fn.map (fun d => He.fnW K d.at_) = fn.map He.DefD.val := congrArg (fun z : He.AlD => z.2) c
  have e2 : (fn.map fun d => He.fnW K d.at_)[i]? = (fn.map He.DefD.val)[i]? := by rw [e]
  rw [List.getElem?_map, List.getElem?_map, h] at e2
  exact He.DefD.funD (Option.some.inj e2) (List.all_eq_true.mp c2 d (List.mem_of_getElem? h))
end
/-- facts as a list of Bools -/
abbrev Facts := List (PySem.W.Frag → Bool)
def exOf (l : Facts) : PySem.W.Frag → Bool := fun K => l.all fun f => f K
theorem exOf_at {l : Facts} {K : PySem.W.Frag} (h : exOf l K = true) (i : Nat) {f : PySem.W.Frag → Bool} (e : l[i]? = some f := by rfl) : f K = true := List.all_eq_true.mp h f (List.mem_of_getElem? e)
def fcExc (x : Str) : PySem.W.Frag → Bool := (He.Fa.exc x).ok
def fcGlo (x : Str) : PySem.W.Frag → Bool := (He.Fa.glo x).ok
def fcFree (x : Str) : PySem.W.Frag → Bool := (He.Fa.free x).ok
def fcInt (x : Str) (i : Int) : PySem.W.Frag → Bool := (He.Fa.int x i).ok
def fcExm (x y : Str) : PySem.W.Frag → Bool := fun K => decide (PySem.W.exmOne K (.ref (He.ga K x)) (.ref (He.ga K y)) = some (subX x y))
def fcKit (x y : Str) : PySem.W.Frag → Bool := fun K => decide (PySem.W.kitOne K (.ref (He.ga K x)) (.ref (He.ga K y)) = some (subX x y))
def fcTup (x : Str) (ss : List Str) : PySem.W.Frag → Bool := fun K => He.tupB K x (ss.map He.Dv.str) && match K.lookup (He.ga K x) with
  | some ⟨.type c, none, _, _⟩ => decide (c = "tuple")
  | _ => false
def fcExcC (x : Str) : PySem.W.Frag → Bool := fun K => decide (PySem.W.findIn K (.ref (He.ga K x)) "__getattribute__" = some (some (.builtin "BaseException.__getattribute__"))) && (decide (PySem.W.findIn K (.ref (He.ga K x)) "__getattr__" = some none) &&
  (decide (PySem.W.subIn K (.ref (He.ga K x)) (.type "BaseException") = some true) && (PySem.W.hasDictIn K (He.ga K x) && (decide (PySem.W.findIn K (.ref (He.ga K x)) "__class__" = some (some (.builtin "object.__class__"))) &&
  (decide (PySem.W.specialIn K (.builtin "object.__class__") "__get__" = some (some (.builtin "getset_descriptor.__get__"))) && (decide (PySem.W.takesIn K (.builtin "object.__class__") = some true) && decide (PySem.W.mroIn K (He.ga K x) (.type "object") = some true)))))))
theorem fcExcC_ok {x : Str} {K : PySem.W.Frag} (h : fcExcC x K = true) : ExcC K (He.ga K x) := by
  obtain ⟨h1, h⟩ := He.ba h
  obtain ⟨h2, h⟩ := He.ba h
  obtain ⟨h3, h⟩ := He.ba h
  obtain ⟨h4, h⟩ := He.ba h
  obtain ⟨h5, h⟩ := He.ba h
  obtain ⟨h6, h⟩ := He.ba h
  obtain ⟨h7, h8⟩ := He.ba h
  exact ⟨of_decide_eq_true h1, of_decide_eq_true h2, of_decide_eq_true h3, h4, of_decide_eq_true h5, of_decide_eq_true h6, of_decide_eq_true h7, of_decide_eq_true h8⟩
theorem fcTup_ok {x : Str} {ss : List Str} {K : PySem.W.Frag} (h : fcTup x ss K = true) : (∀ H, SqT K H (He.ga K x) (ss.map V.str)) ∧ ∃ o, K.lookup (He.ga K x) = some o ∧ o.cls = .type "tuple" ∧ o.dict = none := by
  obtain ⟨h1, h2⟩ := He.ba h
  refine ⟨fun H => ?_, ?_⟩
  · have z := He.tupB_ok h1 H
    rw [List.map_map] at z
    exact z
  · cases e : K.lookup (He.ga K x) with
    | none => rw [e] at h2; cases h2
    | some o =>
      obtain ⟨oc, od, dt, sl⟩ := o
      rw [e] at h2
      cases oc with
      | type t =>
        cases od with
        | none =>
          have h2 : t = "tuple" := of_decide_eq_true h2
          subst h2
          exact ⟨_, rfl, rfl, rfl⟩
        | some d => cases h2
      | _ => cases od <;> cases h2
/-- the facts at hand -/
structure Tx (l : Facts) (fn : List He.DefD) (K : PySem.W.Frag) (mg : Str → Option Value) : Prop where
  says : SaysW (exOf l) fn K
  at_ : ∃ h : Heap, K.In h ∧ h.Ns mainGlobals mg
section
variable {l : Facts} {fn : List He.DefD} {K : PySem.W.Frag} {mg : Str → Option Value}
theorem Tx.fc (T : Tx l fn K mg) (i : Nat) {f : PySem.W.Frag → Bool} (e : l[i]? = some f := by rfl) : f K = true := exOf_at (SaysW.yes T.says) i e
theorem Tx.fr (T : Tx l fn K mg) (i : Nat) {x : Str} (e : l[i]? = some (fcFree x) := by rfl) : mg x = none := by
  obtain ⟨h, X, G⟩ := T.at_
  exact He.free_ok X G (T.fc i e)
theorem Tx.gl (T : Tx l fn K mg) (i : Nat) {x : Str} (e : l[i]? = some (fcGlo x) := by rfl) : mg x = some (.ref (He.ga K x)) := by
  obtain ⟨h, X, G⟩ := T.at_
  exact He.glo_ok X G (T.fc i e)
theorem Tx.int (T : Tx l fn K mg) (i : Nat) {x : Str} {j : Int} (e : l[i]? = some (fcInt x j) := by rfl) : ∃ t, mg x = some (.int j t) := by
  obtain ⟨h, X, G⟩ := T.at_
  exact He.int_ok X G (T.fc i e)
theorem Tx.exc (T : Tx l fn K mg) (i : Nat) {x : Str} (e : l[i]? = some (fcExc x) := by rfl) : PySem.W.excIn K (He.ga K x) He.veBase "ValueError.__new__" = true ∧ PySem.W.keepIn K (.ref (He.ga K x)) = true ∧ PySem.W.subIn K (.ref (He.ga K x)) (.type "BaseException") = some true ∧ PySem.W.typeIn K (.ref (He.ga K x)) = some (.type "type") := He.exc_ok (T.fc i e)
theorem Tx.exm (T : Tx l fn K mg) (i : Nat) {x y : Str} (e : l[i]? = some (fcExm x y) := by rfl) : PySem.W.exmOne K (.ref (He.ga K x)) (.ref (He.ga K y)) = some (subX x y) := of_decide_eq_true (T.fc i e)
theorem Tx.kit (T : Tx l fn K mg) (i : Nat) {x y : Str} (e : l[i]? = some (fcKit x y) := by rfl) : PySem.W.kitOne K (.ref (He.ga K x)) (.ref (He.ga K y)) = some (subX x y) := of_decide_eq_true (T.fc i e)
end
/-! ### += on ints -/
theorem bop_ip {c : Cw} {f : Int → Int → Int} : BOp c (ipI f) (gI fun i j => .int (f i j)) := fun G F io H S σ x y dx dy Q gd rx ry q => by
  obtain ⟨i, j, rfl, rfl, q⟩ := two_ints (Aft c G F io σ (rp c) Q) q aft_bad
  cases rx
  cases ry
  exact ⟨i, j, rfl, rfl, hereP (v := .int (f i j)) q gd (Dq.int _)⟩
/-! ### isinstance(e, X), e what the suite holds -/
def fIsX (ns : List Str) (i : Nat) (x n : Str) (as : List PyData) : FE := fun ρ S => match ρ[i]? with
  | some (some .exn) => if n ∈ ns ∧ as.isEmpty = true then .ok (.p (.bool (subX n x))) S else .bad
  | _ => .bad
theorem fe_isX {X : Cx} {c : Cw} {a : Addr} {ob : Obj} {cl : Value} {dd : Option Addr} {pn : List (Addr × Obj)} {n y x : Str} {as : List PyData} {ns : List Str} {i : Nat} {p1 p2 p3 pos : Pos} (hK : c.K = X.K) (hz : Zc cl dd ob) (hu : ∃ us, ob.data = .fields us)
    (hC : ∀ m ∈ ns, ExcC X.K (He.ga X.K m)) (hk : ∀ m ∈ ns, PySem.W.kitOne X.K (.ref (He.ga X.K m)) (.ref (He.ga X.K x)) = some (subX m x)) (gx : X.mg x = some (.ref (He.ga X.K x))) (b0 : X.mg "isinstance" = none) (hg : Gl X "isinstance") (hgx : Gl X x)
    (hy : X.N[i]? = some y) (hv : Vis X.env.scope y) (hd1 : (x == ("__debug__" : Str)) = false := by decide) (hd2 : (y == ("__debug__" : Str)) = false := by decide) (hd3 : (y == ("__classdict__" : Str)) = false := by decide)
    (bi : bootBuiltins "isinstance" = some (.builtin "isinstance") := by decide +kernel)
    (s1 : starEach [Expr.Name y p2, .Name x p3] X.env = (false, eval (.Name y p2) X.env) :: starEach [.Name x p3] X.env := by rfl) (s2 : starEach [Expr.Name x p3] X.env = (false, eval (.Name x p3) X.env) :: starEach [] X.env := by rfl)
    (s3 : (backTo pos (starEach [Expr.Name x p3] X.env)).any (·.1) = false := by rfl) :
    PE (X.suite a ((a, ob) :: pn)) (.Call (.Name "isinstance" p1) [.Name y p2, .Name x p3] [] pos) (tE (c.sui a cl dd n as) (fIsX ns i x n as)) := by
  refine ⟨fun pins s σ H Q I ⟨G, F, io, S, ρ, gd, re, q⟩ => ?_⟩
  unfold fIsX at q
  cases hr : ρ[i]? with
  | none => rw [hr] at q; exact q.elim
  | some o =>
    cases o with
    | none => rw [hr] at q; exact q.elim
    | some d =>
      cases d with
      | exn =>
        rw [hr] at q
        have q : Aft (c.sui a cl dd n as) G F io σ (rp (c.sui a cl dd n as)) Q (if n ∈ ns ∧ as.isEmpty = true then .ok (.p (.bool (subX n x))) S else .bad) := q
        by_cases hn : n ∈ ns ∧ as.isEmpty = true
        · rw [if_pos hn] at q
          obtain ⟨v, h1, u, h2, h3, h4⟩ := re.2 i _ hr
          have h2 := Option.some.inj h2
          subst h2
          obtain ⟨hcl, ⟨_, hdd⟩ | ⟨_, _, hne, _⟩⟩ := h4
          · have hcl : cl = .ref (He.ga c.K n) := hcl
            have hdd : dd = none := hdd
            subst hcl
            subst hdd
            rw [hK] at hz
            have hz' : Zc (.ref (He.ga X.K n)) none ob := hz
            refine (pe_callB (X := X.suite a ((a, ob) :: pn)) (call_isE (hC n hn.1) hz' hu) hg b0 bi (pa_cons (pe_var (X := X.suite a ((a, ob) :: pn)) hy hv hd2 hd3) (pa_cons (pe_glob (X := X.suite a ((a, ob) :: pn)) (v := .ref (He.ga X.K x)) hgx gx rfl hd1) pa_nil s2) s1) (by decide) (by decide) s1 s3).run pins s σ H Q I ?_
            exact ⟨v, h1, .ref (He.ga X.K x), .ref (He.ga X.K x), _, by rw [h3], fun u hu => hu, hk n hn.1, hereP (v := .bl _) q gd (Dq.bl _)⟩
          · have : as = [] := List.isEmpty_iff.mp hn.2
            exact absurd this hne
        · rw [if_neg hn] at q
          exact q.elim
      | _ => rw [hr] at q; exact q.elim
end Tw
namespace Tw
theorem fm0 {α : Type} {P : α → Prop} : ∀ x ∈ ([] : List α), P x := fun _ h => by cases h
theorem fmc {α : Type} {P : α → Prop} {a : α} {l : List α} (h : P a) (r : ∀ x ∈ l, P x) : ∀ x ∈ a :: l, P x := fun x hx => (List.mem_cons.mp hx).elim (fun e => e ▸ h) (r x)
end Tw
namespace Tw
open PySem PySem.Spec PyProof.Rows L2
theorem boot_isinstance : bootBuiltins ("isinstance" : Str) = some (.builtin "isinstance") := by decide +kernel
theorem boot_len : bootBuiltins ("len" : Str) = some (.builtin "len") := by decide +kernel
theorem boot_all : bootBuiltins ("all" : Str) = some (.builtin "all") := by decide +kernel
theorem boot_any : bootBuiltins ("any" : Str) = some (.builtin "any") := by decide +kernel
theorem boot_min : bootBuiltins ("min" : Str) = some (.builtin "min") := by decide +kernel
theorem boot_max : bootBuiltins ("max" : Str) = some (.builtin "max") := by decide +kernel
theorem boot_int : bootBuiltins ("int" : Str) = some (.type "int") := by decide +kernel
theorem boot_bool : bootBuiltins ("bool" : Str) = some (.type "bool") := by decide +kernel
theorem boot_str : bootBuiltins ("str" : Str) = some (.type "str") := by decide +kernel
theorem boot_tuple : bootBuiltins ("tuple" : Str) = some (.type "tuple") := by decide +kernel
theorem boot_list : bootBuiltins ("list" : Str) = some (.type "list") := by decide +kernel
theorem boot_dict : bootBuiltins ("dict" : Str) = some (.type "dict") := by decide +kernel
/-! ### a tuple times an int -/
def gRepT : D → D → Sto → Res D := fun dx dy S => match dx, dy with
  | .p (.tuple ds), .p (.int k) => if ds ≠ [] ∧ 2 ≤ k ∧ k ≤ 1000 ∧ ds.length ≤ 1000 then .ok (.p (.tuple (List.replicate k.toNat ds).flatten)) S else .bad
  | _, _ => .bad
theorem dqa_rep {K : PySem.W.Frag} {F : Hp} {ds : List PyData} {vs : List V} (r : DqA K F vs ds) : ∀ n : Nat, DqA K F (List.replicate n vs).flatten (List.replicate n ds).flatten
  | 0 => .nil
  | n + 1 => by
    rw [List.replicate_succ, List.replicate_succ, List.flatten_cons, List.flatten_cons]
    exact dpa_app r (dqa_rep r n)
theorem bop_repT {c : Cw} : BOp c (rRepT c.K) gRepT := fun G F io H S σ x y dx dy Q gd rx ry q => by
  unfold gRepT at q
  split at q
  · rename_i ds k
    by_cases hc : ds ≠ [] ∧ 2 ≤ k ∧ k ≤ 1000 ∧ ds.length ≤ 1000
    · rw [if_pos hc] at q
      cases ry
      cases rx with
      | @tup p vs _ hx ha =>
        have hl := dpa_len _ _ ha
        exact ⟨p, k, vs, rfl, rfl, sq_t gd.ex hx, fun z => hc.1 ((nil_of ha).mp z), hc.2.1, hc.2.2.1, by rw [hl]; exact hc.2.2.2, new_tup gd (dqa_rep ha k.toNat) q⟩
    · rw [if_neg hc] at q
      exact q.elim
  · exact q.elim
end Tw
namespace Tw
open PySem PySem.Spec PyProof.Rows L2

/-! ### how the readings are computed: rules for simp -/
def Fl.seq (o : Fl) (g : FS) : Fl := match o with
  | .nx ρ S => g ρ S
  | o => o
def Fl.fin (o : Fl) (S : Sto) : Res D := match o with
  | .rt d S' => trim S d S'
  | .nx _ S' => trim S (.p .none) S'
  | .exc n as _ S' => trimX S n as S'
  | _ => .bad
def envOf : Nat → List D → Env
  | 0, _ => []
  | n + 1, [] => none :: envOf n []
  | n + 1, d :: ds => some d :: envOf n ds
theorem envOf_nil : ∀ n : Nat, envOf n [] = List.replicate n none
  | 0 => rfl
  | n + 1 => by rw [envOf, envOf_nil n, List.replicate_succ]
theorem envOf_eq : ∀ (n : Nat) (ds : List D), ds.length ≤ n → ds.map some ++ List.replicate (n - ds.length) none = envOf n ds
  | n, [], _ => by rw [envOf_nil]; rfl
  | n + 1, d :: ds, h => by
    rw [envOf, ← envOf_eq n ds (Nat.le_of_succ_le_succ h), List.map_cons, List.length_cons, Nat.add_sub_add_right]
    rfl
theorem callM_ap (nN : Nat) (f : FS) (ds : List D) (S : Sto) (h : ds.length ≤ nN) : callM nN f ds S = (f (envOf nN ds) S).fin S := by
  unfold callM
  rw [envOf_eq nN ds h]
  rfl
def Fl.finO (o : Fl) : Res D := match o with
  | .rt d S' => .ok d S'
  | .nx _ S' => .ok (.p .none) S'
  | .exc n as _ S' => .exc n as S'
  | _ => .bad
theorem callO_ap (nN : Nat) (f : FS) (ds : List D) (S : Sto) (h : ds.length ≤ nN) : callO nN f ds S = (f (envOf nN ds) S).finO := by
  unfold callO
  rw [envOf_eq nN ds h]
  rfl
@[simp] theorem finO_rt {d : D} {S : Sto} : (Fl.rt d S).finO = .ok d S := rfl
@[simp] theorem envOf_0 {ds : List D} : envOf 0 ds = [] := by cases ds <;> rfl
@[simp] theorem envOf_n {n : Nat} : envOf (n + 1) [] = none :: envOf n [] := rfl
@[simp] theorem envOf_s {n : Nat} {d : D} {ds : List D} : envOf (n + 1) (d :: ds) = some d :: envOf n ds := rfl
section
variable {α β : Type} {r r' : Res α} {k : α → Sto → Res β} {kf : α → Sto → Fl} {o o' : Fl} {g : FS} {S S' : Sto} {ρ : Env} {a : α} {n : Str} {as : List PyData} {d : D}
@[simp] theorem bind_ok : (Res.ok a S).bind k = k a S := rfl
@[simp] theorem bind_exc : (Res.exc n as S : Res α).bind k = .exc n as S := rfl
@[simp] theorem bind_bad : (Res.bad : Res α).bind k = .bad := rfl
@[simp] theorem thn_ok : (Res.ok a S).thn ρ kf = kf a S := rfl
@[simp] theorem thn_exc : (Res.exc n as S : Res α).thn ρ kf = .exc n as ρ S := rfl
@[simp] theorem thn_bad : (Res.bad : Res α).thn ρ kf = .bad := rfl
@[simp] theorem seq_nx : (Fl.nx ρ S).seq g = g ρ S := rfl
@[simp] theorem seq_rt : (Fl.rt d S).seq g = .rt d S := rfl
@[simp] theorem seq_bk : (Fl.bk ρ S).seq g = .bk ρ S := rfl
@[simp] theorem seq_ct : (Fl.ct ρ S).seq g = .ct ρ S := rfl
@[simp] theorem seq_exc : (Fl.exc n as ρ S).seq g = .exc n as ρ S := rfl
@[simp] theorem seq_bad : Fl.bad.seq g = .bad := rfl
@[simp] theorem fin_rt : (Fl.rt d S').fin S = trim S d S' := rfl
@[simp] theorem fin_nx : (Fl.nx ρ S').fin S = trim S (.p .none) S' := rfl
@[simp] theorem fin_exc : (Fl.exc n as ρ S').fin S = trimX S n as S' := rfl
theorem trim_same (h : S'.length = S.length) : trim S d S' = .ok d S' := if_pos h
theorem trimX_same (h : S'.length = S.length) : trimX S n as S' = .exc n as S' := if_pos h
@[simp] theorem trim_id : trim S d S = .ok d S := if_pos rfl
@[simp] theorem trimX_id : trimX S n as S = .exc n as S := if_pos rfl
@[simp] theorem asB_ok {b : Bool} : (Res.ok (.p (.bool b)) S).asB = .ok b S := rfl
@[simp] theorem asB_exc : (Res.exc n as S : Res D).asB = .exc n as S := rfl
end
section
variable {ρ : Env} {S : Sto} {f g fa fb fc fd : FS} {a b c e : FE} {fr : FA} {i j l : Nat} {d d1 d2 : D} {x y : PyData} {m n : Int} {xs ys : List PyData} {op op2 : D → D → Sto → Res D} {un : D → Sto → Res D} {bc : List D → Sto → Res D} {ds : List D} {gg : FG} {gs : FGs} {fi : FI} {v o : D} {b0 : Bool} {k : Nat} {z : Str} {fl fh : FO} {t : Ty} {kds : D}
@[simp ↓] theorem ap_seq : fSeq f g ρ S = (f ρ S).seq g := rfl
def tupR (ds : List D) (S1 : Sto) : Res D := match asPs ds with
  | some ps => if ds.length < lim then .ok (.p (.tuple ps)) S1 else .bad
  | none => .bad
def lstR (ds : List D) (S1 : Sto) : Res D := match asPs ds with
  | some ps => if ds.length < lim then .ok (.p (.list ps)) S1 else .bad
  | none => .bad
def setIx4 (v o i : D) (ρ : Env) (S3 : Sto) : Fl := match o, i with
  | .own k, .p (.int j) => match S3[k]? with
    | some (.lst xs) => match ixN xs.length j with
      | some m => .nx ρ (S3.set k (.lst (xs.set m v)))
      | none => .bad
    | _ => .bad
  | _, _ => .bad
@[simp] theorem setIx4_own {v : D} {k : Nat} : setIx4 v (.own k) (.p (.int m)) ρ S = (match S[k]? with
    | some (.lst xs) => (match ixN xs.length m with
      | some q => .nx ρ (S.set k (.lst (xs.set q v)))
      | none => .bad)
    | _ => .bad) := rfl
def bin2K (op : D → D → Sto → Res D) (v : D) (r : Res D) : Res D := r.bind fun y S2 => op v y S2
def binK (op : D → D → Sto → Res D) (b : FE) (ρ : Env) (r : Res D) : Res D := r.bind fun x S1 => (b ρ S1).bind fun y S2 => op x y S2
def cons2K (v : D) (r : Res (List D)) : Res (List D) := r.bind fun xs S2 => .ok (v :: xs) S2
def consK (fr : FA) (ρ : Env) (r : Res D) : Res (List D) := r.bind fun x S1 => (fr ρ S1).bind fun xs S2 => .ok (x :: xs) S2
def chain3K (op2 : D → D → Sto → Res D) (v : D) (c : FE) (ρ : Env) (r : Res D) : Res D := r.asB.bind fun k S3 => if k = true then (c ρ S3).bind fun z S4 => op2 v z S4 else .ok (.p (.bool false)) S3
def chain2K (op op2 : D → D → Sto → Res D) (v : D) (c : FE) (ρ : Env) (r : Res D) : Res D := r.bind fun y S2 => (op v y S2).asB.bind fun k S3 => if k = true then (c ρ S3).bind fun z S4 => op2 y z S4 else .ok (.p (.bool false)) S3
def chainK (op op2 : D → D → Sto → Res D) (b c : FE) (ρ : Env) (r : Res D) : Res D := r.bind fun x S1 => (b ρ S1).bind fun y S2 => (op x y S2).asB.bind fun k S3 => if k = true then (c ρ S3).bind fun z S4 => op2 y z S4 else .ok (.p (.bool false)) S3
def app2K (k : Nat) (r : Res D) : Res D := r.bind fun d S2 => (match S2[k]? with | some (.lst xs) => if xs.length < lim then .ok (.p .none) (S2.set k (.lst (xs ++ [d]))) else .bad | _ => .bad)
def appK (b : FE) (ρ : Env) (r : Res D) : Res D := r.bind fun o S1 => match o with | .own k => (match S1[k]? with | some (.lst _) => (b ρ S1).bind fun d S2 => (match S2[k]? with | some (.lst xs) => if xs.length < lim then .ok (.p .none) (S2.set k (.lst (xs ++ [d]))) else .bad | _ => .bad) | _ => .bad) | _ => .bad
def setIx3K (v o : D) (ρ : Env) (r : Res D) : Fl := r.thn ρ fun i S3 => setIx4 v o i ρ S3
def setIx2K (v : D) (c : FE) (ρ : Env) (r : Res D) : Fl := r.thn ρ fun o S2 => (c ρ S2).thn ρ fun i S3 => setIx4 v o i ρ S3
def setIxK (b c : FE) (ρ : Env) (r : Res D) : Fl := r.thn ρ fun v S1 => (b ρ S1).thn ρ fun o S2 => (c ρ S2).thn ρ fun i S3 => setIx4 v o i ρ S3
def retK (ρ : Env) (r : Res D) : Fl := r.thn ρ fun d S1 => .rt d S1
def setK (i : Nat) (ρ : Env) (r : Res D) : Fl := r.thn ρ fun d S1 => .nx (ρ.set i (some d)) S1
def dropK (ρ : Env) (r : Res D) : Fl := r.thn ρ fun _ S1 => .nx ρ S1
def ifSK (f g : FS) (ρ : Env) (r : Res D) : Fl := r.asB.thn ρ fun b S1 => if b = true then f ρ S1 else g ρ S1
def andK (b : FE) (ρ : Env) (r : Res D) : Res D := r.asB.bind fun k S1 => if k = true then b ρ S1 else .ok (.p (.bool false)) S1
def orK (b : FE) (ρ : Env) (r : Res D) : Res D := r.asB.bind fun k S1 => if k = true then .ok (.p (.bool true)) S1 else b ρ S1
def notK (r : Res D) : Res D := r.asB.bind fun k S1 => .ok (.p (.bool (!k))) S1
def ifK (a b : FE) (ρ : Env) (r : Res D) : Res D := r.asB.bind fun k S1 => if k = true then a ρ S1 else b ρ S1
def unK (un : D → Sto → Res D) (r : Res D) : Res D := r.bind un
def callK (bc : List D → Sto → Res D) (r : Res (List D)) : Res D := r.bind bc
def tupK (r : Res (List D)) : Res D := r.bind tupR
def lstK (r : Res (List D)) : Res D := r.bind lstR
def lstOK (r : Res (List D)) : Res D := r.bind fun ds S1 => if ds.length < lim then .ok (.own S1.length) (S1 ++ [.lst ds]) else .bad
def parK (i j : Nat) (ρ : Env) (r : Res (List D)) : Fl := r.thn ρ fun ds S1 => match ds with | [d, e] => .nx ((ρ.set i (some d)).set j (some e)) S1 | _ => .bad
def par3K (i j l : Nat) (ρ : Env) (r : Res (List D)) : Fl := r.thn ρ fun ds S1 => match ds with | [d, e, f] => .nx (((ρ.set i (some d)).set j (some e)).set l (some f)) S1 | _ => .bad
def asgK (gg : FG) (ρ : Env) (r : Res D) : Fl := r.thn ρ fun d S1 => match gg d ρ with | some ρ1 => .nx ρ1 S1 | none => .bad
def itSK (r : Res D) : Res (List D) := r.bind fun d S1 => match d with | .p (.tuple ds) => .ok (ds.map D.p) S1 | .p (.list ds) => .ok (ds.map D.p) S1 | .scr ns => .ok ((ns.map PyData.int).map D.p) S1 | _ => .bad
def rng1K (r : Res (List D)) : Res (List D) := r.bind fun ds S1 => match ds with | [.p (.int j)] => if -1000000 < j ∧ j < 1000000 then .ok (rng 0 j.toNat) S1 else .bad | _ => .bad
def rng2K (r : Res (List D)) : Res (List D) := r.bind fun ds S1 => match ds with | [.p (.int i), .p (.int j)] => if -1000000 < i ∧ i < 1000000 ∧ -1000000 < j ∧ j < 1000000 then .ok (rng i (j - i).toNat) S1 else .bad | _ => .bad
def forK (gg : FG) (f : FS) (ρ : Env) (r : Res (List D)) : Fl := r.thn ρ fun ds S1 => forL gg f ds ρ S1
def isiK (t : Ty) (r : Res D) : Res D := r.bind fun d S1 => match d with | .p d => .ok (.p (.bool (isT t d))) S1 | .wld _ _ => .bad | _ => .bad
def frzK (r : Res D) : Res D := r.bind fun d S1 => match d with | .own k => (match S1[k]? with | some (.lst xs) => (match asPs xs with | some ps => .ok (.p (.list ps)) (S1.set k (.fz (.p (.list ps)))) | none => .bad) | _ => .bad) | _ => .bad
def kixK (r : Res D) : Res D := r.bind fun d S1 => match d with | .p (.str z) => if z = ("a" : Str) then .ok (.p (.int 0)) S1 else if z = ("b" : Str) then .ok (.p (.int 1)) S1 else .bad | _ => .bad
def sliceK (fl fh : FO) (ρ : Env) (r : Res D) : Res D := r.bind fun x S1 => (fl ρ S1).bind fun l S2 => (fh ρ S2).bind fun h S3 => gSl x l h S3
def fsomeK (r : Res D) : Res (Option Int) := r.bind fun d S1 => match d with | .p (.int i) => .ok (some i) S1 | _ => .bad
@[simp] theorem bin2K_ok : bin2K op v (.ok d S) = (op v d S) := rfl
@[simp] theorem bin2K_exc {s : Str} : bin2K op v (.exc s xs S) = .exc s xs S := rfl
@[simp ↓] theorem ap_bin : fBin op a b ρ S = binK op b ρ (a ρ S) := rfl
@[simp] theorem binK_ok : binK op b ρ (.ok d S) = (bin2K op d (b ρ S)) := rfl
@[simp] theorem binK_exc {s : Str} : binK op b ρ (.exc s xs S) = .exc s xs S := rfl
@[simp] theorem cons2K_ok : cons2K v (.ok ds S) = (.ok (v :: ds) S) := rfl
@[simp] theorem cons2K_exc {s : Str} : cons2K v (.exc s xs S) = .exc s xs S := rfl
@[simp ↓] theorem ap_cons : fCons a fr ρ S = consK fr ρ (a ρ S) := rfl
@[simp] theorem consK_ok : consK fr ρ (.ok d S) = (cons2K d (fr ρ S)) := rfl
@[simp] theorem consK_exc {s : Str} : consK fr ρ (.exc s xs S) = .exc s xs S := rfl
@[simp] theorem chain3K_ok : chain3K op2 v c ρ (.ok (.p (.bool b0)) S) = (if b0 = true then bin2K op2 v (c ρ S) else .ok (.p (.bool false)) S) := rfl
@[simp] theorem chain3K_exc {s : Str} : chain3K op2 v c ρ (.exc s xs S) = .exc s xs S := rfl
@[simp] theorem chain2K_ok : chain2K op op2 v c ρ (.ok d S) = (chain3K op2 d c ρ (op v d S)) := rfl
@[simp] theorem chain2K_exc {s : Str} : chain2K op op2 v c ρ (.exc s xs S) = .exc s xs S := rfl
@[simp ↓] theorem ap_chain : fChain op op2 a b c ρ S = chainK op op2 b c ρ (a ρ S) := rfl
@[simp] theorem chainK_ok : chainK op op2 b c ρ (.ok d S) = (chain2K op op2 d c ρ (b ρ S)) := rfl
@[simp] theorem chainK_exc {s : Str} : chainK op op2 b c ρ (.exc s xs S) = .exc s xs S := rfl
@[simp] theorem app2K_ok : app2K k (.ok d S) = (match S[k]? with | some (.lst xs) => if xs.length < lim then .ok (.p .none) (S.set k (.lst (xs ++ [d]))) else .bad | _ => .bad) := rfl
@[simp] theorem app2K_exc {s : Str} : app2K k (.exc s xs S) = .exc s xs S := rfl
@[simp ↓] theorem ap_app : fApp a b ρ S = appK b ρ (a ρ S) := rfl
@[simp] theorem appK_ok : appK b ρ (.ok (.own k) S) = (match S[k]? with | some (.lst _) => app2K k (b ρ S) | _ => .bad) := rfl
@[simp] theorem appK_exc {s : Str} : appK b ρ (.exc s xs S) = .exc s xs S := rfl
@[simp] theorem setIx3K_ok : setIx3K v o ρ (.ok d S) = (setIx4 v o d ρ S) := rfl
@[simp] theorem setIx3K_exc {s : Str} : setIx3K v o ρ (.exc s xs S) = .exc s xs ρ S := rfl
@[simp] theorem setIx2K_ok : setIx2K v c ρ (.ok d S) = (setIx3K v d ρ (c ρ S)) := rfl
@[simp] theorem setIx2K_exc {s : Str} : setIx2K v c ρ (.exc s xs S) = .exc s xs ρ S := rfl
@[simp ↓] theorem ap_setIx : fSetIx a b c ρ S = setIxK b c ρ (a ρ S) := rfl
@[simp] theorem setIxK_ok : setIxK b c ρ (.ok d S) = (setIx2K d c ρ (b ρ S)) := rfl
@[simp] theorem setIxK_exc {s : Str} : setIxK b c ρ (.exc s xs S) = .exc s xs ρ S := rfl
@[simp ↓] theorem ap_ret : fRet a ρ S = retK ρ (a ρ S) := rfl
@[simp] theorem retK_ok : retK ρ (.ok d S) = (.rt d S) := rfl
@[simp] theorem retK_exc {s : Str} : retK ρ (.exc s xs S) = .exc s xs ρ S := rfl
@[simp ↓] theorem ap_set : fSet i a ρ S = setK i ρ (a ρ S) := rfl
@[simp] theorem setK_ok : setK i ρ (.ok d S) = (.nx (ρ.set i (some d)) S) := rfl
@[simp] theorem setK_exc {s : Str} : setK i ρ (.exc s xs S) = .exc s xs ρ S := rfl
@[simp ↓] theorem ap_drop : fDrop a ρ S = dropK ρ (a ρ S) := rfl
@[simp] theorem dropK_ok : dropK ρ (.ok d S) = (.nx ρ S) := rfl
@[simp] theorem dropK_exc {s : Str} : dropK ρ (.exc s xs S) = .exc s xs ρ S := rfl
@[simp ↓] theorem ap_ifS : fIfS a f g ρ S = ifSK f g ρ (a ρ S) := rfl
@[simp] theorem ifSK_ok : ifSK f g ρ (.ok (.p (.bool b0)) S) = (if b0 = true then f ρ S else g ρ S) := rfl
@[simp] theorem ifSK_exc {s : Str} : ifSK f g ρ (.exc s xs S) = .exc s xs ρ S := rfl
@[simp ↓] theorem ap_and : fAnd a b ρ S = andK b ρ (a ρ S) := rfl
@[simp] theorem andK_ok : andK b ρ (.ok (.p (.bool b0)) S) = (if b0 = true then b ρ S else .ok (.p (.bool false)) S) := rfl
@[simp] theorem andK_exc {s : Str} : andK b ρ (.exc s xs S) = .exc s xs S := rfl
@[simp ↓] theorem ap_or : fOr a b ρ S = orK b ρ (a ρ S) := rfl
@[simp] theorem orK_ok : orK b ρ (.ok (.p (.bool b0)) S) = (if b0 = true then .ok (.p (.bool true)) S else b ρ S) := rfl
@[simp] theorem orK_exc {s : Str} : orK b ρ (.exc s xs S) = .exc s xs S := rfl
@[simp ↓] theorem ap_not : fNot a ρ S = notK (a ρ S) := rfl
@[simp] theorem notK_ok : notK (.ok (.p (.bool b0)) S) = (.ok (.p (.bool (!b0))) S) := rfl
@[simp] theorem notK_exc {s : Str} : notK (.exc s xs S) = .exc s xs S := rfl
@[simp ↓] theorem ap_if : fIf c a b ρ S = ifK a b ρ (c ρ S) := rfl
@[simp] theorem ifK_ok : ifK a b ρ (.ok (.p (.bool b0)) S) = (if b0 = true then a ρ S else b ρ S) := rfl
@[simp] theorem ifK_exc {s : Str} : ifK a b ρ (.exc s xs S) = .exc s xs S := rfl
@[simp ↓] theorem ap_un : fUn un a ρ S = unK un (a ρ S) := rfl
@[simp] theorem unK_ok : unK un (.ok d S) = (un d S) := rfl
@[simp] theorem unK_exc {s : Str} : unK un (.exc s xs S) = .exc s xs S := rfl
@[simp ↓] theorem ap_call : fCall bc fr ρ S = callK bc (fr ρ S) := rfl
@[simp] theorem callK_ok : callK bc (.ok ds S) = (bc ds S) := rfl
@[simp] theorem callK_exc {s : Str} : callK bc (.exc s xs S) = .exc s xs S := rfl
@[simp ↓] theorem ap_tup : fTup fr ρ S = tupK (fr ρ S) := rfl
@[simp] theorem tupK_ok : tupK (.ok ds S) = (tupR ds S) := rfl
@[simp] theorem tupK_exc {s : Str} : tupK (.exc s xs S) = .exc s xs S := rfl
@[simp ↓] theorem ap_lst : fLst fr ρ S = lstK (fr ρ S) := rfl
@[simp] theorem lstK_ok : lstK (.ok ds S) = (lstR ds S) := rfl
@[simp] theorem lstK_exc {s : Str} : lstK (.exc s xs S) = .exc s xs S := rfl
@[simp ↓] theorem ap_lstO : fLstO fr ρ S = lstOK (fr ρ S) := rfl
@[simp] theorem lstOK_ok : lstOK (.ok ds S) = (if ds.length < lim then .ok (.own S.length) (S ++ [.lst ds]) else .bad) := rfl
@[simp] theorem lstOK_exc {s : Str} : lstOK (.exc s xs S) = .exc s xs S := rfl
@[simp ↓] theorem ap_par : fPar i j fr ρ S = parK i j ρ (fr ρ S) := rfl
@[simp] theorem parK_ok : parK i j ρ (.ok [d1, d2] S) = (.nx ((ρ.set i (some d1)).set j (some d2)) S) := rfl
@[simp] theorem parK_exc {s : Str} : parK i j ρ (.exc s xs S) = .exc s xs ρ S := rfl
@[simp ↓] theorem ap_par3 : fPar3 i j l fr ρ S = par3K i j l ρ (fr ρ S) := rfl
@[simp] theorem par3K_ok : par3K i j l ρ (.ok [d1, d2, d] S) = (.nx (((ρ.set i (some d1)).set j (some d2)).set l (some d)) S) := rfl
@[simp] theorem par3K_exc {s : Str} : par3K i j l ρ (.exc s xs S) = .exc s xs ρ S := rfl
@[simp ↓] theorem ap_asg : fAsg a gg ρ S = asgK gg ρ (a ρ S) := rfl
@[simp] theorem asgK_ok : asgK gg ρ (.ok d S) = (match gg d ρ with | some ρ1 => .nx ρ1 S | none => .bad) := rfl
@[simp] theorem asgK_exc {s : Str} : asgK gg ρ (.exc s xs S) = .exc s xs ρ S := rfl
@[simp ↓] theorem ap_itS : fItS a ρ S = itSK (a ρ S) := rfl
@[simp] theorem itSK_ok : itSK (.ok d S) = (match d with | .p (.tuple ds) => .ok (ds.map D.p) S | .p (.list ds) => .ok (ds.map D.p) S | .scr ns => .ok ((ns.map PyData.int).map D.p) S | _ => .bad) := rfl
@[simp] theorem itSK_exc {s : Str} : itSK (.exc s xs S) = .exc s xs S := rfl
@[simp ↓] theorem ap_rng1 : fRng1 fr ρ S = rng1K (fr ρ S) := rfl
@[simp] theorem rng1K_ok : rng1K (.ok [.p (.int m)] S) = (if -1000000 < m ∧ m < 1000000 then .ok (rng 0 m.toNat) S else .bad) := rfl
@[simp] theorem rng1K_exc {s : Str} : rng1K (.exc s xs S) = .exc s xs S := rfl
@[simp ↓] theorem ap_rng2 : fRng2 fr ρ S = rng2K (fr ρ S) := rfl
@[simp] theorem rng2K_ok : rng2K (.ok [.p (.int m), .p (.int n)] S) = (if -1000000 < m ∧ m < 1000000 ∧ -1000000 < n ∧ n < 1000000 then .ok (rng m (n - m).toNat) S else .bad) := rfl
@[simp] theorem rng2K_exc {s : Str} : rng2K (.exc s xs S) = .exc s xs S := rfl
@[simp ↓] theorem ap_for : fFor fi gg f ρ S = forK gg f ρ (fi ρ S) := rfl
@[simp] theorem forK_ok : forK gg f ρ (.ok ds S) = (forL gg f ds ρ S) := rfl
@[simp] theorem forK_exc {s : Str} : forK gg f ρ (.exc s xs S) = .exc s xs ρ S := rfl
@[simp ↓] theorem ap_isi {t : Ty} : fIsi t a ρ S = isiK t (a ρ S) := rfl
@[simp] theorem isiK_ok : isiK t (.ok (.p x) S) = (.ok (.p (.bool (isT t x))) S) := rfl
@[simp] theorem isiK_exc {s : Str} : isiK t (.exc s xs S) = .exc s xs S := rfl
@[simp ↓] theorem ap_frz : fFrz a ρ S = frzK (a ρ S) := rfl
@[simp] theorem frzK_ok : frzK (.ok (.own k) S) = (match S[k]? with | some (.lst xs) => (match asPs xs with | some ps => .ok (.p (.list ps)) (S.set k (.fz (.p (.list ps)))) | none => .bad) | _ => .bad) := rfl
@[simp] theorem frzK_exc {s : Str} : frzK (.exc s xs S) = .exc s xs S := rfl
@[simp ↓] theorem ap_kix : fKix a ρ S = kixK (a ρ S) := rfl
@[simp] theorem kixK_ok : kixK (.ok (.p (.str z)) S) = (if z = ("a" : Str) then .ok (.p (.int 0)) S else if z = ("b" : Str) then .ok (.p (.int 1)) S else .bad) := rfl
@[simp] theorem kixK_exc {s : Str} : kixK (.exc s xs S) = .exc s xs S := rfl
@[simp ↓] theorem ap_slice {fl fh : FO} : fSlice a fl fh ρ S = sliceK fl fh ρ (a ρ S) := rfl
@[simp] theorem sliceK_ok : sliceK fl fh ρ (.ok d S) = ((fl ρ S).bind fun l S2 => (fh ρ S2).bind fun h S3 => gSl d l h S3) := rfl
@[simp] theorem sliceK_exc {s : Str} : sliceK fl fh ρ (.exc s xs S) = .exc s xs S := rfl
@[simp ↓] theorem ap_fsome : fSome a ρ S = fsomeK (a ρ S) := rfl
@[simp] theorem fsomeK_ok : fsomeK (.ok (.p (.int m)) S) = (.ok (some m) S) := rfl
@[simp] theorem fsomeK_exc {s : Str} : fsomeK (.exc s xs S) = .exc s xs S := rfl
def augK (i : Nat) (op : D → D → Sto → Res D) (ρ : Env) (x : PyData) (r : Res D) : Fl := r.thn ρ fun d1 S1 => (op (.p x) d1 S1).thn ρ fun d2 S2 => .nx (ρ.set i (some d2)) S2
@[simp ↓] theorem ap_aug : fAug i op b ρ S = (match ρ[i]? with
  | some (some (.p d0)) => augK i op ρ d0 (b ρ S)
  | _ => .bad) := rfl
@[simp] theorem augK_ok : augK i op ρ x (.ok d S) = setK i ρ (op (.p x) d S) := rfl
@[simp] theorem augK_exc {s : Str} : augK i op ρ x (.exc s xs S) = .exc s xs ρ S := rfl
@[simp ↓] theorem ap_pass : fPass ρ S = .nx ρ S := rfl
@[simp ↓] theorem ap_retN : fRetN ρ S = .rt (.p .none) S := rfl
@[simp ↓] theorem ap_brk : fBrk ρ S = .bk ρ S := rfl
@[simp ↓] theorem ap_cnt : fCnt ρ S = .ct ρ S := rfl
@[simp ↓] theorem ap_var : fVar i ρ S = (match ρ[i]? with
  | some (some .exn) => .bad
  | some (some d) => .ok d S
  | _ => .bad) := rfl
@[simp ↓] theorem ap_con : fCon x ρ S = .ok (.p x) S := rfl
@[simp ↓] theorem ap_nil : fNil ρ S = .ok [] S := rfl
theorem lt_lim {n : Nat} (h : n < 1000000) : n < lim := h
@[simp] theorem lim_val : lim = 1000000 := rfl
@[simp] theorem asPs_nil : asPs [] = some [] := rfl
@[simp] theorem asPs_cons : asPs (.p x :: ds) = (asPs ds).map (x :: ·) := rfl
@[simp] theorem tupR_eq : tupR ds S = (match asPs ds with
  | some ps => if ds.length < lim then .ok (.p (.tuple ps)) S else .bad
  | none => .bad) := rfl
@[simp] theorem lstR_eq : lstR ds S = (match asPs ds with
  | some ps => if ds.length < lim then .ok (.p (.list ps)) S else .bad
  | none => .bad) := rfl
@[simp ↓] theorem ap_nm : gNm i d ρ = some (ρ.set i (some d)) := rfl
@[simp ↓] theorem ap_gsNil : gsNil [] ρ = some ρ := rfl
@[simp ↓] theorem ap_gsCons : gsCons gg gs (d :: ds) ρ = (gg d ρ).bind (gs ds) := rfl
@[simp ↓] theorem ap_gTp : gTp i gs (.p (.tuple xs)) ρ = if xs.length = i then gs (xs.map D.p) ρ else none := rfl
@[simp ↓] theorem ap_while {k : Nat} : fWhile k a f ρ S = whileN a f k ρ S := rfl
/-- what follows one round -/
def Fl.rnd (o : Fl) (k : Env → Sto → Fl) : Fl := match o with
  | .nx ρ2 S2 => k ρ2 S2
  | .ct ρ2 S2 => k ρ2 S2
  | .bk ρ2 S2 => .nx ρ2 S2
  | o => o

@[simp] theorem rnd_nx {k : Env → Sto → Fl} : (Fl.nx ρ S).rnd k = k ρ S := rfl
@[simp] theorem rnd_ct {k : Env → Sto → Fl} : (Fl.ct ρ S).rnd k = k ρ S := rfl
@[simp] theorem rnd_bk {k : Env → Sto → Fl} : (Fl.bk ρ S).rnd k = .nx ρ S := rfl
@[simp] theorem rnd_rt {k : Env → Sto → Fl} : (Fl.rt d S).rnd k = .rt d S := rfl
@[simp] theorem rnd_exc {k : Env → Sto → Fl} {n : Str} : (Fl.exc n xs ρ S).rnd k = .exc n xs ρ S := rfl
@[simp ↓] theorem forL_nil : forL gg f [] ρ S = .nx ρ S := rfl
@[simp ↓] theorem forL_cons : forL gg f (d :: ds) ρ S = (match gg d ρ with
  | none => .bad
  | some ρ1 => (f ρ1 S).rnd fun ρ2 S2 => forL gg f ds ρ2 S2) := rfl
theorem whileN_succ {k : Nat} : whileN a f (k + 1) ρ S = (a ρ S).asB.thn ρ fun b S1 => if b = true then (f ρ S1).rnd (whileN a f k) else .nx ρ S1 := rfl
@[simp ↓] theorem ap_raise0 {n : Str} : fRaise0 n ρ S = .exc n [] ρ S := rfl
@[simp ↓] theorem ap_no : fNo ρ S = .ok none S := rfl
@[simp] theorem ap_yes : fYes ρ S = .ok (.p (.bool true)) S := rfl
/-! the operators -/
@[simp] theorem g_gI {h : Int → Int → PyData} : gI h (.p (.int m)) (.p (.int n)) S = .ok (.p (h m n)) S := rfl
@[simp] theorem g_sub : gMinus (.p (.int m)) (.p (.int n)) S = .ok (.p (.int (m - n))) S := rfl
@[simp] theorem g_add : gAdd (.p (.int m)) (.p (.int n)) S = .ok (.p (.int (m + n))) S := rfl
@[simp] theorem g_neg : gNeg (.p (.int m)) S = .ok (.p (.int (-m))) S := rfl
theorem g_mul : gMul (.p (.int m)) (.p (.int n)) S = if cMul m n = true then .ok (.p (.int (m * n))) S else .bad := rfl
@[simp] theorem g_mulR (h : -18446744073709551616 < n ∧ n < 18446744073709551616) : gMul (.p (.int m)) (.p (.int n)) S = .ok (.p (.int (m * n))) S := by
  rw [g_mul, if_pos]
  unfold cMul
  rw [Bool.or_eq_true]
  exact .inr (decide_eq_true h)
@[simp] theorem g_mulL (h : -18446744073709551616 < m ∧ m < 18446744073709551616) : gMul (.p (.int m)) (.p (.int n)) S = .ok (.p (.int (m * n))) S := by
  rw [g_mul, if_pos]
  unfold cMul
  rw [Bool.or_eq_true]
  exact .inl (decide_eq_true h)
@[simp] theorem g_div (h : 0 < n ∧ n < 1073741824) : gDiv (.p (.int m)) (.p (.int n)) S = .ok (.p (.int (m / n))) S := if_pos (decide_eq_true h)
@[simp] theorem g_mod (h : 0 < n) : gMod (.p (.int m)) (.p (.int n)) S = .ok (.p (.int (m % n))) S := if_pos (decide_eq_true h)
@[simp] theorem g_pow (h : 0 ≤ n ∧ n ≤ 1000000 ∧ m.natAbs < 18446744073709551616) : gPow (.p (.int m)) (.p (.int n)) S = .ok (.p (.int (m ^ n.toNat))) S := if_pos (decide_eq_true h)
@[simp] theorem g_lt : gLt (.p (.int m)) (.p (.int n)) S = .ok (.p (.bool (decide (m < n)))) S := rfl
@[simp] theorem g_le : gLe (.p (.int m)) (.p (.int n)) S = .ok (.p (.bool (decide (m ≤ n)))) S := rfl
@[simp] theorem g_gt : gGt (.p (.int m)) (.p (.int n)) S = .ok (.p (.bool (decide (n < m)))) S := rfl
@[simp] theorem g_ge : gGe (.p (.int m)) (.p (.int n)) S = .ok (.p (.bool (decide (n ≤ m)))) S := rfl
@[simp] theorem g_isN : gIsN d (.p .none) S = .ok (.p (.bool (isN d))) S := rfl
@[simp] theorem g_notN : gNotN d (.p .none) S = .ok (.p (.bool (!isN d))) S := rfl
@[simp] theorem isN_non : isN (.p .none) = true := rfl
@[simp] theorem isN_int : isN (.p (.int m)) = false := rfl
@[simp] theorem isN_tup : isN (.p (.tuple xs)) = false := rfl
theorem g_eq (h : (SeqAt.shaped x && SeqAt.shaped y) = true) : gEq (.p x) (.p y) S = .ok (.p (.bool (PyData.eqv x y))) S := if_pos h
theorem g_ne (h : (SeqAt.shaped x && SeqAt.shaped y) = true) : gNe (.p x) (.p y) S = .ok (.p (.bool (!PyData.eqv x y))) S := if_pos h
@[simp] theorem g_eqI : gEq (.p (.int m)) (.p (.int n)) S = .ok (.p (.bool (decide (m = n)))) S := rfl
@[simp] theorem g_neI : gNe (.p (.int m)) (.p (.int n)) S = .ok (.p (.bool (!decide (m = n)))) S := rfl
theorem g_ixT : gIx (.p (.tuple xs)) (.p (.int m)) S = (match atI xs m with
  | some d => .ok (.p d) S
  | none => .bad) := rfl
theorem g_ixL : gIx (.p (.list xs)) (.p (.int m)) S = (match atI xs m with
  | some d => .ok (.p d) S
  | none => .bad) := rfl
theorem g_ixO {k : Nat} : gIx (.own k) (.p (.int m)) S = (match S[k]? with
  | some (.lst xs) => (match atI xs m with
    | some d => .ok d S
    | none => .bad)
  | _ => .bad) := rfl
@[simp] theorem g_len_t : gLen [.p (.tuple xs)] S = .ok (.p (.int xs.length)) S := rfl
@[simp] theorem g_len_l : gLen [.p (.list xs)] S = .ok (.p (.int xs.length)) S := rfl
@[simp] theorem g_len_o {k : Nat} : gLen [.own k] S = (match S[k]? with
  | some (.lst xs) => .ok (.p (.int xs.length)) S
  | _ => .bad) := rfl
@[simp] theorem g_max : gMax2 [.p (.int m), .p (.int n)] S = .ok (.p (.int (if n > m then n else m))) S := rfl
@[simp] theorem g_min : gMin2 [.p (.int m), .p (.int n)] S = .ok (.p (.int (if n < m then n else m))) S := rfl
@[simp] theorem g_int : gInt [.p (.int m)] S = .ok (.p (.int m)) S := rfl
@[simp] theorem g_intB {k : Bool} : gInt [.p (.bool k)] S = .ok (.p (.int (if k then 1 else 0))) S := rfl
end
theorem ixN_nat {n : Nat} {i : Int} (h0 : 0 ≤ i) (h1 : i < n) : ixN n i = some i.toNat := by
  unfold ixN
  rw [if_pos h0, if_pos h1]
theorem atI_some {α : Type} {xs : List α} {i : Int} {x : α} (h0 : 0 ≤ i) (h : xs[i.toNat]? = some x) : atI xs i = some x := by
  have h2 : i.toNat < xs.length := (List.getElem?_eq_some_iff.mp h).1
  unfold atI
  rw [ixN_nat h0 (by omega)]
  exact h
@[simp] theorem atI_0 {α : Type} {x : α} {xs : List α} : atI (x :: xs) 0 = some x := atI_some (by decide) rfl
@[simp] theorem atI_1 {α : Type} {x y : α} {xs : List α} : atI (x :: y :: xs) 1 = some y := atI_some (by decide) rfl
@[simp] theorem atI_2 {α : Type} {x y z : α} {xs : List α} : atI (x :: y :: z :: xs) 2 = some z := atI_some (by decide) rfl
@[simp] theorem atI_3 {α : Type} {x y z u : α} {xs : List α} : atI (x :: y :: z :: u :: xs) 3 = some u := atI_some (by decide) rfl
section
variable {ρ ρ1 : Env} {S : Sto} {a b ft fe : FE} {fi : FI} {g : FG} {vs : List Nat} {d : D} {ds : List D} {xs : List PyData} {b0 : Bool} {n : Str} {f : FS} {ns : List Str} {cl : List FCl}
def compE (r : Res (List D)) : Res D := r.bind compEnd
def compK (vs : List Nat) (g : FG) (ft fe : FE) (ρ : Env) (r : Res (List D)) : Res D := r.bind fun ds S1 => if ds.length < lim then compE (compL g ft fe (wipeE ρ vs) ds S1) else .bad
def cK3 (d : D) (r : Res (List D)) : Res (List D) := r.bind fun xs S3 => .ok (d :: xs) S3
def cK2 (g : FG) (ft fe : FE) (ρw : Env) (ds : List D) (r : Res D) : Res (List D) := r.noX.bind fun x S2 => cK3 x (compL g ft fe ρw ds S2)
def cK1 (g : FG) (ft fe : FE) (ρw : Env) (ds : List D) (ρ1 : Env) (r : Res D) : Res (List D) := r.noX.asB.bind fun k S1 => if k = true then cK2 g ft fe ρw ds (fe ρ1 S1) else compL g ft fe ρw ds S1
@[simp ↓] theorem ap_comp : fComp vs fi g ft fe ρ S = compK vs g ft fe ρ (fi ρ S) := rfl
@[simp] theorem compK_ok : compK vs g ft fe ρ (.ok ds S) = if ds.length < lim then compE (compL g ft fe (wipeE ρ vs) ds S) else .bad := rfl
@[simp] theorem compE_ok : compE (.ok ds S) = (match asPs ds with
  | some ps => .ok (.p (.list ps)) S
  | none => .bad) := rfl
@[simp ↓] theorem compL_nil : compL g ft fe ρ [] S = .ok [] S := rfl
@[simp ↓] theorem compL_cons : compL g ft fe ρ (d :: ds) S = (match g d ρ with
  | none => .bad
  | some ρ1 => cK1 g ft fe ρ ds ρ1 (ft ρ1 S)) := rfl
@[simp] theorem cK1_ok : cK1 g ft fe ρ ds ρ1 (.ok (.p (.bool b0)) S) = if b0 = true then cK2 g ft fe ρ ds (fe ρ1 S) else compL g ft fe ρ ds S := rfl
@[simp] theorem cK2_ok : cK2 g ft fe ρ ds (.ok d S) = cK3 d (compL g ft fe ρ ds S) := rfl
@[simp] theorem cK3_ok : cK3 d (.ok ds S) = .ok (d :: ds) S := rfl
@[simp] theorem wipe_0 : wipeE ρ [] = ρ := rfl
@[simp] theorem wipe_1 {v : Nat} : wipeE ρ (v :: vs) = (wipeE ρ vs).set v none := rfl
@[simp] theorem bools_nil : boolsOf [] = some [] := rfl
@[simp] theorem bools_cons : boolsOf (.bool b0 :: xs) = (boolsOf xs).map (b0 :: ·) := rfl
@[simp] theorem g_all : gAll [.p (.list xs)] S = (match boolsOf xs with
  | some bs => .ok (.p (.bool (bs.all id))) S
  | none => .bad) := rfl
@[simp] theorem g_any : gAny [.p (.list xs)] S = (match boolsOf xs with
  | some bs => .ok (.p (.bool (bs.any id))) S
  | none => .bad) := rfl
def tryK (ns : List Str) (cl : List FCl) (o : Fl) : Fl := match o with
  | .exc n as ρ1 S1 => if n ∈ ns then clsF n as ρ1 S1 cl else .bad
  | o => o
@[simp ↓] theorem ap_try : fTry ns f cl ρ S = tryK ns cl (f ρ S) := rfl
@[simp] theorem tryK_nx : tryK ns cl (.nx ρ S) = .nx ρ S := rfl
@[simp] theorem tryK_rt : tryK ns cl (.rt d S) = .rt d S := rfl
@[simp] theorem tryK_exc : tryK ns cl (.exc n xs ρ S) = if n ∈ ns then clsF n xs ρ S cl else .bad := rfl
@[simp] theorem isT_int {i : Int} : isT .int (.int i) = true := rfl
@[simp] theorem isT_bool {i : Int} : isT .bool (.int i) = false := rfl
@[simp] theorem isT_tup : isT .tuple (.tuple xs) = true := rfl
@[simp] theorem isT_lst : isT .list (.list xs) = true := rfl
@[simp] theorem isT_str : isT .str (.str n) = true := rfl
@[simp] theorem g_tup_t : gTuple [.p (.tuple xs)] S = .ok (.p (.tuple xs)) S := rfl
@[simp] theorem g_tup_l : gTuple [.p (.list xs)] S = .ok (.p (.tuple xs)) S := rfl
@[simp] theorem g_sl {l h : Option Int} : gSl (.p (.tuple xs)) l h S = .ok (.p (.tuple (cutD xs l h))) S := rfl
theorem g_in {d : PyData} {neg : Bool} (h : (flatD d && xs.all flatD) = true) : gIn neg (.p d) (.p (.tuple xs)) S = .ok (.p (.bool (if neg = true then !inF d xs else inF d xs))) S := if_pos h
end
end Tw
namespace Tw
open PySem PySem.Spec PyProof.Rows L2
def m_is_integer : FS := (fRet (fAnd (fIsi .int (fVar 0)) (fAnd (fNot (fIsi .bool (fVar 0))) (fChain gLe gLe (fVar 1) (fVar 0) (fVar 2)))))

def m_is_pair : FS := (fRet (fAnd (fIsi .tuple (fVar 0)) (fAnd (fBin gEq (fCall gLen (fCons (fVar 0) fNil)) (fCon (.int 2))) (fCall gAll (fCons (fComp [2] (fItS (fVar 0)) (gNm 2) fYes (fCall (callM 3 m_is_integer) (fCons (fVar 2) (fCons (fCon (.int 0)) (fCons (fVar 1) fNil))))) fNil)))))

def m_is_purse : FS := (fRet (fCall (callM 3 m_is_pair) (fCons (fVar 0) (fCons (fCon (.int 4)) fNil))))

def m_is_total : FS := (fSeq (fIfS (fOr (fNot (fIsi .tuple (fVar 0))) (fOr (fBin gNe (fCall gLen (fCons (fVar 0) fNil)) (fCon (.int 3))) (fNot (fCall (callM 3 m_is_pair) (fCons (fSlice (fVar 0) fNo (fSome (fCon (.int 2)))) (fCons (fCon (.int 4)) fNil)))))) (fRet (fCon (.bool false))) fPass)
  (fRet (fCall (callM 3 m_is_integer) (fCons (fBin gIx (fVar 0) (fCon (.int 2))) (fCons (fUn gNeg (fCon (.int 12))) (fCons (fCon (.int 12)) fNil))))))

def m_is_step : FS := (fSeq (fIfS (fOr (fNot (fIsi .tuple (fVar 0))) (fOr (fBin gNe (fCall gLen (fCons (fVar 0) fNil)) (fCon (.int 2))) (fNot (fCall gAll (fCons (fComp [1] (fItS (fVar 0)) (gNm 1) fYes (fIsi .str (fVar 1))) fNil))))) (fRet (fCon (.bool false))) fPass)
  (fRet (fAnd (fBin (gIn false) (fBin gIx (fVar 0) (fCon (.int 0))) (fCon (.tuple [.str ("most" : PySem.Str), .str ("one" : PySem.Str)]))) (fBin (gIn false) (fBin gIx (fVar 0) (fCon (.int 1))) (fCon (.tuple [.str ("a" : PySem.Str), .str ("b" : PySem.Str)]))))))

def m_is_recipe : FS := (fRet (fAnd (fIsi .tuple (fVar 0)) (fAnd (fBin gLe (fCall gLen (fCons (fVar 0) fNil)) (fCon (.int 4))) (fCall gAll (fCons (fComp [1] (fItS (fVar 0)) (gNm 1) fYes (fCall (callM 2 m_is_step) (fCons (fVar 1) fNil))) fNil)))))

def m_is_worths : FS := (fRet (fAnd (fCall (callM 3 m_is_pair) (fCons (fVar 0) (fCons (fCon (.int 1000000000)) fNil))) (fBin (gIn true) (fCon (.int 0)) (fVar 0))))

def m_look_at : FS := (fSeq (fIfS (fNot (fCall (callM 1 m_is_purse) (fCons (fVar 0) fNil))) (fRaise0 ("InvalidPurse" : PySem.Str)) fPass)
  (fSeq (fIfS (fNot (fCall (callM 1 m_is_total) (fCons (fVar 1) fNil))) (fRaise0 ("InvalidTotal" : PySem.Str)) fPass)
  (fIfS (fNot (fCall gAll (fCons (fComp [3] (fItS (fVar 2)) (gNm 3) fYes (fCall (callM 2 m_is_recipe) (fCons (fVar 3) fNil))) fNil))) (fRaise0 ("InvalidRecipe" : PySem.Str)) fPass)))

def m_more_of : FS := (fRet (fIf (fBin gEq (fVar 1) (fCon (.int 0))) (fTup (fCons (fBin gAdd (fBin gIx (fVar 0) (fCon (.int 0))) (fVar 2)) (fCons (fBin gIx (fVar 0) (fCon (.int 1))) fNil))) (fTup (fCons (fBin gIx (fVar 0) (fCon (.int 0))) (fCons (fBin gAdd (fBin gIx (fVar 0) (fCon (.int 1))) (fVar 2)) fNil)))))

def m_steps_done : FS := (fSeq (fSet 4 (fTup (fCons (fCon (.int 0)) (fCons (fCon (.int 0)) fNil))))
  (fSeq (fFor (fItS (fVar 3)) (gTp 2 (gsCons (gNm 5) (gsCons (gNm 6) gsNil)))
   (fSeq (fSet 7 (fKix (fVar 6)))
  (fSeq (fSet 8 (fBin gMinus (fBin gIx (fVar 1) (fVar 7)) (fBin gIx (fVar 4) (fVar 7))))
  (fSeq (fSet 9 (fCall gMin2 (fCons (fVar 8) (fCons (fCall gInt (fCons (fBin gGt (fVar 2) (fCon (.int 0))) fNil)) fNil))))
  (fSeq (fIfS (fBin gEq (fVar 5) (fCon (.str ("most" : PySem.Str)))) (fSet 9 (fCall gMin2 (fCons (fVar 8) (fCons (fBin gDiv (fCall gMax2 (fCons (fVar 2) (fCons (fCon (.int 0)) fNil))) (fBin gIx (fVar 0) (fVar 7))) fNil)))) fPass)
  (fSeq (fSet 4 (fCall (callM 3 m_more_of) (fCons (fVar 4) (fCons (fVar 7) (fCons (fVar 9) fNil)))))
  (fAug 2 (gI fun i j => .int (i - j)) (fBin gMul (fVar 9) (fBin gIx (fVar 0) (fVar 7))))))))))
  (fRet (fTup (fCons (fVar 4) (fCons (fVar 2) fNil))))))

def m_paid : FS := (fSeq (fIfS (fNot (fCall (callM 1 m_is_worths) (fCons (fVar 0) fNil))) (fRaise0 ("InvalidWorths" : PySem.Str)) fPass)
  (fSeq (fDrop (fCall (callM 4 m_look_at) (fCons (fVar 1) (fCons (fVar 2) (fCons (fTup (fCons (fVar 3) fNil)) fNil)))))
  (fRet (fCall (callM 10 m_steps_done) (fCons (fVar 0) (fCons (fVar 1) (fCons (fBin gAdd (fBin gAdd (fBin gMul (fBin gIx (fVar 2) (fCon (.int 0))) (fBin gIx (fVar 0) (fCon (.int 0)))) (fBin gMul (fBin gIx (fVar 2) (fCon (.int 1))) (fBin gIx (fVar 0) (fCon (.int 1))))) (fBin gIx (fVar 2) (fCon (.int 2)))) (fCons (fVar 3) fNil))))))))

def m__law_mix : FS := (fSeq (fSet 2 (fVar 1))
  (fSeq (fFor (fItS (fVar 0)) (gNm 3)
   (fSet 2 (fBin gMod (fCall gInt (fCons (fBin gAdd (fBin gAdd (fBin gMul (fVar 2) (fCon (.int 48271))) (fBin gMod (fCall gInt (fCons (fVar 3) fNil)) (fCon (.int 2147483629)))) (fCon (.int 1))) fNil)) (fCon (.int 2147483647)))))
  (fRet (fLstO (fCons (fVar 2) (fCons (fCall gListO (fCons (fVar 0) fNil)) (fCons (fCon (.int 0)) (fCons (fCon (.int 14)) fNil))))))))

def m__law_next : FS := (fSeq (fSet 2 (fBin gIx (fBin gAdd (fBin gIx (fVar 0) (fCon (.int 1))) (fLst (fCons (fCon (.int 0)) fNil))) (fBin gMod (fCall gInt (fCons (fBin gIx (fVar 0) (fCon (.int 2))) fNil)) (fCall gMax2 (fCons (fCon (.int 1)) (fCons (fCall gLen (fCons (fBin gIx (fVar 0) (fCon (.int 1))) fNil)) fNil))))))
  (fSeq (fIfS (fBin gGe (fVar 2) (fBin gPow (fCon (.int 10)) (fCon (.int 18)))) (fSeq (fSetIx (fBin gDiv (fVar 2) (fVar 1)) (fBin gIx (fVar 0) (fCon (.int 1))) (fBin gMod (fCall gInt (fCons (fBin gIx (fVar 0) (fCon (.int 2))) fNil)) (fCall gLen (fCons (fBin gIx (fVar 0) (fCon (.int 1))) fNil))))
  (fRet (fBin gMod (fCall gInt (fCons (fVar 2) fNil)) (fVar 1)))) fPass)
  (fSeq (fSetIx (fBin gMod (fCall gInt (fCons (fBin gAdd (fBin gAdd (fBin gMul (fBin gIx (fVar 0) (fCon (.int 0))) (fCon (.int 48271))) (fBin gMul (fVar 2) (fCon (.int 69621)))) (fCon (.int 11))) fNil)) (fCon (.int 2147483647))) (fVar 0) (fCon (.int 0)))
  (fSeq (fSetIx (fBin gAdd (fBin gIx (fVar 0) (fCon (.int 2))) (fCon (.int 1))) (fVar 0) (fCon (.int 2)))
  (fRet (fBin gMod (fCall gInt (fCons (fBin gDiv (fBin gIx (fVar 0) (fCon (.int 0))) (fCon (.int 7))) fNil)) (fVar 1)))))))

def m__law_purse : FS := (fRet (fTup (fCons (fCall (callM 3 m__law_next) (fCons (fVar 0) (fCons (fCon (.int 5)) fNil))) (fCons (fCall (callM 3 m__law_next) (fCons (fVar 0) (fCons (fCon (.int 5)) fNil))) fNil))))

def m__law_total : FS := (fRet (fTup (fCons (fCall (callM 3 m__law_next) (fCons (fVar 0) (fCons (fCon (.int 5)) fNil))) (fCons (fCall (callM 3 m__law_next) (fCons (fVar 0) (fCons (fCon (.int 5)) fNil))) (fCons (fBin gIx (fLst (fCons (fCon (.int 0)) (fCons (fCon (.int 0)) (fCons (fBin gMinus (fCall (callM 3 m__law_next) (fCons (fVar 0) (fCons (fCon (.int 25)) fNil))) (fCon (.int 12))) (fCons (fBin gMinus (fCall (callM 3 m__law_next) (fCons (fVar 0) (fCons (fCon (.int 7)) fNil))) (fCon (.int 3))) fNil))))) (fCall (callM 3 m__law_next) (fCons (fVar 0) (fCons (fCon (.int 4)) fNil)))) fNil)))))

def m__law_recipe : FS := (fSeq (fSet 1 (fLstO fNil))
  (fSeq (fFor (fRng1 (fCons (fCall (callM 3 m__law_next) (fCons (fVar 0) (fCons (fCon (.int 5)) fNil))) fNil)) (gNm 2)
   (fDrop (fApp (fVar 1) (fTup (fCons (fBin gIx (fLst (fCons (fCon (.str ("most" : PySem.Str))) (fCons (fCon (.str ("one" : PySem.Str))) (fCons (fCon (.str ("most" : PySem.Str))) fNil)))) (fCall (callM 3 m__law_next) (fCons (fVar 0) (fCons (fCon (.int 3)) fNil)))) (fCons (fBin gIx (fLst (fCons (fCon (.str ("a" : PySem.Str))) (fCons (fCon (.str ("b" : PySem.Str))) fNil))) (fCall (callM 3 m__law_next) (fCons (fVar 0) (fCons (fCon (.int 2)) fNil)))) fNil))))))
  (fRet (fCall gTuple (fCons (fVar 1) fNil)))))

def m__law_done : FS := (fSeq (fSet 4 (fBin gAdd (fBin gAdd (fBin gMul (fBin gIx (fVar 2) (fCon (.int 0))) (fBin gIx (fVar 0) (fCon (.int 0)))) (fBin gMul (fBin gIx (fVar 2) (fCon (.int 1))) (fBin gIx (fVar 0) (fCon (.int 1))))) (fBin gIx (fVar 2) (fCon (.int 2)))))
  (fSeq (fSet 5 (fLstO (fCons (fBin gIx (fVar 1) (fCon (.int 0))) (fCons (fBin gIx (fVar 1) (fCon (.int 1))) fNil))))
  (fSeq (fFor (fItS (fVar 3)) (gTp 2 (gsCons (gNm 6) (gsCons (gNm 7) gsNil)))
   (fSeq (fSet 8 (fIf (fBin gEq (fVar 7) (fCon (.str ("a" : PySem.Str)))) (fCon (.int 0)) (fCon (.int 1))))
  (fIfS (fBin gEq (fVar 6) (fCon (.str ("one" : PySem.Str)))) (fIfS (fAnd (fBin gGt (fBin gIx (fVar 5) (fVar 8)) (fCon (.int 0))) (fBin gGt (fVar 4) (fCon (.int 0)))) (fSeq (fSetIx (fBin gMinus (fBin gIx (fVar 5) (fVar 8)) (fCon (.int 1))) (fVar 5) (fVar 8))
  (fSet 4 (fBin gMinus (fVar 4) (fBin gIx (fVar 0) (fVar 8))))) fPass) (fWhile 1000 (fAnd (fBin gGt (fBin gIx (fVar 5) (fVar 8)) (fCon (.int 0))) (fBin gLe (fBin gIx (fVar 0) (fVar 8)) (fVar 4))) (fSeq (fSetIx (fBin gMinus (fBin gIx (fVar 5) (fVar 8)) (fCon (.int 1))) (fVar 5) (fVar 8))
  (fSet 4 (fBin gMinus (fVar 4) (fBin gIx (fVar 0) (fVar 8)))))))))
  (fRet (fTup (fCons (fTup (fCons (fBin gMinus (fBin gIx (fVar 1) (fCon (.int 0))) (fBin gIx (fVar 5) (fCon (.int 0)))) (fCons (fBin gMinus (fBin gIx (fVar 1) (fCon (.int 1))) (fBin gIx (fVar 5) (fCon (.int 1)))) fNil))) (fCons (fVar 4) fNil)))))))

def m__law_refused : FS := (fSeq (fSet 4 (fCon .none))
  (fSeq (fTry [("InvalidWorths" : PySem.Str), ("InvalidPurse" : PySem.Str), ("InvalidTotal" : PySem.Str), ("InvalidRecipe" : PySem.Str)] (fDrop (fCall (callM 4 m_paid) (fCons (fVar 0) (fCons (fVar 1) (fCons (fVar 2) (fCons (fVar 3) fNil)))))) [⟨("InvalidWorths" : PySem.Str), some 5, fun n as => (fSet 4 (fIf (fIsX [("InvalidWorths" : PySem.Str)] 5 ("WorthError" : PySem.Str) n as) (fCon (.str ("worths" : PySem.Str))) (fCon (.str ("class" : PySem.Str)))))⟩, ⟨("InvalidPurse" : PySem.Str), none, fun n as => (fSet 4 (fCon (.str ("purse" : PySem.Str))))⟩, ⟨("InvalidTotal" : PySem.Str), none, fun n as => (fSet 4 (fCon (.str ("total" : PySem.Str))))⟩, ⟨("InvalidRecipe" : PySem.Str), none, fun n as => (fSet 4 (fCon (.str ("recipe" : PySem.Str))))⟩])
  (fRet (fVar 4))))

def m_law : FS := (fSeq (fSet 1 (fCall (callO 4 m__law_mix) (fCons (fVar 0) (fCons (fCon (.int 4)) fNil))))
  (fSeq (fFor (fRng1 (fCons (fCon (.int 12)) fNil)) (gNm 2)
   (fSeq (fSet 3 (fLst (fCons (fCon (.int 3)) (fCons (fCon (.int 12)) (fCons (fCon (.int 40)) (fCons (fBin gPow (fCon (.int 10)) (fCon (.int 9))) fNil))))))
  (fSeq (fSet 4 (fTup (fCons (fBin gAdd (fCon (.int 1)) (fCall (callM 3 m__law_next) (fCons (fVar 1) (fCons (fBin gIx (fVar 3) (fCall (callM 3 m__law_next) (fCons (fVar 1) (fCons (fCon (.int 4)) fNil)))) fNil)))) (fCons (fBin gAdd (fCon (.int 1)) (fCall (callM 3 m__law_next) (fCons (fVar 1) (fCons (fBin gIx (fVar 3) (fCall (callM 3 m__law_next) (fCons (fVar 1) (fCons (fCon (.int 4)) fNil)))) fNil)))) fNil))))
  (fSeq (fPar3 5 6 7 (fCons (fCall (callM 1 m__law_purse) (fCons (fVar 1) fNil)) (fCons (fCall (callM 1 m__law_total) (fCons (fVar 1) fNil)) (fCons (fCall (callM 3 m__law_recipe) (fCons (fVar 1) fNil)) fNil))))
  (fSeq (fSet 8 (fCall (callM 4 m_paid) (fCons (fVar 4) (fCons (fVar 5) (fCons (fVar 6) (fCons (fVar 7) fNil))))))
  (fIfS (fOr (fBin gNe (fVar 8) (fCall (callM 9 m__law_done) (fCons (fVar 4) (fCons (fVar 5) (fCons (fVar 6) (fCons (fVar 7) fNil)))))) (fNot (fIsi .tuple (fVar 8)))) (fRet (fCon (.bool false))) fPass))))))
  (fSeq (fSet 9 (fBin gIx (fLst (fCons (fTup (fCons (fCon (.int 0)) (fCons (fCon (.int 1)) fNil))) (fCons (fTup (fCons (fCon (.int 1)) (fCons (fCon (.int 0)) fNil))) (fCons (fTup (fCons (fCon (.bool true)) (fCons (fCon (.int 1)) fNil))) (fCons (fTup (fCons (fCon (.int 1)) (fCons (fBin gAdd (fBin gPow (fCon (.int 10)) (fCon (.int 9))) (fCon (.int 1))) fNil))) (fCons (fLst (fCons (fCon (.int 1)) (fCons (fCon (.int 1)) fNil))) (fCons (fTup (fCons (fCon (.int 1)) fNil)) (fCons (fCon .none) (fCons (fCon (.str ("11" : PySem.Str))) fNil))))))))) (fCall (callM 3 m__law_next) (fCons (fVar 1) (fCons (fCon (.int 8)) fNil)))))
  (fSeq (fIfS (fBin gNe (fCall (callM 6 m__law_refused) (fCons (fVar 9) (fCons (fCon .none) (fCons (fCon .none) (fCons (fCon .none) fNil))))) (fCon (.str ("worths" : PySem.Str)))) (fRet (fCon (.bool false))) fPass)
  (fSeq (fSet 9 (fBin gIx (fLst (fCons (fTup (fCons (fCon (.int 5)) (fCons (fCon (.int 0)) fNil))) (fCons (fTup (fCons (fCon (.int 0)) (fCons (fUn gNeg (fCon (.int 1))) fNil))) (fCons (fTup (fCons (fCon .none) (fCons (fCon (.int 0)) fNil))) (fCons (fLst (fCons (fCon (.int 1)) (fCons (fCon (.int 1)) fNil))) (fCons (fTup (fCons (fCon (.int 1)) fNil)) (fCons (fCon .none) fNil))))))) (fCall (callM 3 m__law_next) (fCons (fVar 1) (fCons (fCon (.int 6)) fNil)))))
  (fSeq (fIfS (fBin gNe (fCall (callM 6 m__law_refused) (fCons (fTup (fCons (fCon (.int 1)) (fCons (fCon (.int 1)) fNil))) (fCons (fVar 9) (fCons (fCon .none) (fCons (fCon .none) fNil))))) (fCon (.str ("purse" : PySem.Str)))) (fRet (fCon (.bool false))) fPass)
  (fSeq (fSet 9 (fBin gIx (fLst (fCons (fTup (fCons (fCon (.int 5)) (fCons (fCon (.int 0)) (fCons (fCon (.int 0)) fNil)))) (fCons (fTup (fCons (fCon (.int 0)) (fCons (fCon (.int 0)) (fCons (fUn gNeg (fCon (.int 13))) fNil)))) (fCons (fTup (fCons (fCon (.int 0)) (fCons (fCon (.bool true)) (fCons (fCon (.int 0)) fNil)))) (fCons (fLst (fCons (fCon (.int 1)) (fCons (fCon (.int 1)) (fCons (fCon (.int 1)) fNil)))) (fCons (fTup (fCons (fCon (.int 1)) (fCons (fCon (.int 1)) fNil))) (fCons (fCon .none) fNil))))))) (fCall (callM 3 m__law_next) (fCons (fVar 1) (fCons (fCon (.int 6)) fNil)))))
  (fSeq (fIfS (fBin gNe (fCall (callM 6 m__law_refused) (fCons (fTup (fCons (fCon (.int 1)) (fCons (fCon (.int 1)) fNil))) (fCons (fTup (fCons (fCon (.int 1)) (fCons (fCon (.int 1)) fNil))) (fCons (fVar 9) (fCons (fCon .none) fNil))))) (fCon (.str ("total" : PySem.Str)))) (fRet (fCon (.bool false))) fPass)
  (fSeq (fSet 10 (fTup (fCons (fCon (.str ("most" : PySem.Str))) (fCons (fCon (.str ("a" : PySem.Str))) fNil))))
  (fSeq (fSet 9 (fLst (fCons (fCon .none) (fCons (fLst (fCons (fVar 10) fNil)) (fCons (fBin gRepT (fTup (fCons (fVar 10) fNil)) (fCon (.int 5))) (fCons (fTup (fCons (fTup (fCons (fCon (.str ("some" : PySem.Str))) (fCons (fCon (.str ("a" : PySem.Str))) fNil))) fNil)) (fCons (fTup (fCons (fTup (fCons (fCon (.str ("most" : PySem.Str))) (fCons (fCon (.str ("c" : PySem.Str))) fNil))) fNil)) (fCons (fTup (fCons (fVar 10) (fCons (fLst (fCons (fCon (.str ("one" : PySem.Str))) (fCons (fCon (.str ("a" : PySem.Str))) fNil))) fNil))) (fCons (fTup (fCons (fCon (.str ("most" : PySem.Str))) (fCons (fCon (.str ("a" : PySem.Str))) fNil))) fNil)))))))))
  (fSeq (fSet 9 (fBin gAdd (fVar 9) (fLst (fCons (fTup (fCons (fTup (fCons (fCon (.str ("most" : PySem.Str))) fNil)) fNil)) (fCons (fTup (fCons (fTup (fCons (fTup (fCons (fCon (.str ("most" : PySem.Str))) fNil)) (fCons (fCon (.str ("a" : PySem.Str))) fNil))) fNil)) (fCons (fTup (fCons (fVar 10) (fCons (fCon .none) fNil))) (fCons (fCon (.str ("most" : PySem.Str))) fNil)))))))
  (fRet (fBin gEq (fCall (callM 6 m__law_refused) (fCons (fTup (fCons (fCon (.int 1)) (fCons (fCon (.int 1)) fNil))) (fCons (fTup (fCons (fCon (.int 1)) (fCons (fCon (.int 1)) fNil))) (fCons (fTup (fCons (fCon (.int 1)) (fCons (fCon (.int 1)) (fCons (fCon (.int 1)) fNil)))) (fCons (fBin gIx (fVar 9) (fCall (callM 3 m__law_next) (fCons (fVar 1) (fCons (fCon (.int 11)) fNil)))) fNil))))) (fCon (.str ("recipe" : PySem.Str))))))))))))))))
/-! ### the text -/
def tp (i : Nat) : Stmt := PySem.Challenge.pw_twoworths_k04_whole_recipes_at_told_wort.main.body.getD i (.Pass ⟨0, 0, 0, 0⟩)
def facts : Tw.Facts := [Tw.fcFree "isinstance", Tw.fcFree "int", Tw.fcFree "bool", Tw.fcGlo "is_integer", Tw.fcFree "tuple", Tw.fcFree "len", Tw.fcFree "all", Tw.fcGlo "is_pair", Tw.fcInt "MOST_COINS" 4, Tw.fcGlo "is_purse", Tw.fcInt "MOST_REST" 12, Tw.fcGlo "is_total", Tw.fcFree "str", Tw.fcTup "WAYS" ["most", "one"], Tw.fcGlo "WAYS", Tw.fcTup "KINDS" ["a", "b"], Tw.fcGlo "KINDS", Tw.fcGlo "is_step", Tw.fcInt "MOST_STEPS" 4, Tw.fcGlo "is_recipe", Tw.fcInt "MOST_WORTH" 1000000000, Tw.fcGlo "is_worths", Tw.fcExc "InvalidPurse", Tw.fcGlo "InvalidPurse", Tw.fcExc "InvalidTotal", Tw.fcGlo "InvalidTotal", Tw.fcExc "InvalidRecipe", Tw.fcGlo "InvalidRecipe", Tw.fcGlo "look_at", Tw.fcGlo "more_of", Tw.fcFree "min", Tw.fcFree "max", Tw.fcGlo "steps_done", Tw.fcExc "InvalidWorths", Tw.fcGlo "InvalidWorths", Tw.fcGlo "paid", Tw.fcFree "list", Tw.fcGlo "_law_mix", Tw.fcGlo "_law_next", Tw.fcGlo "_law_purse", Tw.fcGlo "_law_total", Tw.fcFree "range", Tw.fcGlo "_law_recipe", Tw.fcGlo "_law_done", Tw.fcExcC "InvalidWorths", Tw.fcKit "InvalidWorths" "WorthError", Tw.fcGlo "WorthError", Tw.fcExm "InvalidRecipe" "InvalidRecipe", Tw.fcExm "InvalidRecipe" "InvalidTotal", Tw.fcExm "InvalidRecipe" "InvalidPurse", Tw.fcExm "InvalidRecipe" "InvalidWorths", Tw.fcExm "InvalidTotal" "InvalidRecipe", Tw.fcExm "InvalidTotal" "InvalidTotal", Tw.fcExm "InvalidTotal" "InvalidPurse", Tw.fcExm "InvalidTotal" "InvalidWorths", Tw.fcExm "InvalidPurse" "InvalidRecipe", Tw.fcExm "InvalidPurse" "InvalidTotal", Tw.fcExm "InvalidPurse" "InvalidPurse", Tw.fcExm "InvalidPurse" "InvalidWorths", Tw.fcExm "InvalidWorths" "InvalidRecipe", Tw.fcExm "InvalidWorths" "InvalidTotal", Tw.fcExm "InvalidWorths" "InvalidPurse", Tw.fcExm "InvalidWorths" "InvalidWorths", Tw.fcGlo "_law_refused", Tw.fcGlo "law"]
def fns : List He.DefD := [⟨("is_integer", none), "is_integer", "is_integer", defArgs (tp 7), defBody (tp 7), defScope (tp 7), [], []⟩,
  ⟨("is_pair", none), "is_pair", "is_pair", defArgs (tp 15), defBody (tp 15), defScope (tp 15), [], []⟩,
  ⟨("is_purse", none), "is_purse", "is_purse", defArgs (tp 16), defBody (tp 16), defScope (tp 16), [], []⟩,
  ⟨("is_total", none), "is_total", "is_total", defArgs (tp 17), defBody (tp 17), defScope (tp 17), [], []⟩,
  ⟨("is_step", none), "is_step", "is_step", defArgs (tp 18), defBody (tp 18), defScope (tp 18), [], []⟩,
  ⟨("is_recipe", none), "is_recipe", "is_recipe", defArgs (tp 19), defBody (tp 19), defScope (tp 19), [], []⟩,
  ⟨("is_worths", none), "is_worths", "is_worths", defArgs (tp 20), defBody (tp 20), defScope (tp 20), [], []⟩,
  ⟨("look_at", none), "look_at", "look_at", defArgs (tp 21), defBody (tp 21), defScope (tp 21), [], []⟩,
  ⟨("more_of", none), "more_of", "more_of", defArgs (tp 22), defBody (tp 22), defScope (tp 22), [], []⟩,
  ⟨("steps_done", none), "steps_done", "steps_done", defArgs (tp 23), defBody (tp 23), defScope (tp 23), [], []⟩,
  ⟨("paid", none), "paid", "paid", defArgs (tp 24), defBody (tp 24), defScope (tp 24), [], []⟩,
  ⟨("_law_mix", none), "_law_mix", "_law_mix", defArgs (tp 26), defBody (tp 26), defScope (tp 26), [], []⟩,
  ⟨("_law_next", none), "_law_next", "_law_next", defArgs (tp 27), defBody (tp 27), defScope (tp 27), [], []⟩,
  ⟨("_law_purse", none), "_law_purse", "_law_purse", defArgs (tp 31), defBody (tp 31), defScope (tp 31), [], []⟩,
  ⟨("_law_total", none), "_law_total", "_law_total", defArgs (tp 32), defBody (tp 32), defScope (tp 32), [], []⟩,
  ⟨("_law_recipe", none), "_law_recipe", "_law_recipe", defArgs (tp 33), defBody (tp 33), defScope (tp 33), [], []⟩,
  ⟨("_law_done", none), "_law_done", "_law_done", defArgs (tp 34), defBody (tp 34), defScope (tp 34), [], []⟩,
  ⟨("_law_refused", none), "_law_refused", "_law_refused", defArgs (tp 35), defBody (tp 35), defScope (tp 35), [], []⟩,
  ⟨("law", none), "law", "law", defArgs (tp 36), defBody (tp 36), defScope (tp 36), [], []⟩]
section
variable {P : Program} {w : World} {K : PySem.W.Frag} {mg : Str → Option Value} {base : Heap}
theorem sc_is_integer : FnScope ["value", "least", "most"] ["value", "least", "most"] (defScope (tp 7)) := ⟨rfl, rfl, rfl, by decide +kernel, rfl, by decide +kernel, by decide +kernel⟩
theorem cal_is_integer (T : Tx facts fns K mg) : Cal P w K mg base "is_integer" 1 3 (callM 3 m_is_integer) := by
  obtain ⟨fd, Fd⟩ := SaysW.fd T.says 0
  have sc := sc_is_integer
  exact ⟨_, fd, _, fn_ok Fd sc_is_integer (fun cdv A outer s H E hr =>
    (fss_one (fs_ret (fe_and (fe_isi (t := .int) (fun h => pe_callB call_isi (by rfl) (T.fr 0) Tw.boot_isinstance (pa_cons h (pa_cons (pe_bltn (v := .ty "int") (by rfl) (T.fr 1) Tw.boot_int rfl) pa_nil))) (fe_var (pv 0))) (fe_and (fe_not (fe_isi (t := .bool) (fun h => pe_callB call_isi (by rfl) (T.fr 0) Tw.boot_isinstance (pa_cons h (pa_cons (pe_bltn (v := .ty "bool") (by rfl) (T.fr 2) Tw.boot_bool rfl) pa_nil))) (fe_var (pv 0)))) (fe_and1 (fe_chain (fun h1 h2 h3 => pe_chain op_le op_le h1 h2 h3) bop_le bop_le (fe_var (pv 1)) (fe_var (pv 0)) (fe_var (pv 2))))))))), (T.gl 3), Fd.kp, Fd.bindsN fun _ _ _ _ _ _ us hl => match us, hl with | [_, _, _], _ => rfl⟩

theorem sc_is_pair : FnScope ["value", "most", "part"] ["value", "most"] (defScope (tp 15)) := ⟨rfl, rfl, rfl, by decide +kernel, rfl, by decide +kernel, by decide +kernel⟩
theorem cal_is_pair (T : Tx facts fns K mg) : Cal P w K mg base "is_pair" 2 2 (callM 3 m_is_pair) := by
  have C_is_integer := cal_is_integer (P := P) (w := w) (base := base) T
  obtain ⟨fd, Fd⟩ := SaysW.fd T.says 1
  have sc := sc_is_pair
  exact ⟨_, fd, _, fn_ok Fd sc_is_pair (fun cdv A outer s H E hr =>
    (fss_one (fs_ret (fe_and (fe_isi (t := .tuple) (fun h => pe_callB call_isi (by rfl) (T.fr 0) Tw.boot_isinstance (pa_cons h (pa_cons (pe_bltn (v := .ty "tuple") (by rfl) (T.fr 4) Tw.boot_tuple rfl) pa_nil))) (fe_var (pv 0))) (fe_and (fe_op (fun h1 h2 => pe_cmpR (op_eqD hr.units) h1 h2 (nomark _)) bop_eq (fe_call (fun h => pe_callB call_len_seq (by rfl) (T.fr 5) Tw.boot_len h) bc_len (fa_cons (fe_var (pv 0)) fa_nil)) fe_int) (fe_and1 (fe_call (fun h => pe_callB (cr_all rfl) (by rfl) (T.fr 6) Tw.boot_all h) bc_all (fa_cons (fe_comp (fun h1 h2 h3 h4 => pe_lc (own := [(("part" : PySem.Str), 2)]) rfl sc.nd h1 (blkOk_by (N := ["value", "most", "part"]) (sc := defScope (tp 15)) (by decide +kernel)) h2 h3 h4) (fi_seq (fe_var (pv 0))) (fun _ _ _ _ _ => (fg_name (ws := [2]) (pg_name (i := 2) sc.nd rfl (.inl rfl)) (by decide))) (fun _ _ _ _ _ => fts_nil) (fun _ _ _ _ _ => (fe_cal C_is_integer (hr.mono (by decide)) takes0 (fa_cons (fe_var (pv 2)) (fa_cons fe_int (fa_cons (fe_var (pv 1)) fa_nil))) (lenS (lenS (lenS len0)))))) fa_nil)))))))), (T.gl 7), Fd.kp, Fd.bindsN fun _ _ _ _ _ _ us hl => match us, hl with | [_, _], _ => rfl⟩

theorem sc_is_purse : FnScope ["value"] ["value"] (defScope (tp 16)) := ⟨rfl, rfl, rfl, by decide +kernel, rfl, by decide +kernel, by decide +kernel⟩
theorem cal_is_purse (T : Tx facts fns K mg) : Cal P w K mg base "is_purse" 3 1 (callM 1 m_is_purse) := by
  have C_is_pair := cal_is_pair (P := P) (w := w) (base := base) T
  obtain ⟨fd, Fd⟩ := SaysW.fd T.says 2
  have sc := sc_is_purse
  exact ⟨_, fd, _, fn_ok Fd sc_is_purse (fun cdv A outer s H E hr =>
    (fss_one (fs_ret (fe_cal C_is_pair (hr.mono (by decide)) (takes_of rfl rfl rfl rfl) (fa_cons (fe_var (pv 0)) (fa_cons (fe_gint (T.int 8)) fa_nil)) (lenS (lenS len0)))))), (T.gl 9), Fd.kp, Fd.bindsN fun _ _ _ _ _ _ us hl => match us, hl with | [_], _ => rfl⟩

theorem sc_is_total : FnScope ["value"] ["value"] (defScope (tp 17)) := ⟨rfl, rfl, rfl, by decide +kernel, rfl, by decide +kernel, by decide +kernel⟩
theorem cal_is_total (T : Tx facts fns K mg) : Cal P w K mg base "is_total" 3 1 (callM 1 m_is_total) := by
  have C_is_pair := cal_is_pair (P := P) (w := w) (base := base) T
  have C_is_integer := cal_is_integer (P := P) (w := w) (base := base) T
  obtain ⟨fd, Fd⟩ := SaysW.fd T.says 3
  have sc := sc_is_total
  exact ⟨_, fd, _, fn_ok Fd sc_is_total (fun cdv A outer s H E hr =>
    (fss_cons (fs_if ((fw_or (ft_not (ft_val (fe_isi (t := .tuple) (fun h => pe_callB call_isi (by rfl) (T.fr 0) Tw.boot_isinstance (pa_cons h (pa_cons (pe_bltn (v := .ty "tuple") (by rfl) (T.fr 4) Tw.boot_tuple rfl) pa_nil))) (fe_var (pv 0))))) (fw_or (ft_op (fun h1 h2 => pt_cmpR (op_neD hr.units) h1 h2 (nomark _)) bop_ne (fe_call (fun h => pe_callB call_len_seq (by rfl) (T.fr 5) Tw.boot_len h) bc_len (fa_cons (fe_var (pv 0)) fa_nil)) fe_int) (fw_or1 (ft_not (ft_val (fe_cal C_is_pair (hr.mono (by decide)) (takes_of rfl rfl rfl rfl) (fa_cons (fe_slice (fe_var (pv 0)) fo_none (fo_some fe_int) rfl) (fa_cons (fe_gint (T.int 8)) fa_nil)) (lenS (lenS len0))))))))).pt (fss_one (fs_ret fe_bl)) fss_nil)
    (fss_one (fs_ret (fe_cal C_is_integer (hr.mono (by decide)) (takes_of rfl rfl rfl rfl) (fa_cons (fe_op (fun h1 h2 => pe_ix ix_seq h1 h2 (fun _ _ => rfl)) bop_ix (fe_var (pv 0)) fe_int) (fa_cons (fe_un (fun h => pe_un un_neg h) uop_neg (fe_gint (T.int 10))) (fa_cons (fe_gint (T.int 10)) fa_nil))) (lenS (lenS (lenS len0)))))))), (T.gl 11), Fd.kp, Fd.bindsN fun _ _ _ _ _ _ us hl => match us, hl with | [_], _ => rfl⟩

theorem sc_is_step : FnScope ["value", "part"] ["value"] (defScope (tp 18)) := ⟨rfl, rfl, rfl, by decide +kernel, rfl, by decide +kernel, by decide +kernel⟩
theorem cal_is_step (T : Tx facts fns K mg) : Cal P w K mg base "is_step" 1 1 (callM 2 m_is_step) := by
  obtain ⟨fd, Fd⟩ := SaysW.fd T.says 4
  have sc := sc_is_step
  exact ⟨_, fd, _, fn_ok Fd sc_is_step (fun cdv A outer s H E hr =>
    (fss_cons (fs_if ((fw_or (ft_not (ft_val (fe_isi (t := .tuple) (fun h => pe_callB call_isi (by rfl) (T.fr 0) Tw.boot_isinstance (pa_cons h (pa_cons (pe_bltn (v := .ty "tuple") (by rfl) (T.fr 4) Tw.boot_tuple rfl) pa_nil))) (fe_var (pv 0))))) (fw_or (ft_op (fun h1 h2 => pt_cmpR (op_neD hr.units) h1 h2 (nomark _)) bop_ne (fe_call (fun h => pe_callB call_len_seq (by rfl) (T.fr 5) Tw.boot_len h) bc_len (fa_cons (fe_var (pv 0)) fa_nil)) fe_int) (fw_or1 (ft_not (ft_val (fe_call (fun h => pe_callB (cr_all rfl) (by rfl) (T.fr 6) Tw.boot_all h) bc_all (fa_cons (fe_comp (fun h1 h2 h3 h4 => pe_lc (own := [(("part" : PySem.Str), 1)]) rfl sc.nd h1 (blkOk_by (N := ["value", "part"]) (sc := defScope (tp 18)) (by decide +kernel)) h2 h3 h4) (fi_seq (fe_var (pv 0))) (fun _ _ _ _ _ => (fg_name (ws := [1]) (pg_name (i := 1) sc.nd rfl (.inl rfl)) (by decide))) (fun _ _ _ _ _ => fts_nil) (fun _ _ _ _ _ => (fe_isi (t := .str) (fun h => pe_callB call_isi (by rfl) (T.fr 0) Tw.boot_isinstance (pa_cons h (pa_cons (pe_bltn (v := .ty "str") (by rfl) (T.fr 12) Tw.boot_str rfl) pa_nil))) (fe_var (pv 1))))) fa_nil)))))))).pt (fss_one (fs_ret fe_bl)) fss_nil)
    (fss_one (fs_ret (fe_and (fe_op (fun h1 h2 => pe_cmpR op_in_seq h1 h2 rfl) (bop_in (neg := false)) (fe_op (fun h1 h2 => pe_ix ix_seq h1 h2 (fun _ _ => rfl)) bop_ix (fe_var (pv 0)) fe_int) (fe_gtup (ss := [("most" : PySem.Str), ("one" : PySem.Str)]) (T.gl 14) (fcTup_ok (T.fc 13)).1)) (fe_and1 (fe_op (fun h1 h2 => pe_cmpR op_in_seq h1 h2 rfl) (bop_in (neg := false)) (fe_op (fun h1 h2 => pe_ix ix_seq h1 h2 (fun _ _ => rfl)) bop_ix (fe_var (pv 0)) fe_int) (fe_gtup (ss := [("a" : PySem.Str), ("b" : PySem.Str)]) (T.gl 16) (fcTup_ok (T.fc 15)).1)))))))), (T.gl 17), Fd.kp, Fd.bindsN fun _ _ _ _ _ _ us hl => match us, hl with | [_], _ => rfl⟩

theorem sc_is_recipe : FnScope ["value", "step"] ["value"] (defScope (tp 19)) := ⟨rfl, rfl, rfl, by decide +kernel, rfl, by decide +kernel, by decide +kernel⟩
theorem cal_is_recipe (T : Tx facts fns K mg) : Cal P w K mg base "is_recipe" 2 1 (callM 2 m_is_recipe) := by
  have C_is_step := cal_is_step (P := P) (w := w) (base := base) T
  obtain ⟨fd, Fd⟩ := SaysW.fd T.says 5
  have sc := sc_is_recipe
  exact ⟨_, fd, _, fn_ok Fd sc_is_recipe (fun cdv A outer s H E hr =>
    (fss_one (fs_ret (fe_and (fe_isi (t := .tuple) (fun h => pe_callB call_isi (by rfl) (T.fr 0) Tw.boot_isinstance (pa_cons h (pa_cons (pe_bltn (v := .ty "tuple") (by rfl) (T.fr 4) Tw.boot_tuple rfl) pa_nil))) (fe_var (pv 0))) (fe_and (fe_op (fun h1 h2 => pe_cmpR op_le h1 h2 (nomark _)) bop_le (fe_call (fun h => pe_callB call_len_seq (by rfl) (T.fr 5) Tw.boot_len h) bc_len (fa_cons (fe_var (pv 0)) fa_nil)) (fe_gint (T.int 18))) (fe_and1 (fe_call (fun h => pe_callB (cr_all rfl) (by rfl) (T.fr 6) Tw.boot_all h) bc_all (fa_cons (fe_comp (fun h1 h2 h3 h4 => pe_lc (own := [(("step" : PySem.Str), 1)]) rfl sc.nd h1 (blkOk_by (N := ["value", "step"]) (sc := defScope (tp 19)) (by decide +kernel)) h2 h3 h4) (fi_seq (fe_var (pv 0))) (fun _ _ _ _ _ => (fg_name (ws := [1]) (pg_name (i := 1) sc.nd rfl (.inl rfl)) (by decide))) (fun _ _ _ _ _ => fts_nil) (fun _ _ _ _ _ => (fe_cal C_is_step (hr.mono (by decide)) takes0 (fa_cons (fe_var (pv 1)) fa_nil) (lenS len0)))) fa_nil)))))))), (T.gl 19), Fd.kp, Fd.bindsN fun _ _ _ _ _ _ us hl => match us, hl with | [_], _ => rfl⟩

theorem sc_is_worths : FnScope ["value"] ["value"] (defScope (tp 20)) := ⟨rfl, rfl, rfl, by decide +kernel, rfl, by decide +kernel, by decide +kernel⟩
theorem cal_is_worths (T : Tx facts fns K mg) : Cal P w K mg base "is_worths" 3 1 (callM 1 m_is_worths) := by
  have C_is_pair := cal_is_pair (P := P) (w := w) (base := base) T
  obtain ⟨fd, Fd⟩ := SaysW.fd T.says 6
  have sc := sc_is_worths
  exact ⟨_, fd, _, fn_ok Fd sc_is_worths (fun cdv A outer s H E hr =>
    (fss_one (fs_ret (fe_and (fe_cal C_is_pair (hr.mono (by decide)) (takes_of rfl rfl rfl rfl) (fa_cons (fe_var (pv 0)) (fa_cons (fe_gint (T.int 20)) fa_nil)) (lenS (lenS len0))) (fe_and1 (fe_op (fun h1 h2 => pe_cmpR op_notIn_seq h1 h2 rfl) (bop_in (neg := true)) fe_int (fe_var (pv 0)))))))), (T.gl 21), Fd.kp, Fd.bindsN fun _ _ _ _ _ _ us hl => match us, hl with | [_], _ => rfl⟩

theorem sc_look_at : FnScope ["purse", "total", "recipes", "recipe"] ["purse", "total", "recipes"] (defScope (tp 21)) := ⟨rfl, rfl, rfl, by decide +kernel, rfl, by decide +kernel, by decide +kernel⟩
theorem cal_look_at (T : Tx facts fns K mg) : Cal P w K mg base "look_at" 4 3 (callM 4 m_look_at) := by
  have C_is_purse := cal_is_purse (P := P) (w := w) (base := base) T
  have C_is_total := cal_is_total (P := P) (w := w) (base := base) T
  have C_is_recipe := cal_is_recipe (P := P) (w := w) (base := base) T
  obtain ⟨fd, Fd⟩ := SaysW.fd T.says 7
  have sc := sc_look_at
  exact ⟨_, fd, _, fn_ok Fd sc_look_at (fun cdv A outer s H E hr =>
    (fss_cons (fs_if (ft_not (ft_val (fe_cal C_is_purse (hr.mono (by decide)) (takes_of rfl rfl rfl rfl) (fa_cons (fe_var (pv 0)) fa_nil) (lenS len0)))) (fss_one (fs_raise0 (ps_raise rfl (takes_of rfl rfl rfl rfl) (mk_bare PySem.F.excBase_ValueError (T.exc 22).1 (T.gl 23) (T.exc 22).2.1 (raises_own (T.exc 22).2.2.1 (T.exc 22).2.2.2) (by rfl))))) fss_nil)
    (fss_cons (fs_if (ft_not (ft_val (fe_cal C_is_total (hr.mono (by decide)) (takes_of rfl rfl rfl rfl) (fa_cons (fe_var (pv 1)) fa_nil) (lenS len0)))) (fss_one (fs_raise0 (ps_raise rfl (takes_of rfl rfl rfl rfl) (mk_bare PySem.F.excBase_ValueError (T.exc 24).1 (T.gl 25) (T.exc 24).2.1 (raises_own (T.exc 24).2.2.1 (T.exc 24).2.2.2) (by rfl))))) fss_nil)
    (fss_one (fs_if (ft_not (ft_val (fe_call (fun h => pe_callB (cr_all rfl) (by rfl) (T.fr 6) Tw.boot_all h) bc_all (fa_cons (fe_comp (fun h1 h2 h3 h4 => pe_lc (own := [(("recipe" : PySem.Str), 3)]) rfl sc.nd h1 (blkOk_by (N := ["purse", "total", "recipes", "recipe"]) (sc := defScope (tp 21)) (by decide +kernel)) h2 h3 h4) (fi_seq (fe_var (pv 2))) (fun _ _ _ _ _ => (fg_name (ws := [3]) (pg_name (i := 3) sc.nd rfl (.inl rfl)) (by decide))) (fun _ _ _ _ _ => fts_nil) (fun _ _ _ _ _ => (fe_cal C_is_recipe (hr.mono (by decide)) takes0 (fa_cons (fe_var (pv 3)) fa_nil) (lenS len0)))) fa_nil)))) (fss_one (fs_raise0 (ps_raise rfl (takes_of rfl rfl rfl rfl) (mk_bare PySem.F.excBase_ValueError (T.exc 26).1 (T.gl 27) (T.exc 26).2.1 (raises_own (T.exc 26).2.2.1 (T.exc 26).2.2.2) (by rfl))))) fss_nil))))), (T.gl 28), Fd.kp, Fd.bindsN fun _ _ _ _ _ _ us hl => match us, hl with | [_, _, _], _ => rfl⟩

theorem sc_more_of : FnScope ["coins", "spot", "many"] ["coins", "spot", "many"] (defScope (tp 22)) := ⟨rfl, rfl, rfl, by decide +kernel, rfl, by decide +kernel, by decide +kernel⟩
theorem cal_more_of (T : Tx facts fns K mg) : Cal P w K mg base "more_of" 1 3 (callM 3 m_more_of) := by
  obtain ⟨fd, Fd⟩ := SaysW.fd T.says 8
  have sc := sc_more_of
  exact ⟨_, fd, _, fn_ok Fd sc_more_of (fun cdv A outer s H E hr =>
    (fss_one (fs_ret (fe_if (ft_op (fun h1 h2 => pt_cmpR (op_eqD hr.units) h1 h2 (nomark _)) bop_eq (fe_var (pv 1)) fe_int) (fe_tup (fa_cons (fe_op (fun h1 h2 => pe_op op_addU h1 h2) bop_add (fe_op (fun h1 h2 => pe_ix ix_seq h1 h2 (fun _ _ => rfl)) bop_ix (fe_var (pv 0)) fe_int) (fe_var (pv 2))) (fa_cons (fe_op (fun h1 h2 => pe_ix ix_seq h1 h2 (fun _ _ => rfl)) bop_ix (fe_var (pv 0)) fe_int) fa_nil))) (fe_tup (fa_cons (fe_op (fun h1 h2 => pe_ix ix_seq h1 h2 (fun _ _ => rfl)) bop_ix (fe_var (pv 0)) fe_int) (fa_cons (fe_op (fun h1 h2 => pe_op op_addU h1 h2) bop_add (fe_op (fun h1 h2 => pe_ix ix_seq h1 h2 (fun _ _ => rfl)) bop_ix (fe_var (pv 0)) fe_int) (fe_var (pv 2))) fa_nil))))))), (T.gl 29), Fd.kp, Fd.bindsN fun _ _ _ _ _ _ us hl => match us, hl with | [_, _, _], _ => rfl⟩

theorem sc_steps_done : FnScope ["worths", "have", "left", "recipe", "coins", "way", "kind", "spot", "there", "many"] ["worths", "have", "left", "recipe"] (defScope (tp 23)) := ⟨rfl, rfl, rfl, by decide +kernel, rfl, by decide +kernel, by decide +kernel⟩
theorem cal_steps_done (T : Tx facts fns K mg) : Cal P w K mg base "steps_done" 2 4 (callM 10 m_steps_done) := by
  have C_more_of := cal_more_of (P := P) (w := w) (base := base) T
  obtain ⟨fd, Fd⟩ := SaysW.fd T.says 9
  have sc := sc_steps_done
  exact ⟨_, fd, _, fn_ok Fd sc_steps_done (fun cdv A outer s H E hr =>
    (fss_cons (fs_set (fun h => ps_set (i := 4) sc.nd rfl (.inl rfl) h) (fe_tup (fa_cons fe_int (fa_cons fe_int fa_nil))))
    (fss_cons (fs_for (passes_of rfl) rfl (fi_seq (fe_var (pv 3))) (fg_tup rfl (fgs_cons (fg_name (ws := [5, 6]) (pg_name (i := 5) sc.nd rfl (.inl rfl)) (by decide)) (fgs_cons (fg_name (ws := [5, 6]) (pg_name (i := 6) sc.nd rfl (.inl rfl)) (by decide)) fgs_nil)) rfl)
     (fss_cons (fs_set (fun h => ps_set (i := 7) sc.nd rfl (.inl rfl) h) (fe_kix (fcTup_ok (T.fc 15)).2 (fcTup_ok (T.fc 15)).1 (fun h => pe_bm PySem.F.plainAttrs_tuple PySem.F.slot_tuple_index PySem.F.type_tuple_index mt_tup_index (pe_glob (v := .ref _) (by rfl) (T.gl 16) rfl) (pa_cons h pa_nil)) (fe_var (pv 6))))
    (fss_cons (fs_set (fun h => ps_set (i := 8) sc.nd rfl (.inl rfl) h) (fe_op (fun h1 h2 => pe_op op_sub h1 h2) bop_sub (fe_op (fun h1 h2 => pe_ix ix_seq h1 h2 (fun _ _ => rfl)) bop_ix (fe_var (pv 1)) (fe_var (pv 7))) (fe_op (fun h1 h2 => pe_ix ix_seq h1 h2 (fun _ _ => rfl)) bop_ix (fe_var (pv 4)) (fe_var (pv 7)))))
    (fss_cons (fs_set (fun h => ps_set (i := 9) sc.nd rfl (.inl rfl) h) (fe_call (fun h => pe_callB (call_min2 rfl) (by rfl) (T.fr 30) Tw.boot_min h) bc_min2 (fa_cons (fe_var (pv 8)) (fa_cons (fe_call (fun h => pe_callTy call_int1 (by rfl) (T.fr 1) Tw.boot_int h) bc_int (fa_cons (fe_op (fun h1 h2 => pe_cmpR op_gt h1 h2 (nomark _)) bop_gt (fe_var (pv 2)) fe_int) fa_nil)) fa_nil))))
    (fss_cons (fs_if (ft_op (fun h1 h2 => pt_cmpR (op_eqD hr.units) h1 h2 (nomark _)) bop_eq (fe_var (pv 5)) fe_str) (fss_one (fs_set (fun h => ps_set (i := 9) sc.nd rfl (.inl rfl) h) (fe_call (fun h => pe_callB (call_min2 rfl) (by rfl) (T.fr 30) Tw.boot_min h) bc_min2 (fa_cons (fe_var (pv 8)) (fa_cons (fe_op (fun h1 h2 => pe_op op_fdiv h1 h2) bop_div (fe_call (fun h => pe_callB (call_max2 rfl) (by rfl) (T.fr 31) Tw.boot_max h) bc_max2 (fa_cons (fe_var (pv 2)) (fa_cons fe_int fa_nil))) (fe_op (fun h1 h2 => pe_ix ix_seq h1 h2 (fun _ _ => rfl)) bop_ix (fe_var (pv 0)) (fe_var (pv 7)))) fa_nil))))) fss_nil)
    (fss_cons (fs_set (fun h => ps_set (i := 4) sc.nd rfl (.inl rfl) h) (fe_cal C_more_of (hr.mono (by decide)) (takes_of rfl rfl rfl rfl) (fa_cons (fe_var (pv 4)) (fa_cons (fe_var (pv 7)) (fa_cons (fe_var (pv 9)) fa_nil))) (lenS (lenS (lenS len0)))))
    (fss_one (fs_aug (fun h => ps_aug (i := 2) sc.nd rfl (.inl rfl) h ip_sub) bop_ip (fe_op (fun h1 h2 => pe_op op_mul h1 h2) bop_mul (fe_var (pv 9)) (fe_op (fun h1 h2 => pe_ix ix_seq h1 h2 (fun _ _ => rfl)) bop_ix (fe_var (pv 0)) (fe_var (pv 7))))))))))))
    (fss_one (fs_ret (fe_tup (fa_cons (fe_var (pv 4)) (fa_cons (fe_var (pv 2)) fa_nil)))))))), (T.gl 32), Fd.kp, Fd.bindsN fun _ _ _ _ _ _ us hl => match us, hl with | [_, _, _, _], _ => rfl⟩

theorem sc_paid : FnScope ["worths", "purse", "total", "recipe"] ["worths", "purse", "total", "recipe"] (defScope (tp 24)) := ⟨rfl, rfl, rfl, by decide +kernel, rfl, by decide +kernel, by decide +kernel⟩
theorem cal_paid (T : Tx facts fns K mg) : Cal P w K mg base "paid" 5 4 (callM 4 m_paid) := by
  have C_is_worths := cal_is_worths (P := P) (w := w) (base := base) T
  have C_look_at := cal_look_at (P := P) (w := w) (base := base) T
  have C_steps_done := cal_steps_done (P := P) (w := w) (base := base) T
  obtain ⟨fd, Fd⟩ := SaysW.fd T.says 10
  have sc := sc_paid
  exact ⟨_, fd, _, fn_ok Fd sc_paid (fun cdv A outer s H E hr =>
    (fss_cons (fs_if (ft_not (ft_val (fe_cal C_is_worths (hr.mono (by decide)) (takes_of rfl rfl rfl rfl) (fa_cons (fe_var (pv 0)) fa_nil) (lenS len0)))) (fss_one (fs_raise0 (ps_raise rfl (takes_of rfl rfl rfl rfl) (mk_bare PySem.F.excBase_ValueError (T.exc 33).1 (T.gl 34) (T.exc 33).2.1 (raises_own (T.exc 33).2.2.1 (T.exc 33).2.2.2) (by rfl))))) fss_nil)
    (fss_cons (fs_drop (fun h => ps_expr h) (fe_cal C_look_at (hr.mono (by decide)) (takes_of rfl rfl rfl rfl) (fa_cons (fe_var (pv 1)) (fa_cons (fe_var (pv 2)) (fa_cons (fe_tup (fa_cons (fe_var (pv 3)) fa_nil)) fa_nil))) (lenS (lenS (lenS len0)))))
    (fss_one (fs_ret (fe_cal C_steps_done (hr.mono (by decide)) (takes_of rfl rfl rfl rfl) (fa_cons (fe_var (pv 0)) (fa_cons (fe_var (pv 1)) (fa_cons (fe_op (fun h1 h2 => pe_op op_addU h1 h2) bop_add (fe_op (fun h1 h2 => pe_op op_addU h1 h2) bop_add (fe_op (fun h1 h2 => pe_op op_mul h1 h2) bop_mul (fe_op (fun h1 h2 => pe_ix ix_seq h1 h2 (fun _ _ => rfl)) bop_ix (fe_var (pv 2)) fe_int) (fe_op (fun h1 h2 => pe_ix ix_seq h1 h2 (fun _ _ => rfl)) bop_ix (fe_var (pv 0)) fe_int)) (fe_op (fun h1 h2 => pe_op op_mul h1 h2) bop_mul (fe_op (fun h1 h2 => pe_ix ix_seq h1 h2 (fun _ _ => rfl)) bop_ix (fe_var (pv 2)) fe_int) (fe_op (fun h1 h2 => pe_ix ix_seq h1 h2 (fun _ _ => rfl)) bop_ix (fe_var (pv 0)) fe_int))) (fe_op (fun h1 h2 => pe_ix ix_seq h1 h2 (fun _ _ => rfl)) bop_ix (fe_var (pv 2)) fe_int)) (fa_cons (fe_var (pv 3)) fa_nil)))) (lenS (lenS (lenS (lenS len0)))))))))), (T.gl 35), Fd.kp, Fd.bindsN fun _ _ _ _ _ _ us hl => match us, hl with | [_, _, _, _], _ => rfl⟩

theorem sc__law_mix : FnScope ["_law_script", "_law_seed", "_law_state", "_law_cell"] ["_law_script", "_law_seed"] (defScope (tp 26)) := ⟨rfl, rfl, rfl, by decide +kernel, rfl, by decide +kernel, by decide +kernel⟩
theorem cal__law_mix (T : Tx facts fns K mg) : Cal P w K mg base "_law_mix" 1 2 (callO 4 m__law_mix) := by
  obtain ⟨fd, Fd⟩ := SaysW.fd T.says 11
  have sc := sc__law_mix
  exact ⟨_, fd, _, fn_okO Fd sc__law_mix (fun cdv A outer s H E hr =>
    (fss_cons (fs_set (fun h => ps_set (i := 2) sc.nd rfl (.inl rfl) h) (fe_var (pv 1)))
    (fss_cons (fs_for (passes_of rfl) rfl (fi_seq (fe_var (pv 0))) (fg_name (ws := [3]) (pg_name (i := 3) sc.nd rfl (.inl rfl)) (by decide))
     (fss_one (fs_set (fun h => ps_set (i := 2) sc.nd rfl (.inl rfl) h) (fe_op (fun h1 h2 => pe_op op_mod h1 h2) bop_mod (fe_call (fun h => pe_callTy call_int1 (by rfl) (T.fr 1) Tw.boot_int h) bc_int (fa_cons (fe_op (fun h1 h2 => pe_op op_addU h1 h2) bop_add (fe_op (fun h1 h2 => pe_op op_addU h1 h2) bop_add (fe_op (fun h1 h2 => pe_op op_mul h1 h2) bop_mul (fe_var (pv 2)) fe_int) (fe_op (fun h1 h2 => pe_op op_mod h1 h2) bop_mod (fe_call (fun h => pe_callTy call_int1 (by rfl) (T.fr 1) Tw.boot_int h) bc_int (fa_cons (fe_var (pv 3)) fa_nil)) fe_int)) fe_int) fa_nil)) fe_int))))
    (fss_one (fs_ret (fe_lstO (fa_cons (fe_var (pv 2)) (fa_cons (fe_call (fun h => pe_callTy call_list_of (by rfl) (T.fr 36) Tw.boot_list h) bc_listO (fa_cons (fe_var (pv 0)) fa_nil)) (fa_cons fe_int (fa_cons fe_int fa_nil)))))))))), (T.gl 37), Fd.kp, Fd.bindsN fun _ _ _ _ _ _ us hl => match us, hl with | [_, _], _ => rfl⟩

theorem sc__law_next : FnScope ["_law_h", "_law_bound", "_law_cell"] ["_law_h", "_law_bound"] (defScope (tp 27)) := ⟨rfl, rfl, rfl, by decide +kernel, rfl, by decide +kernel, by decide +kernel⟩
theorem cal__law_next (T : Tx facts fns K mg) : Cal P w K mg base "_law_next" 1 2 (callM 3 m__law_next) := by
  obtain ⟨fd, Fd⟩ := SaysW.fd T.says 12
  have sc := sc__law_next
  exact ⟨_, fd, _, fn_ok Fd sc__law_next (fun cdv A outer s H E hr =>
    (fss_cons (fs_set (fun h => ps_set (i := 2) sc.nd rfl (.inl rfl) h) (fe_op (fun h1 h2 => pe_ix ix_seq h1 h2 (fun _ _ => rfl)) bop_ix (fe_op (fun h1 h2 => pe_op op_addU h1 h2) bop_add (fe_op (fun h1 h2 => pe_ix ix_seq h1 h2 (fun _ _ => rfl)) bop_ix (fe_var (pv 0)) fe_int) (fe_lst (fa_cons fe_int fa_nil))) (fe_op (fun h1 h2 => pe_op op_mod h1 h2) bop_mod (fe_call (fun h => pe_callTy call_int1 (by rfl) (T.fr 1) Tw.boot_int h) bc_int (fa_cons (fe_op (fun h1 h2 => pe_ix ix_seq h1 h2 (fun _ _ => rfl)) bop_ix (fe_var (pv 0)) fe_int) fa_nil)) (fe_call (fun h => pe_callB (call_max2 rfl) (by rfl) (T.fr 31) Tw.boot_max h) bc_max2 (fa_cons fe_int (fa_cons (fe_call (fun h => pe_callB call_len_seq (by rfl) (T.fr 5) Tw.boot_len h) bc_len (fa_cons (fe_op (fun h1 h2 => pe_ix ix_seq h1 h2 (fun _ _ => rfl)) bop_ix (fe_var (pv 0)) fe_int) fa_nil)) fa_nil))))))
    (fss_cons (fs_if (ft_op (fun h1 h2 => pt_cmpR op_ge h1 h2 (nomark _)) bop_ge (fe_var (pv 2)) (fe_op (fun h1 h2 => pe_op op_pow h1 h2) bop_pow fe_int fe_int)) (fss_cons (fs_setIx (fun h1 h2 h3 => ps_asg h1 (pg_sub h2 h3 set_list)) (fe_op (fun h1 h2 => pe_op op_fdiv h1 h2) bop_div (fe_var (pv 2)) (fe_var (pv 1))) (fe_op (fun h1 h2 => pe_ix ix_seq h1 h2 (fun _ _ => rfl)) bop_ix (fe_var (pv 0)) fe_int) (fe_op (fun h1 h2 => pe_op op_mod h1 h2) bop_mod (fe_call (fun h => pe_callTy call_int1 (by rfl) (T.fr 1) Tw.boot_int h) bc_int (fa_cons (fe_op (fun h1 h2 => pe_ix ix_seq h1 h2 (fun _ _ => rfl)) bop_ix (fe_var (pv 0)) fe_int) fa_nil)) (fe_call (fun h => pe_callB call_len_seq (by rfl) (T.fr 5) Tw.boot_len h) bc_len (fa_cons (fe_op (fun h1 h2 => pe_ix ix_seq h1 h2 (fun _ _ => rfl)) bop_ix (fe_var (pv 0)) fe_int) fa_nil))))
    (fss_one (fs_ret (fe_op (fun h1 h2 => pe_op op_mod h1 h2) bop_mod (fe_call (fun h => pe_callTy call_int1 (by rfl) (T.fr 1) Tw.boot_int h) bc_int (fa_cons (fe_var (pv 2)) fa_nil)) (fe_var (pv 1)))))) fss_nil)
    (fss_cons (fs_setIx (fun h1 h2 h3 => ps_asg h1 (pg_sub h2 h3 set_list)) (fe_op (fun h1 h2 => pe_op op_mod h1 h2) bop_mod (fe_call (fun h => pe_callTy call_int1 (by rfl) (T.fr 1) Tw.boot_int h) bc_int (fa_cons (fe_op (fun h1 h2 => pe_op op_addU h1 h2) bop_add (fe_op (fun h1 h2 => pe_op op_addU h1 h2) bop_add (fe_op (fun h1 h2 => pe_op op_mul h1 h2) bop_mul (fe_op (fun h1 h2 => pe_ix ix_seq h1 h2 (fun _ _ => rfl)) bop_ix (fe_var (pv 0)) fe_int) fe_int) (fe_op (fun h1 h2 => pe_op op_mul h1 h2) bop_mul (fe_var (pv 2)) fe_int)) fe_int) fa_nil)) fe_int) (fe_var (pv 0)) fe_int)
    (fss_cons (fs_setIx (fun h1 h2 h3 => ps_asg h1 (pg_sub h2 h3 set_list)) (fe_op (fun h1 h2 => pe_op op_addU h1 h2) bop_add (fe_op (fun h1 h2 => pe_ix ix_seq h1 h2 (fun _ _ => rfl)) bop_ix (fe_var (pv 0)) fe_int) fe_int) (fe_var (pv 0)) fe_int)
    (fss_one (fs_ret (fe_op (fun h1 h2 => pe_op op_mod h1 h2) bop_mod (fe_call (fun h => pe_callTy call_int1 (by rfl) (T.fr 1) Tw.boot_int h) bc_int (fa_cons (fe_op (fun h1 h2 => pe_op op_fdiv h1 h2) bop_div (fe_op (fun h1 h2 => pe_ix ix_seq h1 h2 (fun _ _ => rfl)) bop_ix (fe_var (pv 0)) fe_int) fe_int) fa_nil)) (fe_var (pv 1)))))))))), (T.gl 38), Fd.kp, Fd.bindsN fun _ _ _ _ _ _ us hl => match us, hl with | [_, _], _ => rfl⟩

theorem sc__law_purse : FnScope ["_law_h"] ["_law_h"] (defScope (tp 31)) := ⟨rfl, rfl, rfl, by decide +kernel, rfl, by decide +kernel, by decide +kernel⟩
theorem cal__law_purse (T : Tx facts fns K mg) : Cal P w K mg base "_law_purse" 2 1 (callM 1 m__law_purse) := by
  have C__law_next := cal__law_next (P := P) (w := w) (base := base) T
  obtain ⟨fd, Fd⟩ := SaysW.fd T.says 13
  have sc := sc__law_purse
  exact ⟨_, fd, _, fn_ok Fd sc__law_purse (fun cdv A outer s H E hr =>
    (fss_one (fs_ret (fe_tup (fa_cons (fe_cal C__law_next (hr.mono (by decide)) (takes_of rfl rfl rfl rfl) (fa_cons (fe_var (pv 0)) (fa_cons fe_int fa_nil)) (lenS (lenS len0))) (fa_cons (fe_cal C__law_next (hr.mono (by decide)) (takes_of rfl rfl rfl rfl) (fa_cons (fe_var (pv 0)) (fa_cons fe_int fa_nil)) (lenS (lenS len0))) fa_nil)))))), (T.gl 39), Fd.kp, Fd.bindsN fun _ _ _ _ _ _ us hl => match us, hl with | [_], _ => rfl⟩

theorem sc__law_total : FnScope ["_law_h"] ["_law_h"] (defScope (tp 32)) := ⟨rfl, rfl, rfl, by decide +kernel, rfl, by decide +kernel, by decide +kernel⟩
theorem cal__law_total (T : Tx facts fns K mg) : Cal P w K mg base "_law_total" 2 1 (callM 1 m__law_total) := by
  have C__law_next := cal__law_next (P := P) (w := w) (base := base) T
  obtain ⟨fd, Fd⟩ := SaysW.fd T.says 14
  have sc := sc__law_total
  exact ⟨_, fd, _, fn_ok Fd sc__law_total (fun cdv A outer s H E hr =>
    (fss_one (fs_ret (fe_tup (fa_cons (fe_cal C__law_next (hr.mono (by decide)) (takes_of rfl rfl rfl rfl) (fa_cons (fe_var (pv 0)) (fa_cons fe_int fa_nil)) (lenS (lenS len0))) (fa_cons (fe_cal C__law_next (hr.mono (by decide)) (takes_of rfl rfl rfl rfl) (fa_cons (fe_var (pv 0)) (fa_cons fe_int fa_nil)) (lenS (lenS len0))) (fa_cons (fe_op (fun h1 h2 => pe_ix ix_seq h1 h2 (fun _ _ => rfl)) bop_ix (fe_lst (fa_cons fe_int (fa_cons fe_int (fa_cons (fe_op (fun h1 h2 => pe_op op_sub h1 h2) bop_sub (fe_cal C__law_next (hr.mono (by decide)) (takes_of rfl rfl rfl rfl) (fa_cons (fe_var (pv 0)) (fa_cons fe_int fa_nil)) (lenS (lenS len0))) fe_int) (fa_cons (fe_op (fun h1 h2 => pe_op op_sub h1 h2) bop_sub (fe_cal C__law_next (hr.mono (by decide)) (takes_of rfl rfl rfl rfl) (fa_cons (fe_var (pv 0)) (fa_cons fe_int fa_nil)) (lenS (lenS len0))) fe_int) fa_nil))))) (fe_cal C__law_next (hr.mono (by decide)) (takes_of rfl rfl rfl rfl) (fa_cons (fe_var (pv 0)) (fa_cons fe_int fa_nil)) (lenS (lenS len0)))) fa_nil))))))), (T.gl 40), Fd.kp, Fd.bindsN fun _ _ _ _ _ _ us hl => match us, hl with | [_], _ => rfl⟩

theorem sc__law_recipe : FnScope ["_law_h", "_law_found", "_law_k"] ["_law_h"] (defScope (tp 33)) := ⟨rfl, rfl, rfl, by decide +kernel, rfl, by decide +kernel, by decide +kernel⟩
theorem cal__law_recipe (T : Tx facts fns K mg) : Cal P w K mg base "_law_recipe" 2 1 (callM 3 m__law_recipe) := by
  have C__law_next := cal__law_next (P := P) (w := w) (base := base) T
  obtain ⟨fd, Fd⟩ := SaysW.fd T.says 15
  have sc := sc__law_recipe
  exact ⟨_, fd, _, fn_ok Fd sc__law_recipe (fun cdv A outer s H E hr =>
    (fss_cons (fs_set (fun h => ps_set (i := 1) sc.nd rfl (.inl rfl) h) (fe_lstO fa_nil))
    (fss_cons (fs_for (passes_of rfl) rfl (fi_rng1 (fun h => pi_range1 (by rfl) (T.fr 41) h) (fa_cons (fe_cal C__law_next (hr.mono (by decide)) (takes_of rfl rfl rfl rfl) (fa_cons (fe_var (pv 0)) (fa_cons fe_int fa_nil)) (lenS (lenS len0))) fa_nil)) (fg_name (ws := [2]) (pg_name (i := 2) sc.nd rfl (.inl rfl)) (by decide))
     (fss_one (fs_drop (fun h => ps_expr h) (fe_app (fun h1 h2 => pe_bm PySem.F.plainAttrs_list PySem.F.slot_list_append PySem.F.type_list_append mt_append h1 (pa_cons h2 pa_nil)) (fe_var (pv 1)) (fe_tup (fa_cons (fe_op (fun h1 h2 => pe_ix ix_seq h1 h2 (fun _ _ => rfl)) bop_ix (fe_lst (fa_cons fe_str (fa_cons fe_str (fa_cons fe_str fa_nil)))) (fe_cal C__law_next (hr.mono (by decide)) (takes_of rfl rfl rfl rfl) (fa_cons (fe_var (pv 0)) (fa_cons fe_int fa_nil)) (lenS (lenS len0)))) (fa_cons (fe_op (fun h1 h2 => pe_ix ix_seq h1 h2 (fun _ _ => rfl)) bop_ix (fe_lst (fa_cons fe_str (fa_cons fe_str fa_nil))) (fe_cal C__law_next (hr.mono (by decide)) (takes_of rfl rfl rfl rfl) (fa_cons (fe_var (pv 0)) (fa_cons fe_int fa_nil)) (lenS (lenS len0)))) fa_nil)))))))
    (fss_one (fs_ret (fe_call (fun h => pe_callTy call_tuple_of (by rfl) (T.fr 4) Tw.boot_tuple h) bc_tuple (fa_cons (fe_var (pv 1)) fa_nil))))))), (T.gl 42), Fd.kp, Fd.bindsN fun _ _ _ _ _ _ us hl => match us, hl with | [_], _ => rfl⟩

theorem sc__law_done : FnScope ["_law_worths", "_law_purse_here", "_law_total_here", "_law_recipe_here", "_law_left", "_law_have", "_law_way", "_law_kind", "_law_k"] ["_law_worths", "_law_purse_here", "_law_total_here", "_law_recipe_here"] (defScope (tp 34)) := ⟨rfl, rfl, rfl, by decide +kernel, rfl, by decide +kernel, by decide +kernel⟩
theorem cal__law_done (T : Tx facts fns K mg) : Cal P w K mg base "_law_done" 1 4 (callM 9 m__law_done) := by
  obtain ⟨fd, Fd⟩ := SaysW.fd T.says 16
  have sc := sc__law_done
  exact ⟨_, fd, _, fn_ok Fd sc__law_done (fun cdv A outer s H E hr =>
    (fss_cons (fs_set (fun h => ps_set (i := 4) sc.nd rfl (.inl rfl) h) (fe_op (fun h1 h2 => pe_op op_addU h1 h2) bop_add (fe_op (fun h1 h2 => pe_op op_addU h1 h2) bop_add (fe_op (fun h1 h2 => pe_op op_mul h1 h2) bop_mul (fe_op (fun h1 h2 => pe_ix ix_seq h1 h2 (fun _ _ => rfl)) bop_ix (fe_var (pv 2)) fe_int) (fe_op (fun h1 h2 => pe_ix ix_seq h1 h2 (fun _ _ => rfl)) bop_ix (fe_var (pv 0)) fe_int)) (fe_op (fun h1 h2 => pe_op op_mul h1 h2) bop_mul (fe_op (fun h1 h2 => pe_ix ix_seq h1 h2 (fun _ _ => rfl)) bop_ix (fe_var (pv 2)) fe_int) (fe_op (fun h1 h2 => pe_ix ix_seq h1 h2 (fun _ _ => rfl)) bop_ix (fe_var (pv 0)) fe_int))) (fe_op (fun h1 h2 => pe_ix ix_seq h1 h2 (fun _ _ => rfl)) bop_ix (fe_var (pv 2)) fe_int)))
    (fss_cons (fs_set (fun h => ps_set (i := 5) sc.nd rfl (.inl rfl) h) (fe_lstO (fa_cons (fe_op (fun h1 h2 => pe_ix ix_seq h1 h2 (fun _ _ => rfl)) bop_ix (fe_var (pv 1)) fe_int) (fa_cons (fe_op (fun h1 h2 => pe_ix ix_seq h1 h2 (fun _ _ => rfl)) bop_ix (fe_var (pv 1)) fe_int) fa_nil))))
    (fss_cons (fs_for (passes_of rfl) rfl (fi_seq (fe_var (pv 3))) (fg_tup rfl (fgs_cons (fg_name (ws := [6, 7]) (pg_name (i := 6) sc.nd rfl (.inl rfl)) (by decide)) (fgs_cons (fg_name (ws := [6, 7]) (pg_name (i := 7) sc.nd rfl (.inl rfl)) (by decide)) fgs_nil)) rfl)
     (fss_cons (fs_set (fun h => ps_set (i := 8) sc.nd rfl (.inl rfl) h) (fe_if (ft_op (fun h1 h2 => pt_cmpR (op_eqD hr.units) h1 h2 (nomark _)) bop_eq (fe_var (pv 7)) fe_str) fe_int fe_int))
    (fss_one (fs_if (ft_op (fun h1 h2 => pt_cmpR (op_eqD hr.units) h1 h2 (nomark _)) bop_eq (fe_var (pv 6)) fe_str) (fss_one (fs_if ((fw_and (ft_op (fun h1 h2 => pt_cmpR op_gt h1 h2 (nomark _)) bop_gt (fe_op (fun h1 h2 => pe_ix ix_seq h1 h2 (fun _ _ => rfl)) bop_ix (fe_var (pv 5)) (fe_var (pv 8))) fe_int) (fw_and1 (ft_op (fun h1 h2 => pt_cmpR op_gt h1 h2 (nomark _)) bop_gt (fe_var (pv 4)) fe_int)))).pt (fss_cons (fs_setIx (fun h1 h2 h3 => ps_asg h1 (pg_sub h2 h3 set_list)) (fe_op (fun h1 h2 => pe_op op_sub h1 h2) bop_sub (fe_op (fun h1 h2 => pe_ix ix_seq h1 h2 (fun _ _ => rfl)) bop_ix (fe_var (pv 5)) (fe_var (pv 8))) fe_int) (fe_var (pv 5)) (fe_var (pv 8)))
    (fss_one (fs_set (fun h => ps_set (i := 4) sc.nd rfl (.inl rfl) h) (fe_op (fun h1 h2 => pe_op op_sub h1 h2) bop_sub (fe_var (pv 4)) (fe_op (fun h1 h2 => pe_ix ix_seq h1 h2 (fun _ _ => rfl)) bop_ix (fe_var (pv 0)) (fe_var (pv 8))))))) fss_nil)) (fss_one (fs_while (passes_of rfl) ((fw_and (ft_op (fun h1 h2 => pt_cmpR op_gt h1 h2 (nomark _)) bop_gt (fe_op (fun h1 h2 => pe_ix ix_seq h1 h2 (fun _ _ => rfl)) bop_ix (fe_var (pv 5)) (fe_var (pv 8))) fe_int) (fw_and1 (ft_op (fun h1 h2 => pt_cmpR op_le h1 h2 (nomark _)) bop_le (fe_op (fun h1 h2 => pe_ix ix_seq h1 h2 (fun _ _ => rfl)) bop_ix (fe_var (pv 0)) (fe_var (pv 8))) (fe_var (pv 4)))))).pt (fss_cons (fs_setIx (fun h1 h2 h3 => ps_asg h1 (pg_sub h2 h3 set_list)) (fe_op (fun h1 h2 => pe_op op_sub h1 h2) bop_sub (fe_op (fun h1 h2 => pe_ix ix_seq h1 h2 (fun _ _ => rfl)) bop_ix (fe_var (pv 5)) (fe_var (pv 8))) fe_int) (fe_var (pv 5)) (fe_var (pv 8)))
    (fss_one (fs_set (fun h => ps_set (i := 4) sc.nd rfl (.inl rfl) h) (fe_op (fun h1 h2 => pe_op op_sub h1 h2) bop_sub (fe_var (pv 4)) (fe_op (fun h1 h2 => pe_ix ix_seq h1 h2 (fun _ _ => rfl)) bop_ix (fe_var (pv 0)) (fe_var (pv 8)))))))))))))
    (fss_one (fs_ret (fe_tup (fa_cons (fe_tup (fa_cons (fe_op (fun h1 h2 => pe_op op_sub h1 h2) bop_sub (fe_op (fun h1 h2 => pe_ix ix_seq h1 h2 (fun _ _ => rfl)) bop_ix (fe_var (pv 1)) fe_int) (fe_op (fun h1 h2 => pe_ix ix_seq h1 h2 (fun _ _ => rfl)) bop_ix (fe_var (pv 5)) fe_int)) (fa_cons (fe_op (fun h1 h2 => pe_op op_sub h1 h2) bop_sub (fe_op (fun h1 h2 => pe_ix ix_seq h1 h2 (fun _ _ => rfl)) bop_ix (fe_var (pv 1)) fe_int) (fe_op (fun h1 h2 => pe_ix ix_seq h1 h2 (fun _ _ => rfl)) bop_ix (fe_var (pv 5)) fe_int)) fa_nil))) (fa_cons (fe_var (pv 4)) fa_nil))))))))), (T.gl 43), Fd.kp, Fd.bindsN fun _ _ _ _ _ _ us hl => match us, hl with | [_, _, _, _], _ => rfl⟩

theorem sc__law_refused : FnScope ["_law_worths", "_law_purse_here", "_law_total_here", "_law_recipe_here", "_law_told", "e"] ["_law_worths", "_law_purse_here", "_law_total_here", "_law_recipe_here"] (defScope (tp 35)) := ⟨rfl, rfl, rfl, by decide +kernel, rfl, by decide +kernel, by decide +kernel⟩
theorem cal__law_refused (T : Tx facts fns K mg) : Cal P w K mg base "_law_refused" 6 4 (callM 6 m__law_refused) := by
  have C_paid := cal_paid (P := P) (w := w) (base := base) T
  obtain ⟨fd, Fd⟩ := SaysW.fd T.says 17
  have sc := sc__law_refused
  exact ⟨_, fd, _, fn_ok Fd sc__law_refused (fun cdv A outer s H E hr =>
    (fss_cons (fs_set (fun h => ps_set (i := 4) sc.nd rfl (.inl rfl) h) fe_non)
    (fss_cons (fs_try (c := cE K E) (ns := [("InvalidWorths" : PySem.Str), ("InvalidPurse" : PySem.Str), ("InvalidTotal" : PySem.Str), ("InvalidRecipe" : PySem.Str)]) rfl rfl rfl rfl sc.nd (takes_of rfl rfl rfl rfl) (fmc (fmc (T.exm 62) (fmc (T.exm 61) (fmc (T.exm 60) (fmc (T.exm 59) fm0)))) (fmc (fmc (T.exm 58) (fmc (T.exm 57) (fmc (T.exm 56) (fmc (T.exm 55) fm0)))) (fmc (fmc (T.exm 54) (fmc (T.exm 53) (fmc (T.exm 52) (fmc (T.exm 51) fm0)))) (fmc (fmc (T.exm 50) (fmc (T.exm 49) (fmc (T.exm 48) (fmc (T.exm 47) fm0)))) fm0)))) (fun W pn xe tk po => (fss_one (fs_drop (fun h => ps_expr h) (fe_cal C_paid (hr.mono (by decide)) tk (fa_cons (fe_var (pv 0)) (fa_cons (fe_var (pv 1)) (fa_cons (fe_var (pv 2)) (fa_cons (fe_var (pv 3)) fa_nil)))) (lenS (lenS (lenS (lenS len0))))))))
     (hs_named (c := cE K E) ⟨rfl, by decide, .inl (T.gl 34)⟩ rfl rfl (fun a ob cl dd pn n as hz hu => (fss_one (fs_set (fun h => ps_set (i := 4) sc.nd rfl (.inl rfl) h) (fe_if (ft_val (fe_isX (ns := [("InvalidWorths" : PySem.Str)]) rfl hz hu (fmc (fcExcC_ok (T.fc 44)) fm0) (fmc (T.kit 45) fm0) (T.gl 46) (T.fr 0) rfl rfl rfl (.inl rfl))) fe_str fe_str))))
     (hs_bare (c := cE K E) ⟨rfl, by decide, .inl (T.gl 23)⟩  (fun a ob cl dd pn n as hz hu => (fss_one (fs_set (fun h => ps_set (i := 4) sc.nd rfl (.inl rfl) h) fe_str)))
     (hs_bare (c := cE K E) ⟨rfl, by decide, .inl (T.gl 25)⟩  (fun a ob cl dd pn n as hz hu => (fss_one (fs_set (fun h => ps_set (i := 4) sc.nd rfl (.inl rfl) h) fe_str)))
     (hs_bare (c := cE K E) ⟨rfl, by decide, .inl (T.gl 27)⟩  (fun a ob cl dd pn n as hz hu => (fss_one (fs_set (fun h => ps_set (i := 4) sc.nd rfl (.inl rfl) h) fe_str)))
     (hs_nil (c := cE K E)))))))
    (fss_one (fs_ret (fe_var (pv 4))))))), (T.gl 63), Fd.kp, Fd.bindsN fun _ _ _ _ _ _ us hl => match us, hl with | [_, _, _, _], _ => rfl⟩

theorem sc_law : FnScope ["_law_script", "_law_h", "_law_turn", "_law_sizes", "_law_worths", "_law_purse_here", "_law_total_here", "_law_recipe_here", "_law_told", "_law_odd", "_law_step"] ["_law_script"] (defScope (tp 36)) := ⟨rfl, rfl, rfl, by decide +kernel, rfl, by decide +kernel, by decide +kernel⟩
theorem ok_law (T : Tx facts fns K mg) : ∃ fd, (∀ (s : Shared) (u : Value), BindsTo s fd ⟨[u], []⟩ [("_law_script", u)]) ∧ mg "law" = some (.ref (He.fAd K ("law", none))) ∧ ∀ base : Heap, FnOk P w K mg base (L2.CX P w) 7 (He.fAd K ("law", none)) fd ["_law_script"] (spF K (callM 11 m_law) 1) := by
  obtain ⟨fd, Fd⟩ := SaysW.fd T.says 18
  have sc := sc_law
  refine ⟨fd, fun s u => Fd.bindsA (ps := ["_law_script"]) (fun _ _ _ _ _ _ us hl => match us, hl with | [_], _ => rfl) s [u] rfl, T.gl 64, fun base => ?_⟩
  have C__law_mix := cal__law_mix (P := P) (w := w) (base := base) T
  have C__law_next := cal__law_next (P := P) (w := w) (base := base) T
  have C__law_recipe := cal__law_recipe (P := P) (w := w) (base := base) T
  have C__law_total := cal__law_total (P := P) (w := w) (base := base) T
  have C__law_purse := cal__law_purse (P := P) (w := w) (base := base) T
  have C_paid := cal_paid (P := P) (w := w) (base := base) T
  have C__law_done := cal__law_done (P := P) (w := w) (base := base) T
  have C__law_refused := cal__law_refused (P := P) (w := w) (base := base) T
  exact fn_ok Fd sc_law (fun cdv A outer s H E hr =>
    (fss_cons (fs_set (fun h => ps_set (i := 1) sc.nd rfl (.inl rfl) h) (fe_cal C__law_mix (hr.mono (by decide)) (takes_of rfl rfl rfl rfl) (fa_cons (fe_var (pv 0)) (fa_cons fe_int fa_nil)) (lenS (lenS len0))))
    (fss_cons (fs_for (passes_of rfl) rfl (fi_rng1 (fun h => pi_range1 (by rfl) (T.fr 41) h) (fa_cons fe_int fa_nil)) (fg_name (ws := [2]) (pg_name (i := 2) sc.nd rfl (.inl rfl)) (by decide))
     (fss_cons (fs_set (fun h => ps_set (i := 3) sc.nd rfl (.inl rfl) h) (fe_lst (fa_cons fe_int (fa_cons fe_int (fa_cons fe_int (fa_cons (fe_op (fun h1 h2 => pe_op op_pow h1 h2) bop_pow fe_int fe_int) fa_nil))))))
    (fss_cons (fs_set (fun h => ps_set (i := 4) sc.nd rfl (.inl rfl) h) (fe_tup (fa_cons (fe_op (fun h1 h2 => pe_op op_addU h1 h2) bop_add fe_int (fe_cal C__law_next (hr.mono (by decide)) (takes_of rfl rfl rfl rfl) (fa_cons (fe_var (pv 1)) (fa_cons (fe_op (fun h1 h2 => pe_ix ix_seq h1 h2 (fun _ _ => rfl)) bop_ix (fe_var (pv 3)) (fe_cal C__law_next (hr.mono (by decide)) (takes_of rfl rfl rfl rfl) (fa_cons (fe_var (pv 1)) (fa_cons fe_int fa_nil)) (lenS (lenS len0)))) fa_nil)) (lenS (lenS len0)))) (fa_cons (fe_op (fun h1 h2 => pe_op op_addU h1 h2) bop_add fe_int (fe_cal C__law_next (hr.mono (by decide)) (takes_of rfl rfl rfl rfl) (fa_cons (fe_var (pv 1)) (fa_cons (fe_op (fun h1 h2 => pe_ix ix_seq h1 h2 (fun _ _ => rfl)) bop_ix (fe_var (pv 3)) (fe_cal C__law_next (hr.mono (by decide)) (takes_of rfl rfl rfl rfl) (fa_cons (fe_var (pv 1)) (fa_cons fe_int fa_nil)) (lenS (lenS len0)))) fa_nil)) (lenS (lenS len0)))) fa_nil))))
    (fss_cons (fs_par3 (fun h => ps_par3 rfl sc.nd (i := 5) (j := 6) (l := 7) rfl rfl rfl (by decide) (by decide) (by decide) rfl rfl rfl h rfl) (fa_cons (fe_cal C__law_purse (hr.mono (by decide)) (takes_of rfl rfl rfl rfl) (fa_cons (fe_var (pv 1)) fa_nil) (lenS len0)) (fa_cons (fe_cal C__law_total (hr.mono (by decide)) (takes_of rfl rfl rfl rfl) (fa_cons (fe_var (pv 1)) fa_nil) (lenS len0)) (fa_cons (fe_cal C__law_recipe (hr.mono (by decide)) (takes_of rfl rfl rfl rfl) (fa_cons (fe_var (pv 1)) fa_nil) (lenS len0)) fa_nil))))
    (fss_cons (fs_set (fun h => ps_set (i := 8) sc.nd rfl (.inl rfl) h) (fe_cal C_paid (hr.mono (by decide)) (takes_of rfl rfl rfl rfl) (fa_cons (fe_var (pv 4)) (fa_cons (fe_var (pv 5)) (fa_cons (fe_var (pv 6)) (fa_cons (fe_var (pv 7)) fa_nil)))) (lenS (lenS (lenS (lenS len0))))))
    (fss_one (fs_if ((fw_or (ft_op (fun h1 h2 => pt_cmpR (op_neD hr.units) h1 h2 (nomark _)) bop_ne (fe_var (pv 8)) (fe_cal C__law_done (hr.mono (by decide)) (takes_of rfl rfl rfl rfl) (fa_cons (fe_var (pv 4)) (fa_cons (fe_var (pv 5)) (fa_cons (fe_var (pv 6)) (fa_cons (fe_var (pv 7)) fa_nil)))) (lenS (lenS (lenS (lenS len0)))))) (fw_or1 (ft_not (ft_val (fe_isi (t := .tuple) (fun h => pe_callB call_isi (by rfl) (T.fr 0) Tw.boot_isinstance (pa_cons h (pa_cons (pe_bltn (v := .ty "tuple") (by rfl) (T.fr 4) Tw.boot_tuple rfl) pa_nil))) (fe_var (pv 8)))))))).pt (fss_one (fs_ret fe_bl)) fss_nil)))))))
    (fss_cons (fs_set (fun h => ps_set (i := 9) sc.nd rfl (.inl rfl) h) (fe_op (fun h1 h2 => pe_ix ix_seq h1 h2 (fun _ _ => rfl)) bop_ix (fe_lst (fa_cons (fe_tup (fa_cons fe_int (fa_cons fe_int fa_nil))) (fa_cons (fe_tup (fa_cons fe_int (fa_cons fe_int fa_nil))) (fa_cons (fe_tup (fa_cons fe_bl (fa_cons fe_int fa_nil))) (fa_cons (fe_tup (fa_cons fe_int (fa_cons (fe_op (fun h1 h2 => pe_op op_addU h1 h2) bop_add (fe_op (fun h1 h2 => pe_op op_pow h1 h2) bop_pow fe_int fe_int) fe_int) fa_nil))) (fa_cons (fe_lst (fa_cons fe_int (fa_cons fe_int fa_nil))) (fa_cons (fe_tup (fa_cons fe_int fa_nil)) (fa_cons fe_non (fa_cons fe_str fa_nil))))))))) (fe_cal C__law_next (hr.mono (by decide)) (takes_of rfl rfl rfl rfl) (fa_cons (fe_var (pv 1)) (fa_cons fe_int fa_nil)) (lenS (lenS len0)))))
    (fss_cons (fs_if (ft_op (fun h1 h2 => pt_cmpR (op_neD hr.units) h1 h2 (nomark _)) bop_ne (fe_cal C__law_refused (hr.mono (by decide)) (takes_of rfl rfl rfl rfl) (fa_cons (fe_var (pv 9)) (fa_cons fe_non (fa_cons fe_non (fa_cons fe_non fa_nil)))) (lenS (lenS (lenS (lenS len0))))) fe_str) (fss_one (fs_ret fe_bl)) fss_nil)
    (fss_cons (fs_set (fun h => ps_set (i := 9) sc.nd rfl (.inl rfl) h) (fe_op (fun h1 h2 => pe_ix ix_seq h1 h2 (fun _ _ => rfl)) bop_ix (fe_lst (fa_cons (fe_tup (fa_cons fe_int (fa_cons fe_int fa_nil))) (fa_cons (fe_tup (fa_cons fe_int (fa_cons (fe_un (fun h => pe_un un_neg h) uop_neg fe_int) fa_nil))) (fa_cons (fe_tup (fa_cons fe_non (fa_cons fe_int fa_nil))) (fa_cons (fe_lst (fa_cons fe_int (fa_cons fe_int fa_nil))) (fa_cons (fe_tup (fa_cons fe_int fa_nil)) (fa_cons fe_non fa_nil))))))) (fe_cal C__law_next (hr.mono (by decide)) (takes_of rfl rfl rfl rfl) (fa_cons (fe_var (pv 1)) (fa_cons fe_int fa_nil)) (lenS (lenS len0)))))
    (fss_cons (fs_if (ft_op (fun h1 h2 => pt_cmpR (op_neD hr.units) h1 h2 (nomark _)) bop_ne (fe_cal C__law_refused (hr.mono (by decide)) (takes_of rfl rfl rfl rfl) (fa_cons (fe_tup (fa_cons fe_int (fa_cons fe_int fa_nil))) (fa_cons (fe_var (pv 9)) (fa_cons fe_non (fa_cons fe_non fa_nil)))) (lenS (lenS (lenS (lenS len0))))) fe_str) (fss_one (fs_ret fe_bl)) fss_nil)
    (fss_cons (fs_set (fun h => ps_set (i := 9) sc.nd rfl (.inl rfl) h) (fe_op (fun h1 h2 => pe_ix ix_seq h1 h2 (fun _ _ => rfl)) bop_ix (fe_lst (fa_cons (fe_tup (fa_cons fe_int (fa_cons fe_int (fa_cons fe_int fa_nil)))) (fa_cons (fe_tup (fa_cons fe_int (fa_cons fe_int (fa_cons (fe_un (fun h => pe_un un_neg h) uop_neg fe_int) fa_nil)))) (fa_cons (fe_tup (fa_cons fe_int (fa_cons fe_bl (fa_cons fe_int fa_nil)))) (fa_cons (fe_lst (fa_cons fe_int (fa_cons fe_int (fa_cons fe_int fa_nil)))) (fa_cons (fe_tup (fa_cons fe_int (fa_cons fe_int fa_nil))) (fa_cons fe_non fa_nil))))))) (fe_cal C__law_next (hr.mono (by decide)) (takes_of rfl rfl rfl rfl) (fa_cons (fe_var (pv 1)) (fa_cons fe_int fa_nil)) (lenS (lenS len0)))))
    (fss_cons (fs_if (ft_op (fun h1 h2 => pt_cmpR (op_neD hr.units) h1 h2 (nomark _)) bop_ne (fe_cal C__law_refused (hr.mono (by decide)) (takes_of rfl rfl rfl rfl) (fa_cons (fe_tup (fa_cons fe_int (fa_cons fe_int fa_nil))) (fa_cons (fe_tup (fa_cons fe_int (fa_cons fe_int fa_nil))) (fa_cons (fe_var (pv 9)) (fa_cons fe_non fa_nil)))) (lenS (lenS (lenS (lenS len0))))) fe_str) (fss_one (fs_ret fe_bl)) fss_nil)
    (fss_cons (fs_set (fun h => ps_set (i := 10) sc.nd rfl (.inl rfl) h) (fe_tup (fa_cons fe_str (fa_cons fe_str fa_nil))))
    (fss_cons (fs_set (fun h => ps_set (i := 9) sc.nd rfl (.inl rfl) h) (fe_lst (fa_cons fe_non (fa_cons (fe_lst (fa_cons (fe_var (pv 10)) fa_nil)) (fa_cons (fe_op (fun h1 h2 => pe_op op_repT h1 h2) bop_repT (fe_tup (fa_cons (fe_var (pv 10)) fa_nil)) fe_int) (fa_cons (fe_tup (fa_cons (fe_tup (fa_cons fe_str (fa_cons fe_str fa_nil))) fa_nil)) (fa_cons (fe_tup (fa_cons (fe_tup (fa_cons fe_str (fa_cons fe_str fa_nil))) fa_nil)) (fa_cons (fe_tup (fa_cons (fe_var (pv 10)) (fa_cons (fe_lst (fa_cons fe_str (fa_cons fe_str fa_nil))) fa_nil))) (fa_cons (fe_tup (fa_cons fe_str (fa_cons fe_str fa_nil))) fa_nil)))))))))
    (fss_cons (fs_set (fun h => ps_set (i := 9) sc.nd rfl (.inl rfl) h) (fe_op (fun h1 h2 => pe_op op_addU h1 h2) bop_add (fe_var (pv 9)) (fe_lst (fa_cons (fe_tup (fa_cons (fe_tup (fa_cons fe_str fa_nil)) fa_nil)) (fa_cons (fe_tup (fa_cons (fe_tup (fa_cons (fe_tup (fa_cons fe_str fa_nil)) (fa_cons fe_str fa_nil))) fa_nil)) (fa_cons (fe_tup (fa_cons (fe_var (pv 10)) (fa_cons fe_non fa_nil))) (fa_cons fe_str fa_nil)))))))
    (fss_one (fs_ret (fe_op (fun h1 h2 => pe_cmpR (op_eqD hr.units) h1 h2 (nomark _)) bop_eq (fe_cal C__law_refused (hr.mono (by decide)) (takes_of rfl rfl rfl rfl) (fa_cons (fe_tup (fa_cons fe_int (fa_cons fe_int fa_nil))) (fa_cons (fe_tup (fa_cons fe_int (fa_cons fe_int fa_nil))) (fa_cons (fe_tup (fa_cons fe_int (fa_cons fe_int (fa_cons fe_int fa_nil)))) (fa_cons (fe_op (fun h1 h2 => pe_ix ix_seq h1 h2 (fun _ _ => rfl)) bop_ix (fe_var (pv 9)) (fe_cal C__law_next (hr.mono (by decide)) (takes_of rfl rfl rfl rfl) (fa_cons (fe_var (pv 1)) (fa_cons fe_int fa_nil)) (lenS (lenS len0)))) fa_nil)))) (lenS (lenS (lenS (lenS len0))))) fe_str)))))))))))))))

end
/-! ### plain: the law's draws -/
def hs (R : Sto) (s : Int) (cs : List Int) (i : Int) : Sto := .lst (cs.map fun c => D.p (.int c)) :: .lst [.p (.int s), .own 0, .p (.int i), .p (.int 14)] :: R
theorem asPs_ints : ∀ cs : List Int, asPs (cs.map fun c => D.p (.int c)) = some (cs.map PyData.int)
  | [] => rfl
  | c :: cs => by rw [List.map_cons, List.map_cons, asPs, asPs_ints cs]; rfl
theorem map_set_int (cs : List Int) (k : Nat) (v : Int) : (cs.map fun c => D.p (.int c)).set k (.p (.int v)) = (cs.set k v).map fun c => D.p (.int c) := by
  rw [List.map_set]
/-- the state after some draws -/
def IsH (R S : Sto) : Prop := ∃ s cs i, cs.length ≤ 63 ∧ S = hs R s cs i
theorem IsH.len {R S : Sto} (h : IsH R S) : S.length = R.length + 2 := by
  obtain ⟨s, cs, i, hc, rfl⟩ := h
  rfl
theorem next_ok {R S : Sto} (h : IsH R S) (b : Int) (hb : 0 < b) (hb2 : b < 1073741824) : ∃ r S', 0 ≤ r ∧ r < b ∧ IsH R S' ∧ callM 3 m__law_next [.own 1, .p (.int b)] S = .ok (.p (.int r)) S' := by
  obtain ⟨s, cs, i, hc, rfl⟩ := h
  have hn : ∃ n : Int, n = (if (cs.length : Int) > 1 then (cs.length : Int) else 1) ∧ 0 < n ∧ n ≤ cs.length + 1 ∧ (cs ≠ [] → n = cs.length) := by
    refine ⟨_, rfl, ?_, ?_, fun h => ?_⟩
    · split <;> omega
    · split <;> omega
    · have := List.length_pos_iff.mpr h
      split <;> omega
  obtain ⟨n, en, hn0, hn1, hn2⟩ := hn
  have h0 : 0 ≤ i % n := Int.emod_nonneg _ (by omega)
  have h1 : i % n < n := Int.emod_lt_of_pos _ hn0
  have hcell : ∃ c, atI ((cs.map PyData.int) ++ [PyData.int 0]) (i % n) = some (.int c) ∧ (c ≠ 0 → cs ≠ []) := by
    by_cases hk : (i % n).toNat < cs.length
    · refine ⟨cs[(i % n).toNat], atI_some h0 ?_, fun _ h => by rw [h] at hk; cases hk⟩
      rw [List.getElem?_append_left (by simpa using hk)]
      simp [hk]
    · refine ⟨0, atI_some h0 ?_, fun h => absurd rfl h⟩
      rw [List.getElem?_append_right (by simpa using Nat.le_of_not_lt hk), List.length_map]
      have : (i % n).toNat - cs.length = 0 := by omega
      rw [this]
      rfl
  obtain ⟨c, hc1, hc2⟩ := hcell
  have hlim : (cs.map PyData.int).length + [PyData.int 0].length < lim := by
    simp only [List.length_map, List.length_cons, List.length_nil]
    show cs.length + (0 + 1) < 1000000
    omega
  have a1 : gAdd (.own 0) (.p (.list [.int 0])) (hs R s cs i) = .ok (.p (.list (cs.map PyData.int ++ [.int 0]))) (hs R s cs i) := by
    show (match asPs (cs.map fun c => D.p (.int c)) with
      | some a => if a.length + [PyData.int 0].length < lim then Res.ok (D.p (.list (a ++ [PyData.int 0]))) (hs R s cs i) else .bad
      | none => .bad) = _
    rw [asPs_ints]
    exact if_pos hlim
  rw [callM_ap 3 _ _ _ (by show 2 ≤ 3; decide)]
  have g0 : (hs R s cs i)[0]? = some (.lst (cs.map fun c => D.p (.int c))) := rfl
  have g1 : (hs R s cs i)[1]? = some (.lst [D.p (.int s), D.own 0, D.p (.int i), D.p (.int 14)]) := rfl
  by_cases hbig : (1000000000000000000 : Int) ≤ c
  · have hne : cs ≠ [] := hc2 (by omega)
    have hpos : 0 < cs.length := List.length_pos_iff.mpr hne
    have hix : ixN cs.length (i % cs.length) = some (i % cs.length).toNat := by
      have := hn2 hne
      subst this
      exact ixN_nat h0 h1
    refine ⟨c % b, hs R s (cs.set (i % cs.length).toNat (c / b)) i, Int.emod_nonneg _ (by omega), Int.emod_lt_of_pos _ hb, ⟨_, _, _, by rw [List.length_set]; exact hc, rfl⟩, ?_⟩
    have st : (hs R s cs i).set 0 (O.lst ((cs.map fun c => D.p (.int c)).set (i % cs.length).toNat (D.p (.int (c / b))))) = hs R s (cs.set (i % cs.length).toNat (c / b)) i := by
      rw [map_set_int]
      rfl
    have tl : (hs R s (cs.set (i % cs.length).toNat (c / b)) i).length = (hs R s cs i).length := rfl
    simp [m__law_next, g_ixO, g_ixT, g_ixL, g0, g1, a1, ← en, hn0, hc1, hbig, hb, hb2, hpos, hix, st, trim_same tl]
  · refine ⟨(((s * 48271 + c * 69621 + 11) % 2147483647) / 7) % b, hs R ((s * 48271 + c * 69621 + 11) % 2147483647) cs (i + 1), Int.emod_nonneg _ (by omega), Int.emod_lt_of_pos _ hb, ⟨_, _, _, hc, rfl⟩, ?_⟩
    have i0 : ixN 4 0 = some 0 := rfl
    have i2 : ixN 4 2 = some 2 := rfl
    have g1' : ∀ x, (hs R x cs i)[1]? = some (.lst [D.p (.int x), D.own 0, D.p (.int i), D.p (.int 14)]) := fun _ => rfl
    have g1'' : ∀ x, (hs R x cs (i + 1))[1]? = some (.lst [D.p (.int x), D.own 0, D.p (.int (i + 1)), D.p (.int 14)]) := fun _ => rfl
    have s1 : ∀ x, (hs R s cs i).set 1 (.lst [D.p (.int x), D.own 0, D.p (.int i), D.p (.int 14)]) = hs R x cs i := fun _ => rfl
    have s2 : ∀ x, (hs R x cs i).set 1 (.lst [D.p (.int x), D.own 0, D.p (.int (i + 1)), D.p (.int 14)]) = hs R x cs (i + 1) := fun _ => rfl
    have tl : ∀ x, (hs R x cs (i + 1)).length = (hs R s cs i).length := fun _ => rfl
    simp [m__law_next, g_ixO, g_ixT, g_ixL, g0, g1', g1'', s1, s2, a1, ← en, hn0, hc1, hbig, hb, hb2, i0, i2, trim_same (tl _)]

theorem IsH.set0 {x y : O} {R S : Sto} (h : IsH (x :: R) S) : S[2]? = some x ∧ IsH (y :: R) (S.set 2 y) := by
  obtain ⟨s, cs, i, hc, rfl⟩ := h
  exact ⟨rfl, s, cs, i, hc, rfl⟩
theorem IsH.push {R S : Sto} (h : IsH R S) (x : O) : IsH (R ++ [x]) (S ++ [x]) := by
  obtain ⟨s, cs, i, hc, rfl⟩ := h
  exact ⟨s, cs, i, hc, rfl⟩
theorem IsH.pop {R S S0 : Sto} (h : IsH R S) (h0 : IsH [] S0) (hR : 0 < R.length) (d : PyData) : ∃ S', IsH [] S' ∧ trim S0 (.p d) S = .ok (.p d) S' := by
  obtain ⟨s, cs, i, hc, rfl⟩ := h
  refine ⟨hs [] s cs i, ⟨s, cs, i, hc, rfl⟩, ?_⟩
  unfold trim
  rw [h0.len, if_neg (by show ¬ (R.length + 1 + 1 = 0 + 2); omega)]
  refine if_pos ?_
  show ((cs.map fun c => D.p (.int c)).all (D.low 2) && true) = true
  rw [List.all_map, Bool.and_true, List.all_eq_true]
  exact fun _ _ => rfl
theorem IsH.back {R S S0 : Sto} (h : IsH R S) (h0 : IsH R S0) (d : D) : trim S0 d S = .ok d S := trim_same (by rw [h.len, h0.len])
theorem mix_ok (ns : List Int) (k : Int) (h : ns.length ≤ 63) : ∃ S, IsH [] S ∧ callO 4 m__law_mix [.scr ns, .p (.int k)] [] = .ok (.own 1) S := by
  rw [callO_ap 4 _ _ _ (by show 2 ≤ 4; decide)]
  have loop : ∀ (l : List Int) (st : Int) (x : Option D), ∃ st' x', forL (gNm 3) (fSet 2 (fBin gMod (fCall gInt (fCons (fBin gAdd (fBin gAdd (fBin gMul (fVar 2) (fCon (.int 48271))) (fBin gMod (fCall gInt (fCons (fVar 3) fNil)) (fCon (.int 2147483629)))) (fCon (.int 1))) fNil)) (fCon (.int 2147483647)))) ((l.map PyData.int).map D.p) [some (.scr ns), some (.p (.int k)), some (.p (.int st)), x] [] = .nx [some (.scr ns), some (.p (.int k)), some (.p (.int st')), x'] [] := by
    intro l
    induction l with
    | nil => exact fun st x => ⟨st, x, rfl⟩
    | cons y l ih =>
      intro st x
      obtain ⟨st', x', e⟩ := ih ((st * 48271 + y % 2147483629 + 1) % 2147483647) (some (.p (.int y)))
      refine ⟨st', x', ?_⟩
      rw [List.map_cons, List.map_cons]
      simp
      simpa using e
  obtain ⟨st', x', e⟩ := loop ns k none
  refine ⟨hs [] st' ns 0, ⟨_, _, _, h, rfl⟩, ?_⟩
  simp [m__law_mix]
  simp at e
  rw [e]
  simp [gListO, hs]
/-! ### plain: purses, totals, recipes -/
theorem purse_ok {S : Sto} (h : IsH [] S) : ∃ p q S', 0 ≤ p ∧ p < 5 ∧ 0 ≤ q ∧ q < 5 ∧ IsH [] S' ∧ callM 1 m__law_purse [.own 1] S = .ok (.p (.tuple [.int p, .int q])) S' := by
  obtain ⟨p, S1, p0, p1, h1, e1⟩ := next_ok h 5 (by decide) (by decide)
  obtain ⟨q, S2, q0, q1, h2, e2⟩ := next_ok h1 5 (by decide) (by decide)
  refine ⟨p, q, S2, p0, p1, q0, q1, h2, ?_⟩
  rw [callM_ap 1 _ _ _ (by show 1 ≤ 1; decide)]
  simp [m__law_purse, e1, e2, h2.back h]
theorem total_ok {S : Sto} (h : IsH [] S) : ∃ p q r S', 0 ≤ p ∧ p < 5 ∧ 0 ≤ q ∧ q < 5 ∧ -12 ≤ r ∧ r ≤ 12 ∧ IsH [] S' ∧ callM 1 m__law_total [.own 1] S = .ok (.p (.tuple [.int p, .int q, .int r])) S' := by
  obtain ⟨p, S1, p0, p1, h1, e1⟩ := next_ok h 5 (by decide) (by decide)
  obtain ⟨q, S2, q0, q1, h2, e2⟩ := next_ok h1 5 (by decide) (by decide)
  obtain ⟨a, S3, a0, a1, h3, e3⟩ := next_ok h2 25 (by decide) (by decide)
  obtain ⟨b, S4, b0, b1, h4, e4⟩ := next_ok h3 7 (by decide) (by decide)
  obtain ⟨c, S5, c0, c1, h5, e5⟩ := next_ok h4 4 (by decide) (by decide)
  have pick : ∃ r, -12 ≤ r ∧ r ≤ 12 ∧ atI [PyData.int 0, .int 0, .int (a - 12), .int (b - 3)] c = some (.int r) := by
    have : c = 0 ∨ c = 1 ∨ c = 2 ∨ c = 3 := by omega
    rcases this with rfl | rfl | rfl | rfl
    · exact ⟨0, by decide, by decide, by simp⟩
    · exact ⟨0, by decide, by decide, by simp⟩
    · exact ⟨a - 12, by omega, by omega, by simp⟩
    · exact ⟨b - 3, by omega, by omega, by simp⟩
  obtain ⟨r, r0, r1, er⟩ := pick
  refine ⟨p, q, r, S5, p0, p1, q0, q1, r0, r1, h5, ?_⟩
  rw [callM_ap 1 _ _ _ (by show 1 ≤ 1; decide)]
  simp [m__law_total, e1, e2, e3, e4, e5, g_ixL, er, h5.back h]
def wayS (m : Bool) : Str := if m = true then "most" else "one"
def kindS (k : Bool) : Str := if k = true then "b" else "a"
def encS (s : Bool × Bool) : PyData := .tuple [.str (wayS s.1), .str (kindS s.2)]
theorem asPs_map : ∀ xs : List PyData, asPs (xs.map D.p) = some xs
  | [] => rfl
  | x :: xs => by rw [List.map_cons, asPs, asPs_map xs]; rfl
theorem recipe_ok {S : Sto} (h : IsH [] S) : ∃ (st : List (Bool × Bool)) (S' : Sto), st.length ≤ 4 ∧ IsH [] S' ∧ callM 3 m__law_recipe [.own 1] S = .ok (.p (.tuple (st.map encS))) S' := by
  have loop : ∀ (ds : List D) (st : List (Bool × Bool)) (S : Sto) (x : Option D), st.length + ds.length ≤ 10 → IsH [.lst ((st.map encS).map D.p)] S → ∃ (st' : List (Bool × Bool)) (S' : Sto) (x' : Option D), st'.length = st.length + ds.length ∧ IsH [.lst ((st'.map encS).map D.p)] S' ∧
      forL (gNm 2) (fDrop (fApp (fVar 1) (fTup (fCons (fBin gIx (fLst (fCons (fCon (.str ("most" : PySem.Str))) (fCons (fCon (.str ("one" : PySem.Str))) (fCons (fCon (.str ("most" : PySem.Str))) fNil)))) (fCall (callM 3 m__law_next) (fCons (fVar 0) (fCons (fCon (.int 3)) fNil)))) (fCons (fBin gIx (fLst (fCons (fCon (.str ("a" : PySem.Str))) (fCons (fCon (.str ("b" : PySem.Str))) fNil))) (fCall (callM 3 m__law_next) (fCons (fVar 0) (fCons (fCon (.int 2)) fNil)))) fNil))))) ds [some (.own 1), some (.own 2), x] S = .nx [some (.own 1), some (.own 2), x'] S' := by
    intro ds
    induction ds with
    | nil => exact fun st S x _ h => ⟨st, S, x, by simp, h, by simp⟩
    | cons d ds ih =>
      intro st S x hl h
      rw [List.length_cons] at hl
      obtain ⟨r, S1, r0, r1, h1, e1⟩ := next_ok h 3 (by decide) (by decide)
      obtain ⟨k, S2, k0, k1, h2, e2⟩ := next_ok h1 2 (by decide) (by decide)
      have er : ∃ m, atI [PyData.str "most", .str "one", .str "most"] r = some (.str (wayS m)) := by
        have : r = 0 ∨ r = 1 ∨ r = 2 := by omega
        rcases this with rfl | rfl | rfl
        · exact ⟨true, by simp [wayS]⟩
        · exact ⟨false, by simp [wayS]⟩
        · exact ⟨true, by simp [wayS]⟩
      have ek : ∃ m, atI [PyData.str "a", .str "b"] k = some (.str (kindS m)) := by
        have : k = 0 ∨ k = 1 := by omega
        rcases this with rfl | rfl
        · exact ⟨false, by simp [kindS]⟩
        · exact ⟨true, by simp [kindS]⟩
      obtain ⟨m, em⟩ := er
      obtain ⟨q, eq⟩ := ek
      have g0 := (h.set0 (y := .raw 0)).1
      have g2 := (h2.set0 (y := .raw 0)).1
      have h3 := (h2.set0 (y := .lst (((st ++ [(m, q)]).map encS).map D.p))).2
      obtain ⟨st', S', x', l', h', e'⟩ := ih (st ++ [(m, q)]) _ (some d) (by simp; omega) h3
      refine ⟨st', S', x', by simp at l'; simp; omega, h', ?_⟩
      have hlen : ¬ 1000000 ≤ st.length := by omega
      have hlen' : st.length < 1000000 := by omega
      simp [g0, g2, e1, e2, em, eq, g_ixL, hlen']
      simpa [encS] using e'
  obtain ⟨n, S1, n0, n1, h1, e1⟩ := next_ok (h.push (.lst [])) 5 (by decide) (by decide)
  obtain ⟨st', S', x', l', h', e'⟩ := loop (rng 0 n.toNat) [] S1 none (by simp [rng]; omega) h1
  obtain ⟨S2, h2, e2⟩ := h'.pop h (by show 0 < 1; decide) (.tuple (st'.map encS))
  refine ⟨st', S2, ?_, h2, ?_⟩
  · simp [rng] at l'
    omega
  · rw [callM_ap 3 _ _ _ (by show 1 ≤ 3; decide)]
    have g0 := (h'.set0 (y := .raw 0)).1
    have c1 : -1000000 < n ∧ n < 1000000 := by omega
    have hl : S.length = 2 := h.len
    simp [m__law_recipe, hl, e1, c1, e', gTuple, g0, asPs_map, -List.map_map, e2]
/-! ### plain: what is paid -/
theorem integer_yes {S : Sto} {v lo hi : Int} (h1 : lo ≤ v) (h2 : v ≤ hi) : callM 3 m_is_integer [.p (.int v), .p (.int lo), .p (.int hi)] S = .ok (.p (.bool true)) S := by
  rw [callM_ap 3 _ _ _ (by show 3 ≤ 3; decide)]
  simp [m_is_integer, h1, h2]
theorem pair_yes {S : Sto} {a b m : Int} (ha : 0 ≤ a ∧ a ≤ m) (hb : 0 ≤ b ∧ b ≤ m) : callM 3 m_is_pair [.p (.tuple [.int a, .int b]), .p (.int m)] S = .ok (.p (.bool true)) S := by
  rw [callM_ap 3 _ _ _ (by show 2 ≤ 3; decide)]
  simp [m_is_pair, integer_yes ha.1 ha.2, integer_yes hb.1 hb.2]
theorem purse_yes {S : Sto} {a b : Int} (ha : 0 ≤ a ∧ a < 5) (hb : 0 ≤ b ∧ b < 5) : callM 1 m_is_purse [.p (.tuple [.int a, .int b])] S = .ok (.p (.bool true)) S := by
  rw [callM_ap 1 _ _ _ (by show 1 ≤ 1; decide)]
  simp [m_is_purse, pair_yes (show 0 ≤ a ∧ a ≤ 4 by omega) (show 0 ≤ b ∧ b ≤ 4 by omega)]
theorem total_yes {S : Sto} {a b c : Int} (ha : 0 ≤ a ∧ a < 5) (hb : 0 ≤ b ∧ b < 5) (hc : -12 ≤ c ∧ c ≤ 12) : callM 1 m_is_total [.p (.tuple [.int a, .int b, .int c])] S = .ok (.p (.bool true)) S := by
  rw [callM_ap 1 _ _ _ (by show 1 ≤ 1; decide)]
  have e : cutD [PyData.int a, .int b, .int c] none (some 2) = [.int a, .int b] := rfl
  simp [m_is_total, g_ixT, e, pair_yes (show 0 ≤ a ∧ a ≤ 4 by omega) (show 0 ≤ b ∧ b ≤ 4 by omega), integer_yes hc.1 hc.2]
theorem worths_yes {S : Sto} {a b : Int} (ha : 1 ≤ a ∧ a ≤ 1000000000) (hb : 1 ≤ b ∧ b ≤ 1000000000) : callM 1 m_is_worths [.p (.tuple [.int a, .int b])] S = .ok (.p (.bool true)) S := by
  rw [callM_ap 1 _ _ _ (by show 1 ≤ 1; decide)]
  have e1 : gIn true (.p (.int 0)) (.p (.tuple [.int a, .int b])) S = .ok (.p (.bool true)) S := by
    show Res.ok (D.p (.bool (!(decide (a = 0) || (decide (b = 0) || false))))) S = _
    have z1 : ¬ a = 0 := by omega
    have z2 : ¬ b = 0 := by omega
    simp [z1, z2]
  simp [m_is_worths, e1, pair_yes (show 0 ≤ a ∧ a ≤ 1000000000 by omega) (show 0 ≤ b ∧ b ≤ 1000000000 by omega)]
theorem step_yes {S : Sto} (s : Bool × Bool) : callM 2 m_is_step [.p (encS s)] S = .ok (.p (.bool true)) S := by
  obtain ⟨m, k⟩ := s
  cases m <;> cases k <;> (
    rw [callM_ap 2 _ _ _ (by show 1 ≤ 2; decide)]
    refine (congrArg (fun o : Fl => o.fin S) (?_ : _ = Fl.rt (.p (.bool true)) S)).trans trim_id
    kernel_rfl)
theorem recipe_yes {S : Sto} {st : List (Bool × Bool)} (h : st.length ≤ 4) : callM 2 m_is_recipe [.p (.tuple (st.map encS))] S = .ok (.p (.bool true)) S := by
  rw [callM_ap 2 _ _ _ (by show 1 ≤ 2; decide)]
  have all : ∀ (l : List (Bool × Bool)) (ρ : Env) (S : Sto), ρ.length = 2 → ∃ bs, boolsOf bs = some (l.map fun _ => true) ∧ compL (gNm 1) fYes (fCall (callM 2 m_is_step) (fCons (fVar 1) fNil)) ρ ((l.map encS).map D.p) S = .ok (bs.map D.p) S := by
    intro l
    induction l with
    | nil => exact fun ρ S _ => ⟨[], rfl, rfl⟩
    | cons s l ih =>
      intro ρ S hρ
      obtain ⟨bs, e1, e2⟩ := ih ρ S hρ
      refine ⟨.bool true :: bs, by simp [e1], ?_⟩
      have g : (ρ.set 1 (some (D.p (encS s))))[1]? = some (some (D.p (encS s))) := by
        rw [List.getElem?_set_self (by omega)]
      rw [List.map_cons, List.map_cons]
      simp [g, step_yes, -List.map_map, e2]
  obtain ⟨bs, e1, e2⟩ := all st [some (.p (.tuple (st.map encS))), none] S rfl
  have hl : st.length < 1000000 := by omega
  have h4 : (st.length : Int) ≤ 4 := by omega
  simp [m_is_recipe, h, h4, hl, e2, -List.map_map, asPs_map, e1]
theorem look_yes {S : Sto} {a b c d e : Int} {st : List (Bool × Bool)} (ha : 0 ≤ a ∧ a < 5) (hb : 0 ≤ b ∧ b < 5) (hc : 0 ≤ c ∧ c < 5) (hd : 0 ≤ d ∧ d < 5) (he : -12 ≤ e ∧ e ≤ 12) (hst : st.length ≤ 4) :
    callM 4 m_look_at [.p (.tuple [.int a, .int b]), .p (.tuple [.int c, .int d, .int e]), .p (.tuple [.tuple (st.map encS)])] S = .ok (.p .none) S := by
  rw [callM_ap 4 _ _ _ (by show 3 ≤ 4; decide)]
  simp [m_look_at, purse_yes ha hb, total_yes hc hd he, recipe_yes hst]
/-- one step: how many coins -/
def manyS (m : Bool) (there left w : Int) : Int := if m = true then (if (if 0 > left then 0 else left) / w < there then (if 0 > left then 0 else left) / w else there) else (if (if 0 < left then 1 else 0) < there then (if 0 < left then 1 else 0) else there)
def payStep (w0 w1 h0 h1 : Int) (s : Bool × Bool) (t : Int × Int × Int) : Int × Int × Int :=
  if s.2 = true then (t.1, t.2.1 + manyS s.1 (h1 - t.2.1) t.2.2 w1, t.2.2 - manyS s.1 (h1 - t.2.1) t.2.2 w1 * w1)
  else (t.1 + manyS s.1 (h0 - t.1) t.2.2 w0, t.2.1, t.2.2 - manyS s.1 (h0 - t.1) t.2.2 w0 * w0)
def payAll (w0 w1 h0 h1 : Int) : List (Bool × Bool) → Int × Int × Int → Int × Int × Int
  | [], t => t
  | s :: l, t => payAll w0 w1 h0 h1 l (payStep w0 w1 h0 h1 s t)
theorem more_ok {S : Sto} {a b k n : Int} : callM 3 m_more_of [.p (.tuple [.int a, .int b]), .p (.int k), .p (.int n)] S = .ok (.p (.tuple (if k = 0 then [.int (a + n), .int b] else [.int a, .int (b + n)]))) S := by
  rw [callM_ap 3 _ _ _ (by show 3 ≤ 3; decide)]
  by_cases h : k = 0
  · simp [m_more_of, g_ixT, h]
  · simp [m_more_of, g_ixT, h]
theorem steps_ok {S : Sto} {w0 w1 h0 h1 : Int} (hw0 : 1 ≤ w0 ∧ w0 ≤ 1000000000) (hw1 : 1 ≤ w1 ∧ w1 ≤ 1000000000) (l : Int) (st : List (Bool × Bool)) :
    callM 10 m_steps_done [.p (.tuple [.int w0, .int w1]), .p (.tuple [.int h0, .int h1]), .p (.int l), .p (.tuple (st.map encS))] S =
      .ok (.p (.tuple [.tuple [.int (payAll w0 w1 h0 h1 st (0, 0, l)).1, .int (payAll w0 w1 h0 h1 st (0, 0, l)).2.1], .int (payAll w0 w1 h0 h1 st (0, 0, l)).2.2])) S := by
  rw [callM_ap 10 _ _ _ (by show 4 ≤ 10; decide)]
  unfold m_steps_done
  generalize hbody : (fSeq (fSet 7 (fKix (fVar 6))) _) = body
  have one : ∀ (s : Bool × Bool) (c0 c1 l : Int) (R u7 u8 u9 : Option D), ∃ x7 x8 x9, body [some (.p (.tuple [.int w0, .int w1])), some (.p (.tuple [.int h0, .int h1])), some (.p (.int l)), R, some (.p (.tuple [.int c0, .int c1])), some (.p (.str (wayS s.1))), some (.p (.str (kindS s.2))), u7, u8, u9] S =
      .nx [some (.p (.tuple [.int w0, .int w1])), some (.p (.tuple [.int h0, .int h1])), some (.p (.int (payStep w0 w1 h0 h1 s (c0, c1, l)).2.2)), R, some (.p (.tuple [.int (payStep w0 w1 h0 h1 s (c0, c1, l)).1, .int (payStep w0 w1 h0 h1 s (c0, c1, l)).2.1])), some (.p (.str (wayS s.1))), some (.p (.str (kindS s.2))), x7, x8, x9] S := by
    intro s c0 c1 l R u7 u8 u9
    obtain ⟨m, k⟩ := s
    have z0 : 0 < w0 ∧ w0 < 1073741824 := by omega
    have z1 : 0 < w1 ∧ w1 < 1073741824 := by omega
    have y0 : -18446744073709551616 < w0 ∧ w0 < 18446744073709551616 := by omega
    have y1 : -18446744073709551616 < w1 ∧ w1 < 18446744073709551616 := by omega
    have ne : ¬ (("b" : Str) = "a") := by decide
    have ne2 : gEq (.p (.str ("one" : Str))) (.p (.str ("most" : Str))) S = .ok (.p (.bool false)) S := by kernel_rfl
    have ne3 : gEq (.p (.str ("most" : Str))) (.p (.str ("most" : Str))) S = .ok (.p (.bool true)) S := by kernel_rfl
    subst hbody
    cases k with
    | false =>
      refine ⟨some (.p (.int 0)), some (.p (.int (h0 - c0))), some (.p (.int (manyS m (h0 - c0) l w0))), ?_⟩
      cases m <;> simp [wayS, kindS, ne, ne2, ne3, g_ixT, more_ok, payStep, manyS, z0, z1, y0, y1, -Int.not_lt, -gt_iff_lt]
    | true =>
      refine ⟨some (.p (.int 1)), some (.p (.int (h1 - c1))), some (.p (.int (manyS m (h1 - c1) l w1))), ?_⟩
      cases m <;> simp [wayS, kindS, ne, ne2, ne3, g_ixT, more_ok, payStep, manyS, z0, z1, y0, y1, -Int.not_lt, -gt_iff_lt]
  have loop : ∀ (st : List (Bool × Bool)) (c0 c1 l : Int) (R u5 u6 u7 u8 u9 : Option D), ∃ x5 x6 x7 x8 x9, forL (gTp 2 (gsCons (gNm 5) (gsCons (gNm 6) gsNil))) body ((st.map encS).map D.p) [some (.p (.tuple [.int w0, .int w1])), some (.p (.tuple [.int h0, .int h1])), some (.p (.int l)), R, some (.p (.tuple [.int c0, .int c1])), u5, u6, u7, u8, u9] S =
      .nx [some (.p (.tuple [.int w0, .int w1])), some (.p (.tuple [.int h0, .int h1])), some (.p (.int (payAll w0 w1 h0 h1 st (c0, c1, l)).2.2)), R, some (.p (.tuple [.int (payAll w0 w1 h0 h1 st (c0, c1, l)).1, .int (payAll w0 w1 h0 h1 st (c0, c1, l)).2.1])), x5, x6, x7, x8, x9] S := by
    intro st
    induction st with
    | nil => exact fun c0 c1 l R x5 x6 x7 x8 x9 => ⟨x5, x6, x7, x8, x9, rfl⟩
    | cons s st ih =>
      intro c0 c1 l R x5 x6 x7 x8 x9
      obtain ⟨y7, y8, y9, e1⟩ := one s c0 c1 l R x7 x8 x9
      obtain ⟨z5, z6, z7, z8, z9, e2⟩ := ih _ _ _ R (some (.p (.str (wayS s.1)))) (some (.p (.str (kindS s.2)))) y7 y8 y9
      refine ⟨z5, z6, z7, z8, z9, ?_⟩
      rw [List.map_cons, List.map_cons]
      have e3 : encS s = .tuple [.str (wayS s.1), .str (kindS s.2)] := rfl
      rw [e3]
      simp [e1]
      rw [List.map_map] at e2
      exact e2
  obtain ⟨x5, x6, x7, x8, x9, e⟩ := loop st 0 0 l (some (.p (.tuple (st.map encS)))) none none none none none
  rw [List.map_map] at e
  simp [e]
theorem paid_ok {S : Sto} {w0 w1 p q a b r : Int} {st : List (Bool × Bool)} (hw0 : 1 ≤ w0 ∧ w0 ≤ 1000000000) (hw1 : 1 ≤ w1 ∧ w1 ≤ 1000000000) (hp : 0 ≤ p ∧ p < 5) (hq : 0 ≤ q ∧ q < 5) (ha : 0 ≤ a ∧ a < 5) (hb : 0 ≤ b ∧ b < 5) (hr : -12 ≤ r ∧ r ≤ 12) (hst : st.length ≤ 4) :
    callM 4 m_paid [.p (.tuple [.int w0, .int w1]), .p (.tuple [.int p, .int q]), .p (.tuple [.int a, .int b, .int r]), .p (.tuple (st.map encS))] S =
      .ok (.p (.tuple [.tuple [.int (payAll w0 w1 p q st (0, 0, a * w0 + b * w1 + r)).1, .int (payAll w0 w1 p q st (0, 0, a * w0 + b * w1 + r)).2.1], .int (payAll w0 w1 p q st (0, 0, a * w0 + b * w1 + r)).2.2])) S := by
  rw [callM_ap 4 _ _ _ (by show 4 ≤ 4; decide)]
  have y0 : -18446744073709551616 < w0 ∧ w0 < 18446744073709551616 := by omega
  have y1 : -18446744073709551616 < w1 ∧ w1 < 18446744073709551616 := by omega
  simp [m_paid, worths_yes hw0 hw1, look_yes hp hq ha hb hr hst, g_ixT, y0, y1, steps_ok hw0 hw1]
/-- a loop that takes coins while it can -/
theorem many_next {a l w : Int} (ha : 0 < a) (hw : 0 < w) (hl : w ≤ l) : manyS true a l w = 1 + manyS true (a - 1) (l - w) w := by
  have e : l / w = 1 + (l - w) / w := by
    have h1 : l = (l - w) + 1 * w := by omega
    have h2 : ((l - w) + 1 * w) / w = (l - w) / w + 1 := Int.add_mul_ediv_right _ _ (by omega)
    rw [← h1] at h2
    omega
  have hn : ¬ 0 > l := by omega
  have hn2 : ¬ 0 > l - w := by omega
  unfold manyS
  rw [if_pos rfl, if_pos rfl, if_neg hn, if_neg hn2]
  split <;> split <;> omega
theorem many_zero {a l w : Int} (ha : 0 ≤ a) (hw : 0 < w) (h : ¬ (0 < a ∧ w ≤ l)) : manyS true a l w = 0 := by
  unfold manyS
  rw [if_pos rfl]
  have h3 : 0 ≤ (if 0 > l then 0 else l) / w := Int.ediv_nonneg (by split <;> omega) (by omega)
  by_cases h0 : 0 < a
  · have hl : ¬ w ≤ l := fun z => h ⟨h0, z⟩
    have h2 : (if 0 > l then 0 else l) / w = 0 := Int.ediv_eq_zero_of_lt (by split <;> omega) (by split <;> omega)
    rw [h2]
    exact if_pos h0
  · have : a = 0 := by omega
    subst this
    generalize (if 0 > l then 0 else l) / w = z at h3 ⊢
    split <;> omega
/-- the coins still there: v of the kind k, u of the other -/
def owL (k : Bool) (v u : Int) : List D := if k = true then [.p (.int u), .p (.int v)] else [.p (.int v), .p (.int u)]
def kI (k : Bool) : Int := if k = true then 1 else 0
def cond04 : FE := fAnd (fBin gGt (fBin gIx (fVar 5) (fVar 8)) (fCon (.int 0))) (fBin gLe (fBin gIx (fVar 0) (fVar 8)) (fVar 4))
def take04 : FS := fSeq (fSetIx (fBin gMinus (fBin gIx (fVar 5) (fVar 8)) (fCon (.int 1))) (fVar 5) (fVar 8)) (fSet 4 (fBin gMinus (fVar 4) (fBin gIx (fVar 0) (fVar 8))))
section
variable {w0 w1 : Int} {k : Bool} {v u l : Int} {S : Sto} {R1 R2 R3 R6 R7 : Option D}
def env04 (w0 w1 : Int) (R1 R2 R3 R6 R7 : Option D) (k : Bool) (l : Int) : Env := [some (.p (.tuple [.int w0, .int w1])), R1, R2, R3, some (.p (.int l)), some (.own 2), R6, R7, some (.p (.int (kI k)))]
theorem take04_ok (h : IsH [.lst (owL k v u)] S) : ∃ S', IsH [.lst (owL k (v - 1) u)] S' ∧ take04 (env04 w0 w1 R1 R2 R3 R6 R7 k l) S = .nx (env04 w0 w1 R1 R2 R3 R6 R7 k (l - if k = true then w1 else w0)) S' := by
  have g0 := (h.set0 (y := .raw 0)).1
  refine ⟨_, (h.set0 (y := .lst (owL k (v - 1) u))).2, ?_⟩
  have g2 := (((h.set0 (y := .lst (owL k (v - 1) u))).2).set0 (y := .raw 0)).1
  cases k
  · have i0 : ixN 2 0 = some 0 := rfl
    simp [owL] at g0 g2
    simp [take04, env04, kI, g_ixO, g_ixT, g0, owL, i0]
  · have i0 : ixN 2 1 = some 1 := rfl
    simp [owL] at g0 g2
    simp [take04, env04, kI, g_ixO, g_ixT, g0, owL, i0]
theorem cond04_ok (h : IsH [.lst (owL k v u)] S) : cond04 (env04 w0 w1 R1 R2 R3 R6 R7 k l) S = .ok (.p (.bool (decide (0 < v ∧ (if k = true then w1 else w0) ≤ l)))) S := by
  have g0 := (h.set0 (y := .raw 0)).1
  by_cases hv : 0 < v
  · cases k <;> (simp [owL] at g0; simp [cond04, env04, kI, g_ixO, g_ixT, g0, hv])
  · cases k <;> (simp [owL] at g0; simp [cond04, env04, kI, g_ixO, g_ixT, g0, hv])
theorem while04 (hw : 0 < (if k = true then w1 else w0)) : ∀ (n f : Nat) (v l : Int) (S : Sto), v = n → n < f → IsH [.lst (owL k v u)] S → ∃ S', IsH [.lst (owL k (v - manyS true v l (if k = true then w1 else w0)) u)] S' ∧
    whileN cond04 take04 f (env04 w0 w1 R1 R2 R3 R6 R7 k l) S = .nx (env04 w0 w1 R1 R2 R3 R6 R7 k (l - manyS true v l (if k = true then w1 else w0) * (if k = true then w1 else w0))) S' := by
  intro n
  induction n with
  | zero =>
    intro f v l S hv hf h
    have hc : ¬ (0 < v ∧ (if k = true then w1 else w0) ≤ l) := fun z => by omega
    have hm := many_zero (a := v) (l := l) (by omega) hw hc
    rw [hm]
    obtain ⟨f, rfl⟩ : ∃ m, f = m + 1 := ⟨f - 1, by omega⟩
    refine ⟨S, by simpa using h, ?_⟩
    rw [whileN_succ, cond04_ok h, decide_eq_false hc]
    simp
  | succ n ih =>
    intro f v l S hv hf h
    obtain ⟨f, rfl⟩ : ∃ m, f = m + 1 := ⟨f - 1, by omega⟩
    by_cases hc : 0 < v ∧ (if k = true then w1 else w0) ≤ l
    · obtain ⟨S1, h1, e1⟩ := take04_ok (w0 := w0) (w1 := w1) (R1 := R1) (R2 := R2) (R3 := R3) (R6 := R6) (R7 := R7) (l := l) h
      obtain ⟨S2, h2, e2⟩ := ih f (v - 1) (l - (if k = true then w1 else w0)) S1 (by omega) (by omega) h1
      have hm := many_next hc.1 hw hc.2
      refine ⟨S2, ?_, ?_⟩
      · rw [hm]
        have : v - (1 + manyS true (v - 1) (l - if k = true then w1 else w0) (if k = true then w1 else w0)) = v - 1 - manyS true (v - 1) (l - if k = true then w1 else w0) (if k = true then w1 else w0) := by omega
        rw [this]
        exact h2
      · rw [whileN_succ, cond04_ok h, decide_eq_true hc, asB_ok, thn_ok, if_pos rfl, e1, rnd_nx, e2, hm]
        have : (l - (1 + manyS true (v - 1) (l - if k = true then w1 else w0) (if k = true then w1 else w0)) * if k = true then w1 else w0) = l - (if k = true then w1 else w0) - manyS true (v - 1) (l - if k = true then w1 else w0) (if k = true then w1 else w0) * (if k = true then w1 else w0) := by
          rw [Int.add_mul, Int.one_mul]
          omega
        rw [this]
    · have hm := many_zero (a := v) (l := l) (by omega) hw hc
      rw [hm]
      refine ⟨S, by simpa using h, ?_⟩
      rw [whileN_succ, cond04_ok h, decide_eq_false hc]
      simp
def body04 : FS := fSeq (fSet 8 (fIf (fBin gEq (fVar 7) (fCon (.str ("a" : PySem.Str)))) (fCon (.int 0)) (fCon (.int 1))))
  (fIfS (fBin gEq (fVar 6) (fCon (.str ("one" : PySem.Str)))) (fIfS (fAnd (fBin gGt (fBin gIx (fVar 5) (fVar 8)) (fCon (.int 0))) (fBin gGt (fVar 4) (fCon (.int 0)))) take04 fPass) (fWhile 1000 cond04 take04))
theorem body04_ok {m k : Bool} (hw : 0 < (if k = true then w1 else w0)) (hv : 0 ≤ v ∧ v < 5) (h : IsH [.lst (owL k v u)] S) (x : Option D) : ∃ S', IsH [.lst (owL k (v - manyS m v l (if k = true then w1 else w0)) u)] S' ∧
    body04 [some (.p (.tuple [.int w0, .int w1])), R1, R2, R3, some (.p (.int l)), some (.own 2), some (.p (.str (wayS m))), some (.p (.str (kindS k))), x] S = .nx (env04 w0 w1 R1 R2 R3 (some (.p (.str (wayS m)))) (some (.p (.str (kindS k)))) k (l - manyS m v l (if k = true then w1 else w0) * (if k = true then w1 else w0))) S' := by
  have ne : ∀ S, gEq (.p (.str ("b" : Str))) (.p (.str ("a" : Str))) S = Res.ok (D.p (.bool false)) S := fun S => by kernel_rfl
  have ne1 : ∀ S, gEq (.p (.str ("a" : Str))) (.p (.str ("a" : Str))) S = Res.ok (D.p (.bool true)) S := fun S => by kernel_rfl
  have ne2 : ∀ S, gEq (.p (.str ("one" : Str))) (.p (.str ("one" : Str))) S = Res.ok (D.p (.bool true)) S := fun S => by kernel_rfl
  have ne3 : ∀ S, gEq (.p (.str ("most" : Str))) (.p (.str ("one" : Str))) S = Res.ok (D.p (.bool false)) S := fun S => by kernel_rfl
  have first : ∀ g : FS, fSeq (fSet 8 (fIf (fBin gEq (fVar 7) (fCon (.str ("a" : PySem.Str)))) (fCon (.int 0)) (fCon (.int 1)))) g [some (.p (.tuple [.int w0, .int w1])), R1, R2, R3, some (.p (.int l)), some (.own 2), some (.p (.str (wayS m))), some (.p (.str (kindS k))), x] S = g (env04 w0 w1 R1 R2 R3 (some (.p (.str (wayS m)))) (some (.p (.str (kindS k)))) k l) S := by
    intro g
    cases k <;> simp [kindS, ne, ne1, env04, kI]
  unfold body04
  rw [first]
  have g0 := (h.set0 (y := .raw 0)).1
  cases m with
  | true =>
    obtain ⟨S', h', e'⟩ := while04 (R1 := R1) (R2 := R2) (R3 := R3) (R6 := some (.p (.str (wayS true)))) (R7 := some (.p (.str (kindS k)))) hw v.toNat 1000 v l S (by omega) (by omega) h
    refine ⟨S', h', ?_⟩
    rw [← e']
    simp [env04, wayS, ne3]
  | false =>
    have hm : manyS false v l (if k = true then w1 else w0) = if 0 < v ∧ 0 < l then 1 else 0 := by
      unfold manyS
      rw [if_neg (by decide)]
      split <;> split <;> split <;> omega
    have hat : atI (owL k v u) (kI k) = some (.p (.int v)) := by cases k <;> simp [owL, kI]
    by_cases hc : 0 < v ∧ 0 < l
    · rw [hm, if_pos hc]
      obtain ⟨S1, h1, e1⟩ := take04_ok (w0 := w0) (w1 := w1) (R1 := R1) (R2 := R2) (R3 := R3) (R6 := some (.p (.str (wayS false)))) (R7 := some (.p (.str (kindS k)))) (l := l) h
      refine ⟨S1, h1, ?_⟩
      rw [Int.one_mul, ← e1]
      simp [env04, wayS, ne2, g_ixO, g0, hat, hc.1, hc.2]
    · rw [hm, if_neg hc]
      refine ⟨S, by simpa using h, ?_⟩
      by_cases hv0 : 0 < v
      · have hl : ¬ 0 < l := fun z => hc ⟨hv0, z⟩
        simp [env04, wayS, ne2, g_ixO, g0, hat, hv0, hl]
      · simp [env04, wayS, ne2, g_ixO, g0, hat, hv0]
end
theorem many_range {m : Bool} {v l w : Int} (hv : 0 ≤ v) (hw : 0 < w) : 0 ≤ manyS m v l w ∧ manyS m v l w ≤ v := by
  have h3 : 0 ≤ (if 0 > l then 0 else l) / w := Int.ediv_nonneg (by split <;> omega) (by omega)
  unfold manyS
  generalize (if 0 > l then 0 else l) / w = z at h3 ⊢
  cases m
  · rw [if_neg (by decide)]
    split <;> split <;> omega
  · rw [if_pos rfl]
    split <;> omega
theorem done_ok {S : Sto} {w0 w1 p q a b r : Int} {st : List (Bool × Bool)} (h : IsH [] S) (hw0 : 1 ≤ w0 ∧ w0 ≤ 1000000000) (hw1 : 1 ≤ w1 ∧ w1 ≤ 1000000000) (hp : 0 ≤ p ∧ p < 5) (hq : 0 ≤ q ∧ q < 5) :
    ∃ S', IsH [] S' ∧ callM 9 m__law_done [.p (.tuple [.int w0, .int w1]), .p (.tuple [.int p, .int q]), .p (.tuple [.int a, .int b, .int r]), .p (.tuple (st.map encS))] S =
      .ok (.p (.tuple [.tuple [.int (payAll w0 w1 p q st (0, 0, a * w0 + b * w1 + r)).1, .int (payAll w0 w1 p q st (0, 0, a * w0 + b * w1 + r)).2.1], .int (payAll w0 w1 p q st (0, 0, a * w0 + b * w1 + r)).2.2])) S' := by
  have y0 : -18446744073709551616 < w0 ∧ w0 < 18446744073709551616 := by omega
  have y1 : -18446744073709551616 < w1 ∧ w1 < 18446744073709551616 := by omega
  rw [callM_ap 9 _ _ _ (by show 4 ≤ 9; decide)]
  have loop : ∀ (st : List (Bool × Bool)) (c0 c1 l : Int) (S : Sto) (R1 R2 R3 x6 x7 x8 : Option D), 0 ≤ c0 ∧ c0 ≤ p → 0 ≤ c1 ∧ c1 ≤ q → IsH [.lst [.p (.int (p - c0)), .p (.int (q - c1))]] S → ∃ S' y6 y7 y8, IsH [.lst [.p (.int (p - (payAll w0 w1 p q st (c0, c1, l)).1)), .p (.int (q - (payAll w0 w1 p q st (c0, c1, l)).2.1))]] S' ∧
      forL (gTp 2 (gsCons (gNm 6) (gsCons (gNm 7) gsNil))) body04 ((st.map encS).map D.p) [some (.p (.tuple [.int w0, .int w1])), R1, R2, R3, some (.p (.int l)), some (.own 2), x6, x7, x8] S =
        .nx [some (.p (.tuple [.int w0, .int w1])), R1, R2, R3, some (.p (.int (payAll w0 w1 p q st (c0, c1, l)).2.2)), some (.own 2), y6, y7, y8] S' := by
    intro st
    induction st with
    | nil => exact fun c0 c1 l S R1 R2 R3 x6 x7 x8 _ _ h => ⟨S, x6, x7, x8, h, rfl⟩
    | cons s st ih =>
      intro c0 c1 l S R1 R2 R3 x6 x7 x8 hc0 hc1 h
      obtain ⟨m, k⟩ := s
      rw [List.map_cons, List.map_cons]
      have e3 : encS (m, k) = .tuple [.str (wayS m), .str (kindS k)] := rfl
      cases k with
      | false =>
        obtain ⟨S1, h1, e1⟩ := body04_ok (w0 := w0) (w1 := w1) (l := l) (R1 := R1) (R2 := R2) (R3 := R3) (m := m) (k := false) (v := p - c0) (u := q - c1) (by simp; omega) (by omega) (by simpa [owL] using h) x8
        have hr := many_range (m := m) (v := p - c0) (l := l) (w := w0) (by omega) (by omega)
        obtain ⟨S2, y6, y7, y8, h2, e2⟩ := ih (c0 + manyS m (p - c0) l w0) c1 (l - manyS m (p - c0) l w0 * w0) S1 R1 R2 R3 (some (.p (.str (wayS m)))) (some (.p (.str (kindS false)))) (some (.p (.int 0))) (by omega) hc1 (by
          have e : p - (c0 + manyS m (p - c0) l w0) = p - c0 - manyS m (p - c0) l w0 := by omega
          rw [e]
          simpa [owL] using h1)
        refine ⟨S2, y6, y7, y8, h2, ?_⟩
        rw [e3]
        simp [env04, kI] at e1
        rw [List.map_map] at e2
        simp [e1]
        rw [e2]
        rfl
      | true =>
        obtain ⟨S1, h1, e1⟩ := body04_ok (w0 := w0) (w1 := w1) (l := l) (R1 := R1) (R2 := R2) (R3 := R3) (m := m) (k := true) (v := q - c1) (u := p - c0) (by simp; omega) (by omega) (by simpa [owL] using h) x8
        have hr := many_range (m := m) (v := q - c1) (l := l) (w := w1) (by omega) (by omega)
        obtain ⟨S2, y6, y7, y8, h2, e2⟩ := ih c0 (c1 + manyS m (q - c1) l w1) (l - manyS m (q - c1) l w1 * w1) S1 R1 R2 R3 (some (.p (.str (wayS m)))) (some (.p (.str (kindS true)))) (some (.p (.int 1))) hc0 (by omega) (by
          have e : q - (c1 + manyS m (q - c1) l w1) = q - c1 - manyS m (q - c1) l w1 := by omega
          rw [e]
          simpa [owL] using h1)
        refine ⟨S2, y6, y7, y8, h2, ?_⟩
        rw [e3]
        simp [env04, kI] at e1
        rw [List.map_map] at e2
        simp [e1]
        rw [e2]
        rfl
  obtain ⟨S1, y6, y7, y8, h1, e1⟩ := loop st 0 0 (a * w0 + b * w1 + r) (S ++ [O.lst [D.p (.int (p - 0)), D.p (.int (q - 0))]]) (some (.p (.tuple [.int p, .int q]))) (some (.p (.tuple [.int a, .int b, .int r]))) (some (.p (.tuple (st.map encS)))) none none none (by omega) (by omega) (h.push (O.lst [D.p (.int (p - 0)), D.p (.int (q - 0))]))
  obtain ⟨S2, h2, e2⟩ := h1.pop h (by show 0 < 1; decide) (.tuple [.tuple [.int (payAll w0 w1 p q st (0, 0, a * w0 + b * w1 + r)).1, .int (payAll w0 w1 p q st (0, 0, a * w0 + b * w1 + r)).2.1], .int (payAll w0 w1 p q st (0, 0, a * w0 + b * w1 + r)).2.2])
  refine ⟨S2, h2, ?_⟩
  have hl : S.length = 2 := h.len
  have g0 := (h1.set0 (y := .raw 0)).1
  have mir : m__law_done = fSeq (fSet 4 (fBin gAdd (fBin gAdd (fBin gMul (fBin gIx (fVar 2) (fCon (.int 0))) (fBin gIx (fVar 0) (fCon (.int 0)))) (fBin gMul (fBin gIx (fVar 2) (fCon (.int 1))) (fBin gIx (fVar 0) (fCon (.int 1))))) (fBin gIx (fVar 2) (fCon (.int 2))))) (fSeq (fSet 5 (fLstO (fCons (fBin gIx (fVar 1) (fCon (.int 0))) (fCons (fBin gIx (fVar 1) (fCon (.int 1))) fNil)))) (fSeq (fFor (fItS (fVar 3)) (gTp 2 (gsCons (gNm 6) (gsCons (gNm 7) gsNil))) body04) (fRet (fTup (fCons (fTup (fCons (fBin gMinus (fBin gIx (fVar 1) (fCon (.int 0))) (fBin gIx (fVar 5) (fCon (.int 0)))) (fCons (fBin gMinus (fBin gIx (fVar 1) (fCon (.int 1))) (fBin gIx (fVar 5) (fCon (.int 1)))) fNil))) (fCons (fVar 4) fNil)))))) := rfl
  rw [mir]
  rw [List.map_map] at e1
  simp only [Int.sub_zero] at e1
  have c1 : ∀ x : Int, p - (p - x) = x := fun x => by omega
  have c2 : ∀ x : Int, q - (q - x) = x := fun x => by omega
  simp [g_ixT, g_ixO, y0, y1, hl, e1, g0, c1, c2, e2]
theorem same_told {S : Sto} (a b c : Int) : gNe (.p (.tuple [.tuple [.int a, .int b], .int c])) (.p (.tuple [.tuple [.int a, .int b], .int c])) S = .ok (.p (.bool false)) S := by
  rw [g_ne (by kernel_rfl)]
  simp [PyData.eqv, PyData.eqvAll]
theorem ap_at {α : Type} {l : List α} {x : α} {r : Int} (e : r = (r.toNat : Int)) (h : l[r.toNat]? = some x) : atI l r = some x := atI_some (by omega) h
theorem upto8 {r : Int} (h0 : 0 ≤ r) (h1 : r < 8) : r = 0 ∨ r = 1 ∨ r = 2 ∨ r = 3 ∨ r = 4 ∨ r = 5 ∨ r = 6 ∨ r = 7 := by omega
theorem ref_w {S : Sto} (h : IsH [] S) {r : Int} (h0 : 0 ≤ r) (h1 : r < 8) : ∃ d, atI [PyData.tuple [.int 0, .int 1], .tuple [.int 1, .int 0], .tuple [.bool true, .int 1], .tuple [.int 1, .int 1000000001], .list [.int 1, .int 1], .tuple [.int 1], .none, .str "11"] r = some d ∧
    callM 6 m__law_refused [.p d, .p .none, .p .none, .p .none] S = .ok (.p (.str "worths")) S := by
  obtain ⟨s, cs, i, hc, rfl⟩ := h
  rcases upto8 h0 h1 with rfl | rfl | rfl | rfl | rfl | rfl | rfl | rfl <;> exact ⟨_, rfl, by kernel_rfl⟩
theorem ref_p {S : Sto} (h : IsH [] S) {r : Int} (h0 : 0 ≤ r) (h1 : r < 6) : ∃ d, atI [PyData.tuple [.int 5, .int 0], .tuple [.int 0, .int (-1)], .tuple [.none, .int 0], .list [.int 1, .int 1], .tuple [.int 1], .none] r = some d ∧
    callM 6 m__law_refused [.p (.tuple [.int 1, .int 1]), .p d, .p .none, .p .none] S = .ok (.p (.str "purse")) S := by
  obtain ⟨s, cs, i, hc, rfl⟩ := h
  rcases upto8 h0 (by omega) with rfl | rfl | rfl | rfl | rfl | rfl | rfl | rfl <;> first | exact ⟨_, rfl, by kernel_rfl⟩ | omega
theorem ref_t {S : Sto} (h : IsH [] S) {r : Int} (h0 : 0 ≤ r) (h1 : r < 6) : ∃ d, atI [PyData.tuple [.int 5, .int 0, .int 0], .tuple [.int 0, .int 0, .int (-13)], .tuple [.int 0, .bool true, .int 0], .list [.int 1, .int 1, .int 1], .tuple [.int 1, .int 1], .none] r = some d ∧
    callM 6 m__law_refused [.p (.tuple [.int 1, .int 1]), .p (.tuple [.int 1, .int 1]), .p d, .p .none] S = .ok (.p (.str "total")) S := by
  obtain ⟨s, cs, i, hc, rfl⟩ := h
  rcases upto8 h0 (by omega) with rfl | rfl | rfl | rfl | rfl | rfl | rfl | rfl <;> first | exact ⟨_, rfl, by kernel_rfl⟩ | omega
def stepA : PyData := .tuple [.str "most", .str "a"]
def odd04 : List PyData := [.none, .list [stepA], .tuple [stepA, stepA, stepA, stepA, stepA], .tuple [.tuple [.str "some", .str "a"]], .tuple [.tuple [.str "most", .str "c"]], .tuple [stepA, .list [.str "one", .str "a"]], .tuple [.str "most", .str "a"],
  .tuple [.tuple [.str "most"]], .tuple [.tuple [.tuple [.str "most"], .str "a"]], .tuple [stepA, .none], .str "most"]
theorem ref_r {S : Sto} (h : IsH [] S) {r : Int} (h0 : 0 ≤ r) (h1 : r < 11) : ∃ d, atI odd04 r = some d ∧
    callM 6 m__law_refused [.p (.tuple [.int 1, .int 1]), .p (.tuple [.int 1, .int 1]), .p (.tuple [.int 1, .int 1, .int 1]), .p d] S = .ok (.p (.str "recipe")) S := by
  obtain ⟨s, cs, i, hc, rfl⟩ := h
  have : r = 0 ∨ r = 1 ∨ r = 2 ∨ r = 3 ∨ r = 4 ∨ r = 5 ∨ r = 6 ∨ r = 7 ∨ r = 8 ∨ r = 9 ∨ r = 10 := by omega
  rcases this with rfl | rfl | rfl | rfl | rfl | rfl | rfl | rfl | rfl | rfl | rfl <;> exact ⟨_, rfl, by kernel_rfl⟩
theorem size_ok {r : Int} (h0 : 0 ≤ r) (h1 : r < 4) : ∃ b, atI [PyData.int 3, .int 12, .int 40, .int 1000000000] r = some (.int b) ∧ 0 < b ∧ b ≤ 1000000000 := by
  have : r = 0 ∨ r = 1 ∨ r = 2 ∨ r = 3 := by omega
  rcases this with rfl | rfl | rfl | rfl <;> exact ⟨_, rfl, by decide, by decide⟩
theorem law_plain (ns : List Int) (hns : ns.length ≤ 63) : ∃ S', callM 11 m_law [.scr ns] [] = .ok (.p (.bool true)) S' := by
  obtain ⟨S0, h0, e0⟩ := mix_ok ns 4 hns
  rw [callM_ap 11 _ _ _ (by show 1 ≤ 11; decide)]
  unfold m_law
  generalize hbody : (fSeq (fSet 3 (fLst (fCons (fCon (.int 3)) _))) _) = body
  have one : ∀ (S : Sto) (k x3 x4 x5 x6 x7 x8 x9 x10 : Option D), IsH [] S → ∃ S' y3 y4 y5 y6 y7 y8, IsH [] S' ∧ body [some (.scr ns), some (.own 1), k, x3, x4, x5, x6, x7, x8, x9, x10] S = .nx [some (.scr ns), some (.own 1), k, y3, y4, y5, y6, y7, y8, x9, x10] S' := by
    intro S k x3 x4 x5 x6 x7 x8 x9 x10 h
    obtain ⟨r1, S1, r10, r11, h1, e1⟩ := next_ok h 4 (by decide) (by decide)
    obtain ⟨b1, eb1, b10, b11⟩ := size_ok r10 r11
    obtain ⟨v1, S2, v10, v11, h2, e2⟩ := next_ok h1 b1 b10 (by omega)
    obtain ⟨r2, S3, r20, r21, h3, e3⟩ := next_ok h2 4 (by decide) (by decide)
    obtain ⟨b2, eb2, b20, b21⟩ := size_ok r20 r21
    obtain ⟨v2, S4, v20, v21, h4, e4⟩ := next_ok h3 b2 b20 (by omega)
    obtain ⟨p, q, S5, p0, p1, q0, q1, h5, e5⟩ := purse_ok h4
    obtain ⟨a, b, r, S6, a0, a1, b0, b1', r0, r1', h6, e6⟩ := total_ok h5
    obtain ⟨st, S7, hst, h7, e7⟩ := recipe_ok h6
    have e8 := paid_ok (S := S7) (w0 := 1 + v1) (w1 := 1 + v2) (p := p) (q := q) (a := a) (b := b) (r := r) (st := st) (by omega) (by omega) (by omega) (by omega) (by omega) (by omega) (by omega) hst
    obtain ⟨S8, h8, e9⟩ := done_ok (w0 := 1 + v1) (w1 := 1 + v2) (p := p) (q := q) (a := a) (b := b) (r := r) (st := st) h7 (by omega) (by omega) (by omega) (by omega)
    refine ⟨S8, some (.p (.list [.int 3, .int 12, .int 40, .int 1000000000])), some (.p (.tuple [.int (1 + v1), .int (1 + v2)])), some (.p (.tuple [.int p, .int q])), some (.p (.tuple [.int a, .int b, .int r])), some (.p (.tuple (st.map encS))), some (.p (.tuple [.tuple [.int (payAll (1 + v1) (1 + v2) p q st (0, 0, a * (1 + v1) + b * (1 + v2) + r)).1, .int (payAll (1 + v1) (1 + v2) p q st (0, 0, a * (1 + v1) + b * (1 + v2) + r)).2.1], .int (payAll (1 + v1) (1 + v2) p q st (0, 0, a * (1 + v1) + b * (1 + v2) + r)).2.2])), h8, ?_⟩
    subst hbody
    simp [g_ixL, e1, eb1, e2, e3, eb2, e4, e5, e6, e7, e8, e9, same_told]
  have loop : ∀ (ds : List D) (S : Sto) (k x3 x4 x5 x6 x7 x8 x9 x10 : Option D), IsH [] S → ∃ S' y2 y3 y4 y5 y6 y7 y8, IsH [] S' ∧ forL (gNm 2) body ds [some (.scr ns), some (.own 1), k, x3, x4, x5, x6, x7, x8, x9, x10] S = .nx [some (.scr ns), some (.own 1), y2, y3, y4, y5, y6, y7, y8, x9, x10] S' := by
    intro ds
    induction ds with
    | nil => exact fun S k x3 x4 x5 x6 x7 x8 x9 x10 h => ⟨S, _, _, _, _, _, _, _, h, rfl⟩
    | cons d ds ih =>
      intro S k x3 x4 x5 x6 x7 x8 x9 x10 h
      obtain ⟨S1, y3, y4, y5, y6, y7, y8, h1, e1⟩ := one S (some d) x3 x4 x5 x6 x7 x8 x9 x10 h
      obtain ⟨S2, z2, z3, z4, z5, z6, z7, z8, h2, e2⟩ := ih S1 (some d) y3 y4 y5 y6 y7 y8 x9 x10 h1
      exact ⟨S2, z2, z3, z4, z5, z6, z7, z8, h2, by simp [e1, e2]⟩
  obtain ⟨S1, y2, y3, y4, y5, y6, y7, y8, h1, e1⟩ := loop (rng 0 12) S0 none none none none none none none none none h0
  obtain ⟨r2, S2, r20, r21, h2, e2⟩ := next_ok h1 8 (by decide) (by decide)
  obtain ⟨d2, c2, k2⟩ := ref_w h2 r20 r21
  obtain ⟨r3, S3, r30, r31, h3, e3⟩ := next_ok h2 6 (by decide) (by decide)
  obtain ⟨d3, c3, k3⟩ := ref_p h3 r30 r31
  obtain ⟨r4, S4, r40, r41, h4, e4⟩ := next_ok h3 6 (by decide) (by decide)
  obtain ⟨d4, c4, k4⟩ := ref_t h4 r40 r41
  obtain ⟨r5, S5, r50, r51, h5, e5⟩ := next_ok h4 11 (by decide) (by decide)
  obtain ⟨d5, c5, k5⟩ := ref_r h5 r50 r51
  have n1 : ∀ S, gNe (.p (.str "worths")) (.p (.str "worths")) S = Res.ok (D.p (.bool false)) S := fun S => by kernel_rfl
  have n2 : ∀ S, gNe (.p (.str "purse")) (.p (.str "purse")) S = Res.ok (D.p (.bool false)) S := fun S => by kernel_rfl
  have n3 : ∀ S, gNe (.p (.str "total")) (.p (.str "total")) S = Res.ok (D.p (.bool false)) S := fun S => by kernel_rfl
  have n4 : ∀ S, gEq (.p (.str "recipe")) (.p (.str "recipe")) S = Res.ok (D.p (.bool true)) S := fun S => by kernel_rfl
  have rep : ∀ S, gRepT (.p (.tuple [.tuple [.str "most", .str "a"]])) (.p (.int 5)) S = Res.ok (D.p (.tuple [stepA, stepA, stepA, stepA, stepA])) S := fun S => by kernel_rfl
  have app : ∀ S, gAdd (.p (.list [.none, .list [stepA], .tuple [stepA, stepA, stepA, stepA, stepA], .tuple [.tuple [.str "some", .str "a"]], .tuple [.tuple [.str "most", .str "c"]], .tuple [stepA, .list [.str "one", .str "a"]], .tuple [.str "most", .str "a"]])) (.p (.list [.tuple [.tuple [.str "most"]], .tuple [.tuple [.tuple [.str "most"], .str "a"]], .tuple [stepA, .none], .str "most"])) S = Res.ok (D.p (.list odd04)) S := fun S => by kernel_rfl
  obtain ⟨S6, h6, e6⟩ : ∃ S6, True ∧ trim [] (.p (.bool true)) S5 = .ok (.p (.bool true)) S6 := by
    refine ⟨[], trivial, ?_⟩
    unfold trim
    rw [if_neg (by rw [h5.len]; decide)]
    rfl
  refine ⟨S6, ?_⟩
  simp only [stepA] at rep app
  simp [e0, e1, e2, c2, k2, e3, c3, k3, e4, c4, k4, e5, c5, k5, g_ixL, n1, n2, n3, n4, rep, app, e6]
abbrev hR : PySem.W.OpenRow := PySem.W.OpenLaw.row PySem.Challenge.rw_twoworths_k04_whole_recipes_at_told_wort
abbrev hk : PySem.W.Hook := Tw.hookW 6 (Tw.exOf facts) fns
def ob (s : PySem.W.SharedT) : He.AlD := Tw.obsW 6 (Tw.exOf facts) fns (HandSHeadRun.getT s)
theorem ob_eq (s : PySem.W.SharedT) : ob s = hk.obs s.abs := Tw.obsW_eq (HandSHeadRun.getT_eq s)
def loose : List PySem.Str := [("__name__" : PySem.Str), ("WorthError" : PySem.Str), ("InvalidWorths" : PySem.Str), ("InvalidPurse" : PySem.Str), ("InvalidTotal" : PySem.Str), ("InvalidRecipe" : PySem.Str), ("is_integer" : PySem.Str), ("MOST_COINS" : PySem.Str), ("MOST_STEPS" : PySem.Str), ("MOST_REST" : PySem.Str), ("MOST_WORTH" : PySem.Str), ("KINDS" : PySem.Str), ("WAYS" : PySem.Str), ("is_pair" : PySem.Str), ("is_purse" : PySem.Str), ("is_total" : PySem.Str), ("is_step" : PySem.Str), ("is_recipe" : PySem.Str), ("is_worths" : PySem.Str), ("look_at" : PySem.Str), ("more_of" : PySem.Str), ("steps_done" : PySem.Str), ("paid" : PySem.Str), ("_law_mix" : PySem.Str), ("_law_next" : PySem.Str), ("_law_at" : PySem.Str), ("_law_fact" : PySem.Str), ("_law_facts" : PySem.Str), ("_law_purse" : PySem.Str), ("_law_total" : PySem.Str), ("_law_recipe" : PySem.Str), ("_law_done" : PySem.Str), ("_law_refused" : PySem.Str)]
theorem run (w : World) : HandSHeadRun.RunEq hR (PySem.W.view hR.prog [36]) hk ob 3000 loose w := by
  intro os
  kernel_rfl
theorem law_end {P : Program} {w : World} {K : PySem.W.Frag} {mg : Str → Option Value} {fa : Addr} {h : Heap} (T : Tx facts fns K mg) (KX : K.In h) (hmg : mg "law" = some (.ref fa)) :
    ∃ (K : PySem.W.Frag) (fd : FuncData) (sp : Sp), K.In h ∧ (∀ (s : Shared) (u : Value), BindsTo s fd ⟨[u], []⟩ [("_law_script", u)]) ∧
      (∀ (H : Hp) (a : Addr) (ns : List Int), ns.length ≤ 63 → Only H → SqL K H a (ns.map V.int) → sp [.ref a] H (fun v _ => v = .bl true) fun _ _ _ => False) ∧
      ∀ base : Heap, K.In base → base.Ns mainGlobals mg → FnOk P w K mg base CX0 7 fa fd ["_law_script"] sp := by
  obtain ⟨fd, hb, hg, hF⟩ := ok_law (P := P) (w := w) T
  have e : fa = He.fAd K ("law", none) := by
    rw [hmg] at hg
    exact Value.ref.inj (Option.some.inj hg)
  subst e
  refine ⟨K, fd, fun vs H Q E => spF K (callM 11 m_law) 1 vs H Q fun _ _ _ => False, KX, hb, ?_, fun base _ _ => fn_calm (hF base) fun vs H Q E h => h⟩
  intro H a ns hl ho hs
  obtain ⟨S', e⟩ := law_plain ns hl
  refine ⟨rfl, fun _ => none, H, [], [], [.scr ns], ⟨fun _ _ q => q, fun _ _ q => by (cases q), fun _ _ q => by (cases q), List.nodup_nil, rfl, fun k a o h1 h2 => by (simp at h1)⟩, .cons ⟨a, rfl, hs⟩ .nil, ?_⟩
  rw [e]
  intro v F' io' H' _ _ r
  cases r
  rfl
end Tw
open PySem PySem.W PySem.Calls PyProof.Rows
theorem PySem.Challenge.cw_twoworths_k04_whole_recipes_at_told_wort_holds : PySem.Challenge.rw_twoworths_k04_whole_recipes_at_told_wort.Holds := by
  w_on; o_law
  refine HandSHeadRun.head_any (r := OpenLaw.row PySem.Challenge.rw_twoworths_k04_whole_recipes_at_told_wort) (q := view (OpenLaw.row PySem.Challenge.rw_twoworths_k04_whole_recipes_at_told_wort).prog [36]) (H := Tw.hk) (ob := Tw.ob) (M := 3000) (loose := Tw.loose) (d := HandSHeadRun.topDef (OpenLaw.row PySem.Challenge.rw_twoworths_k04_whole_recipes_at_told_wort).prog 36) (kwd := []) Tw.ob_eq
    (by kernel_rfl) (fun s => by kernel_rfl) Tw.run (by kernel_rfl) (by kernel_rfl) (by kernel_rfl) (by rfl) (by first | assumption | decide +kernel) (by decide +kernel) ⟨rfl, rfl, rfl, rfl, rfl, by decide +kernel⟩ ?hw ?hc
  case hw => w_witness2
  case hc =>
    refine L2.walk_ofE (l := PySem.Challenge.rw_twoworths_k04_whole_recipes_at_told_wort) (n := 63) (k := 7) (x := "_law_script") (CX := L2.CX0) rfl (by decide) (by kernel_rfl) ⟨rfl, by decide, by decide⟩ ?F (fun _ _ _ _ z => z)
    intro w mg fa h Y G hmg0
    obtain ⟨K, KX, c⟩ := Y
    have hmg : mg ("law" : PySem.Str) = some (.ref fa) := by
      have e : (HandSHeadRun.topDef (OpenLaw.row PySem.Challenge.rw_twoworths_k04_whole_recipes_at_told_wort).prog 36).name = ("law" : PySem.Str) := by kernel_rfl
      rw [← e]
      exact hmg0
    exact Tw.law_end ⟨c, h, KX, G⟩ KX hmg
