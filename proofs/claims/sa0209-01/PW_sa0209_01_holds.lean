import PyProof.Rows.All
import Wide.All
import OpenK.AllK
import Wide.FinOn
import KE.KTryOn
import PyProof.Rows.ListMulCarried
import PyProof.ExcInit
import PyProof.InstStoreFacts
import PyProof.ExcBaseAll.Exception
import Lean
import PySem.Challenge.RW_sa0209_01
set_option Elab.async false
section
open PySem PySem.W PyProof.Rows PySem.Calls
set_option Elab.async false
set_option maxRecDepth 100000
namespace Mine

inductive MO where
  | lst (ds : List Dat)
  | plst (ds : List Dat)
  | chain (R : Obj → List (Str × Value) → Prop) (b : List Int) (g : Int)
noncomputable abbrev Mu := List MO

inductive Tag where
  | fz (o : Obj)
  | ot (o : Obj)
  | mt (i : Nat)
  | fm (m : Str → Option Value)
  | cl (v : Option Value)
noncomputable abbrev Phi := Addr → Option Tag
noncomputable def Le (Φ Φ' : Phi) : Prop := ∀ a t, Φ a = some t → Φ' a = some t
theorem Le.refl (Φ : Phi) : Le Φ Φ := fun _ _ h => h
theorem Le.trans {a b c : Phi} (x : Le a b) (y : Le b c) : Le a c := fun i t h => y i t (x i t h)
noncomputable def ins (Φ : Phi) (a : Addr) (t : Tag) : Phi := fun b => if b = a then some t else Φ b
theorem ins_self (Φ : Phi) (a : Addr) (t : Tag) : ins Φ a t a = some t := if_pos rfl
theorem ins_ne (Φ : Phi) {a b : Addr} (t : Tag) (h : b ≠ a) : ins Φ a t b = Φ b := if_neg h
theorem Le.ins {Φ : Phi} {a : Addr} {t : Tag} (h : Φ a = none) : Le Φ (ins Φ a t) := fun b u e => by
  have : b ≠ a := fun q => by rw [q, h] at e; cases e
  rw [ins_ne _ _ this]; exact e

noncomputable abbrev tupOf (vs : List Value) (n : Nat) : Obj := { cls := .type "tuple", data := .seq vs.toArray n }

mutual
inductive DIn (Φ : Phi) : Value → Dat → Prop
  | none : DIn Φ Value.none Dat.none
  | bool (b : Bool) : DIn Φ (Value.bool b) (Dat.bool b)
  | int (i : Int) (t : Tok) : DIn Φ (Value.int i t) (Dat.int i)
  | str (x : Str) (t : Tok) : DIn Φ (Value.str x t) (Dat.str x)
  | tuple {a : Addr} {vs : List Value} {n : Nat} {ds : List Dat} : Φ a = some (.fz (tupOf vs n)) → DAll Φ vs ds → DIn Φ (Value.ref a) (Dat.tuple ds)
  | list {a : Addr} {vs : List Value} {n : Nat} {ds : List Dat} : Φ a = some (.fz (listOf vs.toArray n)) → DAll Φ vs ds → DIn Φ (Value.ref a) (Dat.list ds)
inductive DAll (Φ : Phi) : List Value → List Dat → Prop
  | nil : DAll Φ [] []
  | cons {v : Value} {vs : List Value} {d : Dat} {ds : List Dat} : DIn Φ v d → DAll Φ vs ds → DAll Φ (v :: vs) (d :: ds)
end
noncomputable def LeF (Φ Φ' : Phi) : Prop := ∀ a o, Φ a = some (.fz o) → Φ' a = some (.fz o)
theorem Le.toF {Φ Φ' : Phi} (h : Le Φ Φ') : LeF Φ Φ' := fun _ _ e => h _ _ e
mutual
theorem DIn.monoF {Φ Φ' : Phi} (hs : LeF Φ Φ') : ∀ {v : Value} {d : Dat}, DIn Φ v d → DIn Φ' v d
  | _, _, .none => .none
  | _, _, .bool b => .bool b
  | _, _, .int i t => .int i t
  | _, _, .str x t => .str x t
  | _, _, .tuple h r => .tuple (hs _ _ h) (DAll.monoF hs r)
  | _, _, .list h r => .list (hs _ _ h) (DAll.monoF hs r)
theorem DAll.monoF {Φ Φ' : Phi} (hs : LeF Φ Φ') : ∀ {vs : List Value} {ds : List Dat}, DAll Φ vs ds → DAll Φ' vs ds
  | _, _, .nil => .nil
  | _, _, .cons h r => .cons (DIn.monoF hs h) (DAll.monoF hs r)
end
theorem DIn.mono {Φ Φ' : Phi} (hs : Le Φ Φ') {v : Value} {d : Dat} (h : DIn Φ v d) : DIn Φ' v d := h.monoF hs.toF
theorem DAll.mono {Φ Φ' : Phi} (hs : Le Φ Φ') {vs : List Value} {ds : List Dat} (h : DAll Φ vs ds) : DAll Φ' vs ds := h.monoF hs.toF
section
variable {Φ : Phi} {v : Value} {d : Dat} {vs ws : List Value} {ds es : List Dat}
theorem DAll.length : ∀ {vs : List Value} {ds : List Dat}, DAll Φ vs ds → vs.length = ds.length
  | _, _, .nil => rfl
  | _, _, .cons _ r => by rw [List.length_cons, List.length_cons, DAll.length r]
theorem DAll.append : ∀ {vs : List Value} {ds : List Dat}, DAll Φ vs ds → DAll Φ ws es → DAll Φ (vs ++ ws) (ds ++ es)
  | _, _, .nil, k => k
  | _, _, .cons h r, k => .cons h (DAll.append r k)
theorem DAll.one (h : DIn Φ v d) : DAll Φ [v] [d] := .cons h .nil
theorem DAll.get : ∀ {vs : List Value} {ds : List Dat}, DAll Φ vs ds → ∀ {k : Nat} {d : Dat}, ds[k]? = some d → ∃ v, vs[k]? = some v ∧ DIn Φ v d
  | _, _, .nil, k, d, e => by simp at e
  | _, _, .cons h r, 0, d, e => by simp at e; subst e; exact ⟨_, rfl, h⟩
  | _, _, .cons h r, k + 1, d, e => by simp at e; exact DAll.get r (by simpa using e)
theorem DAll.get' : ∀ {vs : List Value} {ds : List Dat}, DAll Φ vs ds → ∀ {k : Nat} {v : Value}, vs[k]? = some v → ∃ d, ds[k]? = some d ∧ DIn Φ v d
  | _, _, .nil, k, d, e => by simp at e
  | _, _, .cons h r, 0, d, e => by simp at e; subst e; exact ⟨_, rfl, h⟩
  | _, _, .cons h r, k + 1, d, e => by simp at e; exact DAll.get' r (by simpa using e)
theorem DAll.drop : ∀ {vs : List Value} {ds : List Dat}, DAll Φ vs ds → ∀ n : Nat, DAll Φ (vs.drop n) (ds.drop n)
  | _, _, .nil, n => by simp; exact .nil
  | _, _, .cons h r, 0 => .cons h r
  | _, _, .cons h r, n + 1 => by simpa using DAll.drop r n
theorem DAll.take : ∀ {vs : List Value} {ds : List Dat}, DAll Φ vs ds → ∀ n : Nat, DAll Φ (vs.take n) (ds.take n)
  | _, _, .nil, n => by simp; exact .nil
  | _, _, .cons h r, 0 => .nil
  | _, _, .cons h r, n + 1 => by simpa using .cons h (DAll.take r n)
theorem DAll.set : ∀ {vs : List Value} {ds : List Dat}, DAll Φ vs ds → DIn Φ v d → ∀ n : Nat, DAll Φ (vs.set n v) (ds.set n d)
  | _, _, .nil, _, n => by simp; exact .nil
  | _, _, .cons h r, k, 0 => .cons k r
  | _, _, .cons h r, k, n + 1 => by simpa using .cons h (DAll.set r k n)
theorem DAll.replicate (h : DIn Φ v d) : ∀ n : Nat, DAll Φ (List.replicate n v) (List.replicate n d)
  | 0 => .nil
  | n + 1 => .cons h (DAll.replicate h n)
end

mutual
noncomputable def pyd : Dat → PyData
  | .none => .none
  | .bool b => .bool b
  | .int i => .int i
  | .str x => .str x
  | .bytes _ => .none
  | .tuple ds => .tuple (pyds ds)
  | .list ds => .list (pyds ds)
noncomputable def pyds : List Dat → List PyData
  | [] => []
  | d :: ds => pyd d :: pyds ds
end

noncomputable def MRel (Φ : Phi) (o : Obj) : MO → Prop
  | .lst ds => o.cls = .type "list" ∧ ∃ vs n, o.data = .seq vs.toArray n ∧ DAll Φ vs ds
  | .plst ds => ∃ vs n, o = listOf vs.toArray n ∧ DAll Φ vs ds
  | .chain R bs g => ∃ l t, R o [(Str.ofString "beads", .ref l), (Str.ofString "gone", .int g t)] ∧ DIn Φ (.ref l) (.list (bs.map .int))
noncomputable def TagOk (h : Heap) (Φ : Phi) (μ : Mu) (a : Addr) : Tag → Prop
  | .fz o => h.get? a = some o
  | .ot o => h.get? a = some o
  | .mt i => ∃ mo o, μ[i]? = some mo ∧ h.get? a = some o ∧ MRel Φ o mo
  | .fm m => h.Ns a m
  | .cl v => h.IsCell a v
structure SS (hb h : Heap) (Φ : Phi) (μ : Mu) : Prop where
  keep : ∀ b o, hb.get? b = some o → h.get? b = some o
  tag : ∀ a t, Φ a = some t → hb.objs.size ≤ a ∧ TagOk h Φ μ a t
  inj : ∀ a b i, Φ a = some (.mt i) → Φ b = some (.mt i) → a = b

theorem MRel.monoF {Φ Φ' : Phi} (hs : LeF Φ Φ') {o : Obj} : ∀ {mo : MO}, MRel Φ o mo → MRel Φ' o mo
  | .lst _, ⟨c, vs, n, e, d⟩ => ⟨c, vs, n, e, d.monoF hs⟩
  | .plst _, ⟨vs, n, e, d⟩ => ⟨vs, n, e, d.monoF hs⟩
  | .chain _ _ _, ⟨l, t, e, d⟩ => ⟨l, t, e, d.monoF hs⟩
theorem ns_at {h h' : Heap} {a : Addr} {m : Str → Option Value} (x : h.Ns a m) (k : ∀ o, h.get? a = some o → h'.get? a = some o) : h'.Ns a m := by
  obtain ⟨o, es, ep, e, r⟩ := x
  exact ⟨o, es, ep, k _ e, r⟩
theorem cell_at {h h' : Heap} {a : Addr} {v : Option Value} (x : h.IsCell a v) (k : ∀ o, h.get? a = some o → h'.get? a = some o) : h'.IsCell a v := by
  obtain ⟨o, e, r⟩ := x
  exact ⟨o, k _ e, r⟩
theorem TagOk.there {h : Heap} {Φ : Phi} {μ : Mu} {a : Addr} {t : Tag} (x : TagOk h Φ μ a t) : ∃ o, h.get? a = some o := by
  cases t with
  | fz o => exact ⟨o, x⟩
  | ot o => exact ⟨o, x⟩
  | mt i => obtain ⟨_, o, _, e, _⟩ := x; exact ⟨o, e⟩
  | fm m => obtain ⟨o, _, _, e, _⟩ := x; exact ⟨o, e⟩
  | cl v => obtain ⟨o, e, _⟩ := x; exact ⟨o, e⟩
theorem TagOk.at {h h' : Heap} {Φ Φ' : Phi} {μ : Mu} {a : Addr} {t : Tag} (x : TagOk h Φ μ a t) (k : ∀ o, h.get? a = some o → h'.get? a = some o) (hs : LeF Φ Φ') : TagOk h' Φ' μ a t := by
  cases t with
  | fz o => exact k _ x
  | ot o => exact k _ x
  | mt i => obtain ⟨mo, o, e1, e2, r⟩ := x; exact ⟨mo, o, e1, k _ e2, r.monoF hs⟩
  | fm m => exact ns_at x k
  | cl v => exact cell_at x k
theorem SS.lt {hb h : Heap} {Φ : Phi} {μ : Mu} (S : SS hb h Φ μ) {a : Addr} {t : Tag} (e : Φ a = some t) : a < h.objs.size := by
  obtain ⟨o, ho⟩ := (S.tag a t e).2.there
  exact Heap.lt_size ho
theorem SS.none_ge {hb h : Heap} {Φ : Phi} {μ : Mu} (S : SS hb h Φ μ) {a : Addr} (e : h.objs.size ≤ a) : Φ a = none := by
  cases q : Φ a with
  | none => rfl
  | some t => exact absurd (S.lt q) (Nat.not_lt.mpr e)
theorem SS.size {hb h : Heap} {Φ : Phi} {μ : Mu} (S : SS hb h Φ μ) {L : Addr} {t : Tag} (e : Φ L = some t) : hb.objs.size ≤ h.objs.size := Nat.le_trans (S.tag L t e).1 (Nat.le_of_lt (S.lt e))
theorem SS.hb_none {hb h : Heap} {Φ : Phi} {μ : Mu} (S : SS hb h Φ μ) {a : Addr} {t : Tag} (e : Φ a = some t) : hb.get? a = none := by
  cases q : hb.get? a with
  | none => rfl
  | some o => exact absurd (Heap.lt_size q) (Nat.not_lt.mpr (S.tag a t e).1)

theorem SS.grow {hb h h' : Heap} {Φ : Phi} {μ : Mu} (S : SS hb h Φ μ) (k : ∀ b o, h.get? b = some o → h'.get? b = some o) : SS hb h' Φ μ :=
  ⟨fun b o e => k b o (S.keep b o e), fun a t e => ⟨(S.tag a t e).1, (S.tag a t e).2.at (k a) fun _ _ q => q⟩, S.inj⟩
theorem SS.new {hb h h' : Heap} {Φ : Phi} {μ : Mu} (S : SS hb h Φ μ) (k : ∀ b o, h.get? b = some o → h'.get? b = some o) {a : Addr} {t : Tag} (hn : Φ a = none) (ha : hb.objs.size ≤ a)
    (ht : TagOk h' (ins Φ a t) μ a t) (hm : ∀ i, t ≠ .mt i) : SS hb h' (ins Φ a t) μ ∧ Le Φ (ins Φ a t) := by
  refine ⟨⟨fun b o e => k b o (S.keep b o e), fun b u e => ?_, fun x y i e1 e2 => ?_⟩, Le.ins hn⟩
  · by_cases q : b = a
    · subst q
      rw [ins_self] at e; cases e
      exact ⟨ha, ht⟩
    · rw [ins_ne _ _ q] at e
      exact ⟨(S.tag b u e).1, (S.tag b u e).2.at (k b) (Le.ins hn).toF⟩
  · have hx : x ≠ a := fun q => by rw [q, ins_self] at e1; cases e1; exact hm i rfl
    have hy : y ≠ a := fun q => by rw [q, ins_self] at e2; cases e2; exact hm i rfl
    rw [ins_ne _ _ hx] at e1; rw [ins_ne _ _ hy] at e2
    exact S.inj x y i e1 e2
theorem SS.turn {hb h h' : Heap} {Φ : Phi} {μ : Mu} (S : SS hb h Φ μ) {a : Addr} {i : Nat} {mo : MO} {o : Obj} (ha : Φ a = some (.mt i)) (hs : Heap.SameBut a h h') (ho : h'.get? a = some o) (hr : MRel Φ o mo) : SS hb h' Φ (μ.set i mo) := by
  have hn := S.hb_none ha
  have other : ∀ b, b ≠ a → ∀ o, h.get? b = some o → h'.get? b = some o := fun b hb o e => (hs.2 b hb).trans e
  refine ⟨fun b o e => other b (fun q => by rw [q, hn] at e; cases e) o (S.keep b o e), fun b t e => ⟨(S.tag b t e).1, ?_⟩, S.inj⟩
  by_cases q : b = a
  · subst q
    rw [ha] at e; cases e
    obtain ⟨mo₀, _, h1, _⟩ := (S.tag b _ ha).2
    refine ⟨mo, o, ?_, ho, hr⟩
    rw [List.getElem?_set_self (List.getElem?_eq_some_iff.mp h1).1]
  · have x := (S.tag b t e).2
    cases t with
    | fz o => exact other b q _ x
    | ot o => exact other b q _ x
    | fm m => exact ns_at x (other b q)
    | cl v => exact cell_at x (other b q)
    | mt j =>
      obtain ⟨mo', o', e1, e2, r⟩ := x
      have hj : i ≠ j := fun z => q (S.inj b a i (z ▸ e) ha)
      exact ⟨mo', o', by rw [List.getElem?_set_ne hj]; exact e1, other b q _ e2, r⟩
end Mine
end
section
open PySem PySem.W PyProof.Rows PySem.Calls
set_option Elab.async false
set_option maxRecDepth 100000
namespace Mine

inductive Vl where
  | dat (d : Dat)
  | mref (i : Nat)
  | mem (n c : Nat)
  | raw (a : Addr)

theorem byG {P : Prop} (h : ∀ G : Prop, (P → G) → G) : P := h P id

noncomputable def deref (μ : Mu) : Vl → Option Dat
  | .dat d => some d
  | .mref i => match μ[i]? with
    | some (.lst ds) => some (.list ds)
    | some (.plst ds) => some (.list ds)
    | _ => none
  | .mem _ _ => none
  | .raw _ => none

noncomputable def MemAt (mC : Addr) (Φ : Phi) (x : Addr) (n c : Nat) : Prop :=
  ∃ dx k1 k2 h1 h2 an ac m, Φ x = some (.fz (instObj mC dx)) ∧ Φ dx = some (.fz (dictOf [⟨h1, .str (Str.ofString "numeric") k1, .ref an⟩, ⟨h2, .str (Str.ofString "characters") k2, .ref ac⟩] m)) ∧ Φ an = some (.mt n) ∧ Φ ac = some (.mt c)
noncomputable def VIn (mC : Addr) (Φ : Phi) (v : Value) : Vl → Prop
  | .dat d => DIn Φ v d
  | .mref i => ∃ a, v = .ref a ∧ Φ a = some (.mt i)
  | .mem n c => ∃ x, v = .ref x ∧ MemAt mC Φ x n c
  | .raw a => v = .ref a
theorem VIn.mono {mC : Addr} {Φ Φ' : Phi} (hs : Le Φ Φ') {v : Value} : ∀ {V : Vl}, VIn mC Φ v V → VIn mC Φ' v V
  | .dat _, h => DIn.mono hs h
  | .mref _, ⟨a, e, q⟩ => ⟨a, e, hs _ _ q⟩
  | .mem _ _, ⟨x, e, dx, k1, k2, h1, h2, an, ac, m, q1, q2, q3, q4⟩ => ⟨x, e, dx, k1, k2, h1, h2, an, ac, m, hs _ _ q1, hs _ _ q2, hs _ _ q3, hs _ _ q4⟩
  | .raw _, h => h

inductive Shows (h : Heap) (Φ : Phi) : Value → Dat → Prop
  | none : Shows h Φ Value.none Dat.none
  | bool (b : Bool) : Shows h Φ (Value.bool b) (Dat.bool b)
  | int (i : Int) (t : Tok) : Shows h Φ (Value.int i t) (Dat.int i)
  | str (x : Str) (t : Tok) : Shows h Φ (Value.str x t) (Dat.str x)
  | tuple {a : Addr} {vs : List Value} {n : Nat} {ds : List Dat} : Φ a = some (.fz (tupOf vs n)) → DAll Φ vs ds → Shows h Φ (Value.ref a) (Dat.tuple ds)
  | list {a : Addr} {vs : List Value} {ds : List Dat} : h.IsList a vs.toArray → DAll Φ vs ds → Shows h Φ (Value.ref a) (Dat.list ds)
theorem DIn.shows {hb h : Heap} {Φ : Phi} {μ : Mu} (S : SS hb h Φ μ) {v : Value} {d : Dat} (x : DIn Φ v d) : Shows h Φ v d := by
  cases x with
  | none => exact .none
  | bool b => exact .bool b
  | int i t => exact .int i t
  | str x t => exact .str x t
  | tuple q r => exact .tuple q r
  | list q r => exact .list ⟨_, (S.tag _ _ q).2, rfl, _, rfl⟩ r
theorem VIn.shows {mC : Addr} {hb h : Heap} {Φ : Phi} {μ : Mu} (S : SS hb h Φ μ) {v : Value} {V : Vl} {d : Dat} (x : VIn mC Φ v V) (e : deref μ V = some d) : Shows h Φ v d := by
  cases V with
  | dat d' => cases e; exact DIn.shows S x
  | mref i =>
    obtain ⟨a, rfl, q⟩ := x
    obtain ⟨mo, o, h1, h2, h3⟩ := (S.tag _ _ q).2
    simp only [deref, h1] at e
    cases mo with
    | lst ds =>
      cases e
      obtain ⟨c, vs, n, ed, da⟩ := h3
      exact .list ⟨o, h2, c, n, ed⟩ da
    | plst ds =>
      cases e
      obtain ⟨vs, n, rfl, da⟩ := h3
      exact .list ⟨_, h2, rfl, n, rfl⟩ da
    | chain _ _ _ => cases e
  | mem _ _ => cases e
  | raw _ => cases e

mutual
theorem DIn.reads {hb h : Heap} {Φ : Phi} {μ : Mu} (S : SS hb h Φ μ) : ∀ {v : Value} {d : Dat}, DIn Φ v d → ∃ as, Reads h v (pyd d) as
  | _, _, .none => ⟨_, Reads.none⟩
  | _, _, .bool b => ⟨_, Reads.bool b⟩
  | _, _, .int i t => ⟨_, Reads.int i t⟩
  | _, _, .str x t => ⟨_, Reads.str x t⟩
  | _, _, .tuple q r => by
    obtain ⟨as, p⟩ := DAll.reads S r
    rw [pyd]
    exact ⟨as, reads_tuple_at (S.tag _ _ q).2 rfl rfl (by simpa using p)⟩
  | _, _, .list q r => by
    obtain ⟨as, p⟩ := DAll.reads S r
    rw [pyd]
    exact ⟨_, reads_list_at (S.tag _ _ q).2 rfl rfl (by simpa [W.listOf] using p)⟩
theorem DAll.reads {hb h : Heap} {Φ : Phi} {μ : Mu} (S : SS hb h Φ μ) : ∀ {vs : List Value} {ds : List Dat}, DAll Φ vs ds → ∃ as, ReadsAll h vs (pyds ds) as
  | _, _, .nil => ⟨_, ReadsAll.nil⟩
  | _, _, .cons hd r => by
    obtain ⟨as, q⟩ := DIn.reads S hd
    obtain ⟨bs, p⟩ := DAll.reads S r
    rw [pyds]
    exact ⟨_, ReadsAll.cons q p⟩
end
theorem Shows.reads {hb h : Heap} {Φ : Phi} {μ : Mu} (S : SS hb h Φ μ) {v : Value} {d : Dat} (x : Shows h Φ v d) : ∃ as, Reads h v (pyd d) as := by
  cases x with
  | none => exact ⟨_, Reads.none⟩
  | bool b => exact ⟨_, Reads.bool b⟩
  | int i t => exact ⟨_, Reads.int i t⟩
  | str x t => exact ⟨_, Reads.str x t⟩
  | tuple q r => exact DIn.reads S (.tuple q r)
  | list q r =>
    obtain ⟨as, p⟩ := DAll.reads S r
    obtain ⟨o, ho, hc, n, hd⟩ := q
    rw [pyd]
    exact ⟨_, reads_list_at ho hc hd (by simpa using p)⟩

noncomputable def Aft (hb : Heap) (s s' : Shared) (Φ Φ' : Phi) (μ' : Mu) : Prop := ∃ h tk, s' = { s with heap := h, toks := tk } ∧ SS hb h Φ' μ' ∧ Le Φ Φ'
theorem Aft.ss {hb : Heap} {s s' : Shared} {Φ Φ' : Phi} {μ' : Mu} (x : Aft hb s s' Φ Φ' μ') : SS hb s'.heap Φ' μ' := by
  obtain ⟨h, tk, rfl, S, _⟩ := x; exact S
theorem Aft.le {hb : Heap} {s s' : Shared} {Φ Φ' : Phi} {μ' : Mu} (x : Aft hb s s' Φ Φ' μ') : Le Φ Φ' := by
  obtain ⟨h, tk, rfl, _, l⟩ := x; exact l
theorem Aft.trans {hb : Heap} {s s' s'' : Shared} {Φ Φ' Φ'' : Phi} {μ' μ'' : Mu} (x : Aft hb s s' Φ Φ' μ') (y : Aft hb s' s'' Φ' Φ'' μ'') : Aft hb s s'' Φ Φ'' μ'' := by
  obtain ⟨h, tk, rfl, _, l⟩ := x
  obtain ⟨h', tk', rfl, S, l'⟩ := y
  exact ⟨h', tk', rfl, S, l.trans l'⟩
theorem Aft.refl {hb : Heap} {s : Shared} {Φ : Phi} {μ : Mu} (S : SS hb s.heap Φ μ) : Aft hb s s Φ Φ μ := ⟨s.heap, s.toks, rfl, S, .refl _⟩
theorem Aft.tok {hb : Heap} {s : Shared} {Φ : Phi} {μ : Mu} (S : SS hb s.heap Φ μ) (tk : Nat) : Aft hb s { s with toks := tk } Φ Φ μ := ⟨s.heap, tk, rfl, S, .refl _⟩
theorem keeps_push {h : Heap} (o : Obj) : ∀ b x, h.get? b = some x → (h.push o).get? b = some x := fun _ _ e => Heap.get?_push_of_some _ e
theorem Aft.push {hb : Heap} {s : Shared} {Φ : Phi} {μ : Mu} (S : SS hb s.heap Φ μ) {L : Addr} {t : Tag} (hL : Φ L = some t) (o : Obj) (tk : Nat) (hf : o.isFreed = false := by rfl) :
    Aft hb s { s with heap := s.heap.push o, toks := tk } Φ (ins Φ s.heap.objs.size (.fz o)) μ :=
  have z := S.new (keeps_push o) (S.none_ge (Nat.le_refl _)) (S.size hL) (t := .fz o) (Heap.get?_push_size _ hf) (fun _ q => by cases q)
  ⟨_, tk, rfl, z.1, z.2⟩

noncomputable def small (i : Int) : Bool := decide (i.natAbs < 2 ^ 64)
theorem bits_small {i : Int} (h : small i = true) : Builtin.Int.intBits i ≤ 64 := by
  unfold small at h
  have h := of_decide_eq_true h
  unfold Builtin.Int.intBits
  split
  · exact Nat.zero_le _
  · rename_i hz
    have : i.natAbs ≠ 0 := by
      intro q
      exact hz (by simpa using q)
    have := (Nat.log2_lt this).mpr h
    (first | lia | omega)
theorem mulOk {a b : Int} (h : (small a || small b) = true) : IntMulOk a b := by
  unfold IntMulOk shortFactorBits
  rcases Bool.or_eq_true_iff.mp h with h | h
  · have := bits_small h
    simp; intro q; (first | lia | omega)
  · have := bits_small h
    simp; intro _ q; (first | lia | omega)

noncomputable def room (n : Nat) : Bool := decide (n ≤ 1000000)
section
variable {β : Type}
noncomputable def onInt (d : Dat) (f : Int → Option β) : Option β := @Dat.casesOn (fun _ => Option β) d none (fun _ => none) f (fun _ => none) (fun _ => none) (fun _ => none) (fun _ => none)
noncomputable def onStr (d : Dat) (f : Str → Option β) : Option β := @Dat.casesOn (fun _ => Option β) d none (fun _ => none) (fun _ => none) f (fun _ => none) (fun _ => none) (fun _ => none)
noncomputable def onTup (d : Dat) (f : List Dat → Option β) : Option β := @Dat.casesOn (fun _ => Option β) d none (fun _ => none) (fun _ => none) (fun _ => none) (fun _ => none) f (fun _ => none)
noncomputable def onLst (d : Dat) (f : List Dat → Option β) : Option β := @Dat.casesOn (fun _ => Option β) d none (fun _ => none) (fun _ => none) (fun _ => none) (fun _ => none) (fun _ => none) f
@[elab_as_elim] theorem onInt_e {d : Dat} {f : Int → Option β} {z : β} {C : Dat → Prop} (h : onInt d f = some z) (k : ∀ a, f a = some z → C (.int a)) : C d := by
  cases d <;> first | (cases h; done) | exact k _ h
@[elab_as_elim] theorem onStr_e {d : Dat} {f : Str → Option β} {z : β} {C : Dat → Prop} (h : onStr d f = some z) (k : ∀ a, f a = some z → C (.str a)) : C d := by
  cases d <;> first | (cases h; done) | exact k _ h
@[elab_as_elim] theorem onTup_e {d : Dat} {f : List Dat → Option β} {z : β} {C : Dat → Prop} (h : onTup d f = some z) (k : ∀ a, f a = some z → C (.tuple a)) : C d := by
  cases d <;> first | (cases h; done) | exact k _ h
@[elab_as_elim] theorem onLst_e {d : Dat} {f : List Dat → Option β} {z : β} {C : Dat → Prop} (h : onLst d f = some z) (k : ∀ a, f a = some z → C (.list a)) : C d := by
  cases d <;> first | (cases h; done) | exact k _ h
theorem if_e {c : Prop} [Decidable c] {x : Option β} {z : β} {G : Prop} (h : (if c then x else none) = some z) (k : c → x = some z → G) : G := by
  by_cases q : c
  · rw [if_pos q] at h; exact k q h
  · rw [if_neg q] at h; cases h
end
section
variable {h : Heap} {Φ : Phi} {v : Value} {C : Value → Prop}
@[elab_as_elim] theorem Shows.int_e {a : Int} (x : Shows h Φ v (.int a)) (k : ∀ t, C (.int a t)) : C v := by cases x; exact k _
@[elab_as_elim] theorem Shows.str_e {a : Str} (x : Shows h Φ v (.str a)) (k : ∀ t, C (.str a t)) : C v := by cases x; exact k _
@[elab_as_elim] theorem Shows.bool_e {a : Bool} (x : Shows h Φ v (.bool a)) (k : C (.bool a)) : C v := by cases x; exact k
@[elab_as_elim] theorem Shows.tup_e {ds : List Dat} (x : Shows h Φ v (.tuple ds)) (k : ∀ a vs n, Φ a = some (.fz (tupOf vs n)) → DAll Φ vs ds → C (.ref a)) : C v := by cases x with | tuple q r => exact k _ _ _ q r
@[elab_as_elim] theorem Shows.lst_e {ds : List Dat} (x : Shows h Φ v (.list ds)) (k : ∀ a vs, h.IsList a vs.toArray → DAll Φ vs ds → C (.ref a)) : C v := by cases x with | list q r => exact k _ _ q r
end
noncomputable def addD (x y : Dat) : Option Dat := @Dat.casesOn (fun _ => Option Dat) x none (fun _ => none) (fun a => onInt y fun b => some (.int (a + b))) (fun a => onStr y fun b => if room (a.length + b.length) then some (.str (a ++ b)) else none) (fun _ => none)
  (fun a => onTup y fun b => if room (a.length + b.length) then some (.tuple (a ++ b)) else none) (fun a => onLst y fun b => if room (a.length + b.length) then some (.list (a ++ b)) else none)
noncomputable def subD (x y : Dat) : Option Dat := onInt x fun a => onInt y fun b => some (.int (a - b))
noncomputable def mulD (x y : Dat) : Option Dat := @Dat.casesOn (fun _ => Option Dat) x none (fun _ => none) (fun a => onInt y fun b => if (small a || small b) = true then some (.int (a * b)) else none)
  (fun x => onInt y fun n => if (x.length == 1 && decide (-1000000 ≤ n) && decide (n ≤ 1000000)) = true then some (.str (Txt.mul x n)) else none) (fun _ => none) (fun _ => none) (fun _ => none)
noncomputable def binD (op : Operator) (x y : Dat) : Option Dat := @Operator.casesOn (fun _ => Option Dat) op (addD x y) (subD x y) (mulD x y) none none none none none none none none none none
theorem bd_add (a b : Int) : binD .Add (.int a) (.int b) = some (.int (a + b)) := rfl
theorem bd_sub (a b : Int) : binD .Sub (.int a) (.int b) = some (.int (a - b)) := rfl
theorem bd_mul (a b : Int) : binD .Mult (.int a) (.int b) = if (small a || small b) = true then some (.int (a * b)) else none := rfl
theorem bd_adds (x y : Str) : binD .Add (.str x) (.str y) = if room (x.length + y.length) then some (.str (x ++ y)) else none := rfl
theorem bd_muls (x : Str) (n : Int) : binD .Mult (.str x) (.int n) = if (x.length == 1 && decide (-1000000 ≤ n) && decide (n ≤ 1000000)) = true then some (.str (Txt.mul x n)) else none := rfl
theorem bd_addl (a b : List Dat) : binD .Add (.list a) (.list b) = if room (a.length + b.length) then some (.list (a ++ b)) else none := rfl
theorem bd_addt (a b : List Dat) : binD .Add (.tuple a) (.tuple b) = if room (a.length + b.length) then some (.tuple (a ++ b)) else none := rfl

section
variable {prog : Program} {w : World} {A : Around} {Q : Value → Shared → Prop} {E : Value → Shared → Prop} {s : Shared} {hb : Heap} {Φ : Phi} {μ : Mu} {mC : Addr}
theorem op_muls {v u : Value} {L : Addr} {t : Tag} {x' : Str} {n : Int} (S : SS hb s.heap Φ μ) (hL : Φ L = some t) (hv : Shows s.heap Φ v (.str x')) (hu : Shows s.heap Φ u (.int n)) (hr : (x'.length == 1 && decide (-1000000 ≤ n) && decide (n ≤ 1000000)) = true)
    (h : ∀ r s' Φ', Aft hb s s' Φ Φ' μ → DIn Φ' r (.str (Txt.mul x' n)) → Q r s') : wpAny (model prog w) A (binaryOp .Mult v u) Q E s := by
  refine hv.str_e fun tv => hu.int_e fun tu => ?_
  simp only [Bool.and_eq_true, beq_iff_eq, decide_eq_true_eq] at hr
  obtain ⟨⟨h1, h2⟩, h3⟩ := hr
  have hl : x'.length = 1 := h1
  refine SB.mul ⟨?_, ?_, ?_⟩ (fun t' k => h _ _ Φ (Aft.tok S k) (.str _ _))
  · rw [Bool.or_eq_false_iff]; exact ⟨decide_eq_false (by (first | lia | omega)), decide_eq_false (by (first | lia | omega))⟩
  · intro hn _
    rw [hl]
    intro q
    have : (2 ^ 63 - 1) / n ≥ 1 := by
      refine (Int.le_ediv_iff_mul_le (by (first | lia | omega))).mpr ?_
      (first | lia | omega)
    have e1 : ((1 : Nat) : Int) = 1 := rfl
    rw [e1] at q
    (first | lia | omega)
  · intro hn _
    rw [hl]
    unfold Builtin.Str.tooLong
    simp [sizeLine]
    (first | lia | omega)
theorem op_addl {v u : Value} {L : Addr} {t : Tag} {da db : List Dat} (S : SS hb s.heap Φ μ) (hL : Φ L = some t) (hv : Shows s.heap Φ v (.list da)) (hu : Shows s.heap Φ u (.list db)) (hr : room (da.length + db.length) = true)
    (h : ∀ r s' Φ', Aft hb s s' Φ Φ' μ → DIn Φ' r (.list (da ++ db)) → Q r s') : wpAny (model prog w) A (binaryOp .Add v u) Q E s := by
  have hr := of_decide_eq_true hr
  refine hv.lst_e fun a vs hl da => hu.lst_e fun b ws hl' db => ?_
  refine byG fun G hG => ?_
  obtain ⟨⟨cls, dd, data, sl⟩, ho, hc, n, hd⟩ := id hl
  obtain ⟨⟨cls2, dd2, data2, sl2⟩, ho2, hc2, n2, hd2⟩ := id hl'
  simp only at hc hd hc2 hd2
  rw [hc, hd] at ho
  rw [hc2, hd2] at ho2
  have hz : vs.length + ws.length ≤ sizeLine := by rw [da.length, db.length]; exact Nat.le_trans hr (by decide)
  have q := Aft.push S hL { cls := .type "list", data := .seq (vs.toArray ++ ws.toArray) } s.toks
  exact hG (concat_meets ⟨_, ho, rfl⟩ ⟨_, ho2, rfl⟩ noFill_list_add seq_list_add PySem.F.slot_list_add PySem.F.entry_list_add (PySem.F.args_list_add_2 _ _) (list_addW a b vs.toArray ws.toArray n n2 dd dd2 sl sl2 (by simpa using hz)) ⟨ho, ho2, h _ _ _ q (.list (vs := vs ++ ws) (n := 0) (by rw [ins_self]; simp) ((da.append db).mono q.le))⟩)
theorem op_addt {v u : Value} {L : Addr} {t : Tag} {da db : List Dat} (S : SS hb s.heap Φ μ) (hL : Φ L = some t) (hv : Shows s.heap Φ v (.tuple da)) (hu : Shows s.heap Φ u (.tuple db)) (hr : room (da.length + db.length) = true)
    (h : ∀ r s' Φ', Aft hb s s' Φ Φ' μ → DIn Φ' r (.tuple (da ++ db)) → Q r s') : wpAny (model prog w) A (binaryOp .Add v u) Q E s := by
  have hr := of_decide_eq_true hr
  refine hv.tup_e fun a vs n hl da => hu.tup_e fun b ws n2 hl' db => ?_
  have ho := (S.tag _ _ hl).2
  have ho2 := (S.tag _ _ hl').2
  have hz : vs.length + ws.length ≤ sizeLine := by rw [da.length, db.length]; exact Nat.le_trans hr (by decide)
  have nil : ∀ {vs : List Value} {ds : List Dat}, DAll Φ vs ds → vs.toArray.isEmpty = true → ds = [] ∧ vs = [] := fun x q => by
    have q : _ = 0 := of_decide_eq_true q
    rw [List.size_toArray] at q
    exact ⟨List.eq_nil_of_length_eq_zero (x.length ▸ q), List.eq_nil_of_length_eq_zero q⟩
  by_cases hv : vs.toArray.isEmpty = true
  · rw [(nil da hv).1, List.nil_append] at h
    exact concat_meets ⟨_, ho, rfl⟩ ⟨_, ho2, rfl⟩ noFill_tuple_add seq_tuple_add PySem.F.slot_tuple_add PySem.F.entry_tuple_add (PySem.F.args_tuple_add_2 _ _) (tuple_addW0 a b vs.toArray ws.toArray n n2 none none #[] #[] hv) ⟨ho, ho2, h _ _ Φ (Aft.tok S _) (.tuple hl' db)⟩
  · by_cases hw : ws.toArray.isEmpty = true
    · rw [(nil db hw).1, List.append_nil] at h
      exact concat_meets ⟨_, ho, rfl⟩ ⟨_, ho2, rfl⟩ noFill_tuple_add seq_tuple_add PySem.F.slot_tuple_add PySem.F.entry_tuple_add (PySem.F.args_tuple_add_2 _ _) (tuple_addW1 a b vs.toArray ws.toArray n n2 none none #[] #[] hv hw) ⟨ho, ho2, h _ _ Φ (Aft.tok S _) (.tuple hl da)⟩
    · have q := Aft.push S hL { cls := .type "tuple", data := .seq (vs.toArray ++ ws.toArray) } s.toks
      exact concat_meets ⟨_, ho, rfl⟩ ⟨_, ho2, rfl⟩ noFill_tuple_add seq_tuple_add PySem.F.slot_tuple_add PySem.F.entry_tuple_add (PySem.F.args_tuple_add_2 _ _) (tuple_addW2 a b vs.toArray ws.toArray n n2 none none #[] #[] hv hw (by rw [List.size_toArray, List.size_toArray]; exact hz)) ⟨ho, ho2, h _ _ _ q (.tuple (vs := vs ++ ws) (n := 0) (by rw [ins_self]; simp) ((da.append db).mono q.le))⟩
@[elab_as_elim] theorem binD_e {op : Operator} {x y z : Dat} {G : Operator → Prop} (e : binD op x y = some z) (k1 : addD x y = some z → G .Add) (k2 : subD x y = some z → G .Sub) (k3 : mulD x y = some z → G .Mult) : G op := by
  cases op <;> first | exact k1 e | exact k2 e | exact k3 e | cases e
@[elab_as_elim] theorem addD_e {x y z : Dat} {G : Dat → Prop} (e : addD x y = some z) (k1 : ∀ a, onInt y (fun b => some (.int (a + b))) = some z → G (.int a)) (k2 : ∀ a : Str, onStr y (fun b => if room (a.length + b.length) then some (.str (a ++ b)) else none) = some z → G (.str a))
    (k3 : ∀ a : List Dat, onTup y (fun b => if room (a.length + b.length) then some (.tuple (a ++ b)) else none) = some z → G (.tuple a)) (k4 : ∀ a : List Dat, onLst y (fun b => if room (a.length + b.length) then some (.list (a ++ b)) else none) = some z → G (.list a)) : G x := by
  cases x <;> first | exact k1 _ e | exact k2 _ e | exact k3 _ e | exact k4 _ e | cases e
@[elab_as_elim] theorem mulD_e {x y z : Dat} {G : Dat → Prop} (e : mulD x y = some z) (k1 : ∀ a, onInt y (fun b => if (small a || small b) = true then some (.int (a * b)) else none) = some z → G (.int a))
    (k2 : ∀ a : Str, onInt y (fun n => if (a.length == 1 && decide (-1000000 ≤ n) && decide (n ≤ 1000000)) = true then some (.str (Txt.mul a n)) else none) = some z → G (.str a)) : G x := by
  cases x <;> first | exact k1 _ e | exact k2 _ e | cases e
theorem op_bin {op : Operator} {x y z : Dat} {v u : Value} {L : Addr} {t : Tag} (S : SS hb s.heap Φ μ) (hL : Φ L = some t) (hv : Shows s.heap Φ v x) (hu : Shows s.heap Φ u y) (e : binD op x y = some z)
    (h : ∀ r s' Φ', Aft hb s s' Φ Φ' μ → DIn Φ' r z → Q r s') : wpAny (model prog w) A (binaryOp op v u) Q E s := by
  revert hv hu
  refine binD_e (G := fun op => Shows s.heap Φ v x → Shows s.heap Φ u y → wpAny (model prog w) A (binaryOp op v u) Q E s) e (fun e => ?_) (fun e => ?_) fun e => ?_
  · refine addD_e (G := fun x => Shows s.heap Φ v x → _) e (fun a e => ?_) (fun a e => ?_) (fun a e => ?_) fun a e => ?_
    · exact onInt_e (C := fun y => Shows s.heap Φ v (.int a) → Shows s.heap Φ u y → _) e fun b e hv hu => hv.int_e fun _ => hu.int_e fun _ => add_int (h _ _ Φ (Aft.tok S _) (Option.some.inj e ▸ .int _ _))
    · exact onStr_e (C := fun y => Shows s.heap Φ v (.str a) → Shows s.heap Φ u y → _) e fun b e hv hu => if_e e fun hr e => hv.str_e fun _ => hu.str_e fun _ => SBL.add (fun t' k _ => h _ _ Φ (Aft.tok S k) (Option.some.inj e ▸ .str _ _)) (Nat.le_trans (of_decide_eq_true hr) (by decide))
    · exact onTup_e (C := fun y => Shows s.heap Φ v (.tuple a) → Shows s.heap Φ u y → _) e fun b e hv hu => if_e e fun hr e => op_addt S hL hv hu hr (Option.some.inj e ▸ h)
    · exact onLst_e (C := fun y => Shows s.heap Φ v (.list a) → Shows s.heap Φ u y → _) e fun b e hv hu => if_e e fun hr e => op_addl S hL hv hu hr (Option.some.inj e ▸ h)
  · exact onInt_e (C := fun x => Shows s.heap Φ v x → _) e fun a e => onInt_e (C := fun y => Shows s.heap Φ v (.int a) → Shows s.heap Φ u y → _) e fun b e hv hu => hv.int_e fun _ => hu.int_e fun _ => sub_int (h _ _ Φ (Aft.tok S _) (Option.some.inj e ▸ .int _ _))
  · refine mulD_e (G := fun x => Shows s.heap Φ v x → _) e (fun a e => ?_) fun a e => ?_
    · exact onInt_e (C := fun y => Shows s.heap Φ v (.int a) → Shows s.heap Φ u y → _) e fun b e hv hu => if_e e fun hm e => hv.int_e fun _ => hu.int_e fun _ => mul_int (h _ _ Φ (Aft.tok S _) (Option.some.inj e ▸ .int _ _)) (mulOk hm)
    · exact onInt_e (C := fun y => Shows s.heap Φ v (.str a) → Shows s.heap Φ u y → _) e fun b e hv hu => if_e e fun hr e => op_muls S hL hv hu hr (Option.some.inj e ▸ h)
end
end Mine
end
section
open PySem PySem.W PyProof.Rows PySem.Calls
set_option Elab.async false
set_option maxRecDepth 100000
namespace Mine

theorem pyds_map (ds : List Dat) : pyds ds = ds.map pyd := by
  induction ds with
  | nil => rfl
  | cons d ds ih => exact congrArg (List.cons _) ih
noncomputable def eqD (x y : Dat) : Bool := (pyd x).eqv (pyd y)
noncomputable def shp (d : Dat) : Bool := SeqAt.shaped (pyd d)
noncomputable def shpL (ds : List Dat) : Bool := PyData.canLayAll0 (pyds ds) && decide (PyData.depthAll (pyds ds) ≤ 60)
noncomputable def lay (d : Dat) : Bool := (pyd d).canLay0

noncomputable def inD (x y : Dat) : Option Bool := @Dat.casesOn (fun _ => Option Bool) y none (fun _ => none) (fun _ => none) (fun _ => none) (fun _ => none) (fun ds => if shpL ds && lay x then some (ds.any fun y => eqD y x) else none) (fun ds => if shpL ds && lay x then some (ds.any fun y => eqD y x) else none)
noncomputable def cmpD (op : CmpOp) (x y : Dat) : Option Bool := @CmpOp.casesOn (fun _ => Option Bool) op (if shp x && shp y then some (eqD x y) else none) (if shp x && shp y then some (!eqD x y) else none) (onInt x fun a => onInt y fun b => some (decide (a < b))) (onInt x fun a => onInt y fun b => some (decide (a ≤ b)))
  (onInt x fun a => onInt y fun b => some (decide (b < a))) (onInt x fun a => onInt y fun b => some (decide (b ≤ a))) none none (inD x y) none
theorem cd_eq (x y : Dat) : cmpD .Eq x y = if shp x && shp y then some (eqD x y) else none := rfl
theorem cd_ne (x y : Dat) : cmpD .NotEq x y = if shp x && shp y then some (!eqD x y) else none := rfl
theorem cd_lt (a b : Int) : cmpD .Lt (.int a) (.int b) = some (decide (a < b)) := rfl
theorem cd_le (a b : Int) : cmpD .LtE (.int a) (.int b) = some (decide (a ≤ b)) := rfl
theorem cd_gt (a b : Int) : cmpD .Gt (.int a) (.int b) = some (decide (b < a)) := rfl
theorem cd_ge (a b : Int) : cmpD .GtE (.int a) (.int b) = some (decide (b ≤ a)) := rfl
theorem cd_inl (x : Dat) (ds : List Dat) : cmpD .In x (.list ds) = if shpL ds && lay x then some (ds.any fun y => eqD y x) else none := rfl
theorem cd_int (x : Dat) (ds : List Dat) : cmpD .In x (.tuple ds) = if shpL ds && lay x then some (ds.any fun y => eqD y x) else none := rfl
noncomputable def isNone (V : Vl) : Bool := match V with
  | .dat d => d.ctorIdx == 0
  | .mref _ => false
  | .mem _ _ => false
  | .raw _ => false
noncomputable def idxL {α : Type} (ds : List α) (i : Int) : Option α := if (decide (-1000000 ≤ i) && decide (i ≤ 1000000)) = true then (seqIndex? i ds.length).bind (ds[·]?) else none
noncomputable def idxS (x : Str) (i : Int) : Option Dat := if (decide (-1000000 ≤ i) && decide (i ≤ 1000000)) = true then ((seqIndex? i x.length).bind (x.cps[·]?)).bind fun c => some (.str ⟨#[c]⟩) else none
noncomputable def idxD (d : Dat) (i : Int) : Option Dat := @Dat.casesOn (fun _ => Option Dat) d none (fun _ => none) (fun _ => none) (fun x => idxS x i) (fun _ => none) (fun ds => idxL ds i) (fun ds => idxL ds i)
theorem idxD_e {d z : Dat} {i : Int} {C : Dat → Prop} (e : idxD d i = some z) (k1 : ∀ x, idxS x i = some z → C (.str x)) (k2 : ∀ ds, idxL ds i = some z → C (.tuple ds)) (k3 : ∀ ds, idxL ds i = some z → C (.list ds)) : C d := by
  cases d <;> first | exact k1 _ e | exact k2 _ e | exact k3 _ e | cases e

noncomputable def slL {α : Type} (ds : List α) : Option Int → Option Int → Option (List α)
  | none, none => some ds
  | none, some k => if 0 ≤ k then some (ds.take k.toNat) else some (ds.take (ds.length - (-k).toNat))
  | some a, none => if 0 ≤ a then some (ds.drop a.toNat) else none
  | some a, some b => if 0 ≤ a ∧ a ≤ b ∧ b ≤ ds.length then some ((ds.drop a.toNat).take (b.toNat - a.toNat)) else none
theorem slL_up {α : Type} {ds : List α} {k : Int} (h : 0 ≤ k) : slL ds none (some k) = some (ds.take k.toNat) := by
  show (if 0 ≤ k then some (ds.take k.toNat) else some (ds.take (ds.length - (-k).toNat))) = _
  exact if_pos h
theorem slL_pick {vs : List Value} {lo hi : Option Int} {ws : List Value} (e : slL vs lo hi = some ws) : slicePick vs.toArray lo hi none = ws.toArray := by
  cases lo with
  | none =>
    cases hi with
    | none => cases e; exact slicePick_all _
    | some k =>
      by_cases h : 0 ≤ k
      · cases (if_pos h).symm.trans e
        obtain ⟨n, rfl⟩ := Int.eq_ofNat_of_zero_le h
        exact slicePick_upto' _ _
      · cases (if_neg h).symm.trans e
        obtain ⟨n, hn, hp⟩ : ∃ n : Nat, k = -(n : Int) ∧ 1 ≤ n := ⟨(-k).toNat, by omega, by omega⟩
        subst hn
        rw [slicePick_butLast vs.toArray n hp]
        simp
  | some a =>
    cases hi with
    | none =>
      refine if_e (show (if 0 ≤ a then some (vs.drop a.toNat) else none) = some ws from e) fun h e => ?_
      cases e
      obtain ⟨n, rfl⟩ := Int.eq_ofNat_of_zero_le h
      exact slicePick_from' _ _
    | some b =>
      refine if_e (show (if 0 ≤ a ∧ a ≤ b ∧ b ≤ vs.length then some ((vs.drop a.toNat).take (b.toNat - a.toNat)) else none) = some ws from e) fun h e => ?_
      cases e
      obtain ⟨n, rfl⟩ := Int.eq_ofNat_of_zero_le h.1
      obtain ⟨k, rfl⟩ := Int.eq_ofNat_of_zero_le (Int.le_trans h.1 h.2.1)
      exact slicePick_run vs.toArray n k (by rw [List.size_toArray]; exact Int.ofNat_le.mp h.2.2) (Int.ofNat_le.mp h.2.1)
theorem slL_all {Φ : Phi} {vs : List Value} {ds : List Dat} (da : DAll Φ vs ds) {lo hi : Option Int} {es : List Dat} (e : slL ds lo hi = some es) : ∃ ws, slL vs lo hi = some ws ∧ DAll Φ ws es := by
  have hl := da.length
  cases lo with
  | none =>
    cases hi with
    | none => cases e; exact ⟨vs, rfl, da⟩
    | some k =>
      by_cases h : 0 ≤ k
      · cases (if_pos h).symm.trans e; exact ⟨_, if_pos h, da.take _⟩
      · cases (if_neg h).symm.trans e; exact ⟨_, if_neg h, by rw [hl]; exact da.take _⟩
  | some a =>
    cases hi with
    | none =>
      refine if_e (show (if 0 ≤ a then some (ds.drop a.toNat) else none) = some es from e) fun h e => ?_
      cases e; exact ⟨_, if_pos h, da.drop _⟩
    | some b =>
      refine if_e (show (if 0 ≤ a ∧ a ≤ b ∧ b ≤ ds.length then some ((ds.drop a.toNat).take (b.toNat - a.toNat)) else none) = some es from e) fun h e => ?_
      cases e; exact ⟨_, if_pos (hl ▸ h), (da.drop _).take _⟩

noncomputable def slcD (d : Dat) (lo hi : Option Int) : Option Dat := @Dat.casesOn (fun _ => Option Dat) d none (fun _ => none) (fun _ => none) (fun x => if room x.length then some (.str (Txt.slice x lo hi)) else none) (fun _ => none)
  (fun ds => if (room ds.length && decide (ds ≠ [])) = true then (if lo = none ∧ hi = some (-1) then some (.tuple ds.dropLast) else none) else none) (fun ds => if room ds.length then (slL ds lo hi).bind fun es => some (.list es) else none)
theorem slc_l {ds es : List Dat} {lo hi : Option Int} (hr : room ds.length = true) (e : slL ds lo hi = some es) : slcD (.list ds) lo hi = some (.list es) := (if_pos hr).trans (by rw [e]; rfl)
theorem slc_t {ds : List Dat} (hr : room ds.length = true) (hn : ds ≠ []) : slcD (.tuple ds) none (some (-1)) = some (.tuple ds.dropLast) := (if_pos (Bool.and_eq_true_iff.mpr ⟨hr, decide_eq_true hn⟩)).trans (if_pos ⟨rfl, rfl⟩)
theorem slcD_e {d z : Dat} {lo hi : Option Int} {C : Dat → Prop} (e : slcD d lo hi = some z) (k1 : ∀ x, room x.length = true → some (.str (Txt.slice x lo hi)) = some z → C (.str x))
    (k2 : ∀ ds, room ds.length = true → ds ≠ [] → lo = none → hi = some (-1) → some (.tuple ds.dropLast) = some z → C (.tuple ds)) (k3 : ∀ ds es, room ds.length = true → slL ds lo hi = some es → some (.list es) = some z → C (.list ds)) : C d := by
  cases d with
  | str x => exact if_e (show (if room x.length = true then _ else none) = some z from e) (k1 x)
  | tuple ds => exact if_e (show (if (room ds.length && decide (ds ≠ [])) = true then _ else none) = some z from e) fun h e => if_e e fun h2 e => k2 ds (Bool.and_eq_true_iff.mp h).1 (of_decide_eq_true (Bool.and_eq_true_iff.mp h).2) h2.1 h2.2 e
  | list ds =>
    refine if_e (show (if room ds.length = true then _ else none) = some z from e) fun h e => ?_
    obtain ⟨es, h2, e⟩ := Option.bind_eq_some_iff.mp e
    exact k3 ds es h h2 e
  | none => cases e
  | bool => cases e
  | int => cases e
  | bytes => cases e
noncomputable def lenR (n : Nat) : Option Int := if room n then some (n : Int) else none
theorem lenR_of {n : Nat} (h : room n = true) : lenR n = some (n : Int) := if_pos h
noncomputable def lenD (d : Dat) : Option Int := @Dat.casesOn (fun _ => Option Int) d none (fun _ => none) (fun _ => none) (fun x => lenR x.length) (fun _ => none) (fun ds => lenR ds.length) (fun ds => lenR ds.length)
theorem lenD_e {d : Dat} {z : Int} {C : Dat → Prop} (e : lenD d = some z) (k1 : ∀ x : Str, lenR x.length = some z → C (.str x)) (k2 : ∀ ds : List Dat, lenR ds.length = some z → C (.tuple ds)) (k3 : ∀ ds : List Dat, lenR ds.length = some z → C (.list ds)) : C d := by
  cases d <;> first | exact k1 _ e | exact k2 _ e | exact k3 _ e | cases e
noncomputable def absD (d : Dat) : Option Dat := onInt d fun a => some (.int (if a < 0 then -a else a))
noncomputable def tupD (d : Dat) : Option Dat := onLst d fun ds => if room ds.length then some (.tuple ds) else none
noncomputable def cntD (d x : Dat) : Option Dat := onLst d fun ds => if (shpL ds && lay x) = true then some (.int (ds.countP fun y => eqD y x)) else none
noncomputable def idxOfD (d x : Dat) : Option Dat := onLst d fun ds => if (shpL ds && lay x && room ds.length) = true then (ds.findIdx? fun y => eqD y x).bind fun j => some (.int j) else none
noncomputable def strsOf : List Dat → Option (List Str)
  | [] => some []
  | d :: r => onStr d fun x => (strsOf r).bind fun xs => some (x :: xs)
noncomputable def joinD (d y : Dat) : Option Dat := onStr d fun x => onLst y fun ds => if x.length = 0 then (strsOf ds).bind fun xs => if (xs.map (·.length)).sum ≤ 1000000 then some (.str (Txt.join x xs)) else none else none

theorem idxL_of {α : Type} {ds : List α} {i : Int} {j : Nat} {d : α} (b : -1000000 ≤ i ∧ i ≤ 1000000) (hs : seqIndex? i ds.length = some j) (h : ds[j]? = some d) : idxL ds i = some d :=
  (if_pos (Bool.and_eq_true_iff.mpr ⟨decide_eq_true b.1, decide_eq_true b.2⟩)).trans (by rw [hs]; exact h)
theorem room_le {n : Nat} (h : room n = true) : n ≤ 1000000 := of_decide_eq_true h

section
variable {prog : Program} {w : World} {A : Around} {Q : Value → Shared → Prop} {E : Value → Shared → Prop} {s : Shared} {hb : Heap} {Φ : Phi} {μ : Mu} {mC : Addr}

theorem cmpD_e {op : CmpOp} {x y : Dat} {z : Bool} {C : CmpOp → Prop} (e : cmpD op x y = some z) (k1 : (if (shp x && shp y) = true then some (eqD x y) else none) = some z → C .Eq) (k2 : (if (shp x && shp y) = true then some (!eqD x y) else none) = some z → C .NotEq)
    (k3 : ∀ a b, x = .int a → y = .int b → decide (a < b) = z → C .Lt) (k4 : ∀ a b, x = .int a → y = .int b → decide (a ≤ b) = z → C .LtE) (k5 : ∀ a b, x = .int a → y = .int b → decide (b < a) = z → C .Gt) (k6 : ∀ a b, x = .int a → y = .int b → decide (b ≤ a) = z → C .GtE)
    (k7 : ∀ ds, y = .tuple ds ∨ y = .list ds → (shpL ds && lay x) = true → (ds.any fun y => eqD y x) = z → C .In) : C op := by
  have two : ∀ {f : Int → Int → Bool} {G : Prop}, (onInt x fun a => onInt y fun b => some (f a b)) = some z → (∀ a b, x = .int a → y = .int b → f a b = z → G) → G := fun {f G} e k =>
    onInt_e (C := fun d => x = d → G) e (fun a e hx => onInt_e (C := fun d => y = d → G) e (fun b e hy => k a b hx hy (Option.some.inj e)) rfl) rfl
  cases op with
  | Eq => exact k1 e
  | NotEq => exact k2 e
  | Lt => exact two e k3
  | LtE => exact two e k4
  | Gt => exact two e k5
  | GtE => exact two e k6
  | Is => cases e
  | IsNot => cases e
  | NotIn => cases e
  | In =>
    have e : inD x y = some z := e
    cases y <;> first | exact if_e e fun h e => k7 _ (.inl rfl) h (Option.some.inj e) | exact if_e e fun h e => k7 _ (.inr rfl) h (Option.some.inj e) | cases e
theorem op_cmp {op : CmpOp} {x y : Dat} {z : Bool} {v u : Value} (S : SS hb s.heap Φ μ) (hu9 : A.units ≤ 9000) (hv : Shows s.heap Φ v x) (hu : Shows s.heap Φ u y) (e : cmpD op x y = some z) (h : Q (.bool z) s) :
    wpAny (model prog w) A (compareOp op v u) Q E s := by
  have hcl : A.units + 64 < cLine := by have := cLine_is; omega
  obtain ⟨_, r1⟩ := hv.reads S
  obtain ⟨_, r2⟩ := hu.reads S
  refine cmpD_e (C := fun op => wpAny (model prog w) A (compareOp op v u) Q E s) e (fun e => if_e e fun hs e => ?_) (fun e => if_e e fun hs e => ?_) (fun a b ha hb e => ?_) (fun a b ha hb e => ?_) (fun a b ha hb e => ?_) (fun a b ha hb e => ?_) fun ds hy hs e => ?_
  · exact eq_dataH r1 r2 (Bool.and_eq_true_iff.mp hs).1 (Bool.and_eq_true_iff.mp hs).2 hcl (show Q (.bool (eqD x y)) s from Option.some.inj e ▸ h)
  · exact ne_dataH r1 r2 (Bool.and_eq_true_iff.mp hs).1 (Bool.and_eq_true_iff.mp hs).2 hcl (show Q (.bool (!eqD x y)) s from Option.some.inj e ▸ h)
  · exact (ha ▸ hv).int_e fun _ => (hb ▸ hu).int_e fun _ => lt_int (e ▸ h)
  · exact (ha ▸ hv).int_e fun _ => (hb ▸ hu).int_e fun _ => le_int (e ▸ h)
  · exact (ha ▸ hv).int_e fun _ => (hb ▸ hu).int_e fun _ => gt_int (e ▸ h)
  · exact (ha ▸ hv).int_e fun _ => (hb ▸ hu).int_e fun _ => ge_int (e ▸ h)
  · obtain ⟨h1, h2⟩ := Bool.and_eq_true_iff.mp hs
    obtain ⟨h3, h4⟩ := Bool.and_eq_true_iff.mp h1
    have hd := Nat.le_trans (Nat.min_le_left (PyData.depthAll (pyds ds)) (pyd x).depth) (of_decide_eq_true h4)
    have e2 : ((pyds ds).any fun y => y.eqv (pyd x)) = z := by rw [pyds_map, List.any_map]; exact e
    rcases hy with hy | hy
    · rw [hy] at r2; exact SeqAt.in_tuple_reads r2 r1 h3 h2 (by have := cLine_is; omega) (e2 ▸ h)
    · rw [hy] at r2; exact SeqAt.in_list_reads r2 r1 h3 h2 (by have := cLine_is; omega) (e2 ▸ h)

theorem VIn.isNone {v : Value} {V : Vl} (h : VIn mC Φ v V) : (v == Value.none) = isNone V := by
  cases V with
  | dat d => cases h <;> rfl
  | mref _ => obtain ⟨a, e, _⟩ := h; rw [e]; rfl
  | mem _ _ => obtain ⟨a, e, _⟩ := h; rw [e]; rfl
  | raw _ => rw [show v = _ from h]; rfl

theorem seqIdx_some {i : Int} {n j : Nat} (e : seqIndex? i n = some j) : j < n ∧ (if i < 0 then i + n else i) = j := by
  unfold seqIndex? at e
  generalize hk : (if i < 0 then i + (n : Int) else i) = k at e ⊢
  dsimp only at e
  by_cases h : (decide (0 ≤ k) && decide (k < (n : Int))) = true
  · rw [if_pos h] at e
    simp only [Bool.and_eq_true, decide_eq_true_eq] at h
    cases e
    exact ⟨by (first | lia | omega), by (first | lia | omega)⟩
  · rw [if_neg h] at e; cases e

theorem subs_idx {slice : Expr} {o : Value} {i : Int} {u : Tok} (hs : ∀ l u p, slice ≠ .Slice l u none p) : subscripted slice false o (.int i u) = operate [o, .int i u] (getItem o (.int i u)) := by
  cases slice <;> try rfl
  rename_i l u st p
  cases st with
  | none => exact absurd rfl (hs l u p)
  | some _ => rfl

theorem idx_bounds {i : Int} (h : (decide (-1000000 ≤ i) && decide (i ≤ 1000000)) = true) : -1000000 ≤ i ∧ i ≤ 1000000 := ⟨of_decide_eq_true (Bool.and_eq_true_iff.mp h).1, of_decide_eq_true (Bool.and_eq_true_iff.mp h).2⟩
theorem op_idx {x z : Dat} {i : Int} {u : Tok} {v : Value} {value slice : Expr} (S : SS hb s.heap Φ μ) (hs : ∀ l u p, slice ≠ .Slice l u none p) (hv : Shows s.heap Φ v x) (e : idxD x i = some z)
    (h : ∀ r s', Aft hb s s' Φ Φ μ → DIn Φ r z → Q r s') : wpAny (model prog w) A (subscriptTail value slice v (.int i u)) Q E s := by
  revert hv
  refine idxD_e (C := fun x => Shows s.heap Φ v x → wpAny (model prog w) A (subscriptTail value slice v (.int i u)) Q E s) e (fun x' e hv => ?_) (fun ds e hv => ?_) fun ds e hv => ?_
  · refine if_e e fun hb' e => ?_
    obtain ⟨h1, h2⟩ := idx_bounds hb'
    obtain ⟨c, hj, e⟩ := Option.bind_eq_some_iff.mp e
    exact hv.str_e fun t => tail_any (typeIs_str s x' t) slot_str_getitem.lookup (PyProof.Rows.getItem_str (by rw [Bool.or_eq_false_iff]; exact ⟨decide_eq_false (by omega), decide_eq_false (by omega)⟩) hj (h _ _ (Aft.tok S _) (Option.some.inj e ▸ .str _ _))) (subs_idx hs)
  · refine if_e e fun hb' e => ?_
    obtain ⟨h1, h2⟩ := idx_bounds hb'
    obtain ⟨j, hj, e⟩ := Option.bind_eq_some_iff.mp e
    refine hv.tup_e fun a vs n hl da => ?_
    obtain ⟨y, hy, dy⟩ := da.get e
    have ht : IsTup s.heap a vs.toArray := ⟨_, (S.tag _ _ hl).2, rfl, _, rfl⟩
    exact tail_any ht.typeIs slot_tuple_getitem.lookup (getItem_tuple (x := y) ht (by omega) (by omega) (j := j) (by rw [List.size_toArray, da.length]; exact hj) (by simpa using hy) (h _ _ (Aft.refl S) dy)) (subs_idx hs)
  · refine if_e e fun hb' e => ?_
    obtain ⟨h1, h2⟩ := idx_bounds hb'
    obtain ⟨j, hj, e⟩ := Option.bind_eq_some_iff.mp e
    refine hv.lst_e fun a vs hl da => ?_
    obtain ⟨y, hy, dy⟩ := da.get e
    obtain ⟨j1, j2⟩ := seqIdx_some hj
    refine tail_any hl.typeIs slot_list_getitem.lookup ?_ (subs_idx hs)
    by_cases h0 : i < 0
    · rw [if_pos h0] at j2
      exact wpAny_getItem_list_neg hl h0 (by rw [List.size_toArray, da.length]; omega) (by omega) (x := y) (by rw [List.size_toArray, da.length, j2]; simpa using hy) (h _ _ (Aft.refl S) dy)
    · rw [if_neg h0] at j2
      exact wpAny_getItem_list hl (by omega) (by omega) (x := y) (by rw [j2]; simpa using hy) (h _ _ (Aft.refl S) dy)

theorem lenR_at {n : Nat} {z : Int} (e : lenR n = some z) : n ≤ 1000000 ∧ (n : Int) = z := if_e e fun h e => ⟨room_le h, Option.some.inj e⟩
theorem size_fit {n : Nat} (h : n ≤ 1000000) : n ≤ sizeLine := Nat.le_trans h (by decide)
theorem op_len {x : Dat} {z : Int} {v : Value} (S : SS hb s.heap Φ μ) (hv : Shows s.heap Φ v x) (e : lenD x = some z) (h : ∀ t tk, Q (.int z t) { s with toks := tk }) : wpAny (model prog w) A (call (.builtin "len") [v]) Q E s := by
  revert hv
  refine lenD_e (C := fun x => Shows s.heap Φ v x → wpAny (model prog w) A (call (.builtin "len") [v]) Q E s) e (fun x e hv => ?_) (fun ds e hv => ?_) fun ds e hv => ?_
  · exact hv.str_e fun t => len_str (by have := (lenR_at e).1; omega) ((lenR_at e).2 ▸ h _ _)
  · exact hv.tup_e fun a vs n hl da => len_tuple (items := vs.toArray) ⟨_, (S.tag _ _ hl).2, rfl, _, rfl⟩ (by rw [List.size_toArray, da.length]; have := (lenR_at e).1; omega) (by rw [List.size_toArray, da.length]; exact (lenR_at e).2 ▸ h _ _)
  · exact hv.lst_e fun a vs hl da => Calls.call_len_list hl (by rw [List.size_toArray, da.length]; have := (lenR_at e).1; omega) (by rw [List.size_toArray, da.length]; exact (lenR_at e).2 ▸ h _ _)
theorem op_abs {x z : Dat} {v : Value} (S : SS hb s.heap Φ μ) (hv : Shows s.heap Φ v x) (e : absD x = some z) (h : ∀ r s', Aft hb s s' Φ Φ μ → DIn Φ r z → Q r s') : wpAny (model prog w) A (call (.builtin "abs") [v]) Q E s := by
  revert hv
  exact onInt_e (C := fun x => Shows s.heap Φ v x → _) e fun a e hv => hv.int_e fun _ => call_abs_int fun u tk => h _ _ (Aft.tok S tk) (Option.some.inj e ▸ .int _ _)
theorem op_tuple {x z : Dat} {v : Value} {L : Addr} {m : Str → Option Value} (S : SS hb s.heap Φ μ) (hL : Φ L = some (.fm m)) (hv : Shows s.heap Φ v x) (e : tupD x = some z)
    (h : ∀ r s' Φ', Aft hb s s' Φ Φ' μ → DIn Φ' r z → Q r s') : wpAny (model prog w) A (call (.type "tuple") [v]) Q E s := by
  revert hv
  refine onLst_e (C := fun x => Shows s.heap Φ v x → _) e fun ds e hv => if_e e fun hr e => hv.lst_e fun a vs hl da => call_tuple_list hl (fun h' hk => ?_) (by rw [List.size_toArray, da.length]; exact size_fit (room_le hr))
  have q := Aft.push (s := { s with heap := h' }) (S.grow hk) hL { cls := .type "tuple", data := .seq vs.toArray } s.toks
  exact h _ _ _ (let ⟨hh, tk, e1, S', l'⟩ := q; ⟨hh, tk, e1, S', l'⟩) (Option.some.inj e ▸ .tuple (n := 0) (ins_self _ _ _) (da.mono q.le))

theorem eqAt_items {ds : List Dat} {vs : List Value} {x : Dat} {u : Value} (S : SS hb s.heap Φ μ) (hu9 : A.units ≤ 9000) (da : DAll Φ vs ds) (hu : Shows s.heap Φ u x) (h1 : shpL ds = true) (h2 : lay x = true) :
    (∀ y, y ∈ vs.toArray → SeqAt.EqAt A.in1 s y u (PyData.eqv (SeqAt.readOf s.heap y) (pyd x))) ∧ vs.map (SeqAt.readOf s.heap) = ds.map pyd := by
  have hcl := cLine_is
  obtain ⟨h3, h4⟩ := Bool.and_eq_true_iff.mp h1
  have h4 := of_decide_eq_true h4
  obtain ⟨_, r1⟩ := da.reads S
  obtain ⟨_, r2⟩ := hu.reads S
  refine ⟨SeqAt.items_eqAt (by simpa using r1) r2 h3 h2 (by have := Nat.min_le_left (PyData.depthAll (pyds ds)) (pyd x).depth; (first | lia | omega)), ?_⟩
  rw [← pyds_map]
  exact SeqAt.readsAll_map _ _ _ h3 r1

theorem op_count {x y z : Dat} {v u : Value} (S : SS hb s.heap Φ μ) (hu9 : A.units ≤ 9000) (hv : Shows s.heap Φ v x) (hu : Shows s.heap Φ u y) (e : cntD x y = some z)
    (h : ∀ r s', Aft hb s s' Φ Φ μ → DIn Φ r z → Q r s') : wpAny (model prog w) A (call (.builtin "list.count") [v, u]) Q E s := by
  revert hv
  refine onLst_e (C := fun x => Shows s.heap Φ v x → _) e fun ds e hv => if_e e fun hs e => hv.lst_e fun a vs hl da => ?_
  refine byG fun G hG => ?_
  obtain ⟨h1, h2⟩ := Bool.and_eq_true_iff.mp hs
  obtain ⟨e1, e2⟩ := eqAt_items S hu9 da hu h1 h2
  obtain ⟨⟨cls, dd, data, sl⟩, ho, hc, n, hd⟩ := id hl
  simp only at hc hd
  rw [hc, hd] at ho
  refine hG (call_meets PySem.F.slot_list_count ⟨_, ho, rfl⟩ PySem.F.entry_list_count (PySem.F.args_list_count_2 _ _) (SeqAt.list_countAt a vs.toArray n dd sl u _) ⟨ho, e1, ?_⟩)
  have e3 : vs.countP (fun y' => PyData.eqv (SeqAt.readOf s.heap y') (pyd y)) = (vs.map (SeqAt.readOf s.heap)).countP fun d => PyData.eqv d (pyd y) := by rw [List.countP_map]; rfl
  have e4 : (List.map pyd ds).countP (fun d => PyData.eqv d (pyd y)) = List.countP (fun y' => eqD y' y) ds := by rw [List.countP_map]; rfl
  refine h _ _ (Aft.tok S _) ?_
  rw [show vs.toArray.toList = vs from rfl, e3, e2, e4]
  exact Option.some.inj e ▸ .int _ _

theorem op_index {x y z : Dat} {v u : Value} (S : SS hb s.heap Φ μ) (hu9 : A.units ≤ 9000) (hv : Shows s.heap Φ v x) (hu : Shows s.heap Φ u y) (e : idxOfD x y = some z)
    (h : ∀ r s', Aft hb s s' Φ Φ μ → DIn Φ r z → Q r s') : wpAny (model prog w) A (call (.builtin "list.index") [v, u]) Q E s := by
  revert hv
  refine onLst_e (C := fun x => Shows s.heap Φ v x → _) e fun ds e hv => if_e e fun hs e => hv.lst_e fun a vs hl da => ?_
  refine byG fun G hG => ?_
  obtain ⟨h12, h6⟩ := Bool.and_eq_true_iff.mp hs
  obtain ⟨h1, h2⟩ := Bool.and_eq_true_iff.mp h12
  obtain ⟨j, hj, e⟩ := Option.bind_eq_some_iff.mp e
  obtain ⟨hj1, hj2, hj3⟩ := List.findIdx?_eq_some_iff_getElem.mp hj
  obtain ⟨e1, e2⟩ := eqAt_items S hu9 da hu h1 h2
  obtain ⟨⟨cls, dd, data, sl⟩, ho, hc, n, hd⟩ := id hl
  simp only at hc hd
  rw [hc, hd] at ho
  have hlen := da.length
  have at_ : ∀ k (hk : k < vs.length) (hk2 : k < ds.length), PyData.eqv (SeqAt.readOf s.heap vs[k]) (pyd y) = eqD ds[k] y := fun k hk hk2 => by
    have q := congrArg (fun l => l[k]?) e2
    rw [show (vs.map (SeqAt.readOf s.heap))[k]? = _ from List.getElem?_map, show (ds.map pyd)[k]? = _ from List.getElem?_map, List.getElem?_eq_getElem hk, List.getElem?_eq_getElem hk2] at q
    rw [Option.some.inj q]; rfl
  have hjv : j < vs.toArray.size := by rw [List.size_toArray, hlen]; exact hj1
  exact hG (call_meets PySem.F.slot_list_index ⟨_, ho, rfl⟩ PySem.F.entry_list_index (PySem.F.args_list_index_2 _ _) (SeqAt.list_indexAt a vs.toArray n dd sl u _ j hjv (by have := room_le h6; omega) ((at_ j (hlen ▸ hj1) hj1).trans hj2)
    (fun k hk hkj => (at_ k (by rw [List.size_toArray] at hk; exact hk) (by omega)).trans (by simpa using hj3 k hkj))) ⟨ho, e1, h _ _ (Aft.tok S _) (Option.some.inj e ▸ .int _ _)⟩)

theorem strsAre_of {Φ : Phi} {ds : List Dat} : ∀ {vs : List Value} {xs : List Str}, DAll Φ vs ds → strsOf ds = some xs → StrsAre vs xs := by
  induction ds with
  | nil => intro vs xs d e; cases d; cases e; exact .nil
  | cons d0 ds ih =>
    intro vs xs d e
    cases d with
    | cons h r =>
      revert h
      refine onStr_e (C := fun d0 => DIn Φ _ d0 → _) e fun x e h => ?_
      obtain ⟨ys, e1, e⟩ := Option.bind_eq_some_iff.mp e
      cases e
      cases h
      exact .cons _ _ (ih r e1)
theorem op_join {x y z : Dat} {v u : Value} (S : SS hb s.heap Φ μ) (hv : Shows s.heap Φ v x) (hu : Shows s.heap Φ u y) (e : joinD x y = some z)
    (h : ∀ r s', Aft hb s s' Φ Φ μ → DIn Φ r z → Q r s') : wpAny (model prog w) A (call (.builtin "str.join") [v, u]) Q E s := by
  revert hv hu
  refine onStr_e (C := fun x => Shows s.heap Φ v x → _) e fun x e hv => onLst_e (C := fun y => Shows s.heap Φ u y → _) e fun ds e hu => if_e e fun hx e => ?_
  obtain ⟨xs, hs, e⟩ := Option.bind_eq_some_iff.mp e
  refine if_e e fun hz e => hv.str_e fun t => hu.lst_e fun a vs hl da => join_list hl (strsAre_of da hs) ?_ fun t' k => h _ _ (Aft.tok S k) (Option.some.inj e ▸ .str _ _)
  rw [hx]
  omega
end
end Mine
end
section
open PySem PySem.W PyProof.Rows PySem.Calls
set_option Elab.async false
set_option maxRecDepth 100000
namespace Mine

section
variable {prog : Program} {w : World} {A : Around} {Q : Value → Shared → Prop} {E : Value → Shared → Prop} {s : Shared} {hb : Heap} {Φ : Phi} {μ : Mu} {mC : Addr}

theorem part_value {v : Value} {lo : Option Int} (p : IsPart v lo) : ∃ l : Option (Int × Tok), v = partValue l ∧ l.map (·.1) = lo := by
  cases p with
  | none => exact ⟨none, rfl, rfl⟩
  | int i t => exact ⟨some (i, t), rfl, rfl⟩

theorem adjust_but (n : Nat) (hn : 1 ≤ n) : Builtin.Slice.sliceAdjust none (some (-1)) 1 (n : Int) = (0, ((n - 1 : Nat) : Int)) := by
  unfold Builtin.Slice.sliceAdjust
  have h1 : ¬ ((1 : Int) < 0) := by (first | lia | omega)
  have h2 : ((-1 : Int) < 0) := by (first | lia | omega)
  simp only [h1, h2, if_false, if_true]
  congr 1
  (first | lia | omega)
theorem places_but (n : Nat) : Builtin.Slice.slicePlaces 0 (n : Int) 1 = n := by
  unfold Builtin.Slice.slicePlaces
  have h1 : (1 : Int) > 0 := by (first | lia | omega)
  simp only [h1, if_true, Int.ediv_one]
  split <;> (first | lia | omega)
theorem sliceApplied_but {sl : Addr} {n : Nat} {u : Tok} {Q : Int × Int × Nat → Shared → Prop} (hs : s.heap.IsSliceOf sl .none (.int (-1) u) .none) (hn : 1 ≤ n) (h : Q (0, 1, n - 1) s) :
    wpAny (model prog w) A (Builtin.Slice.sliceApplied (.ref sl) (pure (n : Int))) Q E s := by
  obtain ⟨os, hos, hcs, hds⟩ := id hs
  unfold Builtin.Slice.sliceApplied Builtin.Slice.sliceFields
  refine wpAny_bind (wpAny_bind (wpAny_field hos hds (x := .none) rfl (wpAny_bind (wpAny_field hos hds (x := .int (-1) u) rfl (wpAny_bind (wpAny_field hos hds (x := .none) rfl (wpAny_pure ?_)))))))
  refine wpAny_bind (slicePart_none ?_)
  show wpAny _ _ (if ((1 : Int) == 0) = true then _ else _) _ _ s
  rw [if_neg (by decide)]
  refine wpAny_bind (slicePart_none (wpAny_bind (slicePart_int (wpAny_bind (wpAny_pure ?_)))))
  show wpAny _ _ (match Builtin.Slice.sliceAdjust none (some (-1)) 1 (n : Int) with | (lo, hi) => pure (lo, (1 : Int), Builtin.Slice.slicePlaces lo hi 1)) _ _ s
  rw [adjust_but n hn]
  show wpAny _ _ (pure ((0 : Int), (1 : Int), Builtin.Slice.slicePlaces 0 ((n - 1 : Nat) : Int) 1)) _ _ s
  rw [places_but]
  exact wpAny_pure h
theorem pick_but (xs : Array Value) (n : Nat) : ((List.range n).filterMap fun (k : Nat) => xs[((0 : Int) + (k : Int) * 1).toNat]?).toArray = (xs.toList.take n).toArray := by
  have e : (fun (k : Nat) => xs[((0 : Int) + (k : Int) * 1).toNat]?) = fun k => xs[0 + k]? := by
    funext k
    have : ((0 : Int) + (k : Int) * 1).toNat = 0 + k := by (first | lia | omega)
    rw [this]
  rw [e]
  have := pick_run xs 0 n
  rw [List.filterMap_map] at this
  have e2 : ((fun x => xs[x]?) ∘ fun x => 0 + x) = fun k => xs[0 + k]? := rfl
  rw [e2] at this
  rw [this, List.drop_zero]
theorem getItem_tuple_but {t sl : Addr} {items : Array Value} {u : Tok} (ht : IsTup s.heap t items) (hs : s.heap.IsSliceOf sl .none (.int (-1) u) .none) (h1 : 1 ≤ items.size)
    (h : Q (.ref s.heap.objs.size) { s with heap := s.heap.push { cls := .type "tuple", data := .seq (items.toList.take (items.size - 1)).toArray } })
    (hsz : items.size ≤ sizeLine) : wpAny (model prog w) A (getItem (.ref t) (.ref sl)) Q E s := by
  have hdrop : sizeOk (.seq (items.toList.take (items.size - 1)).toArray) := by
    show (items.toList.take (items.size - 1)).toArray.size ≤ sizeLine
    rw [List.size_toArray, List.length_take, Array.length_toList]
    (first | lia | omega)
  obtain ⟨os, hos, hcs, hds⟩ := id hs
  have hTs : s.TypeIs (.ref sl) "slice" := ⟨os, hos, hcs⟩
  unfold getItem
  try with_reducible refine wpAny_holding ?_
  first | refine wpAny_bind (wpAny_pure ?_) | skip
  refine wpAny_bind (wpAny_sequenceKey ht.typeIs (by decide) ?_)
  refine wpAny_bind (wpAny_callSpecial?_slot (name := Str.ofString "__getitem__") ht.typeIs slot_tuple_getitem
    (wpAny_call_entry slot_tuple_getitem ht.typeIs entry_tuple_getitem ?_ (args_tuple_getitem _ _)))
  show wpAny _ _ (Builtin.Tuple.tupleItemsOf (.ref t) >>= _) _ _ s
  refine wpAny_bind (tupleItemsOf_ ht ?_)
  refine wpAny_bind (wpAny_typeOf hTs ?_)
  rw [if_pos (by decide)]
  refine wpAny_bind (sliceApplied_but hs h1 ?_)
  have hno : ¬ (((0 : Int) == 0 && (1 : Int) == 1 && (items.size - 1) == items.size) = true) := by
    have : (items.size - 1 == items.size) = false := by rw [beq_eq_false_iff_ne]; (first | lia | omega)
    rw [this]; simp
  show wpAny _ _ (if ((0 : Int) == 0 && (1 : Int) == 1 && (items.size - 1) == items.size) = true then _ else _) _ _ s
  rw [if_neg hno, pick_but items]
  first
    | exact wpAny_bind (m := Builtin.Tuple.tupleExact _) (wpAny_newObj_type (wpAny_pure ⟨_, rfl, wpAny_pure h⟩) hdrop)
    | exact wpAny_bind (m := Builtin.Tuple.tupleExact _) (wpAny_newObj_type (wpAny_bind (wpAny_pure (wpAny_pure ⟨_, rfl, wpAny_pure h⟩))) hdrop)
    | exact wpAny_bind (wpAny_bind (m := Builtin.Tuple.tupleExact _) (wpAny_newObj_type (wpAny_pure (wpAny_pure ⟨_, rfl, wpAny_pure h⟩)) hdrop))
    | exact wpAny_bind (wpAny_bind (m := Builtin.Tuple.tupleExact _) (wpAny_newObj_type (wpAny_pure ⟨_, rfl, wpAny_pure h⟩) hdrop))

theorem op_slc {value : Expr} {lower upper : Option Expr} {p : Pos} {x z : Dat} {v vl vu : Value} {lo hi : Option Int} {L : Addr} {t : Tag} (S : SS hb s.heap Φ μ) (hL : Φ L = some t) (hv : Shows s.heap Φ v x)
    (pl : IsPart vl lo) (pu : IsPart vu hi) (e : slcD x lo hi = some z) (h : ∀ r s' Φ', Aft hb s s' Φ Φ' μ → DIn Φ' r z → Q r s') :
    wpAny (model prog w) A (subscriptTail value (.Slice lower upper none p) v (.ref s.heap.objs.size)) Q E { s with heap := s.heap.push { cls := .type "slice", data := .fields #[vl, vu, .none] } } := by
  have S1 : SS hb (s.heap.push { cls := .type "slice", data := .fields #[vl, vu, .none] }) Φ μ := S.grow (keeps_push _)
  have hsl := Heap.IsSliceOf.new s.heap vl vu .none
  revert hv
  refine slcD_e (C := fun x => Shows s.heap Φ v x → _) e (fun x' hr e hv => ?_) (fun ds hr hne hlo hhi e2 hv => ?_) fun ds es hr hz e hv => ?_
  · have hr := room_le hr
    refine hv.str_e fun t => ?_
    refine byG fun G hG => ?_
    obtain ⟨l, hvl, el⟩ := part_value pl
    obtain ⟨u, hvu, eu⟩ := part_value pu
    have h : ∀ r s' Φ', Aft hb s s' Φ Φ' μ → DIn Φ' r (.str (Txt.slice x' lo hi)) → Q r s' := fun r s' Φ' a d => h r s' Φ' a (Option.some.inj e ▸ d)
    refine hG ?_
    rw [hvl, hvu] at S1 hsl ⊢
    refine tail_any (T := "str") (typeIs_str _ x' t) slot_str_getitem.lookup (wpAny_getItem_str_slice (l := l) (u := u) (st := none) ⟨_, Heap.get?_push_size _ rfl, rfl, rfl⟩ rfl ?_) rfl
    have hle := Txt.slice_le x' lo hi
    unfold sliceMade slicePicked
    unfold Txt.slice at h hle
    rw [el, eu]
    dsimp only [Option.map, Option.getD]
    split
    · rename_i hc
      simp only [hc, if_true] at h
      exact h _ _ Φ ⟨_, s.toks, rfl, S1, .refl _⟩ (.str _ _)
    · rename_i hc
      rw [if_neg hc] at h hle
      simp only [Made.post]
      exact ⟨Nat.le_trans hle (size_fit hr), h _ _ Φ ⟨_, s.toks + 1, rfl, S1, .refl _⟩ (.str _ _)⟩
  · have hr := room_le hr
    refine hv.tup_e fun a vs n hl da => ?_
    subst hlo hhi
    cases pl
    cases pu with
    | int _ u =>
      have ht : IsTup (s.heap.push { cls := .type "slice", data := .fields #[.none, .int (-1) u, .none] }) a vs.toArray := ⟨_, (S1.tag _ _ hl).2, rfl, _, rfl⟩
      have hlen := da.length
      have hpos : 1 ≤ vs.length := by
        rw [hlen]
        exact List.length_pos_iff.mpr hne
      refine tail_any (IsTup.typeIs (s := { s with heap := s.heap.push { cls := .type "slice", data := .fields #[.none, .int (-1) u, .none] } }) ht) slot_tuple_getitem.lookup
        (getItem_tuple_but ht hsl (by simpa using hpos) ?_ (by rw [List.size_toArray, hlen]; exact size_fit hr)) rfl
      have q := Aft.push (s := { s with heap := s.heap.push { cls := .type "slice", data := .fields #[.none, .int (-1) u, .none] } }) S1 hL { cls := .type "tuple", data := .seq (vs.toArray.toList.take (vs.toArray.size - 1)).toArray } s.toks
      refine h _ _ _ (let ⟨hh, tk, e1, S', l'⟩ := q; ⟨hh, tk, e1, S', l'⟩) (Option.some.inj e2 ▸ .tuple (vs := vs.take (vs.length - 1)) (n := 0) (ins_self _ _ _) (DAll.mono q.le ?_))
      rw [List.dropLast_eq_take, ← hlen]
      exact da.take _
  · have hr := room_le hr
    refine hv.lst_e fun a vs hl da => ?_
    refine byG fun G hG => ?_
    obtain ⟨ws, hw, dw⟩ := slL_all da hz
    have hl1 := hl.push { cls := .type "slice", data := .fields #[vl, vu, .none] }
    refine hG (tail_any (Heap.IsList.typeIs (s := { s with heap := s.heap.push { cls := .type "slice", data := .fields #[vl, vu, .none] } }) hl1) slot_list_getitem.lookup
      (wpAny_getItem_list_slice hl1 hsl pl pu .none (by simp) ?_ (by rw [List.size_toArray, da.length]; exact size_fit hr)) rfl)
    rw [slL_pick hw]
    have q := Aft.push (s := { s with heap := s.heap.push { cls := .type "slice", data := .fields #[vl, vu, .none] } }) S1 hL { cls := .type "list", data := .seq ws.toArray } s.toks
    exact h _ _ _ (let ⟨hh, tk, e1, S', l'⟩ := q; ⟨hh, tk, e1, S', l'⟩) (Option.some.inj e ▸ .list (n := 0) (ins_self _ _ _) (dw.mono q.le))
end
end Mine
end
section
open PySem PySem.W PyProof.Rows PySem.Calls
set_option Elab.async false
set_option maxRecDepth 100000
namespace Mine

structure Cx where
  prog : Program
  w : World
  hb : Heap
  K : Frag
  mC : Addr
  rC : Addr
  mg : Str → Option Value
  mb : Str → Option Value
structure CxOk (c : Cx) : Prop where
  g : c.hb.Ns mainGlobals c.mg
  b : c.hb.Ns builtinsNs c.mb
  nolimit : c.hb.NoLimit
  kin : c.K.In c.hb
noncomputable def GN (c : Cx) (x : Str) (v : Value) : Prop := c.mg x = some v ∨ (c.mg x = none ∧ c.mb x = some v)

noncomputable abbrev Slots := List (Option Vl)
noncomputable abbrev RR (α : Type) := Option (Except Unit α × Mu)
noncomputable abbrev Tbl := List (Nat × Str)
noncomputable abbrev Gs := List (Str × NameKind)
noncomputable def GI (gs : Gs) (x : Str) : Prop := (x, NameKind.globalImplicit) ∈ gs

noncomputable def FrameOk (Φ : Phi) (e : Env) : Prop := e.scope.kind ≠ .module ∧ ∃ L m, e.frame = some L ∧ Φ L = some (.fm m)
noncomputable def NmAt (Φ : Phi) (env : Env) (x : Str) (v : Value) : Prop :=
  (env.kindOf x = some .local ∧ ∃ m, Φ env.locals = some (.fm m) ∧ m x = some v) ∨
  (∃ c, (env.kindOf x = some .cell ∨ env.kindOf x = some .free) ∧ env.cells.lookup x = some c ∧ Φ c = some (.cl (some v)))

structure CV (Φ : Phi) (A : Around) (k : Nat) : Prop where
  hh : A.handled = none
  dep : A.depth + k ≤ 900
  uni : A.units + 20 * k ≤ 5000
  frs : ∃ fenv l, A.frames = some (fenv :: l) ∧ (∀ e ∈ fenv :: l, FrameOk Φ e) ∧ fenv.scope.kind = .function
structure EV (c : Cx) (Φ : Phi) (A : Around) (env : Env) (k : Nat) (tbl : Tbl) (gs : Gs) (σ : Slots) : Prop extends CV Φ A k where
  kind : env.scope.kind = .function
  gl : env.globals = mainGlobals
  bi : env.builtins = builtinsNs
  names : ∀ i x V, (i, x) ∈ tbl → σ[i]? = some (some V) → ∃ v, NmAt Φ env x v ∧ VIn c.mC Φ v V
  glob : ∀ x kd, (x, kd) ∈ gs → env.kindOf x = some kd
theorem NmAt.mono {Φ Φ' : Phi} (hs : Le Φ Φ') {env : Env} {x : Str} {v : Value} (h : NmAt Φ env x v) : NmAt Φ' env x v := by
  rcases h with ⟨h1, m, h2, h3⟩ | ⟨c, h1, h2, h3⟩
  · exact .inl ⟨h1, m, hs _ _ h2, h3⟩
  · exact .inr ⟨c, h1, h2, hs _ _ h3⟩
theorem FrameOk.mono {Φ Φ' : Phi} (hs : Le Φ Φ') {e : Env} (h : FrameOk Φ e) : FrameOk Φ' e :=
  ⟨h.1, let ⟨L, m, a, b⟩ := h.2; ⟨L, m, a, hs _ _ b⟩⟩
theorem CV.mono {Φ Φ' : Phi} (hs : Le Φ Φ') {A : Around} {k : Nat} (h : CV Φ A k) : CV Φ' A k :=
  ⟨h.hh, h.dep, h.uni, let ⟨f, l, a, b, d⟩ := h.frs; ⟨f, l, a, fun e he => (b e he).mono hs, d⟩⟩
theorem EV.mono {c : Cx} {Φ Φ' : Phi} (hs : Le Φ Φ') {A : Around} {env : Env} {k : Nat} {tbl : Tbl} {gs : Gs} {σ : Slots} (h : EV c Φ A env k tbl gs σ) : EV c Φ' A env k tbl gs σ :=
  { h.toCV.mono hs with kind := h.kind, gl := h.gl, bi := h.bi, glob := h.glob, names := fun i x V a b => let ⟨v, p, q⟩ := h.names i x V a b; ⟨v, p.mono hs, q.mono hs⟩ }
theorem CV.tag {Φ : Phi} {A : Around} {k : Nat} (h : CV Φ A k) : ∃ L m, Φ L = some (.fm m) := by
  obtain ⟨f, l, _, b, _⟩ := h.frs
  obtain ⟨_, L, m, _, q⟩ := b f (.head _)
  exact ⟨L, m, q⟩

structure Hid (c : Cx) (B : Heap) (Φ : Phi) (μ : Mu) : Prop where
  keep : ∀ b o, c.hb.get? b = some o → B.get? b = some o
  tag : ∀ a t, Φ a = some t → (∀ m, t ≠ .fm m) → TagOk B Φ μ a t
noncomputable def ExcSt (c : Cx) (A : Around) (Φ : Phi) (μ : Mu) (e : Value) (s : Shared) : Prop :=
  ∃ fenv l B ea a0, A.frames = some (fenv :: l) ∧ e = .ref ea ∧ Heap.FlyingW B (fenv :: l) ea (.ref c.rC) a0 s.heap ∧ Hid c B Φ μ

noncomputable def HE (c : Cx) (k : Nat) (tbl : Tbl) (gs : Gs) (e : Expr) (σ : Slots) (μ : Mu) (r : Except Unit Vl) (μ' : Mu) : Prop :=
  ∀ (A : Around) (env : Env) (Φ : Phi) (s : Shared) (Q : Value → Shared → Prop) (E : Value → Shared → Prop),
    EV c Φ A env k tbl gs σ → SS c.hb s.heap Φ μ →
    (∀ V v s' Φ', r = .ok V → Aft c.hb s s' Φ Φ' μ' → VIn c.mC Φ' v V → Q v s') →
    (∀ e s' Φ', r = .error () → Aft c.hb s s' Φ Φ' μ' → ExcSt c A Φ' μ' e s' → E e s') →
    wpAny (model c.prog c.w) A (eval e env) Q E s
noncomputable def HT (c : Cx) (k : Nat) (tbl : Tbl) (gs : Gs) (e : Expr) (σ : Slots) (μ : Mu) (r : Except Unit Bool) (μ' : Mu) : Prop :=
  ∀ (A : Around) (env : Env) (Φ : Phi) (s : Shared) (Q : Bool → Shared → Prop) (E : Value → Shared → Prop),
    EV c Φ A env k tbl gs σ → SS c.hb s.heap Φ μ →
    (∀ b s' Φ', r = .ok b → Aft c.hb s s' Φ Φ' μ' → Q b s') →
    (∀ e s' Φ', r = .error () → Aft c.hb s s' Φ Φ' μ' → ExcSt c A Φ' μ' e s' → E e s') →
    wpAny (model c.prog c.w) A (isTrue e env (eval e env)) Q E s
inductive VAll (mC : Addr) (Φ : Phi) : List Value → List Vl → Prop
  | nil : VAll mC Φ [] []
  | cons {v V vs Vs} : VIn mC Φ v V → VAll mC Φ vs Vs → VAll mC Φ (v :: vs) (V :: Vs)
theorem VAll.mono {mC : Addr} {Φ Φ' : Phi} (hs : Le Φ Φ') {vs : List Value} {Vs : List Vl} (h : VAll mC Φ vs Vs) : VAll mC Φ' vs Vs := by
  induction h with
  | nil => exact .nil
  | cons a _ ih => exact .cons (a.mono hs) ih
noncomputable def HL (c : Cx) (k : Nat) (tbl : Tbl) (gs : Gs) (es : List Expr) (σ : Slots) (μ : Mu) (r : Except Unit (List Vl)) (μ' : Mu) : Prop :=
  ∀ (A : Around) (env : Env) (Φ : Phi) (s : Shared) (pos : Pos) (Q : List Value → Shared → Prop) (E : Value → Shared → Prop),
    EV c Φ A env k tbl gs σ → SS c.hb s.heap Φ μ →
    (∀ Vs vs s' Φ', r = .ok Vs → Aft c.hb s s' Φ Φ' μ' → VAll c.mC Φ' vs Vs → Q vs s') →
    (∀ e s' Φ', r = .error () → Aft c.hb s s' Φ Φ' μ' → ExcSt c A Φ' μ' e s' → E e s') →
    wpAny (model c.prog c.w) A (spliced (backTo pos (starEach es env))) Q E s

section
variable {c : Cx} {k : Nat} {tbl : Tbl} {gs : Gs} {σ : Slots} {μ μ' μ'' : Mu} {r : Except Unit Vl}

noncomputable def toC : Dat → Option Const
  | .none => some .none
  | .bool b => some (.bool b)
  | .int i => some (.int i)
  | .str x => some (.str x)
  | .bytes _ => none
  | .tuple _ => none
  | .list _ => none
theorem he_const {cst : Const} {d : Dat} {n : Nat} {pos : Pos} (h : toC d = some cst) : HE c k tbl gs (.Constant cst n pos) σ μ (.ok (.dat d)) μ := by
  intro A env Φ s Q E V S hq _
  cases d with
  | none => cases h; exact wpAny_pure (hq _ _ _ Φ rfl (Aft.refl S) DIn.none)
  | bool b => cases h; exact wpAny_pure (hq _ _ _ Φ rfl (Aft.refl S) (DIn.bool _))
  | int i => cases h; exact wpAny_Constant_int (hq _ _ _ Φ rfl (Aft.tok S _) (DIn.int _ _))
  | str x => cases h; exact Calls.Constant_str (hq _ _ _ Φ rfl (Aft.tok S _) (DIn.str _ _))
  | bytes _ => cases h
  | tuple _ => cases h
  | list _ => cases h

theorem he_loc {x : Str} {i : Nat} {V : Vl} {pos : Pos} (hm : (i, x) ∈ tbl) (hv : σ[i]? = some (some V)) (hd : (x == ("__debug__" : Str)) = false) (hcd : (x == ("__classdict__" : Str)) = false) :
    HE c k tbl gs (.Name x pos) σ μ (.ok V) μ := by
  intro A env Φ s Q E ev S hq _
  obtain ⟨v, nm, vi⟩ := ev.names i x V hm hv
  rcases nm with ⟨h1, m, h2, h3⟩ | ⟨cc, h1, h2, h3⟩
  · exact wpAny_Name (wpAny_loadName_local ev.kind h1 (S.tag _ _ h2).2 h3 (hq _ _ _ Φ rfl (Aft.refl S) vi)) hd
  · rcases h1 with h1 | h1
    · exact wpAny_Name (wpAny_loadName_cell ev.kind h1 h2 (S.tag _ _ h3).2 (hq _ _ _ Φ rfl (Aft.refl S) vi)) hd
    · exact wpAny_Name (wpAny_loadName_free ev.kind h1 h2 (S.tag _ _ h3).2 (hq _ _ _ Φ rfl (Aft.refl S) vi) hcd) hd

theorem ns_keeps {h h' : Heap} {a : Addr} {m : Str → Option Value} (x : h.Ns a m) (k : ∀ b o, h.get? b = some o → h'.get? b = some o) : h'.Ns a m := ns_at x (k a)

theorem global_name {A : Around} {env : Env} {Φ : Phi} {s : Shared} {Q : Value → Shared → Prop} {E : Value → Shared → Prop} (ok : CxOk c) (ev : EV c Φ A env k tbl gs σ) (S : SS c.hb s.heap Φ μ) {x : Str} {v : Value} {pos : Pos}
    (hg : GI gs x) (hn : GN c x v) (hd : (x == ("__debug__" : Str)) = false) (h : Q v s) : wpAny (model c.prog c.w) A (eval (.Name x pos) env) Q E s := by
  refine Name_function_global ev.kind (ev.glob x _ hg) ?_ hd
  rcases hn with hn | ⟨h1, h2⟩
  · exact loadGlobal_global (by rw [ev.gl]; exact ns_keeps ok.g S.keep) hn h
  · exact loadGlobal_builtin (by rw [ev.gl]; exact ns_keeps ok.g S.keep) h1 (by rw [ev.bi]; exact ns_keeps ok.b S.keep) h2 h
theorem he_glc (ok : CxOk c) {x : Str} {i : Int} {pos : Pos} (hg : GI gs x) (hn : ∃ t, GN c x (.int i t)) (hd : (x == ("__debug__" : Str)) = false) : HE c k tbl gs (.Name x pos) σ μ (.ok (.dat (.int i))) μ := by
  intro A env Φ s Q E ev S hq _
  obtain ⟨t, hn⟩ := hn
  exact global_name ok ev S hg hn hd (hq _ _ _ Φ rfl (Aft.refl S) (DIn.int _ _))

theorem ok_inj {α : Type} {a b : α} (h : (Except.ok a : Except Unit α) = .ok b) : a = b := by cases h; rfl

theorem hl_nil : HL c k tbl gs [] σ μ (.ok []) μ := by
  intro A env Φ s pos Q E ev S hq _
  exact spliced_nil (hq _ _ _ Φ rfl (Aft.refl S) .nil)
theorem starEach_cons {e : Expr} {es : List Expr} {env : Env} (hs : ∀ x p, e ≠ .Starred x p) : starEach (e :: es) env = (false, eval e env) :: starEach es env := by
  cases e <;> first | rfl | exact absurd rfl (hs _ _)
theorem hl_cons_err {e : Expr} {es : List Expr} (hs : ∀ x p, e ≠ .Starred x p) (h1 : HE c k tbl gs e σ μ (.error ()) μ') : HL c k tbl gs (e :: es) σ μ (.error ()) μ' := by
  intro A env Φ s pos Q E ev S hq he
  rw [starEach_cons hs]
  exact spliced_cons (h1 A env Φ s _ _ ev S (fun _ _ _ _ q => by cases q) (fun ee s' Φ' _ a x => he ee s' Φ' rfl a x))
theorem hl_cons_ok {e : Expr} {es : List Expr} {V : Vl} {rs : Except Unit (List Vl)} (hs : ∀ x p, e ≠ .Starred x p) (h1 : HE c k tbl gs e σ μ (.ok V) μ') (h2 : HL c k tbl gs es σ μ' rs μ'') :
    HL c k tbl gs (e :: es) σ μ (rs.map (V :: ·)) μ'' := by
  intro A env Φ s pos Q E ev S hq he
  rw [starEach_cons hs]
  refine spliced_cons (h1 A env Φ s _ _ ev S (fun V' v s' Φ' q a vi => ?_) (fun _ _ _ q => by cases q))
  cases ok_inj q
  refine h2 A env Φ' s' pos _ _ (ev.mono a.le) a.ss (fun Vs vs s'' Φ'' q2 a2 vi2 => ?_) (fun ee s'' Φ'' q2 a2 x => ?_)
  · subst q2; exact hq _ _ _ _ rfl (a.trans a2) (.cons (vi.mono a2.le) vi2)
  · subst q2; exact he _ _ _ rfl (a.trans a2) x

noncomputable def dats : List Vl → Option (List Dat)
  | [] => some []
  | .dat d :: r => (dats r).map (d :: ·)
  | _ :: _ => none
theorem VAll.dall {mC : Addr} {Φ : Phi} : ∀ {vs : List Value} {Vs : List Vl} {ds : List Dat}, VAll mC Φ vs Vs → dats Vs = some ds → DAll Φ vs ds
  | _, _, _, .nil, e => by cases e; exact .nil
  | _, _, _, .cons (V := V) h r, e => by
    cases V with
    | dat d =>
      simp only [dats] at e
      cases hr : dats _ with
      | none => rw [hr] at e; cases e
      | some ys => rw [hr] at e; cases e; exact .cons h (VAll.dall r hr)
    | mref => cases e
    | mem => cases e
    | raw => cases e
theorem VAll.length {mC : Addr} {Φ : Phi} {vs : List Value} {Vs : List Vl} (h : VAll mC Φ vs Vs) : vs.length = Vs.length := by
  induction h with
  | nil => rfl
  | cons _ _ ih => simp [ih]
theorem he_tuple {es : List Expr} {rs : Except Unit (List Vl)} {kk : Nat} {pos : Pos} (h : HL c k tbl gs es σ μ rs μ') (hr : ∀ Vs, rs = .ok Vs → ∃ ds, dats Vs = some ds ∧ room ds.length = true ∧ r = .ok (.dat (.tuple ds))) (hr2 : rs = .error () → r = .error ()) :
    HE c k tbl gs (.Tuple es kk pos) σ μ r μ' := by
  intro A env Φ s Q E ev S hq he
  refine Tuple_ (h A env Φ s pos _ _ ev S (fun Vs vs s' Φ' q a va => ?_) fun ee s' Φ' q a x => he _ _ _ (hr2 q) a x)
  obtain ⟨ds, hd, hrm, rfl⟩ := hr Vs q
  obtain ⟨L, m, hL⟩ := (ev.toCV.mono a.le).tag
  have da := va.dall hd
  have p := Aft.push a.ss hL { cls := .type "tuple", data := .seq vs.toArray } s'.toks
  refine wpAny_newTuple (hq _ _ _ _ rfl (a.trans p) (DIn.tuple (n := 0) (ins_self _ _ _) (da.mono p.le))) ?_
  rw [da.length]
  exact Nat.le_trans (room_le hrm) (by decide)
theorem he_list {es : List Expr} {rs : Except Unit (List Vl)} {pos : Pos} (h : HL c k tbl gs es σ μ rs μ') (hr : ∀ Vs, rs = .ok Vs → ∃ ds, dats Vs = some ds ∧ room ds.length = true ∧ r = .ok (.dat (.list ds))) (hr2 : rs = .error () → r = .error ()) :
    HE c k tbl gs (.List es pos) σ μ r μ' := by
  intro A env Φ s Q E ev S hq he
  refine List_ (h A env Φ s pos _ _ ev S (fun Vs vs s' Φ' q a va => ?_) fun ee s' Φ' q a x => he _ _ _ (hr2 q) a x)
  obtain ⟨ds, hd, hrm, rfl⟩ := hr Vs q
  obtain ⟨L, m, hL⟩ := (ev.toCV.mono a.le).tag
  have da := va.dall hd
  have p := Aft.push a.ss hL { cls := .type "list", data := .seq vs.toArray } s'.toks
  refine wpAny_newList (hq _ _ _ _ rfl (a.trans p) (DIn.list (n := 0) (ins_self _ _ _) (da.mono p.le))) ?_
  rw [da.length]
  exact Nat.le_trans (room_le hrm) (by decide)

noncomputable def bind2 (ra : Except Unit Vl) (μ1 : Mu) (f : Vl → Mu → RR Vl) : RR Vl := match ra with
  | .error _ => some (.error (), μ1)
  | .ok v => f v μ1
theorem he_bin_err1 {l rr : Expr} {op : Operator} {pos : Pos} (h1 : HE c k tbl gs l σ μ (.error ()) μ') : HE c k tbl gs (.BinOp l op rr pos) σ μ (.error ()) μ' := by
  intro A env Φ s Q E ev S hq he
  exact wpAny_BinOp (h1 A env Φ s _ _ ev S (fun _ _ _ _ q => by cases q) fun ee s' Φ' _ a x => he _ _ _ rfl a x)
theorem he_bin_err2 {l rr : Expr} {op : Operator} {pos : Pos} {V : Vl} (h1 : HE c k tbl gs l σ μ (.ok V) μ') (h2 : HE c k tbl gs rr σ μ' (.error ()) μ'') : HE c k tbl gs (.BinOp l op rr pos) σ μ (.error ()) μ'' := by
  intro A env Φ s Q E ev S hq he
  exact wpAny_BinOp (h1 A env Φ s _ _ ev S (fun V' v s' Φ' _ a vi => h2 A env Φ' s' _ _ (ev.mono a.le) a.ss (fun _ _ _ _ q => by cases q) fun ee s'' Φ'' _ a2 x => he _ _ _ rfl (a.trans a2) x) fun _ _ _ q => by cases q)
theorem he_bin {l rr : Expr} {op : Operator} {pos : Pos} {V1 V2 : Vl} {x y z : Dat} (h1 : HE c k tbl gs l σ μ (.ok V1) μ') (h2 : HE c k tbl gs rr σ μ' (.ok V2) μ'') (e1 : deref μ'' V1 = some x) (e2 : deref μ'' V2 = some y) (e : binD op x y = some z) :
    HE c k tbl gs (.BinOp l op rr pos) σ μ (.ok (.dat z)) μ'' := by
  intro A env Φ s Q E ev S hq he
  refine wpAny_BinOp (h1 A env Φ s _ _ ev S (fun V' v s' Φ' q a vi => h2 A env Φ' s' _ _ (ev.mono a.le) a.ss (fun V'' u s'' Φ'' q2 a2 vi2 => ?_) fun _ _ _ q => by cases q) fun _ _ _ q => by cases q)
  cases ok_inj q; cases ok_inj q2
  obtain ⟨L, m, hL⟩ := ((ev.toCV.mono a.le).mono a2.le).tag
  exact op_bin a2.ss hL ((vi.mono a2.le).shows a2.ss e1) (vi2.shows a2.ss e2) e fun w' s3 Φ3 a3 d3 => hq _ _ _ _ rfl ((a.trans a2).trans a3) d3

theorem cmp_one {A : Around} {env : Env} {Φ : Phi} {s : Shared} {Q : Value → Shared → Prop} {E : Value → Shared → Prop} {op : CmpOp} {V1 V2 : Vl} {v u : Value} {b : Bool} (ev : EV c Φ A env k tbl gs σ) (S : SS c.hb s.heap Φ μ) (vi : VIn c.mC Φ v V1) (vi2 : VIn c.mC Φ u V2)
    (e : (∃ x y, deref μ V1 = some x ∧ deref μ V2 = some y ∧ cmpD op x y = some b) ∨ (op = .Is ∧ isNone V2 = true ∧ b = isNone V1) ∨ (op = .IsNot ∧ isNone V2 = true ∧ b = !isNone V1)) (h : Q (.bool b) s) : wpAny (model c.prog c.w) A (compareOp op v u) Q E s := by
  rcases e with ⟨x, y, e1, e2, e3⟩ | ⟨rfl, h2, rfl⟩ | ⟨rfl, h2, rfl⟩
  · exact op_cmp S (by have := ev.uni; (first | lia | omega)) (vi.shows S e1) (vi2.shows S e2) e3 h
  · have hu : u = .none := by
      have := vi2.isNone; rw [h2] at this; exact eq_of_beq this
    subst hu
    refine is_none_gen ?_
    rw [vi.isNone]; exact h
  · have hu : u = .none := by
      have := vi2.isNone; rw [h2] at this; exact eq_of_beq this
    subst hu
    refine isnot_none_gen ?_
    rw [vi.isNone]; exact h
end
end Mine
end
section
open PySem PySem.W PyProof.Rows PySem.Calls
set_option Elab.async false
set_option maxRecDepth 100000
namespace Mine

noncomputable def cmpV (μ : Mu) (op : CmpOp) (V1 V2 : Vl) : Option Bool :=
  match op with
  | .Is => if isNone V2 then some (isNone V1) else none
  | .IsNot => if isNone V2 then some (!isNone V1) else none
  | op => match deref μ V1, deref μ V2 with
    | some x, some y => cmpD op x y
    | _, _ => none
theorem cmpV_at {μ : Mu} {op : CmpOp} {V1 V2 : Vl} {b : Bool} (h : cmpV μ op V1 V2 = some b) :
    (∃ x y, deref μ V1 = some x ∧ deref μ V2 = some y ∧ cmpD op x y = some b) ∨ (op = .Is ∧ isNone V2 = true ∧ b = isNone V1) ∨ (op = .IsNot ∧ isNone V2 = true ∧ b = !isNone V1) := by
  have gen : ∀ {o : CmpOp}, (match deref μ V1, deref μ V2 with
    | some x, some y => cmpD o x y
    | _, _ => none) = some b → ∃ x y, deref μ V1 = some x ∧ deref μ V2 = some y ∧ cmpD o x y = some b := by
    intro o e
    split at e
    · rename_i x y h1 h2; exact ⟨x, y, h1, h2, e⟩
    · cases e
  cases op
  case Is =>
    simp only [cmpV] at h
    split at h
    · rename_i h2; cases h; exact .inr (.inl ⟨rfl, h2, rfl⟩)
    · cases h
  case IsNot =>
    simp only [cmpV] at h
    split at h
    · rename_i h2; cases h; exact .inr (.inr ⟨rfl, h2, rfl⟩)
    · cases h
  all_goals exact .inl (gen h)

noncomputable def trV : Vl → Option Bool
  | .dat (.bool b) => some b
  | _ => none
noncomputable def trR : Except Unit Vl → Option (Except Unit Bool)
  | .error _ => some (.error ())
  | .ok V => (trV V).map .ok

section
variable {c : Cx} {k : Nat} {tbl : Tbl} {gs : Gs} {σ : Slots} {μ μ' μ'' : Mu} {r : Except Unit Vl}

theorem err_unit {x : Unit} : (Except.error x : Except Unit Vl) = .error () := by cases x; rfl

theorem he_cmp_err1 {l rr : Expr} {op : CmpOp} {pos : Pos} (hm : behindInMarks op rr = false) (h1 : HE c k tbl gs l σ μ (.error ()) μ') : HE c k tbl gs (.Compare l [op] [rr] pos) σ μ (.error ()) μ' := by
  intro A env Φ s Q E ev S hq he
  exact wpAny_Compare1 (h1 A env Φ s _ _ ev S (fun _ _ _ _ q => by cases q) fun ee s' Φ' _ a x => he _ _ _ rfl a x) hm
theorem he_cmp_err2 {l rr : Expr} {op : CmpOp} {pos : Pos} {V : Vl} (hm : behindInMarks op rr = false) (h1 : HE c k tbl gs l σ μ (.ok V) μ') (h2 : HE c k tbl gs rr σ μ' (.error ()) μ'') : HE c k tbl gs (.Compare l [op] [rr] pos) σ μ (.error ()) μ'' := by
  intro A env Φ s Q E ev S hq he
  exact wpAny_Compare1 (h1 A env Φ s _ _ ev S (fun V' v s' Φ' _ a vi => h2 A env Φ' s' _ _ (ev.mono a.le) a.ss (fun _ _ _ _ q => by cases q) fun ee s'' Φ'' _ a2 x => he _ _ _ rfl (a.trans a2) x) fun _ _ _ q => by cases q) hm
theorem he_cmp {l rr : Expr} {op : CmpOp} {pos : Pos} {V1 V2 : Vl} {b : Bool} (hm : behindInMarks op rr = false) (h1 : HE c k tbl gs l σ μ (.ok V1) μ') (h2 : HE c k tbl gs rr σ μ' (.ok V2) μ'') (e : cmpV μ'' op V1 V2 = some b) :
    HE c k tbl gs (.Compare l [op] [rr] pos) σ μ (.ok (.dat (.bool b))) μ'' := by
  intro A env Φ s Q E ev S hq he
  refine wpAny_Compare1 (h1 A env Φ s _ _ ev S (fun V' v s' Φ' q a vi => h2 A env Φ' s' _ _ (ev.mono a.le) a.ss (fun V'' u s'' Φ'' q2 a2 vi2 => ?_) fun _ _ _ q => by cases q) fun _ _ _ q => by cases q) hm
  cases ok_inj q; cases ok_inj q2
  exact cmp_one ((ev.mono a.le).mono a2.le) a2.ss (vi.mono a2.le) vi2 (cmpV_at e) (hq _ _ _ _ rfl (a.trans a2) (DIn.bool _))
theorem ht_cmp_err1 {l rr : Expr} {op : CmpOp} {pos : Pos} (hm : behindInMarks op rr = false) (h1 : HE c k tbl gs l σ μ (.error ()) μ') : HT c k tbl gs (.Compare l [op] [rr] pos) σ μ (.error ()) μ' := by
  intro A env Φ s Q E ev S hq he
  exact wpAny_isTrue_Compare1 (h1 A env Φ s _ _ ev S (fun _ _ _ _ q => by cases q) fun ee s' Φ' _ a x => he _ _ _ rfl a x) hm
theorem ht_cmp_err2 {l rr : Expr} {op : CmpOp} {pos : Pos} {V : Vl} (hm : behindInMarks op rr = false) (h1 : HE c k tbl gs l σ μ (.ok V) μ') (h2 : HE c k tbl gs rr σ μ' (.error ()) μ'') : HT c k tbl gs (.Compare l [op] [rr] pos) σ μ (.error ()) μ'' := by
  intro A env Φ s Q E ev S hq he
  exact wpAny_isTrue_Compare1 (h1 A env Φ s _ _ ev S (fun V' v s' Φ' _ a vi => h2 A env Φ' s' _ _ (ev.mono a.le) a.ss (fun _ _ _ _ q => by cases q) fun ee s'' Φ'' _ a2 x => he _ _ _ rfl (a.trans a2) x) fun _ _ _ q => by cases q) hm
theorem ht_cmp {l rr : Expr} {op : CmpOp} {pos : Pos} {V1 V2 : Vl} {b : Bool} (hm : behindInMarks op rr = false) (h1 : HE c k tbl gs l σ μ (.ok V1) μ') (h2 : HE c k tbl gs rr σ μ' (.ok V2) μ'') (e : cmpV μ'' op V1 V2 = some b) :
    HT c k tbl gs (.Compare l [op] [rr] pos) σ μ (.ok b) μ'' := by
  intro A env Φ s Q E ev S hq he
  refine wpAny_isTrue_Compare1 (h1 A env Φ s _ _ ev S (fun V' v s' Φ' q a vi => h2 A env Φ' s' _ _ (ev.mono a.le) a.ss (fun V'' u s'' Φ'' q2 a2 vi2 => ?_) fun _ _ _ q => by cases q) fun _ _ _ q => by cases q) hm
  cases ok_inj q; cases ok_inj q2
  exact cmp_one ((ev.mono a.le).mono a2.le) a2.ss (vi.mono a2.le) vi2 (cmpV_at e) (wpAny_truthy_bool (hq _ _ _ rfl (a.trans a2)))

theorem ht_plain {e : Expr} {rb : Except Unit Bool} (hp : ∀ env whole, isTrue e env whole = (do let v ← whole; standAt e.pos; holding [v] (truthy v))) (h : HE c k tbl gs e σ μ r μ') (hr : trR r = some rb) : HT c k tbl gs e σ μ rb μ' := by
  intro A env Φ s Q E ev S hq he
  refine isTrue_plain (h A env Φ s _ _ ev S (fun V v s' Φ' q a vi => ?_) (fun ee s' Φ' q a x => ?_)) (hp _ _)
  · subst q
    simp only [trR] at hr
    unfold trV at hr
    split at hr
    · cases hr
      cases vi with
      | bool b => exact wpAny_truthy_bool (hq _ _ _ rfl a)
    · cases hr
  · subst q; cases hr; exact he _ _ _ rfl a x

theorem he_bool1 {op : BoolOp} {e : Expr} {pos : Pos} (h : HE c k tbl gs e σ μ r μ') : HE c k tbl gs (.BoolOp op [e] pos) σ μ r μ' :=
  fun A env Φ s Q E ev S hq he => BoolOp_one (h A env Φ s Q E ev S hq he)
theorem ht_bool1 {op : BoolOp} {e : Expr} {pos : Pos} {rb : Except Unit Bool} (h : HT c k tbl gs e σ μ rb μ') : HT c k tbl gs (.BoolOp op [e] pos) σ μ rb μ' := by
  intro A env Φ s Q E ev S hq he
  cases op with
  | And =>
    refine isTrue_and (h A env Φ s _ _ ev S (fun b s' Φ' q a => ?_) he)
    cases b with
    | true => exact isTrue_and_nil (hq _ _ _ q a)
    | false => exact hq _ _ _ q a
  | Or =>
    refine isTrue_or (h A env Φ s _ _ ev S (fun b s' Φ' q a => ?_) he)
    cases b with
    | true => exact hq _ _ _ q a
    | false => exact isTrue_or_nil (hq _ _ _ q a)
noncomputable def stopOf : BoolOp → Bool
  | .And => false
  | .Or => true
theorem he_bool_err {op : BoolOp} {e1 e2 : Expr} {es : List Expr} {pos : Pos} (h1 : HE c k tbl gs e1 σ μ (.error ()) μ') : HE c k tbl gs (.BoolOp op (e1 :: e2 :: es) pos) σ μ (.error ()) μ' := by
  intro A env Φ s Q E ev S hq he
  cases op with
  | And => exact BoolOp_and (h1 A env Φ s _ _ ev S (fun _ _ _ _ q => by cases q) fun ee s' Φ' _ a x => he _ _ _ rfl a x)
  | Or => exact BoolOp_or (h1 A env Φ s _ _ ev S (fun _ _ _ _ q => by cases q) fun ee s' Φ' _ a x => he _ _ _ rfl a x)
theorem he_bool_stop {op : BoolOp} {e1 e2 : Expr} {es : List Expr} {pos : Pos} (h1 : HE c k tbl gs e1 σ μ (.ok (.dat (.bool (stopOf op)))) μ') : HE c k tbl gs (.BoolOp op (e1 :: e2 :: es) pos) σ μ (.ok (.dat (.bool (stopOf op)))) μ' := by
  intro A env Φ s Q E ev S hq he
  cases op with
  | And =>
    refine BoolOp_and (h1 A env Φ s _ _ ev S (fun V v s' Φ' q a vi => ?_) fun _ _ _ q => by cases q)
    cases ok_inj q
    have vi' := vi
    cases vi' with
    | bool b => exact wpAny_truthy_bool (hq _ _ _ _ rfl a vi)
  | Or =>
    refine BoolOp_or (h1 A env Φ s _ _ ev S (fun V v s' Φ' q a vi => ?_) fun _ _ _ q => by cases q)
    cases ok_inj q
    have vi' := vi
    cases vi' with
    | bool b => exact wpAny_truthy_bool (hq _ _ _ _ rfl a vi)
theorem he_bool_go {op : BoolOp} {e1 e2 : Expr} {es : List Expr} {pos : Pos} (h1 : HE c k tbl gs e1 σ μ (.ok (.dat (.bool (!stopOf op)))) μ') (h2 : HE c k tbl gs (.BoolOp op (e2 :: es) pos) σ μ' r μ'') : HE c k tbl gs (.BoolOp op (e1 :: e2 :: es) pos) σ μ r μ'' := by
  intro A env Φ s Q E ev S hq he
  cases op with
  | And =>
    refine BoolOp_and (h1 A env Φ s _ _ ev S (fun V v s' Φ' q a vi => ?_) fun _ _ _ q => by cases q)
    cases ok_inj q
    cases vi with
    | bool b => exact wpAny_truthy_bool (h2 A env Φ' s' _ _ (ev.mono a.le) a.ss (fun V' v' s'' Φ'' q2 a2 vi2 => hq _ _ _ _ q2 (a.trans a2) vi2) fun ee s'' Φ'' q2 a2 x => he _ _ _ q2 (a.trans a2) x)
  | Or =>
    refine BoolOp_or (h1 A env Φ s _ _ ev S (fun V v s' Φ' q a vi => ?_) fun _ _ _ q => by cases q)
    cases ok_inj q
    cases vi with
    | bool b => exact wpAny_truthy_bool (h2 A env Φ' s' _ _ (ev.mono a.le) a.ss (fun V' v' s'' Φ'' q2 a2 vi2 => hq _ _ _ _ q2 (a.trans a2) vi2) fun ee s'' Φ'' q2 a2 x => he _ _ _ q2 (a.trans a2) x)
theorem ht_bool_err {op : BoolOp} {e1 e2 : Expr} {es : List Expr} {pos : Pos} (h1 : HT c k tbl gs e1 σ μ (.error ()) μ') : HT c k tbl gs (.BoolOp op (e1 :: e2 :: es) pos) σ μ (.error ()) μ' := by
  intro A env Φ s Q E ev S hq he
  cases op with
  | And => exact isTrue_and (h1 A env Φ s _ _ ev S (fun _ _ _ q => by cases q) fun ee s' Φ' _ a x => he _ _ _ rfl a x)
  | Or => exact isTrue_or (h1 A env Φ s _ _ ev S (fun _ _ _ q => by cases q) fun ee s' Φ' _ a x => he _ _ _ rfl a x)
theorem ht_bool_stop {op : BoolOp} {e1 e2 : Expr} {es : List Expr} {pos : Pos} (h1 : HT c k tbl gs e1 σ μ (.ok (stopOf op)) μ') : HT c k tbl gs (.BoolOp op (e1 :: e2 :: es) pos) σ μ (.ok (stopOf op)) μ' := by
  intro A env Φ s Q E ev S hq he
  cases op with
  | And =>
    refine isTrue_and (h1 A env Φ s _ _ ev S (fun b s' Φ' q a => ?_) fun _ _ _ q => by cases q)
    cases q
    exact hq _ _ _ rfl a
  | Or =>
    refine isTrue_or (h1 A env Φ s _ _ ev S (fun b s' Φ' q a => ?_) fun _ _ _ q => by cases q)
    cases q
    exact hq _ _ _ rfl a
theorem ht_bool_go {op : BoolOp} {e1 e2 : Expr} {es : List Expr} {pos : Pos} {rb : Except Unit Bool} (h1 : HT c k tbl gs e1 σ μ (.ok (!stopOf op)) μ') (h2 : HT c k tbl gs (.BoolOp op (e2 :: es) pos) σ μ' rb μ'') : HT c k tbl gs (.BoolOp op (e1 :: e2 :: es) pos) σ μ rb μ'' := by
  intro A env Φ s Q E ev S hq he
  cases op with
  | And =>
    refine isTrue_and (h1 A env Φ s _ _ ev S (fun b s' Φ' q a => ?_) fun _ _ _ q => by cases q)
    cases q
    exact h2 A env Φ' s' _ _ (ev.mono a.le) a.ss (fun b' s'' Φ'' q2 a2 => hq _ _ _ q2 (a.trans a2)) fun ee s'' Φ'' q2 a2 x => he _ _ _ q2 (a.trans a2) x
  | Or =>
    refine isTrue_or (h1 A env Φ s _ _ ev S (fun b s' Φ' q a => ?_) fun _ _ _ q => by cases q)
    cases q
    exact h2 A env Φ' s' _ _ (ev.mono a.le) a.ss (fun b' s'' Φ'' q2 a2 => hq _ _ _ q2 (a.trans a2)) fun ee s'' Φ'' q2 a2 x => he _ _ _ q2 (a.trans a2) x

theorem he_not_err {e : Expr} {pos : Pos} (h : HE c k tbl gs e σ μ (.error ()) μ') : HE c k tbl gs (.UnaryOp .Not e pos) σ μ (.error ()) μ' := by
  intro A env Φ s Q E ev S hq he
  refine wpAny_bind (h A env Φ s _ _ ev S (fun _ _ _ _ q => by cases q) fun ee s' Φ' _ a x => he _ _ _ rfl a x)
theorem he_not {e : Expr} {pos : Pos} {b : Bool} (h : HE c k tbl gs e σ μ (.ok (.dat (.bool b))) μ') : HE c k tbl gs (.UnaryOp .Not e pos) σ μ (.ok (.dat (.bool !b))) μ' := by
  intro A env Φ s Q E ev S hq he
  refine wpAny_bind (h A env Φ s _ _ ev S (fun V v s' Φ' q a vi => ?_) fun _ _ _ q => by cases q)
  cases ok_inj q
  cases vi with
  | bool b => exact wpAny_bind (wpAny_standAt (wpAny_holding (not_of (wpAny_truthy_bool (hq _ _ _ _ rfl a (DIn.bool _))))))
theorem ht_not {e : Expr} {pos : Pos} {rb : Except Unit Bool} (h : HT c k tbl gs e σ μ rb μ') : HT c k tbl gs (.UnaryOp .Not e pos) σ μ (rb.map (!·)) μ' := by
  intro A env Φ s Q E ev S hq he
  exact isTrue_not (h A env Φ s _ _ ev S (fun b s' Φ' q a => hq _ _ _ (by rw [q]; rfl) a) fun ee s' Φ' q a x => he _ _ _ (by rw [q]; rfl) a x)
theorem he_neg {i : Int} {n : Nat} {p pos : Pos} : HE c k tbl gs (.UnaryOp .USub (.Constant (.int i) n p) pos) σ μ (.ok (.dat (.int (-i)))) μ := by
  intro A env Φ s Q E ev S hq he
  refine wpAny_bind (wpAny_Constant_int (wpAny_bind (wpAny_standAt (wpAny_holding (neg_int (hq _ _ _ Φ rfl ?_ (DIn.int _ _)))))))
  exact Aft.tok S _

theorem he_ite_err {t a b : Expr} {pos : Pos} (h : HT c k tbl gs t σ μ (.error ()) μ') : HE c k tbl gs (.IfExp t a b pos) σ μ (.error ()) μ' := by
  intro A env Φ s Q E ev S hq he
  exact IfExp_ (h A env Φ s _ _ ev S (fun _ _ _ q => by cases q) fun ee s' Φ' _ a x => he _ _ _ rfl a x)
theorem he_ite {t a b : Expr} {pos : Pos} {z : Bool} (h : HT c k tbl gs t σ μ (.ok z) μ') (h2 : HE c k tbl gs (if z then a else b) σ μ' r μ'') : HE c k tbl gs (.IfExp t a b pos) σ μ r μ'' := by
  intro A env Φ s Q E ev S hq he
  refine IfExp_ (h A env Φ s _ _ ev S (fun z' s' Φ' q a => ?_) fun _ _ _ q => by cases q)
  cases q
  have g := h2 A env Φ' s' Q E (ev.mono a.le) a.ss (fun V' v' s'' Φ'' q2 a2 vi2 => hq _ _ _ _ q2 (a.trans a2) vi2) fun ee s'' Φ'' q2 a2 x => he _ _ _ q2 (a.trans a2) x
  cases z with
  | true => exact g
  | false => exact g
theorem ht_ite_err {t a b : Expr} {pos : Pos} (h : HT c k tbl gs t σ μ (.error ()) μ') : HT c k tbl gs (.IfExp t a b pos) σ μ (.error ()) μ' := by
  intro A env Φ s Q E ev S hq he
  exact isTrue_IfExp (h A env Φ s _ _ ev S (fun _ _ _ q => by cases q) fun ee s' Φ' _ a x => he _ _ _ rfl a x)
theorem ht_ite {t a b : Expr} {pos : Pos} {z : Bool} {rb : Except Unit Bool} (h : HT c k tbl gs t σ μ (.ok z) μ') (h2 : HT c k tbl gs (if z then a else b) σ μ' rb μ'') : HT c k tbl gs (.IfExp t a b pos) σ μ rb μ'' := by
  intro A env Φ s Q E ev S hq he
  refine isTrue_IfExp (h A env Φ s _ _ ev S (fun z' s' Φ' q a => ?_) fun _ _ _ q => by cases q)
  cases q
  have g := h2 A env Φ' s' Q E (ev.mono a.le) a.ss (fun V' s'' Φ'' q2 a2 => hq _ _ _ q2 (a.trans a2)) fun ee s'' Φ'' q2 a2 x => he _ _ _ q2 (a.trans a2) x
  cases z with
  | true => exact g
  | false => exact g

theorem he_sub_err1 {v sl : Expr} {pos : Pos} (h : HE c k tbl gs v σ μ (.error ()) μ') : HE c k tbl gs (.Subscript v sl pos) σ μ (.error ()) μ' := by
  intro A env Φ s Q E ev S hq he
  exact Subscript_ (h A env Φ s _ _ ev S (fun _ _ _ _ q => by cases q) fun ee s' Φ' _ a x => he _ _ _ rfl a x)
theorem he_sub_err2 {v sl : Expr} {pos : Pos} {V : Vl} (h : HE c k tbl gs v σ μ (.ok V) μ') (h2 : HE c k tbl gs sl σ μ' (.error ()) μ'') : HE c k tbl gs (.Subscript v sl pos) σ μ (.error ()) μ'' := by
  intro A env Φ s Q E ev S hq he
  exact Subscript_ (h A env Φ s _ _ ev S (fun V' v s' Φ' _ a vi => h2 A env Φ' s' _ _ (ev.mono a.le) a.ss (fun _ _ _ _ q => by cases q) fun ee s'' Φ'' _ a2 x => he _ _ _ rfl (a.trans a2) x) fun _ _ _ q => by cases q)
theorem he_idx {v sl : Expr} {pos : Pos} {V : Vl} {x z : Dat} {i : Int} (hs : ∀ l u p, sl ≠ .Slice l u none p) (h : HE c k tbl gs v σ μ (.ok V) μ') (h2 : HE c k tbl gs sl σ μ' (.ok (.dat (.int i))) μ'') (e1 : deref μ'' V = some x) (e : idxD x i = some z) :
    HE c k tbl gs (.Subscript v sl pos) σ μ (.ok (.dat z)) μ'' := by
  intro A env Φ s Q E ev S hq he
  refine Subscript_ (h A env Φ s _ _ ev S (fun V' v s' Φ' q a vi => h2 A env Φ' s' _ _ (ev.mono a.le) a.ss (fun V'' u s'' Φ'' q2 a2 vi2 => ?_) fun _ _ _ q => by cases q) fun _ _ _ q => by cases q)
  cases ok_inj q; cases ok_inj q2
  cases vi2 with
  | int _ t => exact op_idx a2.ss hs ((vi.mono a2.le).shows a2.ss e1) e fun r s3 a3 d3 => hq _ _ _ _ rfl ((a.trans a2).trans a3) d3

noncomputable def HO (c : Cx) (k : Nat) (tbl : Tbl) (gs : Gs) (e : Option Expr) (σ : Slots) (μ : Mu) (r : Except Unit (Option Int)) (μ' : Mu) : Prop :=
  ∀ (A : Around) (env : Env) (Φ : Phi) (s : Shared) (Q : Value → Shared → Prop) (E : Value → Shared → Prop),
    EV c Φ A env k tbl gs σ → SS c.hb s.heap Φ μ →
    (∀ lo v s' Φ', r = .ok lo → Aft c.hb s s' Φ Φ' μ' → IsPart v lo → Q v s') →
    (∀ e s' Φ', r = .error () → Aft c.hb s s' Φ Φ' μ' → ExcSt c A Φ' μ' e s' → E e s') →
    wpAny (model c.prog c.w) A (evalPart e env) Q E s
theorem ho_none : HO c k tbl gs none σ μ (.ok none) μ := by
  intro A env Φ s Q E ev S hq he
  exact wpAny_evalPart_none (hq _ _ _ Φ rfl (Aft.refl S) .none)
theorem ho_some {e : Expr} {i : Int} (h : HE c k tbl gs e σ μ (.ok (.dat (.int i))) μ') : HO c k tbl gs (some e) σ μ (.ok (some i)) μ' := by
  intro A env Φ s Q E ev S hq he
  refine wpAny_evalPart_some (h A env Φ s _ _ ev S (fun V v s' Φ' q a vi => ?_) fun _ _ _ q => by cases q)
  cases ok_inj q
  cases vi with
  | int _ t => exact hq _ _ _ _ rfl a (.int _ _)
theorem he_slc {v : Expr} {lo hi : Option Expr} {p pos : Pos} {V : Vl} {x z : Dat} {l u : Option Int} {μ1 μ2 : Mu} (h : HE c k tbl gs v σ μ (.ok V) μ1) (h2 : HO c k tbl gs lo σ μ1 (.ok l) μ2) (h3 : HO c k tbl gs hi σ μ2 (.ok u) μ') (e1 : deref μ' V = some x) (e : slcD x l u = some z) :
    HE c k tbl gs (.Subscript v (.Slice lo hi none p) pos) σ μ (.ok (.dat z)) μ' := by
  intro A env Φ s Q E ev S hq he
  refine Subscript_ (h A env Φ s _ _ ev S (fun V' v s' Φ' q a vi => wpAny_Slice (h2 A env Φ' s' _ _ (ev.mono a.le) a.ss (fun l' vl s2 Φ2 q2 a2 p2 => h3 A env Φ2 s2 _ _ ((ev.mono a.le).mono a2.le) a2.ss (fun u' vu s3 Φ3 q3 a3 p3 => ?_) fun _ _ _ q => by cases q) fun _ _ _ q => by cases q)) fun _ _ _ q => by cases q)
  cases ok_inj q; cases q2; cases q3
  refine wpAny_evalPart_none ?_
  obtain ⟨L, m, hL⟩ := (((ev.toCV.mono a.le).mono a2.le).mono a3.le).tag
  exact op_slc a3.ss hL (((vi.mono a2.le).mono a3.le).shows a3.ss e1) p2 p3 e fun r s4 Φ4 a4 d4 => hq _ _ _ _ rfl (((a.trans a2).trans a3).trans a4) d4
end
end Mine
end
section
open PySem PySem.W PyProof.Rows PySem.Calls
set_option Elab.async false
set_option maxRecDepth 100000
set_option linter.unusedVariables false
namespace Mine

open Classical in
noncomputable def allN (hb h : Heap) (L : Addr) : List (Addr × Obj) :=
  (List.range h.objs.size).filterMap fun a => match h.get? a with
    | some o => if a ≠ L ∧ hb.get? a = none then some (a, o) else none
    | none => none
theorem allN_mem {hb h : Heap} {L a : Addr} {o : Obj} : (a, o) ∈ allN hb h L ↔ h.get? a = some o ∧ a ≠ L ∧ hb.get? a = none := by
  unfold allN
  rw [List.mem_filterMap]
  constructor
  · rintro ⟨b, _, e⟩
    split at e
    · rename_i o' ho
      split at e
      · rename_i hc
        cases e
        exact ⟨ho, hc⟩
      · cases e
    · cases e
  · rintro ⟨h1, h2⟩
    refine ⟨a, List.mem_range.mpr (Heap.lt_size h1), ?_⟩
    rw [h1]
    dsimp only
    rw [if_pos h2]
theorem allN_news {hb h : Heap} {L : Addr} : News hb L h (allN hb h L) := fun p hp => allN_mem.mp hp
theorem SS.fr {hb h : Heap} {Φ : Phi} {μ : Mu} (S : SS hb h Φ μ) {L : Addr} {m : Str → Option Value} (hL : Φ L = some (.fm m)) : Fr hb L h m := ⟨(S.tag _ _ hL).2, S.keep, (S.tag _ _ hL).1⟩
theorem SS.back {hb h h' : Heap} {Φ : Phi} {μ : Mu} (S : SS hb h Φ μ) {L : Addr} {m : Str → Option Value} (hL : Φ L = some (.fm m)) (F : Fr hb L h' m) (N : News hb L h' (allN hb h L)) : SS hb h' Φ μ := by
  refine ⟨F.keep, fun a t e => ⟨(S.tag a t e).1, ?_⟩, S.inj⟩
  by_cases q : a = L
  · subst q
    rw [hL] at e; cases e
    exact F.ns
  · exact (S.tag a t e).2.at (fun o ho => (N (a, o) (allN_mem.mpr ⟨ho, q, S.hb_none e⟩)).1) fun _ _ z => z

theorem CV.le {Φ : Phi} {A : Around} {k k' : Nat} (h : CV Φ A k) (hk : k' ≤ k) : CV Φ A k' := ⟨h.hh, by have := h.dep; (first | lia | omega), by have := h.uni; (first | lia | omega), h.frs⟩

noncomputable def Contract (c : Cx) (k : Nat) (fv : Value) (f : List Vl → Mu → RR Vl) : Prop :=
  ∀ (A : Around) (Φ : Phi) (s : Shared) (Q E : Value → Shared → Prop) (vs : List Value) (Vs : List Vl) (μ : Mu) (r : Except Unit Vl) (μ' : Mu),
    CV Φ A k → SS c.hb s.heap Φ μ → VAll c.mC Φ vs Vs → f Vs μ = some (r, μ') →
    (∀ V v s' Φ', r = .ok V → Aft c.hb s s' Φ Φ' μ' → VIn c.mC Φ' v V → Q v s') →
    (∀ e s' Φ', r = .error () → Aft c.hb s s' Φ Φ' μ' → ExcSt c A Φ' μ' e s' → E e s') →
    wpAny (model c.prog c.w) A (call fv vs) Q E s

section
variable {c : Cx} {k : Nat} {tbl : Tbl} {gs : Gs} {σ : Slots} {μ μ' μ'' : Mu} {r : Except Unit Vl}

theorem starEach_plain {pos : Pos} {env : Env} : ∀ {es : List Expr}, (∀ e ∈ es, ∀ x p, e ≠ .Starred x p) → (backTo pos (starEach es env)).any (·.1) = false
  | [], _ => rfl
  | e :: es, h => by
    rw [starEach_cons (h e (.head _))]
    show (false || (backTo pos (starEach es env)).any (·.1)) = false
    rw [starEach_plain fun e' he => h e' (.tail _ he)]; rfl
theorem callWith_vals {A : Around} {E : Value → Shared → Prop} {s : Shared} {M : Model} {env : Env} {f : Value} {first : List Value} {e : Expr} {es : List Expr} {p pos : Pos} {Q : Value → Shared → Prop} {P : Heap → Prop} (hs : ∀ x ∈ e :: es, ∀ y q, x ≠ .Starred y q)
    (hk : ∀ h, P h → ∃ k, (k = Keeper.frame ∨ k = Keeper.machine ∨ k = Keeper.boundFrame) ∧ Looks M h (keeperOf f) k)
    (h : wpAny M A (spliced (backTo p (starEach (e :: es) env))) (fun vs s' => P s'.heap ∧ wpAny M A (call f (first ++ vs) []) Q E s') E s) :
    wpAny M A (callWith pos f first (backTo p (starEach (e :: es) env)) []) Q E s := by
  have hp := starEach_plain (pos := p) (env := env) hs
  refine callWith_of (P := P) (by rw [hp]; rfl) hk ?_
  rw [starEach_cons (hs e (.head _))] at h ⊢
  exact evalArgs_plain h

inductive Bi where
  | len
  | abs
  | tup
noncomputable def Bi.nm : Bi → Str
  | .len => Str.ofString "len"
  | .abs => Str.ofString "abs"
  | .tup => Str.ofString "tuple"
noncomputable def Bi.val : Bi → Value
  | .len => .builtin "len"
  | .abs => .builtin "abs"
  | .tup => .type "tuple"
noncomputable def biD : Bi → Dat → Option Dat
  | .len, d => (lenD d).map .int
  | .abs, d => absD d
  | .tup, d => tupD d
theorem bi_call {A : Around} {Φ : Phi} {s : Shared} {Q : Value → Shared → Prop} {E : Value → Shared → Prop} {b : Bi} {x z : Dat} {v : Value} {L : Addr} {m : Str → Option Value} {prog : Program} {w : World} {hb : Heap} (S : SS hb s.heap Φ μ) (hL : Φ L = some (.fm m)) (hv : Shows s.heap Φ v x) (e : biD b x = some z)
    (h : ∀ r s' Φ', Aft hb s s' Φ Φ' μ → DIn Φ' r z → Q r s') : wpAny (model prog w) A (call b.val [v] []) Q E s := by
  cases b with
  | len =>
    simp only [biD] at e
    cases hl : lenD x with
    | none => rw [hl] at e; cases e
    | some n => rw [hl] at e; cases e; exact op_len S hv hl fun t tk => h _ _ Φ (Aft.tok S tk) (DIn.int _ _)
  | abs => exact op_abs S hv e fun r s' a d => h _ _ Φ a d
  | tup => exact op_tuple S hL hv e h

theorem he_bi_err {x : Str} {v : Value} {e : Expr} {p pos : Pos} (ok : CxOk c) (hg : GI gs x) (hn : GN c x v) (hd : (x == ("__debug__" : Str)) = false) (hk : keeperOf v = pure .machine) (hs : ∀ y q, e ≠ .Starred y q) (h : HE c k tbl gs e σ μ (.error ()) μ') :
    HE c k tbl gs (.Call (.Name x p) [e] [] pos) σ μ (.error ()) μ' := by
  intro A env Φ s Q E ev S hq he
  refine Call_ (global_name ok ev S hg hn hd (callWith_vals (P := fun _ => True) (fun y hy => ?_) (fun _ _ => ⟨_, .inr (.inl rfl), Looks.of_pure hk⟩) ?_))
  · rw [List.mem_singleton.mp hy]; exact hs
  · rw [starEach_cons hs]
    exact spliced_cons (h A env Φ s _ _ ev S (fun _ _ _ _ q => by cases q) fun ee s' Φ' _ a x => he _ _ _ rfl a x)
theorem he_bi {b : Bi} {e : Expr} {p pos : Pos} {V : Vl} {x z : Dat} (ok : CxOk c) (hg : GI gs b.nm) (hn : GN c b.nm b.val) (hs : ∀ y q, e ≠ .Starred y q) (h : HE c k tbl gs e σ μ (.ok V) μ') (e1 : deref μ' V = some x) (ez : biD b x = some z) :
    HE c k tbl gs (.Call (.Name b.nm p) [e] [] pos) σ μ (.ok (.dat z)) μ' := by
  intro A env Φ s Q E ev S hq he
  refine Call_ (global_name ok ev S hg hn (by cases b <;> decide) (callWith_vals (P := fun _ => True) (fun y hy => ?_) (fun _ _ => ⟨_, .inr (.inl rfl), Looks.of_pure (by cases b <;> rfl)⟩) ?_))
  · rw [List.mem_singleton.mp hy]; exact hs
  · rw [starEach_cons hs]
    refine spliced_cons (h A env Φ s _ _ ev S (fun V' v s' Φ' q a vi => spliced_nil ⟨trivial, ?_⟩) fun _ _ _ q => by cases q)
    cases ok_inj q
    obtain ⟨L, m, hL⟩ := (ev.toCV.mono a.le).tag
    exact bi_call a.ss hL (vi.shows a.ss e1) ez fun r s2 Φ2 a2 d2 => hq _ _ _ _ rfl (a.trans a2) d2

noncomputable def IsFnAt (c : Cx) (fa : Addr) : Prop := ∃ o fd, c.hb.get? fa = some o ∧ o.data = .func fd
theorem keeper_fn {M : Model} {fa : Addr} (hf : IsFnAt c fa) (h : Heap) (k : ∀ b o, c.hb.get? b = some o → h.get? b = some o) : ∃ kk, (kk = Keeper.frame ∨ kk = Keeper.machine ∨ kk = Keeper.boundFrame) ∧ Looks M h (keeperOf (.ref fa)) kk := by
  obtain ⟨o, fd, h1, h2⟩ := hf
  refine ⟨.frame, .inl rfl, fun A Q E s kk q => ?_⟩
  unfold keeperOf
  refine wpAny_bind (wpAny_load (kk _ _ (k _ _ h1)) ?_)
  rw [h2]
  exact wpAny_pure q
theorem he_call {x : Str} {fa : Addr} {f : List Vl → Mu → RR Vl} {e : Expr} {es : List Expr} {p pos : Pos} {rs : Except Unit (List Vl)} {k' : Nat} (ok : CxOk c) (hg : GI gs x) (hn : GN c x (.ref fa)) (hd : (x == ("__debug__" : Str)) = false) (hf : IsFnAt c fa) (hk : k' ≤ k)
    (hc : Contract c k' (.ref fa) f) (hs : ∀ y ∈ e :: es, ∀ z q, y ≠ .Starred z q) (h : HL c k tbl gs (e :: es) σ μ rs μ')
    (hr : ∀ Vs, rs = .ok Vs → f Vs μ' = some (r, μ'')) (hr2 : rs = .error () → r = .error () ∧ μ'' = μ') :
    HE c k tbl gs (.Call (.Name x p) (e :: es) [] pos) σ μ r μ'' := by
  intro A env Φ s Q E ev S hq he
  refine Call_ (global_name ok ev S hg hn hd (callWith_vals (P := fun h => ∀ b o, c.hb.get? b = some o → h.get? b = some o) hs (fun h kk => keeper_fn hf h kk) ?_))
  refine h A env Φ s pos _ _ ev S (fun Vs vs s' Φ' q a va => ⟨a.ss.keep, ?_⟩) (fun ee s' Φ' q a x => ?_)
  · refine hc A Φ' s' Q E vs Vs μ' r μ'' ((ev.toCV.mono a.le).le hk) a.ss va (hr Vs q) (fun V v s2 Φ2 q2 a2 vi => hq _ _ _ _ q2 (a.trans a2) vi) fun ee s2 Φ2 q2 a2 x => he _ _ _ q2 (a.trans a2) x
  · obtain ⟨h1, h2⟩ := hr2 q
    subst h2
    exact he _ _ _ h1 a x

theorem meth_eq {o : Expr} {nm : Str} {apos pos : Pos} {args : List Expr} {env : Env} (hbase : attributeBase o nm env (eval o env) = eval o env) (hs : ∀ y ∈ args, ∀ z q, y ≠ .Starred z q) (hlen : args.length < 20) (hline : (apos.endLine == pos.line) = true) :
    ∃ pl, eval (.Call (.Attribute o nm apos) args [] pos) env = (do
      let ov ← eval o env
      standAt apos.atName
      let (f, first) ← holding [ov] (getMethod ov nm pl)
      callWith pos f first (backTo pos (starEach args env)) []) := by
  have hall : ((backTo pos (starEach args env)).all fun x => !x.1) = true := by
    have := starEach_plain (pos := pos) (env := env) hs
    rw [List.all_eq_not_any_not]
    simpa using this
  have hform : methodCallForm (args.length + ([] : List Keyword).length) (backTo pos (starEach args env)) (backToKw pos (keywordEach [] env)) = true := by
    unfold methodCallForm
    rw [hall]
    show (true && true && decide (args.length + 0 + 0 < 30)) = true
    simp; (first | lia | omega)
  have hpos : methodCallPos true o env apos pos = pure pos := by unfold methodCallPos; simp [hline]
  refine ⟨(do return (← importBound o env).getD true), ?_⟩
  rw [arm_eval_Call, hbase]
  unfold methodCall
  rw [hform, hpos]
  rfl

theorem he_meth_bi {o e : Expr} {nm : Str} {T id : String} {apos pos : Pos} {V V2 : Vl} {d : Dat} (hbase : ∀ env, attributeBase o nm env (eval o env) = eval o env) (hs : ∀ z q, e ≠ .Starred z q) (hline : (apos.endLine == pos.line) = true)
    (pa : PlainAttrs T) (slot : Slot T nm id) (hty : typeOf (.builtin id) = pure (.type "method_descriptor"))
    (h : HE c k tbl gs o σ μ (.ok V) μ') (h2 : HE c k tbl gs e σ μ' (.ok V2) μ'')
    (hT : ∀ (Φ : Phi) (s : Shared) (v : Value) (μ : Mu), SS c.hb s.heap Φ μ → VIn c.mC Φ v V → s.TypeIs v T ∧ (∀ a, v = .ref a → ∃ ob, s.heap.get? a = some ob ∧ ob.dict = none))
    (hcall : ∀ (A : Around) (Φ : Phi) (s : Shared) (v u : Value) (Q E : Value → Shared → Prop), A.units ≤ 9000 → SS c.hb s.heap Φ μ'' → VIn c.mC Φ v V → VIn c.mC Φ u V2 → (∀ r s', Aft c.hb s s' Φ Φ μ'' → DIn Φ r d → Q r s') → wpAny (model c.prog c.w) A (call (.builtin id) [v, u] []) Q E s) :
    HE c k tbl gs (.Call (.Attribute o nm apos) [e] [] pos) σ μ (.ok (.dat d)) μ'' := by
  intro A env Φ s Q E ev S hq he
  obtain ⟨pl, hev⟩ := meth_eq (env := env) (args := [e]) (hbase env) (fun y hy => by rw [List.mem_singleton.mp hy]; exact hs) (by show 1 < 20; (first | lia | omega)) hline
  refine MethodCall_ (pl := pl) (h A env Φ s _ _ ev S (fun V' v s' Φ' q a vi => ?_) fun _ _ _ q => by cases q) hev
  cases ok_inj q
  obtain ⟨t1, t2⟩ := hT Φ' s' v μ' a.ss vi
  refine getMethod_builtin t1 pa slot hty t2 ?_
  refine callWith_vals (P := fun _ => True) (fun y hy => by rw [List.mem_singleton.mp hy]; exact hs) (fun _ _ => ⟨_, .inr (.inl rfl), Looks.of_pure rfl⟩) ?_
  rw [starEach_cons hs]
  refine spliced_cons (h2 A env Φ' s' _ _ (ev.mono a.le) a.ss (fun V'' u s2 Φ2 q2 a2 vi2 => spliced_nil ⟨trivial, ?_⟩) fun _ _ _ q => by cases q)
  cases ok_inj q2
  exact hcall A Φ2 s2 v u Q E (by have := ev.uni; (first | lia | omega)) a2.ss (vi.mono a2.le) vi2 fun r s3 a3 d3 => hq _ _ _ _ rfl ((a.trans a2).trans a3) d3

theorem list_kind {Φ : Phi} {s : Shared} {v : Value} {μ : Mu} {ds : List Dat} (S : SS c.hb s.heap Φ μ) (h : VIn c.mC Φ v (.dat (.list ds))) : s.TypeIs v "list" ∧ (∀ a, v = .ref a → ∃ ob, s.heap.get? a = some ob ∧ ob.dict = none) := by
  cases h with
  | list q da => exact ⟨⟨_, (S.tag _ _ q).2, rfl⟩, fun a e => by cases e; exact ⟨_, (S.tag _ _ q).2, rfl⟩⟩
theorem str_kind {Φ : Phi} {s : Shared} {v : Value} {x : Str} (h : VIn c.mC Φ v (.dat (.str x))) : s.TypeIs v "str" ∧ (∀ a, v = .ref a → ∃ ob, s.heap.get? a = some ob ∧ ob.dict = none) := by
  cases h with
  | str _ t => exact ⟨typeIs_str s x t, fun a e => by cases e⟩

noncomputable def nmBase (o : Expr) : Bool := o.ctorIdx == 23 || o.ctorIdx == 19
theorem nm_base {o : Expr} (h : nmBase o = true) (nm : Str) (env : Env) : attributeBase o nm env (eval o env) = eval o env := by
  cases o <;> first | rfl | cases h

theorem he_count {o e : Expr} {apos pos : Pos} {ds : List Dat} {V2 : Vl} {y z : Dat} (hb : nmBase o = true) (hs : ∀ z q, e ≠ .Starred z q) (hline : (apos.endLine == pos.line) = true)
    (h : HE c k tbl gs o σ μ (.ok (.dat (.list ds))) μ') (h2 : HE c k tbl gs e σ μ' (.ok V2) μ'') (e2 : deref μ'' V2 = some y) (e3 : cntD (.list ds) y = some z) :
    HE c k tbl gs (.Call (.Attribute o (Str.ofString "count") apos) [e] [] pos) σ μ (.ok (.dat z)) μ'' :=
  he_meth_bi (nm_base hb _) hs hline PySem.F.plainAttrs_list PySem.F.slot_list_count PySem.F.type_list_count h h2 (fun Φ s v μ S vi => list_kind S vi)
    fun A Φ s v u Q E hu S vi vi2 hq => op_count S hu (vi.shows S rfl) (vi2.shows S e2) e3 hq
theorem he_index {o e : Expr} {apos pos : Pos} {ds : List Dat} {V2 : Vl} {y z : Dat} (hb : nmBase o = true) (hs : ∀ z q, e ≠ .Starred z q) (hline : (apos.endLine == pos.line) = true)
    (h : HE c k tbl gs o σ μ (.ok (.dat (.list ds))) μ') (h2 : HE c k tbl gs e σ μ' (.ok V2) μ'') (e2 : deref μ'' V2 = some y) (e3 : idxOfD (.list ds) y = some z) :
    HE c k tbl gs (.Call (.Attribute o (Str.ofString "index") apos) [e] [] pos) σ μ (.ok (.dat z)) μ'' :=
  he_meth_bi (nm_base hb _) hs hline PySem.F.plainAttrs_list PySem.F.slot_list_index PySem.F.type_list_index h h2 (fun Φ s v μ S vi => list_kind S vi)
    fun A Φ s v u Q E hu S vi vi2 hq => op_index S hu (vi.shows S rfl) (vi2.shows S e2) e3 hq
theorem he_join {o e : Expr} {apos pos : Pos} {x : Str} {V2 : Vl} {y z : Dat} (hb : nmBase o = true) (hs : ∀ z q, e ≠ .Starred z q) (hline : (apos.endLine == pos.line) = true)
    (h : HE c k tbl gs o σ μ (.ok (.dat (.str x))) μ') (h2 : HE c k tbl gs e σ μ' (.ok V2) μ'') (e2 : deref μ'' V2 = some y) (e3 : joinD (.str x) y = some z) :
    HE c k tbl gs (.Call (.Attribute o (Str.ofString "join") apos) [e] [] pos) σ μ (.ok (.dat z)) μ'' :=
  he_meth_bi (nm_base hb _) hs hline PySem.F.plainAttrs_str PySem.F.slot_str_join PySem.F.type_str_join h h2 (fun Φ s v μ S vi => str_kind vi)
    fun A Φ s v u Q E hu S vi vi2 hq => op_join S (vi.shows S rfl) (vi2.shows S e2) e3 hq

theorem getL_num {g1 g2 : Int} {k1 k2 : Tok} {v1 v2 : Value} :
    getL (Str.ofString "numeric") [⟨g1, .str (Str.ofString "numeric") k1, v1⟩, ⟨g2, .str (Str.ofString "characters") k2, v2⟩] = some (some v1) := by
  have e1 : (Value.str (Str.ofString "numeric") k1).isStr (Str.ofString "numeric") = true := by show (_ == _) = true; simp
  unfold getL
  rw [List.find?_cons_of_pos (by exact e1)]
theorem getL_chr {g1 g2 : Int} {k1 k2 : Tok} {v1 v2 : Value} :
    getL (Str.ofString "characters") [⟨g1, .str (Str.ofString "numeric") k1, v1⟩, ⟨g2, .str (Str.ofString "characters") k2, v2⟩] = some (some v2) := by
  have e0 : (Str.ofString "numeric" == Str.ofString "characters") = false := by decide +kernel
  have e1 : (Value.str (Str.ofString "numeric") k1).isStr (Str.ofString "characters") = false := e0
  have e2 : (Value.str (Str.ofString "characters") k2).isStr (Str.ofString "characters") = true := by show (_ == _) = true; simp
  unfold getL
  rw [List.find?_cons_of_neg (by simp [e1]), List.find?_cons_of_pos (by exact e2)]
theorem he_attr {x nm : Str} {xp pos : Pos} {n ch : Nat} (ok : CxOk c) (hnm : nm = Str.ofString "numeric" ∨ nm = Str.ofString "characters") (h1 : plainGet c.K c.mC nm = true) (h2 : hasDictIn c.K c.mC = true) {at_ : Option Value} (h3 : findIn c.K (.ref c.mC) nm = some at_) (h4 : noGet c.K at_ = true)
    (h : HE c k tbl gs (.Name x xp) σ μ (.ok (.mem n ch)) μ') : HE c k tbl gs (.Attribute (.Name x xp) nm pos) σ μ (.ok (.mref (if nm = Str.ofString "numeric" then n else ch))) μ' := by
  intro A env Φ s Q E ev S hq he
  refine Attribute_Name_ (h A env Φ s _ _ ev S (fun V' v s' Φ' q a vi => ?_) fun _ _ _ q => by cases q)
  cases ok_inj q
  obtain ⟨xa, rfl, dx, k1, k2, g1, g2, an, ac, mm, q1, q2, q3, q4⟩ := vi
  obtain ⟨L, m, hL⟩ := (ev.toCV.mono a.le).tag
  have I : InstAt s'.heap xa (instObj c.mC dx) c.mC (some (dictOf [⟨g1, .str (Str.ofString "numeric") k1, .ref an⟩, ⟨g2, .str (Str.ofString "characters") k2, .ref ac⟩] mm)) :=
    ⟨(a.ss.tag _ _ q1).2, rfl, rfl, (a.ss.tag _ _ q2).2⟩
  have at2 : Aft c.hb s { s' with toks := s'.toks + 1 } Φ Φ' μ' := a.trans (Aft.tok a.ss _)
  rcases hnm with rfl | rfl
  · refine get_own (a.ss.fr hL) ok.kin I h1 h2 h3 h4 (v := .ref an) ?_ rfl (hq _ _ _ _ rfl at2 ⟨an, rfl, q3⟩)
    exact getL_num
  · refine get_own (a.ss.fr hL) ok.kin I h1 h2 h3 h4 (v := .ref ac) ?_ rfl (hq _ _ _ _ rfl at2 ⟨ac, rfl, ?_⟩)
    · exact getL_chr
    · rw [if_neg (by decide +kernel)]; exact q4

theorem getL_none {nm : Str} {g1 g2 : Int} {k1 k2 : Tok} {v1 v2 : Value} (h1 : (Str.ofString "numeric" == nm) = false) (h2 : (Str.ofString "characters" == nm) = false) :
    getL nm [⟨g1, .str (Str.ofString "numeric") k1, v1⟩, ⟨g2, .str (Str.ofString "characters") k2, v2⟩] = some none := by
  have e1 : (Value.str (Str.ofString "numeric") k1).isStr nm = false := h1
  have e2 : (Value.str (Str.ofString "characters") k2).isStr nm = false := h2
  unfold getL
  rw [List.find?_cons_of_neg (by simp [e1]), List.find?_cons_of_neg (by simp [e2])]
  rfl
theorem he_meth {x nm : Str} {xp apos pos : Pos} {n ch : Nat} {fa : Addr} {f : List Vl → Mu → RR Vl} {e : Expr} {es : List Expr} {rs : Except Unit (List Vl)} {k' : Nat} (ok : CxOk c) (h1 : plainGet c.K c.mC nm = true) (h2 : findIn c.K (.ref c.mC) nm = some (some (.ref fa))) (h3 : isFn c.K (.ref fa) = true)
    (hnn : (Str.ofString "numeric" == nm) = false ∧ (Str.ofString "characters" == nm) = false) (hf : IsFnAt c fa) (hk : k' ≤ k) (hc : Contract c k' (.ref fa) f) (hs : ∀ y ∈ e :: es, ∀ z q, y ≠ .Starred z q) (hlen : (e :: es).length < 20) (hline : (apos.endLine == pos.line) = true)
    (h : HE c k tbl gs (.Name x xp) σ μ (.ok (.mem n ch)) μ) (hl : HL c k tbl gs (e :: es) σ μ rs μ')
    (hr : ∀ Vs, rs = .ok Vs → f (.mem n ch :: Vs) μ' = some (r, μ'')) (hr2 : rs = .error () → r = .error () ∧ μ'' = μ') :
    HE c k tbl gs (.Call (.Attribute (.Name x xp) nm apos) (e :: es) [] pos) σ μ r μ'' := by
  intro A env Φ s Q E ev S hq he
  obtain ⟨pl, hev⟩ := meth_eq (env := env) (args := e :: es) (o := .Name x xp) (nm := nm) rfl hs hlen hline
  refine MethodCall_ (pl := pl) (h A env Φ s _ _ ev S (fun V' v s' Φ' q a vi => ?_) fun _ _ _ q => by cases q) hev
  cases ok_inj q
  have vi0 := vi
  obtain ⟨xa, rfl, dx, k1, k2, g1, g2, an, ac, mm, q1, q2, q3, q4⟩ := vi
  obtain ⟨L, m, hL⟩ := (ev.toCV.mono a.le).tag
  have I : InstAt s'.heap xa (instObj c.mC dx) c.mC (some (dictOf [⟨g1, .str (Str.ofString "numeric") k1, .ref an⟩, ⟨g2, .str (Str.ofString "characters") k2, .ref ac⟩] mm)) :=
    ⟨(a.ss.tag _ _ q1).2, rfl, rfl, (a.ss.tag _ _ q2).2⟩
  refine method_inst (a.ss.fr hL) ok.kin I h1 h2 h3 ?_ ?_
  · exact getL_none hnn.1 hnn.2
  · refine callWith_vals (P := fun h => ∀ b o, c.hb.get? b = some o → h.get? b = some o) hs (fun h kk => keeper_fn hf h kk) ?_
    refine hl A env Φ' s' pos _ _ (ev.mono a.le) a.ss (fun Vs vs s2 Φ2 q2 a2 va => ⟨a2.ss.keep, ?_⟩) (fun ee s2 Φ2 q2 a2 x => ?_)
    · exact hc A Φ2 s2 Q E _ _ μ' r μ'' (((ev.toCV.mono a.le).mono a2.le).le hk) a2.ss (.cons (vi0.mono a2.le) va) (hr Vs q2) (fun V v s3 Φ3 q3 a3 vi3 => hq _ _ _ _ q3 ((a.trans a2).trans a3) vi3) fun ee s3 Φ3 q3 a3 x => he _ _ _ q3 ((a.trans a2).trans a3) x
    · obtain ⟨y1, y2⟩ := hr2 q2
      subst y2
      exact he _ _ _ y1 (a.trans a2) x
end
end Mine
end
section
open PySem PySem.W PyProof.Rows PySem.Calls
set_option Elab.async false
set_option maxRecDepth 100000
set_option linter.unusedVariables false
namespace Mine

noncomputable def isD : Tag → Bool
  | .fz _ => true
  | .mt _ => true
  | _ => false
noncomputable def LeD (Φ Φ' : Phi) : Prop := ∀ a t, Φ a = some t → isD t = true → Φ' a = some t
theorem Le.toD {Φ Φ' : Phi} (h : Le Φ Φ') : LeD Φ Φ' := fun a t e _ => h a t e
theorem LeD.refl (Φ : Phi) : LeD Φ Φ := fun _ _ h _ => h
theorem LeD.trans {a b c : Phi} (x : LeD a b) (y : LeD b c) : LeD a c := fun i t h d => y i t (x i t h d) d
theorem LeD.toF {Φ Φ' : Phi} (h : LeD Φ Φ') : LeF Φ Φ' := fun a o e => h a _ e rfl
theorem VIn.monoD {mC : Addr} {Φ Φ' : Phi} (hs : LeD Φ Φ') {v : Value} : ∀ {V : Vl}, VIn mC Φ v V → VIn mC Φ' v V
  | .dat _, h => DIn.monoF hs.toF h
  | .mref _, ⟨a, e, q⟩ => ⟨a, e, hs _ _ q rfl⟩
  | .mem _ _, ⟨x, e, dx, k1, k2, h1, h2, an, ac, m, q1, q2, q3, q4⟩ => ⟨x, e, dx, k1, k2, h1, h2, an, ac, m, hs _ _ q1 rfl, hs _ _ q2 rfl, hs _ _ q3 rfl, hs _ _ q4 rfl⟩
  | .raw _, h => h

structure EVS (c : Cx) (Φ : Phi) (A : Around) (env : Env) (k : Nat) (tbl : Tbl) (gs : Gs) (ws : List Nat) (σ : Slots) : Prop extends EV c Φ A env k tbl gs σ where
  one : ∀ i j x, (i, x) ∈ tbl → (j, x) ∈ tbl → i = j
  two : ∀ i x y, (i, x) ∈ tbl → (i, y) ∈ tbl → x = y
  loc : ∃ m, Φ env.locals = some (.fm m)
  stor : ∀ i x, (i, x) ∈ tbl → i ∈ ws → env.kindOf x = some .local ∨ (env.kindOf x = some .cell ∧ ∃ cc v₀, env.cells.lookup x = some cc ∧ Φ cc = some (.cl v₀) ∧ ∀ y, env.cells.lookup y = some cc → y = x)

noncomputable def Own (env : Env) (a : Addr) : Prop := a = env.locals ∨ ∃ x, env.cells.lookup x = some a
noncomputable def LeX (env : Env) (Φ Φ' : Phi) : Prop := ∀ a t, Φ a = some t → ¬ Own env a → Φ' a = some t
theorem Le.toX {Φ Φ' : Phi} (env : Env) (h : Le Φ Φ') : LeX env Φ Φ' := fun a t e _ => h a t e
theorem LeX.refl (env : Env) (Φ : Phi) : LeX env Φ Φ := fun _ _ h _ => h
theorem LeX.trans {env : Env} {a b c : Phi} (x : LeX env a b) (y : LeX env b c) : LeX env a c := fun i t h d => y i t (x i t h d) d

noncomputable def AftX (hb : Heap) (env : Env) (s s' : Shared) (Φ Φ' : Phi) (μ' : Mu) : Prop := ∃ h tk, s' = { s with heap := h, toks := tk } ∧ SS hb h Φ' μ' ∧ LeX env Φ Φ' ∧ LeD Φ Φ'
theorem AftX.ss {hb : Heap} {env : Env} {s s' : Shared} {Φ Φ' : Phi} {μ' : Mu} (x : AftX hb env s s' Φ Φ' μ') : SS hb s'.heap Φ' μ' := by
  obtain ⟨h, tk, rfl, S, _⟩ := x; exact S
theorem AftX.lx {hb : Heap} {env : Env} {s s' : Shared} {Φ Φ' : Phi} {μ' : Mu} (x : AftX hb env s s' Φ Φ' μ') : LeX env Φ Φ' := by
  obtain ⟨h, tk, rfl, _, l, _⟩ := x; exact l
theorem AftX.ld {hb : Heap} {env : Env} {s s' : Shared} {Φ Φ' : Phi} {μ' : Mu} (x : AftX hb env s s' Φ Φ' μ') : LeD Φ Φ' := by
  obtain ⟨h, tk, rfl, _, _, l⟩ := x; exact l
theorem Aft.toX {hb : Heap} (env : Env) {s s' : Shared} {Φ Φ' : Phi} {μ' : Mu} (x : Aft hb s s' Φ Φ' μ') : AftX hb env s s' Φ Φ' μ' := by
  obtain ⟨h, tk, rfl, S, l⟩ := x; exact ⟨h, tk, rfl, S, l.toX env, l.toD⟩
theorem AftX.trans {hb : Heap} {env : Env} {s s' s'' : Shared} {Φ Φ' Φ'' : Phi} {μ' μ'' : Mu} (x : AftX hb env s s' Φ Φ' μ') (y : AftX hb env s' s'' Φ' Φ'' μ'') : AftX hb env s s'' Φ Φ'' μ'' := by
  obtain ⟨h, tk, rfl, _, l, d⟩ := x
  obtain ⟨h', tk', rfl, S, l', d'⟩ := y
  exact ⟨h', tk', rfl, S, l.trans l', d.trans d'⟩
theorem EVS.mono {c : Cx} {Φ Φ' : Phi} (hs : Le Φ Φ') {A : Around} {env : Env} {k : Nat} {tbl : Tbl} {gs : Gs} {ws : List Nat} {σ : Slots} (h : EVS c Φ A env k tbl gs ws σ) : EVS c Φ' A env k tbl gs ws σ :=
  { h.toEV.mono hs with
    one := h.one, two := h.two
    loc := let ⟨m, e⟩ := h.loc; ⟨m, hs _ _ e⟩
    stor := fun i x q r => (h.stor i x q r).imp id fun ⟨a, cc, v, b, d, e⟩ => ⟨a, cc, v, b, hs _ _ d, e⟩ }

theorem ins_get (Φ : Phi) (a b : Addr) (t : Tag) : ins Φ a t b = if b = a then some t else Φ b := rfl
theorem SS.retag {hb h h' : Heap} {Φ : Phi} {μ : Mu} (S : SS hb h Φ μ) {a : Addr} {t t' : Tag} (ha : Φ a = some t) (hd : isD t = false) (hd' : isD t' = false) (hs : ∀ b o, b ≠ a → h.get? b = some o → h'.get? b = some o)
    (ht : TagOk h' (ins Φ a t') μ a t') : SS hb h' (ins Φ a t') μ ∧ LeD Φ (ins Φ a t') := by
  have ld : LeD Φ (ins Φ a t') := fun b u e q => by
    have : b ≠ a := fun z => by rw [z, ha] at e; cases e; rw [hd] at q; cases q
    rw [ins_ne _ _ this]; exact e
  have hn := S.hb_none ha
  refine ⟨⟨fun b o e => hs b o (fun q => by rw [q, hn] at e; cases e) (S.keep b o e), fun b u e => ?_, fun x y i e1 e2 => ?_⟩, ld⟩
  · by_cases q : b = a
    · subst q
      rw [ins_self] at e; cases e
      exact ⟨(S.tag _ _ ha).1, ht⟩
    · rw [ins_ne _ _ q] at e
      exact ⟨(S.tag b u e).1, (S.tag b u e).2.at (fun o ho => hs b o q ho) ld.toF⟩
  · have hx : x ≠ a := fun q => by rw [q, ins_self] at e1; cases e1; cases hd'
    have hy : y ≠ a := fun q => by rw [q, ins_self] at e2; cases e2; cases hd'
    rw [ins_ne _ _ hx] at e1; rw [ins_ne _ _ hy] at e2
    exact S.inj x y i e1 e2

section
variable {c : Cx} {k : Nat} {tbl : Tbl} {gs : Gs} {ws : List Nat} {σ : Slots} {μ μ' μ'' : Mu}

theorem FrameOk.turn {Φ : Phi} {e : Env} {a : Addr} {t' : Tag} (h : FrameOk Φ e) (hp : ∀ m, Φ a = some (.fm m) → ∃ m', t' = .fm m') : FrameOk (ins Φ a t') e := by
  obtain ⟨h1, L, m, h2, h3⟩ := h
  refine ⟨h1, L, ?_⟩
  by_cases q : L = a
  · subst q
    obtain ⟨m', rfl⟩ := hp m h3
    exact ⟨m', h2, ins_self _ _ _⟩
  · exact ⟨m, h2, by rw [ins_ne _ _ q]; exact h3⟩
theorem CV.turn {Φ : Phi} {A : Around} {a : Addr} {t' : Tag} (h : CV Φ A k) (hp : ∀ m, Φ a = some (.fm m) → ∃ m', t' = .fm m') : CV (ins Φ a t') A k :=
  ⟨h.hh, h.dep, h.uni, let ⟨f, l, x, y, z⟩ := h.frs; ⟨f, l, x, fun e he => (y e he).turn hp, z⟩⟩

theorem store_name {A : Around} {env : Env} {Φ : Phi} {s : Shared} {Q : Unit → Shared → Prop} {E : Value → Shared → Prop} {i : Nat} {x : Str} {V : Vl} {v : Value} (ev : EVS c Φ A env k tbl gs ws σ) (S : SS c.hb s.heap Φ μ) (hi : (i, x) ∈ tbl) (hw : i ∈ ws) (hlt : i < σ.length) (vi : VIn c.mC Φ v V)
    (h : ∀ s' Φ', AftX c.hb env s s' Φ Φ' μ → EVS c Φ' A env k tbl gs ws (σ.set i (some V)) → (env.kindOf x = some .local → ∀ a t, a ≠ env.locals → Φ a = some t → Φ' a = some t) → Q () s') : wpAny (model c.prog c.w) A (storeName env x v) Q E s := by
  have names : ∀ Φ', LeD Φ Φ' → NmAt Φ' env x v → (∀ y w, y ≠ x → NmAt Φ env y w → NmAt Φ' env y w) → ∀ j y W, (j, y) ∈ tbl → (σ.set i (some V))[j]? = some (some W) → ∃ u, NmAt Φ' env y u ∧ VIn c.mC Φ' u W := by
    intro Φ' ld nx oth j y W hj hW
    by_cases q : y = x
    · subst q
      obtain rfl := ev.one _ _ _ hi hj
      rw [List.getElem?_set_self hlt] at hW
      cases hW
      exact ⟨v, nx, vi.monoD ld⟩
    · have hne : i ≠ j := fun z => by
        subst z
        exact q (ev.two _ _ _ hj hi)
      rw [List.getElem?_set_ne hne] at hW
      obtain ⟨u, a, b⟩ := ev.names j y W hj hW
      exact ⟨u, oth y u q a, b.monoD ld⟩
  rcases ev.stor i x hi hw with hl | ⟨hc, cc, v₀, h1, h2, h3⟩
  · obtain ⟨m, hm⟩ := ev.loc
    refine wpAny_storeName_local hl (S.tag _ _ hm).2 (fun h' hn hs => ?_) ?_
    · have z := S.retag (t' := .fm fun y => if y = x then some v else m y) hm rfl rfl (fun b o q e => (hs.2 b q).trans e) hn
      have hp : ∀ m₁, Φ env.locals = some (.fm m₁) → ∃ m', Tag.fm (fun y => if y = x then some v else m y) = .fm m' := fun _ _ => ⟨_, rfl⟩
      have lx : LeX env Φ (ins Φ env.locals (.fm fun y => if y = x then some v else m y)) := fun a t e q => by
        rw [ins_ne _ _ (fun z => q (.inl z))]; exact e
      refine h _ _ ⟨h', s.toks + 1, rfl, z.1, lx, z.2⟩ { ev.toCV.turn hp with kind := ev.kind, gl := ev.gl, bi := ev.bi, glob := ev.glob, one := ev.one, two := ev.two, names := ?_, loc := ⟨_, ins_self _ _ _⟩, stor := ?_ } fun _ a t hne e => by rw [ins_ne _ _ hne]; exact e
      · refine names _ z.2 (.inl ⟨hl, _, ins_self _ _ _, if_pos rfl⟩) fun y w hy nm => ?_
        rcases nm with ⟨a, m', b, d⟩ | ⟨c', a, b, d⟩
        · rw [hm] at b; cases b
          exact .inl ⟨a, _, ins_self _ _ _, by rw [if_neg hy]; exact d⟩
        · exact .inr ⟨c', a, b, by rw [ins_ne]; exact d; intro q; rw [q, hm] at d; cases d⟩
      · intro j y hj hjw
        refine (ev.stor j y hj hjw).imp id fun ⟨a, cc, v, b, d, e⟩ => ⟨a, cc, v, b, ?_, e⟩
        rw [ins_ne]; exact d
        intro q; rw [q, hm] at d; cases d
    · rw [ev.kind]; rfl
  · refine wpAny_storeName_cell ev.kind hc h1 (S.tag _ _ h2).2 (fun h' hv hs => ?_)
    have z := S.retag (t' := .cl (some v)) h2 rfl rfl (fun b o q e => (hs.2 b q).trans e) hv
    have hp : ∀ m₁, Φ cc = some (.fm m₁) → ∃ m', Tag.cl (some v) = .fm m' := fun m₁ e => by rw [h2] at e; cases e
    have lx : LeX env Φ (ins Φ cc (.cl (some v))) := fun a t e q => by
      rw [ins_ne _ _ (fun z => q (.inr ⟨x, by rw [z]; exact h1⟩))]; exact e
    refine h _ _ ⟨h', s.toks, rfl, z.1, lx, z.2⟩ { ev.toCV.turn hp with kind := ev.kind, gl := ev.gl, bi := ev.bi, glob := ev.glob, one := ev.one, two := ev.two, names := ?_, loc := ?_, stor := ?_ } fun q => by rw [hc] at q; cases q
    · refine names _ z.2 (.inr ⟨cc, .inl hc, h1, ins_self _ _ _⟩) fun y w hy nm => ?_
      rcases nm with ⟨a, m', b, d⟩ | ⟨c', a, b, d⟩
      · exact .inl ⟨a, m', (by rw [ins_ne]; exact b; intro q; rw [q, h2] at b; cases b), d⟩
      · exact .inr ⟨c', a, b, by rw [ins_ne]; exact d; intro q; exact hy (h3 y (by rw [← q]; exact b))⟩
    · obtain ⟨m, hm⟩ := ev.loc
      exact ⟨m, by rw [ins_ne]; exact hm; intro q; rw [q, h2] at hm; cases hm⟩
    · intro j y hj hjw
      refine (ev.stor j y hj hjw).imp id fun ⟨a, c2, v2, b, d, e⟩ => ?_
      by_cases q : c2 = cc
      · exact ⟨a, c2, some v, b, (by rw [q]; exact ins_self _ _ _), e⟩
      · exact ⟨a, c2, v2, b, (by rw [ins_ne _ _ q]; exact d), e⟩
end
end Mine
end
section
open PySem PySem.W PyProof.Rows PySem.Calls
set_option Elab.async false
set_option maxRecDepth 100000
set_option linter.unusedVariables false
namespace Mine

noncomputable def rangeD (a : Int) (n : Nat) : List Dat := (List.range n).map fun (j : Nat) => Dat.int (a + (j : Int))
inductive IterV (h : Heap) (Φ : Phi) : Value → List Dat → Prop
  | list {v : Value} {ds : List Dat} : DIn Φ v (.list ds) → IterV h Φ v ds
  | tuple {v : Value} {ds : List Dat} : DIn Φ v (.tuple ds) → IterV h Φ v ds
  | range {r : Addr} {a b : Int} {n : Nat} {t u v : Tok} : IsRange h r a b 1 t u v → Builtin.Range.small a b 1 = true → Builtin.Range.rangeSize a b 1 = (n : Int) → IterV h Φ (.ref r) (rangeD a n)

noncomputable def itNames : List String := ["list_iterator", "tuple_iterator", "range_iterator"]
noncomputable def ItObj (o : Obj) : Prop := ∃ n, o.cls = .type n ∧ n ∈ itNames
noncomputable def Walking (c : Cx) (A : Around) (I : Addr) (ds : List Dat) (Φ : Phi) (i : Nat) (h : Heap) : Prop :=
  ∃ fp P St, Walks c.prog c.w A I fp [I] ds.length P St ∧ St i h ∧ (∀ b ∈ fp, b = I ∨ ∃ o, Φ b = some (.fz o)) ∧ (∀ j v, P j v → ∃ d, ds[j]? = some d ∧ DIn Φ v d) ∧
    (∀ j h, St j h → ∃ oI, h.get? I = some oI ∧ ItObj oI)

theorem Aft.pushOt {hb : Heap} {s : Shared} {Φ : Phi} {μ : Mu} (S : SS hb s.heap Φ μ) {L : Addr} {t : Tag} (hL : Φ L = some t) (o : Obj) (tk : Nat) (hf : o.isFreed = false := by rfl) :
    Aft hb s { s with heap := s.heap.push o, toks := tk } Φ (ins Φ s.heap.objs.size (.ot o)) μ :=
  have z := S.new (keeps_push o) (S.none_ge (Nat.le_refl _)) (S.size hL) (t := .ot o) (Heap.get?_push_size _ hf) (fun _ q => by cases q)
  ⟨_, tk, rfl, z.1, z.2⟩

section
variable {c : Cx} {k : Nat} {tbl : Tbl} {gs : Gs} {ws : List Nat} {σ : Slots} {μ μ' μ'' : Mu}

theorem iter_start {A : Around} {Φ : Phi} {s : Shared} {Q : Value → Shared → Prop} {E : Value → Shared → Prop} {xv : Value} {ds : List Dat} {L : Addr} {t : Tag} (hh : A.handled = none) (S : SS c.hb s.heap Φ μ) (hL : Φ L = some t) (x : IterV s.heap Φ xv ds)
    (h : ∀ s' Φ' I oI, Aft c.hb s s' Φ Φ' μ → Φ I = none → Φ' I = some (.ot oI) → Walking c A I ds Φ' 0 s'.heap → Q (.ref I) s') : wpAny (model c.prog c.w) A (pyIter xv) Q E s := by
  have hnI := S.none_ge (Nat.le_refl s.heap.objs.size)
  cases x with
  | list d =>
    cases d with
    | list q da =>
      rename_i ax vs n
      have hl : s.heap.IsList ax vs.toArray := ⟨_, (S.tag _ _ q).2, rfl, _, rfl⟩
      have hne : ax ≠ s.heap.objs.size := Nat.ne_of_lt (S.lt q)
      refine wpAny_pyIter_list hl ?_
      have p := Aft.pushOt S hL { cls := .type "list_iterator", data := .fields #[.ref ax, .int 0 0] } s.toks
      refine h _ _ _ _ p hnI (ins_self _ _ _) ⟨[s.heap.objs.size, ax], fun j v => vs.toArray[j]? = some v, fun j h => h.IsListIter s.heap.objs.size ax j ∧ h.IsList ax vs.toArray, ?_, ⟨⟨_, Heap.get?_push_size _ rfl, rfl, rfl⟩, hl.push _⟩, ?_, ?_, ?_⟩
      · have W := Walks.list (prog := c.prog) (w := c.w) hh s.heap.objs.size ax hne vs.toArray
        have e : vs.toArray.size = ds.length := by rw [List.size_toArray, da.length]
        rw [e] at W; exact W
      · intro b hb
        rcases List.mem_cons.mp hb with rfl | hb
        · exact .inl rfl
        · rw [List.mem_singleton.mp hb]; exact .inr ⟨_, p.le _ _ q⟩
      · intro j v hv
        obtain ⟨d, e1, e2⟩ := da.get' (by simpa using hv)
        exact ⟨d, e1, e2.mono p.le⟩
      · rintro j h' ⟨⟨o, ho, hc, _⟩, _⟩
        exact ⟨o, ho, _, hc, by decide⟩
  | tuple d =>
    cases d with
    | tuple q da =>
      rename_i ax vs n
      have hl : s.heap.IsTuple ax vs.toArray := ⟨_, (S.tag _ _ q).2, rfl, _, rfl⟩
      have hne : ax ≠ s.heap.objs.size := Nat.ne_of_lt (S.lt q)
      refine wpAny_pyIter_tuple hl ?_
      have p := Aft.pushOt S hL { cls := .type "tuple_iterator", data := .fields #[.ref ax, .int 0 0] } s.toks
      refine h _ _ _ _ p hnI (ins_self _ _ _) ⟨[s.heap.objs.size, ax], fun j v => vs.toArray[j]? = some v, fun j h => h.IsTupleIter s.heap.objs.size ax j ∧ h.IsTuple ax vs.toArray, ?_, ⟨⟨_, Heap.get?_push_size _ rfl, rfl, rfl⟩, ⟨_, (p.ss.tag _ _ (p.le _ _ q)).2, rfl, _, rfl⟩⟩, ?_, ?_, ?_⟩
      · have W := Walks.tuple (prog := c.prog) (w := c.w) hh s.heap.objs.size ax hne vs.toArray
        have e : vs.toArray.size = ds.length := by rw [List.size_toArray, da.length]
        rw [e] at W; exact W
      · intro b hb
        rcases List.mem_cons.mp hb with rfl | hb
        · exact .inl rfl
        · rw [List.mem_singleton.mp hb]; exact .inr ⟨_, p.le _ _ q⟩
      · intro j v hv
        obtain ⟨d, e1, e2⟩ := da.get' (by simpa using hv)
        exact ⟨d, e1, e2.mono p.le⟩
      · rintro j h' ⟨⟨o, ho, hc, _⟩, _⟩
        exact ⟨o, ho, _, hc, by decide⟩
  | range hr hs hn =>
    rename_i r a b n t u v
    refine wpAny_pyIter_range hr hs ?_
    have p := Aft.pushOt S hL { cls := .type "range_iterator", data := .fields #[rawInt a, rawInt (Builtin.Range.rangeSize a b 1), rawInt 1] } s.toks
    have W : Walks c.prog c.w A s.heap.objs.size [s.heap.objs.size] [s.heap.objs.size] n (fun i v => i < n ∧ ∃ t, v = .int (a + i * 1) t)
      (fun i h => IsRangeIter h s.heap.objs.size (a + (i : Nat) * 1) ((n : Int) - (i : Nat)) 1) := (Walks.range hh _ a 1 n).bound
    refine h _ _ _ _ p hnI (ins_self _ _ _) ⟨[s.heap.objs.size], fun i v => i < n ∧ ∃ t, v = .int (a + i * 1) t, fun i h => IsRangeIter h s.heap.objs.size (a + (i : Nat) * 1) ((n : Int) - (i : Nat)) 1, ?_, ?_, ?_, ?_, ?_⟩
    · have e : (rangeD a n).length = n := by simp [rangeD]
      rw [e]; exact W
    · show IsRangeIter _ _ _ _ _
      rw [hn]; simpa using Heap.get?_push_size s.heap rfl
    · intro b hb; exact .inl (List.mem_singleton.mp hb)
    · rintro j v ⟨hj, t, rfl⟩
      refine ⟨.int (a + (j : Int)), ?_, by rw [Int.mul_one]; exact .int _ _⟩
      simp [rangeD, hj]
    · intro j h' hh'
      exact ⟨_, hh', _, rfl, by decide⟩

theorem NmAt.ot {Φ : Phi} {env : Env} {x : Str} {v : Value} {a : Addr} {o o' : Obj} (ha : Φ a = some (.ot o)) (h : NmAt Φ env x v) : NmAt (ins Φ a (.ot o')) env x v := by
  rcases h with ⟨h1, m, h2, h3⟩ | ⟨cc, h1, h2, h3⟩
  · exact .inl ⟨h1, m, (by rw [ins_ne]; exact h2; intro q; rw [q, ha] at h2; cases h2), h3⟩
  · exact .inr ⟨cc, h1, h2, (by rw [ins_ne]; exact h3; intro q; rw [q, ha] at h3; cases h3)⟩
theorem EVS.ot {A : Around} {env : Env} {Φ : Phi} {a : Addr} {o o' : Obj} (ev : EVS c Φ A env k tbl gs ws σ) (ha : Φ a = some (.ot o)) (hd : LeD Φ (ins Φ a (.ot o'))) : EVS c (ins Φ a (.ot o')) A env k tbl gs ws σ :=
  { ev.toCV.turn (fun m e => by rw [ha] at e; cases e) with
    kind := ev.kind, gl := ev.gl, bi := ev.bi, glob := ev.glob, one := ev.one, two := ev.two
    names := fun i x V h1 h2 => let ⟨v, a1, b1⟩ := ev.names i x V h1 h2; ⟨v, a1.ot ha, b1.monoD hd⟩
    loc := let ⟨m, e⟩ := ev.loc; ⟨m, by rw [ins_ne]; exact e; intro q; rw [q, ha] at e; cases e⟩
    stor := fun i x h1 h2 => (ev.stor i x h1 h2).imp id fun ⟨a1, cc, v, b1, d, e⟩ => ⟨a1, cc, v, b1, (by rw [ins_ne]; exact d; intro q; rw [q, ha] at d; cases d), e⟩ }

theorem Walking.monoD {A : Around} {I : Addr} {ds : List Dat} {Φ Φ' : Phi} {i : Nat} {h : Heap} (hd : LeD Φ Φ') (x : Walking c A I ds Φ i h) : Walking c A I ds Φ' i h := by
  obtain ⟨fp, P, St, h1, h2, h3, h4, h5⟩ := x
  exact ⟨fp, P, St, h1, h2, fun b hb => (h3 b hb).imp id fun ⟨o, e⟩ => ⟨o, hd _ _ e rfl⟩, fun j v hv => let ⟨d, a, b⟩ := h4 j v hv; ⟨d, a, b.monoF hd.toF⟩, h5⟩
theorem Walking.body {A : Around} {I : Addr} {ds : List Dat} {Φ Φ' : Phi} {i : Nat} {h h' : Heap} {oI : Obj} (x : Walking c A I ds Φ i h) (S : SS c.hb h Φ μ) (hI : Φ I = some (.ot oI)) (S' : SS c.hb h' Φ' μ') (hd : LeD Φ Φ') (hI' : Φ' I = some (.ot oI)) : Walking c A I ds Φ' i h' := by
  obtain ⟨fp, P, St, h1, h2, h3, h4, h5⟩ := x
  refine ⟨fp, P, St, h1, h1.frame i h h' h2 (fun b hb o ho => ?_), fun b hb => (h3 b hb).imp id fun ⟨o, e⟩ => ⟨o, hd _ _ e rfl⟩, fun j v hv => let ⟨d, a, b⟩ := h4 j v hv; ⟨d, a, b.monoF hd.toF⟩, h5⟩
  rcases h3 b hb with rfl | ⟨o', e⟩
  · have a : h.get? b = some oI := (S.tag _ _ hI).2
    rw [a] at ho; cases ho
    exact (S'.tag _ _ hI').2
  · have a : h.get? b = some o' := (S.tag _ _ e).2
    rw [a] at ho; cases ho
    exact (S'.tag _ _ (hd _ _ e rfl)).2

theorem letgo {A : Around} {s : Shared} {E : Value → Shared → Prop} {target : Expr} {I : Addr} {oI : Obj} {v : Value} {Q : Unit → Shared → Prop} (hI : s.heap.get? I = some oI) (ho : ItObj oI) (h : Q () s) : wpAny (model c.prog c.w) A (letOwnedTupleGo target (.ref I) v) Q E s := by
  obtain ⟨n, hn, hm⟩ := ho
  have hc : (["enumerate", "zip", "dict_itemiterator", "dict_reverseitemiterator", "odict_iterator", "itertools.zip_longest", "itertools.pairwise"].contains n) = false := by
    simp only [itNames, List.mem_cons, List.mem_nil_iff, or_false] at hm
    rcases hm with rfl | rfl | rfl <;> decide
  have body : ∀ a : Addr, wpAny (model c.prog c.w) A (do
      let o ← load I
      match o.cls, o.data with
      | .type n, .fields vs =>
        if ["enumerate", "zip", "dict_itemiterator", "dict_reverseitemiterator", "odict_iterator", "itertools.zip_longest", "itertools.pairwise"].contains n && vs[0]? == some (rawInt a) then
          rule "for.unpacks-the-owned-tuple"
          updateField I 0 .none
      | _, _ => pure ()) Q E s := by
    intro a
    refine wpAny_bind (wpAny_load hI ?_)
    rw [hn]
    cases oI.data <;> try exact wpAny_pure h
    rename_i vs
    show wpAny _ A (if (["enumerate", "zip", "dict_itemiterator", "dict_reverseitemiterator", "odict_iterator", "itertools.zip_longest", "itertools.pairwise"].contains n && vs[0]? == some (rawInt a)) = true then _ else _) Q E s
    rw [hc, Bool.false_and, if_neg Bool.false_ne_true]
    exact wpAny_pure h
  unfold letOwnedTupleGo
  cases target <;> first | exact wpAny_pure h | skip
  all_goals (cases v <;> first | exact wpAny_pure h | exact body _)
end
end Mine
end
section
open PySem PySem.W PyProof.Rows PySem.Calls
set_option Elab.async false
set_option maxRecDepth 100000
set_option linter.unusedVariables false
namespace Mine

inductive Tg where
  | one (i : Nat)
  | tup (is : List Nat)
noncomputable def setAll : List Nat → List Dat → Slots → Option Slots
  | [], [], σ => some σ
  | i :: is, d :: ds, σ => if i < σ.length then setAll is ds (σ.set i (some (.dat d))) else none
  | _, _, _ => none
noncomputable def setT : Tg → Dat → Slots → Option Slots
  | .one i, d, σ => if i < σ.length then some (σ.set i (some (.dat d))) else none
  | .tup is, .tuple ds, σ => setAll is ds σ
  | _, _, _ => none
inductive MN (tbl : Tbl) (ws : List Nat) : List Nat → List Expr → Prop
  | nil : MN tbl ws [] []
  | cons {i : Nat} {x : Str} {p : Pos} {is : List Nat} {es : List Expr} : (i, x) ∈ tbl → i ∈ ws → MN tbl ws is es → MN tbl ws (i :: is) (.Name x p :: es)
inductive MT (tbl : Tbl) (ws : List Nat) : Tg → Expr → Prop
  | one {i : Nat} {x : Str} {p : Pos} : (i, x) ∈ tbl → i ∈ ws → MT tbl ws (.one i) (.Name x p)
  | tup {is : List Nat} {es : List Expr} {kk : Nat} {p : Pos} : MN tbl ws is es → MT tbl ws (.tup is) (.Tuple es kk p)

section
variable {c : Cx} {k : Nat} {tbl : Tbl} {gs : Gs} {ws : List Nat} {σ σ' : Slots} {μ μ' μ'' : Mu}

noncomputable def OnlyL (env : Env) (Φ Φ' : Phi) : Prop := ∀ a t, a ≠ env.locals → Φ a = some t → Φ' a = some t
theorem OnlyL.trans {env : Env} {a b d : Phi} (x : OnlyL env a b) (y : OnlyL env b d) : OnlyL env a d := fun i t h e => y i t h (x i t h e)

theorem MN.each {is : List Nat} {es : List Expr} {env : Env} (h : MN tbl ws is es) : (assignEach es env).length = es.length ∧ (assignEach es env).findIdx? (·.1) = none ∧ (assignEach es env).map (·.2) = es.map fun e => assign e env := by
  induction h with
  | nil => exact ⟨rfl, rfl, rfl⟩
  | cons _ _ _ ih =>
    obtain ⟨a, b, d⟩ := ih
    refine ⟨congrArg (· + 1) a, ?_, ?_⟩
    · show List.findIdx? _ ((false, _) :: assignEach _ env) = none
      rw [List.findIdx?_cons]
      simp [b]
    · show _ :: List.map _ (assignEach _ env) = _
      rw [d]; rfl
theorem assign_all {A : Around} {env : Env} {E : Value → Shared → Prop} {is : List Nat} {es : List Expr} (mn : MN tbl ws is es) : ∀ {σ σ' : Slots} {ds : List Dat} {vs : List Value} {Φ : Phi} {s : Shared} {Q : Unit → Shared → Prop},
    EVS c Φ A env k tbl gs ws σ → SS c.hb s.heap Φ μ → DAll Φ vs ds → setAll is ds σ = some σ' →
    (∀ s' Φ', AftX c.hb env s s' Φ Φ' μ → EVS c Φ' A env k tbl gs ws σ' → ((∀ i x, (i, x) ∈ tbl → i ∈ ws → env.kindOf x = some .local) → OnlyL env Φ Φ') → Q () s') →
    wpAny (model c.prog c.w) A (assignInOrder (es.map fun e => assign e env) vs) Q E s := by
  induction mn with
  | nil =>
    intro σ σ' ds vs Φ s Q ev S da e h
    cases ds with
    | nil => cases e; cases da; exact assignInOrder_nil (h s Φ ((Aft.refl S).toX env) ev fun _ _ _ _ x => x)
    | cons => cases e
  | cons hi hw _ ih =>
    intro σ σ' ds vs Φ s Q ev S da e h
    cases ds with
    | nil => cases e
    | cons d ds =>
      cases da with
      | cons dv da =>
        simp only [setAll] at e
        split at e
        · rename_i hlt
          refine assignInOrder_cons (wpAny_assign_Name (store_name ev S hi hw hlt (V := .dat d) dv fun s1 Φ1 a1 ev1 l1 => ?_))
          refine ih ev1 a1.ss (da.monoF a1.ld.toF) e fun s2 Φ2 a2 ev2 l2 => h s2 Φ2 (a1.trans a2) ev2 fun q => ?_
          exact OnlyL.trans (fun a t x y => l1 (q _ _ hi hw) a t x y) (l2 q)
        · cases e
theorem assign_tgt {A : Around} {env : Env} {E : Value → Shared → Prop} {tg : Tg} {e : Expr} {d : Dat} {v : Value} {Φ : Phi} {s : Shared} {Q : Unit → Shared → Prop} (mt : MT tbl ws tg e) (ev : EVS c Φ A env k tbl gs ws σ) (S : SS c.hb s.heap Φ μ) (dv : DIn Φ v d) (hs : setT tg d σ = some σ')
    (h : ∀ s' Φ', AftX c.hb env s s' Φ Φ' μ → EVS c Φ' A env k tbl gs ws σ' → ((∀ i x, (i, x) ∈ tbl → i ∈ ws → env.kindOf x = some .local) → OnlyL env Φ Φ') → Q () s') : wpAny (model c.prog c.w) A (assign e env v) Q E s := by
  cases mt with
  | one hi hw =>
    simp only [setT] at hs
    split at hs
    · rename_i hlt
      cases hs
      exact wpAny_assign_Name (store_name ev S hi hw hlt (V := .dat d) dv fun s1 Φ1 a1 ev1 l1 => h s1 Φ1 a1 ev1 fun q a t x y => l1 (q _ _ hi hw) a t x y)
    · cases hs
  | tup mn =>
    cases dv with
    | tuple q da =>
      rename_i a vs n ds
      have ht : IsTup s.heap a vs.toArray := ⟨_, (S.tag _ _ q).2, rfl, _, rfl⟩
      obtain ⟨e1, e2, e3⟩ := mn.each (env := env)
      have len : ∀ {is : List Nat} {es : List Expr}, MN tbl ws is es → ∀ {ds : List Dat} {σ σ' : Slots}, setAll is ds σ = some σ' → es.length = ds.length := by
        intro is es m
        induction m with
        | nil => intro ds σ σ' h; cases ds with
          | nil => rfl
          | cons => cases h
        | cons _ _ _ ih => intro ds σ σ' h; cases ds with
          | nil => cases h
          | cons d ds =>
            simp only [setAll] at h
            split at h
            · rw [List.length_cons, List.length_cons, ih h]
            · cases h
      refine assign_Tuple_tuple ev.hh ht (by rw [e1, len mn hs, List.size_toArray, da.length]) e2 fun h' he => ?_
      rw [e3]
      have k' : ∀ b o, s.heap.get? b = some o → h'.get? b = some o := fun b o e => he b o (Nat.ne_of_lt (Heap.lt_size e)) e
      have S1 : SS c.hb h' Φ μ := S.grow k'
      refine assign_all (s := { s with heap := h' }) mn ev S1 da hs fun s2 Φ2 a2 ev2 l2 => h s2 Φ2 ?_ ev2 l2
      obtain ⟨hh, tk, e, r⟩ := a2
      exact ⟨hh, tk, e, r⟩
    | none => cases hs
    | bool => cases hs
    | int => cases hs
    | str => cases hs
    | list => cases hs

theorem relabel_lookup {scope : Scope} {env : Env} {x : Str} : (relabel scope env).names.lookup x = (scope.names.lookup x).map fun kd => if (kd == .free && env.scope.kind == .function && env.kindOf x == some .cell) then NameKind.cell else kd := by
  unfold relabel
  dsimp only
  induction scope.names with
  | nil => rfl
  | cons p r ih =>
    obtain ⟨n, kd⟩ := p
    cases hx : x == n with
    | true =>
      obtain rfl := beq_iff_eq.mp hx
      by_cases h : (kd == NameKind.free && env.scope.kind == ScopeKind.function && env.kindOf x == some NameKind.cell) = true
      · simp only [List.map_cons, List.lookup_cons, hx, Option.map_some, if_pos h]
      · simp only [List.map_cons, List.lookup_cons, hx, Option.map_some, if_neg h]
    | false =>
      have : ∀ kd' : NameKind, List.lookup x ((n, kd') :: (r.map fun x => match x with | (n, kd) => if (kd == NameKind.free && env.scope.kind == ScopeKind.function && env.kindOf n == some NameKind.cell) = true then (n, NameKind.cell) else (n, kd))) = List.lookup x (r.map fun x => match x with | (n, kd) => if (kd == NameKind.free && env.scope.kind == ScopeKind.function && env.kindOf n == some NameKind.cell) = true then (n, NameKind.cell) else (n, kd)) := fun kd' => by rw [List.lookup_cons, hx]
      rw [List.map_cons]
      show List.lookup x ((if _ then _ else _) :: _) = _
      split
      · rw [this, ih, List.lookup_cons, hx]
      · rw [this, ih, List.lookup_cons, hx]

noncomputable def frees (names : List (Str × NameKind)) : List Str := (names.filter (·.2 == .free)).map (·.1)
theorem closure_of {scope : Scope} {env : Env} (h : ∀ x ∈ frees scope.names, ∃ a, env.cells.lookup x = some a) : ∃ cl, closureFor scope env = pure cl ∧ ∀ x ∈ frees scope.names, cl.lookup x = env.cells.lookup x := by
  unfold closureFor
  have key : ∀ (names : List (Str × NameKind)) (acc : List (Str × Addr)), (∀ x ∈ frees names, ∃ a, env.cells.lookup x = some a) → ∃ cl, (forIn names acc fun x (r : List (Str × Addr)) => match x with
      | (name, kind) => if (kind == .free) = true then do let a ← cellOf env name; pure (ForInStep.yield ((name, a) :: r)) else pure (ForInStep.yield r) : Sem (List (Str × Addr))) = pure cl ∧
      ∀ x, (x ∈ frees names → cl.lookup x = env.cells.lookup x) ∧ (x ∉ frees names → cl.lookup x = acc.lookup x) := by
    intro names
    induction names with
    | nil => intro acc _; exact ⟨acc, by rw [List.forIn_nil], fun x => ⟨fun q => (nomatch q), fun _ => rfl⟩⟩
    | cons p r ih =>
      intro acc hf
      obtain ⟨n, kd⟩ := p
      by_cases hk : (kd == .free) = true
      · have hn : n ∈ frees ((n, kd) :: r) := by simp [frees, hk]
        obtain ⟨a, ha⟩ := hf n hn
        obtain ⟨cl, e1, e2⟩ := ih ((n, a) :: acc) fun x hx => hf x (by simp [frees, hk] at hx ⊢; exact .inr hx)
        refine ⟨cl, ?_, fun x => ?_⟩
        · rw [List.forIn_cons]
          have hc : cellOf env n = pure a := by unfold cellOf; rw [ha]
          simp only [hk, if_true, hc]
          exact e1
        · by_cases hx : x ∈ frees r
          · exact ⟨fun _ => (e2 x).1 hx, fun q => absurd (by simp [frees, hk] at hx ⊢; exact .inr hx) q⟩
          · have h3 := (e2 x).2 hx
            rw [List.lookup_cons] at h3
            cases hxn : x == n with
            | true =>
              obtain rfl := beq_iff_eq.mp hxn
              rw [hxn] at h3
              exact ⟨fun _ => by rw [h3, ha], fun q => absurd hn q⟩
            | false =>
              rw [hxn] at h3
              refine ⟨fun q => absurd q ?_, fun _ => h3⟩
              intro q
              simp only [frees, List.filter_cons, hk, if_true, List.map_cons, List.mem_cons] at q
              rcases q with q | q
              · subst q; simp at hxn
              · exact hx q
      · obtain ⟨cl, e1, e2⟩ := ih acc fun x hx => hf x (by simp [frees, hk] at hx ⊢; exact hx)
        refine ⟨cl, ?_, fun x => ?_⟩
        · rw [List.forIn_cons]
          simp only [hk, if_false]
          exact e1
        · have : frees ((n, kd) :: r) = frees r := by simp [frees, hk]
          rw [this]; exact e2 x
  obtain ⟨cl, e1, e2⟩ := key scope.names [] h
  refine ⟨cl, ?_, fun x hx => (e2 x).1 hx⟩
  exact Eq.trans (congrArg (fun (t : Sem (List (Str × Addr))) => t >>= fun s => pure s) e1) rfl
end
end Mine
end
section
open PySem PySem.W PyProof.Rows PySem.Calls
set_option Elab.async false
set_option maxRecDepth 100000
set_option linter.unusedVariables false
namespace Mine

noncomputable def drp (Φ : Phi) (a : Addr) : Phi := fun b => if b = a then none else Φ b
theorem drp_ne (Φ : Phi) {a b : Addr} (h : b ≠ a) : drp Φ a b = Φ b := if_neg h
theorem SS.drop {hb h h' : Heap} {Φ : Phi} {μ : Mu} (S : SS hb h Φ μ) {a : Addr} {t : Tag} (ha : Φ a = some t) (hd : isD t = false) (hs : ∀ b o, b ≠ a → h.get? b = some o → h'.get? b = some o) : SS hb h' (drp Φ a) μ ∧ LeD Φ (drp Φ a) := by
  have ld : LeD Φ (drp Φ a) := fun b u e q => by
    have : b ≠ a := fun z => by rw [z, ha] at e; cases e; rw [hd] at q; cases q
    rw [drp_ne _ this]; exact e
  have hn := S.hb_none ha
  have un : ∀ {b u}, drp Φ a b = some u → b ≠ a ∧ Φ b = some u := fun {b u} e => by
    unfold drp at e
    split at e
    · cases e
    · rename_i q; exact ⟨q, e⟩
  refine ⟨⟨fun b o e => hs b o (fun q => by rw [q, hn] at e; cases e) (S.keep b o e), fun b u e => ?_, fun x y i e1 e2 => S.inj x y i (un e1).2 (un e2).2⟩, ld⟩
  obtain ⟨q, e⟩ := un e
  exact ⟨(S.tag b u e).1, (S.tag b u e).2.at (fun o ho => hs b o q ho) ld.toF⟩
theorem SS.freeze {hb h : Heap} {Φ : Phi} {μ : Mu} (S : SS hb h Φ μ) {a : Addr} {o : Obj} (ha : Φ a = some (.ot o)) : SS hb h (ins Φ a (.fz o)) μ ∧ LeD Φ (ins Φ a (.fz o)) := by
  have ld : LeD Φ (ins Φ a (.fz o)) := fun b u e q => by
    have : b ≠ a := fun z => by rw [z, ha] at e; cases e; cases q
    rw [ins_ne _ _ this]; exact e
  refine ⟨⟨S.keep, fun b u e => ?_, fun x y i e1 e2 => ?_⟩, ld⟩
  · by_cases q : b = a
    · subst q
      rw [ins_self] at e; cases e
      exact ⟨(S.tag _ _ ha).1, (S.tag _ _ ha).2⟩
    · rw [ins_ne _ _ q] at e
      exact ⟨(S.tag b u e).1, (S.tag b u e).2.at (fun _ ho => ho) ld.toF⟩
  · have hx : x ≠ a := fun q => by rw [q, ins_self] at e1; cases e1
    have hy : y ≠ a := fun q => by rw [q, ins_self] at e2; cases e2
    rw [ins_ne _ _ hx] at e1; rw [ins_ne _ _ hy] at e2
    exact S.inj x y i e1 e2
theorem SS.turnOt {hb h h' : Heap} {Φ : Phi} {μ : Mu} (S : SS hb h Φ μ) {a : Addr} {o o' : Obj} (ha : Φ a = some (.ot o)) (hs : ∀ b x, b ≠ a → h.get? b = some x → h'.get? b = some x) (ho : h'.get? a = some o') : SS hb h' (ins Φ a (.ot o')) μ ∧ LeD Φ (ins Φ a (.ot o')) :=
  S.retag ha rfl rfl hs ho
theorem Le.turnOt {Φ₀ Φ : Phi} {a : Addr} {t : Tag} (h : Le Φ₀ Φ) (hn : Φ₀ a = none) : Le Φ₀ (Mine.ins Φ a t) := fun b u e => by
  have : b ≠ a := fun q => by rw [q, hn] at e; cases e
  rw [ins_ne _ _ this]; exact h b u e

noncomputable def clr (ws : List Nat) (σ : Slots) : Slots := σ.mapIdx fun i v => if ws.contains i then none else v
theorem clr_none {ws : List Nat} {σ : Slots} {i : Nat} {V : Vl} (hi : i ∈ ws) : (clr ws σ)[i]? ≠ some (some V) := by
  unfold clr
  rw [List.getElem?_mapIdx]
  intro h
  cases hs : σ[i]? with
  | none => rw [hs] at h; cases h
  | some v => rw [hs] at h; simp [hi] at h
theorem clr_some {ws : List Nat} {σ : Slots} {i : Nat} {V : Vl} (h : (clr ws σ)[i]? = some (some V)) : σ[i]? = some (some V) ∧ i ∉ ws := by
  unfold clr at h
  rw [List.getElem?_mapIdx] at h
  cases hs : σ[i]? with
  | none => rw [hs] at h; cases h
  | some v =>
    rw [hs] at h
    simp only [Option.map_some, Option.some.injEq] at h
    split at h
    · cases h
    · rename_i q; exact ⟨by rw [h], by simpa using q⟩

theorem setAll_keeps {ws : List Nat} : ∀ {is : List Nat} {ds : List Dat} {σ σ' : Slots}, (∀ i ∈ is, i ∈ ws) → setAll is ds σ = some σ' → ∀ i, i ∉ ws → σ'[i]? = σ[i]?
  | [], [], _, _, _, e, i, _ => by cases e; rfl
  | j :: is, d :: ds, σ, σ', hw, e, i, hi => by
    simp only [setAll] at e
    split at e
    · rw [setAll_keeps (fun x hx => hw x (.tail _ hx)) e i hi]
      exact List.getElem?_set_ne (fun (q : j = i) => hi (by rw [← q]; exact hw j (.head _)))
    · cases e
  | [], _ :: _, _, _, _, e, _, _ => by cases e
  | _ :: _, [], _, _, _, e, _, _ => by cases e
theorem MN.mem {tbl : Tbl} {ws : List Nat} {is : List Nat} {es : List Expr} (h : MN tbl ws is es) : ∀ i ∈ is, i ∈ ws := by
  induction h with
  | nil => intro i hi; cases hi
  | cons _ hw _ ih => intro i hi; rcases List.mem_cons.mp hi with rfl | hi; exact hw; exact ih i hi
theorem setT_keeps {tbl : Tbl} {ws : List Nat} {tg : Tg} {e : Expr} {d : Dat} {σ σ' : Slots} (mt : MT tbl ws tg e) (h : setT tg d σ = some σ') : ∀ i, i ∉ ws → σ'[i]? = σ[i]? := by
  cases mt with
  | one _ hw =>
    simp only [setT] at h
    split at h
    · cases h; intro i hi; exact List.getElem?_set_ne (fun q => hi (by rw [← q]; exact hw))
    · cases h
  | tup mn =>
    cases d <;> first | (cases h; done) | skip
    exact setAll_keeps mn.mem h
theorem EVS.weaken {c : Cx} {Φ : Phi} {A : Around} {env : Env} {k : Nat} {tbl : Tbl} {gs : Gs} {ws : List Nat} {σ σ' : Slots} (h : EVS c Φ A env k tbl gs ws σ) (hw : ∀ (i : Nat) (V : Vl), σ'[i]? = some (some V) → σ[i]? = some (some V)) : EVS c Φ A env k tbl gs ws σ' :=
  { h with names := fun i x V a b => h.names i x V a (hw i V b) }

noncomputable def tstC (t : Option (Slots → Mu → RR Bool)) (σ : Slots) (μ : Mu) : RR Bool := match t with
  | none => some (Except.ok true, μ)
  | some t => t σ μ
noncomputable def onOk {α β : Type} (r : RR α) (k : α → Mu → Option β) : Option β := match r with
  | some (.ok a, μ) => k a μ
  | _ => none
noncomputable def onDat {β : Type} (V : Vl) (k : Dat → Option β) : Option β := match V with
  | .dat d => k d
  | _ => none
theorem onOk_at {α β : Type} {r : RR α} {k : α → Mu → Option β} {z : β} (e : onOk r k = some z) : ∃ a μ, r = some (.ok a, μ) ∧ k a μ = some z := by
  cases r with
  | none => cases e
  | some p =>
    obtain ⟨x, μ⟩ := p
    cases x with
    | error _ => cases e
    | ok a => exact ⟨a, μ, rfl, e⟩
theorem onDat_at {β : Type} {V : Vl} {k : Dat → Option β} {z : β} (e : onDat V k = some z) : ∃ d, V = .dat d ∧ k d = some z := by
  cases V with
  | dat d => exact ⟨d, rfl, e⟩
  | mref => cases e
  | mem => cases e
  | raw => cases e
noncomputable def evComp (f : Slots → Mu → RR Vl) (t : Option (Slots → Mu → RR Bool)) (tg : Tg) (σ : Slots) : List Dat → Mu → Option (List Dat × Mu)
  | [], μ => some ([], μ)
  | d :: ds, μ => (setT tg d σ).bind fun σ1 => onOk (tstC t σ1 μ) fun b μ1 => cond b (onOk (f σ1 μ1) fun V μ2 => onDat V fun y => (evComp f t tg σ ds μ2).map fun p => (y :: p.1, p.2)) (evComp f t tg σ ds μ1)
section
variable {f : Slots → Mu → RR Vl} {t : Option (Slots → Mu → RR Bool)} {tg : Tg} {d y : Dat} {ds ys : List Dat} {σ σ1 : Slots} {μ μ1 μ2 : Mu}
theorem evComp_cons : evComp f t tg σ (d :: ds) μ = (setT tg d σ).bind fun σ1 => onOk (tstC t σ1 μ) fun b μ1 => cond b (onOk (f σ1 μ1) fun V μ2 => onDat V fun y => (evComp f t tg σ ds μ2).map fun p => (y :: p.1, p.2)) (evComp f t tg σ ds μ1) := rfl
theorem evComp_go {p : List Dat × Mu} (hs : setT tg d σ = some σ1) (ht : tstC t σ1 μ = some (.ok true, μ1)) (hf : f σ1 μ1 = some (.ok (.dat y), μ2)) (hr : evComp f t tg σ ds μ2 = some p) : evComp f t tg σ (d :: ds) μ = some (y :: p.1, p.2) := by
  rw [evComp_cons, hs, Option.bind_some, ht]; show onOk (f σ1 μ1) _ = _; rw [hf]; show (evComp f t tg σ ds μ2).map _ = _; rw [hr]; rfl
theorem evComp_skip (hs : setT tg d σ = some σ1) (ht : tstC t σ1 μ = some (.ok false, μ1)) : evComp f t tg σ (d :: ds) μ = evComp f t tg σ ds μ1 := by
  rw [evComp_cons, hs, Option.bind_some, ht]; rfl
end

section
variable {c : Cx} {k : Nat} {tbl : Tbl} {gs : Gs} {ws : List Nat} {σ : Slots} {μ μ' μ'' : Mu}

theorem codeAny_compLoop_own {A : Around} {R : Result → Shared → Prop} {s : Shared} {prog : Program} {w : World} {elt target iter : Expr} {ifs : List Expr} {scope : Scope} {pos : Pos} {it acc : Value} {env : Env} (I : Nat → Shared → Prop)
    (turn : ∀ n s, I n s → wpAny (model prog w) A (pyNext it) (fun r s₁ => match r with
      | none => R (.ok .next) s₁
      | some v => wpAny (model prog w) A (letOwnedTupleGo target it v) (fun _ s₁' => wpAny (model prog w) A (assign target env v) (fun _ s₂ =>
          wpAny (model prog w) A (forIn ifs true fun c r => if r = true then do let ok ← isTrue c env (eval c env); pure (ForInStep.yield ok) else pure (ForInStep.yield r)) (fun ok s₃ =>
            if ok = true then wpAny (model prog w) A (eval elt env) (fun x s₄ =>
              wpAny (model prog w) A (call (.builtin "list.append") [acc, x]) (fun _ s₅ => ∃ m, m < n ∧ I m s₅) (notedBy (model prog w) A env fun e s' => R (.error e) s') s₄) (notedBy (model prog w) A env fun e s' => R (.error e) s') s₃
            else ∃ m, m < n ∧ I m s₃) (notedBy (model prog w) A env fun e s' => R (.error e) s') s₂)
          (notedBy (model prog w) A env fun e s' => R (.error e) s') s₁') (notedBy (model prog w) A env fun e s' => R (.error e) s') s₁) (notedBy (model prog w) A env fun e s' => R (.error e) s') s)
    (n : Nat) (h : I n s) : codeAny (model prog w) A (.compLoop (.ListComp elt [⟨target, iter, ifs, 0⟩] scope pos) 0 it acc env) R s := by
  refine codeAny_loop rfl I (fun n s hI => ?_) n h
  show wpAny _ A ((compTurn (.ListComp elt [⟨target, iter, ifs, 0⟩] scope pos) 0 it acc env).onRaise (fun x => do noteFrame x env; theTreesLotGoes x)) _ _ s
  refine wpAny_noted ?_
  rw [compTurn_list]
  refine wpAny_bind (wpAny_standAt (wpAny_bind (wpAny_mono (turn n s hI) (fun r s₁ h₁ => ?_) fun _ _ h' => h')))
  cases r with
  | none => exact wpAny_pure h₁
  | some v =>
    refine wpAny_bind (wpAny_mono h₁ (fun _ s₁' h₁' => ?_) fun _ _ h' => h')
    refine wpAny_bind (wpAny_mono h₁' (fun _ s₂ h₂ => wpAny_bind (wpAny_mono h₂ (fun ok s₃ h₃ => ?_) fun _ _ h' => h')) fun _ _ h' => h')
    cases ok with
    | false => exact wpAny_pure ⟨rfl, h₃⟩
    | true =>
      exact wpAny_bind (wpAny_bind (wpAny_mono h₃ (fun x s₄ h₄ => wpAny_bind (wpAny_mono h₄ (fun _ s₅ h₅ => wpAny_pure (wpAny_pure ⟨rfl, h₅⟩)) fun _ _ h' => h')) fun _ _ h' => h'))

noncomputable def HTs (c : Cx) (k : Nat) (tbl : Tbl) (gs : Gs) (ifs : List Expr) (t : Option (Slots → Mu → RR Bool)) : Prop :=
  match ifs, t with
  | [], none => True
  | [e], some t => ∀ σ μ r μ', t σ μ = some (r, μ') → HT c k tbl gs e σ μ r μ'
  | _, _ => False

noncomputable def Upd (s s' : Shared) : Prop := ∃ h tk, s' = { s with heap := h, toks := tk }
theorem Upd.to {s s' : Shared} (x : Upd s s') (h : Heap) (tk : Nat) : Upd s { s' with heap := h, toks := tk } := by
  obtain ⟨_, _, rfl⟩ := x; exact ⟨h, tk, rfl⟩
theorem Upd.at {s s' : Shared} (x : Upd s s') (h : Heap) (tk : Nat) : ({ s' with heap := h, toks := tk } : Shared) = { s with heap := h, toks := tk } := by
  obtain ⟨_, _, rfl⟩ := x; rfl
theorem Upd.trans {s s1 s2 : Shared} (x : Upd s s1) (y : Upd s1 s2) : Upd s s2 := by
  obtain ⟨_, _, rfl⟩ := y; exact x.to _ _
theorem Aft.upd {hb : Heap} {s s' : Shared} {Φ Φ' : Phi} {μ' : Mu} (x : Aft hb s s' Φ Φ' μ') : Upd s s' := let ⟨h, tk, e, _⟩ := x; ⟨h, tk, e⟩
theorem AftX.upd {hb : Heap} {env : Env} {s s' : Shared} {Φ Φ' : Phi} {μ' : Mu} (x : AftX hb env s s' Φ Φ' μ') : Upd s s' := let ⟨h, tk, e, _⟩ := x; ⟨h, tk, e⟩
theorem turn_lt {n i : Nat} (h : i < n) : n + 1 - (i + 1) < n + 1 - i := by rw [Nat.add_sub_add_right]; exact Nat.lt_of_lt_of_le (Nat.lt_succ_self _) (Nat.le_of_eq (Nat.succ_sub (Nat.le_of_lt h)).symm)
theorem Walking.next {A : Around} {I : Addr} {ds : List Dat} {Φ : Phi} {i : Nat} {s : Shared} {oI : Obj} {Q : Option Value → Shared → Prop} {E : Value → Shared → Prop} (wk : Walking c A I ds Φ i s.heap) (S : SS c.hb s.heap Φ μ) (hI : Φ I = some (.ot oI)) (hi : i ≤ ds.length)
    (item : i < ds.length → ∀ v d h3 tk3 oI3, ds.drop i = d :: ds.drop (i + 1) → ItObj oI3 → DIn (ins Φ I (.ot oI3)) v d → SS c.hb h3 (ins Φ I (.ot oI3)) μ → LeD Φ (ins Φ I (.ot oI3)) → Walking c A I ds (ins Φ I (.ot oI3)) (i + 1) h3 → Q (some v) { s with heap := h3, toks := tk3 })
    (done : i = ds.length → ∀ h3 tk3, SS c.hb h3 (drp Φ I) μ → LeD Φ (drp Φ I) → Q none { s with heap := h3, toks := tk3 }) : wpAny (model c.prog c.w) A (pyNext (.ref I)) Q E s := by
  refine byG fun G hG => ?_
  obtain ⟨fp, P, St, w1, w2, w3, w4, w5⟩ := wk
  by_cases hlt : i < ds.length
  · refine hG (w1.item i _ _ _ hlt w2 fun v h3 tk3 hv st3 hk3 => ?_)
    refine byG fun G hG => ?_
    obtain ⟨oI3, hoI3, hit3⟩ := w5 _ _ st3
    have z := S.turnOt (o' := oI3) hI (fun b o q e => hk3 b o (by simpa using q) e) hoI3
    obtain ⟨d, hd1, hd2⟩ := w4 i v hv
    refine hG (item hlt v d h3 tk3 oI3 ?_ hit3 (hd2.monoF z.2.toF) z.1 z.2 ⟨fp, P, St, w1, st3, fun b hb => (w3 b hb).imp id fun ⟨o, e⟩ => ⟨o, z.2 _ _ e rfl⟩, fun j u hu => let ⟨d, a, b⟩ := w4 j u hu; ⟨d, a, b.monoF z.2.toF⟩, w5⟩)
    rw [List.drop_eq_getElem_cons hlt]
    rw [List.getElem?_eq_getElem hlt] at hd1
    rw [Option.some.inj hd1]
  · have e : i = ds.length := Nat.le_antisymm hi (Nat.not_lt.mp hlt)
    rw [e] at w2
    refine hG (w1.done _ _ _ w2 fun h3 tk3 hk3 => ?_)
    have z := S.drop hI rfl (h' := h3) (fun b o q e => hk3 b o (by simpa using q) e)
    exact done e h3 tk3 z.1 z.2
theorem evComp_at {f : Slots → Mu → RR Vl} {t : Option (Slots → Mu → RR Bool)} {tg : Tg} {d : Dat} {ds zs : List Dat} (e : evComp f t tg σ (d :: ds) μ = some (zs, μ')) :
    ∃ σ1 b μ1, setT tg d σ = some σ1 ∧ tstC t σ1 μ = some (.ok b, μ1) ∧ ((b = false ∧ evComp f t tg σ ds μ1 = some (zs, μ')) ∨ (b = true ∧ ∃ y μ2 ys, f σ1 μ1 = some (.ok (.dat y), μ2) ∧ evComp f t tg σ ds μ2 = some (ys, μ') ∧ zs = y :: ys)) := by
  obtain ⟨σ1, h1, e⟩ := Option.bind_eq_some_iff.mp e
  obtain ⟨b, μ1, h2, e⟩ := onOk_at e
  refine ⟨σ1, b, μ1, h1, h2, ?_⟩
  cases b with
  | false => exact .inl ⟨rfl, e⟩
  | true =>
    obtain ⟨V, μ2, h3, e⟩ := onOk_at e
    obtain ⟨y, rfl, e⟩ := onDat_at e
    obtain ⟨p, h4, e⟩ := Option.map_eq_some_iff.mp e
    cases e
    exact .inr ⟨rfl, y, μ2, p.1, h3, h4, rfl⟩
theorem tests_run {A : Around} {ifs : List Expr} {t : Option (Slots → Mu → RR Bool)} {env : Env} {Φ : Phi} {s : Shared} {b : Bool} {Qt : Bool → Shared → Prop} {Et : Value → Shared → Prop} (hte : HTs c k tbl gs ifs t) (ht : tstC t σ μ = some (.ok b, μ')) (ev : EV c Φ A env k tbl gs σ) (S : SS c.hb s.heap Φ μ)
    (hq : ∀ s' Φ', Aft c.hb s s' Φ Φ' μ' → Qt b s') : wpAny (model c.prog c.w) A (forIn ifs true fun c r => if r = true then do let ok ← isTrue c env (eval c env); pure (ForInStep.yield ok) else pure (ForInStep.yield r)) Qt Et s := by
  match ifs, t, hte with
  | [], none, _ => cases ht; exact wpAny_tests_nil (hq _ _ (Aft.refl S))
  | [te], some tf, hte =>
    refine wpAny_tests_one (hte σ μ _ _ ht A env Φ _ _ _ ev S (fun b' s5 Φ5 q a5 => ?_) (fun _ _ _ q => by cases q))
    cases q
    exact hq _ _ a5
inductive CInv (c : Cx) (k : Nat) (tbl : Tbl) (gs : Gs) (ws : List Nat) (σ : Slots) (μ' : Mu) (A : Around) (f : Slots → Mu → RR Vl) (t : Option (Slots → Mu → RR Bool)) (tg : Tg) (ds zs : List Dat) (I D : Addr) (env : Env) (Φ₀ : Phi) (s : Shared) (n : Nat) (h : Heap) : Prop
  | mk (Φ : Phi) (μi : Mu) (i : Nat) (vs : List Value) (nn : Nat) (ys rest : List Dat) : i ≤ ds.length → n = ds.length + 1 - i → SS c.hb h Φ μi → Le Φ₀ Φ → (∃ oI, Φ I = some (.ot oI)) → Walking c A I ds Φ i h →
      Φ D = some (.ot (listOf vs.toArray nn)) → DAll Φ vs ys → vs.length ≤ i → EVS c Φ A env k tbl gs ws σ → evComp f t tg σ (ds.drop i) μi = some (rest, μ') → zs = ys ++ rest → CInv c k tbl gs ws σ μ' A f t tg ds zs I D env Φ₀ s n h
structure CHyp (c : Cx) (k : Nat) (tbl : Tbl) (gs : Gs) (ws : List Nat) (σ : Slots) (f : Slots → Mu → RR Vl) (t : Option (Slots → Mu → RR Bool)) (tg : Tg) (elt target : Expr) (ifs : List Expr) (I D : Addr) (env : Env) (Φ₀ : Phi) : Prop where
  mt : MT tbl ws tg target
  hel : ∀ σ μ r μ', f σ μ = some (r, μ') → HE c k tbl gs elt σ μ r μ'
  hte : HTs c k tbl gs ifs t
  hlw : ∀ i x, (i, x) ∈ tbl → i ∈ ws → env.kindOf x = some .local
  hclr : ∀ (i : Nat) (V : Vl), i ∈ ws → σ[i]? ≠ some (some V)
  hI₀ : Φ₀ I = none
  hD₀ : Φ₀ D = none
  hC₀ : Φ₀ env.locals = none
  hID : I ≠ D
noncomputable def CI (c : Cx) (k : Nat) (tbl : Tbl) (gs : Gs) (ws : List Nat) (σ : Slots) (μ' : Mu) (A : Around) (f : Slots → Mu → RR Vl) (t : Option (Slots → Mu → RR Bool)) (tg : Tg) (ds zs : List Dat) (I D : Addr) (env : Env) (Φ₀ : Phi) (s : Shared) (n : Nat) (s' : Shared) : Prop := Upd s s' ∧ CInv c k tbl gs ws σ μ' A f t tg ds zs I D env Φ₀ s n s'.heap
section
variable {A : Around} {elt target : Expr} {ifs : List Expr} {env : Env} {f : Slots → Mu → RR Vl} {t : Option (Slots → Mu → RR Bool)} {tg : Tg} {ds zs ys rest : List Dat} {I D : Addr} {Φ₀ Φ : Phi} {s s' : Shared} {i nn : Nat} {vs : List Value} {oI : Obj} {σ1 : Slots}
theorem comp_app {y : Dat} {u : Value} {Et : Value → Shared → Prop} (H : CHyp c k tbl gs ws σ f t tg elt target ifs I D env Φ₀) (hroom : room ds.length = true) (hlt : i < ds.length) (hvl : vs.length ≤ i) (us : Upd s s') (S : SS c.hb s'.heap Φ μ) (le : Le Φ₀ Φ) (hI : Φ I = some (.ot oI)) (hD : Φ D = some (.ot (listOf vs.toArray nn)))
    (wk : Walking c A I ds Φ (i + 1) s'.heap) (da : DAll Φ vs ys) (vi : DIn Φ u y) (ev : EVS c Φ A env k tbl gs ws σ) (e : evComp f t tg σ (ds.drop (i + 1)) μ = some (rest, μ')) (hz : zs = ys ++ (y :: rest)) :
    wpAny (model c.prog c.w) A (call (.builtin "list.append") [.ref D, u]) (fun _ s5 => ∃ m, m < ds.length + 1 - i ∧ CI c k tbl gs ws σ μ' A f t tg ds zs I D env Φ₀ s m s5) Et s' := by
  obtain ⟨h6, tk6, rfl⟩ := us
  refine append_at (S.tag _ _ hD).2 (fun h7 hs7 ho7 => ?_) (by rw [List.size_toArray]; exact Nat.le_trans hvl (Nat.le_trans (Nat.le_of_lt hlt) (Nat.le_trans (room_le hroom) (by decide))))
  have z7 := S.turnOt (o' := listOf (vs ++ [u]).toArray (nn + 1)) hD (fun b o q e => (hs7.2 b q).trans e) (by rw [ho7]; simp [W.listOf])
  refine ⟨ds.length + 1 - (i + 1), turn_lt hlt, ⟨h7, tk6, rfl⟩, .mk _ μ (i + 1) (vs ++ [u]) (nn + 1) (ys ++ [y]) rest hlt rfl z7.1 (le.turnOt H.hD₀) ⟨oI, by rw [ins_ne _ _ H.hID]; exact hI⟩
    (wk.body S hI z7.1 z7.2 (by rw [ins_ne _ _ H.hID]; exact hI)) (ins_self _ _ _) ((da.append (DAll.one vi)).monoF z7.2.toF) (by rw [List.length_append]; exact Nat.succ_le_succ hvl) (ev.ot hD z7.2) e (by rw [hz, List.append_assoc]; rfl)⟩
end
theorem comp_back (H : CHyp c k tbl gs ws σ f t tg elt target ifs I D env Φ₀) {d : Dat} (hset : setT tg d σ = some σ1) (q : EVS c Φ A env k tbl gs ws σ1) : EVS c Φ A env k tbl gs ws σ :=
  q.weaken fun j V hj => by rw [setT_keeps H.mt hset j fun z => H.hclr j V z hj]; exact hj
theorem comp_tail {b : Bool} {Et : Value → Shared → Prop} {d : Dat} (H : CHyp c k tbl gs ws σ f t tg elt target ifs I D env Φ₀) (hroom : room ds.length = true) (hlt : i < ds.length) (hvl : vs.length ≤ i) (us : Upd s s') (S : SS c.hb s'.heap Φ μ) (le : Le Φ₀ Φ) (hI : Φ I = some (.ot oI)) (hD : Φ D = some (.ot (listOf vs.toArray nn)))
    (wk : Walking c A I ds Φ (i + 1) s'.heap) (da : DAll Φ vs ys) (ev : EVS c Φ A env k tbl gs ws σ1) (hset : setT tg d σ = some σ1) (hz : zs = ys ++ rest)
    (hb : (b = false ∧ evComp f t tg σ (ds.drop (i + 1)) μ = some (rest, μ')) ∨ (b = true ∧ ∃ y μ2 ys', f σ1 μ = some (.ok (.dat y), μ2) ∧ evComp f t tg σ (ds.drop (i + 1)) μ2 = some (ys', μ') ∧ rest = y :: ys')) :
    if b = true then wpAny (model c.prog c.w) A (eval elt env) (fun x s₄ => wpAny (model c.prog c.w) A (call (.builtin "list.append") [.ref D, x]) (fun _ s5 => ∃ m, m < ds.length + 1 - i ∧ CI c k tbl gs ws σ μ' A f t tg ds zs I D env Φ₀ s m s5) Et s₄) Et s'
    else ∃ m, m < ds.length + 1 - i ∧ CI c k tbl gs ws σ μ' A f t tg ds zs I D env Φ₀ s m s' := by
  refine byG fun G hG => ?_
  rcases hb with ⟨hb, e⟩ | ⟨hb, y, μ2, ys', hf, e, hr⟩
  · subst hb
    exact hG ⟨ds.length + 1 - (i + 1), turn_lt hlt, us, .mk Φ μ (i + 1) vs nn ys rest hlt rfl S le ⟨oI, hI⟩ wk hD da (Nat.le_succ_of_le hvl) (comp_back H hset ev) e hz⟩
  · subst hb
    refine hG ((if_pos rfl).mpr (H.hel σ1 μ _ _ hf A env Φ s' _ _ ev.toEV S (fun V' u s6 Φ6 q a6 vi => ?_) (fun _ _ _ q => by cases q)))
    cases ok_inj q
    exact comp_app H hroom hlt hvl (us.trans a6.upd) a6.ss (le.trans a6.le) (a6.le _ _ hI) (a6.le _ _ hD) (wk.body S hI a6.ss a6.le.toD (a6.le _ _ hI)) (da.monoF a6.le.toF) vi (comp_back H hset (ev.mono a6.le)) e (by rw [hz, hr])
theorem comp_turn {Et : Value → Shared → Prop} {v : Value} {d : Dat} (H : CHyp c k tbl gs ws σ f t tg elt target ifs I D env Φ₀) (hroom : room ds.length = true) (hlt : i < ds.length) (hvl : vs.length ≤ i) (us : Upd s s') (S : SS c.hb s'.heap Φ μ) (le : Le Φ₀ Φ) (hI : Φ I = some (.ot oI)) (ho : ItObj oI) (hD : Φ D = some (.ot (listOf vs.toArray nn)))
    (wk : Walking c A I ds Φ (i + 1) s'.heap) (da : DAll Φ vs ys) (ev : EVS c Φ A env k tbl gs ws σ) (vi : DIn Φ v d) (hz : zs = ys ++ rest) (e : evComp f t tg σ (d :: ds.drop (i + 1)) μ = some (rest, μ')) :
    wpAny (model c.prog c.w) A (letOwnedTupleGo target (.ref I) v) (fun _ s₁' => wpAny (model c.prog c.w) A (assign target env v) (fun _ s₂ =>
          wpAny (model c.prog c.w) A (forIn ifs true fun c r => if r = true then do let ok ← isTrue c env (eval c env); pure (ForInStep.yield ok) else pure (ForInStep.yield r)) (fun ok s₃ =>
            if ok = true then wpAny (model c.prog c.w) A (eval elt env) (fun x s₄ => wpAny (model c.prog c.w) A (call (.builtin "list.append") [.ref D, x]) (fun _ s5 => ∃ m, m < ds.length + 1 - i ∧ CI c k tbl gs ws σ μ' A f t tg ds zs I D env Φ₀ s m s5) Et s₄) Et s₃
            else ∃ m, m < ds.length + 1 - i ∧ CI c k tbl gs ws σ μ' A f t tg ds zs I D env Φ₀ s m s₃) Et s₂) Et s₁') Et s' := by
  refine byG fun G hG => ?_
  obtain ⟨σ1, b, μ1, hset, ht, hb⟩ := evComp_at e
  refine hG (letgo (S.tag _ _ hI).2 ho (assign_tgt H.mt ev S vi hset fun s4 Φ4 a4 ev4 l4 => tests_run H.hte ht ev4.toEV a4.ss fun s5 Φ5 a5 => ?_))
  have ol := l4 H.hlw
  have nI : I ≠ env.locals := fun q => let ⟨m, hm⟩ := ev.loc; by rw [← q, hI] at hm; cases hm
  have nD : D ≠ env.locals := fun q => let ⟨m, hm⟩ := ev.loc; by rw [← q, hD] at hm; cases hm
  have hI4 := ol _ _ nI hI
  exact comp_tail H hroom hlt hvl (us.trans (a4.upd.trans a5.upd)) a5.ss (Le.trans (fun b u q => ol _ _ (fun z => by rw [z, H.hC₀] at q; cases q) (le _ _ q)) a5.le) (a5.le _ _ hI4) (a5.le _ _ (ol _ _ nD hD))
    ((wk.body S hI a4.ss a4.ld hI4).body a4.ss hI4 a5.ss a5.le.toD (a5.le _ _ hI4)) ((da.monoF a4.ld.toF).monoF a5.le.toF) (ev4.mono a5.le) hset hz hb
theorem comp_done {R : Result → Shared → Prop} (H : CHyp c k tbl gs ws σ f t tg elt target ifs I D env Φ₀) (hI : Φ I = some (.ot oI)) (hD : Φ D = some (.ot (listOf vs.toArray nn))) (da : DAll Φ vs zs) (ev : EVS c Φ A env k tbl gs ws σ) (us : Upd s s') (S : SS c.hb s'.heap (drp Φ I) μ') (le : Le Φ₀ Φ) (ld : LeD Φ (drp Φ I))
    (hR : ∀ s' Φ' vs n m, Upd s s' → SS c.hb s'.heap Φ' μ' → Le Φ₀ Φ' → Φ' D = some (.ot (listOf vs.toArray n)) → DAll Φ' vs zs → Φ' env.locals = some (.fm m) → D ≠ env.locals → R (.ok .next) s') : R (.ok .next) s' := by
  obtain ⟨m, hm⟩ := ev.loc
  exact hR s' (drp Φ I) vs nn m us S (fun b u q => by rw [drp_ne _ (fun w => by rw [w, H.hI₀] at q; cases q)]; exact le b u q) (by rw [drp_ne _ (Ne.symm H.hID)]; exact hD) (da.monoF ld.toF) (by rw [drp_ne _ (fun q => by rw [q, hI] at hm; cases hm)]; exact hm) (fun q => by rw [← q, hD] at hm; cases hm)
theorem comp_loop {R : Result → Shared → Prop} {iter : Expr} {scope : Scope} {pos : Pos} {Φ₁ : Phi} {s₁ : Shared} (H : CHyp c k tbl gs ws σ f t tg elt target ifs I D env Φ₀) (hroom : room ds.length = true)
    (e : evComp f t tg σ ds μ = some (zs, μ')) (st : Upd s s₁) (S : SS c.hb s₁.heap Φ₁ μ) (le : Le Φ₀ Φ₁) (hI : ∃ oI, Φ₁ I = some (.ot oI)) (wk : Walking c A I ds Φ₁ 0 s₁.heap) (hD : Φ₁ D = some (.ot (listOf #[] 0))) (ev : EVS c Φ₁ A env k tbl gs ws σ)
    (hR : ∀ s' Φ' vs n m, Upd s s' → SS c.hb s'.heap Φ' μ' → Le Φ₀ Φ' → Φ' D = some (.ot (listOf vs.toArray n)) → DAll Φ' vs zs → Φ' env.locals = some (.fm m) → D ≠ env.locals → R (.ok .next) s') :
    codeAny (model c.prog c.w) A (.compLoop (.ListComp elt [⟨target, iter, ifs, 0⟩] scope pos) 0 (.ref I) (.ref D) env) R s₁ := by
  refine codeAny_compLoop_own (fun n s' => CI c k tbl gs ws σ μ' A f t tg ds zs I D env Φ₀ s n s') (fun n s2 hi => ?_) (ds.length + 1)
    ⟨st, .mk Φ₁ μ 0 [] 0 [] zs (Nat.zero_le _) rfl S le hI wk hD .nil (Nat.le_refl _) ev e rfl⟩
  refine byG fun G hG => ?_
  obtain ⟨us, inv⟩ := hi
  cases inv with
  | mk Φ μi i vs nn ys rest hi hn S le hI wk hD da hvl ev e hz =>
  obtain ⟨oI, hI⟩ := hI
  refine hG ?_
  rw [hn]
  refine wk.next S hI hi (fun hlt v d h3 tk3 oI3 hd ho vi S3 ld wk3 => ?_) fun hi h3 tk3 S3 ld => ?_
  · exact comp_turn H hroom hlt hvl (us.to h3 tk3) S3 (le.turnOt H.hI₀) (ins_self _ _ _) ho (by rw [ins_ne _ _ (Ne.symm H.hID)]; exact hD) wk3 (da.monoF ld.toF) (ev.ot hI ld) vi hz (by rw [← hd]; exact e)
  · have z : zs = ys ∧ μi = μ' := by rw [hi, List.drop_length] at e; cases e; exact ⟨by rw [hz, List.append_nil], rfl⟩
    exact comp_done H hI hD (by rw [z.1]; exact da) ev (us.to h3 tk3) (by rw [← z.2]; exact S3) le ld hR
end
end Mine
end
section
open PySem PySem.W PyProof.Rows PySem.Calls
set_option Elab.async false
set_option maxRecDepth 100000
set_option linter.unusedVariables false
namespace Mine

structure CompOk (tbl : Tbl) (gs : Gs) (caps : List Nat) (tblC : Tbl) (gsC : Gs) (ws : List Nat) (scope : Scope) : Prop where
  kind : scope.kind = .function
  nocell : ∀ y ∈ scope.names, y.2 ≠ .cell
  locs : ∀ y ∈ scope.names, y.2 = .local → scope.names.lookup y.1 = some .local
  tb : ∀ i x, (i, x) ∈ tblC → (i ∈ ws ∧ scope.names.lookup x = some .local) ∨ (i ∉ ws ∧ x ∈ frees scope.names ∧ scope.names.lookup x = some .free ∧ (i, x) ∈ tbl ∧ (x, NameKind.cell) ∈ gs)
  fr : ∀ x ∈ frees scope.names, (x, NameKind.cell) ∈ gs ∧ ∃ i ∈ caps, (i, x) ∈ tbl
  gl : ∀ x kd, (x, kd) ∈ gsC → kd = .globalImplicit ∧ scope.names.lookup x = some .globalImplicit
  one : ∀ i j x, (i, x) ∈ tblC → (j, x) ∈ tblC → i = j
  two : ∀ i x y, (i, x) ∈ tblC → (i, y) ∈ tblC → x = y

noncomputable def HI (c : Cx) (k : Nat) (tbl : Tbl) (gs : Gs) (e : Expr) (σ : Slots) (μ : Mu) (ds : List Dat) (μ' : Mu) : Prop :=
  ∀ (A : Around) (env : Env) (Φ : Phi) (s : Shared) (Q : Value → Shared → Prop) (E : Value → Shared → Prop),
    EV c Φ A env k tbl gs σ → SS c.hb s.heap Φ μ →
    (∀ xv s' Φ', Aft c.hb s s' Φ Φ' μ' → IterV s'.heap Φ' xv ds → Q xv s') →
    wpAny (model c.prog c.w) A (eval e env) Q E s

noncomputable def has (σ : Slots) (i : Nat) : Bool := match σ[i]? with
  | some (some _) => true
  | _ => false
theorem has_some {σ : Slots} {i : Nat} (h : has σ i = true) : ∃ V, σ[i]? = some (some V) := by
  unfold has at h
  split at h
  · rename_i V e; exact ⟨V, e⟩
  · cases h

section
variable {c : Cx} {k : Nat} {tbl : Tbl} {gs : Gs} {ws : List Nat} {σ : Slots} {μ μ' μ'' : Mu}

theorem hi_list {e : Expr} {ds : List Dat} (h : HE c k tbl gs e σ μ (.ok (.dat (.list ds))) μ') : HI c k tbl gs e σ μ ds μ' := by
  intro A env Φ s Q E ev S hq
  refine h A env Φ s Q E ev S (fun V v s' Φ' q a vi => ?_) fun _ _ _ q => by cases q
  cases ok_inj q
  exact hq _ _ _ a (.list vi)
theorem hi_tuple {e : Expr} {ds : List Dat} (h : HE c k tbl gs e σ μ (.ok (.dat (.tuple ds))) μ') : HI c k tbl gs e σ μ ds μ' := by
  intro A env Φ s Q E ev S hq
  refine h A env Φ s Q E ev S (fun V v s' Φ' q a vi => ?_) fun _ _ _ q => by cases q
  cases ok_inj q
  exact hq _ _ _ a (.tuple vi)
noncomputable def ord (i : Int) : Bool := decide (-1000000000 ≤ i) && decide (i ≤ 1000000000)
theorem hi_range2 {p pos : Pos} {e1 e2 : Expr} {a b : Int} (ok : CxOk c) (hg : GI gs (Str.ofString "range")) (hn : GN c (Str.ofString "range") (.type "range")) (hs1 : ∀ y q, e1 ≠ .Starred y q) (hs2 : ∀ y q, e2 ≠ .Starred y q)
    (h1 : HE c k tbl gs e1 σ μ (.ok (.dat (.int a))) μ') (h2 : HE c k tbl gs e2 σ μ' (.ok (.dat (.int b))) μ'') (ha : ord a = true) (hb : ord b = true) :
    HI c k tbl gs (.Call (.Name (Str.ofString "range") p) [e1, e2] [] pos) σ μ (rangeD a (b - a).toNat) μ'' := by
  intro A env Φ s Q E ev S hq
  obtain ⟨a1, a2⟩ := Bool.and_eq_true_iff.mp ha
  obtain ⟨b1, b2⟩ := Bool.and_eq_true_iff.mp hb
  have a1 := of_decide_eq_true a1; have a2 := of_decide_eq_true a2; have b1 := of_decide_eq_true b1; have b2 := of_decide_eq_true b2
  refine Call_ (global_name ok ev S hg hn (by decide +kernel) (callWith_vals (P := fun _ => True) (fun y hy => ?_) (fun _ _ => ⟨_, .inr (.inl rfl), Looks.of_pure rfl⟩) ?_))
  · rcases List.mem_cons.mp hy with rfl | hy
    · exact hs1
    · rw [List.mem_singleton.mp hy]; exact hs2
  · rw [starEach_cons hs1]
    refine spliced_cons (h1 A env Φ s _ _ ev S (fun V v s1 Φ1 q at1 v1 => ?_) fun _ _ _ q => by cases q)
    rw [starEach_cons hs2]
    refine spliced_cons (h2 A env Φ1 s1 _ _ (ev.mono at1.le) at1.ss (fun V2 v2 s2 Φ2 q2 at2 vi2 => spliced_nil ⟨trivial, ?_⟩) fun _ _ _ q => by cases q)
    cases ok_inj q; cases ok_inj q2
    obtain ⟨L, m, hL⟩ := ((ev.toCV.mono at1.le).mono at2.le).tag
    cases v1 with
    | int _ t1 =>
    cases vi2 with
    | int _ t2 =>
    refine call_range_2 ?_
    have pp := Aft.pushOt at2.ss hL { cls := .type "range", data := .fields #[.int a t1, .int b t2, .int 1 s2.toks] } (s2.toks + 1)
    exact hq _ _ _ ((at1.trans at2).trans pp) (.range (Heap.get?_push_size _ rfl) (small_one (by (first | lia | omega)) (by (first | lia | omega)) (by (first | lia | omega)) (by (first | lia | omega))) (rangeSize_nat a b))
theorem hi_range1 {p pos : Pos} {e1 : Expr} {b : Int} (ok : CxOk c) (hg : GI gs (Str.ofString "range")) (hn : GN c (Str.ofString "range") (.type "range")) (hs1 : ∀ y q, e1 ≠ .Starred y q)
    (h1 : HE c k tbl gs e1 σ μ (.ok (.dat (.int b))) μ') (hb : ord b = true) :
    HI c k tbl gs (.Call (.Name (Str.ofString "range") p) [e1] [] pos) σ μ (rangeD 0 b.toNat) μ' := by
  intro A env Φ s Q E ev S hq
  obtain ⟨b1, b2⟩ := Bool.and_eq_true_iff.mp hb
  have b1 := of_decide_eq_true b1; have b2 := of_decide_eq_true b2
  refine Call_ (global_name ok ev S hg hn (by decide +kernel) (callWith_vals (P := fun _ => True) (fun y hy => ?_) (fun _ _ => ⟨_, .inr (.inl rfl), Looks.of_pure rfl⟩) ?_))
  · rw [List.mem_singleton.mp hy]; exact hs1
  · rw [starEach_cons hs1]
    refine spliced_cons (h1 A env Φ s _ _ ev S (fun V v s1 Φ1 q at1 v1 => spliced_nil ⟨trivial, ?_⟩) fun _ _ _ q => by cases q)
    cases ok_inj q
    obtain ⟨L, m, hL⟩ := (ev.toCV.mono at1.le).tag
    cases v1 with
    | int _ t1 =>
    refine call_range_1 ?_
    have pp := Aft.pushOt at1.ss hL { cls := .type "range", data := .fields #[.int 0 s1.toks, .int b t1, .int 1 (s1.toks + 1)] } (s1.toks + 1 + 1)
    have e0 : b - 0 = b := by (first | lia | omega)
    have := rangeSize_nat 0 b
    rw [e0] at this
    exact hq _ _ _ (at1.trans pp) (.range (Heap.get?_push_size _ rfl) (small_one (by (first | lia | omega)) (by (first | lia | omega)) (by (first | lia | omega)) (by (first | lia | omega))) this)

theorem comp_run {A : Around} {E : Value → Shared → Prop} {RR' : Value → Addr → Result → Shared → Prop} {elt target iter : Expr} {ifs : List Expr} {scope : Scope} {pos : Pos} {env : Env} {f : Slots → Mu → RR Vl} {t : Option (Slots → Mu → RR Bool)} {tg : Tg} {ds zs : List Dat} {I : Addr} {Φ₀ Φ : Phi} {s : Shared}
    {caps : List Nat} {tblC : Tbl} {gsC : Gs} (co : CompOk tbl gs caps tblC gsC ws scope) (hcap : ∀ i ∈ caps, has σ i = true)
    (mt : MT tblC ws tg target) (hel : ∀ σ μ r μ', f σ μ = some (r, μ') → HE c k tblC gsC elt σ μ r μ') (hte : HTs c k tblC gsC ifs t) (hroom : room ds.length = true)
    (e : evComp f t tg (clr ws σ) ds μ = some (zs, μ')) (ev : EV c Φ A env k tbl gs σ) (S : SS c.hb s.heap Φ μ) (le : Le Φ₀ Φ) (hI₀ : Φ₀ I = none) (hI : ∃ oI, Φ I = some (.ot oI)) (hW : Walking c A I ds Φ 0 s.heap)
    (hself : ∀ (Q : Value → Shared → Prop) (E : Value → Shared → Prop) s', (∃ (Φ' : Phi), Walking c A I ds Φ' 0 s'.heap) → Q (.ref I) s' → wpAny (model c.prog c.w) A (pyIter (.ref I)) Q E s') {cl : List (Str × Addr)} (hclos : ∀ x ∈ frees scope.names, cl.lookup x = env.cells.lookup x)
    (hR : ∀ D C s' Φ' vs n m, (∃ h tk, s' = { s with heap := h, toks := tk }) → SS c.hb s'.heap Φ' μ' → Le Φ₀ Φ' → Φ₀ D = none → Φ₀ C = none → Φ' D = some (.ot (listOf vs.toArray n)) → DAll Φ' vs zs → Φ' C = some (.fm m) → D ≠ C → RR' (.ref D) C (.ok .next) s') :
    wpAny (model c.prog c.w) A (newList []) (fun acc s₃ => wpAny (model c.prog c.w) A (newFunctionEnv scope env.globals cl [] env.qual none .none (some env)) (fun cenv s₄ =>
      codeAny (model c.prog c.w) A (.compStart (.ListComp elt [⟨target, iter, ifs, 0⟩] scope pos) 0 (.ref I) acc { cenv with scope := relabel scope env }) (RR' acc cenv.locals) s₄) E s₃) E s := by
  obtain ⟨L, m, hL⟩ := ev.toCV.tag
  have none₀ : ∀ {a}, Φ a = none → Φ₀ a = none := fun {a} q => by
    cases z : Φ₀ a with
    | none => rfl
    | some t => rw [le _ _ z] at q; cases q
  have pD := Aft.pushOt S hL (listOf #[] 0) s.toks
  have hDn : Φ s.heap.objs.size = none := S.none_ge (Nat.le_refl _)
  refine wpAny_newObj_type (wpAny_newFunctionEnv co.nocell (by intro y hy; simp at hy) (fun h₁ hns₁ hsb₁ => ?_) co.kind)
  dsimp only at hns₁ hsb₁ ⊢
  generalize hH2 : s.heap.push { cls := .type "list", dict := none, data := .seq ([] : List Value).toArray } = H2 at hns₁ hsb₁ ⊢
  have S2 : SS c.hb H2 (ins Φ s.heap.objs.size (.ot (listOf #[] 0))) μ := by rw [← hH2]; exact pD.ss
  have le2 : Le Φ (ins Φ s.heap.objs.size (.ot (listOf #[] 0))) := pD.le
  have hCn := S2.none_ge (Nat.le_refl H2.objs.size)
  have hCΦ : Φ H2.objs.size = none := by
    cases z : Φ H2.objs.size with
    | none => rfl
    | some t => rw [le2 _ _ z] at hCn; cases hCn
  have old : ∀ b o, H2.get? b = some o → h₁.get? b = some o := fun b o e => hsb₁.extBut b o (Nat.ne_of_lt (Heap.lt_size e)) (Heap.get?_push_of_some _ e)
  have S3 := S2.new old hCn (S2.size (le2 _ _ hL)) (t := .fm fun x => ([] : List (Str × Value)).reverse.lookup x) hns₁ (fun _ q => by cases q)
  have hDC : s.heap.objs.size ≠ H2.objs.size := fun q => by rw [← q, ins_self] at hCn; cases hCn
  obtain ⟨oI, hI⟩ := hI
  have hID : I ≠ s.heap.objs.size := fun q => by rw [← q, hI] at hDn; cases hDn
  have hI3 := S3.2 _ _ (le2 _ _ hI)
  have hW3 : Walking c A I ds _ 0 h₁ := hW.body S hI S3.1 (le2.trans S3.2).toD hI3
  have le3 := (le.trans le2).trans S3.2
  have ekind : ∀ {x kd}, scope.names.lookup x = some kd → kd ≠ .free → (relabel scope env).names.lookup x = some kd := fun {x kd} q z => by
    rw [relabel_lookup, q]
    cases kd <;> first | rfl | exact absurd rfl z
  have ev3 : EVS c (ins (ins Φ s.heap.objs.size (.ot (listOf #[] 0))) H2.objs.size (.fm fun x => ([] : List (Str × Value)).reverse.lookup x)) A (compEnvC scope cl H2.objs.size env) k tblC gsC ws (clr ws σ) :=
    { ev.toCV.mono (le2.trans S3.2) with
      kind := co.kind, gl := ev.gl, bi := ev.bi
      names := fun i x V h1 h2 => by
        rcases co.tb i x h1 with ⟨w1, _⟩ | ⟨w1, wf, w2, w3, w4⟩
        · exact absurd h2 (clr_none w1)
        · obtain ⟨v, nm, vi⟩ := ev.names i x V w3 (clr_some h2).1
          have kc := ev.glob x _ w4
          rcases nm with ⟨g1, _⟩ | ⟨cc, g1, g2, g3⟩
          · rw [kc] at g1; cases g1
          · refine ⟨v, .inr ⟨cc, .inl ?_, (hclos x wf).trans g2, S3.2 _ _ (le2 _ _ g3)⟩, vi.mono (le2.trans S3.2)⟩
            show (relabel scope env).names.lookup x = some .cell
            rw [relabel_lookup, w2]
            simp [ev.kind, kc]
      glob := fun x kd h1 => by
        obtain ⟨rfl, h2⟩ := co.gl x kd h1
        exact ekind h2 (by decide)
      one := co.one, two := co.two
      loc := ⟨_, ins_self _ _ _⟩
      stor := fun i x h1 h2 => by
        rcases co.tb i x h1 with ⟨_, w2⟩ | ⟨w1, _⟩
        · exact .inl (ekind w2 (by decide))
        · exact absurd h2 w1 }
  have hlw : ∀ i x, (i, x) ∈ tblC → i ∈ ws → (compEnvC scope cl H2.objs.size env).kindOf x = some .local := fun i x h1 h2 => by
    rcases co.tb i x h1 with ⟨_, w2⟩ | ⟨w1, _⟩
    · exact ekind w2 (by decide)
    · exact absurd h2 w1
  have loop : codeAny (model c.prog c.w) A (.compLoop (.ListComp elt [⟨target, iter, ifs, 0⟩] scope pos) 0 (.ref I) (.ref s.heap.objs.size) (compEnvC scope cl H2.objs.size env)) (RR' (.ref s.heap.objs.size) H2.objs.size)
      { s with heap := h₁, toks := s.toks + ([] : List (Str × Value)).length } :=
    comp_loop (Φ₀ := Φ₀) (s := s) ⟨mt, hel, hte, hlw, fun i V hi => clr_none hi, hI₀, none₀ hDn, none₀ hCΦ, hID⟩ hroom e ⟨h₁, _, rfl⟩ S3.1 le3 ⟨oI, hI3⟩ hW3 (by rw [ins_ne _ _ hDC]; exact ins_self _ _ _) ev3
      fun s' Φ' vs n m h1 h2 h3 h4 h5 h6 h7 => hR _ _ s' Φ' vs n m h1 h2 h3 (none₀ hDn) (none₀ hCΦ) h4 h5 h6 h7
  exact codeAny_compStart_list loop (hself _ _ _ ⟨_, hW3⟩ loop)
theorem walking_self {A : Around} {I : Addr} {ds : List Dat} {Q : Value → Shared → Prop} {E : Value → Shared → Prop} {s' : Shared} (h : ∃ (Φ' : Phi), Walking c A I ds Φ' 0 s'.heap) (q : Q (.ref I) s') : wpAny (model c.prog c.w) A (pyIter (.ref I)) Q E s' := by
  obtain ⟨Φ', fp, P, St, h1, h2, _⟩ := h
  exact h1.self 0 _ _ _ h2 q

theorem cells_of {scope : Scope} {env : Env} {A : Around} {Φ : Phi} {caps : List Nat} {tblC : Tbl} {gsC : Gs} (co : CompOk tbl gs caps tblC gsC ws scope) (hcap : ∀ i ∈ caps, has σ i = true) (ev : EV c Φ A env k tbl gs σ) : ∀ x ∈ frees scope.names, ∃ a, env.cells.lookup x = some a := by
  intro x hx
  obtain ⟨h1, i, h2, h3⟩ := co.fr x hx
  obtain ⟨V, hV⟩ := has_some (hcap i h2)
  obtain ⟨v, nm, _⟩ := ev.names i x V h3 hV
  have kc := ev.glob x _ h1
  rcases nm with ⟨g1, _⟩ | ⟨cc, g1, g2, g3⟩
  · rw [kc] at g1; cases g1
  · exact ⟨cc, g2⟩

theorem he_comp {elt target iter : Expr} {ifs : List Expr} {scope : Scope} {pos : Pos} {f : Slots → Mu → RR Vl} {t : Option (Slots → Mu → RR Bool)} {tg : Tg} {ds zs : List Dat} {caps : List Nat} {tblC : Tbl} {gsC : Gs} (co : CompOk tbl gs caps tblC gsC ws scope) (hcap : ∀ i ∈ caps, has σ i = true)
    (hfold : ∀ env x, foldedSetIterable iter env x = pure x) (hi : HI c k tbl gs iter σ μ ds μ')
    (mt : MT tblC ws tg target) (hel : ∀ σ μ r μ', f σ μ = some (r, μ') → HE c k tblC gsC elt σ μ r μ') (hte : HTs c k tblC gsC ifs t) (hroom : room ds.length = true)
    (e : evComp f t tg (clr ws σ) ds μ' = some (zs, μ'')) : HE c k tbl gs (.ListComp elt [⟨target, iter, ifs, 0⟩] scope pos) σ μ (.ok (.dat (.list zs))) μ'' := by
  intro A env Φ s Q E ev S hq he
  obtain ⟨cl, hcl, hlk⟩ := closure_of (cells_of co hcap ev)
  rw [eval_ListComp]
  refine wpAny_comprehension_free (use := none) rfl (hfold env) hcl co.kind co.locs (hi A env Φ s _ _ ev S fun xv s1 Φ1 a1 iv => ?_)
  obtain ⟨L, m, hL⟩ := (ev.toCV.mono a1.le).tag
  refine iter_start ev.hh a1.ss hL iv fun s2 Φ2 I oI a2 hn hI hW => ?_
  refine comp_run (Φ₀ := Φ1) co hcap mt hel hte hroom e ((ev.mono a1.le).mono a2.le) a2.ss a2.le hn ⟨oI, hI⟩ hW (fun Q E s' h q => walking_self h q) hlk ?_
  intro D C s3 Φ3 vs n m st3 S3 le3 hD₀ hC₀ hD hda hC hne
  refine ⟨m, (S3.tag _ _ hC).2, fun h' hs' => ?_⟩
  have z := S3.drop hC rfl (h' := h') (fun b o q e => (hs'.2 b q).trans e)
  have z2 := z.1.freeze (by rw [drp_ne _ hne]; exact hD)
  have leF : Le Φ1 (ins (drp Φ3 C) D (.fz (listOf vs.toArray n))) := fun b u q => by
    rw [ins_ne _ _ (fun w => by rw [w, hD₀] at q; cases q), drp_ne _ (fun w => by rw [w, hC₀] at q; cases q)]
    exact le3 _ _ q
  obtain ⟨h3, tk3, rfl⟩ := st3
  refine hq _ _ _ _ rfl (a1.trans ?_) (DIn.list (n := n) (ins_self _ _ _) ((hda.monoF z.2.toF).monoF z2.2.toF))
  obtain ⟨h2, tk2, rfl, _, _⟩ := a2
  exact ⟨h', tk3, rfl, z2.1, leF⟩
end
end Mine
end
section
open PySem PySem.W PyProof.Rows PySem.Calls
set_option Elab.async false
set_option maxRecDepth 100000
set_option linter.unusedVariables false
namespace Mine

noncomputable def FreshW (B : Heap) (l : List Env) (e : Addr) (cls a0 : Value) (h : Heap) : Prop :=
  B.StaysIn h ∧ B.get? e = none ∧ h.FunFrames B l ∧ ∃ oe vs, h.get? e = some oe ∧ oe.cls = cls ∧ oe.data = .fields vs ∧ vs[1]? = some .none ∧ vs[0]? = some a0
noncomputable def LateW (B : Heap) (l : List Env) (e : Addr) (cls a0 : Value) (L : Addr) (h : Heap) : Prop :=
  FreshW B l e cls a0 h ∨ Heap.FlyingW B l e cls a0 h ∨ Heap.HeldW B l e cls a0 L h
noncomputable def ExcS (c : Cx) (A : Around) (env : Env) (Φ : Phi) (μ : Mu) (e : Value) (s : Shared) : Prop :=
  ∃ l B ea a0, A.frames = some (env :: l) ∧ e = .ref ea ∧ LateW B (env :: l) ea (.ref c.rC) a0 env.locals s.heap ∧ Hid c B Φ μ

structure FS (c : Cx) (Φ : Phi) (A : Around) (env : Env) (k : Nat) (tbl : Tbl) (gs : Gs) (ws : List Nat) (σ : Slots) : Prop extends EVS c Φ A env k tbl gs ws σ where
  fr : env.frame = some env.locals
  frs2 : ∃ l, A.frames = some (env :: l)
  ci : ∀ y a, env.cells.lookup y = some a → env.kindOf y = some .cell ∧ ∃ i, (i, y) ∈ tbl ∧ i ∈ ws

inductive Fl where
  | next (σ : Slots)
  | ret (V : Vl)
noncomputable abbrev RS := Option (Except Unit Fl × Mu)

noncomputable def HS (c : Cx) (k : Nat) (tbl : Tbl) (gs : Gs) (ws : List Nat) (m : Env → Sem Flow) (σ : Slots) (μ : Mu) (r : Except Unit Fl) (μ' : Mu) : Prop :=
  ∀ (A : Around) (env : Env) (Φ : Phi) (s : Shared) (Q : Flow → Shared → Prop) (E : Value → Shared → Prop),
    FS c Φ A env k tbl gs ws σ → SS c.hb s.heap Φ μ →
    (∀ σ' s' Φ', r = .ok (.next σ') → AftX c.hb env s s' Φ Φ' μ' → FS c Φ' A env k tbl gs ws σ' → Q .next s') →
    (∀ V v s' Φ', r = .ok (.ret V) → AftX c.hb env s s' Φ Φ' μ' → VIn c.mC Φ' v V → Q (.ret v) s') →
    (∀ e s' Φ', r = .error () → AftX c.hb env s s' Φ Φ' μ' → ExcS c A env Φ' μ' e s' → E e s') →
    wpAny (model c.prog c.w) A (m env) Q E s

section
variable {c : Cx} {k : Nat} {tbl : Tbl} {gs : Gs} {ws : List Nat} {σ σ' σ'' : Slots} {μ μ' μ'' : Mu} {r : Except Unit Fl}

theorem FS.mono {Φ Φ' : Phi} {A : Around} {env : Env} (hs : Le Φ Φ') (h : FS c Φ A env k tbl gs ws σ) : FS c Φ' A env k tbl gs ws σ :=
  { h.toEVS.mono hs with fr := h.fr, frs2 := h.frs2, ci := h.ci }
theorem FS.of {Φ Φ' : Phi} {A : Around} {env : Env} (h : FS c Φ A env k tbl gs ws σ) (e : EVS c Φ' A env k tbl gs ws σ') : FS c Φ' A env k tbl gs ws σ' :=
  { e with fr := h.fr, frs2 := h.frs2, ci := h.ci }
theorem ExcSt.toS {A : Around} {env : Env} {Φ : Phi} {e : Value} {s : Shared} {l : List Env} (hf : A.frames = some (env :: l)) (x : ExcSt c A Φ μ e s) : ExcS c A env Φ μ e s := by
  obtain ⟨fenv, l', B, ea, a0, h1, h2, h3, h4⟩ := x
  rw [hf] at h1
  cases h1
  exact ⟨l, B, ea, a0, hf, h2, .inr (.inl h3), h4⟩
theorem FS.own {Φ : Phi} {A : Around} {env : Env} (h : FS c Φ A env k tbl gs ws σ) {a : Addr} (ha : Own env a) : ∃ t, Φ a = some t ∧ ((∃ m, t = .fm m) ∨ ∃ v, t = .cl v) := by
  rcases ha with rfl | ⟨y, hy⟩
  · obtain ⟨m, e⟩ := h.loc; exact ⟨_, e, .inl ⟨m, rfl⟩⟩
  · obtain ⟨k1, i, h1, h2⟩ := h.ci y a hy
    rcases h.stor i y h1 h2 with q | ⟨_, cc, v, q1, q2, _⟩
    · rw [k1] at q; cases q
    · rw [hy] at q1; cases q1
      exact ⟨_, q2, .inr ⟨v, rfl⟩⟩
theorem FS.notOwn {Φ : Phi} {A : Around} {env : Env} (h : FS c Φ A env k tbl gs ws σ) {a : Addr} (ha : Φ a = none) : ¬ Own env a := fun q => by
  obtain ⟨t, e, _⟩ := h.own q; rw [ha] at e; cases e
theorem FS.notOwnOt {Φ : Phi} {A : Around} {env : Env} (h : FS c Φ A env k tbl gs ws σ) {a : Addr} {o : Obj} (ha : Φ a = some (.ot o)) : ¬ Own env a := fun q => by
  obtain ⟨t, e, x⟩ := h.own q; rw [ha] at e; cases e
  rcases x with ⟨m, x⟩ | ⟨v, x⟩ <;> cases x

theorem hs_nil : HS c k tbl gs ws (execs []) σ μ (.ok (.next σ)) μ := by
  intro A env Φ s Q E ev S hn _ _
  exact wpAny_execs_nil (hn _ _ Φ rfl ((Aft.refl S).toX env) ev)
theorem hs_cons_next {st : Stmt} {rest : List Stmt} (h1 : HS c k tbl gs ws (exec st) σ μ (.ok (.next σ')) μ') (h2 : HS c k tbl gs ws (execs rest) σ' μ' r μ'') : HS c k tbl gs ws (execs (st :: rest)) σ μ r μ'' := by
  intro A env Φ s Q E ev S hn hr he
  refine wpAny_execs_cons (h1 A env Φ s _ _ ev S (fun σ1 s1 Φ1 q a1 ev1 => ?_) (fun _ _ _ _ q => by cases q) (fun _ _ _ q => by cases q))
  cases q
  exact h2 A env Φ1 s1 _ _ ev1 a1.ss (fun σ2 s2 Φ2 q a2 ev2 => hn _ _ _ q (a1.trans a2) ev2) (fun V v s2 Φ2 q a2 vi => hr _ _ _ _ q (a1.trans a2) vi) fun e s2 Φ2 q a2 x => he _ _ _ q (a1.trans a2) x
theorem hs_cons_stop {st : Stmt} {rest : List Stmt} (h1 : HS c k tbl gs ws (exec st) σ μ r μ') (hr0 : ∀ σ', r ≠ .ok (.next σ')) : HS c k tbl gs ws (execs (st :: rest)) σ μ r μ' := by
  intro A env Φ s Q E ev S hn hr he
  refine wpAny_execs_cons (h1 A env Φ s _ _ ev S (fun σ1 s1 Φ1 q a1 ev1 => absurd q (hr0 _)) (fun V v s1 Φ1 q a1 vi => hr _ _ _ _ q a1 vi) he)

theorem hs_return {e : Expr} {V : Vl} {pos : Pos} (h : HE c k tbl gs e σ μ (.ok V) μ') : HS c k tbl gs ws (exec (.Return (some e) pos)) σ μ (.ok (.ret V)) μ' := by
  intro A env Φ s Q E ev S hn hr he
  refine wpAny_Return_some (h A env Φ s _ _ ev.toEV S (fun V' v s' Φ' q a vi => ?_) fun _ _ _ q => by cases q)
  cases ok_inj q
  exact hr _ _ _ _ rfl (a.toX env) vi
theorem hs_return_err {e : Expr} {pos : Pos} (h : HE c k tbl gs e σ μ (.error ()) μ') : HS c k tbl gs ws (exec (.Return (some e) pos)) σ μ (.error ()) μ' := by
  intro A env Φ s Q E ev S hn hr he
  obtain ⟨l, hl⟩ := ev.frs2
  exact wpAny_Return_some (h A env Φ s _ _ ev.toEV S (fun _ _ _ _ q => by cases q) fun e s' Φ' _ a x => he _ _ _ rfl (a.toX env) (x.toS hl))
theorem hs_return0 {pos : Pos} : HS c k tbl gs ws (exec (.Return none pos)) σ μ (.ok (.ret (.dat .none))) μ := by
  intro A env Φ s Q E ev S hn hr he
  exact wpAny_Return_none (hr _ _ _ Φ rfl ((Aft.refl S).toX env) DIn.none)
theorem hs_expr {e : Expr} {V : Vl} {pos : Pos} (hsw : ∀ env, swapsWith e none pos.line env = pure false) (h : HE c k tbl gs e σ μ (.ok V) μ') : HS c k tbl gs ws (exec (.Expr e pos)) σ μ (.ok (.next σ)) μ' := by
  intro A env Φ s Q E ev S hn hr he
  refine wpAny_Expr_any (h A env Φ s _ _ ev.toEV S (fun V' v s' Φ' q a vi => hn _ _ _ rfl (a.toX env) (ev.mono a.le)) fun _ _ _ q => by cases q) ?_ (hsw env)
  unfold interactive
  rw [ev.kind]; rfl
theorem hs_expr_err {e : Expr} {pos : Pos} (hsw : ∀ env, swapsWith e none pos.line env = pure false) (h : HE c k tbl gs e σ μ (.error ()) μ') : HS c k tbl gs ws (exec (.Expr e pos)) σ μ (.error ()) μ' := by
  intro A env Φ s Q E ev S hn hr he
  obtain ⟨l, hl⟩ := ev.frs2
  refine wpAny_Expr_any (h A env Φ s _ _ ev.toEV S (fun _ _ _ _ q => by cases q) fun e s' Φ' _ a x => he _ _ _ rfl (a.toX env) (x.toS hl)) ?_ (hsw env)
  unfold interactive
  rw [ev.kind]; rfl
theorem hs_if {t : Expr} {body orelse : List Stmt} {b : Bool} {pos : Pos} (h : HT c k tbl gs t σ μ (.ok b) μ') (h2 : HS c k tbl gs ws (execs (if b then body else orelse)) σ μ' r μ'') : HS c k tbl gs ws (exec (.If t body orelse pos)) σ μ r μ'' := by
  intro A env Φ s Q E ev S hn hr he
  refine wpAny_If (h A env Φ s _ _ ev.toEV S (fun b' s1 Φ1 q a1 => ?_) fun _ _ _ q => by cases q)
  cases ok_inj q
  have := h2 A env Φ1 s1 Q E (ev.mono a1.le) a1.ss (fun σ2 s2 Φ2 q a2 ev2 => hn _ _ _ q ((a1.toX env).trans a2) ev2) (fun V v s2 Φ2 q a2 vi => hr _ _ _ _ q ((a1.toX env).trans a2) vi) fun e s2 Φ2 q a2 x => he _ _ _ q ((a1.toX env).trans a2) x
  cases b <;> exact this
theorem hs_if_err {t : Expr} {body orelse : List Stmt} {pos : Pos} (h : HT c k tbl gs t σ μ (.error ()) μ') : HS c k tbl gs ws (exec (.If t body orelse pos)) σ μ (.error ()) μ' := by
  intro A env Φ s Q E ev S hn hr he
  obtain ⟨l, hl⟩ := ev.frs2
  exact wpAny_If (h A env Φ s _ _ ev.toEV S (fun _ _ _ q => by cases q) fun e s' Φ' _ a x => he _ _ _ rfl (a.toX env) (x.toS hl))

theorem hs_assign {x : Str} {i : Nat} {e : Expr} {V : Vl} {p pos : Pos} (hsw : ∀ env, swapsWith e (some (.Name x p)) pos.line env = pure false) (hi : (i, x) ∈ tbl) (hw : i ∈ ws) (hlt : i < σ.length) (h : HE c k tbl gs e σ μ (.ok V) μ') :
    HS c k tbl gs ws (exec (.Assign [.Name x p] e pos)) σ μ (.ok (.next (σ.set i (some V)))) μ' := by
  intro A env Φ s Q E ev S hn hr he
  refine wpAny_Assign_Name (h A env Φ s _ _ ev.toEV S (fun V' v s1 Φ1 q a1 vi => ?_) fun _ _ _ q => by cases q) (hsw env)
  cases ok_inj q
  exact store_name (ev.mono a1.le).toEVS a1.ss hi hw hlt vi fun s2 Φ2 a2 ev2 _ => hn _ _ _ rfl ((a1.toX env).trans a2) (ev.of ev2)
theorem hs_assign_err {x : Str} {e : Expr} {p pos : Pos} (hsw : ∀ env, swapsWith e (some (.Name x p)) pos.line env = pure false) (h : HE c k tbl gs e σ μ (.error ()) μ') :
    HS c k tbl gs ws (exec (.Assign [.Name x p] e pos)) σ μ (.error ()) μ' := by
  intro A env Φ s Q E ev S hn hr he
  obtain ⟨l, hl⟩ := ev.frs2
  exact wpAny_Assign_Name (h A env Φ s _ _ ev.toEV S (fun _ _ _ _ q => by cases q) fun e s' Φ' _ a x => he _ _ _ rfl (a.toX env) (x.toS hl)) (hsw env)
theorem hs_assign_tup {es : List Expr} {is : List Nat} {e : Expr} {ds : List Dat} {kk : Nat} {tp pos : Pos} (hsw : ∀ env, swapsWithSole [.Tuple es kk tp] e pos.line env = pure false) (hst : ∀ env, swappedStores [.Tuple es kk tp] e env = pure none)
    (mn : MN tbl ws is es) (h : HE c k tbl gs e σ μ (.ok (.dat (.tuple ds))) μ') (hs : setAll is ds σ = some σ') : HS c k tbl gs ws (exec (.Assign [.Tuple es kk tp] e pos)) σ μ (.ok (.next σ')) μ' := by
  intro A env Φ s Q E ev S hn hr he
  refine Assign_Tuple (h A env Φ s _ _ ev.toEV S (fun V' v s1 Φ1 q a1 vi => ?_) fun _ _ _ q => by cases q) (hsw env) (hst env)
  cases ok_inj q
  exact assign_tgt (tg := .tup is) (.tup mn) (ev.mono a1.le).toEVS a1.ss vi hs fun s2 Φ2 a2 ev2 _ => hn _ _ _ rfl ((a1.toX env).trans a2) (ev.of ev2)
theorem hs_assign_tup_err {es : List Expr} {e : Expr} {kk : Nat} {tp pos : Pos} (hsw : ∀ env, swapsWithSole [.Tuple es kk tp] e pos.line env = pure false) (hst : ∀ env, swappedStores [.Tuple es kk tp] e env = pure none)
    (h : HE c k tbl gs e σ μ (.error ()) μ') : HS c k tbl gs ws (exec (.Assign [.Tuple es kk tp] e pos)) σ μ (.error ()) μ' := by
  intro A env Φ s Q E ev S hn hr he
  obtain ⟨l, hl⟩ := ev.frs2
  exact Assign_Tuple (h A env Φ s _ _ ev.toEV S (fun _ _ _ _ q => by cases q) fun e s' Φ' _ a x => he _ _ _ rfl (a.toX env) (x.toS hl)) (hsw env) (hst env)

noncomputable def augD : Operator → Int → Int → Option Int
  | .Add, a, b => some (a + b)
  | .Mult, a, b => if (small a || small b) = true then some (a * b) else none
  | _, _, _ => none
theorem hs_aug {x : Str} {i : Nat} {op : Operator} {e : Expr} {a b z : Int} {p pos : Pos} (hi : (i, x) ∈ tbl) (hw : i ∈ ws) (hv : σ[i]? = some (some (.dat (.int a)))) (hcd : (x == ("__classdict__" : Str)) = false) (h : HE c k tbl gs e σ μ (.ok (.dat (.int b))) μ') (hz : augD op a b = some z) :
    HS c k tbl gs ws (exec (.AugAssign (.Name x p) op e pos)) σ μ (.ok (.next (σ.set i (some (.dat (.int z)))))) μ' := by
  intro A env Φ s Q E ev S hn hr he
  have hlt : i < σ.length := (List.getElem?_eq_some_iff.mp hv).1
  obtain ⟨v, nm, vi⟩ := ev.names i x _ hi hv
  have load : ∀ {Q1 : Value → Shared → Prop}, Q1 v s → wpAny (model c.prog c.w) A (loadName env x) Q1 E s := fun {Q1} q => by
    rcases nm with ⟨h1, m, h2, h3⟩ | ⟨cc, h1, h2, h3⟩
    · exact wpAny_loadName_local ev.kind h1 (S.tag _ _ h2).2 h3 q
    · rcases h1 with h1 | h1
      · exact wpAny_loadName_cell ev.kind h1 h2 (S.tag _ _ h3).2 q
      · exact wpAny_loadName_free ev.kind h1 h2 (S.tag _ _ h3).2 q hcd
  cases vi with
  | int _ t =>
  refine wpAny_AugAssign_Name (load (h A env Φ s _ _ ev.toEV S (fun V' u s1 Φ1 q a1 vi1 => ?_) fun _ _ _ q => by cases q))
  cases ok_inj q
  cases vi1 with
  | int _ t1 =>
  have fin : ∀ (tk : Nat) (t2 : Tok), wpAny (model c.prog c.w) A (storeName env x (.int z t2)) (fun _ => Q .next) E { s1 with toks := tk } := fun tk t2 =>
    store_name (V := .dat (.int z)) (ev.mono a1.le).toEVS (Aft.tok a1.ss tk).ss hi hw hlt (DIn.int _ _) fun s2 Φ2 a2 ev2 _ => hn _ _ _ rfl (((a1.trans (Aft.tok a1.ss tk)).toX env).trans a2) (ev.of ev2)
  unfold augD at hz
  split at hz
  · cases hz; exact iadd_int (fin _ _)
  · split at hz
    · rename_i hm; cases hz; exact imul_int (fin _ _) (mulOk hm)
    · cases hz
  · cases hz
end
end Mine
end
section
open PySem PySem.W PyProof.Rows PySem.Calls
set_option Elab.async false
set_option maxRecDepth 100000
set_option linter.unusedVariables false
namespace Mine

theorem SS.newMt {hb h h' : Heap} {Φ : Phi} {μ : Mu} (S : SS hb h Φ μ) (k : ∀ b o, h.get? b = some o → h'.get? b = some o) {a : Addr} {mo : MO} {o : Obj} (hn : Φ a = none) (ha : hb.objs.size ≤ a)
    (ho : h'.get? a = some o) (hr : MRel Φ o mo) : SS hb h' (ins Φ a (.mt μ.length)) (μ ++ [mo]) ∧ Le Φ (ins Φ a (.mt μ.length)) := by
  have le : Le Φ (ins Φ a (.mt μ.length)) := Le.ins hn
  have lt : ∀ {x i}, Φ x = some (.mt i) → i < μ.length := fun {x i} e => by
    obtain ⟨mo, _, h1, _⟩ := (S.tag _ _ e).2
    exact (List.getElem?_eq_some_iff.mp h1).1
  refine ⟨⟨fun b o e => k b o (S.keep b o e), fun b u e => ?_, fun x y i e1 e2 => ?_⟩, le⟩
  · by_cases q : b = a
    · subst q
      rw [ins_self] at e; cases e
      refine ⟨ha, mo, o, ?_, ho, hr.monoF le.toF⟩
      simp
    · rw [ins_ne _ _ q] at e
      refine ⟨(S.tag b u e).1, ?_⟩
      have x := (S.tag b u e).2.at (Φ' := ins Φ a (.mt μ.length)) (k b) le.toF
      cases u with
      | mt i =>
        obtain ⟨mo', o', h1, h2, h3⟩ := x
        exact ⟨mo', o', by rw [List.getElem?_append_left (lt e)]; exact h1, h2, h3⟩
      | fz o => exact x
      | ot o => exact x
      | fm m => exact x
      | cl v => exact x
  · by_cases q1 : x = a
    · by_cases q2 : y = a
      · rw [q1, q2]
      · rw [q1, ins_self] at e1
        rw [ins_ne _ _ q2] at e2
        cases e1
        exact absurd (lt e2) (Nat.lt_irrefl _)
    · by_cases q2 : y = a
      · rw [q2, ins_self] at e2
        rw [ins_ne _ _ q1] at e1
        cases e2
        exact absurd (lt e1) (Nat.lt_irrefl _)
      · rw [ins_ne _ _ q1] at e1; rw [ins_ne _ _ q2] at e2
        exact S.inj x y i e1 e2

inductive F2 {α β : Type} (R : α → β → Prop) : List α → List β → Prop
  | nil : F2 R [] []
  | cons {a : α} {b : β} {as : List α} {bs : List β} : R a b → F2 R as bs → F2 R (a :: as) (b :: bs)

theorem zip_rev {α β : Type} : ∀ (as : List α) (bs : List β), as.length = bs.length → as.reverse.zip bs.reverse = (as.zip bs).reverse
  | [], [], _ => rfl
  | [], _ :: _, h => by cases h
  | _ :: _, [], h => by cases h
  | a :: as, b :: bs, h => by
    have h' : as.length = bs.length := by simpa using h
    rw [List.reverse_cons, List.reverse_cons, List.zip_append (by rw [List.length_reverse, List.length_reverse, h']), zip_rev as bs h']
    show _ = ((a, b) :: as.zip bs).reverse
    rw [List.reverse_cons]
    rfl

noncomputable def setPs : List (Nat × Vl) → Slots → Slots
  | [], σ => σ
  | p :: ps, σ => setPs ps (σ.set p.1 (some p.2))
theorem setPs_append : ∀ (ps qs : List (Nat × Vl)) (σ : Slots), setPs (ps ++ qs) σ = setPs qs (setPs ps σ)
  | [], _, _ => rfl
  | p :: ps, qs, σ => setPs_append ps qs _
theorem setPs_set : ∀ (ps : List (Nat × Vl)) (σ : Slots) (i : Nat) (V : Vl), (∀ p ∈ ps, p.1 ≠ i) → setPs ps (σ.set i (some V)) = (setPs ps σ).set i (some V)
  | [], _, _, _, _ => rfl
  | p :: ps, σ, i, V, h => by
    show setPs ps ((σ.set i (some V)).set p.1 (some p.2)) = _
    rw [List.set_comm _ _ (Ne.symm (h p (.head _)))]
    exact setPs_set ps _ i V fun q hq => h q (.tail _ hq)
theorem setPs_rev : ∀ (ps : List (Nat × Vl)) (σ : Slots), (ps.map (·.1)).Nodup → setPs ps.reverse σ = setPs ps σ
  | [], _, _ => rfl
  | p :: ps, σ, h => by
    rw [List.map_cons, List.nodup_cons] at h
    rw [List.reverse_cons, setPs_append]
    show (setPs ps.reverse σ).set p.1 (some p.2) = setPs ps (σ.set p.1 (some p.2))
    rw [setPs_rev ps σ h.2, setPs_set]
    intro q hq e
    exact h.1 (List.mem_map.mpr ⟨q, hq, e⟩)

section
variable {c : Cx} {k : Nat} {tbl : Tbl} {gs : Gs} {ws : List Nat} {σ σ' σ'' : Slots} {μ μ' μ'' : Mu} {r : Except Unit Fl}

theorem VAll.monoD {Φ Φ' : Phi} {mC : Addr} (hs : LeD Φ Φ') {vs : List Value} {Vs : List Vl} (h : VAll mC Φ vs Vs) : VAll mC Φ' vs Vs := by
  induction h with
  | nil => exact .nil
  | cons a _ ih => exact .cons (a.monoD hs) ih
theorem VAll.rev {Φ : Phi} {mC : Addr} {vs : List Value} {Vs : List Vl} (h : VAll mC Φ vs Vs) : VAll mC Φ vs.reverse Vs.reverse := by
  have app : ∀ {vs ws : List Value} {Vs Ws : List Vl}, VAll mC Φ vs Vs → VAll mC Φ ws Ws → VAll mC Φ (vs ++ ws) (Vs ++ Ws) := by
    intro vs ws Vs Ws h1 h2
    induction h1 with
    | nil => exact h2
    | cons a _ ih => exact .cons a ih
  induction h with
  | nil => exact .nil
  | cons a _ ih => rw [List.reverse_cons, List.reverse_cons]; exact app ih (.cons a .nil)

theorem store_all {A : Around} {env : Env} {E : Value → Shared → Prop} : ∀ (ps : List (Nat × Str)) {σ : Slots} {Vs : List Vl} {vs : List Value} {fs : List (Value → Sem Unit)} {Φ : Phi} {s : Shared} {Q : Unit → Shared → Prop},
    (∀ p ∈ ps, p ∈ tbl ∧ p.1 ∈ ws ∧ p.1 < σ.length) → ps.length = Vs.length →
    (∃ gsx : List (Value → Sem Unit), fs = gsx ∧ F2 (fun (g : Value → Sem Unit) (p : Nat × Str) => ∀ (v : Value) (Q : Unit → Shared → Prop) (s : Shared), wpAny (model c.prog c.w) A (storeName env p.2 v) Q E s → wpAny (model c.prog c.w) A (g v) Q E s) gsx ps) →
    EVS c Φ A env k tbl gs ws σ → SS c.hb s.heap Φ μ → VAll c.mC Φ vs Vs →
    (∀ s' Φ', AftX c.hb env s s' Φ Φ' μ → EVS c Φ' A env k tbl gs ws (setPs ((ps.map (·.1)).zip Vs) σ) → Q () s') →
    wpAny (model c.prog c.w) A (assignInOrder fs vs) Q E s
  | [], σ, Vs, vs, fs, Φ, s, Q, hp, hl, hf, ev, S, va, h => by
    obtain ⟨gsx, rfl, hf⟩ := hf
    cases hf
    cases Vs with
    | nil => cases va; exact assignInOrder_nil (h s Φ ((Aft.refl S).toX env) ev)
    | cons => cases hl
  | p :: ps, σ, Vs, vs, fs, Φ, s, Q, hp, hl, hf, ev, S, va, h => by
    obtain ⟨gsx, rfl, hf⟩ := hf
    cases hf with
    | cons hg hf =>
      cases va with
      | nil => cases hl
      | cons vi va =>
        obtain ⟨h1, h2, h3⟩ := hp p (.head _)
        refine assignInOrder_cons (hg _ _ _ (store_name ev S h1 h2 h3 vi fun s1 Φ1 a1 ev1 _ => ?_))
        refine store_all ps (fun q hq => ?_) (by simpa using hl) ⟨_, rfl, hf⟩ ev1 a1.ss (va.monoD a1.ld) fun s2 Φ2 a2 ev2 => h s2 Φ2 (a1.trans a2) ev2
        obtain ⟨y1, y2, y3⟩ := hp q (.tail _ hq)
        exact ⟨y1, y2, by rw [List.length_set]; exact y3⟩

noncomputable def nameOf (a : Expr) : Option Str := if h : a.ctorIdx = 23 then Expr.Name.elim (motive_1 := fun _ => Option Str) a h fun x _ => some x else none
theorem nameOf_at {a : Expr} {x : Str} (h : nameOf a = some x) : ∃ p, a = .Name x p := by
  unfold nameOf at h
  by_cases c : a.ctorIdx = 23
  · rw [dif_pos c] at h
    exact Expr.Name.elim (motive_1 := fun a => ∀ h : a.ctorIdx = 23, (Expr.Name.elim (motive_1 := fun _ => Option Str) a h fun x _ => some x) = some x → ∃ p, a = .Name x p) a c (fun x0 p _ e => ⟨p, by rw [Option.some.inj e]⟩) c h
  · rw [dif_neg c] at h; cases h
noncomputable def nmsOf : List Expr → Option (List Str)
  | [] => some []
  | e :: es => (nameOf e).bind fun x => (nmsOf es).map (x :: ·)
theorem nmsOf_cons {e : Expr} {es : List Expr} {xs : List Str} (h : nmsOf (e :: es) = some xs) : ∃ x p ys, e = .Name x p ∧ nmsOf es = some ys ∧ xs = x :: ys := by
  obtain ⟨x, h1, h⟩ := Option.bind_eq_some_iff.mp h
  obtain ⟨ys, h2, h⟩ := Option.map_eq_some_iff.mp h
  obtain ⟨p, h1⟩ := nameOf_at h1
  exact ⟨x, p, ys, h1, h2, h.symm⟩
theorem nmsOf_len {es : List Expr} : ∀ {xs : List Str}, nmsOf es = some xs → es.length = xs.length := by
  induction es with
  | nil => intro xs e; cases e; rfl
  | cons t ts ih =>
    intro xs e
    obtain ⟨_, _, ys, _, h, e⟩ := nmsOf_cons e
    rw [e]; exact congrArg (· + 1) (ih h)
theorem nmsOf_each {env : Env} {es : List Expr} : ∀ {xs : List Str}, nmsOf es = some xs → (assignEach es env).length = xs.length ∧ (assignEach es env).findIdx? (·.1) = none ∧
    ∀ (is : List Nat), is.length = xs.length → ∀ (M : Model) (A : Around) (E : Value → Shared → Prop), F2 (fun (g : Value → Sem Unit) (p : Nat × Str) => ∀ (v : Value) (Q : Unit → Shared → Prop) (s : Shared), wpAny M A (storeName env p.2 v) Q E s → wpAny M A (g v) Q E s) ((assignEach es env).map (·.2)) (is.zip xs) := by
  induction es with
  | nil => intro xs e; cases e; exact ⟨rfl, rfl, fun is hl M A E => by cases is with | nil => exact .nil | cons => cases hl⟩
  | cons e₀ es ih =>
    intro xs e
    obtain ⟨x, p, ys, h1, h2, h3⟩ := nmsOf_cons e
    subst h1
    obtain ⟨a, b, d⟩ := ih h2
    rw [h3]
    refine ⟨congrArg (· + 1) a, ?_, fun is hl M A E => ?_⟩
    · show List.findIdx? _ ((false, _) :: assignEach es env) = none
      rw [List.findIdx?_cons, b]; rfl
    · cases is with
      | nil => cases hl
      | cons i is => exact .cons (fun v Q s q => wpAny_assign_Name q) (d is (Nat.succ.inj hl) M A E)
theorem nmsOf_filter {f : Expr → Option Str} (hf : ∀ x p y, f (.Name x p) = some y → y = x) {es : List Expr} : ∀ {xs : List Str}, nmsOf es = some xs → (es.filterMap f).length = es.length → es.filterMap f = xs := by
  induction es with
  | nil => intro xs e _; cases e; rfl
  | cons e₀ es ih =>
    intro xs e hl
    obtain ⟨x, p, ys, h1, h2, h3⟩ := nmsOf_cons e
    subst h1
    rw [List.filterMap_cons] at hl ⊢
    cases hx : f (.Name x p) with
    | none =>
      rw [hx] at hl
      exact absurd (Nat.le_of_eq hl.symm) (Nat.not_le.mpr (Nat.lt_succ_of_le (List.length_filterMap_le f es)))
    | some y =>
      rw [hx] at hl
      rw [h3, hf x p y hx]
      exact congrArg (x :: ·) (ih h2 (Nat.succ.inj hl))

theorem hs_assign_disp {es ts : List Expr} {is : List Nat} {xs : List Str} {Vs : List Vl} {kk kk2 : Nat} {tp vp pos : Pos} (hx : nmsOf ts = some xs) (hil : is.length = xs.length) (hvl : is.length = Vs.length) (hnd : is.Nodup) (hp : ∀ p ∈ is.zip xs, p ∈ tbl ∧ p.1 ∈ ws ∧ p.1 < σ.length)
    (hca : (decide (3 < ts.length) || !(es.all (constantsAlone 8))) = true) (hle : ts.length ≤ 100)
    (h : HL c k tbl gs es σ μ (.ok Vs) μ') : HS c k tbl gs ws (exec (.Assign [.Tuple ts kk tp] (.Tuple es kk2 vp) pos)) σ μ (.ok (.next (setPs (is.zip Vs) σ))) μ' := by
  intro A env Φ s Q E ev S hn hr he
  have zipfst : ∀ {α β : Type} (as : List α) (bs : List β), as.length = bs.length → (as.zip bs).map (·.1) = as := by
    intro α β as bs hab
    exact List.map_fst_zip (Nat.le_of_eq hab)
  have hxl := nmsOf_len hx
  have disp : ∀ (Q1 : Value → Shared → Prop), (∀ a vs s1 Φ1, Aft c.hb s s1 Φ Φ1 μ' → IsTup s1.heap a vs.toArray → VAll c.mC Φ1 vs Vs → Q1 (.ref a) s1) → wpAny (model c.prog c.w) A (eval (.Tuple es kk2 vp) env) Q1 E s := by
    intro Q1 q1
    refine Tuple_ (h A env Φ s vp _ _ ev.toEV S (fun Vs' vs s1 Φ1 q a1 va => ?_) fun _ _ _ q => by cases q)
    cases q
    obtain ⟨L, m, hL⟩ := (ev.toCV.mono a1.le).tag
    have p := Aft.pushOt a1.ss hL { cls := .type "tuple", data := .seq vs.toArray } s1.toks
    refine wpAny_newTuple (q1 _ vs _ _ (a1.trans p) ⟨_, Heap.get?_push_size _ rfl, rfl, _, rfl⟩ (va.mono p.le)) ?_
    rw [va.length, ← hvl, hil, ← hxl]
    exact Nat.le_trans hle (by decide)
  have plain : ∀ (hst : swappedStores [.Tuple ts kk tp] (.Tuple es kk2 vp) env = pure none), wpAny (model c.prog c.w) A (exec (.Assign [.Tuple ts kk tp] (.Tuple es kk2 vp) pos) env) Q E s := by
    intro hst
    refine Assign_Tuple (disp _ fun a vs s1 Φ1 a1 ht va => ?_) rfl hst
    obtain ⟨e1, e2, e3⟩ := nmsOf_each (env := env) hx
    refine assign_Tuple_tuple ev.hh ht (by rw [e1, List.size_toArray, va.length, ← hvl, hil]) e2 fun h' hb => ?_
    have k' : ∀ b o, s1.heap.get? b = some o → h'.get? b = some o := fun b o e => hb b o (Nat.ne_of_lt (Heap.lt_size e)) e
    have a2 : Aft c.hb s { s1 with heap := h' } Φ Φ1 μ' := by
      obtain ⟨hh1, tk1, rfl, S1, l1⟩ := a1
      exact ⟨h', tk1, rfl, S1.grow k', l1⟩
    refine store_all (is.zip xs) hp (by rw [List.length_zip, hil, Nat.min_self, ← hil, hvl]) ⟨_, rfl, e3 is hil _ _ _⟩ (ev.mono a2.le).toEVS a2.ss va fun s3 Φ3 a3 ev3 => ?_
    rw [zipfst _ _ hil] at ev3
    exact hn _ _ _ rfl ((a2.toX env).trans a3) (ev.of ev3)
  have swap : ∀ (names : List Str), names = xs → swappedStores [.Tuple ts kk tp] (.Tuple es kk2 vp) env = pure (some names) → wpAny (model c.prog c.w) A (exec (.Assign [.Tuple ts kk tp] (.Tuple es kk2 vp) pos) env) Q E s := by
    rintro names rfl hst
    refine Assign_Tuple_swapped (disp _ fun a vs s1 Φ1 a1 ht va => ?_) rfl hst
    have hsz : names.length = vs.toArray.size := by rw [List.size_toArray, va.length, ← hvl, hil]
    rw [hsz]
    refine unpackItems_tuple ev.hh ht fun h' hb => ?_
    have k' : ∀ b o, s1.heap.get? b = some o → h'.get? b = some o := fun b o e => hb b o (Nat.ne_of_lt (Heap.lt_size e)) e
    have a2 : Aft c.hb s { s1 with heap := h' } Φ Φ1 μ' := by
      obtain ⟨hh1, tk1, rfl, S1, l1⟩ := a1
      exact ⟨h', tk1, rfl, S1.grow k', l1⟩
    have fa : ∀ (ps : List (Nat × Str)), F2 (fun (g : Value → Sem Unit) (p : Nat × Str) => ∀ (v : Value) (Q : Unit → Shared → Prop) (s : Shared), wpAny (model c.prog c.w) A (storeName env p.2 v) Q E s → wpAny (model c.prog c.w) A (g v) Q E s) (ps.map fun p => bindName env p.2) ps := by
      intro ps
      induction ps with
      | nil => exact .nil
      | cons p ps ih => exact .cons (fun v Q s q => bindName_ q) ih
    have hnm : names = (is.zip names).map (·.2) := by rw [List.map_snd_zip (Nat.le_of_eq hil.symm)]
    have hmap : (names.reverse.map fun n => bindName env n) = ((is.zip names).reverse.map fun p => bindName env p.2) := by
      conv => lhs; rw [hnm]
      rw [← List.map_reverse, List.map_map]; rfl
    rw [hmap]
    refine store_all (is.zip names).reverse (fun p hq => hp p (List.mem_reverse.mp hq)) (by rw [List.length_reverse, List.length_reverse, List.length_zip, hil, Nat.min_self, ← hil, hvl]) ⟨_, rfl, fa _⟩ (ev.mono a2.le).toEVS a2.ss (Vs := Vs.reverse) (by simpa using va.rev) fun s3 Φ3 a3 ev3 => ?_
    have ez : (((is.zip names).reverse.map (·.1)).zip Vs.reverse) = (is.zip Vs).reverse := by
      rw [List.map_reverse, zipfst _ _ hil, zip_rev _ _ hvl]
    rw [ez, setPs_rev _ _ (by rw [zipfst _ _ hvl]; exact hnd)] at ev3
    exact hn _ _ _ rfl ((a2.toX env).trans a3) (ev.of ev3)
  have key : swappedStores [.Tuple ts kk tp] (.Tuple es kk2 vp) env = pure none ∨ ∃ names, names = xs ∧ swappedStores [.Tuple ts kk tp] (.Tuple es kk2 vp) env = pure (some names) := by
    unfold swappedStores
    dsimp only
    split
    · exact .inl rfl
    · rename_i c1
      have hl3 : ts.length = 2 ∨ ts.length = 3 := by
        simp only [Bool.or_eq_true, Bool.not_eq_true', not_or, Bool.not_eq_false, beq_iff_eq] at c1
        simpa using c1.1.1
      have hca' : (es.all (constantsAlone 8)) = false := by
        rcases Bool.or_eq_true_iff.mp hca with q | q
        · have := of_decide_eq_true q; (first | lia | omega)
        · simpa using q
      split
      · exact .inl rfl
      · split
        · exact .inl rfl
        · rename_i c3
          split
          · exact .inl rfl
          · rw [hca', if_neg Bool.false_ne_true]
            refine .inr ⟨_, nmsOf_filter ?_ hx ?_, rfl⟩
            · intro x p y q
              dsimp only at q
              split at q
              · cases q; rfl
              · cases q
            · simp only [Bool.or_eq_true, not_or, bne_iff_ne, ne_eq, Decidable.not_not] at c3
              exact c3.1
  rcases key with q | ⟨names, q1, q2⟩
  · exact plain q
  · exact swap names q1 q2
end
end Mine
end
section
open PySem PySem.W PyProof.Rows PySem.Calls
set_option Elab.async false
set_option maxRecDepth 100000
set_option linter.unusedVariables false
namespace Mine

section
variable {c : Cx} {k : Nat} {tbl : Tbl} {gs : Gs} {ws : List Nat} {σ σ' σ'' : Slots} {μ μ' μ'' : Mu} {r : Except Unit Fl}

theorem he_newlist {pos : Pos} : HE c k tbl gs (.List [] pos) σ μ (.ok (.mref μ.length)) (μ ++ [.plst []]) := by
  intro A env Φ s Q E ev S hq he
  refine List_ (spliced_nil ?_)
  obtain ⟨L, m, hL⟩ := ev.toCV.tag
  have z := S.newMt (keeps_push { cls := .type "list", data := .seq ([] : List Value).toArray }) (mo := .plst []) (S.none_ge (Nat.le_refl _)) (S.size hL) (Heap.get?_push_size _ rfl) ⟨[], 0, rfl, .nil⟩
  exact wpAny_newList (hq _ _ _ _ rfl ⟨_, s.toks, rfl, z.1, z.2⟩ ⟨_, rfl, ins_self _ _ _⟩) (by simp)
theorem he_append {x : Str} {xp apos pos : Pos} {e : Expr} {i : Nat} {ds : List Dat} {d : Dat} (hs : ∀ z q, e ≠ .Starred z q) (hline : (apos.endLine == pos.line) = true)
    (h : HE c k tbl gs (.Name x xp) σ μ (.ok (.mref i)) μ) (h2 : HE c k tbl gs e σ μ (.ok (.dat d)) μ') (hm0 : ∃ ds0, μ[i]? = some (.plst ds0)) (hm : μ'[i]? = some (.plst ds)) (hrm : room ds.length = true) :
    HE c k tbl gs (.Call (.Attribute (.Name x xp) (Str.ofString "append") apos) [e] [] pos) σ μ (.ok (.dat .none)) (μ'.set i (.plst (ds ++ [d]))) := by
  intro A env Φ s Q E ev S hq he
  obtain ⟨pl, hev⟩ := meth_eq (env := env) (args := [e]) (o := .Name x xp) (nm := Str.ofString "append") rfl (fun y hy => by rw [List.mem_singleton.mp hy]; exact hs) (by show 1 < 20; (first | lia | omega)) hline
  refine MethodCall_ (pl := pl) (h A env Φ s _ _ ev S (fun V' v s' Φ' q a vi => ?_) fun _ _ _ q => by cases q) hev
  cases ok_inj q
  obtain ⟨xa, rfl, hxa⟩ := vi
  obtain ⟨ds0, hm0⟩ := hm0
  obtain ⟨mo, o, h1, h3, h4⟩ := (a.ss.tag _ _ hxa).2
  rw [hm0] at h1; cases h1
  obtain ⟨vs0, n0, rfl, _⟩ := h4
  refine getMethod_list_append h3 rfl rfl ?_
  refine callWith_vals (P := fun _ => True) (fun y hy => by rw [List.mem_singleton.mp hy]; exact hs) (fun _ _ => ⟨_, .inr (.inl rfl), Looks.of_pure rfl⟩) ?_
  rw [starEach_cons hs]
  refine spliced_cons (h2 A env Φ' s' _ _ (ev.mono a.le) a.ss (fun V'' u s2 Φ2 q2 a2 vi2 => spliced_nil ⟨trivial, ?_⟩) fun _ _ _ q => by cases q)
  cases ok_inj q2
  have hxa2 := a2.le _ _ hxa
  obtain ⟨mo, o, g1, g3, g4⟩ := (a2.ss.tag _ _ hxa2).2
  rw [hm] at g1; cases g1
  obtain ⟨vs, n, rfl, da⟩ := g4
  refine append_at g3 (fun h' hsb ho => ?_) (by rw [List.size_toArray, da.length]; exact Nat.le_trans (room_le hrm) (by decide))
  have z := a2.ss.turn (mo := .plst (ds ++ [d])) hxa2 hsb ho ⟨vs ++ [u], n + 1, by simp [W.listOf], da.append (DAll.one vi2)⟩
  exact hq _ _ _ Φ2 rfl ((a.trans a2).trans ⟨h', s2.toks, rfl, z, .refl _⟩) DIn.none
theorem hs_setitem {x : Str} {xp sp pos : Pos} {ie e : Expr} {j : Nat} {ds : List Dat} {d : Dat} {i : Int} (hsw : ∀ env, swapsWith e (some (.Subscript (.Name x xp) ie sp)) pos.line env = pure false)
    (h : HE c k tbl gs e σ μ (.ok (.dat d)) μ') (h2 : HE c k tbl gs (.Name x xp) σ μ' (.ok (.mref j)) μ') (h3 : HE c k tbl gs ie σ μ' (.ok (.dat (.int i))) μ'') (hm : μ''[j]? = some (.lst ds)) (h0 : 0 ≤ i) (hlt : i < ds.length) (hrm : room ds.length = true) :
    HS c k tbl gs ws (exec (.Assign [.Subscript (.Name x xp) ie sp] e pos)) σ μ (.ok (.next σ)) (μ''.set j (.lst (ds.set i.toNat d))) := by
  intro A env Φ s Q E ev S hn hr he
  refine wpAny_Assign_Subscript (h A env Φ s _ _ ev.toEV S (fun V1 v s1 Φ1 q1 a1 vi1 => ?_) fun _ _ _ q => by cases q) (hsw env)
  cases ok_inj q1
  refine h2 A env Φ1 s1 _ _ (ev.toEV.mono a1.le) a1.ss (fun V2 u s2 Φ2 q2 a2 vi2 => ?_) fun _ _ _ q => by cases q
  cases ok_inj q2
  obtain ⟨xa, rfl, hxa⟩ := vi2
  refine h3 A env Φ2 s2 _ _ ((ev.toEV.mono a1.le).mono a2.le) a2.ss (fun V3 w s3 Φ3 q3 a3 vi3 => ?_) fun _ _ _ q => by cases q
  cases ok_inj q3
  cases vi3 with
  | int _ t =>
  have hxa3 := a3.le _ _ hxa
  obtain ⟨mo, o, g1, g3, g4⟩ := (a3.ss.tag _ _ hxa3).2
  rw [hm] at g1; cases g1
  obtain ⟨gc, vs, n, gd, da⟩ := g4
  have lim := room_le hrm
  refine wpAny_setItem_list ⟨o, g3, gc, n, gd⟩ h0 (by have : (1000000 : Int) < 2 ^ 63 := by decide
                                                      (first | lia | omega)) (by rw [List.size_toArray, da.length]; exact hlt) fun h' hl hsb => ?_
  obtain ⟨o', ho', hc', n', hd'⟩ := hl
  have vi := DIn.mono (a2.le.trans a3.le) vi1
  have z := a3.ss.turn (mo := .lst (ds.set i.toNat d)) hxa3 hsb ho' ⟨hc', vs.set i.toNat v, n', by rw [hd']; simp, da.set vi _⟩
  have fin : Aft c.hb s { s3 with heap := h' } Φ Φ3 _ := ((a1.trans a2).trans a3).trans ⟨h', s3.toks, rfl, z, .refl _⟩
  exact hn _ _ _ rfl (fin.toX env) (ev.mono fin.le)

theorem EVS.drop {Φ : Phi} {A : Around} {env : Env} {C : Addr} (ev : EVS c Φ A env k tbl gs ws σ) (hC : ¬ Own env C) (hf : ∀ l, A.frames = some l → ∀ e ∈ l, e.frame ≠ some C) (ld : LeD Φ (drp Φ C)) : EVS c (drp Φ C) A env k tbl gs ws σ := by
  have nm : ∀ {x v}, NmAt Φ env x v → NmAt (drp Φ C) env x v := fun {x v} h => by
    rcases h with ⟨h1, m, h2, h3⟩ | ⟨cc, h1, h2, h3⟩
    · exact .inl ⟨h1, m, (by rw [drp_ne]; exact h2; intro q; exact hC (.inl q.symm)), h3⟩
    · exact .inr ⟨cc, h1, h2, (by rw [drp_ne]; exact h3; intro q; exact hC (.inr ⟨x, by rw [← q]; exact h2⟩))⟩
  refine { hh := ev.hh, dep := ev.dep, uni := ev.uni, frs := ?_, kind := ev.kind, gl := ev.gl, bi := ev.bi, glob := ev.glob, one := ev.one, two := ev.two, names := fun i x V a b => let ⟨v, p, q⟩ := ev.names i x V a b; ⟨v, nm p, q.monoD ld⟩, loc := ?_, stor := ?_ }
  · obtain ⟨f, l, x, y, z⟩ := ev.frs
    refine ⟨f, l, x, fun e he => ?_, z⟩
    obtain ⟨w1, L, m, w2, w3⟩ := y e he
    exact ⟨w1, L, m, w2, by rw [drp_ne]; exact w3; intro q; exact hf _ x e he (by rw [← q]; exact w2)⟩
  · obtain ⟨m, e⟩ := ev.loc
    exact ⟨m, by rw [drp_ne]; exact e; intro q; exact hC (.inl q.symm)⟩
  · intro i x h1 h2
    refine (ev.stor i x h1 h2).imp id fun ⟨a, cc, v, b, d, e⟩ => ⟨a, cc, v, b, ?_, e⟩
    rw [drp_ne]; exact d
    intro q; exact hC (.inr ⟨x, by rw [← q]; exact b⟩)

theorem hs_assign_comp {elt target iter : Expr} {ifs : List Expr} {scope : Scope} {cpos : Pos} {f : Slots → Mu → RR Vl} {t : Option (Slots → Mu → RR Bool)} {tg : Tg} {ds zs : List Dat} {caps : List Nat} {tblC : Tbl} {gsC : Gs} {wsC : List Nat} {y : Str} {i : Nat} {p pos : Pos}
    (co : CompOk tbl gs caps tblC gsC wsC scope) (hcap : ∀ i ∈ caps, has σ i = true)
    (hfold : ∀ env x, foldedSetIterable iter env x = pure x) (hi : HI c k tbl gs iter σ μ ds μ')
    (mt : MT tblC wsC tg target) (hel : ∀ σ μ r μ', f σ μ = some (r, μ') → HE c k tblC gsC elt σ μ r μ') (hte : HTs c k tblC gsC ifs t) (hroom : room ds.length = true)
    (e : evComp f t tg (clr wsC σ) ds μ' = some (zs, μ'')) (hiy : (i, y) ∈ tbl) (hwy : i ∈ ws) (hlt : i < σ.length) :
    HS c k tbl gs ws (exec (.Assign [.Name y p] (.ListComp elt [⟨target, iter, ifs, 0⟩] scope cpos) pos)) σ μ (.ok (.next (σ.set i (some (.dat (.list zs)))))) μ'' := by
  intro A env Φ s Q E ev S hn hr he
  have hsw : swapsWith (.ListComp elt [⟨target, iter, ifs, 0⟩] scope cpos) (some (.Name y p)) pos.line env = pure (env.blockKind == .function && env.kindOf y == some .local && p.line == cpos.line
      && !(scope.names.any fun (n, k) => n == y && (k == .local || k == .cell))) := rfl
  cases hb : (env.blockKind == .function && env.kindOf y == some .local && p.line == cpos.line && !(scope.names.any fun (n, k) => n == y && (k == .local || k == .cell))) with
  | false =>
    rw [hb] at hsw
    refine wpAny_Assign_Name (he_comp co hcap hfold hi mt hel hte hroom e A env Φ s _ _ ev.toEV S (fun V' v s1 Φ1 q a1 vi => ?_) fun _ _ _ q => by cases q) hsw
    cases ok_inj q
    exact store_name (ev.mono a1.le).toEVS a1.ss hiy hwy hlt vi fun s2 Φ2 a2 ev2 _ => hn _ _ _ rfl ((a1.toX env).trans a2) (ev.of ev2)
  | true =>
    rw [hb] at hsw
    rw [exec_Assign_Name_used _ _ _ _ hsw]
    refine wpAny_bind (wpAny_standAt (wpAny_bind ?_))
    show wpAny _ A (do let _ ← comprehension (.ListComp elt [⟨target, iter, ifs, 0⟩] scope cpos) scope env _ (newList []) false (eval iter env) (some (assign (.Name y p) env))) _ _ s
    obtain ⟨cl, hcl, hlk⟩ := closure_of (cells_of co hcap ev.toEV)
    refine wpAny_bind (wpAny_mono (wpAny_comprehension_free (use := some (assign (.Name y p) env)) (Q := fun _ s' => Q .next s') rfl (hfold env) hcl co.kind co.locs (hi A env Φ s _ _ ev.toEV S fun xv s1 Φ1 a1 iv => ?_))
      (fun _ s' hq => wpAny_pure (wpAny_pure hq)) fun _ _ e => e)
    obtain ⟨L, m, hL⟩ := (ev.toCV.mono a1.le).tag
    refine iter_start ev.hh a1.ss hL iv fun s2 Φ2 I oI a2 hnI hI hW => ?_
    refine comp_run (Φ₀ := Φ1) co hcap mt hel hte hroom e ((ev.mono a1.le).toEV.mono a2.le) a2.ss a2.le hnI ⟨oI, hI⟩ hW (fun Q E s' h q => walking_self h q) hlk ?_
    intro D C s3 Φ3 vs n m st3 S3 le3 hD₀ hC₀ hD hda hC hne
    have z := S3.freeze hD
    have le4 : Le Φ1 (ins Φ3 D (.fz (listOf vs.toArray n))) := le3.turnOt hD₀
    have hCne : C ≠ D := Ne.symm hne
    have hC4 : ins Φ3 D (.fz (listOf vs.toArray n)) C = some (.fm m) := by rw [ins_ne _ _ hCne]; exact hC
    have ev4 := (ev.mono a1.le).mono le4
    have nO : ¬ Own env C := (ev.mono a1.le).notOwn hC₀
    have nF : ∀ l, A.frames = some l → ∀ e ∈ l, e.frame ≠ some C := by
      intro l hl e he q
      obtain ⟨f1, l1, x1, y1, _⟩ := (ev.toCV.mono a1.le).frs
      rw [hl] at x1; cases x1
      obtain ⟨_, L1, m1, w2, w3⟩ := y1 e he
      rw [q] at w2; cases w2
      rw [hC₀] at w3; cases w3
    show wpAny _ A (assign (.Name y p) env (.ref D)) _ _ _
    refine wpAny_assign_Name (store_name (V := .dat (.list zs)) ev4.toEVS z.1 hiy hwy hlt (DIn.list (n := n) (ins_self _ _ _) (hda.monoF z.2.toF)) fun s5 Φ5 a5 ev5 _ => ?_)
    have hC5 : Φ5 C = some (.fm m) := a5.lx _ _ hC4 nO
    refine ⟨m, (a5.ss.tag _ _ hC5).2, fun h' hs' => ?_⟩
    have z5 := a5.ss.drop hC5 rfl (h' := h') (fun b o q e => (hs'.2 b q).trans e)
    obtain ⟨h3, tk3, rfl⟩ := st3
    obtain ⟨h2, tk2, rfl, _, _⟩ := a2
    obtain ⟨h1, tk1, rfl, _, l1⟩ := id a1
    obtain ⟨h5, tk5, rfl, _, lx5, ld5⟩ := a5
    refine hn _ _ (drp Φ5 C) rfl ⟨h', tk5, rfl, z5.1, fun b u q w => ?_, fun b u q w => ?_⟩ (ev.of (ev5.drop nO nF z5.2))
    · have q1 := l1 _ _ q
      rw [drp_ne _ (fun x => by rw [x, hC₀] at q1; cases q1)]
      exact lx5 _ _ (le4 _ _ q1) w
    · exact z5.2 _ _ (ld5 _ _ (le4 _ _ (l1 _ _ q)) w) w
end
end Mine
end
section
open PySem PySem.W PyProof.Rows PySem.Calls
set_option Elab.async false
set_option maxRecDepth 100000
set_option linter.unusedVariables false
namespace Mine

section
variable {c : Cx} {k : Nat} {tbl : Tbl} {gs : Gs} {ws : List Nat} {σ σ' σ'' : Slots} {μ μ' μ'' : Mu} {r : Except Unit Fl}

theorem SS.up {B h h' : Heap} {Φ : Phi} (S : SS c.hb h Φ μ) (H : Hid c B Φ μ) (st : B.StaysIn h') (u : h.UpToSlots h') : SS c.hb h' Φ μ := by
  refine ⟨fun b o e => st _ _ (H.keep b o e), fun a t e => ⟨(S.tag a t e).1, ?_⟩, S.inj⟩
  have x := (S.tag a t e).2
  cases t with
  | fm m => exact u.ns x
  | fz o => exact (H.tag a _ e (fun _ q => by cases q)).at (st a) fun _ _ q => q
  | ot o => exact (H.tag a _ e (fun _ q => by cases q)).at (st a) fun _ _ q => q
  | mt i => exact (H.tag a _ e (fun _ q => by cases q)).at (st a) fun _ _ q => q
  | cl v => exact (H.tag a _ e (fun _ q => by cases q)).at (st a) fun _ _ q => q

section
variable {M : Model} {A : Around} {E : Value → Shared → Prop} {s : Shared} {B : Heap} {env : Env} {l : List Env} {ea : Addr} {cls a0 : Value} {Q : Unit → Shared → Prop}
theorem note_late (hfr : A.frames = some (env :: l)) (hf : env.frame = some env.locals) (x : LateW B (env :: l) ea cls a0 env.locals s.heap)
    (hQ : ∀ h', Heap.HeldW B (env :: l) ea cls a0 env.locals h' → s.heap.UpToSlots h' → Q () { s with heap := h' }) : wpAny M A (noteFrame (.ref ea) env) Q E s := by
  rcases x with ⟨f1, f2, f3, oe, vs, he, hc, hd, h1, h0⟩ | x | x
  · subst hc
    unfold noteFrame
    simp only [hf]
    refine wpAny_bind (wpAny_field he hd h1 ?_)
    rw [if_neg (by decide)]
    exact wpAny_entryW hfr f3 hf he f1 f2 hd (Array.getElem?_eq_some_iff.mp h1).1 h0 fun h' ⟨k1, k2, k3, k4⟩ => hQ h' ⟨k1, f2, k2, k3⟩ k4
  · exact wpAny_looks_onW hfr hf x hQ
  · exact wpAny_noteFrame_againW hf x.2.2.2 (hQ s.heap x (.refl _))
theorem leave_late (hfr : A.frames = some (env :: l)) (hf : env.frame = some env.locals) (x : LateW B (env :: l) ea cls a0 env.locals s.heap)
    (hQ : ∀ h', Heap.FlyingW B l ea cls a0 h' → s.heap.UpToSlots h' → Q () { s with heap := h' }) : wpAny M A (leaving env (.ref ea)) Q E s := by
  rcases x with ⟨f1, f2, f3, oe, vs, he, hc, hd, h1, h0⟩ | x | x
  · subst hc
    exact wpAny_leaving_firstW hfr f3 hf he f1 f2 hd h1 h0 fun h' ⟨k1, ⟨_, _, k2⟩, k3, k4⟩ => hQ h' ⟨k1, f2, k2, k3⟩ k4
  · exact wpAny_leaves_onW hfr hf x hQ
  · unfold leaving
    refine wpAny_bind (wpAny_noteFrame_againW hf x.2.2.2 ?_)
    refine wpAny_landsW x fun h' hfl u => ?_
    obtain ⟨k1, k2, ⟨_, _, k3⟩, k4⟩ := hfl
    exact hQ h' ⟨k1, k2, k3, k4⟩ u
theorem back_held {L : Addr} (x : Heap.HeldW B l ea cls a0 L s.heap) (h : ∀ h', Heap.HeldW B l ea cls a0 L h' → s.heap.UpToSlots h' → Q () { s with heap := h' }) : wpAny M A (setFlight (.ref ea) (some L)) Q E s := by
  obtain ⟨hkb, hen, hl, oe, vs, T, oT, ts, he, hcls, hd, h1, hnT, hTe, hT, hdT, h3⟩ := x
  have hsz3 : 3 < ts.size := (Array.getElem?_eq_some_iff.mp h3).1
  have other : ∀ b, b ≠ T → (s.heap.update T (Obj.mapFields (·.setIfInBounds 3 ((some L).elim Value.none fun f => rawInt f)))).get? b = s.heap.get? b :=
    fun b hb => Heap.get?_update_other _ _ (Ne.symm hb)
  have noRecord : ∀ b o, s.heap.get? b = some o → (∀ vs, o.data ≠ .fields vs) → b ≠ T := fun b o hb hnf q => by
    rw [q, hT] at hb; injection hb with hb; subst hb; exact hnf ts hdT
  unfold setFlight
  refine wpAny_bind (wpAny_field he hd h1 ?_)
  rw [if_pos (show (Value.ref T != Value.none) = true from by simp)]
  refine wpAny_setField hT hdT hsz3 (h _ ⟨fun b o hbo => (other b fun q => by rw [q, hnT] at hbo; cases hbo).trans (hkb b o hbo), hen,
    hl.of_keeps fun b o hb hnf => ⟨o, (other b (noRecord b o hb hnf)).trans hb, rfl⟩, ?_⟩ fun b o hb hnf => ⟨o.slots, (other b (noRecord b o hb hnf)).trans hb⟩)
  exact ⟨oe, vs, T, _, _, (other ea (Ne.symm hTe)).trans he, hcls, hd, h1, hnT, hTe, Heap.get?_update_self _ hT (Obj.isFreed_of_fields (Obj.data_mapFields hdT _)), Obj.data_mapFields hdT _, by simp [hsz3]⟩
end

theorem noted_back {A : Around} {env : Env} {Φ : Phi} {e : Value} {s : Shared} {E : Value → Shared → Prop} (hf : env.frame = some env.locals) (S : SS c.hb s.heap Φ μ) (x : ExcS c A env Φ μ e s)
    (h : ∀ h', SS c.hb h' Φ μ → ExcS c A env Φ μ e { s with heap := h' } → E e { s with heap := h' }) :
    notedBy (model c.prog c.w) A env (fun e s' => cameBackBy (model c.prog c.w) A env E e s') e s := by
  obtain ⟨l, B, ea, a0, hfr, rfl, hl, hid⟩ := x
  unfold notedBy
  refine note_late hfr hf hl fun h1 x1 u1 => ?_
  have S1 := S.up hid x1.1 u1
  unfold cameBackBy
  obtain ⟨k1, k2, k3, oe, vs, T, oT, ts, he, hcls, hd, hh1, hnT, hTe, hT, hdT, h3⟩ := id x1
  refine wpAny_bind (wpAny_field he hd hh1 ?_)
  rw [if_neg (show ¬ ((Value.ref T == Value.none) = true) from by simp)]
  rw [hf]
  first
  | exact wpAny_bind (wpAny_pure (back_held x1 fun h2 x2 u2 => h h2 (S1.up hid x2.1 u2) ⟨l, B, ea, a0, hfr, rfl, .inr (.inr x2), hid⟩))
  | exact back_held x1 fun h2 x2 u2 => h h2 (S1.up hid x2.1 u2) ⟨l, B, ea, a0, hfr, rfl, .inr (.inr x2), hid⟩

noncomputable def thenK (r : RS) (k : Slots → Mu → RS) : RS := match r with
  | some (.ok (.next σ), μ) => k σ μ
  | r => r
theorem thenK_at {x : RS} {k : Slots → Mu → RS} (e : thenK x k = some (r, μ')) : ∃ rb μ1, x = some (rb, μ1) ∧ ((∃ σ1, rb = .ok (.next σ1) ∧ k σ1 μ1 = some (r, μ')) ∨ (rb = r ∧ μ1 = μ' ∧ ∀ σ1, rb ≠ .ok (.next σ1))) := by
  cases x with
  | none => cases e
  | some p =>
    obtain ⟨rb, μ1⟩ := p
    refine ⟨rb, μ1, rfl, ?_⟩
    cases rb with
    | error u => cases e; exact .inr ⟨rfl, rfl, fun _ q => by cases q⟩
    | ok f =>
      cases f with
      | next σ1 => exact .inl ⟨σ1, rfl, e⟩
      | ret V => cases e; exact .inr ⟨rfl, rfl, fun _ q => by cases q⟩
noncomputable def evFor (body : Slots → Mu → RS) (tg : Tg) : List Dat → Slots → Mu → RS
  | [], σ, μ => some (.ok (.next σ), μ)
  | d :: ds, σ, μ => (setT tg d σ).bind fun σ1 => thenK (body σ1 μ) fun σ2 μ2 => evFor body tg ds σ2 μ2
theorem evFor_at {body : Slots → Mu → RS} {tg : Tg} {d : Dat} {ds : List Dat} (e : evFor body tg (d :: ds) σ μ = some (r, μ')) : ∃ σ1 rb μ1, setT tg d σ = some σ1 ∧ body σ1 μ = some (rb, μ1) ∧ ((∃ σ2, rb = .ok (.next σ2) ∧ evFor body tg ds σ2 μ1 = some (r, μ')) ∨ (rb = r ∧ μ1 = μ' ∧ ∀ σ2, rb ≠ .ok (.next σ2))) := by
  obtain ⟨σ1, h1, e⟩ := Option.bind_eq_some_iff.mp e
  obtain ⟨rb, μ1, h2, h3⟩ := thenK_at e
  exact ⟨σ1, rb, μ1, h1, h2, h3⟩
theorem evFor_next {B : Slots → Mu → RS} {tg : Tg} {d : Dat} {ds : List Dat} {σ1 σ2 : Slots} {μ2 : Mu} (h0 : setT tg d σ = some σ1) (h1 : B σ1 μ = some (.ok (.next σ2), μ2)) : evFor B tg (d :: ds) σ μ = evFor B tg ds σ2 μ2 := by
  show (setT tg d σ).bind (fun σ1 => thenK (B σ1 μ) fun σ2 μ2 => evFor B tg ds σ2 μ2) = _
  rw [h0, Option.bind_some, h1]; rfl
theorem evFor_stop {B : Slots → Mu → RS} {tg : Tg} {d : Dat} {ds : List Dat} {σ1 : Slots} {μ2 : Mu} (h0 : setT tg d σ = some σ1) (h1 : B σ1 μ = some (r, μ2)) (hr : ∀ σ2, r ≠ .ok (.next σ2)) : evFor B tg (d :: ds) σ μ = some (r, μ2) := by
  show (setT tg d σ).bind (fun σ1 => thenK (B σ1 μ) fun σ2 μ2 => evFor B tg ds σ2 μ2) = _
  rw [h0, Option.bind_some, h1]
  cases r with
  | error u => rfl
  | ok f =>
    cases f with
    | next σ2 => exact absurd rfl (hr σ2)
    | ret V => rfl
inductive ForI (c : Cx) (k : Nat) (tbl : Tbl) (gs : Gs) (ws : List Nat) (env : Env) (A : Around) (Φ : Phi) (s : Shared) (body : Slots → Mu → RS) (tg : Tg) (ds : List Dat) (r : Except Unit Fl) (μ' : Mu) (I : Addr) (n : Nat) (s' : Shared) : Prop
  | mk (Φi : Phi) (σi : Slots) (μi : Mu) (i : Nat) (oI : Obj) : i ≤ ds.length → n = ds.length + 1 - i → AftX c.hb env s s' Φ Φi μi → FS c Φi A env k tbl gs ws σi → Φi I = some (.ot oI) → Walking c A I ds Φi i s'.heap → evFor body tg (ds.drop i) σi μi = some (r, μ') → ForI c k tbl gs ws env A Φ s body tg ds r μ' I n s'
section
variable {A : Around} {target : Expr} {bd : List Stmt} {env : Env} {body : Slots → Mu → RS} {tg : Tg} {ds : List Dat} {I : Addr} {Φ Φi : Phi} {s s' : Shared} {i : Nat} {oI : Obj} {Q : Flow → Shared → Prop} {E : Value → Shared → Prop}
theorem for_turn {v : Value} {d : Dat} {Rb : Shared → Prop} {Rr : Value → Shared → Prop} (mt : MT tbl ws tg target) (hb : ∀ σ μ r μ', body σ μ = some (r, μ') → HS c k tbl gs ws (execs bd) σ μ r μ') (hfr : env.frame = some env.locals)
    (hr : ∀ V v s' Φ', r = .ok (.ret V) → AftX c.hb env s s' Φ Φ' μ' → VIn c.mC Φ' v V → Rr v s')
    (hlt : i < ds.length) (a : AftX c.hb env s s' Φ Φi μ) (ev : FS c Φi A env k tbl gs ws σ) (hI : Φi I = some (.ot oI)) (ho : ItObj oI) (wk : Walking c A I ds Φi (i + 1) s'.heap) (vi : DIn Φi v d) (e : evFor body tg (d :: ds.drop (i + 1)) σ μ = some (r, μ'))
    {N : Value → Shared → Prop} (hN : ∀ e s' Φ', r = .error () → AftX c.hb env s s' Φ Φ' μ' → ExcS c A env Φ' μ' e s' → N e s') :
    wpAny (model c.prog c.w) A (letOwnedTupleGo target (.ref I) v) (fun _ s₁' => wpAny (model c.prog c.w) A (assign target env v) (fun _ s₂ => wpAny (model c.prog c.w) A (execs bd env) (fun f s₃ => match f with
            | .next | .cont => ∃ m, m < ds.length + 1 - i ∧ ForI c k tbl gs ws env A Φ s body tg ds r μ' I m s₃
            | .brk => Rb s₃
            | .ret v => Rr v s₃) N s₂) N s₁') N s' := by
  refine byG fun G hG => ?_
  obtain ⟨σ1, rb, μ1, hset, hbd, h3⟩ := evFor_at e
  refine hG (letgo (a.ss.tag _ _ hI).2 ho (assign_tgt mt ev.toEVS a.ss vi hset fun s5 Φ5 a5 ev5 _ => ?_))
  have hI5 : Φ5 I = some (.ot oI) := a5.lx _ _ hI (ev.notOwnOt hI)
  have ev5' := ev.of ev5
  refine hb σ1 μ rb μ1 hbd A env Φ5 s5 _ _ ev5' a5.ss (fun σ6 s6 Φ6 q a6 ev6 => ?_) (fun V u s6 Φ6 q a6 vi6 => ?_) (fun ee s6 Φ6 q a6 x6 => ?_)
  · have e6 : evFor body tg (ds.drop (i + 1)) σ6 μ1 = some (r, μ') := by
      rcases h3 with ⟨σ2, q2, e2⟩ | ⟨_, _, q2⟩
      · rw [q] at q2; cases q2; exact e2
      · exact absurd q (q2 σ6)
    have hI6 := a6.lx _ _ hI5 (ev5'.notOwnOt hI5)
    exact ⟨ds.length + 1 - (i + 1), turn_lt hlt, .mk Φ6 σ6 μ1 (i + 1) oI hlt rfl ((a.trans a5).trans a6) ev6 hI6 ((wk.body a.ss hI a5.ss a5.ld hI5).body a5.ss hI5 a6.ss a6.ld hI6) e6⟩
  · have e6 : r = .ok (.ret V) ∧ μ1 = μ' := by
      rcases h3 with ⟨σ2, q2, e2⟩ | ⟨q1, q2, _⟩
      · rw [q] at q2; cases q2
      · exact ⟨q1.symm.trans q, q2⟩
    exact hr V u s6 Φ6 e6.1 ((a.trans a5).trans (e6.2 ▸ a6)) vi6
  · have e6 : r = .error () ∧ μ1 = μ' := by
      rcases h3 with ⟨σ2, q2, e2⟩ | ⟨q1, q2, _⟩
      · rw [q] at q2; cases q2
      · exact ⟨q1.symm.trans q, q2⟩
    exact hN ee s6 Φ6 e6.1 ((a.trans a5).trans (e6.2 ▸ a6)) (e6.2 ▸ x6)
theorem for_item {o : Obj} (hnI : Φ I = none) (a : AftX c.hb env s s' Φ Φi μ) {h : Heap} {tk : Nat} (S : SS c.hb h (ins Φi I (.ot o)) μ) (ld : LeD Φi (ins Φi I (.ot o))) : AftX c.hb env s { s' with heap := h, toks := tk } Φ (ins Φi I (.ot o)) μ :=
  let ⟨_, _, q, _, lx, l⟩ := a; ⟨h, tk, by rw [q], S, fun b u q w => by rw [ins_ne _ _ (fun x => by rw [x, hnI] at q; cases q)]; exact lx _ _ q w, l.trans ld⟩
theorem for_noted (hf : env.frame = some env.locals) {e : Value} (a : AftX c.hb env s s' Φ Φi μ) (x : ExcS c A env Φi μ e s') (he : ∀ s' Φ', AftX c.hb env s s' Φ Φ' μ → ExcS c A env Φ' μ e s' → E e s') :
    notedBy (model c.prog c.w) A env (fun e s' => cameBackBy (model c.prog c.w) A env E e s') e s' :=
  noted_back hf a.ss x fun h' S' x' => he _ Φi (let ⟨_, tk, q, _, lx, ld⟩ := a; ⟨h', tk, by rw [q], S', lx, ld⟩) x'
theorem for_done (hnI : Φ I = none) (a : AftX c.hb env s s' Φ Φi μ) (ev : FS c Φi A env k tbl gs ws σ) (hI : Φi I = some (.ot oI)) {h : Heap} {tk : Nat} (S : SS c.hb h (drp Φi I) μ) (ld : LeD Φi (drp Φi I)) :
    AftX c.hb env s { s' with heap := h, toks := tk } Φ (drp Φi I) μ ∧ FS c (drp Φi I) A env k tbl gs ws σ := by
  have nF : ∀ l, A.frames = some l → ∀ e ∈ l, e.frame ≠ some I := by
    intro l hl e he q
    obtain ⟨f1, l1, x1, y1, _⟩ := ev.frs
    rw [hl] at x1; cases x1
    obtain ⟨_, L1, m1, w2, w3⟩ := y1 e he
    rw [q] at w2; cases w2
    rw [hI] at w3; cases w3
  exact ⟨let ⟨_, _, q, _, lx, l⟩ := a; ⟨h, tk, by rw [q], S, fun b u q w => by rw [drp_ne _ (fun x => by rw [x, hnI] at q; cases q)]; exact lx _ _ q w, l.trans ld⟩, ev.of (ev.toEVS.drop (ev.notOwnOt hI) nF ld)⟩
end
theorem hs_for {target iter : Expr} {bd : List Stmt} {body : Slots → Mu → RS} {tg : Tg} {ds : List Dat} {pos : Pos} (hfold : ∀ env x, foldedSetIterable iter env x = pure x) (hi : HI c k tbl gs iter σ μ ds μ') (mt : MT tbl ws tg target)
    (hb : ∀ σ μ r μ', body σ μ = some (r, μ') → HS c k tbl gs ws (execs bd) σ μ r μ') (e : evFor body tg ds σ μ' = some (r, μ'')) : HS c k tbl gs ws (exec (.For target iter bd [] pos)) σ μ r μ'' := by
  intro A env Φ s Q E ev S hn hr he
  refine wpAny_For (hi A env Φ s _ _ ev.toEV S fun xv s1 Φ1 a1 iv => ?_) (hfold env)
  refine byG fun G hG => ?_
  obtain ⟨L, m, hL⟩ := (ev.toCV.mono a1.le).tag
  refine hG (iter_start ev.hh a1.ss hL iv fun s2 Φ2 I oI a2 hnI hI hW => ?_)
  have hnI0 : Φ I = none := by
    cases q : Φ I with
    | none => rfl
    | some t => rw [a1.le _ _ q] at hnI; cases hnI
  refine codeAny_forLoop_any (fun n s' => ForI c k tbl gs ws env A Φ s body tg ds r μ'' I n s') (fun n s3 hi => ?_) (ds.length + 1) (.mk Φ2 σ μ' 0 oI (Nat.zero_le _) rfl ((a1.trans a2).toX env) (ev.mono (a1.trans a2).le) hI hW e)
  refine byG fun G hG => ?_
  cases hi with
  | mk Φ3 σ3 μ3 i oI3 hi3 hn3 a3 ev3 hI3 W3 e3 =>
  refine hG ?_
  rw [hn3]
  refine W3.next a3.ss hI3 hi3 (fun hlt v d h4 tk4 oI4 hd ho vi S4 ld W4 => ?_) fun hi h4 tk4 S4 ld => ?_
  · exact for_turn mt hb ev.fr (fun V v s' Φ' q a x => hr V v s' Φ' q a x) hlt (for_item hnI0 a3 S4 ld) (ev3.of (ev3.toEVS.ot hI3 ld)) (ins_self _ _ _) ho W4 vi (by rw [← hd]; exact e3) fun e s' Φ' q a x => for_noted ev.fr a x fun s' Φ' a x => he e s' Φ' q a x
  · have z : r = .ok (.next σ3) ∧ μ3 = μ'' := by rw [hi, List.drop_length] at e3; cases e3; exact ⟨rfl, rfl⟩
    obtain ⟨x1, x2⟩ := for_done (tk := tk4) hnI0 a3 ev3 hI3 S4 ld
    exact wpAny_execs_nil (hn _ _ (drp Φ3 I) z.1 (z.2 ▸ x1) x2)
end
end Mine
end
section
open PySem PySem.W PyProof.Rows PySem.Calls
set_option Elab.async false
set_option maxRecDepth 100000
set_option linter.unusedVariables false
namespace Mine

structure FnAt (c : Cx) (fa : Addr) (fd : FuncData) (body : List Stmt) (params : List Str) : Prop where
  obj : ∃ o, c.hb.get? fa = some o ∧ o.data = .func fd
  code : c.hb.CodeRec fd.code fd.qualname
  bd : fd.body = .stmts body
  clo : fd.closure = []
  bind : ∀ vals : List Value, vals.length = params.length → bindArgs fd ⟨vals, []⟩ = pure (params.zip vals)
  co : fd.scope.isCoroutine = false
  gen : fd.scope.isGenerator = false
  gl : fd.globals = mainGlobals
  bi : fd.builtins = builtinsNs
structure ScOk (scope : Scope) (tbl : Tbl) (gs : Gs) (ws : List Nat) (params : List Str) (n : Nat) : Prop where
  kind : scope.kind = .function
  tb : ∀ i x, (i, x) ∈ tbl → (scope.names.lookup x = some .local ∨ scope.names.lookup x = some .cell) ∧ i ∈ ws
  one : ∀ i j x, (i, x) ∈ tbl → (j, x) ∈ tbl → i = j
  two : ∀ i x y, (i, x) ∈ tbl → (i, y) ∈ tbl → x = y
  glob : ∀ x kd, (x, kd) ∈ gs → scope.names.lookup x = some kd
  ci : ∀ y ∈ scope.names, y.2 = .cell → scope.names.lookup y.1 = some .cell ∧ ∃ i, (i, y.1) ∈ tbl
  par : ∀ j x, params[j]? = some x → (j, x) ∈ tbl
  len : params.length ≤ n

noncomputable def slots0 (n : Nat) (Vs : List Vl) : Slots := Vs.map some ++ List.replicate (n - Vs.length) none
noncomputable def fnRes (B : Slots → Mu → RS) (n np : Nat) (Vs : List Vl) (μ : Mu) : RR Vl :=
  if Vs.length = np then
    match B (slots0 n Vs) μ with
    | some (.ok (.ret V), μ') => some (.ok V, μ')
    | some (.ok (.next _), μ') => some (.ok (.dat .none), μ')
    | some (.error (), μ') => some (.error (), μ')
    | none => none
  else none

open Classical in
noncomputable def insC (Φ : Phi) (cs : List (Str × Addr)) (cm : Str → Option Value) : Phi := fun b =>
  if h : ∃ n, cs.lookup n = some b then some (.cl (cm (choose h))) else Φ b
theorem insC_at {Φ : Phi} {cs : List (Str × Addr)} {cm : Str → Option Value} (ap : cs.Pairwise fun x y => x.2 ≠ y.2) {n : Str} {b : Addr} (h : cs.lookup n = some b) : insC Φ cs cm b = some (.cl (cm n)) := by
  unfold insC
  have hx : ∃ n, cs.lookup n = some b := ⟨n, h⟩
  rw [dif_pos hx]
  rw [name_of_addr ap (mem_of_lookup (Classical.choose_spec hx)) (mem_of_lookup h)]
theorem insC_out {Φ : Phi} {cs : List (Str × Addr)} {cm : Str → Option Value} {b : Addr} (h : ∀ n, cs.lookup n ≠ some b) : insC Φ cs cm b = Φ b := by
  unfold insC
  rw [dif_neg (by rintro ⟨n, q⟩; exact h n q)]

theorem bindL_other {kindOf : Str → Option NameKind} {x : Str} : ∀ (bs : List (Str × Value)) (m : Str → Option Value), x ∉ bs.map (·.1) → bindL kindOf bs m x = m x
  | [], m, _ => rfl
  | (n, v) :: r, m, h => by
    unfold bindL
    rw [bindL_other r _ (fun q => h (.tail _ q))]
    have : x ≠ n := fun q => h (by rw [q]; exact .head _)
    split
    · exact if_neg this
    · rfl
theorem bindC_other {kindOf : Str → Option NameKind} {x : Str} : ∀ (bs : List (Str × Value)) (m : Str → Option Value), x ∉ bs.map (·.1) → bindC kindOf bs m x = m x
  | [], m, _ => rfl
  | (n, v) :: r, m, h => by
    unfold bindC
    rw [bindC_other r _ (fun q => h (.tail _ q))]
    have : x ≠ n := fun q => h (by rw [q]; exact .head _)
    split
    · rfl
    · exact if_neg this
theorem bindL_get {kindOf : Str → Option NameKind} {x : Str} {v : Value} (hk : kindOf x = some .local) : ∀ (bs : List (Str × Value)) (m : Str → Option Value), (bs.map (·.1)).Nodup → (x, v) ∈ bs → bindL kindOf bs m x = some v
  | (n, u) :: r, m, hn, h => by
    rw [List.map_cons, List.nodup_cons] at hn
    unfold bindL
    rcases List.mem_cons.mp h with q | q
    · cases q
      rw [bindL_other r _ hn.1, if_pos hk]
      exact if_pos rfl
    · exact bindL_get hk r _ hn.2 q
theorem bindC_get {kindOf : Str → Option NameKind} {x : Str} {v : Value} (hk : kindOf x ≠ some .local) : ∀ (bs : List (Str × Value)) (m : Str → Option Value), (bs.map (·.1)).Nodup → (x, v) ∈ bs → bindC kindOf bs m x = some v
  | (n, u) :: r, m, hn, h => by
    rw [List.map_cons, List.nodup_cons] at hn
    unfold bindC
    rcases List.mem_cons.mp h with q | q
    · cases q
      rw [bindC_other r _ hn.1, if_neg hk]
      exact if_pos rfl
    · exact bindC_get hk r _ hn.2 q

theorem cellsFrom_names : ∀ (names : List (Str × NameKind)) (a : Addr) (acc : List (Str × Addr)) (n : Str) (cc : Addr), (n, cc) ∈ cellsFrom a names acc → (n, cc) ∈ acc ∨ ∃ y ∈ names, y.1 = n ∧ y.2 = .cell
  | [], a, acc, n, cc, h => .inl h
  | (name, kind) :: r, a, acc, n, cc, h => by
    unfold cellsFrom at h
    split at h
    · rename_i hk
      rcases cellsFrom_names r _ _ n cc h with q | ⟨y, q1, q2⟩
      · rcases List.mem_cons.mp q with q | q
        · cases q; exact .inr ⟨_, .head _, rfl, eq_of_beq hk⟩
        · exact .inl q
      · exact .inr ⟨y, .tail _ q1, q2⟩
    · rcases cellsFrom_names r _ _ n cc h with q | ⟨y, q1, q2⟩
      · exact .inl q
      · exact .inr ⟨y, .tail _ q1, q2⟩
theorem cellsFrom_acc : ∀ (names : List (Str × NameKind)) (a : Addr) (acc : List (Str × Addr)) (n : Str), (acc.lookup n).isSome = true → ((cellsFrom a names acc).lookup n).isSome = true
  | [], a, acc, n, h => h
  | (name, kind) :: r, a, acc, n, h => by
    unfold cellsFrom
    split
    · refine cellsFrom_acc r _ _ n ?_
      rw [List.lookup_cons]
      split
      · rfl
      · exact h
    · exact cellsFrom_acc r _ _ n h
theorem cellsFrom_has : ∀ (names : List (Str × NameKind)) (a : Addr) (acc : List (Str × Addr)) (n : Str), (n, NameKind.cell) ∈ names → ((cellsFrom a names acc).lookup n).isSome = true
  | (name, kind) :: r, a, acc, n, h => by
    unfold cellsFrom
    rcases List.mem_cons.mp h with q | q
    · cases q
      rw [if_pos (by decide)]
      refine cellsFrom_acc r _ _ name ?_
      rw [List.lookup_cons]
      simp
    · split
      · exact cellsFrom_has r _ _ n q
      · exact cellsFrom_has r _ _ n q

section
variable {c : Cx} {k : Nat} {tbl : Tbl} {gs : Gs} {ws : List Nat} {σ σ' σ'' : Slots} {μ μ' μ'' : Mu}

theorem VAll.get {Φ : Phi} {mC : Addr} : ∀ {vs : List Value} {Vs : List Vl}, VAll mC Φ vs Vs → ∀ {j : Nat} {V : Vl}, Vs[j]? = some V → ∃ v, vs[j]? = some v ∧ VIn mC Φ v V
  | _, _, .nil, j, V, e => by simp at e
  | _, _, .cons h r, 0, V, e => by simp at e; subst e; exact ⟨_, rfl, h⟩
  | _, _, .cons h r, j + 1, V, e => by
    obtain ⟨v, a, b⟩ := VAll.get r (by simpa using e : _ = some V)
    exact ⟨v, by simpa using a, b⟩

theorem nodup_of_get {params : List Str} (h : ∀ (i j : Nat) (x : Str), params[i]? = some x → params[j]? = some x → i = j) : params.Nodup := by
  induction params with
  | nil => exact .nil
  | cons p ps ih =>
    rw [List.nodup_cons]
    refine ⟨fun q => ?_, ih fun i j x a b => Nat.succ.inj (h (i + 1) (j + 1) x (by simpa using a) (by simpa using b))⟩
    obtain ⟨j, hj⟩ := List.getElem?_of_mem q
    have := h 0 (j + 1) p rfl (by simpa using hj)
    cases this

theorem fn_enter {A : Around} {Φ : Phi} {s : Shared} {R : Result → Shared → Prop} {vs : List Value} {Vs : List Vl} {fa : Addr} {fd : FuncData} {body : List Stmt} {params : List Str} {n : Nat} (ok : CxOk c) (F : FnAt c fa fd body params) (sc : ScOk fd.scope tbl gs ws params n)
    (cv : CV Φ A (k + 1)) (S : SS c.hb s.heap Φ μ) (va : VAll c.mC Φ vs Vs) (hl : Vs.length = params.length)
    (hin : ∀ (env : Env) (Φ2 : Phi) (h1 : Heap) (tk1 : Nat), FS c Φ2 (A.deeper env) env k tbl gs ws (slots0 n Vs) → SS c.hb h1 Φ2 μ → Le Φ Φ2 → (∀ a t, Φ a = some t → ¬ Own env a) →
      (∀ b o, s.heap.get? b = some o → h1.get? b = some o) →
      wpAny (model c.prog c.w) (A.deeper env) (execs body env) (fun f s' => R (.ok (.ret (match f with | .ret v => v | _ => .none))) s')
        (fun e s' => wpAny (model c.prog c.w) (A.deeper env) (leaving env e) (fun _ s'' => R (.error e) s'') (fun e' s'' => R (.error e') s'') s') { s with heap := h1, toks := tk1 }) :
    codeAny (model c.prog c.w) A (.call (.ref fa) ⟨vs, []⟩) R s := by
  · obtain ⟨o, ho, hdata⟩ := F.obj
    have hlv : vs.length = params.length := by rw [va.length, hl]
    obtain ⟨L0, m0, hL0⟩ := cv.tag
    have hnd : params.Nodup := nodup_of_get fun i j x a b => sc.one i j x (sc.par i x a) (sc.par j x b)
    have hzip : ((params.zip vs).map (·.1)) = params := List.map_fst_zip (Nat.le_of_eq hlv.symm)
    refine (codeAny_call_cells (fd := fd) (binds := params.zip vs) (by have := cv.dep; show A.depth < 1000; (first | lia | omega)) (S.keep _ _ ho) hdata (ok.nolimit.keeps S.keep) (F.code.keeps S.keep) F.bd (F.bind vs hlv) F.clo ?_ ?_ F.co F.gen sc.kind)
    · rintro ⟨x, v⟩ hx
      obtain ⟨j, hj⟩ := List.getElem?_of_mem (List.of_mem_zip hx).1
      have := (sc.tb j x (sc.par j x hj)).1
      refine this.imp id fun q => ⟨q, cellsFrom_has _ _ _ _ ?_⟩
      exact mem_of_lookup q
    · intro s1 X
      generalize henv : callEnvC fd s.heap.objs.size fa = env at X ⊢
      have hko : ∀ x, env.kindOf x = fd.scope.names.lookup x := fun x => by rw [← henv]; rfl
      have hloc : env.locals = s.heap.objs.size := by rw [← henv]; rfl
      have hfr : env.frame = some env.locals := by rw [← henv]; rfl
      have hsc : env.scope = fd.scope := by rw [← henv]; rfl
      have hgl : env.globals = mainGlobals := by rw [← henv]; exact F.gl
      have hbi : env.builtins = builtinsNs := by rw [← henv]; exact F.bi
      have hce : env.cells = cellsFrom (s.heap.objs.size + 1) fd.scope.names [] := by rw [← henv]; rfl
      obtain ⟨h1, tk1, rfl, hkeep⟩ := X.done
      have hLn : Φ env.locals = none := by rw [hloc]; exact S.none_ge (Nat.le_refl _)
      have hLh : c.hb.objs.size ≤ env.locals := by rw [hloc]; exact S.size hL0
      have z1 := S.new hkeep hLn hLh (t := .fm (bindL env.kindOf (params.zip vs) fun _ => none)) X.toInCall.ns (fun _ q => by cases q)
      have hcn : ∀ y b, env.cells.lookup y = some b → s.heap.objs.size < b := fun y b q => by rw [← hloc]; exact X.above y b (mem_of_lookup q)
      generalize hΦ1 : ins Φ env.locals (.fm (bindL env.kindOf (params.zip vs) fun _ => none)) = Φ1 at z1
      have hL1 : Φ1 env.locals = some (.fm (bindL env.kindOf (params.zip vs) fun _ => none)) := by rw [← hΦ1]; exact ins_self _ _ _
      have hnc : ∀ y b, env.cells.lookup y = some b → Φ1 b = none := fun y b q => by
        have := hcn y b q
        rw [← hΦ1, ins_ne _ _ (by rw [hloc]; exact Nat.ne_of_gt this)]
        exact S.none_ge (Nat.le_of_lt this)
      generalize hΦ2 : insC Φ1 env.cells (bindC env.kindOf (params.zip vs) fun _ => none) = Φ2
      have le2 : Le Φ1 Φ2 := fun a t q => by
        rw [← hΦ2, insC_out]; exact q
        intro y q2
        rw [hnc y a q2] at q; cases q
      have hC2 : ∀ y b, env.cells.lookup y = some b → Φ2 b = some (.cl (bindC env.kindOf (params.zip vs) (fun _ => none) y)) := fun y b q => by rw [← hΦ2]; exact insC_at X.apart q
      have S2 : SS c.hb h1 Φ2 μ := by
        have un : ∀ a t, Φ2 a = some t → (∃ y, env.cells.lookup y = some a) ∨ Φ1 a = some t := fun a t q => by
          by_cases hx : ∃ y, env.cells.lookup y = some a
          · exact .inl hx
          · rw [← hΦ2, insC_out (fun y q2 => hx ⟨y, q2⟩)] at q
            exact .inr q
        refine ⟨z1.1.keep, fun a t q => ?_, fun x y i q1 q2 => ?_⟩
        · rcases un a t q with ⟨y, hy⟩ | q'
          · rw [hC2 y a hy] at q; cases q
            have := hcn y a hy
            rw [hloc] at hLh
            exact ⟨by (first | lia | omega), X.cell y a hy⟩
          · exact ⟨(z1.1.tag a t q').1, (z1.1.tag a t q').2.at (fun _ w => w) le2.toF⟩
        · rcases un x _ q1 with ⟨y, hy⟩ | q1'
          · rw [hC2 y x hy] at q1; cases q1
          · rcases un y _ q2 with ⟨y', hy⟩ | q2'
            · rw [hC2 y' y hy] at q2; cases q2
            · exact z1.1.inj x y i q1' q2'
      have le : Le Φ Φ2 := z1.2.trans le2
      have hL2 := le2 _ _ hL1
      have fs : FS c Φ2 (A.deeper env) env k tbl gs ws (slots0 n Vs) := by
        obtain ⟨f0, l0, x1, x2, x3⟩ := cv.frs
        refine { hh := cv.hh, dep := ?_, uni := ?_, frs := ⟨env, f0 :: l0, ?_, ?_, ?_⟩, kind := by rw [hsc]; exact sc.kind, gl := hgl, bi := hbi, names := ?_, glob := fun x kd q => by rw [hko]; exact sc.glob x kd q, one := sc.one, two := sc.two, loc := ⟨_, hL2⟩, stor := ?_, fr := hfr, frs2 := ⟨f0 :: l0, ?_⟩, ci := ?_ }
        · have := cv.dep; show A.depth + 1 + k ≤ 900; (first | lia | omega)
        · have := cv.uni; show A.units + 3 + 20 * k ≤ 5000; (first | lia | omega)
        · show A.frames.map (env :: ·) = _; rw [x1]; rfl
        · intro e' he'
          rcases List.mem_cons.mp he' with rfl | he'
          · exact ⟨by rw [hsc, sc.kind]; decide, _, _, hfr, hL2⟩
          · exact (x2 e' he').mono le
        · rw [hsc]; exact sc.kind
        · intro i x V h1x h2x
          have hi : i < Vs.length := by
            unfold slots0 at h2x
            by_cases q : i < Vs.length
            · exact q
            · rw [List.getElem?_append_right (by simpa using q)] at h2x
              obtain ⟨w, q2⟩ := List.getElem?_eq_some_iff.mp h2x
              rw [List.getElem_replicate] at q2; cases q2
          have hV : Vs[i]? = some V := by
            unfold slots0 at h2x
            rw [List.getElem?_append_left (by simpa using hi), List.getElem?_map] at h2x
            cases hq : Vs[i]? with
            | none => rw [hq] at h2x; cases h2x
            | some W => rw [hq] at h2x; cases h2x; rfl
          obtain ⟨v, hv, vi⟩ := va.get hV
          have hp : params[i]? = some x := by
            obtain ⟨y, hy⟩ : ∃ y, params[i]? = some y := ⟨_, List.getElem?_eq_getElem (by (first | lia | omega))⟩
            rw [hy, sc.two i x y h1x (sc.par i y hy)]
          have hmem : (x, v) ∈ params.zip vs := by
            have : (params.zip vs)[i]? = some (x, v) := by rw [List.getElem?_zip_eq_some]; exact ⟨hp, hv⟩
            exact List.mem_of_getElem? this
          refine ⟨v, ?_, vi.mono le⟩
          rcases (sc.tb i x h1x).1 with q | q
          · exact .inl ⟨by rw [hko]; exact q, _, hL2, bindL_get (by rw [hko]; exact q) _ _ (by rw [hzip]; exact hnd) hmem⟩
          · obtain ⟨b, hb⟩ := Option.isSome_iff_exists.mp (cellsFrom_has fd.scope.names (s.heap.objs.size + 1) [] x (mem_of_lookup q))
            rw [← hce] at hb
            refine .inr ⟨b, .inl (by rw [hko]; exact q), hb, ?_⟩
            rw [hC2 x b hb, bindC_get (by rw [hko, q]; decide) _ _ (by rw [hzip]; exact hnd) hmem]
        · intro i x h1x _
          rcases (sc.tb i x h1x).1 with q | q
          · exact .inl (by rw [hko]; exact q)
          · obtain ⟨b, hb⟩ := Option.isSome_iff_exists.mp (cellsFrom_has fd.scope.names (s.heap.objs.size + 1) [] x (mem_of_lookup q))
            rw [← hce] at hb
            exact .inr ⟨by rw [hko]; exact q, b, _, hb, hC2 x b hb, fun y hy => name_of_addr X.apart (mem_of_lookup hy) (mem_of_lookup hb)⟩
        · show A.frames.map (env :: ·) = _; rw [x1]; rfl
        · intro y a hy
          rw [hce] at hy
          rcases cellsFrom_names _ _ _ _ _ (mem_of_lookup hy) with q | ⟨w, q1, q2, q3⟩
          · cases q
          · obtain ⟨p1, i, p2⟩ := sc.ci w q1 q3
            rw [q2] at p1 p2
            exact ⟨by rw [hko]; exact p1, i, p2, (sc.tb i y p2).2⟩
      have own0 : ∀ a t, Φ a = some t → ¬ Own env a := fun a t q w => by
        rcases w with w | ⟨y, w⟩
        · rw [w, hLn] at q; cases q
        · have := hcn y a w
          rw [S.none_ge (Nat.le_of_lt this)] at q; cases q
      exact hin env Φ2 h1 tk1 fs S2 le own0 hkeep

theorem fn_contract {fa : Addr} {fd : FuncData} {body : List Stmt} {params : List Str} {n : Nat} {B : Slots → Mu → RS} (ok : CxOk c) (F : FnAt c fa fd body params) (sc : ScOk fd.scope tbl gs ws params n)
    (hB : ∀ σ μ r μ', B σ μ = some (r, μ') → HS c k tbl gs ws (execs body) σ μ r μ') : Contract c (k + 1) (.ref fa) (fnRes B n params.length) := by
  intro A Φ s Q E vs Vs μ r μ' cv S va e hok her
  unfold fnRes at e
  by_cases hl : Vs.length = params.length
  · rw [if_pos hl] at e
    refine wpAny_call (fn_enter ok F sc cv S va hl fun env Φ2 h1 tk1 fs S2 le own0 hkeep => ?_)
    · have fin : ∀ {s' : Shared} {Φ' : Phi} {μ1 : Mu}, AftX c.hb env { s with heap := h1, toks := tk1 } s' Φ2 Φ' μ1 → Aft c.hb s s' Φ Φ' μ1 := fun {s' Φ' μ1} a => by
        obtain ⟨h', tk', rfl, S', lx, _⟩ := a
        exact ⟨h', tk', rfl, S', fun a t q => lx a t (le a t q) (own0 a t q)⟩
      cases hbr : B (slots0 n Vs) μ with
      | none => rw [hbr] at e; cases e
      | some p =>
        obtain ⟨rb, μb⟩ := p
        rw [hbr] at e
        refine hB _ _ _ _ hbr (A.deeper env) env Φ2 { s with heap := h1, toks := tk1 } _ _ fs S2 (fun σ' s' Φ' q a' _ => ?_) (fun V v s' Φ' q a' vi => ?_) (fun ee s' Φ' q a' x => ?_)
        · subst q
          cases e
          exact hok _ _ _ _ rfl (fin a') DIn.none
        · subst q
          cases e
          exact hok _ _ _ _ rfl (fin a') vi
        · subst q
          cases e
          obtain ⟨l, Bh, ea, a0, hf, rfl, lt, hid⟩ := x
          refine leave_late hf fs.fr lt fun h' hfl u => ?_
          have S' := a'.ss.up hid hfl.1 u
          obtain ⟨h3, tk3, rfl, S3, lx3, ld3⟩ := a'
          obtain ⟨f0, l0, x1, _, x3⟩ := cv.frs
          have hf' : some (env :: l) = some (env :: f0 :: l0) := by rw [← hf]; show A.frames.map (env :: ·) = _; rw [x1]; rfl
          cases hf'
          exact her _ _ Φ' rfl (fin ⟨h', tk3, rfl, S', lx3, ld3⟩) ⟨f0, l0, Bh, ea, a0, x1, rfl, hfl, hid⟩
  · rw [if_neg hl] at e; cases e
end
end Mine
end
section
open PySem PySem.W PyProof.Rows PySem.Calls
set_option Elab.async false
set_option maxRecDepth 100000
set_option linter.unusedVariables false
namespace Mine

structure RcOk (c : Cx) : Prop where
  obj : ∃ nm q N bs bm hdct sn sub ab col dd k0 k1 k2 k3 k5 newId, c.hb.get? c.rC = some (excClassObj nm q c.rC N bs bm hdct sn sub ab col dd k0 k1 k2 k3 k5 newId) ∧ bm.contains (.type "BaseException") = true

section
variable {c : Cx} {k : Nat} {tbl : Tbl} {gs : Gs} {ws : List Nat} {σ σ' σ'' : Slots} {μ μ' μ'' : Mu}

theorem global_name' {A : Around} {env : Env} {s : Shared} {Q : Value → Shared → Prop} {E : Value → Shared → Prop} {Φ : Phi} (ok : CxOk c) (S : SS c.hb s.heap Φ μ) (hk : env.scope.kind = .function) (hgl : env.globals = mainGlobals) (hbi : env.builtins = builtinsNs) {x : Str} {v : Value} {pos : Pos}
    (hg : env.kindOf x = some .globalImplicit) (hn : GN c x v) (hd : (x == ("__debug__" : Str)) = false) (h : Q v s) : wpAny (model c.prog c.w) A (eval (.Name x pos) env) Q E s := by
  refine Name_function_global hk hg ?_ hd
  rcases hn with hn | ⟨h1, h2⟩
  · exact loadGlobal_global (by rw [hgl]; exact ns_keeps ok.g S.keep) hn h
  · exact loadGlobal_builtin (by rw [hgl]; exact ns_keeps ok.g S.keep) h1 (by rw [hbi]; exact ns_keeps ok.b S.keep) h2 h

noncomputable abbrev tryS (e : Expr) (x : Str) (kk : Nat) (p1 np cp p2 p3 pos : Pos) : Stmt := .Try [.Return (some e) p1] [.ExceptHandler (some (.Name x np)) none [.Return (some (.Constant .none kk cp)) p2] p3] [] [] pos
theorem hs_try_ok {e : Expr} {x : Str} {kk : Nat} {p1 np cp p2 p3 pos : Pos} {V : Vl} (h : HE c k tbl gs e σ μ (.ok V) μ') : HS c k tbl gs ws (exec (tryS e x kk p1 np cp p2 p3 pos)) σ μ (.ok (.ret V)) μ' := by
  intro A env Φ s Q E ev S hn hr he
  refine wpAny_Try_except (wpAny_execs_cons (wpAny_Return_some (h A env Φ s _ _ ev.toEV S (fun V' v s' Φ' q a vi => ?_) fun _ _ _ q => by cases q)))
  cases ok_inj q
  exact hr _ _ _ _ rfl (a.toX env) vi
theorem hs_try_err {e : Expr} {x : Str} {kk : Nat} {p1 np cp p2 p3 pos : Pos} (ok : CxOk c) (rc : RcOk c) (hg : GI gs x) (hn0 : GN c x (.ref c.rC)) (hd : (x == ("__debug__" : Str)) = false) (h : HE c k tbl gs e σ μ (.error ()) μ') :
    HS c k tbl gs ws (exec (tryS e x kk p1 np cp p2 p3 pos)) σ μ (.ok (.ret (.dat .none))) μ' := by
  intro A env Φ s Q E ev S hn hr he
  refine wpAny_Try_except (wpAny_execs_cons (wpAny_Return_some (h A env Φ s _ _ ev.toEV S (fun _ _ _ _ q => by cases q) fun ee s1 Φ1 _ a1 x1 => ?_)))
  obtain ⟨l, hl⟩ := ev.frs2
  obtain ⟨l, B, ea, a0, hfr, rfl, lt, hid⟩ := x1.toS hl
  refine note_late hfr ev.fr lt fun h2 x2 u2 => ?_
  have S2 := a1.ss.up hid x2.1 u2
  refine wpAny_landsW x2 fun h3 x3 u3 => ?_
  have S3 : SS c.hb h3 Φ1 μ' := S2.up hid x3.1 u3
  obtain ⟨nm, q, N, bs, bm, hdct, sn, sub, ab, col, dd, k0, k1, k2, k3, k5, newId, hC, hbase⟩ := rc.obj
  obtain ⟨ob, hob, hobc⟩ := x3.there
  refine wpAny_handleBy_cons (codeAny_handlers_test (global_name' ok S3 ev.kind ev.gl ev.bi (ev.glob x _ hg) hn0 hd ?_)) (by intro q; cases q)
  refine wpAny_excMatches_sub_self (S3.keep _ _ hC) hob hobc hbase (codeAny_handlers_suite ?_)
  refine lands_againW x3 fun h4 x4 u4 => ?_
  have S4 : SS c.hb h4 Φ1 μ' := S3.up hid x4.1 u4
  refine wpAny_execs_cons (wpAny_Return_some (wpAny_Constant_none ?_))
  obtain ⟨h1, tk1, rfl, _, l1⟩ := a1
  exact hr _ _ _ Φ1 rfl ⟨h4, tk1, rfl, S4, l1.toX env, l1.toD⟩ DIn.none
end
end Mine
end
section
open PySem PySem.W PyProof.Rows PySem.Calls
set_option Elab.async false
set_option maxRecDepth 100000
set_option linter.unusedVariables false
namespace Mine
noncomputable def t1 {α : Type} (f : α → Bool) (l : List α) : Bool := @List.casesOn α (fun _ => Bool) l false fun a r => r.isEmpty && f a
theorem and_e {a b : Bool} {G : Prop} (h : (a && b) = true) (k : a = true → b = true → G) : G := k (Bool.and_eq_true_iff.mp h).1 (Bool.and_eq_true_iff.mp h).2
@[elab_as_elim] theorem nil_e {α : Type} {l : List α} {C : List α → Prop} (h : l.isEmpty = true) (k : C []) : C l := by
  cases l with
  | nil => exact k
  | cons => cases h
@[elab_as_elim] theorem non_e {α : Type} {o : Option α} {C : Option α → Prop} (h : o.isNone = true) (k : C none) : C o := by
  cases o with
  | none => exact k
  | some => cases h
@[elab_as_elim] theorem t1_e {α : Type} {f : α → Bool} {l : List α} {C : List α → Prop} (h : t1 f l = true) (k : ∀ a, f a = true → C [a]) : C l := by
  cases l with
  | nil => cases h
  | cons a r => exact and_e (show (r.isEmpty && f a) = true from h) fun h1 h2 => nil_e (C := fun r => C (a :: r)) h1 (k a h2)
theorem t1_at {α : Type} {f : α → Bool} {l : List α} (h : t1 f l = true) : ∃ a, l = [a] ∧ f a = true := t1_e h fun a h => ⟨a, rfl, h⟩
noncomputable def tC {α : Type} (f : α → List α → Bool) (l : List α) : Bool := @List.casesOn α (fun _ => Bool) l false f
@[elab_as_elim] theorem tC_e {α : Type} {f : α → List α → Bool} {l : List α} {C : List α → Prop} (h : tC f l = true) (k : ∀ a r, f a r = true → C (a :: r)) : C l := by
  cases l with
  | nil => cases h
  | cons a r => exact k a r h
theorem tC_at {α : Type} {f : α → List α → Bool} {l : List α} (h : tC f l = true) : ∃ a r, l = a :: r ∧ f a r = true := tC_e h fun a r h => ⟨a, r, rfl, h⟩
noncomputable def tS {α : Type} (f : α → Bool) (o : Option α) : Bool := @Option.casesOn α (fun _ => Bool) o false f
@[elab_as_elim] theorem tS_e {α : Type} {f : α → Bool} {o : Option α} {C : Option α → Prop} (h : tS f o = true) (k : ∀ a, f a = true → C (some a)) : C o := by
  cases o with
  | none => cases h
  | some a => exact k a h
theorem tS_at {α : Type} {f : α → Bool} {o : Option α} (h : tS f o = true) : ∃ a, o = some a ∧ f a = true := tS_e h fun a h => ⟨a, rfl, h⟩
theorem nil_at {α : Type} {l : List α} (h : l.isEmpty = true) : l = [] := List.isEmpty_iff.mp h
theorem non_at {α : Type} {o : Option α} (h : o.isNone = true) : o = none := Option.isNone_iff_eq_none.mp h
noncomputable def tConst (f : Const → Bool) (a : Expr) : Bool := if h : a.ctorIdx = 19 then Expr.Constant.elim (motive_1 := fun _ => Bool) a h fun x0 x1 x2 => f x0 else false
@[elab_as_elim] theorem tConst_e {f : Const → Bool} {a : Expr} {C : Expr → Prop} (h : tConst f a = true) (k : ∀ x0 x1 x2, f x0 = true → C (.Constant x0 x1 x2)) : C a := by
  unfold tConst at h
  by_cases c : a.ctorIdx = 19
  · rw [dif_pos c] at h
    exact Expr.Constant.elim (motive_1 := fun a => ∀ h : a.ctorIdx = 19, (Expr.Constant.elim (motive_1 := fun _ => Bool) a h fun x0 x1 x2 => f x0) = true → C a) a c (fun x0 x1 x2 _ e => k x0 x1 x2 e) c h
  · rw [dif_neg c] at h; cases h
theorem tConst_at {f : Const → Bool} {a : Expr} (h : tConst f a = true) : ∃ x0 x1 x2, a = .Constant x0 x1 x2 ∧ f x0 = true := tConst_e h fun x0 x1 x2 h => ⟨x0, x1, x2, rfl, h⟩
noncomputable def tName (f : Str → Bool) (a : Expr) : Bool := if h : a.ctorIdx = 23 then Expr.Name.elim (motive_1 := fun _ => Bool) a h fun x0 x1 => f x0 else false
@[elab_as_elim] theorem tName_e {f : Str → Bool} {a : Expr} {C : Expr → Prop} (h : tName f a = true) (k : ∀ x0 x1, f x0 = true → C (.Name x0 x1)) : C a := by
  unfold tName at h
  by_cases c : a.ctorIdx = 23
  · rw [dif_pos c] at h
    exact Expr.Name.elim (motive_1 := fun a => ∀ h : a.ctorIdx = 23, (Expr.Name.elim (motive_1 := fun _ => Bool) a h fun x0 x1 => f x0) = true → C a) a c (fun x0 x1 _ e => k x0 x1 e) c h
  · rw [dif_neg c] at h; cases h
theorem tName_at {f : Str → Bool} {a : Expr} (h : tName f a = true) : ∃ x0 x1, a = .Name x0 x1 ∧ f x0 = true := tName_e h fun x0 x1 h => ⟨x0, x1, rfl, h⟩
noncomputable def tTup (f : List Expr → Bool) (a : Expr) : Bool := if h : a.ctorIdx = 25 then Expr.Tuple.elim (motive_1 := fun _ => Bool) a h fun x0 x1 x2 => f x0 else false
@[elab_as_elim] theorem tTup_e {f : List Expr → Bool} {a : Expr} {C : Expr → Prop} (h : tTup f a = true) (k : ∀ x0 x1 x2, f x0 = true → C (.Tuple x0 x1 x2)) : C a := by
  unfold tTup at h
  by_cases c : a.ctorIdx = 25
  · rw [dif_pos c] at h
    exact Expr.Tuple.elim (motive_1 := fun a => ∀ h : a.ctorIdx = 25, (Expr.Tuple.elim (motive_1 := fun _ => Bool) a h fun x0 x1 x2 => f x0) = true → C a) a c (fun x0 x1 x2 _ e => k x0 x1 x2 e) c h
  · rw [dif_neg c] at h; cases h
noncomputable def tLst (f : List Expr → Bool) (a : Expr) : Bool := if h : a.ctorIdx = 24 then Expr.List.elim (motive_1 := fun _ => Bool) a h fun x0 x1 => f x0 else false
@[elab_as_elim] theorem tLst_e {f : List Expr → Bool} {a : Expr} {C : Expr → Prop} (h : tLst f a = true) (k : ∀ x0 x1, f x0 = true → C (.List x0 x1)) : C a := by
  unfold tLst at h
  by_cases c : a.ctorIdx = 24
  · rw [dif_pos c] at h
    exact Expr.List.elim (motive_1 := fun a => ∀ h : a.ctorIdx = 24, (Expr.List.elim (motive_1 := fun _ => Bool) a h fun x0 x1 => f x0) = true → C a) a c (fun x0 x1 _ e => k x0 x1 e) c h
  · rw [dif_neg c] at h; cases h
theorem tLst_at {f : List Expr → Bool} {a : Expr} (h : tLst f a = true) : ∃ x0 x1, a = .List x0 x1 ∧ f x0 = true := tLst_e h fun x0 x1 h => ⟨x0, x1, rfl, h⟩
noncomputable def tBin (f : Expr → Operator → Expr → Bool) (a : Expr) : Bool := if h : a.ctorIdx = 2 then Expr.BinOp.elim (motive_1 := fun _ => Bool) a h fun x0 x1 x2 x3 => f x0 x1 x2 else false
@[elab_as_elim] theorem tBin_e {f : Expr → Operator → Expr → Bool} {a : Expr} {C : Expr → Prop} (h : tBin f a = true) (k : ∀ x0 x1 x2 x3, f x0 x1 x2 = true → C (.BinOp x0 x1 x2 x3)) : C a := by
  unfold tBin at h
  by_cases c : a.ctorIdx = 2
  · rw [dif_pos c] at h
    exact Expr.BinOp.elim (motive_1 := fun a => ∀ h : a.ctorIdx = 2, (Expr.BinOp.elim (motive_1 := fun _ => Bool) a h fun x0 x1 x2 x3 => f x0 x1 x2) = true → C a) a c (fun x0 x1 x2 x3 _ e => k x0 x1 x2 x3 e) c h
  · rw [dif_neg c] at h; cases h
theorem tBin_at {f : Expr → Operator → Expr → Bool} {a : Expr} (h : tBin f a = true) : ∃ x0 x1 x2 x3, a = .BinOp x0 x1 x2 x3 ∧ f x0 x1 x2 = true := tBin_e h fun x0 x1 x2 x3 h => ⟨x0, x1, x2, x3, rfl, h⟩
noncomputable def tCmp (f : Expr → List CmpOp → List Expr → Bool) (a : Expr) : Bool := if h : a.ctorIdx = 15 then Expr.Compare.elim (motive_1 := fun _ => Bool) a h fun x0 x1 x2 x3 => f x0 x1 x2 else false
@[elab_as_elim] theorem tCmp_e {f : Expr → List CmpOp → List Expr → Bool} {a : Expr} {C : Expr → Prop} (h : tCmp f a = true) (k : ∀ x0 x1 x2 x3, f x0 x1 x2 = true → C (.Compare x0 x1 x2 x3)) : C a := by
  unfold tCmp at h
  by_cases c : a.ctorIdx = 15
  · rw [dif_pos c] at h
    exact Expr.Compare.elim (motive_1 := fun a => ∀ h : a.ctorIdx = 15, (Expr.Compare.elim (motive_1 := fun _ => Bool) a h fun x0 x1 x2 x3 => f x0 x1 x2) = true → C a) a c (fun x0 x1 x2 x3 _ e => k x0 x1 x2 x3 e) c h
  · rw [dif_neg c] at h; cases h
theorem tCmp_at {f : Expr → List CmpOp → List Expr → Bool} {a : Expr} (h : tCmp f a = true) : ∃ x0 x1 x2 x3, a = .Compare x0 x1 x2 x3 ∧ f x0 x1 x2 = true := tCmp_e h fun x0 x1 x2 x3 h => ⟨x0, x1, x2, x3, rfl, h⟩
noncomputable def tBool (f : BoolOp → List Expr → Bool) (a : Expr) : Bool := if h : a.ctorIdx = 0 then Expr.BoolOp.elim (motive_1 := fun _ => Bool) a h fun x0 x1 x2 => f x0 x1 else false
@[elab_as_elim] theorem tBool_e {f : BoolOp → List Expr → Bool} {a : Expr} {C : Expr → Prop} (h : tBool f a = true) (k : ∀ x0 x1 x2, f x0 x1 = true → C (.BoolOp x0 x1 x2)) : C a := by
  unfold tBool at h
  by_cases c : a.ctorIdx = 0
  · rw [dif_pos c] at h
    exact Expr.BoolOp.elim (motive_1 := fun a => ∀ h : a.ctorIdx = 0, (Expr.BoolOp.elim (motive_1 := fun _ => Bool) a h fun x0 x1 x2 => f x0 x1) = true → C a) a c (fun x0 x1 x2 _ e => k x0 x1 x2 e) c h
  · rw [dif_neg c] at h; cases h
noncomputable def tUn (f : UnaryOp → Expr → Bool) (a : Expr) : Bool := if h : a.ctorIdx = 3 then Expr.UnaryOp.elim (motive_1 := fun _ => Bool) a h fun x0 x1 x2 => f x0 x1 else false
@[elab_as_elim] theorem tUn_e {f : UnaryOp → Expr → Bool} {a : Expr} {C : Expr → Prop} (h : tUn f a = true) (k : ∀ x0 x1 x2, f x0 x1 = true → C (.UnaryOp x0 x1 x2)) : C a := by
  unfold tUn at h
  by_cases c : a.ctorIdx = 3
  · rw [dif_pos c] at h
    exact Expr.UnaryOp.elim (motive_1 := fun a => ∀ h : a.ctorIdx = 3, (Expr.UnaryOp.elim (motive_1 := fun _ => Bool) a h fun x0 x1 x2 => f x0 x1) = true → C a) a c (fun x0 x1 x2 _ e => k x0 x1 x2 e) c h
  · rw [dif_neg c] at h; cases h
noncomputable def tIf (f : Expr → Expr → Expr → Bool) (a : Expr) : Bool := if h : a.ctorIdx = 5 then Expr.IfExp.elim (motive_1 := fun _ => Bool) a h fun x0 x1 x2 x3 => f x0 x1 x2 else false
@[elab_as_elim] theorem tIf_e {f : Expr → Expr → Expr → Bool} {a : Expr} {C : Expr → Prop} (h : tIf f a = true) (k : ∀ x0 x1 x2 x3, f x0 x1 x2 = true → C (.IfExp x0 x1 x2 x3)) : C a := by
  unfold tIf at h
  by_cases c : a.ctorIdx = 5
  · rw [dif_pos c] at h
    exact Expr.IfExp.elim (motive_1 := fun a => ∀ h : a.ctorIdx = 5, (Expr.IfExp.elim (motive_1 := fun _ => Bool) a h fun x0 x1 x2 x3 => f x0 x1 x2) = true → C a) a c (fun x0 x1 x2 x3 _ e => k x0 x1 x2 x3 e) c h
  · rw [dif_neg c] at h; cases h
noncomputable def tSub (f : Expr → Expr → Bool) (a : Expr) : Bool := if h : a.ctorIdx = 21 then Expr.Subscript.elim (motive_1 := fun _ => Bool) a h fun x0 x1 x2 => f x0 x1 else false
@[elab_as_elim] theorem tSub_e {f : Expr → Expr → Bool} {a : Expr} {C : Expr → Prop} (h : tSub f a = true) (k : ∀ x0 x1 x2, f x0 x1 = true → C (.Subscript x0 x1 x2)) : C a := by
  unfold tSub at h
  by_cases c : a.ctorIdx = 21
  · rw [dif_pos c] at h
    exact Expr.Subscript.elim (motive_1 := fun a => ∀ h : a.ctorIdx = 21, (Expr.Subscript.elim (motive_1 := fun _ => Bool) a h fun x0 x1 x2 => f x0 x1) = true → C a) a c (fun x0 x1 x2 _ e => k x0 x1 x2 e) c h
  · rw [dif_neg c] at h; cases h
theorem tSub_at {f : Expr → Expr → Bool} {a : Expr} (h : tSub f a = true) : ∃ x0 x1 x2, a = .Subscript x0 x1 x2 ∧ f x0 x1 = true := tSub_e h fun x0 x1 x2 h => ⟨x0, x1, x2, rfl, h⟩
noncomputable def tSlc (f : Option Expr → Option Expr → Option Expr → Bool) (a : Expr) : Bool := if h : a.ctorIdx = 26 then Expr.Slice.elim (motive_1 := fun _ => Bool) a h fun x0 x1 x2 x3 => f x0 x1 x2 else false
@[elab_as_elim] theorem tSlc_e {f : Option Expr → Option Expr → Option Expr → Bool} {a : Expr} {C : Expr → Prop} (h : tSlc f a = true) (k : ∀ x0 x1 x2 x3, f x0 x1 x2 = true → C (.Slice x0 x1 x2 x3)) : C a := by
  unfold tSlc at h
  by_cases c : a.ctorIdx = 26
  · rw [dif_pos c] at h
    exact Expr.Slice.elim (motive_1 := fun a => ∀ h : a.ctorIdx = 26, (Expr.Slice.elim (motive_1 := fun _ => Bool) a h fun x0 x1 x2 x3 => f x0 x1 x2) = true → C a) a c (fun x0 x1 x2 x3 _ e => k x0 x1 x2 x3 e) c h
  · rw [dif_neg c] at h; cases h
noncomputable def tCall (f : Expr → List Expr → List Keyword → Pos → Bool) (a : Expr) : Bool := if h : a.ctorIdx = 16 then Expr.Call.elim (motive_1 := fun _ => Bool) a h fun x0 x1 x2 x3 => f x0 x1 x2 x3 else false
@[elab_as_elim] theorem tCall_e {f : Expr → List Expr → List Keyword → Pos → Bool} {a : Expr} {C : Expr → Prop} (h : tCall f a = true) (k : ∀ x0 x1 x2 x3, f x0 x1 x2 x3 = true → C (.Call x0 x1 x2 x3)) : C a := by
  unfold tCall at h
  by_cases c : a.ctorIdx = 16
  · rw [dif_pos c] at h
    exact Expr.Call.elim (motive_1 := fun a => ∀ h : a.ctorIdx = 16, (Expr.Call.elim (motive_1 := fun _ => Bool) a h fun x0 x1 x2 x3 => f x0 x1 x2 x3) = true → C a) a c (fun x0 x1 x2 x3 _ e => k x0 x1 x2 x3 e) c h
  · rw [dif_neg c] at h; cases h
theorem tCall_at {f : Expr → List Expr → List Keyword → Pos → Bool} {a : Expr} (h : tCall f a = true) : ∃ x0 x1 x2 x3, a = .Call x0 x1 x2 x3 ∧ f x0 x1 x2 x3 = true := tCall_e h fun x0 x1 x2 x3 h => ⟨x0, x1, x2, x3, rfl, h⟩
noncomputable def tAttr (f : Expr → Str → Pos → Bool) (a : Expr) : Bool := if h : a.ctorIdx = 20 then Expr.Attribute.elim (motive_1 := fun _ => Bool) a h fun x0 x1 x2 => f x0 x1 x2 else false
@[elab_as_elim] theorem tAttr_e {f : Expr → Str → Pos → Bool} {a : Expr} {C : Expr → Prop} (h : tAttr f a = true) (k : ∀ x0 x1 x2, f x0 x1 x2 = true → C (.Attribute x0 x1 x2)) : C a := by
  unfold tAttr at h
  by_cases c : a.ctorIdx = 20
  · rw [dif_pos c] at h
    exact Expr.Attribute.elim (motive_1 := fun a => ∀ h : a.ctorIdx = 20, (Expr.Attribute.elim (motive_1 := fun _ => Bool) a h fun x0 x1 x2 => f x0 x1 x2) = true → C a) a c (fun x0 x1 x2 _ e => k x0 x1 x2 e) c h
  · rw [dif_neg c] at h; cases h
theorem tAttr_at {f : Expr → Str → Pos → Bool} {a : Expr} (h : tAttr f a = true) : ∃ x0 x1 x2, a = .Attribute x0 x1 x2 ∧ f x0 x1 x2 = true := tAttr_e h fun x0 x1 x2 h => ⟨x0, x1, x2, rfl, h⟩
noncomputable def tLC (f : Expr → List Comprehension → Scope → Bool) (a : Expr) : Bool := if h : a.ctorIdx = 8 then Expr.ListComp.elim (motive_1 := fun _ => Bool) a h fun x0 x1 x2 x3 => f x0 x1 x2 else false
@[elab_as_elim] theorem tLC_e {f : Expr → List Comprehension → Scope → Bool} {a : Expr} {C : Expr → Prop} (h : tLC f a = true) (k : ∀ x0 x1 x2 x3, f x0 x1 x2 = true → C (.ListComp x0 x1 x2 x3)) : C a := by
  unfold tLC at h
  by_cases c : a.ctorIdx = 8
  · rw [dif_pos c] at h
    exact Expr.ListComp.elim (motive_1 := fun a => ∀ h : a.ctorIdx = 8, (Expr.ListComp.elim (motive_1 := fun _ => Bool) a h fun x0 x1 x2 x3 => f x0 x1 x2) = true → C a) a c (fun x0 x1 x2 x3 _ e => k x0 x1 x2 x3 e) c h
  · rw [dif_neg c] at h; cases h
noncomputable def uAsg (f : List Expr → Expr → Bool) (a : Stmt) : Bool := if h : a.ctorIdx = 5 then Stmt.Assign.elim (motive_2 := fun _ => Bool) a h fun x0 x1 x2 => f x0 x1 else false
@[elab_as_elim] theorem uAsg_e {f : List Expr → Expr → Bool} {a : Stmt} {C : Stmt → Prop} (h : uAsg f a = true) (k : ∀ x0 x1 x2, f x0 x1 = true → C (.Assign x0 x1 x2)) : C a := by
  unfold uAsg at h
  by_cases c : a.ctorIdx = 5
  · rw [dif_pos c] at h
    exact Stmt.Assign.elim (motive_2 := fun a => ∀ h : a.ctorIdx = 5, (Stmt.Assign.elim (motive_2 := fun _ => Bool) a h fun x0 x1 x2 => f x0 x1) = true → C a) a c (fun x0 x1 x2 _ e => k x0 x1 x2 e) c h
  · rw [dif_neg c] at h; cases h
theorem uAsg_at {f : List Expr → Expr → Bool} {a : Stmt} (h : uAsg f a = true) : ∃ x0 x1 x2, a = .Assign x0 x1 x2 ∧ f x0 x1 = true := uAsg_e h fun x0 x1 x2 h => ⟨x0, x1, x2, rfl, h⟩
noncomputable def uAug (f : Expr → Operator → Expr → Bool) (a : Stmt) : Bool := if h : a.ctorIdx = 7 then Stmt.AugAssign.elim (motive_2 := fun _ => Bool) a h fun x0 x1 x2 x3 => f x0 x1 x2 else false
@[elab_as_elim] theorem uAug_e {f : Expr → Operator → Expr → Bool} {a : Stmt} {C : Stmt → Prop} (h : uAug f a = true) (k : ∀ x0 x1 x2 x3, f x0 x1 x2 = true → C (.AugAssign x0 x1 x2 x3)) : C a := by
  unfold uAug at h
  by_cases c : a.ctorIdx = 7
  · rw [dif_pos c] at h
    exact Stmt.AugAssign.elim (motive_2 := fun a => ∀ h : a.ctorIdx = 7, (Stmt.AugAssign.elim (motive_2 := fun _ => Bool) a h fun x0 x1 x2 x3 => f x0 x1 x2) = true → C a) a c (fun x0 x1 x2 x3 _ e => k x0 x1 x2 x3 e) c h
  · rw [dif_neg c] at h; cases h
theorem uAug_at {f : Expr → Operator → Expr → Bool} {a : Stmt} (h : uAug f a = true) : ∃ x0 x1 x2 x3, a = .AugAssign x0 x1 x2 x3 ∧ f x0 x1 x2 = true := uAug_e h fun x0 x1 x2 x3 h => ⟨x0, x1, x2, x3, rfl, h⟩
noncomputable def uExp (f : Expr → Bool) (a : Stmt) : Bool := if h : a.ctorIdx = 24 then Stmt.Expr.elim (motive_2 := fun _ => Bool) a h fun x0 x1 => f x0 else false
@[elab_as_elim] theorem uExp_e {f : Expr → Bool} {a : Stmt} {C : Stmt → Prop} (h : uExp f a = true) (k : ∀ x0 x1, f x0 = true → C (.Expr x0 x1)) : C a := by
  unfold uExp at h
  by_cases c : a.ctorIdx = 24
  · rw [dif_pos c] at h
    exact Stmt.Expr.elim (motive_2 := fun a => ∀ h : a.ctorIdx = 24, (Stmt.Expr.elim (motive_2 := fun _ => Bool) a h fun x0 x1 => f x0) = true → C a) a c (fun x0 x1 _ e => k x0 x1 e) c h
  · rw [dif_neg c] at h; cases h
theorem uExp_at {f : Expr → Bool} {a : Stmt} (h : uExp f a = true) : ∃ x0 x1, a = .Expr x0 x1 ∧ f x0 = true := uExp_e h fun x0 x1 h => ⟨x0, x1, rfl, h⟩
noncomputable def uRet (f : Option Expr → Bool) (a : Stmt) : Bool := if h : a.ctorIdx = 3 then Stmt.Return.elim (motive_2 := fun _ => Bool) a h fun x0 x1 => f x0 else false
@[elab_as_elim] theorem uRet_e {f : Option Expr → Bool} {a : Stmt} {C : Stmt → Prop} (h : uRet f a = true) (k : ∀ x0 x1, f x0 = true → C (.Return x0 x1)) : C a := by
  unfold uRet at h
  by_cases c : a.ctorIdx = 3
  · rw [dif_pos c] at h
    exact Stmt.Return.elim (motive_2 := fun a => ∀ h : a.ctorIdx = 3, (Stmt.Return.elim (motive_2 := fun _ => Bool) a h fun x0 x1 => f x0) = true → C a) a c (fun x0 x1 _ e => k x0 x1 e) c h
  · rw [dif_neg c] at h; cases h
theorem uRet_at {f : Option Expr → Bool} {a : Stmt} (h : uRet f a = true) : ∃ x0 x1, a = .Return x0 x1 ∧ f x0 = true := uRet_e h fun x0 x1 h => ⟨x0, x1, rfl, h⟩
noncomputable def uIf (f : Expr → List Stmt → List Stmt → Bool) (a : Stmt) : Bool := if h : a.ctorIdx = 12 then Stmt.If.elim (motive_2 := fun _ => Bool) a h fun x0 x1 x2 x3 => f x0 x1 x2 else false
@[elab_as_elim] theorem uIf_e {f : Expr → List Stmt → List Stmt → Bool} {a : Stmt} {C : Stmt → Prop} (h : uIf f a = true) (k : ∀ x0 x1 x2 x3, f x0 x1 x2 = true → C (.If x0 x1 x2 x3)) : C a := by
  unfold uIf at h
  by_cases c : a.ctorIdx = 12
  · rw [dif_pos c] at h
    exact Stmt.If.elim (motive_2 := fun a => ∀ h : a.ctorIdx = 12, (Stmt.If.elim (motive_2 := fun _ => Bool) a h fun x0 x1 x2 x3 => f x0 x1 x2) = true → C a) a c (fun x0 x1 x2 x3 _ e => k x0 x1 x2 x3 e) c h
  · rw [dif_neg c] at h; cases h
theorem uIf_at {f : Expr → List Stmt → List Stmt → Bool} {a : Stmt} (h : uIf f a = true) : ∃ x0 x1 x2 x3, a = .If x0 x1 x2 x3 ∧ f x0 x1 x2 = true := uIf_e h fun x0 x1 x2 x3 h => ⟨x0, x1, x2, x3, rfl, h⟩
noncomputable def uFor (f : Expr → Expr → List Stmt → List Stmt → Bool) (a : Stmt) : Bool := if h : a.ctorIdx = 9 then Stmt.For.elim (motive_2 := fun _ => Bool) a h fun x0 x1 x2 x3 x4 => f x0 x1 x2 x3 else false
@[elab_as_elim] theorem uFor_e {f : Expr → Expr → List Stmt → List Stmt → Bool} {a : Stmt} {C : Stmt → Prop} (h : uFor f a = true) (k : ∀ x0 x1 x2 x3 x4, f x0 x1 x2 x3 = true → C (.For x0 x1 x2 x3 x4)) : C a := by
  unfold uFor at h
  by_cases c : a.ctorIdx = 9
  · rw [dif_pos c] at h
    exact Stmt.For.elim (motive_2 := fun a => ∀ h : a.ctorIdx = 9, (Stmt.For.elim (motive_2 := fun _ => Bool) a h fun x0 x1 x2 x3 x4 => f x0 x1 x2 x3) = true → C a) a c (fun x0 x1 x2 x3 x4 _ e => k x0 x1 x2 x3 x4 e) c h
  · rw [dif_neg c] at h; cases h
noncomputable def uRaise (f : Option Expr → Option Expr → Bool) (a : Stmt) : Bool := if h : a.ctorIdx = 16 then Stmt.Raise.elim (motive_2 := fun _ => Bool) a h fun x0 x1 x2 => f x0 x1 else false
@[elab_as_elim] theorem uRaise_e {f : Option Expr → Option Expr → Bool} {a : Stmt} {C : Stmt → Prop} (h : uRaise f a = true) (k : ∀ x0 x1 x2, f x0 x1 = true → C (.Raise x0 x1 x2)) : C a := by
  unfold uRaise at h
  by_cases c : a.ctorIdx = 16
  · rw [dif_pos c] at h
    exact Stmt.Raise.elim (motive_2 := fun a => ∀ h : a.ctorIdx = 16, (Stmt.Raise.elim (motive_2 := fun _ => Bool) a h fun x0 x1 x2 => f x0 x1) = true → C a) a c (fun x0 x1 x2 _ e => k x0 x1 x2 e) c h
  · rw [dif_neg c] at h; cases h
noncomputable def uTry (f : List Stmt → List ExceptHandler → List Stmt → List Stmt → Bool) (a : Stmt) : Bool := if h : a.ctorIdx = 17 then Stmt.Try.elim (motive_2 := fun _ => Bool) a h fun x0 x1 x2 x3 x4 => f x0 x1 x2 x3 else false
@[elab_as_elim] theorem uTry_e {f : List Stmt → List ExceptHandler → List Stmt → List Stmt → Bool} {a : Stmt} {C : Stmt → Prop} (h : uTry f a = true) (k : ∀ x0 x1 x2 x3 x4, f x0 x1 x2 x3 = true → C (.Try x0 x1 x2 x3 x4)) : C a := by
  unfold uTry at h
  by_cases c : a.ctorIdx = 17
  · rw [dif_pos c] at h
    exact Stmt.Try.elim (motive_2 := fun a => ∀ h : a.ctorIdx = 17, (Stmt.Try.elim (motive_2 := fun _ => Bool) a h fun x0 x1 x2 x3 x4 => f x0 x1 x2 x3) = true → C a) a c (fun x0 x1 x2 x3 x4 _ e => k x0 x1 x2 x3 x4 e) c h
  · rw [dif_neg c] at h; cases h
end Mine
end
section
open PySem PySem.W PyProof.Rows PySem.Calls
set_option Elab.async false
set_option maxRecDepth 100000
set_option linter.unusedVariables false
namespace Mine

mutual
inductive PE where
  | absent
  | const (d : Dat)
  | loc (i : Nat)
  | glc (x : Str) (n : Int)
  | tup (es : PL)
  | lst (es : PL)
  | newl
  | bin (op : Operator) (a b : PE)
  | cmp (op : CmpOp) (a b : PE)
  | bop (op : BoolOp) (es : PL)
  | pnot (e : PE)
  | neg (i : Int)
  | ite (t a b : PE)
  | sub (a i : PE)
  | slc (a lo hi : PE)
  | bi (b : Bi) (e : PE)
  | cnt (o e : PE)
  | idx (o e : PE)
  | join (o e : PE)
  | call (f : Nat) (es : PL)
  | meth (m : Nat) (i : Nat) (es : PL)
  | attr (i : Nat) (num : Bool)
  | app (i : Nat) (e : PE)
  | comp (elt : PE) (tg : Tg) (it : PI) (cond : PE) (caps : List Nat)
inductive PL where
  | nil
  | cons (e : PE) (es : PL)
inductive PI where
  | lst (e : PE)
  | tup (e : PE)
  | rng1 (e : PE)
  | rng2 (a b : PE)
end
mutual
inductive PS where
  | asg (i : Nat) (e : PE)
  | asgT (is : List Nat) (e : PE)
  | asgD (is : List Nat) (es : PL)
  | aug (i : Nat) (op : Operator) (e : PE)
  | set (i : Nat) (ie e : PE)
  | expr (e : PE)
  | ret (e : PE)
  | ret0
  | ife (t : PE) (a b : PB)
  | for_ (tg : Tg) (it : PI) (b : PB)
  | raise (msg : Str)
  | tryr (e : PE)
inductive PB where
  | nil
  | cons (s : PS) (b : PB)
end

noncomputable def bindR {α β : Type} (m : RR α) (f : α → Mu → RR β) : RR β := match m with
  | none => none
  | some (.error _, μ) => some (.error (), μ)
  | some (.ok a, μ) => f a μ
noncomputable def bindO {α β : Type} (m : RR α) (f : α → Mu → Option β) : Option β := match m with
  | some (.ok a, μ) => f a μ
  | _ => none
section
variable {α β : Type}
@[elab_as_elim] theorem bindR_e {m : RR α} {f : α → Mu → RR β} {r : Except Unit β} {μ' : Mu} {C : Except Unit β → Mu → Prop} (h : bindR m f = some (r, μ')) (ke : ∀ μ1, m = some (.error (), μ1) → C (.error ()) μ1) (ko : ∀ a μ1, m = some (.ok a, μ1) → f a μ1 = some (r, μ') → C r μ') : C r μ' := by
  cases m with
  | none => cases h
  | some p =>
    obtain ⟨x, μ1⟩ := p
    cases x with
    | error u => cases h; exact ke _ rfl
    | ok a => exact ko a μ1 rfl h
theorem bindO_e {m : RR α} {f : α → Mu → Option β} {z : β} {G : Prop} (h : bindO m f = some z) (k : ∀ a μ1, m = some (.ok a, μ1) → f a μ1 = some z → G) : G := by
  cases m with
  | none => cases h
  | some p =>
    obtain ⟨x, μ1⟩ := p
    cases x with
    | error u => cases h
    | ok a => exact k a μ1 rfl h
theorem bind_e {o : Option α} {f : α → Option β} {z : β} {G : Prop} (h : o.bind f = some z) (k : ∀ a, o = some a → f a = some z → G) : G := by
  cases o with
  | none => cases h
  | some a => exact k a rfl h
@[elab_as_elim] theorem ret_e {x r : α} {μ1 μ' : Mu} {C : α → Mu → Prop} (h : some (x, μ1) = some (r, μ')) (k : C x μ1) : C r μ' := by cases h; exact k
end
noncomputable def asI (V : Vl) : Option Int := onDat V fun d => match d with
  | .int i => some i
  | _ => none
noncomputable def asLs (V : Vl) : Option (List Dat) := onDat V fun d => match d with
  | .list i => some i
  | _ => none
noncomputable def asTs (V : Vl) : Option (List Dat) := onDat V fun d => match d with
  | .tuple i => some i
  | _ => none
noncomputable def asSt (V : Vl) : Option Str := onDat V fun d => match d with
  | .str i => some i
  | _ => none
noncomputable def asRef (V : Vl) : Option Nat := match V with
  | .mref j => some j
  | _ => none
noncomputable def asMem (V : Vl) : Option (Nat × Nat) := match V with
  | .mem n ch => some (n, ch)
  | _ => none
noncomputable def asLst (o : MO) : Option (List Dat) := match o with
  | .lst ds => some ds
  | _ => none
noncomputable def asPl (o : MO) : Option (List Dat) := match o with
  | .plst ds => some ds
  | _ => none
theorem asI_at {V : Vl} {i : Int} (h : asI V = some i) : V = .dat (.int i) := by
  obtain ⟨d, rfl, h⟩ := onDat_at h
  cases d <;> cases h; rfl
theorem asLs_at {V : Vl} {i : List Dat} (h : asLs V = some i) : V = .dat (.list i) := by
  obtain ⟨d, rfl, h⟩ := onDat_at h
  cases d <;> cases h; rfl
theorem asTs_at {V : Vl} {i : List Dat} (h : asTs V = some i) : V = .dat (.tuple i) := by
  obtain ⟨d, rfl, h⟩ := onDat_at h
  cases d <;> cases h; rfl
theorem asSt_at {V : Vl} {i : Str} (h : asSt V = some i) : V = .dat (.str i) := by
  obtain ⟨d, rfl, h⟩ := onDat_at h
  cases d <;> cases h; rfl
theorem asD_at {V : Vl} {d : Dat} (h : onDat V some = some d) : V = .dat d := by
  obtain ⟨d, rfl, h⟩ := onDat_at h
  cases h; rfl
theorem asRef_at {V : Vl} {j : Nat} (h : asRef V = some j) : V = .mref j := by
  cases V <;> cases h; rfl
theorem asMem_at {V : Vl} {p : Nat × Nat} (h : asMem V = some p) : V = .mem p.1 p.2 := by
  cases V <;> cases h; rfl
theorem asLst_at {o : MO} {ds : List Dat} (h : asLst o = some ds) : o = .lst ds := by
  cases o <;> cases h; rfl
theorem asPl_at {o : MO} {ds : List Dat} (h : asPl o = some ds) : o = .plst ds := by
  cases o <;> cases h; rfl
noncomputable def getS (σ : Slots) (i : Nat) : Option Vl := (σ[i]?).bind id
theorem getS_of {σ : Slots} {i : Nat} {V : Vl} (h : σ[i]? = some (some V)) : getS σ i = some V := by unfold getS; rw [h]; rfl
theorem getS_at {σ : Slots} {i : Nat} {V : Vl} (h : getS σ i = some V) : σ[i]? = some (some V) := bind_e h fun a h1 h2 => by rw [h1]; exact congrArg some h2
noncomputable def getM {α : Type} (f : MO → Option α) (μ : Mu) (j : Nat) : Option α := (μ[j]?).bind f
theorem getL_at {μ : Mu} {j : Nat} {ds : List Dat} (h : getM asLst μ j = some ds) : μ[j]? = some (.lst ds) := bind_e h fun a h1 h2 => by rw [h1, asLst_at h2]
theorem getP_at {μ : Mu} {j : Nat} {ds : List Dat} (h : getM asPl μ j = some ds) : μ[j]? = some (.plst ds) := bind_e h fun a h1 h2 => by rw [h1, asPl_at h2]
theorem getL_of {μ : Mu} {j : Nat} {ds : List Dat} (h : μ[j]? = some (.lst ds)) : getM asLst μ j = some ds := by unfold getM; rw [h]; rfl
theorem getP_of {μ : Mu} {j : Nat} {ds : List Dat} (h : μ[j]? = some (.plst ds)) : getM asPl μ j = some ds := by unfold getM; rw [h]; rfl
noncomputable def optE (ab : Bool) (m : RR Vl) (μ : Mu) : Option (Option Int × Mu) := cond ab (some (none, μ)) (bindO m fun V μ => (asI V).bind fun i => some (some i, μ))
noncomputable def tsR (m : RR Vl) : RR Bool := bindR m fun V μ => (trV V).bind fun b => some (.ok b, μ)
theorem trV_at {V : Vl} {b : Bool} (h : trV V = some b) : V = .dat (.bool b) := by
  cases V with
  | dat d => cases d <;> cases h; rfl
  | mref => cases h
  | mem => cases h
  | raw => cases h
@[elab_as_elim] theorem bindT_e {β : Type} {m : RR Vl} {f : Bool → Mu → RR β} {r : Except Unit β} {μ' : Mu} {C : Except Unit β → Mu → Prop} (h : bindR (tsR m) f = some (r, μ')) (ke : ∀ μ1, m = some (.error (), μ1) → C (.error ()) μ1) (ko : ∀ b μ1, m = some (.ok (.dat (.bool b)), μ1) → f b μ1 = some (r, μ') → C r μ') : C r μ' := by
  refine bindR_e h (fun μ1 h1 => ?_) fun b μ1 h1 h2 => ?_
  · unfold tsR at h1
    cases m with
    | none => cases h1
    | some p =>
      obtain ⟨x, μ2⟩ := p
      cases x with
      | error u => cases h1; exact ke _ rfl
      | ok V => exact bind_e h1 fun b _ h => by cases h
  · unfold tsR at h1
    cases m with
    | none => cases h1
    | some p =>
      obtain ⟨x, μ2⟩ := p
      cases x with
      | error u => cases h1
      | ok V => exact bind_e h1 fun b' h3 h => by cases h; exact ko b μ1 (by rw [trV_at h3]) h2
noncomputable def isAbs (e : PE) : Bool := e.ctorIdx == 0
noncomputable def tgs : Tg → List Nat
  | .one i => [i]
  | .tup is => is
section
variable (F G : Nat → List Vl → Mu → RR Vl)
mutual
noncomputable def evE : PE → Slots → Mu → RR Vl
  | .absent, _, _ => none
  | .const d, _, μ => some (.ok (.dat d), μ)
  | .loc i, σ, μ => (getS σ i).bind fun V => some (.ok V, μ)
  | .glc _ n, _, μ => some (.ok (.dat (.int n)), μ)
  | .tup es, σ, μ => bindR (evL es σ μ) fun Vs μ => (dats Vs).bind fun ds => if room ds.length then some (.ok (.dat (.tuple ds)), μ) else none
  | .lst es, σ, μ => bindR (evL es σ μ) fun Vs μ => (dats Vs).bind fun ds => if room ds.length then some (.ok (.dat (.list ds)), μ) else none
  | .newl, _, μ => some (.ok (.mref μ.length), μ ++ [.plst []])
  | .bin op a b, σ, μ => bindR (evE a σ μ) fun V1 μ => bindR (evE b σ μ) fun V2 μ => (deref μ V1).bind fun x => (deref μ V2).bind fun y => (binD op x y).bind fun z => some (.ok (.dat z), μ)
  | .cmp op a b, σ, μ => bindR (evE a σ μ) fun V1 μ => bindR (evE b σ μ) fun V2 μ => (cmpV μ op V1 V2).bind fun z => some (.ok (.dat (.bool z)), μ)
  | .bop op es, σ, μ => evB op es σ μ
  | .pnot e, σ, μ => bindR (tsR (evE e σ μ)) fun b μ => some (.ok (.dat (.bool !b)), μ)
  | .neg i, _, μ => some (.ok (.dat (.int (-i))), μ)
  | .ite t a b, σ, μ => bindR (tsR (evE t σ μ)) fun z μ => cond z (evE a σ μ) (evE b σ μ)
  | .sub a i, σ, μ => bindR (evE a σ μ) fun V μ => bindR (evE i σ μ) fun I μ => (deref μ V).bind fun x => (asI I).bind fun i => (idxD x i).bind fun z => some (.ok (.dat z), μ)
  | .slc a lo hi, σ, μ => bindO (evE a σ μ) fun V μ => (optE (isAbs lo) (evE lo σ μ) μ).bind fun p => (optE (isAbs hi) (evE hi σ p.2) p.2).bind fun q => (deref q.2 V).bind fun x => (slcD x p.1 q.1).bind fun z => some (.ok (.dat z), q.2)
  | .bi b e, σ, μ => bindR (evE e σ μ) fun V μ => (deref μ V).bind fun x => (biD b x).bind fun z => some (.ok (.dat z), μ)
  | .cnt o e, σ, μ => bindO (evE o σ μ) fun V μ => bindO (evE e σ μ) fun W μ => (asLs V).bind fun ds => (deref μ W).bind fun y => (cntD (.list ds) y).bind fun z => some (.ok (.dat z), μ)
  | .idx o e, σ, μ => bindO (evE o σ μ) fun V μ => bindO (evE e σ μ) fun W μ => (asLs V).bind fun ds => (deref μ W).bind fun y => (idxOfD (.list ds) y).bind fun z => some (.ok (.dat z), μ)
  | .join o e, σ, μ => bindO (evE o σ μ) fun V μ => bindO (evE e σ μ) fun W μ => (asSt V).bind fun x => (deref μ W).bind fun y => (joinD (.str x) y).bind fun z => some (.ok (.dat z), μ)
  | .call f es, σ, μ => bindR (evL es σ μ) fun Vs μ => F f Vs μ
  | .meth m i es, σ, μ => (getS σ i).bind fun W => (asMem W).bind fun p => bindR (evL es σ μ) fun Vs μ => G m (.mem p.1 p.2 :: Vs) μ
  | .attr i num, σ, μ => (getS σ i).bind fun W => (asMem W).bind fun p => some (.ok (.mref (if num then p.1 else p.2)), μ)
  | .app i e, σ, μ => (getS σ i).bind fun W => (asRef W).bind fun j => (getM asPl μ j).bind fun _ => bindO (evE e σ μ) fun V μ => (onDat V some).bind fun d => (getM asPl μ j).bind fun ds => if room ds.length then some (.ok (.dat .none), μ.set j (.plst (ds ++ [d]))) else none
  | .comp elt tg it cond caps, σ, μ => (evI it σ μ).bind fun p => if caps.all (has σ) && room p.1.length then
        (evComp (fun σ μ => evE elt σ μ) (if isAbs cond then none else some fun σ μ => tsR (evE cond σ μ)) tg (clr (tgs tg) σ) p.1 p.2).bind fun q => some (.ok (.dat (.list q.1)), q.2)
      else none
noncomputable def evL : PL → Slots → Mu → RR (List Vl)
  | .nil, _, μ => some (.ok [], μ)
  | .cons e es, σ, μ => bindR (evE e σ μ) fun V μ => bindR (evL es σ μ) fun Vs μ => some (.ok (V :: Vs), μ)
noncomputable def evB (op : BoolOp) : PL → Slots → Mu → RR Vl
  | .nil, _, _ => none
  | .cons e .nil, σ, μ => evE e σ μ
  | .cons e (.cons e2 es), σ, μ => bindR (evE e σ μ) fun V μ => (trV V).bind fun b => if b = stopOf op then some (.ok V, μ) else evB op (.cons e2 es) σ μ
noncomputable def evI : PI → Slots → Mu → Option (List Dat × Mu)
  | .lst e, σ, μ => bindO (evE e σ μ) fun V μ => (asLs V).bind fun ds => some (ds, μ)
  | .tup e, σ, μ => bindO (evE e σ μ) fun V μ => (asTs V).bind fun ds => some (ds, μ)
  | .rng1 e, σ, μ => bindO (evE e σ μ) fun V μ => (asI V).bind fun b => if ord b then some (rangeD 0 b.toNat, μ) else none
  | .rng2 e1 e2, σ, μ => bindO (evE e1 σ μ) fun V μ => bindO (evE e2 σ μ) fun W μ => (asI V).bind fun a => (asI W).bind fun b => if ord a && ord b then some (rangeD a (b - a).toNat, μ) else none
end
noncomputable def tryK (m : RR Vl) : RS := match m with
  | some (.ok V, μ) => some (.ok (.ret V), μ)
  | some (.error _, μ) => some (.ok (.ret (.dat .none)), μ)
  | none => none
mutual
noncomputable def evS : PS → Slots → Mu → RS
  | .asg i e, σ, μ => bindR (evE F G e σ μ) fun V μ => if i < σ.length then some (.ok (.next (σ.set i (some V))), μ) else none
  | .asgT is e, σ, μ => bindR (evE F G e σ μ) fun V μ => (asTs V).bind fun ds => (setAll is ds σ).bind fun σ' => some (.ok (.next σ'), μ)
  | .asgD is es, σ, μ => bindO (evL F G es σ μ) fun Vs μ => if is.length = Vs.length ∧ is.all (· < σ.length) then some (.ok (.next (setPs (is.zip Vs) σ)), μ) else none
  | .aug i op e, σ, μ => (getS σ i).bind fun W => (asI W).bind fun a => bindO (evE F G e σ μ) fun V μ => (asI V).bind fun b => (augD op a b).bind fun z => some (.ok (.next (σ.set i (some (.dat (.int z))))), μ)
  | .set i ie e, σ, μ => (getS σ i).bind fun W => (asRef W).bind fun j => bindO (evE F G e σ μ) fun V μ => bindO (evE F G ie σ μ) fun I μ => (onDat V some).bind fun d => (asI I).bind fun i => (getM asLst μ j).bind fun ds =>
      if 0 ≤ i ∧ i < ds.length ∧ room ds.length = true then some (.ok (.next σ), μ.set j (.lst (ds.set i.toNat d))) else none
  | .expr e, σ, μ => bindR (evE F G e σ μ) fun _ μ => some (.ok (.next σ), μ)
  | .ret e, σ, μ => bindR (evE F G e σ μ) fun V μ => some (.ok (.ret V), μ)
  | .ret0, _, μ => some (.ok (.ret (.dat .none)), μ)
  | .ife t a b, σ, μ => bindR (tsR (evE F G t σ μ)) fun z μ => cond z (evBk a σ μ) (evBk b σ μ)
  | .for_ tg it b, σ, μ => (evI F G it σ μ).bind fun p => evFor (fun σ μ => evBk b σ μ) tg p.1 σ p.2
  | .raise _, _, μ => some (.error (), μ)
  | .tryr e, σ, μ => tryK (evE F G e σ μ)
noncomputable def evBk : PB → Slots → Mu → RS
  | .nil, σ, μ => some (.ok (.next σ), μ)
  | .cons s b, σ, μ => thenK (evS s σ μ) fun σ μ => evBk b σ μ
end
end

noncomputable def tin (tbl : Tbl) (i : Nat) (x : Str) : Bool := tbl.any fun p => p.1 == i && p.2 == x
noncomputable def gin (gs : Gs) (x : Str) (k : NameKind) : Bool := gs.any fun p => p.1 == x && p.2 == k
theorem tin_mem {tbl : Tbl} {i : Nat} {x : Str} (h : tin tbl i x = true) : (i, x) ∈ tbl := by
  obtain ⟨p, h1, h2⟩ := List.any_eq_true.mp h
  obtain ⟨a, b⟩ := Bool.and_eq_true_iff.mp h2
  rw [← eq_of_beq a, ← eq_of_beq b]; exact h1
theorem gin_mem {gs : Gs} {x : Str} {k : NameKind} (h : gin gs x k = true) : (x, k) ∈ gs := by
  obtain ⟨p, h1, h2⟩ := List.any_eq_true.mp h
  obtain ⟨a, b⟩ := Bool.and_eq_true_iff.mp h2
  rw [← eq_of_beq a, ← eq_of_beq b]; exact h1
noncomputable def okN (x : Str) : Bool := !(x == ("__debug__" : Str)) && !(x == ("__classdict__" : Str))
theorem okN_at {x : Str} (h : okN x = true) : (x == ("__debug__" : Str)) = false ∧ (x == ("__classdict__" : Str)) = false := by
  unfold okN at h
  simpa using h
noncomputable def notStar (e : Expr) : Bool := !(e.ctorIdx == 22)
theorem notStar_at {e : Expr} (h : notStar e = true) : ∀ z q, e ≠ .Starred z q := by
  rintro z q rfl; cases h
noncomputable def notSet (e : Expr) : Bool := !(e.ctorIdx == 7)
theorem notSet_at {e : Expr} (h : notSet e = true) : ∀ env x, foldedSetIterable e env x = pure x := by
  cases e <;> first | (intro env x; rfl) | cases h
noncomputable def isComp (e : Expr) : Bool := e.ctorIdx == 8 || e.ctorIdx == 9 || e.ctorIdx == 10
theorem notComp_at {e : Expr} (h : isComp e = false) (t : Option Expr) (l : Nat) : ∀ env, swapsWith e t l env = pure false := by
  cases e <;> first | (intro env; rfl) | cases h
noncomputable def mC (c : Const) (d : Dat) : Bool := match toC d with
  | some c' => c == c'
  | none => false
theorem mC_at {c : Const} {d : Dat} (h : mC c d = true) : toC d = some c := by
  unfold mC at h
  generalize toC d = o at h ⊢
  cases o with
  | none => cases h
  | some c' => rw [eq_of_beq (show (c == c') = true from h)]
noncomputable def isSlice (e : Expr) : Bool := e.ctorIdx == 26
noncomputable def tgNames : Tg → Expr → Tbl
  | .one i, a => if h : a.ctorIdx = 23 then Expr.Name.elim (motive_1 := fun _ => Tbl) a h fun x _ => [(i, x)] else []
  | .tup is, a => if h : a.ctorIdx = 25 then Expr.Tuple.elim (motive_1 := fun _ => Tbl) a h fun es _ _ => is.zip ((nmsOf es).getD []) else []
noncomputable def mN : List Nat → List Expr → Tbl → List Nat → Bool
  | [], l, _, _ => l.isEmpty
  | i :: is, l, tbl, ws => tC (fun e es => tName (fun x => tin tbl i x && ws.contains i) e && mN is es tbl ws) l
theorem mN_at {tbl : Tbl} {ws : List Nat} {is : List Nat} : ∀ {es : List Expr}, mN is es tbl ws = true → MN tbl ws is es := by
  induction is with
  | nil => exact fun {es} h => nil_e h .nil
  | cons i is ih => exact fun {es} h => tC_e (f := fun e es => tName (fun x => tin tbl i x && ws.contains i) e && mN is es tbl ws) h fun e r h => and_e h fun h1 h2 => tName_e (C := fun e => MN tbl ws (i :: is) (e :: r)) h1 fun x p h1 => and_e h1 fun a a2 => .cons (tin_mem a) (List.contains_iff_mem.mp a2) (ih h2)
noncomputable def mT : Tg → Expr → Tbl → List Nat → Bool
  | .one i, e, tbl, ws => tName (fun x => tin tbl i x && ws.contains i) e
  | .tup is, e, tbl, ws => tTup (fun es => mN is es tbl ws) e
theorem mT_at {tbl : Tbl} {ws : List Nat} {tg : Tg} {e : Expr} (h : mT tg e tbl ws = true) : MT tbl ws tg e := by
  cases tg with
  | one i => exact tName_e h fun x p h => and_e h fun a a2 => .one (tin_mem a) (List.contains_iff_mem.mp a2)
  | tup is => exact tTup_e h fun es kk p h => .tup (mN_at h)
noncomputable def oneOne (tbl : Tbl) : Bool := tbl.all fun p => tbl.all fun q => (p.1 == q.1) == (p.2 == q.2)
theorem oneOne_1 {tbl : Tbl} (h : oneOne tbl = true) : ∀ i j x, (i, x) ∈ tbl → (j, x) ∈ tbl → i = j := fun i j x h1 h2 => by
  have := List.all_eq_true.mp (List.all_eq_true.mp h _ h1) _ h2
  simpa using this
theorem oneOne_2 {tbl : Tbl} (h : oneOne tbl = true) : ∀ i x y, (i, x) ∈ tbl → (i, y) ∈ tbl → x = y := fun i x y h1 h2 => by
  have := List.all_eq_true.mp (List.all_eq_true.mp h _ h1) _ h2
  simpa using this
noncomputable def compOkB (tbl : Tbl) (gs : Gs) (caps : List Nat) (tblC : Tbl) (gsC : Gs) (ws : List Nat) (scope : Scope) : Bool :=
  (scope.kind == .function) && (scope.names.all fun y => !(y.2 == .cell)) && (scope.names.all fun y => !(y.2 == .local) || scope.names.lookup y.1 == some .local) &&
  (tblC.all fun p => (ws.contains p.1 && scope.names.lookup p.2 == some .local) || (!ws.contains p.1 && (frees scope.names).contains p.2 && scope.names.lookup p.2 == some .free && tin tbl p.1 p.2 && gin gs p.2 .cell)) &&
  ((frees scope.names).all fun x => gin gs x .cell && caps.any fun i => tin tbl i x) && (gsC.all fun p => p.2 == .globalImplicit && scope.names.lookup p.1 == some .globalImplicit) && oneOne tblC
theorem compOk_at {tbl : Tbl} {gs : Gs} {caps : List Nat} {tblC : Tbl} {gsC : Gs} {ws : List Nat} {scope : Scope} (h : compOkB tbl gs caps tblC gsC ws scope = true) : CompOk tbl gs caps tblC gsC ws scope := by
  unfold compOkB at h
  simp only [Bool.and_eq_true] at h
  obtain ⟨⟨⟨⟨⟨⟨h1, h2⟩, h3⟩, h4⟩, h5⟩, h6⟩, h7⟩ := h
  refine ⟨eq_of_beq h1, fun y hy q => ?_, fun y hy q => ?_, fun i x hx => ?_, fun x hx => ?_, fun x kd hx => ?_, oneOne_1 h7, oneOne_2 h7⟩
  · have := List.all_eq_true.mp h2 y hy
    rw [q] at this; cases this
  · have := List.all_eq_true.mp h3 y hy
    rw [q] at this
    exact eq_of_beq (by simpa using this)
  · have := List.all_eq_true.mp h4 _ hx
    dsimp only at this
    rcases Bool.or_eq_true_iff.mp this with q | q
    · obtain ⟨a, b⟩ := Bool.and_eq_true_iff.mp q
      exact .inl ⟨by simpa using a, eq_of_beq b⟩
    · simp only [Bool.and_eq_true] at q
      obtain ⟨⟨⟨⟨a, b⟩, d⟩, e⟩, f⟩ := q
      exact .inr ⟨by simpa using a, by simpa using b, eq_of_beq d, tin_mem e, gin_mem f⟩
  · have := List.all_eq_true.mp h5 x hx
    obtain ⟨a, b⟩ := Bool.and_eq_true_iff.mp this
    obtain ⟨i, b1, b2⟩ := List.any_eq_true.mp b
    exact ⟨gin_mem a, i, b1, tin_mem b2⟩
  · have := List.all_eq_true.mp h6 _ hx
    obtain ⟨a, b⟩ := Bool.and_eq_true_iff.mp this
    exact ⟨eq_of_beq a, eq_of_beq b⟩

structure Prg where
  fnm : Nat → Option Str
  mnm : Nat → Option Str
  gval : Str → Option Int

mutual
noncomputable def tst : PE → Bool
  | .loc _ => true
  | .cmp _ _ _ => true
  | .bop _ es => tstL es
  | .pnot e => tst e
  | .ite _ a b => tst a && tst b
  | .call _ _ => true
  | .meth _ _ _ => true
  | _ => false
noncomputable def tstL : PL → Bool
  | .nil => true
  | .cons e es => tst e && tstL es
end
noncomputable def plLen : PL → Nat
  | .nil => 0
  | .cons _ es => plLen es + 1

noncomputable def oM (b : Bool) (f : Expr → Bool) (o : Option Expr) : Bool := @Option.casesOn Expr (fun _ => Bool) o b f
section
variable (P : Prg)
mutual
noncomputable def mE : PE → Tbl → Gs → Expr → Bool
  | .absent, _, _, _ => false
  | .const d, _, _, a => tConst (fun c => mC c d) a
  | .loc i, tbl, _, a => tName (fun x => tin tbl i x && okN x) a
  | .glc y n, _, gs, a => tName (fun x => x == y && gin gs x .globalImplicit && P.gval x == some n && okN x) a
  | .tup es, tbl, gs, a => tTup (fun as => mL es tbl gs as) a
  | .lst es, tbl, gs, a => tLst (fun as => mL es tbl gs as) a
  | .newl, _, _, a => tLst (fun as => as.isEmpty) a
  | .bin op l r, tbl, gs, a => tBin (fun a1 op' a2 => op' == op && mE l tbl gs a1 && mE r tbl gs a2) a
  | .cmp op l r, tbl, gs, a => tCmp (fun a1 ops bs => t1 (fun op' => t1 (fun a2 => op' == op && !behindInMarks op a2 && mE l tbl gs a1 && mE r tbl gs a2) bs) ops) a
  | .bop op es, tbl, gs, a => tBool (fun op' as => op' == op && mL es tbl gs as) a
  | .pnot e, tbl, gs, a => tUn (fun op a1 => op == .Not && mE e tbl gs a1) a
  | .neg i, _, _, a => tUn (fun op a1 => op == .USub && tConst (fun c => c == .int i) a1) a
  | .ite t l r, tbl, gs, a => tIf (fun at_ al ar => tst t && mE t tbl gs at_ && mE l tbl gs al && mE r tbl gs ar) a
  | .sub v i, tbl, gs, a => tSub (fun av ai => !isSlice ai && mE v tbl gs av && mE i tbl gs ai) a
  | .slc v lo hi, tbl, gs, a => tSub (fun av s => tSlc (fun alo ahi st => st.isNone && (mE v tbl gs av && oM (isAbs lo) (fun x => !isAbs lo && mE lo tbl gs x) alo && oM (isAbs hi) (fun x => !isAbs hi && mE hi tbl gs x) ahi)) s) a
  | .bi b e, tbl, gs, a => tCall (fun c as kws _ => kws.isEmpty && tName (fun x => t1 (fun a1 => x == b.nm && gin gs x .globalImplicit && notStar a1 && mE e tbl gs a1) as) c) a
  | .cnt o e, tbl, gs, a => tCall (fun c as kws pos => kws.isEmpty && tAttr (fun ao nm apos => t1 (fun a1 => nm == Str.ofString "count" && nmBase ao && notStar a1 && apos.endLine == pos.line && mE o tbl gs ao && mE e tbl gs a1) as) c) a
  | .idx o e, tbl, gs, a => tCall (fun c as kws pos => kws.isEmpty && tAttr (fun ao nm apos => t1 (fun a1 => nm == Str.ofString "index" && nmBase ao && notStar a1 && apos.endLine == pos.line && mE o tbl gs ao && mE e tbl gs a1) as) c) a
  | .join o e, tbl, gs, a => tCall (fun c as kws pos => kws.isEmpty && tAttr (fun ao nm apos => t1 (fun a1 => nm == Str.ofString "join" && nmBase ao && notStar a1 && apos.endLine == pos.line && mE o tbl gs ao && mE e tbl gs a1) as) c) a
  | .call f es, tbl, gs, a => tCall (fun c as kws _ => kws.isEmpty && tName (fun x => tC (fun a1 as' => P.fnm f == some x && gin gs x .globalImplicit && okN x && mL es tbl gs (a1 :: as')) as) c) a
  | .meth m i es, tbl, gs, a => tCall (fun c as kws pos => kws.isEmpty && tAttr (fun o nm apos => tName (fun x => tC (fun a1 as' => P.mnm m == some nm && tin tbl i x && okN x && decide ((a1 :: as').length < 20) && apos.endLine == pos.line && mL es tbl gs (a1 :: as')) as) o) c) a
  | .attr i num, tbl, _, a => tAttr (fun o nm _ => tName (fun x => tin tbl i x && okN x && nm == (if num then Str.ofString "numeric" else Str.ofString "characters")) o) a
  | .app i e, tbl, gs, a => tCall (fun c as kws pos => kws.isEmpty && tAttr (fun o nm apos => tName (fun x => t1 (fun a1 => nm == Str.ofString "append" && tin tbl i x && okN x && notStar a1 && apos.endLine == pos.line && mE e tbl gs a1) as) o) c) a
  | .comp elt tg it cond caps, tbl, gs, a => tLC (fun aelt gens scope => t1 (fun g => g.is_async == 0 && compOkB tbl gs caps (tgNames tg g.target ++ tbl.filter fun p => (frees scope.names).contains p.2) (scope.names.filter fun p => p.2 == .globalImplicit) (tgs tg) scope &&
      mT tg g.target (tgNames tg g.target ++ tbl.filter fun p => (frees scope.names).contains p.2) (tgs tg) && mE elt (tgNames tg g.target ++ tbl.filter fun p => (frees scope.names).contains p.2) (scope.names.filter fun p => p.2 == .globalImplicit) aelt &&
      mI it tbl gs g.iter && (g.ifs.isEmpty && isAbs cond || t1 (fun t => !isAbs cond && tst cond && mE cond (tgNames tg g.target ++ tbl.filter fun p => (frees scope.names).contains p.2) (scope.names.filter fun p => p.2 == .globalImplicit) t) g.ifs)) gens) a
noncomputable def mL : PL → Tbl → Gs → List Expr → Bool
  | .nil, _, _, as => as.isEmpty
  | .cons e es, tbl, gs, as => tC (fun a as' => notStar a && mE e tbl gs a && mL es tbl gs as') as
noncomputable def mI : PI → Tbl → Gs → Expr → Bool
  | .lst e, tbl, gs, a => notSet a && mE e tbl gs a
  | .tup e, tbl, gs, a => notSet a && mE e tbl gs a
  | .rng1 e, tbl, gs, a => tCall (fun c as kws _ => kws.isEmpty && tName (fun x => t1 (fun a1 => x == Str.ofString "range" && gin gs x .globalImplicit && notStar a1 && mE e tbl gs a1) as) c) a
  | .rng2 e1 e2, tbl, gs, a => tCall (fun c as kws _ => kws.isEmpty && tName (fun x => tC (fun a1 as' => t1 (fun a2 => x == Str.ofString "range" && gin gs x .globalImplicit && notStar a1 && notStar a2 && mE e1 tbl gs a1 && mE e2 tbl gs a2) as') as) c) a
end
end
section
variable {P : Prg} {tbl : Tbl} {gs : Gs} {a : Expr} {e e1 e2 l r t v lo hi o elt cond : PE} {es : PL} {i n f m : Nat} {op : Operator}
theorem beq_e {α : Type} [BEq α] [LawfulBEq α] {x y : α} {G : Prop} (h : (x == y) = true) (k : x = y → G) : G := k (eq_of_beq h)
section
variable {C : Expr → Prop}
theorem xcall1 {g : Str → Expr → Bool} (h : tCall (fun c as kws _ => kws.isEmpty && tName (fun x => t1 (fun a1 => g x a1) as) c) a = true) (k : ∀ x p a1 pos, g x a1 = true → C (.Call (.Name x p) [a1] [] pos)) : C a :=
  tCall_e h fun c as kws pos h => and_e h fun h1 h => tName_e (C := fun c => C (.Call c as kws pos)) h fun x p h => t1_e (C := fun as => C (.Call (.Name x p) as kws pos)) h fun a1 h => nil_e (C := fun kws => C (.Call (.Name x p) [a1] kws pos)) h1 (k x p a1 pos h)
theorem xmeth1 {g : Expr → Str → Pos → Expr → Pos → Bool} (h : tCall (fun c as kws pos => kws.isEmpty && tAttr (fun ao nm apos => t1 (fun a1 => g ao nm apos a1 pos) as) c) a = true) (k : ∀ ao nm apos a1 pos, g ao nm apos a1 pos = true → C (.Call (.Attribute ao nm apos) [a1] [] pos)) : C a :=
  tCall_e h fun c as kws pos h => and_e h fun h1 h => tAttr_e (C := fun c => C (.Call c as kws pos)) h fun ao nm apos h => t1_e (C := fun as => C (.Call (.Attribute ao nm apos) as kws pos)) h fun a1 h => nil_e (C := fun kws => C (.Call (.Attribute ao nm apos) [a1] kws pos)) h1 (k ao nm apos a1 pos h)
@[elab_as_elim] theorem xE_const {d : Dat} (h : mE P (.const d) tbl gs a = true) (k : ∀ c n p, toC d = some c → C (.Constant c n p)) : C a := tConst_e h fun c n p h => k c n p (mC_at h)
@[elab_as_elim] theorem xE_loc (h : mE P (.loc i) tbl gs a = true) (k : ∀ x p, tin tbl i x = true → okN x = true → C (.Name x p)) : C a := tName_e h fun x p h => and_e h (k x p)
@[elab_as_elim] theorem xE_glc {y : Str} {q : Int} (h : mE P (.glc y q) tbl gs a = true) (k : ∀ p, gin gs y .globalImplicit = true → P.gval y = some q → okN y = true → C (.Name y p)) : C a :=
  tName_e h fun x p h => and_e h fun h h4 => and_e h fun h h3 => and_e h fun h1 h2 => by cases eq_of_beq h1; exact k p h2 (eq_of_beq h3) h4
@[elab_as_elim] theorem xE_tup (h : mE P (.tup es) tbl gs a = true) (k : ∀ as n p, mL P es tbl gs as = true → C (.Tuple as n p)) : C a := tTup_e h k
@[elab_as_elim] theorem xE_lst (h : mE P (.lst es) tbl gs a = true) (k : ∀ as p, mL P es tbl gs as = true → C (.List as p)) : C a := tLst_e h k
@[elab_as_elim] theorem xE_newl (h : mE P .newl tbl gs a = true) (k : ∀ p, C (.List [] p)) : C a := tLst_e h fun as p h => nil_e (C := fun as => C (.List as p)) h (k p)
@[elab_as_elim] theorem xE_bin (h : mE P (.bin op l r) tbl gs a = true) (k : ∀ a1 a2 p, mE P l tbl gs a1 = true → mE P r tbl gs a2 = true → C (.BinOp a1 op a2 p)) : C a :=
  tBin_e h fun a1 op' a2 p h => and_e h fun h h3 => and_e h fun h1 h2 => by cases eq_of_beq h1; exact k a1 a2 p h2 h3
@[elab_as_elim] theorem xE_cmp {op : CmpOp} (h : mE P (.cmp op l r) tbl gs a = true) (k : ∀ a1 a2 p, behindInMarks op a2 = false → mE P l tbl gs a1 = true → mE P r tbl gs a2 = true → C (.Compare a1 [op] [a2] p)) : C a :=
  tCmp_e h fun a1 ops bs p h => t1_e (C := fun ops => C (.Compare a1 ops bs p)) h fun op' h => t1_e (C := fun bs => C (.Compare a1 [op'] bs p)) h fun a2 h => and_e h fun h h3 => and_e h fun h h2 => and_e h fun h1 hb => by cases eq_of_beq h1; exact k a1 a2 p (Bool.not_eq_true' _ ▸ hb) h2 h3
@[elab_as_elim] theorem xE_bop {op : BoolOp} (h : mE P (.bop op es) tbl gs a = true) (k : ∀ as p, mL P es tbl gs as = true → C (.BoolOp op as p)) : C a :=
  tBool_e h fun op' as p h => and_e h fun h1 h2 => by cases eq_of_beq h1; exact k as p h2
@[elab_as_elim] theorem xE_pnot (h : mE P (.pnot e) tbl gs a = true) (k : ∀ a1 p, mE P e tbl gs a1 = true → C (.UnaryOp .Not a1 p)) : C a :=
  tUn_e h fun op a1 p h => and_e h fun h1 h2 => by cases eq_of_beq h1; exact k a1 p h2
@[elab_as_elim] theorem xE_neg {i : Int} (h : mE P (.neg i) tbl gs a = true) (k : ∀ n q p, C (.UnaryOp .USub (.Constant (.int i) n q) p)) : C a :=
  tUn_e h fun op a1 p h => and_e h fun h1 h2 => tConst_e (C := fun a1 => C (.UnaryOp op a1 p)) h2 fun c n q h3 => by cases eq_of_beq h1; cases eq_of_beq h3; exact k n q p
@[elab_as_elim] theorem xE_ite (h : mE P (.ite t l r) tbl gs a = true) (k : ∀ at_ al ar p, tst t = true → mE P t tbl gs at_ = true → mE P l tbl gs al = true → mE P r tbl gs ar = true → C (.IfExp at_ al ar p)) : C a :=
  tIf_e h fun at_ al ar p h => and_e h fun h h3 => and_e h fun h h2 => and_e h fun h0 h1 => k at_ al ar p h0 h1 h2 h3
@[elab_as_elim] theorem xE_sub (h : mE P (.sub e1 e2) tbl gs a = true) (k : ∀ av ai p, isSlice ai = false → mE P e1 tbl gs av = true → mE P e2 tbl gs ai = true → C (.Subscript av ai p)) : C a :=
  tSub_e h fun av ai p h => and_e h fun h h3 => and_e h fun h1 h2 => k av ai p (Bool.not_eq_true' _ ▸ h1) h2 h3
@[elab_as_elim] theorem xE_slc (h : mE P (.slc v lo hi) tbl gs a = true) (k : ∀ av alo ahi p1 p2, mE P v tbl gs av = true → oM (isAbs lo) (fun x => !isAbs lo && mE P lo tbl gs x) alo = true → oM (isAbs hi) (fun x => !isAbs hi && mE P hi tbl gs x) ahi = true → C (.Subscript av (.Slice alo ahi none p1) p2)) : C a :=
  tSub_e h fun av s p2 h => tSlc_e (C := fun s => C (.Subscript av s p2)) h fun alo ahi st p1 h => and_e h fun h1 h => non_e (C := fun st => C (.Subscript av (.Slice alo ahi st p1) p2)) h1 (and_e h fun h h3 => and_e h fun h1 h2 => k av alo ahi p1 p2 h1 h2 h3)
@[elab_as_elim] theorem xE_bi {b : Bi} (h : mE P (.bi b e) tbl gs a = true) (k : ∀ p a1 pos, gin gs b.nm .globalImplicit = true → notStar a1 = true → mE P e tbl gs a1 = true → C (.Call (.Name b.nm p) [a1] [] pos)) : C a :=
  xcall1 (g := fun x a1 => x == b.nm && gin gs x .globalImplicit && notStar a1 && mE P e tbl gs a1) h fun x p a1 pos h => and_e h fun h h4 => and_e h fun h h3 => and_e h fun h1 h2 => by cases eq_of_beq h1; exact k p a1 pos h2 h3 h4
theorem xE_m {m : Str} (h : tCall (fun c as kws pos => kws.isEmpty && tAttr (fun ao nm apos => t1 (fun a1 => nm == m && nmBase ao && notStar a1 && apos.endLine == pos.line && mE P o tbl gs ao && mE P e tbl gs a1) as) c) a = true) (k : ∀ ao apos a1 pos, nmBase ao = true → notStar a1 = true → (apos.endLine == pos.line) = true → mE P o tbl gs ao = true → mE P e tbl gs a1 = true → C (.Call (.Attribute ao m apos) [a1] [] pos)) : C a :=
  xmeth1 (g := fun ao nm apos a1 pos => nm == m && nmBase ao && notStar a1 && apos.endLine == pos.line && mE P o tbl gs ao && mE P e tbl gs a1) h fun ao nm apos a1 pos h => and_e h fun h h6 => and_e h fun h h5 => and_e h fun h h4 => and_e h fun h h3 => and_e h fun h1 h2 => by cases eq_of_beq h1; exact k ao apos a1 pos h2 h3 h4 h5 h6
@[elab_as_elim] theorem xE_cnt (h : mE P (.cnt o e) tbl gs a = true) (k : ∀ ao apos a1 pos, nmBase ao = true → notStar a1 = true → (apos.endLine == pos.line) = true → mE P o tbl gs ao = true → mE P e tbl gs a1 = true → C (.Call (.Attribute ao (Str.ofString "count") apos) [a1] [] pos)) : C a := xE_m h k
@[elab_as_elim] theorem xE_idx (h : mE P (.idx o e) tbl gs a = true) (k : ∀ ao apos a1 pos, nmBase ao = true → notStar a1 = true → (apos.endLine == pos.line) = true → mE P o tbl gs ao = true → mE P e tbl gs a1 = true → C (.Call (.Attribute ao (Str.ofString "index") apos) [a1] [] pos)) : C a := xE_m h k
@[elab_as_elim] theorem xE_join (h : mE P (.join o e) tbl gs a = true) (k : ∀ ao apos a1 pos, nmBase ao = true → notStar a1 = true → (apos.endLine == pos.line) = true → mE P o tbl gs ao = true → mE P e tbl gs a1 = true → C (.Call (.Attribute ao (Str.ofString "join") apos) [a1] [] pos)) : C a := xE_m h k
@[elab_as_elim] theorem xE_call (h : mE P (.call f es) tbl gs a = true) (k : ∀ x p a1 as pos, P.fnm f = some x → gin gs x .globalImplicit = true → okN x = true → mL P es tbl gs (a1 :: as) = true → C (.Call (.Name x p) (a1 :: as) [] pos)) : C a :=
  tCall_e h fun c as kws pos h => and_e h fun h1 h => tName_e (C := fun c => C (.Call c as kws pos)) h fun x p h => tC_e (C := fun as => C (.Call (.Name x p) as kws pos)) h fun a1 as h => nil_e (C := fun kws => C (.Call (.Name x p) (a1 :: as) kws pos)) h1 (and_e h fun h h4 => and_e h fun h h3 => and_e h fun h1 h2 => k x p a1 as pos (eq_of_beq h1) h2 h3 h4)
@[elab_as_elim] theorem xE_meth (h : mE P (.meth m i es) tbl gs a = true) (k : ∀ x p nm apos a1 as pos, P.mnm m = some nm → tin tbl i x = true → okN x = true → (a1 :: as).length < 20 → (apos.endLine == pos.line) = true → mL P es tbl gs (a1 :: as) = true → C (.Call (.Attribute (.Name x p) nm apos) (a1 :: as) [] pos)) : C a :=
  tCall_e h fun c as kws pos h => and_e h fun h1 h => tAttr_e (C := fun c => C (.Call c as kws pos)) h fun o nm apos h => tName_e (C := fun o => C (.Call (.Attribute o nm apos) as kws pos)) h fun x p h => tC_e (C := fun as => C (.Call (.Attribute (.Name x p) nm apos) as kws pos)) h fun a1 as h => nil_e (C := fun kws => C (.Call (.Attribute (.Name x p) nm apos) (a1 :: as) kws pos)) h1
    (and_e h fun h h6 => and_e h fun h h5 => and_e h fun h h4 => and_e h fun h h3 => and_e h fun h1 h2 => k x p nm apos a1 as pos (eq_of_beq h1) h2 h3 (of_decide_eq_true h4) h5 h6)
@[elab_as_elim] theorem xE_attr {num : Bool} (h : mE P (.attr i num) tbl gs a = true) (k : ∀ x p pos, tin tbl i x = true → okN x = true → C (.Attribute (.Name x p) (if num then Str.ofString "numeric" else Str.ofString "characters") pos)) : C a :=
  tAttr_e h fun o nm pos h => tName_e (C := fun o => C (.Attribute o nm pos)) h fun x p h => and_e h fun h h3 => and_e h fun h1 h2 => by cases eq_of_beq h3; exact k x p pos h1 h2
@[elab_as_elim] theorem xE_app (h : mE P (.app i e) tbl gs a = true) (k : ∀ x p apos a1 pos, tin tbl i x = true → okN x = true → notStar a1 = true → (apos.endLine == pos.line) = true → mE P e tbl gs a1 = true → C (.Call (.Attribute (.Name x p) (Str.ofString "append") apos) [a1] [] pos)) : C a :=
  tCall_e h fun c as kws pos h => and_e h fun h1 h => tAttr_e (C := fun c => C (.Call c as kws pos)) h fun o nm apos h => tName_e (C := fun o => C (.Call (.Attribute o nm apos) as kws pos)) h fun x p h => t1_e (C := fun as => C (.Call (.Attribute (.Name x p) nm apos) as kws pos)) h fun a1 h => nil_e (C := fun kws => C (.Call (.Attribute (.Name x p) nm apos) [a1] kws pos)) h1
    (and_e h fun h h6 => and_e h fun h h5 => and_e h fun h h4 => and_e h fun h h3 => and_e h fun h1 h2 => by cases eq_of_beq h1; exact k x p apos a1 pos h2 h3 h4 h5 h6)
noncomputable abbrev tbC (tg : Tg) (target : Expr) (tbl : Tbl) (scope : Scope) : Tbl := tgNames tg target ++ tbl.filter fun p => (frees scope.names).contains p.2
noncomputable abbrev gsC (scope : Scope) : Gs := scope.names.filter fun p => p.2 == .globalImplicit
@[elab_as_elim] theorem xE_comp {tg : Tg} {it : PI} {caps : List Nat} (h : mE P (.comp elt tg it cond caps) tbl gs a = true) (k : ∀ aelt target iter ifs scope p, compOkB tbl gs caps (tbC tg target tbl scope) (gsC scope) (tgs tg) scope = true → mT tg target (tbC tg target tbl scope) (tgs tg) = true → mE P elt (tbC tg target tbl scope) (gsC scope) aelt = true →
      mI P it tbl gs iter = true → (ifs.isEmpty && isAbs cond || t1 (fun t => !isAbs cond && tst cond && mE P cond (tbC tg target tbl scope) (gsC scope) t) ifs) = true → C (.ListComp aelt [⟨target, iter, ifs, 0⟩] scope p)) : C a :=
  tLC_e h fun aelt gens scope p h => t1_e (C := fun gens => C (.ListComp aelt gens scope p)) h fun g h => by
    obtain ⟨target, iter, ifs, z⟩ := g
    exact and_e h fun h h5 => and_e h fun h h4 => and_e h fun h h3 => and_e h fun h h2 => and_e h fun he h1 => by cases (eq_of_beq he : z = 0); exact k aelt target iter ifs scope p h1 h2 h3 h4 h5
end
@[elab_as_elim] theorem xL_cons {as : List Expr} {C : List Expr → Prop} (h : mL P (.cons e es) tbl gs as = true) (k : ∀ a as, notStar a = true → mE P e tbl gs a = true → mL P es tbl gs as = true → C (a :: as)) : C as :=
  tC_e (f := fun a as' => notStar a && mE P e tbl gs a && mL P es tbl gs as') h fun a as h => and_e h fun h h3 => and_e h fun h1 h2 => k a as h1 h2 h3
@[elab_as_elim] theorem xI_rng1 {C : Expr → Prop} (h : mI P (.rng1 e) tbl gs a = true) (k : ∀ p a1 pos, gin gs (Str.ofString "range") .globalImplicit = true → notStar a1 = true → mE P e tbl gs a1 = true → C (.Call (.Name (Str.ofString "range") p) [a1] [] pos)) : C a :=
  xcall1 (g := fun x a1 => x == Str.ofString "range" && gin gs x .globalImplicit && notStar a1 && mE P e tbl gs a1) h fun x p a1 pos h => and_e h fun h h4 => and_e h fun h h3 => and_e h fun h1 h2 => by cases eq_of_beq h1; exact k p a1 pos h2 h3 h4
@[elab_as_elim] theorem xI_rng2 {C : Expr → Prop} (h : mI P (.rng2 e1 e2) tbl gs a = true) (k : ∀ p a1 a2 pos, gin gs (Str.ofString "range") .globalImplicit = true → notStar a1 = true → notStar a2 = true → mE P e1 tbl gs a1 = true → mE P e2 tbl gs a2 = true → C (.Call (.Name (Str.ofString "range") p) [a1, a2] [] pos)) : C a :=
  tCall_e h fun c as kws pos h => and_e h fun h1 h => tName_e (C := fun c => C (.Call c as kws pos)) h fun x p h => tC_e (C := fun as => C (.Call (.Name x p) as kws pos)) h fun a1 as h => t1_e (C := fun as => C (.Call (.Name x p) (a1 :: as) kws pos)) h fun a2 h => nil_e (C := fun kws => C (.Call (.Name x p) [a1, a2] kws pos)) h1
    (and_e h fun h h6 => and_e h fun h h5 => and_e h fun h h4 => and_e h fun h h3 => and_e h fun h1 h2 => by cases eq_of_beq h1; exact k p a1 a2 pos h2 h3 h4 h5 h6)
end
end Mine
end
section
open PySem PySem.W PyProof.Rows PySem.Calls
set_option Elab.async false
set_option maxRecDepth 100000
set_option linter.unusedVariables false
namespace Mine

noncomputable def FnV (c : Cx) (fv : Value) : Prop := ∀ h : Heap, (∀ b o, c.hb.get? b = some o → h.get? b = some o) → ∃ kk, (kk = Keeper.frame ∨ kk = Keeper.machine ∨ kk = Keeper.boundFrame) ∧ Looks (model c.prog c.w) h (keeperOf fv) kk
noncomputable def AttrOk (c : Cx) (nm : Str) : Prop := plainGet c.K c.mC nm = true ∧ hasDictIn c.K c.mC = true ∧ ∃ at_, findIn c.K (.ref c.mC) nm = some at_ ∧ noGet c.K at_ = true
structure Snd (c : Cx) (k : Nat) (P : Prg) (F G : Nat → List Vl → Mu → RR Vl) : Prop where
  ok : CxOk c
  fn : ∀ f x, P.fnm f = some x → ∃ fv k', GN c x fv ∧ FnV c fv ∧ k' ≤ k ∧ Contract c k' fv (F f)
  mt : ∀ m nm, P.mnm m = some nm → ∃ fa k', plainGet c.K c.mC nm = true ∧ findIn c.K (.ref c.mC) nm = some (some (.ref fa)) ∧ isFn c.K (.ref fa) = true ∧ ((Str.ofString "numeric" == nm) = false ∧ (Str.ofString "characters" == nm) = false) ∧ IsFnAt c fa ∧ k' ≤ k ∧ Contract c k' (.ref fa) (G m)
  gv : ∀ x n, P.gval x = some n → ∃ t, GN c x (.int n t)
  bi : ∀ b : Bi, GN c b.nm b.val
  rg : GN c (Str.ofString "range") (.type "range")
  anum : AttrOk c (Str.ofString "numeric")
  achr : AttrOk c (Str.ofString "characters")

section
variable {c : Cx} {k : Nat} {tbl : Tbl} {gs : Gs} {σ : Slots} {μ μ' μ'' : Mu} {r : Except Unit Vl}

theorem he_callv {x : Str} {fv : Value} {f : List Vl → Mu → RR Vl} {e : Expr} {es : List Expr} {p pos : Pos} {rs : Except Unit (List Vl)} {k' : Nat} (ok : CxOk c) (hg : GI gs x) (hn : GN c x fv) (hd : (x == ("__debug__" : Str)) = false) (hf : FnV c fv) (hk : k' ≤ k)
    (hc : Contract c k' fv f) (hs : ∀ y ∈ e :: es, ∀ z q, y ≠ .Starred z q) (h : HL c k tbl gs (e :: es) σ μ rs μ')
    (hr : ∀ Vs, rs = .ok Vs → f Vs μ' = some (r, μ'')) (hr2 : rs = .error () → r = .error () ∧ μ'' = μ') :
    HE c k tbl gs (.Call (.Name x p) (e :: es) [] pos) σ μ r μ'' := by
  intro A env Φ s Q E ev S hq he
  refine Call_ (global_name ok ev S hg hn hd (callWith_vals (P := fun h => ∀ b o, c.hb.get? b = some o → h.get? b = some o) hs (fun h kk => hf h kk) ?_))
  refine h A env Φ s pos _ _ ev S (fun Vs vs s' Φ' q a va => ⟨a.ss.keep, ?_⟩) (fun ee s' Φ' q a x => ?_)
  · refine hc A Φ' s' Q E vs Vs μ' r μ'' ((ev.toCV.mono a.le).le hk) a.ss va (hr Vs q) (fun V v s2 Φ2 q2 a2 vi => hq _ _ _ _ q2 (a.trans a2) vi) fun ee s2 Φ2 q2 a2 x => he _ _ _ q2 (a.trans a2) x
  · obtain ⟨h1, h2⟩ := hr2 q
    subst h2
    exact he _ _ _ h1 a x

theorem mL_nil' {P : Prg} {as : List Expr} (h : mL P .nil tbl gs as = true) : as = [] := List.isEmpty_iff.mp h
theorem not_star_all {es : PL} {P : Prg} : ∀ {as : List Expr}, mL P es tbl gs as = true → ∀ y ∈ as, ∀ z q, y ≠ .Starred z q :=
  PL.rec (motive_1 := fun _ => True) (motive_2 := fun es => ∀ {as : List Expr}, mL P es tbl gs as = true → ∀ y ∈ as, ∀ z q, y ≠ .Starred z q) (motive_3 := fun _ => True)
    trivial (fun _ => trivial) (fun _ => trivial) (fun _ _ => trivial) (fun _ _ => trivial) (fun _ _ => trivial) trivial (fun _ _ _ _ _ => trivial) (fun _ _ _ _ _ => trivial) (fun _ _ _ => trivial) (fun _ _ => trivial) (fun _ => trivial) (fun _ _ _ _ _ _ => trivial) (fun _ _ _ _ => trivial) (fun _ _ _ _ _ _ => trivial) (fun _ _ _ => trivial) (fun _ _ _ _ => trivial) (fun _ _ _ _ => trivial) (fun _ _ _ _ => trivial) (fun _ _ _ => trivial) (fun _ _ _ _ => trivial) (fun _ _ => trivial) (fun _ _ _ => trivial) (fun _ _ _ _ _ _ _ _ => trivial)
    (fun {as} h y hy => by rw [mL_nil' h] at hy; cases hy)
    (fun e es _ ih {as} h => xL_cons h fun a as h1 _ h3 y hy => (List.mem_cons.mp hy).elim (fun q => q ▸ notStar_at h1) (ih h3 y))
    (fun _ _ => trivial) (fun _ _ => trivial) (fun _ _ => trivial) (fun _ _ _ _ => trivial) es
variable {P : Prg} {F G : Nat → List Vl → Mu → RR Vl}

theorem snd_loc {tbl : Tbl} {gs : Gs} {x : Str} {i : Nat} {V : Vl} {p : Pos} (h1 : tin tbl i x = true) (h2 : okN x = true) (hv : σ[i]? = some (some V)) : HE c k tbl gs (.Name x p) σ μ (.ok V) μ :=
  he_loc (tin_mem h1) hv (okN_at h2).1 (okN_at h2).2

noncomputable def Out (c : Cx) (k : Nat) (tbl : Tbl) (gs : Gs) (t : Bool) (a : Expr) (σ : Slots) (μ : Mu) (r : Except Unit Vl) (μ' : Mu) : Prop := HE c k tbl gs a σ μ r μ' ∧ (t = true → ∀ rb, trR r = some rb → HT c k tbl gs a σ μ rb μ')
section
variable {a : Expr} {t b : Bool}
theorem Out.he (h : HE c k tbl gs a σ μ r μ') : Out c k tbl gs false a σ μ r μ' := ⟨h, fun q => nomatch q⟩
theorem Out.err (h : HE c k tbl gs a σ μ (.error ()) μ') (ht : t = true → HT c k tbl gs a σ μ (.error ()) μ') : Out c k tbl gs t a σ μ (.error ()) μ' := ⟨h, fun q rb hr => Option.some.inj hr ▸ ht q⟩
theorem Out.bool (h : HE c k tbl gs a σ μ (.ok (.dat (.bool b))) μ') (ht : t = true → HT c k tbl gs a σ μ (.ok b) μ') : Out c k tbl gs t a σ μ (.ok (.dat (.bool b))) μ' := ⟨h, fun q rb hr => Option.some.inj hr ▸ ht q⟩
theorem Out.terr (h : Out c k tbl gs t a σ μ (.error ()) μ') (q : t = true) : HT c k tbl gs a σ μ (.error ()) μ' := h.2 q _ rfl
theorem Out.tok (h : Out c k tbl gs t a σ μ (.ok (.dat (.bool b))) μ') (q : t = true) : HT c k tbl gs a σ μ (.ok b) μ' := h.2 q _ rfl
end
noncomputable def SE (c : Cx) (k : Nat) (P : Prg) (F G : Nat → List Vl → Mu → RR Vl) (e : PE) : Prop := ∀ {tbl : Tbl} {gs : Gs} {a : Expr}, mE P e tbl gs a = true → ∀ {σ : Slots} {μ : Mu} {r : Except Unit Vl} {μ' : Mu}, evE F G e σ μ = some (r, μ') → Out c k tbl gs (tst e) a σ μ r μ'
noncomputable def SL (c : Cx) (k : Nat) (P : Prg) (F G : Nat → List Vl → Mu → RR Vl) (es : PL) : Prop := ∀ {tbl : Tbl} {gs : Gs} {as : List Expr}, mL P es tbl gs as = true → ∀ {σ : Slots} {μ : Mu} {rs : Except Unit (List Vl)} {μ' : Mu}, evL F G es σ μ = some (rs, μ') → HL c k tbl gs as σ μ rs μ'
noncomputable def SB (c : Cx) (k : Nat) (P : Prg) (F G : Nat → List Vl → Mu → RR Vl) (es : PL) : Prop := ∀ {tbl : Tbl} {gs : Gs} {as : List Expr} {op : BoolOp} {pos : Pos}, mL P es tbl gs as = true → ∀ {σ : Slots} {μ : Mu} {r : Except Unit Vl} {μ' : Mu}, evB F G op es σ μ = some (r, μ') → Out c k tbl gs (tstL es) (.BoolOp op as pos) σ μ r μ'
noncomputable def SI (c : Cx) (k : Nat) (P : Prg) (F G : Nat → List Vl → Mu → RR Vl) (it : PI) : Prop := ∀ {tbl : Tbl} {gs : Gs} {a : Expr}, mI P it tbl gs a = true → ∀ {σ : Slots} {μ : Mu} {ds : List Dat} {μ' : Mu}, evI F G it σ μ = some (ds, μ') → HI c k tbl gs a σ μ ds μ' ∧ ∀ env x, foldedSetIterable a env x = pure x
theorem hts_of {cond : PE} {tblC : Tbl} {gsC : Gs} {ifs : List Expr} (h : (ifs.isEmpty && isAbs cond || t1 (fun t => !isAbs cond && tst cond && mE P cond tblC gsC t) ifs) = true) (H : SE c k P F G cond) :
    HTs c k tblC gsC ifs (if isAbs cond then none else some fun σ μ => tsR (evE F G cond σ μ)) := by
  rcases Bool.or_eq_true_iff.mp h with h5 | h5
  · exact and_e h5 fun h1 h2 => by rw [if_pos h2]; exact nil_e (C := fun ifs => HTs c k tblC gsC ifs none) h1 trivial
  · refine t1_e (C := fun ifs => HTs c k tblC gsC ifs _) h5 fun t h5 => and_e h5 fun h h2 => and_e h fun h3 h4 => ?_
    rw [if_neg (by rw [Bool.not_eq_true'] at h3; rw [h3]; exact Bool.false_ne_true)]
    intro σ μ r μ' q
    have q : bindR (tsR (evE F G cond σ μ)) (fun b μ => some (.ok b, μ)) = some (r, μ') := by rw [show tsR (evE F G cond σ μ) = _ from q]; cases r <;> rfl
    exact bindT_e q (fun μ1 e => (H h2 e).terr h4) fun b μ1 e h => ret_e h ((H h2 e).tok h4)
theorem ev_absent {σ : Slots} {μ : Mu} : evE F G .absent σ μ = (none) := rfl
theorem ev_const {d : Dat} {σ : Slots} {μ : Mu} : evE F G (.const d) σ μ = (some (.ok (.dat d), μ)) := rfl
theorem ev_loc {i : Nat} {σ : Slots} {μ : Mu} : evE F G (.loc i) σ μ = ((getS σ i).bind fun V => some (.ok V, μ)) := rfl
theorem ev_glc {v1 : Str} {n : Int} {σ : Slots} {μ : Mu} : evE F G (.glc v1 n) σ μ = (some (.ok (.dat (.int n)), μ)) := rfl
theorem ev_tup {es : PL} {σ : Slots} {μ : Mu} : evE F G (.tup es) σ μ = (bindR (evL F G es σ μ) fun Vs μ => (dats Vs).bind fun ds => if room ds.length then some (.ok (.dat (.tuple ds)), μ) else none) := rfl
theorem ev_lst {es : PL} {σ : Slots} {μ : Mu} : evE F G (.lst es) σ μ = (bindR (evL F G es σ μ) fun Vs μ => (dats Vs).bind fun ds => if room ds.length then some (.ok (.dat (.list ds)), μ) else none) := rfl
theorem ev_newl {σ : Slots} {μ : Mu} : evE F G .newl σ μ = (some (.ok (.mref μ.length), μ ++ [.plst []])) := rfl
theorem ev_bin {op : Operator} {a : PE} {b : PE} {σ : Slots} {μ : Mu} : evE F G (.bin op a b) σ μ = (bindR (evE F G a σ μ) fun V1 μ => bindR (evE F G b σ μ) fun V2 μ => (deref μ V1).bind fun x => (deref μ V2).bind fun y => (binD op x y).bind fun z => some (.ok (.dat z), μ)) := rfl
theorem ev_cmp {op : CmpOp} {a : PE} {b : PE} {σ : Slots} {μ : Mu} : evE F G (.cmp op a b) σ μ = (bindR (evE F G a σ μ) fun V1 μ => bindR (evE F G b σ μ) fun V2 μ => (cmpV μ op V1 V2).bind fun z => some (.ok (.dat (.bool z)), μ)) := rfl
theorem ev_bop {op : BoolOp} {es : PL} {σ : Slots} {μ : Mu} : evE F G (.bop op es) σ μ = (evB F G op es σ μ) := rfl
theorem ev_pnot {e : PE} {σ : Slots} {μ : Mu} : evE F G (.pnot e) σ μ = (bindR (tsR (evE F G e σ μ)) fun b μ => some (.ok (.dat (.bool !b)), μ)) := rfl
theorem ev_neg {i : Int} {σ : Slots} {μ : Mu} : evE F G (.neg i) σ μ = (some (.ok (.dat (.int (-i))), μ)) := rfl
theorem ev_ite {t : PE} {a : PE} {b : PE} {σ : Slots} {μ : Mu} : evE F G (.ite t a b) σ μ = (bindR (tsR (evE F G t σ μ)) fun z μ => cond z (evE F G a σ μ) (evE F G b σ μ)) := rfl
theorem ev_sub {a : PE} {i : PE} {σ : Slots} {μ : Mu} : evE F G (.sub a i) σ μ = (bindR (evE F G a σ μ) fun V μ => bindR (evE F G i σ μ) fun I μ => (deref μ V).bind fun x => (asI I).bind fun i => (idxD x i).bind fun z => some (.ok (.dat z), μ)) := rfl
theorem ev_slc {a : PE} {lo : PE} {hi : PE} {σ : Slots} {μ : Mu} : evE F G (.slc a lo hi) σ μ = (bindO (evE F G a σ μ) fun V μ => (optE (isAbs lo) (evE F G lo σ μ) μ).bind fun p => (optE (isAbs hi) (evE F G hi σ p.2) p.2).bind fun q => (deref q.2 V).bind fun x => (slcD x p.1 q.1).bind fun z => some (.ok (.dat z), q.2)) := rfl
theorem ev_bi {b : Bi} {e : PE} {σ : Slots} {μ : Mu} : evE F G (.bi b e) σ μ = (bindR (evE F G e σ μ) fun V μ => (deref μ V).bind fun x => (biD b x).bind fun z => some (.ok (.dat z), μ)) := rfl
theorem ev_cnt {o : PE} {e : PE} {σ : Slots} {μ : Mu} : evE F G (.cnt o e) σ μ = (bindO (evE F G o σ μ) fun V μ => bindO (evE F G e σ μ) fun W μ => (asLs V).bind fun ds => (deref μ W).bind fun y => (cntD (.list ds) y).bind fun z => some (.ok (.dat z), μ)) := rfl
theorem ev_idx {o : PE} {e : PE} {σ : Slots} {μ : Mu} : evE F G (.idx o e) σ μ = (bindO (evE F G o σ μ) fun V μ => bindO (evE F G e σ μ) fun W μ => (asLs V).bind fun ds => (deref μ W).bind fun y => (idxOfD (.list ds) y).bind fun z => some (.ok (.dat z), μ)) := rfl
theorem ev_join {o : PE} {e : PE} {σ : Slots} {μ : Mu} : evE F G (.join o e) σ μ = (bindO (evE F G o σ μ) fun V μ => bindO (evE F G e σ μ) fun W μ => (asSt V).bind fun x => (deref μ W).bind fun y => (joinD (.str x) y).bind fun z => some (.ok (.dat z), μ)) := rfl
theorem ev_call {f : Nat} {es : PL} {σ : Slots} {μ : Mu} : evE F G (.call f es) σ μ = (bindR (evL F G es σ μ) fun Vs μ => F f Vs μ) := rfl
theorem ev_meth {m : Nat} {i : Nat} {es : PL} {σ : Slots} {μ : Mu} : evE F G (.meth m i es) σ μ = ((getS σ i).bind fun W => (asMem W).bind fun p => bindR (evL F G es σ μ) fun Vs μ => G m (.mem p.1 p.2 :: Vs) μ) := rfl
theorem ev_attr {i : Nat} {num : Bool} {σ : Slots} {μ : Mu} : evE F G (.attr i num) σ μ = ((getS σ i).bind fun W => (asMem W).bind fun p => some (.ok (.mref (if num then p.1 else p.2)), μ)) := rfl
theorem ev_app {i : Nat} {e : PE} {σ : Slots} {μ : Mu} : evE F G (.app i e) σ μ = ((getS σ i).bind fun W => (asRef W).bind fun j => (getM asPl μ j).bind fun _ => bindO (evE F G e σ μ) fun V μ => (onDat V some).bind fun d => (getM asPl μ j).bind fun ds => if room ds.length then some (.ok (.dat .none), μ.set j (.plst (ds ++ [d]))) else none) := rfl
theorem ev_comp {elt : PE} {tg : Tg} {it : PI} {cond : PE} {caps : List Nat} {σ : Slots} {μ : Mu} : evE F G (.comp elt tg it cond caps) σ μ = ((evI F G it σ μ).bind fun p => if caps.all (has σ) && room p.1.length then (evComp (fun σ μ => evE F G elt σ μ) (if isAbs cond then none else some fun σ μ => tsR (evE F G cond σ μ)) tg (clr (tgs tg) σ) p.1 p.2).bind fun q => some (.ok (.dat (.list q.1)), q.2) else none) := rfl
theorem evl_nil {σ : Slots} {μ : Mu} : evL F G .nil σ μ = (some (.ok [], μ)) := rfl
theorem evl_cons {e : PE} {es : PL} {σ : Slots} {μ : Mu} : evL F G (.cons e es) σ μ = (bindR (evE F G e σ μ) fun V μ => bindR (evL F G es σ μ) fun Vs μ => some (.ok (V :: Vs), μ)) := rfl
theorem evb_nil {op : BoolOp} {σ : Slots} {μ : Mu} : evB F G op .nil σ μ = (none) := rfl
theorem evb_one {e : PE} {op : BoolOp} {σ : Slots} {μ : Mu} : evB F G op (.cons e .nil) σ μ = (evE F G e σ μ) := rfl
theorem evb_cons {e e2 : PE} {es : PL} {op : BoolOp} {σ : Slots} {μ : Mu} : evB F G op (.cons e (.cons e2 es)) σ μ = (bindR (evE F G e σ μ) fun V μ => (trV V).bind fun b => if b = stopOf op then some (.ok V, μ) else evB F G op (.cons e2 es) σ μ) := rfl
theorem evi_lst {e : PE} {σ : Slots} {μ : Mu} : evI F G (.lst e) σ μ = (bindO (evE F G e σ μ) fun V μ => (asLs V).bind fun ds => some (ds, μ)) := rfl
theorem evi_tup {e : PE} {σ : Slots} {μ : Mu} : evI F G (.tup e) σ μ = (bindO (evE F G e σ μ) fun V μ => (asTs V).bind fun ds => some (ds, μ)) := rfl
theorem evi_rng1 {e : PE} {σ : Slots} {μ : Mu} : evI F G (.rng1 e) σ μ = (bindO (evE F G e σ μ) fun V μ => (asI V).bind fun b => if ord b then some (rangeD 0 b.toNat, μ) else none) := rfl
theorem evi_rng2 {e1 : PE} {e2 : PE} {σ : Slots} {μ : Mu} : evI F G (.rng2 e1 e2) σ μ = (bindO (evE F G e1 σ μ) fun V μ => bindO (evE F G e2 σ μ) fun W μ => (asI V).bind fun a => (asI W).bind fun b => if ord a && ord b then some (rangeD a (b - a).toNat, μ) else none) := rfl
theorem sE_absent (Sn : Snd c k P F G) : SE c k P F G .absent := by
  intro tbl gs a hm σ μ r μ' h
  cases h
theorem sE_const (Sn : Snd c k P F G) {d : Dat} : SE c k P F G (.const d) := by
  intro tbl gs a hm σ μ r μ' h
  exact xE_const hm fun c0 n0 p0 hq => ret_e (ev_const.symm.trans h) (Out.he (he_const hq))
theorem sE_loc (Sn : Snd c k P F G) {i : Nat} : SE c k P F G (.loc i) := by
  intro tbl gs a hm σ μ r μ' h
  exact xE_loc hm fun x p0 h1 h2 => bind_e (ev_loc.symm.trans h) fun V hv h => ret_e h ⟨snd_loc h1 h2 (getS_at hv), fun _ rb hr => ht_plain (fun _ _ => rfl) (snd_loc h1 h2 (getS_at hv)) hr⟩
theorem sE_glc (Sn : Snd c k P F G) {y : Str} {n : Int} : SE c k P F G (.glc y n) := by
  intro tbl gs a hm σ μ r μ' h
  exact xE_glc hm fun p0 h2 h3 h4 => ret_e (ev_glc.symm.trans h) (Out.he (he_glc Sn.ok (gin_mem h2) (Sn.gv _ _ h3) (okN_at h4).1))
theorem sE_tup (Sn : Snd c k P F G) {es : PL} (ihes : SL c k P F G es) : SE c k P F G (.tup es) := by
  intro tbl gs a hm σ μ r μ' h
  exact xE_tup hm fun as k0 p0 hm => bindR_e (ev_tup.symm.trans h) (fun μ1 h1 => Out.he (he_tuple (ihes hm h1) (fun Vs q => nomatch q) (fun _ => rfl))) fun Vs μ1 h1 h => bind_e h fun ds hds h => if_e h fun hrm h => ret_e h (Out.he (he_tuple (ihes hm h1) (fun Vs q => by cases q; exact ⟨ds, hds, hrm, rfl⟩) (fun q => nomatch q)))
theorem sE_lst (Sn : Snd c k P F G) {es : PL} (ihes : SL c k P F G es) : SE c k P F G (.lst es) := by
  intro tbl gs a hm σ μ r μ' h
  exact xE_lst hm fun as p0 hm => bindR_e (ev_lst.symm.trans h) (fun μ1 h1 => Out.he (he_list (ihes hm h1) (fun Vs q => nomatch q) (fun _ => rfl))) fun Vs μ1 h1 h => bind_e h fun ds hds h => if_e h fun hrm h => ret_e h (Out.he (he_list (ihes hm h1) (fun Vs q => by cases q; exact ⟨ds, hds, hrm, rfl⟩) (fun q => nomatch q)))
theorem sE_newl (Sn : Snd c k P F G) : SE c k P F G .newl := by
  intro tbl gs a hm σ μ r μ' h
  exact xE_newl hm fun p0 => ret_e (ev_newl.symm.trans h) (Out.he he_newlist)
theorem sE_bin (Sn : Snd c k P F G) {op : Operator} {l : PE} {rr : PE} (ihl : SE c k P F G l) (ihrr : SE c k P F G rr) : SE c k P F G (.bin op l rr) := by
  intro tbl gs a hm σ μ r μ' h
  exact xE_bin hm fun a1 a2 p0 h2 h3 => bindR_e (ev_bin.symm.trans h) (fun μ1 e1 => Out.he (he_bin_err1 (ihl h2 e1).1)) fun V1 μ1 e1 h => bindR_e h (fun μ2 e2 => Out.he (he_bin_err2 (ihl h2 e1).1 (ihrr h3 e2).1)) fun V2 μ2 e2 h =>
    bind_e h fun x hx h => bind_e h fun y hy h => bind_e h fun z hz h => ret_e h (Out.he (he_bin (ihl h2 e1).1 (ihrr h3 e2).1 hx hy hz))
theorem sE_cmp (Sn : Snd c k P F G) {op : CmpOp} {l : PE} {rr : PE} (ihl : SE c k P F G l) (ihrr : SE c k P F G rr) : SE c k P F G (.cmp op l rr) := by
  intro tbl gs a hm σ μ r μ' h
  exact xE_cmp hm fun a1 a2 p0 hb h2 h3 => bindR_e (ev_cmp.symm.trans h) (fun μ1 e1 => Out.err (he_cmp_err1 hb (ihl h2 e1).1) fun _ => ht_cmp_err1 hb (ihl h2 e1).1) fun V1 μ1 e1 h => bindR_e h (fun μ2 e2 => Out.err (he_cmp_err2 hb (ihl h2 e1).1 (ihrr h3 e2).1) fun _ => ht_cmp_err2 hb (ihl h2 e1).1 (ihrr h3 e2).1) fun V2 μ2 e2 h =>
    bind_e h fun z hz h => ret_e h (Out.bool (he_cmp hb (ihl h2 e1).1 (ihrr h3 e2).1 hz) fun _ => ht_cmp hb (ihl h2 e1).1 (ihrr h3 e2).1 hz)
theorem sE_bop (Sn : Snd c k P F G) {op : BoolOp} {es : PL} (ihes : SB c k P F G es) : SE c k P F G (.bop op es) := by
  intro tbl gs a hm σ μ r μ' h
  exact xE_bop hm fun as p0 h2 => ihes h2 (ev_bop.symm.trans h)
theorem sE_pnot (Sn : Snd c k P F G) {e : PE} (ihe : SE c k P F G e) : SE c k P F G (.pnot e) := by
  intro tbl gs a hm σ μ r μ' h
  exact xE_pnot hm fun a1 p0 h2 => bindT_e (ev_pnot.symm.trans h) (fun μ1 e1 => Out.err (he_not_err (ihe h2 e1).1) fun q => ht_not ((ihe h2 e1).terr q)) fun b μ1 e1 h => ret_e h (Out.bool (he_not (ihe h2 e1).1) fun q => ht_not ((ihe h2 e1).tok q))
theorem sE_neg (Sn : Snd c k P F G) {i : Int} : SE c k P F G (.neg i) := by
  intro tbl gs a hm σ μ r μ' h
  exact xE_neg hm fun n0 q0 p0 => ret_e (ev_neg.symm.trans h) (Out.he he_neg)
theorem sE_ite (Sn : Snd c k P F G) {t : PE} {l : PE} {rr : PE} (iht : SE c k P F G t) (ihl : SE c k P F G l) (ihrr : SE c k P F G rr) : SE c k P F G (.ite t l rr) := by
  intro tbl gs a hm σ μ r μ' h
  refine xE_ite hm fun at_ al ar p0 h0 h1 h2 h3 => bindT_e (ev_ite.symm.trans h) (fun μ1 e1 => Out.err (he_ite_err ((iht h1 e1).terr h0)) fun _ => ht_ite_err ((iht h1 e1).terr h0)) fun b μ1 e1 h => ?_
  have ht := (iht h1 e1).tok h0
  cases b with
  | true => exact ⟨he_ite ht (ihl h2 h).1, fun q rb hr => ht_ite ht ((ihl h2 h).2 (Bool.and_eq_true_iff.mp q).1 rb hr)⟩
  | false => exact ⟨he_ite ht (ihrr h3 h).1, fun q rb hr => ht_ite ht ((ihrr h3 h).2 (Bool.and_eq_true_iff.mp q).2 rb hr)⟩
theorem sE_sub (Sn : Snd c k P F G) {v : PE} {i : PE} (ihv : SE c k P F G v) (ihi : SE c k P F G i) : SE c k P F G (.sub v i) := by
  intro tbl gs a hm σ μ r μ' h
  exact xE_sub hm fun av ai p0 h1 h2 h3 => bindR_e (ev_sub.symm.trans h) (fun μ1 e1 => Out.he (he_sub_err1 (ihv h2 e1).1)) fun V1 μ1 e1 h => bindR_e h (fun μ2 e2 => Out.he (he_sub_err2 (ihv h2 e1).1 (ihi h3 e2).1)) fun V2 μ2 e2 h =>
    bind_e h fun x hx h => bind_e h fun j hj h => bind_e h fun z hz h => ret_e h (Out.he (he_idx (fun l u p q => by rw [q] at h1; cases h1) (ihv h2 e1).1 (asI_at hj ▸ (ihi h3 e2).1) hx hz))
theorem ho_of {lo : PE} (ih : SE c k P F G lo) {o : Option Expr} {l : Option Int} {μ1 : Mu} (hm : oM (isAbs lo) (fun x => !isAbs lo && mE P lo tbl gs x) o = true) (h : optE (isAbs lo) (evE F G lo σ μ) μ = some (l, μ1)) : HO c k tbl gs o σ μ (.ok l) μ1 := by
  cases o with
  | none => rw [show isAbs lo = true from hm] at h; exact ret_e h ho_none
  | some x =>
    obtain ⟨h1, h2⟩ := Bool.and_eq_true_iff.mp (show (!isAbs lo && mE P lo tbl gs x) = true from hm)
    rw [(Bool.not_eq_true' _).mp h1] at h
    exact bindO_e (show bindO (evE F G lo σ μ) _ = _ from h) fun V μ2 e h => bind_e h fun i hi h => ret_e h (ho_some (asI_at hi ▸ (ih h2 e).1))
theorem sE_slc (Sn : Snd c k P F G) {v : PE} {lo : PE} {hi : PE} (ihv : SE c k P F G v) (ihlo : SE c k P F G lo) (ihhi : SE c k P F G hi) : SE c k P F G (.slc v lo hi) := by
  intro tbl gs a hm σ μ r μ' h
  exact xE_slc hm fun av alo ahi p1 p2 h1 h2 h3 => bindO_e (ev_slc.symm.trans h) fun V μ1 e1 h => bind_e h fun p e2 h => bind_e h fun q e3 h => bind_e h fun x hx h => bind_e h fun z hz h => ret_e h (Out.he (he_slc (ihv h1 e1).1 (ho_of ihlo h2 e2) (ho_of ihhi h3 e3) hx hz))
theorem sE_bi (Sn : Snd c k P F G) {b : Bi} {e : PE} (ihe : SE c k P F G e) : SE c k P F G (.bi b e) := by
  intro tbl gs a hm σ μ r μ' h
  exact xE_bi hm fun p0 a1 p1 h2 h3 h4 => bindR_e (ev_bi.symm.trans h) (fun μ1 e1 => Out.he (he_bi_err Sn.ok (gin_mem h2) (Sn.bi b) (by cases b <;> decide) (by cases b <;> rfl) (notStar_at h3) (ihe h4 e1).1)) fun V1 μ1 e1 h => bind_e h fun x hx h => bind_e h fun z hz h => ret_e h (Out.he (he_bi Sn.ok (gin_mem h2) (Sn.bi b) (notStar_at h3) (ihe h4 e1).1 hx hz))
theorem sE_cnt (Sn : Snd c k P F G) {o : PE} {e : PE} (iho : SE c k P F G o) (ihe : SE c k P F G e) : SE c k P F G (.cnt o e) := by
  intro tbl gs a hm σ μ r μ' h
  exact xE_cnt hm fun ao apos a1 pos h2 h3 h4 h5 h6 => bindO_e (ev_cnt.symm.trans h) fun V μ1 e1 h => bindO_e h fun W μ2 e2 h => bind_e h fun ds hd h => bind_e h fun y hy h => bind_e h fun z hz h => ret_e h (Out.he (he_count h2 (notStar_at h3) h4 (asLs_at hd ▸ (iho h5 e1).1) (ihe h6 e2).1 hy hz))
theorem sE_idx (Sn : Snd c k P F G) {o : PE} {e : PE} (iho : SE c k P F G o) (ihe : SE c k P F G e) : SE c k P F G (.idx o e) := by
  intro tbl gs a hm σ μ r μ' h
  exact xE_idx hm fun ao apos a1 pos h2 h3 h4 h5 h6 => bindO_e (ev_idx.symm.trans h) fun V μ1 e1 h => bindO_e h fun W μ2 e2 h => bind_e h fun ds hd h => bind_e h fun y hy h => bind_e h fun z hz h => ret_e h (Out.he (he_index h2 (notStar_at h3) h4 (asLs_at hd ▸ (iho h5 e1).1) (ihe h6 e2).1 hy hz))
theorem sE_join (Sn : Snd c k P F G) {o : PE} {e : PE} (iho : SE c k P F G o) (ihe : SE c k P F G e) : SE c k P F G (.join o e) := by
  intro tbl gs a hm σ μ r μ' h
  exact xE_join hm fun ao apos a1 pos h2 h3 h4 h5 h6 => bindO_e (ev_join.symm.trans h) fun V μ1 e1 h => bindO_e h fun W μ2 e2 h => bind_e h fun x hd h => bind_e h fun y hy h => bind_e h fun z hz h => ret_e h (Out.he (he_join h2 (notStar_at h3) h4 (asSt_at hd ▸ (iho h5 e1).1) (ihe h6 e2).1 hy hz))
theorem Out.pl {a : Expr} {t : Bool} (h : HE c k tbl gs a σ μ r μ') (hp : t = true → ∀ rb, trR r = some rb → HT c k tbl gs a σ μ rb μ') : Out c k tbl gs t a σ μ r μ' := ⟨h, hp⟩
theorem sE_call (Sn : Snd c k P F G) {f : Nat} {es : PL} (ihes : SL c k P F G es) : SE c k P F G (.call f es) := by
  intro tbl gs a hm σ μ r μ' h
  refine xE_call hm fun x xp a1 as pos h1 h2 h3 h4 => ?_
  obtain ⟨fv, k', g1, g2, g3, g4⟩ := Sn.fn _ _ h1
  have main : HE c k tbl gs (.Call (.Name x xp) (a1 :: as) [] pos) σ μ r μ' := bindR_e (ev_call.symm.trans h)
    (fun μ1 e1 => he_callv Sn.ok (gin_mem h2) g1 (okN_at h3).1 g2 g3 g4 (not_star_all h4) (ihes h4 e1) (fun _ q => nomatch q) (fun _ => ⟨rfl, rfl⟩))
    fun Vs μ1 e1 h => he_callv Sn.ok (gin_mem h2) g1 (okN_at h3).1 g2 g3 g4 (not_star_all h4) (ihes h4 e1) (fun _ q => by cases q; exact h) (fun q => nomatch q)
  exact ⟨main, fun _ rb hr => ht_plain (fun _ _ => rfl) main hr⟩
theorem sE_meth (Sn : Snd c k P F G) {m : Nat} {i : Nat} {es : PL} (ihes : SL c k P F G es) : SE c k P F G (.meth m i es) := by
  intro tbl gs a hm σ μ r μ' h
  refine xE_meth hm fun x xp nm apos a1 as pos h1 h2 h3 h4 h5 h6 => bind_e (ev_meth.symm.trans h) fun W hw h => bind_e h fun p hp h => ?_
  obtain ⟨fa, k', g1, g2, g3, g4, g5, g6, g7⟩ := Sn.mt _ _ h1
  have hv := getS_at hw
  rw [asMem_at hp] at hv
  have main : HE c k tbl gs (.Call (.Attribute (.Name x xp) nm apos) (a1 :: as) [] pos) σ μ r μ' := bindR_e h
    (fun μ1 e1 => he_meth Sn.ok g1 g2 g3 g4 g5 g6 g7 (not_star_all h6) h4 h5 (snd_loc h2 h3 hv) (ihes h6 e1) (fun _ q => nomatch q) (fun _ => ⟨rfl, rfl⟩))
    fun Vs μ1 e1 h => he_meth Sn.ok g1 g2 g3 g4 g5 g6 g7 (not_star_all h6) h4 h5 (snd_loc h2 h3 hv) (ihes h6 e1) (fun _ q => by cases q; exact h) (fun q => nomatch q)
  exact ⟨main, fun _ rb hr => ht_plain (fun _ _ => rfl) main hr⟩
theorem sE_attr (Sn : Snd c k P F G) {i : Nat} {num : Bool} : SE c k P F G (.attr i num) := by
  intro tbl gs a hm σ μ r μ' h
  refine xE_attr hm fun x xp pos h1 h2 => bind_e (ev_attr.symm.trans h) fun W hw h => bind_e h fun p hp h => ret_e h (Out.he ?_)
  have hv := getS_at hw
  rw [asMem_at hp] at hv
  cases num with
  | true =>
    obtain ⟨g1, g2, at_, g3, g4⟩ := Sn.anum
    have z := he_attr (pos := pos) Sn.ok (.inl rfl) g1 g2 g3 g4 (snd_loc (k := k) (gs := gs) (μ := μ) (p := xp) h1 h2 hv)
    rw [if_pos rfl] at z
    exact z
  | false =>
    obtain ⟨g1, g2, at_, g3, g4⟩ := Sn.achr
    have z := he_attr (pos := pos) Sn.ok (.inr rfl) g1 g2 g3 g4 (snd_loc (k := k) (gs := gs) (μ := μ) (p := xp) h1 h2 hv)
    rw [if_neg (by decide +kernel)] at z
    exact z
theorem sE_app (Sn : Snd c k P F G) {i : Nat} {e : PE} (ihe : SE c k P F G e) : SE c k P F G (.app i e) := by
  intro tbl gs a hm σ μ r μ' h
  exact xE_app hm fun x xp apos a1 pos h2 h3 h4 h5 h6 => bind_e (ev_app.symm.trans h) fun W hw h => bind_e h fun j hj h => bind_e h fun ds0 h0 h => bindO_e h fun V μ1 e1 h => bind_e h fun d hd h => bind_e h fun ds hds h => if_e h fun hrm h => ret_e h (Out.he
    (he_append (notStar_at h4) h5 (snd_loc h2 h3 (asRef_at hj ▸ getS_at hw)) (asD_at hd ▸ (ihe h6 e1).1) ⟨_, getP_at h0⟩ (getP_at hds) hrm))
theorem sE_comp (Sn : Snd c k P F G) {elt : PE} {tg : Tg} {it : PI} {cond : PE} {caps : List Nat} (ihelt : SE c k P F G elt) (ihit : SI c k P F G it) (ihcond : SE c k P F G cond) : SE c k P F G (.comp elt tg it cond caps) := by
  intro tbl gs a hm σ μ r μ' h
  exact xE_comp hm fun aelt target iter ifs scope p0 h1 h2 h3 h4 h5 => bind_e (ev_comp.symm.trans h) fun p hi h => if_e h fun hc h => bind_e h fun q hev h => ret_e h (Out.he
    (he_comp (compOk_at h1) (fun i hi => List.all_eq_true.mp (Bool.and_eq_true_iff.mp hc).1 i hi) (ihit h4 hi).2 (ihit h4 hi).1 (mT_at h2) (fun σ μ r μ' q => (ihelt h3 q).1) (hts_of h5 ihcond) (Bool.and_eq_true_iff.mp hc).2 hev))
theorem sL_nil (Sn : Snd c k P F G) : SL c k P F G .nil := by
  intro tbl gs as hm σ μ rs μ' h
  exact nil_e (show as.isEmpty = true from hm) (ret_e (evl_nil.symm.trans h) hl_nil)
theorem sL_cons (Sn : Snd c k P F G) {e : PE} {es : PL} (ihe : SE c k P F G e) (ihes : SL c k P F G es) : SL c k P F G (.cons e es) := by
  intro tbl gs as hm σ μ rs μ' h
  exact xL_cons hm fun a as h1 h2 h3 => bindR_e (evl_cons.symm.trans h) (fun μ1 e1 => hl_cons_err (notStar_at h1) (ihe h2 e1).1) fun V μ1 e1 h => bindR_e h (fun μ2 e2 => hl_cons_ok (notStar_at h1) (ihe h2 e1).1 (ihes h3 e2)) fun Vs μ2 e2 h => ret_e h (hl_cons_ok (notStar_at h1) (ihe h2 e1).1 (ihes h3 e2))
theorem sB_nil (Sn : Snd c k P F G) : SB c k P F G .nil := by
  intro tbl gs as op pos hm σ μ r μ' h
  cases evb_nil.symm.trans h
theorem sB_one (Sn : Snd c k P F G) {e : PE} (ihe : SE c k P F G e) : SB c k P F G (.cons e .nil) := by
  intro tbl gs as op pos hm σ μ r μ' h
  have h := evb_one.symm.trans h
  exact xL_cons hm fun a as h1 h2 h3 => nil_e (C := fun as => Out c k tbl gs (tstL (.cons e .nil)) (.BoolOp op (a :: as) pos) σ μ r μ') h3 ⟨he_bool1 (ihe h2 h).1, fun q rb hr => ht_bool1 ((ihe h2 h).2 (Bool.and_eq_true_iff.mp q).1 rb hr)⟩
theorem stop_not {op : BoolOp} {b : Bool} (h : ¬ b = stopOf op) : b = !stopOf op := by cases b <;> cases op <;> first | rfl | exact absurd rfl h
theorem sB_cons (Sn : Snd c k P F G) {e e2 : PE} {es : PL} (ihe : SE c k P F G e) (ihes : SB c k P F G (.cons e2 es)) : SB c k P F G (.cons e (.cons e2 es)) := by
  intro tbl gs as op pos hm σ μ r μ' h
  refine xL_cons hm fun a as1 h1 h2 hm2 => ?_
  revert hm2
  refine fun hm2 => xL_cons (C := fun as1 => mL P (.cons e2 es) tbl gs as1 = true → Out c k tbl gs (tstL (.cons e (.cons e2 es))) (.BoolOp op (a :: as1) pos) σ μ r μ') hm2 (fun a2 as2 _ _ _ hm2 => ?_) hm2
  refine bindR_e (evb_cons.symm.trans h) (fun μ1 e1 => Out.err (he_bool_err (ihe h2 e1).1) fun q => ht_bool_err ((ihe h2 e1).terr (Bool.and_eq_true_iff.mp q).1)) fun V μ1 e1 h => bind_e h fun b hb h => ?_
  rw [trV_at hb] at e1 h
  have z := ihe h2 e1
  by_cases hs : b = stopOf op
  · rw [if_pos hs] at h
    exact ret_e h (by rw [hs] at z ⊢; exact Out.bool (he_bool_stop z.1) fun q => ht_bool_stop (z.tok (Bool.and_eq_true_iff.mp q).1))
  · rw [if_neg hs] at h
    rw [stop_not hs] at z
    exact ⟨he_bool_go z.1 (ihes hm2 h).1, fun q rb hr => ht_bool_go (z.tok (Bool.and_eq_true_iff.mp q).1) ((ihes hm2 h).2 (Bool.and_eq_true_iff.mp q).2 rb hr)⟩
theorem sI_lst (Sn : Snd c k P F G) {e : PE} (ihe : SE c k P F G e) : SI c k P F G (.lst e) := by
  intro tbl gs a hm σ μ ds μ' h
  exact and_e hm fun h1 h2 => bindO_e (evi_lst.symm.trans h) fun V μ1 e1 h => bind_e h fun ds hd h => ret_e h ⟨hi_list (asLs_at hd ▸ (ihe h2 e1).1), notSet_at h1⟩
theorem sI_tup (Sn : Snd c k P F G) {e : PE} (ihe : SE c k P F G e) : SI c k P F G (.tup e) := by
  intro tbl gs a hm σ μ ds μ' h
  exact and_e hm fun h1 h2 => bindO_e (evi_tup.symm.trans h) fun V μ1 e1 h => bind_e h fun ds hd h => ret_e h ⟨hi_tuple (asTs_at hd ▸ (ihe h2 e1).1), notSet_at h1⟩
theorem sI_rng1 (Sn : Snd c k P F G) {e : PE} (ihe : SE c k P F G e) : SI c k P F G (.rng1 e) := by
  intro tbl gs a hm σ μ ds μ' h
  exact xI_rng1 hm fun p0 a1 p1 h2 h3 h4 => bindO_e (evi_rng1.symm.trans h) fun V μ1 e1 h => bind_e h fun b hb h => if_e h fun ho h => ret_e h ⟨hi_range1 Sn.ok (gin_mem h2) Sn.rg (notStar_at h3) (asI_at hb ▸ (ihe h4 e1).1) ho, fun _ _ => rfl⟩
theorem sI_rng2 (Sn : Snd c k P F G) {e1 : PE} {e2 : PE} (ihe1 : SE c k P F G e1) (ihe2 : SE c k P F G e2) : SI c k P F G (.rng2 e1 e2) := by
  intro tbl gs a hm σ μ ds μ' h
  exact xI_rng2 hm fun p0 a1 a2 p1 h2 h3 h4 h5 h6 => bindO_e (evi_rng2.symm.trans h) fun V μ1 q1 h => bindO_e h fun W μ2 q2 h => bind_e h fun x hx h => bind_e h fun y hy h => if_e h fun ho h => ret_e h ⟨hi_range2 Sn.ok (gin_mem h2) Sn.rg (notStar_at h3) (notStar_at h4) (asI_at hx ▸ (ihe1 h5 q1).1) (asI_at hy ▸ (ihe2 h6 q2).1) (Bool.and_eq_true_iff.mp ho).1 (Bool.and_eq_true_iff.mp ho).2, fun _ _ => rfl⟩
theorem sB_all (Sn : Snd c k P F G) {e : PE} (es : PL) (h1 : SE c k P F G e) (h2 : SB c k P F G es) : SB c k P F G (.cons e es) := by
  cases es with
  | nil => exact sB_one Sn h1
  | cons => exact sB_cons Sn h1 h2
theorem snd_E (Sn : Snd c k P F G) (e : PE) : SE c k P F G e := PE.rec (motive_1 := SE c k P F G) (motive_2 := fun es => SL c k P F G es ∧ SB c k P F G es) (motive_3 := SI c k P F G)
  (sE_absent Sn )
  (fun x0 => sE_const Sn )
  (fun x0 => sE_loc Sn )
  (fun x0 x1 => sE_glc Sn )
  (fun x0 h0 => sE_tup Sn h0.1)
  (fun x0 h0 => sE_lst Sn h0.1)
  (sE_newl Sn )
  (fun x0 x1 x2 h1 h2 => sE_bin Sn h1 h2)
  (fun x0 x1 x2 h1 h2 => sE_cmp Sn h1 h2)
  (fun x0 x1 h1 => sE_bop Sn h1.2)
  (fun x0 h0 => sE_pnot Sn h0)
  (fun x0 => sE_neg Sn )
  (fun x0 x1 x2 h0 h1 h2 => sE_ite Sn h0 h1 h2)
  (fun x0 x1 h0 h1 => sE_sub Sn h0 h1)
  (fun x0 x1 x2 h0 h1 h2 => sE_slc Sn h0 h1 h2)
  (fun x0 x1 h1 => sE_bi Sn h1)
  (fun x0 x1 h0 h1 => sE_cnt Sn h0 h1)
  (fun x0 x1 h0 h1 => sE_idx Sn h0 h1)
  (fun x0 x1 h0 h1 => sE_join Sn h0 h1)
  (fun x0 x1 h1 => sE_call Sn h1.1)
  (fun x0 x1 x2 h2 => sE_meth Sn h2.1)
  (fun x0 x1 => sE_attr Sn )
  (fun x0 x1 h1 => sE_app Sn h1)
  (fun x0 x1 x2 x3 x4 h0 h2 h3 => sE_comp Sn h0 h2 h3)
  ⟨sL_nil Sn, sB_nil Sn⟩
  (fun _ es h1 h2 => ⟨sL_cons Sn h1 h2.1, sB_all Sn es h1 h2.2⟩)
  (fun _ h0 => sI_lst Sn h0)
  (fun _ h0 => sI_tup Sn h0)
  (fun _ h0 => sI_rng1 Sn h0)
  (fun _ _ h0 h1 => sI_rng2 Sn h0 h1) e
theorem snd_LB (Sn : Snd c k P F G) : ∀ (es : PL), SL c k P F G es ∧ SB c k P F G es
  | .nil => ⟨sL_nil Sn, sB_nil Sn⟩
  | .cons e es => ⟨sL_cons Sn (snd_E Sn e) (snd_LB Sn es).1, sB_all Sn es (snd_E Sn e) (snd_LB Sn es).2⟩
theorem snd_L (Sn : Snd c k P F G) (es : PL) : SL c k P F G es := (snd_LB Sn es).1
theorem snd_I (Sn : Snd c k P F G) : ∀ (it : PI), SI c k P F G it
  | .lst e => sI_lst Sn (snd_E Sn e)
  | .tup e => sI_tup Sn (snd_E Sn e)
  | .rng1 e => sI_rng1 Sn (snd_E Sn e)
  | .rng2 a b => sI_rng2 Sn (snd_E Sn a) (snd_E Sn b)
end
end Mine
end
section
open PySem PySem.W PyProof.Rows PySem.Calls
set_option Elab.async false
set_option maxRecDepth 100000
set_option linter.unusedVariables false
namespace Mine

noncomputable def RaiseSt (c : Cx) : Prop := ∀ (k : Nat) (tbl : Tbl) (gs : Gs) (ws : List Nat) (σ : Slots) (μ : Mu) (np : Pos) (msg : Str) (kk : Nat) (cp cpos pos : Pos), GI gs (Str.ofString "RunFault") →
  HS c (k + 3) tbl gs ws (exec (.Raise (some (.Call (.Name (Str.ofString "RunFault") np) [.Constant (.str msg) kk cp] [] cpos)) none pos)) σ μ (.error ()) μ
structure SndS (c : Cx) (k : Nat) (P : Prg) (F G : Nat → List Vl → Mu → RR Vl) : Prop extends Snd c k P F G where
  run : GN c (Str.ofString "RunFault") (.ref c.rC)
  rc : RcOk c
  rs : RaiseSt c
  hk : 3 ≤ k

noncomputable def isPComp (e : PE) : Bool := e.ctorIdx == 23
@[elab_as_elim] theorem isPComp_e {e : PE} {C : PE → Prop} (h : isPComp e = true) (k : ∀ elt tg it cond caps, C (.comp elt tg it cond caps)) : C e := by
  cases e <;> first | exact k _ _ _ _ _ | cases h
noncomputable def notTup (e : Expr) : Bool := !(e.ctorIdx == 25)
theorem notComp_sole {e t : Expr} {l : Nat} (h : isComp e = false) : ∀ env, swapsWithSole [t] e l env = pure false := by
  cases e <;> first | (intro env; rfl) | cases h
theorem notTup_at {a : Expr} (h : notTup a = true) (es : List Expr) (kk : Nat) (tp : Pos) : ∀ env, swappedStores [.Tuple es kk tp] a env = pure none := by
  cases a <;> first | (intro env; rfl) | cases h
noncomputable def nodupB : List Nat → Bool
  | [] => true
  | i :: is => !is.contains i && nodupB is
theorem nodupB_at : ∀ {is : List Nat}, nodupB is = true → is.Nodup
  | [], _ => .nil
  | i :: is, h => by
    obtain ⟨a, b⟩ := Bool.and_eq_true_iff.mp h
    exact List.nodup_cons.mpr ⟨by simpa using a, nodupB_at b⟩

noncomputable def isStrC (c : Const) : Bool := c.ctorIdx == 5
theorem isStrC_at {c : Const} (h : isStrC c = true) : ∃ m, c = .str m := by
  cases c <;> first | exact ⟨_, rfl⟩ | cases h
noncomputable def isNonC (c : Const) : Bool := c.ctorIdx == 0
theorem isNonC_at {c : Const} (h : isNonC c = true) : c = .none := by
  cases c <;> first | rfl | cases h
noncomputable def tHnd (f : Option Expr → Option Str → List Stmt → Bool) (h : ExceptHandler) : Bool := match h with
  | .ExceptHandler t n b _ => f t n b
section
variable (P : Prg)
mutual
noncomputable def mS : PS → Tbl → Gs → List Nat → Stmt → Bool
  | .asg i e, tbl, gs, ws, s => uAsg (fun ts a => t1 (fun t => tName (fun x => tin tbl i x && ws.contains i && mE P e tbl gs a && (isPComp e || !isComp a)) t) ts) s
  | .asgT is e, tbl, gs, ws, s => uAsg (fun ts a => t1 (fun t => tTup (fun es => mN is es tbl ws && mE P e tbl gs a && !isComp a && notTup a) t) ts) s
  | .asgD is es, tbl, gs, ws, s => uAsg (fun tt a => t1 (fun t => tTup (fun ts => tTup (fun as => tS (fun xs => is.length == xs.length && (is.zip xs).all (fun p => tin tbl p.1 p.2 && ws.contains p.1) && nodupB is && (decide (3 < ts.length) || !(as.all (constantsAlone 8))) && decide (ts.length ≤ 100) && mL P es tbl gs as) (nmsOf ts)) a) t) tt) s
  | .aug i op e, tbl, gs, ws, s => uAug (fun t op' a => tName (fun x => op' == op && tin tbl i x && ws.contains i && okN x && mE P e tbl gs a) t) s
  | .set i ie e, tbl, gs, ws, s => uAsg (fun ts a => t1 (fun t => tSub (fun v ai => tName (fun x => tin tbl i x && okN x && !isComp a && mE P ie tbl gs ai && mE P e tbl gs a) v) t) ts) s
  | .expr e, tbl, gs, ws, s => uExp (fun a => !isComp a && mE P e tbl gs a) s
  | .ret e, tbl, gs, ws, s => uRet (fun o => tS (fun a => mE P e tbl gs a) o) s
  | .ret0, tbl, gs, ws, s => uRet (fun o => o.isNone) s
  | .ife t a b, tbl, gs, ws, s => uIf (fun at_ as bs => tst t && mE P t tbl gs at_ && mB a tbl gs ws as && mB b tbl gs ws bs) s
  | .for_ tg it b, tbl, gs, ws, s => uFor (fun target iter body els => els.isEmpty && (mT tg target tbl ws && mI P it tbl gs iter && mB b tbl gs ws body)) s
  | .raise msg, tbl, gs, ws, s => uRaise (fun o cs => cs.isNone && tS (fun e => tCall (fun c as kws _ => kws.isEmpty && tName (fun x => t1 (fun a1 => tConst (fun cc => isStrC cc && (x == Str.ofString "RunFault" && gin gs x .globalImplicit)) a1) as) c) e) o) s
  | .tryr e, tbl, gs, ws, s => uTry (fun body hs els fin => els.isEmpty && fin.isEmpty && t1 (fun s1 => uRet (fun o => tS (fun a => t1 (fun hd => tHnd (fun ty nm hb => nm.isNone && tS (fun en => tName (fun x => t1 (fun s2 => uRet (fun o2 => tS (fun c2 => tConst (fun cc => isNonC cc && (x == Str.ofString "RunFault" && gin gs x .globalImplicit && mE P e tbl gs a)) c2) o2) s2) hb) en) ty) hd) hs) o) s1) body) s
noncomputable def mB : PB → Tbl → Gs → List Nat → List Stmt → Bool
  | .nil, _, _, _, ss => ss.isEmpty
  | .cons s b, tbl, gs, ws, ss => tC (fun st rest => mS s tbl gs ws st && mB b tbl gs ws rest) ss
end
end
section
variable {P : Prg} {tbl : Tbl} {gs : Gs} {ws : List Nat} {s : Stmt} {e ie te : PE} {es : PL} {i : Nat} {is : List Nat} {op : Operator} {pa pb : PB}
section
variable {C : Stmt → Prop}
@[elab_as_elim] theorem xS_asg (h : mS P (.asg i e) tbl gs ws s = true) (k : ∀ x p1 a p2, tin tbl i x = true → ws.contains i = true → mE P e tbl gs a = true → (isPComp e || !isComp a) = true → C (.Assign [.Name x p1] a p2)) : C s :=
  uAsg_e h fun ts a p2 h => t1_e (C := fun ts => C (.Assign ts a p2)) h fun t h => tName_e (C := fun t => C (.Assign [t] a p2)) h fun x p1 h => and_e h fun h h4 => and_e h fun h h3 => and_e h fun h1 h2 => k x p1 a p2 h1 h2 h3 h4
@[elab_as_elim] theorem xS_asgT (h : mS P (.asgT is e) tbl gs ws s = true) (k : ∀ es n p1 a p2, mN is es tbl ws = true → mE P e tbl gs a = true → isComp a = false → notTup a = true → C (.Assign [.Tuple es n p1] a p2)) : C s :=
  uAsg_e h fun ts a p2 h => t1_e (C := fun ts => C (.Assign ts a p2)) h fun t h => tTup_e (C := fun t => C (.Assign [t] a p2)) h fun es n p1 h => and_e h fun h h4 => and_e h fun h h3 => and_e h fun h1 h2 => k es n p1 a p2 h1 h2 ((Bool.not_eq_true' _).mp h3) h4
@[elab_as_elim] theorem xS_asgD (h : mS P (.asgD is es) tbl gs ws s = true) (k : ∀ ts k1 p1 as k2 p2 p3 xs, nmsOf ts = some xs → is.length = xs.length → (is.zip xs).all (fun p => tin tbl p.1 p.2 && ws.contains p.1) = true → nodupB is = true → (decide (3 < ts.length) || !(as.all (constantsAlone 8))) = true → ts.length ≤ 100 → mL P es tbl gs as = true → C (.Assign [.Tuple ts k1 p1] (.Tuple as k2 p2) p3)) : C s :=
  uAsg_e h fun tt a p3 h => t1_e (C := fun tt => C (.Assign tt a p3)) h fun t h => tTup_e (C := fun t => C (.Assign [t] a p3)) h fun ts k1 p1 h => tTup_e (C := fun a => C (.Assign [.Tuple ts k1 p1] a p3)) h fun as k2 p2 h => by
    obtain ⟨xs, hxs, h⟩ := tS_at h
    exact and_e h fun h h6 => and_e h fun h h5 => and_e h fun h h4 => and_e h fun h h3 => and_e h fun h1 h2 => k ts k1 p1 as k2 p2 p3 xs hxs (eq_of_beq h1) h2 h3 h4 (of_decide_eq_true h5) h6
@[elab_as_elim] theorem xS_aug (h : mS P (.aug i op e) tbl gs ws s = true) (k : ∀ x p1 a p2, tin tbl i x = true → ws.contains i = true → okN x = true → mE P e tbl gs a = true → C (.AugAssign (.Name x p1) op a p2)) : C s :=
  uAug_e h fun t op' a p2 h => tName_e (C := fun t => C (.AugAssign t op' a p2)) h fun x p1 h => and_e h fun h h4 => and_e h fun h h3 => and_e h fun h h2 => and_e h fun h0 h1 => by cases eq_of_beq h0; exact k x p1 a p2 h1 h2 h3 h4
@[elab_as_elim] theorem xS_set (h : mS P (.set i ie e) tbl gs ws s = true) (k : ∀ x p1 ai p2 a p3, tin tbl i x = true → okN x = true → isComp a = false → mE P ie tbl gs ai = true → mE P e tbl gs a = true → C (.Assign [.Subscript (.Name x p1) ai p2] a p3)) : C s :=
  uAsg_e h fun ts a p3 h => t1_e (C := fun ts => C (.Assign ts a p3)) h fun t h => tSub_e (C := fun t => C (.Assign [t] a p3)) h fun v ai p2 h => tName_e (C := fun v => C (.Assign [.Subscript v ai p2] a p3)) h fun x p1 h => and_e h fun h h5 => and_e h fun h h4 => and_e h fun h h3 => and_e h fun h1 h2 => k x p1 ai p2 a p3 h1 h2 ((Bool.not_eq_true' _).mp h3) h4 h5
@[elab_as_elim] theorem xS_expr (h : mS P (.expr e) tbl gs ws s = true) (k : ∀ a p, isComp a = false → mE P e tbl gs a = true → C (.Expr a p)) : C s := uExp_e h fun a p h => and_e h fun h1 h2 => k a p ((Bool.not_eq_true' _).mp h1) h2
@[elab_as_elim] theorem xS_ret (h : mS P (.ret e) tbl gs ws s = true) (k : ∀ a p, mE P e tbl gs a = true → C (.Return (some a) p)) : C s := uRet_e h fun o p h => tS_e (C := fun o => C (.Return o p)) h fun a h => k a p h
@[elab_as_elim] theorem xS_ret0 (h : mS P .ret0 tbl gs ws s = true) (k : ∀ p, C (.Return none p)) : C s := uRet_e h fun o p h => non_e (C := fun o => C (.Return o p)) h (k p)
@[elab_as_elim] theorem xS_ife (h : mS P (.ife te pa pb) tbl gs ws s = true) (k : ∀ at_ as bs p, tst te = true → mE P te tbl gs at_ = true → mB P pa tbl gs ws as = true → mB P pb tbl gs ws bs = true → C (.If at_ as bs p)) : C s :=
  uIf_e h fun at_ as bs p h => and_e h fun h h3 => and_e h fun h h2 => and_e h fun h0 h1 => k at_ as bs p h0 h1 h2 h3
@[elab_as_elim] theorem xS_for {tg : Tg} {it : PI} (h : mS P (.for_ tg it pb) tbl gs ws s = true) (k : ∀ target iter body p, mT tg target tbl ws = true → mI P it tbl gs iter = true → mB P pb tbl gs ws body = true → C (.For target iter body [] p)) : C s :=
  uFor_e h fun target iter body els p h => and_e h fun h1 h => nil_e (C := fun els => C (.For target iter body els p)) h1 (and_e h fun h h3 => and_e h fun h1 h2 => k target iter body p h1 h2 h3)
@[elab_as_elim] theorem xS_raise {msg : Str} (h : mS P (.raise msg) tbl gs ws s = true) (k : ∀ p1 m n p2 p3 p4, gin gs (Str.ofString "RunFault") .globalImplicit = true → C (.Raise (some (.Call (.Name (Str.ofString "RunFault") p1) [.Constant (.str m) n p2] [] p3)) none p4)) : C s :=
  uRaise_e h fun o cs p4 h => and_e h fun hn h => non_e (C := fun cs => C (.Raise o cs p4)) hn (tS_e (C := fun o => C (.Raise o none p4)) h fun e h => xcall1 (C := fun e => C (.Raise (some e) none p4)) (g := fun x a1 => tConst (fun cc => isStrC cc && (x == Str.ofString "RunFault" && gin gs x .globalImplicit)) a1) h fun x p1 a1 p3 h =>
    tConst_e (C := fun a1 => C (.Raise (some (.Call (.Name x p1) [a1] [] p3)) none p4)) h fun cc n p2 h => and_e h fun h1 h => and_e h fun h2 h3 => by
      obtain ⟨m, rfl⟩ := isStrC_at h1
      cases eq_of_beq h2
      exact k p1 m n p2 p3 p4 h3)
theorem tHnd_e {f : Option Expr → Option Str → List Stmt → Bool} {D : ExceptHandler → Prop} {hd : ExceptHandler} (h : tHnd f hd = true) (k : ∀ t n b p, f t n b = true → D (.ExceptHandler t n b p)) : D hd := by
  cases hd with
  | ExceptHandler t n b p => exact k t n b p h
@[elab_as_elim] theorem xS_tryr (h : mS P (.tryr e) tbl gs ws s = true) (k : ∀ a p1 p2 n p3 p4 p5 p6, gin gs (Str.ofString "RunFault") .globalImplicit = true → mE P e tbl gs a = true → C (.Try [.Return (some a) p1] [.ExceptHandler (some (.Name (Str.ofString "RunFault") p2)) none [.Return (some (.Constant .none n p3)) p4] p5] [] [] p6)) : C s :=
  uTry_e h fun body hs els fin p6 h => and_e h fun h1 h => and_e h1 fun he hf => nil_e (C := fun els => C (.Try body hs els fin p6)) he (nil_e (C := fun fin => C (.Try body hs [] fin p6)) hf (t1_e (C := fun body => C (.Try body hs [] [] p6)) h fun s1 h => uRet_e (C := fun s1 => C (.Try [s1] hs [] [] p6)) h fun o p1 h =>
    tS_e (C := fun o => C (.Try [.Return o p1] hs [] [] p6)) h fun a h => t1_e (C := fun hs => C (.Try [.Return (some a) p1] hs [] [] p6)) h fun hd h => tHnd_e (D := fun hd => C (.Try [.Return (some a) p1] [hd] [] [] p6)) h fun ty nm hb p5 h => and_e h fun hn h => non_e (C := fun nm => C (.Try [.Return (some a) p1] [.ExceptHandler ty nm hb p5] [] [] p6)) hn
      (tS_e (C := fun ty => C (.Try [.Return (some a) p1] [.ExceptHandler ty none hb p5] [] [] p6)) h fun en h => tName_e (C := fun en => C (.Try [.Return (some a) p1] [.ExceptHandler (some en) none hb p5] [] [] p6)) h fun x p2 h => t1_e (C := fun hb => C (.Try [.Return (some a) p1] [.ExceptHandler (some (.Name x p2)) none hb p5] [] [] p6)) h fun s2 h =>
        uRet_e (C := fun s2 => C (.Try [.Return (some a) p1] [.ExceptHandler (some (.Name x p2)) none [s2] p5] [] [] p6)) h fun o2 p4 h => tS_e (C := fun o2 => C (.Try [.Return (some a) p1] [.ExceptHandler (some (.Name x p2)) none [.Return o2 p4] p5] [] [] p6)) h fun c2 h => tConst_e (C := fun c2 => C (.Try [.Return (some a) p1] [.ExceptHandler (some (.Name x p2)) none [.Return (some c2) p4] p5] [] [] p6)) h fun cc n p3 h =>
          and_e h fun h1 h => and_e h fun h h4 => and_e h fun h2 h3 => by cases isNonC_at h1; cases eq_of_beq h2; exact k a p1 p2 n p3 p4 p5 p6 h3 h4)))
end
@[elab_as_elim] theorem xB_cons {ps : PS} {ss : List Stmt} {C : List Stmt → Prop} (h : mB P (.cons ps pb) tbl gs ws ss = true) (k : ∀ st rest, mS P ps tbl gs ws st = true → mB P pb tbl gs ws rest = true → C (st :: rest)) : C ss :=
  tC_e (f := fun st rest => mS P ps tbl gs ws st && mB P pb tbl gs ws rest) h fun st rest h => and_e h (k st rest)
end

section
variable {c : Cx} {k : Nat} {P : Prg} {F G : Nat → List Vl → Mu → RR Vl}

theorem snd_comp (Sn : Snd c k P F G) {elt : PE} {tg : Tg} {it : PI} {cond : PE} {caps : List Nat} {tbl : Tbl} {gs : Gs} {a : Expr} (hm : mE P (.comp elt tg it cond caps) tbl gs a = true) {σ : Slots} {μ : Mu} {r : Except Unit Vl} {μ' : Mu} (h : evE F G (.comp elt tg it cond caps) σ μ = some (r, μ'))
    {ws : List Nat} {y : Str} {i : Nat} {p pos : Pos} (hi : (i, y) ∈ tbl) (hw : i ∈ ws) (hlt : i < σ.length) : ∃ V, r = .ok V ∧ HS c k tbl gs ws (exec (.Assign [.Name y p] a pos)) σ μ (.ok (.next (σ.set i (some V)))) μ' := by
  refine xE_comp (C := fun a => ∃ V, r = .ok V ∧ HS c k tbl gs ws (exec (.Assign [.Name y p] a pos)) σ μ (.ok (.next (σ.set i (some V)))) μ') hm fun aelt target iter ifs scope p0 h1 h2 h3 h4 h5 => ?_
  exact bind_e (ev_comp.symm.trans h) fun p hi' h => if_e h fun hc h => bind_e h fun q hev h => ret_e (C := fun r μ' => ∃ V, r = Except.ok V ∧ HS c k tbl gs ws (exec (.Assign [.Name y _] _ pos)) σ μ (.ok (.next (σ.set i (some V)))) μ') h
    ⟨_, rfl, hs_assign_comp (compOk_at h1) (fun i hi => List.all_eq_true.mp (Bool.and_eq_true_iff.mp hc).1 i hi) (snd_I Sn it h4 hi').2 (snd_I Sn it h4 hi').1 (mT_at h2) (fun σ μ r μ' q => (snd_E Sn elt h3 q).1) (hts_of h5 (snd_E Sn cond)) (Bool.and_eq_true_iff.mp hc).2 hev hi hw hlt⟩

noncomputable def SSt (c : Cx) (k : Nat) (P : Prg) (F G : Nat → List Vl → Mu → RR Vl) (s : PS) : Prop := ∀ {tbl : Tbl} {gs : Gs} {ws : List Nat} {st : Stmt}, mS P s tbl gs ws st = true → ∀ {σ : Slots} {μ : Mu} {r : Except Unit Fl} {μ' : Mu}, evS F G s σ μ = some (r, μ') → HS c k tbl gs ws (exec st) σ μ r μ'
noncomputable def SBk (c : Cx) (k : Nat) (P : Prg) (F G : Nat → List Vl → Mu → RR Vl) (b : PB) : Prop := ∀ {tbl : Tbl} {gs : Gs} {ws : List Nat} {ss : List Stmt}, mB P b tbl gs ws ss = true → ∀ {σ : Slots} {μ : Mu} {r : Except Unit Fl} {μ' : Mu}, evBk F G b σ μ = some (r, μ') → HS c k tbl gs ws (execs ss) σ μ r μ'
theorem evs_asg {i : Nat} {e : PE} {σ : Slots} {μ : Mu} : evS F G (.asg i e) σ μ = (bindR (evE F G e σ μ) fun V μ => if i < σ.length then some (.ok (.next (σ.set i (some V))), μ) else none) := rfl
theorem evs_asgT {is : List Nat} {e : PE} {σ : Slots} {μ : Mu} : evS F G (.asgT is e) σ μ = (bindR (evE F G e σ μ) fun V μ => (asTs V).bind fun ds => (setAll is ds σ).bind fun σ' => some (.ok (.next σ'), μ)) := rfl
theorem evs_asgD {is : List Nat} {es : PL} {σ : Slots} {μ : Mu} : evS F G (.asgD is es) σ μ = (bindO (evL F G es σ μ) fun Vs μ => if is.length = Vs.length ∧ is.all (· < σ.length) then some (.ok (.next (setPs (is.zip Vs) σ)), μ) else none) := rfl
theorem evs_aug {i : Nat} {op : Operator} {e : PE} {σ : Slots} {μ : Mu} : evS F G (.aug i op e) σ μ = ((getS σ i).bind fun W => (asI W).bind fun a => bindO (evE F G e σ μ) fun V μ => (asI V).bind fun b => (augD op a b).bind fun z => some (.ok (.next (σ.set i (some (.dat (.int z))))), μ)) := rfl
theorem evs_set {i : Nat} {ie : PE} {e : PE} {σ : Slots} {μ : Mu} : evS F G (.set i ie e) σ μ = ((getS σ i).bind fun W => (asRef W).bind fun j => bindO (evE F G e σ μ) fun V μ => bindO (evE F G ie σ μ) fun I μ => (onDat V some).bind fun d => (asI I).bind fun i => (getM asLst μ j).bind fun ds => if 0 ≤ i ∧ i < ds.length ∧ room ds.length = true then some (.ok (.next σ), μ.set j (.lst (ds.set i.toNat d))) else none) := rfl
theorem evs_expr {e : PE} {σ : Slots} {μ : Mu} : evS F G (.expr e) σ μ = (bindR (evE F G e σ μ) fun _ μ => some (.ok (.next σ), μ)) := rfl
theorem evs_ret {e : PE} {σ : Slots} {μ : Mu} : evS F G (.ret e) σ μ = (bindR (evE F G e σ μ) fun V μ => some (.ok (.ret V), μ)) := rfl
theorem evs_ret0 {σ : Slots} {μ : Mu} : evS F G .ret0 σ μ = (some (.ok (.ret (.dat .none)), μ)) := rfl
theorem evs_ife {t : PE} {a : PB} {b : PB} {σ : Slots} {μ : Mu} : evS F G (.ife t a b) σ μ = (bindR (tsR (evE F G t σ μ)) fun z μ => cond z (evBk F G a σ μ) (evBk F G b σ μ)) := rfl
theorem evs_for_ {tg : Tg} {it : PI} {b : PB} {σ : Slots} {μ : Mu} : evS F G (.for_ tg it b) σ μ = ((evI F G it σ μ).bind fun p => evFor (fun σ μ => evBk F G b σ μ) tg p.1 σ p.2) := rfl
theorem evs_raise {v1 : Str} {σ : Slots} {μ : Mu} : evS F G (.raise v1) σ μ = (some (.error (), μ)) := rfl
theorem evs_tryr {e : PE} {σ : Slots} {μ : Mu} : evS F G (.tryr e) σ μ = (tryK (evE F G e σ μ)) := rfl
theorem evk_nil {σ : Slots} {μ : Mu} : evBk F G .nil σ μ = (some (.ok (.next σ), μ)) := rfl
theorem evk_cons {s : PS} {b : PB} {σ : Slots} {μ : Mu} : evBk F G (.cons s b) σ μ = thenK (evS F G s σ μ) fun σ μ => evBk F G b σ μ := rfl
theorem mem_of {ws : List Nat} {i : Nat} (h : ws.contains i = true) : i ∈ ws := List.contains_iff_mem.mp h
@[elab_as_elim] theorem tryK_e {m : RR Vl} {r : Except Unit Fl} {μ' : Mu} {C : Except Unit Fl → Prop} (h : tryK m = some (r, μ')) (ko : ∀ V, m = some (.ok V, μ') → C (.ok (.ret V))) (ke : m = some (.error (), μ') → C (.ok (.ret (.dat .none)))) : C r := by
  cases m with
  | none => cases h
  | some p =>
    obtain ⟨x, μ1⟩ := p
    cases x with
    | error u => cases h; exact ke rfl
    | ok V => cases h; exact ko V rfl
theorem sS_asg (Sn : SndS c k P F G) {i : Nat} {e : PE} : SSt c k P F G (.asg i e) := by
  intro tbl gs ws st hm σ μ r μ' h
  refine xS_asg hm fun x p1 a p2 h1 h2 h3 h4 => ?_
  have h := evs_asg.symm.trans h
  by_cases hc : isPComp e = true
  · obtain ⟨elt, tg, it, cond, caps, q⟩ : ∃ elt tg it cond caps, e = .comp elt tg it cond caps := isPComp_e hc fun _ _ _ _ _ => ⟨_, _, _, _, _, rfl⟩
    rw [q] at h3 h
    refine bindR_e h (fun μ1 e1 => ?_) fun V μ1 e1 h => if_e h fun hlt h => ?_
    · exact bind_e (ev_comp.symm.trans e1) fun p _ h => if_e h fun _ h => bind_e h fun q _ h => by cases h
    · obtain ⟨V', q, hs⟩ := snd_comp (p := p1) (pos := p2) Sn.toSnd h3 e1 (tin_mem h1) (mem_of h2) hlt
      exact ret_e h (by cases q; exact hs)
  · have h4 : isComp a = false := (Bool.or_eq_true_iff.mp h4).elim (fun q => absurd q hc) fun q => (Bool.not_eq_true' _).mp q
    exact bindR_e h (fun μ1 e1 => hs_assign_err (notComp_at h4 _ _) (snd_E Sn.toSnd e h3 e1).1) fun V μ1 e1 h => if_e h fun hlt h => ret_e h (hs_assign (notComp_at h4 _ _) (tin_mem h1) (mem_of h2) hlt (snd_E Sn.toSnd e h3 e1).1)
theorem sS_asgT (Sn : SndS c k P F G) {is : List Nat} {e : PE} : SSt c k P F G (.asgT is e) := by
  intro tbl gs ws st hm σ μ r μ' h
  exact xS_asgT hm fun ts k1 p1 a p2 h1 h2 h3 h4 => bindR_e (evs_asgT.symm.trans h) (fun μ1 e1 => hs_assign_tup_err (notComp_sole h3) (notTup_at h4 _ _ _) (snd_E Sn.toSnd e h2 e1).1) fun V μ1 e1 h => bind_e h fun ds hd h => bind_e h fun σ' hs h => ret_e h
    (hs_assign_tup (notComp_sole h3) (notTup_at h4 _ _ _) (mN_at h1) (asTs_at hd ▸ (snd_E Sn.toSnd e h2 e1).1) hs)
theorem sS_asgD (Sn : SndS c k P F G) {is : List Nat} {es : PL} : SSt c k P F G (.asgD is es) := by
  intro tbl gs ws st hm σ μ r μ' h
  exact xS_asgD hm fun ts k1 p1 as k2 p2 p3 xs hxs h1 h2 h3 h4 h5 h6 => bindO_e (evs_asgD.symm.trans h) fun Vs μ1 e1 h => if_e h fun hc h => ret_e h
    (hs_assign_disp hxs h1 hc.1 (nodupB_at h3) (fun p hp => and_e (List.all_eq_true.mp h2 p hp) fun q1 q2 => ⟨tin_mem q1, mem_of q2, of_decide_eq_true (List.all_eq_true.mp hc.2 p.1 (List.of_mem_zip hp).1)⟩) h4 h5 (snd_L Sn.toSnd es h6 e1))
theorem sS_aug (Sn : SndS c k P F G) {i : Nat} {op : Operator} {e : PE} : SSt c k P F G (.aug i op e) := by
  intro tbl gs ws st hm σ μ r μ' h
  exact xS_aug hm fun x p1 a p2 h1 h2 h3 h4 => bind_e (evs_aug.symm.trans h) fun W hw h => bind_e h fun a' ha h => bindO_e h fun V μ1 e1 h => bind_e h fun b hb h => bind_e h fun z hz h => ret_e h
    (hs_aug (tin_mem h1) (mem_of h2) (asI_at ha ▸ getS_at hw) (okN_at h3).2 (asI_at hb ▸ (snd_E Sn.toSnd e h4 e1).1) hz)
theorem sS_set (Sn : SndS c k P F G) {i : Nat} {ie : PE} {e : PE} : SSt c k P F G (.set i ie e) := by
  intro tbl gs ws st hm σ μ r μ' h
  exact xS_set hm fun x p1 ai p2 a p3 h1 h2 h3 h4 h5 => bind_e (evs_set.symm.trans h) fun W hw h => bind_e h fun j hj h => bindO_e h fun V μ1 e1 h => bindO_e h fun I μ2 e2 h => bind_e h fun d hd h => bind_e h fun i' hi h => bind_e h fun ds hds h => if_e h fun hc h => ret_e h
    (hs_setitem (notComp_at h3 _ _) (asD_at hd ▸ (snd_E Sn.toSnd e h5 e1).1) (snd_loc h1 h2 (asRef_at hj ▸ getS_at hw)) (asI_at hi ▸ (snd_E Sn.toSnd ie h4 e2).1) (getL_at hds) hc.1 hc.2.1 hc.2.2)
theorem sS_expr (Sn : SndS c k P F G) {e : PE} : SSt c k P F G (.expr e) := by
  intro tbl gs ws st hm σ μ r μ' h
  exact xS_expr hm fun a p1 h1 h2 => bindR_e (evs_expr.symm.trans h) (fun μ1 e1 => hs_expr_err (notComp_at h1 _ _) (snd_E Sn.toSnd e h2 e1).1) fun V μ1 e1 h => ret_e h (hs_expr (notComp_at h1 _ _) (snd_E Sn.toSnd e h2 e1).1)
theorem sS_ret (Sn : SndS c k P F G) {e : PE} : SSt c k P F G (.ret e) := by
  intro tbl gs ws st hm σ μ r μ' h
  exact xS_ret hm fun a p1 hm => bindR_e (evs_ret.symm.trans h) (fun μ1 e1 => hs_return_err (snd_E Sn.toSnd e hm e1).1) fun V μ1 e1 h => ret_e h (hs_return (snd_E Sn.toSnd e hm e1).1)
theorem sS_ret0 (Sn : SndS c k P F G) : SSt c k P F G .ret0 := by
  intro tbl gs ws st hm σ μ r μ' h
  exact xS_ret0 hm fun p1 => ret_e (evs_ret0.symm.trans h) hs_return0
theorem sS_ife (Sn : SndS c k P F G) {t : PE} {a : PB} {b : PB} (iha : SBk c k P F G a) (ihb : SBk c k P F G b) : SSt c k P F G (.ife t a b) := by
  intro tbl gs ws st hm σ μ r μ' h
  exact xS_ife hm fun at_ as bs p1 h0 h1 h2 h3 => bindT_e (evs_ife.symm.trans h) (fun μ1 e1 => hs_if_err ((snd_E Sn.toSnd t h1 e1).terr h0)) fun z μ1 e1 h => hs_if ((snd_E Sn.toSnd t h1 e1).tok h0) (by cases z with | true => exact iha h2 h | false => exact ihb h3 h)
theorem sS_for_ (Sn : SndS c k P F G) {tg : Tg} {it : PI} {b : PB} (ihb : SBk c k P F G b) : SSt c k P F G (.for_ tg it b) := by
  intro tbl gs ws st hm σ μ r μ' h
  exact xS_for hm fun target iter body p1 h1 h2 h3 => bind_e (evs_for_.symm.trans h) fun p hi h => hs_for (snd_I Sn.toSnd it h2 hi).2 (snd_I Sn.toSnd it h2 hi).1 (mT_at h1) (fun σ μ r μ' q => ihb h3 q) h
theorem sS_raise (Sn : SndS c k P F G) {msg : Str} : SSt c k P F G (.raise msg) := by
  intro tbl gs ws st hm σ μ r μ' h
  refine xS_raise hm fun p1 m k1 p2 p3 p4 h2 => ret_e (evs_raise.symm.trans h) ?_
  obtain ⟨k', hk⟩ : ∃ k', k = k' + 3 := ⟨k - 3, (Nat.sub_add_cancel Sn.hk).symm⟩
  rw [hk]
  exact Sn.rs _ _ _ _ _ _ _ _ _ _ _ _ (gin_mem h2)
theorem sS_tryr (Sn : SndS c k P F G) {e : PE} : SSt c k P F G (.tryr e) := by
  intro tbl gs ws st hm σ μ r μ' h
  exact xS_tryr hm fun a p1 p2 k1 p3 p4 p5 p6 h2 h3 => tryK_e (evs_tryr.symm.trans h) (fun V e1 => hs_try_ok (snd_E Sn.toSnd e h3 e1).1) fun e1 => hs_try_err Sn.ok Sn.rc (gin_mem h2) Sn.run (by decide +kernel) (snd_E Sn.toSnd e h3 e1).1
theorem sK_nil (Sn : SndS c k P F G) : SBk c k P F G .nil := by
  intro tbl gs ws ss hm σ μ r μ' h
  exact nil_e (show ss.isEmpty = true from hm) (ret_e (evk_nil.symm.trans h) hs_nil)
theorem sK_cons (Sn : SndS c k P F G) {s : PS} {b : PB} (ihs : SSt c k P F G s) (ihb : SBk c k P F G b) : SBk c k P F G (.cons s b) := by
  intro tbl gs ws ss hm σ μ r μ' h
  refine xB_cons hm fun st rest h1 h2 => ?_
  obtain ⟨rb, μ1, e1, h3⟩ := thenK_at (evk_cons.symm.trans h)
  rcases h3 with ⟨σ1, q, e2⟩ | ⟨q1, q2, q3⟩
  · exact hs_cons_next (ihs h1 (q ▸ e1)) (ihb h2 e2)
  · exact q2 ▸ q1 ▸ hs_cons_stop (ihs h1 e1) q3
theorem snd_Bk (Sn : SndS c k P F G) (b : PB) : SBk c k P F G b := PB.rec (motive_1 := SSt c k P F G) (motive_2 := SBk c k P F G)
  (fun _ _  => sS_asg Sn )
  (fun _ _  => sS_asgT Sn )
  (fun _ _  => sS_asgD Sn )
  (fun _ _ _  => sS_aug Sn )
  (fun _ _ _  => sS_set Sn )
  (fun _  => sS_expr Sn )
  (fun _  => sS_ret Sn )
  (sS_ret0 Sn)
  (fun _ _ _ h1 h2 => sS_ife Sn h1 h2)
  (fun _ _ _ h2 => sS_for_ Sn h2)
  (fun _  => sS_raise Sn )
  (fun _  => sS_tryr Sn )
  (sK_nil Sn)
  (fun _ _ h1 h2 => sK_cons Sn h1 h2) b
theorem snd_S (Sn : SndS c k P F G) (s : PS) : SSt c k P F G s := PS.casesOn (motive_1 := SSt c k P F G) s
  (fun _ _ => sS_asg Sn )
  (fun _ _ => sS_asgT Sn )
  (fun _ _ => sS_asgD Sn )
  (fun _ _ _ => sS_aug Sn )
  (fun _ _ _ => sS_set Sn )
  (fun _ => sS_expr Sn )
  (fun _ => sS_ret Sn )
  (sS_ret0 Sn)
  (fun _ x1 x2 => sS_ife Sn (snd_Bk Sn x1) (snd_Bk Sn x2))
  (fun _ _ x2 => sS_for_ Sn (snd_Bk Sn x2))
  (fun _ => sS_raise Sn )
  (fun _ => sS_tryr Sn )
end
end Mine
end
section
open PySem PySem.W PyProof.Rows PySem.Calls
set_option maxRecDepth 100000
namespace Mine
noncomputable def fnmL : List Str := [Str.ofString "units_of", Str.ofString "need_units", Str.ofString "read_cell", Str.ofString "load_number", Str.ofString "store_number", Str.ofString "load_text", Str.ofString "store_text", Str.ofString "pad", Str.ofString "unit_size", Str.ofString "extent", Str.ofString "element_place", Str.ofString "sub_place", Str.ofString "elements_of", Str.ofString "held_elements", Str.ofString "span_of", Str.ofString "undefine_cells", Str.ofString "_law_bead", Str.ofString "_law_spot", Str.ofString "_law_cut", Str.ofString "_law_held", Str.ofString "_law_all_held", Str.ofString "_law_places_right", Str.ofString "_law_rows_right", Str.ofString "_law_storage_right", Str.ofString "_law_texts_right", Str.ofString "_law_turn", Str.ofString "law", Str.ofString "Memory"]
noncomputable def fnm (f : Nat) : Option Str := fnmL[f]?
noncomputable def mnmL : List Str := [Str.ofString "load", Str.ofString "store", Str.ofString "undefine"]
noncomputable def mnm (f : Nat) : Option Str := mnmL[f]?
noncomputable def gvl (x : Str) : Option Int := ([((Str.ofString "REAL"), 1), ((Str.ofString "DOUBLE"), 2), ((Str.ofString "COMPLEX"), 3), ((Str.ofString "CHARACTER"), 5), ((Str.ofString "SECOND"), 6)] : List (Str × Int)).lookup x
noncomputable def thePrg : Prg := ⟨fnm, mnm, gvl⟩
noncomputable def ir_units_of : PB := (.cons (.ife (.cmp .Eq (.loc 0) (.glc (Str.ofString "CHARACTER") 5)) (.cons (.ret (.const (.int 0))) .nil) .nil) (.cons (.ife (.bop .Or (.cons (.cmp .Eq (.loc 0) (.glc (Str.ofString "DOUBLE") 2)) (.cons (.cmp .Eq (.loc 0) (.glc (Str.ofString "COMPLEX") 3)) .nil))) (.cons (.ret (.const (.int 2))) .nil) .nil) (.cons (.ret (.const (.int 1))) .nil)))
noncomputable def tb_units_of : Tbl := [(0, (Str.ofString "kind"))]
noncomputable def pr_units_of : List Str := [(Str.ofString "kind")]
noncomputable def nn_units_of : Nat := 1
noncomputable def ir_need_units : PB := (.cons (.ife (.bop .Or (.cons (.cmp .Lt (.loc 1) (.const (.int 0))) (.cons (.cmp .Gt (.bin .Add (.loc 1) (.loc 2)) (.bi .len (.loc 0))) .nil))) (.cons (.raise (Str.ofString "storage")) .nil) .nil) .nil)
noncomputable def tb_need_units : Tbl := [(0, (Str.ofString "cells")), (1, (Str.ofString "address")), (2, (Str.ofString "count"))]
noncomputable def pr_need_units : List Str := [(Str.ofString "cells"), (Str.ofString "address"), (Str.ofString "count")]
noncomputable def nn_need_units : Nat := 3
noncomputable def ir_read_cell : PB := (.cons (.asg 3 (.sub (.loc 0) (.loc 1))) (.cons (.ife (.bop .Or (.cons (.cmp .Is (.loc 3) (.const .none)) (.cons (.cmp .NotEq (.sub (.loc 3) (.const (.int 0))) (.loc 2)) .nil))) (.cons (.raise (Str.ofString "undefined")) .nil) .nil) (.cons (.ret (.sub (.loc 3) (.const (.int 1)))) .nil)))
noncomputable def tb_read_cell : Tbl := [(0, (Str.ofString "cells")), (1, (Str.ofString "address")), (2, (Str.ofString "tag")), (3, (Str.ofString "cell"))]
noncomputable def pr_read_cell : List Str := [(Str.ofString "cells"), (Str.ofString "address"), (Str.ofString "tag")]
noncomputable def nn_read_cell : Nat := 4
noncomputable def ir_load_number : PB := (.cons (.expr (.call 1 (.cons (.loc 0) (.cons (.loc 2) (.cons (.call 0 (.cons (.loc 1) .nil)) .nil))))) (.cons (.ife (.cmp .Eq (.loc 1) (.glc (Str.ofString "COMPLEX") 3)) (.cons (.ret (.tup (.cons (.call 2 (.cons (.loc 0) (.cons (.loc 2) (.cons (.glc (Str.ofString "REAL") 1) .nil)))) (.cons (.call 2 (.cons (.loc 0) (.cons (.bin .Add (.loc 2) (.const (.int 1))) (.cons (.glc (Str.ofString "REAL") 1) .nil)))) .nil)))) .nil) .nil) (.cons (.asg 3 (.call 2 (.cons (.loc 0) (.cons (.loc 2) (.cons (.loc 1) .nil))))) (.cons (.ife (.cmp .Eq (.loc 1) (.glc (Str.ofString "DOUBLE") 2)) (.cons (.expr (.call 2 (.cons (.loc 0) (.cons (.bin .Add (.loc 2) (.const (.int 1))) (.cons (.glc (Str.ofString "SECOND") 6) .nil))))) .nil) .nil) (.cons (.ret (.loc 3)) .nil)))))
noncomputable def tb_load_number : Tbl := [(0, (Str.ofString "cells")), (1, (Str.ofString "kind")), (2, (Str.ofString "address")), (3, (Str.ofString "value"))]
noncomputable def pr_load_number : List Str := [(Str.ofString "cells"), (Str.ofString "kind"), (Str.ofString "address")]
noncomputable def nn_load_number : Nat := 4
noncomputable def ir_store_number : PB := (.cons (.expr (.call 1 (.cons (.loc 0) (.cons (.loc 2) (.cons (.call 0 (.cons (.loc 1) .nil)) .nil))))) (.cons (.ife (.cmp .Eq (.loc 1) (.glc (Str.ofString "COMPLEX") 3)) (.cons (.set 0 (.loc 2) (.tup (.cons (.glc (Str.ofString "REAL") 1) (.cons (.sub (.loc 3) (.const (.int 0))) .nil)))) (.cons (.set 0 (.bin .Add (.loc 2) (.const (.int 1))) (.tup (.cons (.glc (Str.ofString "REAL") 1) (.cons (.sub (.loc 3) (.const (.int 1))) .nil)))) (.cons .ret0 .nil))) .nil) (.cons (.set 0 (.loc 2) (.tup (.cons (.loc 1) (.cons (.loc 3) .nil)))) (.cons (.ife (.cmp .Eq (.loc 1) (.glc (Str.ofString "DOUBLE") 2)) (.cons (.set 0 (.bin .Add (.loc 2) (.const (.int 1))) (.tup (.cons (.glc (Str.ofString "SECOND") 6) (.cons (.loc 3) .nil)))) .nil) .nil) .nil))))
noncomputable def tb_store_number : Tbl := [(0, (Str.ofString "cells")), (1, (Str.ofString "kind")), (2, (Str.ofString "address")), (3, (Str.ofString "value"))]
noncomputable def pr_store_number : List Str := [(Str.ofString "cells"), (Str.ofString "kind"), (Str.ofString "address"), (Str.ofString "value")]
noncomputable def nn_store_number : Nat := 4
noncomputable def ir_load_text : PB := (.cons (.expr (.call 1 (.cons (.loc 0) (.cons (.loc 1) (.cons (.loc 2) .nil))))) (.cons (.asg 3 (.slc (.loc 0) (.loc 1) (.bin .Add (.loc 1) (.loc 2)))) (.cons (.ife (.cmp .In (.const .none) (.loc 3)) (.cons (.raise (Str.ofString "undefined")) .nil) .nil) (.cons (.ret (.join (.const (.str (Str.ofString ""))) (.loc 3))) .nil))))
noncomputable def tb_load_text : Tbl := [(0, (Str.ofString "cells")), (1, (Str.ofString "address")), (2, (Str.ofString "length")), (3, (Str.ofString "signs"))]
noncomputable def pr_load_text : List Str := [(Str.ofString "cells"), (Str.ofString "address"), (Str.ofString "length")]
noncomputable def nn_load_text : Nat := 4
noncomputable def lp_store_text_0 : PB := (.cons (.set 0 (.bin .Add (.loc 1) (.loc 3)) (.sub (.loc 2) (.loc 3))) .nil)
noncomputable def ir_store_text : PB := (.cons (.expr (.call 1 (.cons (.loc 0) (.cons (.loc 1) (.cons (.bi .len (.loc 2)) .nil))))) (.cons (.for_ (.one 3) (.rng1 (.bi .len (.loc 2))) lp_store_text_0) .nil))
noncomputable def tb_store_text : Tbl := [(0, (Str.ofString "cells")), (1, (Str.ofString "address")), (2, (Str.ofString "text")), (3, (Str.ofString "k"))]
noncomputable def pr_store_text : List Str := [(Str.ofString "cells"), (Str.ofString "address"), (Str.ofString "text")]
noncomputable def nn_store_text : Nat := 4
noncomputable def ir_pad : PB := (.cons (.ret (.bin .Add (.slc (.loc 0) .absent (.loc 1)) (.bin .Mult (.const (.str (Str.ofString " "))) (.bin .Sub (.loc 1) (.bi .len (.loc 0)))))) .nil)
noncomputable def tb_pad : Tbl := [(0, (Str.ofString "text")), (1, (Str.ofString "length"))]
noncomputable def pr_pad : List Str := [(Str.ofString "text"), (Str.ofString "length")]
noncomputable def nn_pad : Nat := 2
noncomputable def ir_unit_size : PB := (.cons (.ife (.cmp .Eq (.loc 0) (.glc (Str.ofString "CHARACTER") 5)) (.cons (.ret (.loc 1)) .nil) .nil) (.cons (.ret (.call 0 (.cons (.loc 0) .nil))) .nil))
noncomputable def tb_unit_size : Tbl := [(0, (Str.ofString "kind")), (1, (Str.ofString "length"))]
noncomputable def pr_unit_size : List Str := [(Str.ofString "kind"), (Str.ofString "length")]
noncomputable def nn_unit_size : Nat := 2
noncomputable def lp_extent_0 : PB := (.cons (.ife (.cmp .Is (.loc 3) (.const .none)) (.cons (.ret (.const .none)) .nil) .nil) (.cons (.aug 1 .Mult (.bin .Add (.bin .Sub (.loc 3) (.loc 2)) (.const (.int 1)))) .nil))
noncomputable def ir_extent : PB := (.cons (.asg 1 (.const (.int 1))) (.cons (.for_ (.tup [2, 3]) (.tup (.loc 0)) lp_extent_0) (.cons (.ret (.loc 1)) .nil)))
noncomputable def tb_extent : Tbl := [(0, (Str.ofString "dims")), (1, (Str.ofString "count")), (2, (Str.ofString "low")), (3, (Str.ofString "high"))]
noncomputable def pr_extent : List Str := [(Str.ofString "dims")]
noncomputable def nn_extent : Nat := 4
noncomputable def lp_element_place_0 : PB := (.cons (.asgT [9, 10] (.sub (.loc 5) (.loc 8))) (.cons (.ife (.bop .Or (.cons (.cmp .Lt (.sub (.loc 1) (.loc 8)) (.loc 9)) (.cons (.bop .And (.cons (.cmp .IsNot (.loc 10) (.const .none)) (.cons (.cmp .Gt (.sub (.loc 1) (.loc 8)) (.loc 10)) .nil))) .nil))) (.cons (.raise (Str.ofString "subscript")) .nil) .nil) (.cons (.aug 6 .Add (.bin .Mult (.bin .Sub (.sub (.loc 1) (.loc 8)) (.loc 9)) (.loc 7))) (.cons (.ife (.cmp .IsNot (.loc 10) (.const .none)) (.cons (.aug 7 .Mult (.bin .Add (.bin .Sub (.loc 10) (.loc 9)) (.const (.int 1)))) .nil) .nil) .nil))))
noncomputable def ir_element_place : PB := (.cons (.asgT [2, 3, 4, 5] (.loc 0)) (.cons (.ife (.cmp .NotEq (.bi .len (.loc 1)) (.bi .len (.loc 5))) (.cons (.raise (Str.ofString "subscript")) .nil) .nil) (.cons (.asg 6 (.const (.int 0))) (.cons (.asg 7 (.const (.int 1))) (.cons (.for_ (.one 8) (.rng1 (.bi .len (.loc 5))) lp_element_place_0) (.cons (.ret (.tup (.cons (.loc 2) (.cons (.bin .Add (.loc 3) (.bin .Mult (.loc 6) (.call 8 (.cons (.loc 2) (.cons (.loc 4) .nil))))) (.cons (.loc 4) (.cons (.tup .nil) .nil)))))) .nil))))))
noncomputable def tb_element_place : Tbl := [(0, (Str.ofString "place")), (1, (Str.ofString "subscripts")), (2, (Str.ofString "kind")), (3, (Str.ofString "address")), (4, (Str.ofString "length")), (5, (Str.ofString "dims")), (6, (Str.ofString "offset")), (7, (Str.ofString "stride")), (8, (Str.ofString "k")), (9, (Str.ofString "low")), (10, (Str.ofString "high"))]
noncomputable def pr_element_place : List Str := [(Str.ofString "place"), (Str.ofString "subscripts")]
noncomputable def nn_element_place : Nat := 11
noncomputable def ir_sub_place : PB := (.cons (.asg 3 (.ite (.cmp .Is (.loc 1) (.const .none)) (.const (.int 1)) (.loc 1))) (.cons (.asg 4 (.ite (.cmp .Is (.loc 2) (.const .none)) (.sub (.loc 0) (.const (.int 2))) (.loc 2))) (.cons (.ife (.bop .Or (.cons (.cmp .Lt (.loc 3) (.const (.int 1))) (.cons (.cmp .Lt (.loc 4) (.loc 3)) (.cons (.cmp .Gt (.loc 4) (.sub (.loc 0) (.const (.int 2)))) .nil)))) (.cons (.raise (Str.ofString "substring")) .nil) .nil) (.cons (.ret (.tup (.cons (.glc (Str.ofString "CHARACTER") 5) (.cons (.bin .Sub (.bin .Add (.sub (.loc 0) (.const (.int 1))) (.loc 3)) (.const (.int 1))) (.cons (.bin .Add (.bin .Sub (.loc 4) (.loc 3)) (.const (.int 1))) (.cons (.tup .nil) .nil)))))) .nil))))
noncomputable def tb_sub_place : Tbl := [(0, (Str.ofString "place")), (1, (Str.ofString "lo")), (2, (Str.ofString "hi")), (3, (Str.ofString "first")), (4, (Str.ofString "last"))]
noncomputable def pr_sub_place : List Str := [(Str.ofString "place"), (Str.ofString "lo"), (Str.ofString "hi")]
noncomputable def nn_sub_place : Nat := 5
noncomputable def el_elements_of_0 : PE := (.tup (.cons (.loc 1) (.cons (.bin .Add (.loc 2) (.bin .Mult (.loc 7) (.loc 6))) (.cons (.loc 3) (.cons (.tup .nil) .nil)))))
noncomputable def ir_elements_of : PB := (.cons (.asgT [1, 2, 3, 4] (.loc 0)) (.cons (.asg 5 (.call 9 (.cons (.loc 4) .nil))) (.cons (.ife (.cmp .Is (.loc 5) (.const .none)) (.cons (.raise (Str.ofString "assumed size")) .nil) .nil) (.cons (.asg 6 (.call 8 (.cons (.loc 1) (.cons (.loc 3) .nil)))) (.cons (.ret (.comp el_elements_of_0 (.one 7) (.rng1 (.loc 5)) .absent [1, 2, 6, 3])) .nil)))))
noncomputable def tb_elements_of : Tbl := [(0, (Str.ofString "place")), (1, (Str.ofString "kind")), (2, (Str.ofString "address")), (3, (Str.ofString "length")), (4, (Str.ofString "dims")), (5, (Str.ofString "count")), (6, (Str.ofString "width"))]
noncomputable def pr_elements_of : List Str := [(Str.ofString "place")]
noncomputable def nn_elements_of : Nat := 8
noncomputable def ir_held_elements : PB := (.cons (.asgT [2, 3, 4] (.call 14 (.cons (.loc 1) .nil))) (.cons (.ife (.cmp .IsNot (.call 9 (.cons (.sub (.loc 1) (.const (.int 3))) .nil)) (.const .none)) (.cons (.expr (.call 1 (.cons (.ite (.loc 2) (.attr 0 false) (.attr 0 true)) (.cons (.loc 3) (.cons (.bin .Sub (.loc 4) (.loc 3)) .nil))))) .nil) .nil) (.cons (.ret (.call 12 (.cons (.loc 1) .nil))) .nil)))
noncomputable def tb_held_elements : Tbl := [(0, (Str.ofString "memory")), (1, (Str.ofString "place")), (2, (Str.ofString "is_character")), (3, (Str.ofString "low")), (4, (Str.ofString "high"))]
noncomputable def pr_held_elements : List Str := [(Str.ofString "memory"), (Str.ofString "place")]
noncomputable def nn_held_elements : Nat := 5
noncomputable def ir_span_of : PB := (.cons (.asgT [1, 2, 3, 4] (.loc 0)) (.cons (.asg 5 (.call 9 (.cons (.loc 4) .nil))) (.cons (.ife (.cmp .Is (.loc 5) (.const .none)) (.cons (.asg 5 (.const (.int 1))) .nil) .nil) (.cons (.ret (.tup (.cons (.cmp .Eq (.loc 1) (.glc (Str.ofString "CHARACTER") 5)) (.cons (.loc 2) (.cons (.bin .Add (.loc 2) (.bin .Mult (.loc 5) (.call 8 (.cons (.loc 1) (.cons (.loc 3) .nil))))) .nil))))) .nil))))
noncomputable def tb_span_of : Tbl := [(0, (Str.ofString "place")), (1, (Str.ofString "kind")), (2, (Str.ofString "address")), (3, (Str.ofString "length")), (4, (Str.ofString "dims")), (5, (Str.ofString "count"))]
noncomputable def pr_span_of : List Str := [(Str.ofString "place")]
noncomputable def nn_span_of : Nat := 6
noncomputable def lp_undefine_cells_0 : PB := (.cons (.set 4 (.loc 5) (.const .none)) .nil)
noncomputable def ir_undefine_cells : PB := (.cons (.asg 4 (.ite (.loc 1) (.attr 0 false) (.attr 0 true))) (.cons (.expr (.call 1 (.cons (.loc 4) (.cons (.loc 2) (.cons (.bin .Sub (.loc 3) (.loc 2)) .nil))))) (.cons (.for_ (.one 5) (.rng2 (.loc 2) (.loc 3)) lp_undefine_cells_0) .nil)))
noncomputable def tb_undefine_cells : Tbl := [(0, (Str.ofString "memory")), (1, (Str.ofString "is_character")), (2, (Str.ofString "low")), (3, (Str.ofString "high")), (4, (Str.ofString "cells")), (5, (Str.ofString "k"))]
noncomputable def pr_undefine_cells : List Str := [(Str.ofString "memory"), (Str.ofString "is_character"), (Str.ofString "low"), (Str.ofString "high")]
noncomputable def nn_undefine_cells : Nat := 6
noncomputable def ir__law_spot : PB := (.cons (.tryr (.call 10 (.cons (.loc 0) (.cons (.loc 1) .nil)))) .nil)
noncomputable def tb__law_spot : Tbl := [(0, (Str.ofString "place")), (1, (Str.ofString "subscripts"))]
noncomputable def pr__law_spot : List Str := [(Str.ofString "place"), (Str.ofString "subscripts")]
noncomputable def nn__law_spot : Nat := 2
noncomputable def ir__law_cut : PB := (.cons (.tryr (.call 11 (.cons (.loc 0) (.cons (.loc 1) (.cons (.loc 2) .nil))))) .nil)
noncomputable def tb__law_cut : Tbl := [(0, (Str.ofString "place")), (1, (Str.ofString "low")), (2, (Str.ofString "high"))]
noncomputable def pr__law_cut : List Str := [(Str.ofString "place"), (Str.ofString "low"), (Str.ofString "high")]
noncomputable def nn__law_cut : Nat := 3
noncomputable def ir__law_held : PB := (.cons (.tryr (.meth 0 0 (.cons (.loc 1) .nil))) .nil)
noncomputable def tb__law_held : Tbl := [(0, (Str.ofString "memory")), (1, (Str.ofString "place"))]
noncomputable def pr__law_held : List Str := [(Str.ofString "memory"), (Str.ofString "place")]
noncomputable def nn__law_held : Nat := 2
noncomputable def ir__law_all_held : PB := (.cons (.asg 2 (.ite (.cmp .Eq (.sub (.loc 0) (.const (.int 0))) (.const (.int 5))) (.call 27 (.cons (.const (.int 0)) (.cons (.loc 1) .nil))) (.call 27 (.cons (.loc 1) (.cons (.const (.int 0)) .nil))))) (.cons (.tryr (.call 13 (.cons (.loc 2) (.cons (.loc 0) .nil)))) .nil))
noncomputable def tb__law_all_held : Tbl := [(0, (Str.ofString "place")), (1, (Str.ofString "units")), (2, (Str.ofString "memory"))]
noncomputable def pr__law_all_held : List Str := [(Str.ofString "place"), (Str.ofString "units")]
noncomputable def nn__law_all_held : Nat := 3
noncomputable def el__law_places_right_0 : PE := (.loc 19)
noncomputable def cd__law_places_right_1 : PE := (.cmp .NotEq (.sub (.loc 1) (.loc 19)) (.sub (.loc 2) (.loc 19)))
noncomputable def el__law_places_right_2 : PE := (.tup (.cons (.bin .Add (.loc 20) (.loc 5)) (.cons (.bin .Add (.loc 21) (.loc 5)) .nil)))
noncomputable def el__law_places_right_3 : PE := (.bin .Add (.sub (.loc 1) (.loc 22)) (.loc 5))
noncomputable def lp__law_places_right_4 : PB := (.cons (.ife (.cmp .IsNot (.call 17 (.cons (.loc 0) (.cons (.bin .Add (.bin .Add (.slc (.loc 1) .absent (.loc 17)) (.lst (.cons (.loc 18) .nil))) (.slc (.loc 1) (.bin .Add (.loc 17) (.const (.int 1))) .absent)) .nil))) (.const .none)) (.cons (.ret (.const (.bool false))) .nil) .nil) .nil)
noncomputable def lp__law_places_right_5 : PB := (.cons (.for_ (.one 18) (.tup (.tup (.cons (.bin .Sub (.sub (.sub (.loc 9) (.loc 17)) (.const (.int 0))) (.const (.int 1))) (.cons (.bin .Add (.sub (.sub (.loc 9) (.loc 17)) (.const (.int 1))) (.const (.int 1))) .nil)))) lp__law_places_right_4) .nil)
noncomputable def ir__law_places_right : PB := (.cons (.asgT [6, 7, 8, 9] (.loc 0)) (.cons (.asgD [10, 11] (.cons (.call 17 (.cons (.loc 0) (.cons (.loc 1) .nil))) (.cons (.call 17 (.cons (.loc 0) (.cons (.loc 2) .nil))) .nil))) (.cons (.ife (.bop .Or (.cons (.cmp .Is (.loc 10) (.const .none)) (.cons (.cmp .Is (.loc 11) (.const .none)) (.cons (.cmp .NotEq (.tup (.cons (.sub (.loc 10) (.const (.int 0))) (.cons (.sub (.loc 10) (.const (.int 2))) (.cons (.sub (.loc 10) (.const (.int 3))) .nil)))) (.tup (.cons (.loc 6) (.cons (.loc 8) (.cons (.tup .nil) .nil))))) .nil)))) (.cons (.ret (.const (.bool false))) .nil) .nil) (.cons (.ife (.bop .Or (.cons (.cmp .NotEq (.cmp .Eq (.loc 10) (.loc 11)) (.cmp .Eq (.loc 1) (.loc 2))) (.cons (.bop .And (.cons (.cmp .NotEq (.loc 1) (.loc 2)) (.cons (.cmp .Lt (.bi .abs (.bin .Sub (.sub (.loc 10) (.const (.int 1))) (.sub (.loc 11) (.const (.int 1))))) (.loc 3)) .nil))) .nil))) (.cons (.ret (.const (.bool false))) .nil) .nil) (.cons (.asg 12 (.comp el__law_places_right_0 (.one 19) (.rng1 (.bi .len (.loc 9))) cd__law_places_right_1 [1, 2])) (.cons (.ife (.bop .And (.cons (.cmp .NotEq (.loc 12) (.lst .nil)) (.cons (.cmp .NotEq (.cmp .Lt (.sub (.loc 10) (.const (.int 1))) (.sub (.loc 11) (.const (.int 1)))) (.cmp .Lt (.sub (.loc 1) (.sub (.loc 12) (.neg 1))) (.sub (.loc 2) (.sub (.loc 12) (.neg 1))))) .nil))) (.cons (.ret (.const (.bool false))) .nil) .nil) (.cons (.asg 13 (.tup (.cons (.loc 6) (.cons (.loc 7) (.cons (.loc 8) (.cons (.bi .tup (.comp el__law_places_right_2 (.tup [20, 21]) (.tup (.loc 9)) .absent [5])) .nil)))))) (.cons (.ife (.cmp .NotEq (.call 17 (.cons (.loc 13) (.cons (.comp el__law_places_right_3 (.one 22) (.rng1 (.bi .len (.loc 9))) .absent [1, 5]) .nil))) (.loc 10)) (.cons (.ret (.const (.bool false))) .nil) .nil) (.cons (.asgT [14, 15] (.sub (.loc 9) (.neg 1))) (.cons (.asg 16 (.tup (.cons (.loc 6) (.cons (.loc 7) (.cons (.loc 8) (.cons (.bin .Add (.slc (.loc 9) .absent (.neg 1)) (.tup (.cons (.tup (.cons (.loc 14) (.cons (.const .none) .nil))) .nil))) .nil)))))) (.cons (.ife (.bop .Or (.cons (.cmp .NotEq (.call 17 (.cons (.loc 16) (.cons (.loc 1) .nil))) (.loc 10)) (.cons (.cmp .IsNot (.call 17 (.cons (.loc 16) (.cons (.bin .Add (.slc (.loc 1) .absent (.neg 1)) (.lst (.cons (.bin .Sub (.loc 14) (.const (.int 1))) .nil))) .nil))) (.const .none)) .nil))) (.cons (.ret (.const (.bool false))) .nil) .nil) (.cons (.ife (.cmp .NotEq (.call 17 (.cons (.loc 16) (.cons (.bin .Add (.slc (.loc 1) .absent (.neg 1)) (.lst (.cons (.bin .Add (.bin .Sub (.bin .Add (.sub (.loc 1) (.neg 1)) (.loc 15)) (.loc 14)) (.const (.int 1))) .nil))) .nil))) (.tup (.cons (.loc 6) (.cons (.bin .Add (.sub (.loc 10) (.const (.int 1))) (.loc 4)) (.cons (.loc 8) (.cons (.tup .nil) .nil)))))) (.cons (.ret (.const (.bool false))) .nil) .nil) (.cons (.for_ (.one 17) (.rng1 (.bi .len (.loc 9))) lp__law_places_right_5) (.cons (.ret (.bop .And (.cons (.cmp .Is (.call 17 (.cons (.loc 0) (.cons (.slc (.loc 1) .absent (.neg 1)) .nil))) (.const .none)) (.cons (.cmp .Is (.call 17 (.cons (.loc 0) (.cons (.bin .Add (.loc 1) (.lst (.cons (.sub (.loc 1) (.const (.int 0))) .nil))) .nil))) (.const .none)) .nil)))) .nil))))))))))))))
noncomputable def tb__law_places_right : Tbl := [(0, (Str.ofString "place")), (1, (Str.ofString "one")), (2, (Str.ofString "other")), (3, (Str.ofString "wide")), (4, (Str.ofString "whole")), (5, (Str.ofString "shift")), (6, (Str.ofString "kind")), (7, (Str.ofString "at")), (8, (Str.ofString "length")), (9, (Str.ofString "dims")), (10, (Str.ofString "x")), (11, (Str.ofString "y")), (12, (Str.ofString "apart")), (13, (Str.ofString "carried")), (14, (Str.ofString "low")), (15, (Str.ofString "high")), (16, (Str.ofString "free")), (17, (Str.ofString "k")), (18, (Str.ofString "beyond"))]
noncomputable def pr__law_places_right : List Str := [(Str.ofString "place"), (Str.ofString "one"), (Str.ofString "other"), (Str.ofString "wide"), (Str.ofString "whole"), (Str.ofString "shift")]
noncomputable def nn__law_places_right : Nat := 23
noncomputable def el__law_rows_right_0 : PE := (.sub (.loc 12) (.const (.int 0)))
noncomputable def el__law_rows_right_1 : PE := (.sub (.loc 13) (.const (.int 1)))
noncomputable def el__law_rows_right_2 : PE := (.loc 14)
noncomputable def cd__law_rows_right_3 : PE := (.cmp .NotEq (.sub (.sub (.loc 8) (.loc 14)) (.const (.int 1))) (.bin .Add (.sub (.sub (.loc 8) (.bin .Sub (.loc 14) (.const (.int 1)))) (.const (.int 1))) (.loc 2)))
noncomputable def ir__law_rows_right : PB := (.cons (.asgT [4, 5, 6, 7] (.loc 0)) (.cons (.asg 8 (.call 12 (.cons (.loc 0) .nil))) (.cons (.asgD [9, 10] (.cons (.call 17 (.cons (.loc 0) (.cons (.comp el__law_rows_right_0 (.one 12) (.tup (.loc 7)) .absent []) .nil))) (.cons (.call 17 (.cons (.loc 0) (.cons (.comp el__law_rows_right_1 (.one 13) (.tup (.loc 7)) .absent []) .nil))) .nil))) (.cons (.asg 11 (.call 17 (.cons (.loc 0) (.cons (.loc 1) .nil)))) (.cons (.ife (.bop .Or (.cons (.cmp .NotEq (.bin .Mult (.bi .len (.loc 8)) (.loc 2)) (.loc 3)) (.cons (.cmp .NotEq (.sub (.loc 8) (.const (.int 0))) (.loc 9)) (.cons (.cmp .NotEq (.sub (.loc 8) (.neg 1)) (.loc 10)) (.cons (.cmp .NotEq (.cnt (.loc 8) (.loc 11)) (.const (.int 1))) .nil))))) (.cons (.ret (.const (.bool false))) .nil) .nil) (.cons (.ife (.bop .Or (.cons (.cmp .NotEq (.loc 9) (.tup (.cons (.loc 4) (.cons (.loc 5) (.cons (.loc 6) (.cons (.tup .nil) .nil)))))) (.cons (.cmp .NotEq (.bin .Add (.sub (.loc 10) (.const (.int 1))) (.loc 2)) (.bin .Add (.loc 5) (.loc 3))) .nil))) (.cons (.ret (.const (.bool false))) .nil) .nil) (.cons (.ife (.cmp .NotEq (.comp el__law_rows_right_2 (.one 14) (.rng2 (.const (.int 1)) (.bi .len (.loc 8))) cd__law_rows_right_3 [8, 2]) (.lst .nil)) (.cons (.ret (.const (.bool false))) .nil) .nil) (.cons (.ife (.bop .And (.cons (.cmp .Lt (.sub (.loc 1) (.const (.int 0))) (.sub (.sub (.loc 7) (.const (.int 0))) (.const (.int 1)))) (.cons (.cmp .NotEq (.call 17 (.cons (.loc 0) (.cons (.bin .Add (.lst (.cons (.bin .Add (.sub (.loc 1) (.const (.int 0))) (.const (.int 1))) .nil)) (.slc (.loc 1) (.const (.int 1)) .absent)) .nil))) (.sub (.loc 8) (.bin .Add (.idx (.loc 8) (.loc 11)) (.const (.int 1))))) .nil))) (.cons (.ret (.const (.bool false))) .nil) .nil) (.cons (.ret (.bop .And (.cons (.cmp .Eq (.call 20 (.cons (.loc 0) (.cons (.bin .Add (.loc 5) (.loc 3)) .nil))) (.loc 8)) (.cons (.cmp .Is (.call 20 (.cons (.loc 0) (.cons (.bin .Sub (.bin .Add (.loc 5) (.loc 3)) (.const (.int 1))) .nil))) (.const .none)) .nil)))) .nil)))))))))
noncomputable def tb__law_rows_right : Tbl := [(0, (Str.ofString "place")), (1, (Str.ofString "one")), (2, (Str.ofString "wide")), (3, (Str.ofString "whole")), (4, (Str.ofString "kind")), (5, (Str.ofString "at")), (6, (Str.ofString "length")), (7, (Str.ofString "dims")), (8, (Str.ofString "rows")), (9, (Str.ofString "first")), (10, (Str.ofString "last")), (11, (Str.ofString "here"))]
noncomputable def pr__law_rows_right : List Str := [(Str.ofString "place"), (Str.ofString "one"), (Str.ofString "wide"), (Str.ofString "whole")]
noncomputable def nn__law_rows_right : Nat := 15
noncomputable def el__law_storage_right_0 : PE := (.ite (.cmp .Eq (.loc 15) (.loc 13)) (.loc 10) (.ite (.cmp .Eq (.loc 15) (.loc 12)) (.loc 9) (.const .none)))
noncomputable def el__law_storage_right_1 : PE := (.call 19 (.cons (.loc 11) (.cons (.loc 16) .nil)))
noncomputable def el__law_storage_right_2 : PE := (.ite (.cmp .Eq (.loc 17) (.loc 12)) (.const .none) (.ite (.cmp .Eq (.loc 17) (.loc 13)) (.loc 10) (.const .none)))
noncomputable def el__law_storage_right_3 : PE := (.call 19 (.cons (.loc 11) (.cons (.loc 18) .nil)))
noncomputable def ir__law_storage_right : PB := (.cons (.asgT [4, 5, 6, 7] (.loc 0)) (.cons (.asg 8 (.lst (.cons (.tup (.cons (.const (.int 7)) (.cons (.neg 8) .nil))) (.cons (.tup (.cons (.tup (.cons (.const (.int 5)) (.cons (.neg 1) .nil))) (.cons (.tup (.cons (.const (.int 25)) (.cons (.const (.int 3)) .nil))) .nil))) (.cons (.tup (.cons (.tup (.cons (.const (.int 125)) (.cons (.neg 2) .nil))) (.cons (.tup (.cons (.const (.int 3)) (.cons (.const (.int 0)) .nil))) .nil))) (.cons (.tup (.cons (.tup (.cons (.tup (.cons (.const (.int 1)) (.cons (.const (.int 0)) .nil))) (.cons (.tup (.cons (.const (.int 0)) (.cons (.const (.int 0)) .nil))) .nil))) (.cons (.tup (.cons (.tup (.cons (.const (.int 0)) (.cons (.const (.int 0)) .nil))) (.cons (.tup (.cons (.const (.int 5)) (.cons (.neg 1) .nil))) .nil))) .nil))) (.cons (.tup (.cons (.const (.bool true)) (.cons (.const (.bool false)) .nil))) .nil))))))) (.cons (.asgT [9, 10] (.ite (.cmp .Eq (.loc 4) (.const (.int 5))) (.tup (.cons (.slc (.const (.str (Str.ofString "abcd"))) .absent (.loc 6)) (.cons (.slc (.const (.str (Str.ofString "wxyz"))) .absent (.loc 6)) .nil))) (.sub (.loc 8) (.loc 4)))) (.cons (.asg 11 (.ite (.cmp .Eq (.loc 4) (.const (.int 5))) (.call 27 (.cons (.const (.int 0)) (.cons (.bin .Add (.loc 5) (.loc 3)) .nil))) (.call 27 (.cons (.bin .Add (.loc 5) (.loc 3)) (.cons (.const (.int 0)) .nil))))) (.cons (.asgD [12, 13] (.cons (.call 17 (.cons (.loc 0) (.cons (.loc 1) .nil))) (.cons (.call 17 (.cons (.loc 0) (.cons (.loc 2) .nil))) .nil))) (.cons (.expr (.meth 1 11 (.cons (.loc 12) (.cons (.loc 9) .nil)))) (.cons (.expr (.meth 1 11 (.cons (.loc 13) (.cons (.loc 10) .nil)))) (.cons (.asg 14 (.comp el__law_storage_right_0 (.one 15) (.lst (.call 12 (.cons (.loc 0) .nil))) .absent [13, 10, 12, 9])) (.cons (.ife (.cmp .NotEq (.comp el__law_storage_right_1 (.one 16) (.lst (.call 12 (.cons (.loc 0) .nil))) .absent [11]) (.loc 14)) (.cons (.ret (.const (.bool false))) .nil) .nil) (.cons (.expr (.meth 2 11 (.cons (.loc 12) .nil))) (.cons (.asg 14 (.comp el__law_storage_right_2 (.one 17) (.lst (.call 12 (.cons (.loc 0) .nil))) .absent [12, 13, 10])) (.cons (.ret (.cmp .Eq (.comp el__law_storage_right_3 (.one 18) (.lst (.call 12 (.cons (.loc 0) .nil))) .absent [11]) (.loc 14))) .nil))))))))))))
noncomputable def tb__law_storage_right : Tbl := [(0, (Str.ofString "place")), (1, (Str.ofString "one")), (2, (Str.ofString "other")), (3, (Str.ofString "whole")), (4, (Str.ofString "kind")), (5, (Str.ofString "at")), (6, (Str.ofString "length")), (7, (Str.ofString "dims")), (8, (Str.ofString "pairs")), (9, (Str.ofString "first")), (10, (Str.ofString "second")), (11, (Str.ofString "memory")), (12, (Str.ofString "x")), (13, (Str.ofString "y")), (14, (Str.ofString "due"))]
noncomputable def pr__law_storage_right : List Str := [(Str.ofString "place"), (Str.ofString "one"), (Str.ofString "other"), (Str.ofString "whole")]
noncomputable def nn__law_storage_right : Nat := 19
noncomputable def ir__law_texts_right : PB := (.cons (.asg 4 (.tup (.cons (.const (.int 5)) (.cons (.loc 0) (.cons (.loc 1) (.cons (.tup .nil) .nil)))))) (.cons (.asg 5 (.call 27 (.cons (.const (.int 0)) (.cons (.bin .Add (.loc 0) (.loc 1)) .nil)))) (.cons (.expr (.meth 1 5 (.cons (.loc 4) (.cons (.slc (.const (.str (Str.ofString "UVWXYZ"))) .absent (.loc 1)) .nil)))) (.cons (.asg 6 (.call 18 (.cons (.loc 4) (.cons (.sub (.loc 2) (.const (.int 0))) (.cons (.sub (.loc 2) (.const (.int 1))) .nil))))) (.cons (.ife (.bop .Or (.cons (.cmp .Is (.loc 6) (.const .none)) (.cons (.cmp .NotEq (.call 19 (.cons (.loc 5) (.cons (.loc 6) .nil))) (.slc (.const (.str (Str.ofString "UVWXYZ"))) (.bin .Sub (.sub (.loc 2) (.const (.int 0))) (.const (.int 1))) (.sub (.loc 2) (.const (.int 1))))) .nil))) (.cons (.ret (.const (.bool false))) .nil) .nil) (.cons (.ife (.cmp .NotEq (.call 18 (.cons (.loc 6) (.cons (.sub (.loc 3) (.const (.int 0))) (.cons (.sub (.loc 3) (.const (.int 1))) .nil)))) (.call 18 (.cons (.loc 4) (.cons (.bin .Sub (.bin .Add (.sub (.loc 2) (.const (.int 0))) (.sub (.loc 3) (.const (.int 0)))) (.const (.int 1))) (.cons (.bin .Sub (.bin .Add (.sub (.loc 2) (.const (.int 0))) (.sub (.loc 3) (.const (.int 1)))) (.const (.int 1))) .nil))))) (.cons (.ret (.const (.bool false))) .nil) .nil) (.cons (.ife (.bop .Or (.cons (.cmp .NotEq (.call 18 (.cons (.loc 4) (.cons (.const .none) (.cons (.const .none) .nil)))) (.loc 4)) (.cons (.cmp .NotEq (.call 18 (.cons (.loc 6) (.cons (.const .none) (.cons (.const .none) .nil)))) (.loc 6)) .nil))) (.cons (.ret (.const (.bool false))) .nil) .nil) (.cons (.asgD [7, 8] (.cons (.call 18 (.cons (.loc 4) (.cons (.const .none) (.cons (.sub (.loc 2) (.const (.int 0))) .nil)))) (.cons (.call 18 (.cons (.loc 4) (.cons (.bin .Add (.sub (.loc 2) (.const (.int 0))) (.const (.int 1))) (.cons (.const .none) .nil)))) .nil))) (.cons (.ife (.bop .Or (.cons (.cmp .NotEq (.cmp .Is (.loc 8) (.const .none)) (.cmp .Eq (.sub (.loc 2) (.const (.int 0))) (.loc 1))) (.cons (.cmp .NotEq (.loc 7) (.tup (.cons (.const (.int 5)) (.cons (.loc 0) (.cons (.sub (.loc 2) (.const (.int 0))) (.cons (.tup .nil) .nil)))))) .nil))) (.cons (.ret (.const (.bool false))) .nil) .nil) (.cons (.ife (.bop .And (.cons (.cmp .IsNot (.loc 8) (.const .none)) (.cons (.cmp .NotEq (.loc 8) (.tup (.cons (.const (.int 5)) (.cons (.bin .Add (.loc 0) (.sub (.loc 7) (.const (.int 2)))) (.cons (.bin .Sub (.loc 1) (.sub (.loc 7) (.const (.int 2)))) (.cons (.tup .nil) .nil)))))) .nil))) (.cons (.ret (.const (.bool false))) .nil) .nil) (.cons (.ife (.bop .Or (.cons (.cmp .IsNot (.call 18 (.cons (.loc 4) (.cons (.const (.int 0)) (.cons (.sub (.loc 2) (.const (.int 1))) .nil)))) (.const .none)) (.cons (.cmp .IsNot (.call 18 (.cons (.loc 4) (.cons (.sub (.loc 2) (.const (.int 0))) (.cons (.bin .Add (.loc 1) (.const (.int 1))) .nil)))) (.const .none)) .nil))) (.cons (.ret (.const (.bool false))) .nil) .nil) (.cons (.ret (.bop .And (.cons (.cmp .Is (.call 18 (.cons (.loc 4) (.cons (.bin .Add (.sub (.loc 2) (.const (.int 1))) (.const (.int 1))) (.cons (.sub (.loc 2) (.const (.int 1))) .nil)))) (.const .none)) (.cons (.cmp .Is (.call 18 (.cons (.loc 6) (.cons (.const (.int 1)) (.cons (.bin .Add (.sub (.loc 6) (.const (.int 2))) (.const (.int 1))) .nil)))) (.const .none)) .nil)))) .nil))))))))))))
noncomputable def tb__law_texts_right : Tbl := [(0, (Str.ofString "at")), (1, (Str.ofString "size")), (2, (Str.ofString "outer")), (3, (Str.ofString "inner")), (4, (Str.ofString "base")), (5, (Str.ofString "memory")), (6, (Str.ofString "part")), (7, (Str.ofString "left")), (8, (Str.ofString "right"))]
noncomputable def pr__law_texts_right : List Str := [(Str.ofString "at"), (Str.ofString "size"), (Str.ofString "outer"), (Str.ofString "inner")]
noncomputable def nn__law_texts_right : Nat := 9
noncomputable def lp__law_turn_0 : PB := (.cons (.asgD [9, 10] (.cons (.bin .Sub (.call 16 (.cons (.loc 0) (.cons (.const (.int 9)) .nil))) (.const (.int 4))) (.cons (.bin .Add (.const (.int 1)) (.call 16 (.cons (.loc 0) (.cons (.const (.int 3)) .nil)))) .nil))) (.cons (.expr (.app 4 (.tup (.cons (.loc 9) (.cons (.bin .Sub (.bin .Add (.loc 9) (.loc 10)) (.const (.int 1))) .nil))))) (.cons (.expr (.app 5 (.bin .Add (.loc 9) (.call 16 (.cons (.loc 0) (.cons (.loc 10) .nil)))))) (.cons (.expr (.app 6 (.bin .Add (.loc 9) (.call 16 (.cons (.loc 0) (.cons (.loc 10) .nil)))))) (.cons (.aug 7 .Mult (.loc 10)) .nil)))))
noncomputable def ir__law_turn : PB := (.cons (.asgD [1, 2, 3] (.cons (.call 16 (.cons (.loc 0) (.cons (.const (.int 6)) .nil))) (.cons (.bin .Add (.const (.int 1)) (.call 16 (.cons (.loc 0) (.cons (.const (.int 4)) .nil)))) (.cons (.call 16 (.cons (.loc 0) (.cons (.const (.int 4)) .nil))) .nil)))) (.cons (.asgD [4, 5, 6, 7] (.cons .newl (.cons .newl (.cons .newl (.cons (.const (.int 1)) .nil))))) (.cons (.for_ (.one 8) (.rng1 (.bin .Add (.const (.int 1)) (.call 16 (.cons (.loc 0) (.cons (.const (.int 3)) .nil))))) lp__law_turn_0) (.cons (.asg 11 (.tup (.cons (.loc 1) (.cons (.loc 3) (.cons (.ite (.cmp .Eq (.loc 1) (.const (.int 5))) (.loc 2) (.const (.int 0))) (.cons (.bi .tup (.loc 4)) .nil)))))) (.cons (.asg 12 (.ite (.cmp .Eq (.loc 1) (.const (.int 5))) (.loc 2) (.ite (.cmp .In (.loc 1) (.tup (.cons (.const (.int 2)) (.cons (.const (.int 3)) .nil)))) (.const (.int 2)) (.const (.int 1))))) (.cons (.asg 13 (.bin .Sub (.call 16 (.cons (.loc 0) (.cons (.const (.int 9)) .nil))) (.const (.int 4)))) (.cons (.ife (.pnot (.call 21 (.cons (.loc 11) (.cons (.loc 5) (.cons (.loc 6) (.cons (.loc 12) (.cons (.bin .Mult (.loc 7) (.loc 12)) (.cons (.loc 13) .nil)))))))) (.cons (.ret (.const (.bool false))) .nil) .nil) (.cons (.ife (.bop .Or (.cons (.pnot (.call 22 (.cons (.loc 11) (.cons (.loc 5) (.cons (.loc 12) (.cons (.bin .Mult (.loc 7) (.loc 12)) .nil)))))) (.cons (.pnot (.call 23 (.cons (.loc 11) (.cons (.loc 5) (.cons (.loc 6) (.cons (.bin .Mult (.loc 7) (.loc 12)) .nil)))))) .nil))) (.cons (.ret (.const (.bool false))) .nil) .nil) (.cons (.asg 14 (.bin .Add (.const (.int 1)) (.call 16 (.cons (.loc 0) (.cons (.const (.int 6)) .nil))))) (.cons (.asg 15 (.bin .Add (.const (.int 1)) (.call 16 (.cons (.loc 0) (.cons (.loc 14) .nil))))) (.cons (.asg 16 (.bin .Add (.loc 15) (.call 16 (.cons (.loc 0) (.cons (.bin .Add (.bin .Sub (.loc 14) (.loc 15)) (.const (.int 1))) .nil))))) (.cons (.asg 17 (.bin .Add (.const (.int 1)) (.call 16 (.cons (.loc 0) (.cons (.bin .Add (.bin .Sub (.loc 16) (.loc 15)) (.const (.int 1))) .nil))))) (.cons (.asg 18 (.bin .Add (.loc 17) (.call 16 (.cons (.loc 0) (.cons (.bin .Sub (.bin .Add (.bin .Sub (.loc 16) (.loc 15)) (.const (.int 2))) (.loc 17)) .nil))))) (.cons (.ret (.call 24 (.cons (.loc 3) (.cons (.loc 14) (.cons (.tup (.cons (.loc 15) (.cons (.loc 16) .nil))) (.cons (.tup (.cons (.loc 17) (.cons (.loc 18) .nil))) .nil)))))) .nil))))))))))))))
noncomputable def tb__law_turn : Tbl := [(0, (Str.ofString "chain")), (1, (Str.ofString "kind")), (2, (Str.ofString "length")), (3, (Str.ofString "at")), (4, (Str.ofString "dims")), (5, (Str.ofString "one")), (6, (Str.ofString "other")), (7, (Str.ofString "count")), (8, (Str.ofString "turn")), (9, (Str.ofString "low")), (10, (Str.ofString "many")), (11, (Str.ofString "place")), (12, (Str.ofString "wide")), (13, (Str.ofString "shift")), (14, (Str.ofString "size")), (15, (Str.ofString "start")), (16, (Str.ofString "behind")), (17, (Str.ofString "inner")), (18, (Str.ofString "last"))]
noncomputable def pr__law_turn : List Str := [(Str.ofString "chain")]
noncomputable def nn__law_turn : Nat := 19
noncomputable def ir_Memory_load : PB := (.cons (.ife (.cmp .Eq (.sub (.loc 1) (.const (.int 0))) (.glc (Str.ofString "CHARACTER") 5)) (.cons (.ret (.call 5 (.cons (.attr 0 false) (.cons (.sub (.loc 1) (.const (.int 1))) (.cons (.sub (.loc 1) (.const (.int 2))) .nil))))) .nil) .nil) (.cons (.ret (.call 3 (.cons (.attr 0 true) (.cons (.sub (.loc 1) (.const (.int 0))) (.cons (.sub (.loc 1) (.const (.int 1))) .nil))))) .nil))
noncomputable def tb_Memory_load : Tbl := [(0, (Str.ofString "self")), (1, (Str.ofString "place"))]
noncomputable def pr_Memory_load : List Str := [(Str.ofString "self"), (Str.ofString "place")]
noncomputable def nn_Memory_load : Nat := 2
noncomputable def ir_Memory_store : PB := (.cons (.ife (.cmp .Eq (.sub (.loc 1) (.const (.int 0))) (.glc (Str.ofString "CHARACTER") 5)) (.cons (.expr (.call 6 (.cons (.attr 0 false) (.cons (.sub (.loc 1) (.const (.int 1))) (.cons (.call 7 (.cons (.loc 2) (.cons (.sub (.loc 1) (.const (.int 2))) .nil))) .nil))))) .nil) (.cons (.expr (.call 4 (.cons (.attr 0 true) (.cons (.sub (.loc 1) (.const (.int 0))) (.cons (.sub (.loc 1) (.const (.int 1))) (.cons (.loc 2) .nil)))))) .nil)) .nil)
noncomputable def tb_Memory_store : Tbl := [(0, (Str.ofString "self")), (1, (Str.ofString "place")), (2, (Str.ofString "value"))]
noncomputable def pr_Memory_store : List Str := [(Str.ofString "self"), (Str.ofString "place"), (Str.ofString "value")]
noncomputable def nn_Memory_store : Nat := 3
noncomputable def ir_Memory_undefine : PB := (.cons (.asgT [2, 3, 4] (.call 14 (.cons (.loc 1) .nil))) (.cons (.expr (.call 15 (.cons (.loc 0) (.cons (.loc 2) (.cons (.loc 3) (.cons (.loc 4) .nil)))))) .nil))
noncomputable def tb_Memory_undefine : Tbl := [(0, (Str.ofString "self")), (1, (Str.ofString "place")), (2, (Str.ofString "is_character")), (3, (Str.ofString "low")), (4, (Str.ofString "high"))]
noncomputable def pr_Memory_undefine : List Str := [(Str.ofString "self"), (Str.ofString "place")]
noncomputable def nn_Memory_undefine : Nat := 5
end Mine
end
section
open PySem PySem.W PyProof.Rows PySem.Calls
set_option Elab.async false
set_option maxRecDepth 100000
set_option linter.unusedVariables false
namespace Mine

noncomputable def beadAt (b : List Int) (g : Int) : Int := if g ≤ b.length then (b[(g - 1).toNat]?).getD 0 else 29 * g + (g * g).fdiv 2 + 4
open Classical in
noncomputable def beadF (R₀ : Obj → List (Str × Value) → Prop) (Vs : List Vl) (μ : Mu) : RR Vl := match Vs with
  | [.mref j, .dat (.int m)] => (match μ[j]? with
    | some (.chain R b g) => if R = R₀ ∧ 0 < m ∧ m ≤ 1000 ∧ 0 ≤ g ∧ g ≤ 100000 ∧ b.length ≤ 60 then some (.ok (.dat (.int ((beadAt b (g + 1)).fmod m))), μ.set j (.chain R b (g + 1))) else none
    | _ => none)
  | _ => none
noncomputable def memF (Vs : List Vl) (μ : Mu) : RR Vl := match Vs with
  | [.dat (.int a), .dat (.int b)] => if 0 ≤ a ∧ a ≤ 1000 ∧ 0 ≤ b ∧ b ≤ 1000 then
      some (.ok (.mem μ.length (μ.length + 1)), μ ++ [.lst (List.replicate a.toNat .none), .lst (List.replicate b.toNat .none)])
    else none
  | _ => none
structure Fun where
  ir : PB
  tb : Tbl
  pr : List Str
  n : Nat
noncomputable def funs : List Fun := [⟨ir_units_of, tb_units_of, pr_units_of, nn_units_of⟩, ⟨ir_need_units, tb_need_units, pr_need_units, nn_need_units⟩, ⟨ir_read_cell, tb_read_cell, pr_read_cell, nn_read_cell⟩,
  ⟨ir_load_number, tb_load_number, pr_load_number, nn_load_number⟩, ⟨ir_store_number, tb_store_number, pr_store_number, nn_store_number⟩, ⟨ir_load_text, tb_load_text, pr_load_text, nn_load_text⟩,
  ⟨ir_store_text, tb_store_text, pr_store_text, nn_store_text⟩, ⟨ir_pad, tb_pad, pr_pad, nn_pad⟩, ⟨ir_unit_size, tb_unit_size, pr_unit_size, nn_unit_size⟩, ⟨ir_extent, tb_extent, pr_extent, nn_extent⟩,
  ⟨ir_element_place, tb_element_place, pr_element_place, nn_element_place⟩, ⟨ir_sub_place, tb_sub_place, pr_sub_place, nn_sub_place⟩, ⟨ir_elements_of, tb_elements_of, pr_elements_of, nn_elements_of⟩,
  ⟨ir_held_elements, tb_held_elements, pr_held_elements, nn_held_elements⟩, ⟨ir_span_of, tb_span_of, pr_span_of, nn_span_of⟩, ⟨ir_undefine_cells, tb_undefine_cells, pr_undefine_cells, nn_undefine_cells⟩]
noncomputable def funs2 : List Fun := [⟨ir__law_spot, tb__law_spot, pr__law_spot, nn__law_spot⟩, ⟨ir__law_cut, tb__law_cut, pr__law_cut, nn__law_cut⟩,
  ⟨ir__law_held, tb__law_held, pr__law_held, nn__law_held⟩, ⟨ir__law_all_held, tb__law_all_held, pr__law_all_held, nn__law_all_held⟩, ⟨ir__law_places_right, tb__law_places_right, pr__law_places_right, nn__law_places_right⟩,
  ⟨ir__law_rows_right, tb__law_rows_right, pr__law_rows_right, nn__law_rows_right⟩, ⟨ir__law_storage_right, tb__law_storage_right, pr__law_storage_right, nn__law_storage_right⟩,
  ⟨ir__law_texts_right, tb__law_texts_right, pr__law_texts_right, nn__law_texts_right⟩, ⟨ir__law_turn, tb__law_turn, pr__law_turn, nn__law_turn⟩]
noncomputable def funOf (f : Nat) : Option Fun := if f < 16 then funs[f]? else if f < 17 then none else funs2[f - 17]?
noncomputable def meths : List Fun := [⟨ir_Memory_load, tb_Memory_load, pr_Memory_load, nn_Memory_load⟩, ⟨ir_Memory_store, tb_Memory_store, pr_Memory_store, nn_Memory_store⟩, ⟨ir_Memory_undefine, tb_Memory_undefine, pr_Memory_undefine, nn_Memory_undefine⟩]
section
variable (R₀ : Obj → List (Str × Value) → Prop)
mutual
noncomputable def semF : Nat → Nat → List Vl → Mu → RR Vl
  | 0, _ => fun _ _ => none
  | n + 1, f => if f = 16 then beadF R₀ else if f = 27 then memF else match funOf f with
    | some u => fnRes (evBk (semF n) (semG n) u.ir) u.n u.pr.length
    | none => fun _ _ => none
noncomputable def semG : Nat → Nat → List Vl → Mu → RR Vl
  | 0, _ => fun _ _ => none
  | n + 1, m => match meths[m]? with
    | some u => fnRes (evBk (semF n) (semG n) u.ir) u.n u.pr.length
    | none => fun _ _ => none
end
end
end Mine
end
section
open PySem PySem.W PyProof.Rows PySem.Calls
set_option Elab.async false
set_option maxRecDepth 100000
set_option linter.unusedVariables false
namespace Mine

section
variable {F G : Nat → List Vl → Mu → RR Vl} {σ : Slots} {μ μ' μ1 μ2 μ3 : Mu} {V W V1 V2 : Vl} {r : RR Vl} {e e1 e2 e3 : PE} {es : PL} {Vs : List Vl} {ds : List Dat} {x y z d : Dat} {i j n : Nat} {a b c : Int} {op : Operator} {p q : Bool}
theorem e_const : evE F G (.const d) σ μ = some (.ok (.dat d), μ) := rfl
theorem e_glc {xx : Str} {nn : Int} : evE F G (.glc xx nn) σ μ = some (.ok (.dat (.int nn)), μ) := rfl
theorem e_neg : evE F G (.neg a) σ μ = some (.ok (.dat (.int (-a))), μ) := rfl
theorem e_newl : evE F G .newl σ μ = some (.ok (.mref μ.length), μ ++ [.plst []]) := rfl
theorem l_nil : evL F G .nil σ μ = some (.ok [], μ) := rfl
theorem e_loc (h : σ[i]? = some (some V)) : evE F G (.loc i) σ μ = some (.ok V, μ) := by rw [ev_loc, getS_of h]; rfl
theorem e_tup (h : evL F G es σ μ = some (.ok Vs, μ')) (hd : dats Vs = some ds) (hr : room ds.length = true) : evE F G (.tup es) σ μ = some (.ok (.dat (.tuple ds)), μ') := by rw [ev_tup, h]; show (dats Vs).bind _ = _; rw [hd]; exact if_pos hr
theorem e_lst (h : evL F G es σ μ = some (.ok Vs, μ')) (hd : dats Vs = some ds) (hr : room ds.length = true) : evE F G (.lst es) σ μ = some (.ok (.dat (.list ds)), μ') := by rw [ev_lst, h]; show (dats Vs).bind _ = _; rw [hd]; exact if_pos hr
theorem e_bin (h1 : evE F G e1 σ μ = some (.ok V1, μ1)) (h2 : evE F G e2 σ μ1 = some (.ok V2, μ2)) (d1 : deref μ2 V1 = some x) (d2 : deref μ2 V2 = some y) (hb : binD op x y = some z) : evE F G (.bin op e1 e2) σ μ = some (.ok (.dat z), μ2) := by rw [ev_bin, h1]; show bindR (evE F G e2 σ μ1) _ = _; rw [h2]; show (deref μ2 V1).bind _ = _; rw [d1]; show (deref μ2 V2).bind _ = _; rw [d2]; show (binD op x y).bind _ = _; rw [hb]; rfl
theorem e_cmp {o : CmpOp} (h1 : evE F G e1 σ μ = some (.ok V1, μ1)) (h2 : evE F G e2 σ μ1 = some (.ok V2, μ2)) (hb : cmpV μ2 o V1 V2 = some p) : evE F G (.cmp o e1 e2) σ μ = some (.ok (.dat (.bool p)), μ2) := by
  rw [ev_cmp, h1]; show bindR (evE F G e2 σ μ1) _ = _; rw [h2]; show (cmpV μ2 o V1 V2).bind _ = _; rw [hb]; rfl
theorem e_not (h : evE F G e σ μ = some (.ok (.dat (.bool p)), μ')) : evE F G (.pnot e) σ μ = some (.ok (.dat (.bool !p)), μ') := by rw [ev_pnot, h]; rfl
theorem e_ite (h : evE F G e σ μ = some (.ok (.dat (.bool p)), μ1)) (hr : cond p (evE F G e1 σ μ1) (evE F G e2 σ μ1) = r) : evE F G (.ite e e1 e2) σ μ = r := by rw [ev_ite, h]; exact hr
theorem e_sub (h1 : evE F G e1 σ μ = some (.ok V, μ1)) (h2 : evE F G e2 σ μ1 = some (.ok (.dat (.int a)), μ2)) (d1 : deref μ2 V = some x) (hi : idxD x a = some z) : evE F G (.sub e1 e2) σ μ = some (.ok (.dat z), μ2) := by rw [ev_sub, h1]; show bindR (evE F G e2 σ μ1) _ = _; rw [h2]; show (deref μ2 V).bind _ = _; rw [d1]; show (idxD x a).bind _ = _; rw [hi]; rfl
theorem optE_n {m : RR Vl} {ab : Bool} (h : ab = true) : optE ab m μ = some (none, μ) := by rw [h]; rfl
theorem optE_s {m : RR Vl} {ab : Bool} (h : ab = false) (hm : m = some (.ok (.dat (.int a)), μ1)) : optE ab m μ = some (some a, μ1) := by rw [h, hm]; rfl
theorem slc_of {lo hi : Option Int} (h1 : evE F G e1 σ μ = some (.ok V, μ1)) (h2 : optE (isAbs e2) (evE F G e2 σ μ1) μ1 = some (lo, μ2)) (h3 : optE (isAbs e3) (evE F G e3 σ μ2) μ2 = some (hi, μ3)) (d1 : deref μ3 V = some x) (hh : slcD x lo hi = some z) : evE F G (.slc e1 e2 e3) σ μ = some (.ok (.dat z), μ3) := by
  rw [ev_slc, h1]; show (optE (isAbs e2) (evE F G e2 σ μ1) μ1).bind _ = _; rw [h2]; show (optE (isAbs e3) (evE F G e3 σ μ2) μ2).bind _ = _; rw [h3]; show (deref μ3 V).bind _ = _; rw [d1]; show (slcD x lo hi).bind _ = _; rw [hh]; rfl
theorem e_slc0 (h1 : evE F G e1 σ μ = some (.ok V, μ1)) (ha : isAbs e2 = false) (h2 : evE F G e2 σ μ1 = some (.ok (.dat (.int b)), μ2)) (d1 : deref μ2 V = some x) (hi : slcD x none (some b) = some z) : evE F G (.slc e1 .absent e2) σ μ = some (.ok (.dat z), μ2) := slc_of h1 (optE_n rfl) (optE_s ha h2) d1 hi
theorem e_slc1 (h1 : evE F G e1 σ μ = some (.ok V, μ1)) (ha : isAbs e2 = false) (h2 : evE F G e2 σ μ1 = some (.ok (.dat (.int b)), μ2)) (d1 : deref μ2 V = some x) (hi : slcD x (some b) none = some z) : evE F G (.slc e1 e2 .absent) σ μ = some (.ok (.dat z), μ2) := slc_of h1 (optE_s ha h2) (optE_n rfl) d1 hi
theorem e_slc2 (h1 : evE F G e1 σ μ = some (.ok V, μ1)) (ha : isAbs e2 = false) (h2 : evE F G e2 σ μ1 = some (.ok (.dat (.int a)), μ2)) (hb : isAbs e3 = false) (h3 : evE F G e3 σ μ2 = some (.ok (.dat (.int b)), μ3)) (d1 : deref μ3 V = some x) (hi : slcD x (some a) (some b) = some z) : evE F G (.slc e1 e2 e3) σ μ = some (.ok (.dat z), μ3) := slc_of h1 (optE_s ha h2) (optE_s hb h3) d1 hi
theorem e_bi {o : Bi} (h : evE F G e σ μ = some (.ok V, μ')) (d1 : deref μ' V = some x) (hb : biD o x = some z) : evE F G (.bi o e) σ μ = some (.ok (.dat z), μ') := by rw [ev_bi, h]; show (deref μ' V).bind _ = _; rw [d1]; show (biD o x).bind _ = _; rw [hb]; rfl
theorem e_cnt (h1 : evE F G e1 σ μ = some (.ok (.dat (.list ds)), μ1)) (h2 : evE F G e2 σ μ1 = some (.ok W, μ2)) (d1 : deref μ2 W = some y) (hb : cntD (.list ds) y = some z) : evE F G (.cnt e1 e2) σ μ = some (.ok (.dat z), μ2) := by rw [ev_cnt, h1]; show bindO (evE F G e2 σ μ1) _ = _; rw [h2]; show (deref μ2 W).bind _ = _; rw [d1]; show (cntD (.list ds) y).bind _ = _; rw [hb]; rfl
theorem e_idx (h1 : evE F G e1 σ μ = some (.ok (.dat (.list ds)), μ1)) (h2 : evE F G e2 σ μ1 = some (.ok W, μ2)) (d1 : deref μ2 W = some y) (hb : idxOfD (.list ds) y = some z) : evE F G (.idx e1 e2) σ μ = some (.ok (.dat z), μ2) := by rw [ev_idx, h1]; show bindO (evE F G e2 σ μ1) _ = _; rw [h2]; show (deref μ2 W).bind _ = _; rw [d1]; show (idxOfD (.list ds) y).bind _ = _; rw [hb]; rfl
theorem e_join {s : Str} (h1 : evE F G e1 σ μ = some (.ok (.dat (.str s)), μ1)) (h2 : evE F G e2 σ μ1 = some (.ok W, μ2)) (d1 : deref μ2 W = some y) {oz : Option Dat} (hb : joinD (.str s) y = oz) : evE F G (.join e1 e2) σ μ = oz.bind fun z => some (.ok (.dat z), μ2) := by rw [ev_join, h1]; show bindO (evE F G e2 σ μ1) _ = _; rw [h2]; show (deref μ2 W).bind _ = _; rw [d1]; show (joinD (.str s) y).bind _ = _; rw [hb]
theorem e_call {f : Nat} (h : evL F G es σ μ = some (.ok Vs, μ1)) (hF : F f Vs μ1 = r) : evE F G (.call f es) σ μ = r := by rw [ev_call, h]; exact hF
theorem e_meth {m ch : Nat} (hσ : σ[i]? = some (some (.mem n ch))) (h : evL F G es σ μ = some (.ok Vs, μ1)) (hG : G m (.mem n ch :: Vs) μ1 = r) : evE F G (.meth m i es) σ μ = r := by rw [ev_meth, getS_of hσ]; show bindR (evL F G es σ μ) _ = _; rw [h]; exact hG
theorem e_attr {ch : Nat} (hσ : σ[i]? = some (some (.mem n ch))) : evE F G (.attr i p) σ μ = some (.ok (.mref (if p then n else ch)), μ) := by rw [ev_attr, getS_of hσ]; rfl
theorem e_app {es0 : List Dat} (hσ : σ[i]? = some (some (.mref j))) (h0 : μ[j]? = some (.plst es0)) (h : evE F G e σ μ = some (.ok (.dat d), μ1)) (h1 : μ1[j]? = some (.plst ds)) (hr : room ds.length = true) : evE F G (.app i e) σ μ = some (.ok (.dat .none), μ1.set j (.plst (ds ++ [d]))) := by rw [ev_app, getS_of hσ]; show (getM asPl μ j).bind _ = _; rw [getP_of h0]; show bindO (evE F G e σ μ) _ = _; rw [h]; show (getM asPl μ1 j).bind _ = _; rw [getP_of h1]; exact if_pos hr
theorem e_comp {tg : Tg} {it : PI} {cs : List Nat} {zs : List Dat} {cd : PE} (hi : evI F G it σ μ = some (ds, μ1)) (hc : cs.all (has σ) = true) (hr : room ds.length = true)
    (hev : evComp (fun σ μ => evE F G e σ μ) (if isAbs cd then none else some fun σ μ => tsR (evE F G cd σ μ)) tg (clr (tgs tg) σ) ds μ1 = some (zs, μ2)) : evE F G (.comp e tg it cd cs) σ μ = some (.ok (.dat (.list zs)), μ2) := by rw [ev_comp, hi]; show (if cs.all (has σ) && room ds.length then _ else none) = _; rw [hc, hr]; show Option.bind (evComp _ _ _ _ ds μ1) _ = _; rw [hev]; rfl
theorem l_cons (h1 : evE F G e σ μ = some (.ok V, μ1)) (h2 : evL F G es σ μ1 = some (.ok Vs, μ2)) : evL F G (.cons e es) σ μ = some (.ok (V :: Vs), μ2) := by
  rw [evl_cons, h1]; show bindR (evL F G es σ μ1) _ = _; rw [h2]; rfl
theorem b_one {o : BoolOp} (h : evE F G e σ μ = r) : evB F G o (.cons e .nil) σ μ = r := by rw [evb_one]; exact h
theorem e_bop {o : BoolOp} (h : evB F G o es σ μ = r) : evE F G (.bop o es) σ μ = r := by rw [ev_bop]; exact h
theorem i_lst (h : evE F G e σ μ = some (.ok (.dat (.list ds)), μ')) : evI F G (.lst e) σ μ = some (ds, μ') := by rw [evi_lst, h]; rfl
theorem i_tup (h : evE F G e σ μ = some (.ok (.dat (.tuple ds)), μ')) : evI F G (.tup e) σ μ = some (ds, μ') := by rw [evi_tup, h]; rfl
theorem i_rng1 (h : evE F G e σ μ = some (.ok (.dat (.int b)), μ')) (ho : ord b = true) : evI F G (.rng1 e) σ μ = some (rangeD 0 b.toNat, μ') := by rw [evi_rng1, h]; exact if_pos ho
theorem i_rng2 (h1 : evE F G e1 σ μ = some (.ok (.dat (.int a)), μ1)) (h2 : evE F G e2 σ μ1 = some (.ok (.dat (.int b)), μ2)) (ha : ord a = true) (hb : ord b = true) : evI F G (.rng2 e1 e2) σ μ = some (rangeD a (b - a).toNat, μ2) := by rw [evi_rng2, h1]; show bindO (evE F G e2 σ μ1) _ = _; rw [h2]; exact if_pos (Bool.and_eq_true_iff.mpr ⟨ha, hb⟩)
end
section
variable {F G : Nat → List Vl → Mu → RR Vl} {σ σ' σ1 : Slots} {μ μ' μ1 μ2 : Mu} {V : Vl} {r : RS} {e ie : PE} {es : PL} {Vs : List Vl} {ds : List Dat} {d : Dat} {i j : Nat} {a b z : Int} {op : Operator} {p : Bool} {is : List Nat} {B C D : PB} {s : PS}
theorem s_asg (h : evE F G e σ μ = some (.ok V, μ')) (hi : decide (i < σ.length) = true) : evS F G (.asg i e) σ μ = some (.ok (.next (σ.set i (some V))), μ') := by
  rw [evs_asg, h]; exact if_pos (of_decide_eq_true hi)
theorem s_asgT (h : evE F G e σ μ = some (.ok (.dat (.tuple ds)), μ')) (hs : setAll is ds σ = some σ') : evS F G (.asgT is e) σ μ = some (.ok (.next σ'), μ') := by rw [evs_asgT, h]; show (setAll is ds σ).bind _ = _; rw [hs]; rfl
theorem s_asgD (h : evL F G es σ μ = some (.ok Vs, μ')) (hs : (decide (is.length = Vs.length) && is.all (· < σ.length)) = true) : evS F G (.asgD is es) σ μ = some (.ok (.next (setPs (is.zip Vs) σ)), μ') := by
  simp only [Bool.and_eq_true, decide_eq_true_eq] at hs
  rw [evs_asgD, h]; exact if_pos hs
theorem s_aug (hσ : σ[i]? = some (some (.dat (.int a)))) (h : evE F G e σ μ = some (.ok (.dat (.int b)), μ')) (hz : augD op a b = some z) : evS F G (.aug i op e) σ μ = some (.ok (.next (σ.set i (some (.dat (.int z))))), μ') := by rw [evs_aug, getS_of hσ]; show bindO (evE F G e σ μ) _ = _; rw [h]; show (augD op a b).bind _ = _; rw [hz]; rfl
theorem s_set (hσ : σ[i]? = some (some (.mref j))) (h : evE F G e σ μ = some (.ok (.dat d), μ1)) (h2 : evE F G ie σ μ1 = some (.ok (.dat (.int a)), μ2)) (hj : μ2[j]? = some (.lst ds)) (hc : 0 ≤ a ∧ a < ds.length ∧ room ds.length = true) :
    evS F G (.set i ie e) σ μ = some (.ok (.next σ), μ2.set j (.lst (ds.set a.toNat d))) := by rw [evs_set, getS_of hσ]; show bindO (evE F G e σ μ) _ = _; rw [h]; show bindO (evE F G ie σ μ1) _ = _; rw [h2]; show (getM asLst μ2 j).bind _ = _; rw [getL_of hj]; exact if_pos hc
theorem s_expr (h : evE F G e σ μ = some (.ok V, μ')) : evS F G (.expr e) σ μ = some (.ok (.next σ), μ') := by rw [evs_expr, h]; rfl
theorem s_ret (h : evE F G e σ μ = some (.ok V, μ')) : evS F G (.ret e) σ μ = some (.ok (.ret V), μ') := by rw [evs_ret, h]; rfl
theorem s_ife (h : evE F G e σ μ = some (.ok (.dat (.bool p)), μ1)) (hr : cond p (evBk F G B σ μ1) (evBk F G C σ μ1) = r) : evS F G (.ife e B C) σ μ = r := by rw [evs_ife, h]; exact hr
theorem s_pass (h : evE F G e σ μ = some (.ok (.dat (.bool p)), μ1)) (hp : p = false) : evS F G (.ife e B .nil) σ μ = some (.ok (.next σ), μ1) := by rw [hp] at h; exact s_ife h rfl
theorem s_for {tg : Tg} {it : PI} (h : evI F G it σ μ = some (ds, μ1)) (hr : evFor (fun σ μ => evBk F G B σ μ) tg ds σ μ1 = r) : evS F G (.for_ tg it B) σ μ = r := by rw [evs_for_, h]; exact hr
theorem k_next (h : evS F G s σ μ = some (.ok (.next σ1), μ1)) (hr : evBk F G B σ1 μ1 = r) : evBk F G (.cons s B) σ μ = r := by rw [evk_cons, h]; exact hr
theorem k_ret (h : evS F G s σ μ = some (.ok (.ret V), μ1)) : evBk F G (.cons s B) σ μ = some (.ok (.ret V), μ1) := by rw [evk_cons, h]; rfl
theorem k_err (h : evS F G s σ μ = some (.error (), μ1)) : evBk F G (.cons s B) σ μ = some (.error (), μ1) := by rw [evk_cons, h]; rfl
theorem f_ret {bd : Slots → Mu → RS} {n np : Nat} {Vs : List Vl} (hl : Vs.length = np) (h : bd (slots0 n Vs) μ = some (.ok (.ret V), μ')) : fnRes bd n np Vs μ = some (.ok V, μ') := by
  unfold fnRes; rw [if_pos hl, h]
theorem f_next {bd : Slots → Mu → RS} {n np : Nat} {Vs : List Vl} (hl : Vs.length = np) (h : bd (slots0 n Vs) μ = some (.ok (.next σ'), μ')) : fnRes bd n np Vs μ = some (.ok (.dat .none), μ') := by
  unfold fnRes; rw [if_pos hl, h]
theorem f_err {bd : Slots → Mu → RS} {n np : Nat} {Vs : List Vl} (hl : Vs.length = np) (h : bd (slots0 n Vs) μ = some (.error (), μ')) : fnRes bd n np Vs μ = some (.error (), μ') := by
  unfold fnRes; rw [if_pos hl, h]
theorem deref_d (μ : Mu) (d : Dat) : deref μ (.dat d) = some d := rfl
theorem ds0 : dats [] = some [] := rfl
theorem ds1 (a : Dat) : dats [.dat a] = some [a] := rfl
theorem ds2 (a b : Dat) : dats [.dat a, .dat b] = some [a, b] := rfl
theorem ds3 (a b c : Dat) : dats [.dat a, .dat b, .dat c] = some [a, b, c] := rfl
theorem ds4 (a b c d : Dat) : dats [.dat a, .dat b, .dat c, .dat d] = some [a, b, c, d] := rfl
theorem ds5 (a b c d e : Dat) : dats [.dat a, .dat b, .dat c, .dat d, .dat e] = some [a, b, c, d, e] := rfl
theorem bi_add (a b : Int) : binD .Add (.int a) (.int b) = some (.int (a + b)) := rfl
theorem bi_sub (a b : Int) : binD .Sub (.int a) (.int b) = some (.int (a - b)) := rfl
theorem au_add (a b : Int) : augD .Add a b = some (a + b) := rfl
theorem eqD_int (a b : Int) : eqD (.int a) (.int b) = decide (a = b) := by
  show PyData.eqv (pyd (.int a)) (pyd (.int b)) = _
  simp only [pyd, PyData.eqv]
  by_cases h : a = b <;> simp [h]
theorem shp_int (a : Int) : shp (.int a) = true := by rfl
theorem cmp_eq_int (a b : Int) : cmpD .Eq (.int a) (.int b) = some (decide (a = b)) := by
  simp [cd_eq, cd_ne, cd_lt, cd_le, cd_gt, cd_ge, cd_inl, cd_int, shp_int, eqD_int]
theorem cmp_ne_int (a b : Int) : cmpD .NotEq (.int a) (.int b) = some (!decide (a = b)) := by
  simp [cd_eq, cd_ne, cd_lt, cd_le, cd_gt, cd_ge, cd_inl, cd_int, shp_int, eqD_int]
theorem c_eqi (x y : Int) : cmpV μ .Eq (.dat (.int x)) (.dat (.int y)) = some (decide (x = y)) := cmp_eq_int x y
theorem c_nei (x y : Int) : cmpV μ .NotEq (.dat (.int x)) (.dat (.int y)) = some (!decide (x = y)) := cmp_ne_int x y
theorem cmp_ne_bool (x y : Bool) : cmpD .NotEq (.bool x) (.bool y) = some (x != y) := by cases x <;> cases y <;> rfl
theorem not_dec_f {q : Prop} [Decidable q] (h : q) : (!decide q) = false := by rw [decide_eq_true h]; rfl
theorem not_dec_t {q : Prop} [Decidable q] (h : ¬ q) : (!decide q) = true := by rw [decide_eq_false h]; rfl
theorem c_lt (x y : Int) : cmpV μ .Lt (.dat (.int x)) (.dat (.int y)) = some (decide (x < y)) := rfl
theorem c_gt (x y : Int) : cmpV μ .Gt (.dat (.int x)) (.dat (.int y)) = some (decide (y < x)) := rfl
theorem c_dat {o : CmpOp} {x y : Dat} (h1 : cmpD o x y = some p) (h2 : ∀ V1 V2 : Vl, cmpV μ o V1 V2 = match deref μ V1, deref μ V2 with | some x, some y => cmpD o x y | _, _ => none := by intro _ _; rfl) : cmpV μ o (.dat x) (.dat y) = some p := by rw [h2]; exact h1
theorem c_dr {o : CmpOp} {V1 V2 : Vl} {x y : Dat} (d1 : deref μ V1 = some x) (d2 : deref μ V2 = some y) (h1 : cmpD o x y = some p) (h2 : ∀ V1 V2 : Vl, cmpV μ o V1 V2 = match deref μ V1, deref μ V2 with | some x, some y => cmpD o x y | _, _ => none := by intro _ _; rfl) : cmpV μ o V1 V2 = some p := by rw [h2, d1, d2]; exact h1
end
theorem semF_at (R : Obj → List (Str × Value) → Prop) {n f : Nat} {u : Fun} (h : funOf f = some u) (h1 : decide (f = 16) = false) (h2 : decide (f = 27) = false) : semF R (n + 1) f = fnRes (evBk (semF R n) (semG R n) u.ir) u.n u.pr.length := by
  rw [semF, if_neg (of_decide_eq_false h1), if_neg (of_decide_eq_false h2), h]
theorem semG_at (R : Obj → List (Str × Value) → Prop) {n f : Nat} {u : Fun} (h : meths[f]? = some u) : semG R (n + 1) f = fnRes (evBk (semF R n) (semG R n) u.ir) u.n u.pr.length := by
  rw [semG, h]
theorem for_next {B : Slots → Mu → RS} {tg : Tg} {d : Dat} {ds : List Dat} {σ σ1 σ2 : Slots} {μ μ2 : Mu} (h0 : setT tg d σ = some σ1) (h1 : B σ1 μ = some (.ok (.next σ2), μ2)) : evFor B tg (d :: ds) σ μ = evFor B tg ds σ2 μ2 := evFor_next h0 h1
theorem for_err {B : Slots → Mu → RS} {tg : Tg} {d : Dat} {ds : List Dat} {σ σ1 : Slots} {μ μ2 : Mu} (h0 : setT tg d σ = some σ1) (h1 : B σ1 μ = some (.error (), μ2)) : evFor B tg (d :: ds) σ μ = some (.error (), μ2) := evFor_stop h0 h1 fun _ q => nomatch q
theorem for_ret {B : Slots → Mu → RS} {tg : Tg} {d : Dat} {ds : List Dat} {σ σ1 : Slots} {μ μ2 : Mu} {V : Vl} (h0 : setT tg d σ = some σ1) (h1 : B σ1 μ = some (.ok (.ret V), μ2)) : evFor B tg (d :: ds) σ μ = some (.ok (.ret V), μ2) := evFor_stop h0 h1 fun _ q => nomatch q
theorem b_mul {a b : Int} (h : small a = true) : binD .Mult (.int a) (.int b) = some (.int (a * b)) := by rw [bd_mul, h]; rfl
theorem b_mul2 {a b : Int} (h : small b = true) : binD .Mult (.int a) (.int b) = some (.int (a * b)) := by rw [bd_mul, h, Bool.or_true]; rfl
theorem a_mul2 {a b : Int} (h : small b = true) : augD .Mult a b = some (a * b) := by rw [augD, h, Bool.or_true]; rfl
section
variable {F G : Nat → List Vl → Mu → RR Vl} {σ : Slots} {μ μ1 μ2 : Mu} {V : Vl} {e : PE} {es : PL} {i : Nat}
theorem l_err1 (h : evE F G e σ μ = some (.error (), μ1)) : evL F G (.cons e es) σ μ = some (.error (), μ1) := by rw [evl_cons, h]; rfl
theorem l_err2 (h : evE F G e σ μ = some (.ok V, μ1)) (h2 : evL F G es σ μ1 = some (.error (), μ2)) : evL F G (.cons e es) σ μ = some (.error (), μ2) := by
  rw [evl_cons, h]; show bindR (evL F G es σ μ1) _ = _; rw [h2]; rfl
theorem e_tup_err (h : evL F G es σ μ = some (.error (), μ1)) : evE F G (.tup es) σ μ = some (.error (), μ1) := by rw [ev_tup, h]; rfl
theorem s_ret_err (h : evE F G e σ μ = some (.error (), μ1)) : evS F G (.ret e) σ μ = some (.error (), μ1) := by rw [evs_ret, h]; rfl
theorem s_asg_err (h : evE F G e σ μ = some (.error (), μ1)) : evS F G (.asg i e) σ μ = some (.error (), μ1) := by rw [evs_asg, h]; rfl
theorem s_expr_err (h : evE F G e σ μ = some (.error (), μ1)) : evS F G (.expr e) σ μ = some (.error (), μ1) := by rw [evs_expr, h]; rfl
end
noncomputable def IsB (p b : Bool) : Prop := p = b
noncomputable def Sel {α : Type} (b : Bool) (x y r : α) : Prop := cond b x y = r
noncomputable def BSel (o : BoolOp) (b : Bool) (x y r : RR Vl) : Prop := (if b = stopOf o then x else y) = r
@[irreducible] def Call (F : Nat → List Vl → Mu → RR Vl) (f : Nat) (Vs : List Vl) (μ : Mu) (r : RR Vl) : Prop := F f Vs μ = r
theorem call_of {F : Nat → List Vl → Mu → RR Vl} {f : Nat} {Vs : List Vl} {μ : Mu} {r : RR Vl} (h : F f Vs μ = r) : Call F f Vs μ r := by unfold Call; exact h
theorem call_eq {F : Nat → List Vl → Mu → RR Vl} {f : Nat} {Vs : List Vl} {μ : Mu} {r : RR Vl} (h : Call F f Vs μ r) : F f Vs μ = r := by unfold Call at h; exact h
section
variable {F G : Nat → List Vl → Mu → RR Vl} {σ σ1 : Slots} {μ μ1 μ2 : Mu} {V V1 V2 : Vl} {e e1 e2 : PE} {es : PL} {Vs : List Vl} {i n : Nat} {p q b : Bool} {x y : Dat} {Q : Prop} [Decidable Q] {B C : PB}
theorem sel_t {α : Type} {x y r : α} (h : x = r) : Sel true x y r := h
theorem sel_f {α : Type} {x y r : α} (h : y = r) : Sel false x y r := h
theorem bsel_ot {x y r : RR Vl} (h : x = r) : BSel .Or true x y r := (if_pos rfl).trans h
theorem bsel_of {x y r : RR Vl} (h : y = r) : BSel .Or false x y r := (if_neg (by decide)).trans h
theorem bsel_at {x y r : RR Vl} (h : y = r) : BSel .And true x y r := (if_neg (by decide)).trans h
theorem bsel_af {x y r : RR Vl} (h : x = r) : BSel .And false x y r := (if_pos rfl).trans h
theorem isb_h (h : p = b) : IsB p b := h
theorem isb_r (b : Bool) : IsB b b := rfl
theorem isb_t (h : Q) : IsB (decide Q) true := decide_eq_true h
theorem isb_f (h : ¬ Q) : IsB (decide Q) false := decide_eq_false h
theorem isb_nf (h : Q) : IsB (!decide Q) false := not_dec_f h
theorem isb_nt (h : ¬ Q) : IsB (!decide Q) true := not_dec_t h
theorem w_cmp {o : CmpOp} (h1 : evE F G e1 σ μ = some (.ok V1, μ1)) (h2 : evE F G e2 σ μ1 = some (.ok V2, μ2)) (hb : cmpV μ2 o V1 V2 = some q) (hq : q = p) : evE F G (.cmp o e1 e2) σ μ = some (.ok (.dat (.bool p)), μ2) := hq ▸ e_cmp h1 h2 hb
theorem w_call {f : Nat} {r : RR Vl} (h : evL F G es σ μ = some (.ok Vs, μ1)) (hF : Call F f Vs μ1 r) : evE F G (.call f es) σ μ = r := e_call h (call_eq hF)
theorem w_meth {m ch : Nat} {r : RR Vl} (hσ : σ[i]? = some (some (.mem n ch))) (h : evL F G es σ μ = some (.ok Vs, μ1)) (hG : Call G m (.mem n ch :: Vs) μ1 r) : evE F G (.meth m i es) σ μ = r := e_meth hσ h (call_eq hG)
theorem w_ite {r : RR Vl} (h : evE F G e σ μ = some (.ok (.dat (.bool p)), μ1)) (hb : IsB p b) (hs : Sel b (evE F G e1 σ μ1) (evE F G e2 σ μ1) r) : evE F G (.ite e e1 e2) σ μ = r := e_ite h (by rw [show p = b from hb]; exact hs)
theorem w_bop {o : BoolOp} {r : RR Vl} (h : evE F G e σ μ = some (.ok (.dat (.bool p)), μ1)) (hb : IsB p b) (hs : BSel o b (some (.ok (.dat (.bool b)), μ1)) (evB F G o (.cons e2 es) σ μ1) r) : evB F G o (.cons e (.cons e2 es)) σ μ = r := by
  rw [evb_cons, h]; cases hb
  exact (ite_congr rfl (fun q => by rw [q]) (fun _ => rfl)).trans hs
theorem w_ife {r : RS} (h : evE F G e σ μ = some (.ok (.dat (.bool p)), μ1)) (hb : IsB p b) (hs : Sel b (evBk F G B σ μ1) (evBk F G C σ μ1) r) : evS F G (.ife e B C) σ μ = r := s_ife h (by rw [show p = b from hb]; exact hs)
theorem w_eq (d1 : deref μ V1 = some x) (d2 : deref μ V2 = some y) (h1 : cmpD .Eq x y = some p) : cmpV μ .Eq V1 V2 = some p := c_dr d1 d2 h1
theorem w_ne (d1 : deref μ V1 = some x) (d2 : deref μ V2 = some y) (h1 : cmpD .NotEq x y = some p) : cmpV μ .NotEq V1 V2 = some p := c_dr d1 d2 h1
theorem w_in (d1 : deref μ V1 = some x) (d2 : deref μ V2 = some y) (h1 : cmpD .In x y = some p) : cmpV μ .In V1 V2 = some p := c_dr d1 d2 h1
end
section
variable {F G : Nat → List Vl → Mu → RR Vl} {σ : Slots} {μ μ1 : Mu} {V : Vl} {e : PE} {s : PS} {B : PB} {x : Except Unit Vl}
theorem s_try_ok (h : evE F G e σ μ = some (.ok V, μ1)) : evS F G (.tryr e) σ μ = some (.ok (.ret V), μ1) := by rw [evs_tryr, h]; rfl
theorem s_try_err (h : evE F G e σ μ = some (.error (), μ1)) : evS F G (.tryr e) σ μ = some (.ok (.ret (.dat .none)), μ1) := by rw [evs_tryr, h]; rfl
theorem s_ret_x (h : evE F G e σ μ = some (x, μ1)) : evS F G (.ret e) σ μ = some (x.map .ret, μ1) := by rw [evs_ret, h]; cases x <;> rfl
theorem k_ret_x (h : evS F G s σ μ = some (x.map .ret, μ1)) : evBk F G (.cons s B) σ μ = some (x.map .ret, μ1) := by rw [evk_cons, h]; cases x <;> rfl
theorem f_ret_x {bd : Slots → Mu → RS} {n np : Nat} {Vs : List Vl} (hl : Vs.length = np) (h : bd (slots0 n Vs) μ = some (x.map .ret, μ1)) : fnRes bd n np Vs μ = some (x, μ1) := by
  unfold fnRes; rw [if_pos hl, h]; cases x <;> rfl
end
theorem bi_len {x : Dat} {a : Int} (h : lenD x = some a) : biD .len x = some (.int a) := by show (lenD x).map Dat.int = _; rw [h]; rfl
theorem sg {σ : Slots} {i j : Nat} {v x : Option Vl} (h : σ[j]? = some v) (n : i ≠ j) : (σ.set i x)[j]? = some v := (List.getElem?_set_ne n).trans h
theorem ss {σ : Slots} {i : Nat} {x : Option Vl} (h : i < σ.length) : (σ.set i x)[i]? = some x := List.getElem?_set_self h
theorem setT_at {σ : Slots} {i : Nat} (h : i < σ.length) (d : Dat) : setT (.one i) d σ = some (σ.set i (some (.dat d))) := if_pos h
theorem tsR_of {m : RR Vl} {b : Bool} {μ : Mu} (h : m = some (.ok (.dat (.bool b)), μ)) : tsR m = some (.ok b, μ) := by rw [h]; rfl
end Mine
end
section
open PySem PySem.W PyProof.Rows PySem.Calls
set_option Elab.async false
set_option maxRecDepth 100000
set_option linter.unusedVariables false
namespace Mine
noncomputable def S? (x : Str) (s : String) : Bool := x == Str.ofString s
noncomputable def cI (i : Int) (c : Const) : Bool := @Const.casesOn (fun _ => Bool) c false (fun _ => false) (fun j => j == i) (fun _ => false) (fun _ _ => false) (fun _ => false) (fun _ => false) false
theorem cI_at {i : Int} {c : Const} (h : cI i c = true) : c = .int i := by
  cases c <;> first | (cases h; done) | exact congrArg Const.int (eq_of_beq h)
noncomputable def cStr (x : Str) (c : Const) : Bool := @Const.casesOn (fun _ => Bool) c false (fun _ => false) (fun _ => false) (fun _ => false) (fun _ _ => false) (fun y => y == x) (fun _ => false) false
theorem cStr_at {x : Str} {c : Const} (h : cStr x c = true) : c = .str x := by
  cases c <;> first | (cases h; done) | exact congrArg Const.str (eq_of_beq h)
theorem and_at {a b : Bool} (h : (a && b) = true) : a = true ∧ b = true := Bool.and_eq_true_iff.mp h
noncomputable def nmS (x : String) (e : Expr) : Bool := tName (fun a => S? a x) e
theorem nmS_at {x : String} {e : Expr} (h : nmS x e = true) : ∃ q, e = .Name (Str.ofString x) q := by
  obtain ⟨a, q, e1, h⟩ := tName_at h
  exact ⟨q, by rw [e1, eq_of_beq h]⟩
noncomputable def ckS (gone : Bool) (e : Expr) : Bool := tSub (fun v i => nmS "chain" v && tConst (fun c => cStr (if gone then Str.ofString "gone" else Str.ofString "beads") c) i) e
theorem ckS_at {g : Bool} {e : Expr} (h : ckS g e = true) : ∃ p n q r, e = .Subscript (.Name (Str.ofString "chain") p) (.Constant (.str (if g then Str.ofString "gone" else Str.ofString "beads")) n q) r := by
  obtain ⟨v, i, r, e1, h⟩ := tSub_at h
  obtain ⟨p, e2⟩ := nmS_at (and_at h).1
  obtain ⟨c, n, q, e3, h⟩ := tConst_at (and_at h).2
  exact ⟨p, n, q, r, by rw [e1, e2, e3, cStr_at h]⟩
noncomputable def intS (i : Int) (e : Expr) : Bool := tConst (cI i) e
theorem intS_at {i : Int} {e : Expr} (h : intS i e = true) : ∃ n q, e = .Constant (.int i) n q := by
  obtain ⟨c, n, q, e1, h⟩ := tConst_at h
  exact ⟨n, q, by rw [e1, cI_at h]⟩
noncomputable def binS (o : Operator) (f g : Expr → Bool) (e : Expr) : Bool := tBin (fun a op b => op == o && (f a && g b)) e
theorem binS_at {o : Operator} {f g : Expr → Bool} {e : Expr} (h : binS o f g e = true) : ∃ a b q, e = .BinOp a o b q ∧ f a = true ∧ g b = true := by
  obtain ⟨a, op, b, q, e1, h⟩ := tBin_at h
  exact ⟨a, b, q, by rw [e1, eq_of_beq (and_at h).1], and_at (and_at h).2⟩
noncomputable def subS (f g : Expr → Bool) (e : Expr) : Bool := tSub (fun a b => f a && g b) e
theorem subS_at {f g : Expr → Bool} {e : Expr} (h : subS f g e = true) : ∃ a b q, e = .Subscript a b q ∧ f a = true ∧ g b = true := by
  obtain ⟨a, b, q, e1, h⟩ := tSub_at h
  exact ⟨a, b, q, e1, and_at h⟩
noncomputable def retS (f : Expr → Bool) (s : Stmt) : Bool := uRet (tS f) s
theorem retS_at {f : Expr → Bool} {s : Stmt} (h : retS f s = true) : ∃ e q, s = .Return (some e) q ∧ f e = true := by
  obtain ⟨o, q, e1, h⟩ := uRet_at h
  obtain ⟨e, e2, h⟩ := tS_at h
  exact ⟨e, q, by rw [e1, e2], h⟩
noncomputable def augS (s : Stmt) : Bool := uAug (fun t o e => o == .Add && (ckS true t && intS 1 e)) s
theorem augS_at {s : Stmt} (h : augS s = true) : ∃ t e q, s = .AugAssign t .Add e q ∧ ckS true t = true ∧ intS 1 e = true := by
  obtain ⟨t, o, e, q, e1, h⟩ := uAug_at h
  exact ⟨t, e, q, by rw [e1, eq_of_beq (and_at h).1], and_at (and_at h).2⟩
noncomputable def lenS (e : Expr) : Bool := tCall (fun f as ks _ => ks.isEmpty && (nmS "len" f && t1 (ckS false) as)) e
theorem lenS_at {e : Expr} (h : lenS e = true) : ∃ p c q, e = .Call (.Name (Str.ofString "len") p) [c] [] q ∧ ckS false c = true := by
  obtain ⟨f, as, ks, q, e1, h⟩ := tCall_at h
  obtain ⟨p, e2⟩ := nmS_at (and_at (and_at h).2).1
  obtain ⟨c, e3, h3⟩ := t1_at (and_at (and_at h).2).2
  exact ⟨p, c, q, by rw [e1, e2, e3, nil_at (and_at h).1], h3⟩
noncomputable def cmpS (e : Expr) : Bool := tCmp (fun a os bs => t1 (fun o => o == .LtE) os && (ckS true a && t1 lenS bs)) e
theorem cmpS_at {e : Expr} (h : cmpS e = true) : ∃ a b q, e = .Compare a [.LtE] [b] q ∧ ckS true a = true ∧ lenS b = true := by
  obtain ⟨a, os, bs, q, e1, h⟩ := tCmp_at h
  obtain ⟨o, e2, h2⟩ := t1_at (and_at h).1
  obtain ⟨b, e3, h3⟩ := t1_at (and_at (and_at h).2).2
  exact ⟨a, b, q, by rw [e1, e2, e3, eq_of_beq h2], (and_at (and_at h).2).1, h3⟩
noncomputable def ifS (f : Expr → Bool) (g : Stmt → Bool) (s : Stmt) : Bool := uIf (fun t bs es => es.isEmpty && (f t && t1 g bs)) s
theorem ifS_at {f : Expr → Bool} {g : Stmt → Bool} {s : Stmt} (h : ifS f g s = true) : ∃ t b q, s = .If t [b] [] q ∧ f t = true ∧ g b = true := by
  obtain ⟨t, bs, es, q, e1, h⟩ := uIf_at h
  obtain ⟨b, e2, h2⟩ := t1_at (and_at (and_at h).2).2
  exact ⟨t, b, q, by rw [e1, e2, nil_at (and_at h).1], (and_at (and_at h).2).1, h2⟩
noncomputable def twoS {α : Type} (f g : α → Bool) (l : List α) : Bool := tC (fun a r => f a && t1 g r) l
theorem twoS_at {α : Type} {f g : α → Bool} {l : List α} (h : twoS f g l = true) : ∃ a b, l = [a, b] ∧ f a = true ∧ g b = true := by
  obtain ⟨a, r, e1, h⟩ := tC_at h
  obtain ⟨b, e2, h2⟩ := t1_at (and_at h).2
  exact ⟨a, b, by rw [e1, e2], (and_at h).1, h2⟩
noncomputable def thrS {α : Type} (f g k : α → Bool) (l : List α) : Bool := tC (fun a r => f a && twoS g k r) l
theorem thrS_at {α : Type} {f g k : α → Bool} {l : List α} (h : thrS f g k l = true) : ∃ a b c, l = [a, b, c] ∧ f a = true ∧ g b = true ∧ k c = true := by
  obtain ⟨a, r, e1, h⟩ := tC_at h
  obtain ⟨b, c, e2, h2⟩ := twoS_at (and_at h).2
  exact ⟨a, b, c, by rw [e1, e2], (and_at h).1, h2⟩
noncomputable def beadShape (b : List Stmt) : Bool := thrS augS (ifS cmpS (retS (binS .Mod (subS (ckS false) (binS .Sub (ckS true) (intS 1))) (nmS "many"))))
    (retS (binS .Mod (binS .Add (binS .Add (binS .Mult (intS 29) (ckS true)) (binS .FloorDiv (binS .Mult (ckS true) (ckS true)) (intS 2))) (intS 4)) (nmS "many"))) b
noncomputable def attrS (o : Expr → Bool) (nm : String) (e : Expr) : Bool := tAttr (fun a n _ => o a && S? n nm) e
theorem attrS_at {o : Expr → Bool} {nm : String} {e : Expr} (h : attrS o nm e = true) : ∃ a p, e = .Attribute a (Str.ofString nm) p ∧ o a = true := by
  obtain ⟨a, n, p, e1, h⟩ := tAttr_at h
  exact ⟨a, p, by rw [e1, eq_of_beq (and_at h).2], (and_at h).1⟩
noncomputable def atS (o : Expr → Bool) (nm : String) (p4 : Pos) (e : Expr) : Bool := tAttr (fun a n p1 => o a && S? n nm && p1.endLine == p4.line) e
theorem atS_at {o : Expr → Bool} {nm : String} {p4 : Pos} {e : Expr} (h : atS o nm p4 e = true) : ∃ a p1, e = .Attribute a (Str.ofString nm) p1 ∧ o a = true ∧ (p1.endLine == p4.line) = true := by
  obtain ⟨a, n, p, e1, h⟩ := tAttr_at h
  exact ⟨a, p, by rw [e1, eq_of_beq (and_at (and_at h).1).2], (and_at (and_at h).1).1, (and_at h).2⟩
noncomputable def methS (o : Expr → Bool) (nm : String) (f g : Expr → Bool) (e : Expr) : Bool := tCall (fun c as kw p4 => atS o nm p4 c && twoS f g as && kw.isEmpty) e
theorem methS_at {o : Expr → Bool} {nm : String} {f g : Expr → Bool} {e : Expr} (h : methS o nm f g e = true) : ∃ a p1 x y p4, e = .Call (.Attribute a (Str.ofString nm) p1) [x, y] [] p4 ∧ o a = true ∧ f x = true ∧ g y = true ∧ (p1.endLine == p4.line) = true := by
  obtain ⟨c, as, kw, p4, e0, h⟩ := tCall_at h
  obtain ⟨a, p1, e1, h1, h2⟩ := atS_at (and_at (and_at h).1).1
  obtain ⟨x, y, e2, h3, h4⟩ := twoS_at (and_at (and_at h).1).2
  exact ⟨a, p1, x, y, p4, by rw [e0, e1, e2, nil_at (and_at h).2], h1, h3, h4, h2⟩
noncomputable def exprS (f : Expr → Bool) (s : Stmt) : Bool := uExp f s
theorem exprS_at {f : Expr → Bool} {s : Stmt} (h : exprS f s = true) : ∃ e q, s = .Expr e q ∧ f e = true := uExp_at h
noncomputable def asgS (f g : Expr → Bool) (s : Stmt) : Bool := uAsg (fun ts e => t1 f ts && g e) s
theorem asgS_at {f g : Expr → Bool} {s : Stmt} (h : asgS f g s = true) : ∃ t e q, s = .Assign [t] e q ∧ f t = true ∧ g e = true := by
  obtain ⟨ts, e, q, e1, h⟩ := uAsg_at h
  obtain ⟨t, e2, h2⟩ := t1_at (and_at h).1
  exact ⟨t, e, q, by rw [e1, e2], h2, (and_at h).2⟩
noncomputable def noneS (e : Expr) : Bool := tConst isNonC e
theorem noneS_at {e : Expr} (h : noneS e = true) : ∃ p q, e = .Constant .none p q := by
  obtain ⟨c, p, q, e1, h⟩ := tConst_at h
  exact ⟨p, q, by rw [e1, isNonC_at h]⟩
noncomputable def lstS (f : Expr → Bool) (e : Expr) : Bool := tLst (t1 f) e
theorem lstS_at {f : Expr → Bool} {e : Expr} (h : lstS f e = true) : ∃ a q, e = .List [a] q ∧ f a = true := by
  obtain ⟨es, q, e1, h⟩ := tLst_at h
  obtain ⟨a, e2, h2⟩ := t1_at h
  exact ⟨a, q, by rw [e1, e2], h2⟩
end Mine
end
section
open PySem PySem.W PyProof.Rows PySem.Calls
set_option Elab.async false
set_option maxRecDepth 100000
set_option linter.unusedVariables false
namespace Mine

noncomputable def Rch (c : Cx) : Obj → List (Str × Value) → Prop := fun o kvs => ∀ (h : Heap) (d : Addr), h.get? d = some o → h.DictOf (PySem.strKind c.prog c.w) d kvs

section
variable {c : Cx} {k : Nat} {tbl : Tbl} {gs : Gs} {ws : List Nat} {σ σ' : Slots} {μ μ' μ'' : Mu}

noncomputable def ckD (gone : Bool) (b : List Int) (g : Int) : Dat := if gone then .int g else .list (b.map .int)
noncomputable def ckN (gone : Bool) : Str := if gone then Str.ofString "gone" else Str.ofString "beads"
theorem strIs (x : Str) (t : Tok) : (PySem.strKind c.prog c.w).is x (.str x t) = true := by
  show Value.isStrOf x (.str x t) = true
  simp [Value.isStrOf]
theorem chain_val {l : Value} {g : Int} {t : Tok} : valueAt [(Str.ofString "beads", l), (Str.ofString "gone", Value.int g t)] (Str.ofString "beads") = some l ∧ valueAt [(Str.ofString "beads", l), (Str.ofString "gone", Value.int g t)] (Str.ofString "gone") = some (.int g t) := by
  have e : ¬ (Str.ofString "beads" = Str.ofString "gone") := by decide +kernel
  constructor
  · unfold valueAt; rw [List.find?_cons_of_pos (by simp)]; rfl
  · unfold valueAt; rw [List.find?_cons_of_neg (by simpa using e), List.find?_cons_of_pos (by simp)]; rfl
theorem he_ckey {x : Str} {xp cp pos : Pos} {kk : Nat} {j : Nat} {b : List Int} {g : Int} {gone : Bool} (h : HE c k tbl gs (.Name x xp) σ μ (.ok (.mref j)) μ) (hm : μ[j]? = some (.chain (Rch c) b g)) :
    HE c k tbl gs (.Subscript (.Name x xp) (.Constant (.str (ckN gone)) kk cp) pos) σ μ (.ok (.dat (ckD gone b g))) μ := by
  intro A env Φ s Q E ev S hq he
  refine Subscript_ (h A env Φ s _ _ ev S (fun V' v s' Φ' q a vi => ?_) fun _ _ _ q => by cases q)
  cases ok_inj q
  obtain ⟨d, rfl, hd⟩ := vi
  refine Calls.Constant_str ?_
  obtain ⟨mo, o, g1, g3, g4⟩ := (a.ss.tag _ _ hd).2
  rw [hm] at g1; cases g1
  obtain ⟨l, t, hR, dl⟩ := g4
  have hD : (s'.heap).DictOf (PySem.strKind c.prog c.w) d _ := hR s'.heap d g3
  have hM := hD.mapOf
  have fin : ∀ (v : Value), valueAt [(Str.ofString "beads", Value.ref l), (Str.ofString "gone", Value.int g t)] (ckN gone) = some v → DIn Φ' v (ckD gone b g) →
      wpAny (model c.prog c.w) A (subscriptTail (.Name x xp) (.Constant (.str (ckN gone)) kk cp) (.ref d) (.str (ckN gone) s'.toks)) Q E { s' with toks := s'.toks + 1 } := fun v hv dv => by
    refine tail_any (T := "dict") (s := { s' with toks := s'.toks + 1 }) (Heap.MapOf.typeIs (s := { s' with toks := s'.toks + 1 }) hM) slot_dict_getitem.lookup ?_ rfl
    exact wpAny_getItem_of (s := { s' with toks := s'.toks + 1 }) (strIs _ _) hM hv (hq _ _ _ Φ' rfl (a.trans (Aft.tok a.ss _)) dv)
  cases gone with
  | true => exact fin _ chain_val.2 (DIn.int _ _)
  | false => exact fin _ chain_val.1 dl
theorem hs_bump {x : Str} {xp cp sp p1 pos : Pos} {k1 k2 : Nat} {j : Nat} {b : List Int} {g : Int} (h : HE c k tbl gs (.Name x xp) σ μ (.ok (.mref j)) μ) (hm : μ[j]? = some (.chain (Rch c) b g)) :
    HS c k tbl gs ws (exec (.AugAssign (.Subscript (.Name x xp) (.Constant (.str (Str.ofString "gone")) k1 cp) sp) .Add (.Constant (.int 1) k2 p1) pos)) σ μ (.ok (.next σ)) (μ.set j (.chain (Rch c) b (g + 1))) := by
  intro A env Φ s Q E ev S hn hr he
  refine wpAny_AugAssign_SubscriptAny (h A env Φ s _ _ ev.toEV S (fun V' v s' Φ' q a vi => ?_) fun _ _ _ q => by cases q)
  cases ok_inj q
  obtain ⟨d, rfl, hd⟩ := vi
  refine Calls.Constant_str ?_
  obtain ⟨mo, o, g1, g3, g4⟩ := (a.ss.tag _ _ hd).2
  rw [hm] at g1; cases g1
  obtain ⟨l, t, hR, dl⟩ := g4
  have hD : (s'.heap).DictOf (PySem.strKind c.prog c.w) d _ := hR s'.heap d g3
  refine wpAny_getItem_of (s := { s' with toks := s'.toks + 1 }) (strIs _ _) hD.mapOf chain_val.2 ?_
  refine wpAny_Constant_int (iadd_int ?_)
  refine wpAny_setItem_pairs (s := { s' with toks := _ }) (strIs _ _) hD (fun h' hD' hsb => ?_) (by show 2 ≤ sizeLine; decide)
  have e : ¬ (Str.ofString "beads" = Str.ofString "gone") := by decide +kernel
  have est : ∀ v : Value, stored [(Str.ofString "beads", Value.ref l), (Str.ofString "gone", Value.int g t)] (Str.ofString "gone") v = [(Str.ofString "beads", Value.ref l), (Str.ofString "gone", v)] := fun v => by
    unfold stored
    rw [if_pos (by simp)]
    simp [e]
  rw [est] at hD'
  obtain ⟨o', es, ep, ho', r⟩ := id hD'
  have z := a.ss.turn (mo := .chain (Rch c) b (g + 1)) hd hsb ho' ⟨l, _, fun h2 d2 q2 => ⟨o', es, ep, q2, r⟩, dl⟩
  have fin : Aft c.hb s { s' with heap := h', toks := s'.toks + 1 + 1 + 1 + 1 + 1 } Φ Φ' _ := a.trans ⟨h', _, rfl, z, .refl _⟩
  exact hn _ _ Φ' rfl (fin.toX env) (ev.mono a.le)
theorem he_mod {l rr : Expr} {pos : Pos} {a b : Int} (h1 : HE c k tbl gs l σ μ (.ok (.dat (.int a))) μ') (h2 : HE c k tbl gs rr σ μ' (.ok (.dat (.int b))) μ'') (hb : b ≠ 0) :
    HE c k tbl gs (.BinOp l .Mod rr pos) σ μ (.ok (.dat (.int (a.fmod b)))) μ'' := by
  intro A env Φ s Q E ev S hq he
  refine wpAny_BinOp (h1 A env Φ s _ _ ev S (fun V' v s' Φ' q a vi => h2 A env Φ' s' _ _ (ev.mono a.le) a.ss (fun V'' u s'' Φ'' q2 a2 vi2 => ?_) fun _ _ _ q => by cases q) fun _ _ _ q => by cases q)
  cases ok_inj q; cases ok_inj q2
  cases vi with
  | int _ t =>
  cases vi2 with
  | int _ t2 => exact mod_int hb (hq _ _ _ _ rfl ((a.trans a2).trans (Aft.tok a2.ss _)) (DIn.int _ _))
theorem he_fdiv {l rr : Expr} {pos : Pos} {a b : Int} (h1 : HE c k tbl gs l σ μ (.ok (.dat (.int a))) μ') (h2 : HE c k tbl gs rr σ μ' (.ok (.dat (.int b))) μ'') (hb : b ≠ 0) (hs : b.natAbs < 1073741824) :
    HE c k tbl gs (.BinOp l .FloorDiv rr pos) σ μ (.ok (.dat (.int (a.fdiv b)))) μ'' := by
  intro A env Φ s Q E ev S hq he
  refine wpAny_BinOp (h1 A env Φ s _ _ ev S (fun V' v s' Φ' q a vi => h2 A env Φ' s' _ _ (ev.mono a.le) a.ss (fun V'' u s'' Φ'' q2 a2 vi2 => ?_) fun _ _ _ q => by cases q) fun _ _ _ q => by cases q)
  cases ok_inj q; cases ok_inj q2
  cases vi with
  | int _ t =>
  cases vi2 with
  | int _ t2 => exact AutoIntOps.floordiv_1 (by simpa using hb) (by rw [PyProof.noPylong_small hs]; simp) (hq _ _ _ _ rfl ((a.trans a2).trans (Aft.tok a2.ss _)) (DIn.int _ _))

noncomputable def ceq (c : Const) (d : Dat) : Bool := mC c d
noncomputable def beadB (R₀ : Obj → List (Str × Value) → Prop) (σ : Slots) (μ : Mu) : RS := match σ with
  | [some V, some W] => (match beadF R₀ [V, W] μ with
    | some (.ok V, μ') => some (.ok (.ret V), μ')
    | _ => none)
  | _ => none
theorem mem2 {x y : Str} : (0, x) ∈ ([(0, x), (1, y)] : Tbl) ∧ (1, y) ∈ ([(0, x), (1, y)] : Tbl) := ⟨.head _, .tail _ (.head _)⟩
section
variable {j : Nat} {m : Int} {b : List Int} {g : Int} {e : Expr} {s : Stmt} {fs hs : Expr → Bool}
noncomputable abbrev btb : Tbl := [(0, Str.ofString "chain"), (1, Str.ofString "many")]
noncomputable abbrev bsl (j : Nat) (m : Int) : Slots := [some (.mref j), some (.dat (.int m))]
theorem hb_chain {p : Pos} : HE c k btb gs (.Name (Str.ofString "chain") p) (bsl j m) μ (.ok (.mref j)) μ := he_loc mem2.1 rfl (by decide +kernel) (by decide +kernel)
theorem hb_many (h : nmS "many" e = true) : HE c k btb gs e (bsl j m) μ (.ok (.dat (.int m))) μ := by
  obtain ⟨p, e1⟩ := nmS_at h
  rw [e1]; exact he_loc mem2.2 rfl (by decide +kernel) (by decide +kernel)
theorem hb_int {i : Int} (h : intS i e = true) : HE c k btb gs e (bsl j m) μ (.ok (.dat (.int i))) μ := by
  obtain ⟨n, q, e1⟩ := intS_at h
  rw [e1]; exact he_const (d := .int i) rfl
theorem hb_ck {gone : Bool} (hm : μ[j]? = some (.chain (Rch c) b g)) (h : ckS gone e = true) : HE c k btb gs e (bsl j m) μ (.ok (.dat (ckD gone b g))) μ := by
  obtain ⟨p, n, q, r, e1⟩ := ckS_at h
  rw [e1]; exact he_ckey hb_chain hm
theorem hb_bin {op : Operator} {x y z : Int} (h : binS op fs hs e = true) (h1 : ∀ e, fs e = true → HE c k btb gs e σ μ (.ok (.dat (.int x))) μ) (h2 : ∀ e, hs e = true → HE c k btb gs e σ μ (.ok (.dat (.int y))) μ) (hz : binD op (.int x) (.int y) = some (.int z)) :
    HE c k btb gs e σ μ (.ok (.dat (.int z))) μ := by
  obtain ⟨a, a2, q, e1, g1, g2⟩ := binS_at h
  rw [e1]; exact he_bin (h1 a g1) (h2 a2 g2) rfl rfl hz
theorem hb_mod {x y : Int} (h : binS .Mod fs hs e = true) (h1 : ∀ e, fs e = true → HE c k btb gs e σ μ (.ok (.dat (.int x))) μ) (h2 : ∀ e, hs e = true → HE c k btb gs e σ μ (.ok (.dat (.int y))) μ) (hy : y ≠ 0) :
    HE c k btb gs e σ μ (.ok (.dat (.int (x.fmod y)))) μ := by
  obtain ⟨a, a2, q, e1, g1, g2⟩ := binS_at h
  rw [e1]; exact he_mod (h1 a g1) (h2 a2 g2) hy
theorem hb_fdiv {x y : Int} (h : binS .FloorDiv fs hs e = true) (h1 : ∀ e, fs e = true → HE c k btb gs e σ μ (.ok (.dat (.int x))) μ) (h2 : ∀ e, hs e = true → HE c k btb gs e σ μ (.ok (.dat (.int y))) μ) (hy : y ≠ 0) (hy2 : y.natAbs < 1073741824) :
    HE c k btb gs e σ μ (.ok (.dat (.int (x.fdiv y)))) μ := by
  obtain ⟨a, a2, q, e1, g1, g2⟩ := binS_at h
  rw [e1]; exact he_fdiv (h1 a g1) (h2 a2 g2) hy hy2
theorem hb_idx {x : Dat} {i : Int} {z : Dat} (h : subS fs hs e = true) (h1 : ∀ e, fs e = true → HE c k btb gs e σ μ (.ok (.dat x)) μ) (h2 : ∀ e, hs e = true → (∀ l u q, e ≠ .Slice l u none q) ∧ HE c k btb gs e σ μ (.ok (.dat (.int i))) μ) (hz : idxD x i = some z) :
    HE c k btb gs e σ μ (.ok (.dat z)) μ := by
  obtain ⟨a, a2, q, e1, g1, g2⟩ := subS_at h
  rw [e1]; exact he_idx (h2 a2 g2).1 (h1 a g1) (h2 a2 g2).2 rfl hz
theorem bin_nosl {op : Operator} (h : binS op fs hs e = true) : ∀ l u q, e ≠ .Slice l u none q := by
  obtain ⟨a, a2, q, e1, g1, g2⟩ := binS_at h
  rw [e1]; intro _ _ _ q; cases q
theorem hb_ret {V : Vl} (h : retS fs s = true) (h1 : ∀ e, fs e = true → HE c k btb gs e σ μ (.ok V) μ') : HS c k btb gs ws (exec s) σ μ (.ok (.ret V)) μ' := by
  obtain ⟨a, q, e1, g1⟩ := retS_at h
  rw [e1]; exact hs_return (h1 a g1)
theorem hb_aug (hm : μ[j]? = some (.chain (Rch c) b g)) (h : augS s = true) : HS c k btb gs ws (exec s) (bsl j m) μ (.ok (.next (bsl j m))) (μ.set j (.chain (Rch c) b (g + 1))) := by
  obtain ⟨t, e, q, e1, g1, g2⟩ := augS_at h
  obtain ⟨p, n, q1, r, e2⟩ := ckS_at g1
  obtain ⟨n2, q2, e3⟩ := intS_at g2
  rw [e1, e2, e3]; exact hs_bump hb_chain hm
theorem hb_len (Sn : CxOk c) (hlen : GN c Bi.len.nm Bi.len.val) (hgl : GI gs Bi.len.nm) (hm : μ[j]? = some (.chain (Rch c) b g)) (hrb : room b.length = true) (h : lenS e = true) : HE c k btb gs e (bsl j m) μ (.ok (.dat (.int b.length))) μ := by
  obtain ⟨p, a, q, e1, g1⟩ := lenS_at h
  obtain ⟨p3, n, q3, r, e2⟩ := ckS_at g1
  rw [e1]
  refine he_bi (b := .len) (z := .int b.length) Sn hgl hlen (fun _ _ q => by rw [e2] at q; cases q) (hb_ck (gone := false) hm g1) rfl ?_
  show (lenD (.list (b.map .int))).map Dat.int = _
  rw [show lenD (.list (b.map .int)) = some ((b.map Dat.int).length : Int) from lenR_of (by rw [List.length_map]; exact hrb), List.length_map]; rfl
theorem hb_cmp (Sn : CxOk c) (hlen : GN c Bi.len.nm Bi.len.val) (hgl : GI gs Bi.len.nm) (hm : μ[j]? = some (.chain (Rch c) b g)) (hrb : room b.length = true) (h : cmpS e = true) : HT c k btb gs e (bsl j m) μ (.ok (decide (g ≤ b.length))) μ := by
  obtain ⟨x, y, q, e1, g1, g2⟩ := cmpS_at h
  rw [e1]
  exact ht_cmp (op := .LtE) (V2 := .dat (.int b.length)) (b := decide (g ≤ b.length)) (by obtain ⟨p, a, q2, e2, _⟩ := lenS_at g2; rw [e2]; rfl) (hb_ck (gone := true) hm g1) (hb_len Sn hlen hgl hm hrb g2) rfl
theorem bead_pick (hg0 : 0 ≤ g) (hle : g + 1 ≤ b.length) (hb : b.length ≤ 10000) : idxD (.list (b.map .int)) (g + 1 - 1) = some (.int ((b[(g + 1 - 1).toNat]?).getD 0)) := by
  have hgi : (b.map Dat.int)[g.toNat]? = some (Dat.int ((b[(g + 1 - 1).toNat]?).getD 0)) := by
    have e1 : (g + 1 - 1).toNat = g.toNat := by (first | lia | omega)
    rw [e1, List.getElem?_map]
    cases hx : b[g.toNat]? with
    | none => rw [List.getElem?_eq_none_iff] at hx; (first | lia | omega)
    | some y => rfl
  have hsq : seqIndex? (g + 1 - 1) (b.map Dat.int).length = some g.toNat := by
    have := seqIndex_of (k := g + 1 - 1) (n := (b.map Dat.int).length) (by (first | lia | omega)) (by simp; (first | lia | omega))
    rw [this]; congr 1; (first | lia | omega)
  exact idxL_of ⟨by omega, by omega⟩ hsq hgi
end
theorem bead_run (Sn : CxOk c) (hlen : GN c Bi.len.nm Bi.len.val) (hgl : GI gs Bi.len.nm) {j : Nat} {m : Int} {b : List Int} {g : Int} {ss : List Stmt} (h : beadShape ss = true) (hj : μ[j]? = some (.chain (Rch c) b g)) (hm0 : m ≠ 0) (hrb : room b.length = true) (hb : b.length ≤ 10000) (hg0 : 0 ≤ g) (hsm : small (g + 1) = true) :
    HS c k btb gs [0, 1] (execs ss) (bsl j m) μ (.ok (.ret (.dat (.int ((beadAt b (g + 1)).fmod m))))) (μ.set j (.chain (Rch c) b (g + 1))) := by
  obtain ⟨s1, s2, s3, e0, h1, h2, h3⟩ := thrS_at h
  rw [e0]
  have hjl : j < μ.length := (List.getElem?_eq_some_iff.mp hj).1
  have hj1 : (μ.set j (.chain (Rch c) b (g + 1)))[j]? = some (.chain (Rch c) b (g + 1)) := List.getElem?_set_self hjl
  refine hs_cons_next (hb_aug hj h1) ?_
  obtain ⟨t, s, q, e1, h4, h5⟩ := ifS_at h2
  rw [e1]
  have htest := hb_cmp (m := m) (k := k) Sn hlen hgl hj1 hrb h4
  have gone : ∀ e, ckS true e = true → HE c k btb gs e (bsl j m) _ (.ok (.dat (.int (g + 1)))) _ := fun e h => hb_ck (gone := true) hj1 h
  unfold beadAt
  by_cases hle : g + 1 ≤ b.length
  · rw [decide_eq_true hle] at htest
    rw [if_pos hle]
    refine hs_cons_stop (hs_if htest ?_) (fun _ q => by cases q)
    refine hs_cons_stop (hb_ret h5 fun e h6 => ?_) (fun _ q => by cases q)
    exact hb_mod h6 (fun e h7 => hb_idx h7 (fun e h8 => hb_ck (gone := false) hj1 h8) (fun e h8 => ⟨bin_nosl h8, hb_bin h8 gone (fun e h9 => hb_int h9) rfl⟩) (bead_pick hg0 hle hb)) (fun e h7 => hb_many h7) hm0
  · rw [decide_eq_false hle] at htest
    rw [if_neg hle]
    refine hs_cons_next (hs_if htest hs_nil) ?_
    refine hs_cons_stop (hb_ret h3 fun e h6 => ?_) (fun _ q => by cases q)
    have e29 : binD .Mult (.int 29) (.int (g + 1)) = some (.int (29 * (g + 1))) := by
      exact if_pos (c := (small 29 || small (g + 1)) = true) (e := none) rfl
    have esq : binD .Mult (.int (g + 1)) (.int (g + 1)) = some (.int ((g + 1) * (g + 1))) := by
      exact if_pos (c := (small (g + 1) || small (g + 1)) = true) (e := none) (by rw [hsm]; rfl)
    exact hb_mod h6 (fun e h7 => hb_bin h7 (fun e h8 => hb_bin h8 (fun e h9 => hb_bin h9 (fun e h => hb_int h) gone e29) (fun e h9 => hb_fdiv h9 (fun e h => hb_bin h gone gone esq) (fun e h => hb_int h) (by decide) (by decide)) rfl) (fun e h8 => hb_int h8) rfl) (fun e h7 => hb_many h7) hm0
theorem bead_hs (Sn : CxOk c) (hlen : GN c Bi.len.nm Bi.len.val) (hgl : GI gs Bi.len.nm) {ss : List Stmt} (hs : beadShape ss = true)
    {r : Except Unit Fl} (h : beadB (Rch c) σ μ = some (r, μ')) : HS c k [(0, Str.ofString "chain"), (1, Str.ofString "many")] gs [0, 1] (execs ss) σ μ r μ' := by
  unfold beadB at h
  split at h
  · rename_i V W
    unfold beadF at h
    split at h
    · rename_i rr μ1 hb
      split at hb
      · rename_i j m hv
        injection hv with hv1 hv
        injection hv with hv2 _
        subst hv1 hv2
        split at hb
        · rename_i R b g hj
          split at hb
          · rename_i hc
            obtain ⟨rfl, c1, c2, c3, c4, c5⟩ := hc
            cases hb
            cases h
            exact bead_run Sn hlen hgl hs hj (by (first | lia | omega)) (by simp [room]; (first | lia | omega)) (by (first | lia | omega)) (by (first | lia | omega)) (by unfold small; exact decide_eq_true (by (first | lia | omega)))
          · cases hb
        · cases hb
      · cases hb
    · cases h
  · cases h
end
end Mine
end
section
open PySem PySem.W PyProof.Rows PySem.Calls
set_option Elab.async false
set_option maxRecDepth 100000
set_option linter.unusedVariables false
namespace Mine

noncomputable def butN (hb h : Heap) (L dx : Addr) (od : Obj) : List (Addr × Obj) := (dx, od) :: (allN hb h L).filter fun p => !(p.1 == dx)
theorem SS.backBut {hb h h' : Heap} {Φ : Phi} {μ : Mu} (S : SS hb h Φ μ) {L dx : Addr} {m : Str → Option Value} {od od' : Obj} (hL : Φ L = some (.fm m)) (hdx : Φ dx = some (.ot od)) (F : Fr hb L h' m) (N : News hb L h' ((dx, od') :: (allN hb h L).filter fun p => !(p.1 == dx))) :
    SS hb h' (ins Φ dx (.ot od')) μ ∧ LeD Φ (ins Φ dx (.ot od')) := by
  have ld : LeD Φ (ins Φ dx (.ot od')) := fun b u e q => by
    have : b ≠ dx := fun z => by rw [z, hdx] at e; cases e; cases q
    rw [ins_ne _ _ this]; exact e
  refine ⟨⟨F.keep, fun a t e => ?_, fun x y i e1 e2 => ?_⟩, ld⟩
  · by_cases q : a = dx
    · subst q
      rw [ins_self] at e; cases e
      exact ⟨(S.tag _ _ hdx).1, (N _ (.head _)).1⟩
    · rw [ins_ne _ _ q] at e
      refine ⟨(S.tag a t e).1, ?_⟩
      by_cases qL : a = L
      · subst qL
        rw [hL] at e; cases e
        exact F.ns
      · exact (S.tag a t e).2.at (fun o ho => (N (a, o) (.tail _ (List.mem_filter.mpr ⟨allN_mem.mpr ⟨ho, qL, S.hb_none e⟩, by simpa using q⟩))).1) ld.toF
  · have hx : x ≠ dx := fun q => by rw [q, ins_self] at e1; cases e1
    have hy : y ≠ dx := fun q => by rw [q, ins_self] at e2; cases e2
    rw [ins_ne _ _ hx] at e1; rw [ins_ne _ _ hy] at e2
    exact S.inj x y i e1 e2

section
variable {c : Cx} {k : Nat} {tbl : Tbl} {gs : Gs} {ws : List Nat} {σ σ' : Slots} {μ μ' μ'' : Mu}

theorem he_rep {np lp mp xp pos : Pos} {kk : Nat} {x : Str} {n : Int} (h : HE c k tbl gs (.Name x xp) σ μ (.ok (.dat (.int n))) μ) (h0 : 0 ≤ n) (h1 : n ≤ 1000) :
    HE c k tbl gs (.BinOp (.List [.Constant .none kk np] lp) .Mult (.Name x xp) pos) σ μ (.ok (.mref μ.length)) (μ ++ [.lst (List.replicate n.toNat .none)]) := by
  intro A env Φ s Q E ev S hq he
  refine wpAny_BinOp (List_ ?_)
  rw [starEach_cons (fun _ _ q => by cases q)]
  refine spliced_cons (wpAny_Constant_none (k := kk) (pos := np) (spliced_nil (wpAny_newList ?_ (by show 1 ≤ sizeLine; decide))))
  obtain ⟨L, m, hL⟩ := ev.toCV.tag
  have p := Aft.pushOt S hL { cls := .type "list", data := .seq ([Value.none] : List Value).toArray } s.toks
  refine h A env _ _ _ _ (ev.mono p.le) p.ss (fun V' v s' Φ' q a vi => ?_) fun _ _ _ q => by cases q
  cases ok_inj q
  cases vi with
  | int _ t =>
  have ev2 := (ev.mono p.le).mono a.le
  obtain ⟨L2, m2, hL2⟩ := ev2.toCV.tag
  have hl := (a.ss.tag _ _ (a.le _ _ (ins_self _ _ _))).2
  refine mul_list (a.ss.fr hL2) allN_news hl (by (first | lia | omega)) (by (first | lia | omega)) (by simp; (first | lia | omega)) fun h' F' N' => ?_
  have S' := a.ss.back hL2 F' (fun p hp => N' p (.tail _ hp))
  have hnew := (N' _ (.head _)).1
  have hn : Φ' s'.heap.objs.size = none := a.ss.none_ge (Nat.le_refl _)
  have z := S'.newMt (mo := .lst (List.replicate n.toNat .none)) (fun _ _ e => e) hn (a.ss.size hL2) hnew ⟨rfl, List.replicate n.toNat .none, 0, by
    rw [listMul_foldl]
    simp [lm_rep_flat_one], DAll.replicate DIn.none _⟩
  exact hq _ _ _ _ rfl (p.trans (a.trans ⟨h', s'.toks, rfl, z.1, z.2⟩)) ⟨_, rfl, ins_self _ _ _⟩

theorem set_new {A : Around} {s : Shared} {Φ : Phi} {Q : Unit → Shared → Prop} {E : Value → Shared → Prop} {L x dx : Addr} {m : Str → Option Value} {es : List DictEntry} {n : Nat} {name : Str} {v : Value} (ok : CxOk c) (S : SS c.hb s.heap Φ μ) (hL : Φ L = some (.fm m)) (hx : Φ x = some (.fz (instObj c.mC dx))) (hdx : Φ dx = some (.ot (dictOf es n)))
    (hs : findIn c.K (.ref c.mC) "__setattr__" = some (some (.builtin "object.__setattr__"))) (hp : plainOver c.K c.mC = true) (ht : takerIn c.K c.mC name = some none) (hh : hasDictIn c.K c.mC = true) (hl : (getL name es).isSome = true) (hz : es.length ≤ 900)
    (h : ∀ h' tk hsh k', SS c.hb h' (ins Φ dx (.ot (dictOf (putL name hsh (.str name k') v es) (putN name es n)))) μ → LeD Φ (ins Φ dx (.ot (dictOf (putL name hsh (.str name k') v es) (putN name es n)))) → Q () { s with heap := h', toks := tk }) :
    wpAny (model c.prog c.w) A (setAttr (.ref x) name v) Q E s := by
  have N : News c.hb L s.heap ((dx, dictOf es n) :: (allN c.hb s.heap L).filter fun p => !(p.1 == dx)) := fun p hp => by
    rcases List.mem_cons.mp hp with rfl | hp
    · refine ⟨(S.tag _ _ hdx).2, fun q => ?_, S.hb_none hdx⟩
      dsimp only at q
      rw [q, hL] at hdx; cases hdx
    · exact allN_news p (List.mem_filter.mp hp).1
  have plen : ∀ (es : List DictEntry) (a : Int) (b u : Value), (putL name a b u es).length ≤ es.length + 1 := by
    intro es a b u
    induction es with
    | nil => simp [putL]
    | cons e r ih =>
      unfold putL
      split
      · simp
      · simp; (first | lia | omega)
  refine set_dict (S.fr hL) ok.kin N (I := ⟨(S.tag _ _ hx).2, rfl, rfl, (S.tag _ _ hdx).2⟩) rfl hs hp ht hh hl rfl (.head fun p hp => by simpa using (List.mem_filter.mp hp).2) (by have := plen es (PyData.keyHash c.w.params name) (.str name (s.toks + 1)) v; (first | lia | omega)) fun h' F' N' => ?_
  have z := S.backBut hL hdx F' N'
  exact h h' _ _ _ z.1 z.2
end
end Mine
end
section
open PySem PySem.W PyProof.Rows PySem.Calls
set_option Elab.async false
set_option maxRecDepth 100000
set_option linter.unusedVariables false
namespace Mine

structure MemOk (c : Cx) (fI : Addr) : Prop where
  mks : makesIn c.K c.mC = true
  ini : findIn c.K (.ref c.mC) "__init__" = some (some (.ref fI))
  isf : isFn c.K (.ref fI) = true
  st : findIn c.K (.ref c.mC) "__setattr__" = some (some (.builtin "object.__setattr__"))
  ov : plainOver c.K c.mC = true
  tn : takerIn c.K c.mC (Str.ofString "numeric") = some none
  tc : takerIn c.K c.mC (Str.ofString "characters") = some none
  hd : hasDictIn c.K c.mC = true
noncomputable def memTb : Tbl := [(0, Str.ofString "self"), (1, Str.ofString "numeric"), (2, Str.ofString "characters")]
noncomputable def memPr : List Str := [Str.ofString "self", Str.ofString "numeric", Str.ofString "characters"]
noncomputable abbrev memStmt (nm : String) (p0 p1 p2 p3 p4 p5 p6 : Pos) (n0 : Nat) : Stmt :=
  .Assign [.Attribute (.Name (Str.ofString "self") p0) (Str.ofString nm) p1] (.BinOp (.List [.Constant .none n0 p2] p3) .Mult (.Name (Str.ofString nm) p4) p5) p6

section
variable {c : Cx} {k : Nat} {tbl : Tbl} {gs : Gs} {ws : List Nat} {σ σ' : Slots} {μ μ' μ'' : Mu}

theorem cv_under {Φ : Phi} {A : Around} {C : Addr} {rest : List Value} (h : CV Φ A (k + 1)) : CV Φ (A.under (.builtin "type.__call__" ⟨.ref C :: rest, []⟩)) k := by
  have h1 : (Code.builtin "type.__call__" ⟨.ref C :: rest, []⟩).weight = 1 := by kernel_rfl
  have h2 : (Code.builtin "type.__call__" ⟨.ref C :: rest, []⟩).cUnits = 1 := by kernel_rfl
  have h3 : (Code.builtin "type.__call__" ⟨.ref C :: rest, []⟩).envs = [] := by kernel_rfl
  refine ⟨h.hh, ?_, ?_, ?_⟩
  · have := h.dep
    show A.depth + (Code.builtin "type.__call__" ⟨.ref C :: rest, []⟩).weight + k ≤ 900
    rw [h1]; (first | lia | omega)
  · have := h.uni
    show A.units + (Code.builtin "type.__call__" ⟨.ref C :: rest, []⟩).cUnits + 20 * k ≤ 5000
    rw [h2]; (first | lia | omega)
  · show ∃ fenv l, pushEnvs (Code.builtin "type.__call__" ⟨.ref C :: rest, []⟩).envs A.frames = some (fenv :: l) ∧ _
    rw [h3]
    exact h.frs

theorem mem_line {A : Around} {env : Env} {Φ : Phi} {s : Shared} {Q : Flow → Shared → Prop} {E : Value → Shared → Prop} {fI : Addr} {nm : String} {p0 p1 p2 p3 p4 p5 p6 : Pos} {n0 : Nat} {i : Nat} {x dx : Addr} {es : List DictEntry} {nn : Nat} {n : Int} (ok : CxOk c) (M : MemOk c fI)
    (ev : FS c Φ A env k memTb gs [0, 1, 2] σ) (S : SS c.hb s.heap Φ μ) (hx : Φ x = some (.fz (instObj c.mC dx))) (hdx : Φ dx = some (.ot (dictOf es nn))) (h0 : σ[0]? = some (some (.raw x))) (hi : (i, Str.ofString nm) ∈ memTb) (hv : σ[i]? = some (some (.dat (.int n))))
    (hd : (Str.ofString nm == ("__debug__" : Str)) = false) (hcd : (Str.ofString nm == ("__classdict__" : Str)) = false) (ht : takerIn c.K c.mC (Str.ofString nm) = some none) (hl : (getL (Str.ofString nm) es).isSome = true) (hz : es.length ≤ 900) (hn0 : 0 ≤ n) (hn1 : n ≤ 1000)
    (h : ∀ l h' tk hsh k' Φ1, Le Φ Φ1 → Φ1 l = some (.mt μ.length) → SS c.hb h' (ins Φ1 dx (.ot (dictOf (putL (Str.ofString nm) hsh (.str (Str.ofString nm) k') (.ref l) es) (putN (Str.ofString nm) es nn)))) (μ ++ [.lst (List.replicate n.toNat .none)]) →
      LeD Φ1 (ins Φ1 dx (.ot (dictOf (putL (Str.ofString nm) hsh (.str (Str.ofString nm) k') (.ref l) es) (putN (Str.ofString nm) es nn)))) → Q .next { s with heap := h', toks := tk }) :
    wpAny (model c.prog c.w) A (exec (memStmt nm p0 p1 p2 p3 p4 p5 p6 n0) env) Q E s := by
  refine plainObj_wpAny_Assign_Attribute ?_
  refine he_rep (mp := p3) (he_loc hi hv hd hcd) hn0 hn1 A env Φ s _ _ ev.toEV S (fun V v s1 Φ1 q a1 vi => ?_) fun _ _ _ q => by cases q
  cases ok_inj q
  obtain ⟨l, rfl, hl1⟩ := vi
  refine he_loc (tbl := memTb) (i := 0) (x := Str.ofString "self") (V := .raw x) (.head _) h0 (by decide +kernel) (by decide +kernel) A env Φ1 s1 _ _ (ev.toEV.mono a1.le) a1.ss (fun V2 u s2 Φ2 q2 a2 vi2 => ?_) fun _ _ _ q => by cases q
  cases ok_inj q2
  cases (show u = .ref x from vi2)
  have le := a1.le.trans a2.le
  obtain ⟨L, m, hL⟩ := ((ev.toCV.mono a1.le).mono a2.le).tag
  refine set_new ok a2.ss hL (le _ _ hx) (le _ _ hdx) M.st M.ov ht M.hd hl hz fun h' tk hsh k' S' ld => ?_
  obtain ⟨h1, t1, rfl, _, _⟩ := a1
  obtain ⟨h2, t2, rfl, _, _⟩ := id a2
  exact h l h' tk hsh k' Φ2 le (a2.le _ _ hl1) S' ld

theorem mem_contract {fI : Addr} {fd : FuncData} {p0 p1 p2 p3 p4 p5 p6 q0 q1 q2 q3 q4 q5 q6 : Pos} {n0 n1 : Nat} (ok : CxOk c) (M : MemOk c fI) (F : FnAt c fI fd [memStmt "numeric" p0 p1 p2 p3 p4 p5 p6 n0, memStmt "characters" q0 q1 q2 q3 q4 q5 q6 n1] memPr) (sc : ScOk fd.scope memTb gs [0, 1, 2] memPr 3) :
    Contract c (k + 2) (.ref c.mC) memF := by
  intro A Φ s Q E vs Vs μ r μ' cv S va e hok her
  unfold memF at e
  split at e
  · rename_i a b
    split at e
    · rename_i hc
      obtain ⟨c1, c2, c3, c4⟩ := hc
      cases e
      have va0 := va
      cases va with
      | cons v1 va =>
      cases va with
      | cons v2 va =>
      cases va
      rename_i x1 x2
      obtain ⟨L, m, hL⟩ := cv.tag
      obtain ⟨hh, g, d, t, os⟩ := s
      have SS0 : SS c.hb hh Φ μ := S
      refine wpAny_call (make_core (makes_of (ok.kin.keeps SS0.keep) M.mks) (looks_findIn (ok.kin.keeps SS0.keep) M.ini) (fun self => bind_fn (ok.kin.keeps SS0.keep) self (beq_iff_eq.mp M.isf)) (.inl rfl) ?_)
      have z1 := SS0.new (keeps_push emptyDict) (SS0.none_ge (Nat.le_refl _)) (SS0.size hL) (t := .ot emptyDict) (Heap.get?_push_size _ rfl) (fun _ q => by cases q)
      have hsz : (hh.push emptyDict).objs.size = hh.objs.size + 1 := Heap.size_push ..
      have z2 := z1.1.new (keeps_push (instObj c.mC hh.objs.size)) (z1.1.none_ge (Nat.le_refl _)) (z1.1.size (z1.2 _ _ hL)) (t := .fz (instObj c.mC hh.objs.size)) (Heap.get?_push_size _ rfl) (fun _ q => by cases q)
      rw [hsz] at z2
      generalize hΦ2 : ins (ins Φ hh.objs.size (.ot emptyDict)) (hh.objs.size + 1) (.fz (instObj c.mC hh.objs.size)) = Φ2 at z2
      have le2 : Le Φ Φ2 := z1.2.trans z2.2
      have hdx2 : Φ2 hh.objs.size = some (.ot emptyDict) := z2.2 _ _ (ins_self _ _ _)
      have hx2 : Φ2 (hh.objs.size + 1) = some (.fz (instObj c.mC hh.objs.size)) := by rw [← hΦ2]; exact ins_self _ _ _
      have va2 : VAll c.mC Φ2 [.ref (hh.objs.size + 1), x1, x2] [.raw (hh.objs.size + 1), .dat (.int a), .dat (.int b)] := .cons rfl (va0.mono le2)
      refine fn_enter (k := k) (s := ⟨(hh.push emptyDict).push (instObj c.mC hh.objs.size), g, d, t, os⟩) ok F sc (cv_under (cv.mono le2)) z2.1 va2 rfl fun env Φ3 h3 tk3 fs S3 le3 own hkeep => ?_
      have hdx3 : Φ3 hh.objs.size = some (.ot (dictOf [] 0)) := le3 _ _ hdx2
      have hx3 := le3 _ _ hx2
      refine wpAny_execs_cons (mem_line (i := 1) (es := []) (nn := 0) ok M fs S3 hx3 hdx3 rfl (.tail _ (.head _)) rfl (by decide +kernel) (by decide +kernel) M.tn rfl (by decide) c1 c2 fun l1 h4 tk4 hsh1 kk1 Φ4 le4 hl1 S4 ld4 => ?_)
      dsimp only
      have nO : hh.objs.size ≠ env.locals := fun q => own _ _ hdx2 (.inl q)
      have fs4 : FS c (ins Φ4 hh.objs.size (.ot (dictOf (putL (Str.ofString "numeric") hsh1 (.str (Str.ofString "numeric") kk1) (.ref l1) []) (putN (Str.ofString "numeric") [] 0)))) _ env k memTb gs [0, 1, 2] (slots0 3 [.raw (hh.objs.size + 1), .dat (.int a), .dat (.int b)]) :=
        (fs.mono le4).of ((fs.mono le4).toEVS.ot (le4 _ _ hdx3) ld4)
      have hx4 := ld4 _ _ (le4 _ _ hx3) rfl
      have hl1' := ld4 _ _ hl1 rfl
      have hg : (getL (Str.ofString "characters") (putL (Str.ofString "numeric") hsh1 (.str (Str.ofString "numeric") kk1) (.ref l1) [])).isSome = true := by
        show (getL (Str.ofString "characters") [⟨hsh1, .str (Str.ofString "numeric") kk1, .ref l1⟩]).isSome = true
        have e0 : (Str.ofString "numeric" == Str.ofString "characters") = false := by decide +kernel
        have e1 : (Value.str (Str.ofString "numeric") kk1).isStr (Str.ofString "characters") = false := e0
        unfold getL
        rw [List.find?_cons_of_neg (by simp [e1])]
        rfl
      refine wpAny_execs_cons (mem_line (i := 2) ok M fs4 S4 hx4 (ins_self _ _ _) rfl (.tail _ (.tail _ (.head _))) rfl (by decide +kernel) (by decide +kernel) M.tc hg (show 1 ≤ 900 by decide) c3 c4 fun l2 h5 tk5 hsh2 kk2 Φ5 le5 hl2 S5 ld5 => ?_)
      dsimp only
      refine wpAny_execs_nil ⟨rfl, ?_⟩
      have hdx5 : Φ5 hh.objs.size = some (.ot _) := le5 _ _ (ins_self _ _ _)
      have hx5 := le5 _ _ hx4
      have hl1'' := le5 _ _ hl1'
      have fz := S5.freeze (ins_self _ _ _)
      have hne1 : l1 ≠ hh.objs.size := fun q => by rw [q, hdx5] at hl1''; cases hl1''
      have hne2 : l2 ≠ hh.objs.size := fun q => by rw [q, hdx5] at hl2; cases hl2
      have e0 : (Str.ofString "numeric" == Str.ofString "characters") = false := by decide +kernel
      have ep : putL (Str.ofString "characters") hsh2 (.str (Str.ofString "characters") kk2) (.ref l2) (putL (Str.ofString "numeric") hsh1 (.str (Str.ofString "numeric") kk1) (.ref l1) []) = [⟨hsh1, .str (Str.ofString "numeric") kk1, .ref l1⟩, ⟨hsh2, .str (Str.ofString "characters") kk2, .ref l2⟩] := by
        show putL _ _ _ _ [⟨hsh1, .str (Str.ofString "numeric") kk1, .ref l1⟩] = _
        unfold putL
        rw [if_neg (by show ¬ ((Str.ofString "numeric" == Str.ofString "characters") = true); rw [e0]; decide)]
        rfl
      have lm : μ.length + 1 = (μ ++ [MO.lst (List.replicate a.toNat .none)]).length := by simp
      have mm : (μ ++ [MO.lst (List.replicate a.toNat .none)]) ++ [MO.lst (List.replicate b.toNat .none)] = μ ++ [.lst (List.replicate a.toNat .none), .lst (List.replicate b.toNat .none)] := by simp
      rw [mm] at fz
      have leΦ : Le Φ (ins (ins Φ5 hh.objs.size (.ot (dictOf (putL (Str.ofString "characters") hsh2 (.str (Str.ofString "characters") kk2) (.ref l2) (putL (Str.ofString "numeric") hsh1 (.str (Str.ofString "numeric") kk1) (.ref l1) [])) (putN (Str.ofString "characters") (putL (Str.ofString "numeric") hsh1 (.str (Str.ofString "numeric") kk1) (.ref l1) []) (putN (Str.ofString "numeric") [] 0))))) hh.objs.size
          (.fz (dictOf (putL (Str.ofString "characters") hsh2 (.str (Str.ofString "characters") kk2) (.ref l2) (putL (Str.ofString "numeric") hsh1 (.str (Str.ofString "numeric") kk1) (.ref l1) [])) (putN (Str.ofString "characters") (putL (Str.ofString "numeric") hsh1 (.str (Str.ofString "numeric") kk1) (.ref l1) []) (putN (Str.ofString "numeric") [] 0))))) := fun b u q => by
        have hb : b ≠ hh.objs.size := fun w => by rw [w, SS0.none_ge (Nat.le_refl _)] at q; cases q
        rw [ins_ne _ _ hb, ins_ne _ _ hb]
        refine le5 _ _ ?_
        rw [ins_ne _ _ hb]
        exact le4 _ _ (le3 _ _ (le2 _ _ q))
      refine hok _ _ _ _ rfl ⟨h5, tk5, rfl, fz.1, leΦ⟩ ⟨hh.objs.size + 1, rfl, hh.objs.size, kk1, kk2, hsh1, hsh2, l1, l2, putN (Str.ofString "characters") (putL (Str.ofString "numeric") hsh1 (.str (Str.ofString "numeric") kk1) (.ref l1) []) (putN (Str.ofString "numeric") [] 0), ?_, ?_, ?_, ?_⟩
      · rw [ins_ne _ _ (Nat.succ_ne_self _), ins_ne _ _ (Nat.succ_ne_self _)]; exact hx5
      · rw [ins_self, ep]
      · rw [ins_ne _ _ hne1, ins_ne _ _ hne1]; exact hl1''
      · rw [ins_ne _ _ hne2, ins_ne _ _ hne2, lm]; exact hl2
    · cases e
  · cases e
end
end Mine
end
section
open PySem PySem.W PyProof.Rows PySem.Calls
set_option Elab.async false
set_option maxRecDepth 100000
set_option linter.unusedVariables false
namespace Mine

noncomputable def baseM : List Value := [.type "Exception", .type "BaseException", .type "object"]
structure ExcFacts (c : Cx) (fI : Addr) : Prop where
  obj : ∃ nm q N bs sn sub ab col dd k0 k1 k2 k3 k5 F, c.hb.get? c.rC = some (excClassObj nm q c.rC N bs (.ref F :: baseM) true sn sub ab col dd k0 k1 k2 k3 k5 "Exception.__new__")
  ini : findIn c.K (.ref c.rC) "__init__" = some (some (.ref fI))
  isf : isFn c.K (.ref fI) = true
  st : findIn c.K (.ref c.rC) "__setattr__" = some (some (.builtin "object.__setattr__"))
  tx : findIn c.K (.ref c.rC) (Str.ofString "text") = some none
  gn : GN c (Str.ofString "Exception") (.type "Exception")
  fc : findCls c.K (.type "Exception") (.type "type") (Str.ofString "__init__") = some (.val (.builtin "Exception.__init__"))

section
variable {prog : Program} {w : World} {A : Around} {E : Value → Shared → Prop} {h : Heap} {g : Array GenState} {d : Drawn} {t : Nat} {os : OsState}
variable {nm q : Str} {C N fF : Addr} {bs : List Value} {hdct : Bool} {sn : List Str} {sub : List Value} {ab : Bool} {col : Option Bool} {dd : Option Addr} {k0 k1 k2 k3 k5 : Option Value}
noncomputable abbrev rcObj (nm q : Str) (C N fF : Addr) (bs : List Value) (hdct : Bool) (sn : List Str) (sub : List Value) (ab : Bool) (col : Option Bool) (dd : Option Addr) (k0 k1 k2 k3 k5 : Option Value) : Obj :=
  excClassObj nm q C N bs (.ref fF :: baseM) hdct sn sub ab col dd k0 k1 k2 k3 k5 "Exception.__new__"

theorem tailHas {X : String} {b : Bool} (hb : baseM.contains (.type X) = b) : (Value.ref C :: .ref fF :: baseM).contains (.type X) = b := by
  rw [List.contains_cons, List.contains_cons, hb]; rfl
theorem rc_check_new {M : Model} {rest : List Value} {Q : Unit → Shared → Prop} (hC : h.get? C = some (rcObj nm q C N fF bs hdct sn sub ab col dd k0 k1 k2 k3 k5))
    (hq : Q () ⟨h, g, d, t, os⟩) : wpAny M A (checkBuiltinCall "Exception.__new__" ⟨.ref C :: rest, []⟩) Q E ⟨h, g, d, t, os⟩ := by
  have F := PySem.F.excBase_Exception
  have hcont : (Value.ref C :: .ref fF :: baseM).contains (.type "Exception") = true := tailHas F.hasB
  have hstar := F.noStar
  simp only [checkBuiltinCall, F.newKind, F.newSplit, F.newRow]
  repeat (first | refine wpAny_loadPart_at hC ?_ | (refine wpAny_isSubtype_exc hC ?_; rw [hcont]) | refine wpAny_staticBase_exc hC ?_ | refine wpAny_madeBy_exc hC ?_ | simp only [bne_self_eq_false, Bool.false_eq_true, if_false] | wp_step)
  exact hq
theorem rc_new {R : Result → Shared → Prop} {rest : List Value} (hC : h.get? C = some (rcObj nm q C N fF bs hdct sn sub ab col dd k0 k1 k2 k3 k5))
    (hq : R (.ok (.ret (.ref (h.objs.size + 1)))) ⟨(h.push { cls := .type "tuple", data := .seq rest.toArray }).push
      { cls := .ref C, data := .fields #[.ref h.objs.size, .none, .none, .none, .bool false, .none] }, g, d, t, os⟩) (hrest : rest.length ≤ sizeLine) :
    codeAny (model prog w) A (.builtin "Exception.__new__" ⟨.ref C :: rest, []⟩) R ⟨h, g, d, t, os⟩ := by
  have F := PySem.F.excBase_Exception
  have hends := F.ends
  have hcB : (Value.ref C :: .ref fF :: baseM).contains (.type "Exception") = true := tailHas F.hasB
  have hcA : (Value.ref C :: .ref fF :: baseM).contains (.type "AttributeError") = false := tailHas F.noAttr
  have hcN : (Value.ref C :: .ref fF :: baseM).contains (.type "NameError") = false := tailHas F.noName
  refine PySem.codeAny_builtinAt F.entry ?_
  unfold Builtin.«BaseException.__new__»
  refine PySem.wpAt_bind ?_
  show PySem.wpAt _ _ _ (stack >>= _) _ _ _
  refine PySem.wpAt_bind (PySem.wpAt_stack fun p below => PySem.wpAt_of_wpAny ?_)
  wp_walk
  refine PySem.wpAt_of_wpAny ?_
  rw [F.owner]
  repeat (first | with_reducible refine wpAny_madeHere_exc F.canon hC ?_ | with_reducible refine wpAny_loadPart_at hC ?_ | (with_reducible refine wpAny_isSubtype_exc hC ?_; first | rw [hcB] | rw [hcA] | rw [hcN]) | wp_step)
  show R _ _
  rw [Heap.size_push]
  exact hq

theorem rc_type_call {K : Frag} {fI : Addr} {rest : List Value} {Q : Fin → Shared → Prop} (X : K.In h) (hi : findIn K (.ref C) "__init__" = some (some (.ref fI))) (hf : typeIn K (.ref fI) = some (.type "function"))
    (hC : h.get? C = some (rcObj nm q C N fF bs hdct sn sub ab col dd k0 k1 k2 k3 k5))
    (hq : wpAny (model prog w) A (call (.ref fI) (.ref (h.objs.size + 1) :: rest)) (fun r s' => r = .none ∧ Q (.done (.ret (.ref (h.objs.size + 1)))) s') E ⟨(h.push { cls := .type "tuple", data := .seq rest.toArray }).push
      { cls := .ref C, data := .fields #[.ref h.objs.size, .none, .none, .none, .bool false, .none] }, g, d, t, os⟩) (hrest : rest.length ≤ sizeLine) :
    wpAny (model prog w) A (Builtin.«type.__call__» ⟨.ref C :: rest, []⟩) Q E ⟨h, g, d, t, os⟩ := by
  have F := PySem.F.excBase_Exception
  repeat (first | with_reducible refine wpAny_loadPart_at hC ?_ | with_reducible refine wpAny_madeBy_exc hC ?_ | wp_step)
  refine codeAny_call_builtin_code (Code.quiet_builtin _ F.quiet) (rc_check_new hC ?_)
  refine rc_new hC ?_ hrest
  show wpAny _ _ _ _ _ _
  have k : ∀ b o, h.get? b = some o → ((h.push { cls := .type "tuple", data := .seq rest.toArray }).push { cls := .ref C, data := .fields #[.ref h.objs.size, .none, .none, .none, .bool false, .none] }).get? b = some o := fun b o e => Heap.get?_push_of_some _ (Heap.get?_push_of_some _ e)
  have hC₁ := k _ _ hC
  have hget : ((h.push { cls := .type "tuple", data := .seq rest.toArray }).push
      { cls := .ref C, data := .fields #[.ref h.objs.size, .none, .none, .none, .bool false, .none] }).get? (h.objs.size + 1) = some
      { cls := .ref C, data := .fields #[.ref h.objs.size, .none, .none, .none, .bool false, .none] } := by heap_get
  have hcC : (Value.ref C :: .ref fF :: baseM).contains (.ref C) = true := by simp
  unfold isInstance
  repeat (first | with_reducible refine wpAny_loadPart_at hget ?_ | (with_reducible refine wpAny_isSubtype_exc hC₁ ?_; rw [hcC]) | wp_step)
  show wpAny _ _ (typeLookup (.ref C) _) _ _ _
  refine (looks_findIn (X.keeps k) hi).here ?_
  refine wpAny_holding (wpAny_bind ?_)
  refine (bind_fn (X.keeps k) (.ref (h.objs.size + 1)) hf).here ?_
  refine wpAny_bind (wpAny_mono hq (fun r s' hr => ?_) fun _ _ x => x)
  obtain ⟨rfl, hQ⟩ := hr
  wp_walk
  exact hQ
theorem rc_call {K : Frag} {fI : Addr} {rest : List Value} {Q : Value → Shared → Prop} (X : K.In h) (hi : findIn K (.ref C) "__init__" = some (some (.ref fI))) (hf : typeIn K (.ref fI) = some (.type "function"))
    (hC : h.get? C = some (rcObj nm q C N fF bs hdct sn sub ab col dd k0 k1 k2 k3 k5))
    (hq : wpAny (model prog w) (A.under (.builtin "type.__call__" ⟨.ref C :: rest, []⟩)) (call (.ref fI) (.ref (h.objs.size + 1) :: rest)) (fun r s' => r = .none ∧ Q (.ref (h.objs.size + 1)) s') E ⟨(h.push { cls := .type "tuple", data := .seq rest.toArray }).push
      { cls := .ref C, data := .fields #[.ref h.objs.size, .none, .none, .none, .bool false, .none] }, g, d, t, os⟩) (hrest : rest.length ≤ sizeLine) :
    wpAny (model prog w) A (call (.ref C) rest) Q E ⟨h, g, d, t, os⟩ := by
  have f1 := tc_lookup
  have f2 := tc_bind (.ref C)
  have hT : (⟨h, g, d, t, os⟩ : Shared).TypeIs (.ref C) "type" := ⟨_, hC, rfl⟩
  refine wpAny_call (codeAny_of_tree ?_)
  show wpAny _ _ (callAny (.ref C) _) _ _ _
  repeat (any_goals (first | assumption | with_reducible refine wpAny_loadPart_at hC ?_ | wp_step))
  refine ⟨rfl, ?_⟩
  exact codeAny_call_builtin_at (Code.quiet_builtin _ (by decide +kernel)) entry_typeCall (wpAny_check_type_call_sub hC (rc_type_call X hi hf hC hq hrest))
end
end Mine
end
section
open PySem PySem.W PyProof.Rows PySem.Calls PySem.Builtin PySem.Builtin.ObjectAttr
set_option Elab.async false
set_option maxRecDepth 100000
set_option linter.unusedVariables false
namespace Mine

section
variable {prog : Program} {w : World} {A : Around} {E : Value → Shared → Prop} {h : Heap} {g : Array GenState} {d : Drawn} {t : Nat} {os : OsState}
variable {nm q : Str} {C N fF : Addr} {bs : List Value} {hdct : Bool} {sn : List Str} {sub : List Value} {ab : Bool} {col : Option Bool} {dd : Option Addr} {k0 k1 k2 k3 k5 : Option Value}

theorem rc_check_init {M : Model} {e : Addr} {oe : Obj} {rest : List Value} {Q : Unit → Shared → Prop}
    (hC : h.get? C = some (rcObj nm q C N fF bs hdct sn sub ab col dd k0 k1 k2 k3 k5)) (he : h.get? e = some oe) (hcls : oe.cls = .ref C) (hq : Q () ⟨h, g, d, t, os⟩) :
    wpAny M A (checkBuiltinCall "Exception.__init__" ⟨.ref e :: rest, []⟩) Q E ⟨h, g, d, t, os⟩ := by
  have F := PySem.F.excBase_Exception
  have hcB : (Value.ref C :: .ref fF :: baseM).contains (.type "Exception") = true := tailHas F.hasB
  have hshort := F.noStar
  simp only [checkBuiltinCall, F.initKind, F.initSplit, F.initRow]
  repeat (first | (with_reducible refine wpAny_loadPart_at he ?_; rw [hcls]) | with_reducible refine wpAny_loadPart_at hC ?_ | (with_reducible refine wpAny_isSubtype_exc hC ?_; rw [hcB]) | wp_step)
  refine wpAny_onRaise ?_
  rw [show ∀ (a b : String) (n : Nat), Bind.check ⟨.positional, "*", "Exception", .self, [⟨"args", .varPos, false⟩]⟩ a b n (List.map (fun x => x.fst) ({ pos := Value.ref e :: rest } : Args).kw) = pure () from
    fun a b n => check_star_args _ _ _ _ _ _]
  exact wpAny_pure hq
theorem rc_init {e : Addr} {oe : Obj} {vs : Array Value} {t0 : Addr} {rest : List Value} {Q : Value → Shared → Prop}
    (hC : h.get? C = some (rcObj nm q C N fF bs hdct sn sub ab col dd k0 k1 k2 k3 k5)) (he : h.get? e = some oe) (hcls : oe.cls = .ref C) (hd : oe.data = .fields vs) (h0 : vs[0]? = some (.ref t0))
    (hq : Q .none ⟨(h.push { cls := .type "tuple", data := .seq rest.toArray }).update e (Obj.mapFields (·.setIfInBounds 0 (.ref h.objs.size))), g, d, t, os⟩) (hrest : rest.length ≤ sizeLine) :
    wpAny (model prog w) A (call (.builtin "Exception.__init__") (.ref e :: rest)) Q E ⟨h, g, d, t, os⟩ := by
  have F := PySem.F.excBase_Exception
  refine wpAny_call (codeAny_call_builtin F.init.plain F.initEntry (rc_check_init hC he hcls ?_))
  unfold Builtin.«BaseException.__init__»
  dsimp only
  rw [if_neg (by simp)]
  unfold newTuple Builtin.BaseException.bexcPut
  have hsz : 0 < vs.size := (Array.getElem?_eq_some_iff.mp h0).1
  have he₁ := Heap.get?_push_of_some (h := h) { cls := .type "tuple", data := .seq rest.toArray } he
  refine wpAny_bind (wpAny_newObj_type (wpAny_bind (wpAny_bind (wpAny_field he₁ hd h0 (wpAny_bind (wpAny_setField he₁ hd hsz ?_))))) (by show rest.toArray.size ≤ sizeLine; rw [List.size_toArray]; exact hrest))
  exact wpAny_letGo (wpAny_pure hq)

theorem rc_set {K : Frag} {e : Addr} {oe : Obj} {vs : Array Value} {name : Str} {v : Value} {Q : Unit → Shared → Prop} (X : K.In h) (hst : findIn K (.ref C) "__setattr__" = some (some (.builtin "object.__setattr__"))) (htx : findIn K (.ref C) name = some none)
    (hC : h.get? C = some (rcObj nm q C N fF bs true sn sub ab col dd k0 k1 k2 k3 k5)) (he : h.get? e = some oe) (hcls : oe.cls = .ref C) (hd : oe.data = .fields vs) (hdn : oe.dict = none)
    (hq : ∀ h' dx tk', h'.get? e = some { cls := oe.cls, dict := some dx, data := oe.data, slots := oe.slots } → (∀ b o, b ≠ e → h.get? b = some o → h'.get? b = some o) → Q () ⟨h', g, d, tk', os⟩) :
    wpAny (model prog w) A (setAttr (.ref e) name v) Q E ⟨h, g, d, t, os⟩ := by
  have SF := PySem.F.store_Exception
  have I : InstAt h e oe C none := ⟨he, hcls, by unfold notCls; rw [hd], by rw [hdn]; trivial⟩
  refine set_plain (s := ⟨h, g, d, t, os⟩) X I hst ?_
  have hcO : (Value.ref C :: .ref fF :: baseM).contains (.type "object") = true := tailHas (by decide)
  have sub : Looks (model prog w) h (isInstance (.ref e) (.type "object")) true := I.type.andThen (fun A Q E s k q => by
    obtain ⟨h', g', d', t', o'⟩ := s
    refine wpAny_isSubtype_exc (k _ _ hC) ?_
    rw [hcO]; exact q)
  refine codeAny_call_builtin SF.slot.plain SF.entry (@check_slot (model prog w) _ _ (⟨h, g, d, t + 1, os⟩ : Shared) "object.__setattr__" "object" "__setattr__" (.ref e) [.str name t, v] [] _ SF.kind SF.split sub (SF.args (.ref e) (.str name t) v) ?_)
  rw [osa_eq, refuse_eq]
  have hpass : refuseLoop (.ref e) "__setattr__" (Value.ref C :: .ref fF :: baseM) = pure () := by
    rw [refuseLoop_ref, refuseLoop_ref]; exact SF.passes (.ref e)
  have hlk : Looks (model prog w) h (typeLookup (.ref C) name) none := looks_findIn X htx
  refine wpAny_bind (wpAny_bind (I.type.here (wpAny_bind (wpAny_mroOf_exc hC ?_))))
  rw [hpass]
  refine wpAny_pure (wpAny_bind (I.type.here (wpAny_bind (hlk.here ?_))))
  refine wpAny_bind (wpAny_pure ?_)
  dsimp only
  unfold storeInOwnDict ownDictForStores instanceDict
  refine wpAny_bind (wpAny_pure ?_)
  rw [if_neg (by intro q; cases q)]
  repeat (first | (with_reducible refine wpAny_loadPart_at he ?_; rw [hcls]) | with_reducible refine wpAny_loadPart_at hC ?_ | wp_step)
  rw [hdn]
  dsimp only
  rw [if_neg (by simp [typeHasDict]), hd]
  dsimp only
  have hx₁ : (h.push { cls := .type "dict", data := .dict #[] }).get? e = some oe := Heap.get?_push_of_some _ he
  have hxs : e ≠ h.objs.size := Nat.ne_of_lt (Heap.lt_size he)
  refine wpAny_bind (wpAny_alloc' ?_)
  refine wpAny_bind (wpAny_update' hx₁ ?_)
  refine wpAny_pure ?_
  have hgd : ((h.push { cls := .type "dict", data := .dict #[] }).update e fun o => { cls := o.cls, dict := some h.objs.size, data := o.data, slots := o.slots }).get? h.objs.size
      = some { cls := .type "dict", data := .dict #[] } :=
    (Heap.get?_update_ne _ _ _ _ hxs.symm).trans (Heap.get?_push_at rfl rfl)
  have hnd : ((h.push { cls := .type "dict", data := .dict #[] }).update e fun o => { cls := o.cls, dict := some h.objs.size, data := o.data, slots := o.slots }).Ns h.objs.size (fun _ => none) :=
    ⟨_, #[], _, hgd, rfl, fun e he => absurd he (by simp), fun _ => rfl⟩
  show wpAny _ _ (storeInDict h.objs.size (.str name t) name v) _ _ _
  unfold storeInDict newKeyGuard
  refine wpAny_bind (wpAny_pure (wpAny_bind (wpAny_nsSet1 (Heap.Ns1.of_empty hnd) fun h' hn' hs => ?_)))
  obtain ⟨oD, esD, epD, hoD, hdD, hcD⟩ := hn'.count (Within.cons name v Within.nil)
  refine wpAny_bind (wpAny_lookBehind hoD (by rw [hdD]; exact pastItsLine_dict (Nat.le_trans hcD (by rw [List.length_cons, List.length_nil, sizeLine_eq]; (first | lia | omega)))) ?_)
  refine wpAny_pure (hq h' h.objs.size _ ?_ fun b o hb hbo => ?_)
  · refine (hs.2 e hxs).trans (Heap.get?_update_self _ hx₁ ?_)
    have hfr := (Heap.get?_some_iff.mp he).2
    obtain ⟨oc, od, odt, osl⟩ := oe
    cases odt <;> first | rfl | exact hfr
  · exact (hs.2 b (Nat.ne_of_lt (Heap.lt_size hbo))).trans ((Heap.get?_update_ne _ _ _ _ hb).trans (Heap.get?_push_of_some _ hbo))

theorem rc_raise {env : Env} {s : Shared} {x : Sem Value} {Q : Flow → Shared → Prop} (hh : A.handled = none)
    (hx : wpAny (model prog w) A x (fun v s₁ => ∃ e oe vs, v = .ref e ∧ s₁.heap.get? C = some (rcObj nm q C N fF bs true sn sub ab col dd k0 k1 k2 k3 k5) ∧
      s₁.heap.get? e = some oe ∧ oe.cls = .ref C ∧ oe.data = .fields vs ∧ vs[1]? = some .none ∧ E (.ref e) s₁) E s) :
    wpAny (model prog w) A (raiseStmt env (some x) none) Q E s := by
  have hcB : (Value.ref C :: .ref fF :: baseM).contains (.type "BaseException") = true := tailHas (by decide)
  unfold raiseStmt
  refine wpAny_bind (wpAny_mono hx (fun v s₁ h₁ => ?_) fun _ _ x => x)
  obtain ⟨e, oe, vs, rfl, hC, he, hcls, hd, h1, hE⟩ := h₁
  obtain ⟨hp, g, d, tk, os⟩ := s₁
  repeat (first | (with_reducible refine wpAny_loadPart_at he ?_; first | rw [hcls] | rw [hd]) | with_reducible refine wpAny_loadPart_at hC ?_ | (with_reducible refine wpAny_isSubtype_exc hC ?_; rw [hcB]) | wp_step)
  rw [hd]
  refine wpAny_pure ?_
  rw [h1]
  refine wpAny_pure ?_
  rw [if_neg (by decide)]
  exact wpAny_pure (wpAny_raiseNew_none hh hE)
end
end Mine
end
section
open PySem PySem.W PyProof.Rows PySem.Calls
set_option Elab.async false
set_option maxRecDepth 100000
set_option linter.unusedVariables false
namespace Mine

noncomputable def excTb : Tbl := [(0, Str.ofString "self"), (1, Str.ofString "text")]
noncomputable def excPr : List Str := [Str.ofString "self", Str.ofString "text"]
noncomputable abbrev excBody (p0 p1 p2 p3 p4 p5 q0 q1 q2 q3 : Pos) : List Stmt := [
  .Expr (.Call (.Attribute (.Name (Str.ofString "Exception") p0) (Str.ofString "__init__") p1) [.Name (Str.ofString "self") p2, .Name (Str.ofString "text") p3] [] p4) p5,
  .Assign [.Attribute (.Name (Str.ofString "self") q0) (Str.ofString "text") q1] (.Name (Str.ofString "text") q2) q3]

theorem mapFields_dict (f : Array Value → Array Value) (o : Obj) : (Obj.mapFields f o).dict = o.dict := by
  obtain ⟨c, d, dt, s⟩ := o
  cases dt <;> rfl
theorem two_names {x y : Str} {p q : Pos} : ∀ a ∈ [Expr.Name x p, .Name y q], ∀ z r, a ≠ .Starred z r := by
  intro a ha z r h
  rcases List.mem_cons.mp ha with rfl | ha
  · cases h
  · rw [List.mem_singleton.mp ha] at h; cases h
section
variable {c : Cx} {k : Nat} {tbl : Tbl} {gs : Gs} {ws : List Nat} {σ σ' : Slots} {μ μ' μ'' : Mu}

theorem exc_enter {gx : Gs} {fI : Addr} {fd : FuncData} {p0 p1 p2 p3 p4 p5 q0 q1 q2 q3 : Pos} {A : Around} {Φ : Phi} {s : Shared} {R : Result → Shared → Prop} {e t0 : Addr} {oe : Obj} {vs : Array Value} {msg : Str} {tk : Tok} (ok : CxOk c) (X : ExcFacts c fI) (hline : (p1.endLine == p4.line) = true)
    (F : FnAt c fI fd (excBody p0 p1 p2 p3 p4 p5 q0 q1 q2 q3) excPr) (sc : ScOk fd.scope excTb gx [0, 1] excPr 2) (hgx : (Str.ofString "Exception", NameKind.globalImplicit) ∈ gx) (cv : CV Φ A (k + 1)) (S : SS c.hb s.heap Φ μ)
    (he : Φ e = some (.ot oe)) (hcls : oe.cls = .ref c.rC) (hd : oe.data = .fields vs) (h0 : vs[0]? = some (.ref t0)) (h1 : vs[1]? = some .none) (hdn : oe.dict = none)
    (hR : ∀ h' tk' Φ' oe' vs' a0, SS c.hb h' Φ' μ → (∀ a t, a ≠ e → Φ a = some t → Φ' a = some t) → Φ' e = some (.ot oe') → oe'.cls = .ref c.rC → oe'.data = .fields vs' → vs'[0]? = some a0 → vs'[1]? = some .none → R (.ok (.ret .none)) { s with heap := h', toks := tk' }) :
    codeAny (model c.prog c.w) A (.call (.ref fI) ⟨[.ref e, .str msg tk], []⟩) R s := by
  refine byG fun G hG => ?_
  obtain ⟨nm, q, N, bs, sn, sub, ab, col, dd, k0, k1, k2, k3, k5, fF, hC⟩ := X.obj
  refine hG ?_
  refine fn_enter (Vs := [.raw e, .dat (.str msg)]) ok F sc cv S (.cons rfl (.cons (DIn.str _ _) .nil)) rfl fun env Φ2 h2 tk2 fs S2 le2 own hkeep => ?_
  have slf : ∀ {p : Pos} {μ}, HE c k excTb gx (.Name (Str.ofString "self") p) (slots0 2 [.raw e, .dat (.str msg)]) μ (.ok (.raw e)) μ := fun {p μ} => he_loc (.head _) rfl (by decide +kernel) (by decide +kernel)
  have txt : ∀ {p : Pos} {μ}, HE c k excTb gx (.Name (Str.ofString "text") p) (slots0 2 [.raw e, .dat (.str msg)]) μ (.ok (.dat (.str msg))) μ := fun {p μ} => he_loc (.tail _ (.head _)) rfl (by decide +kernel) (by decide +kernel)
  have he2 := le2 _ _ he
  refine byG fun G hG => ?_
  obtain ⟨pl, hev⟩ := meth_eq (env := env) (args := [.Name (Str.ofString "self") p2, .Name (Str.ofString "text") p3]) (o := .Name (Str.ofString "Exception") p0) (nm := Str.ofString "__init__") rfl two_names (by show 2 < 20; (first | lia | omega)) hline
  obtain ⟨L, m, hL⟩ := fs.toCV.tag
  refine hG (wpAny_execs_cons (wpAny_Expr_any (MethodCall_ (pl := pl) (global_name' ok S2 fs.kind fs.gl fs.bi (fs.glob _ _ hgx) X.gn (by decide +kernel) ?_) hev) (by unfold interactive; rw [fs.kind]; rfl) rfl))
  refine method_type (S2.fr hL) ok.kin (by first | rfl | kernel_rfl) (by decide +kernel) X.fc rfl ?_
  refine callWith_vals (P := fun _ => True) two_names (fun _ _ => ⟨_, .inr (.inl rfl), Looks.of_pure rfl⟩) ?_
  have S2t := (Aft.tok (s := { s with heap := h2, toks := tk2 }) S2 (tk2 + 1)).ss
  rw [starEach_cons (fun _ _ q => by cases q)]
  refine spliced_cons (slf _ env Φ2 _ _ _ fs.toEV S2t (fun V v s3 Φ3 q3 a3 v3 => ?_) fun _ _ _ q => by cases q)
  cases ok_inj q3
  cases (show v = .ref e from v3)
  rw [starEach_cons (fun _ _ q => by cases q)]
  refine spliced_cons (txt _ env Φ3 s3 _ _ (fs.toEV.mono a3.le) a3.ss (fun V u s4 Φ4 q4 a4 v4 => spliced_nil ⟨trivial, ?_⟩) fun _ _ _ q => by cases q)
  cases ok_inj q4
  have le4 := a3.le.trans a4.le
  have he4 := le4 _ _ he2
  have S4 := a4.ss
  have us4 : Upd { s with heap := h2, toks := tk2 + 1 } s4 := a3.upd.trans a4.upd
  have hh4 := (S4.tag _ _ he4).2
  refine rc_init (S4.keep _ _ hC) hh4 hcls hd h0 ?_ (by show 1 ≤ sizeLine; decide)
  have hd5 := Obj.data_mapFields hd (·.setIfInBounds 0 (Value.ref s4.heap.objs.size))
  have hp : (s4.heap.push { cls := .type "tuple", data := .seq [u].toArray }).get? e = some oe := Heap.get?_push_of_some _ hh4
  have hh5 := Heap.get?_update_self (Obj.mapFields (·.setIfInBounds 0 (Value.ref s4.heap.objs.size))) hp (Obj.isFreed_of_fields hd5)
  have z5 := S4.turnOt (o' := Obj.mapFields (·.setIfInBounds 0 (Value.ref s4.heap.objs.size)) oe) he4 (fun b x hb hx => (Heap.get?_update_other _ _ (Ne.symm hb)).trans (Heap.get?_push_of_some _ hx)) hh5
  have sz : 0 < vs.size := (Array.getElem?_eq_some_iff.mp h0).1
  have fs5 := (fs.mono le4).of ((fs.mono le4).toEVS.ot (o' := Obj.mapFields (·.setIfInBounds 0 (Value.ref s4.heap.objs.size)) oe) he4 z5.2)
  refine wpAny_execs_cons (plainObj_wpAny_Assign_Attribute ?_)
  refine txt _ env _ _ _ _ fs5.toEV z5.1 (fun V w s6 Φ6 q6 a6 v6 => ?_) fun _ _ _ q => by cases q
  cases ok_inj q6
  refine slf _ env Φ6 s6 _ _ (fs5.toEV.mono a6.le) a6.ss (fun V w2 s7 Φ7 q7 a7 v7 => ?_) fun _ _ _ q => by cases q
  cases ok_inj q7
  cases (show w2 = .ref e from v7)
  have le7 := a6.le.trans a7.le
  have he7 := le7 _ _ (ins_self _ _ _)
  have S7 := a7.ss
  have hh7 := (S7.tag _ _ he7).2
  refine rc_set (ok.kin.keeps S7.keep) X.st X.tx (S7.keep _ _ hC) hh7 (by rw [Obj.cls_mapFields]; exact hcls) hd5 (by rw [mapFields_dict]; exact hdn) fun h8 dx t8 hh8 hk8 => ?_
  have z8 := S7.turnOt (o' := { cls := (Obj.mapFields (·.setIfInBounds 0 (Value.ref s4.heap.objs.size)) oe).cls, dict := some dx, data := (Obj.mapFields (·.setIfInBounds 0 (Value.ref s4.heap.objs.size)) oe).data, slots := (Obj.mapFields (·.setIfInBounds 0 (Value.ref s4.heap.objs.size)) oe).slots }) he7 (fun b x hb hx => hk8 b x hb hx) hh8
  have fin := (((Upd.trans (s := s) ⟨_, _, rfl⟩ us4).to _ _).trans (a6.upd.trans a7.upd)).at h8 t8
  refine wpAny_execs_nil ?_
  rw [fin]
  refine (hR h8 t8 _ _ _ (.ref s4.heap.objs.size) z8.1 (fun a t hne q => ?_) (ins_self _ _ _) (by show (Obj.mapFields _ oe).cls = _; rw [Obj.cls_mapFields]; exact hcls) hd5 (by simp [sz]) (by rw [Array.getElem?_setIfInBounds_ne (by decide)]; exact h1))
  rw [ins_ne _ _ hne]
  refine le7 _ _ ?_
  rw [ins_ne _ _ hne]
  exact le4 _ _ (le2 _ _ q)

theorem raise_st {gx : Gs} {fI : Addr} {fd : FuncData} {p0 p1 p2 p3 p4 p5 q0 q1 q2 q3 : Pos} (ok : CxOk c) (X : ExcFacts c fI) (hline : (p1.endLine == p4.line) = true) (hn0 : GN c (Str.ofString "RunFault") (.ref c.rC))
    (F : FnAt c fI fd (excBody p0 p1 p2 p3 p4 p5 q0 q1 q2 q3) excPr) (sc : ScOk fd.scope excTb gx [0, 1] excPr 2) (hgx : (Str.ofString "Exception", NameKind.globalImplicit) ∈ gx) : RaiseSt c := by
  intro k tbl gs ws σ μ np msg kk cp cpos pos hg A env Φ s Q E ev S hn hr he
  obtain ⟨nm, q, N, bs, sn, sub, ab, col, dd, k0, k1, k2, k3, k5, fF, hC⟩ := X.obj
  obtain ⟨l, hl⟩ := ev.frs2
  rw [arm_exec_Raise]
  refine wpAny_bind (wpAny_standAt (rc_raise (C := c.rC) (nm := nm) (q := q) (N := N) (fF := fF) (bs := bs) (sn := sn) (sub := sub) (ab := ab) (col := col) (dd := dd) (k0 := k0) (k1 := k1) (k2 := k2) (k3 := k3) (k5 := k5) ev.hh ?_))
  refine wpAny_bind (wpAny_mono (Q := fun v s₁ => ∃ e oe vs, v = .ref e ∧ s₁.heap.get? c.rC = some (rcObj nm q c.rC N fF bs true sn sub ab col dd k0 k1 k2 k3 k5) ∧ s₁.heap.get? e = some oe ∧ oe.cls = .ref c.rC ∧ oe.data = .fields vs ∧ vs[1]? = some .none ∧ E (.ref e) s₁) ?_ (fun v s₃ h₃ => wpAny_bind (wpAny_standAt (wpAny_pure h₃))) fun _ _ x => x)
  refine Call_ (global_name' ok S ev.kind ev.gl ev.bi (ev.glob _ _ hg) hn0 (by decide +kernel) (callWith_vals (P := fun h => ∀ b o, c.hb.get? b = some o → h.get? b = some o) (fun y hy z q h => by rw [List.mem_singleton.mp hy] at h; cases h)
    (fun h kk => ⟨.machine, .inr (.inl rfl), fun A Q E s k' q => by
      obtain ⟨h', g', d', t', o'⟩ := s
      exact wpAny_keeperOf_exc (k' _ _ (kk _ _ hC)) q⟩) ?_))
  rw [starEach_cons (fun _ _ q => by cases q)]
  refine spliced_cons (Calls.Constant_str (k := kk) (pos := cp) (spliced_nil ⟨S.keep, ?_⟩))
  obtain ⟨h, g, d, t, os⟩ := s
  have S0 : SS c.hb h Φ μ := S
  obtain ⟨L, m, hL⟩ := ev.toCV.tag
  refine rc_call (ok.kin.keeps S0.keep) X.ini (beq_iff_eq.mp X.isf) (S0.keep _ _ hC) (wpAny_call ?_) (by show 1 ≤ sizeLine; decide)
  have S1 : SS c.hb (h.push { cls := .type "tuple", data := .seq ([] ++ [Value.str msg t]).toArray }) Φ μ := S0.grow (keeps_push _)
  have hsz : (h.push { cls := .type "tuple", data := .seq ([] ++ [Value.str msg t]).toArray }).objs.size = h.objs.size + 1 := Heap.size_push ..
  have z2 := S1.new (keeps_push { cls := .ref c.rC, data := .fields #[.ref h.objs.size, .none, .none, .none, .bool false, .none] }) (S1.none_ge (Nat.le_refl _)) (S1.size hL) (t := .ot { cls := .ref c.rC, data := .fields #[.ref h.objs.size, .none, .none, .none, .bool false, .none] }) (Heap.get?_push_size _ rfl) (fun _ q => by cases q)
  rw [hsz] at z2
  refine exc_enter (k := k + 1) (t0 := h.objs.size) ok X hline F sc hgx (cv_under (ev.toCV.mono z2.2)) z2.1 (ins_self _ _ _) rfl rfl rfl rfl rfl fun h' tk' Φ' oe' vs' a0 S' keep' he' hcl' hd' h0' h1' => ⟨rfl, h.objs.size + 1, oe', vs', rfl, S'.keep _ _ hC, (S'.tag _ _ he').2, hcl', hd', h1', ?_⟩
  have zd := S'.drop he' rfl (h' := h') (fun b o _ x => x)
  have hen : Φ (h.objs.size + 1) = none := S0.none_ge (Nat.le_succ _)
  have leF : Le Φ (drp Φ' (h.objs.size + 1)) := fun a t q => by
    have hne : a ≠ h.objs.size + 1 := fun w => by rw [w, hen] at q; cases q
    rw [drp_ne _ hne]
    exact keep' a t hne (z2.2 _ _ q)
  have hfr : ∀ e' ∈ env :: l, ∃ L' m', e'.scope.kind ≠ .module ∧ e'.frame = some L' ∧ (drp Φ' (h.objs.size + 1)) L' = some (.fm m') := by
    obtain ⟨f1, l1, x1, y1, _⟩ := ev.frs
    rw [hl] at x1; cases x1
    intro e' he2
    obtain ⟨w1, L', m', w2, w3⟩ := y1 e' he2
    exact ⟨L', m', w1, w2, leF _ _ w3⟩
  have hideN : ∀ a, a ∈ (h.objs.size + 1) :: (env :: l).filterMap (·.frame) → (hideAll h' ((h.objs.size + 1) :: (env :: l).filterMap (·.frame))).get? a = none := fun a ha => hideAll_none _ ha
  have out : ∀ a t, (drp Φ' (h.objs.size + 1)) a = some t → (∀ m, t ≠ .fm m) → a ∉ (h.objs.size + 1) :: (env :: l).filterMap (·.frame) := fun a t q hm hx => by
    rcases List.mem_cons.mp hx with rfl | hx
    · unfold drp at q; rw [if_pos rfl] at q; cases q
    · obtain ⟨e', he2, hf⟩ := List.mem_filterMap.mp hx
      obtain ⟨L', m', _, w2, w3⟩ := hfr e' he2
      rw [w2] at hf; cases hf
      rw [w3] at q; cases q
      exact hm m' rfl
  have funF : ∀ (ls : List Env), (∀ e' ∈ ls, e' ∈ env :: l) → h'.FunFrames (hideAll h' ((h.objs.size + 1) :: (env :: l).filterMap (·.frame))) ls := by
    intro ls
    induction ls with
    | nil => intro _; trivial
    | cons e' ls ih =>
      intro hin
      obtain ⟨L', m', w1, w2, w3⟩ := hfr e' (hin e' (.head _))
      obtain ⟨o, es, ep, ho, hdt, _⟩ := (zd.1.tag _ _ w3).2
      exact ⟨w1, ⟨L', o, w2, hideN _ (.tail _ (List.mem_filterMap.mpr ⟨e', hin e' (.head _), w2⟩)), ho, fun vs q => by rw [hdt] at q; cases q⟩, ih fun e2 h2 => hin e2 (.tail _ h2)⟩
  refine he _ _ (drp Φ' (h.objs.size + 1)) rfl ⟨h', tk', rfl, zd.1, leF.toX env, leF.toD⟩ ⟨l, hideAll h' ((h.objs.size + 1) :: (env :: l).filterMap (·.frame)), h.objs.size + 1, a0, hl, rfl, .inl ⟨fun b o q => of_hideAll _ q, hideN _ (.head _), funF _ (fun _ x => x), oe', vs', (S'.tag _ _ he').2, hcl', hd', h1', h0'⟩, ⟨fun b o q => ?_, fun a t q hm => ?_⟩⟩
  · refine hideAll_get _ (zd.1.keep _ _ q) fun hx => ?_
    rcases List.mem_cons.mp hx with rfl | hx
    · rw [S'.hb_none he'] at q; cases q
    · obtain ⟨e', he2, hf⟩ := List.mem_filterMap.mp hx
      obtain ⟨L', m', _, w2, w3⟩ := hfr e' he2
      rw [w2] at hf; cases hf
      rw [zd.1.hb_none w3] at q; cases q
  · exact (zd.1.tag _ _ q).2.at (fun o ho => hideAll_get _ ho (out a t q hm)) fun _ _ x => x
end
end Mine
end
section
open PySem PySem.W PyProof.Rows PySem.Calls
set_option Elab.async false
set_option maxRecDepth 100000
set_option linter.unusedVariables false
namespace Mine

theorem lookup_of {α : Type} {L : List (Str × α)} : (L.map (·.1)).Nodup → ∀ {n : Str} {v : α}, (n, v) ∈ L → L.lookup n = some v := by
  induction L with
  | nil => intro _ n v h; cases h
  | cons p r ih =>
    intro hn n v h
    rw [List.map_cons, List.nodup_cons] at hn
    rw [List.lookup_cons]
    rcases List.mem_cons.mp h with rfl | h
    · simp
    · have : (n == p.1) = false := by
        cases q : n == p.1 with
        | false => rfl
        | true => exact absurd (List.mem_map.mpr ⟨(n, v), h, by simpa using q⟩) hn.1
      rw [this]; exact ih hn.2 h
theorem filterMap_self {α : Type} {f : α → Option α} : ∀ {L : List α}, (∀ p ∈ L, f p = some p) → L.filterMap f = L
  | [], _ => rfl
  | p :: r, h => by rw [List.filterMap_cons_some (h p (.head _)), filterMap_self fun q hq => h q (.tail _ hq)]
theorem binds_self {L : List (Str × Value)} (hn : (L.map (·.1)).Nodup) : (L.map (·.1)).filterMap (fun n => (L.lookup n).map (n, ·)) = L := by
  rw [List.filterMap_map]
  have : ∀ p ∈ L, ((fun n => (L.lookup n).map (n, ·)) ∘ fun x : Str × Value => x.1) p = some p := fun p hp => by
    show (L.lookup p.1).map (p.1, ·) = some p
    rw [lookup_of hn (v := p.2) hp]; rfl
  exact filterMap_self this
structure PlainPar (fd : FuncData) (pr : List Str) : Prop where
  po : fd.params.posonlyargs = []
  ar : fd.params.args.map (·.arg) = pr
  va : fd.params.vararg = none
  ko : fd.params.kwonlyargs = []
  kw : fd.params.kwarg = none
  df : fd.defaults = .none
theorem bind_core {nm qn : Str} {ar : List Arg} {kd : List (Option Expr)} {df : List Expr} {body : FuncBody} {scope : Scope} {gl : Addr} {cl : List (Str × Addr)} {kwd doc pm cd ct : Value} {an : Option Addr} {bi : Addr} {vals : List Value} {L : List Str} (e : ar.map (·.arg) = L)
    (hl : vals.length = L.length) (hm : (L.filter fun n => ((L.zip vals).lookup n).isNone) = []) (hb : L.filterMap (fun n => ((L.zip vals).lookup n).map (n, ·)) = L.zip vals) :
    bindArgs ⟨nm, qn, ⟨[], ar, none, [], kd, none, df⟩, body, scope, gl, cl, .none, kwd, doc, pm, an, cd, ct, bi⟩ ⟨vals, []⟩ = pure (L.zip vals) := by
  subst e
  have k1 : ¬ (decide (vals.length > (ar.map (·.arg)).length) && true) = true := by rw [hl]; simp
  have e : ∀ n, List.drop n ((Option.getD (none : Option (Array Value)) #[]).toList) = [] := fun n => List.drop_nil
  have k2 : ¬ (!((List.take ((ar.map (·.arg)).length - (List.drop ((Option.getD (none : Option (Array Value)) #[]).toList.length - (ar.map (·.arg)).length) ((Option.getD (none : Option (Array Value)) #[]).toList)).length) (ar.map (·.arg))).filter fun n => (((ar.map (·.arg)).zip vals).lookup n).isNone).isEmpty) = true := by
    rw [e]; show ¬ (!((List.take ((ar.map (·.arg)).length) (ar.map (·.arg))).filter _).isEmpty) = true; rw [List.take_length, hm]; exact fun h => nomatch h
  refine' Eq.trans (b := ite ((decide (vals.length > (ar.map (·.arg)).length) && true) = true) ?X ?Z) rfl ((if_neg k1).trans ?_)
  refine' (if_neg k2).trans ?_
  rw [e, List.zip_nil_right]
  refine' Eq.trans (b := pure (((ar.map fun x : Arg => x.arg) ++ []).filterMap (fun n => (((ar.map fun x : Arg => x.arg).zip vals).lookup n).map (n, ·)))) rfl ?_
  rw [List.append_nil, hb]
theorem bind_plain {fd : FuncData} {pr : List Str} {vals : List Value} (p : PlainPar fd pr) (hn : pr.Nodup) (hl : vals.length = pr.length) : bindArgs fd ⟨vals, []⟩ = pure (pr.zip vals) := by
  have hz : ((pr.zip vals).map (·.1)) = pr := List.map_fst_zip (Nat.le_of_eq hl.symm)
  have hmiss : (pr.filter fun n => ((pr.zip vals).lookup n).isNone) = [] := by
    rw [List.filter_eq_nil_iff]
    intro n hn2
    have : n ∈ (pr.zip vals).map (·.1) := by rw [hz]; exact hn2
    obtain ⟨q, hq, rfl⟩ := List.mem_map.mp this
    rw [lookup_of (by rw [hz]; exact hn) (v := q.2) hq]; simp
  have hb : pr.filterMap (fun n => ((pr.zip vals).lookup n).map (n, ·)) = pr.zip vals := by
    have := binds_self (L := pr.zip vals) (by rw [hz]; exact hn)
    rw [hz] at this; exact this
  obtain ⟨nm, qn, ⟨po, ar, va, ko, kd, kw, df⟩, body, scope, gl, cl, dfl, kwd, doc, pm, an, cd, ct, bi⟩ := fd
  obtain ⟨h1, h2, h3, h4, h5, h6⟩ := p
  cases h1; cases h3; cases h4; cases h5; cases h6
  exact bind_core h2 hl hmiss hb

noncomputable def gsOf (scope : Scope) : Gs := scope.names.filter fun p => p.2 == .globalImplicit || p.2 == .cell
noncomputable def scOkB (scope : Scope) (tbl : Tbl) (ws : List Nat) (params : List Str) (n : Nat) : Bool :=
  (scope.kind == .function) && (tbl.all fun p => (scope.names.lookup p.2 == some .local || scope.names.lookup p.2 == some .cell) && ws.contains p.1) && oneOne tbl &&
  ((gsOf scope).all fun p => scope.names.lookup p.1 == some p.2) && (scope.names.all fun y => !(y.2 == .cell) || (scope.names.lookup y.1 == some .cell && tbl.any fun p => p.2 == y.1)) &&
  ((List.range params.length).all fun j => match params[j]? with | some x => tin tbl j x | none => true) && decide (params.length ≤ n)
theorem scOk_at {scope : Scope} {tbl : Tbl} {ws : List Nat} {params : List Str} {n : Nat} (h : scOkB scope tbl ws params n = true) : ScOk scope tbl (gsOf scope) ws params n := by
  unfold scOkB at h
  simp only [Bool.and_eq_true] at h
  obtain ⟨⟨⟨⟨⟨⟨h1, h2⟩, h3⟩, h4⟩, h5⟩, h6⟩, h7⟩ := h
  refine ⟨eq_of_beq h1, fun i x hx => ?_, oneOne_1 h3, oneOne_2 h3, fun x kd hx => ?_, fun y hy q => ?_, fun j x hj => ?_, of_decide_eq_true h7⟩
  · have := List.all_eq_true.mp h2 _ hx
    obtain ⟨a, b⟩ := Bool.and_eq_true_iff.mp this
    refine ⟨?_, by simpa using b⟩
    rcases Bool.or_eq_true_iff.mp a with q | q
    · exact .inl (eq_of_beq q)
    · exact .inr (eq_of_beq q)
  · exact eq_of_beq (List.all_eq_true.mp h4 _ hx)
  · have := List.all_eq_true.mp h5 y hy
    rw [q] at this
    have : (scope.names.lookup y.1 == some .cell && tbl.any fun p => p.2 == y.1) = true := by simpa using this
    obtain ⟨a, b⟩ := Bool.and_eq_true_iff.mp this
    obtain ⟨p, b1, b2⟩ := List.any_eq_true.mp b
    exact ⟨eq_of_beq a, p.1, by rw [← eq_of_beq b2]; exact b1⟩
  · have hjl := (List.getElem?_eq_some_iff.mp hj).1
    have := List.all_eq_true.mp h6 j (List.mem_range.mpr hjl)
    rw [hj] at this
    exact tin_mem this
noncomputable def strNodup : List Str → Bool
  | [] => true
  | i :: is => !(is.any (· == i)) && strNodup is
theorem strNodup_at : ∀ {is : List Str}, strNodup is = true → is.Nodup
  | [], _ => .nil
  | i :: is, h => by
    obtain ⟨a, b⟩ := Bool.and_eq_true_iff.mp h
    refine List.nodup_cons.mpr ⟨fun q => ?_, strNodup_at b⟩
    have : (is.any (· == i)) = true := List.any_eq_true.mpr ⟨i, q, by simp⟩
    rw [this] at a; cases a
noncomputable def valNone : Value → Bool
  | .none => true
  | _ => false
noncomputable def plainB (fd : FuncData) (pr : List Str) : Bool :=
  fd.params.posonlyargs.isEmpty && (fd.params.args.map (·.arg) == pr) && fd.params.vararg.isNone && fd.params.kwonlyargs.isEmpty && fd.params.kwarg.isNone && valNone fd.defaults
theorem plain_at {fd : FuncData} {pr : List Str} (h : plainB fd pr = true) : PlainPar fd pr := by
  unfold plainB at h
  simp only [Bool.and_eq_true] at h
  obtain ⟨⟨⟨⟨⟨h1, h2⟩, h3⟩, h4⟩, h5⟩, h6⟩ := h
  refine ⟨List.isEmpty_iff.mp h1, eq_of_beq h2, by simpa using h3, List.isEmpty_iff.mp h4, by simpa using h5, ?_⟩
  unfold valNone at h6
  split at h6
  · assumption
  · cases h6
noncomputable def frameB (K : Frag) (fd : FuncData) (tb : Tbl) (ws : List Nat) (pr : List Str) (n : Nat) : Bool :=
  fd.closure.isEmpty && codeIn K fd.code fd.qualname && plainB fd pr && strNodup pr && !fd.scope.isCoroutine && !fd.scope.isGenerator && fd.globals == mainGlobals && fd.builtins == builtinsNs && scOkB fd.scope tb ws pr n
theorem frame_at {c : Cx} (ok : CxOk c) {fa : Addr} {oc : Value} {od : Option Addr} {fd : FuncData} {sl : Array (Option Value)} {body : List Stmt} {tb : Tbl} {ws : List Nat} {pr : List Str} {n : Nat} (hl : c.K.lookup fa = some ⟨oc, od, .func fd, sl⟩) (hb : fd.body = .stmts body) (h : frameB c.K fd tb ws pr n = true) :
    FnAt c fa fd body pr ∧ ScOk fd.scope tb (gsOf fd.scope) ws pr n := by
  unfold frameB at h
  simp only [Bool.and_eq_true] at h
  obtain ⟨⟨⟨⟨⟨⟨⟨⟨h1, h2⟩, h3⟩, h4⟩, h5⟩, h6⟩, h7⟩, h8⟩, h9⟩ := h
  exact ⟨⟨⟨_, ok.kin _ _ hl, rfl⟩, codeRec_of ok.kin h2, hb, List.isEmpty_iff.mp h1, fun vals hv => bind_plain (plain_at h3) (strNodup_at h4) hv, by simpa using h5, by simpa using h6, eq_of_beq h7, eq_of_beq h8⟩, scOk_at h9⟩
noncomputable def allSlots (tb : Tbl) : List Nat := tb.map (·.1)
noncomputable def fnB (K : Frag) (u : Fun) (fa : Addr) : Bool := match K.lookup fa with
  | some ⟨_, _, .func fd, _⟩ => (match fd.body with
    | .stmts body => frameB K fd u.tb (allSlots u.tb) u.pr u.n && mB thePrg u.ir u.tb (gsOf fd.scope) (allSlots u.tb) body
    | _ => false)
  | _ => false
theorem fn_of {c : Cx} {k : Nat} {F G : Nat → List Vl → Mu → RR Vl} (Sn : SndS c k thePrg F G) {u : Fun} {fa : Addr} (h : fnB c.K u fa = true) : Contract c (k + 1) (.ref fa) (fnRes (evBk F G u.ir) u.n u.pr.length) ∧ IsFnAt c fa := by
  unfold fnB at h
  split at h
  · rename_i hl
    split at h
    · rename_i body hb
      obtain ⟨h1, h2⟩ := Bool.and_eq_true_iff.mp h
      obtain ⟨F1, sc⟩ := frame_at Sn.ok hl hb h1
      exact ⟨fn_contract Sn.ok F1 sc fun σ μ r μ' q => snd_Bk Sn u.ir h2 q, F1.obj.elim fun o ho => ⟨o, _, ho.1, ho.2⟩⟩
    · cases h
  · cases h
end Mine
end
section
open PySem PySem.W PyProof.Rows PySem.Calls
set_option Elab.async false
set_option maxRecDepth 100000
set_option linter.unusedVariables false
namespace Mine

structure Stat (c : Cx) : Prop where
  ok : CxOk c
  rc : RcOk c
  run : GN c (Str.ofString "RunFault") (.ref c.rC)
  rs : RaiseSt c
  fn : ∀ f x, fnm f = some x → ∃ fa, GN c x (.ref fa) ∧ FnV c (.ref fa) ∧ (∀ u, funOf f = some u → fnB c.K u fa = true) ∧ (f = 16 → ∀ k, Contract c (k + 1) (.ref fa) (beadF (Rch c))) ∧ (f = 27 → ∀ k, Contract c (k + 2) (.ref fa) memF)
  mt : ∀ m nm, mnm m = some nm → ∃ fa u, meths[m]? = some u ∧ plainGet c.K c.mC nm = true ∧ findIn c.K (.ref c.mC) nm = some (some (.ref fa)) ∧ isFn c.K (.ref fa) = true ∧ ((Str.ofString "numeric" == nm) = false ∧ (Str.ofString "characters" == nm) = false) ∧ IsFnAt c fa ∧ fnB c.K u fa = true
  gv : ∀ x n, gvl x = some n → ∃ t, GN c x (.int n t)
  bi : ∀ b : Bi, GN c b.nm b.val
  rg : GN c (Str.ofString "range") (.type "range")
  anum : AttrOk c (Str.ofString "numeric")
  achr : AttrOk c (Str.ofString "characters")

theorem Contract.none {c : Cx} {k : Nat} {fv : Value} {f : List Vl → Mu → RR Vl} (h : ∀ Vs μ, f Vs μ = none) : Contract c k fv f := by
  intro A Φ s Q E vs Vs μ r μ' _ _ _ e
  rw [h] at e; cases e

theorem sndAll {c : Cx} (St : Stat c) : ∀ n, SndS c (n + 4) thePrg (semF (Rch c) n) (semG (Rch c) n)
  | 0 => { ok := St.ok, rc := St.rc, run := St.run, rs := St.rs, hk := by (first | lia | omega), gv := St.gv, bi := St.bi, rg := St.rg, anum := St.anum, achr := St.achr
           fn := fun f x h => by
             obtain ⟨fa, h1, h2, _⟩ := St.fn f x h
             exact ⟨.ref fa, 4, h1, h2, Nat.le_refl _, Contract.none fun _ _ => by unfold semF; rfl⟩
           mt := fun m nm h => by
             obtain ⟨fa, u, h0, h1, h2, h3, h4, h5, h6⟩ := St.mt m nm h
             exact ⟨fa, 4, h1, h2, h3, h4, h5, Nat.le_refl _, Contract.none fun _ _ => by unfold semG; rfl⟩ }
  | n + 1 => by
    have ih := sndAll St n
    exact { ok := St.ok, rc := St.rc, run := St.run, rs := St.rs, hk := by (first | lia | omega), gv := St.gv, bi := St.bi, rg := St.rg, anum := St.anum, achr := St.achr
            fn := fun f x h => by
              obtain ⟨fa, h1, h2, h3, h4, h5⟩ := St.fn f x h
              refine ⟨.ref fa, n + 5, h1, h2, by (first | lia | omega), ?_⟩
              unfold semF
              by_cases e1 : f = 16
              · rw [if_pos e1]; exact h4 e1 (n + 4)
              · rw [if_neg e1]
                by_cases e2 : f = 27
                · rw [if_pos e2]; exact h5 e2 (n + 3)
                · rw [if_neg e2]
                  cases hu : funOf f with
                  | none => exact Contract.none fun _ _ => rfl
                  | some u => exact (fn_of ih (h3 u hu)).1
            mt := fun m nm h => by
              obtain ⟨fa, u, h0, h1, h2, h3, h4, h5, h6⟩ := St.mt m nm h
              refine ⟨fa, n + 5, h1, h2, h3, h4, h5, by (first | lia | omega), ?_⟩
              unfold semG
              rw [h0]
              exact (fn_of ih h6).1 }
end Mine
end
section
open PySem PySem.W PyProof.Rows PySem.Calls
set_option Elab.async false
set_option maxRecDepth 100000
set_option linter.unusedVariables false
namespace Mine

noncomputable def lawTb : Tbl := [(0, Str.ofString "script"), (1, Str.ofString "chain")]
noncomputable def lawGs : Gs := [(Str.ofString "_law_turn", .globalImplicit)]
noncomputable def lawRet : PS := .ret (.bop .And (.cons (.call 25 (.cons (.loc 1) .nil)) (.cons (.call 25 (.cons (.loc 1) .nil)) .nil)))
noncomputable abbrev lawBody (p0 p1 p2 p3 p4 p5 p6 p7 p8 q0 q1 q2 q3 q4 q5 q6 q7 q8 : Pos) (n0 n1 n2 n3 : Nat) : List Stmt := [
  .Assign [.Name (Str.ofString "chain") p0] (.Dict [some (.Constant (.str (Str.ofString "beads")) n0 p1), some (.Constant (.str (Str.ofString "gone")) n1 p2)]
    [.Subscript (.Name (Str.ofString "script") p3) (.Slice none (some (.Constant (.int 60) n2 p4)) none p5) p6, .Constant (.int 0) n3 p7] p8) q0,
  .Return (some (.BoolOp .And [.Call (.Name (Str.ofString "_law_turn") q1) [.Name (Str.ofString "chain") q2] [] q3, .Call (.Name (Str.ofString "_law_turn") q4) [.Name (Str.ofString "chain") q5] [] q6] q7)) q8]
noncomputable def TurnOk (R : Obj → List (Str × Value) → Prop) (N : Nat) : Prop := ∀ (μ : Mu) (b : List Int) (g : Int), μ[0]? = some (.chain R b g) → 0 ≤ g → g ≤ 1000 → b.length ≤ 60 →
  ∃ μ' g', semF R N 25 [.mref 0] μ = some (.ok (.dat (.bool true)), μ') ∧ μ'[0]? = some (.chain R b g') ∧ 0 ≤ g' ∧ g' ≤ g + 500

theorem ints_dall {Φ : Phi} {vs : List Value} {xs : List Int} (h : IntsAre vs xs) : DAll Φ vs (xs.map .int) := by
  induction h with
  | nil => exact .nil
  | cons n t _ ih => exact .cons (DIn.int _ _) ih

section
variable {c : Cx} {k : Nat} {tbl : Tbl} {gs : Gs} {ws : List Nat} {σ σ' : Slots} {μ μ' μ'' : Mu}

theorem law_body (St : Stat c) {A : Around} {env : Env} {Φ : Phi} {s : Shared} {Q : Flow → Shared → Prop} {E : Value → Shared → Prop} {ax : Addr} {vs : List Value} {xs : List Int} {p0 p1 p2 p3 p4 p5 p6 p7 p8 q0 q1 q2 q3 q4 q5 q6 q7 q8 : Pos} {n0 n1 n2 n3 : Nat}
    (fs : FS c Φ A env 24 lawTb lawGs [0, 1] [some (.raw ax), none]) (S : SS c.hb s.heap Φ []) (hl : c.hb.IsList ax vs.toArray) (hi : IntsAre vs xs) (hlen : xs.length ≤ 63) (PL : TurnOk (Rch c) 20)
    (hq : ∀ h tk, (∀ b o, c.hb.get? b = some o → h.get? b = some o) → Q (.ret (.bool true)) { s with heap := h, toks := tk }) : wpAny (model c.prog c.w) A (execs (lawBody p0 p1 p2 p3 p4 p5 p6 p7 p8 q0 q1 q2 q3 q4 q5 q6 q7 q8 n0 n1 n2 n3) env) Q E s := by
  obtain ⟨L, m, hL⟩ := fs.toCV.tag
  have scr : ∀ {p : Pos} {μ}, HE c 24 lawTb lawGs (.Name (Str.ofString "script") p) [some (.raw ax), none] μ (.ok (.raw ax)) μ := fun {p μ} => he_loc (.head _) rfl (by decide +kernel) (by decide +kernel)
  refine wpAny_execs_cons (wpAny_Assign_Name ?_)
  refine wpAny_Dict_pairs (knd := PySem.strKind c.prog c.w) (pairs := [(eval (.Constant (.str (Str.ofString "beads")) n0 p1) env, do let x ← eval (.Subscript (.Name (Str.ofString "script") p3) (.Slice none (some (.Constant (.int 60) n2 p4)) none p5) p6) env; standAt p8; pure x),
    (eval (.Constant (.str (Str.ofString "gone")) n1 p2) env, do let x ← eval (.Constant (.int 0) n3 p7) env; standAt p8; pure x)]) rfl (by simp) (by simp) ?_
  have pD := Aft.pushOt S hL { cls := .type "dict", data := .dict #[] } s.toks
  refine evalPairs_cons (Calls.Constant_str (wpAny_bind ?_))
  have S1 := (Aft.tok pD.ss (s.toks + 1)).ss
  have ev1 := fs.toEV.mono pD.le
  refine Subscript_ (scr A env _ _ _ _ ev1 S1 (fun V v s1 Φ1 q a1 v1 => wpAny_Slice (ho_none (σ := [some (.raw ax), none]) A env Φ1 s1 _ _ (ev1.mono a1.le) a1.ss (fun l' vl s2 Φ2 q2 a2 p2' =>
    ho_some (he_const (σ := [some (.raw ax), none]) (d := .int 60) rfl) A env Φ2 s2 _ _ ((ev1.mono a1.le).mono a2.le) a2.ss (fun u' vu s3 Φ3 q3 a3 p3' => ?_) fun _ _ _ q => by cases q) fun _ _ _ q => by cases q)) fun _ _ _ q => by cases q)
  cases ok_inj q
  cases q2; cases q3
  cases (show v = .ref ax from v1)
  refine wpAny_evalPart_none ?_
  have le3 := (a1.le.trans a2.le).trans a3.le
  obtain ⟨L3, m3, hL3⟩ := (ev1.toCV.mono le3).tag
  have hls : s3.heap.IsList ax vs.toArray := by
    obtain ⟨o, ho, r⟩ := hl
    exact ⟨o, a3.ss.keep _ _ ho, r⟩
  have da : DAll Φ3 vs (xs.map .int) := ints_dall hi
  have hroom : room (xs.map Dat.int).length = true := by simp [room]; (first | lia | omega)
  have hslc : slcD (.list (xs.map .int)) none (some 60) = some (.list ((xs.take 60).map .int)) := by
    rw [List.map_take]; exact slc_l hroom (slL_up (by decide))
  refine op_slc a3.ss hL3 (.list hls da) p2' p3' hslc fun r s4 Φ4 a4 d4 => ?_
  refine wpAny_bind (wpAny_standAt (wpAny_pure ?_))
  refine evalPairs_cons (Calls.Constant_str (wpAny_bind (wpAny_Constant_int (wpAny_bind (wpAny_standAt (wpAny_pure (evalPairs_nil ?_)))))))
  have le4 := le3.trans a4.le
  have hd4 := le4 _ _ (ins_self Φ s.heap.objs.size (.ot { cls := .type "dict", data := .dict #[] }))
  have S4 := a4.ss
  have u4 : Upd s s4 := (((pD.upd.to _ (s.toks + 1)).trans a1.upd).trans (a2.upd.trans a3.upd)).trans a4.upd
  have hne : Φ s.heap.objs.size = none := S.none_ge (Nat.le_refl _)
  refine ⟨[(Str.ofString "beads", r), (Str.ofString "gone", .int 0 (s4.toks + 1))], ⟨strIs _ _, rfl, strIs _ _, rfl, trivial⟩, ?_, fun h5 hD hsb => ?_⟩
  · exact ⟨_, #[], 0, (S4.tag _ _ hd4).2, ⟨rfl, rfl, rfl⟩, rfl, fun _ he => by simp at he, .nil, by simp⟩
  · have hmer : merged [] [(Str.ofString "beads", r), (Str.ofString "gone", Value.int 0 (s4.toks + 1))] = [(Str.ofString "beads", r), (Str.ofString "gone", .int 0 (s4.toks + 1))] := by
      have e : ¬ (Str.ofString "beads" = Str.ofString "gone") := by decide +kernel
      simp [merged, stored, e]
    rw [hmer] at hD
    obtain ⟨o, es, ep, ho, rest⟩ := id hD
    have zd := S4.drop hd4 rfl (h' := h5) (fun b x hb hx => (hsb.2 b hb).trans hx)
    cases d4 with
    | list hr dr =>
    rename_i la lvs ln
    have hr' : drp Φ4 s.heap.objs.size la = some (.fz (listOf lvs.toArray ln)) := zd.2 _ _ hr rfl
    have zm := zd.1.newMt (mo := .chain (Rch c) (xs.take 60) 0) (fun _ _ e => e) (by unfold drp; exact if_pos rfl) (S4.tag _ _ hd4).1 ho ⟨la, s4.toks + 1, fun h' d' q => ⟨o, es, ep, q, rest⟩, DIn.list hr' (dr.monoF zd.2.toF)⟩
    have leF : Le Φ (ins (drp Φ4 s.heap.objs.size) s.heap.objs.size (.mt 0)) := fun a t q => by
      have hne' : a ≠ s.heap.objs.size := fun w => by rw [w, hne] at q; cases q
      rw [ins_ne _ _ hne', drp_ne _ hne']
      exact le4 _ _ (pD.le _ _ q)
    have fs5 := fs.mono leF
    refine store_name (V := .mref 0) fs5.toEVS (s := { s4 with heap := h5, toks := _ }) zm.1 (i := 1) (.tail _ (.head _)) (.tail _ (.head _)) (by simp) ⟨_, rfl, ins_self _ _ _⟩ fun s6 Φ6 a6 ev6 _ => ?_
    have fs6 := fs5.of ev6
    obtain ⟨μ1, g1, t1a, t1b, t1c, t1d⟩ := PL [.chain (Rch c) (xs.take 60) 0] (xs.take 60) 0 rfl (by (first | lia | omega)) (by (first | lia | omega)) (by simp; (first | lia | omega))
    obtain ⟨μ2, g2, t2a, t2b, t2c, t2d⟩ := PL μ1 (xs.take 60) g1 t1b t1c (by (first | lia | omega)) (by simp; (first | lia | omega))
    have hm : mS thePrg lawRet lawTb lawGs [0, 1] (.Return (some (.BoolOp .And [.Call (.Name (Str.ofString "_law_turn") q1) [.Name (Str.ofString "chain") q2] [] q3, .Call (.Name (Str.ofString "_law_turn") q4) [.Name (Str.ofString "chain") q5] [] q6] q7)) q8) = true := by
      with_unfolding_all rfl
    have hev : evS (semF (Rch c) 20) (semG (Rch c) 20) lawRet [some (.raw ax), some (.mref 0)] [.chain (Rch c) (xs.take 60) 0] = some (.ok (.ret (.dat (.bool true))), μ2) :=
      s_ret (e_bop (w_bop (e_call (l_cons (e_loc rfl) l_nil) t1a) (isb_r true) (bsel_at (b_one (e_call (l_cons (e_loc rfl) l_nil) t2a)))))
    have hst := snd_S (sndAll St 20) lawRet hm hev
    refine wpAny_execs_cons (hst A env Φ6 s6 _ _ fs6 a6.ss (fun _ _ _ q => by cases q) (fun V v s7 Φ7 q a7 vi => ?_) fun _ _ _ q => by cases q)
    cases q
    cases vi with
    | bool _ =>
    obtain ⟨h7, t7, e⟩ := ((u4.to h5 _).trans a6.upd).trans a7.upd
    have k7 := a7.ss.keep
    rw [e] at k7 ⊢
    exact hq h7 t7 k7
end
end Mine
end
section
open PySem PySem.W PyProof.Rows PySem.Calls
set_option Elab.async false
set_option maxRecDepth 100000
set_option linter.unusedVariables false
namespace Mine

noncomputable def memShape1 (nm : String) (s : Stmt) : Bool := asgS (attrS (nmS "self") nm) (binS .Mult (lstS noneS) (nmS nm)) s
theorem memShape1_at {nm : String} {s : Stmt} (h : memShape1 nm s = true) : ∃ p1 p2 p3 p4 p5 p6 p7 p8, s = .Assign [.Attribute (.Name (Str.ofString "self") p1) (Str.ofString nm) p2] (.BinOp (.List [.Constant .none p3 p4] p5) .Mult (.Name (Str.ofString nm) p6) p7) p8 := by
  obtain ⟨t, e, q, rfl, h1, h2⟩ := asgS_at h
  obtain ⟨a, p, rfl, h3⟩ := attrS_at h1
  obtain ⟨p1, rfl⟩ := nmS_at h3
  obtain ⟨x, y, p2, rfl, h4, h5⟩ := binS_at h2
  obtain ⟨z, p5, rfl, h6⟩ := lstS_at h4
  obtain ⟨p3, p4, rfl⟩ := noneS_at h6
  obtain ⟨p6, rfl⟩ := nmS_at h5
  exact ⟨_, _, _, _, _, _, _, _, rfl⟩
noncomputable def memShape (b : List Stmt) : Bool := twoS (memShape1 "numeric") (memShape1 "characters") b
noncomputable def excShape (b : List Stmt) : Bool := twoS (exprS (methS (nmS "Exception") "__init__" (nmS "self") (nmS "text"))) (asgS (attrS (nmS "self") "text") (nmS "text")) b

noncomputable def shapeAt (K : Frag) (fa : Addr) (tb : Tbl) (ws : List Nat) (pr : List Str) (n : Nat) (gl : List Str) (shape : List Stmt → Bool) : Bool := match K.lookup fa with
  | some ⟨_, _, .func fd, _⟩ => (match fd.body with
    | .stmts body => frameB K fd tb ws pr n && shape body && gl.all fun x => gin (gsOf fd.scope) x .globalImplicit
    | _ => false)
  | _ => false
theorem shape_at {c : Cx} (ok : CxOk c) {fa : Addr} {tb : Tbl} {ws : List Nat} {pr : List Str} {n : Nat} {gl : List Str} {shape : List Stmt → Bool} (h : shapeAt c.K fa tb ws pr n gl shape = true) :
    ∃ fd body, FnAt c fa fd body pr ∧ ScOk fd.scope tb (gsOf fd.scope) ws pr n ∧ shape body = true ∧ ∀ x ∈ gl, GI (gsOf fd.scope) x := by
  unfold shapeAt at h
  split at h
  · rename_i hl
    split at h
    · rename_i body hb
      simp only [Bool.and_eq_true] at h
      obtain ⟨⟨h1, h2⟩, h3⟩ := h
      obtain ⟨F1, sc⟩ := frame_at ok hl hb h1
      exact ⟨_, body, F1, sc, h2, fun x hx => gin_mem (List.all_eq_true.mp h3 x hx)⟩
    · cases h
  · cases h
noncomputable def beadTb : Tbl := [(0, Str.ofString "chain"), (1, Str.ofString "many")]
noncomputable def beadPr : List Str := [Str.ofString "chain", Str.ofString "many"]

section
variable {c : Cx}
theorem bead_contract (ok : CxOk c) (hlen : GN c Bi.len.nm Bi.len.val) {fa : Addr} (h : shapeAt c.K fa beadTb [0, 1] beadPr 2 [Str.ofString "len"] beadShape = true) (k : Nat) : Contract c (k + 1) (.ref fa) (beadF (Rch c)) := by
  obtain ⟨fd, body, F1, sc, hs, hg⟩ := shape_at ok h
  have hgl : GI (gsOf fd.scope) Bi.len.nm := hg _ (.head _)
  have hb : ∀ σ μ r μ', beadB (Rch c) σ μ = some (r, μ') → HS c k beadTb (gsOf fd.scope) [0, 1] (execs body) σ μ r μ' := fun σ μ r μ' q => bead_hs ok hlen hgl hs q
  have z := fn_contract ok F1 sc hb
  intro A Φ s Q E vs Vs μ r μ' cv S va e hok her
  refine z A Φ s Q E vs Vs μ r μ' cv S va ?_ hok her
  have hV : ∃ V W, Vs = [V, W] := by
    unfold beadF at e
    split at e
    · exact ⟨_, _, rfl⟩
    · cases e
  obtain ⟨V, W, rfl⟩ := hV
  have hr : ∃ V', r = .ok V' := by
    unfold beadF at e
    split at e
    · split at e
      · split at e
        · cases e; exact ⟨_, rfl⟩
        · cases e
      · cases e
    · cases e
  obtain ⟨V', rfl⟩ := hr
  show fnRes (beadB (Rch c)) 2 2 [V, W] μ = _
  simp only [fnRes, slots0, List.length_cons, List.length_nil, if_true, List.map_cons, List.map_nil, beadB]
  simp [e]
theorem mem_contract' (ok : CxOk c) {fI : Addr} (M : MemOk c fI) (h : shapeAt c.K fI memTb [0, 1, 2] memPr 3 [] memShape = true) (k : Nat) : Contract c (k + 2) (.ref c.mC) memF := by
  obtain ⟨fd, body, F1, sc, hs, _⟩ := shape_at ok h
  obtain ⟨s1, s2, rfl, h1, h2⟩ := twoS_at hs
  obtain ⟨_, _, _, _, _, _, _, _, rfl⟩ := memShape1_at h1
  obtain ⟨_, _, _, _, _, _, _, _, rfl⟩ := memShape1_at h2
  exact mem_contract ok M F1 sc
theorem raise_st' (ok : CxOk c) {fI : Addr} (X : ExcFacts c fI) (hn0 : GN c (Str.ofString "RunFault") (.ref c.rC)) (h : shapeAt c.K fI excTb [0, 1] excPr 2 [Str.ofString "Exception"] excShape = true) : RaiseSt c := by
  obtain ⟨fd, body, F1, sc, hs, hg⟩ := shape_at ok h
  obtain ⟨s1, s2, rfl, h1, h2⟩ := twoS_at hs
  obtain ⟨e, q, rfl, h1⟩ := exprS_at h1
  obtain ⟨a, p1, x, y, p4, rfl, h3, h4, h5, hl⟩ := methS_at h1
  obtain ⟨_, rfl⟩ := nmS_at h3
  obtain ⟨_, rfl⟩ := nmS_at h4
  obtain ⟨_, rfl⟩ := nmS_at h5
  obtain ⟨t, e, q, rfl, h6, h7⟩ := asgS_at h2
  obtain ⟨a, p, rfl, h8⟩ := attrS_at h6
  obtain ⟨_, rfl⟩ := nmS_at h8
  obtain ⟨_, rfl⟩ := nmS_at h7
  exact raise_st ok X (by simpa using hl) hn0 F1 sc (hg _ (.head _))
theorem fnv_class (ok : CxOk c) (h : makesIn c.K c.mC = true) : FnV c (.ref c.mC) := by
  intro h' kk
  have M := makes_of (M := model c.prog c.w) (ok.kin.keeps kk) h
  obtain ⟨⟨oc, od, cd, sl, hC, _⟩, _, _, _, _, hcall, _⟩ := M
  refine ⟨.machine, .inr (.inl rfl), fun A Q E s k' q => ?_⟩
  unfold keeperOf
  refine wpAny_bind (wpAny_load (k' _ _ hC) ?_)
  dsimp only
  refine wpAny_bind ((hcall.keeps k').here ?_)
  exact wpAny_pure q
end
end Mine
end
section
open PySem PySem.W PyProof.Rows PySem.Calls
set_option Elab.async false
set_option maxRecDepth 100000
set_option linter.unusedVariables false
set_option linter.unusedSimpArgs false
namespace Mine

section
variable (R : Obj → List (Str × Value) → Prop)
theorem deref_dat (μ : Mu) (d : Dat) : deref μ (.dat d) = some d := rfl
noncomputable def usz (k len : Int) : Int := if k = 5 then len else if k = 2 then 2 else if k = 3 then 2 else 1
theorem usz_5 {k len : Int} (h : k = 5) : usz k len = len := by unfold usz; rw [if_pos h]
theorem usz_2 {k len : Int} (h5 : ¬ k = 5) (h : k = 2 ∨ k = 3) : usz k len = 2 := by
  unfold usz; rw [if_neg h5]; rcases h with h | h
  · rw [if_pos h]
  · rw [if_neg (by (first | lia | omega)), if_pos h]
theorem usz_1 {k len : Int} (h5 : ¬ k = 5) (h2 : ¬ k = 2) (h3 : ¬ k = 3) : usz k len = 1 := by unfold usz; rw [if_neg h5, if_neg h2, if_neg h3]

theorem sp_units (n : Nat) (k : Int) (μ : Mu) : semF R (n + 1) 0 [.dat (.int k)] μ = some (.ok (.dat (.int (usz k 0))), μ) := by
  rw [semF_at R rfl rfl rfl]
  refine f_ret rfl ?_
  show evBk _ _ ir_units_of [some (.dat (.int k))] μ = _
  unfold ir_units_of
  by_cases h5 : k = 5
  · rw [usz_5 h5]; (refine k_ret (by apply w_ife; repeat' first|with_reducible (first|exact rfl|assumption|apply_assumption (transparency := .reducible) -exfalso only [e_const, e_glc, e_loc, e_sub, e_bin, w_cmp, w_call, e_bop, l_nil, l_cons, deref_d, bi_add, bi_sub, au_add, c_eqi, c_lt, c_gt, b_one, w_bop, sel_t, bsel_ot, bsel_of, bsel_at, bsel_af, s_asgT, s_pass, s_aug, s_ret, k_ret]|exact isb_r true|exact isb_r false|exact isb_t rfl|(apply isb_h; assumption)|(apply isb_f; assumption)|(apply isb_t; assumption)|(apply call_of; assumption)|(apply decide_eq_false; assumption)|(apply decide_eq_true; assumption))|(apply call_of; assumption)|exact isb_h (b := true) rfl|exact isb_h (b := false) rfl|exact rfl|assumption))
  · (refine k_next (by repeat' first|with_reducible (first|exact rfl|assumption|apply_assumption (transparency := .reducible) -exfalso only [e_const, e_glc, e_loc, e_sub, e_bin, w_cmp, w_call, e_bop, l_nil, l_cons, deref_d, bi_add, bi_sub, au_add, c_eqi, c_lt, c_gt, b_one, w_bop, sel_t, bsel_ot, bsel_of, bsel_at, bsel_af, s_asgT, s_pass, s_aug, s_ret, k_ret]|exact isb_r true|exact isb_r false|exact isb_t rfl|(apply isb_h; assumption)|(apply isb_f; assumption)|(apply isb_t; assumption)|(apply call_of; assumption)|(apply decide_eq_false; assumption)|(apply decide_eq_true; assumption))|(apply call_of; assumption)|exact isb_h (b := true) rfl|exact isb_h (b := false) rfl|exact rfl|assumption) ?_; (try dsimp only [setPs, List.zip_cons_cons, List.zip_nil_left, List.zip_nil_right, List.set_cons_succ, List.set_cons_zero]))
    by_cases h2 : k = 2
    · rw [usz_2 h5 (.inl h2)]; (refine k_ret (by apply w_ife; repeat' first|with_reducible (first|exact rfl|assumption|apply_assumption (transparency := .reducible) -exfalso only [e_const, e_glc, e_loc, e_sub, e_bin, w_cmp, w_call, e_bop, l_nil, l_cons, deref_d, bi_add, bi_sub, au_add, c_eqi, c_lt, c_gt, b_one, w_bop, sel_t, bsel_ot, bsel_of, bsel_at, bsel_af, s_asgT, s_pass, s_aug, s_ret, k_ret]|exact isb_r true|exact isb_r false|exact isb_t rfl|(apply isb_h; assumption)|(apply isb_f; assumption)|(apply isb_t; assumption)|(apply call_of; assumption)|(apply decide_eq_false; assumption)|(apply decide_eq_true; assumption))|(apply call_of; assumption)|exact isb_h (b := true) rfl|exact isb_h (b := false) rfl|exact rfl|assumption))
    · by_cases h3 : k = 3
      · rw [usz_2 h5 (.inr h3)]; (refine k_ret (by apply w_ife; repeat' first|with_reducible (first|exact rfl|assumption|apply_assumption (transparency := .reducible) -exfalso only [e_const, e_glc, e_loc, e_sub, e_bin, w_cmp, w_call, e_bop, l_nil, l_cons, deref_d, bi_add, bi_sub, au_add, c_eqi, c_lt, c_gt, b_one, w_bop, sel_t, bsel_ot, bsel_of, bsel_at, bsel_af, s_asgT, s_pass, s_aug, s_ret, k_ret]|exact isb_r true|exact isb_r false|exact isb_t rfl|(apply isb_h; assumption)|(apply isb_f; assumption)|(apply isb_t; assumption)|(apply call_of; assumption)|(apply decide_eq_false; assumption)|(apply decide_eq_true; assumption))|(apply call_of; assumption)|exact isb_h (b := true) rfl|exact isb_h (b := false) rfl|exact rfl|assumption))
      · rw [usz_1 h5 h2 h3]; (refine k_next (by repeat' first|with_reducible (first|exact rfl|assumption|apply_assumption (transparency := .reducible) -exfalso only [e_const, e_glc, e_loc, e_sub, e_bin, w_cmp, w_call, e_bop, l_nil, l_cons, deref_d, bi_add, bi_sub, au_add, c_eqi, c_lt, c_gt, b_one, w_bop, sel_t, bsel_ot, bsel_of, bsel_at, bsel_af, s_asgT, s_pass, s_aug, s_ret, k_ret]|exact isb_r true|exact isb_r false|exact isb_t rfl|(apply isb_h; assumption)|(apply isb_f; assumption)|(apply isb_t; assumption)|(apply call_of; assumption)|(apply decide_eq_false; assumption)|(apply decide_eq_true; assumption))|(apply call_of; assumption)|exact isb_h (b := true) rfl|exact isb_h (b := false) rfl|exact rfl|assumption) ?_; (try dsimp only [setPs, List.zip_cons_cons, List.zip_nil_left, List.zip_nil_right, List.set_cons_succ, List.set_cons_zero])); (refine k_ret (by repeat' first|with_reducible (first|exact rfl|assumption|apply_assumption (transparency := .reducible) -exfalso only [e_const, e_glc, e_loc, e_sub, e_bin, w_cmp, w_call, e_bop, l_nil, l_cons, deref_d, bi_add, bi_sub, au_add, c_eqi, c_lt, c_gt, b_one, w_bop, sel_t, bsel_ot, bsel_of, bsel_at, bsel_af, s_asgT, s_pass, s_aug, s_ret, k_ret]|exact isb_r true|exact isb_r false|exact isb_t rfl|(apply isb_h; assumption)|(apply isb_f; assumption)|(apply isb_t; assumption)|(apply call_of; assumption)|(apply decide_eq_false; assumption)|(apply decide_eq_true; assumption))|(apply call_of; assumption)|exact isb_h (b := true) rfl|exact isb_h (b := false) rfl|exact rfl|assumption))
theorem sp_unit_size (n : Nat) (k len : Int) (μ : Mu) : semF R (n + 2) 8 [.dat (.int k), .dat (.int len)] μ = some (.ok (.dat (.int (usz k len))), μ) := by
  rw [semF_at R rfl rfl rfl]
  refine f_ret rfl ?_
  show evBk _ _ ir_unit_size [some (.dat (.int k)), some (.dat (.int len))] μ = _
  unfold ir_unit_size
  by_cases h5 : k = 5
  · rw [usz_5 h5]; (refine k_ret (by apply w_ife; repeat' first|with_reducible (first|exact rfl|assumption|apply_assumption (transparency := .reducible) -exfalso only [e_const, e_glc, e_loc, e_sub, e_bin, w_cmp, w_call, e_bop, l_nil, l_cons, deref_d, bi_add, bi_sub, au_add, c_eqi, c_lt, c_gt, b_one, w_bop, sel_t, bsel_ot, bsel_of, bsel_at, bsel_af, s_asgT, s_pass, s_aug, s_ret, k_ret]|exact isb_r true|exact isb_r false|exact isb_t rfl|(apply isb_h; assumption)|(apply isb_f; assumption)|(apply isb_t; assumption)|(apply call_of; assumption)|(apply decide_eq_false; assumption)|(apply decide_eq_true; assumption))|(apply call_of; assumption)|exact isb_h (b := true) rfl|exact isb_h (b := false) rfl|exact rfl|assumption))
  · have h := sp_units R n k μ
    have e : usz k 0 = usz k len := by unfold usz; rw [if_neg h5, if_neg h5]
    rw [e] at h
    (refine k_next (by repeat' first|with_reducible (first|exact rfl|assumption|apply_assumption (transparency := .reducible) -exfalso only [e_const, e_glc, e_loc, e_sub, e_bin, w_cmp, w_call, e_bop, l_nil, l_cons, deref_d, bi_add, bi_sub, au_add, c_eqi, c_lt, c_gt, b_one, w_bop, sel_t, bsel_ot, bsel_of, bsel_at, bsel_af, s_asgT, s_pass, s_aug, s_ret, k_ret]|exact isb_r true|exact isb_r false|exact isb_t rfl|(apply isb_h; assumption)|(apply isb_f; assumption)|(apply isb_t; assumption)|(apply call_of; assumption)|(apply decide_eq_false; assumption)|(apply decide_eq_true; assumption))|(apply call_of; assumption)|exact isb_h (b := true) rfl|exact isb_h (b := false) rfl|exact rfl|assumption) ?_; (try dsimp only [setPs, List.zip_cons_cons, List.zip_nil_left, List.zip_nil_right, List.set_cons_succ, List.set_cons_zero])); (refine k_ret (by repeat' first|with_reducible (first|exact rfl|assumption|apply_assumption (transparency := .reducible) -exfalso only [e_const, e_glc, e_loc, e_sub, e_bin, w_cmp, w_call, e_bop, l_nil, l_cons, deref_d, bi_add, bi_sub, au_add, c_eqi, c_lt, c_gt, b_one, w_bop, sel_t, bsel_ot, bsel_of, bsel_at, bsel_af, s_asgT, s_pass, s_aug, s_ret, k_ret]|exact isb_r true|exact isb_r false|exact isb_t rfl|(apply isb_h; assumption)|(apply isb_f; assumption)|(apply isb_t; assumption)|(apply call_of; assumption)|(apply decide_eq_false; assumption)|(apply decide_eq_true; assumption))|(apply call_of; assumption)|exact isb_h (b := true) rfl|exact isb_h (b := false) rfl|exact rfl|assumption))

noncomputable def hiD : Option Int → Dat
  | none => .none
  | some h => .int h
noncomputable def dmD (p : Int × Option Int) : Dat := .tuple [.int p.1, hiD p.2]
noncomputable def offd : List (Int × Option Int) → List Int → Int → Int → Option (Int × Int)
  | [], _, off, st => some (off, st)
  | _ :: _, [], _, _ => none
  | (lo, hi) :: ds, s :: ss, off, st => if s < lo then none else match hi with
    | none => offd ds ss (off + (s - lo) * st) st
    | some h => if h < s then none else offd ds ss (off + (s - lo) * st) (st * (h - lo + 1))
noncomputable def fits (ds : List (Int × Option Int)) (ss : List Int) : Prop := (∀ p ∈ ds, -1000 ≤ p.1 ∧ p.1 ≤ 1000 ∧ ∀ h, p.2 = some h → -1000 ≤ h ∧ h ≤ 1000) ∧ ∀ s ∈ ss, -1000 ≤ s ∧ s ≤ 1000
theorem small_of {x : Int} (h : -100000 ≤ x ∧ x ≤ 100000) : small x = true := by
  unfold small; exact decide_eq_true (by (first | lia | omega))
theorem hi_isnone (h : Option Int) : isNone (.dat (hiD h)) = h.isNone := by cases h <;> rfl

theorem idx_nat (ds : List Dat) (j : Nat) (d : Dat) (h : ds[j]? = some d) (hl : ds.length ≤ 1000) : idxD (.list ds) (j : Int) = some d ∧ idxD (.tuple ds) (j : Int) = some d := by
  have hj := (List.getElem?_eq_some_iff.mp h).1
  have hs : seqIndex? (j : Int) ds.length = some j := by
    have := seqIndex_of (k := (j : Int)) (n := ds.length) (by (first | lia | omega)) (by (first | lia | omega))
    simpa using this
  exact ⟨idxL_of ⟨by omega, by omega⟩ hs h, idxL_of ⟨by omega, by omega⟩ hs h⟩
theorem ep_turn (F G : Nat → List Vl → Mu → RR Vl) {P K A L : Option Vl} {S : Vl} {dims : List (Int × Option Int)} {subs : List Int} {j : Nat} {lo s : Int} {hi : Option Int} {off st : Int} {x9 x10 : Option Vl} {μ : Mu} (hS : deref μ S = some (.list (subs.map .int)))
    (hd : dims[j]? = some (lo, hi)) (hs : subs[j]? = some s) (hl : dims.length ≤ 1000) (hl2 : subs.length ≤ 1000) (b1 : -1000 ≤ lo ∧ lo ≤ 1000) (b2 : -1000 ≤ s ∧ s ≤ 1000) (b3 : ∀ h, hi = some h → -1000 ≤ h ∧ h ≤ 1000) :
    evBk F G lp_element_place_0 [P, some S, K, A, L, some (.dat (.tuple (dims.map dmD))), some (.dat (.int off)), some (.dat (.int st)), some (.dat (.int j)), x9, x10] μ =
      if s < lo then some (.error (), μ) else match hi with
      | none => some (.ok (.next [P, some S, K, A, L, some (.dat (.tuple (dims.map dmD))), some (.dat (.int (off + (s - lo) * st))), some (.dat (.int st)), some (.dat (.int j)), some (.dat (.int lo)), some (.dat .none)]), μ)
      | some h => if h < s then some (.error (), μ) else some (.ok (.next [P, some S, K, A, L, some (.dat (.tuple (dims.map dmD))), some (.dat (.int (off + (s - lo) * st))), some (.dat (.int (st * (h - lo + 1)))), some (.dat (.int j)), some (.dat (.int lo)), some (.dat (.int h))]), μ) := by
  have e1 : idxD (.tuple (dims.map dmD)) (j : Int) = some (dmD (lo, hi)) := (idx_nat _ _ _ (by rw [List.getElem?_map, hd]; rfl) (by simpa using hl)).2
  have e2 : idxD (.list (subs.map .int)) (j : Int) = some (.int s) := (idx_nat _ _ _ (by rw [List.getElem?_map, hs]; rfl) (by simpa using hl2)).1
  have zM : binD .Mult (.int (s - lo)) (.int st) = some (.int ((s - lo) * st)) := b_mul (small_of (by (first | lia | omega)))
  unfold lp_element_place_0
  cases hi with
  | none =>
    have e1 : idxD (.tuple (dims.map dmD)) (j : Int) = some (.tuple [.int lo, .none]) := e1
    (refine k_next (by repeat' first|with_reducible (first|exact rfl|assumption|apply_assumption (transparency := .reducible) -exfalso only [e_const, e_glc, e_loc, e_sub, e_bin, w_cmp, w_call, e_bop, l_nil, l_cons, deref_d, bi_add, bi_sub, au_add, c_eqi, c_lt, c_gt, b_one, w_bop, sel_t, bsel_ot, bsel_of, bsel_at, bsel_af, s_asgT, s_pass, s_aug, s_ret, k_ret]|exact isb_r true|exact isb_r false|exact isb_t rfl|(apply isb_h; assumption)|(apply isb_f; assumption)|(apply isb_t; assumption)|(apply call_of; assumption)|(apply decide_eq_false; assumption)|(apply decide_eq_true; assumption))|(apply call_of; assumption)|exact isb_h (b := true) rfl|exact isb_h (b := false) rfl|exact rfl|assumption) ?_; (try dsimp only [setPs, List.zip_cons_cons, List.zip_nil_left, List.zip_nil_right, List.set_cons_succ, List.set_cons_zero]))
    by_cases c1 : s < lo
    · rw [if_pos c1]; (refine k_err (by apply w_ife; repeat' first|with_reducible (first|exact rfl|assumption|apply_assumption (transparency := .reducible) -exfalso only [e_const, e_glc, e_loc, e_sub, e_bin, w_cmp, w_call, e_bop, l_nil, l_cons, deref_d, bi_add, bi_sub, au_add, c_eqi, c_lt, c_gt, b_one, w_bop, sel_t, bsel_ot, bsel_of, bsel_at, bsel_af, s_asgT, s_pass, s_aug, s_ret, k_ret]|exact isb_r true|exact isb_r false|exact isb_t rfl|(apply isb_h; assumption)|(apply isb_f; assumption)|(apply isb_t; assumption)|(apply call_of; assumption)|(apply decide_eq_false; assumption)|(apply decide_eq_true; assumption))|(apply call_of; assumption)|exact isb_h (b := true) rfl|exact isb_h (b := false) rfl|exact rfl|assumption))
    · rw [if_neg c1]; (refine k_next (by repeat' first|with_reducible (first|exact rfl|assumption|apply_assumption (transparency := .reducible) -exfalso only [e_const, e_glc, e_loc, e_sub, e_bin, w_cmp, w_call, e_bop, l_nil, l_cons, deref_d, bi_add, bi_sub, au_add, c_eqi, c_lt, c_gt, b_one, w_bop, sel_t, bsel_ot, bsel_of, bsel_at, bsel_af, s_asgT, s_pass, s_aug, s_ret, k_ret]|exact isb_r true|exact isb_r false|exact isb_t rfl|(apply isb_h; assumption)|(apply isb_f; assumption)|(apply isb_t; assumption)|(apply call_of; assumption)|(apply decide_eq_false; assumption)|(apply decide_eq_true; assumption))|(apply call_of; assumption)|exact isb_h (b := true) rfl|exact isb_h (b := false) rfl|exact rfl|assumption) ?_; (try dsimp only [setPs, List.zip_cons_cons, List.zip_nil_left, List.zip_nil_right, List.set_cons_succ, List.set_cons_zero])); (refine k_next (by repeat' first|with_reducible (first|exact rfl|assumption|apply_assumption (transparency := .reducible) -exfalso only [e_const, e_glc, e_loc, e_sub, e_bin, w_cmp, w_call, e_bop, l_nil, l_cons, deref_d, bi_add, bi_sub, au_add, c_eqi, c_lt, c_gt, b_one, w_bop, sel_t, bsel_ot, bsel_of, bsel_at, bsel_af, s_asgT, s_pass, s_aug, s_ret, k_ret]|exact isb_r true|exact isb_r false|exact isb_t rfl|(apply isb_h; assumption)|(apply isb_f; assumption)|(apply isb_t; assumption)|(apply call_of; assumption)|(apply decide_eq_false; assumption)|(apply decide_eq_true; assumption))|(apply call_of; assumption)|exact isb_h (b := true) rfl|exact isb_h (b := false) rfl|exact rfl|assumption) ?_; (try dsimp only [setPs, List.zip_cons_cons, List.zip_nil_left, List.zip_nil_right, List.set_cons_succ, List.set_cons_zero])); (refine k_next (by repeat' first|with_reducible (first|exact rfl|assumption|apply_assumption (transparency := .reducible) -exfalso only [e_const, e_glc, e_loc, e_sub, e_bin, w_cmp, w_call, e_bop, l_nil, l_cons, deref_d, bi_add, bi_sub, au_add, c_eqi, c_lt, c_gt, b_one, w_bop, sel_t, bsel_ot, bsel_of, bsel_at, bsel_af, s_asgT, s_pass, s_aug, s_ret, k_ret]|exact isb_r true|exact isb_r false|exact isb_t rfl|(apply isb_h; assumption)|(apply isb_f; assumption)|(apply isb_t; assumption)|(apply call_of; assumption)|(apply decide_eq_false; assumption)|(apply decide_eq_true; assumption))|(apply call_of; assumption)|exact isb_h (b := true) rfl|exact isb_h (b := false) rfl|exact rfl|assumption) ?_; (try dsimp only [setPs, List.zip_cons_cons, List.zip_nil_left, List.zip_nil_right, List.set_cons_succ, List.set_cons_zero])); rfl
  | some h =>
    have e1 : idxD (.tuple (dims.map dmD)) (j : Int) = some (.tuple [.int lo, .int h]) := e1
    have b4 := b3 h rfl
    have aM : augD .Mult st (h - lo + 1) = some (st * (h - lo + 1)) := a_mul2 (small_of (by (first | lia | omega)))
    (refine k_next (by repeat' first|with_reducible (first|exact rfl|assumption|apply_assumption (transparency := .reducible) -exfalso only [e_const, e_glc, e_loc, e_sub, e_bin, w_cmp, w_call, e_bop, l_nil, l_cons, deref_d, bi_add, bi_sub, au_add, c_eqi, c_lt, c_gt, b_one, w_bop, sel_t, bsel_ot, bsel_of, bsel_at, bsel_af, s_asgT, s_pass, s_aug, s_ret, k_ret]|exact isb_r true|exact isb_r false|exact isb_t rfl|(apply isb_h; assumption)|(apply isb_f; assumption)|(apply isb_t; assumption)|(apply call_of; assumption)|(apply decide_eq_false; assumption)|(apply decide_eq_true; assumption))|(apply call_of; assumption)|exact isb_h (b := true) rfl|exact isb_h (b := false) rfl|exact rfl|assumption) ?_; (try dsimp only [setPs, List.zip_cons_cons, List.zip_nil_left, List.zip_nil_right, List.set_cons_succ, List.set_cons_zero]))
    by_cases c1 : s < lo
    · rw [if_pos c1]; (refine k_err (by apply w_ife; repeat' first|with_reducible (first|exact rfl|assumption|apply_assumption (transparency := .reducible) -exfalso only [e_const, e_glc, e_loc, e_sub, e_bin, w_cmp, w_call, e_bop, l_nil, l_cons, deref_d, bi_add, bi_sub, au_add, c_eqi, c_lt, c_gt, b_one, w_bop, sel_t, bsel_ot, bsel_of, bsel_at, bsel_af, s_asgT, s_pass, s_aug, s_ret, k_ret]|exact isb_r true|exact isb_r false|exact isb_t rfl|(apply isb_h; assumption)|(apply isb_f; assumption)|(apply isb_t; assumption)|(apply call_of; assumption)|(apply decide_eq_false; assumption)|(apply decide_eq_true; assumption))|(apply call_of; assumption)|exact isb_h (b := true) rfl|exact isb_h (b := false) rfl|exact rfl|assumption))
    · rw [if_neg c1]
      by_cases c2 : h < s
      · rw [if_pos c2]; (refine k_err (by apply w_ife; repeat' first|with_reducible (first|exact rfl|assumption|apply_assumption (transparency := .reducible) -exfalso only [e_const, e_glc, e_loc, e_sub, e_bin, w_cmp, w_call, e_bop, l_nil, l_cons, deref_d, bi_add, bi_sub, au_add, c_eqi, c_lt, c_gt, b_one, w_bop, sel_t, bsel_ot, bsel_of, bsel_at, bsel_af, s_asgT, s_pass, s_aug, s_ret, k_ret]|exact isb_r true|exact isb_r false|exact isb_t rfl|(apply isb_h; assumption)|(apply isb_f; assumption)|(apply isb_t; assumption)|(apply call_of; assumption)|(apply decide_eq_false; assumption)|(apply decide_eq_true; assumption))|(apply call_of; assumption)|exact isb_h (b := true) rfl|exact isb_h (b := false) rfl|exact rfl|assumption))
      · rw [if_neg c2]
        iterate 2 (refine k_next (by repeat' first|with_reducible (first|exact rfl|assumption|apply_assumption (transparency := .reducible) -exfalso only [e_const, e_glc, e_loc, e_sub, e_bin, w_cmp, w_call, e_bop, l_nil, l_cons, deref_d, bi_add, bi_sub, au_add, c_eqi, c_lt, c_gt, b_one, w_bop, sel_t, bsel_ot, bsel_of, bsel_at, bsel_af, s_asgT, s_pass, s_aug, s_ret, k_ret]|exact isb_r true|exact isb_r false|exact isb_t rfl|(apply isb_h; assumption)|(apply isb_f; assumption)|(apply isb_t; assumption)|(apply call_of; assumption)|(apply decide_eq_false; assumption)|(apply decide_eq_true; assumption))|(apply call_of; assumption)|exact isb_h (b := true) rfl|exact isb_h (b := false) rfl|exact rfl|assumption) ?_; (try dsimp only [setPs, List.zip_cons_cons, List.zip_nil_left, List.zip_nil_right, List.set_cons_succ, List.set_cons_zero]))
        refine' k_next (w_ife ?a1 ?a2 (sel_t ?a3)) rfl
        (case a1 => (repeat' first|with_reducible (first|exact rfl|assumption|apply_assumption (transparency := .reducible) -exfalso only [e_const, e_glc, e_loc, e_sub, e_bin, w_cmp, w_call, e_bop, l_nil, l_cons, deref_d, bi_add, bi_sub, au_add, c_eqi, c_lt, c_gt, b_one, w_bop, sel_t, bsel_ot, bsel_of, bsel_at, bsel_af, s_asgT, s_pass, s_aug, s_ret, k_ret]|exact isb_r true|exact isb_r false|exact isb_t rfl|(apply isb_h; assumption)|(apply isb_f; assumption)|(apply isb_t; assumption)|(apply call_of; assumption)|(apply decide_eq_false; assumption)|(apply decide_eq_true; assumption))|(apply call_of; assumption)|exact isb_h (b := true) rfl|exact isb_h (b := false) rfl|exact rfl|assumption))
        (case a2 => (repeat' first|with_reducible (first|exact rfl|assumption|apply_assumption (transparency := .reducible) -exfalso only [e_const, e_glc, e_loc, e_sub, e_bin, w_cmp, w_call, e_bop, l_nil, l_cons, deref_d, bi_add, bi_sub, au_add, c_eqi, c_lt, c_gt, b_one, w_bop, sel_t, bsel_ot, bsel_of, bsel_at, bsel_af, s_asgT, s_pass, s_aug, s_ret, k_ret]|exact isb_r true|exact isb_r false|exact isb_t rfl|(apply isb_h; assumption)|(apply isb_f; assumption)|(apply isb_t; assumption)|(apply call_of; assumption)|(apply decide_eq_false; assumption)|(apply decide_eq_true; assumption))|(apply call_of; assumption)|exact isb_h (b := true) rfl|exact isb_h (b := false) rfl|exact rfl|assumption))
        (case a3 => (refine k_next (by repeat' first|with_reducible (first|exact rfl|assumption|apply_assumption (transparency := .reducible) -exfalso only [e_const, e_glc, e_loc, e_sub, e_bin, w_cmp, w_call, e_bop, l_nil, l_cons, deref_d, bi_add, bi_sub, au_add, c_eqi, c_lt, c_gt, b_one, w_bop, sel_t, bsel_ot, bsel_of, bsel_at, bsel_af, s_asgT, s_pass, s_aug, s_ret, k_ret]|exact isb_r true|exact isb_r false|exact isb_t rfl|(apply isb_h; assumption)|(apply isb_f; assumption)|(apply isb_t; assumption)|(apply call_of; assumption)|(apply decide_eq_false; assumption)|(apply decide_eq_true; assumption))|(apply call_of; assumption)|exact isb_h (b := true) rfl|exact isb_h (b := false) rfl|exact rfl|assumption) ?_; (try dsimp only [setPs, List.zip_cons_cons, List.zip_nil_left, List.zip_nil_right, List.set_cons_succ, List.set_cons_zero])); rfl)
end
end Mine
end
section
open PySem PySem.W PyProof.Rows PySem.Calls
set_option Elab.async false
set_option maxRecDepth 100000
set_option linter.unusedVariables false
set_option linter.unusedSimpArgs false
namespace Mine

theorem rangeD_drop {n j : Nat} (h : j < n) : (rangeD 0 n).drop j = .int (j : Int) :: (rangeD 0 n).drop (j + 1) := by
  have hl : j < (rangeD 0 n).length := by simp [rangeD]; exact h
  rw [List.drop_eq_getElem_cons hl]
  congr 1
  simp [rangeD]
theorem rangeD_end {n : Nat} : (rangeD 0 n).drop n = [] := by
  apply List.drop_eq_nil_of_le; simp [rangeD]

section
variable (R : Obj → List (Str × Value) → Prop)
theorem ep_loop (F G : Nat → List Vl → Mu → RR Vl) {P K A L : Option Vl} {S : Vl} {dims : List (Int × Option Int)} {subs : List Int} {μ : Mu} (hS : deref μ S = some (.list (subs.map .int))) (hfit : fits dims subs) (hl : dims.length ≤ 1000) (hsl : subs.length = dims.length) :
    ∀ (r j : Nat), j + r = dims.length → ∀ (off st : Int) (x8 x9 x10 : Option Vl),
      (offd (dims.drop j) (subs.drop j) off st = none → evFor (fun σ μ => evBk F G lp_element_place_0 σ μ) (.one 8) ((rangeD 0 dims.length).drop j) [P, some S, K, A, L, some (.dat (.tuple (dims.map dmD))), some (.dat (.int off)), some (.dat (.int st)), x8, x9, x10] μ = some (.error (), μ)) ∧
      (∀ o s', offd (dims.drop j) (subs.drop j) off st = some (o, s') → ∃ y8 y9 y10, evFor (fun σ μ => evBk F G lp_element_place_0 σ μ) (.one 8) ((rangeD 0 dims.length).drop j) [P, some S, K, A, L, some (.dat (.tuple (dims.map dmD))), some (.dat (.int off)), some (.dat (.int st)), x8, x9, x10] μ =
        some (.ok (.next [P, some S, K, A, L, some (.dat (.tuple (dims.map dmD))), some (.dat (.int o)), some (.dat (.int s')), y8, y9, y10]), μ)) := by
  intro r
  induction r with
  | zero =>
    intro j hj off st x8 x9 x10
    have hj : j = dims.length := by (first | lia | omega)
    subst hj
    rw [rangeD_end, List.drop_length, ← hsl, List.drop_length]
    exact ⟨fun q => by simp [offd] at q, fun o s' q => by simp [offd] at q; obtain ⟨rfl, rfl⟩ := q; exact ⟨x8, x9, x10, rfl⟩⟩
  | succ r ih =>
    intro j hj off st x8 x9 x10
    have hjl : j < dims.length := by (first | lia | omega)
    have hjs : j < subs.length := by (first | lia | omega)
    obtain ⟨⟨lo, hi⟩, hd⟩ : ∃ p, dims[j]? = some p := ⟨_, List.getElem?_eq_getElem hjl⟩
    obtain ⟨s, hs⟩ : ∃ p, subs[j]? = some p := ⟨_, List.getElem?_eq_getElem hjs⟩
    have ed : dims.drop j = (lo, hi) :: dims.drop (j + 1) := by
      rw [List.drop_eq_getElem_cons hjl]; rw [List.getElem?_eq_getElem hjl] at hd; rw [Option.some.inj hd]
    have es : subs.drop j = s :: subs.drop (j + 1) := by
      rw [List.drop_eq_getElem_cons hjs]; rw [List.getElem?_eq_getElem hjs] at hs; rw [Option.some.inj hs]
    have hb := hfit.1 _ (List.mem_of_getElem? hd)
    have hb2 := hfit.2 _ (List.mem_of_getElem? hs)
    have turn := ep_turn F G (P := P) (K := K) (A := A) (L := L) (off := off) (st := st) (x9 := x9) (x10 := x10) hS hd hs hl (by (first | lia | omega)) ⟨hb.1, hb.2.1⟩ hb2 hb.2.2
    rw [ed, es, rangeD_drop hjl]
    have hset : setT (.one 8) (.int (j : Int)) [P, some S, K, A, L, some (.dat (.tuple (dims.map dmD))), some (.dat (.int off)), some (.dat (.int st)), x8, x9, x10] = some [P, some S, K, A, L, some (.dat (.tuple (dims.map dmD))), some (.dat (.int off)), some (.dat (.int st)), some (.dat (.int j)), x9, x10] := rfl
    have ed' : offd ((lo, hi) :: dims.drop (j + 1)) (s :: subs.drop (j + 1)) off st = if s < lo then none else match hi with
      | none => offd (dims.drop (j + 1)) (subs.drop (j + 1)) (off + (s - lo) * st) st
      | some h => if h < s then none else offd (dims.drop (j + 1)) (subs.drop (j + 1)) (off + (s - lo) * st) (st * (h - lo + 1)) := rfl
    rw [ed']
    by_cases c1 : s < lo
    · rw [if_pos c1] at turn ⊢
      exact ⟨fun _ => for_err hset turn, fun _ _ q => by cases q⟩
    · rw [if_neg c1] at turn ⊢
      cases hi with
      | none =>
        rw [for_next hset turn]
        exact ih (j + 1) (by (first | lia | omega)) _ _ _ _ _
      | some h =>
        dsimp only at turn ⊢
        by_cases c2 : h < s
        · rw [if_pos c2] at turn ⊢
          exact ⟨fun _ => for_err hset turn, fun _ _ q => by cases q⟩
        · rw [if_neg c2] at turn ⊢
          rw [for_next hset turn]
          exact ih (j + 1) (by (first | lia | omega)) _ _ _ _ _

noncomputable def place (k a len : Int) (dims : List (Int × Option Int)) : Dat := .tuple [.int k, .int a, .int len, .tuple (dims.map dmD)]
theorem len_list {ds : List Dat} (h : ds.length ≤ 1000) : lenD (.list ds) = some (ds.length : Int) ∧ lenD (.tuple ds) = some (ds.length : Int) := by
  have : room ds.length = true := by unfold room; exact decide_eq_true (by (first | lia | omega))
  exact ⟨lenR_of this, lenR_of this⟩
theorem rng_len (n : Nat) (h : n ≤ 1000) : ord (n : Int) = true := by
  unfold ord; simp; (first | lia | omega)
theorem sp_ep (n : Nat) {S : Vl} {k a len : Int} {dims : List (Int × Option Int)} {subs : List Int} {μ : Mu} (hS : deref μ S = some (.list (subs.map .int))) (hfit : fits dims subs) (hl : dims.length ≤ 1000) (hl2 : subs.length ≤ 1000) (hu : -100000 ≤ usz k len ∧ usz k len ≤ 100000) :
    semF R (n + 3) 10 [.dat (place k a len dims), S] μ = if subs.length = dims.length then (match offd dims subs 0 1 with
      | none => some (.error (), μ)
      | some (o, _) => some (.ok (.dat (place k (a + o * usz k len) len [])), μ)) else some (.error (), μ) := by
  have hL1 : lenD (.list (subs.map .int)) = some (subs.length : Int) := by simpa using (len_list (ds := subs.map .int) (by simpa using hl2)).1
  have hL2 : lenD (.tuple (dims.map dmD)) = some (dims.length : Int) := by simpa using (len_list (ds := dims.map dmD) (by simpa using hl)).2
  have hr4 : room 4 = true := by decide
  have hr0 : room 0 = true := by decide
  have hus : small (usz k len) = true := small_of hu
  have hL1' : biD .len (.list (subs.map .int)) = some (.int (subs.length : Int)) := bi_len hL1
  have hL2' : biD .len (.tuple (dims.map dmD)) = some (.int (dims.length : Int)) := bi_len hL2
  have ho := rng_len _ hl
  rw [semF_at R rfl rfl rfl]
  by_cases hsl : subs.length = dims.length
  · rw [if_pos hsl]
    have lp := ep_loop (semF R (n + 2)) (semG R (n + 2)) (P := some (.dat (place k a len dims))) (K := some (.dat (.int k))) (A := some (.dat (.int a))) (L := some (.dat (.int len))) hS hfit hl hsl dims.length 0 (by (first | lia | omega)) 0 1 none none none
    rw [List.drop_zero, List.drop_zero, List.drop_zero] at lp
    have hsl' : (subs.length : Int) = (dims.length : Int) := by rw [hsl]
    have us := sp_unit_size R n k len μ
    cases ho' : offd dims subs 0 1 with
    | none =>
      have e := lp.1 ho'
      refine f_err rfl ?_
      show evBk _ _ ir_element_place [some (.dat (place k a len dims)), some S, none, none, none, none, none, none, none, none, none] μ = _
      unfold ir_element_place
      iterate 4 (refine k_next (by repeat' first|with_reducible (first|exact rfl|assumption|apply_assumption (transparency := .reducible) -exfalso only [e_const, e_loc, e_bin, w_cmp, w_call, e_tup, e_bi, l_nil, l_cons, deref_d, ds4, ds0, bi_add, c_nei, sel_t, i_rng1, s_asg, s_asgT, s_pass, s_ret, s_for, k_ret]|(apply isb_h; assumption)|(apply isb_nt; assumption)|(apply call_of; assumption)|(apply decide_eq_true; assumption)|(apply not_dec_f; assumption)|exact not_dec_f rfl)|(apply call_of; assumption)|exact isb_h (b := true) rfl|exact isb_h (b := false) rfl|exact rfl|assumption) ?_; (try dsimp only [setPs, List.zip_cons_cons, List.zip_nil_left, List.zip_nil_right, List.set_cons_succ, List.set_cons_zero]))
      refine' k_err (s_for (ds := rangeD 0 ((dims.length : Int)).toNat) (μ1 := μ) ?zi e)
      (case zi => (repeat' first|with_reducible (first|exact rfl|assumption|apply_assumption (transparency := .reducible) -exfalso only [e_const, e_loc, e_bin, w_cmp, w_call, e_tup, e_bi, l_nil, l_cons, deref_d, ds4, ds0, bi_add, c_nei, sel_t, i_rng1, s_asg, s_asgT, s_pass, s_ret, s_for, k_ret]|(apply isb_h; assumption)|(apply isb_nt; assumption)|(apply call_of; assumption)|(apply decide_eq_true; assumption)|(apply not_dec_f; assumption)|exact not_dec_f rfl)|(apply call_of; assumption)|exact isb_h (b := true) rfl|exact isb_h (b := false) rfl|exact rfl|assumption))
    | some p =>
      obtain ⟨o, s'⟩ := p
      obtain ⟨y8, y9, y10, e⟩ := lp.2 o s' ho'
      have zM : binD .Mult (.int o) (.int (usz k len)) = some (.int (o * usz k len)) := b_mul2 hus
      refine f_ret rfl ?_
      show evBk _ _ ir_element_place [some (.dat (place k a len dims)), some S, none, none, none, none, none, none, none, none, none] μ = _
      unfold ir_element_place
      iterate 4 (refine k_next (by repeat' first|with_reducible (first|exact rfl|assumption|apply_assumption (transparency := .reducible) -exfalso only [e_const, e_loc, e_bin, w_cmp, w_call, e_tup, e_bi, l_nil, l_cons, deref_d, ds4, ds0, bi_add, c_nei, sel_t, i_rng1, s_asg, s_asgT, s_pass, s_ret, s_for, k_ret]|(apply isb_h; assumption)|(apply isb_nt; assumption)|(apply call_of; assumption)|(apply decide_eq_true; assumption)|(apply not_dec_f; assumption)|exact not_dec_f rfl)|(apply call_of; assumption)|exact isb_h (b := true) rfl|exact isb_h (b := false) rfl|exact rfl|assumption) ?_; (try dsimp only [setPs, List.zip_cons_cons, List.zip_nil_left, List.zip_nil_right, List.set_cons_succ, List.set_cons_zero]))
      refine' k_next (s_for (ds := rangeD 0 ((dims.length : Int)).toNat) (μ1 := μ) ?zi e) ?zr
      (case zi => (repeat' first|with_reducible (first|exact rfl|assumption|apply_assumption (transparency := .reducible) -exfalso only [e_const, e_loc, e_bin, w_cmp, w_call, e_tup, e_bi, l_nil, l_cons, deref_d, ds4, ds0, bi_add, c_nei, sel_t, i_rng1, s_asg, s_asgT, s_pass, s_ret, s_for, k_ret]|(apply isb_h; assumption)|(apply isb_nt; assumption)|(apply call_of; assumption)|(apply decide_eq_true; assumption)|(apply not_dec_f; assumption)|exact not_dec_f rfl)|(apply call_of; assumption)|exact isb_h (b := true) rfl|exact isb_h (b := false) rfl|exact rfl|assumption))
      show evBk _ _ _ _ _ = some (.ok (.ret (.dat (.tuple [.int k, .int (a + o * usz k len), .int len, .tuple []]))), μ)
      (refine k_ret (by repeat' first|with_reducible (first|exact rfl|assumption|apply_assumption (transparency := .reducible) -exfalso only [e_const, e_loc, e_bin, w_cmp, w_call, e_tup, e_bi, l_nil, l_cons, deref_d, ds4, ds0, bi_add, c_nei, sel_t, i_rng1, s_asg, s_asgT, s_pass, s_ret, s_for, k_ret]|(apply isb_h; assumption)|(apply isb_nt; assumption)|(apply call_of; assumption)|(apply decide_eq_true; assumption)|(apply not_dec_f; assumption)|exact not_dec_f rfl)|(apply call_of; assumption)|exact isb_h (b := true) rfl|exact isb_h (b := false) rfl|exact rfl|assumption))
  · rw [if_neg hsl]
    have hsl' : ¬ (subs.length : Int) = (dims.length : Int) := by (first | lia | omega)
    refine f_err rfl ?_
    show evBk _ _ ir_element_place [some (.dat (place k a len dims)), some S, none, none, none, none, none, none, none, none, none] μ = _
    unfold ir_element_place
    (refine k_next (by repeat' first|with_reducible (first|exact rfl|assumption|apply_assumption (transparency := .reducible) -exfalso only [e_const, e_loc, e_bin, w_cmp, w_call, e_tup, e_bi, l_nil, l_cons, deref_d, ds4, ds0, bi_add, c_nei, sel_t, i_rng1, s_asg, s_asgT, s_pass, s_ret, s_for, k_ret]|(apply isb_h; assumption)|(apply isb_nt; assumption)|(apply call_of; assumption)|(apply decide_eq_true; assumption)|(apply not_dec_f; assumption)|exact not_dec_f rfl)|(apply call_of; assumption)|exact isb_h (b := true) rfl|exact isb_h (b := false) rfl|exact rfl|assumption) ?_; (try dsimp only [setPs, List.zip_cons_cons, List.zip_nil_left, List.zip_nil_right, List.set_cons_succ, List.set_cons_zero]))
    (refine k_err (by apply w_ife; repeat' first|with_reducible (first|exact rfl|assumption|apply_assumption (transparency := .reducible) -exfalso only [e_const, e_loc, e_bin, w_cmp, w_call, e_tup, e_bi, l_nil, l_cons, deref_d, ds4, ds0, bi_add, c_nei, sel_t, i_rng1, s_asg, s_asgT, s_pass, s_ret, s_for, k_ret]|(apply isb_h; assumption)|(apply isb_nt; assumption)|(apply call_of; assumption)|(apply decide_eq_true; assumption)|(apply not_dec_f; assumption)|exact not_dec_f rfl)|(apply call_of; assumption)|exact isb_h (b := true) rfl|exact isb_h (b := false) rfl|exact rfl|assumption))
end
end Mine
end
section
open PySem PySem.W PyProof.Rows PySem.Calls
set_option Elab.async false
set_option maxRecDepth 100000
set_option maxHeartbeats 4000000
set_option linter.unusedVariables false
set_option linter.unusedSimpArgs false
namespace Mine

section
variable (R : Obj → List (Str × Value) → Prop)
noncomputable def ext : List (Int × Option Int) → Int → Option Int
  | [], c => some c
  | (_, none) :: _, _ => none
  | (lo, some h) :: ds, c => ext ds (c * (h - lo + 1))
theorem small_ext {lo h : Int} (a : -1000 ≤ lo) (b : lo ≤ 1000) (c : -1000 ≤ h ∧ h ≤ 1000) : -100000 ≤ h - lo + 1 ∧ h - lo + 1 ≤ 100000 := by omega
noncomputable def ExtR (F G : Nat → List Vl → Mu → RR Vl) (D : Option Vl) (μ : Mu) (dims : List (Int × Option Int)) (c : Int) (x2 x3 : Option Vl) : Prop :=
  (ext dims c = none → evFor (fun σ μ => evBk F G lp_extent_0 σ μ) (.tup [2, 3]) (dims.map dmD) [D, some (.dat (.int c)), x2, x3] μ = some (.ok (.ret (.dat .none)), μ)) ∧
  (∀ c', ext dims c = some c' → ∃ y2 y3, evFor (fun σ μ => evBk F G lp_extent_0 σ μ) (.tup [2, 3]) (dims.map dmD) [D, some (.dat (.int c)), x2, x3] μ = some (.ok (.next [D, some (.dat (.int c')), y2, y3]), μ))
theorem ext_loop (F G : Nat → List Vl → Mu → RR Vl) {D : Option Vl} {μ : Mu} (dims : List (Int × Option Int)) : fits dims [] → ∀ (c : Int) (x2 x3 : Option Vl), ExtR F G D μ dims c x2 x3 := by
  induction dims with
  | nil => exact fun _ c x2 x3 => ⟨(fun q => nomatch q), fun c' q => by cases q; exact ⟨x2, x3, rfl⟩⟩
  | cons p ds ih =>
    intro hf c x2 x3
    obtain ⟨lo, hi⟩ := p
    cases hi with
    | none => exact ⟨fun _ => for_ret (σ1 := [D, some (.dat (.int c)), some (.dat (.int lo)), some (.dat .none)]) rfl (k_ret (w_ife (w_cmp (e_loc rfl) e_const rfl rfl) (isb_h (b := true) rfl) (sel_t (k_ret (s_ret e_const))))), (fun c' q => nomatch q)⟩
    | some h =>
      have hb := hf.1 _ (.head _)
      have sm : small (h - lo + 1) = true := small_of (small_ext hb.1 hb.2.1 (hb.2.2 h rfl))
      have ih := ih ⟨fun p hp => hf.1 p (.tail _ hp), fun s hs => nomatch hs⟩ (c * (h - lo + 1)) (some (.dat (.int lo))) (some (.dat (.int h)))
      have hb' : evBk F G lp_extent_0 [D, some (.dat (.int c)), some (.dat (.int lo)), some (.dat (.int h))] μ = some (.ok (.next [D, some (.dat (.int (c * (h - lo + 1)))), some (.dat (.int lo)), some (.dat (.int h))]), μ) :=
        k_next (s_pass (w_cmp (e_loc rfl) e_const rfl rfl) rfl) (k_next (s_aug rfl (e_bin (e_bin (e_loc rfl) (e_loc rfl) (deref_d _ _) (deref_d _ _) (bi_sub _ _)) e_const (deref_d _ _) (deref_d _ _) (bi_add _ _)) (a_mul2 sm)) rfl)
      have e := for_next (B := fun σ μ => evBk F G lp_extent_0 σ μ) (tg := .tup [2, 3]) (d := dmD (lo, some h)) (ds := ds.map dmD) (σ := [D, some (.dat (.int c)), x2, x3]) rfl hb'
      exact ⟨fun q => e.trans (ih.1 q), fun c' q => let ⟨y2, y3, z⟩ := ih.2 c' q; ⟨y2, y3, e.trans z⟩⟩
noncomputable def extV : Option Int → Vl
  | none => .dat .none
  | some c => .dat (.int c)
theorem sp_ext (n : Nat) {dims : List (Int × Option Int)} {μ : Mu} (hf : fits dims []) : semF R (n + 1) 9 [.dat (.tuple (dims.map dmD))] μ = some (.ok (extV (ext dims 1)), μ) := by
  rw [semF_at R rfl rfl rfl]
  have lp := ext_loop (semF R n) (semG R n) (D := some (.dat (.tuple (dims.map dmD)))) (μ := μ) dims hf 1 none none
  cases he : ext dims 1 with
  | none => exact f_ret rfl (k_next (s_asg e_const rfl) (k_ret (s_for (i_tup (e_loc rfl)) (lp.1 he))))
  | some c' =>
    obtain ⟨y2, y3, e⟩ := lp.2 c' he
    exact f_ret rfl (k_next (s_asg e_const rfl) (k_next (s_for (i_tup (e_loc rfl)) e) (k_ret (s_ret (e_loc rfl)))))

theorem comp_map {α : Type} {f : Slots → Mu → RR Vl} {u g : α → Dat} {tg : Tg} {σ : Slots} {μ : Mu} {xs : List α} (h : ∀ x ∈ xs, ∃ σ', setT tg (u x) σ = some σ' ∧ f σ' μ = some (.ok (.dat (g x)), μ)) : evComp f none tg σ (xs.map u) μ = some (xs.map g, μ) := by
  induction xs with
  | nil => rfl
  | cons x xs ih =>
    obtain ⟨σ', h1, h2⟩ := h x (.head _)
    exact evComp_go h1 rfl h2 (ih fun x hx => h x (.tail _ hx))
theorem comp_mapD {f : Slots → Mu → RR Vl} {g : Dat → Dat} {tg : Tg} {σ : Slots} {μ : Mu} {ds : List Dat} (h : ∀ d ∈ ds, ∃ σ', setT tg d σ = some σ' ∧ f σ' μ = some (.ok (.dat (g d)), μ)) : evComp f none tg σ ds μ = some (ds.map g, μ) := by
  have := comp_map (u := id) (g := g) h
  rwa [List.map_id] at this
theorem comp_filter {α : Type} {f : Slots → Mu → RR Vl} {t : Slots → Mu → RR Bool} {u g : α → Dat} {p : α → Bool} {tg : Tg} {σ : Slots} {μ : Mu} {xs : List α} (h : ∀ x ∈ xs, ∃ σ', setT tg (u x) σ = some σ' ∧ t σ' μ = some (.ok (p x), μ) ∧ (p x = true → f σ' μ = some (.ok (.dat (g x)), μ))) : evComp f (some t) tg σ (xs.map u) μ = some ((xs.filter p).map g, μ) := by
  induction xs with
  | nil => rfl
  | cons x xs ih =>
    obtain ⟨σ', h1, h2, h3⟩ := h x (.head _)
    have ih := ih fun x hx => h x (.tail _ hx)
    cases hp : p x with
    | true => rw [List.filter_cons_of_pos hp]; exact evComp_go (t := some t) h1 (show t σ' μ = _ from h2.trans (by rw [hp])) (h3 hp) ih
    | false => rw [List.filter_cons_of_neg (by rw [hp]; exact Bool.false_ne_true)]; exact (evComp_skip (t := some t) h1 (show t σ' μ = _ from h2.trans (by rw [hp]))).trans ih
noncomputable def rowsD (k a len : Int) (n : Nat) (w : Int) : List Dat := (List.range n).map fun (j : Nat) => place k (a + (j : Int) * w) len []
theorem ord_of {c : Int} (h : 0 ≤ c ∧ c ≤ 1000) : ord c = true := Bool.and_eq_true_iff.mpr ⟨decide_eq_true (by omega), decide_eq_true (by omega)⟩
theorem sp_elements (n : Nat) {k a len : Int} {dims : List (Int × Option Int)} {μ : Mu} (hf : fits dims []) (hu : -100000 ≤ usz k len ∧ usz k len ≤ 100000) {c : Int} (he : ext dims 1 = some c) (hc : 0 ≤ c ∧ c ≤ 1000) :
    semF R (n + 3) 12 [.dat (place k a len dims)] μ = some (.ok (.dat (.list (rowsD k a len c.toNat (usz k len)))), μ) := by
  have hr : room c.toNat = true := decide_eq_true (Nat.le_trans (Int.toNat_le.mpr hc.2) (by decide))
  have ho : ord c = true := ord_of hc
  have hcomp : evComp (fun σ μ => evE (semF R (n + 2)) (semG R (n + 2)) el_elements_of_0 σ μ) none (.one 7) (clr [7] [some (.dat (place k a len dims)), some (.dat (.int k)), some (.dat (.int a)), some (.dat (.int len)), some (.dat (.tuple (dims.map dmD))), some (.dat (.int c)), some (.dat (.int (usz k len))), none]) (rangeD 0 c.toNat) μ = some (rowsD k a len c.toNat (usz k len), μ) :=
    comp_map fun j _ => ⟨_, rfl, e_tup (l_cons (e_loc rfl) (l_cons (e_bin (e_loc rfl) (e_bin (e_loc rfl) (e_loc rfl) (deref_d _ _) (deref_d _ _) (b_mul2 (small_of hu))) (deref_d _ _) (deref_d _ _) (by rw [Int.zero_add]; exact bi_add _ _)) (l_cons (e_loc rfl) (l_cons (e_tup l_nil ds0 rfl) l_nil)))) (ds4 _ _ _ _) rfl⟩
  rw [semF_at R rfl rfl rfl]
  exact f_ret rfl (k_next (s_asgT (e_loc rfl) rfl) (k_next (s_asg (e_call (l_cons (e_loc rfl) l_nil) ((sp_ext R (n + 1) hf).trans (by rw [he]; rfl))) rfl) (k_next (s_pass (w_cmp (e_loc rfl) e_const rfl rfl) rfl) (k_next (s_asg (e_call (l_cons (e_loc rfl) (l_cons (e_loc rfl) l_nil)) (sp_unit_size R n k len μ)) rfl)
    (k_ret (s_ret (e_comp (i_rng1 (e_loc rfl) ho) rfl (by rw [rangeD, List.length_map, List.length_range]; exact hr) hcomp)))))))
end
end Mine
end
section
open PySem PySem.W PyProof.Rows PySem.Calls
set_option Elab.async false
set_option maxRecDepth 100000
set_option linter.unusedVariables false
set_option linter.unusedSimpArgs false
namespace Mine

section
variable (R : Obj → List (Str × Value) → Prop)
theorem idx3 (k a l d : Dat) : idxD (.tuple [k, a, l, d]) 0 = some k ∧ idxD (.tuple [k, a, l, d]) 1 = some a ∧ idxD (.tuple [k, a, l, d]) 2 = some l ∧ idxD (.tuple [k, a, l, d]) 3 = some d := by
  refine ⟨?_, ?_, ?_, ?_⟩
  · exact (idx_nat [k, a, l, d] 0 k rfl (by simp)).2
  · exact (idx_nat [k, a, l, d] 1 a rfl (by simp)).2
  · exact (idx_nat [k, a, l, d] 2 l rfl (by simp)).2
  · exact (idx_nat [k, a, l, d] 3 d rfl (by simp)).2
noncomputable abbrev subOk (len : Int) (lo hi : Option Int) : Prop := ¬ (lo.getD 1 < 1) ∧ ¬ (hi.getD len < lo.getD 1) ∧ ¬ (len < hi.getD len)
theorem sp_sub (n : Nat) {k a len : Int} {dims : List (Int × Option Int)} {lo hi : Option Int} {μ : Mu} : semF R (n + 1) 11 [.dat (place k a len dims), .dat (hiD lo), .dat (hiD hi)] μ =
    if subOk len lo hi then some (.ok (.dat (place 5 (a + lo.getD 1 - 1) (hi.getD len - lo.getD 1 + 1) [])), μ) else some (.error (), μ) := by
  have i1 := (idx3 (.int k) (.int a) (.int len) (.tuple (dims.map dmD))).2.1
  have i2 := (idx3 (.int k) (.int a) (.int len) (.tuple (dims.map dmD))).2.2.1
  have i1' : idxD (place k a len dims) 1 = some (.int a) := i1
  have i2' : idxD (place k a len dims) 2 = some (.int len) := i2
  clear i1 i2
  rw [semF_at R rfl rfl rfl]
  have key : ∀ r : RS, evBk (semF R n) (semG R n) ir_sub_place [some (.dat (place k a len dims)), some (.dat (hiD lo)), some (.dat (hiD hi)), none, none] μ = r → ∀ r' : RR Vl, (∀ V, r = some (.ok (.ret V), μ) → r' = some (.ok V, μ)) → (r = some (.error (), μ) → r' = some (.error (), μ)) → (r = some (.error (), μ) ∨ ∃ V, r = some (.ok (.ret V), μ)) → fnRes (evBk (semF R n) (semG R n) ir_sub_place) nn_sub_place pr_sub_place.length [.dat (place k a len dims), .dat (hiD lo), .dat (hiD hi)] μ = r' := by
    intro r h r' h1 h2 h3
    rcases h3 with rfl | ⟨V, rfl⟩
    · rw [h2 rfl]; exact f_err rfl h
    · rw [h1 V rfl]; exact f_ret rfl h
  have e3 : evE (semF R n) (semG R n) (.ite (.cmp .Is (.loc 1) (.const .none)) (.const (.int 1)) (.loc 1)) [some (.dat (place k a len dims)), some (.dat (hiD lo)), some (.dat (hiD hi)), none, none] μ = some (.ok (.dat (.int (lo.getD 1))), μ) := by
    cases lo with
    | none => show evE _ _ _ _ _ = some (Except.ok (Vl.dat (Dat.int 1)), μ); (repeat' first|with_reducible (first|exact rfl|assumption|apply_assumption (transparency := .reducible) -exfalso only [e_const, e_glc, e_loc, e_sub, e_bin, w_cmp, w_call, e_tup, e_bop, w_ite, e_bi, l_nil, l_cons, deref_d, ds4, ds0, ds3, bi_add, bi_sub, c_eqi, c_lt, c_gt, b_one, w_bop, sel_t, sel_f, bsel_ot, bsel_of, s_asg, s_asgT, s_pass, s_ret, k_ret]|exact isb_r true|exact isb_r false|exact isb_t rfl|(apply isb_h; assumption)|(apply isb_f; assumption)|(apply isb_t; assumption)|(apply call_of; assumption)|(apply decide_eq_false; assumption))|(apply call_of; assumption)|exact isb_h (b := true) rfl|exact isb_h (b := false) rfl|exact rfl|assumption)
    | some x => show evE _ _ _ _ _ = some (Except.ok (Vl.dat (Dat.int x)), μ); (repeat' first|with_reducible (first|exact rfl|assumption|apply_assumption (transparency := .reducible) -exfalso only [e_const, e_glc, e_loc, e_sub, e_bin, w_cmp, w_call, e_tup, e_bop, w_ite, e_bi, l_nil, l_cons, deref_d, ds4, ds0, ds3, bi_add, bi_sub, c_eqi, c_lt, c_gt, b_one, w_bop, sel_t, sel_f, bsel_ot, bsel_of, s_asg, s_asgT, s_pass, s_ret, k_ret]|exact isb_r true|exact isb_r false|exact isb_t rfl|(apply isb_h; assumption)|(apply isb_f; assumption)|(apply isb_t; assumption)|(apply call_of; assumption)|(apply decide_eq_false; assumption))|(apply call_of; assumption)|exact isb_h (b := true) rfl|exact isb_h (b := false) rfl|exact rfl|assumption)
  have e4 : evE (semF R n) (semG R n) (.ite (.cmp .Is (.loc 2) (.const .none)) (.sub (.loc 0) (.const (.int 2))) (.loc 2)) [some (.dat (place k a len dims)), some (.dat (hiD lo)), some (.dat (hiD hi)), some (.dat (.int (lo.getD 1))), none] μ = some (.ok (.dat (.int (hi.getD len))), μ) := by
    cases hi with
    | none => show evE _ _ _ _ _ = some (Except.ok (Vl.dat (Dat.int len)), μ); (repeat' first|with_reducible (first|exact rfl|assumption|apply_assumption (transparency := .reducible) -exfalso only [e_const, e_glc, e_loc, e_sub, e_bin, w_cmp, w_call, e_tup, e_bop, w_ite, e_bi, l_nil, l_cons, deref_d, ds4, ds0, ds3, bi_add, bi_sub, c_eqi, c_lt, c_gt, b_one, w_bop, sel_t, sel_f, bsel_ot, bsel_of, s_asg, s_asgT, s_pass, s_ret, k_ret]|exact isb_r true|exact isb_r false|exact isb_t rfl|(apply isb_h; assumption)|(apply isb_f; assumption)|(apply isb_t; assumption)|(apply call_of; assumption)|(apply decide_eq_false; assumption))|(apply call_of; assumption)|exact isb_h (b := true) rfl|exact isb_h (b := false) rfl|exact rfl|assumption)
    | some x => show evE _ _ _ _ _ = some (Except.ok (Vl.dat (Dat.int x)), μ); (repeat' first|with_reducible (first|exact rfl|assumption|apply_assumption (transparency := .reducible) -exfalso only [e_const, e_glc, e_loc, e_sub, e_bin, w_cmp, w_call, e_tup, e_bop, w_ite, e_bi, l_nil, l_cons, deref_d, ds4, ds0, ds3, bi_add, bi_sub, c_eqi, c_lt, c_gt, b_one, w_bop, sel_t, sel_f, bsel_ot, bsel_of, s_asg, s_asgT, s_pass, s_ret, k_ret]|exact isb_r true|exact isb_r false|exact isb_t rfl|(apply isb_h; assumption)|(apply isb_f; assumption)|(apply isb_t; assumption)|(apply call_of; assumption)|(apply decide_eq_false; assumption))|(apply call_of; assumption)|exact isb_h (b := true) rfl|exact isb_h (b := false) rfl|exact rfl|assumption)
  by_cases c : subOk len lo hi
  · rw [if_pos c]
    obtain ⟨c1, c2, c3⟩ := c
    refine key _ ?_ _ (fun V h => ?_) (fun h => ?_) (.inr ⟨.dat (.tuple [.int 5, .int (a + lo.getD 1 - 1), .int (hi.getD len - lo.getD 1 + 1), .tuple []]), rfl⟩)
    · unfold ir_sub_place
      refine' k_next (s_asg e3 rfl) ?r1
      refine' k_next (s_asg e4 rfl) ?r2
      (dsimp only [setPs, List.zip_cons_cons, List.zip_nil_left, List.zip_nil_right, List.set_cons_succ, List.set_cons_zero])
      (refine k_next (by repeat' first|with_reducible (first|exact rfl|assumption|apply_assumption (transparency := .reducible) -exfalso only [e_const, e_glc, e_loc, e_sub, e_bin, w_cmp, w_call, e_tup, e_bop, w_ite, e_bi, l_nil, l_cons, deref_d, ds4, ds0, ds3, bi_add, bi_sub, c_eqi, c_lt, c_gt, b_one, w_bop, sel_t, sel_f, bsel_ot, bsel_of, s_asg, s_asgT, s_pass, s_ret, k_ret]|exact isb_r true|exact isb_r false|exact isb_t rfl|(apply isb_h; assumption)|(apply isb_f; assumption)|(apply isb_t; assumption)|(apply call_of; assumption)|(apply decide_eq_false; assumption))|(apply call_of; assumption)|exact isb_h (b := true) rfl|exact isb_h (b := false) rfl|exact rfl|assumption) ?_; (try dsimp only [setPs, List.zip_cons_cons, List.zip_nil_left, List.zip_nil_right, List.set_cons_succ, List.set_cons_zero]))
      (refine k_ret (by repeat' first|with_reducible (first|exact rfl|assumption|apply_assumption (transparency := .reducible) -exfalso only [e_const, e_glc, e_loc, e_sub, e_bin, w_cmp, w_call, e_tup, e_bop, w_ite, e_bi, l_nil, l_cons, deref_d, ds4, ds0, ds3, bi_add, bi_sub, c_eqi, c_lt, c_gt, b_one, w_bop, sel_t, sel_f, bsel_ot, bsel_of, s_asg, s_asgT, s_pass, s_ret, k_ret]|exact isb_r true|exact isb_r false|exact isb_t rfl|(apply isb_h; assumption)|(apply isb_f; assumption)|(apply isb_t; assumption)|(apply call_of; assumption)|(apply decide_eq_false; assumption))|(apply call_of; assumption)|exact isb_h (b := true) rfl|exact isb_h (b := false) rfl|exact rfl|assumption))
    · cases h; rfl
    · cases h
  · rw [if_neg c]
    refine key _ ?_ _ (fun V h => ?_) (fun h => rfl) (.inl rfl)
    · unfold ir_sub_place
      refine' k_next (s_asg e3 rfl) ?r3
      refine' k_next (s_asg e4 rfl) ?r4
      (dsimp only [setPs, List.zip_cons_cons, List.zip_nil_left, List.zip_nil_right, List.set_cons_succ, List.set_cons_zero])
      by_cases c1 : lo.getD 1 < 1
      · (refine k_err (by apply w_ife; repeat' first|with_reducible (first|exact rfl|assumption|apply_assumption (transparency := .reducible) -exfalso only [e_const, e_glc, e_loc, e_sub, e_bin, w_cmp, w_call, e_tup, e_bop, w_ite, e_bi, l_nil, l_cons, deref_d, ds4, ds0, ds3, bi_add, bi_sub, c_eqi, c_lt, c_gt, b_one, w_bop, sel_t, sel_f, bsel_ot, bsel_of, s_asg, s_asgT, s_pass, s_ret, k_ret]|exact isb_r true|exact isb_r false|exact isb_t rfl|(apply isb_h; assumption)|(apply isb_f; assumption)|(apply isb_t; assumption)|(apply call_of; assumption)|(apply decide_eq_false; assumption))|(apply call_of; assumption)|exact isb_h (b := true) rfl|exact isb_h (b := false) rfl|exact rfl|assumption))
      · by_cases c2 : hi.getD len < lo.getD 1
        · (refine k_err (by apply w_ife; repeat' first|with_reducible (first|exact rfl|assumption|apply_assumption (transparency := .reducible) -exfalso only [e_const, e_glc, e_loc, e_sub, e_bin, w_cmp, w_call, e_tup, e_bop, w_ite, e_bi, l_nil, l_cons, deref_d, ds4, ds0, ds3, bi_add, bi_sub, c_eqi, c_lt, c_gt, b_one, w_bop, sel_t, sel_f, bsel_ot, bsel_of, s_asg, s_asgT, s_pass, s_ret, k_ret]|exact isb_r true|exact isb_r false|exact isb_t rfl|(apply isb_h; assumption)|(apply isb_f; assumption)|(apply isb_t; assumption)|(apply call_of; assumption)|(apply decide_eq_false; assumption))|(apply call_of; assumption)|exact isb_h (b := true) rfl|exact isb_h (b := false) rfl|exact rfl|assumption))
        · have c3 : len < hi.getD len := Classical.byContradiction fun h => c ⟨c1, c2, h⟩
          (refine k_err (by apply w_ife; repeat' first|with_reducible (first|exact rfl|assumption|apply_assumption (transparency := .reducible) -exfalso only [e_const, e_glc, e_loc, e_sub, e_bin, w_cmp, w_call, e_tup, e_bop, w_ite, e_bi, l_nil, l_cons, deref_d, ds4, ds0, ds3, bi_add, bi_sub, c_eqi, c_lt, c_gt, b_one, w_bop, sel_t, sel_f, bsel_ot, bsel_of, s_asg, s_asgT, s_pass, s_ret, k_ret]|exact isb_r true|exact isb_r false|exact isb_t rfl|(apply isb_h; assumption)|(apply isb_f; assumption)|(apply isb_t; assumption)|(apply call_of; assumption)|(apply decide_eq_false; assumption))|(apply call_of; assumption)|exact isb_h (b := true) rfl|exact isb_h (b := false) rfl|exact rfl|assumption))
    · cases h
theorem sp_span (n : Nat) {k a len : Int} {dims : List (Int × Option Int)} {μ : Mu} (hf : fits dims []) (hu : -100000 ≤ usz k len ∧ usz k len ≤ 100000) :
    semF R (n + 3) 14 [.dat (place k a len dims)] μ = some (.ok (.dat (.tuple [.bool (decide (k = 5)), .int a, .int (a + (ext dims 1).getD 1 * usz k len)])), μ) := by
  have hus : small (usz k len) = true := small_of hu
  have zM : binD .Mult (.int ((ext dims 1).getD 1)) (.int (usz k len)) = some (.int ((ext dims 1).getD 1 * usz k len)) := b_mul2 hus
  have us := sp_unit_size R (n + 1) k len μ
  have ex := sp_ext R (n + 1) hf (μ := μ)
  rw [semF_at R rfl rfl rfl]
  refine f_ret rfl ?_
  show evBk _ _ ir_span_of [some (.dat (place k a len dims)), none, none, none, none, none] μ = _
  unfold ir_span_of
  iterate 2 (refine k_next (by repeat' first|with_reducible (first|exact rfl|assumption|apply_assumption (transparency := .reducible) -exfalso only [e_const, e_glc, e_loc, e_sub, e_bin, w_cmp, w_call, e_tup, e_bop, w_ite, e_bi, l_nil, l_cons, deref_d, ds4, ds0, ds3, bi_add, bi_sub, c_eqi, c_lt, c_gt, b_one, w_bop, sel_t, sel_f, bsel_ot, bsel_of, s_asg, s_asgT, s_pass, s_ret, k_ret]|exact isb_r true|exact isb_r false|exact isb_t rfl|(apply isb_h; assumption)|(apply isb_f; assumption)|(apply isb_t; assumption)|(apply call_of; assumption)|(apply decide_eq_false; assumption))|(apply call_of; assumption)|exact isb_h (b := true) rfl|exact isb_h (b := false) rfl|exact rfl|assumption) ?_; (try dsimp only [setPs, List.zip_cons_cons, List.zip_nil_left, List.zip_nil_right, List.set_cons_succ, List.set_cons_zero]))
  cases he : ext dims 1 with
  | none =>
    rw [he] at zM
    have zM : binD .Mult (.int 1) (.int (usz k len)) = some (.int (1 * usz k len)) := zM
    refine' k_next (w_ife ?a1 ?a2 (sel_t ?a3)) ?zr
    (case a1 => (repeat' first|with_reducible (first|exact rfl|assumption|apply_assumption (transparency := .reducible) -exfalso only [e_const, e_glc, e_loc, e_sub, e_bin, w_cmp, w_call, e_tup, e_bop, w_ite, e_bi, l_nil, l_cons, deref_d, ds4, ds0, ds3, bi_add, bi_sub, c_eqi, c_lt, c_gt, b_one, w_bop, sel_t, sel_f, bsel_ot, bsel_of, s_asg, s_asgT, s_pass, s_ret, k_ret]|exact isb_r true|exact isb_r false|exact isb_t rfl|(apply isb_h; assumption)|(apply isb_f; assumption)|(apply isb_t; assumption)|(apply call_of; assumption)|(apply decide_eq_false; assumption))|(apply call_of; assumption)|exact isb_h (b := true) rfl|exact isb_h (b := false) rfl|exact rfl|assumption))
    (case a2 => (repeat' first|with_reducible (first|exact rfl|assumption|apply_assumption (transparency := .reducible) -exfalso only [e_const, e_glc, e_loc, e_sub, e_bin, w_cmp, w_call, e_tup, e_bop, w_ite, e_bi, l_nil, l_cons, deref_d, ds4, ds0, ds3, bi_add, bi_sub, c_eqi, c_lt, c_gt, b_one, w_bop, sel_t, sel_f, bsel_ot, bsel_of, s_asg, s_asgT, s_pass, s_ret, k_ret]|exact isb_r true|exact isb_r false|exact isb_t rfl|(apply isb_h; assumption)|(apply isb_f; assumption)|(apply isb_t; assumption)|(apply call_of; assumption)|(apply decide_eq_false; assumption))|(apply call_of; assumption)|exact isb_h (b := true) rfl|exact isb_h (b := false) rfl|exact rfl|assumption))
    (case a3 => (refine k_next (by repeat' first|with_reducible (first|exact rfl|assumption|apply_assumption (transparency := .reducible) -exfalso only [e_const, e_glc, e_loc, e_sub, e_bin, w_cmp, w_call, e_tup, e_bop, w_ite, e_bi, l_nil, l_cons, deref_d, ds4, ds0, ds3, bi_add, bi_sub, c_eqi, c_lt, c_gt, b_one, w_bop, sel_t, sel_f, bsel_ot, bsel_of, s_asg, s_asgT, s_pass, s_ret, k_ret]|exact isb_r true|exact isb_r false|exact isb_t rfl|(apply isb_h; assumption)|(apply isb_f; assumption)|(apply isb_t; assumption)|(apply call_of; assumption)|(apply decide_eq_false; assumption))|(apply call_of; assumption)|exact isb_h (b := true) rfl|exact isb_h (b := false) rfl|exact rfl|assumption) ?_; (try dsimp only [setPs, List.zip_cons_cons, List.zip_nil_left, List.zip_nil_right, List.set_cons_succ, List.set_cons_zero])); rfl)
    show evBk _ _ _ _ _ = some (Except.ok (Fl.ret (Vl.dat (Dat.tuple [.bool (decide (k = 5)), .int a, .int (a + 1 * usz k len)]))), μ)
    (refine k_ret (by repeat' first|with_reducible (first|exact rfl|assumption|apply_assumption (transparency := .reducible) -exfalso only [e_const, e_glc, e_loc, e_sub, e_bin, w_cmp, w_call, e_tup, e_bop, w_ite, e_bi, l_nil, l_cons, deref_d, ds4, ds0, ds3, bi_add, bi_sub, c_eqi, c_lt, c_gt, b_one, w_bop, sel_t, sel_f, bsel_ot, bsel_of, s_asg, s_asgT, s_pass, s_ret, k_ret]|exact isb_r true|exact isb_r false|exact isb_t rfl|(apply isb_h; assumption)|(apply isb_f; assumption)|(apply isb_t; assumption)|(apply call_of; assumption)|(apply decide_eq_false; assumption))|(apply call_of; assumption)|exact isb_h (b := true) rfl|exact isb_h (b := false) rfl|exact rfl|assumption))
  | some c =>
    rw [he] at zM
    (refine k_next (by repeat' first|with_reducible (first|exact rfl|assumption|apply_assumption (transparency := .reducible) -exfalso only [e_const, e_glc, e_loc, e_sub, e_bin, w_cmp, w_call, e_tup, e_bop, w_ite, e_bi, l_nil, l_cons, deref_d, ds4, ds0, ds3, bi_add, bi_sub, c_eqi, c_lt, c_gt, b_one, w_bop, sel_t, sel_f, bsel_ot, bsel_of, s_asg, s_asgT, s_pass, s_ret, k_ret]|exact isb_r true|exact isb_r false|exact isb_t rfl|(apply isb_h; assumption)|(apply isb_f; assumption)|(apply isb_t; assumption)|(apply call_of; assumption)|(apply decide_eq_false; assumption))|(apply call_of; assumption)|exact isb_h (b := true) rfl|exact isb_h (b := false) rfl|exact rfl|assumption) ?_; (try dsimp only [setPs, List.zip_cons_cons, List.zip_nil_left, List.zip_nil_right, List.set_cons_succ, List.set_cons_zero]))
    (refine k_ret (by repeat' first|with_reducible (first|exact rfl|assumption|apply_assumption (transparency := .reducible) -exfalso only [e_const, e_glc, e_loc, e_sub, e_bin, w_cmp, w_call, e_tup, e_bop, w_ite, e_bi, l_nil, l_cons, deref_d, ds4, ds0, ds3, bi_add, bi_sub, c_eqi, c_lt, c_gt, b_one, w_bop, sel_t, sel_f, bsel_ot, bsel_of, s_asg, s_asgT, s_pass, s_ret, k_ret]|exact isb_r true|exact isb_r false|exact isb_t rfl|(apply isb_h; assumption)|(apply isb_f; assumption)|(apply isb_t; assumption)|(apply call_of; assumption)|(apply decide_eq_false; assumption))|(apply call_of; assumption)|exact isb_h (b := true) rfl|exact isb_h (b := false) rfl|exact rfl|assumption))
theorem sp_need (n : Nat) {V : Vl} {ds : List Dat} {a c : Int} {μ : Mu} (hV : deref μ V = some (.list ds)) (hl : ds.length ≤ 1000) : semF R (n + 1) 1 [V, .dat (.int a), .dat (.int c)] μ =
    if a < 0 ∨ (ds.length : Int) < a + c then some (.error (), μ) else some (.ok (.dat .none), μ) := by
  have hL : biD .len (.list ds) = some (.int ds.length) := bi_len (len_list hl).1
  rw [semF_at R rfl rfl rfl]
  by_cases c1 : a < 0
  · rw [if_pos (.inl c1)]
    refine f_err rfl ?_
    show evBk _ _ ir_need_units [some V, some (.dat (.int a)), some (.dat (.int c))] μ = _
    unfold ir_need_units
    (refine k_err (by apply w_ife; repeat' first|with_reducible (first|exact rfl|assumption|apply_assumption (transparency := .reducible) -exfalso only [e_const, e_glc, e_loc, e_sub, e_bin, w_cmp, w_call, e_tup, e_bop, w_ite, e_bi, l_nil, l_cons, deref_d, ds4, ds0, ds3, bi_add, bi_sub, c_eqi, c_lt, c_gt, b_one, w_bop, sel_t, sel_f, bsel_ot, bsel_of, s_asg, s_asgT, s_pass, s_ret, k_ret]|exact isb_r true|exact isb_r false|exact isb_t rfl|(apply isb_h; assumption)|(apply isb_f; assumption)|(apply isb_t; assumption)|(apply call_of; assumption)|(apply decide_eq_false; assumption))|(apply call_of; assumption)|exact isb_h (b := true) rfl|exact isb_h (b := false) rfl|exact rfl|assumption))
  · by_cases c2 : (ds.length : Int) < a + c
    · rw [if_pos (.inr c2)]
      refine f_err rfl ?_
      show evBk _ _ ir_need_units [some V, some (.dat (.int a)), some (.dat (.int c))] μ = _
      unfold ir_need_units
      (refine k_err (by apply w_ife; repeat' first|with_reducible (first|exact rfl|assumption|apply_assumption (transparency := .reducible) -exfalso only [e_const, e_glc, e_loc, e_sub, e_bin, w_cmp, w_call, e_tup, e_bop, w_ite, e_bi, l_nil, l_cons, deref_d, ds4, ds0, ds3, bi_add, bi_sub, c_eqi, c_lt, c_gt, b_one, w_bop, sel_t, sel_f, bsel_ot, bsel_of, s_asg, s_asgT, s_pass, s_ret, k_ret]|exact isb_r true|exact isb_r false|exact isb_t rfl|(apply isb_h; assumption)|(apply isb_f; assumption)|(apply isb_t; assumption)|(apply call_of; assumption)|(apply decide_eq_false; assumption))|(apply call_of; assumption)|exact isb_h (b := true) rfl|exact isb_h (b := false) rfl|exact rfl|assumption))
    · rw [if_neg (fun h => h.elim c1 c2)]
      refine f_next (σ' := [some V, some (.dat (.int a)), some (.dat (.int c))]) rfl ?_
      show evBk _ _ ir_need_units [some V, some (.dat (.int a)), some (.dat (.int c))] μ = _
      unfold ir_need_units
      (refine k_next (by repeat' first|with_reducible (first|exact rfl|assumption|apply_assumption (transparency := .reducible) -exfalso only [e_const, e_glc, e_loc, e_sub, e_bin, w_cmp, w_call, e_tup, e_bop, w_ite, e_bi, l_nil, l_cons, deref_d, ds4, ds0, ds3, bi_add, bi_sub, c_eqi, c_lt, c_gt, b_one, w_bop, sel_t, sel_f, bsel_ot, bsel_of, s_asg, s_asgT, s_pass, s_ret, k_ret]|exact isb_r true|exact isb_r false|exact isb_t rfl|(apply isb_h; assumption)|(apply isb_f; assumption)|(apply isb_t; assumption)|(apply call_of; assumption)|(apply decide_eq_false; assumption))|(apply call_of; assumption)|exact isb_h (b := true) rfl|exact isb_h (b := false) rfl|exact rfl|assumption) ?_; (try dsimp only [setPs, List.zip_cons_cons, List.zip_nil_left, List.zip_nil_right, List.set_cons_succ, List.set_cons_zero]))
      rfl
theorem try_ok {F G : Nat → List Vl → Mu → RR Vl} {e : PE} {σ : Slots} {μ μ' : Mu} {V : Vl} (h : evE F G e σ μ = some (.ok V, μ')) : evBk F G (.cons (.tryr e) .nil) σ μ = some (.ok (.ret V), μ') := k_ret (s_try_ok h)
theorem try_err {F G : Nat → List Vl → Mu → RR Vl} {e : PE} {σ : Slots} {μ μ' : Mu} (h : evE F G e σ μ = some (.error (), μ')) : evBk F G (.cons (.tryr e) .nil) σ μ = some (.ok (.ret (.dat .none)), μ') := k_ret (s_try_err h)
theorem sp_spot_ok (n : Nat) {p : Dat} {S : Vl} {V : Vl} {μ μ' : Mu} (h : semF R n 10 [.dat p, S] μ = some (.ok V, μ')) : semF R (n + 1) 17 [.dat p, S] μ = some (.ok V, μ') := by
  rw [semF_at R rfl rfl rfl]
  exact f_ret rfl (try_ok (σ := [some (.dat p), some S]) (e_call (l_cons (e_loc rfl) (l_cons (e_loc rfl) l_nil)) h))
theorem sp_spot_err (n : Nat) {p : Dat} {S : Vl} {μ μ' : Mu} (h : semF R n 10 [.dat p, S] μ = some (.error (), μ')) : semF R (n + 1) 17 [.dat p, S] μ = some (.ok (.dat .none), μ') := by
  rw [semF_at R rfl rfl rfl]
  exact f_ret rfl (try_err (σ := [some (.dat p), some S]) (e_call (l_cons (e_loc rfl) (l_cons (e_loc rfl) l_nil)) h))
end
end Mine
end
section
open PySem PySem.W PyProof.Rows PySem.Calls
set_option Elab.async false
set_option maxRecDepth 100000
set_option linter.unusedVariables false
set_option linter.unusedSimpArgs false
namespace Mine

section
variable (R : Obj → List (Str × Value) → Prop)
noncomputable def cellD (t : Int) (v : Dat) : Dat := .tuple [.int t, v]
noncomputable def CellOk (d : Dat) : Prop := d = .none ∨ ∃ t v, d = cellD t v
noncomputable def rdC (d : Dat) (tag : Int) : Option Dat := match d with
  | .tuple [.int t, v] => if t = tag then some v else none
  | _ => none
theorem idx2 (t v : Dat) : idxD (.tuple [t, v]) 0 = some t ∧ idxD (.tuple [t, v]) 1 = some v := ⟨(idx_nat [t, v] 0 t rfl (by simp)).2, (idx_nat [t, v] 1 v rfl (by simp)).2⟩
theorem idx_int {ds : List Dat} {i : Int} {d : Dat} (h0 : 0 ≤ i) (h : ds[i.toNat]? = some d) (hl : ds.length ≤ 1000) : idxD (.list ds) i = some d := by
  have := (idx_nat ds i.toNat d h hl).1
  rw [Int.toNat_of_nonneg h0] at this; exact this
noncomputable def oE (o : Option Dat) (μ : Mu) : RR Vl := match o with
  | some v => some (.ok (.dat v), μ)
  | none => some (.error (), μ)
theorem sp_read (n : Nat) {V : Vl} {ds : List Dat} {i tag : Int} {d : Dat} {μ : Mu} (hV : deref μ V = some (.list ds)) (hl : ds.length ≤ 1000) (h0 : 0 ≤ i) (hd : ds[i.toNat]? = some d) (hc : CellOk d) : semF R (n + 1) 2 [V, .dat (.int i), .dat (.int tag)] μ = oE (rdC d tag) μ := by
  have e := idx_int h0 hd hl
  rw [semF_at R rfl rfl rfl]
  rcases hc with rfl | ⟨t, v, rfl⟩
  · refine f_err rfl ?_
    show evBk _ _ ir_read_cell [some V, some (.dat (.int i)), some (.dat (.int tag)), none] μ = _
    unfold ir_read_cell
    (refine k_next (by repeat' first|with_reducible (first|exact rfl|assumption|apply_assumption (transparency := .reducible) -exfalso only [e_const, e_glc, e_loc, e_sub, e_bin, w_cmp, w_call, e_tup, e_bop, l_nil, l_cons, deref_d, ds2, bi_add, c_eqi, c_nei, b_one, w_bop, sel_t, bsel_ot, bsel_of, s_asg, s_pass, s_expr, s_ret, k_ret]|exact isb_r true|exact isb_r false|exact isb_t rfl|(apply isb_h; assumption)|(apply isb_t; assumption)|(apply isb_nt; assumption)|(apply call_of; assumption)|(apply decide_eq_false; assumption)|(apply decide_eq_true; assumption)|(apply not_dec_f; assumption)|exact not_dec_f rfl)|(apply call_of; assumption)|exact isb_h (b := true) rfl|exact isb_h (b := false) rfl|exact rfl|assumption) ?_; (try dsimp only [setPs, List.zip_cons_cons, List.zip_nil_left, List.zip_nil_right, List.set_cons_succ, List.set_cons_zero]))
    (refine k_err (by apply w_ife; repeat' first|with_reducible (first|exact rfl|assumption|apply_assumption (transparency := .reducible) -exfalso only [e_const, e_glc, e_loc, e_sub, e_bin, w_cmp, w_call, e_tup, e_bop, l_nil, l_cons, deref_d, ds2, bi_add, c_eqi, c_nei, b_one, w_bop, sel_t, bsel_ot, bsel_of, s_asg, s_pass, s_expr, s_ret, k_ret]|exact isb_r true|exact isb_r false|exact isb_t rfl|(apply isb_h; assumption)|(apply isb_t; assumption)|(apply isb_nt; assumption)|(apply call_of; assumption)|(apply decide_eq_false; assumption)|(apply decide_eq_true; assumption)|(apply not_dec_f; assumption)|exact not_dec_f rfl)|(apply call_of; assumption)|exact isb_h (b := true) rfl|exact isb_h (b := false) rfl|exact rfl|assumption))
  · have e : idxD (.list ds) i = some (.tuple [.int t, v]) := e
    obtain ⟨i0, i1⟩ := idx2 (.int t) v
    by_cases ht : t = tag
    · have er : rdC (cellD t v) tag = some v := if_pos ht
      rw [er]
      refine f_ret rfl ?_
      show evBk _ _ ir_read_cell [some V, some (.dat (.int i)), some (.dat (.int tag)), none] μ = _
      unfold ir_read_cell
      iterate 2 (refine k_next (by repeat' first|with_reducible (first|exact rfl|assumption|apply_assumption (transparency := .reducible) -exfalso only [e_const, e_glc, e_loc, e_sub, e_bin, w_cmp, w_call, e_tup, e_bop, l_nil, l_cons, deref_d, ds2, bi_add, c_eqi, c_nei, b_one, w_bop, sel_t, bsel_ot, bsel_of, s_asg, s_pass, s_expr, s_ret, k_ret]|exact isb_r true|exact isb_r false|exact isb_t rfl|(apply isb_h; assumption)|(apply isb_t; assumption)|(apply isb_nt; assumption)|(apply call_of; assumption)|(apply decide_eq_false; assumption)|(apply decide_eq_true; assumption)|(apply not_dec_f; assumption)|exact not_dec_f rfl)|(apply call_of; assumption)|exact isb_h (b := true) rfl|exact isb_h (b := false) rfl|exact rfl|assumption) ?_; (try dsimp only [setPs, List.zip_cons_cons, List.zip_nil_left, List.zip_nil_right, List.set_cons_succ, List.set_cons_zero]))
      (refine k_ret (by repeat' first|with_reducible (first|exact rfl|assumption|apply_assumption (transparency := .reducible) -exfalso only [e_const, e_glc, e_loc, e_sub, e_bin, w_cmp, w_call, e_tup, e_bop, l_nil, l_cons, deref_d, ds2, bi_add, c_eqi, c_nei, b_one, w_bop, sel_t, bsel_ot, bsel_of, s_asg, s_pass, s_expr, s_ret, k_ret]|exact isb_r true|exact isb_r false|exact isb_t rfl|(apply isb_h; assumption)|(apply isb_t; assumption)|(apply isb_nt; assumption)|(apply call_of; assumption)|(apply decide_eq_false; assumption)|(apply decide_eq_true; assumption)|(apply not_dec_f; assumption)|exact not_dec_f rfl)|(apply call_of; assumption)|exact isb_h (b := true) rfl|exact isb_h (b := false) rfl|exact rfl|assumption))
    · have er : rdC (cellD t v) tag = none := if_neg ht
      rw [er]
      refine f_err rfl ?_
      show evBk _ _ ir_read_cell [some V, some (.dat (.int i)), some (.dat (.int tag)), none] μ = _
      unfold ir_read_cell
      (refine k_next (by repeat' first|with_reducible (first|exact rfl|assumption|apply_assumption (transparency := .reducible) -exfalso only [e_const, e_glc, e_loc, e_sub, e_bin, w_cmp, w_call, e_tup, e_bop, l_nil, l_cons, deref_d, ds2, bi_add, c_eqi, c_nei, b_one, w_bop, sel_t, bsel_ot, bsel_of, s_asg, s_pass, s_expr, s_ret, k_ret]|exact isb_r true|exact isb_r false|exact isb_t rfl|(apply isb_h; assumption)|(apply isb_t; assumption)|(apply isb_nt; assumption)|(apply call_of; assumption)|(apply decide_eq_false; assumption)|(apply decide_eq_true; assumption)|(apply not_dec_f; assumption)|exact not_dec_f rfl)|(apply call_of; assumption)|exact isb_h (b := true) rfl|exact isb_h (b := false) rfl|exact rfl|assumption) ?_; (try dsimp only [setPs, List.zip_cons_cons, List.zip_nil_left, List.zip_nil_right, List.set_cons_succ, List.set_cons_zero]))
      (refine k_err (by apply w_ife; repeat' first|with_reducible (first|exact rfl|assumption|apply_assumption (transparency := .reducible) -exfalso only [e_const, e_glc, e_loc, e_sub, e_bin, w_cmp, w_call, e_tup, e_bop, l_nil, l_cons, deref_d, ds2, bi_add, c_eqi, c_nei, b_one, w_bop, sel_t, bsel_ot, bsel_of, s_asg, s_pass, s_expr, s_ret, k_ret]|exact isb_r true|exact isb_r false|exact isb_t rfl|(apply isb_h; assumption)|(apply isb_t; assumption)|(apply isb_nt; assumption)|(apply call_of; assumption)|(apply decide_eq_false; assumption)|(apply decide_eq_true; assumption)|(apply not_dec_f; assumption)|exact not_dec_f rfl)|(apply call_of; assumption)|exact isb_h (b := true) rfl|exact isb_h (b := false) rfl|exact rfl|assumption))
noncomputable def ldN (k : Int) (d1 d2 : Dat) : Option Dat :=
  if k = 3 then (rdC d1 1).bind fun u => (rdC d2 1).map fun v => .tuple [u, v]
  else (rdC d1 k).bind fun v => if k = 2 then (rdC d2 6).map fun _ => v else some v
theorem sp_load_number (n : Nat) {V : Vl} {ds : List Dat} {a k : Int} {d1 d2 : Dat} {μ : Mu} (hV : deref μ V = some (.list ds)) (hl : ds.length ≤ 1000) (hk : k ≠ 5) (h0 : 0 ≤ a) (hb : a + usz k 0 ≤ ds.length) (hd1 : ds[a.toNat]? = some d1) (hd2 : usz k 0 = 2 → ds[(a + 1).toNat]? = some d2) (hc1 : CellOk d1) (hc2 : CellOk d2) :
    semF R (n + 2) 3 [V, .dat (.int k), .dat (.int a)] μ = oE (ldN k d1 d2) μ := by
  have nd : semF R (n + 1) 1 [V, .dat (.int a), .dat (.int (usz k 0))] μ = some (.ok (.dat .none), μ) := by
    rw [sp_need R n hV hl, if_neg (by (first | lia | omega))]
  have r1 : ∀ tag, semF R (n + 1) 2 [V, .dat (.int a), .dat (.int tag)] μ = oE (rdC d1 tag) μ := fun tag => sp_read R n hV hl h0 hd1 hc1
  have r2 : usz k 0 = 2 → ∀ tag, semF R (n + 1) 2 [V, .dat (.int (a + 1)), .dat (.int tag)] μ = oE (rdC d2 tag) μ := fun q tag => sp_read R n hV hl (by (first | lia | omega)) (hd2 q) hc2
  have us := sp_units R n k μ
  have ra := r1 k
  rw [semF_at R rfl rfl rfl]
  have st : ∀ {r : RS}, evBk (semF R (n + 1)) (semG R (n + 1)) (.cons (.ife (.cmp .Eq (.loc 1) (.glc (Str.ofString "COMPLEX") 3)) (.cons (.ret (.tup (.cons (.call 2 (.cons (.loc 0) (.cons (.loc 2) (.cons (.glc (Str.ofString "REAL") 1) .nil)))) (.cons (.call 2 (.cons (.loc 0) (.cons (.bin .Add (.loc 2) (.const (.int 1))) (.cons (.glc (Str.ofString "REAL") 1) .nil)))) .nil)))) .nil) .nil) (.cons (.asg 3 (.call 2 (.cons (.loc 0) (.cons (.loc 2) (.cons (.loc 1) .nil))))) (.cons (.ife (.cmp .Eq (.loc 1) (.glc (Str.ofString "DOUBLE") 2)) (.cons (.expr (.call 2 (.cons (.loc 0) (.cons (.bin .Add (.loc 2) (.const (.int 1))) (.cons (.glc (Str.ofString "SECOND") 6) .nil))))) .nil) .nil) (.cons (.ret (.loc 3)) .nil)))) [some V, some (.dat (.int k)), some (.dat (.int a)), none] μ = r →
      evBk (semF R (n + 1)) (semG R (n + 1)) ir_load_number [some V, some (.dat (.int k)), some (.dat (.int a)), none] μ = r := by
    intro r h
    unfold ir_load_number
    (refine k_next (by repeat' first|with_reducible (first|exact rfl|assumption|apply_assumption (transparency := .reducible) -exfalso only [e_const, e_glc, e_loc, e_sub, e_bin, w_cmp, w_call, e_tup, e_bop, l_nil, l_cons, deref_d, ds2, bi_add, c_eqi, c_nei, b_one, w_bop, sel_t, bsel_ot, bsel_of, s_asg, s_pass, s_expr, s_ret, k_ret]|exact isb_r true|exact isb_r false|exact isb_t rfl|(apply isb_h; assumption)|(apply isb_t; assumption)|(apply isb_nt; assumption)|(apply call_of; assumption)|(apply decide_eq_false; assumption)|(apply decide_eq_true; assumption)|(apply not_dec_f; assumption)|exact not_dec_f rfl)|(apply call_of; assumption)|exact isb_h (b := true) rfl|exact isb_h (b := false) rfl|exact rfl|assumption) ?_; (try dsimp only [setPs, List.zip_cons_cons, List.zip_nil_left, List.zip_nil_right, List.set_cons_succ, List.set_cons_zero]))
    exact h
  by_cases h3 : k = 3
  · have hu : usz k 0 = 2 := by rw [h3]; rfl
    have ra := r1 1
    have rb := r2 hu 1
    have el : ldN k d1 d2 = (rdC d1 1).bind fun u => (rdC d2 1).map fun v => .tuple [u, v] := if_pos h3
    rw [el]
    cases e1 : rdC d1 1 with
    | none =>
      rw [e1] at ra
      refine f_err rfl (st ?_)
      refine k_err (s_ife (p := true) (μ1 := μ) ?_ (k_err (s_ret_err (e_tup_err (l_err1 (e_call (l_cons (e_loc rfl) (l_cons (e_loc rfl) (l_cons e_glc l_nil))) ra))))))
      (repeat' first|with_reducible (first|exact rfl|assumption|apply_assumption (transparency := .reducible) -exfalso only [e_const, e_glc, e_loc, e_sub, e_bin, w_cmp, w_call, e_tup, e_bop, l_nil, l_cons, deref_d, ds2, bi_add, c_eqi, c_nei, b_one, w_bop, sel_t, bsel_ot, bsel_of, s_asg, s_pass, s_expr, s_ret, k_ret]|exact isb_r true|exact isb_r false|exact isb_t rfl|(apply isb_h; assumption)|(apply isb_t; assumption)|(apply isb_nt; assumption)|(apply call_of; assumption)|(apply decide_eq_false; assumption)|(apply decide_eq_true; assumption)|(apply not_dec_f; assumption)|exact not_dec_f rfl)|(apply call_of; assumption)|exact isb_h (b := true) rfl|exact isb_h (b := false) rfl|exact rfl|assumption)
    | some u =>
      rw [e1] at ra
      cases e2 : rdC d2 1 with
      | none =>
        rw [e2] at rb
        refine f_err rfl (st ?_)
        refine k_err (s_ife (p := true) (μ1 := μ) ?_ (k_err (s_ret_err (e_tup_err (l_err2 (e_call (l_cons (e_loc rfl) (l_cons (e_loc rfl) (l_cons e_glc l_nil))) ra) (l_err1 (e_call (l_cons (e_loc rfl) (l_cons (e_bin (e_loc rfl) e_const rfl rfl rfl) (l_cons e_glc l_nil))) rb)))))))
        (repeat' first|with_reducible (first|exact rfl|assumption|apply_assumption (transparency := .reducible) -exfalso only [e_const, e_glc, e_loc, e_sub, e_bin, w_cmp, w_call, e_tup, e_bop, l_nil, l_cons, deref_d, ds2, bi_add, c_eqi, c_nei, b_one, w_bop, sel_t, bsel_ot, bsel_of, s_asg, s_pass, s_expr, s_ret, k_ret]|exact isb_r true|exact isb_r false|exact isb_t rfl|(apply isb_h; assumption)|(apply isb_t; assumption)|(apply isb_nt; assumption)|(apply call_of; assumption)|(apply decide_eq_false; assumption)|(apply decide_eq_true; assumption)|(apply not_dec_f; assumption)|exact not_dec_f rfl)|(apply call_of; assumption)|exact isb_h (b := true) rfl|exact isb_h (b := false) rfl|exact rfl|assumption)
      | some v =>
        rw [e2] at rb
        have ra : semF R (n + 1) 2 [V, .dat (.int a), .dat (.int 1)] μ = some (.ok (.dat u), μ) := ra
        have rb : semF R (n + 1) 2 [V, .dat (.int (a + 1)), .dat (.int 1)] μ = some (.ok (.dat v), μ) := rb
        refine f_ret rfl (st ?_)
        (refine k_ret (by apply w_ife; repeat' first|with_reducible (first|exact rfl|assumption|apply_assumption (transparency := .reducible) -exfalso only [e_const, e_glc, e_loc, e_sub, e_bin, w_cmp, w_call, e_tup, e_bop, l_nil, l_cons, deref_d, ds2, bi_add, c_eqi, c_nei, b_one, w_bop, sel_t, bsel_ot, bsel_of, s_asg, s_pass, s_expr, s_ret, k_ret]|exact isb_r true|exact isb_r false|exact isb_t rfl|(apply isb_h; assumption)|(apply isb_t; assumption)|(apply isb_nt; assumption)|(apply call_of; assumption)|(apply decide_eq_false; assumption)|(apply decide_eq_true; assumption)|(apply not_dec_f; assumption)|exact not_dec_f rfl)|(apply call_of; assumption)|exact isb_h (b := true) rfl|exact isb_h (b := false) rfl|exact rfl|assumption))
  · have el : ldN k d1 d2 = (rdC d1 k).bind fun v => if k = 2 then (rdC d2 6).map fun _ => v else some v := if_neg h3
    rw [el]
    cases e1 : rdC d1 k with
    | none =>
      rw [e1] at ra
      refine f_err rfl (st ?_)
      (refine k_next (by repeat' first|with_reducible (first|exact rfl|assumption|apply_assumption (transparency := .reducible) -exfalso only [e_const, e_glc, e_loc, e_sub, e_bin, w_cmp, w_call, e_tup, e_bop, l_nil, l_cons, deref_d, ds2, bi_add, c_eqi, c_nei, b_one, w_bop, sel_t, bsel_ot, bsel_of, s_asg, s_pass, s_expr, s_ret, k_ret]|exact isb_r true|exact isb_r false|exact isb_t rfl|(apply isb_h; assumption)|(apply isb_t; assumption)|(apply isb_nt; assumption)|(apply call_of; assumption)|(apply decide_eq_false; assumption)|(apply decide_eq_true; assumption)|(apply not_dec_f; assumption)|exact not_dec_f rfl)|(apply call_of; assumption)|exact isb_h (b := true) rfl|exact isb_h (b := false) rfl|exact rfl|assumption) ?_; (try dsimp only [setPs, List.zip_cons_cons, List.zip_nil_left, List.zip_nil_right, List.set_cons_succ, List.set_cons_zero]))
      exact k_err (s_asg_err (e_call (l_cons (e_loc rfl) (l_cons (e_loc rfl) (l_cons (e_loc rfl) l_nil))) ra))
    | some u =>
      rw [e1] at ra
      have ra : semF R (n + 1) 2 [V, .dat (.int a), .dat (.int k)] μ = some (.ok (.dat u), μ) := ra
      rw [Option.bind_some]
      by_cases h2 : k = 2
      · have hu : usz k 0 = 2 := by rw [h2]; rfl
        have rb := r2 hu 6
        rw [if_pos h2]
        cases e2 : rdC d2 6 with
        | none =>
          rw [e2] at rb
          refine f_err rfl (st ?_)
          iterate 2 (refine k_next (by repeat' first|with_reducible (first|exact rfl|assumption|apply_assumption (transparency := .reducible) -exfalso only [e_const, e_glc, e_loc, e_sub, e_bin, w_cmp, w_call, e_tup, e_bop, l_nil, l_cons, deref_d, ds2, bi_add, c_eqi, c_nei, b_one, w_bop, sel_t, bsel_ot, bsel_of, s_asg, s_pass, s_expr, s_ret, k_ret]|exact isb_r true|exact isb_r false|exact isb_t rfl|(apply isb_h; assumption)|(apply isb_t; assumption)|(apply isb_nt; assumption)|(apply call_of; assumption)|(apply decide_eq_false; assumption)|(apply decide_eq_true; assumption)|(apply not_dec_f; assumption)|exact not_dec_f rfl)|(apply call_of; assumption)|exact isb_h (b := true) rfl|exact isb_h (b := false) rfl|exact rfl|assumption) ?_; (try dsimp only [setPs, List.zip_cons_cons, List.zip_nil_left, List.zip_nil_right, List.set_cons_succ, List.set_cons_zero]))
          refine k_err (s_ife (p := true) (μ1 := μ) ?_ (k_err (s_expr_err (e_call (l_cons (e_loc rfl) (l_cons (e_bin (e_loc rfl) e_const rfl rfl rfl) (l_cons e_glc l_nil))) rb))))
          (repeat' first|with_reducible (first|exact rfl|assumption|apply_assumption (transparency := .reducible) -exfalso only [e_const, e_glc, e_loc, e_sub, e_bin, w_cmp, w_call, e_tup, e_bop, l_nil, l_cons, deref_d, ds2, bi_add, c_eqi, c_nei, b_one, w_bop, sel_t, bsel_ot, bsel_of, s_asg, s_pass, s_expr, s_ret, k_ret]|exact isb_r true|exact isb_r false|exact isb_t rfl|(apply isb_h; assumption)|(apply isb_t; assumption)|(apply isb_nt; assumption)|(apply call_of; assumption)|(apply decide_eq_false; assumption)|(apply decide_eq_true; assumption)|(apply not_dec_f; assumption)|exact not_dec_f rfl)|(apply call_of; assumption)|exact isb_h (b := true) rfl|exact isb_h (b := false) rfl|exact rfl|assumption)
        | some v =>
          rw [e2] at rb
          have rb : semF R (n + 1) 2 [V, .dat (.int (a + 1)), .dat (.int 6)] μ = some (.ok (.dat v), μ) := rb
          refine f_ret rfl (st ?_)
          iterate 2 (refine k_next (by repeat' first|with_reducible (first|exact rfl|assumption|apply_assumption (transparency := .reducible) -exfalso only [e_const, e_glc, e_loc, e_sub, e_bin, w_cmp, w_call, e_tup, e_bop, l_nil, l_cons, deref_d, ds2, bi_add, c_eqi, c_nei, b_one, w_bop, sel_t, bsel_ot, bsel_of, s_asg, s_pass, s_expr, s_ret, k_ret]|exact isb_r true|exact isb_r false|exact isb_t rfl|(apply isb_h; assumption)|(apply isb_t; assumption)|(apply isb_nt; assumption)|(apply call_of; assumption)|(apply decide_eq_false; assumption)|(apply decide_eq_true; assumption)|(apply not_dec_f; assumption)|exact not_dec_f rfl)|(apply call_of; assumption)|exact isb_h (b := true) rfl|exact isb_h (b := false) rfl|exact rfl|assumption) ?_; (try dsimp only [setPs, List.zip_cons_cons, List.zip_nil_left, List.zip_nil_right, List.set_cons_succ, List.set_cons_zero]))
          refine' k_next (w_ife ?a1 ?a2 (sel_t ?a3)) ?zr
          (case a1 => (repeat' first|with_reducible (first|exact rfl|assumption|apply_assumption (transparency := .reducible) -exfalso only [e_const, e_glc, e_loc, e_sub, e_bin, w_cmp, w_call, e_tup, e_bop, l_nil, l_cons, deref_d, ds2, bi_add, c_eqi, c_nei, b_one, w_bop, sel_t, bsel_ot, bsel_of, s_asg, s_pass, s_expr, s_ret, k_ret]|exact isb_r true|exact isb_r false|exact isb_t rfl|(apply isb_h; assumption)|(apply isb_t; assumption)|(apply isb_nt; assumption)|(apply call_of; assumption)|(apply decide_eq_false; assumption)|(apply decide_eq_true; assumption)|(apply not_dec_f; assumption)|exact not_dec_f rfl)|(apply call_of; assumption)|exact isb_h (b := true) rfl|exact isb_h (b := false) rfl|exact rfl|assumption))
          (case a2 => (repeat' first|with_reducible (first|exact rfl|assumption|apply_assumption (transparency := .reducible) -exfalso only [e_const, e_glc, e_loc, e_sub, e_bin, w_cmp, w_call, e_tup, e_bop, l_nil, l_cons, deref_d, ds2, bi_add, c_eqi, c_nei, b_one, w_bop, sel_t, bsel_ot, bsel_of, s_asg, s_pass, s_expr, s_ret, k_ret]|exact isb_r true|exact isb_r false|exact isb_t rfl|(apply isb_h; assumption)|(apply isb_t; assumption)|(apply isb_nt; assumption)|(apply call_of; assumption)|(apply decide_eq_false; assumption)|(apply decide_eq_true; assumption)|(apply not_dec_f; assumption)|exact not_dec_f rfl)|(apply call_of; assumption)|exact isb_h (b := true) rfl|exact isb_h (b := false) rfl|exact rfl|assumption))
          (case a3 => (refine k_next (by repeat' first|with_reducible (first|exact rfl|assumption|apply_assumption (transparency := .reducible) -exfalso only [e_const, e_glc, e_loc, e_sub, e_bin, w_cmp, w_call, e_tup, e_bop, l_nil, l_cons, deref_d, ds2, bi_add, c_eqi, c_nei, b_one, w_bop, sel_t, bsel_ot, bsel_of, s_asg, s_pass, s_expr, s_ret, k_ret]|exact isb_r true|exact isb_r false|exact isb_t rfl|(apply isb_h; assumption)|(apply isb_t; assumption)|(apply isb_nt; assumption)|(apply call_of; assumption)|(apply decide_eq_false; assumption)|(apply decide_eq_true; assumption)|(apply not_dec_f; assumption)|exact not_dec_f rfl)|(apply call_of; assumption)|exact isb_h (b := true) rfl|exact isb_h (b := false) rfl|exact rfl|assumption) ?_; (try dsimp only [setPs, List.zip_cons_cons, List.zip_nil_left, List.zip_nil_right, List.set_cons_succ, List.set_cons_zero])); rfl)
          (refine k_ret (by repeat' first|with_reducible (first|exact rfl|assumption|apply_assumption (transparency := .reducible) -exfalso only [e_const, e_glc, e_loc, e_sub, e_bin, w_cmp, w_call, e_tup, e_bop, l_nil, l_cons, deref_d, ds2, bi_add, c_eqi, c_nei, b_one, w_bop, sel_t, bsel_ot, bsel_of, s_asg, s_pass, s_expr, s_ret, k_ret]|exact isb_r true|exact isb_r false|exact isb_t rfl|(apply isb_h; assumption)|(apply isb_t; assumption)|(apply isb_nt; assumption)|(apply call_of; assumption)|(apply decide_eq_false; assumption)|(apply decide_eq_true; assumption)|(apply not_dec_f; assumption)|exact not_dec_f rfl)|(apply call_of; assumption)|exact isb_h (b := true) rfl|exact isb_h (b := false) rfl|exact rfl|assumption))
      · rw [if_neg h2]
        refine f_ret rfl (st ?_)
        iterate 3 (refine k_next (by repeat' first|with_reducible (first|exact rfl|assumption|apply_assumption (transparency := .reducible) -exfalso only [e_const, e_glc, e_loc, e_sub, e_bin, w_cmp, w_call, e_tup, e_bop, l_nil, l_cons, deref_d, ds2, bi_add, c_eqi, c_nei, b_one, w_bop, sel_t, bsel_ot, bsel_of, s_asg, s_pass, s_expr, s_ret, k_ret]|exact isb_r true|exact isb_r false|exact isb_t rfl|(apply isb_h; assumption)|(apply isb_t; assumption)|(apply isb_nt; assumption)|(apply call_of; assumption)|(apply decide_eq_false; assumption)|(apply decide_eq_true; assumption)|(apply not_dec_f; assumption)|exact not_dec_f rfl)|(apply call_of; assumption)|exact isb_h (b := true) rfl|exact isb_h (b := false) rfl|exact rfl|assumption) ?_; (try dsimp only [setPs, List.zip_cons_cons, List.zip_nil_left, List.zip_nil_right, List.set_cons_succ, List.set_cons_zero]))
        (refine k_ret (by repeat' first|with_reducible (first|exact rfl|assumption|apply_assumption (transparency := .reducible) -exfalso only [e_const, e_glc, e_loc, e_sub, e_bin, w_cmp, w_call, e_tup, e_bop, l_nil, l_cons, deref_d, ds2, bi_add, c_eqi, c_nei, b_one, w_bop, sel_t, bsel_ot, bsel_of, s_asg, s_pass, s_expr, s_ret, k_ret]|exact isb_r true|exact isb_r false|exact isb_t rfl|(apply isb_h; assumption)|(apply isb_t; assumption)|(apply isb_nt; assumption)|(apply call_of; assumption)|(apply decide_eq_false; assumption)|(apply decide_eq_true; assumption)|(apply not_dec_f; assumption)|exact not_dec_f rfl)|(apply call_of; assumption)|exact isb_h (b := true) rfl|exact isb_h (b := false) rfl|exact rfl|assumption))
end
end Mine
end
section
open PySem PySem.W PyProof.Rows PySem.Calls
set_option Elab.async false
set_option maxRecDepth 100000
set_option linter.unusedVariables false
set_option linter.unusedSimpArgs false
namespace Mine

section
variable (R : Obj → List (Str × Value) → Prop)
theorem deref_lst {μ : Mu} {j : Nat} {ds : List Dat} (h : μ[j]? = some (.lst ds)) : deref μ (.mref j) = some (.list ds) := by simp [deref, h]
noncomputable def stN (k : Int) (v : Dat) : Option (Dat × Option Dat) :=
  if k = 3 then (match v with
    | .tuple [u, w] => some (cellD 1 u, some (cellD 1 w))
    | _ => none)
  else if k = 2 then some (cellD 2 v, some (cellD 6 v)) else some (cellD k v, none)
noncomputable def putN' (ds : List Dat) (a : Int) (p : Dat × Option Dat) : List Dat := match p.2 with
  | none => ds.set a.toNat p.1
  | some d => (ds.set a.toNat p.1).set (a + 1).toNat d
theorem set_get {μ : Mu} {j : Nat} {mo mo' : MO} (h : μ[j]? = some mo) : (μ.set j mo')[j]? = some mo' := List.getElem?_set_self (List.getElem?_eq_some_iff.mp h).1
theorem sp_store_number (n : Nat) {j : Nat} {ds : List Dat} {a k : Int} {v : Dat} {p : Dat × Option Dat} {μ : Mu} (hj : μ[j]? = some (.lst ds)) (hl : ds.length ≤ 1000) (hk : k ≠ 5) (h0 : 0 ≤ a) (hb : a + usz k 0 ≤ ds.length) (hp : stN k v = some p) :
    semF R (n + 2) 4 [.mref j, .dat (.int k), .dat (.int a), .dat v] μ = some (.ok (.dat .none), μ.set j (.lst (putN' ds a p))) := by
  have nd : semF R (n + 1) 1 [.mref j, .dat (.int a), .dat (.int (usz k 0))] μ = some (.ok (.dat .none), μ) := by
    rw [sp_need R n (deref_lst hj) hl, if_neg (by (first | lia | omega))]
  have hroom : room ds.length = true := by unfold room; exact decide_eq_true (by (first | lia | omega))
  have us := sp_units R n k μ
  have hc1 : 0 ≤ a ∧ a < ds.length ∧ room ds.length = true := ⟨h0, by unfold usz at hb; split at hb <;> (try split at hb) <;> (try split at hb) <;> (first | lia | omega), hroom⟩
  rw [semF_at R rfl rfl rfl]
  have st : ∀ {B : PB} {r : RS}, evBk (semF R (n + 1)) (semG R (n + 1)) B [some (.mref j), some (.dat (.int k)), some (.dat (.int a)), some (.dat v)] μ = r → evBk (semF R (n + 1)) (semG R (n + 1)) (.cons (.expr (.call 1 (.cons (.loc 0) (.cons (.loc 2) (.cons (.call 0 (.cons (.loc 1) .nil)) .nil))))) B) [some (.mref j), some (.dat (.int k)), some (.dat (.int a)), some (.dat v)] μ = r := by
    intro B r h
    (refine k_next (by repeat' first|with_reducible (first|exact rfl|assumption|apply_assumption (transparency := .reducible) -exfalso only [e_const, e_glc, e_loc, e_sub, e_bin, w_cmp, w_call, e_tup, w_ite, e_slc2, e_attr, l_nil, l_cons, deref_d, bi_add, bi_sub, c_eqi, w_in, sel_t, sel_f, i_rng2, s_asg, s_pass, s_set, s_expr, s_ret, s_for, k_ret]|exact isb_r true|exact isb_r false|exact isb_t rfl|(apply isb_h; assumption)|(apply isb_t; assumption)|(apply call_of; assumption)|(apply decide_eq_false; assumption)|(apply decide_eq_true; assumption))|(apply call_of; assumption)|exact isb_h (b := true) rfl|exact isb_h (b := false) rfl|exact rfl|assumption) ?_; (try dsimp only [setPs, List.zip_cons_cons, List.zip_nil_left, List.zip_nil_right, List.set_cons_succ, List.set_cons_zero]))
    exact h
  by_cases h3 : k = 3
  · have hu : usz k 0 = 2 := by rw [h3]; rfl
    rw [hu] at hb
    unfold stN at hp
    rw [if_pos h3] at hp
    split at hp
    · rename_i u w
      cases hp
      obtain ⟨i0, i1⟩ := idx2 u w
      have hs : ∀ ds', (μ.set j (.lst ds'))[j]? = some (.lst ds') := fun _ => set_get hj
      have hs1 := hs (ds.set a.toNat (cellD 1 u))
      have hc2 : 0 ≤ a + 1 ∧ a + 1 < ((ds.set a.toNat (cellD 1 u)).length : Int) ∧ room (ds.set a.toNat (cellD 1 u)).length = true := by rw [List.length_set]; exact ⟨by (first | lia | omega), by (first | lia | omega), hroom⟩
      have e : μ.set j (.lst (putN' ds a (cellD 1 u, some (cellD 1 w)))) = (μ.set j (.lst (ds.set a.toNat (cellD 1 u)))).set j (.lst ((ds.set a.toNat (cellD 1 u)).set (a + 1).toNat (cellD 1 w))) := by rw [List.set_set]; rfl
      rw [e]
      refine f_ret rfl (st ?_)
      show evBk (semF R (n + 1)) (semG R (n + 1)) _ [some (.mref j), some (.dat (.int k)), some (.dat (.int a)), some (.dat (.tuple [u, w]))] μ = _
      refine' k_ret (w_ife ?a1 ?a2 (sel_t ?a3))
      (case a1 => (repeat' first|with_reducible (first|exact rfl|assumption|apply_assumption (transparency := .reducible) -exfalso only [e_const, e_glc, e_loc, e_sub, e_bin, w_cmp, w_call, e_tup, w_ite, e_slc2, e_attr, l_nil, l_cons, deref_d, bi_add, bi_sub, c_eqi, w_in, sel_t, sel_f, i_rng2, s_asg, s_pass, s_set, s_expr, s_ret, s_for, k_ret]|exact isb_r true|exact isb_r false|exact isb_t rfl|(apply isb_h; assumption)|(apply isb_t; assumption)|(apply call_of; assumption)|(apply decide_eq_false; assumption)|(apply decide_eq_true; assumption))|(apply call_of; assumption)|exact isb_h (b := true) rfl|exact isb_h (b := false) rfl|exact rfl|assumption))
      (case a2 => (repeat' first|with_reducible (first|exact rfl|assumption|apply_assumption (transparency := .reducible) -exfalso only [e_const, e_glc, e_loc, e_sub, e_bin, w_cmp, w_call, e_tup, w_ite, e_slc2, e_attr, l_nil, l_cons, deref_d, bi_add, bi_sub, c_eqi, w_in, sel_t, sel_f, i_rng2, s_asg, s_pass, s_set, s_expr, s_ret, s_for, k_ret]|exact isb_r true|exact isb_r false|exact isb_t rfl|(apply isb_h; assumption)|(apply isb_t; assumption)|(apply call_of; assumption)|(apply decide_eq_false; assumption)|(apply decide_eq_true; assumption))|(apply call_of; assumption)|exact isb_h (b := true) rfl|exact isb_h (b := false) rfl|exact rfl|assumption))
      (case a3 =>
        refine' k_next (s_set (d := cellD 1 u) rfl ?b1 (e_loc rfl) hj hc1) ?b2
        (case b1 => exact e_tup (l_cons e_glc (l_cons (e_sub (e_loc rfl) e_const rfl i0) l_nil)) rfl rfl)
        (case b2 =>
          refine' k_next (s_set (d := cellD 1 w) rfl ?c1 (e_bin (e_loc rfl) e_const rfl rfl rfl) hs1 hc2) rfl
          (case c1 => exact e_tup (l_cons e_glc (l_cons (e_sub (e_loc rfl) e_const rfl i1) l_nil)) rfl rfl)))
    · cases hp
  · by_cases h2 : k = 2
    · have hu : usz k 0 = 2 := by rw [h2]; rfl
      rw [hu] at hb
      unfold stN at hp
      rw [if_neg h3, if_pos h2] at hp
      cases hp
      have hs : ∀ ds', (μ.set j (.lst ds'))[j]? = some (.lst ds') := fun _ => set_get hj
      have hs1 := hs (ds.set a.toNat (cellD 2 v))
      have hc2 : 0 ≤ a + 1 ∧ a + 1 < ((ds.set a.toNat (cellD 2 v)).length : Int) ∧ room (ds.set a.toNat (cellD 2 v)).length = true := by rw [List.length_set]; exact ⟨by (first | lia | omega), by (first | lia | omega), hroom⟩
      have e : μ.set j (.lst (putN' ds a (cellD 2 v, some (cellD 6 v)))) = (μ.set j (.lst (ds.set a.toNat (cellD 2 v)))).set j (.lst ((ds.set a.toNat (cellD 2 v)).set (a + 1).toNat (cellD 6 v))) := by rw [List.set_set]; rfl
      rw [e]
      refine f_next (σ' := [some (.mref j), some (.dat (.int k)), some (.dat (.int a)), some (.dat v)]) rfl (st ?_)
      (refine k_next (by repeat' first|with_reducible (first|exact rfl|assumption|apply_assumption (transparency := .reducible) -exfalso only [e_const, e_glc, e_loc, e_sub, e_bin, w_cmp, w_call, e_tup, w_ite, e_slc2, e_attr, l_nil, l_cons, deref_d, bi_add, bi_sub, c_eqi, w_in, sel_t, sel_f, i_rng2, s_asg, s_pass, s_set, s_expr, s_ret, s_for, k_ret]|exact isb_r true|exact isb_r false|exact isb_t rfl|(apply isb_h; assumption)|(apply isb_t; assumption)|(apply call_of; assumption)|(apply decide_eq_false; assumption)|(apply decide_eq_true; assumption))|(apply call_of; assumption)|exact isb_h (b := true) rfl|exact isb_h (b := false) rfl|exact rfl|assumption) ?_; (try dsimp only [setPs, List.zip_cons_cons, List.zip_nil_left, List.zip_nil_right, List.set_cons_succ, List.set_cons_zero]))
      refine' k_next (s_set (d := cellD 2 v) rfl ?b1 (e_loc rfl) hj hc1) ?b2
      (case b1 => rw [← h2]; exact e_tup (l_cons (e_loc rfl) (l_cons (e_loc rfl) l_nil)) rfl rfl)
      (case b2 =>
        refine' k_next (w_ife ?a1 ?a2 (sel_t ?a3)) rfl
        (case a1 => (repeat' first|with_reducible (first|exact rfl|assumption|apply_assumption (transparency := .reducible) -exfalso only [e_const, e_glc, e_loc, e_sub, e_bin, w_cmp, w_call, e_tup, w_ite, e_slc2, e_attr, l_nil, l_cons, deref_d, bi_add, bi_sub, c_eqi, w_in, sel_t, sel_f, i_rng2, s_asg, s_pass, s_set, s_expr, s_ret, s_for, k_ret]|exact isb_r true|exact isb_r false|exact isb_t rfl|(apply isb_h; assumption)|(apply isb_t; assumption)|(apply call_of; assumption)|(apply decide_eq_false; assumption)|(apply decide_eq_true; assumption))|(apply call_of; assumption)|exact isb_h (b := true) rfl|exact isb_h (b := false) rfl|exact rfl|assumption))
        (case a2 => (repeat' first|with_reducible (first|exact rfl|assumption|apply_assumption (transparency := .reducible) -exfalso only [e_const, e_glc, e_loc, e_sub, e_bin, w_cmp, w_call, e_tup, w_ite, e_slc2, e_attr, l_nil, l_cons, deref_d, bi_add, bi_sub, c_eqi, w_in, sel_t, sel_f, i_rng2, s_asg, s_pass, s_set, s_expr, s_ret, s_for, k_ret]|exact isb_r true|exact isb_r false|exact isb_t rfl|(apply isb_h; assumption)|(apply isb_t; assumption)|(apply call_of; assumption)|(apply decide_eq_false; assumption)|(apply decide_eq_true; assumption))|(apply call_of; assumption)|exact isb_h (b := true) rfl|exact isb_h (b := false) rfl|exact rfl|assumption))
        (case a3 =>
          refine' k_next (s_set (d := cellD 6 v) rfl ?c1 (e_bin (e_loc rfl) e_const rfl rfl rfl) hs1 hc2) rfl
          (case c1 => exact e_tup (l_cons e_glc (l_cons (e_loc rfl) l_nil)) rfl rfl)))
    · unfold stN at hp
      rw [if_neg h3, if_neg h2] at hp
      cases hp
      refine f_next (σ' := [some (.mref j), some (.dat (.int k)), some (.dat (.int a)), some (.dat v)]) rfl (st ?_)
      (refine k_next (by repeat' first|with_reducible (first|exact rfl|assumption|apply_assumption (transparency := .reducible) -exfalso only [e_const, e_glc, e_loc, e_sub, e_bin, w_cmp, w_call, e_tup, w_ite, e_slc2, e_attr, l_nil, l_cons, deref_d, bi_add, bi_sub, c_eqi, w_in, sel_t, sel_f, i_rng2, s_asg, s_pass, s_set, s_expr, s_ret, s_for, k_ret]|exact isb_r true|exact isb_r false|exact isb_t rfl|(apply isb_h; assumption)|(apply isb_t; assumption)|(apply call_of; assumption)|(apply decide_eq_false; assumption)|(apply decide_eq_true; assumption))|(apply call_of; assumption)|exact isb_h (b := true) rfl|exact isb_h (b := false) rfl|exact rfl|assumption) ?_; (try dsimp only [setPs, List.zip_cons_cons, List.zip_nil_left, List.zip_nil_right, List.set_cons_succ, List.set_cons_zero]))
      refine' k_next (s_set (d := cellD k v) rfl ?b1 (e_loc rfl) hj hc1) ?b2
      (case b1 => exact e_tup (l_cons (e_loc rfl) (l_cons (e_loc rfl) l_nil)) rfl rfl)
      (case b2 => (refine k_next (by repeat' first|with_reducible (first|exact rfl|assumption|apply_assumption (transparency := .reducible) -exfalso only [e_const, e_glc, e_loc, e_sub, e_bin, w_cmp, w_call, e_tup, w_ite, e_slc2, e_attr, l_nil, l_cons, deref_d, bi_add, bi_sub, c_eqi, w_in, sel_t, sel_f, i_rng2, s_asg, s_pass, s_set, s_expr, s_ret, s_for, k_ret]|exact isb_r true|exact isb_r false|exact isb_t rfl|(apply isb_h; assumption)|(apply isb_t; assumption)|(apply call_of; assumption)|(apply decide_eq_false; assumption)|(apply decide_eq_true; assumption))|(apply call_of; assumption)|exact isb_h (b := true) rfl|exact isb_h (b := false) rfl|exact rfl|assumption) ?_; (try dsimp only [setPs, List.zip_cons_cons, List.zip_nil_left, List.zip_nil_right, List.set_cons_succ, List.set_cons_zero])); rfl)
theorem f_none {bd : Slots → Mu → RS} {n np : Nat} {Vs : List Vl} {μ : Mu} (hl : Vs.length = np) (h : bd (slots0 n Vs) μ = none) : fnRes bd n np Vs μ = none := by
  unfold fnRes; rw [if_pos hl, h]
theorem sp_load_text (n : Nat) {V : Vl} {ds : List Dat} {a len : Int} {μ : Mu} (hV : deref μ V = some (.list ds)) (hl : ds.length ≤ 1000) (h0 : 0 ≤ a) (hn : 0 ≤ len) (hb : a + len ≤ ds.length) (hs : shpL ((ds.drop a.toNat).take len.toNat) = true) :
    semF R (n + 2) 5 [V, .dat (.int a), .dat (.int len)] μ = if ((ds.drop a.toNat).take len.toNat).any (fun y => eqD y .none) then some (.error (), μ) else
      match joinD (.str (Str.ofString "")) (.list ((ds.drop a.toNat).take len.toNat)) with
      | some z => some (.ok (.dat z), μ)
      | none => none := by
  have nd : semF R (n + 1) 1 [V, .dat (.int a), .dat (.int len)] μ = some (.ok (.dat .none), μ) := by
    rw [sp_need R n hV hl, if_neg (by (first | lia | omega))]
  have hroom : room ds.length = true := by unfold room; exact decide_eq_true (by (first | lia | omega))
  have hsl : slcD (.list ds) (some a) (some (a + len)) = some (.list ((ds.drop a.toNat).take len.toNat)) := by
    have e : (a + len).toNat - a.toNat = len.toNat := by (first | lia | omega)
    exact slc_l hroom ((if_pos ⟨h0, by omega, hb⟩).trans (by rw [e]))
  have hlay : lay .none = true := by decide
  have hin : cmpD .In .none (.list ((ds.drop a.toNat).take len.toNat)) = some (((ds.drop a.toNat).take len.toNat).any (fun y => eqD y .none)) := by rw [cd_inl, hs, hlay]; rfl
  generalize hX : (ds.drop a.toNat).take len.toNat = X at *
  rw [semF_at R rfl rfl rfl]
  by_cases hany : X.any (fun y => eqD y .none) = true
  · rw [if_pos hany]
    rw [hany] at hin
    refine f_err rfl ?_
    show evBk _ _ ir_load_text [some V, some (.dat (.int a)), some (.dat (.int len)), none] μ = _
    unfold ir_load_text
    iterate 2 (refine k_next (by repeat' first|with_reducible (first|exact rfl|assumption|apply_assumption (transparency := .reducible) -exfalso only [e_const, e_glc, e_loc, e_sub, e_bin, w_cmp, w_call, e_tup, w_ite, e_slc2, e_attr, l_nil, l_cons, deref_d, bi_add, bi_sub, c_eqi, w_in, sel_t, sel_f, i_rng2, s_asg, s_pass, s_set, s_expr, s_ret, s_for, k_ret]|exact isb_r true|exact isb_r false|exact isb_t rfl|(apply isb_h; assumption)|(apply isb_t; assumption)|(apply call_of; assumption)|(apply decide_eq_false; assumption)|(apply decide_eq_true; assumption))|(apply call_of; assumption)|exact isb_h (b := true) rfl|exact isb_h (b := false) rfl|exact rfl|assumption) ?_; (try dsimp only [setPs, List.zip_cons_cons, List.zip_nil_left, List.zip_nil_right, List.set_cons_succ, List.set_cons_zero]))
    (refine k_err (by apply w_ife; repeat' first|with_reducible (first|exact rfl|assumption|apply_assumption (transparency := .reducible) -exfalso only [e_const, e_glc, e_loc, e_sub, e_bin, w_cmp, w_call, e_tup, w_ite, e_slc2, e_attr, l_nil, l_cons, deref_d, bi_add, bi_sub, c_eqi, w_in, sel_t, sel_f, i_rng2, s_asg, s_pass, s_set, s_expr, s_ret, s_for, k_ret]|exact isb_r true|exact isb_r false|exact isb_t rfl|(apply isb_h; assumption)|(apply isb_t; assumption)|(apply call_of; assumption)|(apply decide_eq_false; assumption)|(apply decide_eq_true; assumption))|(apply call_of; assumption)|exact isb_h (b := true) rfl|exact isb_h (b := false) rfl|exact rfl|assumption))
  · rw [if_neg hany]
    have hany : X.any (fun y => eqD y .none) = false := by simpa using hany
    rw [hany] at hin
    have st : ∀ {r : RS}, evBk (semF R (n + 1)) (semG R (n + 1)) (.cons (.ret (.join (.const (.str (Str.ofString ""))) (.loc 3))) .nil) [some V, some (.dat (.int a)), some (.dat (.int len)), some (.dat (.list X))] μ = r → evBk (semF R (n + 1)) (semG R (n + 1)) ir_load_text [some V, some (.dat (.int a)), some (.dat (.int len)), none] μ = r := by
      intro r h
      unfold ir_load_text
      iterate 3 (refine k_next (by repeat' first|with_reducible (first|exact rfl|assumption|apply_assumption (transparency := .reducible) -exfalso only [e_const, e_glc, e_loc, e_sub, e_bin, w_cmp, w_call, e_tup, w_ite, e_slc2, e_attr, l_nil, l_cons, deref_d, bi_add, bi_sub, c_eqi, w_in, sel_t, sel_f, i_rng2, s_asg, s_pass, s_set, s_expr, s_ret, s_for, k_ret]|exact isb_r true|exact isb_r false|exact isb_t rfl|(apply isb_h; assumption)|(apply isb_t; assumption)|(apply call_of; assumption)|(apply decide_eq_false; assumption)|(apply decide_eq_true; assumption))|(apply call_of; assumption)|exact isb_h (b := true) rfl|exact isb_h (b := false) rfl|exact rfl|assumption) ?_; (try dsimp only [setPs, List.zip_cons_cons, List.zip_nil_left, List.zip_nil_right, List.set_cons_succ, List.set_cons_zero]))
      exact h
    cases hj : joinD (.str (Str.ofString "")) (.list X) with
    | none =>
      have ej := e_join (F := semF R (n + 1)) (G := semG R (n + 1)) (σ := [some V, some (.dat (.int a)), some (.dat (.int len)), some (.dat (.list X))]) (μ := μ) (e1 := .const (.str (Str.ofString ""))) (e2 := .loc 3) e_const (e_loc rfl) rfl hj
      have z := st (r := none) (by rw [evk_cons, evs_ret, ej]; rfl)
      exact f_none rfl z
    | some z =>
      refine f_ret rfl (st ?_)
      exact k_ret (s_ret (e_join e_const (e_loc rfl) rfl hj))
noncomputable def fillD : List Dat → Int → List Dat → List Dat
  | ds, _, [] => ds
  | ds, a, v :: vs => fillD (ds.set a.toNat v) (a + 1) vs
theorem fillD_len (vs : List Dat) : ∀ (ds : List Dat) (a : Int), (fillD ds a vs).length = ds.length := by
  induction vs with
  | nil => exact fun _ _ => rfl
  | cons v vs ih => exact fun ds a => (ih _ _).trans List.length_set
theorem set_same {μ : Mu} {j : Nat} {mo : MO} (h : μ[j]? = some mo) : μ.set j mo = μ := by
  apply List.ext_getElem?
  intro i
  by_cases q : j = i
  · subst q; rw [set_get h, h]
  · rw [List.getElem?_set_ne q]
theorem rangeD_cons (lo : Int) (m : Nat) : rangeD lo (m + 1) = .int lo :: rangeD (lo + 1) m := by
  unfold rangeD
  rw [List.range_succ_eq_map, List.map_cons, List.map_map, Int.natCast_zero, Int.add_zero]
  exact congrArg _ (List.map_congr_left fun i _ => congrArg Dat.int (by show lo + ((i + 1 : Nat) : Int) = _; omega))
theorem undef_loop (F G : Nat → List Vl → Mu → RR Vl) {X0 X1 X2 X3 : Option Vl} {j : Nat} (m : Nat) : ∀ (lo : Int) (ds : List Dat) (μ : Mu) (x5 : Option Vl), μ[j]? = some (.lst ds) → ds.length ≤ 1000 → 0 ≤ lo → lo + m ≤ ds.length →
    ∃ y5, evFor (fun σ μ => evBk F G lp_undefine_cells_0 σ μ) (.one 5) (rangeD lo m) [X0, X1, X2, X3, some (.mref j), x5] μ = some (.ok (.next [X0, X1, X2, X3, some (.mref j), y5]), μ.set j (.lst (fillD ds lo (List.replicate m .none)))) := by
  induction m with
  | zero => intro lo ds μ x5 hj hl h0 hb; exact ⟨x5, by rw [show μ.set j (.lst (fillD ds lo (List.replicate 0 .none))) = μ from set_same hj]; rfl⟩
  | succ m ih =>
    intro lo ds μ x5 hj hl h0 hb
    have hroom : room ds.length = true := decide_eq_true (Nat.le_trans hl (by decide))
    obtain ⟨y5, e⟩ := ih (lo + 1) (ds.set lo.toNat .none) (μ.set j (.lst (ds.set lo.toNat .none))) (some (.dat (.int lo))) (set_get hj) (by rw [List.length_set]; exact hl) (by omega) (by rw [List.length_set]; omega)
    refine ⟨y5, ?_⟩
    rw [rangeD_cons]
    exact (for_next rfl (k_next (s_set rfl e_const (e_loc rfl) hj ⟨h0, by omega, hroom⟩) rfl)).trans (e.trans (by rw [List.set_set]; rfl))
theorem sp_undefine_cells (n : Nat) {nn ch j : Nat} {b : Bool} {lo hi : Int} {ds : List Dat} {μ : Mu} (hjd : j = if b then ch else nn) (hj : μ[j]? = some (.lst ds)) (hl : ds.length ≤ 1000) (h0 : 0 ≤ lo) (hlh : lo ≤ hi) (hb : hi ≤ ds.length) :
    semF R (n + 2) 15 [.mem nn ch, .dat (.bool b), .dat (.int lo), .dat (.int hi)] μ = some (.ok (.dat .none), μ.set j (.lst (fillD ds lo (List.replicate (hi - lo).toNat .none)))) := by
  have nd : semF R (n + 1) 1 [.mref j, .dat (.int lo), .dat (.int (hi - lo))] μ = some (.ok (.dat .none), μ) := by
    rw [sp_need R n (deref_lst hj) hl, if_neg (by omega)]
  have o1 : ord lo = true := Bool.and_eq_true_iff.mpr ⟨decide_eq_true (by omega), decide_eq_true (by omega)⟩
  have o2 : ord hi = true := Bool.and_eq_true_iff.mpr ⟨decide_eq_true (by omega), decide_eq_true (by omega)⟩
  obtain ⟨y5, lp⟩ := undef_loop (semF R (n + 1)) (semG R (n + 1)) (X0 := some (.mem nn ch)) (X1 := some (.dat (.bool b))) (X2 := some (.dat (.int lo))) (X3 := some (.dat (.int hi))) (hi - lo).toNat lo ds μ none hj hl h0 (by omega)
  rw [semF_at R rfl rfl rfl]
  have ej : evE (semF R (n + 1)) (semG R (n + 1)) (.ite (.loc 1) (.attr 0 false) (.attr 0 true)) [some (.mem nn ch), some (.dat (.bool b)), some (.dat (.int lo)), some (.dat (.int hi)), none, none] μ = some (.ok (.mref j), μ) := by
    rw [hjd]
    cases b with
    | true => exact w_ite (e_loc rfl) (isb_r true) (sel_t (e_attr rfl))
    | false => exact w_ite (e_loc rfl) (isb_r false) (sel_f (e_attr rfl))
  exact f_next rfl (k_next (s_asg ej rfl) (k_next (s_expr (e_call (l_cons (e_loc rfl) (l_cons (e_loc rfl) (l_cons (e_bin (e_loc rfl) (e_loc rfl) (deref_d _ _) (deref_d _ _) (bi_sub _ _)) l_nil))) nd)) (k_next (s_for (i_rng2 (e_loc rfl) (e_loc rfl) o1 o2) lp) rfl)))
end
end Mine
end
section
open PySem PySem.W PyProof.Rows PySem.Calls
set_option Elab.async false
set_option maxRecDepth 100000
set_option maxHeartbeats 4000000
set_option linter.unusedVariables false
set_option linter.unusedSimpArgs false
namespace Mine

section
variable (R : Obj → List (Str × Value) → Prop)
noncomputable def charsD (x : Str) : List Dat := x.cps.toList.map fun c => .str ⟨#[c]⟩
theorem charsD_len (x : Str) : (charsD x).length = x.length := by simp [charsD]; rfl
theorem idx_str {x : Str} {i : Nat} (h : i < x.length) (hl : x.length ≤ 1000) : ∃ d, (charsD x)[i]? = some d ∧ idxD (.str x) (i : Int) = some d := by
  have hi : i < x.cps.size := h
  refine ⟨.str ⟨#[x.cps[i]]⟩, by simp [charsD, hi], ?_⟩
  have hs : seqIndex? (i : Int) x.length = some i := by
    have := seqIndex_of (k := (i : Int)) (n := x.length) (by (first | lia | omega)) (by (first | lia | omega))
    simpa using this
  exact (if_pos (Bool.and_eq_true_iff.mpr ⟨decide_eq_true (by omega), decide_eq_true (by omega)⟩)).trans (by rw [hs]; simp [Array.getElem?_eq_getElem hi])
theorem st_loop (F G : Nat → List Vl → Mu → RR Vl) {j : Nat} {a : Int} {x : Str} (hx : x.length ≤ 1000) (h0 : 0 ≤ a) (m : Nat) : ∀ (i : Nat) (ds : List Dat) (μ : Mu) (x3 : Option Vl), i + m = x.length → μ[j]? = some (.lst ds) → ds.length ≤ 1000 → a + x.length ≤ ds.length →
    ∃ y3, evFor (fun σ μ => evBk F G lp_store_text_0 σ μ) (.one 3) ((rangeD 0 x.length).drop i) [some (.mref j), some (.dat (.int a)), some (.dat (.str x)), x3] μ = some (.ok (.next [some (.mref j), some (.dat (.int a)), some (.dat (.str x)), y3]), μ.set j (.lst (fillD ds (a + i) ((charsD x).drop i)))) := by
  induction m with
  | zero =>
    intro i ds μ x3 him hj hl hb
    have hi : i = x.length := him
    rw [hi, rangeD_end, ← charsD_len, List.drop_length]
    exact ⟨x3, by rw [show μ.set j (.lst (fillD ds (a + ((charsD x).length : Nat)) [])) = μ from set_same hj]; rfl⟩
  | succ m ih =>
    intro i ds μ x3 him hj hl hb
    have hroom : room ds.length = true := decide_eq_true (Nat.le_trans hl (by decide))
    have hi : i < x.length := by omega
    refine byG fun G' hG => ?_
    obtain ⟨d, hd1, hd2⟩ := idx_str hi hx
    obtain ⟨y3, e⟩ := ih (i + 1) (ds.set (a + i).toNat d) (μ.set j (.lst (ds.set (a + i).toNat d))) (some (.dat (.int i))) (by omega) (set_get hj) (by rw [List.length_set]; exact hl) (by rw [List.length_set]; exact hb)
    refine hG ⟨y3, ?_⟩
    have ec : (charsD x).drop i = d :: (charsD x).drop (i + 1) := by
      have hl' : i < (charsD x).length := by rw [charsD_len]; exact hi
      rw [List.drop_eq_getElem_cons hl']; rw [List.getElem?_eq_getElem hl'] at hd1; rw [Option.some.inj hd1]
    rw [rangeD_drop hi, ec]
    exact (for_next rfl (k_next (s_set rfl (e_sub (e_loc rfl) (e_loc rfl) (deref_d _ _) hd2) (e_bin (e_loc rfl) (e_loc rfl) (deref_d _ _) (deref_d _ _) (bi_add _ _)) hj ⟨by omega, by omega, hroom⟩) rfl)).trans (e.trans (by rw [List.set_set, show a + ((i + 1 : Nat) : Int) = a + (i : Int) + 1 by omega]; rfl))
theorem sp_store_text (n : Nat) {j : Nat} {ds : List Dat} {a : Int} {x : Str} {μ : Mu} (hj : μ[j]? = some (.lst ds)) (hl : ds.length ≤ 1000) (hx : x.length ≤ 1000) (h0 : 0 ≤ a) (hb : a + x.length ≤ ds.length) :
    semF R (n + 2) 6 [.mref j, .dat (.int a), .dat (.str x)] μ = some (.ok (.dat .none), μ.set j (.lst (fillD ds a (charsD x)))) := by
  have nd : semF R (n + 1) 1 [.mref j, .dat (.int a), .dat (.int x.length)] μ = some (.ok (.dat .none), μ) := by
    rw [sp_need R n (deref_lst hj) hl, if_neg (by omega)]
  have hL : biD .len (.str x) = some (.int x.length) := bi_len (lenR_of (decide_eq_true (Nat.le_trans hx (by decide))))
  obtain ⟨y3, lp⟩ := st_loop (semF R (n + 1)) (semG R (n + 1)) (j := j) (a := a) hx h0 x.length 0 ds μ none (Nat.zero_add _) hj hl hb
  rw [List.drop_zero, List.drop_zero, Int.natCast_zero, Int.add_zero] at lp
  rw [semF_at R rfl rfl rfl]
  exact f_next rfl (k_next (s_expr (e_call (l_cons (e_loc rfl) (l_cons (e_loc rfl) (l_cons (e_bi (e_loc rfl) (deref_d _ _) hL) l_nil))) nd)) (k_next (s_for (i_rng1 (e_bi (e_loc rfl) (deref_d _ _) hL) (rng_len _ hx)) lp) rfl))
noncomputable def okText (x : Str) : Prop := slcD (.str x) none (some x.length) = some (.str x) ∧ lenD (.str x) = some (x.length : Int) ∧ ∃ e, binD .Mult (.str (Str.ofString " ")) (.int 0) = some (.str e) ∧ binD .Add (.str x) (.str e) = some (.str x)
theorem sp_pad (n : Nat) {x : Str} {μ : Mu} (h : okText x) : semF R (n + 1) 7 [.dat (.str x), .dat (.int x.length)] μ = some (.ok (.dat (.str x)), μ) := by
  obtain ⟨h1, h2, e, h3, h4⟩ := h
  rw [semF_at R rfl rfl rfl]
  exact f_ret rfl (k_ret (s_ret (e_bin (e_slc0 (e_loc rfl) rfl (e_loc rfl) (deref_d _ _) h1) (e_bin e_const (e_bin (e_loc rfl) (e_bi (e_loc rfl) (deref_d _ _) (bi_len h2)) (deref_d _ _) (deref_d _ _) ((bi_sub _ _).trans (by rw [Int.sub_self]))) (deref_d _ _) (deref_d _ _) h3) (deref_d _ _) (deref_d _ _) h4)))
theorem sp_load (n : Nat) {nn ch : Nat} {k a len : Int} {x : Except Unit Vl} {μ μ' : Mu} (h : (if k = 5 then semF R n 5 [.mref ch, .dat (.int a), .dat (.int len)] μ else semF R n 3 [.mref nn, .dat (.int k), .dat (.int a)] μ) = some (x, μ')) :
    semG R (n + 1) 0 [.mem nn ch, .dat (place k a len [])] μ = some (x, μ') := by
  have i := idx3 (.int k) (.int a) (.int len) (.tuple [])
  rw [semG_at R rfl]
  by_cases h5 : k = 5
  · rw [if_pos h5] at h
    exact f_ret_x rfl (k_ret_x (w_ife (w_cmp (e_sub (e_loc rfl) e_const (deref_d _ _) i.1) e_glc (c_eqi _ _) rfl) (isb_t h5) (sel_t (k_ret_x (s_ret_x (e_call (l_cons (e_attr rfl) (l_cons (e_sub (e_loc rfl) e_const (deref_d _ _) i.2.1) (l_cons (e_sub (e_loc rfl) e_const (deref_d _ _) i.2.2.1) l_nil))) h))))))
  · rw [if_neg h5] at h
    exact f_ret_x rfl (k_next (s_pass (w_cmp (e_sub (e_loc rfl) e_const (deref_d _ _) i.1) e_glc (c_eqi _ _) rfl) (decide_eq_false h5)) (k_ret_x (s_ret_x (e_call (l_cons (e_attr rfl) (l_cons (e_sub (e_loc rfl) e_const (deref_d _ _) i.1) (l_cons (e_sub (e_loc rfl) e_const (deref_d _ _) i.2.1) l_nil))) h))))
theorem sp_held_ok (n : Nat) {nn ch : Nat} {p : Dat} {V : Vl} {μ μ' : Mu} (h : semG R n 0 [.mem nn ch, .dat p] μ = some (.ok V, μ')) : semF R (n + 1) 19 [.mem nn ch, .dat p] μ = some (.ok V, μ') := by
  rw [semF_at R rfl rfl rfl]; exact f_ret rfl (k_ret (s_try_ok (e_meth rfl (l_cons (e_loc rfl) l_nil) h)))
theorem sp_held_err (n : Nat) {nn ch : Nat} {p : Dat} {μ μ' : Mu} (h : semG R n 0 [.mem nn ch, .dat p] μ = some (.error (), μ')) : semF R (n + 1) 19 [.mem nn ch, .dat p] μ = some (.ok (.dat .none), μ') := by
  rw [semF_at R rfl rfl rfl]; exact f_ret rfl (k_ret (s_try_err (e_meth rfl (l_cons (e_loc rfl) l_nil) h)))
theorem sp_cut (n : Nat) {k a len : Int} {dims : List (Int × Option Int)} {lo hi : Option Int} {μ : Mu} : semF R (n + 2) 18 [.dat (place k a len dims), .dat (hiD lo), .dat (hiD hi)] μ =
    some (.ok (.dat (if subOk len lo hi then place 5 (a + lo.getD 1 - 1) (hi.getD len - lo.getD 1 + 1) [] else .none)), μ) := by
  have h := sp_sub R n (k := k) (a := a) (len := len) (dims := dims) (lo := lo) (hi := hi) (μ := μ)
  rw [semF_at R rfl rfl rfl]
  by_cases c : subOk len lo hi
  · rw [if_pos c] at h ⊢; exact f_ret rfl (k_ret (s_try_ok (e_call (l_cons (e_loc rfl) (l_cons (e_loc rfl) (l_cons (e_loc rfl) l_nil))) h)))
  · rw [if_neg c] at h ⊢; exact f_ret rfl (k_ret (s_try_err (e_call (l_cons (e_loc rfl) (l_cons (e_loc rfl) (l_cons (e_loc rfl) l_nil))) h)))
end
end Mine
end
section
open PySem PySem.W PyProof.Rows PySem.Calls
set_option Elab.async false
set_option maxRecDepth 100000
set_option maxHeartbeats 4000000
set_option linter.unusedVariables false
set_option linter.unusedSimpArgs false
namespace Mine

section
variable (R : Obj → List (Str × Value) → Prop)
theorem sp_store_n (n : Nat) {nn ch : Nat} {k a len : Int} {v : Dat} {μ μ' : Mu} (hk : k ≠ 5) (h : semF R n 4 [.mref nn, .dat (.int k), .dat (.int a), .dat v] μ = some (.ok (.dat .none), μ')) :
    semG R (n + 1) 1 [.mem nn ch, .dat (place k a len []), .dat v] μ = some (.ok (.dat .none), μ') := by
  have i := idx3 (.int k) (.int a) (.int len) (.tuple [])
  rw [semG_at R rfl]
  exact f_next rfl (k_next (w_ife (w_cmp (e_sub (e_loc rfl) e_const (deref_d _ _) i.1) e_glc (c_eqi _ _) rfl) (isb_f hk) (sel_f (k_next (s_expr (e_call (l_cons (e_attr rfl) (l_cons (e_sub (e_loc rfl) e_const (deref_d _ _) i.1) (l_cons (e_sub (e_loc rfl) e_const (deref_d _ _) i.2.1) (l_cons (e_loc rfl) l_nil)))) h)) rfl))) rfl)
theorem sp_store_t (n : Nat) {nn ch : Nat} {a len : Int} {v w : Dat} {μ μ' : Mu} (hp : semF R n 7 [.dat v, .dat (.int len)] μ = some (.ok (.dat w), μ)) (h : semF R n 6 [.mref ch, .dat (.int a), .dat w] μ = some (.ok (.dat .none), μ')) :
    semG R (n + 1) 1 [.mem nn ch, .dat (place 5 a len []), .dat v] μ = some (.ok (.dat .none), μ') := by
  have i := idx3 (.int 5) (.int a) (.int len) (.tuple [])
  rw [semG_at R rfl]
  exact f_next rfl (k_next (w_ife (w_cmp (e_sub (e_loc rfl) e_const (deref_d _ _) i.1) e_glc (c_eqi _ _) rfl) (isb_t rfl) (sel_t (k_next (s_expr (e_call (l_cons (e_attr rfl) (l_cons (e_sub (e_loc rfl) e_const (deref_d _ _) i.2.1) (l_cons (e_call (l_cons (e_loc rfl) (l_cons (e_sub (e_loc rfl) e_const (deref_d _ _) i.2.2.1) l_nil)) hp) l_nil))) h)) rfl))) rfl)
theorem sp_undefine (n : Nat) {nn ch : Nat} {p : Dat} {b : Bool} {lo hi : Int} {μ μ' : Mu} (hs : semF R n 14 [.dat p] μ = some (.ok (.dat (.tuple [.bool b, .int lo, .int hi])), μ)) (h : semF R n 15 [.mem nn ch, .dat (.bool b), .dat (.int lo), .dat (.int hi)] μ = some (.ok (.dat .none), μ')) :
    semG R (n + 1) 2 [.mem nn ch, .dat p] μ = some (.ok (.dat .none), μ') := by
  rw [semG_at R rfl]
  exact f_next rfl (k_next (s_asgT (e_call (l_cons (e_loc rfl) l_nil) hs) rfl) (k_next (s_expr (e_call (l_cons (e_loc rfl) (l_cons (e_loc rfl) (l_cons (e_loc rfl) (l_cons (e_loc rfl) l_nil)))) h)) rfl))
theorem sp_mem (n : Nat) {a b : Int} {μ : Mu} (ha : 0 ≤ a ∧ a ≤ 1000) (hb : 0 ≤ b ∧ b ≤ 1000) : semF R (n + 1) 27 [.dat (.int a), .dat (.int b)] μ = some (.ok (.mem μ.length (μ.length + 1)), μ ++ [.lst (List.replicate a.toNat .none), .lst (List.replicate b.toNat .none)]) :=
  show memF [.dat (.int a), .dat (.int b)] μ = _ from if_pos ⟨ha.1, ha.2, hb⟩
theorem held_mem {F G : Nat → List Vl → Mu → RR Vl} {σ : Slots} {μ : Mu} {nn ch : Nat} {k : Int} (h0 : σ[0]? = some (some (.mem nn ch))) (h2 : σ[2]? = some (some (.dat (.bool (decide (k = 5)))))) : evE F G (.ite (.loc 2) (.attr 0 false) (.attr 0 true)) σ μ = some (.ok (.mref (if k = 5 then ch else nn)), μ) := by
  by_cases h : k = 5
  · rw [if_pos h]; exact w_ite (e_loc h2) (isb_t h) (sel_t (e_attr h0))
  · rw [if_neg h]; exact w_ite (e_loc h2) (isb_f h) (sel_f (e_attr h0))
theorem sp_held_elements (n : Nat) {nn ch : Nat} {k a len c : Int} {dims : List (Int × Option Int)} {ds : List Dat} {μ : Mu} (hf : fits dims []) (hu : -100000 ≤ usz k len ∧ usz k len ≤ 100000) (he : ext dims 1 = some c) (hc : 0 ≤ c ∧ c ≤ 1000)
    (hj : μ[if k = 5 then ch else nn]? = some (.lst ds)) (hl : ds.length ≤ 1000) (h0 : 0 ≤ a) :
    semF R (n + 4) 13 [.mem nn ch, .dat (place k a len dims)] μ = if (ds.length : Int) < a + c * usz k len then some (.error (), μ) else some (.ok (.dat (.list (rowsD k a len c.toNat (usz k len)))), μ) := by
  have h1 := sp_span R n (k := k) (a := a) (len := len) (μ := μ) hf hu
  rw [he] at h1
  have h2 := (sp_ext R (n + 2) (μ := μ) hf).trans (by rw [he])
  have h3 := sp_elements R n (k := k) (a := a) (len := len) (μ := μ) hf hu he hc
  have h4 := sp_need R (n + 2) (a := a) (c := a + c * usz k len - a) (deref_lst hj) hl
  have i4 := (idx3 (.int k) (.int a) (.int len) (.tuple (dims.map dmD))).2.2.2
  rw [semF_at R rfl rfl rfl]
  by_cases cc : (ds.length : Int) < a + c * usz k len
  · rw [if_pos cc]
    have h4 := h4.trans (if_pos (.inr (by omega)))
    exact f_err rfl (k_next (s_asgT (e_call (l_cons (e_loc rfl) l_nil) h1) rfl) (k_err (w_ife (w_cmp (e_call (l_cons (e_sub (e_loc rfl) e_const (deref_d _ _) i4) l_nil) h2) e_const rfl rfl) (isb_h (b := true) rfl) (sel_t (k_err (s_expr_err (e_call (l_cons (held_mem rfl rfl) (l_cons (e_loc rfl) (l_cons (e_bin (e_loc rfl) (e_loc rfl) (deref_d _ _) (deref_d _ _) (bi_sub _ _)) l_nil))) h4)))))))
  · rw [if_neg cc]
    have h4 := h4.trans (if_neg (by omega))
    exact f_ret rfl (k_next (s_asgT (e_call (l_cons (e_loc rfl) l_nil) h1) rfl) (k_next (w_ife (w_cmp (e_call (l_cons (e_sub (e_loc rfl) e_const (deref_d _ _) i4) l_nil) h2) e_const rfl rfl) (isb_h (b := true) rfl) (sel_t (k_next (s_expr (e_call (l_cons (held_mem rfl rfl) (l_cons (e_loc rfl) (l_cons (e_bin (e_loc rfl) (e_loc rfl) (deref_d _ _) (deref_d _ _) (bi_sub _ _)) l_nil))) h4)) rfl)))
      (k_ret (s_ret (e_call (l_cons (e_loc rfl) l_nil) h3)))))
theorem all_held_fin {n : Nat} {nn ch : Nat} {p : Dat} {u e : Int} {rows : Dat} {μ μ1 : Mu} {k : Int} (i1 : idxD p 0 = some (.int k)) (hm : semF R (n + 4) 27 (if k = 5 then [.dat (.int 0), .dat (.int u)] else [.dat (.int u), .dat (.int 0)]) μ = some (.ok (.mem nn ch), μ1))
    (hh : semF R (n + 4) 13 [.mem nn ch, .dat p] μ1 = if u < e then some (.error (), μ1) else some (.ok (.dat rows), μ1)) : semF R (n + 5) 20 [.dat p, .dat (.int u)] μ = some (.ok (.dat (if u < e then .none else rows)), μ1) := by
  have st : ∀ {σ : Slots}, σ[0]? = some (some (.dat p)) → σ[1]? = some (some (.dat (.int u))) → evE (semF R (n + 4)) (semG R (n + 4)) (.ite (.cmp .Eq (.sub (.loc 0) (.const (.int 0))) (.const (.int 5))) (.call 27 (.cons (.const (.int 0)) (.cons (.loc 1) .nil))) (.call 27 (.cons (.loc 1) (.cons (.const (.int 0)) .nil)))) σ μ = some (.ok (.mem nn ch), μ1) := fun h0 h1 => by
    by_cases h5 : k = 5
    · rw [if_pos h5] at hm
      exact w_ite (w_cmp (e_sub (e_loc h0) e_const (deref_d _ _) i1) e_const (c_eqi _ _) rfl) (isb_t h5) (sel_t (e_call (l_cons e_const (l_cons (e_loc h1) l_nil)) hm))
    · rw [if_neg h5] at hm
      exact w_ite (w_cmp (e_sub (e_loc h0) e_const (deref_d _ _) i1) e_const (c_eqi _ _) rfl) (isb_f h5) (sel_f (e_call (l_cons (e_loc h1) (l_cons e_const l_nil)) hm))
  rw [semF_at R rfl rfl rfl]
  by_cases cc : u < e
  · rw [if_pos cc] at hh ⊢
    exact f_ret rfl (k_next (s_asg (st rfl rfl) rfl) (k_ret (s_try_err (e_call (l_cons (e_loc rfl) (l_cons (e_loc rfl) l_nil)) hh))))
  · rw [if_neg cc] at hh ⊢
    exact f_ret rfl (k_next (s_asg (st rfl rfl) rfl) (k_ret (s_try_ok (e_call (l_cons (e_loc rfl) (l_cons (e_loc rfl) l_nil)) hh))))
theorem rep_len {u : Int} (h : 0 ≤ u ∧ u ≤ 1000) : ((List.replicate u.toNat Dat.none).length : Int) = u ∧ (List.replicate u.toNat Dat.none).length ≤ 1000 := by
  rw [List.length_replicate]; exact ⟨Int.toNat_of_nonneg h.1, Int.toNat_le.mpr h.2⟩
theorem sp_all_held (n : Nat) {k a len c u : Int} {dims : List (Int × Option Int)} {μ : Mu} (hf : fits dims []) (hu : -100000 ≤ usz k len ∧ usz k len ≤ 100000) (he : ext dims 1 = some c) (hc : 0 ≤ c ∧ c ≤ 1000) (h0 : 0 ≤ a) (hu0 : 0 ≤ u ∧ u ≤ 1000) :
    ∃ μ', semF R (n + 5) 20 [.dat (place k a len dims), .dat (.int u)] μ = some (.ok (.dat (if u < a + c * usz k len then .none else .list (rowsD k a len c.toNat (usz k len)))), μ ++ μ') := by
  have i1 := (idx3 (.int k) (.int a) (.int len) (.tuple (dims.map dmD))).1
  have z : (0 : Int) ≤ 0 ∧ (0 : Int) ≤ 1000 := by decide
  have el : ∀ x y : MO, (μ ++ [x, y])[μ.length]? = some x ∧ (μ ++ [x, y])[μ.length + 1]? = some y := fun x y => ⟨by rw [List.getElem?_append_right (Nat.le_refl _), Nat.sub_self]; rfl, by rw [List.getElem?_append_right (Nat.le_add_right _ 1), Nat.add_sub_cancel_left]; rfl⟩
  by_cases h5 : k = 5
  · refine ⟨[.lst (List.replicate (0 : Int).toNat .none), .lst (List.replicate u.toNat .none)], all_held_fin R i1 (by rw [if_pos h5]; exact sp_mem R (n + 3) z hu0) ((sp_held_elements R n hf hu he hc (by rw [if_pos h5]; exact (el _ _).2) (rep_len hu0).2 h0).trans (by rw [(rep_len hu0).1]))⟩
  · refine ⟨[.lst (List.replicate u.toNat .none), .lst (List.replicate (0 : Int).toNat .none)], all_held_fin R i1 (by rw [if_neg h5]; exact sp_mem R (n + 3) hu0 z) ((sp_held_elements R n hf hu he hc (by rw [if_neg h5]; exact (el _ _).1) (rep_len hu0).2 h0).trans (by rw [(rep_len hu0).1]))⟩
end
end Mine
end
section
open PySem PySem.W PyProof.Rows PySem.Calls
set_option Elab.async false
set_option maxRecDepth 100000
set_option linter.unusedVariables false
set_option linter.unusedSimpArgs false
namespace Mine

mutual
theorem eqv_refl : ∀ d : Dat, (pyd d).eqv (pyd d) = true
  | .none => rfl
  | .bool b => by simp [pyd, PyData.eqv]
  | .int i => by simp [pyd, PyData.eqv]
  | .str x => by simp [pyd, PyData.eqv]
  | .bytes _ => rfl
  | .tuple ds => by simpa only [pyd, PyData.eqv] using eqvs_refl ds
  | .list ds => by simpa only [pyd, PyData.eqv] using eqvs_refl ds
theorem eqvs_refl : ∀ ds : List Dat, PyData.eqvAll (pyds ds) (pyds ds) = true
  | [] => rfl
  | d :: ds => by simp only [pyds, PyData.eqvAll, eqv_refl d, eqvs_refl ds, Bool.and_self]
end
theorem eqD_refl (d : Dat) : eqD d d = true := eqv_refl d
noncomputable def flt (h : Nat) (d : Dat) : Prop := (pyd d).canLay0 = true ∧ (pyd d).depth ≤ h
theorem flt_shp {h : Nat} {d : Dat} (hh : h ≤ 64) (x : flt h d) : shp d = true := by
  have := x.2
  unfold shp SeqAt.shaped
  rw [x.1, decide_eq_true (by (first | lia | omega))]; rfl
theorem flt_le {h h' : Nat} {d : Dat} (hh : h ≤ h') (x : flt h d) : flt h' d := ⟨x.1, Nat.le_trans x.2 hh⟩
theorem flts {h : Nat} {ds : List Dat} (x : ∀ d ∈ ds, flt h d) : PyData.canLayAll0 (pyds ds) = true ∧ PyData.depthAll (pyds ds) ≤ h := by
  induction ds with
  | nil => exact ⟨rfl, Nat.zero_le _⟩
  | cons d ds ih =>
    have a := x d (.head _)
    have b := ih fun y hy => x y (.tail _ hy)
    exact ⟨Bool.and_eq_true_iff.mpr ⟨a.1, b.1⟩, Nat.max_le.mpr ⟨a.2, b.2⟩⟩
theorem flt_list {h : Nat} {ds : List Dat} (x : ∀ d ∈ ds, flt h d) : flt (h + 1) (.list ds) := ⟨(flts x).1, Nat.succ_le_succ (flts x).2⟩
theorem flt_tuple {h : Nat} {ds : List Dat} (x : ∀ d ∈ ds, flt h d) : flt (h + 1) (.tuple ds) := ⟨(flts x).1, Nat.succ_le_succ (flts x).2⟩
theorem flt_shpL {h : Nat} {ds : List Dat} (hh : h ≤ 60) (x : ∀ d ∈ ds, flt h d) : shpL ds = true := by
  have := flts x
  unfold shpL
  rw [this.1, decide_eq_true (by (first | lia | omega))]; rfl
theorem flt_int {h : Nat} (i : Int) : flt h (.int i) := ⟨rfl, Nat.zero_le _⟩
theorem flt_bool {h : Nat} (i : Bool) : flt h (.bool i) := ⟨rfl, Nat.zero_le _⟩
theorem flt_none {h : Nat} : flt h .none := ⟨rfl, Nat.zero_le _⟩
theorem flt_place {k a len : Int} : flt 2 (place k a len []) := ⟨rfl, Nat.le_refl 2⟩
theorem shp_place {k a len : Int} : shp (place k a len []) = true := flt_shp (by decide) flt_place
theorem lay_place {k a len : Int} : lay (place k a len []) = true := rfl
theorem eqD_place {k a len k' a' len' : Int} : eqD (place k a len []) (place k' a' len' []) = decide (k = k' ∧ a = a' ∧ len = len') := by
  unfold eqD place
  simp only [List.map_nil, pyd, pyds, PyData.eqv, PyData.eqvAll, Bool.and_true]
  by_cases h1 : k = k' <;> by_cases h2 : a = a' <;> by_cases h3 : len = len' <;> simp [h1, h2, h3]
theorem eqD_place_none {k a len : Int} {ds : List (Int × Option Int)} : eqD (place k a len ds) .none = false := rfl
theorem flt_rows {k a len : Int} {n : Nat} {w : Int} : ∀ d ∈ rowsD k a len n w, flt 2 d := by
  intro d hd
  unfold rowsD at hd
  obtain ⟨j, _, rfl⟩ := List.mem_map.mp hd
  exact flt_place
theorem flt_ints (xs : List Int) : ∀ d ∈ xs.map Dat.int, flt 0 d := by
  intro d hd
  obtain ⟨j, _, rfl⟩ := List.mem_map.mp hd
  exact flt_int j
theorem shp_ints (xs : List Int) : shp (.list (xs.map .int)) = true := flt_shp (by decide) (flt_list (flt_ints xs))
theorem eqD_ints (xs : List Int) : ∀ ys : List Int, eqD (.list (xs.map .int)) (.list (ys.map .int)) = decide (xs = ys) := by
  induction xs with
  | nil => intro ys; cases ys <;> rfl
  | cons x xs ih =>
    intro ys
    cases ys with
    | nil => rfl
    | cons y ys =>
      show (PyData.eqv (.int x) (.int y) && eqD (.list (xs.map .int)) (.list (ys.map .int))) = _
      rw [ih, show PyData.eqv (.int x) (.int y) = decide (x = y) from eqD_int x y, ← Bool.decide_and]
      exact decide_eq_decide.mpr (by rw [List.cons.injEq])
theorem cmp_eq_place {k a len k' a' len' : Int} : cmpD .Eq (place k a len []) (place k' a' len' []) = some (decide (k = k' ∧ a = a' ∧ len = len')) := by
  simp only [cd_eq, cd_ne, cd_lt, cd_le, cd_gt, cd_ge, cd_inl, cd_int, shp_place, eqD_place, Bool.and_self, if_true]
theorem cmp_ne_place {k a len k' a' len' : Int} : cmpD .NotEq (place k a len []) (place k' a' len' []) = some (!decide (k = k' ∧ a = a' ∧ len = len')) := by
  simp only [cd_eq, cd_ne, cd_lt, cd_le, cd_gt, cd_ge, cd_inl, cd_int, shp_place, eqD_place, Bool.and_self, if_true]
theorem cmp_eq_ints (xs ys : List Int) : cmpD .Eq (.list (xs.map .int)) (.list (ys.map .int)) = some (decide (xs = ys)) := by
  simp only [cd_eq, cd_ne, cd_lt, cd_le, cd_gt, cd_ge, cd_inl, cd_int, shp_ints, eqD_ints, Bool.and_self, if_true]
theorem cmp_ne_ints (xs ys : List Int) : cmpD .NotEq (.list (xs.map .int)) (.list (ys.map .int)) = some (!decide (xs = ys)) := by
  simp only [cd_eq, cd_ne, cd_lt, cd_le, cd_gt, cd_ge, cd_inl, cd_int, shp_ints, eqD_ints, Bool.and_self, if_true]
theorem cmp_ne_self {d : Dat} (h : shp d = true) : cmpD .NotEq d d = some false := by simp [cd_eq, cd_ne, cd_lt, cd_le, cd_gt, cd_ge, cd_inl, cd_int, h, eqD_refl]
theorem cmp_eq_self {d : Dat} (h : shp d = true) : cmpD .Eq d d = some true := by simp [cd_eq, cd_ne, cd_lt, cd_le, cd_gt, cd_ge, cd_inl, cd_int, h, eqD_refl]

noncomputable def vl : List Int → List Int → Int
  | m :: ms, d :: ds => d + m * vl ms ds
  | _, _ => 0
noncomputable def pr : List Int → Int
  | [] => 1
  | m :: ms => m * pr ms
noncomputable def mkD : List Int → List Int → List (Int × Option Int)
  | l :: ls, m :: ms => (l, some (l + m - 1)) :: mkD ls ms
  | _, _ => []
noncomputable def addL : List Int → List Int → List Int
  | l :: ls, d :: ds => (l + d) :: addL ls ds
  | _, _ => []
inductive Dg : List Int → List Int → List Int → Prop
  | nil : Dg [] [] []
  | cons {l m d : Int} {ls ms ds : List Int} : 0 ≤ d → d < m → Dg ls ms ds → Dg (l :: ls) (m :: ms) (d :: ds)
theorem offd_cons {lo h s off st : Int} {D : List (Int × Option Int)} {ss : List Int} (h1 : ¬ s < lo) (h2 : ¬ h < s) : offd ((lo, some h) :: D) (s :: ss) off st = offd D ss (off + (s - lo) * st) (st * (h - lo + 1)) := by
  show (if s < lo then none else if h < s then none else _) = _
  rw [if_neg h1, if_neg h2]
theorem dg1 (l d : Int) : l + d - l = d := by omega
theorem dg2 (l m : Int) : l + m - 1 - l + 1 = m := by omega
theorem dg3 (off st d m v : Int) : off + d * st + st * m * v = off + st * (d + m * v) := by rw [Int.mul_add, Int.mul_comm st d, Int.mul_assoc, Int.add_assoc]
theorem offd_dg {l m d off st : Int} {D : List (Int × Option Int)} {ss : List Int} (h1 : 0 ≤ d) (h2 : d < m) : offd ((l, some (l + m - 1)) :: D) ((l + d) :: ss) off st = offd D ss (off + d * st) (st * m) :=
  (offd_cons (by omega) (by omega)).trans (by rw [dg1, dg2])
theorem offd_mk {ls ms ds : List Int} (g : Dg ls ms ds) : ∀ off st, offd (mkD ls ms) (addL ls ds) off st = some (off + st * vl ms ds, st * pr ms) := by
  induction g with
  | nil => intro off st; show some (off, st) = some (off + st * 0, st * 1); rw [Int.mul_zero, Int.add_zero, Int.mul_one]
  | cons h1 h2 _ ih => intro off st; exact (offd_dg h1 h2).trans ((ih _ _).trans (congrArg some (Prod.ext (dg3 _ _ _ _ _) (Int.mul_assoc _ _ _))))
end Mine
end
section
open PySem PySem.W PyProof.Rows PySem.Calls
set_option Elab.async false
set_option maxRecDepth 100000
set_option linter.unusedVariables false
set_option linter.unusedSimpArgs false
namespace Mine

theorem Dg.len {ls ms ds : List Int} (g : Dg ls ms ds) : ls.length = ds.length ∧ ms.length = ds.length := by
  induction g with
  | nil => exact ⟨rfl, rfl⟩
  | cons _ _ _ ih => exact ⟨congrArg (· + 1) ih.1, congrArg (· + 1) ih.2⟩
theorem mkD_len {ls ms ds : List Int} (g : Dg ls ms ds) : (mkD ls ms).length = ds.length := by
  induction g with
  | nil => rfl
  | cons _ _ _ ih => exact congrArg (· + 1) ih
theorem addL_len {ls ms ds : List Int} (g : Dg ls ms ds) : (addL ls ds).length = ds.length := by
  induction g with
  | nil => rfl
  | cons _ _ _ ih => exact congrArg (· + 1) ih
theorem pr_pos {ls ms ds : List Int} (g : Dg ls ms ds) : 0 < pr ms := by
  induction g with
  | nil => exact Int.one_pos
  | cons h1 h2 _ ih => exact Int.mul_pos (Int.lt_of_le_of_lt h1 h2) ih
theorem dg4 {m a b : Int} (hm : 0 ≤ m) (h : a < b) : m * a + m ≤ m * b := by
  have := Int.mul_le_mul_of_nonneg_left (show a + 1 ≤ b from h) hm
  rwa [Int.mul_add, Int.mul_one] at this
theorem vl_lt {ls ms ds : List Int} (g : Dg ls ms ds) : 0 ≤ vl ms ds ∧ vl ms ds < pr ms := by
  induction g with
  | nil => exact ⟨Int.le_refl 0, Int.one_pos⟩
  | @cons l m d ls ms ds h1 h2 _ ih =>
    have hm : 0 ≤ m := Int.le_trans h1 (Int.le_of_lt h2)
    have e1 : 0 ≤ m * vl ms ds := Int.mul_nonneg hm ih.1
    have e2 := dg4 hm ih.2
    exact ⟨Int.add_nonneg h1 e1, show d + m * vl ms ds < m * pr ms by omega⟩
theorem addL_inj {ls ms ds : List Int} (g : Dg ls ms ds) : ∀ {es : List Int}, Dg ls ms es → addL ls ds = addL ls es → ds = es := by
  induction g with
  | nil => intro es g' _; cases g'; rfl
  | cons _ _ _ ih =>
    intro es g' e
    cases g' with
    | cons _ _ g' =>
      injection e with e1 e2
      rw [ih g' e2, Int.add_left_cancel e1]
theorem vl_ord {ls ms ds : List Int} (g : Dg ls ms ds) : ∀ {es : List Int}, Dg ls ms es → ∀ {i : Nat} {x y : Int}, ds[i]? = some x → es[i]? = some y → x < y → (∀ j, i < j → ds[j]? = es[j]?) → vl ms ds < vl ms es := by
  induction g with
  | nil => intro es g' i x y h1; cases h1
  | @cons l m d ls ms ds a1 a2 g ih =>
    intro es g' i x y h1 h2 h3 h4
    cases g' with
    | @cons _ _ e _ _ es b1 b2 g' =>
    cases i with
    | zero =>
      have : ds = es := List.ext_getElem? fun j => h4 (j + 1) (Nat.succ_pos j)
      have e1 := Option.some.inj h1
      have e2 := Option.some.inj h2
      rw [this]
      exact Int.add_lt_add_right (by rw [e1, e2]; exact h3) _
    | succ i =>
      have := dg4 (Int.le_trans a1 (Int.le_of_lt a2)) (ih g' (i := i) h1 h2 h3 fun j hj => h4 (j + 1) (Nat.succ_lt_succ hj))
      show d + m * vl ms ds < e + m * vl ms es
      omega
theorem addL_get {ls ms ds : List Int} (g : Dg ls ms ds) : ∀ {i : Nat}, i < ds.length → ∃ l d, ls[i]? = some l ∧ ds[i]? = some d ∧ (addL ls ds)[i]? = some (l + d) := by
  induction g with
  | nil => intro i h; cases h
  | cons _ _ _ ih =>
    intro i hi
    cases i with
    | zero => exact ⟨_, _, rfl, rfl, rfl⟩
    | succ i => exact ih (i := i) (Nat.lt_of_succ_lt_succ hi)
theorem filter_last (p : Nat → Bool) (r : Nat) : ((List.range r).filter p = [] ∧ ∀ i, i < r → p i = false) ∨ ∃ A i, (List.range r).filter p = A ++ [i] ∧ i < r ∧ p i = true ∧ ∀ j, i < j → j < r → p j = false := by
  induction r with
  | zero => exact .inl ⟨rfl, fun i h => absurd h (Nat.not_lt_zero i)⟩
  | succ r ih =>
    have last : p r = false → ∀ {j}, j < r + 1 → (j < r → p j = false) → p j = false := fun h {j} hj k => (Nat.lt_or_eq_of_le (Nat.le_of_lt_succ hj)).elim k fun q => q ▸ h
    rw [List.range_succ, List.filter_append]
    cases hp : p r with
    | true => exact .inr ⟨(List.range r).filter p, r, by rw [List.filter_cons_of_pos hp]; rfl, Nat.lt_succ_self r, hp, fun j h1 h2 => absurd h1 (Nat.not_lt.mpr (Nat.le_of_lt_succ h2))⟩
    | false =>
      have e : ([r] : List Nat).filter p = [] := by rw [List.filter_cons_of_neg (by rw [hp]; exact Bool.false_ne_true)]; rfl
      rw [e, List.append_nil]
      exact ih.imp (fun h => ⟨h.1, fun i hi => last hp hi (h.2 i)⟩) fun ⟨A, i, h1, h2, h3, h4⟩ => ⟨A, i, h1, Nat.lt_succ_of_lt h2, h3, fun j a b => last hp b (h4 j a)⟩
theorem offd_shift {dims : List (Int × Option Int)} (c : Int) : ∀ {ss : List Int} (off st : Int), offd (dims.map fun p => (p.1 + c, p.2.map (· + c))) (ss.map (· + c)) off st = offd dims ss off st := by
  have e1 : ∀ s l : Int, s + c - (l + c) = s - l := fun s l => by omega
  induction dims with
  | nil => exact fun off st => rfl
  | cons p D ih =>
    obtain ⟨l, h⟩ := p
    intro ss off st
    cases ss with
    | nil => rfl
    | cons s ss =>
      cases h with
      | none =>
        show (if s + c < l + c then none else offd _ _ (off + (s + c - (l + c)) * st) st) = if s < l then none else offd D ss (off + (s - l) * st) st
        rw [e1, ih]; exact ite_congr (propext (Int.add_lt_add_iff_right c)) (fun _ => rfl) fun _ => rfl
      | some h =>
        show (if s + c < l + c then none else if h + c < s + c then none else offd _ _ (off + (s + c - (l + c)) * st) (st * (h + c - (l + c) + 1))) = if s < l then none else if h < s then none else offd D ss (off + (s - l) * st) (st * (h - l + 1))
        rw [e1, e1, ih]; exact ite_congr (propext (Int.add_lt_add_iff_right c)) (fun _ => rfl) fun _ => ite_congr (propext (Int.add_lt_add_iff_right c)) (fun _ => rfl) fun _ => rfl
theorem offd_beyond {dims : List (Int × Option Int)} : ∀ {ss : List Int} {i : Nat} {l h s : Int} (off st : Int), dims[i]? = some (l, some h) → ss[i]? = some s → (s < l ∨ h < s) → offd dims ss off st = none := by
  induction dims with
  | nil => intro ss i l h s off st e1; cases e1
  | cons p D ih =>
    intro ss i l h s off st e1 e2 e3
    cases ss with
    | nil => cases e2
    | cons s' ss =>
      cases i with
      | zero =>
        cases e1; cases e2
        show (if s < l then none else if h < s then none else _) = _
        rcases e3 with q | q
        · exact if_pos q
        · rw [if_pos q]; exact ite_self _
      | succ i =>
        obtain ⟨l', h'⟩ := p
        have k := fun off st => ih (ss := ss) (i := i) off st e1 e2 e3
        cases h' with
        | none =>
          show (if s' < l' then none else offd D ss _ _) = _
          rw [k]; exact ite_self _
        | some h' =>
          show (if s' < l' then none else if h' < s' then none else offd D ss _ _) = _
          rw [k, ite_self]; exact ite_self _
theorem offd_free {ls ms ds : List Int} (g : Dg ls ms ds) : ∀ {l m d : Int} (x off st : Int), offd (mkD ls ms ++ [(l, none)]) (addL ls ds ++ [x]) off st = if x < l then none else some (off + st * (vl ms ds + (x - l) * pr ms), st * pr ms) := by
  induction g with
  | nil =>
    intro l m d x off st
    show (if x < l then none else some (off + (x - l) * st, st)) = if x < l then none else some (off + st * (0 + (x - l) * 1), st * 1)
    rw [Int.mul_one, Int.mul_one, Int.zero_add, Int.mul_comm st]
  | @cons l' m' d' ls ms ds h1 h2 g ih =>
    intro l m d x off st
    refine (offd_dg h1 h2).trans ((ih (m := m) (d := d) x _ _).trans (ite_congr rfl (fun _ => rfl) fun _ => congrArg some (Prod.ext ((dg3 _ _ _ _ _).trans ?_) (Int.mul_assoc _ _ _))))
    show off + st * (d' + m' * (vl ms ds + (x - l) * pr ms)) = off + st * (d' + m' * vl ms ds + (x - l) * (m' * pr ms))
    rw [Int.mul_add m', Int.mul_left_comm m', Int.add_assoc]
theorem vl_last {ls ms ds : List Int} (g : Dg ls ms ds) {m d : Int} : vl (ms ++ [m]) (ds ++ [d]) = vl ms ds + d * pr ms ∧ pr (ms ++ [m]) = m * pr ms := by
  induction g with
  | nil => exact ⟨by show d + m * 0 = 0 + d * 1; rw [Int.mul_zero, Int.mul_one, Int.add_zero, Int.zero_add], rfl⟩
  | @cons l' m' d' ls ms ds h1 h2 g ih =>
    constructor
    · show d' + m' * vl (ms ++ [m]) (ds ++ [d]) = d' + m' * vl ms ds + d * (m' * pr ms)
      rw [ih.1, Int.mul_add, Int.mul_left_comm m', Int.add_assoc]
    · show m' * pr (ms ++ [m]) = m * (m' * pr ms)
      rw [ih.2, Int.mul_left_comm]
theorem mkD_last {ls ms ds : List Int} (g : Dg ls ms ds) {l m d : Int} : mkD (ls ++ [l]) (ms ++ [m]) = mkD ls ms ++ [(l, some (l + m - 1))] ∧ addL (ls ++ [l]) (ds ++ [d]) = addL ls ds ++ [l + d] := by
  induction g with
  | nil => exact ⟨rfl, rfl⟩
  | cons h1 h2 g ih => exact ⟨congrArg (List.cons _) ih.1, congrArg (List.cons _) ih.2⟩
theorem Dg.snoc {ls ms ds : List Int} (g : Dg ls ms ds) (hn : ds ≠ []) : ∃ ls' l ms' m ds' d, ls = ls' ++ [l] ∧ ms = ms' ++ [m] ∧ ds = ds' ++ [d] ∧ Dg ls' ms' ds' ∧ 0 ≤ d ∧ d < m := by
  induction g with
  | nil => exact absurd rfl hn
  | @cons l m d ls ms ds h1 h2 g ih =>
    cases g with
    | nil => exact ⟨[], l, [], m, [], d, rfl, rfl, rfl, .nil, h1, h2⟩
    | cons a b c =>
      obtain ⟨ls', l', ms', m', ds', d', e1, e2, e3, g, p, q⟩ := ih (List.cons_ne_nil _ _)
      exact ⟨l :: ls', l', m :: ms', m', d :: ds', d', congrArg _ e1, congrArg _ e2, congrArg _ e3, .cons h1 h2 g, p, q⟩
theorem ext_mk {ls ms ds : List Int} (g : Dg ls ms ds) : ∀ c, ext (mkD ls ms) c = some (c * pr ms) := by
  induction g with
  | nil => exact fun c => congrArg some (Int.mul_one c).symm
  | @cons l m d ls ms ds h1 h2 g ih =>
    intro c
    show ext (mkD ls ms) (c * (l + m - 1 - l + 1)) = _
    rw [dg2, ih]; exact congrArg some (Int.mul_assoc _ _ _)
end Mine
end
section
open PySem PySem.W PyProof.Rows PySem.Calls
set_option Elab.async false
set_option maxRecDepth 100000
set_option maxHeartbeats 4000000
set_option linter.unusedVariables false
set_option linter.unusedSimpArgs false
namespace Mine

theorem room_of {n : Nat} (h : n ≤ 1000) : room n = true := by unfold room; exact decide_eq_true (by (first | lia | omega))
theorem idx_last {ds : List Dat} {d : Dat} (h : ds.length ≤ 1000) : idxD (.tuple (ds ++ [d])) (-1) = some d ∧ idxD (.list (ds ++ [d])) (-1) = some d := by
  have hs : seqIndex? (-1) (ds ++ [d]).length = some ds.length := by
    simp [seqIndex?]; omega
  have := idxL_of (ds := ds ++ [d]) (d := d) (i := -1) ⟨by decide, by decide⟩ hs (by rw [List.getElem?_append_right (Nat.le_refl _), Nat.sub_self]; rfl)
  exact ⟨this, this⟩
theorem slc_take {ds : List Dat} {i : Nat} (h : ds.length ≤ 1000) : slcD (.list ds) none (some (i : Int)) = some (.list (ds.take i)) := slc_l (room_of h) (slL_up (Int.natCast_nonneg i))
theorem slc_drop {ds : List Dat} {i : Nat} (h : ds.length ≤ 1000) : slcD (.list ds) (some ((i : Int) + 1)) none = some (.list (ds.drop (i + 1))) := slc_l (room_of h) (show (if (0 : Int) ≤ (i : Int) + 1 then some (ds.drop ((i : Int) + 1).toNat) else none) = _ from if_pos (Int.natCast_nonneg (i + 1)))
theorem slc_last {ds : List Dat} {d : Dat} (h : ds.length ≤ 900) : slcD (.list (ds ++ [d])) none (some (-1)) = some (.list ds) ∧ slcD (.tuple (ds ++ [d])) none (some (-1)) = some (.tuple ds) := by
  have hr : room (ds ++ [d]).length = true := room_of (by rw [List.length_append]; exact Nat.succ_le_succ (Nat.le_trans h (by decide)))
  exact ⟨slc_l hr (show some ((ds ++ [d]).take ((ds ++ [d]).length - 1)) = some ds from by rw [List.length_append]; exact congrArg some List.take_left), (slc_t hr (List.append_ne_nil_of_right_ne_nil _ (List.cons_ne_nil _ _))).trans (by rw [List.dropLast_concat])⟩
section
variable {F G : Nat → List Vl → Mu → RR Vl} {μ : Mu} {j1 j2 r : Nat} {one other : List Int} {P : Dat} {D : List (Int × Option Int)}
theorem pl_inner {σ : Slots} {k : Nat} {b1 b2 : Int} (hl : σ.length = 23) (h0 : σ[0]? = some (some (.dat P))) (h1 : σ[1]? = some (some (.mref j1))) (h17 : σ[17]? = some (some (.dat (.int k)))) (hd : deref μ (.mref j1) = some (.list (one.map .int))) (ho : one.length ≤ 900)
    (hc : ∀ b, b = b1 ∨ b = b2 → F 17 [.dat P, .dat (.list ((one.take k ++ [b] ++ one.drop (k + 1)).map .int))] μ = some (.ok (.dat .none), μ)) :
    evFor (fun σ μ => evBk F G lp__law_places_right_4 σ μ) (.one 18) [.int b1, .int b2] σ μ = some (.ok (.next (σ.set 18 (some (.dat (.int b2))))), μ) := by
  have turn : ∀ (σ : Slots) (b : Int), (b = b1 ∨ b = b2) → σ.length = 23 → σ[0]? = some (some (.dat P)) → σ[1]? = some (some (.mref j1)) → σ[17]? = some (some (.dat (.int k))) → σ[18]? = some (some (.dat (.int b))) → evBk F G lp__law_places_right_4 σ μ = some (.ok (.next σ), μ) := by
    intro σ b hb hl h0 h1 h17 h18
    have q1 : slcD (.list (one.map .int)) none (some (k : Int)) = some (.list ((one.map Dat.int).take k)) := slc_take (by simp; (first | lia | omega))
    have q2 : slcD (.list (one.map .int)) (some ((k : Int) + 1)) none = some (.list ((one.map Dat.int).drop (k + 1))) := slc_drop (by simp; (first | lia | omega))
    have q3 : binD .Add (.list ((one.map Dat.int).take k)) (.list [Dat.int b]) = some (.list ((one.map Dat.int).take k ++ [Dat.int b])) := by
      have : room (((one.map Dat.int).take k).length + [Dat.int b].length) = true := room_of (by simp; (first | lia | omega))
      simp only [bd_add, bd_sub, bd_mul, bd_adds, bd_muls, bd_addl, bd_addt, this, if_true]
    have q4 : binD .Add (.list ((one.map Dat.int).take k ++ [Dat.int b])) (.list ((one.map Dat.int).drop (k + 1))) = some (.list ((one.map Dat.int).take k ++ [Dat.int b] ++ (one.map Dat.int).drop (k + 1))) := by
      have : room (((one.map Dat.int).take k ++ [Dat.int b]).length + ((one.map Dat.int).drop (k + 1)).length) = true := room_of (by simp; (first | lia | omega))
      simp only [bd_add, bd_sub, bd_mul, bd_adds, bd_muls, bd_addl, bd_addt, this, if_true]
    have q5 := hc b hb
    simp only [List.map_append, List.map_take, List.map_drop, List.map_cons, List.map_nil] at q5
    exact k_next (s_pass (w_cmp (e_call (l_cons (e_loc h0) (l_cons (e_bin (e_bin (e_slc0 (e_loc h1) rfl (e_loc h17) hd q1) (e_lst (l_cons (e_loc h18) l_nil) (ds1 _) rfl) (deref_d _ _) (deref_d _ _) q3) (e_slc1 (e_loc h1) rfl (e_bin (e_loc h17) e_const (deref_d _ _) (deref_d _ _) (bi_add _ _)) hd q2) (deref_d _ _) (deref_d _ _) q4) l_nil)) q5) e_const rfl rfl) rfl) rfl
  have t1 := turn (σ.set 18 (some (.dat (.int b1)))) b1 (.inl rfl) (by rw [List.length_set]; exact hl) (sg h0 (by decide)) (sg h1 (by decide)) (sg h17 (by decide)) (ss (by rw [hl]; decide))
  have t2 := turn ((σ.set 18 (some (.dat (.int b1)))).set 18 (some (.dat (.int b2)))) b2 (.inr rfl) (by rw [List.length_set, List.length_set]; exact hl) (sg (sg h0 (by decide)) (by decide)) (sg (sg h1 (by decide)) (by decide)) (sg (sg h17 (by decide)) (by decide)) (ss (by rw [List.length_set, hl]; decide))
  exact (for_next (setT_at (by rw [hl]; decide) _) t1).trans ((for_next (setT_at (by rw [List.length_set, hl]; decide) _) t2).trans (by rw [List.set_set]; rfl))
theorem pl_outer (hd : deref μ (.mref j1) = some (.list (one.map .int))) (ho : one.length ≤ 900) (hD : D.length = r) (hr : r ≤ 900)
    (hc : ∀ (k : Nat) (l h b : Int), D[k]? = some (l, some h) → b = l - 1 ∨ b = h + 1 → F 17 [.dat P, .dat (.list ((one.take k ++ [b] ++ one.drop (k + 1)).map .int))] μ = some (.ok (.dat .none), μ)) (hs : ∀ p ∈ D, ∃ h, p.2 = some h) (m : Nat) :
    ∀ (k : Nat) (σ : Slots), k + m = r → σ.length = 23 → σ[0]? = some (some (.dat P)) → σ[1]? = some (some (.mref j1)) → σ[9]? = some (some (.dat (.tuple (D.map dmD)))) →
      ∃ σ', evFor (fun σ μ => evBk F G lp__law_places_right_5 σ μ) (.one 17) ((rangeD 0 r).drop k) σ μ = some (.ok (.next σ'), μ) ∧ σ'[0]? = some (some (.dat P)) ∧ σ'[1]? = some (some (.mref j1)) := by
  induction m with
  | zero =>
    intro k σ hk hl h0 h1 h9
    rw [show k = r from hk, rangeD_end]
    exact ⟨σ, rfl, h0, h1⟩
  | succ m ih =>
    intro k σ hk hl h0 h1 h9
    have hkr : k < r := by omega
    refine byG fun G' hG => ?_
    obtain ⟨p, hp⟩ : ∃ p, D[k]? = some p := ⟨_, List.getElem?_eq_getElem (by omega)⟩
    obtain ⟨l, h'⟩ := p
    obtain ⟨h, eh⟩ := hs _ (List.mem_of_getElem? hp)
    have hp : D[k]? = some (l, some h) := by rw [hp]; exact congrArg (fun x => some (l, x)) eh
    have i1 : idxD (.tuple (D.map dmD)) (k : Int) = some (dmD (l, some h)) := (idx_nat _ _ _ (by rw [List.getElem?_map, hp]; rfl) (by rw [List.length_map]; omega)).2
    have i2 := idx2 (.int l) (.int h)
    have g17 : (σ.set 17 (some (.dat (.int (k : Int)))))[17]? = some (some (.dat (.int (k : Int)))) := ss (by rw [hl]; decide)
    have g9 : (σ.set 17 (some (.dat (.int (k : Int)))))[9]? = some (some (.dat (.tuple (D.map dmD)))) := sg h9 (by decide)
    have inn := pl_inner (F := F) (G := G) (σ := σ.set 17 (some (.dat (.int (k : Int))))) (k := k) (b1 := l - 1) (b2 := h + 1) (by rw [List.length_set]; exact hl) (sg h0 (by decide)) (sg h1 (by decide)) g17 hd ho (fun b hb => hc k l h b hp hb)
    obtain ⟨σ', e1, e2, e3⟩ := ih (k + 1) ((σ.set 17 (some (.dat (.int (k : Int))))).set 18 (some (.dat (.int (h + 1))))) (by omega) (by rw [List.length_set, List.length_set]; exact hl) (sg (sg h0 (by decide)) (by decide)) (sg (sg h1 (by decide)) (by decide)) (sg (sg h9 (by decide)) (by decide))
    have b' : evBk F G lp__law_places_right_5 (σ.set 17 (some (.dat (.int (k : Int))))) μ = some (.ok (.next ((σ.set 17 (some (.dat (.int (k : Int))))).set 18 (some (.dat (.int (h + 1)))))), μ) :=
      k_next (s_for (i_tup (e_tup (l_cons (e_bin (e_sub (e_sub (e_loc g9) (e_loc g17) (deref_d _ _) i1) e_const (deref_d _ _) i2.1) e_const (deref_d _ _) (deref_d _ _) (bi_sub _ _)) (l_cons (e_bin (e_sub (e_sub (e_loc g9) (e_loc g17) (deref_d _ _) i1) e_const (deref_d _ _) i2.2) e_const (deref_d _ _) (deref_d _ _) (bi_add _ _)) l_nil)) (ds2 _ _) rfl)) inn) rfl
    refine hG ⟨σ', ?_, e2, e3⟩
    rw [rangeD_drop hkr]
    exact (for_next (setT_at (by rw [hl]; decide) _) b').trans e1
end
end Mine
end
section
open PySem PySem.W PyProof.Rows PySem.Calls
set_option Elab.async false
set_option maxRecDepth 100000
set_option maxHeartbeats 4000000
set_option linter.unusedVariables false
set_option linter.unusedSimpArgs false
namespace Mine

section
variable {F G : Nat → List Vl → Mu → RR Vl} {μ : Mu} {j1 j2 r : Nat} {one other : List Int} {P : Dat} {D : List (Int × Option Int)}
theorem get_of {one : List Int} {i : Nat} (h : i < one.length) (hl : one.length ≤ 900) : ∃ x, one[i]? = some x ∧ idxD (.list (one.map Dat.int)) (0 + (i : Int)) = some (.int x) := by
  have g := List.getElem?_eq_getElem h
  refine ⟨one[i], g, ?_⟩
  rw [Int.zero_add]
  exact (idx_nat _ _ _ (by rw [List.getElem?_map, g]; rfl) (by rw [List.length_map]; omega)).1
theorem pl_apart {σ : Slots} (hl : σ.length = 23) (h1 : σ[1]? = some (some (.mref j1))) (h2 : σ[2]? = some (some (.mref j2))) (hd1 : deref μ (.mref j1) = some (.list (one.map .int))) (hd2 : deref μ (.mref j2) = some (.list (other.map .int))) (ho1 : one.length = r) (ho2 : other.length = r) (hr : r ≤ 900) :
    evComp (fun σ μ => evE F G el__law_places_right_0 σ μ) (some fun σ μ => tsR (evE F G cd__law_places_right_1 σ μ)) (.one 19) σ (rangeD 0 r) μ = some ((((List.range r).filter fun i => !decide (one[i]? = other[i]?)).map fun (i : Nat) => (i : Int)).map .int, μ) :=
  (comp_filter (u := fun i : Nat => Dat.int (0 + (i : Int))) (g := fun i : Nat => Dat.int (0 + (i : Int))) (p := fun i => !decide (one[i]? = other[i]?)) fun i hi => by
    have hi := List.mem_range.mp hi
    obtain ⟨x, g1, q1⟩ := get_of (one := one) (i := i) (by omega) (by omega)
    obtain ⟨y, g2, q2⟩ := get_of (one := other) (i := i) (by omega) (by omega)
    have e3 := ss (σ := σ) (x := some (.dat (.int (0 + (i : Int))))) (i := 19) (by rw [hl]; decide)
    exact ⟨_, setT_at (by rw [hl]; decide) _, tsR_of (w_cmp (e_sub (e_loc (sg h1 (by decide))) (e_loc e3) hd1 q1) (e_sub (e_loc (sg h2 (by decide))) (e_loc e3) hd2 q2) (c_nei _ _) (by rw [g1, g2]; simp only [Option.some.injEq])), fun _ => e_loc e3⟩).trans (by simp only [Int.zero_add, List.map_map]; rfl)
theorem pl_carry {σ : Slots} {sh : Int} (hl : σ.length = 23) (h5 : σ[5]? = some (some (.dat (.int sh)))) (hs : ∀ p ∈ D, ∃ h, p.2 = some h) :
    evComp (fun σ μ => evE F G el__law_places_right_2 σ μ) none (.tup [20, 21]) σ (D.map dmD) μ = some ((D.map fun p => (p.1 + sh, p.2.map (· + sh))).map dmD, μ) :=
  (comp_map (u := dmD) (g := fun p => dmD (p.1 + sh, p.2.map (· + sh))) fun p hp => by
    obtain ⟨h, e⟩ := hs p hp
    obtain ⟨l, h'⟩ := p
    dsimp only at e; subst e
    have e1 : ((σ.set 20 (some (.dat (.int l)))).set 21 (some (.dat (.int h))))[20]? = some (some (.dat (.int l))) := sg (ss (by rw [hl]; decide)) (by decide)
    have e2 : ((σ.set 20 (some (.dat (.int l)))).set 21 (some (.dat (.int h))))[21]? = some (some (.dat (.int h))) := ss (by rw [List.length_set, hl]; decide)
    have e3 : ((σ.set 20 (some (.dat (.int l)))).set 21 (some (.dat (.int h))))[5]? = some (some (.dat (.int sh))) := sg (sg h5 (by decide)) (by decide)
    exact ⟨(σ.set 20 (some (.dat (.int l)))).set 21 (some (.dat (.int h))), by simp [setT, setAll, dmD, hiD, hl], e_tup (l_cons (e_bin (e_loc e1) (e_loc e3) (deref_d _ _) (deref_d _ _) (bi_add _ _)) (l_cons (e_bin (e_loc e2) (e_loc e3) (deref_d _ _) (deref_d _ _) (bi_add _ _)) l_nil)) (ds2 _ _) rfl⟩).trans (by rw [List.map_map]; rfl)
theorem pl_moved {σ : Slots} {sh : Int} (hl : σ.length = 23) (h1 : σ[1]? = some (some (.mref j1))) (h5 : σ[5]? = some (some (.dat (.int sh)))) (hd1 : deref μ (.mref j1) = some (.list (one.map .int))) (ho1 : one.length = r) (hr : r ≤ 900) :
    evComp (fun σ μ => evE F G el__law_places_right_3 σ μ) none (.one 22) σ (rangeD 0 r) μ = some ((one.map (· + sh)).map .int, μ) :=
  (comp_map (u := fun i : Nat => Dat.int (0 + (i : Int))) (g := fun i : Nat => Dat.int ((one[i]?).getD 0 + sh)) fun i hi => by
    have hi := List.mem_range.mp hi
    obtain ⟨x, g1, q1⟩ := get_of (one := one) (i := i) (by omega) (by omega)
    exact ⟨_, setT_at (by rw [hl]; decide) _, e_bin (e_sub (e_loc (sg h1 (by decide))) (e_loc (ss (by rw [hl]; decide))) hd1 q1) (e_loc (sg h5 (by decide))) (deref_d _ _) (deref_d _ _) (by rw [g1]; exact bi_add _ _)⟩).trans (by
    refine congrArg (fun x => some (x, μ)) (List.ext_getElem? fun i => ?_)
    rw [List.getElem?_map, List.getElem?_map, List.getElem?_map]
    by_cases hi : i < r
    · rw [List.getElem?_range hi]; show some (Dat.int ((one[i]?).getD 0 + sh)) = _; rw [List.getElem?_eq_getElem (by omega : i < one.length)]; rfl
    · rw [List.getElem?_eq_none (by rw [List.length_range]; omega), List.getElem?_eq_none (by omega : one.length ≤ i)]; rfl)
theorem clr_len (ws : List Nat) (σ : Slots) : (clr ws σ).length = σ.length := by simp [clr]
theorem clr_get {ws : List Nat} {σ : Slots} {i : Nat} (h : i ∉ ws) : (clr ws σ)[i]? = σ[i]? := by
  unfold clr
  rw [List.getElem?_mapIdx]
  cases σ[i]? <;> simp [h]
end
end Mine
end
section
open PySem PySem.W PyProof.Rows PySem.Calls
set_option Elab.async false
set_option maxRecDepth 100000
set_option maxHeartbeats 4000000
set_option linter.unusedVariables false
set_option linter.unusedSimpArgs false
namespace Mine

theorem cmp_ne_nil (xs : List Int) : cmpD .NotEq (.list (xs.map .int)) (.list []) = some (!decide (xs = [])) := cmp_ne_ints xs []
theorem absD_int (a : Int) : absD (.int a) = some (.int (if a < 0 then -a else a)) := rfl
section
variable {F G : Nat → List Vl → Mu → RR Vl} {μ : Mu} {j1 j2 r : Nat} {one other O' : List Int} {D D' : List (Int × Option Int)}
theorem pl_walk {k a len wide whole shift X Y low high u u0 : Int}
    (hd1 : deref μ (.mref j1) = some (.list (one.map .int))) (hd2 : deref μ (.mref j2) = some (.list (other.map .int)))
    (hr : r ≤ 900) (hD : D.length = r) (ho1 : one.length = r) (ho2 : other.length = r) (hs : ∀ p ∈ D, ∃ h, p.2 = some h)
    (eD : D = D' ++ [(low, some high)]) (eO : one = O' ++ [u]) (e0 : one[0]? = some u0)
    (c1 : F 17 [.dat (place k a len D), .mref j1] μ = some (.ok (.dat (place k X len [])), μ))
    (c2 : F 17 [.dat (place k a len D), .mref j2] μ = some (.ok (.dat (place k Y len [])), μ))
    (c3 : F 17 [.dat (place k a len (D.map fun p => (p.1 + shift, p.2.map (· + shift)))), .dat (.list ((one.map (· + shift)).map .int))] μ = some (.ok (.dat (place k X len [])), μ))
    (c4 : F 17 [.dat (place k a len (D' ++ [(low, none)])), .mref j1] μ = some (.ok (.dat (place k X len [])), μ))
    (c5 : F 17 [.dat (place k a len (D' ++ [(low, none)])), .dat (.list ((O' ++ [low - 1]).map .int))] μ = some (.ok (.dat .none), μ))
    (c6 : F 17 [.dat (place k a len (D' ++ [(low, none)])), .dat (.list ((O' ++ [u + high - low + 1]).map .int))] μ = some (.ok (.dat (place k (X + whole) len [])), μ))
    (c7 : ∀ (i : Nat) (l h b : Int), D[i]? = some (l, some h) → b = l - 1 ∨ b = h + 1 → F 17 [.dat (place k a len D), .dat (.list ((one.take i ++ [b] ++ one.drop (i + 1)).map .int))] μ = some (.ok (.dat .none), μ))
    (c8 : F 17 [.dat (place k a len D), .dat (.list (O'.map .int))] μ = some (.ok (.dat .none), μ))
    (c9 : F 17 [.dat (place k a len D), .dat (.list ((one ++ [u0]).map .int))] μ = some (.ok (.dat .none), μ))
    (w1 : decide (X = Y) = decide (one = other)) (w2 : one ≠ other → ¬ ((if X - Y < 0 then -(X - Y) else X - Y) < wide))
    {xs : List Int} (hxs : xs = ((List.range r).filter fun i => !decide (one[i]? = other[i]?)).map fun (i : Nat) => (i : Int))
    (w3 : xs = [] ∨ xs ≠ [] ∧ ∃ i p q, idxD (.list (xs.map .int)) (-1) = some (.int i) ∧ idxD (.list (one.map .int)) i = some (.int p) ∧ idxD (.list (other.map .int)) i = some (.int q) ∧ decide (X < Y) = decide (p < q)) :
    fnRes (evBk F G ir__law_places_right) nn__law_places_right pr__law_places_right.length [.dat (place k a len D), .mref j1, .mref j2, .dat (.int wide), .dat (.int whole), .dat (.int shift)] μ = some (.ok (.dat (.bool true)), μ) := by
  have r0 : room 0 = true := by decide
  have r1 : room 1 = true := by decide
  have r2 : room 2 = true := by decide
  have r3 : room 3 = true := by decide
  have r4 : room 4 = true := by decide
  have hrr : room r = true := room_of (by omega)
  have hor : ord (r : Int) = true := rng_len r (by omega)
  have pX : ∀ Z : Int, idxD (place k Z len []) 0 = some (.int k) ∧ idxD (place k Z len []) 1 = some (.int Z) ∧ idxD (place k Z len []) 2 = some (.int len) ∧ idxD (place k Z len []) 3 = some (.tuple []) := fun Z => idx3 (.int k) (.int Z) (.int len) (.tuple [])
  have hL : lenD (.tuple (D.map dmD)) = some (r : Int) := by rw [(len_list (ds := D.map dmD) (by simp; omega)).2]; simp [hD]
  have q1 : idxD (.tuple (D.map dmD)) (-1) = some (dmD (low, some high)) := by rw [eD, List.map_append]; exact (idx_last (by simp [← hD, eD] at hr ⊢; omega)).1
  have q2 : slcD (.tuple (D.map dmD)) none (some (-1)) = some (.tuple (D'.map dmD)) := by rw [eD, List.map_append]; exact (slc_last (by simp [← hD, eD] at hr ⊢; omega)).2
  have q3 : binD .Add (.tuple (D'.map dmD)) (.tuple [.tuple [.int low, .none]]) = some (.tuple ((D' ++ [(low, none)]).map dmD)) := by
    have : room ((D'.map dmD).length + [Dat.tuple [.int low, .none]].length) = true := room_of (by simp [← hD, eD] at hr ⊢; omega)
    simp only [bd_add, bd_sub, bd_mul, bd_adds, bd_muls, bd_addl, bd_addt, this, if_true, List.map_append]; rfl
  have q4 : slcD (.list (one.map .int)) none (some (-1)) = some (.list (O'.map .int)) := by rw [eO, List.map_append]; exact (slc_last (by simp [← ho1, eO] at hr ⊢; omega)).1
  have q5 : ∀ x : Int, binD .Add (.list (O'.map .int)) (.list [.int x]) = some (.list ((O' ++ [x]).map .int)) := fun x => by
    have : room ((O'.map Dat.int).length + [Dat.int x].length) = true := room_of (by simp [← ho1, eO] at hr ⊢; omega)
    simp only [bd_add, bd_sub, bd_mul, bd_adds, bd_muls, bd_addl, bd_addt, this, if_true, List.map_append]; rfl
  have q6 : idxD (.list (one.map .int)) (-1) = some (.int u) := by rw [eO, List.map_append]; exact (idx_last (by simp [← ho1, eO] at hr ⊢; omega)).2
  have q7 : idxD (.list (one.map .int)) 0 = some (.int u0) := (idx_nat _ 0 _ (by rw [List.getElem?_map, e0]; rfl) (by simp; omega)).1
  have q8 : binD .Add (.list (one.map .int)) (.list [.int u0]) = some (.list ((one ++ [u0]).map .int)) := by
    have : room ((one.map Dat.int).length + [Dat.int u0].length) = true := room_of (by simp; omega)
    simp only [bd_add, bd_sub, bd_mul, bd_adds, bd_muls, bd_addl, bd_addt, this, if_true, List.map_append]; rfl
  have shT : shp (.tuple [.int k, .int len, .tuple []]) = true := by rfl
  have q9 : cmpD .NotEq (.tuple [.int k, .int len, .tuple []]) (.tuple [.int k, .int len, .tuple []]) = some false := cmp_ne_self shT
  have ne_self : ∀ Z : Int, cmpD .NotEq (place k Z len []) (place k Z len []) = some false := fun Z => cmp_ne_self shp_place
  have hDr : room (D.map dmD).length = true := by rw [List.length_map, hD]; exact hrr
  have hRr : room (rangeD 0 r).length = true := by simp [rangeD, hrr]
  have tDc : biD .tup (.list ((D.map fun p => (p.1 + shift, p.2.map (· + shift))).map dmD)) = some (.tuple ((D.map fun p => (p.1 + shift, p.2.map (· + shift))).map dmD)) := by
    have : room ((D.map fun p => (p.1 + shift, p.2.map (· + shift))).map dmD).length = true := room_of (by simp; omega)
    exact if_pos this
  have hL' : biD .len (.tuple (D.map dmD)) = some (.int (r : Int)) := bi_len hL
  have eqXY : cmpD .Eq (place k X len []) (place k Y len []) = some (decide (X = Y)) := by rw [cmp_eq_place]; simp
  have e4 : cmpV μ .NotEq (.dat (.bool (decide (X = Y)))) (.dat (.bool (decide (one = other)))) = some false := by rw [w1]; exact c_dat (by rw [cmp_ne_bool]; simp)
  have eN := cmp_ne_nil xs
  have c3' : F 17 [.dat (.tuple [.int k, .int a, .int len, .tuple ((D.map fun p => (p.1 + shift, p.2.map (· + shift))).map dmD)]), .dat (.list ((one.map (· + shift)).map .int))] μ = _ := c3
  have c4' : F 17 [.dat (.tuple [.int k, .int a, .int len, .tuple ((D' ++ [(low, none)]).map dmD)]), .mref j1] μ = _ := c4
  have c5' : F 17 [.dat (.tuple [.int k, .int a, .int len, .tuple ((D' ++ [(low, none)]).map dmD)]), .dat (.list ((O' ++ [low - 1]).map .int))] μ = _ := c5
  have c6' : F 17 [.dat (.tuple [.int k, .int a, .int len, .tuple ((D' ++ [(low, none)]).map dmD)]), .dat (.list ((O' ++ [u + high - low + 1]).map .int))] μ = _ := c6
  have q51 := q5 (low - 1)
  have q52 := q5 (u + high - low + 1)
  have eX6 : cmpD .NotEq (place k (X + whole) len []) (.tuple [.int k, .int (X + whole), .int len, .tuple []]) = some false := cmp_ne_self shp_place
  clear c3 c4 c5 c6
  have habs : biD .abs (.int (X - Y)) = some (.int (if X - Y < 0 then -(X - Y) else X - Y)) := rfl
  obtain ⟨pX0, pX1, pX2, pX3⟩ := pX X
  obtain ⟨pY0, pY1, pY2, pY3⟩ := pX Y
  refine f_ret rfl ?_
  unfold ir__law_places_right
  show evBk F G _ [some (.dat (place k a len D)), some (.mref j1), some (.mref j2), some (.dat (.int wide)), some (.dat (.int whole)), some (.dat (.int shift)), none, none, none, none, none, none, none, none, none, none, none, none, none, none, none, none, none] μ = _
  iterate 3 (refine k_next (by repeat' first|with_reducible (first|exact rfl|assumption|exact cmp_ne_self shp_place|apply_assumption (transparency := .reducible) -exfalso only [e_const, e_loc, e_neg, e_sub, e_bin, w_cmp, w_call, e_tup, e_lst, e_bop, e_bi, e_slc0, e_comp, l_nil, l_cons, deref_d, ds4, ds2, ds0, ds1, ds3, bi_add, bi_sub, c_lt, cmp_ne_bool, cmp_eq_place, cmp_eq_ints, cmp_ne_ints, w_eq, w_ne, b_one, w_bop, bsel_of, bsel_at, bsel_af, i_tup, i_rng1, s_asg, s_asgT, s_asgD, s_pass, s_ret, s_for, k_ret]|exact isb_r true|exact isb_r false|exact isb_nf rfl|(apply isb_h; assumption)|(apply isb_nf; assumption)|(apply isb_nt; assumption)|(apply call_of; assumption)|(apply decide_eq_false; assumption))|exact cmp_ne_self shp_place|exact pl_apart ((clr_len _ _).trans rfl) ((clr_get (by decide)).trans rfl) ((clr_get (by decide)).trans rfl) (by assumption) (by assumption) (by assumption) (by assumption) (by assumption)|exact pl_carry ((clr_len _ _).trans rfl) ((clr_get (by decide)).trans rfl) (by assumption)|exact pl_moved ((clr_len _ _).trans rfl) ((clr_get (by decide)).trans rfl) ((clr_get (by decide)).trans rfl) (by assumption) (by assumption) (by assumption)|(apply call_of; assumption)|exact isb_h (b := true) rfl|exact isb_h (b := false) rfl|exact rfl|assumption) ?_; (try dsimp only [setPs, List.zip_cons_cons, List.zip_nil_left, List.zip_nil_right, List.set_cons_succ, List.set_cons_zero]))
  refine' k_next (s_pass (p := false) (μ1 := μ) ?t4 rfl) ?r4
  (case t4 =>
    by_cases he : one = other
    · (repeat' first|with_reducible (first|exact rfl|assumption|exact cmp_ne_self shp_place|apply_assumption (transparency := .reducible) -exfalso only [e_const, e_loc, e_neg, e_sub, e_bin, w_cmp, w_call, e_tup, e_lst, e_bop, e_bi, e_slc0, e_comp, l_nil, l_cons, deref_d, ds4, ds2, ds0, ds1, ds3, bi_add, bi_sub, c_lt, cmp_ne_bool, cmp_eq_place, cmp_eq_ints, cmp_ne_ints, w_eq, w_ne, b_one, w_bop, bsel_of, bsel_at, bsel_af, i_tup, i_rng1, s_asg, s_asgT, s_asgD, s_pass, s_ret, s_for, k_ret]|exact isb_r true|exact isb_r false|exact isb_nf rfl|(apply isb_h; assumption)|(apply isb_nf; assumption)|(apply isb_nt; assumption)|(apply call_of; assumption)|(apply decide_eq_false; assumption))|exact cmp_ne_self shp_place|exact pl_apart ((clr_len _ _).trans rfl) ((clr_get (by decide)).trans rfl) ((clr_get (by decide)).trans rfl) (by assumption) (by assumption) (by assumption) (by assumption) (by assumption)|exact pl_carry ((clr_len _ _).trans rfl) ((clr_get (by decide)).trans rfl) (by assumption)|exact pl_moved ((clr_len _ _).trans rfl) ((clr_get (by decide)).trans rfl) ((clr_get (by decide)).trans rfl) (by assumption) (by assumption) (by assumption)|(apply call_of; assumption)|exact isb_h (b := true) rfl|exact isb_h (b := false) rfl|exact rfl|assumption)
    · have w2' := w2 he
      (repeat' first|with_reducible (first|exact rfl|assumption|exact cmp_ne_self shp_place|apply_assumption (transparency := .reducible) -exfalso only [e_const, e_loc, e_neg, e_sub, e_bin, w_cmp, w_call, e_tup, e_lst, e_bop, e_bi, e_slc0, e_comp, l_nil, l_cons, deref_d, ds4, ds2, ds0, ds1, ds3, bi_add, bi_sub, c_lt, cmp_ne_bool, cmp_eq_place, cmp_eq_ints, cmp_ne_ints, w_eq, w_ne, b_one, w_bop, bsel_of, bsel_at, bsel_af, i_tup, i_rng1, s_asg, s_asgT, s_asgD, s_pass, s_ret, s_for, k_ret]|exact isb_r true|exact isb_r false|exact isb_nf rfl|(apply isb_h; assumption)|(apply isb_nf; assumption)|(apply isb_nt; assumption)|(apply call_of; assumption)|(apply decide_eq_false; assumption))|exact cmp_ne_self shp_place|exact pl_apart ((clr_len _ _).trans rfl) ((clr_get (by decide)).trans rfl) ((clr_get (by decide)).trans rfl) (by assumption) (by assumption) (by assumption) (by assumption) (by assumption)|exact pl_carry ((clr_len _ _).trans rfl) ((clr_get (by decide)).trans rfl) (by assumption)|exact pl_moved ((clr_len _ _).trans rfl) ((clr_get (by decide)).trans rfl) ((clr_get (by decide)).trans rfl) (by assumption) (by assumption) (by assumption)|(apply call_of; assumption)|exact isb_h (b := true) rfl|exact isb_h (b := false) rfl|exact rfl|assumption))
  (refine k_next (by repeat' first|with_reducible (first|exact rfl|assumption|exact cmp_ne_self shp_place|apply_assumption (transparency := .reducible) -exfalso only [e_const, e_loc, e_neg, e_sub, e_bin, w_cmp, w_call, e_tup, e_lst, e_bop, e_bi, e_slc0, e_comp, l_nil, l_cons, deref_d, ds4, ds2, ds0, ds1, ds3, bi_add, bi_sub, c_lt, cmp_ne_bool, cmp_eq_place, cmp_eq_ints, cmp_ne_ints, w_eq, w_ne, b_one, w_bop, bsel_of, bsel_at, bsel_af, i_tup, i_rng1, s_asg, s_asgT, s_asgD, s_pass, s_ret, s_for, k_ret]|exact isb_r true|exact isb_r false|exact isb_nf rfl|(apply isb_h; assumption)|(apply isb_nf; assumption)|(apply isb_nt; assumption)|(apply call_of; assumption)|(apply decide_eq_false; assumption))|exact cmp_ne_self shp_place|exact pl_apart ((clr_len _ _).trans rfl) ((clr_get (by decide)).trans rfl) ((clr_get (by decide)).trans rfl) (by assumption) (by assumption) (by assumption) (by assumption) (by assumption)|exact pl_carry ((clr_len _ _).trans rfl) ((clr_get (by decide)).trans rfl) (by assumption)|exact pl_moved ((clr_len _ _).trans rfl) ((clr_get (by decide)).trans rfl) ((clr_get (by decide)).trans rfl) (by assumption) (by assumption) (by assumption)|(apply call_of; assumption)|exact isb_h (b := true) rfl|exact isb_h (b := false) rfl|exact rfl|assumption) ?_; (try dsimp only [setPs, List.zip_cons_cons, List.zip_nil_left, List.zip_nil_right, List.set_cons_succ, List.set_cons_zero]))
  have hxs' : ((List.range ((r : Int)).toNat).filter fun i => !decide (one[i]? = other[i]?)).map (fun (i : Nat) => (i : Int)) = xs := by rw [hxs]; rfl
  rw [hxs']
  refine' k_next (s_pass (p := false) (μ1 := μ) ?t6 rfl) ?r6
  (case t6 =>
    rcases w3 with hx | ⟨hx, i, p, q, x1, x2, x3, x4⟩
    · (repeat' first|with_reducible (first|exact rfl|assumption|exact cmp_ne_self shp_place|apply_assumption (transparency := .reducible) -exfalso only [e_const, e_loc, e_neg, e_sub, e_bin, w_cmp, w_call, e_tup, e_lst, e_bop, e_bi, e_slc0, e_comp, l_nil, l_cons, deref_d, ds4, ds2, ds0, ds1, ds3, bi_add, bi_sub, c_lt, cmp_ne_bool, cmp_eq_place, cmp_eq_ints, cmp_ne_ints, w_eq, w_ne, b_one, w_bop, bsel_of, bsel_at, bsel_af, i_tup, i_rng1, s_asg, s_asgT, s_asgD, s_pass, s_ret, s_for, k_ret]|exact isb_r true|exact isb_r false|exact isb_nf rfl|(apply isb_h; assumption)|(apply isb_nf; assumption)|(apply isb_nt; assumption)|(apply call_of; assumption)|(apply decide_eq_false; assumption))|exact cmp_ne_self shp_place|exact pl_apart ((clr_len _ _).trans rfl) ((clr_get (by decide)).trans rfl) ((clr_get (by decide)).trans rfl) (by assumption) (by assumption) (by assumption) (by assumption) (by assumption)|exact pl_carry ((clr_len _ _).trans rfl) ((clr_get (by decide)).trans rfl) (by assumption)|exact pl_moved ((clr_len _ _).trans rfl) ((clr_get (by decide)).trans rfl) ((clr_get (by decide)).trans rfl) (by assumption) (by assumption) (by assumption)|(apply call_of; assumption)|exact isb_h (b := true) rfl|exact isb_h (b := false) rfl|exact rfl|assumption)
    · have e6 : cmpV μ .NotEq (.dat (.bool (decide (X < Y)))) (.dat (.bool (decide (p < q)))) = some false := by rw [x4]; exact c_dat (by rw [cmp_ne_bool]; simp)
      (repeat' first|with_reducible (first|exact rfl|assumption|exact cmp_ne_self shp_place|apply_assumption (transparency := .reducible) -exfalso only [e_const, e_loc, e_neg, e_sub, e_bin, w_cmp, w_call, e_tup, e_lst, e_bop, e_bi, e_slc0, e_comp, l_nil, l_cons, deref_d, ds4, ds2, ds0, ds1, ds3, bi_add, bi_sub, c_lt, cmp_ne_bool, cmp_eq_place, cmp_eq_ints, cmp_ne_ints, w_eq, w_ne, b_one, w_bop, bsel_of, bsel_at, bsel_af, i_tup, i_rng1, s_asg, s_asgT, s_asgD, s_pass, s_ret, s_for, k_ret]|exact isb_r true|exact isb_r false|exact isb_nf rfl|(apply isb_h; assumption)|(apply isb_nf; assumption)|(apply isb_nt; assumption)|(apply call_of; assumption)|(apply decide_eq_false; assumption))|exact cmp_ne_self shp_place|exact pl_apart ((clr_len _ _).trans rfl) ((clr_get (by decide)).trans rfl) ((clr_get (by decide)).trans rfl) (by assumption) (by assumption) (by assumption) (by assumption) (by assumption)|exact pl_carry ((clr_len _ _).trans rfl) ((clr_get (by decide)).trans rfl) (by assumption)|exact pl_moved ((clr_len _ _).trans rfl) ((clr_get (by decide)).trans rfl) ((clr_get (by decide)).trans rfl) (by assumption) (by assumption) (by assumption)|(apply call_of; assumption)|exact isb_h (b := true) rfl|exact isb_h (b := false) rfl|exact rfl|assumption))
  iterate 6 (refine k_next (by repeat' first|with_reducible (first|exact rfl|assumption|exact cmp_ne_self shp_place|apply_assumption (transparency := .reducible) -exfalso only [e_const, e_loc, e_neg, e_sub, e_bin, w_cmp, w_call, e_tup, e_lst, e_bop, e_bi, e_slc0, e_comp, l_nil, l_cons, deref_d, ds4, ds2, ds0, ds1, ds3, bi_add, bi_sub, c_lt, cmp_ne_bool, cmp_eq_place, cmp_eq_ints, cmp_ne_ints, w_eq, w_ne, b_one, w_bop, bsel_of, bsel_at, bsel_af, i_tup, i_rng1, s_asg, s_asgT, s_asgD, s_pass, s_ret, s_for, k_ret]|exact isb_r true|exact isb_r false|exact isb_nf rfl|(apply isb_h; assumption)|(apply isb_nf; assumption)|(apply isb_nt; assumption)|(apply call_of; assumption)|(apply decide_eq_false; assumption))|exact cmp_ne_self shp_place|exact pl_apart ((clr_len _ _).trans rfl) ((clr_get (by decide)).trans rfl) ((clr_get (by decide)).trans rfl) (by assumption) (by assumption) (by assumption) (by assumption) (by assumption)|exact pl_carry ((clr_len _ _).trans rfl) ((clr_get (by decide)).trans rfl) (by assumption)|exact pl_moved ((clr_len _ _).trans rfl) ((clr_get (by decide)).trans rfl) ((clr_get (by decide)).trans rfl) (by assumption) (by assumption) (by assumption)|(apply call_of; assumption)|exact isb_h (b := true) rfl|exact isb_h (b := false) rfl|exact rfl|assumption) ?_; (try dsimp only [setPs, List.zip_cons_cons, List.zip_nil_left, List.zip_nil_right, List.set_cons_succ, List.set_cons_zero]))
  obtain ⟨σ', f1, f2, f3⟩ := pl_outer (F := F) (G := G) hd1 (by omega) hD hr c7 hs r 0 [some (.dat (place k a len D)), some (.mref j1), some (.mref j2), some (.dat (.int wide)), some (.dat (.int whole)), some (.dat (.int shift)), some (.dat (.int k)), some (.dat (.int a)), some (.dat (.int len)), some (.dat (.tuple (D.map dmD))),
    some (.dat (place k X len [])), some (.dat (place k Y len [])), some (.dat (.list (xs.map .int))), some (.dat (.tuple [.int k, .int a, .int len, .tuple ((D.map fun p => (p.1 + shift, p.2.map (· + shift))).map dmD)])), some (.dat (.int low)), some (.dat (hiD (some high))), some (.dat (.tuple [.int k, .int a, .int len, .tuple ((D' ++ [(low, none)]).map dmD)])), none, none, none, none, none, none] (by omega) rfl rfl rfl rfl
  rw [List.drop_zero] at f1
  refine' k_next (s_for (ds := rangeD 0 ((r : Int)).toNat) (μ1 := μ) ?i13 f1) ?r13
  (case i13 => (repeat' first|with_reducible (first|exact rfl|assumption|exact cmp_ne_self shp_place|apply_assumption (transparency := .reducible) -exfalso only [e_const, e_loc, e_neg, e_sub, e_bin, w_cmp, w_call, e_tup, e_lst, e_bop, e_bi, e_slc0, e_comp, l_nil, l_cons, deref_d, ds4, ds2, ds0, ds1, ds3, bi_add, bi_sub, c_lt, cmp_ne_bool, cmp_eq_place, cmp_eq_ints, cmp_ne_ints, w_eq, w_ne, b_one, w_bop, bsel_of, bsel_at, bsel_af, i_tup, i_rng1, s_asg, s_asgT, s_asgD, s_pass, s_ret, s_for, k_ret]|exact isb_r true|exact isb_r false|exact isb_nf rfl|(apply isb_h; assumption)|(apply isb_nf; assumption)|(apply isb_nt; assumption)|(apply call_of; assumption)|(apply decide_eq_false; assumption))|exact cmp_ne_self shp_place|exact pl_apart ((clr_len _ _).trans rfl) ((clr_get (by decide)).trans rfl) ((clr_get (by decide)).trans rfl) (by assumption) (by assumption) (by assumption) (by assumption) (by assumption)|exact pl_carry ((clr_len _ _).trans rfl) ((clr_get (by decide)).trans rfl) (by assumption)|exact pl_moved ((clr_len _ _).trans rfl) ((clr_get (by decide)).trans rfl) ((clr_get (by decide)).trans rfl) (by assumption) (by assumption) (by assumption)|(apply call_of; assumption)|exact isb_h (b := true) rfl|exact isb_h (b := false) rfl|exact rfl|assumption))
  (refine k_ret (by repeat' first|with_reducible (first|exact rfl|assumption|exact cmp_ne_self shp_place|apply_assumption (transparency := .reducible) -exfalso only [e_const, e_loc, e_neg, e_sub, e_bin, w_cmp, w_call, e_tup, e_lst, e_bop, e_bi, e_slc0, e_comp, l_nil, l_cons, deref_d, ds4, ds2, ds0, ds1, ds3, bi_add, bi_sub, c_lt, cmp_ne_bool, cmp_eq_place, cmp_eq_ints, cmp_ne_ints, w_eq, w_ne, b_one, w_bop, bsel_of, bsel_at, bsel_af, i_tup, i_rng1, s_asg, s_asgT, s_asgD, s_pass, s_ret, s_for, k_ret]|exact isb_r true|exact isb_r false|exact isb_nf rfl|(apply isb_h; assumption)|(apply isb_nf; assumption)|(apply isb_nt; assumption)|(apply call_of; assumption)|(apply decide_eq_false; assumption))|exact cmp_ne_self shp_place|exact pl_apart ((clr_len _ _).trans rfl) ((clr_get (by decide)).trans rfl) ((clr_get (by decide)).trans rfl) (by assumption) (by assumption) (by assumption) (by assumption) (by assumption)|exact pl_carry ((clr_len _ _).trans rfl) ((clr_get (by decide)).trans rfl) (by assumption)|exact pl_moved ((clr_len _ _).trans rfl) ((clr_get (by decide)).trans rfl) ((clr_get (by decide)).trans rfl) (by assumption) (by assumption) (by assumption)|(apply call_of; assumption)|exact isb_h (b := true) rfl|exact isb_h (b := false) rfl|exact rfl|assumption))
end
end Mine
end
section
open PySem PySem.W PyProof.Rows PySem.Calls
set_option Elab.async false
set_option maxRecDepth 100000
set_option linter.unusedVariables false
set_option linter.unusedSimpArgs false
namespace Mine

section
variable (R : Obj → List (Str × Value) → Prop)
noncomputable def spotD (k a len : Int) (dims : List (Int × Option Int)) (ss : List Int) : Dat := if ss.length = dims.length then (match offd dims ss 0 1 with
  | none => .none
  | some (o, _) => place k (a + o * usz k len) len []) else .none
theorem sp_spot (n : Nat) {S : Vl} {k a len : Int} {dims : List (Int × Option Int)} {subs : List Int} {μ : Mu} (hS : deref μ S = some (.list (subs.map .int))) (hfit : fits dims subs) (hl : dims.length ≤ 1000) (hl2 : subs.length ≤ 1000) (hu : -100000 ≤ usz k len ∧ usz k len ≤ 100000) :
    semF R (n + 4) 17 [.dat (place k a len dims), S] μ = some (.ok (.dat (spotD k a len dims subs)), μ) := by
  have h := sp_ep R n (k := k) (a := a) (len := len) hS hfit hl hl2 hu
  unfold spotD
  by_cases c : subs.length = dims.length
  · rw [if_pos c] at h ⊢
    cases ho : offd dims subs 0 1 with
    | none => rw [ho] at h; exact sp_spot_err R (n + 3) h
    | some p => rw [ho] at h; exact sp_spot_ok R (n + 3) h
  · rw [if_neg c] at h ⊢
    exact sp_spot_err R (n + 3) h
noncomputable def sml (b : Int) (xs : List Int) : Prop := ∀ x ∈ xs, -b ≤ x ∧ x ≤ b
theorem sml.tl {b x : Int} {xs : List Int} (h : sml b (x :: xs)) : sml b xs := fun y hy => h y (.tail _ hy)
theorem mkD_mem {ls ms ds : List Int} (g : Dg ls ms ds) : sml 100 ls → sml 100 ms → ∀ p ∈ mkD ls ms, (-100 ≤ p.1 ∧ p.1 ≤ 100) ∧ ∃ h, p.2 = some h ∧ -300 ≤ h ∧ h ≤ 300 := by
  induction g with
  | nil => intro _ _ p hp; cases hp
  | cons a b g ih =>
    intro h1 h2 p hp
    rcases List.mem_cons.mp hp with rfl | hp
    · have x1 := h1 _ (.head _)
      have x2 := h2 _ (.head _)
      exact ⟨x1, _, rfl, by omega, by omega⟩
    · exact ih h1.tl h2.tl p hp
theorem addL_sml {ls ms ds : List Int} (g : Dg ls ms ds) : sml 100 ls → sml 100 ms → sml 200 (addL ls ds) := by
  induction g with
  | nil => intro _ _ x hx; cases hx
  | cons a b g ih =>
    intro h1 h2 x hx
    rcases List.mem_cons.mp hx with rfl | hx
    · have x1 := h1 _ (.head _)
      have x2 := h2 _ (.head _)
      exact ⟨by omega, by omega⟩
    · exact ih h1.tl h2.tl x hx
theorem fits_mk {ls ms ds : List Int} {ss : List Int} (g : Dg ls ms ds) (h1 : sml 100 ls) (h2 : sml 100 ms) (h3 : sml 1000 ss) : fits (mkD ls ms) ss :=
  ⟨fun p hp => by obtain ⟨a, h, e, b⟩ := mkD_mem g h1 h2 p hp; exact ⟨by (first | lia | omega), by (first | lia | omega), fun h' e' => by rw [e] at e'; cases e'; (first | lia | omega)⟩, h3⟩
end
end Mine
end
section
open PySem PySem.W PyProof.Rows PySem.Calls
set_option Elab.async false
set_option maxRecDepth 100000
set_option linter.unusedVariables false
set_option linter.unusedSimpArgs false
namespace Mine

theorem get_mid {xs : List Int} {i : Nat} {b : Int} (h : i < xs.length) : (xs.take i ++ [b] ++ xs.drop (i + 1))[i]? = some b := by
  have : (xs.take i).length = i := by simp; (first | lia | omega)
  rw [List.append_assoc, List.getElem?_append_right (by (first | lia | omega)), this]
  simp
section
variable (R : Obj → List (Str × Value) → Prop)
theorem spot_mk {k a len : Int} {ls ms ds : List Int} (g : Dg ls ms ds) : spotD k a len (mkD ls ms) (addL ls ds) = place k (a + vl ms ds * usz k len) len [] := by
  unfold spotD
  rw [if_pos (by rw [mkD_len g, addL_len g]), offd_mk g]
  simp
theorem spot_none {k a len : Int} {dims : List (Int × Option Int)} {ss : List Int} (h : offd dims ss 0 1 = none) : spotD k a len dims ss = .none := by
  unfold spotD; rw [h]; simp
theorem spot_len {k a len : Int} {dims : List (Int × Option Int)} {ss : List Int} (h : ss.length ≠ dims.length) : spotD k a len dims ss = .none := by
  unfold spotD; rw [if_neg h]
theorem vl_inj {ls ms ds es : List Int} (g1 : Dg ls ms ds) (g2 : Dg ls ms es) (h : vl ms ds = vl ms es) : ds = es := by
  have l1 := g1.len
  have l2 := g2.len
  rcases filter_last (fun i => !decide (ds[i]? = es[i]?)) ds.length with ⟨_, h2⟩ | ⟨A, i, _, h2, h3, h4⟩
  · apply List.ext_getElem?
    intro i
    by_cases hi : i < ds.length
    · simpa using h2 i hi
    · rw [List.getElem?_eq_none (by (first | lia | omega)), List.getElem?_eq_none (by (first | lia | omega))]
  · exfalso
    have s1 : ds[i]? = some ds[i] := List.getElem?_eq_getElem h2
    have s2 : es[i]? = some es[i] := List.getElem?_eq_getElem (by (first | lia | omega))
    have s3 : ds[i] ≠ es[i] := by simpa [s1, s2] using h3
    have s4 : ∀ j, i < j → ds[j]? = es[j]? := fun j hj => by
      by_cases q : j < ds.length
      · simpa using h4 j hj q
      · rw [List.getElem?_eq_none (by (first | lia | omega)), List.getElem?_eq_none (by (first | lia | omega))]
    rcases Int.lt_or_gt_of_ne s3 with q | q
    · have := vl_ord g1 g2 s1 s2 q s4; (first | lia | omega)
    · have := vl_ord g2 g1 s2 s1 q (fun j hj => (s4 j hj).symm); (first | lia | omega)
theorem sp_places (n : Nat) {k a len wide whole shift : Int} {ls ms ds es : List Int} {j1 j2 : Nat} {μ : Mu} (g1 : Dg ls ms ds) (g2 : Dg ls ms es) (hne : ds ≠ []) (hlen : ds.length ≤ 100) (b1 : sml 100 ls) (b2 : sml 100 ms) (bs : -100 ≤ shift ∧ shift ≤ 100)
    (hd1 : deref μ (.mref j1) = some (.list ((addL ls ds).map .int))) (hd2 : deref μ (.mref j2) = some (.list ((addL ls es).map .int))) (hw : wide = usz k len) (hw0 : 1 ≤ wide ∧ wide ≤ 100) (hwh : whole = pr ms * wide) :
    semF R (n + 5) 21 [.dat (place k a len (mkD ls ms)), .mref j1, .mref j2, .dat (.int wide), .dat (.int whole), .dat (.int shift)] μ = some (.ok (.dat (.bool true)), μ) := by
  have hu : -100000 ≤ usz k len ∧ usz k len ≤ 100000 := by (first | lia | omega)
  have n1 := mkD_len g1
  have n2 := addL_len g1
  have n3 := addL_len g2
  have l1 := g1.len
  have l2 := g2.len
  have s1 := addL_sml g1 b1 b2
  have s2 := addL_sml g2 b1 b2
  have inc : ∀ {b : Int} {xs : List Int}, b ≤ 1000 → sml b xs → sml 1000 xs := fun hb h x hx => by have := h x hx; (first | lia | omega)
  have sapp : ∀ {xs ys : List Int}, sml 1000 xs → sml 1000 ys → sml 1000 (xs ++ ys) := fun h h' x hx => by
    rcases List.mem_append.mp hx with q | q
    · exact h x q
    · exact h' x q
  have sone : ∀ {x : Int}, -1000 ≤ x ∧ x ≤ 1000 → sml 1000 [x] := fun h y hy => by simp at hy; subst hy; exact h
  obtain ⟨ls', l, ms', m, ds', d, e1, e2, e3, g', p1, p2⟩ := Dg.snoc g1 hne
  have n1' := mkD_len g'
  have n2' := addL_len g'
  obtain ⟨t1, t2⟩ := mkD_last g' (l := l) (m := m) (d := d)
  obtain ⟨v1, v2⟩ := vl_last g' (m := m) (d := d)
  have bl := b1 l (by rw [e1]; simp)
  have bm := b2 m (by rw [e2]; simp)
  have b1' : sml 100 ls' := fun x hx => b1 x (by rw [e1]; simp [hx])
  have b2' : sml 100 ms' := fun x hx => b2 x (by rw [e2]; simp [hx])
  have s1' := addL_sml g' b1' b2'
  have hds : ds.length = ds'.length + 1 := by rw [e3]; simp
  have ff : fits (mkD ls' ms' ++ [(l, none)]) [] := ⟨fun p hp => by
    rcases List.mem_append.mp hp with q | q
    · exact (fits_mk (ss := []) g' b1' b2' (by intro x hx; simp at hx)).1 p q
    · simp at q; subst q; exact ⟨by (first | lia | omega), by (first | lia | omega), fun h e => by cases e⟩, by intro x hx; simp at hx⟩
  obtain ⟨u0, hu0⟩ : ∃ u0, (addL ls ds)[0]? = some u0 := ⟨_, List.getElem?_eq_getElem (by rw [n2]; cases ds with | nil => exact absurd rfl hne | cons _ _ => simp)⟩
  have hD : ∀ dims ss, fits dims ss → dims.length ≤ 200 → ss.length ≤ 200 → semF R (n + 4) 17 [.dat (place k a len dims), .dat (.list (ss.map .int))] μ = some (.ok (.dat (spotD k a len dims ss)), μ) := fun dims ss f x y => sp_spot R n rfl f (by (first | lia | omega)) (by (first | lia | omega)) hu
  have c1 := sp_spot R n (k := k) (a := a) (len := len) hd1 (fits_mk g1 b1 b2 (inc (by (first | lia | omega)) s1)) (by (first | lia | omega)) (by (first | lia | omega)) hu
  rw [spot_mk g1] at c1
  have c2 := sp_spot R n (k := k) (a := a) (len := len) hd2 (fits_mk g1 b1 b2 (inc (by (first | lia | omega)) s2)) (by (first | lia | omega)) (by (first | lia | omega)) hu
  rw [spot_mk g2] at c2
  have c3 := hD ((mkD ls ms).map fun p => (p.1 + shift, p.2.map (· + shift))) ((addL ls ds).map (· + shift)) ⟨fun p hp => by
    obtain ⟨q, hq, rfl⟩ := List.mem_map.mp hp
    obtain ⟨y1, h, y2, y3⟩ := mkD_mem g1 b1 b2 q hq
    exact ⟨by dsimp only; (first | lia | omega), by dsimp only; (first | lia | omega), fun h' e' => by rw [y2] at e'; simp at e'; (first | lia | omega)⟩, fun x hx => by
    obtain ⟨q, hq, rfl⟩ := List.mem_map.mp hx
    have := s1 q hq
    show -1000 ≤ q + shift ∧ q + shift ≤ 1000
    (first | lia | omega)⟩ (by simp; (first | lia | omega)) (by simp; (first | lia | omega))
  have e3' : spotD k a len ((mkD ls ms).map fun p => (p.1 + shift, p.2.map (· + shift))) ((addL ls ds).map (· + shift)) = spotD k a len (mkD ls ms) (addL ls ds) := by
    unfold spotD; rw [offd_shift]; simp
  rw [e3', spot_mk g1] at c3
  have fspot : ∀ x, spotD k a len (mkD ls' ms' ++ [(l, none)]) (addL ls' ds' ++ [x]) = if x < l then .none else place k (a + (vl ms' ds' + (x - l) * pr ms') * usz k len) len [] := fun x => by
    unfold spotD
    rw [if_pos (by simp [n1', n2']), offd_free g' (m := m) (d := d)]
    by_cases c : x < l
    · simp [c]
    · simp [c]
  have fone : ∀ x, -1000 ≤ x ∧ x ≤ 1000 → semF R (n + 4) 17 [.dat (place k a len (mkD ls' ms' ++ [(l, none)])), .dat (.list ((addL ls' ds' ++ [x]).map .int))] μ = some (.ok (.dat (spotD k a len (mkD ls' ms' ++ [(l, none)]) (addL ls' ds' ++ [x]))), μ) := fun x hx =>
    hD _ _ ⟨ff.1, sapp (inc (by (first | lia | omega)) s1') (sone hx)⟩ (by simp; (first | lia | omega)) (by simp; (first | lia | omega))
  have c4 := sp_spot R n (k := k) (a := a) (len := len) (dims := mkD ls' ms' ++ [(l, none)]) hd1 ⟨ff.1, inc (by (first | lia | omega)) s1⟩ (by simp; (first | lia | omega)) (by (first | lia | omega)) hu
  have hone : addL ls ds = addL ls' ds' ++ [l + d] := by rw [e1, e3]; exact t2
  have hdim : mkD ls ms = mkD ls' ms' ++ [(l, some (l + m - 1))] := by rw [e1, e2]; exact t1
  have hX : vl ms ds = vl ms' ds' + d * pr ms' := by rw [e2, e3]; exact v1
  have hP : pr ms = m * pr ms' := by rw [e2]; exact v2
  rw [hone, fspot, if_neg (by (first | lia | omega)), show l + d - l = d by (first | lia | omega), ← hX] at c4
  have c5 := fone (l - 1) (by (first | lia | omega))
  rw [fspot, if_pos (by (first | lia | omega))] at c5
  have c6 := fone (l + d + (l + m - 1) - l + 1) (by (first | lia | omega))
  rw [fspot, if_neg (by (first | lia | omega)), show l + d + (l + m - 1) - l + 1 - l = d + m by (first | lia | omega), show a + (vl ms' ds' + (d + m) * pr ms') * usz k len = a + vl ms ds * usz k len + whole by rw [hX, hwh, hP, hw]; grind] at c6
  refine pl_walk (r := ds.length) (one := addL ls ds) (other := addL ls es) (D := mkD ls ms) (X := a + vl ms ds * usz k len) (Y := a + vl ms es * usz k len) (low := l) (high := l + m - 1) (u := l + d) (u0 := u0) (xs := _) hd1 hd2 (by (first | lia | omega)) (by (first | lia | omega)) (by (first | lia | omega)) (by (first | lia | omega)) (fun p hp => by obtain ⟨_, h, e, _⟩ := mkD_mem g1 b1 b2 p hp; exact ⟨h, e⟩) hdim hone hu0 c1 c2 c3 c4 c5 c6 ?_ ?_ ?_ ?_ ?_ rfl ?_
  · intro i l' h' b hi hb
    have hil : i < (addL ls ds).length := by rw [n2, ← n1]; exact (List.getElem?_eq_some_iff.mp hi).1
    have hmem := mkD_mem g1 b1 b2 _ (List.mem_of_getElem? hi)
    obtain ⟨y1, h2, y2, y3⟩ := hmem
    dsimp only at y1 y2
    cases y2
    rw [hD _ _ ⟨(fits_mk (ss := []) g1 b1 b2 (by intro x hx; simp at hx)).1, sapp (sapp (fun x hx => inc (by (first | lia | omega)) s1 x (List.mem_of_mem_take hx)) (sone (by (first | lia | omega)))) (fun x hx => inc (by (first | lia | omega)) s1 x (List.mem_of_mem_drop hx))⟩ (by (first | lia | omega)) (by simp; (first | lia | omega))]
    rw [spot_none (offd_beyond (i := i) (s := b) 0 1 hi (get_mid hil) (by (first | lia | omega)))]
  · rw [hD _ _ ⟨(fits_mk (ss := []) g1 b1 b2 (by intro x hx; simp at hx)).1, inc (by (first | lia | omega)) s1'⟩ (by (first | lia | omega)) (by (first | lia | omega)), spot_len (by (first | lia | omega))]
  · rw [hD _ _ ⟨(fits_mk (ss := []) g1 b1 b2 (by intro x hx; simp at hx)).1, sapp (inc (by (first | lia | omega)) s1) (sone (inc (by (first | lia | omega)) s1 u0 (List.mem_of_getElem? hu0)))⟩ (by (first | lia | omega)) (by simp; (first | lia | omega)), spot_len (by simp; (first | lia | omega))]
  · by_cases q : ds = es
    · subst q; simp
    · have q1 : ¬ addL ls ds = addL ls es := fun z => q (addL_inj g1 g2 z)
      have q2 : ¬ (a + vl ms ds * usz k len = a + vl ms es * usz k len) := fun z => q (vl_inj g1 g2 (Int.eq_of_mul_eq_mul_right (a := usz k len) (by (first | lia | omega)) (by (first | lia | omega))))
      simp [q1, q2]
  · intro q
    have q0 : ¬ ds = es := fun z => q (by rw [z])
    have q1 : vl ms ds ≠ vl ms es := fun z => q0 (vl_inj g1 g2 z)
    rcases Int.lt_or_gt_of_ne q1 with c | c
    · have : (vl ms ds + 1) * usz k len ≤ vl ms es * usz k len := Int.mul_le_mul_of_nonneg_right (by (first | lia | omega)) (by (first | lia | omega))
      have e : (vl ms ds + 1) * usz k len = vl ms ds * usz k len + usz k len := by grind
      split <;> (first | lia | omega)
    · have : (vl ms es + 1) * usz k len ≤ vl ms ds * usz k len := Int.mul_le_mul_of_nonneg_right (by (first | lia | omega)) (by (first | lia | omega))
      have e : (vl ms es + 1) * usz k len = vl ms es * usz k len + usz k len := by grind
      split <;> (first | lia | omega)
  · rcases filter_last (fun i => !decide ((addL ls ds)[i]? = (addL ls es)[i]?)) ds.length with ⟨h1, _⟩ | ⟨A, i, h1, h2, h3, h4⟩
    · exact .inl (by rw [h1]; rfl)
    · refine .inr ⟨by rw [h1]; simp, (i : Int), ?_⟩
      obtain ⟨x1, y1, _, z1, z2⟩ := addL_get g1 (i := i) h2
      obtain ⟨x2, y2, z3, z4, z5⟩ := addL_get g2 (i := i) (by (first | lia | omega))
      have hx : x1 = x2 := by rw [‹ls[i]? = some x1›] at z3; exact Option.some.inj z3
      subst hx
      have hal : A.length ≤ 200 := by
        have := congrArg List.length h1
        have h5 := List.length_filter_le (fun i => !decide ((addL ls ds)[i]? = (addL ls es)[i]?)) (List.range ds.length)
        rw [this] at h5; simp at h5; (first | lia | omega)
      have hne2 : y1 ≠ y2 := by rw [z2, z5] at h3; simp at h3; (first | lia | omega)
      have aft : ∀ j, i < j → ds[j]? = es[j]? := fun j hj => by
        by_cases q : j < ds.length
        · obtain ⟨xa, ya, w1, w2, w3⟩ := addL_get g1 (i := j) q
          obtain ⟨xb, yb, w4, w5, w6⟩ := addL_get g2 (i := j) (by (first | lia | omega))
          have h6 := h4 j hj q
          rw [w1] at w4; cases w4
          rw [w3, w6] at h6
          simp at h6
          rw [w2, w5, show ya = yb by (first | lia | omega)]
        · rw [List.getElem?_eq_none (by (first | lia | omega)), List.getElem?_eq_none (by (first | lia | omega))]
      refine ⟨x1 + y1, x1 + y2, ?_, ?_, ?_, ?_⟩
      · rw [h1]
        have := (idx_last (ds := (A.map fun (i : Nat) => (i : Int)).map .int) (d := .int (i : Int)) (by simp; (first | lia | omega))).2
        simpa using this
      · exact (idx_nat _ i _ (by rw [List.getElem?_map, z2]; rfl) (by simp; (first | lia | omega))).1
      · exact (idx_nat _ i _ (by rw [List.getElem?_map, z5]; rfl) (by simp; (first | lia | omega))).1
      · have key : (a + vl ms ds * usz k len < a + vl ms es * usz k len) ↔ vl ms ds < vl ms es := by
          constructor
          · intro h
            exact Int.lt_of_mul_lt_mul_right (a := usz k len) (by (first | lia | omega)) (by (first | lia | omega))
          · intro h
            have := Int.mul_lt_mul_of_pos_right h (show 0 < usz k len by (first | lia | omega))
            (first | lia | omega)
        rcases Int.lt_or_gt_of_ne hne2 with q | q
        · have := vl_ord g1 g2 z1 z4 q aft
          rw [decide_eq_true (key.mpr this), decide_eq_true (by (first | lia | omega))]
        · have := vl_ord g2 g1 z4 z1 q (fun j hj => (aft j hj).symm)
          rw [decide_eq_false (fun h => by have := key.mp h; (first | lia | omega)), decide_eq_false (by (first | lia | omega))]
end
end Mine
end
section
open PySem PySem.W PyProof.Rows PySem.Calls
set_option Elab.async false
set_option maxRecDepth 100000
set_option maxHeartbeats 4000000
set_option linter.unusedVariables false
set_option linter.unusedSimpArgs false
namespace Mine

section
variable {F G : Nat → List Vl → Mu → RR Vl} {μ : Mu} {j1 r : Nat} {one : List Int} {D : List (Int × Option Int)}
theorem rw_lows {σ : Slots} (hl : σ.length = 15) : evComp (fun σ μ => evE F G el__law_rows_right_0 σ μ) none (.one 12) σ (D.map dmD) μ = some ((D.map (·.1)).map .int, μ) :=
  (comp_map (u := dmD) (g := fun p => .int p.1) fun p _ => ⟨_, setT_at (by rw [hl]; decide) _, e_sub (e_loc (ss (by rw [hl]; decide))) e_const (deref_d _ _) (idx2 (.int p.1) (hiD p.2)).1⟩).trans (by rw [List.map_map]; rfl)
theorem rw_highs {σ : Slots} (hl : σ.length = 15) : evComp (fun σ μ => evE F G el__law_rows_right_1 σ μ) none (.one 13) σ (D.map dmD) μ = some (D.map fun p => hiD p.2, μ) :=
  comp_map (u := dmD) (g := fun p => hiD p.2) fun p _ => ⟨_, setT_at (by rw [hl]; decide) _, e_sub (e_loc (ss (by rw [hl]; decide))) e_const (deref_d _ _) (idx2 (.int p.1) (hiD p.2)).2⟩
theorem rows_get {k a len w : Int} {n i : Nat} (h : i < n) : (rowsD k a len n w)[i]? = some (place k (a + (i : Int) * w) len []) := by simp [rowsD, h]
theorem rows_len {k a len w : Int} {n : Nat} : (rowsD k a len n w).length = n := by simp [rowsD]
theorem rw_gaps {σ : Slots} {k a len w : Int} {n : Nat} (hn : n ≤ 900) (hl : σ.length = 15) (h8 : σ[8]? = some (some (.dat (.list (rowsD k a len n w))))) (h2 : σ[2]? = some (some (.dat (.int w)))) :
    evComp (fun σ μ => evE F G el__law_rows_right_2 σ μ) (some fun σ μ => tsR (evE F G cd__law_rows_right_3 σ μ)) (.one 14) σ (rangeD 1 (n - 1)) μ = some ([], μ) :=
  (comp_filter (u := fun i : Nat => Dat.int (1 + (i : Int))) (g := fun i : Nat => Dat.int (1 + (i : Int))) (p := fun _ => false) fun i hi => by
    have hi := List.mem_range.mp hi
    have e1 := sg (i := 14) (x := some (.dat (.int (1 + (i : Int))))) h8 (by decide)
    have e2 := sg (i := 14) (x := some (.dat (.int (1 + (i : Int))))) h2 (by decide)
    have e3 := ss (σ := σ) (x := some (.dat (.int (1 + (i : Int))))) (i := 14) (by rw [hl]; decide)
    have q1 : idxD (.list (rowsD k a len n w)) (1 + (i : Int)) = some (place k (a + ((i + 1 : Nat) : Int) * w) len []) := idx_int (by omega) (by rw [show (1 + (i : Int)).toNat = i + 1 by omega]; exact rows_get (by omega)) (by rw [rows_len]; omega)
    have q2 : idxD (.list (rowsD k a len n w)) (i : Int) = some (place k (a + (i : Int) * w) len []) := idx_int (Int.natCast_nonneg i) (rows_get (by omega)) (by rw [rows_len]; omega)
    have p1 : ∀ Z, idxD (place k Z len []) 1 = some (.int Z) := fun Z => (idx3 (.int k) (.int Z) (.int len) (.tuple [])).2.1
    have eq : a + ((i + 1 : Nat) : Int) * w = a + (i : Int) * w + w := by rw [Int.natCast_add, Int.add_mul, Int.add_assoc, Int.natCast_one, Int.one_mul]
    exact ⟨_, setT_at (by rw [hl]; decide) _, tsR_of (w_cmp (e_sub (e_sub (e_loc e1) (e_loc e3) (deref_d _ _) q1) e_const (deref_d _ _) (p1 _)) (e_bin (e_sub (e_sub (e_loc e1) (e_bin (e_loc e3) e_const (deref_d _ _) (deref_d _ _) ((bi_sub _ _).trans (by rw [Int.add_comm, Int.add_sub_cancel]))) (deref_d _ _) q2) e_const (deref_d _ _) (p1 _)) (e_loc e2) (deref_d _ _) (deref_d _ _) (bi_add _ _)) (c_nei _ _) (not_dec_f eq)), fun q => nomatch q⟩).trans (by rw [List.filter_eq_nil_iff.mpr fun _ _ => Bool.false_ne_true]; rfl)
theorem rw_gaps2 {μ : Mu} {σ : Slots} {k a len w : Int} {n : Nat} (hn : n ≤ 900) (hl : σ.length = 15) (h8 : σ[8]? = some (some (.dat (.list (rowsD k a len n w))))) (h2 : σ[2]? = some (some (.dat (.int w)))) :
    evComp (fun σ μ => evE F G el__law_rows_right_2 σ μ) (some fun σ μ => tsR (evE F G cd__law_rows_right_3 σ μ)) (.one 14) σ (rangeD 1 ((n : Int) - 1).toNat) μ = some ([], μ) := by
  rw [show ((n : Int) - 1).toNat = n - 1 by (first | lia | omega)]; exact rw_gaps hn hl h8 h2
end
end Mine
end
section
open PySem PySem.W PyProof.Rows PySem.Calls
set_option Elab.async false
set_option maxRecDepth 100000
set_option maxHeartbeats 4000000
set_option linter.unusedVariables false
set_option linter.unusedSimpArgs false
namespace Mine

theorem rows_count {k a len w : Int} (hw : 1 ≤ w) {o : Nat} : ∀ N : Nat, o < N → (rowsD k a len N w).countP (fun y => eqD y (place k (a + (o : Int) * w) len [])) = 1 := by
  have z : ∀ N : Nat, (rowsD k a len N w).countP (fun y => eqD y (place k (a + (o : Int) * w) len [])) = if o < N then 1 else 0 := by
    intro N
    induction N with
    | zero => simp [rowsD]
    | succ N ih =>
      have e : rowsD k a len (N + 1) w = rowsD k a len N w ++ [place k (a + (N : Int) * w) len []] := by simp [rowsD, List.range_succ]
      rw [e, List.countP_append, ih]
      have h : eqD (place k (a + (N : Int) * w) len []) (place k (a + (o : Int) * w) len []) = decide (N = o) := by
        rw [eqD_place]
        by_cases q : N = o
        · simp [q]
        · have : ¬ (a + (N : Int) * w = a + (o : Int) * w) := fun t => q (by have := Int.eq_of_mul_eq_mul_right (a := w) (b := (N : Int)) (c := (o : Int)) (by (first | lia | omega)) (by (first | lia | omega)); (first | lia | omega))
          simp [q, this]
      simp only [List.countP_cons, List.countP_nil, h]
      by_cases q : N = o
      · subst q; simp
      · by_cases q2 : o < N
        · simp [q, q2, show o < N + 1 by (first | lia | omega)]
        · simp [q, q2, show ¬ o < N + 1 by (first | lia | omega)]
  intro N h
  rw [z, if_pos h]
theorem rows_find {k a len w : Int} (hw : 1 ≤ w) {o N : Nat} (h : o < N) : (rowsD k a len N w).findIdx? (fun y => eqD y (place k (a + (o : Int) * w) len [])) = some o := by
  rw [List.findIdx?_eq_some_iff_getElem]
  have ho : o < (rowsD k a len N w).length := by rw [rows_len]; exact h
  refine ⟨ho, ?_, fun j hj => ?_⟩
  · have := rows_get (k := k) (a := a) (len := len) (w := w) h
    rw [List.getElem?_eq_getElem ho] at this
    rw [Option.some.inj this, eqD_refl]
  · have h2 : j < N := by (first | lia | omega)
    have hj' : j < (rowsD k a len N w).length := by rw [rows_len]; exact h2
    have := rows_get (k := k) (a := a) (len := len) (w := w) h2
    rw [List.getElem?_eq_getElem hj'] at this
    rw [Option.some.inj this, eqD_place]
    have q : ¬ (a + (j : Int) * w = a + (o : Int) * w) := fun t => by have := Int.eq_of_mul_eq_mul_right (a := w) (b := (j : Int)) (c := (o : Int)) (by (first | lia | omega)) (by (first | lia | omega)); (first | lia | omega)
    simp [q]
section
variable {F G : Nat → List Vl → Mu → RR Vl} {μ μ1 μ2 : Mu} {j1 N : Nat} {one : List Int} {D : List (Int × Option Int)}
theorem rw_walk {k a len w whole u0 l0 h0 : Int} {o : Nat} {rest : List Int}
    (hd1 : deref μ (.mref j1) = some (.list (one.map .int))) (hN : 0 < N) (hN2 : N ≤ 100) (hl : D.length ≤ 100) (hone : one = u0 :: rest) (hol : one.length ≤ 100)
    (hD0 : D[0]? = some (l0, some h0)) (hwh : (N : Int) * w = whole) (ho : o < N) (hw : 1 ≤ w ∧ w ≤ 100)
    (c12 : F 12 [.dat (place k a len D)] μ = some (.ok (.dat (.list (rowsD k a len N w))), μ))
    (cF : F 17 [.dat (place k a len D), .dat (.list ((D.map (·.1)).map .int))] μ = some (.ok (.dat (place k a len [])), μ))
    (cL : F 17 [.dat (place k a len D), .dat (.list (D.map fun p => hiD p.2))] μ = some (.ok (.dat (place k (a + ((N - 1 : Nat) : Int) * w) len [])), μ))
    (cH : F 17 [.dat (place k a len D), .mref j1] μ = some (.ok (.dat (place k (a + (o : Int) * w) len [])), μ))
    (cS : u0 < h0 → o + 1 < N ∧ F 17 [.dat (place k a len D), .dat (.list (((u0 + 1) :: rest).map .int))] μ = some (.ok (.dat (place k (a + ((o + 1 : Nat) : Int) * w) len [])), μ))
    (cA1 : F 20 [.dat (place k a len D), .dat (.int (a + whole))] μ = some (.ok (.dat (.list (rowsD k a len N w))), μ1))
    (cA2 : F 20 [.dat (place k a len D), .dat (.int (a + whole - 1))] μ1 = some (.ok (.dat .none), μ2)) :
    fnRes (evBk F G ir__law_rows_right) nn__law_rows_right pr__law_rows_right.length [.dat (place k a len D), .mref j1, .dat (.int w), .dat (.int whole)] μ = some (.ok (.dat (.bool true)), μ2) := by
  have r0 : room 0 = true := by decide
  have r1 : room 1 = true := by decide
  have r4 : room 4 = true := by decide
  have hrl : room N = true := room_of (by (first | lia | omega))
  have hDr : room D.length = true := room_of (by (first | lia | omega))
  have hL : lenD (.list (rowsD k a len N w)) = some (N : Int) := (lenR_of (by rw [rows_len]; exact hrl)).trans (by rw [rows_len])
  have hsm : small w = true := small_of (by (first | lia | omega))
  have bmul : binD .Mult (.int (N : Int)) (.int w) = some (.int whole) := by simp [bd_add, bd_sub, bd_mul, bd_adds, bd_muls, bd_addl, bd_addt, hsm, hwh]
  have badd : ∀ a b, binD .Add (.int a) (.int b) = some (.int (a + b)) := fun _ _ => rfl
  have bsub : ∀ a b, binD .Sub (.int a) (.int b) = some (.int (a - b)) := fun _ _ => rfl
  have clt : ∀ a b, cmpD .Lt (.int a) (.int b) = some (decide (a < b)) := fun _ _ => rfl
  have hR : rowsD k a len N w = (rowsD k a len (N - 1) w) ++ [place k (a + ((N - 1 : Nat) : Int) * w) len []] := by
    obtain ⟨M, rfl⟩ : ∃ M, N = M + 1 := ⟨N - 1, by (first | lia | omega)⟩
    simp [rowsD, List.range_succ]
  have i0 : idxD (.list (rowsD k a len N w)) 0 = some (place k a len []) := (idx_nat _ 0 _ (by rw [rows_get hN]; simp) (by rw [rows_len]; (first | lia | omega))).1
  have iL : idxD (.list (rowsD k a len N w)) (-1) = some (place k (a + ((N - 1 : Nat) : Int) * w) len []) := by rw [hR]; exact (idx_last (by rw [rows_len]; (first | lia | omega))).2
  have iS : o + 1 < N → idxD (.list (rowsD k a len N w)) ((o : Int) + 1) = some (place k (a + ((o + 1 : Nat) : Int) * w) len []) := fun q => idx_int (by (first | lia | omega)) (by rw [show ((o : Int) + 1).toNat = o + 1 by (first | lia | omega)]; exact rows_get q) (by rw [rows_len]; (first | lia | omega))
  have hsL : shpL (rowsD k a len N w) = true := flt_shpL (h := 2) (by decide) flt_rows
  have hC : cntD (.list (rowsD k a len N w)) (place k (a + (o : Int) * w) len []) = some (.int 1) := (if_pos (by rw [hsL, lay_place]; rfl)).trans (by rw [rows_count hw.1 N ho]; rfl)
  have hI : idxOfD (.list (rowsD k a len N w)) (place k (a + (o : Int) * w) len []) = some (.int (o : Int)) := (if_pos (by rw [hsL, lay_place, rows_len, hrl]; rfl)).trans (by rw [rows_find hw.1 ho]; rfl)
  have pX : ∀ Z : Int, idxD (place k Z len []) 1 = some (.int Z) := fun Z => (idx3 (.int k) (.int Z) (.int len) (.tuple [])).2.1
  have eRR : cmpD .Eq (.list (rowsD k a len N w)) (.list (rowsD k a len N w)) = some true := cmp_eq_self (flt_shp (h := 3) (by decide) (flt_list flt_rows))
  have ne_self : ∀ Z : Int, cmpD .NotEq (place k Z len []) (place k Z len []) = some false := fun Z => cmp_ne_self shp_place
  have u1 : idxD (.list (one.map .int)) 0 = some (.int u0) := (idx_nat _ 0 _ (by rw [hone]; rfl) (by simp; (first | lia | omega))).1
  have u2 : idxD (.tuple (D.map dmD)) 0 = some (dmD (l0, some h0)) := (idx_nat _ 0 _ (by rw [List.getElem?_map, hD0]; rfl) (by simp; (first | lia | omega))).2
  have u3 : idxD (dmD (l0, some h0)) 1 = some (.int h0) := (idx2 (.int l0) (.int h0)).2
  have u4 : slcD (.list (one.map .int)) (some 1) none = some (.list (rest.map .int)) := by
    have := slc_drop (ds := one.map .int) (i := 0) (by simp; (first | lia | omega))
    simpa [hone] using this
  have u5 : binD .Add (.list [.int (u0 + 1)]) (.list (rest.map .int)) = some (.list (((u0 + 1) :: rest).map .int)) := by
    have : room ([Dat.int (u0 + 1)].length + (rest.map Dat.int).length) = true := room_of (by rw [hone] at hol; simp at hol ⊢; (first | lia | omega))
    simp only [bd_add, bd_sub, bd_mul, bd_adds, bd_muls, bd_addl, bd_addt, this, if_true]; rfl
  have cN : cmpD .NotEq (.list []) (.list []) = some false := by rfl
  have ab0 : isAbs cd__law_rows_right_3 = false := rfl
  have ab1 : isAbs .absent = true := rfl
  have ab2 : ∀ d, isAbs (.const d) = false := fun _ => rfl
  have hsum : a + ((N - 1 : Nat) : Int) * w + w = a + whole := by
    have : ((N - 1 : Nat) : Int) = (N : Int) - 1 := by (first | lia | omega)
    rw [this, ← hwh]; grind
  have or1 : ord 1 = true := by decide
  have orN : ord (N : Int) = true := rng_len N (by (first | lia | omega))
  have tN : ((N : Int) - 1).toNat = N - 1 := by (first | lia | omega)
  have hRr : room (rangeD 1 (N - 1)).length = true := room_of (by simp [rangeD]; (first | lia | omega))
  have hDm : room (D.map dmD).length = true := by simpa using hDr
  have hL' : biD .len (.list (rowsD k a len N w)) = some (.int (N : Int)) := bi_len hL
  refine f_ret rfl ?_
  unfold ir__law_rows_right
  show evBk F G _ [some (.dat (place k a len D)), some (.mref j1), some (.dat (.int w)), some (.dat (.int whole)), none, none, none, none, none, none, none, none, none, none, none] μ = _
  iterate 6 (refine k_next (by repeat' first|with_reducible (first|exact rfl|assumption|exact cmp_ne_self shp_place|exact cmp_eq_self shp_place|apply_assumption (transparency := .reducible) -exfalso only [e_const, e_loc, e_neg, e_sub, e_bin, w_cmp, w_call, e_tup, e_lst, e_bop, e_bi, e_slc1, e_cnt, e_idx, e_comp, l_nil, l_cons, deref_d, ds4, ds0, ds1, bi_add, bi_sub, c_nei, c_lt, w_eq, w_ne, b_one, w_bop, bsel_of, bsel_at, bsel_af, i_tup, i_rng2, s_asg, s_asgT, s_asgD, s_pass, s_ret, k_ret]|exact isb_r true|exact isb_r false|exact isb_t rfl|exact isb_nf rfl|(apply isb_h; assumption)|(apply isb_f; assumption)|(apply isb_t; assumption)|(apply isb_nf; assumption)|(apply call_of; assumption)|(apply not_dec_f; assumption)|exact not_dec_f rfl)|exact cmp_ne_self shp_place|exact cmp_eq_self shp_place|exact rw_lows ((clr_len _ _).trans rfl)|exact rw_highs ((clr_len _ _).trans rfl)|exact rw_gaps2 (by (first|lia|omega)) ((clr_len _ _).trans rfl) ((clr_get (by decide)).trans rfl) ((clr_get (by decide)).trans rfl)|(apply call_of; assumption)|exact isb_h (b := true) rfl|exact isb_h (b := false) rfl|exact rfl|assumption) ?_; (try dsimp only [setPs, List.zip_cons_cons, List.zip_nil_left, List.zip_nil_right, List.set_cons_succ, List.set_cons_zero]))
  have hRt : room (rangeD 1 ((N : Int) - 1).toNat).length = true := by rw [tN]; exact hRr
  (refine k_next (by repeat' first|with_reducible (first|exact rfl|assumption|exact cmp_ne_self shp_place|exact cmp_eq_self shp_place|apply_assumption (transparency := .reducible) -exfalso only [e_const, e_loc, e_neg, e_sub, e_bin, w_cmp, w_call, e_tup, e_lst, e_bop, e_bi, e_slc1, e_cnt, e_idx, e_comp, l_nil, l_cons, deref_d, ds4, ds0, ds1, bi_add, bi_sub, c_nei, c_lt, w_eq, w_ne, b_one, w_bop, bsel_of, bsel_at, bsel_af, i_tup, i_rng2, s_asg, s_asgT, s_asgD, s_pass, s_ret, k_ret]|exact isb_r true|exact isb_r false|exact isb_t rfl|exact isb_nf rfl|(apply isb_h; assumption)|(apply isb_f; assumption)|(apply isb_t; assumption)|(apply isb_nf; assumption)|(apply call_of; assumption)|(apply not_dec_f; assumption)|exact not_dec_f rfl)|exact cmp_ne_self shp_place|exact cmp_eq_self shp_place|exact rw_lows ((clr_len _ _).trans rfl)|exact rw_highs ((clr_len _ _).trans rfl)|exact rw_gaps2 (by (first|lia|omega)) ((clr_len _ _).trans rfl) ((clr_get (by decide)).trans rfl) ((clr_get (by decide)).trans rfl)|(apply call_of; assumption)|exact isb_h (b := true) rfl|exact isb_h (b := false) rfl|exact rfl|assumption) ?_; (try dsimp only [setPs, List.zip_cons_cons, List.zip_nil_left, List.zip_nil_right, List.set_cons_succ, List.set_cons_zero]))
  by_cases cc : u0 < h0
  · obtain ⟨cS1, cS2⟩ := cS cc
    have iS' := iS cS1
    (refine k_next (by repeat' first|with_reducible (first|exact rfl|assumption|exact cmp_ne_self shp_place|exact cmp_eq_self shp_place|apply_assumption (transparency := .reducible) -exfalso only [e_const, e_loc, e_neg, e_sub, e_bin, w_cmp, w_call, e_tup, e_lst, e_bop, e_bi, e_slc1, e_cnt, e_idx, e_comp, l_nil, l_cons, deref_d, ds4, ds0, ds1, bi_add, bi_sub, c_nei, c_lt, w_eq, w_ne, b_one, w_bop, bsel_of, bsel_at, bsel_af, i_tup, i_rng2, s_asg, s_asgT, s_asgD, s_pass, s_ret, k_ret]|exact isb_r true|exact isb_r false|exact isb_t rfl|exact isb_nf rfl|(apply isb_h; assumption)|(apply isb_f; assumption)|(apply isb_t; assumption)|(apply isb_nf; assumption)|(apply call_of; assumption)|(apply not_dec_f; assumption)|exact not_dec_f rfl)|exact cmp_ne_self shp_place|exact cmp_eq_self shp_place|exact rw_lows ((clr_len _ _).trans rfl)|exact rw_highs ((clr_len _ _).trans rfl)|exact rw_gaps2 (by (first|lia|omega)) ((clr_len _ _).trans rfl) ((clr_get (by decide)).trans rfl) ((clr_get (by decide)).trans rfl)|(apply call_of; assumption)|exact isb_h (b := true) rfl|exact isb_h (b := false) rfl|exact rfl|assumption) ?_; (try dsimp only [setPs, List.zip_cons_cons, List.zip_nil_left, List.zip_nil_right, List.set_cons_succ, List.set_cons_zero]))
    (refine k_ret (by repeat' first|with_reducible (first|exact rfl|assumption|exact cmp_ne_self shp_place|exact cmp_eq_self shp_place|apply_assumption (transparency := .reducible) -exfalso only [e_const, e_loc, e_neg, e_sub, e_bin, w_cmp, w_call, e_tup, e_lst, e_bop, e_bi, e_slc1, e_cnt, e_idx, e_comp, l_nil, l_cons, deref_d, ds4, ds0, ds1, bi_add, bi_sub, c_nei, c_lt, w_eq, w_ne, b_one, w_bop, bsel_of, bsel_at, bsel_af, i_tup, i_rng2, s_asg, s_asgT, s_asgD, s_pass, s_ret, k_ret]|exact isb_r true|exact isb_r false|exact isb_t rfl|exact isb_nf rfl|(apply isb_h; assumption)|(apply isb_f; assumption)|(apply isb_t; assumption)|(apply isb_nf; assumption)|(apply call_of; assumption)|(apply not_dec_f; assumption)|exact not_dec_f rfl)|exact cmp_ne_self shp_place|exact cmp_eq_self shp_place|exact rw_lows ((clr_len _ _).trans rfl)|exact rw_highs ((clr_len _ _).trans rfl)|exact rw_gaps2 (by (first|lia|omega)) ((clr_len _ _).trans rfl) ((clr_get (by decide)).trans rfl) ((clr_get (by decide)).trans rfl)|(apply call_of; assumption)|exact isb_h (b := true) rfl|exact isb_h (b := false) rfl|exact rfl|assumption))
  · (refine k_next (by repeat' first|with_reducible (first|exact rfl|assumption|exact cmp_ne_self shp_place|exact cmp_eq_self shp_place|apply_assumption (transparency := .reducible) -exfalso only [e_const, e_loc, e_neg, e_sub, e_bin, w_cmp, w_call, e_tup, e_lst, e_bop, e_bi, e_slc1, e_cnt, e_idx, e_comp, l_nil, l_cons, deref_d, ds4, ds0, ds1, bi_add, bi_sub, c_nei, c_lt, w_eq, w_ne, b_one, w_bop, bsel_of, bsel_at, bsel_af, i_tup, i_rng2, s_asg, s_asgT, s_asgD, s_pass, s_ret, k_ret]|exact isb_r true|exact isb_r false|exact isb_t rfl|exact isb_nf rfl|(apply isb_h; assumption)|(apply isb_f; assumption)|(apply isb_t; assumption)|(apply isb_nf; assumption)|(apply call_of; assumption)|(apply not_dec_f; assumption)|exact not_dec_f rfl)|exact cmp_ne_self shp_place|exact cmp_eq_self shp_place|exact rw_lows ((clr_len _ _).trans rfl)|exact rw_highs ((clr_len _ _).trans rfl)|exact rw_gaps2 (by (first|lia|omega)) ((clr_len _ _).trans rfl) ((clr_get (by decide)).trans rfl) ((clr_get (by decide)).trans rfl)|(apply call_of; assumption)|exact isb_h (b := true) rfl|exact isb_h (b := false) rfl|exact rfl|assumption) ?_; (try dsimp only [setPs, List.zip_cons_cons, List.zip_nil_left, List.zip_nil_right, List.set_cons_succ, List.set_cons_zero]))
    (refine k_ret (by repeat' first|with_reducible (first|exact rfl|assumption|exact cmp_ne_self shp_place|exact cmp_eq_self shp_place|apply_assumption (transparency := .reducible) -exfalso only [e_const, e_loc, e_neg, e_sub, e_bin, w_cmp, w_call, e_tup, e_lst, e_bop, e_bi, e_slc1, e_cnt, e_idx, e_comp, l_nil, l_cons, deref_d, ds4, ds0, ds1, bi_add, bi_sub, c_nei, c_lt, w_eq, w_ne, b_one, w_bop, bsel_of, bsel_at, bsel_af, i_tup, i_rng2, s_asg, s_asgT, s_asgD, s_pass, s_ret, k_ret]|exact isb_r true|exact isb_r false|exact isb_t rfl|exact isb_nf rfl|(apply isb_h; assumption)|(apply isb_f; assumption)|(apply isb_t; assumption)|(apply isb_nf; assumption)|(apply call_of; assumption)|(apply not_dec_f; assumption)|exact not_dec_f rfl)|exact cmp_ne_self shp_place|exact cmp_eq_self shp_place|exact rw_lows ((clr_len _ _).trans rfl)|exact rw_highs ((clr_len _ _).trans rfl)|exact rw_gaps2 (by (first|lia|omega)) ((clr_len _ _).trans rfl) ((clr_get (by decide)).trans rfl) ((clr_get (by decide)).trans rfl)|(apply call_of; assumption)|exact isb_h (b := true) rfl|exact isb_h (b := false) rfl|exact rfl|assumption))
end
end Mine
end
section
open PySem PySem.W PyProof.Rows PySem.Calls
set_option Elab.async false
set_option maxRecDepth 100000
set_option linter.unusedVariables false
set_option linter.unusedSimpArgs false
namespace Mine

theorem Dg.zero : ∀ {ls ms ds : List Int}, Dg ls ms ds → Dg ls ms (ms.map fun _ => 0) ∧ vl ms (ms.map fun _ => 0) = 0 ∧ (mkD ls ms).map (·.1) = addL ls (ms.map fun _ => 0)
  | _, _, _, .nil => ⟨.nil, rfl, rfl⟩
  | _, _, _, .cons a b g => by
    obtain ⟨h1, h2, h3⟩ := Dg.zero g
    refine ⟨.cons (by dsimp only; (first | lia | omega)) (by dsimp only; (first | lia | omega)) h1, by simp [vl, h2], ?_⟩
    simp only [mkD, List.map_cons, addL, h3, Int.add_zero]
theorem Dg.full : ∀ {ls ms ds : List Int}, Dg ls ms ds → Dg ls ms (ms.map (· - 1)) ∧ vl ms (ms.map (· - 1)) = pr ms - 1 ∧ ((mkD ls ms).map fun p => hiD p.2) = (addL ls (ms.map (· - 1))).map .int
  | _, _, _, .nil => ⟨.nil, rfl, rfl⟩
  | _, _, _, .cons (l := l) (m := m) a b g => by
    obtain ⟨h1, h2, h3⟩ := Dg.full g
    refine ⟨.cons (by dsimp only; (first | lia | omega)) (by dsimp only; (first | lia | omega)) h1, ?_, ?_⟩
    · simp only [List.map_cons, vl, h2, pr]; grind
    · simp only [mkD, List.map_cons, addL, h3]
      congr 1
      simp only [hiD]
      congr 1; (first | lia | omega)
section
variable (R : Obj → List (Str × Value) → Prop)
theorem sp_rows (n : Nat) {k a len wide whole : Int} {ls ms ds : List Int} {j1 : Nat} {μ : Mu} (g1 : Dg ls ms ds) (hne : ds ≠ []) (hlen : ds.length ≤ 100) (b1 : sml 100 ls) (b2 : sml 100 ms) (hp : pr ms ≤ 100)
    (hd1 : deref μ (.mref j1) = some (.list ((addL ls ds).map .int))) (hw : wide = usz k len) (hw0 : 1 ≤ wide ∧ wide ≤ 100) (hwh : whole = pr ms * wide) (ha : 0 ≤ a) (hb : a + whole ≤ 1000) :
    ∃ μ', semF R (n + 6) 22 [.dat (place k a len (mkD ls ms)), .mref j1, .dat (.int wide), .dat (.int whole)] μ = some (.ok (.dat (.bool true)), μ ++ μ') := by
  have hu : -100000 ≤ usz k len ∧ usz k len ≤ 100000 := by (first | lia | omega)
  have n1 := mkD_len g1
  have n2 := addL_len g1
  have l1 := g1.len
  have s1 := addL_sml g1 b1 b2
  have hv := vl_lt g1
  have hpp := pr_pos g1
  have inc : ∀ {b : Int} {xs : List Int}, b ≤ 1000 → sml b xs → sml 1000 xs := fun hb h x hx => by have := h x hx; (first | lia | omega)
  have f0 : fits (mkD ls ms) [] := fits_mk g1 b1 b2 (by intro x hx; simp at hx)
  have hsp : ∀ {es : List Int} {S : Vl}, Dg ls ms es → deref μ S = some (.list ((addL ls es).map .int)) → semF R (n + 5) 17 [.dat (place k a len (mkD ls ms)), S] μ = some (.ok (.dat (place k (a + vl ms es * usz k len) len [])), μ) := fun {es S} g hS => by
    have q := sp_spot R (n + 1) (k := k) (a := a) (len := len) hS (fits_mk g b1 b2 (inc (by (first | lia | omega)) (addL_sml g b1 b2))) (by rw [n1]; (first | lia | omega)) (by rw [addL_len g, ← g.len.1, l1.1]; (first | lia | omega)) hu
    rw [spot_mk g] at q; exact q
  have he : ext (mkD ls ms) 1 = some (pr ms) := by rw [ext_mk g1]; simp
  obtain ⟨gz, vz, ez⟩ := Dg.zero g1
  obtain ⟨gf, vf, ef⟩ := Dg.full g1
  obtain ⟨N, hN⟩ : ∃ N : Nat, pr ms = (N : Int) := ⟨(pr ms).toNat, by (first | lia | omega)⟩
  obtain ⟨o, ho⟩ : ∃ o : Nat, vl ms ds = (o : Int) := ⟨(vl ms ds).toNat, by (first | lia | omega)⟩
  have c12 := sp_elements R (n + 2) (k := k) (a := a) (len := len) (μ := μ) f0 hu he (by (first | lia | omega))
  rw [show (pr ms).toNat = N by (first | lia | omega), ← hw] at c12
  have cF := hsp gz (S := .dat (.list ((addL ls (ms.map fun _ => 0)).map .int))) rfl
  rw [vz, ← ez, show a + 0 * usz k len = a by (first | lia | omega)] at cF
  have cL := hsp gf (S := .dat (.list ((addL ls (ms.map (· - 1))).map .int))) rfl
  rw [vf, ← ef, hN, show (N : Int) - 1 = ((N - 1 : Nat) : Int) by (first | lia | omega), ← hw] at cL
  have cH := hsp g1 hd1
  rw [ho, ← hw] at cH
  have hw1 : 1 * 1 ≤ pr ms * wide := Int.mul_le_mul (by (first | lia | omega)) (by (first | lia | omega)) (by (first | lia | omega)) (by (first | lia | omega))
  obtain ⟨μ1, cA1⟩ := sp_all_held R n (k := k) (a := a) (len := len) (u := a + whole) (μ := μ) f0 hu he (by (first | lia | omega)) ha (by (first | lia | omega))
  obtain ⟨μ2, cA2⟩ := sp_all_held R n (k := k) (a := a) (len := len) (u := a + whole - 1) (μ := μ ++ μ1) f0 hu he (by (first | lia | omega)) ha (by (first | lia | omega))
  rw [← hw, ← hwh, if_neg (by (first | lia | omega)), show (pr ms).toNat = N by (first | lia | omega)] at cA1
  rw [← hw, ← hwh, if_pos (by (first | lia | omega))] at cA2
  refine ⟨μ1 ++ μ2, ?_⟩
  rw [← List.append_assoc]
  have key : fnRes (evBk (semF R (n + 5)) (semG R (n + 5)) ir__law_rows_right) nn__law_rows_right pr__law_rows_right.length [.dat (place k a len (mkD ls ms)), .mref j1, .dat (.int wide), .dat (.int whole)] μ = some (.ok (.dat (.bool true)), μ ++ μ1 ++ μ2) := by
    cases g1 with
    | nil => exact absurd rfl hne
    | cons p q g =>
    rename_i l m d ls ms ds
    refine rw_walk (u0 := l + d) (l0 := l) (h0 := l + m - 1) (rest := addL ls ds) (o := o) (N := N) hd1 (by (first | lia | omega)) (by (first | lia | omega)) (by (first | lia | omega)) rfl (by (first | lia | omega)) rfl (by rw [hwh, hN]) (by (first | lia | omega)) (by (first | lia | omega)) c12 cF cL cH ?_ cA1 cA2
    intro cc
    have g' : Dg (l :: ls) (m :: ms) ((d + 1) :: ds) := .cons (by (first | lia | omega)) (by (first | lia | omega)) g
    have hv' := vl_lt g'
    have ev : vl (m :: ms) ((d + 1) :: ds) = vl (m :: ms) (d :: ds) + 1 := by simp only [vl]; (first | lia | omega)
    have eu : (l + d + 1) :: addL ls ds = addL (l :: ls) ((d + 1) :: ds) := by simp only [addL]; congr 1; (first | lia | omega)
    refine ⟨by (first | lia | omega), ?_⟩
    rw [eu, hsp g' rfl, ev, ho, hw]
    rfl
  unfold semF
  exact key
end
end Mine
end
section
open PySem PySem.W PyProof.Rows PySem.Calls
set_option Elab.async false
set_option maxRecDepth 100000
set_option linter.unusedVariables false
set_option linter.unusedSimpArgs false
namespace Mine

theorem fillD_get : ∀ (vs : List Dat) (ds : List Dat) (A q : Nat), A + vs.length ≤ ds.length → (fillD ds (A : Int) vs)[q]? = if A ≤ q ∧ q < A + vs.length then vs[q - A]? else ds[q]?
  | [], ds, A, q, h => by
    rw [fillD, if_neg (by simp)]
  | v :: vs, ds, A, q, h => by
    have h' : A + 1 + vs.length ≤ (ds.set A v).length := by rw [List.length_set]; simp at h; (first | lia | omega)
    have ih := fillD_get vs (ds.set A v) (A + 1) q h'
    have e : (A : Int) + 1 = ((A + 1 : Nat) : Int) := by (first | lia | omega)
    rw [fillD, e, Int.toNat_natCast, ih]
    simp only [List.length_cons] at h ⊢
    by_cases c : q = A
    · subst c
      rw [if_neg (by (first | lia | omega)), if_pos (by (first | lia | omega)), List.getElem?_set_self (by (first | lia | omega))]; simp
    · rw [List.getElem?_set_ne (by (first | lia | omega))]
      by_cases c2 : A + 1 ≤ q ∧ q < A + 1 + vs.length
      · rw [if_pos c2, if_pos (by (first | lia | omega)), show q - A = (q - (A + 1)) + 1 by (first | lia | omega), List.getElem?_cons_succ]
      · rw [if_neg c2, if_neg (by (first | lia | omega))]
noncomputable def blk (ds : List Dat) (A w : Int) : List Dat := (ds.drop A.toNat).take w.toNat
theorem blk_get {ds : List Dat} {A w q : Nat} : (blk ds A w)[q]? = if q < w then ds[A + q]? else none := by
  unfold blk
  rw [Int.toNat_natCast, Int.toNat_natCast, List.getElem?_take, List.getElem?_drop]
theorem blk_same {ds vs : List Dat} {A w : Int} (hA : 0 ≤ A) (hv : vs.length = w.toNat) (hw : 0 ≤ w) (hb : A + w ≤ ds.length) : blk (fillD ds A vs) A w = vs := by
  obtain ⟨A, rfl⟩ := Int.eq_ofNat_of_zero_le hA
  obtain ⟨w, rfl⟩ := Int.eq_ofNat_of_zero_le hw
  rw [Int.toNat_natCast] at hv
  apply List.ext_getElem?
  intro q
  rw [blk_get, fillD_get _ _ _ _ (by (first | lia | omega))]
  by_cases c : q < w
  · rw [if_pos c, if_pos (by (first | lia | omega)), show A + q - A = q by (first | lia | omega)]
  · rw [if_neg c, List.getElem?_eq_none (by (first | lia | omega))]
theorem blk_other {ds vs : List Dat} {A B w : Int} (hA : 0 ≤ A) (hB : 0 ≤ B) (hv : vs.length = w.toNat) (hw : 0 ≤ w) (hb : A + w ≤ ds.length) (hd : A + w ≤ B ∨ B + w ≤ A) : blk (fillD ds A vs) B w = blk ds B w := by
  obtain ⟨A, rfl⟩ := Int.eq_ofNat_of_zero_le hA
  obtain ⟨B, rfl⟩ := Int.eq_ofNat_of_zero_le hB
  obtain ⟨w, rfl⟩ := Int.eq_ofNat_of_zero_le hw
  rw [Int.toNat_natCast] at hv
  apply List.ext_getElem?
  intro q
  rw [blk_get, blk_get, fillD_get _ _ _ _ (by (first | lia | omega))]
  by_cases c : q < w
  · rw [if_pos c, if_pos c, if_neg (by (first | lia | omega))]
  · rw [if_neg c, if_neg c]
theorem blk_blank {n : Nat} {A w : Int} (hA : 0 ≤ A) (hw : 0 ≤ w) (hb : A + w ≤ n) : blk (List.replicate n .none) A w = List.replicate w.toNat .none := by
  unfold blk
  rw [List.drop_replicate, List.take_replicate]
  congr 1; (first | lia | omega)
theorem blk_at {ds : List Dat} {A w : Int} {b : List Dat} (hA : 0 ≤ A) (hw : 0 ≤ w) (hb : A + w ≤ ds.length) (h : blk ds A w = b) {q : Nat} (hq : (q : Int) < w) : ds[(A + q).toNat]? = b[q]? := by
  obtain ⟨A, rfl⟩ := Int.eq_ofNat_of_zero_le hA
  obtain ⟨w, rfl⟩ := Int.eq_ofNat_of_zero_le hw
  rw [← h, blk_get, if_pos (by (first | lia | omega)), show ((A : Int) + q).toNat = A + q by (first | lia | omega)]

section
variable (R : Obj → List (Str × Value) → Prop)
noncomputable def St (k len : Int) (v : Dat) (cs : List Dat) : Prop := ∀ (n : Nat) (μ : Mu) (nn ch : Nat) (ds : List Dat) (A : Int), μ[if k = 5 then ch else nn]? = some (.lst ds) → ds.length ≤ 1000 → 0 ≤ A → A + usz k len ≤ ds.length →
  semG R (n + 4) 1 [.mem nn ch, .dat (place k A len []), .dat v] μ = some (.ok (.dat .none), μ.set (if k = 5 then ch else nn) (.lst (fillD ds A cs)))
noncomputable def Hd (k len : Int) (v : Dat) (cs : List Dat) : Prop := ∀ (n : Nat) (μ : Mu) (nn ch : Nat) (ds : List Dat) (A : Int), μ[if k = 5 then ch else nn]? = some (.lst ds) → ds.length ≤ 1000 → 0 ≤ A → A + usz k len ≤ ds.length → blk ds A (usz k len) = cs →
  semF R (n + 4) 19 [.mem nn ch, .dat (place k A len [])] μ = some (.ok (.dat v), μ)
noncomputable def wrN (k : Int) (v : Dat) : List Dat := if k = 3 then (match v with
  | .tuple [u, w] => [cellD 1 u, cellD 1 w]
  | _ => []) else if k = 2 then [cellD 2 v, cellD 6 v] else [cellD k v]
theorem usz_num {k len : Int} (h : k ≠ 5) : usz k len = usz k 0 := by simp [usz, h]
theorem st_num {k len : Int} {v : Dat} (hk : k ≠ 5) (h3 : k = 3 → ∃ u w, v = .tuple [u, w]) : St R k len v (wrN k v) := by
  intro n μ nn ch ds A hj hl h0 hb
  rw [if_neg hk] at hj ⊢
  rw [usz_num hk] at hb
  by_cases c3 : k = 3
  · subst c3
    obtain ⟨u, w, rfl⟩ := h3 rfl
    exact sp_store_n R (n + 3) hk (sp_store_number R (n + 1) hj hl hk h0 hb (p := (cellD 1 u, some (cellD 1 w))) rfl)
  · by_cases c2 : k = 2
    · subst c2
      exact sp_store_n R (n + 3) hk (sp_store_number R (n + 1) hj hl hk h0 hb (p := (cellD 2 v, some (cellD 6 v))) rfl)
    · have := sp_store_n R (n + 3) hk (len := len) (ch := ch) (sp_store_number R (n + 1) hj hl hk h0 hb (v := v) (p := (cellD k v, none)) (by simp [stN, c3, c2]))
      rw [this]
      simp [wrN, c3, c2, putN', fillD]
theorem hd_num {k len : Int} {v : Dat} (hk : k ≠ 5) (h3 : k = 3 → ∃ u w, v = .tuple [u, w]) : Hd R k len v (wrN k v) := by
  intro n μ nn ch ds A hj hl h0 hb hbl
  rw [if_neg hk] at hj
  rw [usz_num hk] at hb hbl
  refine sp_held_ok R (n + 3) (sp_load R (n + 2) ?_)
  rw [if_neg hk]
  have hd := deref_lst hj
  by_cases c3 : k = 3
  · subst c3
    obtain ⟨u, w, rfl⟩ := h3 rfl
    have x1 := blk_at h0 (by decide) hb hbl (q := 0) (by decide)
    have x2 := blk_at h0 (by decide) hb hbl (q := 1) (by decide)
    simp only [Int.natCast_zero, Int.add_zero] at x1
    exact sp_load_number R n hd hl hk h0 hb (d1 := cellD 1 u) (d2 := cellD 1 w) x1 (fun _ => x2) (.inr ⟨_, _, rfl⟩) (.inr ⟨_, _, rfl⟩)
  · by_cases c2 : k = 2
    · subst c2
      have x1 := blk_at h0 (by decide) hb hbl (q := 0) (by decide)
      have x2 := blk_at h0 (by decide) hb hbl (q := 1) (by decide)
      simp only [Int.natCast_zero, Int.add_zero] at x1
      exact sp_load_number R n hd hl hk h0 hb (d1 := cellD 2 v) (d2 := cellD 6 v) x1 (fun _ => x2) (.inr ⟨_, _, rfl⟩) (.inr ⟨_, _, rfl⟩)
    · have hu : usz k 0 = 1 := by simp [usz, hk, c2, c3]
      rw [hu] at hbl
      have x1 := blk_at h0 (by decide) (by (first | lia | omega)) hbl (q := 0) (by decide)
      simp only [Int.natCast_zero, Int.add_zero] at x1
      have e : wrN k v = [cellD k v] := by simp [wrN, c3, c2]
      rw [e] at x1
      rw [sp_load_number R n hd hl hk h0 hb (d1 := cellD k v) (d2 := .none) x1 (fun q => by (first | lia | omega)) (.inr ⟨_, _, rfl⟩) (.inl rfl)]
      simp [ldN, c3, c2, rdC, cellD, oE]
theorem hd_blank_num {k len : Int} (hk : k ≠ 5) : Hd R k len .none (List.replicate (usz k len).toNat .none) := by
  intro n μ nn ch ds A hj hl h0 hb hbl
  rw [if_neg hk] at hj
  rw [usz_num hk] at hb hbl
  have hd := deref_lst hj
  have hu1 : 1 ≤ usz k 0 := by unfold usz; rw [if_neg hk]; split <;> (try split) <;> (first | lia | omega)
  have x1 := blk_at h0 (by (first | lia | omega)) hb hbl (q := 0) (by (first | lia | omega))
  simp only [Int.natCast_zero, Int.add_zero] at x1
  rw [List.getElem?_replicate_of_lt (by (first | lia | omega))] at x1
  have x2 : usz k 0 = 2 → ds[(A + 1).toNat]? = some .none := fun q => by
    have := blk_at h0 (by (first | lia | omega)) hb hbl (q := 1) (by (first | lia | omega))
    rw [List.getElem?_replicate_of_lt (by (first | lia | omega))] at this
    exact this
  have ld := sp_load_number R (n + 1) hd hl hk h0 hb (d1 := .none) (d2 := .none) x1 x2 (.inl rfl) (.inl rfl)
  have e : ldN k .none .none = none := by unfold ldN; split <;> rfl
  rw [e] at ld
  exact sp_held_err R (n + 3) (sp_load R (n + 2) (by rw [if_neg hk]; exact ld))
structure TextOk (x : Str) : Prop where
  pad : okText x
  shp : shpL (charsD x) = true
  any : (charsD x).any (fun y => eqD y .none) = false
  join : joinD (.str (Str.ofString "")) (.list (charsD x)) = some (.str x)
theorem st_text {len : Int} {x : Str} (hx : TextOk x) (hl : (x.length : Int) = len) (hs : len ≤ 1000) : St R 5 len (.str x) (charsD x) := by
  intro n μ nn ch ds A hj hl' h0 hb
  simp only [if_true] at hj ⊢
  have hu : usz 5 len = len := rfl
  rw [hu] at hb
  have hp := sp_pad R (n + 2) (μ := μ) hx.pad
  rw [hl] at hp
  exact sp_store_t R (n + 3) hp (sp_store_text R (n + 1) hj hl' (by (first | lia | omega)) h0 (by (first | lia | omega)))
theorem hd_text {len : Int} {x : Str} {cs : List Dat} (h1 : shpL cs = true) (h2 : cs.any (fun y => eqD y .none) = false) (h3 : joinD (.str (Str.ofString "")) (.list cs) = some (.str x)) (hn : 0 ≤ len) : Hd R 5 len (.str x) cs := by
  intro n μ nn ch ds A hj hl' h0 hb hbl
  simp only [if_true] at hj
  have hu : usz 5 len = len := rfl
  rw [hu] at hb hbl
  unfold blk at hbl
  have ld := sp_load_text R (n + 1) (deref_lst hj) hl' h0 hn hb (by rw [hbl]; exact h1)
  rw [hbl, h2, h3] at ld
  exact sp_held_ok R (n + 3) (sp_load R (n + 2) (by rw [if_pos rfl]; exact ld))
theorem flt_nones (n : Nat) : ∀ d ∈ List.replicate n Dat.none, flt 0 d := fun d h => by rw [List.eq_of_mem_replicate h]; exact flt_none
theorem hd_blank_text {len : Int} (hn : 1 ≤ len) : Hd R 5 len .none (List.replicate (usz 5 len).toNat .none) := by
  intro n μ nn ch ds A hj hl' h0 hb hbl
  simp only [if_true] at hj
  have hu : usz 5 len = len := rfl
  rw [hu] at hb hbl
  unfold blk at hbl
  have ld := sp_load_text R (n + 1) (deref_lst hj) hl' h0 (by (first | lia | omega)) hb (by rw [hbl]; exact flt_shpL (h := 0) (by decide) (flt_nones _))
  have hany : (List.replicate len.toNat Dat.none).any (fun y => eqD y .none) = true := by
    rw [List.any_eq_true]
    exact ⟨.none, List.mem_replicate.mpr ⟨by (first | lia | omega), rfl⟩, rfl⟩
  rw [hbl, hany, if_pos rfl] at ld
  exact sp_held_err R (n + 3) (sp_load R (n + 2) (by rw [if_pos rfl]; exact ld))
theorem undef_at {k len : Int} (hlen : 0 ≤ usz k len) (hu : -100000 ≤ usz k len ∧ usz k len ≤ 100000) (n : Nat) (μ : Mu) (nn ch : Nat) (ds : List Dat) (A : Int) (hj : μ[if k = 5 then ch else nn]? = some (.lst ds)) (hl : ds.length ≤ 1000) (h0 : 0 ≤ A) (hb : A + usz k len ≤ ds.length) :
    semG R (n + 4) 2 [.mem nn ch, .dat (place k A len [])] μ = some (.ok (.dat .none), μ.set (if k = 5 then ch else nn) (.lst (fillD ds A (List.replicate (usz k len).toNat .none)))) := by
  have sp := sp_span R n (k := k) (a := A) (len := len) (dims := []) (μ := μ) ⟨by intro p hp; simp at hp, by intro p hp; simp at hp⟩ hu
  have e : (ext [] 1).getD 1 * usz k len = usz k len := by simp [ext]
  rw [e] at sp
  have un := sp_undefine_cells R (n + 1) (nn := nn) (ch := ch) (j := if k = 5 then ch else nn) (b := decide (k = 5)) (lo := A) (hi := A + usz k len) (by by_cases c : k = 5 <;> simp [c]) hj hl h0 (by (first | lia | omega)) (by (first | lia | omega))
  rw [show A + usz k len - A = usz k len by (first | lia | omega)] at un
  exact sp_undefine R (n + 3) sp un
end
end Mine
end
section
open PySem PySem.W PyProof.Rows PySem.Calls
set_option Elab.async false
set_option maxRecDepth 100000
set_option maxHeartbeats 4000000
set_option linter.unusedVariables false
set_option linter.unusedSimpArgs false
namespace Mine

noncomputable def due1 (v1 v2 x y d : Dat) : Dat := if eqD d y then v2 else if eqD d x then v1 else .none
noncomputable def due2 (v2 x y d : Dat) : Dat := if eqD d x then .none else if eqD d y then v2 else .none
noncomputable def pairsD : List Dat := [.tuple [.int 7, .int (-8)], .tuple [.tuple [.int 5, .int (-1)], .tuple [.int 25, .int 3]], .tuple [.tuple [.int 125, .int (-2)], .tuple [.int 3, .int 0]], .tuple [.tuple [.tuple [.int 1, .int 0], .tuple [.int 0, .int 0]], .tuple [.tuple [.int 0, .int 0], .tuple [.int 5, .int (-1)]]], .tuple [.bool true, .bool false]]
theorem cmp_eq_row {k a len : Int} {n : Nat} {w : Int} {X : Int} {d : Dat} (h : d ∈ rowsD k a len n w) : cmpD .Eq d (place k X len []) = some (eqD d (place k X len [])) := by
  simp only [cd_eq, cd_ne, cd_lt, cd_le, cd_gt, cd_ge, cd_inl, cd_int, flt_shp (by decide) (flt_rows d h), shp_place, Bool.and_self, if_true]
section
variable {F G : Nat → List Vl → Mu → RR Vl} {μ : Mu} {j1 j2 N : Nat} {one : List Int} {D : List (Int × Option Int)}
theorem st_due1 {σ : Slots} {k a len w X Y : Int} {v1 v2 : Dat} (hl : σ.length = 19) (h9 : σ[9]? = some (some (.dat v1))) (h10 : σ[10]? = some (some (.dat v2))) (h12 : σ[12]? = some (some (.dat (place k X len [])))) (h13 : σ[13]? = some (some (.dat (place k Y len [])))) :
    evComp (fun σ μ => evE F G el__law_storage_right_0 σ μ) none (.one 15) σ (rowsD k a len N w) μ = some ((rowsD k a len N w).map (due1 v1 v2 (place k X len []) (place k Y len [])), μ) := by
  refine comp_mapD fun d hd => ⟨_, setT_at (by rw [hl]; decide) _, ?_⟩
  have e15 := ss (σ := σ) (x := some (.dat d)) (i := 15) (by rw [hl]; decide)
  have c : ∀ {Z : Int} {j : Nat}, σ[j]? = some (some (.dat (place k Z len []))) → 15 ≠ j → evE F G (.cmp .Eq (.loc 15) (.loc j)) (σ.set 15 (some (.dat d))) μ = some (.ok (.dat (.bool (eqD d (place k Z len [])))), μ) := fun h q => w_cmp (e_loc e15) (e_loc (sg h q)) (w_eq (deref_d _ _) (deref_d _ _) (cmp_eq_row hd)) rfl
  unfold due1
  by_cases q : eqD d (place k Y len []) = true
  · rw [if_pos q]; exact w_ite (c h13 (by decide)) (isb_h q) (sel_t (e_loc (sg h10 (by decide))))
  · rw [if_neg q]
    refine w_ite (c h13 (by decide)) (isb_h (Bool.eq_false_iff.mpr q)) (sel_f ?_)
    by_cases q : eqD d (place k X len []) = true
    · rw [if_pos q]; exact w_ite (c h12 (by decide)) (isb_h q) (sel_t (e_loc (sg h9 (by decide))))
    · rw [if_neg q]; exact w_ite (c h12 (by decide)) (isb_h (Bool.eq_false_iff.mpr q)) (sel_f e_const)
theorem st_due2 {σ : Slots} {k a len w X Y : Int} {v2 : Dat} (hl : σ.length = 19) (h10 : σ[10]? = some (some (.dat v2))) (h12 : σ[12]? = some (some (.dat (place k X len [])))) (h13 : σ[13]? = some (some (.dat (place k Y len [])))) :
    evComp (fun σ μ => evE F G el__law_storage_right_2 σ μ) none (.one 17) σ (rowsD k a len N w) μ = some ((rowsD k a len N w).map (due2 v2 (place k X len []) (place k Y len [])), μ) := by
  refine comp_mapD fun d hd => ⟨_, setT_at (by rw [hl]; decide) _, ?_⟩
  have e17 := ss (σ := σ) (x := some (.dat d)) (i := 17) (by rw [hl]; decide)
  have c : ∀ {Z : Int} {j : Nat}, σ[j]? = some (some (.dat (place k Z len []))) → 17 ≠ j → evE F G (.cmp .Eq (.loc 17) (.loc j)) (σ.set 17 (some (.dat d))) μ = some (.ok (.dat (.bool (eqD d (place k Z len [])))), μ) := fun h q => w_cmp (e_loc e17) (e_loc (sg h q)) (w_eq (deref_d _ _) (deref_d _ _) (cmp_eq_row hd)) rfl
  unfold due2
  by_cases q : eqD d (place k X len []) = true
  · rw [if_pos q]; exact w_ite (c h12 (by decide)) (isb_h q) (sel_t e_const)
  · rw [if_neg q]
    refine w_ite (c h12 (by decide)) (isb_h (Bool.eq_false_iff.mpr q)) (sel_f ?_)
    by_cases q : eqD d (place k Y len []) = true
    · rw [if_pos q]; exact w_ite (c h13 (by decide)) (isb_h q) (sel_t (e_loc (sg h10 (by decide))))
    · rw [if_neg q]; exact w_ite (c h13 (by decide)) (isb_h (Bool.eq_false_iff.mpr q)) (sel_f e_const)
theorem st_held1 {σ : Slots} {nn ch : Nat} {rows : List Dat} {g : Dat → Dat} (hl : σ.length = 19) (h11 : σ[11]? = some (some (.mem nn ch))) (h : ∀ d ∈ rows, F 19 [.mem nn ch, .dat d] μ = some (.ok (.dat (g d)), μ)) :
    evComp (fun σ μ => evE F G el__law_storage_right_1 σ μ) none (.one 16) σ rows μ = some (rows.map g, μ) :=
  comp_mapD fun d hd => ⟨_, setT_at (by rw [hl]; decide) _, e_call (l_cons (e_loc (sg h11 (by decide))) (l_cons (e_loc (ss (by rw [hl]; decide))) l_nil)) (h d hd)⟩
theorem st_held2 {σ : Slots} {nn ch : Nat} {rows : List Dat} {g : Dat → Dat} (hl : σ.length = 19) (h11 : σ[11]? = some (some (.mem nn ch))) (h : ∀ d ∈ rows, F 19 [.mem nn ch, .dat d] μ = some (.ok (.dat (g d)), μ)) :
    evComp (fun σ μ => evE F G el__law_storage_right_3 σ μ) none (.one 18) σ rows μ = some (rows.map g, μ) :=
  comp_mapD fun d hd => ⟨_, setT_at (by rw [hl]; decide) _, e_call (l_cons (e_loc (sg h11 (by decide))) (l_cons (e_loc (ss (by rw [hl]; decide))) l_nil)) (h d hd)⟩
end
end Mine
namespace Mine
section
variable {F G : Nat → List Vl → Mu → RR Vl} {μ : Mu} {j1 j2 N : Nat} {one : List Int} {D : List (Int × Option Int)}
theorem st_walk {k a len w whole X Y : Int} {v1 v2 : Dat} {nn ch : Nat} {μ1 μ2 μ3 μ4 : Mu} (hN : N ≤ 100) (f1 : flt 3 v1) (f2 : flt 3 v2)
    (hv : if k = 5 then slcD (.str (Str.ofString "abcd")) none (some len) = some v1 ∧ slcD (.str (Str.ofString "wxyz")) none (some len) = some v2 else idxD (.list pairsD) k = some (.tuple [v1, v2]))
    (c27 : F 27 (if k = 5 then [.dat (.int 0), .dat (.int (a + whole))] else [.dat (.int (a + whole)), .dat (.int 0)]) μ = some (.ok (.mem nn ch), μ1))
    (cX : F 17 [.dat (place k a len D), .mref j1] μ1 = some (.ok (.dat (place k X len [])), μ1))
    (cY : F 17 [.dat (place k a len D), .mref j2] μ1 = some (.ok (.dat (place k Y len [])), μ1))
    (gX : G 1 [.mem nn ch, .dat (place k X len []), .dat v1] μ1 = some (.ok (.dat .none), μ2))
    (gY : G 1 [.mem nn ch, .dat (place k Y len []), .dat v2] μ2 = some (.ok (.dat .none), μ3))
    (gU : G 2 [.mem nn ch, .dat (place k X len [])] μ3 = some (.ok (.dat .none), μ4))
    (c12 : ∀ μ, F 12 [.dat (place k a len D)] μ = some (.ok (.dat (.list (rowsD k a len N w))), μ))
    (h1 : ∀ d ∈ rowsD k a len N w, F 19 [.mem nn ch, .dat d] μ3 = some (.ok (.dat (due1 v1 v2 (place k X len []) (place k Y len []) d)), μ3))
    (h2 : ∀ d ∈ rowsD k a len N w, F 19 [.mem nn ch, .dat d] μ4 = some (.ok (.dat (due2 v2 (place k X len []) (place k Y len []) d)), μ4)) :
    fnRes (evBk F G ir__law_storage_right) nn__law_storage_right pr__law_storage_right.length [.dat (place k a len D), .mref j1, .mref j2, .dat (.int whole)] μ = some (.ok (.dat (.bool true)), μ4) := by
  have r5 : room 5 = true := by decide
  have r2 : room 2 = true := by decide
  have hrl : room N = true := room_of (by (first | lia | omega))
  have badd : ∀ a b, binD .Add (.int a) (.int b) = some (.int (a + b)) := fun _ _ => rfl
  have ab0 : ∀ i, isAbs (.loc i) = false := fun _ => rfl
  have ab1 : isAbs .absent = true := rfl
  have ts1 : ∀ b μ, tsR (some (.ok (.dat (.bool b)), μ)) = some (.ok b, μ) := fun _ _ => rfl
  have fl1 : ∀ d ∈ (rowsD k a len N w).map (due1 v1 v2 (place k X len []) (place k Y len [])), flt 3 d := fun d hd => by
    obtain ⟨e, _, rfl⟩ := List.mem_map.mp hd
    unfold due1; split
    · exact f2
    · split
      · exact f1
      · exact flt_none
  have fl2 : ∀ d ∈ (rowsD k a len N w).map (due2 v2 (place k X len []) (place k Y len [])), flt 3 d := fun d hd => by
    obtain ⟨e, _, rfl⟩ := List.mem_map.mp hd
    unfold due2; split
    · exact flt_none
    · split
      · exact f2
      · exact flt_none
  have q1 : cmpD .NotEq (.list ((rowsD k a len N w).map (due1 v1 v2 (place k X len []) (place k Y len [])))) (.list ((rowsD k a len N w).map (due1 v1 v2 (place k X len []) (place k Y len [])))) = some false := cmp_ne_self (flt_shp (h := 4) (by decide) (flt_list fl1))
  have q2 : cmpD .Eq (.list ((rowsD k a len N w).map (due2 v2 (place k X len []) (place k Y len [])))) (.list ((rowsD k a len N w).map (due2 v2 (place k X len []) (place k Y len [])))) = some true := cmp_eq_self (flt_shp (h := 4) (by decide) (flt_list fl2))
  have hrr : room (rowsD k a len N w).length = true := by rw [rows_len]; exact hrl
  have c12' := c12 μ3
  have c12'' := c12 μ4
  refine f_ret rfl ?_
  unfold ir__law_storage_right
  show evBk F G _ [some (.dat (place k a len D)), some (.mref j1), some (.mref j2), some (.dat (.int whole)), none, none, none, none, none, none, none, none, none, none, none, none, none, none, none] μ = _
  iterate 2 (refine k_next (by repeat' first|with_reducible (first|exact rfl|assumption|exact cmp_ne_self shp_place|exact cmp_eq_self shp_place|apply_assumption (transparency := .reducible) -exfalso only [e_const, e_loc, e_neg, e_sub, e_bin, w_cmp, w_call, w_meth, e_tup, e_lst, w_ite, e_slc0, e_comp, l_nil, l_cons, deref_d, ds2, ds5, bi_add, c_eqi, w_eq, w_ne, sel_t, sel_f, i_lst, s_asg, s_asgT, s_asgD, s_pass, s_expr, s_ret, k_ret]|exact isb_t rfl|(apply isb_h; assumption)|(apply isb_f; assumption)|(apply isb_t; assumption)|(apply call_of; assumption))|exact cmp_ne_self shp_place|exact cmp_eq_self shp_place|exact st_due1 ((clr_len _ _).trans rfl) ((clr_get (by decide)).trans rfl) ((clr_get (by decide)).trans rfl) ((clr_get (by decide)).trans rfl) ((clr_get (by decide)).trans rfl)|exact st_due2 ((clr_len _ _).trans rfl) ((clr_get (by decide)).trans rfl) ((clr_get (by decide)).trans rfl) ((clr_get (by decide)).trans rfl)|exact st_held1 ((clr_len _ _).trans rfl) ((clr_get (by decide)).trans rfl) (by assumption)|exact st_held2 ((clr_len _ _).trans rfl) ((clr_get (by decide)).trans rfl) (by assumption)|(apply call_of; assumption)|exact isb_h (b := true) rfl|exact isb_h (b := false) rfl|exact rfl|assumption) ?_; (try dsimp only [setPs, List.zip_cons_cons, List.zip_nil_left, List.zip_nil_right, List.set_cons_succ, List.set_cons_zero]))
  refine' k_next (σ1 := [some (.dat (place k a len D)), some (.mref j1), some (.mref j2), some (.dat (.int whole)), some (.dat (.int k)), some (.dat (.int a)), some (.dat (.int len)), some (.dat (.tuple (D.map dmD))), some (.dat (.list pairsD)), some (.dat v1), some (.dat v2), none, none, none, none, none, none, none, none]) (μ1 := μ) ?s3 ?r3
  (case s3 =>
    by_cases h5 : k = 5
    · rw [if_pos h5] at hv
      obtain ⟨hv1, hv2⟩ := hv
      (repeat' first|with_reducible (first|exact rfl|assumption|exact cmp_ne_self shp_place|exact cmp_eq_self shp_place|apply_assumption (transparency := .reducible) -exfalso only [e_const, e_loc, e_neg, e_sub, e_bin, w_cmp, w_call, w_meth, e_tup, e_lst, w_ite, e_slc0, e_comp, l_nil, l_cons, deref_d, ds2, ds5, bi_add, c_eqi, w_eq, w_ne, sel_t, sel_f, i_lst, s_asg, s_asgT, s_asgD, s_pass, s_expr, s_ret, k_ret]|exact isb_t rfl|(apply isb_h; assumption)|(apply isb_f; assumption)|(apply isb_t; assumption)|(apply call_of; assumption))|exact cmp_ne_self shp_place|exact cmp_eq_self shp_place|exact st_due1 ((clr_len _ _).trans rfl) ((clr_get (by decide)).trans rfl) ((clr_get (by decide)).trans rfl) ((clr_get (by decide)).trans rfl) ((clr_get (by decide)).trans rfl)|exact st_due2 ((clr_len _ _).trans rfl) ((clr_get (by decide)).trans rfl) ((clr_get (by decide)).trans rfl) ((clr_get (by decide)).trans rfl)|exact st_held1 ((clr_len _ _).trans rfl) ((clr_get (by decide)).trans rfl) (by assumption)|exact st_held2 ((clr_len _ _).trans rfl) ((clr_get (by decide)).trans rfl) (by assumption)|(apply call_of; assumption)|exact isb_h (b := true) rfl|exact isb_h (b := false) rfl|exact rfl|assumption)
    · rw [if_neg h5] at hv
      (repeat' first|with_reducible (first|exact rfl|assumption|exact cmp_ne_self shp_place|exact cmp_eq_self shp_place|apply_assumption (transparency := .reducible) -exfalso only [e_const, e_loc, e_neg, e_sub, e_bin, w_cmp, w_call, w_meth, e_tup, e_lst, w_ite, e_slc0, e_comp, l_nil, l_cons, deref_d, ds2, ds5, bi_add, c_eqi, w_eq, w_ne, sel_t, sel_f, i_lst, s_asg, s_asgT, s_asgD, s_pass, s_expr, s_ret, k_ret]|exact isb_t rfl|(apply isb_h; assumption)|(apply isb_f; assumption)|(apply isb_t; assumption)|(apply call_of; assumption))|exact cmp_ne_self shp_place|exact cmp_eq_self shp_place|exact st_due1 ((clr_len _ _).trans rfl) ((clr_get (by decide)).trans rfl) ((clr_get (by decide)).trans rfl) ((clr_get (by decide)).trans rfl) ((clr_get (by decide)).trans rfl)|exact st_due2 ((clr_len _ _).trans rfl) ((clr_get (by decide)).trans rfl) ((clr_get (by decide)).trans rfl) ((clr_get (by decide)).trans rfl)|exact st_held1 ((clr_len _ _).trans rfl) ((clr_get (by decide)).trans rfl) (by assumption)|exact st_held2 ((clr_len _ _).trans rfl) ((clr_get (by decide)).trans rfl) (by assumption)|(apply call_of; assumption)|exact isb_h (b := true) rfl|exact isb_h (b := false) rfl|exact rfl|assumption))
  refine' k_next (s_asg (V := .mem nn ch) (μ' := μ1) ?s4 rfl) ?r4
  (case s4 =>
    by_cases h5 : k = 5
    · rw [if_pos h5] at c27
      (repeat' first|with_reducible (first|exact rfl|assumption|exact cmp_ne_self shp_place|exact cmp_eq_self shp_place|apply_assumption (transparency := .reducible) -exfalso only [e_const, e_loc, e_neg, e_sub, e_bin, w_cmp, w_call, w_meth, e_tup, e_lst, w_ite, e_slc0, e_comp, l_nil, l_cons, deref_d, ds2, ds5, bi_add, c_eqi, w_eq, w_ne, sel_t, sel_f, i_lst, s_asg, s_asgT, s_asgD, s_pass, s_expr, s_ret, k_ret]|exact isb_t rfl|(apply isb_h; assumption)|(apply isb_f; assumption)|(apply isb_t; assumption)|(apply call_of; assumption))|exact cmp_ne_self shp_place|exact cmp_eq_self shp_place|exact st_due1 ((clr_len _ _).trans rfl) ((clr_get (by decide)).trans rfl) ((clr_get (by decide)).trans rfl) ((clr_get (by decide)).trans rfl) ((clr_get (by decide)).trans rfl)|exact st_due2 ((clr_len _ _).trans rfl) ((clr_get (by decide)).trans rfl) ((clr_get (by decide)).trans rfl) ((clr_get (by decide)).trans rfl)|exact st_held1 ((clr_len _ _).trans rfl) ((clr_get (by decide)).trans rfl) (by assumption)|exact st_held2 ((clr_len _ _).trans rfl) ((clr_get (by decide)).trans rfl) (by assumption)|(apply call_of; assumption)|exact isb_h (b := true) rfl|exact isb_h (b := false) rfl|exact rfl|assumption)
    · rw [if_neg h5] at c27
      (repeat' first|with_reducible (first|exact rfl|assumption|exact cmp_ne_self shp_place|exact cmp_eq_self shp_place|apply_assumption (transparency := .reducible) -exfalso only [e_const, e_loc, e_neg, e_sub, e_bin, w_cmp, w_call, w_meth, e_tup, e_lst, w_ite, e_slc0, e_comp, l_nil, l_cons, deref_d, ds2, ds5, bi_add, c_eqi, w_eq, w_ne, sel_t, sel_f, i_lst, s_asg, s_asgT, s_asgD, s_pass, s_expr, s_ret, k_ret]|exact isb_t rfl|(apply isb_h; assumption)|(apply isb_f; assumption)|(apply isb_t; assumption)|(apply call_of; assumption))|exact cmp_ne_self shp_place|exact cmp_eq_self shp_place|exact st_due1 ((clr_len _ _).trans rfl) ((clr_get (by decide)).trans rfl) ((clr_get (by decide)).trans rfl) ((clr_get (by decide)).trans rfl) ((clr_get (by decide)).trans rfl)|exact st_due2 ((clr_len _ _).trans rfl) ((clr_get (by decide)).trans rfl) ((clr_get (by decide)).trans rfl) ((clr_get (by decide)).trans rfl)|exact st_held1 ((clr_len _ _).trans rfl) ((clr_get (by decide)).trans rfl) (by assumption)|exact st_held2 ((clr_len _ _).trans rfl) ((clr_get (by decide)).trans rfl) (by assumption)|(apply call_of; assumption)|exact isb_h (b := true) rfl|exact isb_h (b := false) rfl|exact rfl|assumption))
  (dsimp only [setPs, List.zip_cons_cons, List.zip_nil_left, List.zip_nil_right, List.set_cons_succ, List.set_cons_zero])
  iterate 7 (refine k_next (by repeat' first|with_reducible (first|exact rfl|assumption|exact cmp_ne_self shp_place|exact cmp_eq_self shp_place|apply_assumption (transparency := .reducible) -exfalso only [e_const, e_loc, e_neg, e_sub, e_bin, w_cmp, w_call, w_meth, e_tup, e_lst, w_ite, e_slc0, e_comp, l_nil, l_cons, deref_d, ds2, ds5, bi_add, c_eqi, w_eq, w_ne, sel_t, sel_f, i_lst, s_asg, s_asgT, s_asgD, s_pass, s_expr, s_ret, k_ret]|exact isb_t rfl|(apply isb_h; assumption)|(apply isb_f; assumption)|(apply isb_t; assumption)|(apply call_of; assumption))|exact cmp_ne_self shp_place|exact cmp_eq_self shp_place|exact st_due1 ((clr_len _ _).trans rfl) ((clr_get (by decide)).trans rfl) ((clr_get (by decide)).trans rfl) ((clr_get (by decide)).trans rfl) ((clr_get (by decide)).trans rfl)|exact st_due2 ((clr_len _ _).trans rfl) ((clr_get (by decide)).trans rfl) ((clr_get (by decide)).trans rfl) ((clr_get (by decide)).trans rfl)|exact st_held1 ((clr_len _ _).trans rfl) ((clr_get (by decide)).trans rfl) (by assumption)|exact st_held2 ((clr_len _ _).trans rfl) ((clr_get (by decide)).trans rfl) (by assumption)|(apply call_of; assumption)|exact isb_h (b := true) rfl|exact isb_h (b := false) rfl|exact rfl|assumption) ?_; (try dsimp only [setPs, List.zip_cons_cons, List.zip_nil_left, List.zip_nil_right, List.set_cons_succ, List.set_cons_zero]))
  (refine k_ret (by repeat' first|with_reducible (first|exact rfl|assumption|exact cmp_ne_self shp_place|exact cmp_eq_self shp_place|apply_assumption (transparency := .reducible) -exfalso only [e_const, e_loc, e_neg, e_sub, e_bin, w_cmp, w_call, w_meth, e_tup, e_lst, w_ite, e_slc0, e_comp, l_nil, l_cons, deref_d, ds2, ds5, bi_add, c_eqi, w_eq, w_ne, sel_t, sel_f, i_lst, s_asg, s_asgT, s_asgD, s_pass, s_expr, s_ret, k_ret]|exact isb_t rfl|(apply isb_h; assumption)|(apply isb_f; assumption)|(apply isb_t; assumption)|(apply call_of; assumption))|exact cmp_ne_self shp_place|exact cmp_eq_self shp_place|exact st_due1 ((clr_len _ _).trans rfl) ((clr_get (by decide)).trans rfl) ((clr_get (by decide)).trans rfl) ((clr_get (by decide)).trans rfl) ((clr_get (by decide)).trans rfl)|exact st_due2 ((clr_len _ _).trans rfl) ((clr_get (by decide)).trans rfl) ((clr_get (by decide)).trans rfl) ((clr_get (by decide)).trans rfl)|exact st_held1 ((clr_len _ _).trans rfl) ((clr_get (by decide)).trans rfl) (by assumption)|exact st_held2 ((clr_len _ _).trans rfl) ((clr_get (by decide)).trans rfl) (by assumption)|(apply call_of; assumption)|exact isb_h (b := true) rfl|exact isb_h (b := false) rfl|exact rfl|assumption))
end
end Mine
end
section
open PySem PySem.W PyProof.Rows PySem.Calls
set_option Elab.async false
set_option maxRecDepth 100000
set_option linter.unusedVariables false
set_option linter.unusedSimpArgs false
namespace Mine

theorem abcd_is : Str.ofString "abcd" = ⟨#[97, 98, 99, 100]⟩ := by decide +kernel
theorem wxyz_is : Str.ofString "wxyz" = ⟨#[119, 120, 121, 122]⟩ := by decide +kernel
theorem empty_is : Str.ofString "" = ⟨#[]⟩ := by decide +kernel
theorem blank_is : Str.ofString " " = ⟨#[32]⟩ := by decide +kernel
theorem flt_str {h : Nat} {x : Str} (hx : x.cps.toList.all (fun c => decide (c < 0x110000)) = true) : flt h (.str x) := by
  refine ⟨?_, Nat.zero_le _⟩
  simp only [pyd, PyData.canLay0, PyData.strOk]
  rw [← Array.all_toList]; exact hx
theorem flt_chars {x : Str} (hx : x.cps.toList.all (fun c => decide (c < 0x110000)) = true) : ∀ d ∈ charsD x, flt 0 d := by
  intro d hd
  obtain ⟨c, hc, rfl⟩ := List.mem_map.mp hd
  refine flt_str ?_
  have := List.all_eq_true.mp hx c hc
  simpa using this
theorem shp_chars {x : Str} (hx : x.cps.toList.all (fun c => decide (c < 0x110000)) = true) : shpL (charsD x) = true := flt_shpL (h := 0) (by decide) (flt_chars hx)
theorem slc_abcd {len : Int} (h : 1 ≤ len ∧ len ≤ 4) : ∃ x : Str, slcD (.str (Str.ofString "abcd")) none (some len) = some (.str x) ∧ (x.length : Int) = len ∧ TextOk x ∧ x.cps.toList.all (fun c => decide (c < 0x110000)) = true := by
  rw [abcd_is]
  have : len = 1 ∨ len = 2 ∨ len = 3 ∨ len = 4 := by (first | lia | omega)
  rcases this with rfl | rfl | rfl | rfl
  · exact ⟨⟨#[97]⟩, by rfl, by rfl, ⟨⟨by rfl, by rfl, ⟨#[]⟩, by rw [blank_is]; rfl, by rfl⟩, shp_chars (by rfl), by rfl, by rw [empty_is]; rfl⟩, by rfl⟩
  · exact ⟨⟨#[97, 98]⟩, by rfl, by rfl, ⟨⟨by rfl, by rfl, ⟨#[]⟩, by rw [blank_is]; rfl, by rfl⟩, shp_chars (by rfl), by rfl, by rw [empty_is]; rfl⟩, by rfl⟩
  · exact ⟨⟨#[97, 98, 99]⟩, by rfl, by rfl, ⟨⟨by rfl, by rfl, ⟨#[]⟩, by rw [blank_is]; rfl, by rfl⟩, shp_chars (by rfl), by rfl, by rw [empty_is]; rfl⟩, by rfl⟩
  · exact ⟨⟨#[97, 98, 99, 100]⟩, by rfl, by rfl, ⟨⟨by rfl, by rfl, ⟨#[]⟩, by rw [blank_is]; rfl, by rfl⟩, shp_chars (by rfl), by rfl, by rw [empty_is]; rfl⟩, by rfl⟩
theorem slc_wxyz {len : Int} (h : 1 ≤ len ∧ len ≤ 4) : ∃ x : Str, slcD (.str (Str.ofString "wxyz")) none (some len) = some (.str x) ∧ (x.length : Int) = len ∧ TextOk x ∧ x.cps.toList.all (fun c => decide (c < 0x110000)) = true := by
  rw [wxyz_is]
  have : len = 1 ∨ len = 2 ∨ len = 3 ∨ len = 4 := by (first | lia | omega)
  rcases this with rfl | rfl | rfl | rfl
  · exact ⟨⟨#[119]⟩, by rfl, by rfl, ⟨⟨by rfl, by rfl, ⟨#[]⟩, by rw [blank_is]; rfl, by rfl⟩, shp_chars (by rfl), by rfl, by rw [empty_is]; rfl⟩, by rfl⟩
  · exact ⟨⟨#[119, 120]⟩, by rfl, by rfl, ⟨⟨by rfl, by rfl, ⟨#[]⟩, by rw [blank_is]; rfl, by rfl⟩, shp_chars (by rfl), by rfl, by rw [empty_is]; rfl⟩, by rfl⟩
  · exact ⟨⟨#[119, 120, 121]⟩, by rfl, by rfl, ⟨⟨by rfl, by rfl, ⟨#[]⟩, by rw [blank_is]; rfl, by rfl⟩, shp_chars (by rfl), by rfl, by rw [empty_is]; rfl⟩, by rfl⟩
  · exact ⟨⟨#[119, 120, 121, 122]⟩, by rfl, by rfl, ⟨⟨by rfl, by rfl, ⟨#[]⟩, by rw [blank_is]; rfl, by rfl⟩, shp_chars (by rfl), by rfl, by rw [empty_is]; rfl⟩, by rfl⟩
section
variable (R : Obj → List (Str × Value) → Prop)
theorem wr_len {k len : Int} {v : Dat} (hk : k ≠ 5) (h3 : k = 3 → ∃ u w, v = .tuple [u, w]) : (wrN k v).length = (usz k len).toNat := by
  by_cases c3 : k = 3
  · subst c3
    obtain ⟨u, w, rfl⟩ := h3 rfl
    rfl
  · by_cases c2 : k = 2
    · subst c2; rfl
    · simp [wrN, usz, c3, c2, hk]
theorem pick {k len : Int} (hk : 0 ≤ k ∧ k ≤ 5) (hlen : k = 5 → 1 ≤ len ∧ len ≤ 4) : ∃ v1 v2 cs1 cs2,
    (if k = 5 then slcD (.str (Str.ofString "abcd")) none (some len) = some v1 ∧ slcD (.str (Str.ofString "wxyz")) none (some len) = some v2 else idxD (.list pairsD) k = some (.tuple [v1, v2])) ∧
    flt 3 v1 ∧ flt 3 v2 ∧ St R k len v1 cs1 ∧ Hd R k len v1 cs1 ∧ St R k len v2 cs2 ∧ Hd R k len v2 cs2 ∧ cs1.length = (usz k len).toNat ∧ cs2.length = (usz k len).toNat ∧ Hd R k len .none (List.replicate (usz k len).toNat .none) := by
  by_cases h5 : k = 5
  · subst h5
    have hl := hlen rfl
    obtain ⟨x, x1, x2, x3, x4⟩ := slc_abcd hl
    obtain ⟨y, y1, y2, y3, y4⟩ := slc_wxyz hl
    refine ⟨.str x, .str y, charsD x, charsD y, by rw [if_pos rfl]; exact ⟨x1, y1⟩, flt_str x4, flt_str y4, st_text R x3 x2 (by (first | lia | omega)), hd_text R x3.shp x3.any x3.join (by (first | lia | omega)), st_text R y3 y2 (by (first | lia | omega)), hd_text R y3.shp y3.any y3.join (by (first | lia | omega)), ?_, ?_, hd_blank_text R (by (first | lia | omega))⟩
    · rw [charsD_len]; show x.length = len.toNat; (first | lia | omega)
    · rw [charsD_len]; show y.length = len.toNat; (first | lia | omega)
  · simp only [h5, if_false]
    suffices h : ∃ v1 v2, idxD (.list pairsD) k = some (.tuple [v1, v2]) ∧ flt 3 v1 ∧ flt 3 v2 ∧ (k = 3 → ∃ u w, v1 = .tuple [u, w]) ∧ (k = 3 → ∃ u w, v2 = .tuple [u, w]) by
      obtain ⟨v1, v2, e, f1, f2, t1, t2⟩ := h
      exact ⟨v1, v2, wrN k v1, wrN k v2, e, f1, f2, st_num R h5 t1, hd_num R h5 t1, st_num R h5 t2, hd_num R h5 t2, wr_len h5 t1, wr_len h5 t2, hd_blank_num R h5⟩
    have : k = 0 ∨ k = 1 ∨ k = 2 ∨ k = 3 ∨ k = 4 := by (first | lia | omega)
    have ix : ∀ (i : Nat) (d : Dat), pairsD[i]? = some d → idxD (.list pairsD) (i : Int) = some d := fun i d h => (idx_nat pairsD i d h (by decide)).1
    rcases this with rfl | rfl | rfl | rfl | rfl
    · exact ⟨_, _, ix 0 _ rfl, ⟨rfl, by decide⟩, ⟨rfl, by decide⟩, fun q => by (first | lia | omega), fun q => by (first | lia | omega)⟩
    · exact ⟨_, _, ix 1 _ rfl, ⟨rfl, by decide⟩, ⟨rfl, by decide⟩, fun q => by (first | lia | omega), fun q => by (first | lia | omega)⟩
    · exact ⟨_, _, ix 2 _ rfl, ⟨rfl, by decide⟩, ⟨rfl, by decide⟩, fun q => by (first | lia | omega), fun q => by (first | lia | omega)⟩
    · exact ⟨_, _, ix 3 _ rfl, ⟨rfl, by decide⟩, ⟨rfl, by decide⟩, fun q => ⟨_, _, rfl⟩, fun q => ⟨_, _, rfl⟩⟩
    · exact ⟨_, _, ix 4 _ rfl, ⟨rfl, by decide⟩, ⟨rfl, by decide⟩, fun q => by (first | lia | omega), fun q => by (first | lia | omega)⟩
noncomputable def muK (k : Int) (μ : Mu) (ds : List Dat) : Mu := μ ++ (if k = 5 then [.lst [], .lst ds] else [.lst ds, .lst []])
theorem muK_get {k : Int} {μ : Mu} {ds : List Dat} : (muK k μ ds)[if k = 5 then μ.length + 1 else μ.length]? = some (.lst ds) := by
  unfold muK
  by_cases h : k = 5
  · simp [h, List.getElem?_append_right]
  · simp [h, List.getElem?_append_right]
theorem muK_set {k : Int} {μ : Mu} {ds ds' : List Dat} : (muK k μ ds).set (if k = 5 then μ.length + 1 else μ.length) (.lst ds') = muK k μ ds' := by
  unfold muK
  by_cases h : k = 5
  · simp [h, List.set_append_right]
  · simp [h, List.set_append_right]
theorem deref_app {μ ν : Mu} {j : Nat} {d : Dat} (h : deref μ (.mref j) = some d) : deref (μ ++ ν) (.mref j) = some d := by
  have hj : j < μ.length := by
    rcases Nat.lt_or_ge j μ.length with q | q
    · exact q
    · simp [deref, List.getElem?_eq_none q] at h
  simp only [deref, List.getElem?_append_left hj] at h ⊢
  exact h
theorem rows_apart {a w : Int} {i o : Nat} (hw : 1 ≤ w) (h : i ≠ o) : a + (i : Int) * w + w ≤ a + (o : Int) * w ∨ a + (o : Int) * w + w ≤ a + (i : Int) * w := by
  rcases Nat.lt_or_gt_of_ne h with q | q
  · have := Int.mul_le_mul_of_nonneg_right (show (i : Int) + 1 ≤ o by (first | lia | omega)) (show 0 ≤ w by (first | lia | omega))
    rw [Int.add_mul] at this; (first | lia | omega)
  · have := Int.mul_le_mul_of_nonneg_right (show (o : Int) + 1 ≤ i by (first | lia | omega)) (show 0 ≤ w by (first | lia | omega))
    rw [Int.add_mul] at this; (first | lia | omega)
theorem rows_in {a w : Int} {i N : Nat} (hw : 1 ≤ w) (h : i < N) : a + (i : Int) * w + w ≤ a + (N : Int) * w ∧ a ≤ a + (i : Int) * w := by
  have := Int.mul_le_mul_of_nonneg_right (show (i : Int) + 1 ≤ N by (first | lia | omega)) (show 0 ≤ w by (first | lia | omega))
  have h2 : 0 ≤ (i : Int) * w := Int.mul_nonneg (by (first | lia | omega)) (by (first | lia | omega))
  rw [Int.add_mul] at this; (first | lia | omega)
theorem eqD_row {k a len w : Int} {i o : Nat} (hw : 1 ≤ w) : eqD (place k (a + (i : Int) * w) len []) (place k (a + (o : Int) * w) len []) = decide (i = o) := by
  rw [eqD_place]
  by_cases q : i = o
  · simp [q]
  · have := rows_apart (a := a) hw q
    have : ¬ (a + (i : Int) * w = a + (o : Int) * w) := by (first | lia | omega)
    simp [q, this]
theorem sp_storage (n : Nat) {k a len wide whole : Int} {ls ms ds es : List Int} {j1 j2 : Nat} {μ : Mu} (hk : 0 ≤ k ∧ k ≤ 5) (hlen : k = 5 → 1 ≤ len ∧ len ≤ 4) (g1 : Dg ls ms ds) (g2 : Dg ls ms es) (hl100 : ds.length ≤ 100) (b1 : sml 100 ls) (b2 : sml 100 ms) (hp : pr ms ≤ 100)
    (hd1 : deref μ (.mref j1) = some (.list ((addL ls ds).map .int))) (hd2 : deref μ (.mref j2) = some (.list ((addL ls es).map .int))) (hw : wide = usz k len) (hw0 : 1 ≤ wide ∧ wide ≤ 100) (hwh : whole = pr ms * wide) (ha : 0 ≤ a) (hb : a + whole ≤ 1000) :
    ∃ μ', semF R (n + 5) 23 [.dat (place k a len (mkD ls ms)), .mref j1, .mref j2, .dat (.int whole)] μ = some (.ok (.dat (.bool true)), μ ++ μ') := by
  have hu : -100000 ≤ usz k len ∧ usz k len ≤ 100000 := by (first | lia | omega)
  have n1 := mkD_len g1
  have l1 := g1.len
  have l2 := g2.len
  have hv := vl_lt g1
  have hv2 := vl_lt g2
  have hpp := pr_pos g1
  have inc : ∀ {b : Int} {xs : List Int}, b ≤ 1000 → sml b xs → sml 1000 xs := fun hb h x hx => by have := h x hx; (first | lia | omega)
  have f0 : fits (mkD ls ms) [] := fits_mk g1 b1 b2 (by intro x hx; simp at hx)
  have hsp : ∀ {es : List Int} {S : Vl} {μ : Mu}, Dg ls ms es → deref μ S = some (.list ((addL ls es).map .int)) → semF R (n + 4) 17 [.dat (place k a len (mkD ls ms)), S] μ = some (.ok (.dat (place k (a + vl ms es * usz k len) len [])), μ) := fun {es S μ} g hS => by
    have q := sp_spot R n (k := k) (a := a) (len := len) hS (fits_mk g b1 b2 (inc (by (first | lia | omega)) (addL_sml g b1 b2))) (by rw [n1]; (first | lia | omega)) (by rw [addL_len g, ← g.len.1, l1.1]; (first | lia | omega)) hu
    rw [spot_mk g] at q; exact q
  have he : ext (mkD ls ms) 1 = some (pr ms) := by rw [ext_mk g1]; simp
  obtain ⟨N, hN⟩ : ∃ N : Nat, pr ms = (N : Int) := ⟨(pr ms).toNat, by (first | lia | omega)⟩
  obtain ⟨ox, hox⟩ : ∃ o : Nat, vl ms ds = (o : Int) := ⟨(vl ms ds).toNat, by (first | lia | omega)⟩
  obtain ⟨oy, hoy⟩ : ∃ o : Nat, vl ms es = (o : Int) := ⟨(vl ms es).toNat, by (first | lia | omega)⟩
  obtain ⟨v1, v2, cs1, cs2, e0, e1, e2, e3, e4, e5, e6, e7, e8, e9⟩ := pick R hk hlen
  rw [← hw] at e7 e8 e9
  have hW : a + (N : Int) * wide = a + whole := by rw [hwh, hN]
  have hwpos : 1 * 1 ≤ pr ms * wide := Int.mul_le_mul (by (first | lia | omega)) (by (first | lia | omega)) (by (first | lia | omega)) (by (first | lia | omega))
  have c27 : semF R (n + 4) 27 (if k = 5 then [.dat (.int 0), .dat (.int (a + whole))] else [.dat (.int (a + whole)), .dat (.int 0)]) μ = some (.ok (.mem μ.length (μ.length + 1)), muK k μ (List.replicate (a + whole).toNat .none)) := by
    by_cases h5 : k = 5
    · rw [if_pos h5, sp_mem R (n + 3) (by (first | lia | omega)) (by (first | lia | omega))]; simp [muK, h5]
    · rw [if_neg h5, sp_mem R (n + 3) (by (first | lia | omega)) (by (first | lia | omega))]; simp [muK, h5]
  have dm : ∀ {j : Nat} {d : Dat} {xs : List Dat}, deref μ (.mref j) = some d → deref (muK k μ xs) (.mref j) = some d := fun h => deref_app h
  have cX := hsp (μ := muK k μ (List.replicate (a + whole).toNat .none)) g1 (dm hd1)
  have cY := hsp (μ := muK k μ (List.replicate (a + whole).toNat .none)) g2 (dm hd2)
  rw [hox, ← hw] at cX
  rw [hoy, ← hw] at cY
  have ix := rows_in (a := a) (w := wide) (i := ox) (N := N) hw0.1 (by (first | lia | omega))
  have iy := rows_in (a := a) (w := wide) (i := oy) (N := N) hw0.1 (by (first | lia | omega))
  generalize hD0 : List.replicate (a + whole).toNat Dat.none = D0 at *
  have L0 : (D0.length : Int) = a + whole := by rw [← hD0]; simp; (first | lia | omega)
  generalize hX : a + (ox : Int) * wide = X at *
  generalize hY : a + (oy : Int) * wide = Y at *
  have gX := e3 n (muK k μ D0) μ.length (μ.length + 1) D0 X muK_get (by (first | lia | omega)) (by (first | lia | omega)) (by rw [← hw]; (first | lia | omega))
  rw [muK_set] at gX
  have L1 : ((fillD D0 X cs1).length : Int) = a + whole := by rw [fillD_len, L0]
  have gY := e5 n (muK k μ (fillD D0 X cs1)) μ.length (μ.length + 1) (fillD D0 X cs1) Y muK_get (by (first | lia | omega)) (by (first | lia | omega)) (by rw [← hw]; (first | lia | omega))
  rw [muK_set] at gY
  have L2 : ((fillD (fillD D0 X cs1) Y cs2).length : Int) = a + whole := by rw [fillD_len, L1]
  have gU := undef_at R (k := k) (len := len) (by (first | lia | omega)) hu n (muK k μ (fillD (fillD D0 X cs1) Y cs2)) μ.length (μ.length + 1) (fillD (fillD D0 X cs1) Y cs2) X muK_get (by (first | lia | omega)) (by (first | lia | omega)) (by rw [← hw]; (first | lia | omega))
  rw [muK_set, ← hw] at gU
  have L3 : ((fillD (fillD (fillD D0 X cs1) Y cs2) X (List.replicate wide.toNat .none)).length : Int) = a + whole := by rw [fillD_len, L2]
  have c12 : ∀ μ, semF R (n + 4) 12 [.dat (place k a len (mkD ls ms))] μ = some (.ok (.dat (.list (rowsD k a len N wide))), μ) := fun μ => by
    have := sp_elements R (n + 1) (k := k) (a := a) (len := len) (μ := μ) f0 hu he (by (first | lia | omega))
    rw [show (pr ms).toNat = N by (first | lia | omega), ← hw] at this; exact this
  have hbl : (List.replicate wide.toNat Dat.none).length = wide.toNat := by simp
  have blank : ∀ B, a ≤ B → B + wide ≤ a + whole → blk D0 B wide = List.replicate wide.toNat .none := fun B p q => by
    rw [← hD0]; exact blk_blank (by (first | lia | omega)) (by (first | lia | omega)) (by (first | lia | omega))
  have fin : semF R (n + 5) 23 [.dat (place k a len (mkD ls ms)), .mref j1, .mref j2, .dat (.int whole)] μ = some (.ok (.dat (.bool true)), muK k μ (fillD (fillD (fillD D0 X cs1) Y cs2) X (List.replicate wide.toNat .none))) := by
    have key := st_walk (F := semF R (n + 4)) (G := semG R (n + 4)) (μ := μ) (j1 := j1) (j2 := j2) (N := N) (D := mkD ls ms) (k := k) (a := a) (len := len) (w := wide) (whole := whole) (X := X) (Y := Y) (by (first | lia | omega)) e1 e2 e0 c27 cX cY gX gY gU c12 ?_ ?_
    · unfold semF
      exact key
    · intro d hd
      obtain ⟨i, hi, rfl⟩ := List.mem_map.mp hd
      have hi : i < N := by simpa using hi
      have ii := rows_in (a := a) (w := wide) (i := i) (N := N) hw0.1 hi
      have bX := eqD_row (k := k) (a := a) (len := len) (w := wide) (i := i) (o := ox) hw0.1
      have bY := eqD_row (k := k) (a := a) (len := len) (w := wide) (i := i) (o := oy) hw0.1
      have aX := rows_apart (a := a) (w := wide) (i := i) (o := ox) hw0.1
      have aY := rows_apart (a := a) (w := wide) (i := i) (o := oy) hw0.1
      rw [hX] at bX aX
      rw [hY] at bY aY
      unfold due1
      rw [bX, bY]
      generalize hB : a + (i : Int) * wide = B at *
      by_cases q1 : i = oy
      · have : B = Y := by rw [← hB, ← hY, q1]
        subst this
        rw [decide_eq_true q1, if_pos rfl]
        exact e6 n _ _ _ _ B muK_get (by (first | lia | omega)) (by (first | lia | omega)) (by rw [← hw]; (first | lia | omega)) (by rw [← hw]; exact blk_same (by (first | lia | omega)) e8 (by (first | lia | omega)) (by (first | lia | omega)))
      · rw [decide_eq_false q1, if_neg (by decide)]
        by_cases q2 : i = ox
        · have : B = X := by rw [← hB, ← hX, q2]
          subst this
          rw [decide_eq_true q2, if_pos rfl]
          exact e4 n _ _ _ _ B muK_get (by (first | lia | omega)) (by (first | lia | omega)) (by rw [← hw]; (first | lia | omega)) (by rw [← hw, blk_other (by (first | lia | omega)) (by (first | lia | omega)) e8 (by (first | lia | omega)) (by (first | lia | omega)) (by have := aY q1; (first | lia | omega))]; exact blk_same (by (first | lia | omega)) e7 (by (first | lia | omega)) (by (first | lia | omega)))
        · rw [decide_eq_false q2, if_neg (by decide)]
          rw [hw] at e9
          exact e9 n _ _ _ _ B muK_get (by (first | lia | omega)) (by (first | lia | omega)) (by rw [← hw]; (first | lia | omega)) (by rw [← hw, blk_other (by (first | lia | omega)) (by (first | lia | omega)) e8 (by (first | lia | omega)) (by (first | lia | omega)) (by have := aY q1; (first | lia | omega)), blk_other (by (first | lia | omega)) (by (first | lia | omega)) e7 (by (first | lia | omega)) (by (first | lia | omega)) (by have := aX q2; (first | lia | omega))]; exact blank B (by (first | lia | omega)) (by (first | lia | omega)))
    · intro d hd
      obtain ⟨i, hi, rfl⟩ := List.mem_map.mp hd
      have hi : i < N := by simpa using hi
      have ii := rows_in (a := a) (w := wide) (i := i) (N := N) hw0.1 hi
      have bX := eqD_row (k := k) (a := a) (len := len) (w := wide) (i := i) (o := ox) hw0.1
      have bY := eqD_row (k := k) (a := a) (len := len) (w := wide) (i := i) (o := oy) hw0.1
      have aX := rows_apart (a := a) (w := wide) (i := i) (o := ox) hw0.1
      have aY := rows_apart (a := a) (w := wide) (i := i) (o := oy) hw0.1
      rw [hX] at bX aX
      rw [hY] at bY aY
      unfold due2
      rw [bX, bY]
      rw [hw] at e9
      generalize hB : a + (i : Int) * wide = B at *
      by_cases q1 : i = ox
      · have : B = X := by rw [← hB, ← hX, q1]
        subst this
        rw [decide_eq_true q1, if_pos rfl]
        exact e9 n _ _ _ _ B muK_get (by (first | lia | omega)) (by (first | lia | omega)) (by rw [← hw]; (first | lia | omega)) (by rw [← hw]; exact blk_same (by (first | lia | omega)) hbl (by (first | lia | omega)) (by (first | lia | omega)))
      · rw [decide_eq_false q1, if_neg (by decide)]
        by_cases q2 : i = oy
        · have : B = Y := by rw [← hB, ← hY, q2]
          subst this
          rw [decide_eq_true q2, if_pos rfl]
          exact e6 n _ _ _ _ B muK_get (by (first | lia | omega)) (by (first | lia | omega)) (by rw [← hw]; (first | lia | omega)) (by rw [← hw, blk_other (by (first | lia | omega)) (by (first | lia | omega)) hbl (by (first | lia | omega)) (by (first | lia | omega)) (by have := aX q1; (first | lia | omega))]; exact blk_same (by (first | lia | omega)) e8 (by (first | lia | omega)) (by (first | lia | omega)))
        · rw [decide_eq_false q2, if_neg (by decide)]
          exact e9 n _ _ _ _ B muK_get (by (first | lia | omega)) (by (first | lia | omega)) (by rw [← hw]; (first | lia | omega)) (by rw [← hw, blk_other (by (first | lia | omega)) (by (first | lia | omega)) hbl (by (first | lia | omega)) (by (first | lia | omega)) (by have := aX q1; (first | lia | omega)), blk_other (by (first | lia | omega)) (by (first | lia | omega)) e8 (by (first | lia | omega)) (by (first | lia | omega)) (by have := aY q2; (first | lia | omega)), blk_other (by (first | lia | omega)) (by (first | lia | omega)) e7 (by (first | lia | omega)) (by (first | lia | omega)) (by have := aX q1; (first | lia | omega))]; exact blank B (by (first | lia | omega)) (by (first | lia | omega)))
  exact ⟨_, fin⟩
end
end Mine
end
section
open PySem PySem.W PyProof.Rows PySem.Calls
set_option Elab.async false
set_option maxRecDepth 100000
set_option maxHeartbeats 4000000
set_option linter.unusedVariables false
set_option linter.unusedSimpArgs false
namespace Mine

theorem uv_is : Str.ofString "UVWXYZ" = ⟨#[85, 86, 87, 88, 89, 90]⟩ := by decide +kernel
noncomputable def uvC : List Dat := charsD ⟨#[85, 86, 87, 88, 89, 90]⟩
theorem slc_uv {len : Int} (h : 1 ≤ len ∧ len ≤ 6) : ∃ x : Str, slcD (.str (Str.ofString "UVWXYZ")) none (some len) = some (.str x) ∧ (x.length : Int) = len ∧ TextOk x ∧ charsD x = uvC.take len.toNat := by
  rw [uv_is]
  have : len = 1 ∨ len = 2 ∨ len = 3 ∨ len = 4 ∨ len = 5 ∨ len = 6 := by (first | lia | omega)
  rcases this with rfl | rfl | rfl | rfl | rfl | rfl
  · exact ⟨⟨#[85]⟩, by rfl, by rfl, ⟨⟨by rfl, by rfl, ⟨#[]⟩, by rw [blank_is]; rfl, by rfl⟩, shp_chars (by rfl), by rfl, by rw [empty_is]; rfl⟩, by rfl⟩
  · exact ⟨⟨#[85, 86]⟩, by rfl, by rfl, ⟨⟨by rfl, by rfl, ⟨#[]⟩, by rw [blank_is]; rfl, by rfl⟩, shp_chars (by rfl), by rfl, by rw [empty_is]; rfl⟩, by rfl⟩
  · exact ⟨⟨#[85, 86, 87]⟩, by rfl, by rfl, ⟨⟨by rfl, by rfl, ⟨#[]⟩, by rw [blank_is]; rfl, by rfl⟩, shp_chars (by rfl), by rfl, by rw [empty_is]; rfl⟩, by rfl⟩
  · exact ⟨⟨#[85, 86, 87, 88]⟩, by rfl, by rfl, ⟨⟨by rfl, by rfl, ⟨#[]⟩, by rw [blank_is]; rfl, by rfl⟩, shp_chars (by rfl), by rfl, by rw [empty_is]; rfl⟩, by rfl⟩
  · exact ⟨⟨#[85, 86, 87, 88, 89]⟩, by rfl, by rfl, ⟨⟨by rfl, by rfl, ⟨#[]⟩, by rw [blank_is]; rfl, by rfl⟩, shp_chars (by rfl), by rfl, by rw [empty_is]; rfl⟩, by rfl⟩
  · exact ⟨⟨#[85, 86, 87, 88, 89, 90]⟩, by rfl, by rfl, ⟨⟨by rfl, by rfl, ⟨#[]⟩, by rw [blank_is]; rfl, by rfl⟩, shp_chars (by rfl), by rfl, by rw [empty_is]; rfl⟩, by rfl⟩
structure PartOk (s e : Int) (t : Str) : Prop where
  slc : slcD (.str ⟨#[85, 86, 87, 88, 89, 90]⟩) (some (s - 1)) (some e) = some (.str t)
  chars : charsD t = (uvC.drop (s - 1).toNat).take (e - s + 1).toNat
  any : (charsD t).any (fun y => eqD y .none) = false
  join : joinD (.str ⟨#[]⟩) (.list (charsD t)) = some (.str t)
  asc : t.cps.toList.all (fun c => decide (c < 0x110000)) = true
theorem slc_part {s e : Int} (h : 1 ≤ s ∧ s ≤ e ∧ e ≤ 6) : ∃ t : Str, PartOk s e t := by
  have hs : s = 1 ∨ s = 2 ∨ s = 3 ∨ s = 4 ∨ s = 5 ∨ s = 6 := by (first | lia | omega)
  have he : e = 1 ∨ e = 2 ∨ e = 3 ∨ e = 4 ∨ e = 5 ∨ e = 6 := by (first | lia | omega)
  refine ⟨⟨(([85, 86, 87, 88, 89, 90] : List Nat).drop (s - 1).toNat).take (e - s + 1).toNat |>.toArray⟩, ?_⟩
  rcases hs with rfl | rfl | rfl | rfl | rfl | rfl <;> rcases he with rfl | rfl | rfl | rfl | rfl | rfl <;> first
    | (exfalso; (first | lia | omega))
    | exact ⟨by rfl, by rfl, by rfl, by rfl, by rfl⟩
section
variable {F G : Nat → List Vl → Mu → RR Vl} {μ : Mu}
theorem tx_walk {a size s e p q pl : Int} {x t : Str} {nn ch : Nat} {μ1 μ2 : Mu} {inn : Dat} (ht : flt 3 (.str t)) (hin : flt 3 inn)
    (hx : slcD (.str (Str.ofString "UVWXYZ")) none (some size) = some (.str x))
    (hx2 : slcD (.str (Str.ofString "UVWXYZ")) (some (s - 1)) (some e) = some (.str t))
    (c27 : F 27 [.dat (.int 0), .dat (.int (a + size))] μ = some (.ok (.mem nn ch), μ1))
    (gS : G 1 [.mem nn ch, .dat (place 5 a size []), .dat (.str x)] μ1 = some (.ok (.dat .none), μ2))
    (c1 : F 18 [.dat (place 5 a size []), .dat (.int s), .dat (.int e)] μ2 = some (.ok (.dat (place 5 (a + s - 1) pl [])), μ2))
    (cH : F 19 [.mem nn ch, .dat (place 5 (a + s - 1) pl [])] μ2 = some (.ok (.dat (.str t)), μ2))
    (c2 : F 18 [.dat (place 5 (a + s - 1) pl []), .dat (.int p), .dat (.int q)] μ2 = some (.ok (.dat inn), μ2))
    (c3 : F 18 [.dat (place 5 a size []), .dat (.int (s + p - 1)), .dat (.int (s + q - 1))] μ2 = some (.ok (.dat inn), μ2))
    (c4 : F 18 [.dat (place 5 a size []), .dat .none, .dat .none] μ2 = some (.ok (.dat (place 5 a size [])), μ2))
    (c5 : F 18 [.dat (place 5 (a + s - 1) pl []), .dat .none, .dat .none] μ2 = some (.ok (.dat (place 5 (a + s - 1) pl [])), μ2))
    (c6 : F 18 [.dat (place 5 a size []), .dat .none, .dat (.int s)] μ2 = some (.ok (.dat (place 5 a s [])), μ2))
    (c7 : F 18 [.dat (place 5 a size []), .dat (.int (s + 1)), .dat .none] μ2 = some (.ok (.dat (if s = size then .none else place 5 (a + s) (size - s) [])), μ2))
    (c8 : F 18 [.dat (place 5 a size []), .dat (.int 0), .dat (.int e)] μ2 = some (.ok (.dat .none), μ2))
    (c9 : F 18 [.dat (place 5 a size []), .dat (.int s), .dat (.int (size + 1))] μ2 = some (.ok (.dat .none), μ2))
    (c10 : F 18 [.dat (place 5 a size []), .dat (.int (e + 1)), .dat (.int e)] μ2 = some (.ok (.dat .none), μ2))
    (c11 : F 18 [.dat (place 5 (a + s - 1) pl []), .dat (.int 1), .dat (.int (pl + 1))] μ2 = some (.ok (.dat .none), μ2)) :
    fnRes (evBk F G ir__law_texts_right) nn__law_texts_right pr__law_texts_right.length [.dat (.int a), .dat (.int size), .dat (.tuple [.int s, .int e]), .dat (.tuple [.int p, .int q])] μ = some (.ok (.dat (.bool true)), μ2) := by
  have ne2 : cmpD .NotEq (.str t) (.str t) = some false := cmp_ne_self (flt_shp (by decide) ht)
  have ne3 : cmpD .NotEq inn inn = some false := cmp_ne_self (flt_shp (by decide) hin)
  refine f_ret rfl ?_
  unfold ir__law_texts_right
  iterate 8 (refine k_next (by repeat' first|with_reducible (first|exact rfl|assumption|exact cmp_ne_self shp_place|apply_assumption (transparency := .reducible) -exfalso only [e_const, e_loc, e_sub, e_bin, w_cmp, w_call, w_meth, e_tup, e_bop, e_slc0, e_slc2, l_nil, l_cons, deref_d, ds4, ds0, bi_add, bi_sub, c_eqi, w_ne, b_one, w_bop, bsel_of, bsel_at, bsel_af, s_asg, s_asgD, s_pass, s_expr, s_ret, k_ret]|exact isb_r true|exact isb_r false|(apply isb_h; assumption)|(apply call_of; assumption)|(apply decide_eq_false; assumption)|(apply decide_eq_true; assumption))|exact cmp_ne_self shp_place|(apply call_of; assumption)|exact isb_h (b := true) rfl|exact isb_h (b := false) rfl|exact rfl|assumption) ?_; (try dsimp only [setPs, List.zip_cons_cons, List.zip_nil_left, List.zip_nil_right, List.set_cons_succ, List.set_cons_zero]))
  by_cases cc : s = size
  · rw [if_pos cc] at c7 ⊢
    have e9 : cmpV μ2 .NotEq (.dat (.bool (isNone (.dat .none)))) (.dat (.bool (decide (s = size)))) = some false := by rw [decide_eq_true cc]; rfl
    iterate 3 (refine k_next (by repeat' first|with_reducible (first|exact rfl|assumption|exact cmp_ne_self shp_place|apply_assumption (transparency := .reducible) -exfalso only [e_const, e_loc, e_sub, e_bin, w_cmp, w_call, w_meth, e_tup, e_bop, e_slc0, e_slc2, l_nil, l_cons, deref_d, ds4, ds0, bi_add, bi_sub, c_eqi, w_ne, b_one, w_bop, bsel_of, bsel_at, bsel_af, s_asg, s_asgD, s_pass, s_expr, s_ret, k_ret]|exact isb_r true|exact isb_r false|(apply isb_h; assumption)|(apply call_of; assumption)|(apply decide_eq_false; assumption)|(apply decide_eq_true; assumption))|exact cmp_ne_self shp_place|(apply call_of; assumption)|exact isb_h (b := true) rfl|exact isb_h (b := false) rfl|exact rfl|assumption) ?_; (try dsimp only [setPs, List.zip_cons_cons, List.zip_nil_left, List.zip_nil_right, List.set_cons_succ, List.set_cons_zero]))
    (refine k_ret (by repeat' first|with_reducible (first|exact rfl|assumption|exact cmp_ne_self shp_place|apply_assumption (transparency := .reducible) -exfalso only [e_const, e_loc, e_sub, e_bin, w_cmp, w_call, w_meth, e_tup, e_bop, e_slc0, e_slc2, l_nil, l_cons, deref_d, ds4, ds0, bi_add, bi_sub, c_eqi, w_ne, b_one, w_bop, bsel_of, bsel_at, bsel_af, s_asg, s_asgD, s_pass, s_expr, s_ret, k_ret]|exact isb_r true|exact isb_r false|(apply isb_h; assumption)|(apply call_of; assumption)|(apply decide_eq_false; assumption)|(apply decide_eq_true; assumption))|exact cmp_ne_self shp_place|(apply call_of; assumption)|exact isb_h (b := true) rfl|exact isb_h (b := false) rfl|exact rfl|assumption))
  · rw [if_neg cc] at c7 ⊢
    have e9 : cmpV μ2 .NotEq (.dat (.bool (isNone (.dat (place 5 (a + s) (size - s) []))))) (.dat (.bool (decide (s = size)))) = some false := by rw [decide_eq_false cc]; rfl
    iterate 3 (refine k_next (by repeat' first|with_reducible (first|exact rfl|assumption|exact cmp_ne_self shp_place|apply_assumption (transparency := .reducible) -exfalso only [e_const, e_loc, e_sub, e_bin, w_cmp, w_call, w_meth, e_tup, e_bop, e_slc0, e_slc2, l_nil, l_cons, deref_d, ds4, ds0, bi_add, bi_sub, c_eqi, w_ne, b_one, w_bop, bsel_of, bsel_at, bsel_af, s_asg, s_asgD, s_pass, s_expr, s_ret, k_ret]|exact isb_r true|exact isb_r false|(apply isb_h; assumption)|(apply call_of; assumption)|(apply decide_eq_false; assumption)|(apply decide_eq_true; assumption))|exact cmp_ne_self shp_place|(apply call_of; assumption)|exact isb_h (b := true) rfl|exact isb_h (b := false) rfl|exact rfl|assumption) ?_; (try dsimp only [setPs, List.zip_cons_cons, List.zip_nil_left, List.zip_nil_right, List.set_cons_succ, List.set_cons_zero]))
    (refine k_ret (by repeat' first|with_reducible (first|exact rfl|assumption|exact cmp_ne_self shp_place|apply_assumption (transparency := .reducible) -exfalso only [e_const, e_loc, e_sub, e_bin, w_cmp, w_call, w_meth, e_tup, e_bop, e_slc0, e_slc2, l_nil, l_cons, deref_d, ds4, ds0, bi_add, bi_sub, c_eqi, w_ne, b_one, w_bop, bsel_of, bsel_at, bsel_af, s_asg, s_asgD, s_pass, s_expr, s_ret, k_ret]|exact isb_r true|exact isb_r false|(apply isb_h; assumption)|(apply call_of; assumption)|(apply decide_eq_false; assumption)|(apply decide_eq_true; assumption))|exact cmp_ne_self shp_place|(apply call_of; assumption)|exact isb_h (b := true) rfl|exact isb_h (b := false) rfl|exact rfl|assumption))
end
end Mine
end
section
open PySem PySem.W PyProof.Rows PySem.Calls
set_option Elab.async false
set_option maxRecDepth 100000
set_option linter.unusedVariables false
set_option linter.unusedSimpArgs false
namespace Mine

section
variable (R : Obj → List (Str × Value) → Prop)
theorem cut_is (n : Nat) {a len lo hi A L : Int} {μ : Mu} (h : 1 ≤ lo ∧ lo ≤ hi ∧ hi ≤ len) (hA : A = a + lo - 1) (hL : L = hi - lo + 1) : semF R (n + 2) 18 [.dat (place 5 a len []), .dat (.int lo), .dat (.int hi)] μ = some (.ok (.dat (place 5 A L [])), μ) := by
  have q := sp_cut R n (k := 5) (a := a) (len := len) (dims := []) (lo := some lo) (hi := some hi) (μ := μ)
  rw [if_pos (by unfold subOk; simp only [Option.getD_some]; (first | lia | omega))] at q
  rw [hA, hL]; exact q
theorem cut_no (n : Nat) {a len lo hi : Int} {μ : Mu} (h : lo < 1 ∨ hi < lo ∨ len < hi) : semF R (n + 2) 18 [.dat (place 5 a len []), .dat (.int lo), .dat (.int hi)] μ = some (.ok (.dat .none), μ) := by
  have q := sp_cut R n (k := 5) (a := a) (len := len) (dims := []) (lo := some lo) (hi := some hi) (μ := μ)
  rw [if_neg (by unfold subOk; simp only [Option.getD_some]; (first | lia | omega))] at q
  exact q
theorem cut_all (n : Nat) {a len : Int} {μ : Mu} (h : 1 ≤ len) : semF R (n + 2) 18 [.dat (place 5 a len []), .dat .none, .dat .none] μ = some (.ok (.dat (place 5 a len [])), μ) := by
  have q := sp_cut R n (k := 5) (a := a) (len := len) (dims := []) (lo := none) (hi := none) (μ := μ)
  rw [if_pos (by unfold subOk; simp only [Option.getD_none]; (first | lia | omega))] at q
  simp only [Option.getD_none, show a + 1 - 1 = a by (first | lia | omega), show len - 1 + 1 = len by (first | lia | omega)] at q
  exact q
theorem cut_left (n : Nat) {a len hi : Int} {μ : Mu} (h : 1 ≤ hi ∧ hi ≤ len) : semF R (n + 2) 18 [.dat (place 5 a len []), .dat .none, .dat (.int hi)] μ = some (.ok (.dat (place 5 a hi [])), μ) := by
  have q := sp_cut R n (k := 5) (a := a) (len := len) (dims := []) (lo := none) (hi := some hi) (μ := μ)
  rw [if_pos (by unfold subOk; simp only [Option.getD_none, Option.getD_some]; (first | lia | omega))] at q
  simp only [Option.getD_none, Option.getD_some, show a + 1 - 1 = a by (first | lia | omega), show hi - 1 + 1 = hi by (first | lia | omega)] at q
  exact q
theorem cut_right (n : Nat) {a len s : Int} {μ : Mu} (h : 1 ≤ s ∧ s ≤ len) : semF R (n + 2) 18 [.dat (place 5 a len []), .dat (.int (s + 1)), .dat .none] μ = some (.ok (.dat (if s = len then .none else place 5 (a + s) (len - s) [])), μ) := by
  have q := sp_cut R n (k := 5) (a := a) (len := len) (dims := []) (lo := some (s + 1)) (hi := none) (μ := μ)
  by_cases c : s = len
  · rw [if_neg (by unfold subOk; simp only [Option.getD_none, Option.getD_some]; (first | lia | omega))] at q
    rw [if_pos c]; exact q
  · rw [if_pos (by unfold subOk; simp only [Option.getD_none, Option.getD_some]; (first | lia | omega))] at q
    simp only [Option.getD_none, Option.getD_some, show a + (s + 1) - 1 = a + s by (first | lia | omega), show len - (s + 1) + 1 = len - s by (first | lia | omega)] at q
    rw [if_neg c]; exact q
theorem sp_texts (n : Nat) {a size s e p q : Int} {μ : Mu} (ha : 0 ≤ a ∧ a ≤ 100) (h1 : 1 ≤ s ∧ s ≤ e ∧ e ≤ size ∧ size ≤ 6) (h2 : 1 ≤ p ∧ p ≤ q ∧ q ≤ e - s + 1) :
    ∃ μ', semF R (n + 5) 24 [.dat (.int a), .dat (.int size), .dat (.tuple [.int s, .int e]), .dat (.tuple [.int p, .int q])] μ = some (.ok (.dat (.bool true)), μ ++ μ') := by
  obtain ⟨x, x1, x2, x3, x4⟩ := slc_uv (len := size) (by (first | lia | omega))
  obtain ⟨t, t1, t2, t3, t4, t5⟩ := slc_part (s := s) (e := e) (by (first | lia | omega))
  rw [← empty_is] at t4
  rw [← uv_is] at t1
  have c27 : semF R (n + 4) 27 [.dat (.int 0), .dat (.int (a + size))] μ = some (.ok (.mem μ.length (μ.length + 1)), muK 5 μ (List.replicate (a + size).toNat .none)) := by
    rw [sp_mem R (n + 3) (by (first | lia | omega)) (by (first | lia | omega))]; simp [muK]
  generalize hD0 : List.replicate (a + size).toNat Dat.none = D0 at *
  have L0 : (D0.length : Int) = a + size := by rw [← hD0]; simp; (first | lia | omega)
  have hu : usz 5 size = size := rfl
  have gS := st_text R x3 x2 (by (first | lia | omega)) n (muK 5 μ D0) μ.length (μ.length + 1) D0 a muK_get (by (first | lia | omega)) (by (first | lia | omega)) (by rw [hu]; (first | lia | omega))
  rw [muK_set] at gS
  have L1 : ((fillD D0 a (charsD x)).length : Int) = a + size := by rw [fillD_len, L0]
  have hb : blk (fillD D0 a (charsD x)) (a + s - 1) (e - s + 1) = charsD t := by
    rw [t2]
    obtain ⟨A, hA⟩ := Int.eq_ofNat_of_zero_le ha.1
    obtain ⟨S, hS⟩ := Int.eq_ofNat_of_zero_le (show 0 ≤ s - 1 by (first | lia | omega))
    obtain ⟨E, hE⟩ := Int.eq_ofNat_of_zero_le (show 0 ≤ e - s + 1 by (first | lia | omega))
    have hx : (charsD x).length = size.toNat := by rw [charsD_len]; (first | lia | omega)
    rw [show a + s - 1 = ((A + S : Nat) : Int) by (first | lia | omega), hE, hS, hA, Int.toNat_natCast, Int.toNat_natCast]
    apply List.ext_getElem?
    intro j
    rw [blk_get, fillD_get _ _ _ _ (by (first | lia | omega)), List.getElem?_take, List.getElem?_drop]
    by_cases c : j < E
    · rw [if_pos c, if_pos c, if_pos (by (first | lia | omega)), x4, List.getElem?_take, if_pos (by (first | lia | omega))]
      congr 1; (first | lia | omega)
    · rw [if_neg c, if_neg c]
  have cH := hd_text R (len := e - s + 1) (shp_chars t5) t3 t4 (by (first | lia | omega)) n (muK 5 μ (fillD D0 a (charsD x))) μ.length (μ.length + 1) (fillD D0 a (charsD x)) (a + s - 1) muK_get (by (first | lia | omega)) (by (first | lia | omega)) (by show a + s - 1 + (e - s + 1) ≤ _; (first | lia | omega)) hb
  have fin : semF R (n + 5) 24 [.dat (.int a), .dat (.int size), .dat (.tuple [.int s, .int e]), .dat (.tuple [.int p, .int q])] μ = some (.ok (.dat (.bool true)), muK 5 μ (fillD D0 a (charsD x))) := by
    have key := tx_walk (F := semF R (n + 4)) (G := semG R (n + 4)) (μ := μ) (a := a) (size := size) (s := s) (e := e) (p := p) (q := q) (pl := e - s + 1) (inn := place 5 (a + s - 1 + p - 1) (q - p + 1) []) (flt_str t5) (flt_le (by decide) flt_place) x1 t1 c27 gS
      (cut_is R (n + 2) (by (first | lia | omega)) rfl rfl) cH (cut_is R (n + 2) (by (first | lia | omega)) rfl rfl) (cut_is R (n + 2) (by (first | lia | omega)) (by (first | lia | omega)) (by (first | lia | omega))) (cut_all R (n + 2) (by (first | lia | omega))) (cut_all R (n + 2) (by (first | lia | omega))) (cut_left R (n + 2) (by (first | lia | omega))) (cut_right R (n + 2) (by (first | lia | omega)))
      (cut_no R (n + 2) (by (first | lia | omega))) (cut_no R (n + 2) (by (first | lia | omega))) (cut_no R (n + 2) (by (first | lia | omega))) (cut_no R (n + 2) (by (first | lia | omega)))
    unfold semF
    exact key
  exact ⟨_, fin⟩
end
end Mine
end
section
open PySem PySem.W PyProof.Rows PySem.Calls
set_option Elab.async false
set_option maxRecDepth 100000
set_option maxHeartbeats 4000000
set_option linter.unusedVariables false
set_option linter.unusedSimpArgs false
namespace Mine

noncomputable def hS (R : Obj → List (Str × Value) → Prop) (b : List Int) (μ : Mu) (g : Int) (ν : Mu) : Mu := μ.set 0 (.chain R b g) ++ ν
section
variable {R : Obj → List (Str × Value) → Prop} {b : List Int} {μ : Mu}
theorem hS_0 (h : 0 < μ.length) (g : Int) (ν : Mu) : (hS R b μ g ν)[0]? = some (.chain R b g) := by
  unfold hS
  rw [List.getElem?_append_left (by simpa using h), List.getElem?_set_self h]
theorem hS_set0 (h : 0 < μ.length) (g g' : Int) (ν : Mu) : (hS R b μ g ν).set 0 (.chain R b g') = hS R b μ g' ν := by
  unfold hS
  rw [List.set_append_left _ _ (by simpa using h), List.set_set]
theorem hS_get (g : Int) (ν : Mu) (i : Nat) : (hS R b μ g ν)[μ.length + i]? = ν[i]? := by
  unfold hS
  rw [List.getElem?_append_right (by simp)]; simp
theorem hS_set (g : Int) (ν : Mu) (i : Nat) (x : MO) : (hS R b μ g ν).set (μ.length + i) x = hS R b μ g (ν.set i x) := by
  unfold hS
  rw [List.set_append_right _ _ (by simp)]; simp
theorem hS_len (g : Int) (ν : Mu) : (hS R b μ g ν).length = μ.length + ν.length := by simp [hS]
theorem hS_app (g : Int) (ν ν' : Mu) : hS R b μ g ν ++ ν' = hS R b μ g (ν ++ ν') := by simp [hS]
theorem hS_start {g : Int} (h : μ[0]? = some (.chain R b g)) : hS R b μ g [] = μ := by
  unfold hS
  rw [List.append_nil]
  apply List.ext_getElem?
  intro i
  by_cases q : i = 0
  · subst q; rw [List.getElem?_set_self (List.getElem?_eq_some_iff.mp h).1, h]
  · rw [List.getElem?_set_ne (Ne.symm q)]
noncomputable def bv (b : List Int) (g m : Int) : Int := (beadAt b (g + 1)).fmod m
theorem bv_in (b : List Int) (g : Int) {m : Int} (h : 0 < m) : 0 ≤ bv b g m ∧ bv b g m < m := ⟨Int.fmod_nonneg_of_pos _ h, Int.fmod_lt_of_pos _ h⟩
theorem sp_bead (n : Nat) (hμ : 0 < μ.length) (hb : b.length ≤ 60) {g m : Int} (hg : 0 ≤ g ∧ g ≤ 100000) (hm : 0 < m ∧ m ≤ 1000) (ν : Mu) :
    semF R (n + 1) 16 [.mref 0, .dat (.int m)] (hS R b μ g ν) = some (.ok (.dat (.int (bv b g m))), hS R b μ (g + 1) ν) := by
  rw [semF, if_pos rfl]
  unfold beadF
  dsimp only
  rw [hS_0 hμ]
  dsimp only
  refine (if_pos ⟨rfl, hm.1, hm.2, hg.1, hg.2, hb⟩).trans ?_
  rw [hS_set0 hμ]; rfl
end
theorem Dg.app {ls ms ds : List Int} (g : Dg ls ms ds) {l m d : Int} (h1 : 0 ≤ d) (h2 : d < m) : Dg (ls ++ [l]) (ms ++ [m]) (ds ++ [d]) := by
  induction g with
  | nil => exact .cons h1 h2 .nil
  | cons a b _ ih => exact .cons a b ih
section
variable {F G : Nat → List Vl → Mu → RR Vl} {S : Int → Mu → Mu} {L : Nat}
theorem tn_turn {X1 X2 X3 x8 x9 x10 : Option Vl} {D O T : List Dat} {c g g1 g2 g3 g4 v1 v2 v3 v4 : Int}
    (hg0 : ∀ g a b c, (S g [a, b, c])[L]? = some a) (hg1 : ∀ g a b c, (S g [a, b, c])[L + 1]? = some b) (hg2 : ∀ g a b c, (S g [a, b, c])[L + 2]? = some c)
    (hs0 : ∀ g a b c x, (S g [a, b, c]).set L x = S g [x, b, c]) (hs1 : ∀ g a b c x, (S g [a, b, c]).set (L + 1) x = S g [a, x, c]) (hs2 : ∀ g a b c x, (S g [a, b, c]).set (L + 2) x = S g [a, b, x])
    (b1 : ∀ ν, F 16 [.mref 0, .dat (.int 9)] (S g ν) = some (.ok (.dat (.int v1)), S g1 ν)) (b2 : ∀ ν, F 16 [.mref 0, .dat (.int 3)] (S g1 ν) = some (.ok (.dat (.int v2)), S g2 ν))
    (b3 : ∀ ν, F 16 [.mref 0, .dat (.int (1 + v2))] (S g2 ν) = some (.ok (.dat (.int v3)), S g3 ν)) (b4 : ∀ ν, F 16 [.mref 0, .dat (.int (1 + v2))] (S g3 ν) = some (.ok (.dat (.int v4)), S g4 ν))
    (hD : D.length ≤ 100) (hO : O.length ≤ 100) (hT : T.length ≤ 100) (hv : 0 ≤ v2 ∧ v2 ≤ 100) :
    evBk F G lp__law_turn_0 [some (.mref 0), X1, X2, X3, some (.mref L), some (.mref (L + 1)), some (.mref (L + 2)), some (.dat (.int c)), x8, x9, x10, none, none, none, none, none, none, none, none] (S g [.plst D, .plst O, .plst T]) =
      some (.ok (.next [some (.mref 0), X1, X2, X3, some (.mref L), some (.mref (L + 1)), some (.mref (L + 2)), some (.dat (.int (c * (1 + v2)))), x8, some (.dat (.int (v1 - 4))), some (.dat (.int (1 + v2))), none, none, none, none, none, none, none, none]),
        S g4 [.plst (D ++ [.tuple [.int (v1 - 4), .int (v1 - 4 + (1 + v2) - 1)]]), .plst (O ++ [.int (v1 - 4 + v3)]), .plst (T ++ [.int (v1 - 4 + v4)])]) := by
  have r1 := room_of (n := D.length) (by (first | lia | omega))
  have r2 := room_of (n := O.length) (by (first | lia | omega))
  have r3 := room_of (n := T.length) (by (first | lia | omega))
  have r4 : room 2 = true := by decide
  have sm : small (1 + v2) = true := small_of (by (first | lia | omega))
  have q1 := hg0 g2 (.plst D) (.plst O) (.plst T)
  have q2 := hg1 g2 (.plst (D ++ [.tuple [.int (v1 - 4), .int (v1 - 4 + (1 + v2) - 1)]])) (.plst O) (.plst T)
  have q3 := hg1 g3 (.plst (D ++ [.tuple [.int (v1 - 4), .int (v1 - 4 + (1 + v2) - 1)]])) (.plst O) (.plst T)
  have q4 := hg2 g3 (.plst (D ++ [.tuple [.int (v1 - 4), .int (v1 - 4 + (1 + v2) - 1)]])) (.plst (O ++ [.int (v1 - 4 + v3)])) (.plst T)
  have q5 := hg2 g4 (.plst (D ++ [.tuple [.int (v1 - 4), .int (v1 - 4 + (1 + v2) - 1)]])) (.plst (O ++ [.int (v1 - 4 + v3)])) (.plst T)
  have c1 := b1 [.plst D, .plst O, .plst T]
  have c2 := b2 [.plst D, .plst O, .plst T]
  have c3 := b3 [.plst (D ++ [.tuple [.int (v1 - 4), .int (v1 - 4 + (1 + v2) - 1)]]), .plst O, .plst T]
  have c4 := b4 [.plst (D ++ [.tuple [.int (v1 - 4), .int (v1 - 4 + (1 + v2) - 1)]]), .plst (O ++ [.int (v1 - 4 + v3)]), .plst T]
  have z : augD .Mult c (1 + v2) = some (c * (1 + v2)) := by simp only [augD, sm, Bool.or_true, if_true]
  unfold lp__law_turn_0
  iterate 2 (refine k_next (by repeat' first|with_reducible (first|exact rfl|assumption|apply_assumption (transparency := .reducible) -exfalso only [e_const, e_loc, e_bin, w_call, e_tup, e_app, l_nil, l_cons, deref_d, ds2, bi_add, bi_sub, s_asgD, s_aug, s_expr]|(apply isb_h; assumption)|(apply call_of; assumption))|(apply call_of; assumption)|exact isb_h (b := true) rfl|exact isb_h (b := false) rfl|exact rfl|assumption) ?_; (try dsimp only [setPs, List.zip_cons_cons, List.zip_nil_left, List.zip_nil_right, List.set_cons_succ, List.set_cons_zero]))
  rw [hs0]
  (refine k_next (by repeat' first|with_reducible (first|exact rfl|assumption|apply_assumption (transparency := .reducible) -exfalso only [e_const, e_loc, e_bin, w_call, e_tup, e_app, l_nil, l_cons, deref_d, ds2, bi_add, bi_sub, s_asgD, s_aug, s_expr]|(apply isb_h; assumption)|(apply call_of; assumption))|(apply call_of; assumption)|exact isb_h (b := true) rfl|exact isb_h (b := false) rfl|exact rfl|assumption) ?_; (try dsimp only [setPs, List.zip_cons_cons, List.zip_nil_left, List.zip_nil_right, List.set_cons_succ, List.set_cons_zero]))
  rw [hs1]
  (refine k_next (by repeat' first|with_reducible (first|exact rfl|assumption|apply_assumption (transparency := .reducible) -exfalso only [e_const, e_loc, e_bin, w_call, e_tup, e_app, l_nil, l_cons, deref_d, ds2, bi_add, bi_sub, s_asgD, s_aug, s_expr]|(apply isb_h; assumption)|(apply call_of; assumption))|(apply call_of; assumption)|exact isb_h (b := true) rfl|exact isb_h (b := false) rfl|exact rfl|assumption) ?_; (try dsimp only [setPs, List.zip_cons_cons, List.zip_nil_left, List.zip_nil_right, List.set_cons_succ, List.set_cons_zero]))
  rw [hs2]
  (refine k_next (by repeat' first|with_reducible (first|exact rfl|assumption|apply_assumption (transparency := .reducible) -exfalso only [e_const, e_loc, e_bin, w_call, e_tup, e_app, l_nil, l_cons, deref_d, ds2, bi_add, bi_sub, s_asgD, s_aug, s_expr]|(apply isb_h; assumption)|(apply call_of; assumption))|(apply call_of; assumption)|exact isb_h (b := true) rfl|exact isb_h (b := false) rfl|exact rfl|assumption) ?_; (try dsimp only [setPs, List.zip_cons_cons, List.zip_nil_left, List.zip_nil_right, List.set_cons_succ, List.set_cons_zero]))
  rfl
end
end Mine
end
section
open PySem PySem.W PyProof.Rows PySem.Calls
set_option Elab.async false
set_option maxRecDepth 100000
set_option maxHeartbeats 4000000
set_option linter.unusedVariables false
set_option linter.unusedSimpArgs false
namespace Mine

theorem sml_app {b : Int} {xs : List Int} {x : Int} (h : sml b xs) (hx : -b ≤ x ∧ x ≤ b) : sml b (xs ++ [x]) := fun y hy => by
  rcases List.mem_append.mp hy with q | q
  · exact h y q
  · simp at q; subst q; exact hx
section
variable {F G : Nat → List Vl → Mu → RR Vl} {S : Int → Mu → Mu} {L : Nat} {b : List Int}
theorem tn_loop {X1 X2 X3 : Option Vl}
    (hg0 : ∀ g a b c, (S g [a, b, c])[L]? = some a) (hg1 : ∀ g a b c, (S g [a, b, c])[L + 1]? = some b) (hg2 : ∀ g a b c, (S g [a, b, c])[L + 2]? = some c)
    (hs0 : ∀ g a b c x, (S g [a, b, c]).set L x = S g [x, b, c]) (hs1 : ∀ g a b c x, (S g [a, b, c]).set (L + 1) x = S g [a, x, c]) (hs2 : ∀ g a b c x, (S g [a, b, c]).set (L + 2) x = S g [a, b, x])
    (hB : ∀ g m ν, 0 ≤ g → g ≤ 100000 → 0 < m → m ≤ 1000 → F 16 [.mref 0, .dat (.int m)] (S g ν) = some (.ok (.dat (.int (bv b g m))), S (g + 1) ν)) :
    ∀ (xs : List Dat) (g : Int) (ls ms ds es : List Int) (x8 x9 x10 : Option Vl), Dg ls ms ds → Dg ls ms es → sml 100 ls → sml 100 ms → ds.length + xs.length ≤ 10 → pr ms * 3 ^ xs.length ≤ 27 → 0 ≤ g → g + 4 * xs.length ≤ 100000 →
      ∃ g' ls' ms' ds' es' y8 y9 y10,
        evFor (fun σ μ => evBk F G lp__law_turn_0 σ μ) (.one 8) xs [some (.mref 0), X1, X2, X3, some (.mref L), some (.mref (L + 1)), some (.mref (L + 2)), some (.dat (.int (pr ms))), x8, x9, x10, none, none, none, none, none, none, none, none]
          (S g [.plst ((mkD ls ms).map dmD), .plst ((addL ls ds).map .int), .plst ((addL ls es).map .int)]) =
        some (.ok (.next [some (.mref 0), X1, X2, X3, some (.mref L), some (.mref (L + 1)), some (.mref (L + 2)), some (.dat (.int (pr ms'))), y8, y9, y10, none, none, none, none, none, none, none, none]),
          S g' [.plst ((mkD ls' ms').map dmD), .plst ((addL ls' ds').map .int), .plst ((addL ls' es').map .int)]) ∧
        Dg ls' ms' ds' ∧ Dg ls' ms' es' ∧ sml 100 ls' ∧ sml 100 ms' ∧ ds'.length = ds.length + xs.length ∧ pr ms' ≤ 27 ∧ g ≤ g' ∧ g' ≤ g + 4 * xs.length
  | [], g, ls, ms, ds, es, x8, x9, x10, d1, d2, s1, s2, hl, hp, h0, hg => ⟨g, ls, ms, ds, es, x8, x9, x10, rfl, d1, d2, s1, s2, rfl, by simpa using hp, by (first | lia | omega), by simp⟩
  | x :: xs, g, ls, ms, ds, es, x8, x9, x10, d1, d2, s1, s2, hl, hp, h0, hg => by
    simp only [List.length_cons, Int.natCast_add, Int.natCast_one, Int.pow_succ] at hl hp hg
    have v1 := bv_in b g (m := 9) (by (first | lia | omega))
    have v2 := bv_in b (g + 1) (m := 3) (by (first | lia | omega))
    have v3 := bv_in b (g + 1 + 1) (m := 1 + bv b (g + 1) 3) (by (first | lia | omega))
    have v4 := bv_in b (g + 1 + 1 + 1) (m := 1 + bv b (g + 1) 3) (by (first | lia | omega))
    have l1 := mkD_len d1
    have l2 := addL_len d1
    have l3 := addL_len d2
    have l4 := d1.len
    have l5 := d2.len
    have turn := tn_turn (F := F) (G := G) (S := S) (L := L) (X1 := X1) (X2 := X2) (X3 := X3) (x8 := some (.dat x)) (x9 := x9) (x10 := x10) (D := (mkD ls ms).map dmD) (O := (addL ls ds).map .int) (T := (addL ls es).map .int) (c := pr ms) (g := g)
      hg0 hg1 hg2 hs0 hs1 hs2 (fun ν => hB g 9 ν (by (first | lia | omega)) (by (first | lia | omega)) (by (first | lia | omega)) (by (first | lia | omega))) (fun ν => hB (g + 1) 3 ν (by (first | lia | omega)) (by (first | lia | omega)) (by (first | lia | omega)) (by (first | lia | omega))) (fun ν => hB (g + 1 + 1) _ ν (by (first | lia | omega)) (by (first | lia | omega)) (by (first | lia | omega)) (by (first | lia | omega))) (fun ν => hB (g + 1 + 1 + 1) _ ν (by (first | lia | omega)) (by (first | lia | omega)) (by (first | lia | omega)) (by (first | lia | omega)))
      (by simp; (first | lia | omega)) (by simp; (first | lia | omega)) (by simp; (first | lia | omega)) (by (first | lia | omega))
    obtain ⟨t1, t2⟩ := mkD_last d1 (l := bv b g 9 - 4) (m := 1 + bv b (g + 1) 3) (d := bv b (g + 1 + 1) (1 + bv b (g + 1) 3))
    obtain ⟨_, t3⟩ := mkD_last d2 (l := bv b g 9 - 4) (m := 1 + bv b (g + 1) 3) (d := bv b (g + 1 + 1 + 1) (1 + bv b (g + 1) 3))
    obtain ⟨_, t4⟩ := vl_last d1 (m := 1 + bv b (g + 1) 3) (d := 0)
    have e1 : (mkD ls ms).map dmD ++ [Dat.tuple [.int (bv b g 9 - 4), .int (bv b g 9 - 4 + (1 + bv b (g + 1) 3) - 1)]] = (mkD (ls ++ [bv b g 9 - 4]) (ms ++ [1 + bv b (g + 1) 3])).map dmD := by rw [t1, List.map_append]; rfl
    have e2 : (addL ls ds).map Dat.int ++ [.int (bv b g 9 - 4 + bv b (g + 1 + 1) (1 + bv b (g + 1) 3))] = (addL (ls ++ [bv b g 9 - 4]) (ds ++ [bv b (g + 1 + 1) (1 + bv b (g + 1) 3)])).map .int := by rw [t2, List.map_append]; rfl
    have e3 : (addL ls es).map Dat.int ++ [.int (bv b g 9 - 4 + bv b (g + 1 + 1 + 1) (1 + bv b (g + 1) 3))] = (addL (ls ++ [bv b g 9 - 4]) (es ++ [bv b (g + 1 + 1 + 1) (1 + bv b (g + 1) 3)])).map .int := by rw [t3, List.map_append]; rfl
    have e4 : pr ms * (1 + bv b (g + 1) 3) = pr (ms ++ [1 + bv b (g + 1) 3]) := by rw [t4]; exact Int.mul_comm _ _
    rw [e1, e2, e3, e4] at turn
    have hpos := pr_pos d1
    have hpp : pr (ms ++ [1 + bv b (g + 1) 3]) * 3 ^ xs.length ≤ 27 := by
      rw [t4]
      have h3 : (0 : Int) < 3 ^ xs.length := Int.pow_pos (by (first | lia | omega))
      have h4 : 0 ≤ pr ms * 3 ^ xs.length := Int.mul_nonneg (by (first | lia | omega)) (by (first | lia | omega))
      have h5 : (1 + bv b (g + 1) 3) * (pr ms * 3 ^ xs.length) ≤ 3 * (pr ms * 3 ^ xs.length) := Int.mul_le_mul_of_nonneg_right (by (first | lia | omega)) h4
      have h6 : (1 + bv b (g + 1) 3) * pr ms * 3 ^ xs.length = (1 + bv b (g + 1) 3) * (pr ms * 3 ^ xs.length) := Int.mul_assoc _ _ _
      have h7 : pr ms * (3 ^ xs.length * 3) = 3 * (pr ms * 3 ^ xs.length) := by grind
      (first | lia | omega)
    obtain ⟨g', ls', ms', ds', es', y8, y9, y10, f1, f2, f3, f4, f5, f6, f7, f8, f9⟩ := tn_loop hg0 hg1 hg2 hs0 hs1 hs2 hB xs (g + 1 + 1 + 1 + 1) _ _ _ _ (some (.dat x)) (some (.dat (.int (bv b g 9 - 4)))) (some (.dat (.int (1 + bv b (g + 1) 3))))
      (d1.app (l := bv b g 9 - 4) v3.1 v3.2) (d2.app (l := bv b g 9 - 4) v4.1 v4.2) (sml_app s1 (by (first | lia | omega))) (sml_app s2 (by (first | lia | omega))) (by simp; (first | lia | omega)) hpp (by (first | lia | omega)) (by (first | lia | omega))
    refine ⟨g', ls', ms', ds', es', y8, y9, y10, ?_, f2, f3, f4, f5, by rw [f6]; simp; (first | lia | omega), f7, by (first | lia | omega), by simp; (first | lia | omega)⟩
    have hset : setT (.one 8) x [some (.mref 0), X1, X2, X3, some (.mref L), some (.mref (L + 1)), some (.mref (L + 2)), some (.dat (.int (pr ms))), x8, x9, x10, none, none, none, none, none, none, none, none] = some [some (.mref 0), X1, X2, X3, some (.mref L), some (.mref (L + 1)), some (.mref (L + 2)), some (.dat (.int (pr ms))), some (.dat x), x9, x10, none, none, none, none, none, none, none, none] := rfl
    exact (for_next hset turn).trans f1
end
end Mine
end
section
open PySem PySem.W PyProof.Rows PySem.Calls
set_option Elab.async false
set_option maxRecDepth 100000
set_option maxHeartbeats 4000000
set_option linter.unusedVariables false
set_option linter.unusedSimpArgs false
namespace Mine

theorem cmp_in23 (k : Int) : cmpD .In (.int k) (.tuple [.int 2, .int 3]) = some (decide (k = 2 ∨ k = 3)) := by
  have h1 : shpL [.int 2, .int 3] = true := flt_shpL (h := 0) (by decide) (flt_ints [2, 3])
  have h2 : lay (.int k) = true := rfl
  simp only [cd_eq, cd_ne, cd_lt, cd_le, cd_gt, cd_ge, cd_inl, cd_int, h1, h2, Bool.and_self, if_true, List.any_cons, List.any_nil, eqD_int, Bool.or_false]
  by_cases a : k = 2
  · subst a; rfl
  · by_cases c : k = 3
    · subst c; rfl
    · rw [decide_eq_false (by (first | lia | omega) : ¬ (2 : Int) = k), decide_eq_false (by (first | lia | omega) : ¬ (3 : Int) = k), decide_eq_false (by (first | lia | omega))]; rfl
section
variable {F G : Nat → List Vl → Mu → RR Vl} {S : Int → Mu → Mu} {L : Nat}
theorem tn_walk {g0 g1 g2 g3 g4 g5 g6 g7 g8 g9 g10 g11 k len len' at' vr rr c sh shift W LN whole vs vt vu vw vx size start q1 q2 behind q3 q4 inner q5 q6 last : Int} {D O T : List Dat} {t5 t23 : Bool} {y8 y9 y10 : Option Vl} {ν1 ν2 ν3 : Mu}
    (hlen : ∀ g ν, (S g ν).length = L + ν.length) (happ : ∀ g ν ν', S g ν ++ ν' = S g (ν ++ ν')) (hdr : deref (S g5 [.plst D, .plst O, .plst T]) (.mref L) = some (.list D))
    (b1 : F 16 [.mref 0, .dat (.int 6)] (S g0 []) = some (.ok (.dat (.int k)), S g1 []))
    (b2 : F 16 [.mref 0, .dat (.int 4)] (S g1 []) = some (.ok (.dat (.int len')), S g2 [])) (a2 : 1 + len' = len)
    (b3 : F 16 [.mref 0, .dat (.int 4)] (S g2 []) = some (.ok (.dat (.int at')), S g3 []))
    (b4 : F 16 [.mref 0, .dat (.int 3)] (S g3 [.plst [], .plst [], .plst []]) = some (.ok (.dat (.int vr)), S g4 [.plst [], .plst [], .plst []])) (a4 : 1 + vr = rr)
    (ho : ord rr = true) (hl : D.length ≤ 100)
    (loop : evFor (fun σ μ => evBk F G lp__law_turn_0 σ μ) (.one 8) (rangeD 0 rr.toNat) [some (.mref 0), some (.dat (.int k)), some (.dat (.int len)), some (.dat (.int at')), some (.mref L), some (.mref (L + 1)), some (.mref (L + 2)), some (.dat (.int 1)), none, none, none, none, none, none, none, none, none, none, none] (S g4 [.plst [], .plst [], .plst []]) =
      some (.ok (.next [some (.mref 0), some (.dat (.int k)), some (.dat (.int len)), some (.dat (.int at')), some (.mref L), some (.mref (L + 1)), some (.mref (L + 2)), some (.dat (.int c)), y8, y9, y10, none, none, none, none, none, none, none, none]), S g5 [.plst D, .plst O, .plst T]))
    (h5 : decide (k = 5) = t5) (h23 : decide (k = 2 ∨ k = 3) = t23) (hW : W = if t5 then len else if t23 then 2 else 1) (hLN : LN = if t5 then len else 0) (hsW : small W = true)
    (b5 : F 16 [.mref 0, .dat (.int 9)] (S g5 [.plst D, .plst O, .plst T]) = some (.ok (.dat (.int sh)), S g6 [.plst D, .plst O, .plst T])) (a5 : sh - 4 = shift) (am : c * W = whole)
    (c21 : F 21 [.dat (.tuple [.int k, .int at', .int LN, .tuple D]), .mref (L + 1), .mref (L + 2), .dat (.int W), .dat (.int whole), .dat (.int shift)] (S g6 [.plst D, .plst O, .plst T]) = some (.ok (.dat (.bool true)), S g6 [.plst D, .plst O, .plst T]))
    (c22 : F 22 [.dat (.tuple [.int k, .int at', .int LN, .tuple D]), .mref (L + 1), .dat (.int W), .dat (.int whole)] (S g6 [.plst D, .plst O, .plst T]) = some (.ok (.dat (.bool true)), S g6 ν1))
    (c23 : F 23 [.dat (.tuple [.int k, .int at', .int LN, .tuple D]), .mref (L + 1), .mref (L + 2), .dat (.int whole)] (S g6 ν1) = some (.ok (.dat (.bool true)), S g6 ν2))
    (b6 : F 16 [.mref 0, .dat (.int 6)] (S g6 ν2) = some (.ok (.dat (.int vs)), S g7 ν2)) (a6 : 1 + vs = size)
    (b7 : F 16 [.mref 0, .dat (.int size)] (S g7 ν2) = some (.ok (.dat (.int vt)), S g8 ν2)) (a7 : 1 + vt = start) (e1 : size - start = q1) (e2 : q1 + 1 = q2)
    (b8 : F 16 [.mref 0, .dat (.int q2)] (S g8 ν2) = some (.ok (.dat (.int vu)), S g9 ν2)) (a8 : start + vu = behind) (e3 : behind - start = q3) (e4 : q3 + 1 = q4)
    (b9 : F 16 [.mref 0, .dat (.int q4)] (S g9 ν2) = some (.ok (.dat (.int vw)), S g10 ν2)) (a9 : 1 + vw = inner) (e5 : q3 + 2 = q5) (e6 : q5 - inner = q6)
    (b10 : F 16 [.mref 0, .dat (.int q6)] (S g10 ν2) = some (.ok (.dat (.int vx)), S g11 ν2)) (a10 : inner + vx = last)
    (c24 : F 24 [.dat (.int at'), .dat (.int size), .dat (.tuple [.int start, .int behind]), .dat (.tuple [.int inner, .int last])] (S g11 ν2) = some (.ok (.dat (.bool true)), S g11 ν3)) :
    fnRes (evBk F G ir__law_turn) nn__law_turn pr__law_turn.length [.mref 0] (S g0 []) = some (.ok (.dat (.bool true)), S g11 ν3) := by
  have r2 : room 2 = true := by decide
  have r4 : room 4 = true := by decide
  have rD : room D.length = true := room_of (by (first | lia | omega))
  have badd : ∀ {a b c : Int}, a + b = c → binD .Add (.int a) (.int b) = some (.int c) := fun h => by rw [← h]; rfl
  have bsub : ∀ {a b c : Int}, a - b = c → binD .Sub (.int a) (.int b) = some (.int c) := fun h => by rw [← h]; rfl
  have bmul : binD .Mult (.int c) (.int W) = some (.int whole) := by simp [bd_add, bd_sub, bd_mul, bd_adds, bd_muls, bd_addl, bd_addt, hsW, am]
  have ts1 : ∀ b μ, tsR (some (.ok (.dat (.bool b)), μ)) = some (.ok b, μ) := fun _ _ => rfl
  have z2 := badd a2
  have z4 := badd a4
  have z5 := bsub a5
  have z6 := badd a6
  have z7 := badd a7
  have z8 := bsub e1
  have z9 := badd e2
  have z10 := badd a8
  have z11 := bsub e3
  have z12 := badd e4
  have z13 := badd a9
  have z14 := badd e5
  have z15 := bsub e6
  have z16 := badd a10
  clear badd bsub a2 a4 a5 a6 a7 e1 e2 a8 e3 e4 a9 e5 e6 a10 am
  have tD : biD .tup (.list D) = some (.tuple D) := if_pos rD
  have cIn := cmp_in23 k
  have n0 : (S g3 []).length = L := hlen g3 []
  have n1 : (S g3 [.plst []]).length = L + 1 := hlen g3 [.plst []]
  have n2 : (S g3 [.plst [], .plst []]).length = L + 2 := hlen g3 [.plst [], .plst []]
  have w0 : evL F G (.cons .newl (.cons .newl (.cons .newl (.cons (.const (.int 1)) .nil)))) [some (.mref 0), some (.dat (.int k)), some (.dat (.int len)), some (.dat (.int at')), none, none, none, none, none, none, none, none, none, none, none, none, none, none, none] (S g3 []) =
      some (.ok [.mref L, .mref (L + 1), .mref (L + 2), .dat (.int 1)], S g3 [.plst [], .plst [], .plst []]) := by
    refine l_cons (V := .mref L) (μ1 := S g3 [.plst []]) (by rw [e_newl, n0, happ]; rfl) ?_
    refine l_cons (V := .mref (L + 1)) (μ1 := S g3 [.plst [], .plst []]) (by rw [e_newl, n1, happ]; rfl) ?_
    refine l_cons (V := .mref (L + 2)) (μ1 := S g3 [.plst [], .plst [], .plst []]) (by rw [e_newl, n2, happ]; rfl) ?_
    exact l_cons e_const l_nil
  refine f_ret rfl ?_
  unfold ir__law_turn
  show evBk F G _ [some (.mref 0), none, none, none, none, none, none, none, none, none, none, none, none, none, none, none, none, none, none] (S g0 []) = _
  (refine k_next (by repeat' first|with_reducible (first|exact rfl|assumption|apply_assumption (transparency := .reducible) -exfalso only [e_const, e_loc, e_newl, e_bin, w_cmp, w_call, e_tup, e_bop, e_not, w_ite, e_bi, l_nil, l_cons, deref_d, ds4, ds2, c_eqi, w_in, b_one, w_bop, sel_t, sel_f, bsel_of, i_rng1, s_asg, s_asgD, s_pass, s_ret, s_for, k_ret]|(apply isb_h; assumption)|(apply call_of; assumption)|(apply decide_eq_false; assumption))|(apply call_of; assumption)|exact isb_h (b := true) rfl|exact isb_h (b := false) rfl|exact rfl|assumption) ?_; (try dsimp only [setPs, List.zip_cons_cons, List.zip_nil_left, List.zip_nil_right, List.set_cons_succ, List.set_cons_zero]))
  refine' k_next (s_asgD w0 rfl) ?r1
  (dsimp only [setPs, List.zip_cons_cons, List.zip_nil_left, List.zip_nil_right, List.set_cons_succ, List.set_cons_zero])
  (refine k_next (by repeat' first|with_reducible (first|exact rfl|assumption|apply_assumption (transparency := .reducible) -exfalso only [e_const, e_loc, e_newl, e_bin, w_cmp, w_call, e_tup, e_bop, e_not, w_ite, e_bi, l_nil, l_cons, deref_d, ds4, ds2, c_eqi, w_in, b_one, w_bop, sel_t, sel_f, bsel_of, i_rng1, s_asg, s_asgD, s_pass, s_ret, s_for, k_ret]|(apply isb_h; assumption)|(apply call_of; assumption)|(apply decide_eq_false; assumption))|(apply call_of; assumption)|exact isb_h (b := true) rfl|exact isb_h (b := false) rfl|exact rfl|assumption) ?_; (try dsimp only [setPs, List.zip_cons_cons, List.zip_nil_left, List.zip_nil_right, List.set_cons_succ, List.set_cons_zero]))
  refine' k_next (s_asg (V := .dat (.tuple [.int k, .int at', .int LN, .tuple D])) (μ' := S g5 [.plst D, .plst O, .plst T]) ?e4 rfl) ?r4
  (case e4 =>
    cases t5
    · rw [if_neg Bool.false_ne_true] at hLN
      subst hLN
      (repeat' first|with_reducible (first|exact rfl|assumption|apply_assumption (transparency := .reducible) -exfalso only [e_const, e_loc, e_newl, e_bin, w_cmp, w_call, e_tup, e_bop, e_not, w_ite, e_bi, l_nil, l_cons, deref_d, ds4, ds2, c_eqi, w_in, b_one, w_bop, sel_t, sel_f, bsel_of, i_rng1, s_asg, s_asgD, s_pass, s_ret, s_for, k_ret]|(apply isb_h; assumption)|(apply call_of; assumption)|(apply decide_eq_false; assumption))|(apply call_of; assumption)|exact isb_h (b := true) rfl|exact isb_h (b := false) rfl|exact rfl|assumption)
    · rw [if_pos rfl] at hLN
      subst hLN
      (repeat' first|with_reducible (first|exact rfl|assumption|apply_assumption (transparency := .reducible) -exfalso only [e_const, e_loc, e_newl, e_bin, w_cmp, w_call, e_tup, e_bop, e_not, w_ite, e_bi, l_nil, l_cons, deref_d, ds4, ds2, c_eqi, w_in, b_one, w_bop, sel_t, sel_f, bsel_of, i_rng1, s_asg, s_asgD, s_pass, s_ret, s_for, k_ret]|(apply isb_h; assumption)|(apply call_of; assumption)|(apply decide_eq_false; assumption))|(apply call_of; assumption)|exact isb_h (b := true) rfl|exact isb_h (b := false) rfl|exact rfl|assumption))
  (dsimp only [setPs, List.zip_cons_cons, List.zip_nil_left, List.zip_nil_right, List.set_cons_succ, List.set_cons_zero])
  refine' k_next (s_asg (V := .dat (.int W)) (μ' := S g5 [.plst D, .plst O, .plst T]) ?e5 rfl) ?r5
  (case e5 =>
    cases t5
    · rw [if_neg Bool.false_ne_true] at hW
      cases t23
      · rw [if_neg Bool.false_ne_true] at hW
        subst hW
        (repeat' first|with_reducible (first|exact rfl|assumption|apply_assumption (transparency := .reducible) -exfalso only [e_const, e_loc, e_newl, e_bin, w_cmp, w_call, e_tup, e_bop, e_not, w_ite, e_bi, l_nil, l_cons, deref_d, ds4, ds2, c_eqi, w_in, b_one, w_bop, sel_t, sel_f, bsel_of, i_rng1, s_asg, s_asgD, s_pass, s_ret, s_for, k_ret]|(apply isb_h; assumption)|(apply call_of; assumption)|(apply decide_eq_false; assumption))|(apply call_of; assumption)|exact isb_h (b := true) rfl|exact isb_h (b := false) rfl|exact rfl|assumption)
      · rw [if_pos rfl] at hW
        subst hW
        (repeat' first|with_reducible (first|exact rfl|assumption|apply_assumption (transparency := .reducible) -exfalso only [e_const, e_loc, e_newl, e_bin, w_cmp, w_call, e_tup, e_bop, e_not, w_ite, e_bi, l_nil, l_cons, deref_d, ds4, ds2, c_eqi, w_in, b_one, w_bop, sel_t, sel_f, bsel_of, i_rng1, s_asg, s_asgD, s_pass, s_ret, s_for, k_ret]|(apply isb_h; assumption)|(apply call_of; assumption)|(apply decide_eq_false; assumption))|(apply call_of; assumption)|exact isb_h (b := true) rfl|exact isb_h (b := false) rfl|exact rfl|assumption)
    · rw [if_pos rfl] at hW
      subst hW
      (repeat' first|with_reducible (first|exact rfl|assumption|apply_assumption (transparency := .reducible) -exfalso only [e_const, e_loc, e_newl, e_bin, w_cmp, w_call, e_tup, e_bop, e_not, w_ite, e_bi, l_nil, l_cons, deref_d, ds4, ds2, c_eqi, w_in, b_one, w_bop, sel_t, sel_f, bsel_of, i_rng1, s_asg, s_asgD, s_pass, s_ret, s_for, k_ret]|(apply isb_h; assumption)|(apply call_of; assumption)|(apply decide_eq_false; assumption))|(apply call_of; assumption)|exact isb_h (b := true) rfl|exact isb_h (b := false) rfl|exact rfl|assumption))
  (dsimp only [setPs, List.zip_cons_cons, List.zip_nil_left, List.zip_nil_right, List.set_cons_succ, List.set_cons_zero])
  iterate 8 (refine k_next (by repeat' first|with_reducible (first|exact rfl|assumption|apply_assumption (transparency := .reducible) -exfalso only [e_const, e_loc, e_newl, e_bin, w_cmp, w_call, e_tup, e_bop, e_not, w_ite, e_bi, l_nil, l_cons, deref_d, ds4, ds2, c_eqi, w_in, b_one, w_bop, sel_t, sel_f, bsel_of, i_rng1, s_asg, s_asgD, s_pass, s_ret, s_for, k_ret]|(apply isb_h; assumption)|(apply call_of; assumption)|(apply decide_eq_false; assumption))|(apply call_of; assumption)|exact isb_h (b := true) rfl|exact isb_h (b := false) rfl|exact rfl|assumption) ?_; (try dsimp only [setPs, List.zip_cons_cons, List.zip_nil_left, List.zip_nil_right, List.set_cons_succ, List.set_cons_zero]))
  (refine k_ret (by repeat' first|with_reducible (first|exact rfl|assumption|apply_assumption (transparency := .reducible) -exfalso only [e_const, e_loc, e_newl, e_bin, w_cmp, w_call, e_tup, e_bop, e_not, w_ite, e_bi, l_nil, l_cons, deref_d, ds4, ds2, c_eqi, w_in, b_one, w_bop, sel_t, sel_f, bsel_of, i_rng1, s_asg, s_asgD, s_pass, s_ret, s_for, k_ret]|(apply isb_h; assumption)|(apply call_of; assumption)|(apply decide_eq_false; assumption))|(apply call_of; assumption)|exact isb_h (b := true) rfl|exact isb_h (b := false) rfl|exact rfl|assumption))
end
end Mine
end
section
open PySem PySem.W PyProof.Rows PySem.Calls
set_option Elab.async false
set_option maxRecDepth 100000
set_option linter.unusedVariables false
set_option linter.unusedSimpArgs false
namespace Mine

theorem usz_of {k len : Int} : usz k (if decide (k = 5) = true then len else 0) = if decide (k = 5) = true then len else if decide (k = 2 ∨ k = 3) = true then 2 else 1 := by
  by_cases h5 : k = 5
  · rw [if_pos (decide_eq_true h5), if_pos (decide_eq_true h5), usz_5 h5]
  · rw [if_neg (by rw [decide_eq_false h5]; decide), if_neg (by rw [decide_eq_false h5]; decide)]
    by_cases h2 : k = 2 ∨ k = 3
    · rw [if_pos (decide_eq_true h2), usz_2 h5 h2]
    · rw [if_neg (by rw [decide_eq_false h2]; decide), usz_1 h5 (fun q => h2 (.inl q)) (fun q => h2 (.inr q))]
noncomputable def Bd (k g : Int) : Prop := 0 ≤ g ∧ g ≤ k
theorem Bd.up {k g : Int} (h : Bd k g) : Bd (k + 1) (g + 1) := ⟨by have := h.1; (first | lia | omega), by have := h.2; (first | lia | omega)⟩
theorem bd_one {m x : Int} (h : 0 ≤ x ∧ x < m) : 0 < 1 + x ∧ 1 + x ≤ m := by (first | lia | omega)
section
variable {F G : Nat → List Vl → Mu → RR Vl} {S : Int → Mu → Mu} {b : List Int}
noncomputable def Beads (F : Nat → List Vl → Mu → RR Vl) (S : Int → Mu → Mu) (b : List Int) : Prop := ∀ g m ν, 0 ≤ g → g ≤ 100000 → 0 < m → m ≤ 1000 → F 16 [.mref 0, .dat (.int m)] (S g ν) = some (.ok (.dat (.int (bv b g m))), S (g + 1) ν)
theorem Beads.at (hB : Beads F S b) {k g m : Int} (hg : Bd k g) (hk : k ≤ 100000) (h1 : 0 < m) (h2 : m ≤ 1000) (ν : Mu) : F 16 [.mref 0, .dat (.int m)] (S g ν) = some (.ok (.dat (.int (bv b g m))), S (g + 1) ν) :=
  hB g m ν hg.1 (Int.le_trans hg.2 hk) h1 h2
theorem tail_beads (hB : Beads F S b) {k g : Int} (hg : Bd k g) (hk : k ≤ 2000) (ν : Mu) : ∃ vs vt vu vw vx,
    F 16 [.mref 0, .dat (.int 6)] (S g ν) = some (.ok (.dat (.int vs)), S (g + 1) ν) ∧
    F 16 [.mref 0, .dat (.int (1 + vs))] (S (g + 1) ν) = some (.ok (.dat (.int vt)), S (g + 1 + 1) ν) ∧
    F 16 [.mref 0, .dat (.int (1 + vs - (1 + vt) + 1))] (S (g + 1 + 1) ν) = some (.ok (.dat (.int vu)), S (g + 1 + 1 + 1) ν) ∧
    F 16 [.mref 0, .dat (.int (1 + vt + vu - (1 + vt) + 1))] (S (g + 1 + 1 + 1) ν) = some (.ok (.dat (.int vw)), S (g + 1 + 1 + 1 + 1) ν) ∧
    F 16 [.mref 0, .dat (.int (1 + vt + vu - (1 + vt) + 2 - (1 + vw)))] (S (g + 1 + 1 + 1 + 1) ν) = some (.ok (.dat (.int vx)), S (g + 1 + 1 + 1 + 1 + 1) ν) ∧
    (1 ≤ 1 + vt ∧ 1 + vt ≤ 1 + vt + vu ∧ 1 + vt + vu ≤ 1 + vs ∧ 1 + vs ≤ 6) ∧ (1 ≤ 1 + vw ∧ 1 + vw ≤ 1 + vw + vx ∧ 1 + vw + vx ≤ 1 + vt + vu - (1 + vt) + 1) := by
  have vs := bv_in b g (m := 6) (by (first | lia | omega))
  have b6 := hB.at hg (by (first | lia | omega)) (by (first | lia | omega)) (by (first | lia | omega)) (m := 6) ν
  generalize bv b g 6 = xs at *
  have vt := bv_in b (g + 1) (m := 1 + xs) (by (first | lia | omega))
  have b7 := hB.at hg.up (by (first | lia | omega)) (by (first | lia | omega)) (by (first | lia | omega)) (m := 1 + xs) ν
  generalize bv b (g + 1) (1 + xs) = xt at *
  have vu := bv_in b (g + 1 + 1) (m := 1 + xs - (1 + xt) + 1) (by (first | lia | omega))
  have b8 := hB.at hg.up.up (by (first | lia | omega)) (by (first | lia | omega)) (by (first | lia | omega)) (m := 1 + xs - (1 + xt) + 1) ν
  generalize bv b (g + 1 + 1) (1 + xs - (1 + xt) + 1) = xu at *
  have vw := bv_in b (g + 1 + 1 + 1) (m := 1 + xt + xu - (1 + xt) + 1) (by (first | lia | omega))
  have b9 := hB.at hg.up.up.up (by (first | lia | omega)) (by (first | lia | omega)) (by (first | lia | omega)) (m := 1 + xt + xu - (1 + xt) + 1) ν
  generalize bv b (g + 1 + 1 + 1) (1 + xt + xu - (1 + xt) + 1) = xw at *
  have vx := bv_in b (g + 1 + 1 + 1 + 1) (m := 1 + xt + xu - (1 + xt) + 2 - (1 + xw)) (by (first | lia | omega))
  have b10 := hB.at hg.up.up.up.up (by (first | lia | omega)) (by (first | lia | omega)) (by (first | lia | omega)) (m := 1 + xt + xu - (1 + xt) + 2 - (1 + xw)) ν
  generalize bv b (g + 1 + 1 + 1 + 1) (1 + xt + xu - (1 + xt) + 2 - (1 + xw)) = xx at *
  exact ⟨xs, xt, xu, xw, xx, b6, b7, b8, b9, b10, by (first | lia | omega), by (first | lia | omega)⟩
end
section
variable (R : Obj → List (Str × Value) → Prop)
theorem three_pow {v : Int} (h : 0 ≤ v ∧ v < 3) : pr [] * 3 ^ (rangeD 0 (1 + v).toNat).length ≤ 27 ∧ (rangeD 0 (1 + v).toNat).length = (1 + v).toNat ∧ 1 ≤ (1 + v).toNat ∧ (1 + v).toNat ≤ 3 := by
  have e : (rangeD 0 (1 + v).toNat).length = (1 + v).toNat := by simp [rangeD]
  have : (1 + v).toNat = 1 ∨ (1 + v).toNat = 2 ∨ (1 + v).toNat = 3 := by (first | lia | omega)
  refine ⟨?_, e, by (first | lia | omega), by (first | lia | omega)⟩
  rw [e]
  rcases this with q | q | q <;> rw [q] <;> decide
theorem whole_le {p w a : Int} (hp : p ≤ 27) (h0 : 0 < p) (hw : 1 ≤ w ∧ w ≤ 4) (ha : 0 ≤ a ∧ a < 4) : a + p * w ≤ 1000 := by
  have : p * w ≤ 27 * 4 := Int.mul_le_mul hp hw.2 (by (first | lia | omega)) (by (first | lia | omega))
  (first | lia | omega)
theorem wide_in {k v W : Int} (hv : 0 ≤ v ∧ v < 4) (h : W = if decide (k = 5) = true then 1 + v else if decide (k = 2 ∨ k = 3) = true then 2 else 1) : 1 ≤ W ∧ W ≤ 4 := by
  rw [h]; split
  · (first | lia | omega)
  · split <;> (first | lia | omega)
theorem turn_ok : TurnOk R 20 := by
  intro μ b g h0 hg hg1 hb
  have hμ : 0 < μ.length := (List.getElem?_eq_some_iff.mp h0).1
  have hB : Beads (semF R 19) (hS R b μ) b := fun g m ν a1 a2 a3 a4 => sp_bead 18 hμ hb ⟨a1, a2⟩ ⟨a3, a4⟩ ν
  have G0 : Bd 1000 g := ⟨hg, hg1⟩
  have vk := bv_in b g (m := 6) (by decide)
  have vlen := bv_in b (g + 1) (m := 4) (by decide)
  have vat := bv_in b (g + 1 + 1) (m := 4) (by decide)
  have vr := bv_in b (g + 1 + 1 + 1) (m := 3) (by decide)
  have b1 := hB.at G0 (by decide) (by decide) (by decide) (m := 6) []
  have b2 := hB.at G0.up (by decide) (by decide) (by decide) (m := 4) []
  have b3 := hB.at G0.up.up (by decide) (by decide) (by decide) (m := 4) []
  have b4 := hB.at G0.up.up.up (by decide) (by decide) (by decide) (m := 3) [.plst [], .plst [], .plst []]
  generalize bv b g 6 = k at *
  generalize bv b (g + 1) 4 = len' at *
  generalize bv b (g + 1 + 1) 4 = at' at *
  generalize bv b (g + 1 + 1 + 1) 3 = vr' at *
  have G4 := G0.up.up.up.up
  generalize hg4 : g + 1 + 1 + 1 + 1 = g4 at *
  obtain ⟨hp3, hrl, hr1, hr3⟩ := three_pow vr
  have ho : ord (1 + vr') = true := by unfold ord; simp; (first | lia | omega)
  have l10 : ([] : List Int).length + (rangeD 0 (1 + vr').toNat).length ≤ 10 := by rw [hrl, List.length_nil]; (first | lia | omega)
  have gle : g4 + 4 * ((rangeD 0 (1 + vr').toNat).length : Int) ≤ 100000 := by rw [hrl]; have := G4.2; (first | lia | omega)
  obtain ⟨g5, ls, ms, ds, es, y8, y9, y10, loop, d1, d2, s1, s2, hdl, hpr, hg5, hg5'⟩ := tn_loop (F := semF R 19) (G := semG R 19) (S := hS R b μ) (L := μ.length) (b := b) (X1 := some (.dat (.int k))) (X2 := some (.dat (.int (1 + len')))) (X3 := some (.dat (.int at')))
    (fun g a b c => hS_get g [a, b, c] 0) (fun g a b c => hS_get g [a, b, c] 1) (fun g a b c => hS_get g [a, b, c] 2) (fun g a b c x => hS_set g [a, b, c] 0 x) (fun g a b c x => hS_set g [a, b, c] 1 x) (fun g a b c x => hS_set g [a, b, c] 2 x) hB
    (rangeD 0 (1 + vr').toNat) g4 [] [] [] [] none none none .nil .nil (fun _ hx => nomatch hx) (fun _ hx => nomatch hx) l10 hp3 G4.1 gle
  rw [hrl] at hdl hg5'
  rw [List.length_nil, Nat.zero_add] at hdl
  have hd3 : ds.length ≤ 100 := by rw [hdl]; (first | lia | omega)
  have hne : ds ≠ [] := fun z => by rw [z] at hdl; rw [List.length_nil] at hdl; (first | lia | omega)
  have hpos := pr_pos d1
  have G5 : Bd (1000 + 1 + 1 + 1 + 1 + 12) g5 := ⟨by have := G4.1; (first | lia | omega), by have := G4.2; (first | lia | omega)⟩
  have gfin : g5 ≤ g + 16 := by (first | lia | omega)
  clear gle hp3 l10 hg5 hg5' hrl hdl hr1 hr3 G4 hg4
  have vsh := bv_in b g5 (m := 9) (by decide)
  have b5 := hB.at G5 (by decide) (by decide) (by decide) (m := 9) [.plst ((mkD ls ms).map dmD), .plst ((addL ls ds).map .int), .plst ((addL ls es).map .int)]
  generalize bv b g5 9 = sh at *
  have hu := usz_of (k := k) (len := 1 + len')
  obtain ⟨LN, hLN⟩ : ∃ LN, LN = if decide (k = 5) = true then 1 + len' else 0 := ⟨_, rfl⟩
  obtain ⟨W, hW⟩ : ∃ W, W = if decide (k = 5) = true then 1 + len' else if decide (k = 2 ∨ k = 3) = true then 2 else 1 := ⟨_, rfl⟩
  rw [← hLN, ← hW] at hu
  have hWb := wide_in vlen hW
  have hwh := whole_le hpr hpos hWb vat
  have hl5 : k = 5 → 1 ≤ LN ∧ LN ≤ 4 := fun q => by rw [hLN, if_pos (decide_eq_true q)]; (first | lia | omega)
  have hWc : 1 ≤ W ∧ W ≤ 100 := ⟨hWb.1, Int.le_trans hWb.2 (by decide)⟩
  have hpc : pr ms ≤ 100 := Int.le_trans hpr (by decide)
  have hsm := small_of (x := W) ⟨Int.le_trans (by decide) hWb.1, Int.le_trans hWb.2 (by decide)⟩
  have hsh : -100 ≤ sh - 4 ∧ sh - 4 ≤ 100 := by (first | lia | omega)
  have hk5 : 0 ≤ k ∧ k ≤ 5 := by (first | lia | omega)
  have q1 : deref (hS R b μ (g5 + 1) [.plst ((mkD ls ms).map dmD), .plst ((addL ls ds).map .int), .plst ((addL ls es).map .int)]) (.mref (μ.length + 1)) = some (.list ((addL ls ds).map .int)) := by
    rw [deref, hS_get]; rfl
  have q2 : deref (hS R b μ (g5 + 1) [.plst ((mkD ls ms).map dmD), .plst ((addL ls ds).map .int), .plst ((addL ls es).map .int)]) (.mref (μ.length + 2)) = some (.list ((addL ls es).map .int)) := by
    rw [deref, hS_get]; rfl
  have q0 : deref (hS R b μ g5 [.plst ((mkD ls ms).map dmD), .plst ((addL ls ds).map .int), .plst ((addL ls es).map .int)]) (.mref μ.length) = some (.list ((mkD ls ms).map dmD)) := by
    have := hS_get (R := R) (b := b) (μ := μ) g5 [.plst ((mkD ls ms).map dmD), .plst ((addL ls ds).map .int), .plst ((addL ls es).map .int)] 0
    rw [Nat.add_zero] at this
    rw [deref, this]; rfl
  have hml : ((mkD ls ms).map dmD).length ≤ 100 := by rw [List.length_map, mkD_len d1]; exact hd3
  have c21 := sp_places R 14 (k := k) (a := at') (len := LN) (wide := W) (whole := pr ms * W) (shift := sh - 4) d1 d2 hne hd3 s1 s2 hsh q1 q2 hu.symm hWc rfl
  obtain ⟨ν1, c22⟩ := sp_rows R 13 (k := k) (a := at') (len := LN) (wide := W) (whole := pr ms * W) d1 hne hd3 s1 s2 hpc q1 hu.symm hWc rfl vat.1 hwh
  obtain ⟨ν2, c23⟩ := sp_storage R 14 (k := k) (a := at') (len := LN) (wide := W) (whole := pr ms * W) hk5 hl5 d1 d2 hd3 s1 s2 hpc (deref_app (ν := ν1) q1) (deref_app (ν := ν1) q2) hu.symm hWc rfl vat.1 hwh
  rw [hS_app] at c22 c23
  rw [hS_app] at c23
  obtain ⟨xs, xt, xu, xw, xx, b6, b7, b8, b9, b10, n1, n2⟩ := tail_beads hB G5.up (by decide) ([.plst ((mkD ls ms).map dmD), .plst ((addL ls ds).map .int), .plst ((addL ls es).map .int)] ++ ν1 ++ ν2)
  have at3 : 0 ≤ at' ∧ at' ≤ 100 := ⟨vat.1, by (first | lia | omega)⟩
  obtain ⟨ν3, c24⟩ := sp_texts R 14 (a := at') (size := 1 + xs) (s := 1 + xt) (e := 1 + xt + xu) (p := 1 + xw) (q := 1 + xw + xx) (μ := hS R b μ (g5 + 1 + 1 + 1 + 1 + 1 + 1) ([.plst ((mkD ls ms).map dmD), .plst ((addL ls ds).map .int), .plst ((addL ls es).map .int)] ++ ν1 ++ ν2)) at3 n1 n2
  rw [hS_app] at c24
  generalize hν3 : ([.plst ((mkD ls ms).map dmD), .plst ((addL ls ds).map .int), .plst ((addL ls es).map .int)] ++ ν1 ++ ν2 ++ ν3 : Mu) = ν3' at *
  have key := tn_walk (F := semF R 19) (G := semG R 19) (S := hS R b μ) (L := μ.length) hS_len hS_app q0 b1 b2 rfl b3 b4 rfl ho hml loop rfl rfl hW hLN hsm b5 rfl rfl c21 c22 c23 b6 rfl b7 rfl rfl rfl b8 rfl rfl rfl b9 rfl rfl rfl b10 rfl c24
  rw [hS_start h0] at key
  have fin : semF R 20 25 [.mref 0] μ = some (.ok (.dat (.bool true)), hS R b μ (g5 + 1 + 1 + 1 + 1 + 1 + 1) ν3') := by
    rw [semF_at R rfl rfl rfl]
    exact key
  exact ⟨_, g5 + 1 + 1 + 1 + 1 + 1 + 1, fin, hS_0 hμ _ _, G5.up.up.up.up.up.up.1, by (first | lia | omega)⟩
end
end Mine
end
section
open PySem PySem.W PyProof.Rows
set_option Elab.async false
set_option maxRecDepth 100000
set_option maxHeartbeats 0
namespace Mine
noncomputable def vw : Program := { PySem.Challenge.rw_sa0209_01.row.prog with main := { PySem.Challenge.rw_sa0209_01.row.prog.main with body := (((PySem.Challenge.rw_sa0209_01.row.prog.main.body.eraseIdx 27).eraseIdx 9).eraseIdx 3).eraseIdx 0 } }
theorem law_said : PySem.Challenge.rw_sa0209_01.wellSaid = true := by
  unfold OpenLaw.wellSaid OpenRow.wellSaid OpenRow.partSaid
  rewrite [PySem.W.Fast.named_eq]
  kernel_rfl
theorem left_boot {p q : Program} {loose : List Str} {Xt : Shared → Bool} {α : Type} {Yf : Shared → α} {Ya : World → α} {N : Nat} (e : opening p = plainProg p.main.scope.names) (hN : Nat.ble 600 N = true) (f : ∀ s, fenceModules? p s = some s)
    (h : ∀ (w : World) (os : OsState), (topFrom treeTable p w N ⟨boot_heap w.params, Array.mk [], boot_drawn, boot_toks, os⟩).map (fun s => (openSeen q loose (importedModules p.main.body) Xt true s, Yf s)) = some (openGood q loose, Ya w)) : LeftO p q loose Xt Yf Ya N := fun w => by
  obtain ⟨⟨hp, gs, d, k, os⟩, e1, e'⟩ := Option.map_eq_some_iff.mp (boot_open e hN f w)
  obtain ⟨rfl, rfl, rfl, rfl⟩ : hp = boot_heap w.params ∧ gs = Array.mk [] ∧ d = boot_drawn ∧ k = boot_toks := by simpa using e'
  unfold openEnds
  rw [e1]
  exact h w os
end Mine
end
local macro_rules
  | `(tactic| o_law) => `(tactic| refine PySem.W.holds_law Mine.law_said fun said => ?_)
local macro_rules
  | `(tactic| o_head $H) => `(tactic| (
    refine PySem.W.holds_open (q := Mine.vw) (loose := []) (Xt := fun s => PySem.W.xlAt Mine.vw [] s && PySem.W.recOk (PySem.W.RowW.records _) s) (XP := PySem.W.XL Mine.vw []) (Yf := PySem.W.Hook.obs $H) (Ya := PySem.W.Hook.val $H) (YP := PySem.W.Hook.says $H) (N := 3528) ?hl (PySem.W.Hook.of $H) (PySem.W.Hook.keeps $H) (fun s e => PySem.W.xl_of s (Bool.and_eq_true_iff.mp e).1) PySem.W.XL.keeps (by rfl) (by rfl) (by rfl) (fun s e => PySem.W.recFacts_of (Bool.and_eq_true_iff.mp e).2) (by rfl) (by first | assumption | decide +kernel) (by decide +kernel) ⟨rfl, rfl, rfl, rfl, rfl, by decide +kernel⟩ ?hw ?hc
    (case hl =>
      refine Mine.left_boot (by kernel_rfl) (by kernel_rfl) (fun s => by kernel_rfl) ?_
      intro w os
      unfold PySem.W.topFrom
      rewrite [PySem.W.Fast.te14082659384304107361, PySem.W.Fast.te14364793385576792824, PySem.W.Fast.te4187177175401517315]
      kernel_rfl)))
section
open PySem PySem.W PyProof.Rows
set_option Elab.async false
set_option maxRecDepth 100000
set_option maxHeartbeats 0
namespace Mine
open_top hd for PySem.Challenge.rw_sa0209_01
end Mine
end
section
open PySem PySem.W PyProof.Rows PySem.Calls
set_option Elab.async false
set_option maxRecDepth 100000
set_option linter.unusedVariables false
namespace Mine
noncomputable def faL : List Addr := [53, 102, 109, 116, 123, 130, 137, 144, 151, 158, 165, 172, 177, 184, 191, 198, 205, 212, 219, 226, 233, 238, 243, 248, 255, 262, 269, 91]
noncomputable def faOf (f : Nat) : Addr := (faL[f]?).getD 0
theorem all_fn (P : Params) : ((List.range 28).all fun f => match funOf f with | some u => fnB (hd.heap_1 P) u (faOf f) | none => true) = true := by kernel_rfl
theorem all_nm (P : Params) : ((List.range 28).all fun f => match fnm f with | some x => (match nsIn (hd.heap_1 P) mainGlobals x with | some (some (.ref a)) => a == faOf f | _ => false) | none => true) = true := by kernel_rfl

noncomputable def clsD (o : Obj) : ClassData := match o.data with
  | .cls cd => cd
  | _ => default
noncomputable def rcO (P : Params) : Obj := (((hd.heap_1 P)).lookup 44).getD default
noncomputable def rcK (P : Params) (i : Nat) : Option Value := ((rcO P).slots[i]?).bind id
noncomputable def cx (w : World) (h : Heap) (mg mb : Str → Option Value) : Cx := ⟨PySem.Challenge.rw_sa0209_01.row.prog, w, h, hd.heap_1 w.params, 91, 44, mg, mb⟩

noncomputable def isFunB (K : Frag) (fa : Addr) : Bool := match K.lookup fa with
  | some ⟨_, _, .func _, _⟩ => true
  | _ => false
theorem all_fun (P : Params) : ((List.range 27).all fun f => isFunB (hd.heap_1 P) (faOf f)) = true := by kernel_rfl
theorem fnm_lt {f : Nat} {x : Str} (h : fnm f = some x) : f < 28 := by
  exact Nat.lt_of_lt_of_le (List.getElem?_eq_some_iff.mp h).1 (by decide)
theorem k_bead (P : Params) : shapeAt (hd.heap_1 P) 205 beadTb [0, 1] beadPr 2 [Str.ofString "len"] beadShape = true := by kernel_rfl
theorem k_mem (P : Params) : shapeAt (hd.heap_1 P) 67 memTb [0, 1, 2] memPr 3 [] memShape = true := by kernel_rfl
theorem k_exc (P : Params) : shapeAt (hd.heap_1 P) 28 excTb [0, 1] excPr 2 [Str.ofString "Exception"] excShape = true := by kernel_rfl
theorem k_rc (P : Params) : (hd.heap_1 P).lookup 44 = some (excClassObj (clsD (rcO P)).name (clsD (rcO P)).qualname 44 (clsD (rcO P)).ns (clsD (rcO P)).bases (.ref 31 :: baseM) true (clsD (rcO P)).slotNames (clsD (rcO P)).subclasses (clsD (rcO P)).abstract (clsD (rcO P)).collection (rcO P).dict (rcK P 0) (rcK P 1) (rcK P 2) (rcK P 3) (rcK P 5) "Exception.__new__") := by kernel_rfl
noncomputable def methL : List Addr := [74, 81, 88]
theorem k_meth (P : Params) : ((List.range 3).all fun m => match mnm m, meths[m]?, methL[m]? with
  | some nm, some u, some fa => plainGet (hd.heap_1 P) 91 nm && isFn (hd.heap_1 P) (.ref fa) && (match findIn (hd.heap_1 P) (.ref 91) nm with | some (some (.ref a)) => a == fa | _ => false) && !(Str.ofString "numeric" == nm) && !(Str.ofString "characters" == nm) && isFunB (hd.heap_1 P) fa && fnB (hd.heap_1 P) u fa
  | _, _, _ => false) = true := by kernel_rfl
theorem mnm_lt {f : Nat} {x : Str} (h : mnm f = some x) : f < 3 := by
  exact Nat.lt_of_lt_of_le (List.getElem?_eq_some_iff.mp h).1 (by decide)
theorem k_memok (P : Params) : (makesIn (hd.heap_1 P) 91 && isFn (hd.heap_1 P) (.ref 67) && plainOver (hd.heap_1 P) 91 && hasDictIn (hd.heap_1 P) 91 && isFn (hd.heap_1 P) (.ref 28)) = true := by kernel_rfl
theorem k_ini (P : Params) : findIn (hd.heap_1 P) (.ref 91) "__init__" = some (some (.ref 67)) := by kernel_rfl
theorem k_set (P : Params) : findIn (hd.heap_1 P) (.ref 91) "__setattr__" = some (some (.builtin "object.__setattr__")) := by kernel_rfl
theorem k_tn (P : Params) : takerIn (hd.heap_1 P) 91 (Str.ofString "numeric") = some none := by kernel_rfl
theorem k_tc (P : Params) : takerIn (hd.heap_1 P) 91 (Str.ofString "characters") = some none := by kernel_rfl
theorem k_rini (P : Params) : findIn (hd.heap_1 P) (.ref 44) "__init__" = some (some (.ref 28)) := by kernel_rfl
theorem k_rset (P : Params) : findIn (hd.heap_1 P) (.ref 44) "__setattr__" = some (some (.builtin "object.__setattr__")) := by kernel_rfl
theorem k_rtx (P : Params) : findIn (hd.heap_1 P) (.ref 44) (Str.ofString "text") = some none := by kernel_rfl
theorem k_efc (P : Params) : findCls (hd.heap_1 P) (.type "Exception") (.type "type") (Str.ofString "__init__") = some (.val (.builtin "Exception.__init__")) := by kernel_rfl
theorem k_at1 (P : Params) : plainGet (hd.heap_1 P) 91 (Str.ofString "numeric") = true ∧ findIn (hd.heap_1 P) (.ref 91) (Str.ofString "numeric") = some none ∧ noGet (hd.heap_1 P) none = true := ⟨by kernel_rfl, by kernel_rfl, by kernel_rfl⟩
theorem k_at2 (P : Params) : plainGet (hd.heap_1 P) 91 (Str.ofString "characters") = true ∧ findIn (hd.heap_1 P) (.ref 91) (Str.ofString "characters") = some none := ⟨by kernel_rfl, by kernel_rfl⟩
theorem k_run (P : Params) : nsIn (hd.heap_1 P) mainGlobals (Str.ofString "RunFault") = some (some (.ref 44)) := by kernel_rfl
theorem k_bi (P : Params) : nsIn (hd.heap_1 P) mainGlobals (Str.ofString "len") = some none ∧ nsIn (hd.heap_1 P) mainGlobals (Str.ofString "abs") = some none ∧ nsIn (hd.heap_1 P) mainGlobals (Str.ofString "tuple") = some none ∧ nsIn (hd.heap_1 P) mainGlobals (Str.ofString "range") = some none ∧ nsIn (hd.heap_1 P) mainGlobals (Str.ofString "Exception") = some none := ⟨by kernel_rfl, by kernel_rfl, by kernel_rfl, by kernel_rfl, by kernel_rfl⟩
theorem k_cst (P : Params) : nsIn (hd.heap_1 P) mainGlobals (Str.ofString "REAL") = some (some (.int 1 236)) ∧ nsIn (hd.heap_1 P) mainGlobals (Str.ofString "DOUBLE") = some (some (.int 2 238)) ∧ nsIn (hd.heap_1 P) mainGlobals (Str.ofString "COMPLEX") = some (some (.int 3 240)) ∧
  nsIn (hd.heap_1 P) mainGlobals (Str.ofString "CHARACTER") = some (some (.int 5 242)) ∧ nsIn (hd.heap_1 P) mainGlobals (Str.ofString "SECOND") = some (some (.int 6 253)) := ⟨by kernel_rfl, by kernel_rfl, by kernel_rfl, by kernel_rfl, by kernel_rfl⟩

theorem stat_of {w : World} {h : Heap} {mg mb : Str → Option Value} (KX : (hd.heap_1 w.params).In h) (g : h.Ns mainGlobals mg) (b : h.Ns builtinsNs mb) (nl : h.NoLimit) (bu : ∀ x : Str, x ≠ "__name__" → mb x = bootBuiltins x) : Stat (cx w h mg mb) := by
  have ok : CxOk (cx w h mg mb) := ⟨g, b, nl, KX⟩
  have gm : ∀ {x v}, nsIn (hd.heap_1 w.params) mainGlobals x = some (some v) → GN (cx w h mg mb) x v := fun {x v} e => .inl (mg_of KX g e)
  have gb : ∀ {x : Str} {v}, nsIn (hd.heap_1 w.params) mainGlobals x = some none → x ≠ "__name__" → bootBuiltins x = some v → GN (cx w h mg mb) x v := fun {x v} e hx hb => .inr ⟨ns_none_of KX g e, (bu x hx).trans hb⟩
  have hmk := k_memok w.params
  simp only [Bool.and_eq_true] at hmk
  obtain ⟨⟨⟨⟨m1, m2⟩, m3⟩, m4⟩, m5⟩ := hmk
  have M : MemOk (cx w h mg mb) 67 := ⟨m1, k_ini _, m2, k_set _, m3, k_tn _, k_tc _, m4⟩
  have bis : ∀ b : Bi, GN (cx w h mg mb) b.nm b.val := fun b => by
    obtain ⟨h1, h2, h3, _, _⟩ := k_bi w.params
    cases b with
    | len => exact gb h1 (by decide +kernel) (by kernel_rfl)
    | abs => exact gb h2 (by decide +kernel) (by kernel_rfl)
    | tup => exact gb h3 (by decide +kernel) (by kernel_rfl)
  have X : ExcFacts (cx w h mg mb) 28 := ⟨⟨_, _, _, _, _, _, _, _, _, _, _, _, _, _, _, KX _ _ (k_rc _)⟩, k_rini _, m5, k_rset _, k_rtx _, gb (k_bi _).2.2.2.2 (by decide +kernel) (by kernel_rfl), k_efc _⟩
  have run : GN (cx w h mg mb) (Str.ofString "RunFault") (.ref (cx w h mg mb).rC) := gm (k_run _)
  refine { ok := ok, rc := ⟨?_⟩, run := run, rs := raise_st' ok X run (k_exc _), fn := fun f x hf => ?_, mt := fun m nm hm => ?_, gv := fun x n hx => ?_, bi := bis, rg := gb (k_bi _).2.2.2.1 (by decide +kernel) (by kernel_rfl), anum := ⟨(k_at1 _).1, m4, none, (k_at1 _).2.1, (k_at1 _).2.2⟩, achr := ⟨(k_at2 _).1, m4, none, (k_at2 _).2, (k_at1 _).2.2⟩ }
  · obtain ⟨nm, q, N, bs, sn, sub, ab, col, dd, k0, k1, k2, k3, k5, F, e⟩ := X.obj
    exact ⟨nm, q, N, bs, _, true, sn, sub, ab, col, dd, k0, k1, k2, k3, k5, _, e, by simp [baseM]⟩
  · have hlt := fnm_lt hf
    have hn := List.all_eq_true.mp (all_nm w.params) f (List.mem_range.mpr hlt)
    have hk := List.all_eq_true.mp (all_fn w.params) f (List.mem_range.mpr hlt)
    rw [hf] at hn
    dsimp only at hn
    split at hn
    · rename_i a ha
      have hn := eq_of_beq hn
      subst hn
      refine ⟨faOf f, gm ha, ?_, fun u hu => by rw [hu] at hk; exact hk, fun e k => ?_, fun e k => ?_⟩
      · by_cases h27 : f = 27
        · subst h27; exact fnv_class ok m1
        · have hfu := List.all_eq_true.mp (all_fun w.params) f (List.mem_range.mpr (by (first | lia | omega)))
          intro h' kk
          refine keeper_fn (c := cx w h mg mb) ?_ h' kk
          unfold isFunB at hfu
          split at hfu
          · rename_i hl; exact ⟨_, _, KX _ _ hl, rfl⟩
          · cases hfu
      · subst e; exact bead_contract ok (bis .len) (k_bead _) k
      · subst e; exact mem_contract' ok M (k_mem _) k
    · cases hn
  · have hlt := mnm_lt hm
    have hk := List.all_eq_true.mp (k_meth w.params) m (List.mem_range.mpr hlt)
    rw [hm] at hk
    split at hk
    · rename_i nm' u fa e1 e2 e3
      cases e1
      simp only [Bool.and_eq_true, Bool.not_eq_true'] at hk
      obtain ⟨⟨⟨⟨⟨⟨a1, a2⟩, a3⟩, a4⟩, a5⟩, a6⟩, a7⟩ := hk
      split at a3
      · rename_i a ha
        have a3 := eq_of_beq a3
        subst a3
        refine ⟨a, u, e2, a1, ha, a2, ⟨a4, a5⟩, ?_, a7⟩
        unfold isFunB at a6
        split at a6
        · rename_i hl; exact ⟨_, _, KX _ _ hl, rfl⟩
        · cases a6
      · cases a3
    · cases hk
  · obtain ⟨c1, c2, c3, c4, c5⟩ := k_cst w.params
    have key : ∀ (l : List (Str × Int)), (∀ p ∈ l, ∃ t, nsIn (hd.heap_1 w.params) mainGlobals p.1 = some (some (.int p.2 t))) → ∀ x n, l.lookup x = some n → ∃ t, nsIn (hd.heap_1 w.params) mainGlobals x = some (some (.int n t)) := by
      intro l hl x n e
      exact hl (x, n) (mem_of_lookup e)
    obtain ⟨t, ht⟩ := key _ (fun p hp => by
      simp only [List.mem_cons, List.mem_nil_iff, or_false] at hp
      rcases hp with rfl | rfl | rfl | rfl | rfl
      · exact ⟨_, c1⟩
      · exact ⟨_, c2⟩
      · exact ⟨_, c3⟩
      · exact ⟨_, c4⟩
      · exact ⟨_, c5⟩) x n hx
    exact ⟨t, gm ht⟩
end Mine
end
local macro_rules
  | `(tactic| k_qdec) => `(tactic| decide +kernel)
section
open PySem PySem.W PyProof.Rows PySem.Calls
set_option Elab.async false
set_option maxRecDepth 100000
set_option linter.unusedVariables false
namespace Mine

noncomputable def lawNames : List (Str × NameKind) := [(Str.ofString "script", .local), (Str.ofString "chain", .local), (Str.ofString "_law_turn", .globalImplicit)]
theorem law_fin (PL : ∀ R, TurnOk R 20) {w : World} {s₁ : Shared} {mg mb : Str → Option Value} {p : Program} {loose : List Str} {mean : ExcName → Option Value} {scope : Scope} {nm : Str} {fa ax : Addr} {cd : Value} {h₁ : Heap} {tk : Nat} {m : Str → Option Value} {vs : List Value} {xs : List Int} {Q : Flow → Shared → Prop} {E : Value → Shared → Prop}
    {p0 p1 p2 p3 p4 p5 p6 p7 p8 q0 q1 q2 q3 q4 q5 q6 q7 q8 : Pos} {n0 n1 n2 n3 : Nat}
    (KX : (hd.heap_1 w.params).In s₁.heap) (T : Top p loose mean mg mb s₁.heap) (F : Fr s₁.heap s₁.heap.objs.size h₁ m) (hl : s₁.heap.IsList ax vs.toArray) (hi : IntsAre vs xs) (hlen : ¬ ((63 : Nat) : Int) < (xs.length : Int)) (hk : scope.kind = .function) (hn : scope.names = lawNames)
    (hm : m (Str.ofString "script") = some (.ref ax)) (hq : ∀ h tk, (∀ b o, s₁.heap.get? b = some o → h.get? b = some o) → Q (.ret (.bool true)) { s₁ with heap := h, toks := tk }) :
    wpAny (model PySem.Challenge.rw_sa0209_01.row.prog w) (callerA.deeper (envOf nm scope s₁.heap.objs.size fa cd)) (execs (lawBody p0 p1 p2 p3 p4 p5 p6 p7 p8 q0 q1 q2 q3 q4 q5 q6 q7 q8 n0 n1 n2 n3) (envOf nm scope s₁.heap.objs.size fa cd)) Q E { s₁ with heap := h₁, toks := tk } := by
  have St := stat_of KX T.g T.b T.nolimit T.builtins
  have hko : ∀ x, (envOf nm scope s₁.heap.objs.size fa cd).kindOf x = lawNames.lookup x := fun x => by
    show scope.names.lookup x = _
    rw [hn]
  have hΦ : ∀ a t, ins (fun _ => none) s₁.heap.objs.size (.fm m) a = some t → a = s₁.heap.objs.size ∧ t = .fm m := fun a t q => by
    by_cases e : a = s₁.heap.objs.size
    · subst e; rw [ins_self] at q; cases q; exact ⟨rfl, rfl⟩
    · rw [ins_ne _ _ e] at q; cases q
  have S : SS (cx w s₁.heap mg mb).hb h₁ (ins (fun _ => none) s₁.heap.objs.size (.fm m)) [] := by
    refine ⟨F.keep, fun a t q => ?_, fun a b i q _ => ?_⟩
    · obtain ⟨rfl, rfl⟩ := hΦ a t q
      exact ⟨Nat.le_refl _, F.ns⟩
    · obtain ⟨_, q⟩ := hΦ _ _ q; cases q
  refine law_body (c := cx w s₁.heap mg mb) (s := { s₁ with heap := h₁, toks := tk }) St (Φ := ins (fun _ => none) s₁.heap.objs.size (.fm m)) ?_ S hl hi (by (first | lia | omega)) (PL _) fun h tk hkp => hq h tk hkp
  refine { hh := rfl, dep := ?_, uni := ?_, frs := ⟨envOf nm scope s₁.heap.objs.size fa cd, [], rfl, fun e he => ?_, hk⟩, kind := hk, gl := rfl, bi := rfl, names := fun i x V h1 h2 => ?_, glob := fun x kd h1 => ?_, one := ?_, two := ?_, loc := ⟨_, ins_self _ _ _⟩, stor := fun i x h1 _ => ?_, fr := rfl, frs2 := ⟨[], rfl⟩, ci := fun y a h1 => by cases h1 }
  · show 1 + claimMargin + 1 + 24 ≤ 900; decide +kernel
  · show 4 + 3 + 20 * 24 ≤ 5000; decide
  · rw [List.mem_singleton.mp he]
    exact ⟨by show scope.kind ≠ _; rw [hk]; decide, _, m, rfl, ins_self _ _ _⟩
  · simp only [lawTb, List.mem_cons, List.mem_nil_iff, or_false, Prod.mk.injEq] at h1
    rcases h1 with ⟨rfl, rfl⟩ | ⟨rfl, rfl⟩
    · cases h2
      exact ⟨.ref ax, .inl ⟨by rw [hko]; decide +kernel, m, ins_self _ _ _, hm⟩, rfl⟩
    · cases h2
  · simp only [lawGs, List.mem_cons, List.mem_nil_iff, or_false, Prod.mk.injEq] at h1
    obtain ⟨rfl, rfl⟩ := h1
    rw [hko]; decide +kernel
  · exact oneOne_1 (tbl := lawTb) (by decide +kernel)
  · exact oneOne_2 (tbl := lawTb) (by decide +kernel)
  · simp only [lawTb, List.mem_cons, List.mem_nil_iff, or_false, Prod.mk.injEq] at h1
    rcases h1 with ⟨rfl, rfl⟩ | ⟨rfl, rfl⟩
    · exact .inl (by rw [hko]; decide +kernel)
    · exact .inl (by rw [hko]; decide +kernel)
theorem fin_of (PL : ∀ R, TurnOk R 20) : PySem.Challenge.rw_sa0209_01.Holds := hd (by
  k_go0
  all_goals (refine law_fin PL (by assumption) (by assumption) (by assumption) (by assumption) (by assumption) (by assumption) rfl rfl ?_ fun h tk hk => ⟨.inl ⟨_, _, [], rfl, ?_, .bool true, ?_, unshared_nil⟩, hk, rfl, (by assumption)⟩)

  all_goals first | kernel_rfl | (intro cls; kernel_rfl) | rfl | (intro cls; rfl))
end Mine
end
theorem PySem.Challenge.cw_sa0209_01_holds : PySem.Challenge.rw_sa0209_01.Holds :=
  Mine.fin_of fun R => Mine.turn_ok R
