import PyProof.Rows.All
import Wide.All
import OpenK.AllK
import Wide.FinOn
import HandS.ForMost
import HandS.Defaults
import HandS.Exc
import HandS.ExcOwn
import HandS.IsInst
import HandS.Style
import HandS.TupAny
import HandS.SetKeys
import HandS.Conv
import HandS.HeadHook1
import HandS.Walk
import HandS.SetTxt0
import HandS.SetBool
import HandS.SortInts
import PyProof.Rows.SortShellAny
import KE.KDictZip
import HandS.MapObj
import HandS.DictTup
import HandS.More
import KE.KStateDown
import HandS.ExcIs
import HandS.Head0
import HandS.Head1
import HandS.Head2
import HandS.HeadEnd
import HandS.HeadHook2
import HandS.HeadHook3
import HandS.HeadHook4
import HandS.Small
import HandS.HotCalls
import HandS.DeepEq
import PySem.Challenge.RW_heardwhole_k27_instances_of_schemes
set_option Elab.async false
set_option linter.all false
set_option maxRecDepth 100000
set_option maxHeartbeats 4000000
/-! Data as trees, what the heap says of them; a ghost heap of what is frozen; calls of known defs. -/
namespace Kd
open PySem PySem.Spec PyProof.Rows L2

/-! ### data -/
/-- a value that is never changed any more: a tree; dct: some dict with text keys -/
inductive D where
  | non | bl (b : Bool) | int (i : Int) | str (s : Str) | tup (xs : List D) | lst (xs : List D) | dct

mutual
/-- in the frozen heap G the value v shows the tree d -/
def Rp (G : Hp) : D → V → Prop
  | .non, v => v = .non
  | .bl b, v => v = .bl b
  | .int i, v => v = .int i
  | .str s, v => v = .str s
  | .tup ds, v => ∃ a vs, v = .ref a ∧ G a = some (.tup vs) ∧ RpL G ds vs
  | .lst ds, v => ∃ a vs, v = .ref a ∧ G a = some (.lst vs) ∧ RpL G ds vs
  | .dct, v => ∃ a kvs, v = .ref a ∧ G a = some (.dK kvs)
def RpL (G : Hp) : List D → List V → Prop
  | [], vs => vs = []
  | d :: ds, vs => ∃ v r, vs = v :: r ∧ Rp G d v ∧ RpL G ds r
end

mutual
theorem Rp.mono {G G' : Hp} (e : Same G G') : ∀ {d : D} {v : V}, Rp G d v → Rp G' d v
  | .non, _, h => h
  | .bl _, _, h => h
  | .int _, _, h => h
  | .str _, _, h => h
  | .tup ds, _, ⟨a, vs, hv, ha, hr⟩ => ⟨a, vs, hv, e _ _ ha, RpL.mono e hr⟩
  | .lst ds, _, ⟨a, vs, hv, ha, hr⟩ => ⟨a, vs, hv, e _ _ ha, RpL.mono e hr⟩
  | .dct, _, ⟨a, kvs, hv, ha⟩ => ⟨a, kvs, hv, e _ _ ha⟩
theorem RpL.mono {G G' : Hp} (e : Same G G') : ∀ {ds : List D} {vs : List V}, RpL G ds vs → RpL G' ds vs
  | [], _, h => h
  | d :: ds, _, ⟨v, r, hv, h1, h2⟩ => ⟨v, r, hv, Rp.mono e h1, RpL.mono e h2⟩
end

section
variable {G : Hp}
theorem RpL.nil : RpL G [] [] := rfl
theorem RpL.cons {d : D} {v : V} {ds : List D} {vs : List V} (h : Rp G d v) (hr : RpL G ds vs) : RpL G (d :: ds) (v :: vs) := ⟨v, vs, rfl, h, hr⟩
theorem RpL.one {d : D} {v : V} (h : Rp G d v) : RpL G [d] [v] := ⟨v, [], rfl, h, rfl⟩
theorem RpL.len : ∀ {ds : List D} {vs : List V}, RpL G ds vs → vs.length = ds.length
  | [], _, h => by cases h; rfl
  | d :: ds, _, ⟨v, r, hv, _, hr⟩ => by subst hv; simp [RpL.len hr]
theorem RpL.app : ∀ {ds es : List D} {vs ws : List V}, RpL G ds vs → RpL G es ws → RpL G (ds ++ es) (vs ++ ws)
  | [], _, _, _, h, k => by cases h; exact k
  | d :: ds, _, _, _, ⟨v, r, hv, h1, hr⟩, k => by subst hv; exact ⟨v, _, rfl, h1, RpL.app hr k⟩
theorem RpL.snoc {ds : List D} {vs : List V} {d : D} {v : V} (h : RpL G ds vs) (k : Rp G d v) : RpL G (ds ++ [d]) (vs ++ [v]) := h.app (.one k)
theorem RpL.at : ∀ {ds : List D} {vs : List V} {i : Nat} {d : D}, RpL G ds vs → ds[i]? = some d → ∃ v, vs[i]? = some v ∧ Rp G d v
  | [], _, _, _, _, e => by simp at e
  | d :: ds, _, 0, x, ⟨v, r, hv, h1, _⟩, e => by
    subst hv
    have q : d = x := by simpa using e
    subst q
    exact ⟨v, rfl, h1⟩
  | d :: ds, _, i + 1, x, ⟨v, r, hv, _, hr⟩, e => by
    subst hv
    have q : ds[i]? = some x := by simpa using e
    obtain ⟨u, h1, h2⟩ := RpL.at hr q
    exact ⟨u, by simpa using h1, h2⟩
theorem RpL.back : ∀ {ds : List D} {vs : List V} {i : Nat} {v : V}, RpL G ds vs → vs[i]? = some v → ∃ d, ds[i]? = some d ∧ Rp G d v
  | [], _, _, _, h, e => by cases h; simp at e
  | d :: ds, _, 0, x, ⟨v, r, hv, h1, _⟩, e => by
    subst hv
    have q : v = x := by simpa using e
    subst q
    exact ⟨d, rfl, h1⟩
  | d :: ds, _, i + 1, x, ⟨v, r, hv, _, hr⟩, e => by
    subst hv
    have q : r[i]? = some x := by simpa using e
    obtain ⟨u, h1, h2⟩ := RpL.back hr q
    exact ⟨u, by simpa using h1, h2⟩
theorem RpL.take : ∀ {ds : List D} {vs : List V} (n : Nat), RpL G ds vs → RpL G (ds.take n) (vs.take n)
  | [], _, n, h => by cases h; simp [RpL]
  | d :: ds, _, 0, ⟨v, r, hv, h1, hr⟩ => by subst hv; simp [RpL]
  | d :: ds, _, n + 1, ⟨v, r, hv, h1, hr⟩ => by subst hv; exact ⟨v, _, rfl, h1, RpL.take n hr⟩
theorem RpL.drop : ∀ {ds : List D} {vs : List V} (n : Nat), RpL G ds vs → RpL G (ds.drop n) (vs.drop n)
  | [], _, n, h => by cases h; simp [RpL]
  | d :: ds, _, 0, h => h
  | d :: ds, _, n + 1, ⟨v, r, hv, h1, hr⟩ => by subst hv; exact RpL.drop n hr
theorem RpL.rev : ∀ {ds : List D} {vs : List V}, RpL G ds vs → RpL G ds.reverse vs.reverse
  | [], _, h => by cases h; rfl
  | d :: ds, _, ⟨v, r, hv, h1, hr⟩ => by subst hv; rw [List.reverse_cons, List.reverse_cons]; exact (RpL.rev hr).snoc h1
theorem RpL.mem : ∀ {ds : List D} {vs : List V} {v : V}, RpL G ds vs → v ∈ vs → ∃ d, d ∈ ds ∧ Rp G d v := fun {ds vs v} h hv => by
  obtain ⟨i, hi, e⟩ := List.mem_iff_getElem.mp hv
  obtain ⟨d, h1, h2⟩ := h.back (i := i) (v := v) (by rw [List.getElem?_eq_getElem hi, e])
  exact ⟨d, List.mem_of_getElem? h1, h2⟩
theorem Rp.tup {ds : List D} {a : Addr} {vs : List V} (h : G a = some (.tup vs)) (r : RpL G ds vs) : Rp G (.tup ds) (.ref a) := ⟨a, vs, rfl, h, r⟩
theorem Rp.lst {ds : List D} {a : Addr} {vs : List V} (h : G a = some (.lst vs)) (r : RpL G ds vs) : Rp G (.lst ds) (.ref a) := ⟨a, vs, rfl, h, r⟩
theorem RpL.strs : ∀ (zs : List Str), RpL G (zs.map D.str) (zs.map V.str)
  | [] => rfl
  | z :: zs => ⟨_, _, rfl, rfl, RpL.strs zs⟩
theorem RpL.ints : ∀ (zs : List Int), RpL G (zs.map D.int) (zs.map V.int)
  | [] => rfl
  | z :: zs => ⟨_, _, rfl, rfl, RpL.ints zs⟩
end

/-! ### growth: what a piece of a run may do -/
/-- from the heap H with the frozen part G to H' with the frozen part G': all but M stays; what is frozen is G's and what is new -/
structure Gr (M : List Addr) (G H G' H' : Hp) : Prop where
  h : ∀ a o, a ∉ M → H a = some o → H' a = some o
  t : ∀ a, a ∈ M → H a ≠ none → H' a ≠ none
  g : Same G G'
  s : Same G' H'
  n : ∀ a, G a = none → H a ≠ none → G' a = none
section
variable {M : List Addr} {G H G1 H1 G2 H2 : Hp} {p l : Addr} {o : HO}
theorem some_ne {H : Hp} {a : Addr} {o : HO} (h : H a = some o) : H a ≠ none := by rw [h]; exact fun z => nomatch z
theorem Gr.refl (e : Same G H) : Gr M G H G H := ⟨fun _ _ _ h => h, fun _ _ h => h, Same.refl _, e, fun _ h _ => h⟩
theorem Gr.there (g : Gr M G H G1 H1) {a : Addr} (h : H a ≠ none) : H1 a ≠ none := by
  by_cases m : a ∈ M
  · exact g.t a m h
  · cases e : H a with
    | none => exact absurd e h
    | some o => exact some_ne (g.h a o m e)
theorem Gr.trans (a : Gr M G H G1 H1) (b : Gr M G1 H1 G2 H2) : Gr M G H G2 H2 :=
  ⟨fun x o m h => b.h x o m (a.h x o m h), fun x m h => b.t x m (a.t x m h), a.g.trans b.g, b.s, fun x h1 h2 => b.n x (a.n x h1 h2) (a.there h2)⟩
/-- a callee that changes less -/
theorem Gr.call (a : Gr M G H G1 H1) (b : Gr [] G1 H1 G2 H2) : Gr M G H G2 H2 :=
  a.trans ⟨fun x o _ h => b.h x o (by simp) h, fun x _ h => b.there h, b.g, b.s, b.n⟩
theorem Gr.free (g : Gr M G H G1 H1) (hp : H1 p = none) : H p = none := by
  cases e : H p with
  | none => rfl
  | some o => exact absurd hp (g.there (some_ne e))
theorem Gr.gfree (g : Gr M G H G1 H1) (hp : H1 p = none) : G1 p = none := g.s.free hp
/-- a new thing, not frozen -/
theorem Gr.tmp (g : Gr M G H G1 H1) (hp : H1 p = none) : Gr M G H G1 (upd H1 p o) :=
  ⟨fun a u m e => by rw [upd_ne (ne_of_none (g.h a u m e) hp)]; exact g.h a u m e,
   fun a m e => by
    have q := g.t a m e
    by_cases z : a = p
    · rw [z, upd_same]; exact fun y => nomatch y
    · rw [upd_ne z]; exact q,
   g.g, fun a u e => by rw [upd_ne (ne_of_none (g.s a u e) hp)]; exact g.s a u e, g.n⟩
/-- a thing that is frozen from now on -/
theorem Gr.frz (g : Gr M G H G1 H1) (h1 : H1 p = some o) (hg : G1 p = none) (h0 : H p = none) : Gr M G H (upd G1 p o) H1 :=
  ⟨g.h, g.t, fun a u e => by rw [upd_ne (ne_of_none (g.g a u e) hg)]; exact g.g a u e,
   fun a u e => by
    by_cases z : a = p
    · rw [z] at e ⊢; rw [upd_same] at e; rw [h1]; exact e
    · rw [upd_ne z] at e; exact g.s a u e,
   fun a h2 h3 => by
    have z : a ≠ p := fun z => h3 (z ▸ h0)
    rw [upd_ne z]; exact g.n a h2 h3⟩
/-- a new thing, frozen at once -/
theorem Gr.new (g : Gr M G H G1 H1) (hp : H1 p = none) : Gr M G H (upd G1 p o) (upd H1 p o) := (g.tmp hp).frz upd_same (g.gfree hp) (g.free hp)
/-- a thing of one's own is changed -/
theorem Gr.mut (g : Gr M G H G1 H1) (hg : G1 l = none) (h0 : H l = none) : Gr M G H G1 (upd H1 l o) :=
  ⟨fun a u m e => by rw [upd_ne (ne_of_none e h0)]; exact g.h a u m e,
   fun a m e => by
    by_cases z : a = l
    · rw [z, upd_same]; exact fun y => nomatch y
    · rw [upd_ne z]; exact g.t a m e,
   g.g, fun a u e => by rw [upd_ne (ne_of_none e hg)]; exact g.s a u e, g.n⟩
/-- the thing that may be changed is changed -/
theorem Gr.put (g : Gr M G H G1 H1) (hm : l ∈ M) (hg : G1 l = none) : Gr M G H G1 (upd H1 l o) :=
  ⟨fun a u m e => by
    have z : a ≠ l := fun z => m (by rw [z]; exact hm)
    rw [upd_ne z]; exact g.h a u m e,
   fun a m e => by
    by_cases z : a = l
    · rw [z, upd_same]; exact fun y => nomatch y
    · rw [upd_ne z]; exact g.t a m e,
   g.g, fun a u e => by rw [upd_ne (ne_of_none e hg)]; exact g.s a u e, g.n⟩
theorem Gr.weak {M' : List Addr} (g : Gr M G H G1 H1) (hm : ∀ a ∈ M, a ∈ M') : Gr M' G H G1 H1 :=
  ⟨fun a o m e => g.h a o (fun z => m (hm a z)) e, fun a _ e => g.there e, g.g, g.s, g.n⟩
end

/-! ### known defs -/
/-- the def that the module's name x holds keeps the promise sp -/
structure Good (P : Program) (w : World) (K : PySem.W.Frag) (mg : Str → Option Value) (base : Heap) (CX : CXT) (x : Str) (k : Nat) (ps : List Str) (sp : Sp) : Prop where
  m : mg x = some (.ref (He.ga K x))
  kp : PySem.W.keepIn K (.ref (He.ga K x)) = true
  ok : ∃ fd, FnOk P w K mg base CX k (He.ga K x) fd ps sp ∧ Binds K fd ps []
theorem pe_g {X : Cx} {x : Str} {k : Nat} {ps : List Str} {sp : Sp} {e : Expr} {es : List Expr} {t : TA} {p pos : Pos} (g : Good X.prog X.w X.K X.mg X.base CX0 x k ps sp) (hr : Room k X.A) (ha : PA X (e :: es) t) (hg : Gl X x := by rfl)
    (hdb : (x == ("__debug__" : Str)) = false := by decide) (he : starEach (e :: es) X.env = (false, eval e X.env) :: starEach es X.env := by rfl) (hpl : (backTo pos (starEach es X.env)).any (·.1) = false := by rfl) :
    PE X (.Call (.Name x p) (e :: es) [] pos) (tCall sp [] E0 t) := by
  obtain ⟨fd, F, b⟩ := g.ok
  exact pe_call F hr hg g.m g.kp b .nil pass0 ha hdb he hpl
end Kd
namespace Kd
open L2
theorem RpL.unsnoc {G : Hp} {ds : List D} {d : D} {vs : List V} (h : RpL G (ds ++ [d]) vs) : ∃ vs' u, vs = vs' ++ [u] ∧ RpL G ds vs' ∧ Rp G d u := by
  have h1 := h.take ds.length
  have h2 := h.drop ds.length
  rw [List.take_left' rfl] at h1
  rw [List.drop_left' rfl] at h2
  obtain ⟨u, r, e, h3, h4⟩ := h2
  cases h4
  refine ⟨vs.take ds.length, u, ?_, h1, h3⟩
  rw [← e, List.take_append_drop]
end Kd
set_option maxHeartbeats 4000000
/-! Rules of one's own: == with a text, == with an empty list, is True. -/
namespace Kd
open PySem PySem.Spec PyProof.Rows L2
section
variable {X : Cx}
/-- == of anything that is no dict with a text -/
def rEqS (K : PySem.W.Frag) (neg : Bool) : R2 := fun x y H Q => ∃ z : Str, y = .str z ∧ (scal x y = true ∨ ∃ a xs, x = .ref a ∧ (SqL K H a xs ∨ SqT K H a xs)) ∧ Q (.bl (xor neg (decide (x = y)))) H
theorem isL_of {h : Heap} {a : Addr} {its : List Value} (p : PlainL h a its.toArray) : h.IsList a its.toArray := p.isList
theorem op_eqS (hu : X.A.units + 64 < cLine) : OpR X (compareOp .Eq) (rEqS X.K false) := by
  intro pins s σ H x y v u Q I rx ry h
  obtain ⟨z, rfl, c, q⟩ := h
  have q : Q (.bl (decide (x = .str z))) H := by simpa using q
  rcases c with c | ⟨a, xs, rfl, c⟩
  · exact op_eq pins s σ H x (.str z) v u Q I rx ry ⟨c, q⟩
  · cases rx
    obtain ⟨t, rfl⟩ := ry
    have q : Q (.bl false) H := by simpa using q
    rcases c with c | c
    · obtain ⟨its, _, p, _⟩ := I.list c
      exact SeqAt.RcAt.list_str z t p.isList (by omega) X.prog X.w X.xe _ ⟨.bl false, H, I, rfl, q⟩
    · obtain ⟨its, _, p, _⟩ := I.tuple c
      obtain ⟨o, h1, h2, n, h3⟩ := p
      exact SeqAt.RcAt.tuple_str z t ⟨o, h1, h2, n, h3⟩ (by omega) X.prog X.w X.xe _ ⟨.bl false, H, I, rfl, q⟩
theorem op_neS (hu : X.A.units + 64 < cLine) : OpR X (compareOp .NotEq) (rEqS X.K true) := by
  intro pins s σ H x y v u Q I rx ry h
  obtain ⟨z, rfl, c, q⟩ := h
  have q : Q (.bl (!decide (x = .str z))) H := by simpa using q
  rcases c with c | ⟨a, xs, rfl, c⟩
  · exact op_ne pins s σ H x (.str z) v u Q I rx ry ⟨c, q⟩
  · cases rx
    obtain ⟨t, rfl⟩ := ry
    have q : Q (.bl true) H := by simpa using q
    rcases c with c | c
    · obtain ⟨its, _, p, _⟩ := I.list c
      exact SeqAt.RcNeAt.list_str z t p.isList (by omega) X.prog X.w X.xe _ ⟨.bl true, H, I, rfl, q⟩
    · obtain ⟨its, _, p, _⟩ := I.tuple c
      obtain ⟨o, h1, h2, n, h3⟩ := p
      exact SeqAt.RcNeAt.tuple_str z t ⟨o, h1, h2, n, h3⟩ (by omega) X.prog X.w X.xe _ ⟨.bl true, H, I, rfl, q⟩
/-- a list against an empty one -/
def rEqNil (K : PySem.W.Frag) (neg : Bool) : R2 := fun x y H Q => ∃ a b xs, x = .ref a ∧ y = .ref b ∧ SqL K H a xs ∧ SqL K H b [] ∧ Q (.bl (xor neg xs.isEmpty)) H
theorem op_eqNil (hu : X.A.units + 64 < cLine) : OpR X (compareOp .Eq) (rEqNil X.K false) := by
  intro pins s σ H x y v u Q I rx ry h
  obtain ⟨a, b, xs, rfl, rfl, ha, hb, q⟩ := h
  cases rx
  cases ry
  obtain ⟨its, r1, p1, _⟩ := I.list ha
  obtain ⟨jts, r2, p2, _⟩ := I.list hb
  cases r2
  cases r1 with
  | nil => exact SeqAt.RcAt.lists (e := fun _ => true) p1.isList p2.isList rfl (by omega) (fun j h1 => absurd h1 (Nat.not_lt_zero _)) X.prog X.w X.xe _ ⟨.bl true, H, I, rfl, q⟩
  | cons r t => exact SeqAt.RcAt.lists_lengths p1.isList p2.isList (by simp) (by omega) X.prog X.w X.xe _ ⟨.bl false, H, I, rfl, q⟩
theorem op_neNil (hu : X.A.units + 64 < cLine) : OpR X (compareOp .NotEq) (rEqNil X.K true) := by
  intro pins s σ H x y v u Q I rx ry h
  obtain ⟨a, b, xs, rfl, rfl, ha, hb, q⟩ := h
  cases rx
  cases ry
  obtain ⟨its, r1, p1, _⟩ := I.list ha
  obtain ⟨jts, r2, p2, _⟩ := I.list hb
  cases r2
  cases r1 with
  | nil => exact SeqAt.RcNeAt.lists (e := fun _ => true) p1.isList p2.isList rfl (by omega) (fun j h1 => absurd h1 (Nat.not_lt_zero _)) X.prog X.w X.xe _ ⟨.bl false, H, I, rfl, q⟩
  | cons r t => exact SeqAt.RcNeAt.lists_lengths p1.isList p2.isList (by simp) (by omega) X.prog X.w X.xe _ ⟨.bl true, H, I, rfl, q⟩
/-- is True, is False, of any value that is told -/
def rIsTF : R2 := fun x y H Q => ∃ b : Bool, y = .bl b ∧ (∀ n, x ≠ .ty n) ∧ Q (.bl (decide (x = .bl b))) H
theorem op_isTF : OpR X (compareOp .Is) rIsTF := by
  intro pins s σ H x y v u Q I rx ry h
  obtain ⟨b, rfl, nt, q⟩ := h
  cases (show u = Value.bool b from ry)
  cases x with
  | bl c => exact op_isBl pins s σ H (.bl c) (.bl b) v _ Q I rx rfl ⟨c, b, rfl, rfl, by simpa using q⟩
  | non => cases rx; exact wpAny_is_other rfl (fun z => nomatch z) ⟨.bl false, H, I, rfl, by simpa using q⟩
  | int i => obtain ⟨t, rfl⟩ := rx; exact wpAny_is_other rfl (fun z => nomatch z) ⟨.bl false, H, I, rfl, by simpa using q⟩
  | str i => obtain ⟨t, rfl⟩ := rx; exact wpAny_is_other rfl (fun z => nomatch z) ⟨.bl false, H, I, rfl, by simpa using q⟩
  | byt i => obtain ⟨t, rfl⟩ := rx; exact wpAny_is_other rfl (fun z => nomatch z) ⟨.bl false, H, I, rfl, by simpa using q⟩
  | flt i => obtain ⟨t, rfl⟩ := rx; exact wpAny_is_other rfl (fun z => nomatch z) ⟨.bl false, H, I, rfl, by simpa using q⟩
  | ref a => cases rx; exact wpAny_is_other rfl (fun z => nomatch z) ⟨.bl false, H, I, rfl, by simpa using q⟩
  | ty n => exact absurd rfl (nt n)
end
end Kd
namespace Kd
open PySem PySem.Spec PyProof.Rows L2
/-! within a comprehension: the written part named -/
section
variable {X : Cx} {K : PySem.W.Frag}
theorem ixK_tup (h : X.K = K) : IxR X (rIxT K) := h ▸ ix_tup
theorem piK_list {tg e : Expr} {te : TE} (h : X.K = K) (he : PE X e te) : PI X tg e (iList K te) := h ▸ pi_list he
theorem ixK_list (h : X.K = K) : IxR X (rIxL K) := h ▸ ix_list
theorem opK_eqS (h : X.K = K) (hu : X.A.units + 64 < cLine) : OpR X (compareOp .Eq) (rEqS K false) := h ▸ op_eqS hu
theorem opK_neS (h : X.K = K) (hu : X.A.units + 64 < cLine) : OpR X (compareOp .NotEq) (rEqS K true) := h ▸ op_neS hu
theorem pgK_tup {es : List Expr} {k : Nat} {t : TGs} {n : Nat} {pos : Pos} (h : X.K = K) (hc : X.calm = true) (hp : PGs X es t)
    (hn : (assignEach es X.env).length = n := by rfl) (hst : (assignEach es X.env).findIdx? (·.1) = none := by rfl) : PG X (.Tuple es k pos) (gTup K n t) := h ▸ pg_tup hc hp hn hst
end
end Kd
set_option maxHeartbeats 4000000
/-! What an expression's reading comes to, told by trees: Ed te σ G d: from any heap that has the frozen part G the value of the expression shows d; what is made is new. -/
namespace Kd
open PySem PySem.Spec PyProof.Rows L2

abbrev Gp (G H G' H' : Hp) : Prop := Gr [] G H G' H'
theorem Gr.e {G H G' H' : Hp} (g : Gr [] G H G' H') : Same H H' := fun a o e => g.h a o (by simp) e
theorem Gr.same {M : List Addr} {G H G' H' : Hp} (g : Gr M G H G' H') : Gr M G H G H' := ⟨g.h, g.t, Same.refl _, g.g.trans g.s, fun _ h _ => h⟩
/-- the same from a larger frozen part: the two parts are joined -/
theorem Gr.larger {G G1 H G2 H2 : Hp} (e : Same G G1) (s : Same G1 H) (g : Gp G H G2 H2) : ∃ G3, Gp G1 H G3 H2 ∧ Same G2 G3 := by
  have s2 : Same G1 H2 := s.trans g.e
  refine ⟨fun a => if (G1 a).isSome then G1 a else G2 a, ⟨g.h, g.t, fun a o h => ?_, fun a o h => ?_, fun a h1 h2 => ?_⟩, fun a o h => ?_⟩
  · show (if (G1 a).isSome then G1 a else G2 a) = some o
    rw [h]
    rfl
  · have h : (if (G1 a).isSome then G1 a else G2 a) = some o := h
    split at h
    · exact s2 a o h
    · exact g.s a o h
  · show (if (G1 a).isSome then G1 a else G2 a) = none
    rw [h1, if_neg (by simp)]
    exact g.n a (e.free h1) h2
  · show (if (G1 a).isSome then G1 a else G2 a) = some o
    split
    · rename_i z
      cases q : G1 a with
      | none => rw [q] at z; simp at z
      | some u =>
        have x1 := s2 a u q
        have x2 := g.s a o h
        rw [x1] at x2
        exact x2
    · exact h

def Ed (te : TE) (σ : L2.St) (G : Hp) (d : D) : Prop := ∀ H, Same G H → ∀ Q : VK, (∀ v G' H', Gp G H G' H' → Rp G' d v → Q v H') → te σ H Q
def Eds (ta : TA) (σ : L2.St) (G : Hp) (ds : List D) : Prop := ∀ H, Same G H → ∀ Q : List V → Hp → Prop, (∀ vs G' H', Gp G H G' H' → RpL G' ds vs → Q vs H') → ta σ H Q
def Eb (tt : TT) (σ : L2.St) (G : Hp) (b : Bool) : Prop := ∀ H, Same G H → ∀ Q : Bool → Hp → Prop, (∀ H', Gp G H G H' → Q b H') → tt σ H Q
def Eo (to : TO) (σ : L2.St) (G : Hp) (o : Option Int) : Prop := ∀ H, Same G H → ∀ Q : Option Int → Hp → Prop, (∀ H', Gp G H G H' → Q o H') → to σ H Q
/-- an operation upon values that show trees -/
def Rd2 (r : R2) (G : Hp) (d e z : D) : Prop := ∀ x y H, Same G H → Rp G d x → Rp G e y → ∀ Q : VK, (∀ v G' H', Gp G H G' H' → Rp G' z v → Q v H') → r x y H Q
def Rd1 (r : V → Hp → VK → Prop) (G : Hp) (d z : D) : Prop := ∀ x H, Same G H → Rp G d x → ∀ Q : VK, (∀ v G' H', Gp G H G' H' → Rp G' z v → Q v H') → r x H Q
def Rdc (r : List V → Hp → VK → Prop) (G : Hp) (ds : List D) (z : D) : Prop := ∀ xs H, Same G H → RpL G ds xs → ∀ Q : VK, (∀ v G' H', Gp G H G' H' → Rp G' z v → Q v H') → r xs H Q

section
variable {K : PySem.W.Frag} {σ : L2.St} {G G1 : Hp} {te ta tb tc : TE} {t u : TT} {d e z : D} {b c : Bool} {i j : Int} {v : V} {r r' : R2}
theorem Ed.mono (s : Same G G1) (h : Ed te σ G d) : Ed te σ G1 d := fun H s1 Q q => h H (s.trans s1) Q fun v G' H' g hv =>
  let ⟨G3, g3, e3⟩ := g.larger s s1
  q v G3 H' g3 (hv.mono e3)
theorem Eds.mono {ta : TA} {ds : List D} (s : Same G G1) (h : Eds ta σ G ds) : Eds ta σ G1 ds := fun H s1 Q q => h H (s.trans s1) Q fun v G' H' g hv =>
  let ⟨G3, g3, e3⟩ := g.larger s s1
  q v G3 H' g3 (hv.mono e3)
theorem Eb.mono (s : Same G G1) (h : Eb t σ G b) : Eb t σ G1 b := fun H s1 Q q => h H (s.trans s1) Q fun H' g => q H' ⟨g.h, g.t, Same.refl _, s1.trans g.e, fun _ z _ => z⟩
theorem Ed.to (h : Ed te σ G d) (q : d = e) : Ed te σ G e := q ▸ h
theorem Eb.to (h : Eb t σ G b) (q : b = c) : Eb t σ G c := q ▸ h
theorem gr0 {M : List Addr} {G H : Hp} (s : Same G H) : Gr M G H G H := Gr.refl s

theorem ed_var {i : Nat} (h : σ[i]? = some (some v)) (r : Rp G d v) : Ed (tVar i) σ G d := fun H s Q q => ⟨v, h, q v G H (gr0 s) r⟩
theorem ed_c (r : Rp G d v) : Ed (tC v) σ G d := fun H s Q q => q v G H (gr0 s) r
theorem ed_int : Ed (tC (.int i)) σ G (.int i) := ed_c rfl
theorem ed_bl : Ed (tC (.bl b)) σ G (.bl b) := ed_c rfl
theorem ed_non : Ed (tC .non) σ G .non := ed_c rfl
theorem ed_str {x : Str} : Ed (tC (.str x)) σ G (.str x) := ed_c rfl
theorem ed_op (ha : Ed ta σ G d) (hb : Ed tb σ G e) (hr : ∀ G1, Same G G1 → Rd2 r G1 d e z) : Ed (tOp r ta tb) σ G z := fun H s Q q =>
  ha H s _ fun x G1 H1 g1 r1 => hb.mono g1.g H1 g1.s _ fun y G2 H2 g2 r2 => hr G2 (g1.g.trans g2.g) x y H2 g2.s (r1.mono g2.g) r2 Q fun v G3 H3 g3 r3 => q v G3 H3 ((g1.trans g2).trans g3) r3
theorem ed_un {r : V → Hp → VK → Prop} (ha : Ed ta σ G d) (hr : ∀ G1, Same G G1 → Rd1 r G1 d z) : Ed (tUn r ta) σ G z := fun H s Q q =>
  ha H s _ fun x G1 H1 g1 r1 => hr G1 g1.g x H1 g1.s r1 Q fun v G3 H3 g3 r3 => q v G3 H3 (g1.trans g3) r3
theorem eds_nil : Eds tNil σ G [] := fun H s Q q => q [] G H (gr0 s) rfl
theorem eds_cons {tr : TA} {ds : List D} (ha : Ed ta σ G d) (hr : Eds tr σ G ds) : Eds (tCons ta tr) σ G (d :: ds) := fun H s Q q =>
  ha H s _ fun x G1 H1 g1 r1 => hr.mono g1.g H1 g1.s _ fun ys G2 H2 g2 r2 => q (x :: ys) G2 H2 (g1.trans g2) (.cons (r1.mono g2.g) r2)
theorem ed_tup {ta : TA} {ds : List D} (h : Eds ta σ G ds) (hl : ds.length ≤ 10000000) : Ed (tTup ta) σ G (.tup ds) := fun H s Q q =>
  h H s _ fun vs G1 H1 g1 r1 => ⟨by rw [r1.len]; exact Nat.le_trans hl (by decide), fun p hp => q (.ref p) _ _ (g1.new hp) ⟨p, vs, rfl, upd_same, r1.mono (fun a o x => by rw [upd_ne (ne_of_none x (g1.gfree hp))]; exact x)⟩⟩
theorem ed_lst {ta : TA} {ds : List D} (h : Eds ta σ G ds) (hl : ds.length ≤ 10000000) : Ed (tLst ta) σ G (.lst ds) := fun H s Q q =>
  h H s _ fun vs G1 H1 g1 r1 => ⟨by rw [r1.len]; exact Nat.le_trans hl (by decide), fun p hp => q (.ref p) _ _ (g1.new hp) ⟨p, vs, rfl, upd_same, r1.mono (fun a o x => by rw [upd_ne (ne_of_none x (g1.gfree hp))]; exact x)⟩⟩
theorem ed_dnewK : Ed tDNewK σ G .dct := fun H s Q q p hp => q (.ref p) _ _ ((Gr.refl s).new hp) ⟨p, _, rfl, upd_same⟩
theorem ed_cb {r : List V → Hp → VK → Prop} {ta : TA} {ds : List D} (h : Eds ta σ G ds) (hr : ∀ G1, Same G G1 → Rdc r G1 ds z) : Ed (tCB r ta) σ G z := fun H s Q q =>
  h H s _ fun vs G1 H1 g1 r1 => hr G1 g1.g vs H1 g1.s r1 Q fun v G3 H3 g3 r3 => q v G3 H3 (g1.trans g3) r3

/-! ### tests -/
theorem ed_bl_inv {G : Hp} {v : V} (h : Rp G (.bl b) v) : v = .bl b := h
theorem eb_test (h : Ed te σ G (.bl b)) : Eb (tTest te) σ G b := fun H s Q q => h H s _ fun v G' H' g r => ⟨b, r, q H' g.same⟩
theorem eb_B (h : Ed te σ G (.bl b)) : Eb (tB te) σ G b := fun H s Q q => h H s _ fun v G' H' g r => ⟨b, r, q H' g.same⟩
theorem eb_not (h : Eb t σ G b) : Eb (tNot t) σ G (!b) := fun H s Q q => h H s _ fun H' g => q H' g
theorem eb_and (h1 : Eb t σ G b) (h2 : b = true → Eb u σ G c) : Eb (tAnd t u) σ G (b && c) := fun H s Q q => h1 H s _ fun H1 g1 => by
  cases b with
  | true =>
    show u σ H1 Q
    exact h2 rfl H1 g1.s Q fun H2 g2 => q H2 (g1.trans g2)
  | false =>
    show Q false H1
    exact q H1 g1
theorem eb_or (h1 : Eb t σ G b) (h2 : b = false → Eb u σ G c) : Eb (tOr t u) σ G (b || c) := fun H s Q q => h1 H s _ fun H1 g1 => by
  cases b with
  | false =>
    show u σ H1 Q
    exact h2 rfl H1 g1.s Q fun H2 g2 => q H2 (g1.trans g2)
  | true =>
    show Q true H1
    exact q H1 g1
theorem ed_andV (h1 : Ed ta σ G (.bl b)) (h2 : b = true → Ed tb σ G (.bl c)) : Ed (tAndV ta tb) σ G (.bl (b && c)) := fun H s Q q => h1 H s _ fun x G1 H1 g1 r1 => ⟨b, r1, by
  cases b with
  | true =>
    show tb σ H1 Q
    exact (h2 rfl).mono g1.g H1 g1.s Q fun v G2 H2 g2 r2 => q v G2 H2 (g1.trans g2) r2
  | false =>
    show Q (.bl false) H1
    exact q _ G1 H1 g1 rfl⟩
theorem ed_orV (h1 : Ed ta σ G (.bl b)) (h2 : b = false → Ed tb σ G (.bl c)) : Ed (tOrV ta tb) σ G (.bl (b || c)) := fun H s Q q => h1 H s _ fun x G1 H1 g1 r1 => ⟨b, r1, by
  cases b with
  | false =>
    show tb σ H1 Q
    exact (h2 rfl).mono g1.g H1 g1.s Q fun v G2 H2 g2 r2 => q v G2 H2 (g1.trans g2) r2
  | true =>
    show Q (.bl true) H1
    exact q _ G1 H1 g1 rfl⟩
theorem ed_notV (h : Ed ta σ G (.bl b)) : Ed (tNotV ta) σ G (.bl (!b)) := fun H s Q q => h H s _ fun x G1 H1 g1 r1 => ⟨b, r1, q _ G1 H1 g1 rfl⟩
theorem ed_if (h : Eb t σ G b) (h1 : b = true → Ed ta σ G d) (h2 : b = false → Ed tb σ G d) : Ed (tIf t ta tb) σ G d := fun H s Q q => h H s _ fun H1 g1 => by
  cases b with
  | true =>
    show ta σ H1 Q
    exact h1 rfl H1 g1.s Q fun v G2 H2 g2 r2 => q v G2 H2 (g1.trans g2) r2
  | false =>
    show tb σ H1 Q
    exact h2 rfl H1 g1.s Q fun v G2 H2 g2 r2 => q v G2 H2 (g1.trans g2) r2
theorem ed_chain (ha : Ed ta σ G d) (hb : Ed tb σ G e) (hc : Ed tc σ G z) (h1 : ∀ G1, Same G G1 → Rd2 r G1 d e (.bl b)) (h2 : ∀ G1, Same G G1 → Rd2 r' G1 e z (.bl c)) : Ed (tChain r r' ta tb tc) σ G (.bl (b && c)) := fun H s Q q =>
  ha H s _ fun x G1 H1 g1 r1 => hb.mono g1.g H1 g1.s _ fun y G2 H2 g2 r2 => h1 G2 (g1.g.trans g2.g) x y H2 g2.s (r1.mono g2.g) r2 _ fun w G3 H3 g3 r3 => ⟨b, r3, by
    have g := (g1.trans g2).trans g3
    cases b with
    | true =>
      show tc σ H3 fun w' H4 => r' y w' H4 Q
      exact hc.mono g.g H3 g.s _ fun w' G4 H4 g4 r4 => h2 G4 (g.g.trans g4.g) y w' H4 g4.s (r2.mono (g3.g.trans g4.g)) r4 Q fun v G5 H5 g5 r5 => q v G5 H5 ((g.trans g4).trans g5) r5
    | false =>
      show Q (.bl false) H3
      exact q _ G3 H3 g rfl⟩
/-- truth -/
def truth : D → Bool
  | .non => false
  | .bl b => b
  | .int i => i != 0
  | .str s => (s.length : Int) != 0
  | .tup ds => !ds.isEmpty
  | .lst ds => !ds.isEmpty
  | .dct => false
def shortS : D → Bool
  | .str s => decide (s.length ≤ 10000000)
  | .dct => false
  | _ => true
theorem isE : ∀ {ds : List D} {vs : List V}, RpL G ds vs → vs.isEmpty = ds.isEmpty
  | [], _, h => by cases h; rfl
  | d :: ds, _, ⟨v, r, hv, _, hr⟩ => by subst hv; rfl
theorem truV_of {H : Hp} (s : Same G H) (h : Rp G d v) (hs : shortS d = true) : TruV K v H (truth d) := by
  cases d with
  | non => cases h; rfl
  | bl b => cases h; rfl
  | int i => cases h; rfl
  | str y => cases h; exact ⟨Nat.le_trans (of_decide_eq_true hs) (by decide), rfl⟩
  | tup ds => obtain ⟨a, vs, rfl, ha, hr⟩ := h; exact .inr (.inl ⟨vs, SqT.of (s a _ ha), by rw [truth, isE hr]⟩)
  | lst ds => obtain ⟨a, vs, rfl, ha, hr⟩ := h; exact .inl ⟨vs, SqL.of (s a _ ha), by rw [truth, isE hr]⟩
  | dct => cases hs
theorem eb_truth (h : Ed ta σ G d) (hs : shortS d = true) : Eb (fun σ H Q => ta σ H fun x H' => ∃ k, TruV K x H' k ∧ Q k H') σ G (truth d) := fun H s Q q =>
  h H s _ fun v G1 H1 g1 r1 => ⟨_, truV_of g1.s r1 hs, q H1 g1.same⟩

/-! ### operations -/
theorem rd_I0 {g : Int → Int → V} {z : D} (h : Rp G z (g i j)) : Rd2 (rI0 g) G (.int i) (.int j) z := fun x y H s r1 r2 Q q => ⟨i, j, r1, r2, q _ G H (gr0 s) h⟩
theorem rd_I {C : Int → Int → Prop} {g : Int → Int → V} {z : D} (hc : C i j) (h : Rp G z (g i j)) : Rd2 (rI C g) G (.int i) (.int j) z := fun x y H s r1 r2 Q q => ⟨i, j, r1, r2, hc, q _ G H (gr0 s) h⟩
theorem rd_I0i {f : Int → Int → Int} : Rd2 (rI0 fun i j => .int (f i j)) G (.int i) (.int j) (.int (f i j)) := fun x y H s r1 r2 Q q => ⟨i, j, r1, r2, q _ G H (gr0 s) rfl⟩
theorem rd_I0b {f : Int → Int → Bool} : Rd2 (rI0 fun i j => .bl (f i j)) G (.int i) (.int j) (.bl (f i j)) := fun x y H s r1 r2 Q q => ⟨i, j, r1, r2, q _ G H (gr0 s) rfl⟩
theorem rd_Ii {C : Int → Int → Prop} {f : Int → Int → Int} (hc : C i j) : Rd2 (rI C fun i j => .int (f i j)) G (.int i) (.int j) (.int (f i j)) := fun x y H s r1 r2 Q q => ⟨i, j, r1, r2, hc, q _ G H (gr0 s) rfl⟩
/-- == of flat trees -/
def eqD : D → D → Option Bool
  | .non, .non => some true
  | .non, .int _ => some false | .int _, .non => some false | .non, .bl _ => some false | .bl _, .non => some false | .non, .str _ => some false | .str _, .non => some false
  | .int a, .int b => some (decide (a = b))
  | .bl a, .bl b => some (decide (a = b))
  | .str a, .str b => some (decide (a = b))
  | .int _, .str _ => some false | .str _, .int _ => some false | .bl _, .str _ => some false | .str _, .bl _ => some false
  | _, _ => none
theorem scal_of {x y : V} (h : eqD d e = some b) (r1 : Rp G d x) (r2 : Rp G e y) : scal x y = true ∧ decide (x = y) = b := by
  cases d <;> cases e <;> simp only [eqD] at h <;> first | cases h | skip
  all_goals (cases r1; cases r2; first | exact ⟨rfl, by simp⟩ | (refine ⟨rfl, ?_⟩; simp))
theorem rd_eq (h : eqD d e = some b) : Rd2 rEq G d e (.bl b) := fun x y H s r1 r2 Q q => by
  obtain ⟨h1, h2⟩ := scal_of h r1 r2
  exact ⟨h1, q _ G H (gr0 s) (by rw [h2]; rfl)⟩
theorem rd_ne (h : (eqD d e).map (!·) = some b) : Rd2 rNe G d e (.bl b) := fun x y H s r1 r2 Q q => by
  cases hq : eqD d e with
  | none => rw [hq] at h; cases h
  | some c =>
    rw [hq] at h
    obtain ⟨h1, h2⟩ := scal_of hq r1 r2
    exact ⟨h1, q _ G H (gr0 s) (by rw [h2]; rw [← Option.some.inj h]; rfl)⟩
theorem rd_leS {x y : Str} : Rd2 (fun x y H Q => ∃ i j, x = .str i ∧ y = .str j ∧ Q (.bl (!decide (j.cps.toList < i.cps.toList))) H) G (.str x) (.str y) (.bl (!decide (y.cps.toList < x.cps.toList))) := fun _ _ H s r1 r2 Q q => ⟨x, y, r1, r2, q _ G H (gr0 s) rfl⟩
theorem rd_ltS {x y : Str} : Rd2 (fun x y H Q => ∃ i j, x = .str i ∧ y = .str j ∧ Q (.bl (decide (i.cps.toList < j.cps.toList))) H) G (.str x) (.str y) (.bl (decide (x.cps.toList < y.cps.toList))) := fun _ _ H s r1 r2 Q q => ⟨x, y, r1, r2, q _ G H (gr0 s) rfl⟩
theorem rd_addS {x y : Str} (h : x.length + y.length ≤ 10000000) : Rd2 (fun x y H Q => ∃ i j, x = .str i ∧ y = .str j ∧ i.length + j.length ≤ sizeLine ∧ Q (.str (i ++ j)) H) G (.str x) (.str y) (.str (x ++ y)) := fun _ _ H s r1 r2 Q q => ⟨x, y, r1, r2, Nat.le_trans h (by decide), q _ G H (gr0 s) rfl⟩
def isNon : D → Bool
  | .non => true
  | _ => false
theorem rd_isN : Rd2 (fun x y H Q => y = .non ∧ Q (.bl (decide (x = .non))) H) G d .non (.bl (isNon d)) := fun x y H s r1 r2 Q q => ⟨r2, q _ G H (gr0 s) (by
  cases d with
  | non => cases r1; rfl
  | bl b => cases r1; rfl
  | int i => cases r1; rfl
  | str y => cases r1; rfl
  | tup ds => obtain ⟨a, vs, rfl, _⟩ := r1; rfl
  | lst ds => obtain ⟨a, vs, rfl, _⟩ := r1; rfl
  | dct => obtain ⟨a, vs, rfl, _⟩ := r1; rfl)⟩
theorem rd_isB {a c : Bool} : Rd2 rIsB G (.bl a) (.bl c) (.bl (decide (a = c))) := fun x y H s r1 r2 Q q => ⟨a, c, r1, r2, q _ G H (gr0 s) rfl⟩
theorem rd_notB {a c : Bool} : Rd2 rNotB G (.bl a) (.bl c) (.bl (!decide (a = c))) := fun x y H s r1 r2 Q q => ⟨a, c, r1, r2, q _ G H (gr0 s) rfl⟩

/-! ### items -/
theorem at_len {α β : Type} {xs : List α} {ys : List β} {i : Int} (h : ys.length = xs.length) : ixN ys.length i = ixN xs.length i := by rw [h]
theorem atI_rp {ds : List D} {vs : List V} {i : Int} {d : D} (r : RpL G ds vs) (h : atI ds i = some d) : ∃ v, atI vs i = some v ∧ Rp G d v := by
  unfold atI at h ⊢
  rw [r.len]
  cases e : ixN ds.length i with
  | none => rw [e] at h; cases h
  | some k =>
    rw [e] at h
    have h2 : ds[k]? = some d := h
    obtain ⟨v, h3, h4⟩ := r.at h2
    exact ⟨v, h3, h4⟩
theorem rd_ixT {ds : List D} (h : atI ds i = some z) : Rd2 (rIxT K) G (.tup ds) (.int i) z := fun x y H s r1 r2 Q q => by
  obtain ⟨a, vs, rfl, ha, hr⟩ := r1
  obtain ⟨v, h1, h2⟩ := atI_rp hr h
  exact ⟨a, vs, i, v, rfl, r2, SqT.of (s a _ ha), h1, q v G H (gr0 s) h2⟩
theorem rd_ixL {ds : List D} (h : atI ds i = some z) : Rd2 (rIxL K) G (.lst ds) (.int i) z := fun x y H s r1 r2 Q q => by
  obtain ⟨a, vs, rfl, ha, hr⟩ := r1
  obtain ⟨v, h1, h2⟩ := atI_rp hr h
  exact ⟨a, vs, i, v, rfl, r2, SqL.of (s a _ ha), h1, q v G H (gr0 s) h2⟩
theorem rd_ixS {w : Str} {c : Nat} (hw : w.length ≤ 10000000) (h : atI w.cps.toList i = some c) : Rd2 rIxS G (.str w) (.int i) (.str ⟨#[c]⟩) := fun x y H s r1 r2 Q q => ⟨w, i, c, r1, r2, Nat.le_trans hw (by decide), h, q _ G H (gr0 s) rfl⟩
def flatD : D → Bool
  | .non => true | .bl _ => true | .int _ => true | .str _ => true
  | _ => false
def eqF : D → D → Bool
  | .non, .non => true
  | .bl a, .bl b => a == b
  | .bl a, .int b => (if a then 1 else 0) == b
  | .int a, .bl b => a == (if b then 1 else 0)
  | .int a, .int b => a == b
  | .str a, .str b => a == b
  | _, _ => false
theorem flat_of (h : Rp G d v) (f : flatD d = true) : flatV v = true := by
  cases d <;> first | (cases h; rfl) | cases f
theorem eqV_of {x y : V} (h : Rp G d x) (k : Rp G e y) (f : flatD d = true) (f' : flatD e = true) : eqV x y = eqF d e := by
  cases d <;> cases e <;> first | (cases h; cases k; rfl) | exact absurd f Bool.false_ne_true | exact absurd f' Bool.false_ne_true
theorem flats_of : ∀ {ds : List D} {vs : List V}, RpL G ds vs → ds.all flatD = true → vs.all flatV = true
  | [], _, h, _ => by cases h; rfl
  | d :: ds, _, ⟨v, r, hv, h1, hr⟩, f => by
    subst hv
    rw [List.all_cons, Bool.and_eq_true] at f ⊢
    exact ⟨flat_of h1 f.1, flats_of hr f.2⟩
theorem inV_of {x : V} (hx : Rp G d x) (fx : flatD d = true) : ∀ {ds : List D} {vs : List V}, RpL G ds vs → ds.all flatD = true → inV x vs = ds.any fun e => eqF e d
  | [], _, h, _ => by cases h; rfl
  | e :: ds, _, ⟨v, r, hv, h1, hr⟩, f => by
    subst hv
    rw [List.all_cons, Bool.and_eq_true] at f
    have ih := inV_of hx fx hr f.2
    show (eqV v x || inV x r) = (eqF e d || ds.any fun e => eqF e d)
    rw [ih, eqV_of h1 hx f.1 fx]
theorem rd_inT {ds : List D} (fx : flatD d = true) (f : ds.all flatD = true) : Rd2 (rIn K false) G d (.tup ds) (.bl (ds.any fun e => eqF e d)) := fun x y H s r1 r2 Q q => by
  obtain ⟨a, vs, rfl, ha, hr⟩ := r2
  exact ⟨a, vs, rfl, .inr (SqT.of (s a _ ha)), flat_of r1 fx, flats_of hr f, by
    show Q (.bl (inV x vs)) H
    rw [inV_of r1 fx hr f]
    exact q _ G H (gr0 s) rfl⟩
theorem rd_inL {ds : List D} (fx : flatD d = true) (f : ds.all flatD = true) : Rd2 (rIn K false) G d (.lst ds) (.bl (ds.any fun e => eqF e d)) := fun x y H s r1 r2 Q q => by
  obtain ⟨a, vs, rfl, ha, hr⟩ := r2
  exact ⟨a, vs, rfl, .inl (SqL.of (s a _ ha)), flat_of r1 fx, flats_of hr f, by
    show Q (.bl (inV x vs)) H
    rw [inV_of r1 fx hr f]
    exact q _ G H (gr0 s) rfl⟩
theorem rd_notInL {ds : List D} (fx : flatD d = true) (f : ds.all flatD = true) : Rd2 (rIn K true) G d (.lst ds) (.bl (!ds.any fun e => eqF e d)) := fun x y H s r1 r2 Q q => by
  obtain ⟨a, vs, rfl, ha, hr⟩ := r2
  exact ⟨a, vs, rfl, .inl (SqL.of (s a _ ha)), flat_of r1 fx, flats_of hr f, by
    show Q (.bl (!inV x vs)) H
    rw [inV_of r1 fx hr f]
    exact q _ G H (gr0 s) rfl⟩
/-- in a tuple of texts of the written part -/
theorem inV_strs {x : Str} : ∀ {zs : List Str}, inV (.str x) (zs.map V.str) = zs.any (fun z => z == x)
  | [] => rfl
  | z :: zs => by
    show (eqV (.str z) (.str x) || inV (.str x) (zs.map V.str)) = _
    rw [inV_strs]
    rfl
theorem flat_strs : ∀ {zs : List Str}, (zs.map V.str).all flatV = true
  | [] => rfl
  | z :: zs => by show (true && (zs.map V.str).all flatV) = true; rw [flat_strs]; rfl
/-! ### slices -/
theorem rl_cut {ds : List D} {vs : List V} (r : RpL G ds vs) (lo hi : Option Int) : RpL G ((ds.drop (HT.sIx ds.length 0 lo)).take (HT.sIx ds.length ds.length hi - HT.sIx ds.length 0 lo)) (cutV vs lo hi) := by
  unfold cutV
  rw [r.len]
  exact (r.drop _).take _
def cutD (ds : List D) (lo hi : Option Int) : List D := (ds.drop (HT.sIx ds.length 0 lo)).take (HT.sIx ds.length ds.length hi - HT.sIx ds.length 0 lo)
theorem cutD_whole {ds : List D} {lo hi : Option Int} (h : HT.sIx ds.length 0 lo = 0 ∧ HT.sIx ds.length ds.length hi = ds.length) : cutD ds lo hi = ds := by
  unfold cutD
  rw [h.1, h.2]
  simp
theorem eo_none : Eo tNoPart σ G none := fun H s Q q => q H (gr0 s)
theorem eo_some (h : Ed te σ G (.int i)) : Eo (tPart te) σ G (some i) := fun H s Q q => h H s _ fun v G1 H1 g1 r1 => ⟨i, r1, q H1 g1.same⟩
theorem Eo.mono {to : TO} {o : Option Int} (s : Same G G1) (h : Eo to σ G o) : Eo to σ G1 o := fun H s1 Q q => h H (s.trans s1) Q fun H' g => q H' ⟨g.h, g.t, Same.refl _, s1.trans g.e, fun _ z _ => z⟩
theorem ed_slT {tl th : TO} {ds : List D} {lo hi : Option Int} (h : Ed te σ G (.tup ds)) (h1 : Eo tl σ G lo) (h2 : Eo th σ G hi) : Ed (tSl (rSlA K) te tl th) σ G (.tup (cutD ds lo hi)) := fun H s Q q =>
  h H s _ fun x G1 H1 g1 r1 => h1.mono g1.g H1 g1.s _ fun H2 g2 => h2.mono g1.g H2 g2.s _ fun H3 g3 => by
    obtain ⟨a, vs, rfl, ha, hr⟩ := r1
    have g := (g1.trans g2).trans g3
    refine ⟨a, vs, rfl, SqT.of (g.s a _ ha), fun w => q _ G1 H3 g ?_, fun w p hp => q _ _ _ (g.new hp) ?_⟩
    · rw [hr.len] at w
      exact ⟨a, vs, rfl, ha, by rw [cutD_whole w]; exact hr⟩
    · exact ⟨p, _, rfl, upd_same, (rl_cut hr lo hi).mono (fun b o x => by rw [upd_ne (ne_of_none x (g.gfree hp))]; exact x)⟩
theorem ed_slL {tl th : TO} {ds : List D} {lo hi : Option Int} (h : Ed te σ G (.lst ds)) (h1 : Eo tl σ G lo) (h2 : Eo th σ G hi) : Ed (tSl (rSlL K) te tl th) σ G (.lst (cutD ds lo hi)) := fun H s Q q =>
  h H s _ fun x G1 H1 g1 r1 => h1.mono g1.g H1 g1.s _ fun H2 g2 => h2.mono g1.g H2 g2.s _ fun H3 g3 => by
    obtain ⟨a, vs, rfl, ha, hr⟩ := r1
    have g := (g1.trans g2).trans g3
    refine ⟨a, vs, rfl, SqL.of (g.s a _ ha), fun p hp => q _ _ _ (g.new hp) ?_⟩
    exact ⟨p, _, rfl, upd_same, (rl_cut hr lo hi).mono (fun b o x => by rw [upd_ne (ne_of_none x (g.gfree hp))]; exact x)⟩
/-! ### isinstance, len, list() -/
def tyD : D → String
  | .non => "NoneType" | .bl _ => "bool" | .int _ => "int" | .str _ => "str" | .tup _ => "tuple" | .lst _ => "list" | .dct => "dict"
theorem tyX_of {H : Hp} (s : Same G H) (h : Rp G d v) : TyX K H v (.type (tyD d)) := by
  cases d with
  | non => cases h; exact .base .non
  | bl b => cases h; exact .base (.bl b)
  | int i => cases h; exact .base (.int i)
  | str y => cases h; exact .base (.str y)
  | tup ds => obtain ⟨a, vs, rfl, ha, hr⟩ := h; exact .base (.tup (s a _ ha))
  | lst ds => obtain ⟨a, vs, rfl, ha, hr⟩ := h; exact .base (.lst (s a _ ha))
  | dct => obtain ⟨a, vs, rfl, ha⟩ := h; exact .base (.dK (s a _ ha))
/-- isinstance of a tree, by the class's name -/
def isT (n : String) (d : D) : Bool := (kitB (tyD d) n).getD false
def knownT : List String := ["int", "bool", "str", "tuple", "list", "dict"]
theorem kit_known {n : String} (hn : n ∈ knownT) (d : D) : kitB (tyD d) n = some (isT n d) := by
  have key : ∀ a ∈ ["NoneType", "bool", "int", "str", "tuple", "list", "dict"], ∀ n ∈ knownT, (kitB a n).isSome = true := by decide +kernel
  have h := key (tyD d) (by cases d <;> simp [tyD]) n hn
  unfold isT
  cases e : kitB (tyD d) n with
  | none => rw [e] at h; cases h
  | some b => rfl
theorem ed_isi {n : String} (h : Ed te σ G d) (hn : n ∈ knownT := by decide) : Ed (tCB (rIsi K) (tCons te (tCons (tC (.ty n)) tNil))) σ G (.bl (isT n d)) := fun H s Q q =>
  h H s _ fun v G1 H1 g1 r1 => ⟨v, .ty n, .type (tyD d), .type n, _, rfl, .ty n, tyX_of g1.s r1, kit_ty (kit_known hn d), q _ G1 H1 g1 rfl⟩
def isInt : D → Bool
  | .int _ => true | .bl _ => true
  | _ => false
def isBool : D → Bool
  | .bl _ => true
  | _ => false
def isStr : D → Bool
  | .str _ => true
  | _ => false
def isTup : D → Bool
  | .tup _ => true
  | _ => false
def isLst : D → Bool
  | .lst _ => true
  | _ => false
def isDict : D → Bool
  | .dct => true
  | _ => false
theorem isT_of (d : D) : isT "int" d = isInt d ∧ isT "bool" d = isBool d ∧ isT "str" d = isStr d ∧ isT "tuple" d = isTup d ∧ isT "list" d = isLst d ∧ isT "dict" d = isDict d := by
  have key : ∀ a ∈ ["NoneType", "bool", "int", "str", "tuple", "list", "dict"], (kitB a "int").getD false = (a == "int" || a == "bool") ∧ (kitB a "bool").getD false = (a == "bool") ∧ (kitB a "str").getD false = (a == "str") ∧ (kitB a "tuple").getD false = (a == "tuple") ∧ (kitB a "list").getD false = (a == "list") ∧ (kitB a "dict").getD false = (a == "dict") := by decide +kernel
  have h := key (tyD d) (by cases d <;> simp [tyD])
  obtain ⟨h1, h2, h3, h4, h5, h6⟩ := h
  unfold isT
  rw [h1, h2, h3, h4, h5, h6]
  cases d <;> simp [tyD, isInt, isBool, isStr, isTup, isLst, isDict]
theorem ed_isInt (h : Ed te σ G d) : Ed (tCB (rIsi K) (tCons te (tCons (tC (.ty "int")) tNil))) σ G (.bl (isInt d)) := (ed_isi h).to (by rw [(isT_of d).1])
theorem ed_isBool (h : Ed te σ G d) : Ed (tCB (rIsi K) (tCons te (tCons (tC (.ty "bool")) tNil))) σ G (.bl (isBool d)) := (ed_isi h).to (by rw [(isT_of d).2.1])
theorem ed_isStr (h : Ed te σ G d) : Ed (tCB (rIsi K) (tCons te (tCons (tC (.ty "str")) tNil))) σ G (.bl (isStr d)) := (ed_isi h).to (by rw [(isT_of d).2.2.1])
theorem ed_isTup (h : Ed te σ G d) : Ed (tCB (rIsi K) (tCons te (tCons (tC (.ty "tuple")) tNil))) σ G (.bl (isTup d)) := (ed_isi h).to (by rw [(isT_of d).2.2.2.1])
theorem ed_isLst (h : Ed te σ G d) : Ed (tCB (rIsi K) (tCons te (tCons (tC (.ty "list")) tNil))) σ G (.bl (isLst d)) := (ed_isi h).to (by rw [(isT_of d).2.2.2.2.1])
theorem ed_isDict (h : Ed te σ G d) : Ed (tCB (rIsi K) (tCons te (tCons (tC (.ty "dict")) tNil))) σ G (.bl (isDict d)) := (ed_isi h).to (by rw [(isT_of d).2.2.2.2.2])
theorem ed_lenT {ds : List D} (h : Ed te σ G (.tup ds)) : Ed (tCB (fun xs H Q => ∃ p ys, xs = [.ref p] ∧ (SqL K H p ys ∨ SqT K H p ys) ∧ Q (.int ys.length) H) (tCons te tNil)) σ G (.int ds.length) := fun H s Q q =>
  h H s _ fun v G1 H1 g1 r1 => by
    obtain ⟨a, vs, rfl, ha, hr⟩ := r1
    exact ⟨a, vs, rfl, .inr (SqT.of (g1.s a _ ha)), q _ G1 H1 g1 (by rw [hr.len]; rfl)⟩
theorem ed_lenL {ds : List D} (h : Ed te σ G (.lst ds)) : Ed (tCB (fun xs H Q => ∃ p ys, xs = [.ref p] ∧ (SqL K H p ys ∨ SqT K H p ys) ∧ Q (.int ys.length) H) (tCons te tNil)) σ G (.int ds.length) := fun H s Q q =>
  h H s _ fun v G1 H1 g1 r1 => by
    obtain ⟨a, vs, rfl, ha, hr⟩ := r1
    exact ⟨a, vs, rfl, .inl (SqL.of (g1.s a _ ha)), q _ G1 H1 g1 (by rw [hr.len]; rfl)⟩
theorem ed_lenS {x : Str} (hx : x.length ≤ 10000000) (h : Ed te σ G (.str x)) : Ed (tCB (fun xs H Q => ∃ x n, xs = [x] ∧ LenV K x H n ∧ Q (.int n) H) (tCons te tNil)) σ G (.int x.length) := fun H s Q q =>
  h H s _ fun v G1 H1 g1 r1 => ⟨v, x.length, rfl, by rw [show v = .str x from r1]; exact ⟨Nat.le_trans hx (by decide), rfl⟩, q _ G1 H1 g1 rfl⟩
/-! ### calls -/
/-- the promise of a def that gives f of its arguments -/
def spFn (pre : List D → Prop) (f : List D → D) : Sp := fun vs H Q _ => ∃ G ds, Same G H ∧ RpL G ds vs ∧ pre ds ∧ ∀ v G' H', Gp G H G' H' → Rp G' (f ds) v → Q v H'
theorem ed_call {pre : List D → Prop} {f : List D → D} {ta : TA} {ds : List D} {E : XK} (h : Eds ta σ G ds) (hp : pre ds) : Ed (tCall (spFn pre f) [] E ta) σ G (f ds) := fun H s Q q =>
  h H s _ fun vs G1 H1 g1 r1 => ⟨G1, ds, g1.s, by rw [List.append_nil]; exact r1, hp, fun v G2 H2 g2 r2 => q v G2 H2 (g1.trans g2) r2⟩
/-! ### statements: g tells the run so far -/
variable {M : List Addr} {G0 H0 H : Hp} {Dn : Ends} {tu tw : TS}
theorem s_ret (h : Ed te σ G d) (g : Gr M G0 H0 G H) (k : ∀ v G' H', Gr M G0 H0 G' H' → Rp G' d v → Dn.rt v H') : tRet te Dn σ H := h H g.s _ fun v G' H' g1 r => k v G' H' (g.call g1) r
theorem s_set {i : Nat} (h : Ed te σ G d) (g : Gr M G0 H0 G H) (k : ∀ v G' H', Gr M G0 H0 G' H' → Same G G' → Rp G' d v → Dn.nx (σ.set i (some v)) H') : tAsg te (gName i) Dn σ H := h H g.s _ fun v G' H' g1 r => k v G' H' (g.call g1) g1.g r
theorem s_if (h : Eb t σ G b) (g : Gr M G0 H0 G H) (h1 : b = true → ∀ H', Gr M G0 H0 G H' → tu Dn σ H') (h2 : b = false → ∀ H', Gr M G0 H0 G H' → tw Dn σ H') : tIfS t tu tw Dn σ H := h H g.s _ fun H1 g1 => by
  cases b with
  | true =>
    show tu Dn σ H1
    exact h1 rfl H1 (g.call g1)
  | false =>
    show tw Dn σ H1
    exact h2 rfl H1 (g.call g1)
theorem s_drop (h : Ed te σ G d) (g : Gr M G0 H0 G H) (k : ∀ G' H', Gr M G0 H0 G' H' → Same G G' → Dn.nx σ H') : tDrop te Dn σ H := h H g.s _ fun v G' H' g1 r => k G' H' (g.call g1) g1.g
theorem s_par {i j : Nat} {ta : TA} (h : Eds ta σ G [d, e]) (g : Gr M G0 H0 G H) (k : ∀ v u G' H', Gr M G0 H0 G' H' → Same G G' → Rp G' d v → Rp G' e u → Dn.nx ((σ.set i (some v)).set j (some u)) H') : tPar i j ta Dn σ H := h H g.s _ fun vs G' H' g1 r => by
  obtain ⟨v, r1, rfl, h1, u, r2, rfl, h2, h3⟩ := r
  cases h3
  exact ⟨v, u, rfl, k v u G' H' (g.call g1) g1.g h1 h2⟩
end
end Kd
namespace Kd
open PySem PySem.Spec PyProof.Rows L2
/-- the promise: on these trees the def gives that tree -/
def spRel (R : List D → D → Prop) : Sp := fun vs H Q _ => ∃ G ds d, Same G H ∧ RpL G ds vs ∧ R ds d ∧ ∀ v G' H', Gp G H G' H' → Rp G' d v → Q v H'
def eqS : D → Str → Bool
  | .str s, z => decide (s = z)
  | _, _ => false
def isDct : D → Bool
  | .dct => true
  | _ => false
section
variable {K : PySem.W.Frag} {σ : L2.St} {G G1 : Hp} {te ta tb tc : TE} {t u : TT} {d e z : D} {b c : Bool} {i j : Int} {v : V} {r r' : R2}
theorem ed_rel {R : List D → D → Prop} {ta : TA} {ds : List D} {E : XK} (h : Eds ta σ G ds) (hr : R ds d) : Ed (tCall (spRel R) [] E ta) σ G d := fun H s Q q =>
  h H s _ fun vs G1 H1 g1 r1 => ⟨G1, ds, d, g1.s, by rw [List.append_nil]; exact r1, hr, fun v G2 H2 g2 r2 => q v G2 H2 (g1.trans g2) r2⟩
end
end Kd
namespace Kd
open PySem PySem.Spec PyProof.Rows L2
section
variable {K : PySem.W.Frag} {σ : L2.St} {G G1 : Hp} {te ta tb tc : TE} {t u : TT} {d e z : D} {b c : Bool} {i j : Int} {v : V} {r r' : R2}
theorem eqS_of {x : V} {w : Str} {H : Hp} (s : Same G H) (h : Rp G d x) (hd : isDct d = false) : (scal x (.str w) = true ∨ ∃ a xs, x = .ref a ∧ (SqL K H a xs ∨ SqT K H a xs)) ∧ decide (x = .str w) = eqS d w := by
  cases d with
  | non => cases h; exact ⟨.inl rfl, rfl⟩
  | bl b => cases h; exact ⟨.inl rfl, rfl⟩
  | int i => cases h; exact ⟨.inl rfl, rfl⟩
  | str y => cases h; exact ⟨.inl rfl, by simp [eqS]⟩
  | tup ds => obtain ⟨a, vs, rfl, ha, hr⟩ := h; exact ⟨.inr ⟨a, vs, rfl, .inr (SqT.of (s a _ ha))⟩, rfl⟩
  | lst ds => obtain ⟨a, vs, rfl, ha, hr⟩ := h; exact ⟨.inr ⟨a, vs, rfl, .inl (SqL.of (s a _ ha))⟩, rfl⟩
  | dct => cases hd
theorem rd_eqS {w : Str} {n : Bool} (hd : isDct d = false) : Rd2 (rEqS K n) G d (.str w) (.bl (xor n (eqS d w))) := fun x y H s r1 r2 Q q => by
  obtain ⟨h1, h2⟩ := eqS_of (K := K) (w := w) s r1 hd
  cases (show y = .str w from r2)
  exact ⟨w, rfl, h1, q _ G H (gr0 s) (by rw [h2]; rfl)⟩
theorem rd_eqNil {ds : List D} {n : Bool} : Rd2 (rEqNil K n) G (.lst ds) (.lst []) (.bl (xor n ds.isEmpty)) := fun x y H s r1 r2 Q q => by
  obtain ⟨a, vs, rfl, ha, hr⟩ := r1
  obtain ⟨a2, vs2, rfl, ha2, hr2⟩ := r2
  cases hr2
  exact ⟨a, a2, vs, rfl, rfl, SqL.of (s a _ ha), SqL.of (s a2 _ ha2), q _ G H (gr0 s) (by rw [isE hr]; rfl)⟩
def isBl : D → Bool → Bool
  | .bl c, b => decide (c = b)
  | _, _ => false
theorem rd_isTF : Rd2 rIsTF G d (.bl b) (.bl (isBl d b)) := fun x y H s r1 r2 Q q => ⟨b, r2, by
  refine ⟨fun n => ?_, q _ G H (gr0 s) ?_⟩
  · cases d with
    | tup ds => obtain ⟨a, vs, rfl, _⟩ := r1; exact fun z => nomatch z
    | lst ds => obtain ⟨a, vs, rfl, _⟩ := r1; exact fun z => nomatch z
    | dct => obtain ⟨a, vs, rfl, _⟩ := r1; exact fun z => nomatch z
    | _ => cases r1; exact fun z => nomatch z
  · cases d with
    | tup ds => obtain ⟨a, vs, rfl, _⟩ := r1; rfl
    | lst ds => obtain ⟨a, vs, rfl, _⟩ := r1; rfl
    | dct => obtain ⟨a, vs, rfl, _⟩ := r1; rfl
    | bl c => cases r1; simp [isBl, Rp]
    | _ => cases r1; rfl⟩
end
end Kd
namespace Kd
open PySem PySem.Spec PyProof.Rows L2
section
variable {K : PySem.W.Frag} {σ : L2.St} {G G1 : Hp} {te ta tb tc : TE} {t u : TT} {d e z : D} {b c : Bool} {i j : Int} {v : V} {r r' : R2}
theorem ed_ifc (h : Eb t σ G b) (h1 : b = true → Ed ta σ G d) (h2 : b = false → Ed tb σ G e) : Ed (tIf t ta tb) σ G (if b = true then d else e) := ed_if h (fun q => by rw [if_pos q]; exact h1 q) fun q => by rw [if_neg (by rw [q]; simp)]; exact h2 q
theorem non_of {x : V} (r : Rp G d x) : decide (x = .non) = isNon d := by
  cases d with
  | tup ds => obtain ⟨a, vs, rfl, _⟩ := r; rfl
  | lst ds => obtain ⟨a, vs, rfl, _⟩ := r; rfl
  | dct => obtain ⟨a, vs, rfl, _⟩ := r; rfl
  | _ => cases r; rfl
theorem rd_notN : Rd2 (fun x y H Q => y = .non ∧ Q (.bl (!decide (x = .non))) H) G d .non (.bl (!isNon d)) := fun x y H s r1 r2 Q q => ⟨r2, q _ G H (gr0 s) (by rw [non_of r1]; rfl)⟩
theorem rd_neg {i : Int} : Rd1 (rU fun i => .int (-i)) G (.int i) (.int (-i)) := fun x H s r Q q => ⟨i, r, q _ G H (gr0 s) rfl⟩
theorem rd_cat {ds es : List D} (h : ds.length + es.length ≤ 10000000) : Rd2 rCat G (.lst ds) (.lst es) (.lst (ds ++ es)) := fun x y H s r1 r2 Q q => by
  obtain ⟨a, vs, rfl, ha, hr⟩ := r1
  obtain ⟨b, ws, rfl, hb, hr'⟩ := r2
  refine ⟨a, b, vs, ws, rfl, rfl, s a _ ha, s b _ hb, by rw [hr.len, hr'.len]; exact Nat.le_trans h (by decide), fun p hp => q _ _ _ ((gr0 s).new hp) ⟨p, _, rfl, upd_same, (hr.app hr').mono fun c o x => ?_⟩⟩
  rw [upd_ne (ne_of_none x (s.free hp))]
  exact x
theorem rd_catA {ds es : List D} (h : ds.length + es.length ≤ 10000000) : Rd2 (rCatA K) G (.tup ds) (.tup es) (.tup (ds ++ es)) := fun x y H s r1 r2 Q q => by
  obtain ⟨a, vs, rfl, ha, hr⟩ := r1
  obtain ⟨b, ws, rfl, hb, hr'⟩ := r2
  refine ⟨a, b, vs, ws, rfl, rfl, SqT.of (s a _ ha), SqT.of (s b _ hb), by rw [hr.len, hr'.len]; exact Nat.le_trans h (by decide), fun z => ?_, fun z1 z2 => ?_, fun _ _ p hp => q _ _ _ ((gr0 s).new hp) ⟨p, _, rfl, upd_same, (hr.app hr').mono fun c o x => ?_⟩⟩
  · subst z
    have e : ds = [] := by
      have := hr.len
      cases ds with
      | nil => rfl
      | cons _ _ => simp at this
    subst e
    exact q _ G H (gr0 s) ⟨b, ws, rfl, hb, hr'⟩
  · subst z2
    have e : es = [] := by
      have := hr'.len
      cases es with
      | nil => rfl
      | cons _ _ => simp at this
    subst e
    exact q _ G H (gr0 s) ⟨a, vs, rfl, ha, by rw [List.append_nil]; exact hr⟩
  · rw [upd_ne (ne_of_none x (s.free hp))]
    exact x
theorem ed_int1 (h : Ed te σ G (.int i)) : Ed (tCB (fun xs H Q => (∃ i, xs = [.int i] ∧ Q (.int i) H) ∨ ∃ k, xs = [.bl k] ∧ Q (.int (if k then 1 else 0)) H) (tCons te tNil)) σ G (.int i) := fun H s Q q =>
  h H s _ fun v G1 H1 g1 r1 => .inl ⟨i, by rw [show v = .int i from r1], q _ G1 H1 g1 rfl⟩
theorem ed_listL {ds : List D} (h : Ed te σ G (.lst ds)) : Ed (tCB (fun xs H Q => ∃ p ys, xs = [.ref p] ∧ (SqL K H p ys ∨ SqT K H p ys) ∧ ∀ l, H l = none → Q (.ref l) (upd H l (.lst ys))) (tCons te tNil)) σ G (.lst ds) := fun H s Q q =>
  h H s _ fun v G1 H1 g1 r1 => by
    obtain ⟨a, vs, rfl, ha, hr⟩ := r1
    refine ⟨a, vs, rfl, .inl (SqL.of (g1.s a _ ha)), fun l hl => q _ _ _ (g1.new hl) ⟨l, vs, rfl, upd_same, hr.mono fun c o x => ?_⟩⟩
    rw [upd_ne (ne_of_none x (g1.gfree hl))]
    exact x
theorem ed_listT {ds : List D} (h : Ed te σ G (.tup ds)) : Ed (tCB (fun xs H Q => ∃ p ys, xs = [.ref p] ∧ (SqL K H p ys ∨ SqT K H p ys) ∧ ∀ l, H l = none → Q (.ref l) (upd H l (.lst ys))) (tCons te tNil)) σ G (.lst ds) := fun H s Q q =>
  h H s _ fun v G1 H1 g1 r1 => by
    obtain ⟨a, vs, rfl, ha, hr⟩ := r1
    refine ⟨a, vs, rfl, .inr (SqT.of (g1.s a _ ha)), fun l hl => q _ _ _ (g1.new hl) ⟨l, vs, rfl, upd_same, hr.mono fun c o x => ?_⟩⟩
    rw [upd_ne (ne_of_none x (g1.gfree hl))]
    exact x
end
end Kd
namespace Kd
open PySem PySem.Spec PyProof.Rows L2
section
variable {K : PySem.W.Frag} {σ : L2.St} {G G1 : Hp} {te ta tb tc : TE} {t u : TT} {d e z : D} {b c : Bool} {i j : Int} {v : V} {r r' : R2}
theorem eb_orT (h : Eb t σ G true) : Eb (tOr t u) σ G true := (eb_or (c := false) h fun z => nomatch z).to rfl
theorem eb_orF (h : Eb t σ G false) (h2 : Eb u σ G c) : Eb (tOr t u) σ G c := (eb_or h fun _ => h2).to rfl
theorem eb_andF (h : Eb t σ G false) : Eb (tAnd t u) σ G false := (eb_and (c := false) h fun z => nomatch z).to rfl
theorem eb_andT (h : Eb t σ G true) (h2 : Eb u σ G c) : Eb (tAnd t u) σ G c := (eb_and h fun _ => h2).to rfl
theorem ed_andF (h : Ed ta σ G (.bl false)) : Ed (tAndV ta tb) σ G (.bl false) := (ed_andV (c := false) h fun z => nomatch z).to rfl
theorem ed_andT (h : Ed ta σ G (.bl true)) (h2 : Ed tb σ G (.bl c)) : Ed (tAndV ta tb) σ G (.bl c) := (ed_andV h fun _ => h2).to rfl
theorem ed_orT (h : Ed ta σ G (.bl true)) : Ed (tOrV ta tb) σ G (.bl true) := (ed_orV (c := false) h fun z => nomatch z).to rfl
theorem ed_orF (h : Ed ta σ G (.bl false)) (h2 : Ed tb σ G (.bl c)) : Ed (tOrV ta tb) σ G (.bl c) := (ed_orV h fun _ => h2).to rfl
theorem ed_ifT (h : Eb t σ G true) (h1 : Ed ta σ G d) : Ed (tIf t ta tb) σ G d := ed_if h (fun _ => h1) fun z => nomatch z
theorem ed_ifF (h : Eb t σ G false) (h1 : Ed tb σ G d) : Ed (tIf t ta tb) σ G d := ed_if h (fun z => nomatch z) fun _ => h1
variable {M : List Addr} {G0 H0 H : Hp} {Dn : Ends} {tu tw : TS}
theorem s_ifT (h : Eb t σ G true) (g : Gr M G0 H0 G H) (h1 : ∀ H', Gr M G0 H0 G H' → tu Dn σ H') : tIfS t tu tw Dn σ H := s_if h g (fun _ => h1) fun z => nomatch z
theorem s_ifF (h : Eb t σ G false) (g : Gr M G0 H0 G H) (h1 : ∀ H', Gr M G0 H0 G H' → tw Dn σ H') : tIfS t tu tw Dn σ H := s_if h g (fun z => nomatch z) fun _ => h1
end
end Kd
namespace Kd
open PySem PySem.Spec PyProof.Rows L2
section
variable {K : PySem.W.Frag} {σ : L2.St} {G G1 : Hp} {te ta tb tc : TE} {t u : TT} {d e z : D} {b c : Bool} {i j : Int} {v : V} {r r' : R2}
/-- in, not in a tuple of texts of the written part -/
theorem ed_inK {x : Str} {zs : List Str} {a : Addr} (h : Ed te σ G (.str x)) (hq : ∀ H, SqT K H a (zs.map V.str)) : Ed (tOp (rIn K false) te (tC (.ref a))) σ G (.bl (zs.any fun z => z == x)) := fun H s Q q =>
  h H s _ fun v G1 H1 g1 r1 => by
    cases (show v = .str x from r1)
    refine ⟨a, _, rfl, .inr (hq H1), rfl, flat_strs, ?_⟩
    show Q (.bl (inV (.str x) (zs.map V.str))) H1
    rw [inV_strs]
    exact q _ G1 H1 g1 rfl
theorem ed_notInK {x : Str} {zs : List Str} {a : Addr} (h : Ed te σ G (.str x)) (hq : ∀ H, SqT K H a (zs.map V.str)) : Ed (tOp (rIn K true) te (tC (.ref a))) σ G (.bl (!zs.any fun z => z == x)) := fun H s Q q =>
  h H s _ fun v G1 H1 g1 r1 => by
    cases (show v = .str x from r1)
    refine ⟨a, _, rfl, .inr (hq H1), rfl, flat_strs, ?_⟩
    show Q (.bl (!inV (.str x) (zs.map V.str))) H1
    rw [inV_strs]
    exact q _ G1 H1 g1 rfl
theorem at0 {α : Type} {x : α} {l : List α} : atI (x :: l) 0 = some x := atI_nat (j := 0) rfl
theorem at1 {α : Type} {x y : α} {l : List α} : atI (x :: y :: l) 1 = some y := atI_nat (j := 1) rfl
theorem at2 {α : Type} {x y z : α} {l : List α} : atI (x :: y :: z :: l) 2 = some z := atI_nat (j := 2) rfl
theorem at3 {α : Type} {x y z w : α} {l : List α} : atI (x :: y :: z :: w :: l) 3 = some w := atI_nat (j := 3) rfl
theorem cut1 {ds : List D} : cutD ds (some 1) none = ds.drop 1 := by
  unfold cutD
  show ((ds.drop (HT.sIx ds.length 0 (some ((1 : Nat) : Int)))).take (HT.sIx ds.length ds.length none - HT.sIx ds.length 0 (some ((1 : Nat) : Int)))) = ds.drop 1
  rw [HT.sIx_nat, HT.sIx_none]
  cases ds with
  | nil => simp
  | cons d r => simp
end
end Kd
namespace Kd
open PySem PySem.Spec PyProof.Rows L2
theorem s_next {Dn : Ends} {σ : L2.St} {H : Hp} (q : Dn.nx σ H) : tNext Dn σ H := q
end Kd
namespace Kd
open PySem PySem.Spec PyProof.Rows L2
section
variable {K : PySem.W.Frag} {σ : L2.St} {G G1 : Hp} {te ta tb tc : TE} {t u : TT} {d e z : D} {b c : Bool} {v : V}
variable {M : List Addr} {G0 H0 H : Hp} {Dn : Ends} {tu tw : TS}
/-! the same, the step told (where a thing of one's own stands that may be changed) -/
/-- a thing that is tracked and not frozen stays so -/
def Kp (G H G' H' : Hp) : Prop := ∀ l o, H l = some o → H' l = some o ∧ (G l = none → G' l = none)
theorem Gr.kp {G H G' H' : Hp} (g : Gp G H G' H') : Kp G H G' H' := fun l o h => ⟨g.e l o h, fun n => g.n l n (some_ne h)⟩
theorem s_ret' (h : Ed te σ G d) (g : Gr M G0 H0 G H) (k : ∀ v G' H', Gr M G0 H0 G' H' → Same G G' → Kp G H G' H' → Rp G' d v → Dn.rt v H') : tRet te Dn σ H := h H g.s _ fun v G' H' g1 r => k v G' H' (g.call g1) g1.g g1.kp r
theorem s_set' {i : Nat} (h : Ed te σ G d) (g : Gr M G0 H0 G H) (k : ∀ v G' H', Gr M G0 H0 G' H' → Same G G' → Kp G H G' H' → Rp G' d v → Dn.nx (σ.set i (some v)) H') : tAsg te (gName i) Dn σ H := h H g.s _ fun v G' H' g1 r => k v G' H' (g.call g1) g1.g g1.kp r
theorem s_if' (h : Eb t σ G b) (g : Gr M G0 H0 G H) (h1 : b = true → ∀ H', Gr M G0 H0 G H' → Kp G H G H' → tu Dn σ H') (h2 : b = false → ∀ H', Gr M G0 H0 G H' → Kp G H G H' → tw Dn σ H') : tIfS t tu tw Dn σ H := h H g.s _ fun H1 g1 => by
  cases b with
  | true =>
    show tu Dn σ H1
    exact h1 rfl H1 (g.call g1) g1.kp
  | false =>
    show tw Dn σ H1
    exact h2 rfl H1 (g.call g1) g1.kp
theorem s_par' {i j : Nat} {ta : TA} (h : Eds ta σ G [d, e]) (g : Gr M G0 H0 G H) (k : ∀ v u G' H', Gr M G0 H0 G' H' → Same G G' → Kp G H G' H' → Rp G' d v → Rp G' e u → Dn.nx ((σ.set i (some v)).set j (some u)) H') : tPar i j ta Dn σ H := h H g.s _ fun vs G' H' g1 r => by
  obtain ⟨v, r1, rfl, h1, u, r2, rfl, h2, h3⟩ := r
  cases h3
  exact ⟨v, u, rfl, k v u G' H' (g.call g1) g1.g g1.kp h1 h2⟩
theorem Kp.trans {G H G1 H1 G2 H2 : Hp} (a : Kp G H G1 H1) (b : Kp G1 H1 G2 H2) : Kp G H G2 H2 := fun l o h => ⟨(b l o (a l o h).1).1, fun n => (b l o (a l o h).1).2 ((a l o h).2 n)⟩
/-- another thing is changed -/
theorem Kp.upd {G H G1 H1 : Hp} {l : Addr} {o : HO} (hl : H l = none) (a : Kp G H G1 H1) : Kp G H G1 (upd H1 l o) := fun m u h => ⟨by rw [upd_ne (ne_of_none h hl)]; exact (a m u h).1, (a m u h).2⟩
end
theorem nil_or_snoc {α : Type} (l : List α) : l = [] ∨ ∃ l' x, l = l' ++ [x] := by
  rcases List.eq_nil_or_concat l with h | ⟨l', x, h⟩
  · exact .inl h
  · exact .inr ⟨l', x, by rw [h, List.concat_eq_append]⟩
end Kd
set_option maxHeartbeats 4000000
/-! What is walked, told by trees; list comprehensions. -/
namespace Kd
open PySem PySem.Spec PyProof.Rows L2
/-- J walks these trees, as long as G stands -/
def WalkD (J : It) (G : Hp) (items : List D) : Prop := Walk J items.length (fun H => Same G H) (fun i H x H' => ∃ d, items[i]? = some d ∧ ∀ Gi, Same G Gi → Same Gi H → ∃ Gj, Gp Gi H Gj H' ∧ Rp Gj d x)
def Es (wi : TI) (σ : L2.St) (G : Hp) (items : List D) : Prop := ∀ H, Same G H → ∀ R : It → Hp → Prop, (∀ J G' H', Gp G H G' H' → WalkD J G' items → R J H') → wi σ H R
section
variable {K : PySem.W.Frag} {σ : L2.St} {G G1 : Hp} {te ta tb : TE} {t u : TT} {d e z : D} {b c : Bool} {i j : Int} {v : V} {wi : TI} {g : TG} {tt : TT}
theorem walkD_list {a : Addr} {vs : List V} {ds : List D} (h : G a = some (.lst vs)) (r : RpL G ds vs) : WalkD (Itl K a) G ds := by
  have w : Walk (Itl K a) vs.length (fun H => SqL K H a vs) (YAt vs) := walk_list
  unfold WalkD
  rw [← r.len]
  refine w.mono (fun H s => SqL.of (s a _ h)) fun i H x H' hi s y => ?_
  obtain ⟨e, y⟩ := y
  subst e
  obtain ⟨d, h1, h2⟩ := r.back y
  exact ⟨d, h1, fun Gi s1 s2 => ⟨Gi, gr0 s2, h2.mono s1⟩⟩
theorem walkD_tup {a : Addr} {vs : List V} {ds : List D} (h : G a = some (.tup vs)) (r : RpL G ds vs) : WalkD (Itt K a) G ds := by
  have w : Walk (Itt K a) vs.length (fun H => SqT K H a vs) (YAt vs) := walk_tup
  unfold WalkD
  rw [← r.len]
  refine w.mono (fun H s => SqT.of (s a _ h)) fun i H x H' hi s y => ?_
  obtain ⟨e, y⟩ := y
  subst e
  obtain ⟨d, h1, h2⟩ := r.back y
  exact ⟨d, h1, fun Gi s1 s2 => ⟨Gi, gr0 s2, h2.mono s1⟩⟩
theorem walkD_str {x : Str} : WalkD (Its x) G (x.cps.toList.map fun c => .str ⟨#[c]⟩) := by
  have w := walk_str (z := x)
  unfold WalkD
  rw [List.length_map, Array.length_toList]
  refine w.mono (fun H s => trivial) fun i H y H' hi s q => ?_
  obtain ⟨e, c, h1, h2⟩ := q
  subst e
  refine ⟨.str ⟨#[c]⟩, ?_, fun Gi s1 s2 => ⟨Gi, gr0 s2, h2⟩⟩
  rw [List.getElem?_map, Array.getElem?_toList, h1]
  rfl
theorem walkD_range {lo : Int} {n : Nat} : WalkD (Itr lo n) G ((List.range n).map fun i => .int (lo + (i : Nat))) := by
  have w := walk_range (lo := lo) (n := n)
  unfold WalkD
  rw [List.length_map, List.length_range]
  refine w.mono (fun H s => trivial) fun i H y H' hi s q => ?_
  obtain ⟨e, h1⟩ := q
  subst e
  refine ⟨.int (lo + i), ?_, fun Gi s1 s2 => ⟨Gi, gr0 s2, h1⟩⟩
  rw [List.getElem?_map, List.getElem?_range hi]
  rfl
theorem walkD_zip {a b : Addr} {vs ws : List V} {ds es : List D} (h : G a = some (.lst vs)) (r : RpL G ds vs) (h' : G b = some (.lst ws)) (r' : RpL G es ws) : WalkD (Itz K a b) G (List.zipWith (fun x y => D.tup [x, y]) ds es) := by
  have w := walk_zip (K := K) (a := a) (b := b) (xs := vs) (ys := ws) rfl
  unfold WalkD
  rw [List.length_zipWith, ← r.len, ← r'.len]
  refine w.mono (fun H s => ⟨SqL.of (s a _ h), SqL.of (s b _ h')⟩) fun i H y H' hi s q => ?_
  obtain ⟨T, x1, y1, rfl, hT, rfl, h1, h2⟩ := q
  obtain ⟨d1, k1, k2⟩ := r.back h1
  obtain ⟨e1, l1, l2⟩ := r'.back h2
  refine ⟨.tup [d1, e1], ?_, fun Gi s1 s2 => ⟨_, (gr0 s2).new hT, ?_⟩⟩
  · rw [List.getElem?_zipWith, k1, l1]
  · have m : Same Gi (upd Gi T (.tup [x1, y1])) := fun a o x => by rw [upd_ne (ne_of_none x (s2.free hT))]; exact x
    exact ⟨T, _, rfl, upd_same, _, _, rfl, (k2.mono s1).mono m, _, _, rfl, (l2.mono s1).mono m, rfl⟩
theorem es_list {ds : List D} (h : Ed te σ G (.lst ds)) : Es (iList K te) σ G ds := fun H s R q => h H s _ fun v G1 H1 g1 r1 => by
  obtain ⟨a, vs, rfl, ha, hr⟩ := r1
  exact ⟨a, rfl, ⟨vs, SqL.of (g1.s a _ ha)⟩, q _ G1 H1 g1 (walkD_list ha hr)⟩
theorem es_tup {ds : List D} (h : Ed te σ G (.tup ds)) : Es (iTup K te) σ G ds := fun H s R q => h H s _ fun v G1 H1 g1 r1 => by
  obtain ⟨a, vs, rfl, ha, hr⟩ := r1
  exact ⟨a, rfl, ⟨vs, SqT.of (g1.s a _ ha)⟩, q _ G1 H1 g1 (walkD_tup ha hr)⟩
theorem es_str {x : Str} (h : Ed te σ G (.str x)) : Es (iStr te) σ G (x.cps.toList.map fun c => .str ⟨#[c]⟩) := fun H s R q => h H s _ fun v G1 H1 g1 r1 => ⟨x, r1, q _ G1 H1 g1 walkD_str⟩
theorem es_range1 {n : Int} (h : Ed te σ G (.int n)) (h0 : 0 ≤ n) (h1 : n < 2 ^ 62) : Es (iRng1 (tCons te tNil)) σ G ((List.range n.toNat).map fun i => .int ((0 : Int) + (i : Nat))) := fun H s R q => h H s _ fun v G1 H1 g1 r1 =>
  ⟨n, by rw [show v = .int n from r1], by omega, h1, q _ G1 H1 g1 walkD_range⟩
theorem es_zip {ds es : List D} (h : Ed ta σ G (.lst ds)) (h' : Ed tb σ G (.lst es)) : Es (iZip K (tCons ta (tCons tb tNil))) σ G (List.zipWith (fun x y => D.tup [x, y]) ds es) := fun H s R q =>
  (eds_cons h (eds_cons h' eds_nil)) H s _ fun vs G1 H1 g1 r1 => by
    obtain ⟨x, r2, rfl, k1, y, r3, rfl, k2, k3⟩ := r1
    cases k3
    obtain ⟨a, vs, rfl, ha, hr⟩ := k1
    obtain ⟨b, ws, rfl, hb, hr'⟩ := k2
    exact ⟨a, b, vs, ws, rfl, SqL.of (g1.s a _ ha), SqL.of (g1.s b _ hb), q _ G1 H1 g1 (walkD_zip ha hr hb hr')⟩

/-- how a target takes an item: what is then known of the slots -/
def Tk (g : TG) (σ0 : L2.St) (G : Hp) (d : D) (P : L2.St → Hp → Prop) : Prop := ∀ v H, Same G H → Rp G d v → ∀ Q : L2.St → Hp → Prop, (∀ σ2, P σ2 G → Q σ2 H) → g v σ0 H Q

theorem take_snoc {α : Type} {l : List α} {i : Nat} {x : α} (h : l[i]? = some x) : l.take (i + 1) = l.take i ++ [x] := by
  rw [List.take_add_one, h]
  rfl
/-- [f x for x in items if p x] -/
theorem ed_lc {items : List D} {vs : List Nat} (f : D → D) (p : D → Bool) (hs : Es wi σ G items) (hl : items.length ≤ 10000000)
    (ht : ∀ d, d ∈ items → ∀ G', Same G G' → Tk g (wipe σ vs) G' d fun σ2 G2 => wipe σ2 vs = wipe σ vs ∧ Eb tt σ2 G2 (p d) ∧ (p d = true → Ed te σ2 G2 (f d))) :
    Ed (tLc wi g tt te vs) σ G (.lst ((items.filter p).map f)) := fun H s Q q => hs H s _ fun J G1 H1 g1 W D hD => by
  refine lc_it W (fun j Hj => ∃ (Gj : Hp) (acc : List V), Gp G H Gj Hj ∧ Same G1 Gj ∧ Gj D = none ∧ Hj D = some (.lst acc) ∧ acc.length ≤ j ∧ RpL Gj (((items.take j).filter p).map f) acc) ?_ ?_ ?_ ?_
  · exact ⟨G1, [], g1.tmp hD, Same.refl _, g1.gfree hD, upd_same, Nat.le_refl _, rfl⟩
  · rintro j Hj _ ⟨Gj, acc, gj, sj, _⟩
    exact sj.trans gj.s
  · rintro j x Hj Hj' hj ⟨Gj, acc, gj, sj, hgD, hHD, hal, hr⟩ ⟨d, hd, y⟩
    obtain ⟨Gk, gk, rk⟩ := y Gj sj gj.s
    have hkD : Gk D = none := gk.n D hgD (some_ne hHD)
    have hkH : Hj' D = some (.lst acc) := gk.e D _ hHD
    have gjk := gj.trans gk
    refine ht d (List.mem_of_getElem? hd) Gk (gjk.g) x Hj' gk.s rk _ fun σ2 h2 => ?_
    obtain ⟨hw, hb, he⟩ := h2
    refine ⟨hw, hb Hj' gk.s _ fun H3 g3 => ?_⟩
    have h3D : H3 D = some (.lst acc) := g3.e D _ hkH
    cases hp : p d with
    | false =>
      rw [if_neg (by simp)]
      refine ⟨Gk, acc, gjk.trans g3, sj.trans gk.g, hkD, h3D, Nat.le_succ_of_le hal, ?_⟩
      rw [take_snoc hd, List.filter_append, List.map_append, List.filter_cons, hp]
      simpa using hr.mono gk.g
    | true =>
      rw [if_pos rfl]
      refine he hp H3 g3.s _ fun w G4 H4 g4 r4 => ?_
      have h4D : H4 D = some (.lst acc) := g4.e D _ h3D
      have n4D : G4 D = none := g4.n D hkD (some_ne h3D)
      have gall := (gjk.trans g3).trans g4
      have h0 : H D = none := g1.free hD
      refine ⟨acc, h4D, Nat.lt_of_le_of_lt hal (Nat.lt_of_lt_of_le hj (Nat.le_trans hl (by decide))), G4, acc ++ [w], gall.mut n4D h0, (sj.trans gk.g).trans g4.g, n4D, upd_same, by simp; exact hal, ?_⟩
      rw [take_snoc hd, List.filter_append, List.map_append, List.filter_cons, hp]
      have := (hr.mono (gk.g.trans g4.g)).snoc r4
      simpa using this
  · rintro Hj ⟨Gj, acc, gj, sj, hgD, hHD, hal, hr⟩
    rw [List.take_length] at hr
    have h0 : H D = none := g1.free hD
    refine q (.ref D) _ _ (gj.frz hHD hgD h0) ⟨D, acc, rfl, upd_same, hr.mono fun a o x => ?_⟩
    rw [upd_ne (ne_of_none x hgD)]
    exact x
theorem ed_lcAll {items : List D} {vs : List Nat} (f : D → D) (hs : Es wi σ G items) (hl : items.length ≤ 10000000)
    (ht : ∀ d, d ∈ items → ∀ G', Same G G' → Tk g (wipe σ vs) G' d fun σ2 G2 => wipe σ2 vs = wipe σ vs ∧ Ed te σ2 G2 (f d)) :
    Ed (tLc wi g tYes te vs) σ G (.lst (items.map f)) := by
  have h := ed_lc (tt := tYes) (te := te) f (fun _ => true) hs hl (g := g) (vs := vs) fun d hd G' s v H' s' r Q q => ht d hd G' s v H' s' r Q fun σ2 h2 => q σ2 ⟨h2.1, fun H s Q q => q H (gr0 s), fun _ => h2.2⟩
  have e : items.filter (fun _ => true) = items := List.filter_eq_self.mpr fun _ _ => rfl
  rw [e] at h
  exact h
/-- a plain name takes it -/
theorem tk_name {i : Nat} {P : L2.St → Hp → Prop} {σ0 : L2.St} (h : ∀ v, Rp G d v → P (σ0.set i (some v)) G) : Tk (gName i) σ0 G d P := fun v H s r Q q => q _ (h v r)
/-- a row of names takes a tuple -/
def TkL (t : TGs) (σ0 : L2.St) (G : Hp) (ds : List D) (P : L2.St → Hp → Prop) : Prop := ∀ vs H, Same G H → RpL G ds vs → ∀ Q : L2.St → Hp → Prop, (∀ σ2, P σ2 G → Q σ2 H) → t vs σ0 H Q
theorem tkl_nil {P : L2.St → Hp → Prop} {σ0 : L2.St} (h : P σ0 G) : TkL gNil σ0 G [] P := fun vs H s r Q q => ⟨r, q _ h⟩
theorem tkl_cons {t : TGs} {i : Nat} {P : L2.St → Hp → Prop} {σ0 : L2.St} {ds : List D} (h : ∀ v, Rp G d v → TkL t (σ0.set i (some v)) G ds P) : TkL (gCons (gName i) t) σ0 G (d :: ds) P := fun vs H s r Q q => by
  obtain ⟨v, r2, rfl, h1, h2⟩ := r
  exact ⟨v, r2, rfl, h v h1 r2 H s h2 Q q⟩
theorem tk_tup {t : TGs} {n : Nat} {P : L2.St → Hp → Prop} {σ0 : L2.St} {ds : List D} (hn : ds.length = n) (h : TkL t σ0 G ds P) : Tk (gTup K n t) σ0 G (.tup ds) P := fun v H s r Q q => by
  obtain ⟨a, vs, rfl, ha, hr⟩ := r
  exact ⟨a, vs, rfl, SqT.of (s a _ ha), by rw [hr.len, hn], h vs H s hr Q q⟩
/-- all(..) of a list of truth values -/
theorem all_bl : ∀ {ds : List D} {bs : List Bool} {vs : List V}, ds = bs.map D.bl → RpL G ds vs → vs = bs.map V.bl
  | _, [], _, rfl, h => by cases h; rfl
  | _, b :: bs, _, rfl, ⟨v, r, hv, h1, h2⟩ => by subst hv; rw [show v = .bl b from h1, all_bl rfl h2]; rfl
theorem ed_all {bs : List Bool} (h : Ed te σ G (.lst (bs.map D.bl))) : Ed (tCB (rAll K) (tCons te tNil)) σ G (.bl (bs.all id)) := fun H s Q q => h H s _ fun v G1 H1 g1 r1 => by
  obtain ⟨a, vs, rfl, ha, hr⟩ := r1
  have e := all_bl rfl hr
  subst e
  exact ⟨a, bs, rfl, SqL.of (g1.s a _ ha), q _ G1 H1 g1 rfl⟩
end
end Kd
set_option maxHeartbeats 4000000
/-! Sets of texts that are made, grown and sorted; a set comprehension with two clauses. -/
namespace Kd
open PySem PySem.Spec PyProof.Rows L2 PySem.Froz
/-- the set at a holds the texts l -/
def SetS (P : Program) (w : World) (h : Heap) (a : Addr) (l : List Str) : Prop := ∃ D : SD, h.get? a = some (sObj "set" D) ∧ TxOk P w D l ∧ Ris D.2.2.place.toList ∧ (w.params.followText "set-order" = true ∨ D.2.2.led = true)
def insS (k : Str) (l : List Str) : List Str := if k ∈ l then l else k :: l
theorem mem_insS {k j : Str} {l : List Str} : j ∈ insS k l ↔ j = k ∨ j ∈ l := by
  unfold insS
  by_cases h : k ∈ l
  · rw [if_pos h]
    exact ⟨.inr, fun q => q.elim (fun e => e ▸ h) id⟩
  · rw [if_neg h]
    exact List.mem_cons
theorem nodup_insS {k : Str} {l : List Str} (h : l.Nodup) : (insS k l).Nodup := by
  unfold insS
  by_cases q : k ∈ l
  · rwa [if_pos q]
  · rw [if_neg q]
    exact List.nodup_cons.mpr ⟨q, h⟩
def SetSO (P : Program) (w : World) (a : Addr) (l : List Str) : HO := .ext fun h => SetS P w h a l
section
variable {P : Program} {w : World} {A : Around} {E : Value → Shared → Prop} {s : Shared} {a : Addr} {l : List Str}
theorem setSO_ok {H : Hp} {h : Heap} (R : SetS P w h a l) : ObjOk P w H h a (SetSO P w a l) := by
  obtain ⟨D, ho, r⟩ := id R
  refine ⟨R, ⟨_, ho⟩, fun h1 h2 p k => ?_⟩
  obtain ⟨D', ho', r'⟩ := (p : SetS P w h1 a l)
  exact ⟨D', k _ ho', r'⟩
theorem fresh_setS (h : Heap) : SetS P w (h.push { cls := .type "set", dict := none, data := .set #[] 0 (.fresh 0 0 (!w.params.followText "set-order")) }) h.objs.size [] := by
  refine ⟨(#[], 0, .fresh 0 0 (!w.params.followText "set-order")), Heap.get?_push_size _ rfl, TxOk.nil rfl, List.Pairwise.nil, ?_⟩
  cases q : w.params.followText "set-order" with
  | true => exact .inl rfl
  | false => exact .inr rfl
theorem grown_rise {hs : Int} {v : Value} {D : SD} (r : Ris D.2.2.place.toList) : Ris (addTx hs v D).2.2.place.toList ∧ (addTx hs v D).2.2.led = D.2.2.led := by
  obtain ⟨es, ep, t⟩ := D
  have h1 := layNew_ris t es hs v r
  have h2 := layNew_led t es hs v
  unfold addTx tailTx
  dsimp only at h1 h2 ⊢
  generalize layNew t es hs v = Z at h1 h2 ⊢
  obtain ⟨es1, t1, wd, gv⟩ := Z
  dsimp only at h1 h2 ⊢
  have h3 : Ris (if t1.plain = true then { t1 with plain := false } else t1).place.toList ∧ (if t1.plain = true then { t1 with plain := false } else t1).led = t.led := by
    split
    · exact ⟨h1, h2⟩
    · exact ⟨h1, h2⟩
  generalize (if t1.plain = true then { t1 with plain := false } else t1) = t2 at h3 ⊢
  split
  · exact ⟨relayAll_ris t2 es1 _, (relayAll_led t2 es1 _).trans h3.2⟩
  · exact h3
theorem addHashed_setS {k : Str} {u : Tok} {Q : Bool → Shared → Prop} (R : SetS P w s.heap a l) (room : l.length + 1 < scanBound)
    (hQ : ∀ b h', Heap.SameBut a s.heap h' → SetS P w h' a (insS k l) → Q b { s with heap := h' }) : wpAny (model P w) A (setAddHashed a (.str k u) (hashStr w k)) Q E s := by
  obtain ⟨D, ho, F, r, hl⟩ := R
  by_cases hk : k ∈ l
  · obtain ⟨es, ep, t⟩ := D
    have hd : (sObj "set" (es, ep, t)).data = .set es ep t := rfl
    have hel : ElemsOf (strKind P w) es.toList := F.el
    have hsz : es.size = l.length := F.sz
    have hkey : (strKind P w).is k (.str k u) = true := is_str k u
    unfold setAddHashed setAddHashedIn
    refine wpAny_holding (wpAny_bind (wpAny_setState_of ho hd F.fit ?_))
    dsimp only
    rw [byScan_of rfl (by omega) hel]
    simp only [↓reduceIte]
    unfold setAddByScan
    refine wpAny_bind (wpAny_bind (wpAny_rule (wpAny_bind (wpAny_setScan_of (knd := strKind P w) (k := k) hkey ho hd F.fit hel ?_))))
    cases q : List.findIdx? (fun e => (strKind P w).is k e.2) es.toList with
    | none =>
      obtain ⟨e, he, z⟩ := (F.mem k).mp hk
      have c := List.findIdx?_eq_none_iff.mp q e he
      rw [z] at c
      cases c
    | some j =>
      dsimp only
      refine wpAny_pure (wpAny_pure ?_)
      refine hQ _ s.heap (Heap.SameBut.refl a s.heap) ?_
      unfold insS
      rw [if_pos hk]
      exact ⟨_, ho, F, r, hl⟩
  · refine add_x ho F hk room ?_
    refine hQ true _ (Heap.SameBut.update s.heap a _) ?_
    unfold insS
    rw [if_neg hk]
    have g := grown_rise (hs := hashStr w k) (v := .str k u) r
    refine ⟨_, get_upd _ ho rfl, add_ok u F, g.1, ?_⟩
    rw [g.2]
    exact hl
theorem add_setS {k : Str} {u : Tok} {Q : Value → Shared → Prop} (R : SetS P w s.heap a l) (room : l.length + 1 < scanBound)
    (hQ : ∀ h', Heap.SameBut a s.heap h' → SetS P w h' a (insS k l) → Q .none { s with heap := h', toks := s.toks + 1 }) : wpAny (model P w) A (call (.builtin "set.add") [.ref a, .str k u]) Q E s := by
  obtain ⟨D, ho, _⟩ := id R
  refine wpAny_call_entry F.slot_set_add (⟨_, ho, rfl⟩ : s.TypeIs (.ref a) "set") F.entry_set_add ?_ (F.args_set_add_2 _ _)
  unfold Builtin.«set.add» Builtin.Frozenset.oneOther
  simp only [List.isEmpty_nil, bind_assoc]
  unfold Builtin.Frozenset.addrOf setAdd
  refine wpAny_bind (wpAny_pure ?_)
  (try dsimp only); refine wpAny_bind (wpAny_pure ?_)
  (try dsimp only); refine wpAny_bind (wpAny_holding (wpAny_bind ((strKind P w).pyHash (is_str k u) ?_)))
  refine addHashed_setS (s := { s with toks := s.toks + 1 }) R room fun b h' sb r => ?_
  show wpAny _ _ (ret Value.none) _ _ _
  exact wpAny_pure ⟨_, rfl, hQ h' sb r⟩
/-- the texts of the members -/
theorem strs_sub {es : List (Int × Value)} {out : List Value} (g : ElemsOf (strKind P w) es) (p : out.Perm (es.map (·.2))) : StrsAre out (out.map strOf) := by
  refine strsAre_map out fun v hv => ?_
  obtain ⟨e, he, q⟩ := List.mem_map.mp (p.mem_iff.mp hv)
  obtain ⟨⟨k, hk, _⟩, _⟩ := g e he
  rw [q] at hk
  have hk : Value.isStrOf k v = true := hk
  cases v <;> first | exact ⟨_, _, rfl⟩ | exact absurd hk Bool.false_ne_true
theorem sorted_setS {Q : Value → Shared → Prop} (R : SetS P w s.heap a l) (hh : A.handled = none) (hb : l.length < scanBound)
    (hQ : ∀ s' p (out : Array Value) (c : Nat) (ys : List Str), (∀ b o, s.heap.get? b = some o → s'.heap.get? b = some o) → s'.gens = s.gens → s'.os = s.os → s.heap.objs.size ≤ p →
      s'.heap.get? p = some (seqObj "list" out c) → StrsAre out.toList ys → (∀ k, k ∈ ys ↔ k ∈ l) → ys.length = l.length → Q (.ref p) s') : wpAny (model P w) A (call (.builtin "sorted") [.ref a]) Q E s := by
  obtain ⟨⟨es, ep, t⟩, ho, F, r, hl⟩ := R
  have hsz : es.size = l.length := F.sz
  refine Calls.call_function_entry kind_sorted plain_sorted entry_sorted (args_sorted1 _) ?_
  unfold Builtin.«sorted»
  refine wpAny_bind (m := checkCount "sorted" 1 1 _) (wpAny_pure (wpAny_bind (collect_set (A := A.in1) hh ⟨_, ho, rfl, rfl⟩ F.fit (show es.size < scanBound by rw [hsz]; exact hb) r hl fun s1 vs k1 hz g1 o1 pm => ?_)))
  have hvl : vs.length = l.length := by rw [pm.length_eq, List.length_map, Array.length_toList]; exact hsz
  have hS : StrsAre vs (vs.map strOf) := strs_sub F.el pm
  have hlen : vs.length ≤ sizeLine := by rw [hvl]; exact Nat.le_trans (Nat.le_of_lt hb) (by decide)
  refine wpAny_bind (wpAny_newList ?_ hlen)
  have hoL : (s1.heap.push (seqObj "list" vs.toArray 0)).get? s1.heap.objs.size = some (seqObj "list" vs.toArray 0) := Heap.get?_push_size _ rfl
  refine wpAny_bind (wpAny_holding (wpAny_call_entry slot_list_sort ⟨_, hoL, rfl⟩ entry_list_sort (list_sort_treeKAny strKind_oneLt hoL hS.keysOf (fun v1 v2 rest e => keyKind_strs (by rw [← e]; exact hS)) hlen fun st' a1 a2 => ⟨_, rfl, ?_⟩) (args_list_sort _)))
  obtain ⟨ys, b1, b2, _⟩ := sorted_out_str hS a1 a2
  obtain ⟨c, hc⟩ := sortedHeap_at (vs := vs) (out := (arrOf st').map (·.2)) hoL
  refine wpAny_pure ⟨_, rfl, hQ _ s1.heap.objs.size _ c ys (fun b u e => ?_) g1 o1 hz hc b1 (fun k => ?_) ?_⟩
  · have q := k1 b u e
    have hlt := Heap.lt_size q
    show (sortedHeap (s1.heap.push (seqObj "list" vs.toArray 0)) s1.heap.objs.size vs _).get? b = some u
    rw [sortedHeap_old (Nat.ne_of_lt hlt) (by rw [size_push']; exact Nat.lt_succ_of_lt hlt)]
    exact Heap.get?_push_of_some _ q
  · rw [b2.mem_iff, F.mem k, List.mem_map]
    constructor
    · rintro ⟨v, hv, rfl⟩
      obtain ⟨e, he, q⟩ := List.mem_map.mp (pm.mem_iff.mp hv)
      refine ⟨e, he, ?_⟩
      obtain ⟨⟨k, hk, _⟩, _⟩ := F.el e he
      have hk : Value.isStrOf k e.2 = true := hk
      rw [← q]
      cases hv2 : e.2 <;> rw [hv2] at hk <;> first | exact is_str _ _ | exact absurd hk Bool.false_ne_true
    · rintro ⟨e, he, q⟩
      refine ⟨e.2, pm.mem_iff.mpr (List.mem_map.mpr ⟨e, he, rfl⟩), ?_⟩
      have q : Value.isStrOf k e.2 = true := q
      cases hv2 : e.2 <;> rw [hv2] at q <;> first | exact absurd q Bool.false_ne_true | skip
      simpa [Value.isStrOf, strOf] using q
  · rw [b2.length_eq, List.length_map, hvl]
end
section
variable {X : Cx}
/-- sorted(a set of texts) -/
def rSortS (P : Program) (w : World) : List V → Hp → VK → Prop := fun vs H Q => ∃ (a : Addr) (l : List Str), vs = [V.ref a] ∧ H a = some (SetSO P w a l) ∧ l.length < scanBound ∧
  ∀ (ys : List Str) (p : Addr), (∀ k, k ∈ ys ↔ k ∈ l) → ys.length = l.length → H p = none → Q (.ref p) (upd H p (.lst (ys.map V.str)))
theorem cr_sortS (hc : X.calm = true) : CallR X (.builtin "sorted") (rSortS X.prog X.w) := by
  intro pins s σ H vs us Q I r h
  obtain ⟨a, l, rfl, ha, hb, q⟩ := h
  have R : SetS X.prog X.w s.heap a l := (I.hok a _ ha).1
  rw [Vals.ref1 r]
  refine sorted_setS R (I.ok.hd hc) hb fun s' p out c ys k g o hp hg hi hm hl => ?_
  have hlen : (ys.map V.str).length ≤ sizeLine := by rw [List.length_map, hl]; exact Nat.le_trans (Nat.le_of_lt hb) (by decide)
  have hn : H p = none := I.hok.fresh hp
  have J : Inv X pins σ (upd H p (.lst (ys.map V.str))) { s with heap := s'.heap, gens := s'.gens, drawn := s'.drawn, toks := s'.toks } :=
    I.call (ch := []) (Un.laid k hp hn) (I.hok.laid k hp ⟨hlen, out.toList, c, vals_of_strs hi, hg⟩) (by rw [g]; exact I.bare) (fun _ z => nomatch z)
  have e : s' = { s with heap := s'.heap, gens := s'.gens, drawn := s'.drawn, toks := s'.toks } := by
    cases s'; cases s; cases o; rfl
  rw [e]
  exact ⟨.ref p, _, J, rfl, q ys p hm hl hn⟩
theorem grow_ok {pins : List (Addr × Obj)} {σ : L2.St} {H : Hp} {s : Shared} {E : Value → Shared → Prop} {D : Addr} {l : List Str} {y : V} {z : Str} {v : Value} {Q : Value → Shared → Prop} (I : Inv X pins σ H s) (hD : H D = some (SetSO X.prog X.w D l)) (room : l.length + 1 < scanBound) (r : RelV (.str z) v)
    (h : ∀ s', Inv X pins σ (upd H D (SetSO X.prog X.w D (insS z l))) s' → Q .none s') : wpAny (model X.prog X.w) X.A (call (.builtin "set.add") [.ref D, v]) Q E s := by
  obtain ⟨tk, rfl⟩ := r
  have R : SetS X.prog X.w s.heap D l := (I.hok D _ hD).1
  refine add_setS R room fun h' sb new => ?_
  have he : ∃ u, h'.get? D = some u := let ⟨_, ho, _⟩ := new; ⟨_, ho⟩
  exact h _ (I.write (e := D) (t' := s.toks + 1) (by rw [hD]; trivial) (.inl rfl) (fun b u hb hu => (sb.2 b hb).trans hu) he (setSO_ok new))
end

theorem scTurn_out (elt t0 i0 t1 i1 : Expr) (ifs0 ifs1 : List Expr) (sc : Scope) (pos : Pos) (it acc : Value) (env : Env) :
    compTurn (.SetComp elt [⟨t0, i0, ifs0, 0⟩, ⟨t1, i1, ifs1, 0⟩] sc pos) 0 it acc env = (do
      standAt i0.pos
      match ← pyNext it with
      | none => pure (.done .next)
      | some v =>
        letOwnedTupleGo t0 it v
        assign t0 env v
        let mut ok := true
        for c in ifs0 do
          if ok then ok ← isTrue c env (eval c env)
        if ok then
          let x ← eval i1 env
          standAt i1.pos
          let x ← foldedSetIterable i1 env x
          let _ ← runOwn (.compStart (.SetComp elt [⟨t0, i0, ifs0, 0⟩, ⟨t1, i1, ifs1, 0⟩] sc pos) 1 (← holding [x] (pyIter x)) acc env) env
        again (.compLoop (.SetComp elt [⟨t0, i0, ifs0, 0⟩, ⟨t1, i1, ifs1, 0⟩] sc pos) 0 it acc env)) := by rfl
theorem scTurn_in (elt t0 i0 t1 i1 : Expr) (ifs0 ifs1 : List Expr) (sc : Scope) (pos : Pos) (it acc : Value) (env : Env) :
    compTurn (.SetComp elt [⟨t0, i0, ifs0, 0⟩, ⟨t1, i1, ifs1, 0⟩] sc pos) 1 it acc env = (do
      standAt i1.pos
      match ← pyNext it with
      | none => pure (.done .next)
      | some v =>
        letOwnedTupleGo t1 it v
        assign t1 env v
        let mut ok := true
        for c in ifs1 do
          if ok then ok ← isTrue c env (eval c env)
        if ok then
          (do let v ← eval elt env; standAt elt.pos; let _ ← call (.builtin "set.add") [acc, v])
        again (.compLoop (.SetComp elt [⟨t0, i0, ifs0, 0⟩, ⟨t1, i1, ifs1, 0⟩] sc pos) 1 it acc env)) := by rfl

section
variable {prog : Program} {w : World} {A : Around} {R : Result → Shared → Prop} {s : Shared} {elt t0 i0 t1 i1 : Expr} {ifs0 ifs1 : List Expr} {sc : Scope} {pos : Pos} {it acc : Value} {env : Env}
theorem scLoop_out (hs : ∀ x, foldedSetIterable i1 env x = pure x) (I : Nat → Shared → Prop)
    (trn : ∀ n s, I n s → wpAny (model prog w) A (pyNext it) (fun r s₁ => match r with
      | none => R (.ok .next) s₁
      | some v => wpAny (model prog w) A (letOwnedTupleGo t0 it v) (fun _ s₁' => wpAny (model prog w) A (assign t0 env v) (fun _ s₂ =>
          wpAny (model prog w) A (forIn ifs0 true fun c r => if r = true then do let ok ← isTrue c env (eval c env); pure (ForInStep.yield ok) else pure (ForInStep.yield r)) (fun ok s₃ =>
            if ok = true then wpAny (model prog w) A (eval i1 env) (fun x s₄ => wpAny (model prog w) A (pyIter x) (fun it1 s₅ =>
              codeAny (model prog w) A (.compStart (.SetComp elt [⟨t0, i0, ifs0, 0⟩, ⟨t1, i1, ifs1, 0⟩] sc pos) 1 it1 acc env) (fun r s' => match r with
                | .ok _ => ∃ m, m < n ∧ I m s'
                | .error _ => False) s₅) (notedBy (model prog w) A env fun e s' => R (.error e) s') s₄) (notedBy (model prog w) A env fun e s' => R (.error e) s') s₃
            else ∃ m, m < n ∧ I m s₃) (notedBy (model prog w) A env fun e s' => R (.error e) s') s₂) (notedBy (model prog w) A env fun e s' => R (.error e) s') s₁') (notedBy (model prog w) A env fun e s' => R (.error e) s') s₁) (notedBy (model prog w) A env fun e s' => R (.error e) s') s)
    (n : Nat) (h : I n s) :
    codeAny (model prog w) A (.compLoop (.SetComp elt [⟨t0, i0, ifs0, 0⟩, ⟨t1, i1, ifs1, 0⟩] sc pos) 0 it acc env) R s := by
  refine codeAny_loop rfl I (fun n s hI => ?_) n h
  show wpAny _ A ((compTurn (.SetComp elt [⟨t0, i0, ifs0, 0⟩, ⟨t1, i1, ifs1, 0⟩] sc pos) 0 it acc env).onRaise (fun x => do noteFrame x env; theTreesLotGoes x)) _ _ s
  refine wpAny_noted ?_
  rw [scTurn_out]
  refine wpAny_bind (wpAny_standAt (wpAny_bind (wpAny_mono (trn n s hI) (fun r s₁ h₁ => ?_) fun _ _ h' => h')))
  cases r with
  | none => exact wpAny_pure h₁
  | some v =>
    refine wpAny_bind (wpAny_mono h₁ (fun _ s₁' h₁' => ?_) fun _ _ h' => h')
    refine wpAny_bind (wpAny_mono h₁' (fun _ s₂ h₂ => wpAny_bind (wpAny_mono h₂ (fun ok s₃ h₃ => ?_) fun _ _ h' => h')) fun _ _ h' => h')
    cases ok with
    | false => exact wpAny_pure ⟨rfl, h₃⟩
    | true =>
      refine wpAny_bind (wpAny_mono h₃ (fun x s₄ h₄ => ?_) fun _ _ h' => h')
      refine wpAny_bind (wpAny_standAt (wpAny_bind (wpAny_of_eq (hs x) (wpAny_bind (wpAny_holding (wpAny_mono h₄ (fun it1 s₅ h₅ => ?_) fun _ _ h' => h'))))))
      refine wpAny_bind (wpAny_runOwn ?_)
      rw [Around.mark_none]
      refine codeAny_mono h₅ fun r s' hr => ?_
      cases r with
      | ok f =>
        first
          | exact wpAny_pure ⟨rfl, hr⟩
          | exact wpAny_bind (wpAny_pure (wpAny_pure ⟨rfl, hr⟩))
      | error e => exact hr.elim
theorem scLoop_in (I : Nat → Shared → Prop)
    (trn : ∀ n s, I n s → wpAny (model prog w) A (pyNext it) (fun r s₁ => match r with
      | none => R (.ok .next) s₁
      | some v => wpAny (model prog w) A (letOwnedTupleGo t1 it v) (fun _ s₁' => wpAny (model prog w) A (assign t1 env v) (fun _ s₂ =>
          wpAny (model prog w) A (forIn ifs1 true fun c r => if r = true then do let ok ← isTrue c env (eval c env); pure (ForInStep.yield ok) else pure (ForInStep.yield r)) (fun ok s₃ =>
            if ok = true then wpAny (model prog w) A (eval elt env) (fun x s₄ =>
              wpAny (model prog w) A (call (.builtin "set.add") [acc, x]) (fun _ s₅ => ∃ m, m < n ∧ I m s₅) (notedBy (model prog w) A env fun e s' => R (.error e) s') s₄) (notedBy (model prog w) A env fun e s' => R (.error e) s') s₃
            else ∃ m, m < n ∧ I m s₃) (notedBy (model prog w) A env fun e s' => R (.error e) s') s₂) (notedBy (model prog w) A env fun e s' => R (.error e) s') s₁') (notedBy (model prog w) A env fun e s' => R (.error e) s') s₁) (notedBy (model prog w) A env fun e s' => R (.error e) s') s)
    (n : Nat) (h : I n s) :
    codeAny (model prog w) A (.compLoop (.SetComp elt [⟨t0, i0, ifs0, 0⟩, ⟨t1, i1, ifs1, 0⟩] sc pos) 1 it acc env) R s := by
  refine codeAny_loop rfl I (fun n s hI => ?_) n h
  show wpAny _ A ((compTurn (.SetComp elt [⟨t0, i0, ifs0, 0⟩, ⟨t1, i1, ifs1, 0⟩] sc pos) 1 it acc env).onRaise (fun x => do noteFrame x env; theTreesLotGoes x)) _ _ s
  refine wpAny_noted ?_
  rw [scTurn_in]
  refine wpAny_bind (wpAny_standAt (wpAny_bind (wpAny_mono (trn n s hI) (fun r s₁ h₁ => ?_) fun _ _ h' => h')))
  cases r with
  | none => exact wpAny_pure h₁
  | some v =>
    refine wpAny_bind (wpAny_mono h₁ (fun _ s₁' h₁' => ?_) fun _ _ h' => h')
    refine wpAny_bind (wpAny_mono h₁' (fun _ s₂ h₂ => wpAny_bind (wpAny_mono h₂ (fun ok s₃ h₃ => ?_) fun _ _ h' => h')) fun _ _ h' => h')
    cases ok with
    | false => exact wpAny_pure ⟨rfl, h₃⟩
    | true =>
      exact wpAny_bind (wpAny_bind (wpAny_mono h₃ (fun x s₄ h₄ => wpAny_bind (wpAny_standAt (wpAny_bind (wpAny_mono h₄ (fun _ s₅ h₅ => wpAny_pure (wpAny_pure ⟨rfl, h₅⟩)) fun _ _ h' => h')))) fun _ _ h' => h'))
theorem scStart_in (h0 : codeAny (model prog w) A (.compLoop (.SetComp elt [⟨t0, i0, ifs0, 0⟩, ⟨t1, i1, ifs1, 0⟩] sc pos) 1 it acc env) R s)
    (h : wpAny (model prog w) A (pyIter it) (fun it' s' => codeAny (model prog w) A (.compLoop (.SetComp elt [⟨t0, i0, ifs0, 0⟩, ⟨t1, i1, ifs1, 0⟩] sc pos) 1 it' acc env) R s')
      (notedBy (model prog w) A env fun x s' => R (.error x) s') s) :
    codeAny (model prog w) A (.compStart (.SetComp elt [⟨t0, i0, ifs0, 0⟩, ⟨t1, i1, ifs1, 0⟩] sc pos) 1 it acc env) R s := by
  refine codeAny_of_tree ?_
  show wpAny _ _ ((compStart (.SetComp elt [⟨t0, i0, ifs0, 0⟩, ⟨t1, i1, ifs1, 0⟩] sc pos) 1 it acc env).onRaise (fun x => do noteFrame x env; standAt theWindowsPlace)) _ _ s
  refine wpAny_notedAt ?_
  unfold compStart
  show wpAny _ _ (ask >>= _) _ _ s
  refine wpAny_bind (wpAny_askSetting (wpAny_ite ?_))
  split
  · first
      | exact wpAny_bind (wpAny_pure (wpAny_pure (And.intro rfl h0)))
      | exact wpAny_pure (And.intro rfl h0)
  · first
      | exact wpAny_bind (wpAny_rule (wpAny_bind (wpAny_standAt (wpAny_bind (wpAny_mono h (fun it' s' h' => wpAny_pure (And.intro rfl h')) fun _ _ x => x)))))
      | (refine wpAny_bind (wpAny_rule ?_); show wpAny _ _ (standAt i1.pos >>= _) _ _ s; exact wpAny_bind (wpAny_standAt (wpAny_bind (wpAny_mono h (fun it' s' h' => wpAny_pure (And.intro rfl h')) fun _ _ x => x))))
end

theorem wipe_out {σ : L2.St} {i : Nat} : ∀ {vs : List Nat}, i ∉ vs → (wipe σ vs)[i]? = σ[i]?
  | [], _ => rfl
  | v :: vs, h => by
    have h1 : v ≠ i := fun e => h (by rw [e]; exact List.mem_cons_self)
    have h2 : i ∉ vs := fun m => h (List.mem_cons_of_mem _ m)
    unfold wipe
    rw [List.getElem?_set_ne h1]
    exact wipe_out h2
section
variable {X : Cx}
def tSc2 (P : Program) (w : World) (wi : TI) (g : TG) (tt : TT) (wi1 : TI) (g1 : TG) (tt1 : TT) (te : TE) (vs vs1 : List Nat) : TE := fun σ H Q => wi σ H fun J H1 => ∀ D, H1 D = none → ∃ W : Nat → Nat → Hp → Prop, (∃ m, W 0 m (upd H1 D (SetSO P w D []))) ∧ ∀ i m H, W i m H →
  (J.stop i H ∧ Q (.ref D) H) ∨ (J.go i H ∧ ∃ Nx : Hp → Prop, (∀ H', Nx H' → ∃ m', m' < m ∧ W (i + 1) m' H') ∧ ∀ x H', J.yld i H x H' → g x (wipe σ vs) H' fun σ2 Y2 => wipe σ2 vs = wipe σ vs ∧ tt σ2 Y2 fun b Y3 =>
    if b = true then wi1 σ2 Y3 fun J1 Y4 => ∃ W1 : Nat → Nat → Hp → Prop, (∃ m, W1 0 m Y4) ∧ ∀ j k H, W1 j k H →
      (J1.stop j H ∧ Nx H) ∨ (J1.go j H ∧ ∃ Nx1 : Hp → Prop, (∀ H', Nx1 H' → ∃ k', k' < k ∧ W1 (j + 1) k' H') ∧ ∀ x H', J1.yld j H x H' → g1 x (wipe σ2 vs1) H' fun σ3 Y5 => wipe σ3 vs1 = wipe σ2 vs1 ∧ tt1 σ3 Y5 fun b Y6 =>
        if b = true then te σ3 Y6 fun y Y7 => ∃ z l, y = .str z ∧ Y7 D = some (SetSO P w D l) ∧ l.length + 1 < scanBound ∧ Nx1 (upd Y7 D (SetSO P w D (insS z l))) else Nx1 Y6)
    else Nx Y3)
theorem sc2_core {pins : List (Addr × Obj)} {s : Shared} {σ : L2.St} {H : Hp} {Q : VK} {elt tg iter tg1 iter1 : Expr} {ifs ifs1 : List Expr} {sc : Scope} {own : List (Str × Nat)} {vs1 : List Nat} {pos pos' : Pos} {wi wi1 : TI} {g g1 : TG} {tt tt1 : TT} {te : TE} {use : Option (Value → Sem Unit)} {Qf : Value → Shared → Prop}
    (hc : X.calm = true) (hN : X.N.Nodup) (I : Inv X pins σ H s) (hit : PI X tg iter wi) (ok : BlkOk X.N X.env.scope sc own) (hv : ∀ i ∈ vs1, i ∈ own.map (·.2))
    (htg : ∀ (s : Shared) (H : Hp) (C : Addr) (cl : List (Str × Addr)) (fo : List Addr), PG (X.blk s H sc (compEnvC sc cl C X.env) fo) tg g) (htt : ∀ (s : Shared) (H : Hp) (C : Addr) (cl : List (Str × Addr)) (fo : List Addr), PTs (X.blk s H sc (compEnvC sc cl C X.env) fo) ifs tt)
    (hel : ∀ (s : Shared) (H : Hp) (C : Addr) (cl : List (Str × Addr)) (fo : List Addr), PE (X.blk s H sc (compEnvC sc cl C X.env) fo) elt te) (hs : ∀ x, foldedSetIterable iter X.env x = pure x)
    (hit1 : ∀ (s : Shared) (H : Hp) (C : Addr) (cl : List (Str × Addr)) (fo : List Addr), PI (X.blk s H sc (compEnvC sc cl C X.env) fo) tg1 iter1 wi1)
    (htg1 : ∀ (s : Shared) (H : Hp) (C : Addr) (cl : List (Str × Addr)) (fo : List Addr), PG (X.blk s H sc (compEnvC sc cl C X.env) fo) tg1 g1)
    (htt1 : ∀ (s : Shared) (H : Hp) (C : Addr) (cl : List (Str × Addr)) (fo : List Addr), PTs (X.blk s H sc (compEnvC sc cl C X.env) fo) ifs1 tt1)
    (hs1 : ∀ env x, foldedSetIterable iter1 env x = pure x)
    (h : tSc2 X.prog X.w wi g tt wi1 g1 tt1 te (own.map (·.2)) vs1 σ H Q)
    (hRR : ∀ D C s' m H', Inv X pins σ H' s' → Q (.ref D) H' → s'.heap.Ns C m → FpOk X pins H' C → compPost (model X.prog X.w) X.A X.xe use Qf (.ref D) C (.ok .next) s') :
    wpAny (model X.prog X.w) X.A (comprehension (.SetComp elt [⟨tg, iter, ifs, 0⟩, ⟨tg1, iter1, ifs1, 0⟩] sc pos) sc X.env pos' (newSet (.type "set")) false (eval iter X.env) use) Qf X.xe s := by
  have hfr : ∀ y ∈ sc.names, y.2 = .free → ∃ c, X.env.cells.lookup y.1 = some c := fun y hy e => by
    rcases ok.free y hy e with k | k
    · exact I.ok.has _ (.inl k)
    · exact I.ok.has _ (.inr k)
  refine wpAny_comprehension_free (use := use) rfl hs (closure_ok hfr) ok.kind (fun y hy e => by rw [ok.uniq y hy, e])
    (thn (hit.run pins s σ H _ I h) fun xv s1 hx => thn hx fun itv z2 h2 => ?_)
  obtain ⟨it, fo, tn, J, Y2, e, J2, T, st2, f2, q⟩ := h2
  subst e
  refine PpSet.newSet_ok (newEnv_comp ?_)
  generalize hD : z2.heap.objs.size = D
  have hDn : Y2 D = none := J2.hok.fresh (Nat.le_of_eq hD)
  obtain ⟨W, ⟨m0, wz⟩, trn⟩ := q D hDn
  -- the new list
  generalize hs3 : ({ z2 with heap := z2.heap.push { cls := .type "set", dict := none, data := .set #[] 0 (.fresh 0 0 (!X.w.params.followText "set-order")) } } : Shared) = z3
  have J3 : Inv X pins σ (upd Y2 D (SetSO X.prog X.w D [])) z3 := by
    rw [← hs3]
    refine J2.laid (t' := z2.toks) (fun b o e => Heap.get?_push_of_some _ e) (Nat.le_of_eq hD) ?_
    rw [← hD]
    exact setSO_ok (fresh_setS _)
  have h3 : z3.heap = z2.heap.push { cls := .type "set", dict := none, data := .set #[] 0 (.fresh 0 0 (!X.w.params.followText "set-order")) } := by rw [← hs3]
  have szb : ∀ b ∈ fo, b < z2.heap.objs.size := fun b hb => by
    obtain ⟨o, e, _⟩ := T.obj _ _ st2 b hb
    exact Heap.lt_size e
  have f3 : ∀ b ∈ fo, FpOk X pins (upd Y2 D (SetSO X.prog X.w D [])) b ∧ b < z3.heap.objs.size := fun b hb => by
    have hlt := szb b hb
    refine ⟨⟨?_, (f2 b hb).2⟩, by rw [h3, Heap.size_push]; exact Nat.lt_succ_of_lt hlt⟩
    rw [upd_ne (by rw [← hD]; exact Nat.ne_of_lt hlt)]
    exact (f2 b hb).1
  have st3 : tn 0 z3.heap := T.keep _ _ _ st2 fun b _ o e => by rw [h3]; exact Heap.get?_push_of_some _ e
  have J4 := block_start J3 ok hN f3
  have qg := htg z3 (upd Y2 D (SetSO X.prog X.w D [])) z3.heap.objs.size (cellsFrom (z3.heap.objs.size + 1) sc.names (cloFrom X.env.cells sc.names [])) fo
  have qt := htt z3 (upd Y2 D (SetSO X.prog X.w D [])) z3.heap.objs.size (cellsFrom (z3.heap.objs.size + 1) sc.names (cloFrom X.env.cells sc.names [])) fo
  have qe := hel z3 (upd Y2 D (SetSO X.prog X.w D [])) z3.heap.objs.size (cellsFrom (z3.heap.objs.size + 1) sc.names (cloFrom X.env.cells sc.names [])) fo
  have qi1 := hit1 z3 (upd Y2 D (SetSO X.prog X.w D [])) z3.heap.objs.size (cellsFrom (z3.heap.objs.size + 1) sc.names (cloFrom X.env.cells sc.names [])) fo
  have qg1 := htg1 z3 (upd Y2 D (SetSO X.prog X.w D [])) z3.heap.objs.size (cellsFrom (z3.heap.objs.size + 1) sc.names (cloFrom X.env.cells sc.names [])) fo
  have qt1 := htt1 z3 (upd Y2 D (SetSO X.prog X.w D [])) z3.heap.objs.size (cellsFrom (z3.heap.objs.size + 1) sc.names (cloFrom X.env.cells sc.names [])) fo
  show codeAny _ _ (.compStart (.SetComp elt [⟨tg, iter, ifs, 0⟩, ⟨tg1, iter1, ifs1, 0⟩] sc pos) 0 (.ref it) (.ref D) (compEnvC sc (cellsFrom (z3.heap.objs.size + 1) sc.names (cloFrom X.env.cells sc.names [])) z3.heap.objs.size X.env)) (compPost (model X.prog X.w) X.A X.xe use Qf (.ref D) z3.heap.objs.size) { z3 with heap := pushCells (z3.heap.push { cls := .type "dict", data := .dict #[] }) sc.names }
  have nfo : ∀ b ∈ fo, (upd Y2 D (SetSO X.prog X.w D [])) b = none := fun b hb => (f3 b hb).1.1
  generalize hce : compEnvC sc (cellsFrom (z3.heap.objs.size + 1) sc.names (cloFrom X.env.cells sc.names [])) z3.heap.objs.size X.env = ze at J4 qg qt qe qi1 qg1 qt1 ⊢
  have zL : ze.locals = z3.heap.objs.size := by subst hce; rfl
  generalize hH3 : upd Y2 D (SetSO X.prog X.w D []) = Y3 at J3 J4 qg qt qe qi1 qg1 qt1 wz nfo f3
  generalize hs4 : ({ z3 with heap := pushCells (z3.heap.push { cls := .type "dict", data := .dict #[] }) sc.names } : Shared) = z4 at J4 ⊢
  have st4 : tn 0 z4.heap := T.keep _ _ _ st3 fun b _ o e => by rw [← hs4]; exact pushCells_keeps _ _ _ _ (Heap.get?_push_of_some _ e)
  have still : ∀ {σ' : L2.St} {H' : Hp} {s' : Shared}, Inv (X.blk z3 Y3 sc ze fo) [] σ' H' s' → (∀ b ∈ fo, H' b = none) → ∀ b ∈ fo, FpOk (X.blk z3 Y3 sc ze fo) [] H' b := fun {σ' H' s'} I' hn b hb =>
    ⟨hn b hb, (I'.ok.exf b hb).1, I'.ok.exfs b hb, .inl hb, fun x c e => (I'.ok.exf b hb).2 x c e, fun p hp => absurd (show p ∈ ([] : List (Addr × Obj)) ++ [] from hp) (by simp)⟩
  have runs : codeAny (model X.prog X.w) X.A (.compLoop (.SetComp elt [⟨tg, iter, ifs, 0⟩, ⟨tg1, iter1, ifs1, 0⟩] sc pos) 0 (.ref it) (.ref D) ze) (compPost (model X.prog X.w) X.A X.xe use Qf (.ref D) z3.heap.objs.size) z4 := by
    refine scLoop_out (hs1 ze) (fun n s' => ∃ i H', Inv (X.blk z3 Y3 sc ze fo) [] (wipe σ (own.map (·.2))) H' s' ∧ tn i s'.heap ∧ (∀ b ∈ fo, H' b = none) ∧ W i n H') ?_ m0 ⟨0, Y3, J4, st4, nfo, wz⟩
    rintro n z5 ⟨i, Y5, J5, st5, n5, w5⟩
    rcases trn i n Y5 w5 with ⟨stop, qq⟩ | ⟨gos, Nx, hNx, stp⟩
    · have dn := T.done (X.blk z3 Y3 sc ze fo) rfl rfl rfl hc i [] z5 _ Y5 (fun _ _ => False) J5 (still J5 n5) st5 stop
      refine thnF dn fun r z6 ⟨hr, J6⟩ => ?_
      subst hr
      -- back in the def's context
      have J7 : Inv X pins σ Y5 z6 := J3.call' (ch := fo) J6.os J6.base J6.hok J6.bare fun b hb => ⟨(f3 b hb).1.2.2.2.1, (f3 b hb).1.2.1, (f3 b hb).1.2.2.2.2.1, (f3 b hb).1.2.2.2.2.2⟩
      have nC : Y5 z3.heap.objs.size = none := by
        have z : Y5 ze.locals = none := J6.free
        rw [zL] at z
        exact z
      obtain ⟨m, hn, _⟩ := J6.loc
      have hn : z6.heap.Ns ze.locals m := hn
      rw [zL] at hn
      exact hRR D z3.heap.objs.size z6 m Y5 J7 qq hn (J3.fpOk (Nat.le_refl _) nC)
    · have nt := T.item (X.blk z3 Y3 sc ze fo) rfl rfl rfl hc i [] z5 _ Y5 (fun _ _ => False) J5 (still J5 n5) st5 gos
      refine thnF nt fun r z6 ⟨u, hr, h6⟩ => ?_
      subst hr
      refine thnF h6 fun _ z7 ⟨x, Y7, J7, r7, y7, st7, n7⟩ => ?_
      have J7' := J7.pinned (still J7 n7) (T.obj _ _ st7)
      refine thnF (qg.run _ z7 _ Y7 x u _ J7' r7 (stp x Y7 y7)) fun _ z8 ⟨σ8, Y8, J8, hw8, q8⟩ => ?_
      refine thnF (qt.run _ z8 σ8 Y8 _ J8 q8) fun b z9 ⟨Y9, J9, q9⟩ => ?_
      -- the turn's end, from any slots that know what the block knew at its start
      have ends : ∀ {σ9 : L2.St} {s' : Shared} {H' : Hp}, Inv (X.blk z3 Y3 sc ze fo) ([] ++ pinsAt fo z7.heap) σ9 H' s' → (wipe σ (own.map (·.2))).length = σ9.length → (∀ (j : Nat) v, (wipe σ (own.map (·.2)))[j]? = some (some v) → σ9[j]? = some (some v)) → Nx H' →
          ∃ m, m < n ∧ ∃ i H', Inv (X.blk z3 Y3 sc ze fo) [] (wipe σ (own.map (·.2))) H' s' ∧ tn i s'.heap ∧ (∀ b ∈ fo, H' b = none) ∧ W i m H' := fun {σ9 s' H'} I' hl hk nx => by
        obtain ⟨m', hm, w'⟩ := hNx H' nx
        have pin' : ∀ b ∈ fo, ∀ o, z7.heap.get? b = some o → s'.heap.get? b = some o ∧ H' b = none := fun b hb o e =>
          let z := I'.pin (b, o) (List.mem_append_right _ (List.mem_append_right _ (mem_pinsAt hb e)))
          ⟨z.1, z.2.1⟩
        refine ⟨m', hm, i + 1, H', (I'.unpinned (pins := [])).weak hl hk, T.keep _ _ _ st7 fun b hb o e => (pin' b hb o e).1, fun b hb => ?_, w'⟩
        obtain ⟨o, e, _⟩ := T.obj _ _ st7 b hb
        exact (pin' b hb o e).2
      have hl8 : (wipe σ (own.map (·.2))).length = σ8.length := by rw [← hw8, wipe_length]
      have hk8 : ∀ (j : Nat) v, (wipe σ (own.map (·.2)))[j]? = some (some v) → σ8[j]? = some (some v) := fun j v e => by
        rw [← hw8] at e
        exact (wipe_some e).1
      have hk9 : ∀ (j : Nat) v, (wipe σ (own.map (·.2)))[j]? = some (some v) → (wipe σ8 vs1)[j]? = some (some v) := fun j v e => by
        rw [← hw8] at e
        obtain ⟨e1, e2⟩ := wipe_some e
        rw [wipe_out fun z => e2 (hv j z)]
        exact e1
      cases b with
      | false =>
        simp only [Bool.false_eq_true, if_false] at q9 ⊢
        exact ends J9 hl8 hk8 q9
      | true =>
        simp only [if_true] at q9 ⊢
        refine thnF (qi1.run _ z9 σ8 Y9 _ J9 q9) fun xv z10 hx => thnF hx fun itv z11 h11 => ?_
        obtain ⟨it1, fo1, tn1, J1, Y11, e1, J11, T1, st11, f11, W1, ⟨m1, w1⟩, trn1⟩ := h11
        subst e1
        -- the inner runs
        have still1 : ∀ {H' : Hp}, (∀ b ∈ fo1, H' b = none) → ∀ b ∈ fo1, FpOk (X.blk z3 Y3 sc ze fo) ([] ++ pinsAt fo z7.heap) H' b := fun hn b hb => ⟨hn b hb, (f11 b hb).2⟩
        have runs1 : codeAny (model X.prog X.w) X.A (.compLoop (.SetComp elt [⟨tg, iter, ifs, 0⟩, ⟨tg1, iter1, ifs1, 0⟩] sc pos) 1 (.ref it1) (.ref D) ze)
            (fun r s' => match r with
              | .ok _ => ∃ m, m < n ∧ ∃ i H', Inv (X.blk z3 Y3 sc ze fo) [] (wipe σ (own.map (·.2))) H' s' ∧ tn i s'.heap ∧ (∀ b ∈ fo, H' b = none) ∧ W i m H'
              | .error _ => False) z11 := by
          refine scLoop_in (fun k s' => ∃ j H', Inv (X.blk z3 Y3 sc ze fo) ([] ++ pinsAt fo z7.heap) (wipe σ8 vs1) H' s' ∧ tn1 j s'.heap ∧ (∀ b ∈ fo1, H' b = none) ∧ W1 j k H') ?_ m1 ⟨0, Y11, J11.weak (wipe_length _ _) (fun j v e => (wipe_some e).1), st11, fun b hb => (f11 b hb).1, w1⟩
          rintro k z12 ⟨j, Y12, J12, st12, n12, w12⟩
          rcases trn1 j k Y12 w12 with ⟨stop1, nx1⟩ | ⟨gos1, Nx1, hNx1, stp1⟩
          · refine thnF (T1.done (X.blk z3 Y3 sc ze fo) rfl rfl rfl hc j _ z12 (wipe σ8 vs1) Y12 (fun _ _ => False) J12 (still1 n12) st12 stop1) fun r z13 ⟨hr, J13⟩ => ?_
            subst hr
            exact ends J13 (hl8.trans (wipe_length σ8 vs1).symm) hk9 nx1
          · refine thnF (T1.item (X.blk z3 Y3 sc ze fo) rfl rfl rfl hc j _ z12 (wipe σ8 vs1) Y12 (fun _ _ => False) J12 (still1 n12) st12 gos1) fun r z13 ⟨u1, hr, h13⟩ => ?_
            subst hr
            refine thnF h13 fun _ z14 ⟨x1, Y14, J14, r14, y14, st14, n14⟩ => ?_
            have J14' := J14.pinned (still1 n14) (T1.obj _ _ st14)
            refine thnF (qg1.run _ z14 (wipe σ8 vs1) Y14 x1 u1 _ J14' r14 (stp1 x1 Y14 y14)) fun _ z15 ⟨σ15, Y15, J15, hw15, q15⟩ => ?_
            refine thnF (qt1.run _ z15 σ15 Y15 _ J15 q15) fun b1 z16 ⟨Y16, J16, q16⟩ => ?_
            have ends1 : ∀ {s' : Shared} {H' : Hp}, Inv (X.blk z3 Y3 sc ze fo) (([] ++ pinsAt fo z7.heap) ++ pinsAt fo1 z14.heap) σ15 H' s' → Nx1 H' → ∃ m, m < k ∧ ∃ j H', Inv (X.blk z3 Y3 sc ze fo) ([] ++ pinsAt fo z7.heap) (wipe σ8 vs1) H' s' ∧ tn1 j s'.heap ∧ (∀ b ∈ fo1, H' b = none) ∧ W1 j m H' := fun {s' H'} I' nx => by
              obtain ⟨m', hm, w'⟩ := hNx1 H' nx
              have pin' : ∀ b ∈ fo1, ∀ o, z14.heap.get? b = some o → s'.heap.get? b = some o ∧ H' b = none := fun b hb o e =>
                let z := I'.pin (b, o) (List.mem_append_right _ (List.mem_append_right _ (mem_pinsAt hb e)))
                ⟨z.1, z.2.1⟩
              refine ⟨m', hm, j + 1, H', I'.unpinned.weak (by rw [← hw15, wipe_length]) (fun j v e => by rw [← hw15] at e; exact (wipe_some e).1), T1.keep _ _ _ st14 fun b hb o e => (pin' b hb o e).1, fun b hb => ?_, w'⟩
              obtain ⟨o, e, _⟩ := T1.obj _ _ st14 b hb
              exact (pin' b hb o e).2
            cases b1 with
            | false =>
              simp only [Bool.false_eq_true, if_false] at q16 ⊢
              exact ends1 J16 q16
            | true =>
              simp only [if_true] at q16 ⊢
              refine thnF (qe.run _ z16 σ15 Y16 _ J16 q16) fun z z17 ⟨yv, Y17, J17, r17, tx, acc, ey, hD17, hz17, nx⟩ => ?_
              subst ey
              exact grow_ok (y := .non) (X := X.blk z3 Y3 sc ze fo) J17 hD17 hz17 r17 fun z18 J18 => ends1 J18 nx
        exact scStart_in runs1 (T1.self X.A 0 _ _ _ st11 runs1)
  exact PpSet.codeAny_compStart_set runs (T.self X.A 0 _ _ _ st4 runs)
theorem pe_sc2 {elt tg iter tg1 iter1 : Expr} {ifs ifs1 : List Expr} {sc : Scope} {own : List (Str × Nat)} {vs1 : List Nat} {pos : Pos} {wi wi1 : TI} {g g1 : TG} {tt tt1 : TT} {te : TE} (hc : X.calm = true) (hN : X.N.Nodup) (hit : PI X tg iter wi) (ok : BlkOk X.N X.env.scope sc own) (hv : ∀ i ∈ vs1, i ∈ own.map (·.2))
    (htg : ∀ (s : Shared) (H : Hp) (C : Addr) (cl : List (Str × Addr)) (fo : List Addr), PG (X.blk s H sc (compEnvC sc cl C X.env) fo) tg g) (htt : ∀ (s : Shared) (H : Hp) (C : Addr) (cl : List (Str × Addr)) (fo : List Addr), PTs (X.blk s H sc (compEnvC sc cl C X.env) fo) ifs tt)
    (hit1 : ∀ (s : Shared) (H : Hp) (C : Addr) (cl : List (Str × Addr)) (fo : List Addr), PI (X.blk s H sc (compEnvC sc cl C X.env) fo) tg1 iter1 wi1)
    (htg1 : ∀ (s : Shared) (H : Hp) (C : Addr) (cl : List (Str × Addr)) (fo : List Addr), PG (X.blk s H sc (compEnvC sc cl C X.env) fo) tg1 g1) (htt1 : ∀ (s : Shared) (H : Hp) (C : Addr) (cl : List (Str × Addr)) (fo : List Addr), PTs (X.blk s H sc (compEnvC sc cl C X.env) fo) ifs1 tt1)
    (hel : ∀ (s : Shared) (H : Hp) (C : Addr) (cl : List (Str × Addr)) (fo : List Addr), PE (X.blk s H sc (compEnvC sc cl C X.env) fo) elt te) (hs : ∀ x, foldedSetIterable iter X.env x = pure x := by intro _; rfl) (hs1 : ∀ env x, foldedSetIterable iter1 env x = pure x := by intro _ _; rfl) :
    PE X (.SetComp elt [⟨tg, iter, ifs, 0⟩, ⟨tg1, iter1, ifs1, 0⟩] sc pos) (tSc2 X.prog X.w wi g tt wi1 g1 tt1 te (own.map (·.2)) vs1) := by
  refine ⟨fun pins s σ H Q I h => ?_⟩
  rw [PpSet.eval_SetComp]
  refine sc2_core hc hN I hit ok hv htg htt hel hs hit1 htg1 htt1 hs1 h fun D C s' m H' I' q hn f => ⟨m, hn, fun h'' sb => ?_⟩
  obtain ⟨f0, f1, f2, f3, f4, f5⟩ := f
  exact ⟨.ref D, H', I'.turned (t' := s'.toks) (fun b o hb e => (sb.2 b hb).trans e) f0 f1 f3 f4 f5, rfl, q⟩
end
end Kd
set_option maxHeartbeats 4000000
/-! list(zip(a, b)) of two lists; setdefault with tuples as keys. -/
namespace Kd
open PySem PySem.Spec PyProof.Rows L2
section
variable {prog : Program} {w : World} {A : Around} {E : Value → Shared → Prop} {s : Shared} {z TI TO i1 i2 l1 l2 : Addr} {xs ys : Array Value}
/-- the zip z stands at turn i -/
structure ZS (h : Heap) (z TI TO i1 i2 l1 l2 : Addr) (xs ys : Array Value) (i : Nat) : Prop where
  zip : IsZip h z TI TO .none ∨ ∃ T f o, IsZipHeld h z TI TO T f ∧ h.get? T = some o
  ti : IsPair h TI (.ref i1) (.ref i2)
  tO : ∃ a b, IsPair h TO a b
  it1 : h.IsListIter i1 l1 i
  it2 : h.IsListIter i2 l2 i
  p : h.IsList l1 xs
  q : h.IsList l2 ys
theorem ZS.at {h h' : Heap} {i : Nat} (Z : ZS h z TI TO i1 i2 l1 l2 xs ys i) {S : Addr} (hS : S < h.objs.size) (nl : ∀ o, h.get? S = some o → o.cls = .type "list") (n1 : S ≠ l1) (n2 : S ≠ l2) (k : ∀ c o, c ≠ S → h.get? c = some o → h'.get? c = some o) (g : ∃ o, h'.get? S = some o) : ZS h' z TI TO i1 i2 l1 l2 xs ys i := by
  have ne : ∀ {c : Addr} {o : Obj}, h.get? c = some o → o.cls ≠ .type "list" → h'.get? c = some o := fun {c o} e hc => k c o (fun q => hc (nl o (q ▸ e))) e
  obtain ⟨zz, ti, ⟨a, b, tO⟩, ⟨o1, e1, c1, d1⟩, ⟨o2, e2, c2, d2⟩, ⟨o3, e3, r3⟩, ⟨o4, e4, r4⟩⟩ := Z
  refine ⟨?_, ne ti (by simp), ⟨a, b, ne tO (by simp)⟩, ⟨o1, ne e1 (by rw [c1]; simp), c1, d1⟩, ⟨o2, ne e2 (by rw [c2]; simp), c2, d2⟩, ⟨o3, k _ _ (Ne.symm n1) e3, r3⟩, ⟨o4, k _ _ (Ne.symm n2) e4, r4⟩⟩
  rcases zz with zz | ⟨T, f, o, zz, hT⟩
  · exact .inl (ne zz (by simp))
  · refine .inr ⟨T, f, ?_⟩
    by_cases e : T = S
    · obtain ⟨u, hu⟩ := g
      exact ⟨u, ne zz (by simp), e ▸ hu⟩
    · exact ⟨o, ne zz (by simp), k _ _ e hT⟩
theorem zs_item {i : Nat} {x y : Value} {Q : Option Value → Shared → Prop} (D : ZipApart z TI TO i1 i2 l1 l2) (Z : ZS s.heap z TI TO i1 i2 l1 l2 xs ys i) (hx : xs[i]? = some x) (hy : ys[i]? = some y)
    (hQ : ∀ h', ZS h' z TI TO i1 i2 l1 l2 xs ys (i + 1) → IsPair h' s.heap.objs.size x y → h'.objs.size = s.heap.objs.size + 1 → (∀ c o, c ≠ z → c ≠ TO → c ≠ i1 → c ≠ i2 → s.heap.get? c = some o → h'.get? c = some o) → Q (some (.ref s.heap.objs.size)) { s with heap := h' }) :
    wpAny (model prog w) A (pyNext (.ref z)) Q E s := by
  obtain ⟨zz, ti, ⟨a, b, tO⟩, h1, h2, p, q⟩ := Z
  have hl : ∀ {l : Addr} {us : Array Value} {h' : Heap}, s.heap.IsList l us → l ≠ z → l ≠ TO → l ≠ i1 → l ≠ i2 → (∀ c o, c ≠ z → c ≠ TO → c ≠ i1 → c ≠ i2 → s.heap.get? c = some o → h'.get? c = some o) → h'.IsList l us :=
    fun {l us h'} ⟨o, e, r⟩ n1 n2 n3 n4 k => ⟨o, k _ _ n1 n2 n3 n4 e, r⟩
  rcases zz with zz | ⟨T, f, o, zz, hT⟩
  · refine wpAny_pyNext_zip_item D zz ti tO h1 h2 p q hx hy fun h' z' TO' h1' h2' hT hsz hk => ?_
    exact hQ h' ⟨.inr ⟨_, false, _, z', hT⟩, hk _ _ D.TIz D.TITO D.TIi1 D.TIi2 ti, ⟨_, _, TO'⟩, h1', h2', hl p D.l1z D.l1TO D.l1i1 D.l1i2 hk, hl q D.l2z D.l2TO D.l2i1 D.l2i2 hk⟩ hT hsz hk
  · refine wpAny_pyNext_zip_item_held D zz hT ti h1 h2 p q hx hy fun h' z' h1' h2' hT hsz hk => ?_
    have hk' : ∀ c o, c ≠ z → c ≠ TO → c ≠ i1 → c ≠ i2 → s.heap.get? c = some o → h'.get? c = some o := fun c o n1 _ n3 n4 e => hk c o n1 n3 n4 e
    refine hQ h' ⟨.inr ⟨T, true, ?_⟩, hk' _ _ D.TIz D.TITO D.TIi1 D.TIi2 ti, ⟨_, _, hk _ _ D.TOz D.TOi1 D.TOi2 tO⟩, h1', h2', hl p D.l1z D.l1TO D.l1i1 D.l1i2 hk', hl q D.l2z D.l2TO D.l2i1 D.l2i2 hk'⟩ hT hsz hk'
    have old := ‹s.heap.get? T = some o›
    by_cases e1 : T = z
    · subst e1; exact ⟨_, z', z'⟩
    · by_cases e2 : T = i1
      · obtain ⟨u, hu, _⟩ := h1'
        exact ⟨u, z', e2 ▸ hu⟩
      · by_cases e3 : T = i2
        · obtain ⟨u, hu, _⟩ := h2'
          exact ⟨u, z', e3 ▸ hu⟩
        · exact ⟨o, z', hk _ _ e1 e2 e3 old⟩
theorem zs_stop {i : Nat} {Q : Option Value → Shared → Prop} (hh : A.handled = none) (D : ZipApart z TI TO i1 i2 l1 l2) (Z : ZS s.heap z TI TO i1 i2 l1 l2 xs ys i) (he : xs[i]? = none ∨ ys[i]? = none)
    (hQ : ∀ h', (∀ c o, c ≠ z → c ≠ TO → c ≠ i1 → c ≠ i2 → s.heap.get? c = some o → h'.get? c = some o) → Q none { s with heap := h' }) : wpAny (model prog w) A (pyNext (.ref z)) Q E s := by
  obtain ⟨zz, ti, ⟨a, b, tO⟩, h1, h2, p, q⟩ := Z
  rcases zz with zz | ⟨T, f, o, zz, hT⟩
  · exact wpAny_pyNext_zip_end hh D zz ti tO h1 h2 p q he fun h' hk => hQ h' hk
  · exact wpAny_pyNext_zip_end_held hh D zz hT ti h1 h2 p q he fun h' hk => hQ h' fun c o n1 _ n3 n4 e => hk c o n1 n3 n4 e
/-- what the list is filled with: new pairs -/
def PairsAt (h : Heap) (N0 : Nat) (xs ys : Array Value) (ts : List Addr) : Prop := ts.Nodup ∧ ∀ (j : Nat) (t : Addr), ts[j]? = some t → N0 ≤ t ∧ ∃ x y, xs[j]? = some x ∧ ys[j]? = some y ∧ IsPair h t x y
abbrev lstObj (ts : List Addr) (c : Nat) : Obj := { cls := .type "list", dict := none, data := .seq ((ts.map Value.ref).toArray) c, slots := #[] }
theorem zip_fill {R : Result → Shared → Prop} (hh : A.handled = none) (D : ZipApart z TI TO i1 i2 l1 l2) {S : Addr} (n1 : S ≠ l1) (n2 : S ≠ l2) {N0 n : Nat} (hn : n ≤ sizeLine) (res : Value) (lz : z < N0) (lO : TO < N0) (la : i1 < N0) (lb : i2 < N0) (lS : S < N0) (hmin : n = min xs.size ys.size) :
    ∀ (k i : Nat) (s : Shared) (c : Nat) (ts : List Addr), n - i = k → i ≤ n → ZS s.heap z TI TO i1 i2 l1 l2 xs ys i → s.heap.get? S = some (lstObj ts c) → ts.length = i → PairsAt s.heap N0 xs ys ts → N0 ≤ s.heap.objs.size →
    (∀ (h' : Heap) (ts' : List Addr) (c' : Nat), (∀ b o, b ≠ S → b ≠ z → b ≠ TO → b ≠ i1 → b ≠ i2 → s.heap.get? b = some o → h'.get? b = some o) → h'.get? S = some (lstObj ts' c') → ts'.length = n → PairsAt h' N0 xs ys ts' → R (.ok (.ret res)) { s with heap := h' }) →
    codeAny (model prog w) A (.builtin "list.extend.loop" ⟨[.ref S, .ref z, res], []⟩) R s := by
  have nS : ∀ {s : Shared} {i : Nat} {ts : List Addr} {c : Nat}, ZS s.heap z TI TO i1 i2 l1 l2 xs ys i → s.heap.get? S = some (lstObj ts c) → S ≠ z ∧ S ≠ TO ∧ S ≠ i1 ∧ S ≠ i2 := by
    intro s i ts c Z hS
    obtain ⟨zz, ti, ⟨a, b, tO⟩, ⟨o1, e1, c1, d1⟩, ⟨o2, e2, c2, d2⟩, _, _⟩ := Z
    have dif : ∀ {c' : Addr} {o : Obj}, s.heap.get? c' = some o → o.cls ≠ .type "list" → S ≠ c' := fun {c' o} e hc q => by
      rw [← q, hS] at e
      exact hc (by rw [← Option.some.inj e])
    refine ⟨?_, dif tO (by simp), dif e1 (by rw [c1]; simp), dif e2 (by rw [c2]; simp)⟩
    rcases zz with zz | ⟨T, f, o, zz, _⟩
    · exact dif zz (by simp)
    · exact dif zz (by simp)
  intro k
  induction k with
  | zero =>
    intro i s c ts hk hi Z hS hl hP hN hR
    obtain ⟨m1, m2, m3, m4⟩ := nS Z hS
    refine codeAny_builtin F.entry_extend_loop ?_
    rw [Around.under_plainId F.plain_extend_loop _]
    show wpAny _ A.in1 (pyNext (.ref z) >>= _) _ _ s
    have he : xs[i]? = none ∨ ys[i]? = none := by
      rcases Nat.lt_or_ge i xs.size with q | q
      · right; simp; omega
      · left; simp; omega
    refine wpAny_bind (zs_stop (A := A.in1) hh D Z he fun h' hk' => wpAny_pure (hR h' ts c (fun b o _ b1 b2 b3 b4 e => hk' b o b1 b2 b3 b4 e) (hk' _ _ m1 m2 m3 m4 hS) (by omega) ⟨hP.1, fun j t ht => ?_⟩))
    obtain ⟨a0, x, y, a1, a2, a3⟩ := hP.2 j t ht
    exact ⟨a0, x, y, a1, a2, hk' _ _ (Nat.ne_of_gt (Nat.lt_of_lt_of_le lz a0)) (Nat.ne_of_gt (Nat.lt_of_lt_of_le lO a0)) (Nat.ne_of_gt (Nat.lt_of_lt_of_le la a0)) (Nat.ne_of_gt (Nat.lt_of_lt_of_le lb a0)) a3⟩
  | succ k ih =>
    intro i s c ts hk hi Z hS hl hP hN hR
    obtain ⟨m1, m2, m3, m4⟩ := nS Z hS
    refine codeAny_builtin F.entry_extend_loop ?_
    rw [Around.under_plainId F.plain_extend_loop _]
    show wpAny _ A.in1 (pyNext (.ref z) >>= _) _ _ s
    have ix : i < xs.size := by omega
    have iy : i < ys.size := by omega
    refine wpAny_bind (zs_item (A := A.in1) D Z (x := xs[i]) (y := ys[i]) (by simp [ix]) (by simp [iy]) fun h' Z' hT hsz hk' => ?_)
    have hS' : h'.get? S = some (lstObj ts c) := hk' _ _ m1 m2 m3 m4 hS
    show wpAny _ A.in1 (updateSeq S (·.push (.ref s.heap.objs.size)) >>= _) _ _ _
    have hS2 := Heap.get?_update_self (Obj.mapSeq (·.push (Value.ref s.heap.objs.size))) hS' rfl
    have oth : ∀ b o, b ≠ S → h'.get? b = some o → (h'.update S (Obj.mapSeq (·.push (Value.ref s.heap.objs.size)))).get? b = some o := fun b o hb e => (Heap.get?_update_other _ _ (Ne.symm hb)).trans e
    have hpush : (Obj.mapSeq (·.push (Value.ref s.heap.objs.size)) (lstObj ts c)) = lstObj (ts ++ [s.heap.objs.size]) (c + 1) := by
      simp [Obj.mapSeq, lstObj]
    rw [hpush] at hS2
    have lS' : S < s.heap.objs.size := Heap.lt_size hS
    refine wpAny_bind (wpAny_updateSeq hS' rfl (wpAny_pure ⟨plainId_quiet F.plain_extend_loop _, ih (i + 1) { s with heap := h'.update S (Obj.mapSeq (·.push (Value.ref s.heap.objs.size))) } _ (ts ++ [s.heap.objs.size]) (by omega) (by omega) ?_ hS2 (by simp [hl]) ?_ ?_ ?_⟩) (by simp [hl]; omega) (by simp [hl]; omega))
    · exact Z'.at (Heap.lt_size hS') (fun o e => by rw [hS'] at e; rw [← Option.some.inj e]) n1 n2 oth ⟨_, hS2⟩
    · refine ⟨List.nodup_append.mpr ⟨hP.1, by simp, fun a ha b hb => ?_⟩, fun j t ht => ?_⟩
      · rw [List.mem_singleton.mp hb]
        obtain ⟨j, hj⟩ := List.mem_iff_getElem?.mp ha
        obtain ⟨_, _, _, _, _, a3⟩ := hP.2 j a hj
        exact Nat.ne_of_lt (Heap.lt_size a3)
      · rcases Nat.lt_or_ge j ts.length with q | q
        · rw [List.getElem?_append_left q] at ht
          obtain ⟨a0, x, y, a1, a2, a3⟩ := hP.2 j t ht
          exact ⟨a0, x, y, a1, a2, oth _ _ (Nat.ne_of_gt (Nat.lt_of_lt_of_le lS a0)) (hk' _ _ (Nat.ne_of_gt (Nat.lt_of_lt_of_le lz a0)) (Nat.ne_of_gt (Nat.lt_of_lt_of_le lO a0)) (Nat.ne_of_gt (Nat.lt_of_lt_of_le la a0)) (Nat.ne_of_gt (Nat.lt_of_lt_of_le lb a0)) a3)⟩
        · rw [List.getElem?_append_right q] at ht
          have e0 : j - ts.length = 0 := by
            rcases Nat.eq_zero_or_pos (j - ts.length) with e | e
            · exact e
            · rw [List.getElem?_eq_none (by simp; omega)] at ht; cases ht
          rw [e0] at ht
          have et : s.heap.objs.size = t := by simpa using ht
          have ej : j = i := by omega
          subst et ej
          exact ⟨hN, _, _, by simp [ix], by simp [iy], oth _ _ (Nat.ne_of_gt lS') hT⟩
    · show N0 ≤ (h'.update S _).objs.size
      rw [Heap.size_update, hsz]
      omega
    · intro h2 ts2 c2 hk2 hS3 hl3 hP3
      exact hR h2 ts2 c2 (fun b o b0 b1 b2 b3 b4 e => hk2 b o b0 b1 b2 b3 b4 (oth b o b0 (hk' b o b1 b2 b3 b4 e))) hS3 hl3 hP3
theorem no_len_zip : typeLookup (.type "zip") "__len__" = pure none := by rw [typeLookup_type, builtinLookup_eq_fast]; kernel_rfl
theorem no_hint_zip : typeLookup (.type "zip") "__length_hint__" = pure none := by rw [typeLookup_type, builtinLookup_eq_fast]; kernel_rfl
theorem ZS.type {i : Nat} (Z : ZS s.heap z TI TO i1 i2 l1 l2 xs ys i) : s.TypeIs (.ref z) "zip" := by
  rcases Z.zip with zz | ⟨T, f, o, zz, _⟩
  · exact ⟨_, zz, rfl⟩
  · exact ⟨_, zz, rfl⟩
/-- list(zip(a, b)) where the zip stands new -/
theorem list_of_zip {Q : Value → Shared → Prop} (hh : A.handled = none) (D : ZipApart z TI TO i1 i2 l1 l2) (zf : IsZip s.heap z TI TO .none) (Z : ZS s.heap z TI TO i1 i2 l1 l2 xs ys 0) (lO : TO < s.heap.objs.size) (la : i1 < s.heap.objs.size) (lb : i2 < s.heap.objs.size) {n : Nat} (hn : n ≤ sizeLine) (hmin : n = min xs.size ys.size)
    (hQ : ∀ (h' : Heap) (ts : List Addr) (c : Nat), (∀ b o, b ≠ z → b ≠ TO → b ≠ i1 → b ≠ i2 → s.heap.get? b = some o → h'.get? b = some o) → h'.get? s.heap.objs.size = some (lstObj ts c) → ts.length = n → PairsAt h' (s.heap.objs.size + 1) xs ys ts → Q (.ref s.heap.objs.size) { s with heap := h' }) :
    wpAny (model prog w) A (call (.type "list") [.ref z]) Q E s := by
  have lz : z < s.heap.objs.size := let ⟨_, e, _⟩ := Z.type; Heap.lt_size e
  have ll1 : l1 < s.heap.objs.size := let ⟨_, e, _⟩ := Z.p; Heap.lt_size e
  have ll2 : l2 < s.heap.objs.size := let ⟨_, e, _⟩ := Z.q; Heap.lt_size e
  refine callType_codes (Q₁ := fun obj s₁ => obj = .ref s.heap.objs.size ∧ s₁ = { s with heap := s.heap.push { cls := .type "list", data := .seq #[] } }) PySem.F.called_list (PySem.F.typeCall_list_1 _) PySem.F.entry_list_init (code_list_new _ ⟨rfl, rfl⟩) fun obj s₁ h₁ => ?_
  obtain ⟨rfl, rfl⟩ := h₁
  have hS : (s.heap.push { cls := .type "list", data := .seq #[] }).get? s.heap.objs.size = some { cls := .type "list", data := .seq #[] } := Heap.get?_push_size _ rfl
  refine ⟨⟨_, hS, rfl⟩, PySem.F.args_list_init_2 _ _, ?_⟩
  show wpAny _ A.in1.in1 (do let old ← Builtin.List.listItems (.ref s.heap.objs.size); Builtin.List.listUpdate (.ref s.heap.objs.size) (fun _ => #[]); letGo old.toList.reverse; Builtin.List.listExtendWith (.ref s.heap.objs.size) (.ref z) .none) _ _ _
  refine wpAny_bind ?_
  unfold Builtin.List.listItems
  refine wpAny_bind (wpAny_seqItems hS rfl (wpAny_pure ?_))
  show wpAny _ _ (updateSeq s.heap.objs.size (fun _ => #[]) >>= fun _ => letGo (#[] : Array Value).toList.reverse >>= fun _ => Builtin.List.listExtendWith (.ref s.heap.objs.size) (.ref z) .none) _ _ _
  refine wpAny_bind (wpAny_updateSeq hS rfl (wpAny_bind (wpAny_letGo ?_)))
  have hS2 := Heap.get?_update_self (Obj.mapSeq (fun _ => (#[] : Array Value))) hS rfl
  generalize hH : (s.heap.push { cls := .type "list", data := .seq #[] }).update s.heap.objs.size (Obj.mapSeq (fun _ => (#[] : Array Value))) = H2 at hS2 ⊢
  have up : ∀ b o, s.heap.get? b = some o → H2.get? b = some o := fun b o e => by
    rw [← hH]
    exact (Heap.get?_update_other _ _ (Nat.ne_of_gt (Heap.lt_size e))).trans (Heap.get?_push_of_some _ e)
  have hz2 : H2.objs.size = s.heap.objs.size + 1 := by rw [← hH, Heap.size_update, Heap.size_push]
  have Z2 : ZS H2 z TI TO i1 i2 l1 l2 xs ys 0 := by
    obtain ⟨zz, ti, ⟨a, b, tO⟩, ⟨o1, e1, r1⟩, ⟨o2, e2, r2⟩, ⟨o3, e3, r3⟩, ⟨o4, e4, r4⟩⟩ := Z
    refine ⟨?_, up _ _ ti, ⟨a, b, up _ _ tO⟩, ⟨o1, up _ _ e1, r1⟩, ⟨o2, up _ _ e2, r2⟩, ⟨o3, up _ _ e3, r3⟩, ⟨o4, up _ _ e4, r4⟩⟩
    rcases zz with zz | ⟨T, f, o, zz, hT⟩
    · exact .inl (up _ _ zz)
    · exact .inr ⟨T, f, o, up _ _ zz, up _ _ hT⟩
  unfold Builtin.List.listExtendWith
  refine wpAny_bind (wpAny_typeOf (ZS.type (s := { s with heap := H2 }) Z2) ?_)
  have e1 : Builtin.List.listSameRef (.ref s.heap.objs.size) (.ref z) = false := by simp [Builtin.List.listSameRef, Nat.ne_of_gt lz]
  have e2 : (Value.type "zip" == Value.type "list") = false := by decide
  have e3 : (Value.type "zip" == Value.type "tuple") = false := by decide
  simp only [e1, e2, e3, Bool.or_false, Bool.false_eq_true, if_false]
  refine wpAny_bind (wpAny_pyIter_zip (s := { s with heap := H2 }) (up _ _ zf) (wpAny_bind (wpAny_holding ?_)))
  unfold Builtin.List.listLengthHint
  refine wpAny_bind (wpAny_specialOf (ZS.type (s := { s with heap := H2 }) Z2) no_len_zip ?_)
  show wpAny _ A.in1.in1 (specialOf (Value.ref z) (Str.ofString "__length_hint__") >>= _) _ _ _
  refine wpAny_bind (wpAny_specialOf (ZS.type (s := { s with heap := H2 }) Z2) no_hint_zip (wpAny_pure ?_))
  show wpAny _ A.in1.in1 (rule "list.extend.makes-room" >>= fun _ => Builtin.List.listTouch (.ref s.heap.objs.size) >>= fun _ => again (.builtin "list.extend.loop" ⟨[.ref s.heap.objs.size, .ref z, .none], []⟩)) _ _ _
  refine wpAny_bind (wpAny_rule (wpAny_bind ?_))
  show wpAny _ A.in1.in1 (updateSeq s.heap.objs.size (·.push .none) >>= fun _ => updateSeq s.heap.objs.size (·.pop)) _ _ _
  refine wpAny_bind (wpAny_updateSeq hS2 rfl ?_)
  have hS3 := Heap.get?_update_self (Obj.mapSeq (·.push Value.none)) hS2 rfl
  refine wpAny_updateSeq hS3 rfl ?_
  have hS4 := Heap.get?_update_self (Obj.mapSeq (·.pop)) hS3 rfl
  generalize hG : (H2.update s.heap.objs.size (Obj.mapSeq (·.push Value.none))).update s.heap.objs.size (Obj.mapSeq (·.pop)) = H4 at hS4 ⊢
  have up4 : ∀ b o, b ≠ s.heap.objs.size → H2.get? b = some o → H4.get? b = some o := fun b o hb e => by
    rw [← hG]
    exact (Heap.get?_update_other _ _ (Ne.symm hb)).trans ((Heap.get?_update_other _ _ (Ne.symm hb)).trans e)
  have hz4 : H4.objs.size = s.heap.objs.size + 1 := by rw [← hG, Heap.size_update, Heap.size_update, hz2]
  have Z4 : ZS H4 z TI TO i1 i2 l1 l2 xs ys 0 := Z2.at (Heap.lt_size hS2) (fun o e => by rw [hS2] at e; rw [← Option.some.inj e]; rfl) (Nat.ne_of_gt ll1) (Nat.ne_of_gt ll2) up4 ⟨_, hS4⟩
  refine wpAny_pure ⟨plainId_quiet F.plain_extend_loop _, zip_fill (A := A.in1) (N0 := s.heap.objs.size + 1) hh D (Nat.ne_of_gt ll1) (Nat.ne_of_gt ll2) hn .none (Nat.lt_succ_of_lt lz) (Nat.lt_succ_of_lt lO) (Nat.lt_succ_of_lt la) (Nat.lt_succ_of_lt lb) (Nat.lt_succ_self _) hmin n 0 { s with heap := H4 } _ [] (by omega) (Nat.zero_le _) Z4 hS4 rfl ⟨List.nodup_nil, fun j t ht => by simp at ht⟩ (Nat.le_of_eq hz4.symm) fun h' ts c hk hl hlen hP => ?_⟩
  exact ⟨rfl, hQ h' ts c (fun b o b1 b2 b3 b4 e => hk b o (Nat.ne_of_lt (Heap.lt_size e)) b1 b2 b3 b4 (up4 b o (Nat.ne_of_lt (Heap.lt_size e)) (up b o e))) hl hlen hP⟩
end
theorem vals_back : ∀ {xs : List V} {us : List Value} {i : Nat} {u : Value}, Vals xs us → us[i]? = some u → ∃ x, xs[i]? = some x ∧ RelV x u
  | _, _, _, _, .nil, e => by simp at e
  | _, _, 0, _, .cons r _, e => by
    have e := Option.some.inj e
    subst e
    exact ⟨_, rfl, r⟩
  | _, _, i + 1, u, .cons (l₁ := xs) (l₂ := us) _ t, e => by
    have e : us[i]? = some u := by simpa using e
    obtain ⟨x, h1, h2⟩ := vals_back t e
    exact ⟨x, by simpa using h1, h2⟩
theorem vals_refs : ∀ ts : List Addr, Vals (ts.map V.ref) (ts.map Value.ref)
  | [] => .nil
  | t :: ts => .cons rfl (vals_refs ts)
/-- list(zip(a, b)) of two lists: a new list of new pairs -/
def tListZip (K : PySem.W.Frag) (ta : TA) : TE := fun σ H Q => ta σ H fun vs H1 => ∃ a b xs ys, vs = [V.ref a, V.ref b] ∧ SqL K H1 a xs ∧ SqL K H1 b ys ∧ ∀ (ts : List Addr) (l : Addr) (H2 : Hp), (∀ c o, H1 c = some o → H2 c = some o) →
  ts.length = min xs.length ys.length → (∀ t ∈ ts, H1 t = none) → (∀ (j : Nat) (t : Addr), ts[j]? = some t → ∃ x y, xs[j]? = some x ∧ ys[j]? = some y ∧ H2 t = some (.tup [x, y])) → H1 l = none → H2 l = some (.lst (ts.map V.ref)) → Q (.ref l) H2
theorem pe_listZip {X : Cx} {e e2 : Expr} {ta : TA} {p p2 pos pos2 : Pos} (hc : X.calm = true) (hgl : Gl X "list") (hml : X.mg "list" = none) (hg : Gl X "zip") (hm : X.mg "zip" = none) (ha : PA X [e, e2] ta)
    (hs : starEach [e, e2] X.env = (false, eval e X.env) :: starEach [e2] X.env := by rfl) (hpl : (backTo pos2 (starEach [e2] X.env)).any (·.1) = false := by rfl)
    (hs1 : starEach [Expr.Call (.Name "zip" p2) [e, e2] [] pos2] X.env = (false, eval (Expr.Call (.Name "zip" p2) [e, e2] [] pos2) X.env) :: starEach [] X.env := by rfl) (hpl1 : (backTo pos (starEach [] X.env)).any (·.1) = false := by rfl) :
    PE X (.Call (.Name "list" p) [.Call (.Name "zip" p2) [e, e2] [] pos2] [] pos) (tListZip X.K ta) := by
  refine ⟨fun pins s σ H Q I h => ?_⟩
  refine wpAny_Call_Name_kw (ld_blt I hgl hml PyProof.Rows.boot_list (PyProof.Rows.callWith_type1 ?_ hs1 hpl1))
  rw [hs1]
  refine Calls.spliced_cons ?_
  refine wpAny_Call_Name_kw (ld_blt I hg hm PyProof.Rows.boot_zip (PyProof.Rows.callWith_type1 (thn (ha.run pos2 pins s σ H _ I h) fun us s1 ⟨vs, H1, I1, r1, q1⟩ => ?_) hs hpl))
  obtain ⟨a, b, xs, ys, ex, hqx, hqy, q⟩ := q1
  subst ex
  cases r1 with
  | cons r rr =>
  cases rr with
  | cons r' rr =>
  cases rr
  cases r
  cases r'
  obtain ⟨its, rv, p1, z1⟩ := I1.list hqx
  obtain ⟨its2, rv2, p2', z2⟩ := I1.list hqy
  have la : a < s1.heap.objs.size := p1.lt
  have lb : b < s1.heap.objs.size := p2'.lt
  have lx := rv.length
  have ly := rv2.length
  refine call_zip_2 p1.isList p2'.isList fun h' hz hTI hTO h1 h2 hsz hk => ?_
  refine Calls.spliced_nil ?_
  refine list_of_zip (s := { s1 with heap := h' }) (n := min xs.length ys.length) (I1.ok.hd hc) (PySem.W.ktu_apart s1.heap.objs.size a b la lb) hz ⟨.inl hz, hTI, ⟨_, _, hTO⟩, h1, h2, p1.isList.at fun o e => hk _ _ e, p2'.isList.at fun o e => hk _ _ e⟩ (by show _ < h'.objs.size; omega) (by show _ < h'.objs.size; omega) (by show _ < h'.objs.size; omega) (Nat.le_trans (Nat.min_le_left _ _) z1) (by simp [lx, ly]) fun h2' ts c hk2 hl hlen hP => ?_
  have old : ∀ c o, s1.heap.get? c = some o → h2'.get? c = some o := fun c o e => by
    have lt := Heap.lt_size e
    exact hk2 c o (Nat.ne_of_lt (Nat.lt_of_lt_of_le lt (Nat.le_add_right _ _))) (Nat.ne_of_lt (Nat.lt_of_lt_of_le lt (Nat.le_add_right _ _))) (Nat.ne_of_lt lt) (Nat.ne_of_lt (Nat.lt_of_lt_of_le lt (Nat.le_add_right _ _))) (hk c o e)
  have Ik : Inv X pins σ H1 { s1 with heap := h2' } := I1.kept (t' := s1.toks) old
  have hl0 : s1.heap.objs.size ≤ h'.objs.size := by omega
  have nl : H1 h'.objs.size = none := I1.hok.fresh hl0
  have Il : Inv X pins σ (upd H1 h'.objs.size (.lst (ts.map V.ref))) { s1 with heap := h2' } := Ik.take (h' := h2') (t' := s1.toks) (fun b ob _ e => e) (I1.fpOk hl0 nl) ⟨by rw [List.length_map, hlen]; exact Nat.le_trans (Nat.min_le_left _ _) z1, ts.map Value.ref, c, vals_refs ts, hl⟩
  have side : ∀ t ∈ ts, s1.heap.objs.size ≤ t ∧ (upd H1 h'.objs.size (.lst (ts.map V.ref))) t = none ∧ ∃ vs, (∃ (j : Nat) (x y : V), ts[j]? = some t ∧ xs[j]? = some x ∧ ys[j]? = some y ∧ vs = [x, y]) ∧ ∀ H2, ObjOk X.prog X.w H2 h2' t (.tup vs) := fun t ht => by
    obtain ⟨j, hj⟩ := List.mem_iff_getElem?.mp ht
    obtain ⟨g0, u, v, g1, g2, g3⟩ := hP.2 j t hj
    have hge : s1.heap.objs.size ≤ t := Nat.le_trans hl0 (Nat.le_of_succ_le g0)
    obtain ⟨x, ex, rx⟩ := vals_back rv (by simpa using g1)
    obtain ⟨y, ey, ry⟩ := vals_back rv2 (by simpa using g2)
    refine ⟨hge, by rw [upd_ne (Nat.ne_of_gt g0)]; exact I1.hok.fresh hge, [x, y], ⟨j, x, y, hj, ex, ey, rfl⟩, fun H2 => ⟨by show 2 ≤ sizeLine; decide, [u, v], .cons rx (.cons ry .nil), ⟨_, g3, rfl, _, rfl⟩⟩⟩
  obtain ⟨H2, I2, up, tu⟩ := DX.takeT (P := fun t vs => ∃ (j : Nat) (x y : V), ts[j]? = some t ∧ xs[j]? = some x ∧ ys[j]? = some y ∧ vs = [x, y]) I1 ts _ Il hP.1 side
  refine ⟨.ref h'.objs.size, H2, I2, rfl, q ts _ H2 (fun c o e => up c o (by rw [upd_ne (ne_of_none e nl)]; exact e)) hlen (fun t ht => ?_) (fun j t ht => ?_) nl (up _ _ upd_same)⟩
  · obtain ⟨j, hj⟩ := List.mem_iff_getElem?.mp ht
    exact I1.hok.fresh (Nat.le_trans hl0 (Nat.le_of_succ_le (hP.2 j t hj).1))
  · obtain ⟨vs, ⟨j', x, y, e1, e2, e3, rfl⟩, e4⟩ := tu t (List.mem_of_getElem? ht)
    have ej : j = j' := (List.getElem?_inj (List.getElem?_eq_some_iff.mp ht).1 hP.1).mp (ht.trans e1.symm)
    subst ej
    exact ⟨x, y, e2, e3, e4⟩
end Kd
set_option maxHeartbeats 4000000
/-! setdefault with tuples as keys; del xs[0:] of an empty list; deep == told by trees. -/
namespace Kd
open PySem PySem.Spec PyProof.Rows L2
section
variable {X : Cx}
/-- d.setdefault(k, x), keys that are tuples -/
def rSetdT : V → List V → Hp → VK → Prop := fun x xs H Q => ∃ (a : Addr) (kvs : List (List L2.Key × V)) (k : List L2.Key) (b : Addr) (y : V), x = .ref a ∧ xs = [.ref b, y] ∧ H a = some (.dT kvs) ∧ H b = some (.tup (k.map kV)) ∧ kvs.length < sizeLine ∧
  (∀ v, valV kvs k = some v → Q v H) ∧ (valV kvs k = none → Q y (upd H a (.dT (putK kvs k y))))
theorem mt_setdT (hu : X.A.units + 64 < cLine) : MtR X "dict.setdefault" rSetdT := by
  intro pins s σ H x xs v us Q I rx rxs h
  obtain ⟨a, kvs, k, b, y, rfl, rfl, ha, hb, hl, q1, q2⟩ := h
  cases rx
  obtain ⟨u1, u2, rfl, r1, r2⟩ := vals2 rxs
  cases r1
  obtain ⟨z, hd, ps, rel, dd⟩ := dt_of I.hok ha
  have hz : ps.length ≤ sizeLine := by rw [← Paired.length rel]; exact z
  have val := rel.val k
  refine call_setdefault_heap (knd := tupleKind (mixKind X.prog X.w)) (k := k) (tupleKind_room_in1 (by omega)) (key_of I.hok hb) hd dd (fun p hp => ?_) (fun hn h' dd' hs => ?_) hz
  · rw [hp] at val
    cases ev : valV kvs k with
    | none => rw [ev] at val; exact (show False from val).elim
    | some v0 =>
      rw [ev] at val
      exact ⟨v0, H, I.tok _, val, q1 v0 ev⟩
  · rw [hn] at val
    cases ev : valV kvs k with
    | some v0 => rw [ev] at val; exact (show False from val).elim
    | none =>
      obtain ⟨o, es, ep, hq, g2, g3, g4, _, g5⟩ := dd'
      have hl2 : (putK kvs k y).length ≤ sizeLine := by
        have := length_putK kvs k y
        omega
      have nb : b ≠ a := ne_of hb ha (fun z => nomatch z)
      refine ⟨y, upd H a (.dT (putK kvs k y)), d_write (ob := .dT (putK kvs k y)) (t' := s.toks + _) I (by rw [ha]; exact True.intro) hs ⟨o, hq⟩ ⟨hl2, hd, _, (rel.put k hb r2).keeps (fun c ws ec => (by rw [upd_ne (ne_of ec ha (fun z => nomatch z))]; exact ec)), o, es, ep, hq, g2, g3, g4, g5⟩, r2, q2 ev⟩
/-! ### del xs[0:] of an empty list -/
theorem del_cut0 {prog : Program} {w : World} {A : Around} {E : Value → Shared → Prop} {s : Shared} {l sl : Addr} {n : Nat} {vl : Value} {Q : Unit → Shared → Prop} (e : s.heap.get? l = some { cls := .type "list", data := .seq #[] n }) (hs : s.heap.IsSliceOf sl vl .none .none) (pl : IsPart vl (some ((0 : Nat) : Int)))
    (h : ∀ f : Array Value → Array Value, f #[] = #[] → Q () { s with heap := s.heap.update l (Obj.mapSeq f) }) : wpAny (model prog w) A (delItem (.ref l) (.ref sl)) Q E s := by
  have hl : s.heap.IsList l #[] := PySem.IsL.isList e
  obtain ⟨os, hos, hcs, hds⟩ := id hs
  have hTs : s.TypeIs (.ref sl) "slice" := ⟨os, hos, hcs⟩
  have hstep : ¬ ((rawPart none == rawInt 0) = true) := Bool.false_ne_true
  refine wpAny_delItem_slot hl.typeIs (by decide) F.slot_list_delitem (wpAny_call_entry F.slot_list_delitem hl.typeIs F.entry_list_delitem ?_ (F.args_list_delitem_2 _ _))
  show wpAny _ _ (Builtin.List.listSubscript? (.ref sl) >>= _) _ _ s
  refine wpAny_bind ?_
  unfold Builtin.List.listSubscript?
  refine wpAny_bind (wpAny_specialOf hTs slice_no_index ?_)
  simp only [Option.isNone_none, if_true]
  refine wpAny_pure ?_
  show wpAny _ _ (typeOf (.ref sl) >>= _) _ _ s
  refine wpAny_bind (wpAny_typeOf hTs ?_)
  refine wp_if_neg (by decide) ?_
  rw [listSliceParts_eq]
  refine wpAny_bind (wpAny_bind (wpAny_field hos hds (x := .none) rfl (wpAny_bind (wpAny_listPart .none ?_))))
  rw [if_neg hstep]
  refine wpAny_bind (wpAny_field hos hds (x := vl) rfl (wpAny_bind (wpAny_listPart pl ?_)))
  refine wpAny_bind (wpAny_field hos hds (x := .none) rfl (wpAny_bind (wpAny_listPart .none (wpAny_pure ?_))))
  refine wpAny_bind ?_
  unfold Builtin.List.listItems
  refine wpAny_bind (wpAny_seqItems e rfl (wpAny_pure ?_))
  refine wpAny_bind (wpAny_of_eq ((sliceIndices_raw (some ((0 : Nat) : Int)) none none 0 (by simp)).trans (congrArg (pure : Int × Int × Int → Sem (Int × Int × Int)) (show sliceBounds (some ((0 : Nat) : Int)) none none 0 = (0, 0, 1) by decide))) ?_)
  refine wpAny_bind (wpAny_rule ?_)
  show wpAny _ _ (updateSeq l _ >>= fun _ => _) _ _ s
  refine wpAny_bind (wpAny_updateSeq e rfl (wpAny_bind (wpAny_letGo ?_)))
  exact wpAny_pure ⟨.none, rfl, h _ rfl⟩
/-- del xs[lo:] where nothing stands there -/
def tDelCut (to tl : TE) : TS := fun D σ H => to σ H fun x H1 => tl σ H1 fun y H2 => ∃ l : Addr, x = V.ref l ∧ y = .int 0 ∧ H2 l = some (.lst []) ∧ D.nx σ (upd H2 l (.lst []))
theorem ps_delCut {o i : Expr} {to tl : TE} {tpos ipos pos : Pos} (ho : PE X o to) (hi : PE X i tl) (hp : ∀ env, evalPart (some i) env = eval i env := by intro _; rfl) : PS X (.Delete [.Subscript o (.Slice (some i) none none ipos) tpos] pos) (tDelCut to tl) := by
  refine ⟨fun pins s σ H D I h => ?_⟩
  refine wpAny_Delete (wpAny_deleteEach_cons (wpAny_delete_Subscript (thn (ho.run pins s σ H _ I h) fun u s1 ⟨x, H1, I1, rx, q1⟩ => wpAny_Slice ?_)))
  rw [hp]
  refine thn (hi.run pins s1 σ H1 _ I1 q1) fun iv s2 ⟨y, H2, I2, ry, l, ex, ey, hH, q2⟩ => ?_
  rw [evalPart_none]
  refine wpAny_pure (wpAny_pure ?_)
  subst ex ey
  cases (show u = Value.ref l from rx)
  obtain ⟨t, rfl⟩ := (show ∃ t, iv = Value.int 0 t from ry)
  have I4 : Inv X pins σ H2 { s2 with heap := s2.heap.push { cls := .type "slice", data := .fields #[.int 0 t, .none, .none] } } := I2.kept (t' := s2.toks) fun b ob q => Heap.get?_push_of_some _ q
  obtain ⟨z, its, n, r, hl, e⟩ := I4.lstM hH
  cases r
  refine del_cut0 e (Heap.IsSliceOf.new ..) (.int _ _) fun f hf => wpAny_deleteEach_nil ⟨σ, _, I4.lset (its' := []) (t' := s2.toks) hH e hf .nil (Nat.zero_le _), q2⟩
end
end Kd
set_option maxHeartbeats 4000000
/-! deep == of trees. -/
namespace Kd
open PySem PySem.Spec PyProof.Rows L2
mutual
def toPy : D → PyData
  | .non => .none | .bl b => .bool b | .int i => .int i | .str s => .str s
  | .tup ds => .tuple (toPyL ds) | .lst ds => .list (toPyL ds) | .dct => .dict []
def toPyL : List D → List PyData
  | [] => []
  | d :: ds => toPy d :: toPyL ds
end
mutual
def noDct : D → Bool
  | .tup ds => noDctL ds | .lst ds => noDctL ds | .dct => false
  | _ => true
def noDctL : List D → Bool
  | [] => true
  | d :: ds => noDct d && noDctL ds
end
mutual
theorem dp_of {K : PySem.W.Frag} {G H : Hp} (s : Same G H) : ∀ {d : D} {v : V}, Rp G d v → noDct d = true → Dp K H v (toPy d)
  | .non, _, r, _ => by cases r; exact .non
  | .bl b, _, r, _ => by cases r; exact .bl b
  | .int i, _, r, _ => by cases r; exact .int i
  | .str x, _, r, _ => by cases r; exact .str x
  | .tup ds, _, ⟨a, vs, hv, ha, hr⟩, n => by subst hv; exact .tup (SqT.of (s a _ ha)) (dpL_of s hr n)
  | .lst ds, _, ⟨a, vs, hv, ha, hr⟩, n => by subst hv; exact .lst (SqL.of (s a _ ha)) (dpL_of s hr n)
  | .dct, _, _, n => by cases n
theorem dpL_of {K : PySem.W.Frag} {G H : Hp} (s : Same G H) : ∀ {ds : List D} {vs : List V}, RpL G ds vs → noDctL ds = true → DpAll K H vs (toPyL ds)
  | [], _, r, _ => by cases r; exact .nil
  | d :: ds, _, ⟨v, r, hv, h1, h2⟩, n => by
    subst hv
    have n : (noDct d && noDctL ds) = true := n
    rw [Bool.and_eq_true] at n
    exact .cons (dp_of s h1 n.1) (dpL_of s h2 n.2)
end
section
variable {K : PySem.W.Frag} {G : Hp} {d e : D}
theorem rd_eqD (hd : noDct d = true) (he : noDct e = true) (sd : SeqAt.shaped (toPy d) = true) (se : SeqAt.shaped (toPy e) = true) : Rd2 (rEqD K) G d e (.bl (PyData.eqv (toPy d) (toPy e))) := fun x y H s r1 r2 Q q =>
  ⟨_, _, dp_of s r1 hd, dp_of s r2 he, sd, se, q _ G H (gr0 s) rfl⟩
theorem rd_neD (hd : noDct d = true) (he : noDct e = true) (sd : SeqAt.shaped (toPy d) = true) (se : SeqAt.shaped (toPy e) = true) : Rd2 (rNeD K) G d e (.bl (!PyData.eqv (toPy d) (toPy e))) := fun x y H s r1 r2 Q q =>
  ⟨_, _, dp_of s r1 hd, dp_of s r2 he, sd, se, q _ G H (gr0 s) rfl⟩
theorem eqv_same (sd : SeqAt.shaped (toPy d) = true) : PyData.eqv (toPy d) (toPy d) = true := by
  unfold SeqAt.shaped at sd
  rw [Bool.and_eq_true] at sd
  exact SeqAt.eqv_refl _ sd.1
theorem rd_neSame (hd : noDct d = true) (sd : SeqAt.shaped (toPy d) = true) : Rd2 (rNeD K) G d d (.bl false) := by
  have h := rd_neD (K := K) (G := G) hd hd sd sd
  rw [eqv_same sd] at h
  exact h
end
end Kd
set_option maxHeartbeats 4000000
/-! Lists of one's own; loops. -/
namespace Kd
open PySem PySem.Spec PyProof.Rows L2
/-- a list that this call has made and may still change -/
structure Own (H0 G H : Hp) (l : Addr) (ds : List D) : Prop where
  h0 : H0 l = none
  g : G l = none
  e : ∃ vs, H l = some (.lst vs) ∧ RpL G ds vs
abbrev Ows (H0 G H G' H' : Hp) : Prop := ∀ m es, Own H0 G H m es → Own H0 G' H' m es
section
variable {K : PySem.W.Frag} {σ : L2.St} {G G1 : Hp} {te ta tb tc : TE} {t u : TT} {d e z : D} {b c : Bool} {v : V} {l m : Addr} {ds es : List D}
variable {M : List Addr} {G0 H0 H G' H' : Hp} {Dn : Ends} {tu tw : TS}
theorem Own.kp (o : Own H0 G H l ds) (s : Same G G') (k : Kp G H G' H') : Own H0 G' H' l ds := by
  obtain ⟨vs, e, r⟩ := o.e
  exact ⟨o.h0, (k l _ e).2 o.g, vs, (k l _ e).1, r.mono s⟩
theorem Own.upd {o' : HO} (o : Own H0 G H l ds) (n : l ≠ m) : Own H0 G (upd H m o') l ds := by
  obtain ⟨vs, e, r⟩ := o.e
  exact ⟨o.h0, o.g, vs, by rw [upd_ne n]; exact e, r⟩
theorem Own.set {vs : List V} (o : Own H0 G H l ds) (r : RpL G es vs) : Own H0 G (L2.upd H l (.lst vs)) l es := ⟨o.h0, o.g, vs, upd_same, r⟩
theorem Own.len (o : Own H0 G H l ds) : ∃ vs, H l = some (.lst vs) ∧ RpL G ds vs ∧ vs.length = ds.length := by
  obtain ⟨vs, e, r⟩ := o.e
  exact ⟨vs, e, r, r.len⟩
theorem same_frz (hg : G l = none) {o : HO} : Same G (upd G l o) := fun a u e => by rw [upd_ne (ne_of_none e hg)]; exact e
/-- it is frozen from now on -/
theorem Own.frz (o : Own H0 G H l ds) (g : Gr M G0 H0 G H) : ∃ G', Gr M G0 H0 G' H ∧ Same G G' ∧ Rp G' (.lst ds) (.ref l) ∧ (∀ m es, m ≠ l → Own H0 G H m es → Own H0 G' H m es) ∧ (∀ a, a ≠ l → G a = none → G' a = none) := by
  obtain ⟨vs, e, r⟩ := o.e
  have s : Same G (L2.upd G l (.lst vs)) := same_frz o.g
  refine ⟨_, g.frz e o.g o.h0, s, ⟨l, vs, rfl, upd_same, r.mono s⟩, fun m es n q => ?_, fun a n q => by rw [upd_ne n]; exact q⟩
  obtain ⟨ws, e2, r2⟩ := q.e
  exact ⟨q.h0, by rw [upd_ne n]; exact q.g, ws, e2, r2.mono s⟩
/-! statements -/
/-- xs = [..] -/
theorem o_new {i : Nat} {tA : TA} (h : Eds tA σ G ds) (hl : ds.length ≤ 10000000) (g : Gr M G0 H0 G H) (k : ∀ l G' H', Gr M G0 H0 G' H' → Same G G' → Kp G H G' H' → Own H0 G' H' l ds → (∀ m es, Own H0 G H m es → Own H0 G' H' m es ∧ m ≠ l) → Dn.nx (σ.set i (some (.ref l))) H') : tAsg (tLst tA) (gName i) Dn σ H := h H g.s _ fun vs G1 H1 g1 r1 => by
  refine ⟨by rw [r1.len]; exact Nat.le_trans hl (by decide), fun l hn => ?_⟩
  have gg := g.call g1
  have h0 := gg.free hn
  refine k l G1 _ (gg.tmp hn) g1.g ?_ ⟨h0, gg.gfree hn, vs, upd_same, r1⟩ fun m es o => ?_
  · exact fun a o e => ⟨by rw [upd_ne (ne_of_none (g1.kp a o e).1 hn)]; exact (g1.kp a o e).1, (g1.kp a o e).2⟩
  · have q := o.kp g1.g g1.kp
    obtain ⟨ws, e, _⟩ := q.e
    exact ⟨q.upd (ne_of_none e hn), ne_of_none e hn⟩
theorem kp_new {o : HO} (h : H l = none) : Kp G H G (upd H l o) := fun a u e => ⟨by rw [upd_ne (ne_of_none e h)]; exact e, id⟩
/-- a, b = [..], [..] -/
theorem o_parNN {i j : Nat} {tA tB : TA} {es : List D} (h : Eds tA σ G ds) (h2 : Eds tB σ G es) (hl : ds.length ≤ 10000000) (hl2 : es.length ≤ 10000000) (g : Gr M G0 H0 G H)
    (k : ∀ l m G' H', Gr M G0 H0 G' H' → Same G G' → Kp G H G' H' → Own H0 G' H' l ds → Own H0 G' H' m es → l ≠ m → (∀ q xs, Own H0 G H q xs → Own H0 G' H' q xs ∧ q ≠ l ∧ q ≠ m) → Dn.nx ((σ.set i (some (.ref l))).set j (some (.ref m))) H') : tPar i j (tCons (tLst tA) (tCons (tLst tB) tNil)) Dn σ H := h H g.s _ fun vs G1 H1 g1 r1 => by
  refine ⟨by rw [r1.len]; exact Nat.le_trans hl (by decide), fun l hn => ?_⟩
  have ga := g.call g1
  have gb := ga.tmp (o := .lst vs) hn
  refine h2.mono g1.g _ gb.s _ fun ws G2 H2 g2 r2 => ?_
  refine ⟨by rw [r2.len]; exact Nat.le_trans hl2 (by decide), fun m hm => ⟨_, _, rfl, ?_⟩⟩
  have gc := gb.call g2
  have o1 : Own H0 G1 (upd H1 l (.lst vs)) l ds := ⟨ga.free hn, ga.gfree hn, vs, upd_same, r1⟩
  have o1' := o1.kp g2.g g2.kp
  obtain ⟨_, e1, _⟩ := o1'.e
  have k1 : Kp G H G2 H2 := (g1.kp.trans (kp_new hn)).trans g2.kp
  have nlm := ne_of_none e1 hm
  refine k l m G2 _ (gc.tmp hm) (g1.g.trans g2.g) (k1.trans (kp_new hm)) (o1'.upd nlm) ⟨gc.free hm, gc.gfree hm, ws, upd_same, r2⟩ nlm fun q xs oq => ?_
  have q1 := oq.kp g1.g g1.kp
  obtain ⟨_, eq1, _⟩ := q1.e
  have q2 := (q1.upd (o' := .lst vs) (ne_of_none eq1 hn)).kp g2.g g2.kp
  obtain ⟨_, eq2, _⟩ := q2.e
  exact ⟨q2.upd (ne_of_none eq2 hm), ne_of_none eq1 hn, ne_of_none eq2 hm⟩
/-- a, b = e, [..] -/
theorem o_parEN {i j : Nat} {tB : TA} {es : List D} (h : Ed te σ G d) (h2 : Eds tB σ G es) (hl2 : es.length ≤ 10000000) (g : Gr M G0 H0 G H)
    (k : ∀ v m G' H', Gr M G0 H0 G' H' → Same G G' → Kp G H G' H' → Rp G' d v → Own H0 G' H' m es → (∀ q xs, Own H0 G H q xs → Own H0 G' H' q xs ∧ q ≠ m) → Dn.nx ((σ.set i (some v)).set j (some (.ref m))) H') : tPar i j (tCons te (tCons (tLst tB) tNil)) Dn σ H := h H g.s _ fun v G1 H1 g1 r1 => by
  have ga := g.call g1
  refine h2.mono g1.g _ ga.s _ fun ws G2 H2 g2 r2 => ?_
  refine ⟨by rw [r2.len]; exact Nat.le_trans hl2 (by decide), fun m hm => ⟨_, _, rfl, ?_⟩⟩
  have gc := ga.call g2
  refine k v m G2 _ (gc.tmp hm) (g1.g.trans g2.g) ((g1.kp.trans g2.kp).trans (kp_new hm)) (r1.mono g2.g) ⟨gc.free hm, gc.gfree hm, ws, upd_same, r2⟩ fun q xs oq => ?_
  have q2 := (oq.kp g1.g g1.kp).kp g2.g g2.kp
  obtain ⟨_, eq2, _⟩ := q2.e
  exact ⟨q2.upd (ne_of_none eq2 hm), ne_of_none eq2 hm⟩
/-- xs.append(e) -/
theorem o_append {i : Nat} (hv : σ[i]? = some (some (.ref l))) (he : Ed te σ G d) (g : Gr M G0 H0 G H) (o : Own H0 G H l ds) (hl : ds.length < 10000000)
    (k : ∀ G' H', Gr M G0 H0 G' H' → Same G G' → Own H0 G' H' l (ds ++ [d]) → (∀ m es, m ≠ l → Own H0 G H m es → Own H0 G' H' m es) → (∀ a x, a ≠ l → H a = some x → H' a = some x ∧ (G a = none → G' a = none)) → Dn.nx σ H') : tDrop (tBM K "list" rAppend (tVar i) (tCons te tNil)) Dn σ H := by
  obtain ⟨vs0, e0, _⟩ := o.e
  refine ⟨_, hv, .inl ⟨rfl, _, SqL.of e0⟩, he H g.s _ fun v G1 H1 g1 r1 => ?_⟩
  have o1 := o.kp g1.g g1.kp
  obtain ⟨vs, e, r, hlen⟩ := o1.len
  refine ⟨l, vs, v, rfl, rfl, e, by rw [hlen]; exact Nat.lt_of_lt_of_le hl (by decide), ?_⟩
  exact k G1 _ ((g.call g1).mut o1.g o1.h0) g1.g (o1.set (r.snoc r1)) (fun m es n q => (q.kp g1.g g1.kp).upd n) fun a x n e => ⟨by rw [upd_ne n]; exact (g1.kp a x e).1, (g1.kp a x e).2⟩
/-- xs.extend(e) -/
theorem o_extend {i : Nat} (hv : σ[i]? = some (some (.ref l))) (he : Ed te σ G (.lst es)) (g : Gr M G0 H0 G H) (o : Own H0 G H l ds) (hl : ds.length + es.length ≤ 10000000)
    (k : ∀ G' H', Gr M G0 H0 G' H' → Same G G' → Own H0 G' H' l (ds ++ es) → (∀ m es, m ≠ l → Own H0 G H m es → Own H0 G' H' m es) → (∀ a x, a ≠ l → H a = some x → H' a = some x ∧ (G a = none → G' a = none)) → Dn.nx σ H') : tDrop (tBM K "list" rExtend (tVar i) (tCons te tNil)) Dn σ H := by
  obtain ⟨vs0, e0, _⟩ := o.e
  refine ⟨_, hv, .inl ⟨rfl, _, SqL.of e0⟩, he H g.s _ fun v G1 H1 g1 r1 => ?_⟩
  have o1 := o.kp g1.g g1.kp
  obtain ⟨vs, e, r, hlen⟩ := o1.len
  obtain ⟨a, ws, rfl, ha, hr⟩ := r1
  refine ⟨l, a, vs, ws, rfl, rfl, e, g1.s a _ ha, by rw [hlen, hr.len]; exact Nat.le_trans hl (by decide), ?_⟩
  exact k G1 _ ((g.call g1).mut o1.g o1.h0) g1.g (o1.set (r.app hr)) (fun m es n q => (q.kp g1.g g1.kp).upd n) fun a x n e => ⟨by rw [upd_ne n]; exact (g1.kp a x e).1, (g1.kp a x e).2⟩
/-- xs.pop(), as a value that is then used -/
theorem o_popV {i : Nat} {Q : VK} (hv : σ[i]? = some (some (.ref l))) (g : Gr M G0 H0 G H) (o : Own H0 G H l (ds ++ [d]))
    (k : ∀ v H', Gr M G0 H0 G H' → Own H0 G H' l ds → (∀ m es, m ≠ l → Own H0 G H m es → Own H0 G H' m es) → (∀ a x, a ≠ l → H a = some x → H' a = some x) → Rp G d v → Q v H') : tBM0 K "list" rPop (tVar i) σ H Q := by
  obtain ⟨vs, e, r⟩ := o.e
  obtain ⟨vs', u, rfl, r1, r2⟩ := RpL.unsnoc r
  refine ⟨_, hv, .inl ⟨rfl, _, SqL.of e⟩, l, _, u, rfl, rfl, e, by simp, ?_⟩
  rw [List.dropLast_concat]
  exact k u _ (g.mut o.g o.h0) (o.set r1) (fun m es n q => q.upd n) (fun a x n e => by rw [upd_ne n]; exact e) r2
theorem o_pop {i j : Nat} (hv : σ[i]? = some (some (.ref l))) (g : Gr M G0 H0 G H) (o : Own H0 G H l (ds ++ [d]))
    (k : ∀ v H', Gr M G0 H0 G H' → Own H0 G H' l ds → (∀ m es, m ≠ l → Own H0 G H m es → Own H0 G H' m es) → (∀ a x, a ≠ l → H a = some x → H' a = some x) → Rp G d v → Dn.nx (σ.set j (some v)) H') : tAsg (tBM0 K "list" rPop (tVar i)) (gName j) Dn σ H := o_popV hv g o k
/-- a pair is taken apart -/
theorem g_two {n : Nat} {i j : Nat} {σ0 : L2.St} {Q : L2.St → Hp → Prop} (s : Same G H) (r : Rp G (.tup [d, e]) v) (hn : n = 2) (k : ∀ x y, Rp G d x → Rp G e y → Q ((σ0.set i (some x)).set j (some y)) H) : gTup K n (gCons (gName i) (gCons (gName j) gNil)) v σ0 H Q := by
  obtain ⟨a, vs, rfl, ha, x, _, rfl, hx, y, _, rfl, hy, rfl⟩ := r
  exact ⟨a, _, rfl, SqT.of (s a _ ha), hn.symm, x, _, rfl, y, _, rfl, rfl, k x y hx hy⟩
theorem g_three {n : Nat} {i j q : Nat} {σ0 : L2.St} {Q : L2.St → Hp → Prop} (s : Same G H) (r : Rp G (.tup [d, e, z]) v) (hn : n = 3) (k : ∀ x y w, Rp G d x → Rp G e y → Rp G z w → Q (((σ0.set i (some x)).set j (some y)).set q (some w)) H) : gTup K n (gCons (gName i) (gCons (gName j) (gCons (gName q) gNil))) v σ0 H Q := by
  obtain ⟨a, vs, rfl, ha, x, _, rfl, hx, y, _, rfl, hy, w, _, rfl, hw, rfl⟩ := r
  exact ⟨a, _, rfl, SqT.of (s a _ ha), hn.symm, x, _, rfl, y, _, rfl, w, _, rfl, rfl, k x y w hx hy hw⟩
theorem o_pop2 {n i j q : Nat} (hv : σ[i]? = some (some (.ref l))) (g : Gr M G0 H0 G H) (o : Own H0 G H l (ds ++ [.tup [d, e]])) (hn : n = 2)
    (k : ∀ x y H', Gr M G0 H0 G H' → Own H0 G H' l ds → (∀ m es, m ≠ l → Own H0 G H m es → Own H0 G H' m es) → (∀ a x, a ≠ l → H a = some x → H' a = some x) → Rp G d x → Rp G e y → Dn.nx ((σ.set j (some x)).set q (some y)) H') : tAsg (tBM0 K "list" rPop (tVar i)) (gTup K n (gCons (gName j) (gCons (gName q) gNil))) Dn σ H :=
  o_popV hv g o fun v H' g' o' ks ko r => g_two g'.s r hn fun x y hx hy => k x y H' g' o' ks ko hx hy
/-- one list is walked into another: xs.append(ys.pop()) -/
theorem o_move {i j : Nat} (hv : σ[i]? = some (some (.ref l))) (hw : σ[j]? = some (some (.ref m))) (g : Gr M G0 H0 G H) (o : Own H0 G H l ds) (o2 : Own H0 G H m (es ++ [d])) (n : l ≠ m) (hl : ds.length < 10000000)
    (k : ∀ H', Gr M G0 H0 G H' → Own H0 G H' l (ds ++ [d]) → Own H0 G H' m es → (∀ a x, a ≠ l → a ≠ m → H a = some x → H' a = some x) → (∀ m' es, m' ≠ l → m' ≠ m → Own H0 G H m' es → Own H0 G H' m' es) → Dn.nx σ H') : tDrop (tBM K "list" rAppend (tVar i) (tCons (tBM0 K "list" rPop (tVar j)) tNil)) Dn σ H := by
  obtain ⟨vs0, e0, _⟩ := o.e
  refine ⟨_, hv, .inl ⟨rfl, _, SqL.of e0⟩, o_popV hw g o2 fun v H1 g1 o1 ks ko r => ?_⟩
  obtain ⟨vs, e, r', hlen⟩ := (ks l ds n o).len
  refine ⟨l, vs, v, rfl, rfl, e, by rw [hlen]; exact Nat.lt_of_lt_of_le hl (by decide), ?_⟩
  have o' := ks l ds n o
  exact k _ (g1.mut o'.g o'.h0) (o'.set (r'.snoc r)) (o1.upd (Ne.symm n)) (fun a x n1 n2 e => by rw [upd_ne n1]; exact ko a x n2 e) fun m' es n1 n2 q => (ks m' es n2 q).upd n1
/-! reading a list of one's own for a number or a truth value: it stands as if frozen meanwhile -/
def EbH (t : TT) (σ : L2.St) (G H : Hp) (b : Bool) : Prop := ∀ Q : Bool → Hp → Prop, (∀ H', Gp G H G H' → Q b H') → t σ H Q
theorem Own.eb (o : Own H0 G H l ds) (g : Same G H) (h : ∀ Gx, Same G Gx → Rp Gx (.lst ds) (.ref l) → Eb t σ Gx b) : EbH t σ G H b := fun Q q => by
  obtain ⟨vs, e, r⟩ := o.e
  have s : Same G (L2.upd G l (.lst vs)) := same_frz o.g
  refine h _ s ⟨l, vs, rfl, upd_same, r.mono s⟩ H (fun a x q => ?_) Q fun H' g' => q H' ⟨g'.h, g'.t, Same.refl _, g.trans g'.e, fun _ z _ => z⟩
  by_cases z : a = l
  · rw [z] at q ⊢
    rw [upd_same] at q
    rw [e]
    exact q
  · rw [upd_ne z] at q
    exact g a x q
theorem s_ifH (h : EbH t σ G H b) (g : Gr M G0 H0 G H) (h1 : b = true → ∀ H', Gr M G0 H0 G H' → Kp G H G H' → tu Dn σ H') (h2 : b = false → ∀ H', Gr M G0 H0 G H' → Kp G H G H' → tw Dn σ H') : tIfS t tu tw Dn σ H := h _ fun H1 g1 => by
  cases b with
  | true =>
    show tu Dn σ H1
    exact h1 rfl H1 (g.call g1) g1.kp
  | false =>
    show tw Dn σ H1
    exact h2 rfl H1 (g.call g1) g1.kp
/-- a number, a truth value, a text, None -/
def scl : D → Bool
  | .non => true | .bl _ => true | .int _ => true | .str _ => true
  | _ => false
theorem Rp.scl {G2 : Hp} (h : scl d = true) (r : Rp G d v) : Rp G2 d v := by
  cases d <;> first | exact r | cases h
def EdH (te : TE) (σ : L2.St) (G H : Hp) (d : D) : Prop := ∀ Q : VK, (∀ v G' H', Gp G H G' H' → Rp G' d v → Q v H') → te σ H Q
theorem Own.ed (o : Own H0 G H l ds) (g : Same G H) (hs : Kd.scl d = true) (h : ∀ Gx, Same G Gx → Rp Gx (.lst ds) (.ref l) → Ed te σ Gx d) : EdH te σ G H d := fun Q q => by
  obtain ⟨vs, e, r⟩ := o.e
  have s : Same G (L2.upd G l (.lst vs)) := same_frz o.g
  refine h _ s ⟨l, vs, rfl, upd_same, r.mono s⟩ H (fun a x q => ?_) Q fun v G' H' g' r' => q v G H' ⟨g'.h, g'.t, Same.refl _, g.trans g'.e, fun _ z _ => z⟩ (r'.scl hs)
  by_cases z : a = l
  · rw [z] at q ⊢
    rw [upd_same] at q
    rw [e]
    exact q
  · rw [upd_ne z] at q
    exact g a x q
theorem o_appendH {i : Nat} (hv : σ[i]? = some (some (.ref l))) (he : EdH te σ G H d) (g : Gr M G0 H0 G H) (o : Own H0 G H l ds) (hl : ds.length < 10000000)
    (k : ∀ G' H', Gr M G0 H0 G' H' → Same G G' → Own H0 G' H' l (ds ++ [d]) → (∀ m es, m ≠ l → Own H0 G H m es → Own H0 G' H' m es) → (∀ a x, a ≠ l → H a = some x → H' a = some x ∧ (G a = none → G' a = none)) → Dn.nx σ H') : tDrop (tBM K "list" rAppend (tVar i) (tCons te tNil)) Dn σ H := by
  obtain ⟨vs0, e0, _⟩ := o.e
  refine ⟨_, hv, .inl ⟨rfl, _, SqL.of e0⟩, he _ fun v G1 H1 g1 r1 => ?_⟩
  have o1 := o.kp g1.g g1.kp
  obtain ⟨vs, e, r, hlen⟩ := o1.len
  refine ⟨l, vs, v, rfl, rfl, e, by rw [hlen]; exact Nat.lt_of_lt_of_le hl (by decide), ?_⟩
  exact k G1 _ ((g.call g1).mut o1.g o1.h0) g1.g (o1.set (r.snoc r1)) (fun m es n q => (q.kp g1.g g1.kp).upd n) fun a x n e => ⟨by rw [upd_ne n]; exact (g1.kp a x e).1, (g1.kp a x e).2⟩
/-- x = e where e reads a list of one's own and gives a number -/
theorem o_setS {i : Nat} (o : Own H0 G H l ds) (hs : scl d = true) (h : ∀ Gx, Same G Gx → Rp Gx (.lst ds) (.ref l) → Ed te σ Gx d) (g : Gr M G0 H0 G H)
    (k : ∀ v H', Gr M G0 H0 G H' → Kp G H G H' → Rp G d v → Dn.nx (σ.set i (some v)) H') : tAsg te (gName i) Dn σ H := by
  obtain ⟨vs, e, r⟩ := o.e
  have s : Same G (upd G l (.lst vs)) := same_frz o.g
  refine h _ s ⟨l, vs, rfl, upd_same, r.mono s⟩ H (fun a x q => ?_) _ fun v G' H' g' r' => ?_
  · by_cases z : a = l
    · rw [z] at q ⊢
      rw [upd_same] at q
      rw [e]
      exact q
    · rw [upd_ne z] at q
      exact g.s a x q
  · have g2 : Gp G H G H' := ⟨g'.h, g'.t, Same.refl _, g.s.trans g'.e, fun _ z _ => z⟩
    exact k v H' (g.call g2) g2.kp (r'.scl hs)
theorem s_seq {x y : TS} (h : x { Dn with nx := y Dn } σ H) : tSeq x y Dn σ H := h
/-! loops -/
/-- while: m falls at each turn -/
theorem s_while (Iv : Nat → L2.St → Hp → Hp → Prop) (g : Gr M G0 H0 G H) {m0 : Nat} (h0 : Iv m0 σ G H)
    (turn : ∀ m σ G H, Gr M G0 H0 G H → Iv m σ G H → t σ H fun b H1 => if b = true then ∃ N : L2.St → Hp → Prop, (∀ σ' H', N σ' H' → ∃ m', m' < m ∧ ∃ G', Gr M G0 H0 G' H' ∧ Iv m' σ' G' H') ∧ tu { Dn with nx := N, ct := N, bk := Dn.nx } σ H1 else Dn.nx σ H1) : tWhile t tu Dn σ H := by
  refine ⟨fun m σ H => ∃ G, Gr M G0 H0 G H ∧ Iv m σ G H, ⟨m0, G, g, h0⟩, ?_⟩
  rintro m σ1 H1 ⟨G1, g1, i1⟩
  exact turn m σ1 G1 H1 g1 i1
/-- for: the invariant by the turn -/
theorem s_for {wi : TI} {gt : TG} {items : List D} (hs : Es wi σ G items) (g : Gr M G0 H0 G H) (Iv : Nat → L2.St → Hp → Hp → Prop)
    (h0 : ∀ G' H', Gr M G0 H0 G' H' → Same G G' → Kp G H G' H' → Iv 0 σ G' H')
    (turn : ∀ (Gs : Hp) i d v σ Gi Hi Gj Hj, items[i]? = some d → Same G Gs → Same Gs Gi → Iv i σ Gi Hi → Gr M G0 H0 Gj Hj → Same Gi Gj → Kp Gi Hi Gj Hj → Rp Gj d v →
      gt v σ Hj fun σ2 H2 => tu { Dn with nx := fun σ' H' => ∃ G', Gr M G0 H0 G' H' ∧ Same Gs G' ∧ Iv (i + 1) σ' G' H', ct := fun σ' H' => ∃ G', Gr M G0 H0 G' H' ∧ Same Gs G' ∧ Iv (i + 1) σ' G' H', bk := Dn.nx } σ2 H2)
    (hd : ∀ σ G' H', Gr M G0 H0 G' H' → Same G G' → Iv items.length σ G' H' → Dn.nx σ H') : tFor wi gt tu Dn σ H := hs H g.s _ fun J Gs H1 g1 W => by
  refine for_it W (fun i σ' H' => ∃ G', Gr M G0 H0 G' H' ∧ Same Gs G' ∧ Iv i σ' G' H') ?_ ?_ ?_ ?_
  · exact ⟨Gs, g.call g1, Same.refl _, h0 Gs H1 (g.call g1) g1.g g1.kp⟩
  · rintro i σ' H' _ ⟨G', g', s', _⟩
    exact s'.trans g'.s
  · rintro i x σ' Hi Hj hi ⟨Gi, gi, si, iv⟩ ⟨d, hd', y⟩
    obtain ⟨Gj, gj, r⟩ := y Gi si gi.s
    exact turn Gs i d x σ' Gi Hi Gj Hj hd' g1.g si iv (gi.call gj) gj.g gj.kp r
  · rintro σ' H' ⟨G', g', s', iv⟩
    exact hd σ' G' H' g' (g1.g.trans s') iv
end
end Kd
set_option maxHeartbeats 0
namespace K18
open PySem PySem.Spec PyProof.Rows L2
def top (i : Nat) : Stmt := PySem.Challenge.pw_heardwhole_k27_instances_of_schemes.main.body.getD i (.Pass ⟨0, 0, 0, 0⟩)
abbrev s_is_word_sign : Stmt := top 12
abbrev s_is_name : Stmt := top 13
abbrev s_is_small : Stmt := top 14
abbrev s_is_great : Stmt := top 15
abbrev s_parts_of_kind : Stmt := top 17
abbrev s_with_parts : Stmt := top 18
abbrev s_table_of : Stmt := top 19
abbrev s_reading_of : Stmt := top 20
abbrev s_flag_at : Stmt := top 21
abbrev s_words_in : Stmt := top 22
abbrev s_rows_in : Stmt := top 23
abbrev s_fits_row : Stmt := top 24
abbrev s_is_instance_of : Stmt := top 25
abbrev s_is_number : Stmt := top 28
abbrev s_is_flag : Stmt := top 29
abbrev s_is_named : Stmt := top 30
abbrev s_is_row : Stmt := top 31
abbrev s_parts_of : Stmt := top 32
abbrev s_is_kind : Stmt := top 33
abbrev s_is_instance : Stmt := top 35
abbrev s_law_pool : Stmt := top 37
abbrev s_law_pick : Stmt := top 38
abbrev s_law_same : Stmt := top 39
abbrev s_law_built : Stmt := top 40
abbrev s_law_row : Stmt := top 41
abbrev s_law_table : Stmt := top 42
abbrev s_law_uses : Stmt := top 43
abbrev s_law_images : Stmt := top 44
abbrev s_law_numbers : Stmt := top 45
abbrev s_law_row_image : Stmt := top 46
abbrev s_law_image : Stmt := top 47
abbrev s_law_changed : Stmt := top 48
abbrev s_law_flag : Stmt := top 49
abbrev s_law_words : Stmt := top 50
abbrev s_law_fits : Stmt := top 51
abbrev s_law_wrong : Stmt := top 52
abbrev s_law_is_alone : Stmt := top 53
abbrev s_law_asked : Stmt := top 54
abbrev s_law : Stmt := top 55

def d_is_word_sign : He.DefD := ⟨("is_word_sign", none), "is_word_sign", "is_word_sign", defArgs s_is_word_sign, defBody s_is_word_sign, defScope s_is_word_sign, [], []⟩
def d_is_name : He.DefD := ⟨("is_name", none), "is_name", "is_name", defArgs s_is_name, defBody s_is_name, defScope s_is_name, [], []⟩
def d_is_small : He.DefD := ⟨("is_small", none), "is_small", "is_small", defArgs s_is_small, defBody s_is_small, defScope s_is_small, [], []⟩
def d_is_great : He.DefD := ⟨("is_great", none), "is_great", "is_great", defArgs s_is_great, defBody s_is_great, defScope s_is_great, [], []⟩
def d_parts_of_kind : He.DefD := ⟨("parts_of_kind", none), "parts_of_kind", "parts_of_kind", defArgs s_parts_of_kind, defBody s_parts_of_kind, defScope s_parts_of_kind, [], []⟩
def d_with_parts : He.DefD := ⟨("with_parts", none), "with_parts", "with_parts", defArgs s_with_parts, defBody s_with_parts, defScope s_with_parts, [], []⟩
def d_table_of : He.DefD := ⟨("table_of", none), "table_of", "table_of", defArgs s_table_of, defBody s_table_of, defScope s_table_of, [], []⟩
def d_reading_of : He.DefD := ⟨("reading_of", none), "reading_of", "reading_of", defArgs s_reading_of, defBody s_reading_of, defScope s_reading_of, [], []⟩
def d_flag_at : He.DefD := ⟨("flag_at", none), "flag_at", "flag_at", defArgs s_flag_at, defBody s_flag_at, defScope s_flag_at, [], []⟩
def d_words_in : He.DefD := ⟨("words_in", none), "words_in", "words_in", defArgs s_words_in, defBody s_words_in, defScope s_words_in, [], []⟩
def d_rows_in : He.DefD := ⟨("rows_in", none), "rows_in", "rows_in", defArgs s_rows_in, defBody s_rows_in, defScope s_rows_in, [], []⟩
def d_fits_row : He.DefD := ⟨("fits_row", none), "fits_row", "fits_row", defArgs s_fits_row, defBody s_fits_row, defScope s_fits_row, [], []⟩
def d_is_instance_of : He.DefD := ⟨("is_instance_of", none), "is_instance_of", "is_instance_of", defArgs s_is_instance_of, defBody s_is_instance_of, defScope s_is_instance_of, [], []⟩
def d_is_number : He.DefD := ⟨("is_number", none), "is_number", "is_number", defArgs s_is_number, defBody s_is_number, defScope s_is_number, [], []⟩
def d_is_flag : He.DefD := ⟨("is_flag", none), "is_flag", "is_flag", defArgs s_is_flag, defBody s_is_flag, defScope s_is_flag, [], []⟩
def d_is_named : He.DefD := ⟨("is_named", none), "is_named", "is_named", defArgs s_is_named, defBody s_is_named, defScope s_is_named, [], []⟩
def d_is_row : He.DefD := ⟨("is_row", none), "is_row", "is_row", defArgs s_is_row, defBody s_is_row, defScope s_is_row, [], []⟩
def d_parts_of : He.DefD := ⟨("parts_of", none), "parts_of", "parts_of", defArgs s_parts_of, defBody s_parts_of, defScope s_parts_of, [], []⟩
def d_is_kind : He.DefD := ⟨("is_kind", none), "is_kind", "is_kind", defArgs s_is_kind, defBody s_is_kind, defScope s_is_kind, [], []⟩
def d_is_instance : He.DefD := ⟨("is_instance", none), "is_instance", "is_instance", defArgs s_is_instance, defBody s_is_instance, defScope s_is_instance, [], []⟩
def d_law_pool : He.DefD := ⟨("_law_pool", none), "_law_pool", "_law_pool", defArgs s_law_pool, defBody s_law_pool, defScope s_law_pool, [], []⟩
def d_law_pick : He.DefD := ⟨("_law_pick", none), "_law_pick", "_law_pick", defArgs s_law_pick, defBody s_law_pick, defScope s_law_pick, [], []⟩
def d_law_same : He.DefD := ⟨("_law_same", none), "_law_same", "_law_same", defArgs s_law_same, defBody s_law_same, defScope s_law_same, [], []⟩
def d_law_built : He.DefD := ⟨("_law_built", none), "_law_built", "_law_built", defArgs s_law_built, defBody s_law_built, defScope s_law_built, [], []⟩
def d_law_row : He.DefD := ⟨("_law_row", none), "_law_row", "_law_row", defArgs s_law_row, defBody s_law_row, defScope s_law_row, [], []⟩
def d_law_table : He.DefD := ⟨("_law_table", none), "_law_table", "_law_table", defArgs s_law_table, defBody s_law_table, defScope s_law_table, [], []⟩
def d_law_uses : He.DefD := ⟨("_law_uses", none), "_law_uses", "_law_uses", defArgs s_law_uses, defBody s_law_uses, defScope s_law_uses, [], []⟩
def d_law_images : He.DefD := ⟨("_law_images", none), "_law_images", "_law_images", defArgs s_law_images, defBody s_law_images, defScope s_law_images, [], []⟩
def d_law_numbers : He.DefD := ⟨("_law_numbers", none), "_law_numbers", "_law_numbers", defArgs s_law_numbers, defBody s_law_numbers, defScope s_law_numbers, [], []⟩
def d_law_row_image : He.DefD := ⟨("_law_row_image", none), "_law_row_image", "_law_row_image", defArgs s_law_row_image, defBody s_law_row_image, defScope s_law_row_image, [], []⟩
def d_law_image : He.DefD := ⟨("_law_image", none), "_law_image", "_law_image", defArgs s_law_image, defBody s_law_image, defScope s_law_image, [], []⟩
def d_law_changed : He.DefD := ⟨("_law_changed", none), "_law_changed", "_law_changed", defArgs s_law_changed, defBody s_law_changed, defScope s_law_changed, [], []⟩
def d_law_flag : He.DefD := ⟨("_law_flag", none), "_law_flag", "_law_flag", defArgs s_law_flag, defBody s_law_flag, defScope s_law_flag, [], []⟩
def d_law_words : He.DefD := ⟨("_law_words", none), "_law_words", "_law_words", defArgs s_law_words, defBody s_law_words, defScope s_law_words, [], []⟩
def d_law_fits : He.DefD := ⟨("_law_fits", none), "_law_fits", "_law_fits", defArgs s_law_fits, defBody s_law_fits, defScope s_law_fits, [], []⟩
def d_law_wrong : He.DefD := ⟨("_law_wrong", none), "_law_wrong", "_law_wrong", defArgs s_law_wrong, defBody s_law_wrong, defScope s_law_wrong, [], []⟩
def d_law_is_alone : He.DefD := ⟨("_law_is_alone", none), "_law_is_alone", "_law_is_alone", defArgs s_law_is_alone, defBody s_law_is_alone, defScope s_law_is_alone, [], []⟩
def d_law_asked : He.DefD := ⟨("_law_asked", none), "_law_asked", "_law_asked", defArgs s_law_asked, defBody s_law_asked, defScope s_law_asked, [], []⟩
def d_law : He.DefD := ⟨("law", none), "law", "law", defArgs s_law, defBody s_law, defScope s_law, [], []⟩
def fn : List He.DefD := [d_is_word_sign, d_is_name, d_is_small, d_is_great, d_parts_of_kind, d_with_parts, d_table_of, d_reading_of, d_flag_at, d_words_in, d_rows_in, d_fits_row, d_is_instance_of, d_is_number, d_is_flag, d_is_named, d_is_row, d_parts_of, d_is_kind, d_is_instance, d_law_pool, d_law_pick, d_law_same, d_law_built, d_law_row, d_law_table, d_law_uses, d_law_images, d_law_numbers, d_law_row_image, d_law_image, d_law_changed, d_law_flag, d_law_words, d_law_fits, d_law_wrong, d_law_is_alone, d_law_asked, d_law]
def fa : List He.Fa := [.glo "is_word_sign", .glo "is_name", .glo "is_small", .glo "is_great", .glo "parts_of_kind", .glo "with_parts", .glo "table_of", .glo "reading_of", .glo "flag_at", .glo "words_in", .glo "rows_in", .glo "fits_row", .glo "is_instance_of", .glo "is_number", .glo "is_flag", .glo "is_named", .glo "is_row", .glo "parts_of", .glo "is_kind", .glo "is_instance", .glo "_law_pool", .glo "_law_pick", .glo "_law_same", .glo "_law_built", .glo "_law_row", .glo "_law_table", .glo "_law_uses", .glo "_law_images", .glo "_law_numbers", .glo "_law_row_image", .glo "_law_image", .glo "_law_changed", .glo "_law_flag", .glo "_law_words", .glo "_law_fits", .glo "_law_wrong", .glo "_law_is_alone", .glo "_law_asked", .glo "law", .glo "HeardError", .glo "BadText", .glo "BadTree", .glo "BadFiles", .glo "BadKind", .glo "BadProgram", .glo "BadState", .glo "NoName", .glo "WORDS", .glo "PLAIN", .int "MOST_NAME" 12, .free "all", .free "bool", .free "int", .free "isinstance", .free "len", .free "list", .free "min", .free "range", .free "repr", .free "sorted", .free "str", .free "tuple", .free "zip"]
/-- what the classes of errors say -/
def excB (K : PySem.W.Frag) (C : Addr) : Bool := PySem.W.excIn K C [.type "Exception", .type "BaseException", .type "object"] "Exception.__new__" && PySem.W.keepIn K (.ref C) && (PySem.W.subIn K (.ref C) (.type "BaseException") == some true) && (PySem.W.typeIn K (.ref C) == some (.type "type"))
def excG (K : PySem.W.Frag) (D : Addr) : Bool := (PySem.W.findIn K (.ref D) "__getattribute__" == some (some (.builtin "BaseException.__getattribute__"))) && (PySem.W.findIn K (.ref D) "__getattr__" == some none) && PySem.W.hasDictIn K D &&
  (PySem.W.findIn K (.ref D) "__class__" == some (some (.builtin "object.__class__"))) && (PySem.W.specialIn K (.builtin "object.__class__") "__get__" == some (some (.builtin "getset_descriptor.__get__"))) &&
  (PySem.W.takesIn K (.builtin "object.__class__") == some true) && (PySem.W.mroIn K D (.type "object") == some true)

def ex (K : PySem.W.Frag) : Bool := He.tupB K "WORDS" [.str "use", .str "data", .str "op", .str "let", .str "rec", .str "in", .str "fun", .str "if", .str "then", .str "else", .str "match", .str "with", .str "end", .str "handle", .str "return", .str "do", .str "true", .str "false", .str "int", .str "bool", .str "unit", .str "void"] && He.tupB K "PLAIN" [.str "int", .str "bool", .str "unit", .str "void"] && excB K (He.ga K "BadKind") && excG K (He.ga K "BadKind") && (PySem.W.exmOne K (.ref (He.ga K "BadKind")) (.ref (He.ga K "HeardError")) == some true) && (PySem.W.kitOne K (.ref (He.ga K "BadKind")) (.ref (He.ga K "BadText")) == some false) && (PySem.W.kitOne K (.ref (He.ga K "BadKind")) (.ref (He.ga K "BadTree")) == some false) && (PySem.W.kitOne K (.ref (He.ga K "BadKind")) (.ref (He.ga K "BadFiles")) == some false) && (PySem.W.kitOne K (.ref (He.ga K "BadKind")) (.ref (He.ga K "BadKind")) == some true) && (PySem.W.kitOne K (.ref (He.ga K "BadKind")) (.ref (He.ga K "BadProgram")) == some false) && (PySem.W.kitOne K (.ref (He.ga K "BadKind")) (.ref (He.ga K "BadState")) == some false) && (PySem.W.kitOne K (.ref (He.ga K "BadKind")) (.ref (He.ga K "NoName")) == some false)
/-- what the top has written -/
structure Tx (K : PySem.W.Frag) (mg : Str → Option Value) : Prop where
  hin : ∃ h : Heap, K.In h ∧ h.Ns mainGlobals mg
  c : He.SaysD fa fn K
  more : ex K = true
section
variable {K : PySem.W.Frag} {mg : Str → Option Value}
theorem Tx.x_0 (T : Tx K mg) : (He.tupB K "WORDS" [.str "use", .str "data", .str "op", .str "let", .str "rec", .str "in", .str "fun", .str "if", .str "then", .str "else", .str "match", .str "with", .str "end", .str "handle", .str "return", .str "do", .str "true", .str "false", .str "int", .str "bool", .str "unit", .str "void"]) = true := (He.ba (He.ba (He.ba (He.ba (He.ba (He.ba (He.ba (He.ba (He.ba (He.ba (He.ba T.more).1).1).1).1).1).1).1).1).1).1).1
theorem Tx.x_1 (T : Tx K mg) : (He.tupB K "PLAIN" [.str "int", .str "bool", .str "unit", .str "void"]) = true := (He.ba (He.ba (He.ba (He.ba (He.ba (He.ba (He.ba (He.ba (He.ba (He.ba (He.ba T.more).1).1).1).1).1).1).1).1).1).1).2
theorem Tx.x_2 (T : Tx K mg) : (excB K (He.ga K "BadKind")) = true := (He.ba (He.ba (He.ba (He.ba (He.ba (He.ba (He.ba (He.ba (He.ba (He.ba T.more).1).1).1).1).1).1).1).1).1).2
theorem Tx.x_3 (T : Tx K mg) : (excG K (He.ga K "BadKind")) = true := (He.ba (He.ba (He.ba (He.ba (He.ba (He.ba (He.ba (He.ba (He.ba T.more).1).1).1).1).1).1).1).1).2
theorem Tx.x_4 (T : Tx K mg) : ((PySem.W.exmOne K (.ref (He.ga K "BadKind")) (.ref (He.ga K "HeardError")) == some true)) = true := (He.ba (He.ba (He.ba (He.ba (He.ba (He.ba (He.ba (He.ba T.more).1).1).1).1).1).1).1).2
theorem Tx.x_5 (T : Tx K mg) : ((PySem.W.kitOne K (.ref (He.ga K "BadKind")) (.ref (He.ga K "BadText")) == some false)) = true := (He.ba (He.ba (He.ba (He.ba (He.ba (He.ba (He.ba T.more).1).1).1).1).1).1).2
theorem Tx.x_6 (T : Tx K mg) : ((PySem.W.kitOne K (.ref (He.ga K "BadKind")) (.ref (He.ga K "BadTree")) == some false)) = true := (He.ba (He.ba (He.ba (He.ba (He.ba (He.ba T.more).1).1).1).1).1).2
theorem Tx.x_7 (T : Tx K mg) : ((PySem.W.kitOne K (.ref (He.ga K "BadKind")) (.ref (He.ga K "BadFiles")) == some false)) = true := (He.ba (He.ba (He.ba (He.ba (He.ba T.more).1).1).1).1).2
theorem Tx.x_8 (T : Tx K mg) : ((PySem.W.kitOne K (.ref (He.ga K "BadKind")) (.ref (He.ga K "BadKind")) == some true)) = true := (He.ba (He.ba (He.ba (He.ba T.more).1).1).1).2
theorem Tx.x_9 (T : Tx K mg) : ((PySem.W.kitOne K (.ref (He.ga K "BadKind")) (.ref (He.ga K "BadProgram")) == some false)) = true := (He.ba (He.ba (He.ba T.more).1).1).2
theorem Tx.x_10 (T : Tx K mg) : ((PySem.W.kitOne K (.ref (He.ga K "BadKind")) (.ref (He.ga K "BadState")) == some false)) = true := (He.ba (He.ba T.more).1).2
theorem Tx.x_11 (T : Tx K mg) : ((PySem.W.kitOne K (.ref (He.ga K "BadKind")) (.ref (He.ga K "NoName")) == some false)) = true := (He.ba T.more).2
theorem Tx.m_is_word_sign (T : Tx K mg) : mg ("is_word_sign" : Str) = some (.ref (He.ga K "is_word_sign")) := let ⟨_, X, G⟩ := T.hin; He.glo_ok X G (T.c.fact 0 (f := .glo "is_word_sign") rfl)
theorem Tx.m_is_name (T : Tx K mg) : mg ("is_name" : Str) = some (.ref (He.ga K "is_name")) := let ⟨_, X, G⟩ := T.hin; He.glo_ok X G (T.c.fact 1 (f := .glo "is_name") rfl)
theorem Tx.m_is_small (T : Tx K mg) : mg ("is_small" : Str) = some (.ref (He.ga K "is_small")) := let ⟨_, X, G⟩ := T.hin; He.glo_ok X G (T.c.fact 2 (f := .glo "is_small") rfl)
theorem Tx.m_is_great (T : Tx K mg) : mg ("is_great" : Str) = some (.ref (He.ga K "is_great")) := let ⟨_, X, G⟩ := T.hin; He.glo_ok X G (T.c.fact 3 (f := .glo "is_great") rfl)
theorem Tx.m_parts_of_kind (T : Tx K mg) : mg ("parts_of_kind" : Str) = some (.ref (He.ga K "parts_of_kind")) := let ⟨_, X, G⟩ := T.hin; He.glo_ok X G (T.c.fact 4 (f := .glo "parts_of_kind") rfl)
theorem Tx.m_with_parts (T : Tx K mg) : mg ("with_parts" : Str) = some (.ref (He.ga K "with_parts")) := let ⟨_, X, G⟩ := T.hin; He.glo_ok X G (T.c.fact 5 (f := .glo "with_parts") rfl)
theorem Tx.m_table_of (T : Tx K mg) : mg ("table_of" : Str) = some (.ref (He.ga K "table_of")) := let ⟨_, X, G⟩ := T.hin; He.glo_ok X G (T.c.fact 6 (f := .glo "table_of") rfl)
theorem Tx.m_reading_of (T : Tx K mg) : mg ("reading_of" : Str) = some (.ref (He.ga K "reading_of")) := let ⟨_, X, G⟩ := T.hin; He.glo_ok X G (T.c.fact 7 (f := .glo "reading_of") rfl)
theorem Tx.m_flag_at (T : Tx K mg) : mg ("flag_at" : Str) = some (.ref (He.ga K "flag_at")) := let ⟨_, X, G⟩ := T.hin; He.glo_ok X G (T.c.fact 8 (f := .glo "flag_at") rfl)
theorem Tx.m_words_in (T : Tx K mg) : mg ("words_in" : Str) = some (.ref (He.ga K "words_in")) := let ⟨_, X, G⟩ := T.hin; He.glo_ok X G (T.c.fact 9 (f := .glo "words_in") rfl)
theorem Tx.m_rows_in (T : Tx K mg) : mg ("rows_in" : Str) = some (.ref (He.ga K "rows_in")) := let ⟨_, X, G⟩ := T.hin; He.glo_ok X G (T.c.fact 10 (f := .glo "rows_in") rfl)
theorem Tx.m_fits_row (T : Tx K mg) : mg ("fits_row" : Str) = some (.ref (He.ga K "fits_row")) := let ⟨_, X, G⟩ := T.hin; He.glo_ok X G (T.c.fact 11 (f := .glo "fits_row") rfl)
theorem Tx.m_is_instance_of (T : Tx K mg) : mg ("is_instance_of" : Str) = some (.ref (He.ga K "is_instance_of")) := let ⟨_, X, G⟩ := T.hin; He.glo_ok X G (T.c.fact 12 (f := .glo "is_instance_of") rfl)
theorem Tx.m_is_number (T : Tx K mg) : mg ("is_number" : Str) = some (.ref (He.ga K "is_number")) := let ⟨_, X, G⟩ := T.hin; He.glo_ok X G (T.c.fact 13 (f := .glo "is_number") rfl)
theorem Tx.m_is_flag (T : Tx K mg) : mg ("is_flag" : Str) = some (.ref (He.ga K "is_flag")) := let ⟨_, X, G⟩ := T.hin; He.glo_ok X G (T.c.fact 14 (f := .glo "is_flag") rfl)
theorem Tx.m_is_named (T : Tx K mg) : mg ("is_named" : Str) = some (.ref (He.ga K "is_named")) := let ⟨_, X, G⟩ := T.hin; He.glo_ok X G (T.c.fact 15 (f := .glo "is_named") rfl)
theorem Tx.m_is_row (T : Tx K mg) : mg ("is_row" : Str) = some (.ref (He.ga K "is_row")) := let ⟨_, X, G⟩ := T.hin; He.glo_ok X G (T.c.fact 16 (f := .glo "is_row") rfl)
theorem Tx.m_parts_of (T : Tx K mg) : mg ("parts_of" : Str) = some (.ref (He.ga K "parts_of")) := let ⟨_, X, G⟩ := T.hin; He.glo_ok X G (T.c.fact 17 (f := .glo "parts_of") rfl)
theorem Tx.m_is_kind (T : Tx K mg) : mg ("is_kind" : Str) = some (.ref (He.ga K "is_kind")) := let ⟨_, X, G⟩ := T.hin; He.glo_ok X G (T.c.fact 18 (f := .glo "is_kind") rfl)
theorem Tx.m_is_instance (T : Tx K mg) : mg ("is_instance" : Str) = some (.ref (He.ga K "is_instance")) := let ⟨_, X, G⟩ := T.hin; He.glo_ok X G (T.c.fact 19 (f := .glo "is_instance") rfl)
theorem Tx.m__law_pool (T : Tx K mg) : mg ("_law_pool" : Str) = some (.ref (He.ga K "_law_pool")) := let ⟨_, X, G⟩ := T.hin; He.glo_ok X G (T.c.fact 20 (f := .glo "_law_pool") rfl)
theorem Tx.m__law_pick (T : Tx K mg) : mg ("_law_pick" : Str) = some (.ref (He.ga K "_law_pick")) := let ⟨_, X, G⟩ := T.hin; He.glo_ok X G (T.c.fact 21 (f := .glo "_law_pick") rfl)
theorem Tx.m__law_same (T : Tx K mg) : mg ("_law_same" : Str) = some (.ref (He.ga K "_law_same")) := let ⟨_, X, G⟩ := T.hin; He.glo_ok X G (T.c.fact 22 (f := .glo "_law_same") rfl)
theorem Tx.m__law_built (T : Tx K mg) : mg ("_law_built" : Str) = some (.ref (He.ga K "_law_built")) := let ⟨_, X, G⟩ := T.hin; He.glo_ok X G (T.c.fact 23 (f := .glo "_law_built") rfl)
theorem Tx.m__law_row (T : Tx K mg) : mg ("_law_row" : Str) = some (.ref (He.ga K "_law_row")) := let ⟨_, X, G⟩ := T.hin; He.glo_ok X G (T.c.fact 24 (f := .glo "_law_row") rfl)
theorem Tx.m__law_table (T : Tx K mg) : mg ("_law_table" : Str) = some (.ref (He.ga K "_law_table")) := let ⟨_, X, G⟩ := T.hin; He.glo_ok X G (T.c.fact 25 (f := .glo "_law_table") rfl)
theorem Tx.m__law_uses (T : Tx K mg) : mg ("_law_uses" : Str) = some (.ref (He.ga K "_law_uses")) := let ⟨_, X, G⟩ := T.hin; He.glo_ok X G (T.c.fact 26 (f := .glo "_law_uses") rfl)
theorem Tx.m__law_images (T : Tx K mg) : mg ("_law_images" : Str) = some (.ref (He.ga K "_law_images")) := let ⟨_, X, G⟩ := T.hin; He.glo_ok X G (T.c.fact 27 (f := .glo "_law_images") rfl)
theorem Tx.m__law_numbers (T : Tx K mg) : mg ("_law_numbers" : Str) = some (.ref (He.ga K "_law_numbers")) := let ⟨_, X, G⟩ := T.hin; He.glo_ok X G (T.c.fact 28 (f := .glo "_law_numbers") rfl)
theorem Tx.m__law_row_image (T : Tx K mg) : mg ("_law_row_image" : Str) = some (.ref (He.ga K "_law_row_image")) := let ⟨_, X, G⟩ := T.hin; He.glo_ok X G (T.c.fact 29 (f := .glo "_law_row_image") rfl)
theorem Tx.m__law_image (T : Tx K mg) : mg ("_law_image" : Str) = some (.ref (He.ga K "_law_image")) := let ⟨_, X, G⟩ := T.hin; He.glo_ok X G (T.c.fact 30 (f := .glo "_law_image") rfl)
theorem Tx.m__law_changed (T : Tx K mg) : mg ("_law_changed" : Str) = some (.ref (He.ga K "_law_changed")) := let ⟨_, X, G⟩ := T.hin; He.glo_ok X G (T.c.fact 31 (f := .glo "_law_changed") rfl)
theorem Tx.m__law_flag (T : Tx K mg) : mg ("_law_flag" : Str) = some (.ref (He.ga K "_law_flag")) := let ⟨_, X, G⟩ := T.hin; He.glo_ok X G (T.c.fact 32 (f := .glo "_law_flag") rfl)
theorem Tx.m__law_words (T : Tx K mg) : mg ("_law_words" : Str) = some (.ref (He.ga K "_law_words")) := let ⟨_, X, G⟩ := T.hin; He.glo_ok X G (T.c.fact 33 (f := .glo "_law_words") rfl)
theorem Tx.m__law_fits (T : Tx K mg) : mg ("_law_fits" : Str) = some (.ref (He.ga K "_law_fits")) := let ⟨_, X, G⟩ := T.hin; He.glo_ok X G (T.c.fact 34 (f := .glo "_law_fits") rfl)
theorem Tx.m__law_wrong (T : Tx K mg) : mg ("_law_wrong" : Str) = some (.ref (He.ga K "_law_wrong")) := let ⟨_, X, G⟩ := T.hin; He.glo_ok X G (T.c.fact 35 (f := .glo "_law_wrong") rfl)
theorem Tx.m__law_is_alone (T : Tx K mg) : mg ("_law_is_alone" : Str) = some (.ref (He.ga K "_law_is_alone")) := let ⟨_, X, G⟩ := T.hin; He.glo_ok X G (T.c.fact 36 (f := .glo "_law_is_alone") rfl)
theorem Tx.m__law_asked (T : Tx K mg) : mg ("_law_asked" : Str) = some (.ref (He.ga K "_law_asked")) := let ⟨_, X, G⟩ := T.hin; He.glo_ok X G (T.c.fact 37 (f := .glo "_law_asked") rfl)
theorem Tx.m_law (T : Tx K mg) : mg ("law" : Str) = some (.ref (He.ga K "law")) := let ⟨_, X, G⟩ := T.hin; He.glo_ok X G (T.c.fact 38 (f := .glo "law") rfl)
theorem Tx.m_HeardError (T : Tx K mg) : mg ("HeardError" : Str) = some (.ref (He.ga K "HeardError")) := let ⟨_, X, G⟩ := T.hin; He.glo_ok X G (T.c.fact 39 (f := .glo "HeardError") rfl)
theorem Tx.m_BadText (T : Tx K mg) : mg ("BadText" : Str) = some (.ref (He.ga K "BadText")) := let ⟨_, X, G⟩ := T.hin; He.glo_ok X G (T.c.fact 40 (f := .glo "BadText") rfl)
theorem Tx.m_BadTree (T : Tx K mg) : mg ("BadTree" : Str) = some (.ref (He.ga K "BadTree")) := let ⟨_, X, G⟩ := T.hin; He.glo_ok X G (T.c.fact 41 (f := .glo "BadTree") rfl)
theorem Tx.m_BadFiles (T : Tx K mg) : mg ("BadFiles" : Str) = some (.ref (He.ga K "BadFiles")) := let ⟨_, X, G⟩ := T.hin; He.glo_ok X G (T.c.fact 42 (f := .glo "BadFiles") rfl)
theorem Tx.m_BadKind (T : Tx K mg) : mg ("BadKind" : Str) = some (.ref (He.ga K "BadKind")) := let ⟨_, X, G⟩ := T.hin; He.glo_ok X G (T.c.fact 43 (f := .glo "BadKind") rfl)
theorem Tx.m_BadProgram (T : Tx K mg) : mg ("BadProgram" : Str) = some (.ref (He.ga K "BadProgram")) := let ⟨_, X, G⟩ := T.hin; He.glo_ok X G (T.c.fact 44 (f := .glo "BadProgram") rfl)
theorem Tx.m_BadState (T : Tx K mg) : mg ("BadState" : Str) = some (.ref (He.ga K "BadState")) := let ⟨_, X, G⟩ := T.hin; He.glo_ok X G (T.c.fact 45 (f := .glo "BadState") rfl)
theorem Tx.m_NoName (T : Tx K mg) : mg ("NoName" : Str) = some (.ref (He.ga K "NoName")) := let ⟨_, X, G⟩ := T.hin; He.glo_ok X G (T.c.fact 46 (f := .glo "NoName") rfl)
theorem Tx.m_WORDS (T : Tx K mg) : mg ("WORDS" : Str) = some (.ref (He.ga K "WORDS")) := let ⟨_, X, G⟩ := T.hin; He.glo_ok X G (T.c.fact 47 (f := .glo "WORDS") rfl)
theorem Tx.m_PLAIN (T : Tx K mg) : mg ("PLAIN" : Str) = some (.ref (He.ga K "PLAIN")) := let ⟨_, X, G⟩ := T.hin; He.glo_ok X G (T.c.fact 48 (f := .glo "PLAIN") rfl)
theorem Tx.m_MOST_NAME (T : Tx K mg) : ∃ t, mg ("MOST_NAME" : Str) = some (.int 12 t) := let ⟨_, X, G⟩ := T.hin; He.int_ok X G (T.c.fact 49 (f := .int "MOST_NAME" 12) rfl)
theorem Tx.n_all (T : Tx K mg) : mg ("all" : Str) = none := let ⟨_, X, G⟩ := T.hin; He.free_ok X G (T.c.fact 50 (f := .free "all") rfl)
theorem Tx.n_bool (T : Tx K mg) : mg ("bool" : Str) = none := let ⟨_, X, G⟩ := T.hin; He.free_ok X G (T.c.fact 51 (f := .free "bool") rfl)
theorem Tx.n_int (T : Tx K mg) : mg ("int" : Str) = none := let ⟨_, X, G⟩ := T.hin; He.free_ok X G (T.c.fact 52 (f := .free "int") rfl)
theorem Tx.n_isinstance (T : Tx K mg) : mg ("isinstance" : Str) = none := let ⟨_, X, G⟩ := T.hin; He.free_ok X G (T.c.fact 53 (f := .free "isinstance") rfl)
theorem Tx.n_len (T : Tx K mg) : mg ("len" : Str) = none := let ⟨_, X, G⟩ := T.hin; He.free_ok X G (T.c.fact 54 (f := .free "len") rfl)
theorem Tx.n_list (T : Tx K mg) : mg ("list" : Str) = none := let ⟨_, X, G⟩ := T.hin; He.free_ok X G (T.c.fact 55 (f := .free "list") rfl)
theorem Tx.n_min (T : Tx K mg) : mg ("min" : Str) = none := let ⟨_, X, G⟩ := T.hin; He.free_ok X G (T.c.fact 56 (f := .free "min") rfl)
theorem Tx.n_range (T : Tx K mg) : mg ("range" : Str) = none := let ⟨_, X, G⟩ := T.hin; He.free_ok X G (T.c.fact 57 (f := .free "range") rfl)
theorem Tx.n_repr (T : Tx K mg) : mg ("repr" : Str) = none := let ⟨_, X, G⟩ := T.hin; He.free_ok X G (T.c.fact 58 (f := .free "repr") rfl)
theorem Tx.n_sorted (T : Tx K mg) : mg ("sorted" : Str) = none := let ⟨_, X, G⟩ := T.hin; He.free_ok X G (T.c.fact 59 (f := .free "sorted") rfl)
theorem Tx.n_str (T : Tx K mg) : mg ("str" : Str) = none := let ⟨_, X, G⟩ := T.hin; He.free_ok X G (T.c.fact 60 (f := .free "str") rfl)
theorem Tx.n_tuple (T : Tx K mg) : mg ("tuple" : Str) = none := let ⟨_, X, G⟩ := T.hin; He.free_ok X G (T.c.fact 61 (f := .free "tuple") rfl)
theorem Tx.n_zip (T : Tx K mg) : mg ("zip" : Str) = none := let ⟨_, X, G⟩ := T.hin; He.free_ok X G (T.c.fact 62 (f := .free "zip") rfl)
theorem Tx.f_is_word_sign (T : Tx K mg) : ∃ fd, FunD K "is_word_sign" "is_word_sign" (defArgs s_is_word_sign) (defBody s_is_word_sign) (defScope s_is_word_sign) [] [] (He.ga K "is_word_sign") fd := T.c.def_ 0 (d := d_is_word_sign) rfl
theorem Tx.f_is_name (T : Tx K mg) : ∃ fd, FunD K "is_name" "is_name" (defArgs s_is_name) (defBody s_is_name) (defScope s_is_name) [] [] (He.ga K "is_name") fd := T.c.def_ 1 (d := d_is_name) rfl
theorem Tx.f_is_small (T : Tx K mg) : ∃ fd, FunD K "is_small" "is_small" (defArgs s_is_small) (defBody s_is_small) (defScope s_is_small) [] [] (He.ga K "is_small") fd := T.c.def_ 2 (d := d_is_small) rfl
theorem Tx.f_is_great (T : Tx K mg) : ∃ fd, FunD K "is_great" "is_great" (defArgs s_is_great) (defBody s_is_great) (defScope s_is_great) [] [] (He.ga K "is_great") fd := T.c.def_ 3 (d := d_is_great) rfl
theorem Tx.f_parts_of_kind (T : Tx K mg) : ∃ fd, FunD K "parts_of_kind" "parts_of_kind" (defArgs s_parts_of_kind) (defBody s_parts_of_kind) (defScope s_parts_of_kind) [] [] (He.ga K "parts_of_kind") fd := T.c.def_ 4 (d := d_parts_of_kind) rfl
theorem Tx.f_with_parts (T : Tx K mg) : ∃ fd, FunD K "with_parts" "with_parts" (defArgs s_with_parts) (defBody s_with_parts) (defScope s_with_parts) [] [] (He.ga K "with_parts") fd := T.c.def_ 5 (d := d_with_parts) rfl
theorem Tx.f_table_of (T : Tx K mg) : ∃ fd, FunD K "table_of" "table_of" (defArgs s_table_of) (defBody s_table_of) (defScope s_table_of) [] [] (He.ga K "table_of") fd := T.c.def_ 6 (d := d_table_of) rfl
theorem Tx.f_reading_of (T : Tx K mg) : ∃ fd, FunD K "reading_of" "reading_of" (defArgs s_reading_of) (defBody s_reading_of) (defScope s_reading_of) [] [] (He.ga K "reading_of") fd := T.c.def_ 7 (d := d_reading_of) rfl
theorem Tx.f_flag_at (T : Tx K mg) : ∃ fd, FunD K "flag_at" "flag_at" (defArgs s_flag_at) (defBody s_flag_at) (defScope s_flag_at) [] [] (He.ga K "flag_at") fd := T.c.def_ 8 (d := d_flag_at) rfl
theorem Tx.f_words_in (T : Tx K mg) : ∃ fd, FunD K "words_in" "words_in" (defArgs s_words_in) (defBody s_words_in) (defScope s_words_in) [] [] (He.ga K "words_in") fd := T.c.def_ 9 (d := d_words_in) rfl
theorem Tx.f_rows_in (T : Tx K mg) : ∃ fd, FunD K "rows_in" "rows_in" (defArgs s_rows_in) (defBody s_rows_in) (defScope s_rows_in) [] [] (He.ga K "rows_in") fd := T.c.def_ 10 (d := d_rows_in) rfl
theorem Tx.f_fits_row (T : Tx K mg) : ∃ fd, FunD K "fits_row" "fits_row" (defArgs s_fits_row) (defBody s_fits_row) (defScope s_fits_row) [] [] (He.ga K "fits_row") fd := T.c.def_ 11 (d := d_fits_row) rfl
theorem Tx.f_is_instance_of (T : Tx K mg) : ∃ fd, FunD K "is_instance_of" "is_instance_of" (defArgs s_is_instance_of) (defBody s_is_instance_of) (defScope s_is_instance_of) [] [] (He.ga K "is_instance_of") fd := T.c.def_ 12 (d := d_is_instance_of) rfl
theorem Tx.f_is_number (T : Tx K mg) : ∃ fd, FunD K "is_number" "is_number" (defArgs s_is_number) (defBody s_is_number) (defScope s_is_number) [] [] (He.ga K "is_number") fd := T.c.def_ 13 (d := d_is_number) rfl
theorem Tx.f_is_flag (T : Tx K mg) : ∃ fd, FunD K "is_flag" "is_flag" (defArgs s_is_flag) (defBody s_is_flag) (defScope s_is_flag) [] [] (He.ga K "is_flag") fd := T.c.def_ 14 (d := d_is_flag) rfl
theorem Tx.f_is_named (T : Tx K mg) : ∃ fd, FunD K "is_named" "is_named" (defArgs s_is_named) (defBody s_is_named) (defScope s_is_named) [] [] (He.ga K "is_named") fd := T.c.def_ 15 (d := d_is_named) rfl
theorem Tx.f_is_row (T : Tx K mg) : ∃ fd, FunD K "is_row" "is_row" (defArgs s_is_row) (defBody s_is_row) (defScope s_is_row) [] [] (He.ga K "is_row") fd := T.c.def_ 16 (d := d_is_row) rfl
theorem Tx.f_parts_of (T : Tx K mg) : ∃ fd, FunD K "parts_of" "parts_of" (defArgs s_parts_of) (defBody s_parts_of) (defScope s_parts_of) [] [] (He.ga K "parts_of") fd := T.c.def_ 17 (d := d_parts_of) rfl
theorem Tx.f_is_kind (T : Tx K mg) : ∃ fd, FunD K "is_kind" "is_kind" (defArgs s_is_kind) (defBody s_is_kind) (defScope s_is_kind) [] [] (He.ga K "is_kind") fd := T.c.def_ 18 (d := d_is_kind) rfl
theorem Tx.f_is_instance (T : Tx K mg) : ∃ fd, FunD K "is_instance" "is_instance" (defArgs s_is_instance) (defBody s_is_instance) (defScope s_is_instance) [] [] (He.ga K "is_instance") fd := T.c.def_ 19 (d := d_is_instance) rfl
theorem Tx.f__law_pool (T : Tx K mg) : ∃ fd, FunD K "_law_pool" "_law_pool" (defArgs s_law_pool) (defBody s_law_pool) (defScope s_law_pool) [] [] (He.ga K "_law_pool") fd := T.c.def_ 20 (d := d_law_pool) rfl
theorem Tx.f__law_pick (T : Tx K mg) : ∃ fd, FunD K "_law_pick" "_law_pick" (defArgs s_law_pick) (defBody s_law_pick) (defScope s_law_pick) [] [] (He.ga K "_law_pick") fd := T.c.def_ 21 (d := d_law_pick) rfl
theorem Tx.f__law_same (T : Tx K mg) : ∃ fd, FunD K "_law_same" "_law_same" (defArgs s_law_same) (defBody s_law_same) (defScope s_law_same) [] [] (He.ga K "_law_same") fd := T.c.def_ 22 (d := d_law_same) rfl
theorem Tx.f__law_built (T : Tx K mg) : ∃ fd, FunD K "_law_built" "_law_built" (defArgs s_law_built) (defBody s_law_built) (defScope s_law_built) [] [] (He.ga K "_law_built") fd := T.c.def_ 23 (d := d_law_built) rfl
theorem Tx.f__law_row (T : Tx K mg) : ∃ fd, FunD K "_law_row" "_law_row" (defArgs s_law_row) (defBody s_law_row) (defScope s_law_row) [] [] (He.ga K "_law_row") fd := T.c.def_ 24 (d := d_law_row) rfl
theorem Tx.f__law_table (T : Tx K mg) : ∃ fd, FunD K "_law_table" "_law_table" (defArgs s_law_table) (defBody s_law_table) (defScope s_law_table) [] [] (He.ga K "_law_table") fd := T.c.def_ 25 (d := d_law_table) rfl
theorem Tx.f__law_uses (T : Tx K mg) : ∃ fd, FunD K "_law_uses" "_law_uses" (defArgs s_law_uses) (defBody s_law_uses) (defScope s_law_uses) [] [] (He.ga K "_law_uses") fd := T.c.def_ 26 (d := d_law_uses) rfl
theorem Tx.f__law_images (T : Tx K mg) : ∃ fd, FunD K "_law_images" "_law_images" (defArgs s_law_images) (defBody s_law_images) (defScope s_law_images) [] [] (He.ga K "_law_images") fd := T.c.def_ 27 (d := d_law_images) rfl
theorem Tx.f__law_numbers (T : Tx K mg) : ∃ fd, FunD K "_law_numbers" "_law_numbers" (defArgs s_law_numbers) (defBody s_law_numbers) (defScope s_law_numbers) [] [] (He.ga K "_law_numbers") fd := T.c.def_ 28 (d := d_law_numbers) rfl
theorem Tx.f__law_row_image (T : Tx K mg) : ∃ fd, FunD K "_law_row_image" "_law_row_image" (defArgs s_law_row_image) (defBody s_law_row_image) (defScope s_law_row_image) [] [] (He.ga K "_law_row_image") fd := T.c.def_ 29 (d := d_law_row_image) rfl
theorem Tx.f__law_image (T : Tx K mg) : ∃ fd, FunD K "_law_image" "_law_image" (defArgs s_law_image) (defBody s_law_image) (defScope s_law_image) [] [] (He.ga K "_law_image") fd := T.c.def_ 30 (d := d_law_image) rfl
theorem Tx.f__law_changed (T : Tx K mg) : ∃ fd, FunD K "_law_changed" "_law_changed" (defArgs s_law_changed) (defBody s_law_changed) (defScope s_law_changed) [] [] (He.ga K "_law_changed") fd := T.c.def_ 31 (d := d_law_changed) rfl
theorem Tx.f__law_flag (T : Tx K mg) : ∃ fd, FunD K "_law_flag" "_law_flag" (defArgs s_law_flag) (defBody s_law_flag) (defScope s_law_flag) [] [] (He.ga K "_law_flag") fd := T.c.def_ 32 (d := d_law_flag) rfl
theorem Tx.f__law_words (T : Tx K mg) : ∃ fd, FunD K "_law_words" "_law_words" (defArgs s_law_words) (defBody s_law_words) (defScope s_law_words) [] [] (He.ga K "_law_words") fd := T.c.def_ 33 (d := d_law_words) rfl
theorem Tx.f__law_fits (T : Tx K mg) : ∃ fd, FunD K "_law_fits" "_law_fits" (defArgs s_law_fits) (defBody s_law_fits) (defScope s_law_fits) [] [] (He.ga K "_law_fits") fd := T.c.def_ 34 (d := d_law_fits) rfl
theorem Tx.f__law_wrong (T : Tx K mg) : ∃ fd, FunD K "_law_wrong" "_law_wrong" (defArgs s_law_wrong) (defBody s_law_wrong) (defScope s_law_wrong) [] [] (He.ga K "_law_wrong") fd := T.c.def_ 35 (d := d_law_wrong) rfl
theorem Tx.f__law_is_alone (T : Tx K mg) : ∃ fd, FunD K "_law_is_alone" "_law_is_alone" (defArgs s_law_is_alone) (defBody s_law_is_alone) (defScope s_law_is_alone) [] [] (He.ga K "_law_is_alone") fd := T.c.def_ 36 (d := d_law_is_alone) rfl
theorem Tx.f__law_asked (T : Tx K mg) : ∃ fd, FunD K "_law_asked" "_law_asked" (defArgs s_law_asked) (defBody s_law_asked) (defScope s_law_asked) [] [] (He.ga K "_law_asked") fd := T.c.def_ 37 (d := d_law_asked) rfl
theorem Tx.f_law (T : Tx K mg) : ∃ fd, FunD K "law" "law" (defArgs s_law) (defBody s_law) (defScope s_law) [] [] (He.ga K "law") fd := T.c.def_ 38 (d := d_law) rfl
end
abbrev R : PySem.W.OpenRow := PySem.W.OpenLaw.row PySem.Challenge.rw_heardwhole_k27_instances_of_schemes
abbrev hk : PySem.W.Hook := He.hookX 4 fa fn [] [] ex
def ob (s : PySem.W.SharedT) : He.AlX := He.obsX 4 fa fn [] [] ex (HandSHeadRun.getT s)
theorem ob_eq (s : PySem.W.SharedT) : ob s = hk.obs s.abs := He.obsX_eq (HandSHeadRun.getT_eq s)
def names : List PySem.Str := (["is_word_sign", "is_name", "is_small", "is_great", "parts_of_kind", "with_parts", "table_of", "reading_of", "flag_at", "words_in", "rows_in", "fits_row", "is_instance_of", "is_number", "is_flag", "is_named", "is_row", "parts_of", "is_kind", "is_instance", "_law_pool", "_law_pick", "_law_same", "_law_built", "_law_row", "_law_table", "_law_uses", "_law_images", "_law_numbers", "_law_row_image"] : List PySem.Str) ++ (["_law_image", "_law_changed", "_law_flag", "_law_words", "_law_fits", "_law_wrong", "_law_is_alone", "_law_asked", "HeardError", "BadText", "BadTree", "BadFiles", "BadKind", "BadProgram", "BadState", "NoName", "WORDS", "MOST_NAME", "PLAIN"] : List PySem.Str)
theorem run (w : World) : HandSHeadRun.RunEq R (PySem.W.view R.prog [55]) hk ob 4000 names w := by
  intro os
  kernel_rfl
end K18
set_option maxHeartbeats 4000000
namespace K18
open PySem PySem.Spec PyProof.Rows L2 Kd
/-! ### what the judges of names, flags, rows tell of a tree -/
def wordSign (c : Nat) : Bool := (decide (97 ≤ c) && decide (c ≤ 122)) || ((decide (65 ≤ c) && decide (c ≤ 90)) || ((decide (48 ≤ c) && decide (c ≤ 57)) || decide (c = 95)))
def nameIn (lo hi : Nat) (s : Str) : Bool := match s.cps.toList with
  | [] => false
  | c :: r => decide (s.length ≤ 12) && ((decide (lo ≤ c) && decide (c ≤ hi)) && (c :: r).all wordSign)
def isName (lo hi : Nat) : D → Bool
  | .str s => nameIn lo hi s
  | _ => false
def theWords : List Str := ["use", "data", "op", "let", "rec", "in", "fun", "if", "then", "else", "match", "with", "end", "handle", "return", "do", "true", "false", "int", "bool", "unit", "void"]
def isSmall : D → Bool
  | .str s => nameIn 97 122 s && !theWords.any (fun z => z == s)
  | _ => false
def isGreat : D → Bool
  | .str s => nameIn 65 90 s
  | _ => false
def isNumber : D → Bool
  | .int i => decide (0 ≤ i)
  | _ => false
def isFlag : D → Bool
  | .str s => decide (s = "pre")
  | .tup [a, b] => eqS a "flag" && isNumber b
  | _ => false
def isNamed : D → Bool
  | .tup [a, b] => isSmall a && isFlag b
  | _ => false
/-- a text is no longer than told (for the rules of lengths) -/
def strOk : D → Prop
  | .str s => s.length ≤ 1000
  | _ => True
/-- == of its first part with a text is told -/
def flagOk : D → Prop
  | .tup [a, _] => isDct a = false
  | _ => True
theorem lt1 {a b : Nat} : decide (([a] : List Nat) < [b]) = decide (a < b) := by
  have h : (([a] : List Nat) < [b]) ↔ a < b := by simp [List.cons_lt_cons_iff]
  by_cases z : a < b
  · rw [decide_eq_true z, decide_eq_true (h.mpr z)]
  · rw [decide_eq_false z, decide_eq_false (fun q => z (h.mp q))]
theorem notlt {a b : Nat} : (!decide (a < b)) = decide (b ≤ a) := by
  by_cases z : a < b
  · rw [decide_eq_true z, decide_eq_false (by omega)]; rfl
  · rw [decide_eq_false z, decide_eq_true (by omega)]; rfl
theorem str1_eq {c e : Nat} : decide ((⟨#[c]⟩ : Str) = ⟨#[e]⟩) = decide (c = e) := by
  by_cases z : c = e
  · subst z; simp
  · rw [decide_eq_false z, decide_eq_false (fun q => z (by injection q with q; simpa using q))]
section
variable {P : Program} {w : World} {K : PySem.W.Frag} {mg : Str → Option Value} {base : Heap}
/-! ### is_word_sign -/
def rWordSign : List D → D → Prop := fun ds d => ∃ c : Nat, ds = [.str ⟨#[c]⟩] ∧ d = .bl (wordSign c)
abbrev N_is_word_sign : List Str := ["sign"]
theorem sc_is_word_sign : FnScope ["sign"] ["sign"] (defScope s_is_word_sign) := ⟨rfl, rfl, rfl, by decide +kernel, rfl, by decide +kernel, by decide +kernel⟩
theorem ok_is_word_sign (T : Tx K mg) : Good P w K mg base CX0 "is_word_sign" 2 ["sign"] (spRel rWordSign) := by
  obtain ⟨fd, F⟩ := T.f_is_word_sign
  refine ⟨T.m_is_word_sign, F.kp, fd, ?_, F.bindsN fun _ _ _ _ _ _ us hl => match us, hl with | [_], _ => rfl⟩
  refine F.ok sc_is_word_sign (fun vs H Q E h => ?_) (fun cdv A outer s H vs Q E hr h => ?_)
  · obtain ⟨G, ds, d, _, r, ⟨c, rfl, _⟩, _⟩ := h
    exact r.len
  · obtain ⟨G, ds, d, s0, r, ⟨c, rfl, rfl⟩, k⟩ := h
    obtain ⟨v, _, rfl, r_sign, rfl⟩ := r
    refine ⟨_, PSs.nox ((pss_one (ps_ret (pe_or (pe_chain op_le_str op_le_str pe_str (pv 0) pe_str) (pe_or (pe_chain op_le_str op_le_str pe_str (pv 0) pe_str) (pe_or (pe_chain op_le_str op_le_str pe_str (pv 0) pe_str) (pe_one (pe_cmpR op_eq (pv 0) pe_str (nomark _))))))))), ?_⟩
    refine s_ret (Ed.to (ed_orV (ed_chain ed_str (ed_var rfl r_sign) ed_str (fun _ _ => rd_leS) (fun _ _ => rd_leS)) fun _ => (ed_orV (ed_chain ed_str (ed_var rfl r_sign) ed_str (fun _ _ => rd_leS) (fun _ _ => rd_leS)) fun _ => (ed_orV (ed_chain ed_str (ed_var rfl r_sign) ed_str (fun _ _ => rd_leS) (fun _ _ => rd_leS)) fun _ => (ed_op (ed_var rfl r_sign) ed_str fun _ _ => rd_eq rfl)))) ?_) (gr0 (M := []) s0) k
    show D.bl ((!decide (([c] : List Nat) < [97]) && !decide (([122] : List Nat) < [c])) || ((!decide (([c] : List Nat) < [65]) && !decide (([90] : List Nat) < [c])) || ((!decide (([c] : List Nat) < [48]) && !decide (([57] : List Nat) < [c])) || decide ((⟨#[c]⟩ : Str) = ⟨#[95]⟩)))) = _
    simp only [lt1, notlt, str1_eq]
    rfl
/-! ### is_name -/
def rName : List D → D → Prop := fun ds d => ∃ (x : D) (a b : Nat), ds = [x, .str ⟨#[a]⟩, .str ⟨#[b]⟩] ∧ strOk x ∧ d = .bl (isName a b x)
def fSign : D → D
  | .str s => .bl (wordSign (s.cps.getD 0 0))
  | _ => .non
theorem all_signs (l : List Nat) : ((l.map fun c => wordSign c).all id) = l.all wordSign := by rw [List.all_map]; rfl
abbrev N_is_name : List Str := ["value", "low", "high", "sign"]
theorem sc_is_name : FnScope ["value", "low", "high", "sign"] ["value", "low", "high"] (defScope s_is_name) := ⟨rfl, rfl, rfl, by decide +kernel, rfl, by decide +kernel, by decide +kernel⟩
theorem ok_is_name (T : Tx K mg) : Good P w K mg base CX0 "is_name" 3 ["value", "low", "high"] (spRel rName) := by
  obtain ⟨fd, F⟩ := T.f_is_name
  refine ⟨T.m_is_name, F.kp, fd, ?_, F.bindsN fun _ _ _ _ _ _ us hl => match us, hl with | [_, _, _], _ => rfl⟩
  have G_is_word_sign := ok_is_word_sign (P := P) (w := w) (base := base) T
  refine F.ok sc_is_name (fun vs H Q E h => ?_) (fun cdv A outer s H vs Q E hr h => ?_)
  · obtain ⟨G, ds, d, _, r, ⟨x, a, b, rfl, _⟩, _⟩ := h
    exact r.len
  · obtain ⟨G, ds, d, s0, r, ⟨x, a, b, rfl, hx, rfl⟩, k⟩ := h
    obtain ⟨v1, _, rfl, r_value, v2, _, rfl, r_low, v3, _, rfl, r_high, rfl⟩ := r
    refine ⟨_, PSs.nox ((pss_cons (ps_if (PW.pt (pw_or (pt_not (pt_val (pe_callB call_isi (by rfl) T.n_isinstance (by decide +kernel) (pa_cons (pv 0) (pa_cons (pe_bltn (v := .ty "str") rfl T.n_str (by decide +kernel) rfl) pa_nil))))) (pw_or1 (pt_not (pt_chain op_le op_le pe_int (pe_callB call_len (by rfl) T.n_len PySem.boot_len (pa_cons (pv 0) pa_nil)) (pe_glob (v := .int 12) rfl T.m_MOST_NAME.choose_spec ⟨_, rfl⟩)))))) (pss_one (ps_ret pe_bl)) pss_nil)
    (pss_one (ps_ret (pe_and (pe_chain op_le_str op_le_str (pv 1) (pe_ix ix_str (pv 0) pe_int (fun _ _ => rfl)) (pv 2)) (pe_one (pe_callB (cr_all rfl) (by rfl) T.n_all (by decide +kernel) (pa_cons (pe_lc (own := [("sign", 3)]) rfl sc_is_name.nd (pi_str (pv 0)) (blkOk_by (own := [("sign", 3)]) (N := ["value", "low", "high", "sign"]) (sc := defScope s_is_name) (by decide +kernel)) (fun _ _ _ _ _ => by exact (pg_name (i := 3) sc_is_name.nd rfl (Or.inl rfl))) (fun _ _ _ _ _ => by exact pts_nil) (fun _ _ _ _ _ => by exact (pe_g G_is_word_sign (hr.mono (by decide)) (pa_cons (pv 3) pa_nil)))) pa_nil)))))))), ?_⟩
    cases x with
    | str x =>
      have hx : x.length ≤ 1000 := hx
      have hlen : x.length = x.cps.toList.length := by simp [Str.length]
      refine s_if (eb_orF (eb_not (eb_B (ed_isStr (ed_var rfl r_value)))) (eb_not (eb_test (ed_chain ed_int (ed_lenS ?_ (ed_var rfl r_value)) ed_int (fun _ _ => rd_I0b) (fun _ _ => rd_I0b))))) (gr0 (M := []) s0) (fun hb H' g => ?_) (fun hb H' g => ?_)
      · omega
      · have e : nameIn a b x = false := by
          have hb : (!(decide (1 ≤ (x.length : Int)) && decide ((x.length : Int) ≤ 12))) = true := hb
          unfold nameIn
          cases q : x.cps.toList with
          | nil => rfl
          | cons c r =>
            rw [q] at hlen
            have : ¬ x.length ≤ 12 := by
              intro z
              rw [decide_eq_true (by simp at hlen; omega), decide_eq_true (by omega)] at hb
              cases hb
            show (decide (x.length ≤ 12) && _) = false
            rw [decide_eq_false this]
            rfl
        exact s_ret (Ed.to ed_bl (by show D.bl false = D.bl (nameIn a b x); rw [e])) g k
      · have hb : (!(decide (1 ≤ (x.length : Int)) && decide ((x.length : Int) ≤ 12))) = false := hb
        have h1 : 1 ≤ x.length ∧ x.length ≤ 12 := by
          by_cases z1 : 1 ≤ (x.length : Int)
          · by_cases z2 : (x.length : Int) ≤ 12
            · omega
            · rw [decide_eq_false z2] at hb; simp at hb
          · rw [decide_eq_false z1] at hb; simp at hb
        obtain ⟨c, r, q⟩ : ∃ c r, x.cps.toList = c :: r := by
          cases q : x.cps.toList with
          | nil => rw [q] at hlen; simp at hlen; omega
          | cons c r => exact ⟨c, r, rfl⟩
        have hi : atI x.cps.toList 0 = some c := by rw [q]; exact atI_nat (j := 0) rfl
        have el : ∀ (σ : L2.St) (G' : Hp) (u : V), σ[3]? = some (some u) → ∀ z, Rp G' z u → ∀ c, z = .str ⟨#[c]⟩ → Ed (tCall (spRel rWordSign) [] E0 (tCons (tVar 3) tNil)) σ G' (.bl (wordSign c)) := fun σ G' u h1 z h2 c h3 => ed_rel (eds_cons (ed_var h1 h2) eds_nil) ⟨c, by rw [h3], rfl⟩
        refine s_ret (Ed.to (ed_andV (b := decide (a ≤ c) && decide (c ≤ b)) (c := x.cps.toList.all wordSign) (((ed_chain (ed_var rfl r_low) (ed_op (ed_var rfl r_value) ed_int fun _ _ => rd_ixS (by omega) hi) (ed_var rfl r_high) (fun _ _ => rd_leS) (fun _ _ => rd_leS)) : Ed _ _ _ _).to ?_) fun _ => (ed_all (bs := x.cps.toList.map wordSign) ((ed_lcAll fSign (es_str (ed_var rfl r_value)) ?_ ?_).to ?_)).to ?_) ?_) g k
        · show D.bl (!decide (([c] : List Nat) < [a]) && !decide (([b] : List Nat) < [c])) = _
          simp only [lt1, notlt]
        · rw [List.length_map]
          omega
        · intro d hd G' s'
          obtain ⟨c', _, rfl⟩ := List.mem_map.mp hd
          exact tk_name fun u hu => ⟨rfl, ed_rel (eds_cons (ed_var rfl hu) eds_nil) ⟨c', rfl, rfl⟩⟩
        · rw [List.map_map, List.map_map]
          rfl
        · rw [List.all_map]
          rfl
        · show D.bl _ = D.bl (nameIn a b x)
          unfold nameIn
          rw [q]
          show D.bl _ = D.bl (decide (x.length ≤ 12) && _)
          rw [decide_eq_true h1.2]
          rfl
    | _ => exact s_ifT (eb_orT ((eb_not (eb_B (ed_isStr (ed_var rfl r_value)))).to rfl)) (gr0 (M := []) s0) fun H' g => s_ret ed_bl g k
end
end K18
set_option maxHeartbeats 4000000
namespace K18
open PySem PySem.Spec PyProof.Rows L2 Kd
section
variable {P : Program} {w : World} {K : PySem.W.Frag} {mg : Str → Option Value} {base : Heap}
theorem Tx.words (T : Tx K mg) (H : Hp) : SqT K H (He.ga K "WORDS") (theWords.map V.str) := He.tupB_ok T.x_0 H
def thePlain : List Str := ["int", "bool", "unit", "void"]
theorem Tx.plain (T : Tx K mg) (H : Hp) : SqT K H (He.ga K "PLAIN") (thePlain.map V.str) := He.tupB_ok T.x_1 H
/-! ### is_small, is_great -/
def rSmall : List D → D → Prop := fun ds d => ∃ x, ds = [x] ∧ strOk x ∧ d = .bl (isSmall x)
def rGreat : List D → D → Prop := fun ds d => ∃ x, ds = [x] ∧ strOk x ∧ d = .bl (isGreat x)
abbrev N_is_small : List Str := ["value"]
theorem sc_is_small : FnScope ["value"] ["value"] (defScope s_is_small) := ⟨rfl, rfl, rfl, by decide +kernel, rfl, by decide +kernel, by decide +kernel⟩
theorem ok_is_small (T : Tx K mg) : Good P w K mg base CX0 "is_small" 4 ["value"] (spRel rSmall) := by
  obtain ⟨fd, F⟩ := T.f_is_small
  refine ⟨T.m_is_small, F.kp, fd, ?_, F.bindsN fun _ _ _ _ _ _ us hl => match us, hl with | [_], _ => rfl⟩
  have G_is_name := ok_is_name (P := P) (w := w) (base := base) T
  refine F.ok sc_is_small (fun vs H Q E h => ?_) (fun cdv A outer s H vs Q E hr h => ?_)
  · obtain ⟨G, ds, d, _, r, ⟨x, rfl, _⟩, _⟩ := h
    exact r.len
  · obtain ⟨G, ds, d, s0, r, ⟨x, rfl, hx, rfl⟩, k⟩ := h
    obtain ⟨v1, _, rfl, r_value, rfl⟩ := r
    refine ⟨_, PSs.nox ((pss_one (ps_ret (pe_and (pe_g G_is_name (hr.mono (by decide)) (pa_cons (pv 0) (pa_cons pe_str (pa_cons pe_str pa_nil)))) (pe_one (pe_cmpR op_notIn_seq (pv 0) (pe_glob (v := .ref (He.ga K "WORDS")) rfl T.m_WORDS rfl) (by rfl))))))), ?_⟩
    have h1 : rName [x, .str ⟨#[97]⟩, .str ⟨#[122]⟩] (.bl (isName 97 122 x)) := ⟨x, 97, 122, rfl, hx, rfl⟩
    cases x with
    | str x => exact s_ret (ed_andV ((ed_rel (eds_cons (ed_var rfl r_value) (eds_cons ed_str (eds_cons ed_str eds_nil))) h1) : Ed _ _ _ (.bl (nameIn 97 122 x))) fun _ => ed_notInK (ed_var rfl r_value) T.words) (gr0 (M := []) s0) k
    | _ => exact s_ret (ed_andF (ed_rel (eds_cons (ed_var rfl r_value) (eds_cons ed_str (eds_cons ed_str eds_nil))) h1)) (gr0 (M := []) s0) k
abbrev N_is_great : List Str := ["value"]
theorem sc_is_great : FnScope ["value"] ["value"] (defScope s_is_great) := ⟨rfl, rfl, rfl, by decide +kernel, rfl, by decide +kernel, by decide +kernel⟩
theorem ok_is_great (T : Tx K mg) : Good P w K mg base CX0 "is_great" 4 ["value"] (spRel rGreat) := by
  obtain ⟨fd, F⟩ := T.f_is_great
  refine ⟨T.m_is_great, F.kp, fd, ?_, F.bindsN fun _ _ _ _ _ _ us hl => match us, hl with | [_], _ => rfl⟩
  have G_is_name := ok_is_name (P := P) (w := w) (base := base) T
  refine F.ok sc_is_great (fun vs H Q E h => ?_) (fun cdv A outer s H vs Q E hr h => ?_)
  · obtain ⟨G, ds, d, _, r, ⟨x, rfl, _⟩, _⟩ := h
    exact r.len
  · obtain ⟨G, ds, d, s0, r, ⟨x, rfl, hx, rfl⟩, k⟩ := h
    obtain ⟨v1, _, rfl, r_value, rfl⟩ := r
    refine ⟨_, PSs.nox ((pss_one (ps_ret (pe_g G_is_name (hr.mono (by decide)) (pa_cons (pv 0) (pa_cons pe_str (pa_cons pe_str pa_nil))))))), ?_⟩
    have h1 : rName [x, .str ⟨#[65]⟩, .str ⟨#[90]⟩] (.bl (isName 65 90 x)) := ⟨x, 65, 90, rfl, hx, rfl⟩
    exact s_ret (Ed.to (ed_rel (eds_cons (ed_var rfl r_value) (eds_cons ed_str (eds_cons ed_str eds_nil))) h1) (by cases x <;> rfl)) (gr0 (M := []) s0) k
/-! ### is_number, is_flag, is_named -/
def rNumber : List D → D → Prop := fun ds d => ∃ x, ds = [x] ∧ d = .bl (isNumber x)
abbrev N_is_number : List Str := ["value"]
theorem sc_is_number : FnScope ["value"] ["value"] (defScope s_is_number) := ⟨rfl, rfl, rfl, by decide +kernel, rfl, by decide +kernel, by decide +kernel⟩
theorem ok_is_number (T : Tx K mg) : Good P w K mg base CX0 "is_number" 2 ["value"] (spRel rNumber) := by
  obtain ⟨fd, F⟩ := T.f_is_number
  refine ⟨T.m_is_number, F.kp, fd, ?_, F.bindsN fun _ _ _ _ _ _ us hl => match us, hl with | [_], _ => rfl⟩
  refine F.ok sc_is_number (fun vs H Q E h => ?_) (fun cdv A outer s H vs Q E hr h => ?_)
  · obtain ⟨G, ds, d, _, r, ⟨x, rfl, _⟩, _⟩ := h
    exact r.len
  · obtain ⟨G, ds, d, s0, r, ⟨x, rfl, rfl⟩, k⟩ := h
    obtain ⟨v1, _, rfl, r_value, rfl⟩ := r
    refine ⟨_, PSs.nox ((pss_one (ps_ret (pe_and (pe_callB call_isi (by rfl) T.n_isinstance (by decide +kernel) (pa_cons (pv 0) (pa_cons (pe_bltn (v := .ty "int") rfl T.n_int (by decide +kernel) rfl) pa_nil))) (pe_and (pe_not (pe_callB call_isi (by rfl) T.n_isinstance (by decide +kernel) (pa_cons (pv 0) (pa_cons (pe_bltn (v := .ty "bool") rfl T.n_bool (by decide +kernel) rfl) pa_nil)))) (pe_one (pe_cmpR op_ge (pv 0) pe_int (nomark _)))))))), ?_⟩
    cases x with
    | int i => exact s_ret (ed_andV (ed_isInt (ed_var rfl r_value)) fun _ => (ed_andV (ed_notV (ed_isBool (ed_var rfl r_value))) fun _ => (ed_op (ed_var rfl r_value) ed_int fun _ _ => rd_I0b))) (gr0 (M := []) s0) k
    | bl b => exact s_ret (ed_andT (ed_isInt (ed_var rfl r_value)) (ed_andF (ed_notV (ed_isBool (ed_var rfl r_value))))) (gr0 (M := []) s0) k
    | _ => exact s_ret (ed_andF (ed_isInt (ed_var rfl r_value))) (gr0 (M := []) s0) k
def rFlag : List D → D → Prop := fun ds d => ∃ x, ds = [x] ∧ flagOk x ∧ d = .bl (isFlag x)
abbrev N_is_flag : List Str := ["value"]
theorem sc_is_flag : FnScope ["value"] ["value"] (defScope s_is_flag) := ⟨rfl, rfl, rfl, by decide +kernel, rfl, by decide +kernel, by decide +kernel⟩
theorem ok_is_flag (T : Tx K mg) : Good P w K mg base CX0 "is_flag" 3 ["value"] (spRel rFlag) := by
  obtain ⟨fd, F⟩ := T.f_is_flag
  refine ⟨T.m_is_flag, F.kp, fd, ?_, F.bindsN fun _ _ _ _ _ _ us hl => match us, hl with | [_], _ => rfl⟩
  have G_is_number := ok_is_number (P := P) (w := w) (base := base) T
  refine F.ok sc_is_flag (fun vs H Q E h => ?_) (fun cdv A outer s H vs Q E hr h => ?_)
  · obtain ⟨G, ds, d, _, r, ⟨x, rfl, _⟩, _⟩ := h
    exact r.len
  · obtain ⟨G, ds, d, s0, r, ⟨x, rfl, hx, rfl⟩, k⟩ := h
    obtain ⟨v1, _, rfl, r_value, rfl⟩ := r
    refine ⟨_, PSs.nox ((pss_cons (ps_if (pt_val (pe_callB call_isi (by rfl) T.n_isinstance (by decide +kernel) (pa_cons (pv 0) (pa_cons (pe_bltn (v := .ty "str") rfl T.n_str (by decide +kernel) rfl) pa_nil)))) (pss_one (ps_ret (pe_cmpR op_eq (pv 0) pe_str (nomark _)))) pss_nil)
    (pss_one (ps_ret (pe_and (pe_callB call_isi (by rfl) T.n_isinstance (by decide +kernel) (pa_cons (pv 0) (pa_cons (pe_bltn (v := .ty "tuple") rfl T.n_tuple (by decide +kernel) rfl) pa_nil))) (pe_and (pe_cmpR op_eq (pe_callB call_len_seq (by rfl) T.n_len PySem.boot_len (pa_cons (pv 0) pa_nil)) pe_int (nomark _)) (pe_and (pe_cmpR (op_eqS hr.units) (pe_ix ix_tup (pv 0) pe_int (fun _ _ => rfl)) pe_str (nomark _)) (pe_one (pe_g G_is_number (hr.mono (by decide)) (pa_cons (pe_ix ix_tup (pv 0) pe_int (fun _ _ => rfl)) pa_nil)))))))))), ?_⟩
    cases x with
    | str x => exact s_ifT ((eb_B (ed_isStr (ed_var rfl r_value)))) (gr0 (M := []) s0) fun H' g => s_ret (ed_op (ed_var rfl r_value) ed_str fun _ _ => rd_eq rfl) g k
    | tup ds =>
      refine s_ifF ((eb_B (ed_isStr (ed_var rfl r_value)))) (gr0 (M := []) s0) fun H' g => ?_
      match ds, hx, r_value, k with
      | [], hx, r_value, k => exact s_ret (ed_andT (ed_isTup (ed_var rfl r_value)) (ed_andF (ed_op (ed_lenT (ed_var rfl r_value)) ed_int fun _ _ => rd_eq rfl))) g k
      | [a], hx, r_value, k => exact s_ret (ed_andT (ed_isTup (ed_var rfl r_value)) (ed_andF (ed_op (ed_lenT (ed_var rfl r_value)) ed_int fun _ _ => rd_eq rfl))) g k
      | [a, b], hx, r_value, k =>
        have hn : rNumber [b] (.bl (isNumber b)) := ⟨b, rfl, rfl⟩
        have hx : isDct a = false := hx
        exact s_ret (Ed.to (ed_andT (ed_isTup (ed_var rfl r_value)) (ed_andT (ed_op (ed_lenT (ed_var rfl r_value)) ed_int fun _ _ => rd_eq rfl) (ed_andV (b := eqS a "flag") (Ed.to (ed_op (ed_op (ed_var rfl r_value) ed_int fun _ _ => rd_ixT at0) ed_str fun _ _ => rd_eqS hx) (by simp)) fun _ => ed_rel (eds_cons (ed_op (ed_var rfl r_value) ed_int fun _ _ => rd_ixT at1) eds_nil) hn))) rfl) g k
      | a :: b :: c :: r, hx, r_value, k =>
        refine s_ret (ed_andT (ed_isTup (ed_var rfl r_value)) (ed_andF (Ed.to (ed_op (ed_lenT (ed_var rfl r_value)) ed_int fun _ _ => rd_eq rfl) ?_))) g k
        rw [decide_eq_false (by simp only [List.length_cons]; omega)]
    | _ => exact s_ifF ((eb_B (ed_isStr (ed_var rfl r_value)))) (gr0 (M := []) s0) fun H' g => s_ret (ed_andF (ed_isTup (ed_var rfl r_value))) g k
def namedOk : D → Prop
  | .tup [a, b] => strOk a ∧ flagOk b
  | _ => True
def rNamed : List D → D → Prop := fun ds d => ∃ x, ds = [x] ∧ namedOk x ∧ d = .bl (isNamed x)
abbrev N_is_named : List Str := ["value"]
theorem sc_is_named : FnScope ["value"] ["value"] (defScope s_is_named) := ⟨rfl, rfl, rfl, by decide +kernel, rfl, by decide +kernel, by decide +kernel⟩
theorem ok_is_named (T : Tx K mg) : Good P w K mg base CX0 "is_named" 5 ["value"] (spRel rNamed) := by
  obtain ⟨fd, F⟩ := T.f_is_named
  refine ⟨T.m_is_named, F.kp, fd, ?_, F.bindsN fun _ _ _ _ _ _ us hl => match us, hl with | [_], _ => rfl⟩
  have G_is_small := ok_is_small (P := P) (w := w) (base := base) T
  have G_is_flag := ok_is_flag (P := P) (w := w) (base := base) T
  refine F.ok sc_is_named (fun vs H Q E h => ?_) (fun cdv A outer s H vs Q E hr h => ?_)
  · obtain ⟨G, ds, d, _, r, ⟨x, rfl, _⟩, _⟩ := h
    exact r.len
  · obtain ⟨G, ds, d, s0, r, ⟨x, rfl, hx, rfl⟩, k⟩ := h
    obtain ⟨v1, _, rfl, r_value, rfl⟩ := r
    refine ⟨_, PSs.nox ((pss_one (ps_ret (pe_and (pe_callB call_isi (by rfl) T.n_isinstance (by decide +kernel) (pa_cons (pv 0) (pa_cons (pe_bltn (v := .ty "tuple") rfl T.n_tuple (by decide +kernel) rfl) pa_nil))) (pe_and (pe_cmpR op_eq (pe_callB call_len_seq (by rfl) T.n_len PySem.boot_len (pa_cons (pv 0) pa_nil)) pe_int (nomark _)) (pe_and (pe_g G_is_small (hr.mono (by decide)) (pa_cons (pe_ix ix_tup (pv 0) pe_int (fun _ _ => rfl)) pa_nil)) (pe_one (pe_g G_is_flag (hr.mono (by decide)) (pa_cons (pe_ix ix_tup (pv 0) pe_int (fun _ _ => rfl)) pa_nil))))))))), ?_⟩
    cases x with
    | tup ds =>
      have g := gr0 (M := []) s0
      match ds, hx, r_value, k with
      | [], hx, r_value, k => exact s_ret (ed_andT (ed_isTup (ed_var rfl r_value)) (ed_andF (ed_op (ed_lenT (ed_var rfl r_value)) ed_int fun _ _ => rd_eq rfl))) g k
      | [a], hx, r_value, k => exact s_ret (ed_andT (ed_isTup (ed_var rfl r_value)) (ed_andF (ed_op (ed_lenT (ed_var rfl r_value)) ed_int fun _ _ => rd_eq rfl))) g k
      | [a, b], hx, r_value, k =>
        have hx : strOk a ∧ flagOk b := hx
        have h1 : rSmall [a] (.bl (isSmall a)) := ⟨a, rfl, hx.1, rfl⟩
        have h2 : rFlag [b] (.bl (isFlag b)) := ⟨b, rfl, hx.2, rfl⟩
        exact s_ret (ed_andT (ed_isTup (ed_var rfl r_value)) (ed_andT (ed_op (ed_lenT (ed_var rfl r_value)) ed_int fun _ _ => rd_eq rfl) (ed_andV (ed_rel (eds_cons (ed_op (ed_var rfl r_value) ed_int fun _ _ => rd_ixT at0) eds_nil) h1) fun _ => ed_rel (eds_cons (ed_op (ed_var rfl r_value) ed_int fun _ _ => rd_ixT at1) eds_nil) h2))) g k
      | a :: b :: c :: r, hx, r_value, k =>
        refine s_ret (ed_andT (ed_isTup (ed_var rfl r_value)) (ed_andF (Ed.to (ed_op (ed_lenT (ed_var rfl r_value)) ed_int fun _ _ => rd_eq rfl) ?_))) g k
        rw [decide_eq_false (by simp only [List.length_cons]; omega)]
    | _ => exact s_ret (ed_andF (ed_isTup (ed_var rfl r_value))) (gr0 (M := []) s0) k
end
end K18
set_option maxHeartbeats 4000000
namespace K18
open PySem PySem.Spec PyProof.Rows L2 Kd
/-! ### rows, parts, kinds of a tree -/
def opOf : D → List Nat
  | .tup (.str s :: _) => s.cps.toList
  | _ => []
def rising (ns : List D) : Bool := (List.zipWith (fun x y => decide (opOf x < opOf y)) ns (ns.drop 1)).all id
def isRow : D → Bool
  | .tup [.lst ns, t] => isNumber t && (ns.all isNamed && rising ns)
  | _ => false
def rowOk : D → Prop
  | .tup [.lst ns, _] => (∀ n ∈ ns, namedOk n) ∧ ns.length ≤ 1000
  | _ => True
theorem isNamed_str {x : D} (h : isNamed x = true) : ∃ s r, x = .tup (.str s :: r) := by
  cases x with
  | tup ds =>
    match ds, h with
    | [a, b], h =>
      have h : (isSmall a && isFlag b) = true := h
      cases a with
      | str s => exact ⟨s, _, rfl⟩
      | _ => simp [isSmall] at h
    | [], h => simp [isNamed] at h
    | [_], h => simp [isNamed] at h
    | _ :: _ :: _ :: _, h => simp [isNamed] at h
  | _ => simp [isNamed] at h
section
variable {P : Program} {w : World} {K : PySem.W.Frag} {mg : Str → Option Value} {base : Heap}
def rRow : List D → D → Prop := fun ds d => ∃ x, ds = [x] ∧ rowOk x ∧ d = .bl (isRow x)
def fNamed (z : D) : D := .bl (isNamed z)
def fLess : D → D
  | .tup [a, b] => .bl (decide (opOf a < opOf b))
  | _ => .non
theorem isRow_no2 {ds : List D} (h : ds.length ≠ 2) : isRow (.tup ds) = false := by
  match ds, h with
  | [], _ => rfl
  | [a], _ => cases a <;> rfl
  | [a, b], h => simp at h
  | a :: b :: c :: r, _ => cases a <;> rfl
abbrev N_is_row : List Str := ["value", "named", "tail", "one", "other"]
theorem sc_is_row : FnScope ["value", "named", "tail", "one", "other"] ["value"] (defScope s_is_row) := ⟨rfl, rfl, rfl, by decide +kernel, rfl, by decide +kernel, by decide +kernel⟩
theorem ok_is_row (T : Tx K mg) : Good P w K mg base CX0 "is_row" 6 ["value"] (spRel rRow) := by
  obtain ⟨fd, F⟩ := T.f_is_row
  refine ⟨T.m_is_row, F.kp, fd, ?_, F.bindsN fun _ _ _ _ _ _ us hl => match us, hl with | [_], _ => rfl⟩
  have G_is_number := ok_is_number (P := P) (w := w) (base := base) T
  have G_is_named := ok_is_named (P := P) (w := w) (base := base) T
  refine F.ok sc_is_row (fun vs H Q E h => ?_) (fun cdv A outer s H vs Q E hr h => ?_)
  · obtain ⟨G, ds, d, _, r, ⟨x, rfl, _⟩, _⟩ := h
    exact r.len
  · obtain ⟨G, ds, d, s0, r, ⟨x, rfl, hx, rfl⟩, k⟩ := h
    obtain ⟨v1, _, rfl, r_value, rfl⟩ := r
    refine ⟨_, PSs.nox ((pss_cons (ps_if (PW.pt (pw_or (pt_not (pt_val (pe_callB call_isi (by rfl) T.n_isinstance (by decide +kernel) (pa_cons (pv 0) (pa_cons (pe_bltn (v := .ty "tuple") rfl T.n_tuple (by decide +kernel) rfl) pa_nil))))) (pw_or (pt_cmpR op_ne (pe_callB call_len_seq (by rfl) T.n_len PySem.boot_len (pa_cons (pv 0) pa_nil)) pe_int (nomark _)) (pw_or1 (pt_not (pt_val (pe_callB call_isi (by rfl) T.n_isinstance (by decide +kernel) (pa_cons (pe_ix ix_tup (pv 0) pe_int (fun _ _ => rfl)) (pa_cons (pe_bltn (v := .ty "list") rfl T.n_list (by decide +kernel) rfl) pa_nil))))))))) (pss_one (ps_ret pe_bl)) pss_nil)
    (pss_cons (ps_asg (pv 0) (pg_tup rfl (pgs_cons (pg_name (i := 1) sc_is_row.nd rfl (Or.inl rfl)) (pgs_cons (pg_name (i := 2) sc_is_row.nd rfl (Or.inl rfl)) pgs_nil))))
    (pss_cons (ps_if (PW.pt (pw_or (pt_not (pt_val (pe_g G_is_number (hr.mono (by decide)) (pa_cons (pv 2) pa_nil)))) (pw_or1 (pt_not (pt_val (pe_callB (cr_all rfl) (by rfl) T.n_all (by decide +kernel) (pa_cons (pe_lc (own := [("one", 3)]) rfl sc_is_row.nd (pi_list (pv 1)) (blkOk_by (own := [("one", 3)]) (N := ["value", "named", "tail", "one", "other"]) (sc := defScope s_is_row) (by decide +kernel)) (fun _ _ _ _ _ => by exact (pg_name (i := 3) sc_is_row.nd rfl (Or.inl rfl))) (fun _ _ _ _ _ => by exact pts_nil) (fun _ _ _ _ _ => by exact (pe_g G_is_named (hr.mono (by decide)) (pa_cons (pv 3) pa_nil)))) pa_nil))))))) (pss_one (ps_ret pe_bl)) pss_nil)
    (pss_one (ps_ret (pe_callB (cr_all rfl) (by rfl) T.n_all (by decide +kernel) (pa_cons (pe_lc (own := [("one", 3), ("other", 4)]) rfl sc_is_row.nd (pi_zip (by rfl) T.n_zip (pa_cons (pv 1) (pa_cons (pe_slice sl_list (pv 1) (po_some pe_int) po_none) pa_nil))) (blkOk_by (own := [("one", 3), ("other", 4)]) (N := ["value", "named", "tail", "one", "other"]) (sc := defScope s_is_row) (by decide +kernel)) (fun _ _ _ _ _ => by exact (pgK_tup (K := K) (n := 2) rfl rfl (pgs_cons (pg_name (i := 3) sc_is_row.nd rfl (Or.inl rfl)) (pgs_cons (pg_name (i := 4) sc_is_row.nd rfl (Or.inl rfl)) pgs_nil)))) (fun _ _ _ _ _ => by exact pts_nil) (fun _ _ _ _ _ => by exact (pe_cmpR op_lt_str (pe_ix (ixK_tup (K := K) rfl) (pv 3) pe_int (fun _ _ => rfl)) (pe_ix (ixK_tup (K := K) rfl) (pv 4) pe_int (fun _ _ => rfl)) (nomark _)))) pa_nil)))))))), ?_⟩
    have g := gr0 (M := []) s0
    cases x with
    | tup ds =>
      by_cases h2 : ds.length = 2
      · obtain ⟨a, t, rfl⟩ : ∃ a t, ds = [a, t] := match ds, h2 with | [a, t], _ => ⟨a, t, rfl⟩
        cases a with
        | lst ns =>
          obtain ⟨hn, hl⟩ : (∀ n ∈ ns, namedOk n) ∧ ns.length ≤ 1000 := hx
          refine s_ifF (eb_orF (eb_not (eb_B (ed_isTup (ed_var rfl r_value)))) (eb_orF (eb_test (ed_op (ed_lenT (ed_var rfl r_value)) ed_int fun _ _ => rd_ne rfl)) (eb_not (eb_B (ed_isLst (ed_op (ed_var rfl r_value) ed_int fun _ _ => rd_ixT at0)))))) g fun H1 g => ?_
          -- named, tail = value
          obtain ⟨a0, vs0, rfl, ha0, hr0⟩ := id r_value
          obtain ⟨vn, _, rfl, r_named, vt, _, rfl, r_tail, rfl⟩ := hr0
          refine ⟨_, rfl, a0, _, rfl, SqT.of (g.s a0 _ ha0), rfl, vn, _, rfl, vt, _, rfl, rfl, ?_⟩
          have hcN : rNumber [t] (.bl (isNumber t)) := ⟨t, rfl, rfl⟩
          have hcomp : ∀ G', Same G G' → Ed (tLc (iList K (tVar 1)) (gName 3) tYes (tCall (spRel rNamed) [] E0 (tCons (tVar 3) tNil)) [3]) [some (.ref a0), some vn, some vt, none, none] G' (.lst ((ns.map isNamed).map D.bl)) := fun G' e => by
            refine Ed.to (ed_lcAll fNamed (es_list (ed_var rfl (r_named.mono e))) (by omega) ?_) (by rw [List.map_map]; rfl)
            intro d hd G2 s2
            exact tk_name fun u hu => ⟨rfl, ed_rel (eds_cons (ed_var rfl hu) eds_nil) ⟨d, rfl, hn d hd, rfl⟩⟩
          refine s_if (eb_or (eb_not (eb_B (ed_rel (eds_cons (ed_var rfl r_tail) eds_nil) hcN))) fun _ => eb_not (eb_B (ed_all (hcomp G (Same.refl _))))) g (fun hb H2 g => ?_) (fun hb H2 g => ?_)
          · refine s_ret (Ed.to ed_bl ?_) g k
            show D.bl false = D.bl (isNumber t && (ns.all isNamed && rising ns))
            rw [List.all_map] at hb
            have hb : (!isNumber t || !ns.all isNamed) = true := hb
            cases h3 : isNumber t <;> cases h4 : ns.all isNamed <;> rw [h3, h4] at hb <;> first | rfl | cases hb
          · rw [List.all_map] at hb
            have hb : (!isNumber t || !ns.all isNamed) = false := hb
            have h3 : isNumber t = true := by cases h3 : isNumber t <;> rw [h3] at hb <;> first | rfl | cases hb
            have h4 : ns.all isNamed = true := by cases h4 : ns.all isNamed <;> rw [h3, h4] at hb <;> first | rfl | cases hb
            refine s_ret (Ed.to (ed_all (bs := List.zipWith (fun x y => decide (opOf x < opOf y)) ns (ns.drop 1)) ((ed_lcAll fLess (es_zip (ed_var rfl r_named) ((ed_slL (ed_var rfl r_named) (eo_some ed_int) eo_none).to (by rw [cut1]))) (by rw [List.length_zipWith]; omega) ?_).to ?_)) ?_) g k
            · intro d hd G2 s2
              rw [List.mem_iff_getElem?] at hd
              obtain ⟨i, hi⟩ := hd
              rw [List.getElem?_zipWith] at hi
              cases e1 : ns[i]? with
              | none => rw [e1] at hi; cases hi
              | some x1 =>
                cases e2 : (ns.drop 1)[i]? with
                | none => rw [e1, e2] at hi; cases hi
                | some y1 =>
                  rw [e1, e2] at hi
                  cases hi
                  obtain ⟨s1, q1, rfl⟩ := isNamed_str (List.all_eq_true.mp h4 x1 (List.mem_of_getElem? e1))
                  obtain ⟨s2, q2, rfl⟩ := isNamed_str (List.all_eq_true.mp h4 y1 (List.mem_of_mem_drop (List.mem_of_getElem? e2)))
                  refine tk_tup rfl (tkl_cons fun u hu => tkl_cons fun u' hu' => tkl_nil ⟨rfl, ?_⟩)
                  exact ed_op (ed_op (ed_var rfl hu) ed_int fun _ _ => rd_ixT at0) (ed_op (ed_var rfl hu') ed_int fun _ _ => rd_ixT at0) fun _ _ => rd_ltS
            · rw [List.map_zipWith, List.map_zipWith]
              rfl
            · show D.bl (rising ns) = D.bl (isNumber t && (ns.all isNamed && rising ns))
              rw [h3, h4]
              rfl
        | _ => exact s_ifT (eb_orF (eb_not (eb_B (ed_isTup (ed_var rfl r_value)))) (eb_orF (eb_test (ed_op (ed_lenT (ed_var rfl r_value)) ed_int fun _ _ => rd_ne rfl)) (eb_not (eb_B (ed_isLst (ed_op (ed_var rfl r_value) ed_int fun _ _ => rd_ixT at0)))))) g fun H1 g => s_ret ed_bl g k
      · refine s_ifT (eb_orF (eb_not (eb_B (ed_isTup (ed_var rfl r_value)))) (eb_orT (((eb_test (ed_op (ed_lenT (ed_var rfl r_value)) ed_int fun _ _ => rd_ne rfl)) : Eb _ _ _ _).to ?_))) g fun H1 g => s_ret (Ed.to ed_bl (by rw [isRow_no2 h2])) g k
        rw [decide_eq_false (by omega)]
        rfl
    | _ => exact s_ifT (eb_orT (eb_not (eb_B (ed_isTup (ed_var rfl r_value))))) g fun H1 g => s_ret ed_bl g k
end
end K18
set_option maxHeartbeats 4000000
namespace K18
open PySem PySem.Spec PyProof.Rows L2 Kd
/-! ### the parts of a tree that may be a kind -/
def oneNum : List D → Bool
  | [n] => isNumber n
  | _ => false
def funOf : List D → Option (List D)
  | [a, r, b] => if isRow r = true then some [a, b] else none
  | _ => none
def dataOf : List D → Option (List D)
  | [n, .lst ks] => if isGreat n = true then some ks else none
  | _ => none
def partsW (w : Str) (rest : List D) : Option (List D) :=
  if thePlain.any (fun z => z == w) = true then (if rest.isEmpty = true then some [] else none)
  else if decide (w = "letter") = true then (if oneNum rest = true then some [] else none)
  else if decide (w = "pair") = true then (if rest.length = 2 then some rest else none)
  else if decide (w = "fun") = true then funOf rest
  else if decide (w = "data") = true then dataOf rest
  else none
def partsOf : D → Option (List D)
  | .tup (.str w :: rest) => partsW w rest
  | _ => none
def optD : Option (List D) → D
  | none => .non
  | some ps => .lst ps
/-- what the walk through its parts asks of it -/
def partsOk : D → Prop
  | .tup (.str w :: rest) => rest.length ≤ 1000 ∧ (w = "fun" → ∀ a r b, rest = [a, r, b] → rowOk r) ∧ (w = "data" → ∀ n k, rest = [n, k] → strOk n)
  | _ => True
theorem cut1t {d : D} {ds : List D} : cutD (d :: ds) (some 1) none = ds := cut1
theorem funOf_no {ds : List D} (h : ds.length ≠ 3) : funOf ds = none := by
  match ds, h with
  | [], _ => rfl
  | [_], _ => rfl
  | [_, _], _ => rfl
  | [_, _, _], h => simp at h
  | _ :: _ :: _ :: _ :: _, _ => rfl
theorem dataOf_no {ds : List D} (h : ds.length ≠ 2) : dataOf ds = none := by
  match ds, h with
  | [], _ => rfl
  | [_], _ => rfl
  | [_, _], h => simp at h
  | a :: b :: _ :: _, _ => cases b <;> rfl
theorem isEmpty_no {ds : List D} : (!ds.isEmpty) = true ↔ ds ≠ [] := by cases ds <;> simp
section
variable {P : Program} {w : World} {K : PySem.W.Frag} {mg : Str → Option Value} {base : Heap}
def rParts : List D → D → Prop := fun ds d => ∃ x, ds = [x] ∧ partsOk x ∧ d = optD (partsOf x)
abbrev N_parts_of : List Str := ["value", "word", "rest"]
theorem sc_parts_of : FnScope ["value", "word", "rest"] ["value"] (defScope s_parts_of) := ⟨rfl, rfl, rfl, by decide +kernel, rfl, by decide +kernel, by decide +kernel⟩
theorem ok_parts_of (T : Tx K mg) : Good P w K mg base CX0 "parts_of" 7 ["value"] (spRel rParts) := by
  obtain ⟨fd, F⟩ := T.f_parts_of
  refine ⟨T.m_parts_of, F.kp, fd, ?_, F.bindsN fun _ _ _ _ _ _ us hl => match us, hl with | [_], _ => rfl⟩
  have G_is_great := ok_is_great (P := P) (w := w) (base := base) T
  have G_is_number := ok_is_number (P := P) (w := w) (base := base) T
  have G_is_row := ok_is_row (P := P) (w := w) (base := base) T
  refine F.ok sc_parts_of (fun vs H Q E h => ?_) (fun cdv A outer s H vs Q E hr h => ?_)
  · obtain ⟨G, ds, d, _, r, ⟨x, rfl, _⟩, _⟩ := h
    exact r.len
  · obtain ⟨G, ds, d, s0, r, ⟨x, rfl, hx, rfl⟩, k⟩ := h
    obtain ⟨v1, _, rfl, r_value, rfl⟩ := r
    refine ⟨_, PSs.nox ((pss_cons (ps_if (PW.pt (pw_or (pt_not (pt_val (pe_callB call_isi (by rfl) T.n_isinstance (by decide +kernel) (pa_cons (pv 0) (pa_cons (pe_bltn (v := .ty "tuple") rfl T.n_tuple (by decide +kernel) rfl) pa_nil))))) (pw_or (pt_not (pt_truth (pv 0) (by intro _; rfl))) (pw_or1 (pt_not (pt_val (pe_callB call_isi (by rfl) T.n_isinstance (by decide +kernel) (pa_cons (pe_ix ix_tup (pv 0) pe_int (fun _ _ => rfl)) (pa_cons (pe_bltn (v := .ty "str") rfl T.n_str (by decide +kernel) rfl) pa_nil))))))))) (pss_one (ps_ret pe_non)) pss_nil)
    (pss_cons (ps_par (i := 1) (j := 2) (by rfl) sc_parts_of.nd rfl rfl (by decide) rfl rfl (pa_cons (pe_ix ix_tup (pv 0) pe_int (fun _ _ => rfl)) (pa_cons (pe_slice sl_tupA (pv 0) (po_some pe_int) po_none) pa_nil)) (by rfl))
    (pss_cons (ps_if (pt_cmpR op_in_seq (pv 1) (pe_glob (v := .ref (He.ga K "PLAIN")) rfl T.m_PLAIN rfl) (by rfl)) (pss_one (ps_ret (pe_ifExp (pt_truth (pv 2) (by intro _; rfl)) pe_non (pe_lst pa_nil)))) pss_nil)
    (pss_cons (ps_if (pt_cmpR op_eq (pv 1) pe_str (nomark _)) (pss_one (ps_ret (pe_ifExp (PW.pt (pw_and (pt_cmpR op_eq (pe_callB call_len_seq (by rfl) T.n_len PySem.boot_len (pa_cons (pv 2) pa_nil)) pe_int (nomark _)) (pw_and1 (pt_val (pe_g G_is_number (hr.mono (by decide)) (pa_cons (pe_ix ix_tup (pv 2) pe_int (fun _ _ => rfl)) pa_nil)))))) (pe_lst pa_nil) pe_non))) pss_nil)
    (pss_cons (ps_if (pt_cmpR op_eq (pv 1) pe_str (nomark _)) (pss_one (ps_ret (pe_ifExp (pt_cmpR op_eq (pe_callB call_len_seq (by rfl) T.n_len PySem.boot_len (pa_cons (pv 2) pa_nil)) pe_int (nomark _)) (pe_callTy call_list_of (by rfl) T.n_list (by decide +kernel) (pa_cons (pv 2) pa_nil)) pe_non))) pss_nil)
    (pss_cons (ps_if (pt_cmpR op_eq (pv 1) pe_str (nomark _)) (pss_one (ps_ret (pe_ifExp (PW.pt (pw_and (pt_cmpR op_eq (pe_callB call_len_seq (by rfl) T.n_len PySem.boot_len (pa_cons (pv 2) pa_nil)) pe_int (nomark _)) (pw_and1 (pt_val (pe_g G_is_row (hr.mono (by decide)) (pa_cons (pe_ix ix_tup (pv 2) pe_int (fun _ _ => rfl)) pa_nil)))))) (pe_lst (pa_cons (pe_ix ix_tup (pv 2) pe_int (fun _ _ => rfl)) (pa_cons (pe_ix ix_tup (pv 2) pe_int (fun _ _ => rfl)) pa_nil))) pe_non))) pss_nil)
    (pss_cons (ps_if (PW.pt (pw_and (pt_cmpR op_eq (pv 1) pe_str (nomark _)) (pw_and (pt_cmpR op_eq (pe_callB call_len_seq (by rfl) T.n_len PySem.boot_len (pa_cons (pv 2) pa_nil)) pe_int (nomark _)) (pw_and (pt_val (pe_g G_is_great (hr.mono (by decide)) (pa_cons (pe_ix ix_tup (pv 2) pe_int (fun _ _ => rfl)) pa_nil))) (pw_and1 (pt_val (pe_callB call_isi (by rfl) T.n_isinstance (by decide +kernel) (pa_cons (pe_ix ix_tup (pv 2) pe_int (fun _ _ => rfl)) (pa_cons (pe_bltn (v := .ty "list") rfl T.n_list (by decide +kernel) rfl) pa_nil))))))))) (pss_one (ps_ret (pe_callTy call_list_of (by rfl) T.n_list (by decide +kernel) (pa_cons (pe_ix ix_tup (pv 2) pe_int (fun _ _ => rfl)) pa_nil)))) pss_nil)
    (pss_one (ps_ret pe_non)))))))))), ?_⟩
    have g := gr0 (M := []) s0
    cases x with
    | tup ds =>
      cases ds with
      | nil => exact s_ifT (eb_orF (eb_not (eb_B (ed_isTup (ed_var rfl r_value)))) (eb_orT (eb_not (eb_truth (ed_var rfl r_value) rfl)))) g fun H1 g => s_ret ed_non g k
      | cons a rest =>
        cases a with
        | str wd =>
          obtain ⟨hl, hf, hd⟩ := hx
          refine s_ifF (eb_orF (eb_not (eb_B (ed_isTup (ed_var rfl r_value)))) (eb_orF (eb_not (eb_truth (ed_var rfl r_value) rfl)) (eb_not (eb_B (ed_isStr (ed_op (ed_var rfl r_value) ed_int fun _ _ => rd_ixT at0)))))) g fun H1 g => ?_
          refine s_par (eds_cons (ed_op (ed_var rfl r_value) ed_int fun _ _ => rd_ixT at0) (eds_cons ((ed_slT (ed_var rfl r_value) (eo_some ed_int) eo_none).to (by rw [cut1t])) eds_nil)) g fun vw vr G H2 g e r_word r_rest => ?_
          show tSeq _ _ _ [some v1, some vw, some vr] H2
          have k : ∀ v G' H', Gp _ H G' H' → Rp G' (optD (partsW wd rest)) v → Q v H' := k
          unfold partsW at k
          refine s_if (eb_test (ed_inK (ed_var rfl r_word) T.plain)) g (fun hb H3 g => ?_) fun hb H3 g => ?_
          · rw [if_pos hb] at k
            refine s_ret (ed_ifc (eb_truth (ed_var rfl r_rest) rfl) (fun _ => ed_non) fun _ => ed_lst eds_nil (Nat.zero_le _)) g fun v G' H' g r => k v G' H' g ?_
            cases rest with
            | nil => exact r
            | cons _ _ => exact r
          rw [if_neg (by rw [hb]; simp)] at k
          refine s_if (eb_test (ed_op (ed_var rfl r_word) ed_str fun _ _ => rd_eq rfl)) g (fun hb H4 g => ?_) fun hb H4 g => ?_
          · rw [if_pos hb] at k
            by_cases h1 : rest.length = 1
            · obtain ⟨n, rfl⟩ : ∃ n, rest = [n] := match rest, h1 with | [n], _ => ⟨n, rfl⟩
              have hN : rNumber [n] (.bl (isNumber n)) := ⟨n, rfl, rfl⟩
              refine s_ret (ed_ifc (eb_andT (eb_test (ed_op (ed_lenT (ed_var rfl r_rest)) ed_int fun _ _ => rd_eq rfl)) (eb_B (ed_rel (eds_cons (ed_op (ed_var rfl r_rest) ed_int fun _ _ => rd_ixT at0) eds_nil) hN))) (fun _ => ed_lst eds_nil (Nat.zero_le _)) fun _ => ed_non) g fun v G' H' g r => k v G' H' g ?_
              show Rp G' (optD (if isNumber n = true then some [] else none)) v
              cases q : isNumber n <;> rw [q] at r <;> exact r
            · refine s_ret (ed_ifF (eb_andF (((eb_test (ed_op (ed_lenT (ed_var rfl r_rest)) ed_int fun _ _ => rd_eq rfl)) : Eb _ _ _ _).to (decide_eq_false (by omega)))) ed_non) g fun v G' H' g r => k v G' H' g ?_
              have e : oneNum rest = false := by
                match rest, h1 with
                | [], _ => rfl
                | [_], h1 => simp at h1
                | _ :: _ :: _, _ => rfl
              rw [e]
              exact r
          rw [if_neg (by rw [hb]; simp)] at k
          refine s_if (eb_test (ed_op (ed_var rfl r_word) ed_str fun _ _ => rd_eq rfl)) g (fun hb H5 g => ?_) fun hb H5 g => ?_
          · rw [if_pos hb] at k
            refine s_ret (ed_ifc (eb_test (ed_op (ed_lenT (ed_var rfl r_rest)) ed_int fun _ _ => rd_eq rfl)) (fun _ => ed_listT (ed_var rfl r_rest)) fun _ => ed_non) g fun v G' H' g r => k v G' H' g ?_
            by_cases h2 : rest.length = 2
            · rw [if_pos h2]
              rw [if_pos (decide_eq_true (by omega))] at r
              exact r
            · rw [if_neg h2]
              rw [if_neg (by rw [decide_eq_false (by omega)]; simp)] at r
              exact r
          rw [if_neg (by rw [hb]; simp)] at k
          refine s_if (eb_test (ed_op (ed_var rfl r_word) ed_str fun _ _ => rd_eq rfl)) g (fun hb H6 g => ?_) fun hb H6 g => ?_
          · rw [if_pos hb] at k
            by_cases h3 : rest.length = 3
            · obtain ⟨a, rw', b, rfl⟩ : ∃ a r b, rest = [a, r, b] := match rest, h3 with | [a, r, b], _ => ⟨a, r, b, rfl⟩
              have hR : rRow [rw'] (.bl (isRow rw')) := ⟨rw', rfl, hf (of_decide_eq_true hb) a rw' b rfl, rfl⟩
              refine s_ret (ed_ifc (eb_andT (eb_test (ed_op (ed_lenT (ed_var rfl r_rest)) ed_int fun _ _ => rd_eq rfl)) (eb_B (ed_rel (eds_cons (ed_op (ed_var rfl r_rest) ed_int fun _ _ => rd_ixT at1) eds_nil) hR))) (fun _ => (ed_lst (eds_cons (ed_op (ed_var rfl r_rest) ed_int fun _ _ => rd_ixT at0) (eds_cons (ed_op (ed_var rfl r_rest) ed_int fun _ _ => rd_ixT at2) eds_nil)) (Nat.le_of_ble_eq_true rfl))) fun _ => ed_non) g fun v G' H' g r => k v G' H' g ?_
              show Rp G' (optD (if isRow rw' = true then some [a, b] else none)) v
              cases q : isRow rw' <;> rw [q] at r <;> exact r
            · refine s_ret (ed_ifF (eb_andF (((eb_test (ed_op (ed_lenT (ed_var rfl r_rest)) ed_int fun _ _ => rd_eq rfl)) : Eb _ _ _ _).to (decide_eq_false (by omega)))) ed_non) g fun v G' H' g r => k v G' H' g ?_
              rw [funOf_no h3]
              exact r
          rw [if_neg (by rw [hb]; simp)] at k
          cases hw : decide (wd = "data") with
          | false =>
            rw [hw, if_neg (by simp)] at k
            refine s_ifF (eb_andF (((eb_test (ed_op (ed_var rfl r_word) ed_str fun _ _ => rd_eq rfl)) : Eb _ _ _ _).to hw)) g fun H7 g => ?_
            simp only [tNext]
            refine s_ret ed_non g ?_
            exact k
          | true =>
            rw [hw, if_pos rfl] at k
            by_cases h2 : rest.length = 2
            · obtain ⟨n, ks, rfl⟩ : ∃ n ks, rest = [n, ks] := match rest, h2 with | [n, ks], _ => ⟨n, ks, rfl⟩
              have hG : rGreat [n] (.bl (isGreat n)) := ⟨n, rfl, hd (of_decide_eq_true hw) n ks rfl, rfl⟩
              cases q : isGreat n with
              | false =>
                refine s_ifF (eb_andT (((eb_test (ed_op (ed_var rfl r_word) ed_str fun _ _ => rd_eq rfl)) : Eb _ _ _ _).to hw) (eb_andT (eb_test (ed_op (ed_lenT (ed_var rfl r_rest)) ed_int fun _ _ => rd_eq rfl)) (eb_andF ((eb_B (ed_rel (eds_cons (ed_op (ed_var rfl r_rest) ed_int fun _ _ => rd_ixT at0) eds_nil) hG)).to q)))) g fun H7 g => ?_
                simp only [tNext]
                refine s_ret ed_non g ?_
                refine fun v G' H' g r => k v G' H' g ?_
                cases ks <;> first | exact r | (show Rp G' (optD (if isGreat n = true then some _ else none)) v; rw [q]; exact r)
              | true =>
                cases ks with
                | lst ks =>
                  refine s_ifT (eb_andT (((eb_test (ed_op (ed_var rfl r_word) ed_str fun _ _ => rd_eq rfl)) : Eb _ _ _ _).to hw) (eb_andT (eb_test (ed_op (ed_lenT (ed_var rfl r_rest)) ed_int fun _ _ => rd_eq rfl)) (eb_andT ((eb_B (ed_rel (eds_cons (ed_op (ed_var rfl r_rest) ed_int fun _ _ => rd_ixT at0) eds_nil) hG)).to q) (eb_B (ed_isLst (ed_op (ed_var rfl r_rest) ed_int fun _ _ => rd_ixT at1)))))) g fun H7 g => s_ret (ed_listL (ed_op (ed_var rfl r_rest) ed_int fun _ _ => rd_ixT at1)) g fun v G' H' g r => k v G' H' g ?_
                  show Rp G' (optD (if isGreat n = true then some ks else none)) v
                  rw [q]
                  exact r
                | _ =>
                  refine s_ifF (eb_andT (((eb_test (ed_op (ed_var rfl r_word) ed_str fun _ _ => rd_eq rfl)) : Eb _ _ _ _).to hw) (eb_andT (eb_test (ed_op (ed_lenT (ed_var rfl r_rest)) ed_int fun _ _ => rd_eq rfl)) (eb_andT ((eb_B (ed_rel (eds_cons (ed_op (ed_var rfl r_rest) ed_int fun _ _ => rd_ixT at0) eds_nil) hG)).to q) (eb_B (ed_isLst (ed_op (ed_var rfl r_rest) ed_int fun _ _ => rd_ixT at1)))))) g fun H7 g => ?_
                  simp only [tNext]
                  refine s_ret ed_non g ?_
                  exact k
            · refine s_ifF (eb_andT (((eb_test (ed_op (ed_var rfl r_word) ed_str fun _ _ => rd_eq rfl)) : Eb _ _ _ _).to hw) (eb_andF (((eb_test (ed_op (ed_lenT (ed_var rfl r_rest)) ed_int fun _ _ => rd_eq rfl)) : Eb _ _ _ _).to (decide_eq_false (by omega))))) g fun H7 g => ?_
              simp only [tNext]
              refine s_ret ed_non g ?_
              refine fun v G' H' g r => k v G' H' g ?_
              rw [dataOf_no h2]
              exact r
        | _ => exact s_ifT (eb_orF (eb_not (eb_B (ed_isTup (ed_var rfl r_value)))) (eb_orF (eb_not (eb_truth (ed_var rfl r_value) rfl)) (eb_not (eb_B (ed_isStr (ed_op (ed_var rfl r_value) ed_int fun _ _ => rd_ixT at0)))))) g fun H1 g => s_ret ed_non g k
    | _ => exact s_ifT (eb_orT (eb_not (eb_B (ed_isTup (ed_var rfl r_value))))) g fun H1 g => s_ret ed_non g k
end
end K18
set_option maxHeartbeats 4000000
namespace K18
open PySem PySem.Spec PyProof.Rows L2 Kd
/-! ### kinds of a tree -/
mutual
def szD : D → Nat
  | .tup ds => szL ds + 1
  | .lst ds => szL ds + 1
  | _ => 1
def szL : List D → Nat
  | [] => 0
  | d :: ds => szD d + szL ds
end
theorem szL_app : ∀ (ds es : List D), szL (ds ++ es) = szL ds + szL es
  | [], es => by simp [szL]
  | d :: ds, es => by simp [szL, szL_app ds es]; omega
theorem szD_pos : ∀ d : D, 1 ≤ szD d := fun d => by cases d <;> simp [szD]
theorem szL_mem {d : D} : ∀ {ds : List D}, d ∈ ds → szD d ≤ szL ds
  | e :: ds, h => by
    rcases List.mem_cons.mp h with rfl | h
    · simp [szL]
    · have := szL_mem h
      simp [szL]
      omega
theorem szL_len : ∀ ds : List D, ds.length ≤ szL ds
  | [] => by simp
  | d :: ds => by
    have := szL_len ds
    have := szD_pos d
    simp [szL]
    omega
theorem szL_drop (n : Nat) : ∀ ds : List D, szL (ds.drop n) ≤ szL ds := fun ds => by
  have e := szL_app (ds.take n) (ds.drop n)
  rw [List.take_append_drop] at e
  omega
theorem partsOf_sz {x : D} {ps : List D} (h : partsOf x = some ps) : szL ps < szD x := by
  unfold partsOf at h
  split at h
  · rename_i w rest
    show szL ps < szD (.str w) + szL rest + 1
    unfold partsW at h
    split at h
    · split at h
      · cases h; simp [szL]
      · cases h
    · split at h
      · split at h
        · cases h; simp [szL]
        · cases h
      · split at h
        · split at h
          · cases h; omega
          · cases h
        · split at h
          · unfold funOf at h
            split at h
            · split at h
              · cases h; simp [szL]; omega
              · cases h
            · cases h
          · split at h
            · unfold dataOf at h
              split at h
              · split at h
                · cases h; simp [szL, szD]; omega
                · cases h
              · cases h
            · cases h
  · cases h
def isKind (x : D) : Bool := match h : partsOf x with
  | none => false
  | some ps => ps.attach.all fun p => isKind p.1
termination_by szD x
decreasing_by exact Nat.lt_of_le_of_lt (szL_mem p.2) (partsOf_sz h)
theorem isKind_eq (x : D) : isKind x = match partsOf x with | none => false | some ps => ps.all isKind := by
  rw [isKind]
  split
  · rename_i h
    rw [h]
  · rename_i ps h
    rw [h]
    show (ps.attach.all fun p => isKind p.1) = ps.all isKind
    rw [← List.attach_map_subtype_val ps, List.all_map]
    simp
/-- what the walk comes to -/
inductive Rch (x : D) : D → Prop where
  | refl : Rch x x
  | step {y z : D} {ps : List D} : Rch x y → partsOf y = some ps → z ∈ ps → Rch x z
def kindOk (x : D) : Prop := ∀ y, Rch x y → partsOk y
theorem Rch.trans {x y z : D} (a : Rch x y) (b : Rch y z) : Rch x z := by
  induction b with
  | refl => exact a
  | step _ h1 h2 ih => exact .step ih h1 h2
theorem kindOk.part {x y : D} {ps : List D} (h : kindOk x) (e : partsOf x = some ps) (hy : y ∈ ps) : kindOk y := fun z r => h z (Rch.trans (.step .refl e hy) r)
theorem isNon_opt (o : Option (List D)) : isNon (optD o) = o.isNone := by cases o <;> rfl
section
variable {P : Program} {w : World} {K : PySem.W.Frag} {mg : Str → Option Value} {base : Heap}
def rKind : List D → D → Prop := fun ds d => ∃ x, ds = [x] ∧ kindOk x ∧ szD x ≤ 5000000 ∧ d = .bl (isKind x)
abbrev N_is_kind : List Str := ["value", "waiting", "parts"]
theorem sc_is_kind : FnScope ["value", "waiting", "parts"] ["value"] (defScope s_is_kind) := ⟨rfl, rfl, rfl, by decide +kernel, rfl, by decide +kernel, by decide +kernel⟩
theorem ok_is_kind (T : Tx K mg) : Good P w K mg base CX0 "is_kind" 8 ["value"] (spRel rKind) := by
  obtain ⟨fd, F⟩ := T.f_is_kind
  refine ⟨T.m_is_kind, F.kp, fd, ?_, F.bindsN fun _ _ _ _ _ _ us hl => match us, hl with | [_], _ => rfl⟩
  have G_parts_of := ok_parts_of (P := P) (w := w) (base := base) T
  refine F.ok sc_is_kind (fun vs H Q E h => ?_) (fun cdv A outer s H vs Q E hr h => ?_)
  · obtain ⟨G, ds, d, _, r, ⟨x, rfl, _⟩, _⟩ := h
    exact r.len
  · obtain ⟨G, ds, d, s0, r, ⟨x, rfl, hx, hz, rfl⟩, k⟩ := h
    obtain ⟨v1, _, rfl, r_value, rfl⟩ := r
    refine ⟨_, PSs.nox ((pss_cons (ps_set (i := 1) sc_is_kind.nd rfl (Or.inl rfl) (pe_lst (pa_cons (pv 0) pa_nil)))
    (pss_cons (ps_while PassesOwn.never (pt_truth (pv 1) (by intro _; rfl)) (pss_cons (ps_set (i := 2) sc_is_kind.nd rfl (Or.inl rfl) (pe_g G_parts_of (hr.mono (by decide)) (pa_cons (pe_bm0 PySem.F.plainAttrs_list PySem.F.slot_list_pop PySem.F.type_list_pop mt_pop (pv 1)) pa_nil)))
    (pss_cons (ps_if (pt_cmpR op_isN (pv 2) pe_non (nomark _)) (pss_one (ps_ret pe_bl)) pss_nil)
    (pss_one (ps_expr (pe_bm PySem.F.plainAttrs_list PySem.F.slot_list_extend PySem.F.type_list_extend mt_extend (pv 1) (pa_cons (pv 2) pa_nil)))))))
    (pss_one (ps_ret pe_bl))))), ?_⟩
    have g := gr0 (M := []) s0
    -- waiting = [value]
    refine ⟨v1, rfl, (by show 1 ≤ sizeLine; decide), fun l hl => ?_⟩
    show tSeq _ _ _ [some v1, some (.ref l), none] _
    have h0 : H l = none := hl
    refine ⟨fun m σ Hc => ∃ (Gc : Hp) (ws : List D) (vs : List V) (o : Option V), σ = [some v1, some (.ref l), o] ∧ Gp G H Gc Hc ∧ Gc l = none ∧ Hc l = some (.lst vs) ∧ RpL Gc ws vs ∧ (∀ y ∈ ws, kindOk y) ∧ szL ws ≤ 5000000 ∧ isKind x = ws.all isKind ∧ m = szL ws,
      ⟨_, G, [x], [v1], none, rfl, g.tmp hl, g.gfree hl, upd_same, .one r_value, fun y hy => by rw [List.mem_singleton.mp hy]; exact hx, by simpa [szL] using hz, by simp, rfl⟩, ?_⟩
    rintro m σ Hc ⟨Gc, ws, vs, o, rfl, gc, gl, hL, hr, hok, hsz, hkd, rfl⟩
    refine ⟨_, rfl, _, .inl ⟨vs, SqL.of hL, rfl⟩, ?_⟩
    rcases nil_or_snoc ws with rfl | ⟨ws', y, rfl⟩
    · cases hr
      rw [if_neg (by simp)]
      dsimp only
      refine s_ret ed_bl gc ?_
      refine fun v G' H' g r => k v G' H' g ?_
      rw [hkd]
      exact r
    · obtain ⟨vs', u, rfl, hr1, hr2⟩ : ∃ vs' u, vs = vs' ++ [u] ∧ RpL Gc ws' vs' ∧ Rp Gc y u := RpL.unsnoc hr
      rw [if_pos (by simp)]
      rw [szL_app] at hsz
      have hsz : szL ws' + (szD y + 0) ≤ 5000000 := hsz
      refine ⟨_, fun _ _ q => q, ?_⟩
      have gl' : ∀ {o}, Gp G H Gc (upd Hc l o) := fun {o} => gc.mut gl h0
      refine ⟨_, rfl, .inl ⟨rfl, _, SqL.of hL⟩, l, _, u, rfl, rfl, hL, by simp, Gc, [y], optD (partsOf y), gl'.s, .one hr2, ⟨y, rfl, hok y (by simp) y .refl, rfl⟩, fun v2 G2 H2 g2 r_parts => ?_⟩
      have g2' := gl'.call g2
      have hL2 : H2 l = some (.lst vs') := by
        have := g2.e l _ (upd_same (o := .lst (vs' ++ [u]).dropLast))
        rw [List.dropLast_concat] at this
        exact this
      have gl2 : G2 l = none := g2.n l gl (by rw [upd_same]; exact fun z => nomatch z)
      show tSeq _ _ _ [some v1, some (.ref l), some v2] _
      have hy : isKind y = match partsOf y with | none => false | some ps => ps.all isKind := isKind_eq y
      rw [List.all_append] at hkd
      refine s_if' (eb_test (ed_op (ed_var rfl r_parts) ed_non fun _ _ => rd_isN)) g2' (fun hb H3 g3 e3 => ?_) fun hb H3 g3 e3 => ?_
      · rw [isNon_opt] at hb
        cases e : partsOf y with
        | some ps => rw [e] at hb; cases hb
        | none =>
          rw [e] at hy
          refine s_ret ed_bl g3 fun v G' H' g r => k v G' H' g ?_
          rw [hkd, List.all_cons, hy]
          simpa using r
      · rw [isNon_opt] at hb
        cases e : partsOf y with
        | none => rw [e] at hb; cases hb
        | some ps =>
          rw [e] at hy r_parts
          obtain ⟨b, zs, rfl, hb2, hrz⟩ := r_parts
          have hlz := partsOf_sz e
          obtain ⟨hL3, _⟩ := e3 l _ hL2
          have hlen : vs'.length + zs.length ≤ sizeLine := by
            rw [hr1.len, hrz.len]
            have h1 := szL_len ws'
            have h2 := szL_len ps
            exact Nat.le_trans (by omega : _ ≤ 5000000) (by decide)
          refine ⟨_, rfl, .inl ⟨rfl, _, SqL.of hL3⟩, _, rfl, l, b, vs', zs, rfl, rfl, hL3, g3.s b _ hb2, hlen, ?_⟩
          refine ⟨szL (ws' ++ ps), ?_, G2, ws' ++ ps, vs' ++ zs, _, rfl, g3.mut gl2 h0, gl2, upd_same, ((hr1.mono g2.g).app hrz), fun z hz => ?_, ?_, ?_, rfl⟩
          · rw [szL_app, szL_app]
            show _ < szL ws' + (szD y + 0)
            omega
          · rcases List.mem_append.mp hz with q | q
            · exact hok z (by simp [q])
            · exact (hok y (by simp)).part e q
          · rw [szL_app]
            omega
          · rw [hkd, List.all_append, List.all_cons, hy]
            simp
end
end K18
set_option maxHeartbeats 4000000
/-! Nodes, trees of nodes, what they show. -/
namespace K18
open PySem PySem.Spec PyProof.Rows L2 Kd
inductive Fl where
  | pre | num (n : Int)
def Fl.d : Fl → D
  | .pre => .str "pre"
  | .num n => .tup [.str "flag", .int n]
structure Ro where
  ns : List (Str × Fl)
  t : Int
def nmD (p : Str × Fl) : D := .tup [.str p.1, p.2.d]
def Ro.l (r : Ro) : D := .lst (r.ns.map nmD)
def Ro.d (r : Ro) : D := .tup [r.l, .int r.t]
inductive Nd where
  | plain (w : Str) | letter (n : Int) | pair | data (s : Str) (m : Nat) | func (r : Ro)
def Nd.many : Nd → Nat
  | .pair => 2
  | .data _ m => m
  | .func _ => 2
  | _ => 0
inductive Tr where
  | mk (a : Nd) (ks : List Tr)
def build : Nd → List D → D
  | .plain w, _ => .tup [.str w]
  | .letter n, _ => .tup [.str "letter", .int n]
  | .pair, p :: q :: _ => .tup [.str "pair", p, q]
  | .data s _, ps => .tup [.str "data", .str s, .lst ps]
  | .func r, p :: q :: _ => .tup [.str "fun", p, r.d, q]
  | _, _ => .non
mutual
def tD (f : Nd → Nd) : Tr → D
  | .mk a ks => build (f a) (tDL f ks)
def tDL (f : Nd → Nd) : List Tr → List D
  | [] => []
  | k :: ks => tD f k :: tDL f ks
end
theorem tDL_map (f : Nd → Nd) : ∀ ks, tDL f ks = ks.map (tD f)
  | [] => rfl
  | k :: ks => by rw [tDL, tDL_map f ks]; rfl
theorem tDL_len (f : Nd → Nd) (ks : List Tr) : (tDL f ks).length = ks.length := by rw [tDL_map, List.length_map]
def okFl : Fl → Prop
  | .pre => True
  | .num n => 0 ≤ n
structure okRo (r : Ro) : Prop where
  len : r.ns.length ≤ 6
  nm : ∀ p ∈ r.ns, isSmall (.str p.1) = true ∧ p.1.length ≤ 12 ∧ okFl p.2
  up : rising (r.ns.map nmD) = true
  tl : 0 ≤ r.t
def okNd : Nd → Prop
  | .plain w => w ∈ thePlain
  | .letter n => 0 ≤ n
  | .pair => True
  | .data s _ => isGreat (.str s) = true ∧ s.length ≤ 12
  | .func r => okRo r
/-- the parts are as many as told, every label is right -/
inductive okT (f : Nd → Nd) : Tr → Prop where
  | mk {a : Nd} {ks : List Tr} : okNd (f a) → ks.length = (f a).many → (∀ k ∈ ks, okT f k) → okT f (.mk a ks)
mutual
def szT : Tr → Nat
  | .mk _ ks => szTL ks + 2
def szTL : List Tr → Nat
  | [] => 0
  | k :: ks => szT k + szTL ks
end
theorem szTL_len : ∀ ks : List Tr, 2 * ks.length ≤ szTL ks
  | [] => by simp
  | .mk a ks :: r => by
    have := szTL_len r
    simp only [szTL, szT, List.length_cons]
    omega
theorem szTL_app : ∀ (ks js : List Tr), szTL (ks ++ js) = szTL ks + szTL js
  | [], js => by simp [szTL]
  | k :: ks, js => by simp [szTL, szTL_app ks js]; omega
theorem szTL_rev : ∀ ks : List Tr, szTL ks.reverse = szTL ks
  | [] => rfl
  | k :: ks => by rw [List.reverse_cons, szTL_app, szTL_rev ks]; simp [szTL]; omega
-- what is read of a tree: letters, rows
mutual
def rdT (f : Nd → Nd) : Tr → List (Int ⊕ Ro)
  | .mk a ks => match f a with
    | .letter n => [.inl n]
    | .func r => match ks with
      | [x, y] => rdT f x ++ (.inr r :: rdT f y)
      | _ => []
    | _ => rdTL f ks
def rdTL (f : Nd → Nd) : List Tr → List (Int ⊕ Ro)
  | [] => []
  | k :: ks => rdT f k ++ rdTL f ks
end
def eD : Int ⊕ Ro → D
  | .inl n => build (.letter n) []
  | .inr r => .tup [.str "row", r.d]
def leafN : Nd → Bool
  | .plain _ => true
  | .letter _ => true
  | _ => false
theorem plain_word {w : Str} (h : w ∈ thePlain) : w.length ≤ 4 ∧ (w ≠ "pair" ∧ w ≠ "fun" ∧ w ≠ "data" ∧ w ≠ "letter" ∧ w ≠ "row") := by
  simp only [thePlain, List.mem_cons, List.not_mem_nil, or_false] at h
  rcases h with rfl | rfl | rfl | rfl <;> decide
end K18
set_option maxHeartbeats 4000000
namespace K18
open PySem PySem.Spec PyProof.Rows L2 Kd
section
variable {P : Program} {w : World} {K : PySem.W.Frag} {mg : Str → Option Value} {base : Heap}
def rPK : List D → D → Prop := fun ds d => ∃ a ps, ds = [build a ps] ∧ okNd a ∧ ps.length = a.many ∧ d = .lst ps
abbrev N_parts_of_kind : List Str := ["kind"]
theorem sc_parts_of_kind : FnScope ["kind"] ["kind"] (defScope s_parts_of_kind) := ⟨rfl, rfl, rfl, by decide +kernel, rfl, by decide +kernel, by decide +kernel⟩
theorem ok_parts_of_kind (T : Tx K mg) : Good P w K mg base CX0 "parts_of_kind" 2 ["kind"] (spRel rPK) := by
  obtain ⟨fd, F⟩ := T.f_parts_of_kind
  refine ⟨T.m_parts_of_kind, F.kp, fd, ?_, F.bindsN fun _ _ _ _ _ _ us hl => match us, hl with | [_], _ => rfl⟩
  refine F.ok sc_parts_of_kind (fun vs H Q E h => ?_) (fun cdv A outer s H vs Q E hr h => ?_)
  · obtain ⟨G, ds, d, _, r, ⟨a, ps, rfl, _⟩, _⟩ := h
    exact r.len
  · obtain ⟨G, ds, d, s0, r, ⟨a, ps, rfl, ha, hp, rfl⟩, k⟩ := h
    obtain ⟨v1, _, rfl, r_kind, rfl⟩ := r
    refine ⟨_, PSs.nox ((pss_cons (ps_if (pt_cmpR op_eq (pe_ix ix_tup (pv 0) pe_int (fun _ _ => rfl)) pe_str (nomark _)) (pss_one (ps_ret (pe_lst (pa_cons (pe_ix ix_tup (pv 0) pe_int (fun _ _ => rfl)) (pa_cons (pe_ix ix_tup (pv 0) pe_int (fun _ _ => rfl)) pa_nil))))) pss_nil)
    (pss_cons (ps_if (pt_cmpR op_eq (pe_ix ix_tup (pv 0) pe_int (fun _ _ => rfl)) pe_str (nomark _)) (pss_one (ps_ret (pe_lst (pa_cons (pe_ix ix_tup (pv 0) pe_int (fun _ _ => rfl)) (pa_cons (pe_ix ix_tup (pv 0) pe_int (fun _ _ => rfl)) pa_nil))))) pss_nil)
    (pss_one (ps_ret (pe_ifExp (pt_cmpR op_eq (pe_ix ix_tup (pv 0) pe_int (fun _ _ => rfl)) pe_str (nomark _)) (pe_callTy call_list_of (by rfl) T.n_list (by decide +kernel) (pa_cons (pe_ix ix_tup (pv 0) pe_int (fun _ _ => rfl)) pa_nil)) (pe_lst pa_nil))))))), ?_⟩
    have g := gr0 (M := []) s0
    cases a with
    | plain x =>
      obtain ⟨_, h1, h2, h3, _⟩ := plain_word ha
      have e : ps = [] := List.eq_nil_of_length_eq_zero hp
      subst e
      refine s_ifF (((eb_test (ed_op (ed_op (ed_var rfl r_kind) ed_int fun _ _ => rd_ixT at0) ed_str fun _ _ => rd_eq rfl)) : Eb _ _ _ _).to (decide_eq_false h1)) g fun H1 g => ?_
      refine s_ifF (((eb_test (ed_op (ed_op (ed_var rfl r_kind) ed_int fun _ _ => rd_ixT at0) ed_str fun _ _ => rd_eq rfl)) : Eb _ _ _ _).to (decide_eq_false h2)) g fun H1 g => ?_
      exact s_ret (ed_ifF (((eb_test (ed_op (ed_op (ed_var rfl r_kind) ed_int fun _ _ => rd_ixT at0) ed_str fun _ _ => rd_eq rfl)) : Eb _ _ _ _).to (decide_eq_false h3)) (ed_lst eds_nil (Nat.zero_le _))) g k
    | letter n =>
      have e : ps = [] := List.eq_nil_of_length_eq_zero hp
      subst e
      refine s_ifF (eb_test (ed_op (ed_op (ed_var rfl r_kind) ed_int fun _ _ => rd_ixT at0) ed_str fun _ _ => rd_eq rfl)) g fun H1 g => ?_
      refine s_ifF (eb_test (ed_op (ed_op (ed_var rfl r_kind) ed_int fun _ _ => rd_ixT at0) ed_str fun _ _ => rd_eq rfl)) g fun H1 g => ?_
      exact s_ret (ed_ifF (eb_test (ed_op (ed_op (ed_var rfl r_kind) ed_int fun _ _ => rd_ixT at0) ed_str fun _ _ => rd_eq rfl)) (ed_lst eds_nil (Nat.zero_le _))) g k
    | pair =>
      obtain ⟨p, q, rfl⟩ : ∃ p q, ps = [p, q] := match ps, hp with | [p, q], _ => ⟨p, q, rfl⟩
      refine s_ifT (eb_test (ed_op (ed_op (ed_var rfl r_kind) ed_int fun _ _ => rd_ixT at0) ed_str fun _ _ => rd_eq rfl)) g fun H1 g => ?_
      exact s_ret (ed_lst (eds_cons (ed_op (ed_var rfl r_kind) ed_int fun _ _ => rd_ixT at1) (eds_cons (ed_op (ed_var rfl r_kind) ed_int fun _ _ => rd_ixT at2) eds_nil)) (Nat.le_of_ble_eq_true rfl)) g k
    | data x m =>
      refine s_ifF (eb_test (ed_op (ed_op (ed_var rfl r_kind) ed_int fun _ _ => rd_ixT at0) ed_str fun _ _ => rd_eq rfl)) g fun H1 g => ?_
      refine s_ifF (eb_test (ed_op (ed_op (ed_var rfl r_kind) ed_int fun _ _ => rd_ixT at0) ed_str fun _ _ => rd_eq rfl)) g fun H1 g => ?_
      exact s_ret (ed_ifT (eb_test (ed_op (ed_op (ed_var rfl r_kind) ed_int fun _ _ => rd_ixT at0) ed_str fun _ _ => rd_eq rfl)) (ed_listL (ed_op (ed_var rfl r_kind) ed_int fun _ _ => rd_ixT at2))) g k
    | func x =>
      obtain ⟨p, q, rfl⟩ : ∃ p q, ps = [p, q] := match ps, hp with | [p, q], _ => ⟨p, q, rfl⟩
      refine s_ifF (eb_test (ed_op (ed_op (ed_var rfl r_kind) ed_int fun _ _ => rd_ixT at0) ed_str fun _ _ => rd_eq rfl)) g fun H1 g => ?_
      refine s_ifT (eb_test (ed_op (ed_op (ed_var rfl r_kind) ed_int fun _ _ => rd_ixT at0) ed_str fun _ _ => rd_eq rfl)) g fun H1 g => ?_
      exact s_ret (ed_lst (eds_cons (ed_op (ed_var rfl r_kind) ed_int fun _ _ => rd_ixT at1) (eds_cons (ed_op (ed_var rfl r_kind) ed_int fun _ _ => rd_ixT at3) eds_nil)) (Nat.le_of_ble_eq_true rfl)) g k
def rWP : List D → D → Prop := fun ds d => ∃ a ps qs, ds = [build a ps, .lst qs] ∧ okNd a ∧ ps.length = a.many ∧ qs.length = a.many ∧ d = build a qs
abbrev N_with_parts : List Str := ["kind", "parts"]
theorem sc_with_parts : FnScope ["kind", "parts"] ["kind", "parts"] (defScope s_with_parts) := ⟨rfl, rfl, rfl, by decide +kernel, rfl, by decide +kernel, by decide +kernel⟩
theorem ok_with_parts (T : Tx K mg) : Good P w K mg base CX0 "with_parts" 2 ["kind", "parts"] (spRel rWP) := by
  obtain ⟨fd, F⟩ := T.f_with_parts
  refine ⟨T.m_with_parts, F.kp, fd, ?_, F.bindsN fun _ _ _ _ _ _ us hl => match us, hl with | [_, _], _ => rfl⟩
  refine F.ok sc_with_parts (fun vs H Q E h => ?_) (fun cdv A outer s H vs Q E hr h => ?_)
  · obtain ⟨G, ds, d, _, r, ⟨a, x, y, rfl, _⟩, _⟩ := h
    exact r.len
  · obtain ⟨G, ds, d, s0, r, ⟨a, ps, qs, rfl, ha, hp, hq, rfl⟩, k⟩ := h
    obtain ⟨v1, _, rfl, r_kind, v2, _, rfl, r_parts, rfl⟩ := r
    refine ⟨_, PSs.nox ((pss_cons (ps_if (pt_cmpR op_eq (pe_ix ix_tup (pv 0) pe_int (fun _ _ => rfl)) pe_str (nomark _)) (pss_one (ps_ret (pe_tup (pa_cons pe_str (pa_cons (pe_ix ix_list (pv 1) pe_int (fun _ _ => rfl)) (pa_cons (pe_ix ix_list (pv 1) pe_int (fun _ _ => rfl)) pa_nil)))))) pss_nil)
    (pss_cons (ps_if (pt_cmpR op_eq (pe_ix ix_tup (pv 0) pe_int (fun _ _ => rfl)) pe_str (nomark _)) (pss_one (ps_ret (pe_tup (pa_cons pe_str (pa_cons (pe_ix ix_list (pv 1) pe_int (fun _ _ => rfl)) (pa_cons (pe_ix ix_tup (pv 0) pe_int (fun _ _ => rfl)) (pa_cons (pe_ix ix_list (pv 1) pe_int (fun _ _ => rfl)) pa_nil))))))) pss_nil)
    (pss_one (ps_ret (pe_ifExp (pt_cmpR op_eq (pe_ix ix_tup (pv 0) pe_int (fun _ _ => rfl)) pe_str (nomark _)) (pe_tup (pa_cons pe_str (pa_cons (pe_ix ix_tup (pv 0) pe_int (fun _ _ => rfl)) (pa_cons (pe_callTy call_list_of (by rfl) T.n_list (by decide +kernel) (pa_cons (pv 1) pa_nil)) pa_nil)))) (pv 0))))))), ?_⟩
    have g := gr0 (M := []) s0
    cases a with
    | plain x =>
      obtain ⟨_, h1, h2, h3, _⟩ := plain_word ha
      refine s_ifF (((eb_test (ed_op (ed_op (ed_var rfl r_kind) ed_int fun _ _ => rd_ixT at0) ed_str fun _ _ => rd_eq rfl)) : Eb _ _ _ _).to (decide_eq_false h1)) g fun H1 g => ?_
      refine s_ifF (((eb_test (ed_op (ed_op (ed_var rfl r_kind) ed_int fun _ _ => rd_ixT at0) ed_str fun _ _ => rd_eq rfl)) : Eb _ _ _ _).to (decide_eq_false h2)) g fun H1 g => ?_
      exact s_ret (ed_ifF (((eb_test (ed_op (ed_op (ed_var rfl r_kind) ed_int fun _ _ => rd_ixT at0) ed_str fun _ _ => rd_eq rfl)) : Eb _ _ _ _).to (decide_eq_false h3)) (ed_var rfl r_kind)) g k
    | letter n =>
      refine s_ifF (eb_test (ed_op (ed_op (ed_var rfl r_kind) ed_int fun _ _ => rd_ixT at0) ed_str fun _ _ => rd_eq rfl)) g fun H1 g => ?_
      refine s_ifF (eb_test (ed_op (ed_op (ed_var rfl r_kind) ed_int fun _ _ => rd_ixT at0) ed_str fun _ _ => rd_eq rfl)) g fun H1 g => ?_
      exact s_ret (ed_ifF (eb_test (ed_op (ed_op (ed_var rfl r_kind) ed_int fun _ _ => rd_ixT at0) ed_str fun _ _ => rd_eq rfl)) (ed_var rfl r_kind)) g k
    | pair =>
      obtain ⟨p, q, rfl⟩ : ∃ p q, ps = [p, q] := match ps, hp with | [p, q], _ => ⟨p, q, rfl⟩
      obtain ⟨p', q', rfl⟩ : ∃ p q, qs = [p, q] := match qs, hq with | [p, q], _ => ⟨p, q, rfl⟩
      refine s_ifT (eb_test (ed_op (ed_op (ed_var rfl r_kind) ed_int fun _ _ => rd_ixT at0) ed_str fun _ _ => rd_eq rfl)) g fun H1 g => ?_
      exact s_ret (ed_tup (eds_cons ed_str (eds_cons (ed_op (ed_var rfl r_parts) ed_int fun _ _ => rd_ixL at0) (eds_cons (ed_op (ed_var rfl r_parts) ed_int fun _ _ => rd_ixL at1) eds_nil))) (Nat.le_of_ble_eq_true rfl)) g k
    | func x =>
      obtain ⟨p, q, rfl⟩ : ∃ p q, ps = [p, q] := match ps, hp with | [p, q], _ => ⟨p, q, rfl⟩
      obtain ⟨p', q', rfl⟩ : ∃ p q, qs = [p, q] := match qs, hq with | [p, q], _ => ⟨p, q, rfl⟩
      refine s_ifF (eb_test (ed_op (ed_op (ed_var rfl r_kind) ed_int fun _ _ => rd_ixT at0) ed_str fun _ _ => rd_eq rfl)) g fun H1 g => ?_
      refine s_ifT (eb_test (ed_op (ed_op (ed_var rfl r_kind) ed_int fun _ _ => rd_ixT at0) ed_str fun _ _ => rd_eq rfl)) g fun H1 g => ?_
      exact s_ret (ed_tup (eds_cons ed_str (eds_cons (ed_op (ed_var rfl r_parts) ed_int fun _ _ => rd_ixL at0) (eds_cons (ed_op (ed_var rfl r_kind) ed_int fun _ _ => rd_ixT at2) (eds_cons (ed_op (ed_var rfl r_parts) ed_int fun _ _ => rd_ixL at1) eds_nil)))) (Nat.le_of_ble_eq_true rfl)) g k
    | data x m =>
      refine s_ifF (eb_test (ed_op (ed_op (ed_var rfl r_kind) ed_int fun _ _ => rd_ixT at0) ed_str fun _ _ => rd_eq rfl)) g fun H1 g => ?_
      refine s_ifF (eb_test (ed_op (ed_op (ed_var rfl r_kind) ed_int fun _ _ => rd_ixT at0) ed_str fun _ _ => rd_eq rfl)) g fun H1 g => ?_
      exact s_ret (ed_ifT (eb_test (ed_op (ed_op (ed_var rfl r_kind) ed_int fun _ _ => rd_ixT at0) ed_str fun _ _ => rd_eq rfl)) (ed_tup (eds_cons ed_str (eds_cons (ed_op (ed_var rfl r_kind) ed_int fun _ _ => rd_ixT at1) (eds_cons (ed_listL (ed_var rfl r_parts)) eds_nil))) (Nat.le_of_ble_eq_true rfl))) g k
end
end K18
set_option maxHeartbeats 4000000
/-! del xs[cut:]. -/
namespace Kd
open PySem PySem.Spec PyProof.Rows L2
theorem bounds_cut {m cut : Nat} (h : cut ≤ m) : sliceBounds (some ((cut : Nat) : Int)) none none m = ((cut : Int), (m : Int), 1) := by
  unfold sliceBounds
  simp only [Option.getD_none]
  have h1 : ¬ ((cut : Int) < 0) := by omega
  rw [if_neg h1]
  simp only [show (1 : Int) > 0 from by decide, if_true]
  refine Prod.ext ?_ rfl
  show max 0 (min (cut : Int) (m : Int)) = (cut : Int)
  omega
theorem keep_cut {cut : Nat} (m : Nat) : ∀ (xs : List Value) (i : Nat), i + xs.length = m → ((xs.zipIdx i).filterMap fun (x, k) => if (if (1 : Int) > 0 then decide ((cut : Int) ≤ (k : Nat)) && decide (((k : Nat) : Int) < (m : Int)) && (((k : Nat) : Int) - (cut : Int)) % 1 == 0 else decide ((m : Int) < (k : Nat)) && decide (((k : Nat) : Int) ≤ (cut : Int)) && ((cut : Int) - (k : Nat)) % (-1) == 0) = true then none else some x) = xs.take (cut - i)
  | [], i, _ => by simp
  | x :: xs, i, h => by
    have ih := keep_cut (cut := cut) m xs (i + 1) (by simp at h; omega)
    rw [List.zipIdx_cons, List.filterMap_cons, ih]
    simp only [show (1 : Int) > 0 from by decide, if_true]
    have hm : ((i : Nat) : Int) < (m : Int) := by simp at h; omega
    by_cases hc : cut ≤ i
    · rw [if_pos (by simp [hm, hc, Int.emod_one])]
      simp [Nat.sub_eq_zero_of_le hc, Nat.sub_eq_zero_of_le (Nat.le_succ_of_le hc)]
    · rw [if_neg (by simp [hm, hc])]
      have e : cut - i = (cut - (i + 1)) + 1 := by omega
      rw [e, List.take_succ_cons]
theorem del_cut {prog : Program} {w : World} {A : Around} {E : Value → Shared → Prop} {s : Shared} {l sl : Addr} {its : List Value} {n cut : Nat} {vl : Value} {Q : Unit → Shared → Prop} (e : s.heap.get? l = some { cls := .type "list", data := .seq its.toArray n }) (hs : s.heap.IsSliceOf sl vl .none .none) (pl : IsPart vl (some ((cut : Nat) : Int)))
    (hcut : cut ≤ its.length) (hz : its.length ≤ sizeLine) (h : ∀ f : Array Value → Array Value, f its.toArray = (its.take cut).toArray → Q () { s with heap := s.heap.update l (Obj.mapSeq f) }) : wpAny (model prog w) A (delItem (.ref l) (.ref sl)) Q E s := by
  have hl : s.heap.IsList l its.toArray := PySem.IsL.isList e
  obtain ⟨os, hos, hcs, hds⟩ := id hs
  have hTs : s.TypeIs (.ref sl) "slice" := ⟨os, hos, hcs⟩
  have hstep : ¬ ((rawPart none == rawInt 0) = true) := Bool.false_ne_true
  refine wpAny_delItem_slot hl.typeIs (by decide) F.slot_list_delitem (wpAny_call_entry F.slot_list_delitem hl.typeIs F.entry_list_delitem ?_ (F.args_list_delitem_2 _ _))
  show wpAny _ _ (Builtin.List.listSubscript? (.ref sl) >>= _) _ _ s
  refine wpAny_bind ?_
  unfold Builtin.List.listSubscript?
  refine wpAny_bind (wpAny_specialOf hTs slice_no_index ?_)
  simp only [Option.isNone_none, if_true]
  refine wpAny_pure ?_
  show wpAny _ _ (typeOf (.ref sl) >>= _) _ _ s
  refine wpAny_bind (wpAny_typeOf hTs ?_)
  refine wp_if_neg (by decide) ?_
  rw [listSliceParts_eq]
  refine wpAny_bind (wpAny_bind (wpAny_field hos hds (x := .none) rfl (wpAny_bind (wpAny_listPart .none ?_))))
  rw [if_neg hstep]
  refine wpAny_bind (wpAny_field hos hds (x := vl) rfl (wpAny_bind (wpAny_listPart pl ?_)))
  refine wpAny_bind (wpAny_field hos hds (x := .none) rfl (wpAny_bind (wpAny_listPart .none (wpAny_pure ?_))))
  refine wpAny_bind ?_
  unfold Builtin.List.listItems
  refine wpAny_bind (wpAny_seqItems e rfl (wpAny_pure ?_))
  refine wpAny_bind (wpAny_of_eq ((sliceIndices_raw (some ((cut : Nat) : Int)) none none its.toArray.size (by simp)).trans (congrArg (pure : Int × Int × Int → Sem (Int × Int × Int)) (bounds_cut (m := its.toArray.size) (cut := cut) (by simpa using hcut)))) ?_)
  refine wpAny_bind (wpAny_rule ?_)
  show wpAny _ _ (updateSeq l _ >>= fun _ => _) _ _ s
  have key := keep_cut (cut := cut) its.toArray.size its 0 (by simp)
  refine wpAny_bind (wpAny_updateSeq e rfl (wpAny_bind (wpAny_letGo ?_)) (by simpa using hz) ?_)
  · exact wpAny_pure ⟨.none, rfl, h _ (congrArg List.toArray key)⟩
  · refine Nat.le_trans (Nat.le_of_eq (congrArg (fun z : List Value => z.toArray.size) key)) ?_
    simp
    omega
def tDelG (to tl : TE) : TS := fun D σ H => to σ H fun x H1 => tl σ H1 fun y H2 => ∃ (l : Addr) (vs : List V) (cut : Nat), x = V.ref l ∧ y = .int (cut : Int) ∧ cut ≤ vs.length ∧ H2 l = some (.lst vs) ∧ D.nx σ (upd H2 l (.lst (vs.take cut)))
section
variable {X : Cx}
theorem ps_delG {o i : Expr} {to tl : TE} {tpos ipos pos : Pos} (ho : PE X o to) (hi : PE X i tl) (hp : ∀ env, evalPart (some i) env = eval i env := by intro _; rfl) : PS X (.Delete [.Subscript o (.Slice (some i) none none ipos) tpos] pos) (tDelG to tl) := by
  refine ⟨fun pins s σ H D I h => ?_⟩
  refine wpAny_Delete (wpAny_deleteEach_cons (wpAny_delete_Subscript (thn (ho.run pins s σ H _ I h) fun u s1 ⟨x, H1, I1, rx, q1⟩ => wpAny_Slice ?_)))
  rw [hp]
  refine thn (hi.run pins s1 σ H1 _ I1 q1) fun iv s2 ⟨y, H2, I2, ry, l, vs, cut, ex, ey, hcut, hH, q2⟩ => ?_
  rw [evalPart_none]
  refine wpAny_pure (wpAny_pure ?_)
  subst ex ey
  cases (show u = Value.ref l from rx)
  obtain ⟨t, rfl⟩ := (show ∃ t, iv = Value.int (cut : Int) t from ry)
  have I4 : Inv X pins σ H2 { s2 with heap := s2.heap.push { cls := .type "slice", data := .fields #[.int (cut : Int) t, .none, .none] } } := I2.kept (t' := s2.toks) fun b ob q => Heap.get?_push_of_some _ q
  obtain ⟨z, its, n, r, hl, e⟩ := I4.lstM hH
  refine del_cut e (Heap.IsSliceOf.new ..) (.int _ _) (by omega) (by omega) fun f hf => wpAny_deleteEach_nil ⟨σ, _, I4.lset (its' := its.take cut) (t' := s2.toks) hH e hf (r.take cut) (by rw [List.length_take]; omega), q2⟩
end
end Kd
set_option maxHeartbeats 4000000
/-! The table of a tree: its heads, the parts told by their places. -/
namespace Kd
open PySem PySem.Spec PyProof.Rows L2
theorem ed_revL {K : PySem.W.Frag} {σ : L2.St} {G : Hp} {te : TE} {ds : List D} (h : Ed te σ G (.lst ds)) : Ed (tRevL K te) σ G (.lst ds.reverse) := fun H s Q q => h H s _ fun v G1 H1 g1 r1 => by
  obtain ⟨a, vs, rfl, ha, hr⟩ := r1
  refine ⟨a, vs, rfl, SqL.of (g1.s a _ ha), fun p hp => q _ _ _ (g1.new hp) ⟨p, _, rfl, upd_same, hr.rev.mono fun c o x => ?_⟩⟩
  rw [upd_ne (ne_of_none x (g1.gfree hp))]
  exact x
end Kd
namespace K18
open PySem PySem.Spec PyProof.Rows L2 Kd
mutual
def cntT : Tr → Nat
  | .mk _ ks => cntL ks + 1
def cntL : List Tr → Nat
  | [] => 0
  | k :: ks => cntT k + cntL ks
end
def endsL : List Tr → Nat → List Int
  | [], _ => []
  | k :: ks, n => (((n + cntT k : Nat) : Int) - 1) :: endsL ks (n + cntT k)
mutual
def tabT : Tr → Nat → List D
  | .mk a ks, n => tabL ks n ++ [build a ((endsL ks n).map .int)]
def tabL : List Tr → Nat → List D
  | [], _ => []
  | k :: ks, n => tabT k n ++ tabL ks (n + cntT k)
end
theorem endsL_len : ∀ (ks : List Tr) (n : Nat), (endsL ks n).length = ks.length
  | [], _ => rfl
  | k :: ks, n => by simp [endsL, endsL_len ks]
theorem tab_len : ∀ t : Tr, ∀ n, (tabT t n).length = cntT t := by
  intro t
  induction t using Tr.rec (motive_2 := fun ks => ∀ n, (tabL ks n).length = cntL ks) with
  | mk a ks ih => intro n; rw [tabT, List.length_append, ih n]; rfl
  | nil => rfl
  | cons k ks h1 h2 => rename_i n; rw [tabL, List.length_append, h1 n, h2 (n + cntT k)]; rfl
theorem tabL_len : ∀ (ks : List Tr) (n : Nat), (tabL ks n).length = cntL ks
  | [], _ => rfl
  | k :: ks, n => by rw [tabL, List.length_append, tab_len k n, tabL_len ks]; rfl
theorem cnt_pos (t : Tr) : 1 ≤ cntT t := by cases t; simp [cntT]
theorem cntL_len : ∀ ks : List Tr, ks.length ≤ cntL ks
  | [] => Nat.le_refl _
  | k :: ks => by
    have := cnt_pos k
    have := cntL_len ks
    simp only [cntL, List.length_cons]
    omega
abbrev Wt := Tr × Bool
def runW : List Wt → List D → List Int → List D
  | [], hs, _ => hs
  | (t, false) :: w, hs, ps => runW w (hs ++ tabT t hs.length) (ps ++ [((hs.length + cntT t : Nat) : Int) - 1])
  | (.mk a ks, true) :: w, hs, ps => runW w (hs ++ [build a ((ps.drop (ps.length - ks.length)).map .int)]) (ps.take (ps.length - ks.length) ++ [(hs.length : Int)])
def okW : List Wt → Nat → Prop
  | [], _ => True
  | (_, false) :: w, p => okW w (p + 1)
  | (.mk _ ks, true) :: w, p => ks.length ≤ p ∧ okW w (p - ks.length + 1)
theorem runKids : ∀ (ks : List Tr) (w : List Wt) (hs : List D) (ps : List Int), runW (ks.map (·, false) ++ w) hs ps = runW w (hs ++ tabL ks hs.length) (ps ++ endsL ks hs.length)
  | [], w, hs, ps => by simp [tabL, endsL]
  | k :: ks, w, hs, ps => by
    rw [List.map_cons, List.cons_append, runW, runKids ks w]
    rw [List.length_append, tab_len, tabL, endsL, List.append_assoc, List.append_assoc]
    rfl
theorem okKids : ∀ (ks : List Tr) (w : List Wt) (p : Nat), okW (ks.map (·, false) ++ w) p ↔ okW w (p + ks.length)
  | [], w, p => Iff.rfl
  | k :: ks, w, p => by
    rw [List.map_cons, List.cons_append, okW, okKids ks w, List.length_cons, Nat.add_assoc, Nat.add_comm 1]
theorem runOpen (a : Nd) (ks : List Tr) (w : List Wt) (hs : List D) (ps : List Int) : runW (ks.map (·, false) ++ (.mk a ks, true) :: w) hs ps = runW ((.mk a ks, false) :: w) hs ps := by
  rw [runKids, runW, runW, tabT]
  have e1 : (ps ++ endsL ks hs.length).length - ks.length = ps.length := by rw [List.length_append, endsL_len]; omega
  rw [e1, List.drop_left' rfl, List.take_left' rfl, List.append_assoc, List.length_append, tabL_len]
  have e2 : (((hs.length + cntT (.mk a ks) : Nat) : Int) - 1) = ((hs.length + cntL ks : Nat) : Int) := by
    show (((hs.length + (cntL ks + 1) : Nat) : Int) - 1) = _
    omega
  rw [e2]
theorem okOpen (a : Nd) (ks : List Tr) (w : List Wt) (p : Nat) : okW (ks.map (·, false) ++ (.mk a ks, true) :: w) p ↔ okW ((.mk a ks, false) :: w) p := by
  rw [okKids, okW, okW]
  have e : p + ks.length - ks.length + 1 = p + 1 := by omega
  rw [e]
  exact ⟨fun h => h.2, fun h => ⟨by omega, h⟩⟩
theorem runLeaf (a : Nd) (w : List Wt) (hs : List D) (ps : List Int) : runW ((.mk a [], true) :: w) hs ps = runW ((.mk a [], false) :: w) hs ps := (runOpen a [] w hs ps)
def szWt : Wt → Nat
  | (t, false) => 2 * cntT t
  | (_, true) => 1
def szWs (ws : List Wt) : Nat := (ws.map szWt).sum
theorem szWs_app (a b : List Wt) : szWs (a ++ b) = szWs a + szWs b := by simp [szWs]
theorem szWs_kids : ∀ ks : List Tr, szWs (ks.map (·, false)) = 2 * cntL ks
  | [] => rfl
  | k :: ks => by
    have := szWs_kids ks
    simp only [List.map_cons, szWs, List.sum_cons, szWt, cntL] at this ⊢
    omega
theorem szWs_rev (ws : List Wt) : szWs ws.reverse = szWs ws := by simp [szWs, List.sum_reverse]
theorem szWs_len : ∀ ws : List Wt, ws.length ≤ szWs ws
  | [] => Nat.le_refl _
  | (t, b) :: ws => by
    have h1 := szWs_len ws
    have h2 : 1 ≤ szWt (t, b) := by
      cases b
      · have := cnt_pos t
        simp only [szWt]
        omega
      · exact Nat.le_refl _
    simp only [szWs, List.map_cons, List.sum_cons, List.length_cons] at *
    omega
def wtD (x : Wt) : D := .tup [tD id x.1, .bl x.2]
end K18
set_option maxHeartbeats 4000000
namespace K18
open PySem PySem.Spec PyProof.Rows L2 Kd
theorem cut_from {ds : List D} {k : Nat} (h : k ≤ ds.length) : Kd.cutD ds (some (k : Int)) none = ds.drop k := by
  unfold Kd.cutD
  rw [HT.sIx_none, HT.sIx_nat, Nat.min_eq_left h]
  exact List.take_of_length_le (by rw [List.length_drop]; omega)
theorem run_len : ∀ (w : List Wt) (hs : List D) (ps : List Int), hs.length ≤ (runW w hs ps).length
  | [], hs, ps => Nat.le_refl _
  | (t, false) :: w, hs, ps => by
    rw [runW]
    exact Nat.le_trans (by rw [List.length_append]; omega) (run_len w _ _)
  | (.mk a ks, true) :: w, hs, ps => by
    rw [runW]
    exact Nat.le_trans (by rw [List.length_append]; omega) (run_len w _ _)
section
variable {P : Program} {w : World} {K : PySem.W.Frag} {mg : Str → Option Value} {base : Heap}
def rTab : List D → D → Prop := fun ds d => ∃ t, ds = [tD id t] ∧ okT id t ∧ cntT t ≤ 2000000 ∧ d = .lst (tabT t 0)
abbrev N_table_of : List Str := ["kind", "heads", "places", "waiting", "one", "is_met", "parts", "cut", "part"]
theorem sc_table_of : FnScope ["kind", "heads", "places", "waiting", "one", "is_met", "parts", "cut", "part"] ["kind"] (defScope s_table_of) := ⟨rfl, rfl, rfl, by decide +kernel, rfl, by decide +kernel, by decide +kernel⟩
theorem ok_table_of (T : Tx K mg) : Good P w K mg base CX0 "table_of" 3 ["kind"] (spRel rTab) := by
  obtain ⟨fd, F⟩ := T.f_table_of
  refine ⟨T.m_table_of, F.kp, fd, ?_, F.bindsN fun _ _ _ _ _ _ us hl => match us, hl with | [_], _ => rfl⟩
  have G_parts_of_kind := ok_parts_of_kind (P := P) (w := w) (base := base) T
  have G_with_parts := ok_with_parts (P := P) (w := w) (base := base) T
  refine F.ok sc_table_of (fun vs H Q E h => ?_) (fun cdv A outer s H vs Q E hr h => ?_)
  · obtain ⟨G, ds, d, _, r, ⟨t, rfl, _⟩, _⟩ := h
    exact r.len
  · obtain ⟨G, ds, d, s0, r, ⟨t, rfl, ht, hz, rfl⟩, k⟩ := h
    obtain ⟨v1, _, rfl, r_kind, rfl⟩ := r
    refine ⟨_, PSs.nox ((pss_cons (ps_par (i := 1) (j := 2) (by rfl) sc_table_of.nd rfl rfl (by decide) rfl rfl (pa_cons (pe_lst pa_nil) (pa_cons (pe_lst pa_nil) pa_nil)) (by rfl))
    (pss_cons (ps_set (i := 3) sc_table_of.nd rfl (Or.inl rfl) (pe_lst (pa_cons (pe_tup (pa_cons (pv 0) (pa_cons pe_bl pa_nil))) pa_nil)))
    (pss_cons (ps_while PassesOwn.never (pt_truth (pv 3) (by intro _; rfl)) (pss_cons (ps_asg (pe_bm0 PySem.F.plainAttrs_list PySem.F.slot_list_pop PySem.F.type_list_pop mt_pop (pv 3)) (pg_tup rfl (pgs_cons (pg_name (i := 4) sc_table_of.nd rfl (Or.inl rfl)) (pgs_cons (pg_name (i := 5) sc_table_of.nd rfl (Or.inl rfl)) pgs_nil))))
    (pss_cons (ps_set (i := 6) sc_table_of.nd rfl (Or.inl rfl) (pe_g G_parts_of_kind (hr.mono (by decide)) (pa_cons (pv 4) pa_nil)))
    (pss_cons (ps_if (PW.pt (pw_and (pt_truth (pv 6) (by intro _; rfl)) (pw_and1 (pt_not (pt_val (pv 5)))))) (pss_cons (ps_expr (pe_bm PySem.F.plainAttrs_list PySem.F.slot_list_append PySem.F.type_list_append mt_append (pv 3) (pa_cons (pe_tup (pa_cons (pv 4) (pa_cons pe_bl pa_nil))) pa_nil)))
    (pss_cons (ps_expr (pe_bm PySem.F.plainAttrs_list PySem.F.slot_list_extend PySem.F.type_list_extend mt_extend (pv 3) (pa_cons (pe_lc (own := [("part", 8)]) rfl sc_table_of.nd (pi_list (pe_revL (pv 6))) (blkOk_by (own := [("part", 8)]) (N := ["kind", "heads", "places", "waiting", "one", "is_met", "parts", "cut", "part"]) (sc := defScope s_table_of) (by decide +kernel)) (fun _ _ _ _ _ => by exact (pg_name (i := 8) sc_table_of.nd rfl (Or.inl rfl))) (fun _ _ _ _ _ => by exact pts_nil) (fun _ _ _ _ _ => by exact (pe_tup (pa_cons (pv 8) (pa_cons pe_bl pa_nil))))) pa_nil)))
    (pss_one ps_continue))) pss_nil)
    (pss_cons (ps_set (i := 7) sc_table_of.nd rfl (Or.inl rfl) (pe_op op_sub (pe_callB call_len_seq (by rfl) T.n_len PySem.boot_len (pa_cons (pv 2) pa_nil)) (pe_callB call_len_seq (by rfl) T.n_len PySem.boot_len (pa_cons (pv 6) pa_nil))))
    (pss_cons (ps_expr (pe_bm PySem.F.plainAttrs_list PySem.F.slot_list_append PySem.F.type_list_append mt_append (pv 1) (pa_cons (pe_g G_with_parts (hr.mono (by decide)) (pa_cons (pv 4) (pa_cons (pe_slice sl_list (pv 2) (po_some (pv 7)) po_none) pa_nil))) pa_nil)))
    (pss_cons (ps_delG (pv 2) (pv 7))
    (pss_one (ps_expr (pe_bm PySem.F.plainAttrs_list PySem.F.slot_list_append PySem.F.type_list_append mt_append (pv 2) (pa_cons (pe_op op_sub (pe_callB call_len_seq (by rfl) T.n_len PySem.boot_len (pa_cons (pv 1) pa_nil)) pe_int) pa_nil)))))))))))
    (pss_one (ps_ret (pv 1))))))), ?_⟩
    have g := gr0 (M := []) s0
    refine o_parNN eds_nil eds_nil (Nat.zero_le _) (Nat.zero_le _) g fun lh lp G1 H1 g1 s1 k1 oh op nhp ks => ?_
    refine o_new (ds := [wtD (t, false)]) (eds_cons (ed_tup (eds_cons (ed_var rfl (r_kind.mono s1)) (eds_cons ed_bl eds_nil)) (Nat.le_of_ble_eq_true rfl)) eds_nil) (Nat.le_of_ble_eq_true rfl) g1 fun lw G2 H2 g2 s2 k2 ow ks2 => ?_
    obtain ⟨oh, nhw⟩ := ks2 lh _ oh
    obtain ⟨op, npw⟩ := ks2 lp _ op
    dsimp only
    refine s_seq (s_while (σ := [some v1, some (.ref lh), some (.ref lp), some (.ref lw), none, none, none, none, none]) (fun m σ G' H' => ∃ o1 o2 o3 o4 o5 hs ps ws, σ = [some v1, some (.ref lh), some (.ref lp), some (.ref lw), o1, o2, o3, o4, o5] ∧ m = szWs ws ∧ Own H G' H' lh hs ∧ Own H G' H' lp (ps.map .int) ∧ Own H G' H' lw (ws.map wtD) ∧ runW ws.reverse hs ps = tabT t 0 ∧ okW ws.reverse ps.length ∧ (∀ x ∈ ws, okT id x.1) ∧ ps.length ≤ hs.length ∧ szWs ws ≤ 2 * cntT t) g2 (m0 := 2 * cntT t) ⟨none, none, none, none, none, [], [], [(t, false)], rfl, by simp [szWs, szWt], oh, op, ow, by simp [runW], by simp [okW], by simpa using ht, Nat.le_refl _, by simp [szWs, szWt]⟩ ?_)
    rintro m σ G' H' g ⟨o1, o2, o3, o4, o5, hs, ps, ws, rfl, rfl, oh, op, ow, hrun, hokw, hokt, hpl, hsz⟩
    refine (ow.eb g.s fun Gx s r => eb_truth (ed_var rfl r) rfl) _ fun H1 g1 => ?_
    have oh := oh.kp g1.g g1.kp
    have op := op.kp g1.g g1.kp
    have ow := ow.kp g1.g g1.kp
    have g := g.call g1
    rcases nil_or_snoc ws with rfl | ⟨ws, x, rfl⟩
    · rw [if_neg (by simp [truth])]
      obtain ⟨G2, g2, s2, r2, _, _⟩ := oh.frz g
      refine s_ret (ed_var rfl r2) g2 fun v G' H' g r => k v G' H' g ?_
      rw [← hrun]
      exact r
    · rw [if_pos (by simp [truth])]
      refine ⟨_, fun _ _ q => q, ?_⟩
      obtain ⟨t', met⟩ := x
      have htok := hokt (t', met) (by simp)
      have hokt' : ∀ y ∈ ws, okT id y.1 := fun y hy => hokt y (by simp [hy])
      cases htok with
      | @mk a kds ha hl hks =>
      have ha : okNd a := ha
      have hl : kds.length = a.many := hl
      rw [List.map_append] at ow
      rw [List.reverse_append, List.reverse_singleton, List.singleton_append] at hrun hokw
      rw [szWs_app] at hsz
      refine o_pop2 (d := tD id (.mk a kds)) (e := .bl met) rfl g ow rfl fun x y H2 g ow2 ks ko r_one r_met => ?_
      have oh := ks lh _ nhw oh
      have op := ks lp _ npw op
      cases (show y = .bl met from r_met)
      have r_is_met : ∀ {G'}, Rp G' (.bl met) (.bl met) := rfl
      have ek : tD id (.mk a kds) = build a (kds.map (tD id)) := by rw [tD, tDL_map]; rfl
      rw [ek] at r_one
      have hlk : (kds.map (tD id)).length = a.many := by rw [List.length_map]; exact hl
      refine s_set' (ed_rel (eds_cons (ed_var rfl r_one) eds_nil) ⟨a, kds.map (tD id), rfl, ha, hlk, rfl⟩) g fun vp G3 H3 g s3 k3 r_parts => ?_
      have oh := oh.kp s3 k3
      have op := op.kp s3 k3
      have ow2 := ow2.kp s3 k3
      have r_one := r_one.mono s3
      have hcw := szWs_len ws
      have hc2 : szWs [(Tr.mk a kds, met)] = szWt (Tr.mk a kds, met) := by simp [szWs]
      rw [hc2] at hsz
      have hhs : hs.length ≤ cntT t := by rw [← tab_len t 0, ← hrun]; exact run_len _ _ _
      refine s_if' (b := !(kds.map (tD id)).isEmpty && !met) (eb_and (eb_truth (ed_var rfl r_parts) ?_) fun _ => (eb_not (eb_B (ed_var rfl r_is_met)))) g (fun hb H4 g k4 => ?_) fun hb H4 g k4 => ?_
      · rfl
      · have oh := oh.kp (Same.refl _) k4
        have op := op.kp (Same.refl _) k4
        have ow2 := ow2.kp (Same.refl _) k4
        have hmet : met = false := by cases met with | false => rfl | true => simp at hb
        subst hmet
        have hszk : szWt (Tr.mk a kds, false) = 2 * cntL kds + 2 := by simp only [szWt, cntT]; omega
        rw [hszk] at hsz
        have hkl := cntL_len kds
        simp only [tNext]
        refine s_seq (o_append (d := .tup [build a (kds.map (tD id)), .bl true]) rfl (ed_tup (eds_cons (ed_var rfl r_one) (eds_cons ed_bl eds_nil)) (Nat.le_of_ble_eq_true rfl)) g ow2 (by rw [List.length_map]; omega) fun G5 H5 g s5 ow2 ks5 _ => ?_)
        have oh := ks5 lh _ nhw oh
        have op := ks5 lp _ npw op
        have r_parts := r_parts.mono s5
        simp only [tNext]
        refine s_seq (o_extend (es := (kds.map (tD id)).reverse.map fun d => .tup [d, .bl false]) rfl (ed_lcAll (fun d => .tup [d, .bl false]) (es_list (ed_revL (ed_var rfl r_parts))) (by simp; omega) ?_) g ow2 (by simp; omega) fun G6 H6 g s6 ow2 ks6 _ => ?_)
        · intro d hd G' s
          exact tk_name fun u hu => ⟨rfl, ed_tup (eds_cons (ed_var rfl hu) (eds_cons ed_bl eds_nil)) (Nat.le_of_ble_eq_true rfl)⟩
        have oh := ks6 lh _ nhw oh
        have op := ks6 lp _ npw op
        have ews : (ws ++ [(Tr.mk a kds, true)] ++ kds.reverse.map (·, false)).map wtD = ws.map wtD ++ [.tup [build a (kds.map (tD id)), .bl true]] ++ (kds.map (tD id)).reverse.map fun d => .tup [d, .bl false] := by
          rw [List.map_append, List.map_append, ← List.map_reverse, List.map_map, List.map_map]
          simp only [List.map_cons, List.map_nil, wtD, ek]
          rfl
        rw [← ews] at ow2
        have erev : (ws ++ [(Tr.mk a kds, true)] ++ kds.reverse.map (·, false)).reverse = kds.map (·, false) ++ (Tr.mk a kds, true) :: ws.reverse := by simp
        have hsz2 : szWs (ws ++ [(Tr.mk a kds, true)] ++ kds.reverse.map (·, false)) = szWs ws + 1 + 2 * cntL kds := by
          rw [szWs_app, szWs_app, List.map_reverse, szWs_rev, szWs_kids]
          simp [szWs, szWt]
        refine ⟨_, ?_, G6, g, _, _, _, _, _, hs, ps, ws ++ [(Tr.mk a kds, true)] ++ kds.reverse.map (·, false), rfl, rfl, oh, op, ow2, ?_, ?_, ?_, hpl, by rw [hsz2]; omega⟩
        · rw [hsz2, szWs_app, hc2, hszk]
          omega
        · rw [erev, runOpen]
          exact hrun
        · rw [erev, okOpen]
          exact hokw
        · intro y hy
          rcases List.mem_append.mp hy with hy | hy
          · rcases List.mem_append.mp hy with hy | hy
            · exact hokt' y hy
            · rw [List.mem_singleton.mp hy]
              exact .mk ha hl hks
          · obtain ⟨c, hc, rfl⟩ := List.mem_map.mp hy
            exact hks c (List.mem_reverse.mp hc)
      · have oh := oh.kp (Same.refl _) k4
        have op := op.kp (Same.refl _) k4
        have ow2 := ow2.kp (Same.refl _) k4
        -- as if it had been met
        have hm2 : runW ((Tr.mk a kds, true) :: ws.reverse) hs ps = tabT t 0 ∧ okW ((Tr.mk a kds, true) :: ws.reverse) ps.length := by
          cases met with
          | true => exact ⟨hrun, hokw⟩
          | false =>
            have e : kds = [] := by
              cases kds with
              | nil => rfl
              | cons c cs => simp at hb
            subst e
            exact ⟨by rw [runLeaf]; exact hrun, (okOpen a [] ws.reverse ps.length).mpr hokw⟩
        obtain ⟨hrun2, hkp, hokw2⟩ := hm2
        rw [runW] at hrun2
        obtain ⟨c, hc⟩ : ∃ c, c = ps.length - kds.length := ⟨_, rfl⟩
        rw [← hc] at hrun2 hokw2
        dsimp only
        refine s_seq (o_setS (d := .int ((c : Nat) : Int)) op rfl (fun Gx s r => (ed_op (ed_lenL (ed_var rfl r)) (ed_lenL (ed_var rfl (r_parts.mono s))) fun _ _ => rd_I0i).to (by rw [List.length_map, List.length_map]; congr 1; omega)) g fun vc H5 g k5 r_cut => ?_)
        have oh := oh.kp (Same.refl _) k5
        have op := op.kp (Same.refl _) k5
        have ow2 := ow2.kp (Same.refl _) k5
        cases (show vc = .int ((c : Nat) : Int) from r_cut)
        -- heads.append(with_parts(one, places[cut:]))
        obtain ⟨hv, eh, rh, lnh⟩ := oh.len
        obtain ⟨pv, ep, rp, lnp⟩ := op.len
        rw [List.length_map] at lnp
        simp only [tNext]
        refine s_seq ⟨_, rfl, .inl ⟨rfl, _, SqL.of eh⟩, _, rfl, _, rfl, _, rfl, ((c : Nat) : Int), rfl, lp, pv, rfl, SqL.of ep, fun p hp => ?_⟩
        have g6 := g.new (o := .lst (cutV pv (some ((c : Nat) : Int)) none)) hp
        have sp := same_frz (o := .lst (cutV pv (some ((c : Nat) : Int)) none)) (g.gfree hp)
        have rcut : RpL G3 ((ps.drop c).map .int) (cutV pv (some ((c : Nat) : Int)) none) := by
          have := rl_cut rp (some ((c : Nat) : Int)) none
          rw [show ((ps.map D.int).drop (HT.sIx (ps.map D.int).length 0 (some ((c : Nat) : Int)))).take (HT.sIx (ps.map D.int).length (ps.map D.int).length none - HT.sIx (ps.map D.int).length 0 (some ((c : Nat) : Int))) = Kd.cutD (ps.map D.int) (some ((c : Nat) : Int)) none from rfl, cut_from (by rw [List.length_map]; omega), ← List.map_drop] at this
          exact this
        refine ⟨_, _, _, g6.s, .cons (r_one.mono sp) (.one (Rp.lst upd_same (rcut.mono sp))), ⟨a, kds.map (tD id), (ps.drop c).map .int, rfl, ha, hlk, by rw [List.length_map, List.length_drop]; omega, rfl⟩, fun v7 G7 H7 g7 r7 => ?_⟩
        have eh7 := g7.e lh _ (by rw [upd_ne (ne_of_none eh hp)]; exact eh)
        have ep7 := g7.e lp _ (by rw [upd_ne (ne_of_none ep hp)]; exact ep)
        obtain ⟨wv, ew, rw'⟩ := ow2.e
        have ew7 := g7.e lw _ (by rw [upd_ne (ne_of_none ew hp)]; exact ew)
        have ng7 : ∀ x, H5 x ≠ none → G3 x = none → G7 x = none := fun x hx gx => by
          have z : x ≠ p := fun z => hx (by rw [z]; exact hp)
          exact g7.n x (by rw [upd_ne z]; exact gx) (by rw [upd_ne z]; exact hx)
        have gh7 := ng7 lh (some_ne eh) oh.g
        have gp7 := ng7 lp (some_ne ep) op.g
        have gw7 := ng7 lw (some_ne ew) ow2.g
        have s37 : Same G3 G7 := sp.trans g7.g
        refine ⟨lh, hv, v7, rfl, rfl, eh7, by rw [lnh]; exact Nat.lt_of_le_of_lt hhs (Nat.lt_of_le_of_lt hz (by decide)), ?_⟩
        have g8 := (g6.call g7).mut (o := .lst (hv ++ [v7])) gh7 oh.h0
        -- del places[cut:]
        simp only [tNext]
        refine s_seq ⟨_, rfl, _, rfl, lp, pv, c, rfl, rfl, by omega, by rw [upd_ne (Ne.symm nhp)]; exact ep7, ?_⟩
        have g9 := g8.mut (o := .lst (pv.take c)) gp7 op.h0
        have oh9 : Own H G7 (upd (upd H7 lh (.lst (hv ++ [v7]))) lp (.lst (pv.take c))) lh (hs ++ [build a ((ps.drop c).map .int)]) := ⟨oh.h0, gh7, hv ++ [v7], by rw [upd_ne nhp, upd_same], (rh.mono s37).snoc r7⟩
        have op9 : Own H G7 (upd (upd H7 lh (.lst (hv ++ [v7]))) lp (.lst (pv.take c))) lp ((ps.take c).map .int) := ⟨op.h0, gp7, pv.take c, upd_same, by rw [List.map_take]; exact (rp.mono s37).take c⟩
        have ow9 : Own H G7 (upd (upd H7 lh (.lst (hv ++ [v7]))) lp (.lst (pv.take c))) lw (ws.map wtD) := ⟨ow2.h0, gw7, wv, by rw [upd_ne (Ne.symm npw), upd_ne (Ne.symm nhw)]; exact ew7, rw'.mono s37⟩
        simp only [tNext]
        refine o_appendH (d := .int (hs.length : Nat)) rfl (oh9.ed g9.s rfl fun Gx s r => (ed_op (ed_lenL (ed_var rfl r)) ed_int fun _ _ => rd_I0i).to (by rw [List.length_append]; simp)) g9 op9 (by rw [List.length_map, List.length_take]; omega) fun G10 H10 g10 s10 op10 ks10 _ => ?_
        have epl : (ps.take c).map D.int ++ [.int (hs.length : Nat)] = (ps.take c ++ [((hs.length : Nat) : Int)]).map .int := by rw [List.map_append]; rfl
        rw [epl] at op10
        refine ⟨szWs ws, by rw [szWs_app, hc2]; have := szWs_len [(Tr.mk a kds, met)]; rw [hc2] at this; simp at this; omega, G10, g10, _, _, _, _, _, hs ++ [build a ((ps.drop c).map .int)], ps.take c ++ [((hs.length : Nat) : Int)], ws, rfl, rfl, ks10 lh _ nhp oh9, op10, ks10 lw _ (Ne.symm npw) ow9, hrun2, ?_, hokt', ?_, by omega⟩
        · rw [List.length_append, List.length_take, Nat.min_eq_left (by omega)]
          exact hokw2
        · rw [List.length_append, List.length_append, List.length_take]
          simp
          omega
end
end K18
set_option maxHeartbeats 4000000
/-! Two tables are equal just if the trees are. -/
namespace Kd
open PySem PySem.Spec PyProof.Rows L2
mutual
def noBl : D → Bool
  | .bl _ => false | .dct => false
  | .tup ds => noBlL ds | .lst ds => noBlL ds
  | _ => true
def noBlL : List D → Bool
  | [] => true
  | d :: ds => noBl d && noBlL ds
end
mutual
theorem eqv_iff : ∀ {d e : D}, noBl d = true → noBl e = true → (PyData.eqv (toPy d) (toPy e) = true ↔ d = e)
  | .non, e, _, h => by cases e <;> simp [toPy, PyData.eqv, noBl] at *
  | .bl b, e, h, _ => by cases h
  | .int i, e, _, h => by cases e <;> simp [toPy, PyData.eqv, noBl] at *
  | .str s, e, _, h => by cases e <;> simp [toPy, PyData.eqv, noBl] at *
  | .dct, e, h, _ => by cases h
  | .tup ds, e, hd, h => by
    cases e with
    | tup es => simp only [toPy, PyData.eqv, D.tup.injEq]; exact eqvL_iff hd h
    | bl b => cases h
    | dct => cases h
    | _ => simp [toPy, PyData.eqv]
  | .lst ds, e, hd, h => by
    cases e with
    | lst es => simp only [toPy, PyData.eqv, D.lst.injEq]; exact eqvL_iff hd h
    | bl b => cases h
    | dct => cases h
    | _ => simp [toPy, PyData.eqv]
theorem eqvL_iff : ∀ {ds es : List D}, noBlL ds = true → noBlL es = true → (PyData.eqvAll (toPyL ds) (toPyL es) = true ↔ ds = es)
  | [], [], _, _ => by simp [toPyL, PyData.eqvAll]
  | [], e :: es, _, _ => by simp [toPyL, PyData.eqvAll]
  | d :: ds, [], _, _ => by simp [toPyL, PyData.eqvAll]
  | d :: ds, e :: es, h1, h2 => by
    simp only [noBlL, Bool.and_eq_true] at h1 h2
    simp only [toPyL, PyData.eqvAll, Bool.and_eq_true, List.cons.injEq]
    rw [eqv_iff h1.1 h2.1, eqvL_iff h1.2 h2.2]
end
end Kd
namespace K18
open PySem PySem.Spec PyProof.Rows L2 Kd
theorem nameIn_ok {lo hi : Nat} {z : Str} (h1 : nameIn lo hi z = true) : PyData.strOk z = true := by
  unfold nameIn at h1
  unfold PyData.strOk
  rw [← Array.all_toList]
  split at h1
  · cases h1
  · rename_i c r e
    rw [e]
    have h2 := ((Bool.and_eq_true _ _).mp ((Bool.and_eq_true _ _).mp h1).2).2
    rw [List.all_eq_true] at h2 ⊢
    intro x hx
    have h3 := h2 x hx
    simp only [wordSign, Bool.or_eq_true, Bool.and_eq_true, decide_eq_true_eq] at h3
    refine decide_eq_true ?_
    omega
theorem flD_inj {f f' : Fl} (h : f.d = f'.d) : f = f' := by
  cases f <;> cases f' <;> first | rfl | cases h
  rfl
theorem nmD_inj {p q : Str × Fl} (h : nmD p = nmD q) : p = q := by
  obtain ⟨z, f⟩ := p
  obtain ⟨z', f'⟩ := q
  simp only [nmD, D.tup.injEq, List.cons.injEq, D.str.injEq, and_true] at h
  rw [h.1, flD_inj h.2]
theorem row_inj {r r' : Ro} (h : r.d = r'.d) : r = r' := by
  obtain ⟨ns, t⟩ := r
  obtain ⟨ns', t'⟩ := r'
  simp only [Ro.d, Ro.l, D.tup.injEq, List.cons.injEq, D.lst.injEq, D.int.injEq, and_true] at h
  have e : ∀ {l l' : List (Str × Fl)}, l.map nmD = l'.map nmD → l = l' := by
    intro l
    induction l with
    | nil => intro l' h; cases l' with | nil => rfl | cons a b => simp at h
    | cons x l ih =>
      intro l' h
      cases l' with
      | nil => simp at h
      | cons y l' =>
        simp only [List.map_cons, List.cons.injEq] at h
        rw [nmD_inj h.1, ih h.2]
  rw [e h.1, h.2]
theorem build_inj {a a' : Nd} {ps qs : List D} (h : ps.length = a.many) (h' : qs.length = a'.many) (ok : okNd a) (ok' : okNd a') (e : build a ps = build a' qs) : a = a' ∧ ps = qs := by
  cases a with
  | plain w =>
    have z : ps = [] := List.eq_nil_of_length_eq_zero h
    subst z
    cases a' with
    | plain w' =>
      have z : qs = [] := List.eq_nil_of_length_eq_zero h'
      subst z
      simp only [build, D.tup.injEq, List.cons.injEq, D.str.injEq, and_true] at e
      rw [e]
      exact ⟨rfl, rfl⟩
    | letter n => simp [build] at e
    | pair => match qs, h' with | [x, y], _ => simp [build] at e
    | data s m => simp [build] at e
    | func r => match qs, h' with | [x, y], _ => simp [build] at e
  | letter n =>
    have z : ps = [] := List.eq_nil_of_length_eq_zero h
    subst z
    cases a' with
    | plain w' => simp [build] at e
    | letter n' =>
      have z : qs = [] := List.eq_nil_of_length_eq_zero h'
      subst z
      simp only [build, D.tup.injEq, List.cons.injEq, D.int.injEq, and_true, true_and] at e
      rw [e]
      exact ⟨rfl, rfl⟩
    | pair => match qs, h' with | [x, y], _ => simp [build] at e
    | data s m => simp [build] at e
    | func r => match qs, h' with | [x, y], _ => simp [build] at e
  | pair => match ps, h with
    | [p, q], _ =>
      cases a' with
      | plain w' => simp [build] at e
      | letter n' => simp [build] at e
      | pair => match qs, h' with
        | [x, y], _ =>
          simp only [build, D.tup.injEq, List.cons.injEq, and_true, true_and] at e
          rw [e.1, e.2]
          exact ⟨rfl, rfl⟩
      | data s m =>
        simp only [build, D.tup.injEq, List.cons.injEq, D.str.injEq] at e
        exact absurd e.1 (by decide)
      | func r => match qs, h' with | [x, y], _ => simp [build] at e
  | data s m =>
    cases a' with
    | plain w' => simp [build] at e
    | letter n' => simp [build] at e
    | pair => match qs, h' with
      | [x, y], _ =>
        simp only [build, D.tup.injEq, List.cons.injEq, D.str.injEq] at e
        exact absurd e.1 (by decide)
    | data s' m' =>
      simp only [build, D.tup.injEq, List.cons.injEq, D.str.injEq, D.lst.injEq, and_true, true_and] at e
      have hm : m = m' := (show m = ps.length from h.symm).trans ((by rw [e.2] : ps.length = qs.length).trans h')
      rw [e.1, e.2, hm]
      exact ⟨rfl, rfl⟩
    | func r => match qs, h' with | [x, y], _ => simp [build] at e
  | func r => match ps, h with
    | [p, q], _ =>
      cases a' with
      | plain w' => simp [build] at e
      | letter n' => simp [build] at e
      | pair => match qs, h' with | [x, y], _ => simp [build] at e
      | data s m => simp [build] at e
      | func r' => match qs, h' with
        | [x, y], _ =>
          simp only [build, D.tup.injEq, List.cons.injEq, and_true, true_and] at e
          rw [e.1, e.2.2, row_inj e.2.1]
          exact ⟨rfl, rfl⟩
theorem ints_inj {l l' : List Int} (h : l.map D.int = l'.map D.int) : l = l' := by
  induction l generalizing l' with
  | nil => cases l' with | nil => rfl | cons a b => simp at h
  | cons x l ih =>
    cases l' with
    | nil => simp at h
    | cons y l' =>
      simp only [List.map_cons, List.cons.injEq, D.int.injEq] at h
      rw [h.1, ih h.2]
theorem tab_inj : ∀ {t : Tr}, okT id t → ∀ {t' : Tr} {n : Nat}, okT id t' → tabT t n = tabT t' n → t = t' := by
  intro t
  induction t using Tr.rec (motive_2 := fun ks => (∀ k ∈ ks, okT id k) → ∀ {ks' : List Tr} {n : Nat}, (∀ k ∈ ks', okT id k) → endsL ks n = endsL ks' n → tabL ks n = tabL ks' n → ks = ks') with
  | mk a ks ih =>
    rintro ⟨h1, h2, h3⟩ t' n h' e
    cases h' with
    | @mk a' ks' g1 g2 g3 =>
      rw [tabT, tabT] at e
      have e1 := List.append_inj' e rfl
      have e2 : build a ((endsL ks n).map .int) = build a' ((endsL ks' n).map .int) := (List.cons.inj e1.2).1
      obtain ⟨e3, e4⟩ := build_inj (by rw [List.length_map, endsL_len]; exact h2) (by rw [List.length_map, endsL_len]; exact g2) h1 g1 e2
      rw [show a = a' from e3, ih h3 g3 (ints_inj e4) e1.1]
  | nil =>
    rename_i ks' n _ e _
    cases ks' with
    | nil => rfl
    | cons k ks => simp [endsL] at e
  | cons k ks h1 h2 =>
    rename_i hk ks' n g e1 e2
    cases ks' with
    | nil => simp [endsL] at e1
    | cons k' ks' =>
      simp only [endsL, List.cons.injEq] at e1
      have ec : cntT k = cntT k' := by omega
      rw [tabL, tabL, ec] at e2
      have e3 := List.append_inj e2 (by rw [tab_len, tab_len, ec])
      rw [ec] at e1
      rw [h1 (hk k (by simp)) (g k' (by simp)) e3.1, h2 (fun j hj => hk j (by simp [hj])) (fun j hj => g j (by simp [hj])) e1.2 e3.2]
/-! what == asks of tables -/
theorem small_ok {z : Str} (h : isSmall (.str z) = true) : PyData.strOk z = true := by
  have h1 : nameIn 97 122 z = true := ((Bool.and_eq_true _ _).mp h).1
  exact nameIn_ok h1
end K18
namespace K18
open PySem PySem.Spec PyProof.Rows L2 Kd
structure Lay (n : Nat) (d : D) : Prop where
  b : noBl d = true
  l : PyData.canLay0 (toPy d) = true
  d : PyData.depth (toPy d) ≤ n
theorem lay_list {n : Nat} : ∀ {ds : List D}, (∀ d ∈ ds, Lay n d) → noBlL ds = true ∧ PyData.canLayAll0 (toPyL ds) = true ∧ PyData.depthAll (toPyL ds) ≤ n
  | [], _ => ⟨rfl, rfl, Nat.zero_le _⟩
  | d :: ds, h => by
    obtain ⟨h1, h2, h3⟩ := lay_list (n := n) (ds := ds) fun e he => h e (by simp [he])
    obtain ⟨g1, g2, g3⟩ := h d (by simp)
    simp only [noBlL, toPyL, PyData.canLayAll0, PyData.depthAll, Bool.and_eq_true]
    exact ⟨⟨g1, h1⟩, ⟨g2, h2⟩, Nat.max_le.mpr ⟨g3, h3⟩⟩
theorem Lay.tup {n : Nat} {ds : List D} (h : ∀ d ∈ ds, Lay n d) : Lay (n + 1) (.tup ds) := by
  obtain ⟨h1, h2, h3⟩ := lay_list h
  exact ⟨h1, h2, Nat.succ_le_succ h3⟩
theorem Lay.lst {n : Nat} {ds : List D} (h : ∀ d ∈ ds, Lay n d) : Lay (n + 1) (.lst ds) := by
  obtain ⟨h1, h2, h3⟩ := lay_list h
  exact ⟨h1, h2, Nat.succ_le_succ h3⟩
theorem Lay.int {n : Nat} {i : Int} : Lay n (.int i) := ⟨rfl, rfl, Nat.zero_le _⟩
theorem Lay.str {n : Nat} {s : Str} (h : PyData.strOk s = true) : Lay n (.str s) := ⟨rfl, h, Nat.zero_le _⟩
theorem Lay.mono {n m : Nat} {d : D} (h : Lay n d) (k : n ≤ m) : Lay m d := ⟨h.b, h.l, Nat.le_trans h.d k⟩
theorem lay_fl {f : Fl} : Lay 1 f.d := by
  cases f with
  | pre => exact .str (by decide +kernel)
  | num n =>
    refine Lay.tup (n := 0) fun d hd => ?_
    simp only [List.mem_cons, List.not_mem_nil, or_false] at hd
    rcases hd with rfl | rfl
    · exact .str (by decide +kernel)
    · exact .int
theorem lay_row {r : Ro} (h : okRo r) : Lay 4 r.d := by
  refine Lay.tup (n := 3) fun d hd => ?_
  simp only [List.mem_cons, List.not_mem_nil, or_false] at hd
  rcases hd with rfl | rfl
  · refine .lst (n := 2) fun e he => ?_
    obtain ⟨p, hp, rfl⟩ := List.mem_map.mp he
    refine .tup (n := 1) fun x hx => ?_
    simp only [List.mem_cons, List.not_mem_nil, or_false] at hx
    rcases hx with rfl | rfl
    · exact .str (small_ok (h.nm p hp).1)
    · exact lay_fl
  · exact .int
theorem lay_word {w : Str} (h : w ∈ thePlain) : PyData.strOk w = true := by
  simp only [thePlain, List.mem_cons, List.not_mem_nil, or_false] at h
  rcases h with rfl | rfl | rfl | rfl <;> decide +kernel
/-- built of parts that are laid so deep -/
theorem lay_build {a : Nd} {ps : List D} {n : Nat} (ha : okNd a) (hp : ps.length = a.many) (h : ∀ p ∈ ps, Lay n p) : Lay (n + 6) (build a ps) := by
  cases a with
  | plain w =>
    refine Lay.tup (n := n + 5) fun d hd => ?_
    rw [List.mem_singleton.mp hd]
    exact .str (lay_word ha)
  | letter k =>
    refine Lay.tup (n := n + 5) fun d hd => ?_
    simp only [List.mem_cons, List.not_mem_nil, or_false] at hd
    rcases hd with rfl | rfl
    · exact .str (by decide +kernel)
    · exact .int
  | pair => match ps, hp, h with
    | [p, q], _, h =>
      refine Lay.tup (n := n + 5) fun d hd => ?_
      simp only [List.mem_cons, List.not_mem_nil, or_false] at hd
      rcases hd with rfl | rfl | rfl
      · exact .str (by decide +kernel)
      · exact (h _ (by simp)).mono (by omega)
      · exact (h _ (by simp)).mono (by omega)
  | data s m =>
    refine Lay.tup (n := n + 5) fun d hd => ?_
    simp only [List.mem_cons, List.not_mem_nil, or_false] at hd
    rcases hd with rfl | rfl | rfl
    · exact .str (by decide +kernel)
    · have hg : nameIn 65 90 s = true := ha.1
      exact .str (nameIn_ok hg)
    · exact (Lay.lst h).mono (by omega)
  | func r => match ps, hp, h with
    | [p, q], _, h =>
      refine Lay.tup (n := n + 5) fun d hd => ?_
      simp only [List.mem_cons, List.not_mem_nil, or_false] at hd
      rcases hd with rfl | rfl | rfl | rfl
      · exact .str (by decide +kernel)
      · exact (h _ (by simp)).mono (by omega)
      · exact (lay_row ha).mono (by omega)
      · exact (h _ (by simp)).mono (by omega)
theorem lay_tab : ∀ {t : Tr}, okT id t → ∀ n, ∀ d ∈ tabT t n, Lay 6 d := by
  intro t
  induction t using Tr.rec (motive_2 := fun ks => (∀ k ∈ ks, okT id k) → ∀ n, ∀ d ∈ tabL ks n, Lay 6 d) with
  | mk a ks ih =>
    rintro ⟨h1, h2, h3⟩ n d hd
    rw [tabT] at hd
    rcases List.mem_append.mp hd with hd | hd
    · exact ih h3 n d hd
    · rw [List.mem_singleton.mp hd]
      exact lay_build (n := 0) h1 (by rw [List.length_map, endsL_len]; exact h2) fun p hp => by
        obtain ⟨i, _, rfl⟩ := List.mem_map.mp hp
        exact .int
  | nil => rename_i h n d hd; simp [tabL] at hd
  | cons k ks h1 h2 =>
    rename_i hk n d hd
    rw [tabL] at hd
    rcases List.mem_append.mp hd with hd | hd
    · exact h1 (hk k (by simp)) n d hd
    · exact h2 (fun j hj => hk j (by simp [hj])) _ d hd
mutual
theorem noBl_dct : ∀ {d : D}, noBl d = true → noDct d = true
  | .non, _ => rfl
  | .bl b, h => rfl
  | .int i, _ => rfl
  | .str s, _ => rfl
  | .dct, h => by cases h
  | .tup ds, h => noBlL_dct (ds := ds) h
  | .lst ds, h => noBlL_dct (ds := ds) h
theorem noBlL_dct : ∀ {ds : List D}, noBlL ds = true → noDctL ds = true
  | [], _ => rfl
  | d :: ds, h => by
    simp only [noBlL, Bool.and_eq_true] at h
    simp only [noDctL, Bool.and_eq_true]
    exact ⟨noBl_dct h.1, noBlL_dct h.2⟩
end
/-- table_of(x) != table_of(y) -/
theorem rd_neTab {K : PySem.W.Frag} {G : Hp} {t t' : Tr} (h : okT id t) (h' : okT id t') : Rd2 (rNeD K) G (.lst (tabT t 0)) (.lst (tabT t' 0)) (.bl (!PyData.eqv (toPy (.lst (tabT t 0))) (toPy (.lst (tabT t' 0))))) := by
  have a := Lay.lst (lay_tab h 0)
  have b := Lay.lst (lay_tab h' 0)
  have sh : ∀ {d : D}, Lay 7 d → SeqAt.shaped (toPy d) = true := fun {d} q => by
    unfold SeqAt.shaped
    rw [q.l, decide_eq_true (Nat.le_trans q.d (by decide))]
    rfl
  exact rd_neD (noBl_dct a.b) (noBl_dct b.b) (sh a) (sh b)
theorem neTab_iff {t t' : Tr} (h : okT id t) (h' : okT id t') : PyData.eqv (toPy (.lst (tabT t 0))) (toPy (.lst (tabT t' 0))) = true ↔ t = t' := by
  rw [eqv_iff (Lay.lst (lay_tab h 0)).b (Lay.lst (lay_tab h' 0)).b, D.lst.injEq]
  exact ⟨fun e => tab_inj h h' e, fun e => by rw [e]⟩
end K18
set_option maxHeartbeats 4000000
namespace K18
open PySem PySem.Spec PyProof.Rows L2 Kd
def itD (f : Nd → Nd) : Tr ⊕ Ro → D
  | .inl t => tD f t
  | .inr r => .tup [.str "row", r.d]
def szI : Tr ⊕ Ro → Nat
  | .inl t => szT t
  | .inr _ => 1
def rdI (f : Nd → Nd) : Tr ⊕ Ro → List (Int ⊕ Ro)
  | .inl t => rdT f t
  | .inr r => [.inr r]
def okI (f : Nd → Nd) : Tr ⊕ Ro → Prop
  | .inl t => okT f t
  | .inr _ => True
def szIs (ws : List (Tr ⊕ Ro)) : Nat := (ws.map szI).sum
theorem szIs_app (a b : List (Tr ⊕ Ro)) : szIs (a ++ b) = szIs a + szIs b := by simp [szIs]
theorem szI_pos (i : Tr ⊕ Ro) : 1 ≤ szI i := by
  cases i with
  | inl t => cases t; simp [szI, szT]
  | inr r => simp [szI]
theorem szIs_len : ∀ ws : List (Tr ⊕ Ro), ws.length ≤ szIs ws
  | [] => Nat.le_refl _
  | i :: ws => by
    have := szIs_len ws
    have := szI_pos i
    simp [szIs] at *
    omega
theorem szIs_inl : ∀ ks : List Tr, szIs (ks.map .inl) = szTL ks
  | [] => rfl
  | k :: ks => by
    have := szIs_inl ks
    simp [szIs, szI, szTL] at *
    omega
def rdIs (f : Nd → Nd) (ws : List (Tr ⊕ Ro)) : List (Int ⊕ Ro) := ws.reverse.flatMap (rdI f)
theorem rdIs_snoc (f : Nd → Nd) (ws : List (Tr ⊕ Ro)) (i : Tr ⊕ Ro) : rdIs f (ws ++ [i]) = rdI f i ++ rdIs f ws := by simp [rdIs]
theorem rdIs_app (f : Nd → Nd) (ws xs : List (Tr ⊕ Ro)) : rdIs f (ws ++ xs) = rdIs f xs ++ rdIs f ws := by simp [rdIs]
theorem rdTL_flat (f : Nd → Nd) : ∀ ks : List Tr, rdTL f ks = ks.flatMap (rdT f)
  | [] => rfl
  | k :: ks => by rw [rdTL, rdTL_flat f ks]; rfl
theorem rdIs_kids (f : Nd → Nd) (ks : List Tr) : rdIs f (ks.reverse.map .inl) = rdTL f ks := by
  rw [rdTL_flat, rdIs, ← List.map_reverse, List.reverse_reverse, List.flatMap_map]
  rfl
section
variable {P : Program} {w : World} {K : PySem.W.Frag} {mg : Str → Option Value} {base : Heap}
def rRead : List D → D → Prop := fun ds d => ∃ f t, ds = [tD f t] ∧ okT f t ∧ szT t ≤ 3000000 ∧ d = .lst ((rdT f t).map eD)
abbrev N_reading_of : List Str := ["kind", "found", "waiting", "one"]
theorem sc_reading_of : FnScope ["kind", "found", "waiting", "one"] ["kind"] (defScope s_reading_of) := ⟨rfl, rfl, rfl, by decide +kernel, rfl, by decide +kernel, by decide +kernel⟩
theorem ok_reading_of (T : Tx K mg) : Good P w K mg base CX0 "reading_of" 3 ["kind"] (spRel rRead) := by
  obtain ⟨fd, F⟩ := T.f_reading_of
  refine ⟨T.m_reading_of, F.kp, fd, ?_, F.bindsN fun _ _ _ _ _ _ us hl => match us, hl with | [_], _ => rfl⟩
  have G_parts_of_kind := ok_parts_of_kind (P := P) (w := w) (base := base) T
  refine F.ok sc_reading_of (fun vs H Q E h => ?_) (fun cdv A outer s H vs Q E hr h => ?_)
  · obtain ⟨G, ds, d, _, r, ⟨f, t, rfl, _⟩, _⟩ := h
    exact r.len
  · obtain ⟨G, ds, d, s0, r, ⟨f, t, rfl, ht, hz, rfl⟩, k⟩ := h
    obtain ⟨v1, _, rfl, r_kind, rfl⟩ := r
    refine ⟨_, PSs.nox ((pss_cons (ps_set (i := 1) sc_reading_of.nd rfl (Or.inl rfl) (pe_lst pa_nil))
    (pss_cons (ps_set (i := 2) sc_reading_of.nd rfl (Or.inl rfl) (pe_lst (pa_cons (pv 0) pa_nil)))
    (pss_cons (ps_while PassesOwn.never (pt_truth (pv 2) (by intro _; rfl)) (pss_cons (ps_set (i := 3) sc_reading_of.nd rfl (Or.inl rfl) (pe_bm0 PySem.F.plainAttrs_list PySem.F.slot_list_pop PySem.F.type_list_pop mt_pop (pv 2)))
    (pss_one (ps_if (pt_cmpR op_in_seq (pe_ix ix_tup (pv 3) pe_int (fun _ _ => rfl)) (pe_tup (pa_cons pe_str (pa_cons pe_str pa_nil))) (by rfl)) (pss_one (ps_expr (pe_bm PySem.F.plainAttrs_list PySem.F.slot_list_append PySem.F.type_list_append mt_append (pv 1) (pa_cons (pv 3) pa_nil)))) (pss_one (ps_if (pt_cmpR op_eq (pe_ix ix_tup (pv 3) pe_int (fun _ _ => rfl)) pe_str (nomark _)) (pss_one (ps_expr (pe_bm PySem.F.plainAttrs_list PySem.F.slot_list_extend PySem.F.type_list_extend mt_extend (pv 2) (pa_cons (pe_lst (pa_cons (pe_ix ix_tup (pv 3) pe_int (fun _ _ => rfl)) (pa_cons (pe_tup (pa_cons pe_str (pa_cons (pe_ix ix_tup (pv 3) pe_int (fun _ _ => rfl)) pa_nil))) (pa_cons (pe_ix ix_tup (pv 3) pe_int (fun _ _ => rfl)) pa_nil)))) pa_nil)))) (pss_one (ps_expr (pe_bm PySem.F.plainAttrs_list PySem.F.slot_list_extend PySem.F.type_list_extend mt_extend (pv 2) (pa_cons (pe_revL (pe_g G_parts_of_kind (hr.mono (by decide)) (pa_cons (pv 3) pa_nil))) pa_nil))))))))))
    (pss_one (ps_ret (pv 1))))))), ?_⟩
    have g := gr0 (M := []) s0
    refine o_new eds_nil (Nat.zero_le _) g fun lf G1 H1 g1 s1 k1 of ks1 => ?_
    refine o_new (ds := [tD f t]) (eds_cons (ed_var rfl (r_kind.mono s1)) eds_nil) (Nat.le_of_ble_eq_true rfl) g1 fun lw G2 H2 g2 s2 k2 ow ks2 => ?_
    obtain ⟨of, nfw⟩ := ks2 lf _ of
    dsimp only
    refine s_seq (s_while (σ := [some v1, some (.ref lf), some (.ref lw), none]) (fun m σ G' H' => ∃ o1 fs ws, σ = [some v1, some (.ref lf), some (.ref lw), o1] ∧ m = szIs ws ∧ Own H G' H' lf (fs.map eD) ∧ Own H G' H' lw (ws.map (itD f)) ∧ fs ++ rdIs f ws = rdT f t ∧ (∀ i ∈ ws, okI f i) ∧ szIs ws + fs.length ≤ 3000000) g2 (m0 := szIs [.inl t]) ⟨_, [], [.inl t], rfl, rfl, of, ow, by simp [rdIs, rdI], fun i hi => by rw [List.mem_singleton.mp hi]; exact ht, by simpa [szIs, szI] using hz⟩ ?_)
    rintro m σ G' H' g ⟨o1, fs, ws, rfl, rfl, of, ow, hrd, hok, hsz⟩
    refine (ow.eb g.s fun Gx s r => eb_truth (ed_var rfl r) rfl) _ fun H1 g1 => ?_
    have of := of.kp g1.g g1.kp
    have ow := ow.kp g1.g g1.kp
    have g := g.call g1
    rcases nil_or_snoc ws with rfl | ⟨ws, i, rfl⟩
    · rw [if_neg (by simp [truth])]
      obtain ⟨G2, g2, s2, r2, _, _⟩ := of.frz g
      refine s_ret (ed_var rfl r2) g2 fun v G' H' g r => k v G' H' g ?_
      have e : fs = rdT f t := by simpa [rdIs] using hrd
      rw [← e]
      exact r
    · rw [if_pos (by simp [truth])]
      refine ⟨_, fun _ _ q => q, ?_⟩
      rw [List.map_append] at ow
      rw [rdIs_snoc] at hrd
      rw [szIs_app] at hsz
      have hoki := hok i (by simp)
      have hokw : ∀ j ∈ ws, okI f j := fun j hj => hok j (by simp [hj])
      have hlw := szIs_len ws
      have hei : szIs [i] = szI i := by simp [szIs]
      rw [hei] at hsz
      refine o_pop (d := itD f i) rfl g ow fun vo H2 g ow2 ks ko r_one => ?_
      have of := ks lf _ nfw of
      cases i with
      | inr r =>
        refine s_if' (((eb_test (ed_op (ed_op (ed_var rfl r_one) ed_int fun _ _ => rd_ixT at0) (ed_tup (eds_cons ed_str (eds_cons ed_str eds_nil)) (Nat.le_of_ble_eq_true rfl)) fun _ _ => rd_inT rfl rfl)) : Eb _ _ _ _).to (c := true) rfl) g (fun _ H3 g k3 => ?_) fun z => nomatch z
        have of := of.kp (Same.refl _) k3
        have ow := ow2.kp (Same.refl _) k3
        refine o_append rfl (ed_var rfl r_one) g of (by rw [List.length_map]; omega) fun G4 H4 g s4 of ks4 _ => ?_
        refine ⟨szIs ws, by rw [szIs_app]; simp [szIs, szI], G4, g, _, fs ++ [.inr r], ws, rfl, rfl, by rw [List.map_append]; exact of, ks4 lw _ (Ne.symm nfw) ow, by rw [← hrd]; simp [rdI], hokw, by simp [szI] at hsz ⊢; omega⟩
      | inl t' =>
        cases hoki with
        | @mk a ks ha hl hks =>
        have hszt : szI (.inl (Tr.mk a ks)) = szTL ks + 2 := rfl
        rw [hszt] at hsz
        have hkl := szTL_len ks
        have ext : ∀ G3 H3, Gr [] G H G3 H3 → Own H G3 H3 lf (fs.map eD) → Own H G3 H3 lw ((ws.map (itD f)) ++ (ks.reverse.map (fun k => tD f k))) → rdI f (.inl (Tr.mk a ks)) = rdTL f ks →
            (∃ m', m' < szIs (ws ++ [.inl (Tr.mk a ks)]) ∧ ∃ G', Gr [] G H G' H3 ∧ ∃ o1 fs ws, [some v1, some (.ref lf), some (.ref lw), some vo] = [some v1, some (.ref lf), some (.ref lw), o1] ∧ m' = szIs ws ∧ Own H G' H3 lf (fs.map eD) ∧ Own H G' H3 lw (ws.map (itD f)) ∧ fs ++ rdIs f ws = rdT f t ∧ (∀ i ∈ ws, okI f i) ∧ szIs ws + fs.length ≤ 3000000) := by
          intro G3 H3 g3 of3 ow3 hrdi
          have e1 : szIs (ws ++ ks.reverse.map .inl) = szIs ws + szTL ks := by rw [szIs_app, szIs_inl, szTL_rev]
          refine ⟨szIs (ws ++ ks.reverse.map .inl), by rw [e1, szIs_app]; simp [szIs, szI, szT], G3, g3, _, fs, ws ++ ks.reverse.map .inl, rfl, rfl, of3, ?_, ?_, ?_, by rw [e1]; omega⟩
          · rw [List.map_append, List.map_map]
            exact ow3
          · rw [rdIs_app, rdIs_kids, ← hrdi, ← hrd]
          · intro j hj
            rcases List.mem_append.mp hj with q | q
            · exact hokw j q
            · obtain ⟨k', hk', rfl⟩ := List.mem_map.mp q
              exact hks k' (List.mem_reverse.mp hk')
        have r_one : Rp G' (build (f a) (ks.map (tD f))) vo := by rw [← tDL_map]; exact r_one
        have hpk : rPK [build (f a) (ks.map (tD f))] (.lst (ks.map (tD f))) := ⟨f a, _, rfl, ha, by rw [List.length_map]; exact hl, rfl⟩
        have lenw : (ws.map (itD f)).length + (ks.map (tD f)).reverse.length ≤ 10000000 := by simp; omega
        have hpart : ∀ σ, σ[3]? = some (some vo) → Ed (tRevL K (tCall (spRel rPK) [] E0 (tCons (tVar 3) tNil))) σ G' (.lst (ks.map (tD f)).reverse) := fun σ hσ => ed_revL (ed_rel (eds_cons (ed_var hσ r_one) eds_nil) hpk)
        cases e : f a with
        | letter n =>
          rw [e] at r_one
          refine s_if' (((eb_test (ed_op (ed_op (ed_var rfl r_one) ed_int fun _ _ => rd_ixT at0) (ed_tup (eds_cons ed_str (eds_cons ed_str eds_nil)) (Nat.le_of_ble_eq_true rfl)) fun _ _ => rd_inT rfl rfl)) : Eb _ _ _ _).to (c := true) rfl) g (fun _ H3 g k3 => ?_) fun z => nomatch z
          have of := of.kp (Same.refl _) k3
          have ow := ow2.kp (Same.refl _) k3
          refine o_append rfl (ed_var rfl r_one) g of (by rw [List.length_map]; omega) fun G4 H4 g s4 of ks4 _ => ?_
          have hrd' : rdI f (.inl (Tr.mk a ks)) = [.inl n] := by simp [rdI, rdT, e]
          refine ⟨szIs ws, by rw [szIs_app]; simp [szIs, szI, szT], G4, g, _, fs ++ [.inl n], ws, rfl, rfl, by rw [List.map_append]; exact of, ks4 lw _ (Ne.symm nfw) ow, by rw [← hrd, hrd']; simp, hokw, by simp at hsz ⊢; omega⟩
        | plain x =>
          have hx : x ∈ thePlain := by have := ha; rw [e] at this; exact this
          obtain ⟨_, n1, n2, n3, n4, n5⟩ := plain_word hx
          rw [e] at r_one
          refine s_if' (((eb_test (ed_op (ed_op (ed_var rfl r_one) ed_int fun _ _ => rd_ixT at0) (ed_tup (eds_cons ed_str (eds_cons ed_str eds_nil)) (Nat.le_of_ble_eq_true rfl)) fun _ _ => rd_inT rfl rfl)) : Eb _ _ _ _).to (c := false) ?_) g (fun z => nomatch z) fun _ H3 g k3 => ?_
          · simp [eqF, Ne.symm n4, Ne.symm n5]
          have of := of.kp (Same.refl _) k3
          have ow := ow2.kp (Same.refl _) k3
          refine s_if' (((eb_test (ed_op (ed_op (ed_var rfl r_one) ed_int fun _ _ => rd_ixT at0) ed_str fun _ _ => rd_eq rfl)) : Eb _ _ _ _).to (decide_eq_false n2)) g (fun z => nomatch z) fun _ H4 g k4 => ?_
          have of := of.kp (Same.refl _) k4
          have ow := ow.kp (Same.refl _) k4
          refine o_extend rfl (hpart _ rfl) g ow lenw fun G5 H5 g s5 ow ks5 _ => ?_
          exact ext G5 H5 g (ks5 lf _ nfw of) (by rw [← List.map_reverse] at ow; exact ow) (by simp [rdI, rdT, e])
        | pair =>
          obtain ⟨x, y, rfl⟩ : ∃ x y, ks = [x, y] := by
            have : ks.length = 2 := by rw [hl, e]; rfl
            match ks, this with | [x, y], _ => exact ⟨x, y, rfl⟩
          rw [e] at r_one
          refine s_if' (((eb_test (ed_op (ed_op (ed_var rfl r_one) ed_int fun _ _ => rd_ixT at0) (ed_tup (eds_cons ed_str (eds_cons ed_str eds_nil)) (Nat.le_of_ble_eq_true rfl)) fun _ _ => rd_inT rfl rfl)) : Eb _ _ _ _).to (c := false) rfl) g (fun z => nomatch z) fun _ H3 g k3 => ?_
          have of := of.kp (Same.refl _) k3
          have ow := ow2.kp (Same.refl _) k3
          refine s_if' (((eb_test (ed_op (ed_op (ed_var rfl r_one) ed_int fun _ _ => rd_ixT at0) ed_str fun _ _ => rd_eq rfl)) : Eb _ _ _ _).to (c := false) rfl) g (fun z => nomatch z) fun _ H4 g k4 => ?_
          have of := of.kp (Same.refl _) k4
          have ow := ow.kp (Same.refl _) k4
          refine o_extend rfl (hpart _ rfl) g ow lenw fun G5 H5 g s5 ow ks5 _ => ?_
          exact ext G5 H5 g (ks5 lf _ nfw of) (by rw [← List.map_reverse] at ow; exact ow) (by simp [rdI, rdT, e])
        | data x n =>
          rw [e] at r_one
          refine s_if' (((eb_test (ed_op (ed_op (ed_var rfl r_one) ed_int fun _ _ => rd_ixT at0) (ed_tup (eds_cons ed_str (eds_cons ed_str eds_nil)) (Nat.le_of_ble_eq_true rfl)) fun _ _ => rd_inT rfl rfl)) : Eb _ _ _ _).to (c := false) rfl) g (fun z => nomatch z) fun _ H3 g k3 => ?_
          have of := of.kp (Same.refl _) k3
          have ow := ow2.kp (Same.refl _) k3
          refine s_if' (((eb_test (ed_op (ed_op (ed_var rfl r_one) ed_int fun _ _ => rd_ixT at0) ed_str fun _ _ => rd_eq rfl)) : Eb _ _ _ _).to (c := false) rfl) g (fun z => nomatch z) fun _ H4 g k4 => ?_
          have of := of.kp (Same.refl _) k4
          have ow := ow.kp (Same.refl _) k4
          refine o_extend rfl (hpart _ rfl) g ow lenw fun G5 H5 g s5 ow ks5 _ => ?_
          exact ext G5 H5 g (ks5 lf _ nfw of) (by rw [← List.map_reverse] at ow; exact ow) (by simp [rdI, rdT, e])
        | func r =>
          obtain ⟨x, y, rfl⟩ : ∃ x y, ks = [x, y] := by
            have : ks.length = 2 := by rw [hl, e]; rfl
            match ks, this with | [x, y], _ => exact ⟨x, y, rfl⟩
          rw [e] at r_one
          have r_one : Rp G' (.tup [.str "fun", tD f x, r.d, tD f y]) vo := r_one
          refine s_if' (((eb_test (ed_op (ed_op (ed_var rfl r_one) ed_int fun _ _ => rd_ixT at0) (ed_tup (eds_cons ed_str (eds_cons ed_str eds_nil)) (Nat.le_of_ble_eq_true rfl)) fun _ _ => rd_inT rfl rfl)) : Eb _ _ _ _).to (c := false) rfl) g (fun z => nomatch z) fun _ H3 g k3 => ?_
          have of := of.kp (Same.refl _) k3
          have ow := ow2.kp (Same.refl _) k3
          refine s_if' (((eb_test (ed_op (ed_op (ed_var rfl r_one) ed_int fun _ _ => rd_ixT at0) ed_str fun _ _ => rd_eq rfl)) : Eb _ _ _ _).to (c := true) rfl) g (fun _ H4 g k4 => ?_) fun z => nomatch z
          have of := of.kp (Same.refl _) k4
          have ow := ow.kp (Same.refl _) k4
          refine o_extend (es := [tD f y, .tup [.str "row", r.d], tD f x]) rfl (ed_lst (eds_cons (ed_op (ed_var rfl r_one) ed_int fun _ _ => rd_ixT at3) (eds_cons (ed_tup (eds_cons ed_str (eds_cons (ed_op (ed_var rfl r_one) ed_int fun _ _ => rd_ixT at2) eds_nil)) (Nat.le_of_ble_eq_true rfl)) (eds_cons (ed_op (ed_var rfl r_one) ed_int fun _ _ => rd_ixT at1) eds_nil))) (Nat.le_of_ble_eq_true rfl)) g ow (by simp; omega) fun G5 H5 g s5 ow ks5 _ => ?_
          have hsz' : szTL [x, y] = szT x + szT y := by simp [szTL]
          refine ⟨szIs (ws ++ [.inl y, .inr r, .inl x]), by rw [szIs_app, szIs_app]; simp [szIs, szI, szT, szTL]; omega, G5, g, _, fs, ws ++ [.inl y, .inr r, .inl x], rfl, rfl, ks5 lf _ nfw of, by rw [List.map_append]; exact ow, ?_, ?_, ?_⟩
          · rw [rdIs_app, ← hrd]
            simp [rdIs, rdI, rdT, e]
          · intro j hj
            rcases List.mem_append.mp hj with q | q
            · exact hokw j q
            · simp only [List.mem_cons, List.not_mem_nil, or_false] at q
              rcases q with rfl | rfl | rfl
              · exact hks y (by simp)
              · exact trivial
              · exact hks x (by simp)
          · rw [szIs_app]
            simp [szIs, szI] at hsz ⊢
            omega
def rRows : List D → D → Prop := fun ds d => ∃ f t, ds = [tD f t] ∧ okT f t ∧ szT t ≤ 3000000 ∧ d = .lst (((rdT f t).filterMap Sum.getRight?).map Ro.d)
end
end K18
set_option maxHeartbeats 4000000
/-! A set comprehension of texts with two clauses, told by trees; promises that leave the outcome open. -/
namespace Kd
open PySem PySem.Spec PyProof.Rows L2
theorem nodup_len {α : Type} [BEq α] [LawfulBEq α] : ∀ {l N : List α}, l.Nodup → (∀ x ∈ l, x ∈ N) → l.length ≤ N.length
  | [], _, _, _ => Nat.zero_le _
  | x :: l, N, h, k => by
    have h1 := List.nodup_cons.mp h
    have hx : x ∈ N := k x (by simp)
    have ih := nodup_len (l := l) (N := N.erase x) h1.2 fun y hy => (List.mem_erase_of_ne (fun z => h1.1 (by rw [← z]; exact hy))).mpr (k y (by simp [hy]))
    rw [List.length_erase_of_mem hx] at ih
    have : 0 < N.length := List.length_pos_of_mem hx
    simp only [List.length_cons]
    omega
/-- the promise: any outcome that R allows -/
def spAll (pre : List D → Prop) (R : List D → D → Prop) : Sp := fun vs H Q _ => ∃ G ds, Same G H ∧ RpL G ds vs ∧ pre ds ∧ ∀ d v G' H', R ds d → Gp G H G' H' → Rp G' d v → Q v H'
section
variable {P : Program} {w : World} {K : PySem.W.Frag} {σ : L2.St} {G : Hp} {te : TE} {wi wi1 : TI} {g g1 : TG}
/-- what one row gives -/
structure RowS (P : Program) (w : World) (N : List Str) (wi1 : TI) (g1 : TG) (te : TE) (vs1 : List Nat) (σ2 : L2.St) (G2 : Hp) (ns : List Str) : Prop where
  ex : ∃ items1 : List D, ∃ nm : D → Str, Es wi1 σ2 G2 items1 ∧ items1.map nm = ns ∧ ∀ d1 ∈ items1, nm d1 ∈ N ∧ ∀ G3, Same G2 G3 → Tk g1 (wipe σ2 vs1) G3 d1 fun σ3 G4 => wipe σ3 vs1 = wipe σ2 vs1 ∧ Ed te σ3 G4 (.str (nm d1))
theorem run_sc2 {items : List D} {names : D → List Str} {N : List Str} {vs vs1 : List Nat} (hs : Es wi σ G items) (hN : N.length ≤ 4000)
    (ht : ∀ d ∈ items, ∀ G', Same G G' → Tk g (wipe σ vs) G' d fun σ2 G2 => wipe σ2 vs = wipe σ vs ∧ RowS P w N wi1 g1 te vs1 σ2 G2 (names d)) {H : Hp} (s : Same G H) {Q : VK}
    (q : ∀ a l G' H', Gp G H G' H' → H' a = some (SetSO P w a l) → l.length ≤ N.length → (∀ z, z ∈ l ↔ ∃ d ∈ items, z ∈ names d) → Q (.ref a) H') : tSc2 P w wi g tYes wi1 g1 tYes te vs vs1 σ H Q := by
  refine hs H s _ fun J G1 H1 ga W D hD => ?_
  -- the set so far
  let St : List Str → Hp → Hp → Prop := fun L Gj Hj => Gp G H Gj Hj ∧ Same G1 Gj ∧ Gj D = none ∧ ∃ l, Hj D = some (SetSO P w D l) ∧ l.Nodup ∧ (∀ z, z ∈ l ↔ z ∈ L) ∧ (∀ z ∈ l, z ∈ N)
  have step : ∀ {L Gj Hj Gk Hk}, St L Gj Hj → Gp Gj Hj Gk Hk → St L Gk Hk := by
    rintro L Gj Hj Gk Hk ⟨a1, a2, a3, l, a4, a5⟩ gk
    exact ⟨a1.trans gk, a2.trans gk.g, gk.n D a3 (some_ne a4), l, gk.e D _ a4, a5⟩
  refine ⟨fun i m Hj => m = items.length - i ∧ i ≤ items.length ∧ ∃ Gj, St ((items.take i).flatMap names) Gj Hj, ⟨_, rfl, Nat.zero_le _, G1, ga.tmp hD, Same.refl _, ga.gfree hD, [], upd_same, List.nodup_nil, fun z => by simp, fun z hz => by simp at hz⟩, ?_⟩
  rintro i m Hj ⟨rfl, hi, Gj, st⟩
  have sj : Same G1 Hj := st.2.1.trans st.1.s
  by_cases hlt : i < items.length
  · refine .inr ⟨W.goes i Hj hlt sj, fun H' => ∃ Gj, St ((items.take (i + 1)).flatMap names) Gj H', fun H' p => ⟨items.length - (i + 1), by omega, rfl, hlt, p⟩, fun x Hx y => ?_⟩
    obtain ⟨d, hd, y⟩ := W.yields i Hj x Hx hlt sj y
    obtain ⟨Gk, gk, rk⟩ := y Gj st.2.1 st.1.s
    have st := step st gk
    have hmem : d ∈ items := List.mem_of_getElem? hd
    refine ht d hmem Gk (st.1.g) x Hx gk.s rk _ fun σ2 h2 => ?_
    obtain ⟨hw, ⟨items1, nm, hs1, hnm, ht1⟩⟩ := h2
    have etake : (items.take (i + 1)).flatMap names = (items.take i).flatMap names ++ items1.map nm := by
      rw [take_snoc hd, List.flatMap_append, hnm]
      simp
    refine ⟨hw, ?_⟩
    simp only [tYes, ↓reduceIte]
    refine hs1 Hx gk.s _ fun J1 G2 H2 g2 W1 => ?_
    have st := step st g2
    let St1 : Nat → Hp → Hp → Prop := fun j Gj Hj => Same G2 Gj ∧ St ((items.take i).flatMap names ++ (items1.take j).map nm) Gj Hj
    refine ⟨fun j k Hq => k = items1.length - j ∧ j ≤ items1.length ∧ ∃ Gq, St1 j Gq Hq, ⟨_, rfl, Nat.zero_le _, G2, Same.refl _, by simpa using st⟩, ?_⟩
    rintro j k Hq ⟨rfl, hj, Gq, sq, stq⟩
    have sq1 : Same G2 Hq := sq.trans stq.1.s
    by_cases hlt1 : j < items1.length
    · refine .inr ⟨W1.goes j Hq hlt1 sq1, fun H' => ∃ Gq, St1 (j + 1) Gq H', fun H' p => ⟨items1.length - (j + 1), by omega, rfl, hlt1, p⟩, fun x1 Hx1 y1 => ?_⟩
      obtain ⟨d1, hd1, y1⟩ := W1.yields j Hq x1 Hx1 hlt1 sq1 y1
      obtain ⟨Gr', gr, rr⟩ := y1 Gq sq stq.1.s
      have stq := step stq gr
      obtain ⟨hin, ht1⟩ := ht1 d1 (List.mem_of_getElem? hd1)
      refine ht1 Gr' ((g2.g.trans sq).trans gr.g) x1 Hx1 gr.s rr _ fun σ3 h3 => ?_
      refine ⟨h3.1, ?_⟩
      simp only [tYes, ↓reduceIte]
      refine h3.2 Hx1 gr.s _ fun v Gs Hs gs rs => ?_
      cases (show v = .str (nm d1) from rs)
      obtain ⟨a1, a2, a3, l, a4, a5, a6, a7⟩ := step stq gs
      have hlen : l.length ≤ 4000 := Nat.le_trans (nodup_len a5 a7) hN
      refine ⟨nm d1, l, rfl, a4, Nat.lt_of_le_of_lt (Nat.succ_le_succ hlen) (by decide), Gs, (sq.trans gr.g).trans gs.g, a1.mut a3 (ga.free hD), a2, a3, insS (nm d1) l, upd_same, nodup_insS a5, fun z => ?_, fun z hz => ?_⟩
      · rw [mem_insS, a6, take_snoc hd1]
        simp [or_comm, or_assoc, or_left_comm]
      · rcases mem_insS.mp hz with rfl | hz
        · exact hin
        · exact a7 z hz
    · have e : j = items1.length := by omega
      subst e
      refine .inl ⟨W1.stops Hq sq1, Gq, ?_⟩
      rw [etake]
      rw [List.take_length] at stq
      exact stq
  · have e : i = items.length := by omega
    subst e
    refine .inl ⟨W.stops Hj sj, ?_⟩
    obtain ⟨a1, a2, a3, l, a4, a5, a6, a7⟩ := st
    rw [List.take_length] at a6
    exact q D l Gj Hj a1 a4 (nodup_len a5 a7) fun z => by rw [a6, List.mem_flatMap]
end
end Kd
set_option maxHeartbeats 4000000
namespace K18
open PySem PySem.Spec PyProof.Rows L2 Kd
def Ro.at (r : Ro) (z : Str) : D := match r.ns.find? fun p => decide (p.1 = z) with
  | some p => p.2.d
  | none => .tup [.int r.t, .str z]
section
variable {P : Program} {w : World} {K : PySem.W.Frag} {mg : Str → Option Value} {base : Heap}
def snd : D → D
  | .tup [_, b] => b
  | _ => .non
def isRowE : D → Bool
  | .tup [.str s, _] => decide (s = "row")
  | _ => false
theorem rows_filter : ∀ l : List (Int ⊕ Ro), ((l.map eD).filter isRowE).map snd = (l.filterMap Sum.getRight?).map Ro.d
  | [] => rfl
  | .inl n :: l => by
    have ih := rows_filter l
    simp only [List.map_cons, eD, build]
    rw [List.filter_cons_of_neg (by show ¬ decide (("letter" : Str) = "row") = true; decide)]
    rw [ih]
    rfl
  | .inr r :: l => by
    have ih := rows_filter l
    simp only [List.map_cons, eD, isRowE]
    rw [List.filter_cons_of_pos (by rfl)]
    simpa [snd] using ih
theorem rdT_len (f : Nd → Nd) : ∀ t, (rdT f t).length ≤ szT t := by
  intro t
  induction t using Tr.rec (motive_2 := fun ks => (rdTL f ks).length ≤ szTL ks ∧ ∀ k ∈ ks, (rdT f k).length ≤ szT k) with
  | mk a ks ih =>
    rw [rdT]
    split
    · simp [szT]
    · split
      · rename_i x y
        have h1 := ih.2 x (by simp)
        have h2 := ih.2 y (by simp)
        simp [szT, szTL] at *
        omega
      · simp
    · have := ih.1
      simp only [szT]
      omega
  | nil => exact ⟨by simp [rdTL], fun k hk => by simp at hk⟩
  | cons k ks h1 h2 =>
    refine ⟨?_, fun j hj => ?_⟩
    · have := h2.1
      simp [rdTL, szTL]
      omega
    · rcases List.mem_cons.mp hj with rfl | hj
      · exact h1
      · exact h2.2 j hj
abbrev N_rows_in : List Str := ["kind", "word", "row"]
theorem sc_rows_in : FnScope ["kind", "word", "row"] ["kind"] (defScope s_rows_in) := ⟨rfl, rfl, rfl, by decide +kernel, rfl, by decide +kernel, by decide +kernel⟩
theorem ok_rows_in (T : Tx K mg) : Good P w K mg base CX0 "rows_in" 4 ["kind"] (spRel rRows) := by
  obtain ⟨fd, F⟩ := T.f_rows_in
  refine ⟨T.m_rows_in, F.kp, fd, ?_, F.bindsN fun _ _ _ _ _ _ us hl => match us, hl with | [_], _ => rfl⟩
  have G_reading_of := ok_reading_of (P := P) (w := w) (base := base) T
  refine F.ok sc_rows_in (fun vs H Q E h => ?_) (fun cdv A outer s H vs Q E hr h => ?_)
  · obtain ⟨G, ds, d, _, r, ⟨f, t, rfl, _⟩, _⟩ := h
    exact r.len
  · obtain ⟨G, ds, d, s0, r, ⟨f, t, rfl, ht, hz, rfl⟩, k⟩ := h
    obtain ⟨v1, _, rfl, r_kind, rfl⟩ := r
    refine ⟨_, PSs.nox ((pss_one (ps_ret (pe_lc (own := [("word", 1), ("row", 2)]) rfl sc_rows_in.nd (pi_list (pe_g G_reading_of (hr.mono (by decide)) (pa_cons (pv 0) pa_nil))) (blkOk_by (own := [("word", 1), ("row", 2)]) (N := ["kind", "word", "row"]) (sc := defScope s_rows_in) (by decide +kernel)) (fun _ _ _ _ _ => by exact (pgK_tup (K := K) (n := 2) rfl rfl (pgs_cons (pg_name (i := 1) sc_rows_in.nd rfl (Or.inl rfl)) (pgs_cons (pg_name (i := 2) sc_rows_in.nd rfl (Or.inl rfl)) pgs_nil)))) (fun _ _ _ _ _ => by exact (pts_one (pt_cmpR op_eq (pv 1) pe_str (nomark _)))) (fun _ _ _ _ _ => by exact (pv 2)))))), ?_⟩
    have g := gr0 (M := []) s0
    have hl := rdT_len f t
    refine s_ret (Ed.to (ed_lc (items := (rdT f t).map eD) snd isRowE (es_list (ed_rel (eds_cons (ed_var rfl r_kind) eds_nil) ⟨f, t, rfl, ht, hz, rfl⟩)) (by rw [List.length_map]; omega) ?_) (by rw [rows_filter])) g k
    intro d hd G' s
    obtain ⟨x, _, rfl⟩ := List.mem_map.mp hd
    cases x with
    | inl n => exact tk_tup rfl (tkl_cons fun x hx => tkl_cons fun y hy => tkl_nil ⟨rfl, eb_test (ed_op (ed_var rfl hx) ed_str fun _ _ => rd_eq rfl), fun z => nomatch z⟩)
    | inr r => exact tk_tup rfl (tkl_cons fun x hx => tkl_cons fun y hy => tkl_nil ⟨rfl, eb_test (ed_op (ed_var rfl hx) ed_str fun _ _ => rd_eq rfl), fun _ => ed_var rfl hy⟩)
def rFlagAt : List D → D → Prop := fun ds d => ∃ (r : Ro) (z : Str), ds = [r.d, .str z] ∧ d = r.at z
abbrev N_flag_at : List Str := ["row", "word", "other", "flag"]
theorem sc_flag_at : FnScope ["row", "word", "other", "flag"] ["row", "word"] (defScope s_flag_at) := ⟨rfl, rfl, rfl, by decide +kernel, rfl, by decide +kernel, by decide +kernel⟩
theorem ok_flag_at (T : Tx K mg) : Good P w K mg base CX0 "flag_at" 2 ["row", "word"] (spRel rFlagAt) := by
  obtain ⟨fd, F⟩ := T.f_flag_at
  refine ⟨T.m_flag_at, F.kp, fd, ?_, F.bindsN fun _ _ _ _ _ _ us hl => match us, hl with | [_, _], _ => rfl⟩
  refine F.ok sc_flag_at (fun vs H Q E h => ?_) (fun cdv A outer s H vs Q E hr h => ?_)
  · obtain ⟨G, ds, d, _, r, ⟨x, z, rfl, _⟩, _⟩ := h
    exact r.len
  · obtain ⟨G, ds, d, s0, r, ⟨x, z, rfl, rfl⟩, k⟩ := h
    obtain ⟨v1, _, rfl, r_row, v2, _, rfl, r_word, rfl⟩ := r
    refine ⟨_, PSs.nox ((pss_cons (ps_for PassesOwn.never rfl (pi_list (pe_ix ix_tup (pv 0) pe_int (fun _ _ => rfl))) (pg_tup rfl (pgs_cons (pg_name (i := 2) sc_flag_at.nd rfl (Or.inl rfl)) (pgs_cons (pg_name (i := 3) sc_flag_at.nd rfl (Or.inl rfl)) pgs_nil))) (pss_one (ps_if (pt_cmpR op_eq (pv 2) (pv 1) (nomark _)) (pss_one (ps_ret (pv 3))) pss_nil)))
    (pss_one (ps_ret (pe_tup (pa_cons (pe_ix ix_tup (pv 0) pe_int (fun _ _ => rfl)) (pa_cons (pv 1) pa_nil))))))), ?_⟩
    have g := gr0 (M := []) s0
    refine s_seq (s_for (σ := [some v1, some v2, none, none]) (items := x.ns.map nmD) (es_list (ed_op (ed_var rfl r_row) ed_int fun _ _ => rd_ixT at0)) g (fun i σ G' H' => Same G G' ∧ (∃ o1 o2, σ = [some v1, some v2, o1, o2]) ∧ (x.ns.take i).find? (fun p => decide (p.1 = z)) = none) (fun G' H' g' s' k' => ⟨s', ⟨_, _, rfl⟩, rfl⟩) ?_ ?_)
    · rintro Gs i d v σ Gi Hi Gj Hj hd sg sgi ⟨si, ⟨o1, o2, rfl⟩, hn⟩ gj sj kj rv
      rw [List.getElem?_map] at hd
      obtain ⟨p, hp, rfl⟩ := Option.map_eq_some_iff.mp hd
      refine g_two gj.s rv rfl fun vo vf ro rf => ?_
      refine s_if (eb_test (ed_op (ed_var rfl ro) (ed_var rfl (r_word.mono (si.trans sj))) fun _ _ => rd_eq rfl)) gj (fun hb H2 g2 => ?_) fun hb H2 g2 => ?_
      · refine s_ret (ed_var rfl rf) g2 fun v G' H' g r => k v G' H' g ?_
        have e : x.ns.find? (fun p => decide (p.1 = z)) = some p := by
          rw [← List.take_append_drop i x.ns, List.find?_append, hn]
          have : x.ns.drop i = p :: x.ns.drop (i + 1) := by
            rw [List.drop_eq_getElem_cons (List.getElem?_eq_some_iff.mp hp).1]
            rw [(List.getElem?_eq_some_iff.mp hp).2]
          rw [this, List.find?_cons_of_pos (by exact hb)]
          rfl
        unfold Ro.at
        rw [e]
        exact r
      · refine ⟨Gj, g2, sgi.trans sj, si.trans sj, ⟨_, _, rfl⟩, ?_⟩
        rw [take_snoc hp, List.find?_append, hn, List.find?_cons_of_neg (by rw [hb]; simp)]
        rfl
    · rintro σ G' H' g' s' ⟨si, ⟨o1, o2, rfl⟩, hn⟩
      refine s_ret (ed_tup (eds_cons (ed_op (ed_var rfl (r_row.mono s')) ed_int fun _ _ => rd_ixT at1) (eds_cons (ed_var rfl (r_word.mono s')) eds_nil)) (Nat.le_of_ble_eq_true rfl)) g' fun v G' H' g r => k v G' H' g ?_
      rw [List.length_map, List.take_length] at hn
      unfold Ro.at
      rw [hn]
      exact r
def oneNm : D → List Str
  | .tup (.str s :: _) => [s]
  | _ => []
def nmsD : D → List Str
  | .tup [.lst ns, _] => ns.flatMap oneNm
  | _ => []
theorem nmsD_d (r : Ro) : nmsD r.d = r.ns.map (·.1) := by
  show (r.ns.map nmD).flatMap oneNm = _
  rw [List.flatMap_map]
  induction r.ns with
  | nil => rfl
  | cons p l ih => rw [List.flatMap_cons, ih]; rfl
def pWords : List D → Prop := fun ds => ∃ (rs : List Ro) (N : List Str), ds = [.lst (rs.map Ro.d)] ∧ N.length ≤ 9 ∧ ∀ r ∈ rs, ∀ p ∈ r.ns, p.1 ∈ N
def rWords : List D → D → Prop := fun ds d => ∃ (rs : List D) (ys : List Str), ds = [.lst rs] ∧ d = .lst (ys.map .str) ∧ ys.length ≤ 9 ∧ ∀ z : Str, z ∈ ys ↔ ∃ r ∈ rs, z ∈ nmsD r
abbrev N_words_in : List Str := ["rows", "row", "word", "flag"]
theorem sc_words_in : FnScope ["rows", "row", "word", "flag"] ["rows"] (defScope s_words_in) := ⟨rfl, rfl, rfl, by decide +kernel, rfl, by decide +kernel, by decide +kernel⟩
theorem ok_words_in (T : Tx K mg) : Good P w K mg base CX0 "words_in" 2 ["rows"] (spAll pWords rWords) := by
  obtain ⟨fd, F⟩ := T.f_words_in
  refine ⟨T.m_words_in, F.kp, fd, ?_, F.bindsN fun _ _ _ _ _ _ us hl => match us, hl with | [_], _ => rfl⟩
  refine F.ok sc_words_in (fun vs H Q E h => ?_) (fun cdv A outer s H vs Q E hr h => ?_)
  · obtain ⟨G, ds, _, r, ⟨rs, N, rfl, _⟩, _⟩ := h
    exact r.len
  · obtain ⟨G, ds, s0, r, ⟨rs, N, rfl, hN, hr2⟩, k⟩ := h
    obtain ⟨v1, _, rfl, r_rows, rfl⟩ := r
    refine ⟨_, PSs.nox ((pss_one (ps_ret (pe_callB (cr_sortS rfl) (by rfl) T.n_sorted (by decide +kernel) (pa_cons (pe_sc2 (own := [("row", 1), ("word", 2), ("flag", 3)]) (vs1 := [2, 3]) rfl sc_words_in.nd (pi_list (pv 0)) (blkOk_by (own := [("row", 1), ("word", 2), ("flag", 3)]) (N := ["rows", "row", "word", "flag"]) (sc := defScope s_words_in) (by decide +kernel)) (by decide) (fun _ _ _ _ _ => by exact (pg_name (i := 1) sc_words_in.nd rfl (Or.inl rfl))) (fun _ _ _ _ _ => by exact pts_nil) (fun _ _ _ _ _ => by exact (piK_list (K := K) rfl (pe_ix (ixK_tup (K := K) rfl) (pv 1) pe_int (fun _ _ => rfl)))) (fun _ _ _ _ _ => by exact (pgK_tup (K := K) (n := 2) rfl rfl (pgs_cons (pg_name (i := 2) sc_words_in.nd rfl (Or.inl rfl)) (pgs_cons (pg_name (i := 3) sc_words_in.nd rfl (Or.inl rfl)) pgs_nil)))) (fun _ _ _ _ _ => by exact pts_nil) (fun _ _ _ _ _ => by exact (pv 2))) pa_nil))))), ?_⟩
    show tSc2 P w (iList K (tVar 0)) (gName 1) tYes (iList K (tOp (rIxT K) (tVar 1) (tC (V.int 0)))) (gTup K 2 (gCons (gName 2) (gCons (gName 3) gNil))) tYes (tVar 2) [1, 2, 3] [2, 3] [some v1, none, none, none] H fun v H1 => rSortS P w [v] H1 Q
    refine run_sc2 (P := P) (w := w) (σ := [some v1, none, none, none]) (items := rs.map Ro.d) (names := nmsD) (N := N) (es_list (ed_var (i := 0) rfl r_rows)) (by omega) ?_ s0 ?_
    · intro d hd G' s
      obtain ⟨r, hr, rfl⟩ := List.mem_map.mp hd
      refine tk_name fun u hu => ⟨rfl, r.ns.map nmD, fun d => (oneNm d).headD "", es_list (ed_op (ed_var rfl hu) ed_int fun _ _ => rd_ixT at0), ?_, ?_⟩
      · rw [nmsD_d, List.map_map]
        rfl
      · intro d1 hd1
        obtain ⟨p, hp, rfl⟩ := List.mem_map.mp hd1
        exact ⟨hr2 r hr p hp, fun G3 s3 => tk_tup rfl (tkl_cons fun x hx => tkl_cons fun y hy => tkl_nil ⟨rfl, ed_var rfl hx⟩)⟩
    · intro a l G' H' g ha hl hm
      refine ⟨a, l, rfl, ha, Nat.lt_of_le_of_lt (Nat.le_trans hl hN) (by decide), fun ys p hy hlen hp => ?_⟩
      refine k (.lst (ys.map .str)) _ _ _ ⟨_, ys, rfl, rfl, by rw [hlen]; exact Nat.le_trans hl hN, fun z => by rw [hy, hm]⟩ (g.new hp) ⟨p, _, rfl, upd_same, RpL.strs ys⟩
end
end K18
set_option maxHeartbeats 4000000
namespace K18
open PySem PySem.Spec PyProof.Rows L2 Kd
theorem at_cases (r : Ro) (z : Str) : r.at z = .str "pre" ∨ (∃ n, r.at z = .tup [.str "flag", .int n]) ∨ r.at z = .tup [.int r.t, .str z] := by
  unfold Ro.at
  cases e : r.ns.find? (fun p => decide (p.1 = z)) with
  | none => exact .inr (.inr rfl)
  | some p =>
    cases q : p.2 with
    | pre => left; simp [q, Fl.d]
    | num n => right; left; exact ⟨n, by simp [q, Fl.d]⟩
def keyD : D → List L2.Key
  | .tup [.str s, .int n] => [.inr s, .inl n]
  | .tup [.int t, .str z] => [.inl t, .inr z]
  | _ => []
theorem key_at {G : Hp} {r : Ro} {z : Str} {v : V} (h : Rp G (r.at z) v) (n : r.at z ≠ .str "pre") : ∃ b, v = .ref b ∧ G b = some (.tup ((keyD (r.at z)).map kV)) := by
  rcases at_cases r z with e | ⟨m, e⟩ | e
  · exact absurd e n
  · rw [e] at h ⊢
    obtain ⟨a, vs, rfl, ha, x, _, rfl, hx, y, _, rfl, hy, rfl⟩ := h
    cases hx
    cases hy
    exact ⟨a, rfl, ha⟩
  · rw [e] at h ⊢
    obtain ⟨a, vs, rfl, ha, x, _, rfl, hx, y, _, rfl, hy, rfl⟩ := h
    cases hx
    cases hy
    exact ⟨a, rfl, ha⟩
theorem at_shape (r : Ro) {z : Str} (hz : PyData.strOk z = true) : noDct (r.at z) = true ∧ SeqAt.shaped (toPy (r.at z)) = true ∧ isDct (r.at z) = false := by
  rcases at_cases r z with e | ⟨m, e⟩ | e
  · rw [e]; exact ⟨rfl, by decide +kernel, rfl⟩
  · rw [e]
    refine ⟨rfl, ?_, rfl⟩
    simp [SeqAt.shaped, toPy, toPyL, PyData.canLay0, PyData.canLayAll0, PyData.depth, PyData.depthAll]
    decide +kernel
  · rw [e]
    refine ⟨rfl, ?_, rfl⟩
    simp [SeqAt.shaped, toPy, toPyL, PyData.canLay0, PyData.canLayAll0, PyData.depth, PyData.depthAll, hz]
def isPre (d : D) : Bool := eqS d "pre"
theorem isPre_iff {r : Ro} {z : Str} : isPre (r.at z) = true ↔ r.at z = .str "pre" := by
  rcases at_cases r z with e | ⟨m, e⟩ | e <;> rw [e] <;> simp [isPre, eqS]
/-- a row and another one's fit at a word -/
def fitF (F : List L2.Key → D) (r1 r2 : Ro) (z : Str) : Prop := if isPre (r1.at z) = true then isPre (r2.at z) = true else F (keyD (r1.at z)) = r2.at z
abbrev PF := List L2.Key → Option D
def ext (fl : PF) (F : List L2.Key → D) : Prop := ∀ k d, fl k = some d → F k = d
/-- the dict shows what is told so far -/
structure DicT (G : Hp) (fl : PF) (kvs : List (List L2.Key × V)) : Prop where
  no : ∀ k, valV kvs k = none → fl k = none
  so : ∀ k v, valV kvs k = some v → ∃ d, fl k = some d ∧ Rp G d v ∧ Lay 4 d
theorem DicT.mono {G G' : Hp} {fl : PF} {kvs : List (List L2.Key × V)} (s : Same G G') (h : DicT G fl kvs) : DicT G' fl kvs := ⟨h.no, fun k v e => by
  obtain ⟨d, h1, h2, h3⟩ := h.so k v e
  exact ⟨d, h1, h2.mono s, h3⟩⟩
theorem lay_at (r : Ro) {z : Str} (hz : PyData.strOk z = true) : Lay 4 (r.at z) := by
  have two : ∀ x y : D, Lay 3 x → Lay 3 y → Lay 4 (.tup [x, y]) := fun x y hx hy => Lay.tup (n := 3) fun d hd => by
    simp only [List.mem_cons, List.not_mem_nil, or_false] at hd
    rcases hd with rfl | rfl
    · exact hx
    · exact hy
  rcases at_cases r z with e | ⟨m, e⟩ | e
  · rw [e]; exact .str (by decide +kernel)
  · rw [e]; exact two _ _ (.str (by decide +kernel)) .int
  · rw [e]; exact two _ _ .int (.str hz)
theorem lay_shaped {d : D} (h : Lay 4 d) : SeqAt.shaped (toPy d) = true := by
  unfold SeqAt.shaped
  rw [h.l, decide_eq_true (Nat.le_trans h.d (by decide))]
  rfl
def FitsR (fl fl' : PF) (r1 r2 : Ro) (ws : List Str) (b : Bool) : Prop := (b = true → ∀ F, ext fl' F ↔ (ext fl F ∧ ∀ z ∈ ws, fitF F r1 r2 z)) ∧ (b = false → ∀ F, ext fl F → ¬ ∀ z ∈ ws, fitF F r1 r2 z)
def spFits : Sp := fun vs H Q _ => ∃ (G : Hp) (r1 r2 : Ro) (ws : List Str) (fl : PF) (kvs : List (List L2.Key × V)) (v1 v2 v3 : V) (fa : Addr), vs = [v1, v2, v3, .ref fa] ∧ Same G H ∧ Rp G r1.d v1 ∧ Rp G r2.d v2 ∧ Rp G (.lst (ws.map .str)) v3 ∧ G fa = none ∧ H fa = some (.dT kvs) ∧ DicT G fl kvs ∧ kvs.length + ws.length ≤ 10000000 ∧
  (∀ z ∈ ws, PyData.strOk z = true) ∧ ∀ b G' H' fl' kvs', Gr [fa] G H G' H' → G' fa = none → H' fa = some (.dT kvs') → DicT G' fl' kvs' → kvs'.length ≤ kvs.length + ws.length → FitsR fl fl' r1 r2 ws b → Q (.bl b) H'
section
variable {P : Program} {w : World} {K : PySem.W.Frag} {mg : Str → Option Value} {base : Heap}
abbrev N_fits_row : List Str := ["row", "other", "words", "flags", "word", "mine", "theirs"]
theorem sc_fits_row : FnScope ["row", "other", "words", "flags", "word", "mine", "theirs"] ["row", "other", "words", "flags"] (defScope s_fits_row) := ⟨rfl, rfl, rfl, by decide +kernel, rfl, by decide +kernel, by decide +kernel⟩
theorem ok_fits_row (T : Tx K mg) : Good P w K mg base CX0 "fits_row" 3 ["row", "other", "words", "flags"] spFits := by
  obtain ⟨fd, F⟩ := T.f_fits_row
  refine ⟨T.m_fits_row, F.kp, fd, ?_, F.bindsN fun _ _ _ _ _ _ us hl => match us, hl with | [_, _, _, _], _ => rfl⟩
  have G_flag_at := ok_flag_at (P := P) (w := w) (base := base) T
  refine F.ok sc_fits_row (fun vs H Q E h => ?_) (fun cdv A outer s H vs Q E hr h => ?_)
  · obtain ⟨G, r1, r2, ws, fl, kvs, v1, v2, v3, fa, rfl, _⟩ := h
    rfl
  · obtain ⟨G, r1, r2, ws, fl0, kvs, v1, v2, v3, fa, rfl, s0, r_row, r_other, r_words, gfa, hfa, hc, hlen, hz, k⟩ := h
    refine ⟨_, PSs.nox ((pss_cons (ps_for PassesOwn.never rfl (pi_list (pv 2)) (pg_name (i := 4) sc_fits_row.nd rfl (Or.inl rfl)) (pss_cons (ps_par (i := 5) (j := 6) (by rfl) sc_fits_row.nd rfl rfl (by decide) rfl rfl (pa_cons (pe_g G_flag_at (hr.mono (by decide)) (pa_cons (pv 0) (pa_cons (pv 4) pa_nil))) (pa_cons (pe_g G_flag_at (hr.mono (by decide)) (pa_cons (pv 1) (pa_cons (pv 4) pa_nil))) pa_nil)) (by rfl))
    (pss_one (ps_if (pt_cmpR (op_eqS hr.units) (pv 5) pe_str (nomark _)) (pss_one (ps_if (pt_cmpR (op_neS hr.units) (pv 6) pe_str (nomark _)) (pss_one (ps_ret pe_bl)) pss_nil)) (pss_one (ps_if (pt_cmpR (op_neD hr.units) (pe_bm PySem.F.plainAttrs_dict PySem.F.slot_dict_setdefault PySem.F.type_dict_setdefault (mt_setdT hr.units) (pv 3) (pa_cons (pv 5) (pa_cons (pv 6) pa_nil))) (pv 6) (nomark _)) (pss_one (ps_ret pe_bl)) pss_nil))))))
    (pss_one (ps_ret pe_bl)))), ?_⟩
    have g := gr0 (M := [fa]) s0
    refine s_seq (s_for (σ := [some v1, some v2, some v3, some (.ref fa), none, none, none]) (items := ws.map .str) (es_list (ed_var rfl r_words)) g (fun i σ G' H' => Same G G' ∧ (∃ o1 o2 o3, σ = [some v1, some v2, some v3, some (.ref fa), o1, o2, o3]) ∧ ∃ fl kvs', G' fa = none ∧ H' fa = some (.dT kvs') ∧ DicT G' fl kvs' ∧ kvs'.length ≤ kvs.length + i ∧ ∀ F, ext fl F ↔ (ext fl0 F ∧ ∀ z ∈ ws.take i, fitF F r1 r2 z)) (fun G' H' g' s' k' => ⟨s', ⟨_, _, _, rfl⟩, fl0, kvs, (k' fa _ hfa).2 gfa, (k' fa _ hfa).1, hc.mono s', Nat.le_refl _, fun F => ⟨fun h => ⟨h, fun z hz => by simp at hz⟩, fun h => h.1⟩⟩) ?_ ?_)
    · rintro Gs i d v σ Gi Hi Gj Hj hd sg sgi ⟨si, ⟨o1, o2, o3, rfl⟩, fl, kv, gf, hf, cf, lf, hE⟩ gj sj kj rv
      rw [List.getElem?_map] at hd
      obtain ⟨z, hz1, rfl⟩ := Option.map_eq_some_iff.mp hd
      have hil : i < ws.length := (List.getElem?_eq_some_iff.mp hz1).1
      have hzm := List.mem_of_getElem? hz1
      have hok := hz z hzm
      obtain ⟨sh1, sh2, sh3⟩ := at_shape r1 hok
      obtain ⟨th1, th2, th3⟩ := at_shape r2 hok
      have lt := lay_at r2 hok
      have gf := (kj fa _ hf).2 gf
      have hf := (kj fa _ hf).1
      have cf := cf.mono sj
      have hS := si.trans sj
      refine s_par' (d := r1.at z) (e := r2.at z) (eds_cons (ed_rel (eds_cons (ed_var rfl (r_row.mono hS)) (eds_cons (ed_var rfl rv) eds_nil)) ⟨r1, z, rfl, rfl⟩) (eds_cons (ed_rel (eds_cons (ed_var rfl (r_other.mono hS)) (eds_cons (ed_var rfl rv) eds_nil)) ⟨r2, z, rfl, rfl⟩) eds_nil)) gj fun vm vt G2 H2 g2 s2 k2 r_mine r_theirs => ?_
      have gf := (k2 fa _ hf).2 gf
      have hf := (k2 fa _ hf).1
      have cf := cf.mono s2
      -- one word more is done
      have done : ∀ fl3 G3 H3 kv3, (∀ F, ext fl3 F ↔ (ext fl F ∧ fitF F r1 r2 z)) → Gr [fa] G H G3 H3 → Same G2 G3 → G3 fa = none → H3 fa = some (.dT kv3) → DicT G3 fl3 kv3 → kv3.length ≤ kv.length + 1 →
          (∃ G', Gr [fa] G H G' H3 ∧ Same Gs G' ∧ Same G G' ∧ (∃ o1 o2 o3, [some v1, some v2, some v3, some (.ref fa), some v, some vm, some vt] = [some v1, some v2, some v3, some (.ref fa), o1, o2, o3]) ∧ ∃ fl kvs', G' fa = none ∧ H3 fa = some (.dT kvs') ∧ DicT G' fl kvs' ∧ kvs'.length ≤ kvs.length + (i + 1) ∧ ∀ F, ext fl F ↔ (ext fl0 F ∧ ∀ z ∈ ws.take (i + 1), fitF F r1 r2 z)) := by
        intro fl3 G3 H3 kv3 hb g3 s3 gf3 hf3 cf3 lf3
        refine ⟨G3, g3, (sgi.trans sj).trans (s2.trans s3), (hS.trans s2).trans s3, ⟨_, _, _, rfl⟩, fl3, kv3, gf3, hf3, cf3, by omega, fun F => ?_⟩
        rw [hb, hE, take_snoc hz1]
        constructor
        · rintro ⟨⟨a1, a2⟩, a3⟩
          refine ⟨a1, fun y hy => ?_⟩
          rcases List.mem_append.mp hy with hy | hy
          · exact a2 y hy
          · rw [List.mem_singleton.mp hy]
            exact a3
        · rintro ⟨a1, a2⟩
          exact ⟨⟨a1, fun y hy => a2 y (List.mem_append_left _ hy)⟩, a2 z (by simp)⟩
      -- it doesn't fit
      have stop : (∀ F, ext fl F → ¬ fitF F r1 r2 z) → FitsR fl0 fl r1 r2 ws false := fun hb => ⟨fun e => (nomatch e), fun _ F hF hall => hb F ((hE F).mpr ⟨hF, fun y hy => hall y (List.mem_of_mem_take hy)⟩) (hall z hzm)⟩
      refine s_if' (((eb_test (ed_op (ed_var rfl r_mine) ed_str fun _ _ => rd_eqS ?_)) : Eb _ _ _ _).to (c := isPre (r1.at z)) ?_) g2 (fun hb H3 g3 k3 => ?_) fun hb H3 g3 k3 => ?_
      · exact sh3
      · simp [isPre]
      · refine s_if' (((eb_test (ed_op (ed_var rfl r_theirs) ed_str fun _ _ => rd_eqS ?_)) : Eb _ _ _ _).to (c := !isPre (r2.at z)) ?_) g3 (fun hb2 H4 g4 k4 => ?_) fun hb2 H4 g4 k4 => ?_
        · exact th3
        · simp [isPre]
        · have hf := (k3 fa _ hf).1
          have hf := (k4 fa _ hf).1
          refine s_ret' ed_bl g4 fun v' G5 H5 g5 s5 k5 r5 => ?_
          cases (show v' = .bl false from r5)
          refine k false G5 H5 fl kv g5 ((k5 fa _ hf).2 gf) (k5 fa _ hf).1 (cf.mono s5) (by omega) (stop fun F _ hfit => ?_)
          unfold fitF at hfit
          rw [if_pos hb] at hfit
          rw [hfit] at hb2
          cases hb2
        · have hf := (k3 fa _ hf).1
          have hf := (k4 fa _ hf).1
          refine done fl _ _ kv (fun F => ⟨fun h => ⟨h, ?_⟩, fun h => h.1⟩) g4 (Same.refl _) gf hf cf (by omega)
          unfold fitF
          rw [if_pos hb]
          simpa using hb2
      · have hf := (k3 fa _ hf).1
        have hnp : r1.at z ≠ .str "pre" := fun e => by rw [isPre_iff.mpr e] at hb; cases hb
        have fit_eq : ∀ F, fitF F r1 r2 z ↔ F (keyD (r1.at z)) = r2.at z := fun F => by
          unfold fitF
          rw [if_neg (by rw [hb]; simp)]
        obtain ⟨b, rfl, hbk⟩ := key_at r_mine hnp
        refine ⟨_, rfl, .inr (.inr (.inl ⟨rfl, .inr ⟨kv, hf⟩⟩)), _, rfl, _, rfl, fa, kv, _, b, vt, rfl, rfl, hf, g3.s b _ hbk, Nat.lt_of_le_of_lt (show kv.length ≤ 10000000 by omega) (by decide +kernel), fun u hu => ?_, fun hu => ?_⟩
        · obtain ⟨du, h1, h2, h3⟩ := cf.so _ _ hu
          refine ⟨vt, rfl, rd_neD (noBl_dct h3.b) th1 (lay_shaped h3) th2 u vt H3 g3.s h2 r_theirs _ fun v6 G6 H6 g6 r6 => ?_⟩
          have heq := eqv_iff h3.b lt.b
          obtain ⟨c, hcq⟩ : ∃ c, c = PyData.eqv (toPy du) (toPy (r2.at z)) := ⟨_, rfl⟩
          rw [← hcq] at heq r6
          cases (show v6 = .bl (!c) from r6)
          have gf6 := g6.n fa gf (some_ne hf)
          have hf6 := g6.e fa _ hf
          have g7 := g3.call g6
          cases hc : c with
          | true =>
            rw [hc] at heq
            have hd := heq.mp rfl
            refine ⟨false, rfl, ?_⟩
            refine done fl G6 H6 kv (fun F => ⟨fun h => ⟨h, ?_⟩, fun h => h.1⟩) g7 g6.g gf6 hf6 (cf.mono g6.g) (by omega)
            rw [fit_eq, h _ _ h1]
            exact hd
          | false =>
            rw [hc] at heq
            refine ⟨true, rfl, ?_⟩
            refine s_ret' ed_bl g7 fun v' G8 H8 g8 s8 k8 r8 => ?_
            cases (show v' = .bl false from r8)
            refine k false G8 H8 fl kv g8 ((k8 fa _ hf6).2 gf6) (k8 fa _ hf6).1 ((cf.mono g6.g).mono s8) (by omega) (stop fun F hF hfit => ?_)
            rw [fit_eq, hF _ _ h1] at hfit
            exact nomatch heq.mpr hfit
        · have g5 := g3.put (o := .dT (putK kv (keyD (r1.at z)) vt)) (l := fa) (by simp) gf
          have cf5 : DicT G2 (fun q => if q = keyD (r1.at z) then some (r2.at z) else fl q) (putK kv (keyD (r1.at z)) vt) := by
            refine ⟨fun q hq => ?_, fun q y hq => ?_⟩
            · rw [valV_put] at hq
              by_cases e : q = keyD (r1.at z)
              · rw [if_pos e] at hq; cases hq
              · rw [if_neg e] at hq ⊢
                exact cf.no q hq
            · rw [valV_put] at hq
              by_cases e : q = keyD (r1.at z)
              · rw [if_pos e] at hq
                cases Option.some.inj hq
                exact ⟨r2.at z, if_pos e, r_theirs, lt⟩
              · rw [if_neg e] at hq
                obtain ⟨d, h1, h2, h3⟩ := cf.so q y hq
                exact ⟨d, by rw [if_neg e]; exact h1, h2, h3⟩
          have hno := cf.no _ hu
          have l5 := length_putK kv (keyD (r1.at z)) vt
          refine ⟨vt, rfl, rd_neSame th1 th2 vt vt _ g5.s r_theirs r_theirs _ fun v6 G6 H6 g6 r6 => ?_⟩
          cases (show v6 = .bl false from r6)
          refine ⟨false, rfl, ?_⟩
          refine done _ G6 H6 _ (fun F => ?_) (g5.call g6) g6.g (g6.n fa gf (by rw [upd_same]; exact fun z => nomatch z)) (g6.e fa _ upd_same) (cf5.mono g6.g) l5
          rw [fit_eq]
          constructor
          · intro h
            refine ⟨fun q d hq => h q d ?_, h _ _ (if_pos rfl)⟩
            by_cases e : q = keyD (r1.at z)
            · rw [e, hno] at hq; cases hq
            · exact (if_neg e).trans hq
          · rintro ⟨h1, h2⟩ q d hq
            have hq : (if q = keyD (r1.at z) then some (r2.at z) else fl q) = some d := hq
            by_cases e : q = keyD (r1.at z)
            · rw [if_pos e] at hq
              rw [e, h2]
              exact Option.some.inj hq
            · rw [if_neg e] at hq
              exact h1 q d hq
    · rintro σ G' H' g' s' ⟨si, ⟨o1, o2, o3, rfl⟩, fl, kv, gf, hf, cf, lf, hE⟩
      rw [List.length_map] at hE lf
      rw [List.take_length] at hE
      dsimp only
      refine s_ret' ed_bl g' fun v' G5 H5 g5 s5 k5 r5 => ?_
      cases (show v' = .bl true from r5)
      exact k true G5 H5 fl kv g5 ((k5 fa _ hf).2 gf) (k5 fa _ hf).1 (cf.mono s5) lf ⟨fun _ => hE, fun e => (nomatch e)⟩
end
end K18
set_option maxHeartbeats 4000000
/-! What an instance is. -/
namespace K18
open PySem PySem.Spec PyProof.Rows L2 Kd
mutual
def lbl : Tr → List Nd
  | .mk a ks => a :: lblL ks
def lblL : List Tr → List Nd
  | [] => []
  | k :: ks => lbl k ++ lblL ks
end
theorem mem_lblL {a : Nd} : ∀ {ks : List Tr}, a ∈ lblL ks ↔ ∃ k ∈ ks, a ∈ lbl k
  | [] => by simp [lblL]
  | k :: ks => by simp [lblL, mem_lblL (ks := ks)]
theorem lbl_ok {f : Nd → Nd} : ∀ {t : Tr}, okT f t → ∀ a ∈ lbl t, okNd (f a) := by
  intro t
  induction t using Tr.rec (motive_2 := fun ks => (∀ k ∈ ks, okT f k) → ∀ a ∈ lblL ks, okNd (f a)) with
  | mk a ks ih =>
    rintro ⟨h1, h2, h3⟩ b hb
    rw [lbl] at hb
    rcases List.mem_cons.mp hb with rfl | hb
    · exact h1
    · exact ih h3 b hb
  | nil => rename_i h a ha; simp [lblL] at ha
  | cons k ks h1 h2 =>
    rename_i hk a ha
    rw [lblL] at ha
    rcases List.mem_append.mp ha with ha | ha
    · exact h1 (hk k (by simp)) a ha
    · exact h2 (fun j hj => hk j (by simp [hj])) a ha
theorem szT_cnt : ∀ t : Tr, szT t = 2 * cntT t := by
  intro t
  induction t using Tr.rec (motive_2 := fun ks => szTL ks = 2 * cntL ks) with
  | mk a ks ih => simp only [szT, cntT]; omega
  | nil => rfl
  | cons k ks h1 h2 => simp only [szTL, cntL]; omega
def rowsT (t : Tr) : List Ro := (rdT id t).filterMap Sum.getRight?
/-- the words that are looked at -/
def wordsOf (s t : Tr) (z : Str) : Prop := z = "" ∨ ∃ r, (r ∈ rowsT s ∨ r ∈ rowsT t) ∧ z ∈ r.ns.map (·.1)
def headF (W : Str → Prop) (F : List L2.Key → D) : Nd → Nd → Prop
  | .plain w, .plain w' => w = w'
  | .pair, .pair => True
  | .data s _, .data s' _ => s = s'
  | .func r, .func r' => ∀ z, W z → fitF F r r' z
  | _, _ => False
mutual
def MatT (W : Str → Prop) (L : Int → Tr) (F : List L2.Key → D) : Tr → Tr → Prop
  | .mk (.letter n) _, t => L n = t
  | .mk (.plain w) ks, .mk b js => headF W F (.plain w) b ∧ MatL W L F ks js
  | .mk .pair ks, .mk b js => headF W F .pair b ∧ MatL W L F ks js
  | .mk (.data s m) ks, .mk b js => headF W F (.data s m) b ∧ MatL W L F ks js
  | .mk (.func r) ks, .mk b js => headF W F (.func r) b ∧ MatL W L F ks js
def MatL (W : Str → Prop) (L : Int → Tr) (F : List L2.Key → D) : List Tr → List Tr → Prop
  | [], [] => True
  | k :: ks, j :: js => MatT W L F k j ∧ MatL W L F ks js
  | _, _ => False
end
def isLet : Nd → Bool
  | .letter _ => true
  | _ => false
theorem mat_node {W : Str → Prop} {L : Int → Tr} {F : List L2.Key → D} {a b : Nd} {ks js : List Tr} (h : isLet a = false) : MatT W L F (.mk a ks) (.mk b js) ↔ (headF W F a b ∧ MatL W L F ks js) := by
  cases a with
  | letter n => cases h
  | plain w => rw [MatT]
  | pair => rw [MatT]
  | data s m => rw [MatT]
  | func r => rw [MatT]
theorem matL_zip {W : Str → Prop} {L : Int → Tr} {F : List L2.Key → D} : ∀ {ks js : List Tr}, MatL W L F ks js ↔ (ks.length = js.length ∧ ∀ p ∈ ks.zip js, MatT W L F p.1 p.2)
  | [], [] => by simp [MatL]
  | [], j :: js => by simp [MatL]
  | k :: ks, [] => by simp [MatL]
  | k :: ks, j :: js => by
    rw [MatL, matL_zip (ks := ks) (js := js)]
    simp only [List.length_cons, Nat.succ.injEq, List.zip_cons_cons, List.mem_cons, forall_eq_or_imp]
    exact ⟨fun ⟨h1, h2, h3⟩ => ⟨h2, h1, h3⟩, fun ⟨h1, h2, h3⟩ => ⟨h2, h1, h3⟩⟩
abbrev PL := Int → Option Tr
def extL (l : PL) (L : Int → Tr) : Prop := ∀ n t, l n = some t → L n = t
structure DicL (G : Hp) (l : PL) (kvs : List (L2.Key × V)) : Prop where
  no : ∀ n : Int, valV kvs (.inl n) = none → l n = none
  so : ∀ (n : Int) v, valV kvs (.inl n) = some v → ∃ t, l n = some t ∧ Rp G (tD id t) v ∧ okT id t ∧ cntT t ≤ 500000
theorem DicL.mono {G G' : Hp} {l : PL} {kvs : List (L2.Key × V)} (s : Same G G') (h : DicL G l kvs) : DicL G' l kvs := ⟨h.no, fun n v e => by
  obtain ⟨t, h1, h2, h3⟩ := h.so n v e
  exact ⟨t, h1, h2.mono s, h3⟩⟩
/-- what is still to be met -/
def Rem (W : Str → Prop) (l : PL) (fl : PF) (ts : List (Tr × Tr)) (L : Int → Tr) (F : List L2.Key → D) : Prop := extL l L ∧ ext fl F ∧ ∀ p ∈ ts, MatT W L F p.1 p.2
def prT (p : Tr × Tr) : D := .tup [tD id p.1, tD id p.2]
def szP (ts : List (Tr × Tr)) : Nat := (ts.map fun p => cntT p.1).sum
theorem szP_app (a b : List (Tr × Tr)) : szP (a ++ b) = szP a + szP b := by simp [szP]
theorem szP_zip : ∀ (ks js : List Tr), szP (ks.zip js) ≤ cntL ks
  | [], js => by simp [szP]
  | k :: ks, [] => by simp [szP]
  | k :: ks, j :: js => by
    have := szP_zip ks js
    simp only [szP, List.zip_cons_cons, List.map_cons, List.sum_cons, cntL] at this ⊢
    omega
theorem szP_len : ∀ ts : List (Tr × Tr), ts.length ≤ szP ts
  | [] => Nat.le_refl _
  | p :: ts => by
    have h1 := szP_len ts
    have h2 := cnt_pos p.1
    simp only [szP, List.map_cons, List.sum_cons, List.length_cons] at *
    omega
theorem zip_prT : ∀ ks js : List Tr, List.zipWith (fun x y => D.tup [x, y]) (ks.map (tD id)) (js.map (tD id)) = (ks.zip js).map prT
  | [], js => by simp
  | k :: ks, [] => by simp
  | k :: ks, j :: js => by
    have := zip_prT ks js
    simp only [List.map_cons, List.zipWith_cons_cons, List.zip_cons_cons, this]
    rfl
end K18
set_option maxHeartbeats 4000000
/-! More of the same: outcomes left open, list(zip), things of one's own other than lists. -/
namespace Kd
open PySem PySem.Spec PyProof.Rows L2
section
variable {K : PySem.W.Frag} {σ : L2.St} {G G1 : Hp} {te ta tb tc : TE} {t u : TT} {d e z : D} {b c : Bool} {v : V} {l m : Addr} {ds es : List D} {r : R2}
variable {M : List Addr} {G0 H0 H G' H' : Hp} {Dn : Ends} {tu tw : TS}
theorem rpl_of : ∀ {ds : List D} {vs : List V}, vs.length = ds.length → (∀ (j : Nat) (v : V), vs[j]? = some v → ∃ d, ds[j]? = some d ∧ Rp G d v) → RpL G ds vs
  | [], [], _, _ => rfl
  | [], _ :: _, h, _ => by simp at h
  | _ :: _, [], h, _ => by simp at h
  | d :: ds, v :: vs, h, k => by
    obtain ⟨e, h1, h2⟩ := k 0 v rfl
    have h1 : d = e := by simpa using h1
    subst h1
    exact ⟨v, vs, rfl, h2, rpl_of (by simpa using h) fun j u hj => by simpa using k (j + 1) u (by simpa using hj)⟩
theorem ed_listZip (h : Ed ta σ G (.lst ds)) (h2 : Ed tb σ G (.lst es)) : Ed (tListZip K (tCons ta (tCons tb tNil))) σ G (.lst (List.zipWith (fun x y => D.tup [x, y]) ds es)) := fun H s Q q =>
  (eds_cons h (eds_cons h2 eds_nil)) H s _ fun vs G1 H1 g1 r1 => by
    obtain ⟨x, r2, rfl, k1, y, r3, rfl, k2, k3⟩ := r1
    cases k3
    obtain ⟨a, xs, rfl, ha, hr⟩ := k1
    obtain ⟨b, ys, rfl, hb, hr'⟩ := k2
    refine ⟨a, b, xs, ys, rfl, SqL.of (g1.s a _ ha), SqL.of (g1.s b _ hb), fun ts l H2 up hlen hn hp nl hl => ?_⟩
    let Gx : Hp := fun c => if c = l then H2 l else if c ∈ ts then H2 c else G1 c
    have gx : ∀ c o, G1 c = some o → Gx c = some o := fun c o e => by
      have n1 : c ≠ l := ne_of_none (g1.s c o e) nl
      have n2 : c ∉ ts := fun z => by
        have := hn c z
        rw [g1.s c o e] at this
        cases this
      show (if c = l then H2 l else if c ∈ ts then H2 c else G1 c) = some o
      rw [if_neg n1, if_neg n2]
      exact e
    have gl : Gx l = some (.lst (ts.map V.ref)) := by
      show (if l = l then H2 l else _) = _
      rw [if_pos rfl]
      exact hl
    have gt : ∀ t ∈ ts, Gx t = H2 t := fun t ht => by
      show (if t = l then H2 l else if t ∈ ts then H2 t else G1 t) = H2 t
      by_cases e : t = l
      · rw [if_pos e, e]
      · rw [if_neg e, if_pos ht]
    refine q (.ref l) Gx H2 (g1.trans ⟨fun c o _ e => up c o e, fun c z => by simp at z, gx, fun c o e => ?_, fun c e1 e2 => ?_⟩) ⟨l, _, rfl, gl, ?_⟩
    · have e : (if c = l then H2 l else if c ∈ ts then H2 c else G1 c) = some o := e
      by_cases n1 : c = l
      · rw [if_pos n1] at e
        rw [n1]
        exact e
      · rw [if_neg n1] at e
        by_cases n2 : c ∈ ts
        · rw [if_pos n2] at e
          exact e
        · rw [if_neg n2] at e
          exact up c o (g1.s c o e)
    · have n1 : c ≠ l := fun z => e2 (by rw [z]; exact nl)
      have n2 : c ∉ ts := fun z => e2 (hn c z)
      show (if c = l then H2 l else if c ∈ ts then H2 c else G1 c) = none
      rw [if_neg n1, if_neg n2]
      exact e1
    · refine rpl_of (by rw [List.length_map, hlen, List.length_zipWith, hr.len, hr'.len]) fun j v hj => ?_
      rw [List.getElem?_map] at hj
      obtain ⟨t, ht, rfl⟩ := Option.map_eq_some_iff.mp hj
      obtain ⟨x, y, e1, e2, e3⟩ := hp j t ht
      obtain ⟨d1, f1, f2⟩ := hr.back e1
      obtain ⟨d2, f3, f4⟩ := hr'.back e2
      refine ⟨.tup [d1, d2], by rw [List.getElem?_zipWith, f1, f3], ?_⟩
      exact Rp.tup ((gt t (List.mem_of_getElem? ht)).trans e3) (.cons (f2.mono gx) (.one (f4.mono gx)))
/-- any outcome of P -/
def EdX (te : TE) (σ : L2.St) (G : Hp) (P : D → Prop) : Prop := ∀ H, Same G H → ∀ Q : VK, (∀ d v G' H', P d → Gp G H G' H' → Rp G' d v → Q v H') → te σ H Q
theorem Ed.x (h : Ed te σ G d) : EdX te σ G (fun e => e = d) := fun H s Q q => h H s Q fun v G' H' g r => q d v G' H' rfl g r
theorem edx_all {pre : List D → Prop} {R : List D → D → Prop} {tA : TA} {E : XK} (h : Eds tA σ G ds) (hp : pre ds) : EdX (tCall (spAll pre R) [] E tA) σ G (R ds) := fun H s Q q =>
  h H s _ fun vs G1 H1 g1 r1 => ⟨G1, ds, g1.s, by rw [List.append_nil]; exact r1, hp, fun d v G2 H2 hd g2 r2 => q d v G2 H2 hd (g1.trans g2) r2⟩
theorem edx_op {P P' : D → Prop} (ha : EdX ta σ G P) (hb : Ed tb σ G e) (hr : ∀ d, P d → ∃ z, P' z ∧ ∀ G1, Same G G1 → Rd2 r G1 d e z) : EdX (tOp r ta tb) σ G P' := fun H s Q q =>
  ha H s _ fun d x G1 H1 hd g1 r1 => hb.mono g1.g H1 g1.s _ fun y G2 H2 g2 r2 => by
    obtain ⟨z, hz, rr⟩ := hr d hd
    exact rr G2 (g1.g.trans g2.g) x y H2 g2.s (r1.mono g2.g) r2 Q fun v G3 H3 g3 r3 => q z v G3 H3 hz ((g1.trans g2).trans g3) r3
theorem s_setX {i : Nat} {P : D → Prop} (h : EdX te σ G P) (g : Gr M G0 H0 G H) (k : ∀ d v G' H', P d → Gr M G0 H0 G' H' → Same G G' → Kp G H G' H' → Rp G' d v → Dn.nx (σ.set i (some v)) H') : tAsg te (gName i) Dn σ H := h H g.s _ fun d v G' H' hd g1 r => k d v G' H' hd (g.call g1) g1.g g1.kp r
/-- a callee that may change one thing of our own -/
theorem Gr.callOwn (a : Gr M G0 H0 G H) (b : Gr [l] G H G' H') (h0 : H0 l = none) : Gr M G0 H0 G' H' :=
  ⟨fun x o m h => b.h x o (by simpa using ne_of_none h h0) (a.h x o m h), fun x m h => b.there (a.t x m h), a.g.trans b.g, b.s, fun x h1 h2 => b.n x (a.n x h1 h2) (a.there h2)⟩
theorem Own.callOwn (o : Own H0 G H m ds) (b : Gr [l] G H G' H') (n : m ≠ l) : Own H0 G' H' m ds := by
  obtain ⟨vs, e, r⟩ := o.e
  exact ⟨o.h0, b.n m o.g (some_ne e), vs, b.h m _ (by simpa using n) e, r.mono b.g⟩
structure OwnO (H0 G H : Hp) (l : Addr) (o : HO) : Prop where
  h0 : H0 l = none
  g : G l = none
  e : H l = some o
theorem OwnO.kp {o : HO} (q : OwnO H0 G H l o) (k : Kp G H G' H') : OwnO H0 G' H' l o := ⟨q.h0, (k l _ q.e).2 q.g, (k l _ q.e).1⟩
theorem OwnO.callOwn {o : HO} (q : OwnO H0 G H m o) (b : Gr [l] G H G' H') (n : m ≠ l) : OwnO H0 G' H' m o := ⟨q.h0, b.n m q.g (some_ne q.e), b.h m _ (by simpa using n) q.e⟩
theorem OwnO.ko {o : HO} (q : OwnO H0 G H m o) (k : ∀ a x, a ≠ l → H a = some x → H' a = some x ∧ (G a = none → G' a = none)) (n : m ≠ l) : OwnO H0 G' H' m o := ⟨q.h0, (k m _ n q.e).2 q.g, (k m _ n q.e).1⟩
theorem OwnO.kq {o : HO} (q : OwnO H0 G H m o) (k : ∀ a x, a ≠ l → H a = some x → H' a = some x) (n : m ≠ l) : OwnO H0 G H' m o := ⟨q.h0, q.g, k m _ n q.e⟩
end
end Kd
set_option maxHeartbeats 4000000
namespace K18
open PySem PySem.Spec PyProof.Rows L2 Kd
theorem rd_rows {f : Nd → Nd} {r : Ro} : ∀ {t : Tr}, okT f t → (.inr r ∈ rdT f t ↔ ∃ a ∈ lbl t, f a = .func r) := by
  intro t
  induction t using Tr.rec (motive_2 := fun ks => (∀ k ∈ ks, okT f k) → (.inr r ∈ rdTL f ks ↔ ∃ a ∈ lblL ks, f a = .func r) ∧ ∀ k ∈ ks, (.inr r ∈ rdT f k ↔ ∃ a ∈ lbl k, f a = .func r)) with
  | mk a ks ih =>
    rintro ⟨h1, h2, h3⟩
    obtain ⟨i1, i2⟩ := ih h3
    rw [rdT, lbl]
    split
    · rename_i n e
      have : ks = [] := List.eq_nil_of_length_eq_zero (by rw [h2, e]; rfl)
      subst this
      simp [lblL, e]
    · rename_i q e
      have hl : ks.length = 2 := by rw [h2, e]; rfl
      match ks, hl with
      | [x, y], _ =>
        have j1 := i2 x (by simp)
        have j2 := i2 y (by simp)
        simp only [List.mem_append, List.mem_cons, lblL, List.not_mem_nil, or_false, List.append_nil, Sum.inr.injEq, j1, j2]
        constructor
        · rintro (⟨b, hb, z⟩ | rfl | ⟨b, hb, z⟩)
          · exact ⟨b, .inr (.inl hb), z⟩
          · exact ⟨a, .inl rfl, e⟩
          · exact ⟨b, .inr (.inr hb), z⟩
        · rintro ⟨b, rfl | hb | hb, z⟩
          · rw [e] at z
            cases z
            exact .inr (.inl rfl)
          · exact .inl ⟨b, hb, z⟩
          · exact .inr (.inr ⟨b, hb, z⟩)
    · rename_i n1 n2
      rw [i1]
      constructor
      · rintro ⟨b, hb, z⟩
        exact ⟨b, List.mem_cons_of_mem _ hb, z⟩
      · rintro ⟨b, hb, z⟩
        rcases List.mem_cons.mp hb with rfl | hb
        · exact absurd z (n2 r)
        · exact ⟨b, hb, z⟩
  | nil => exact ⟨by simp [rdTL, lblL], fun k hk => by simp at hk⟩
  | cons k ks h1 h2 =>
    rename_i h
    have q1 := h1 (h k (by simp))
    obtain ⟨q2, q3⟩ := h2 fun j hj => h j (by simp [hj])
    refine ⟨?_, fun j hj => ?_⟩
    · rw [rdTL, lblL, List.mem_append, q1, q2]
      simp only [List.mem_append]
      constructor
      · rintro (⟨b, hb, z⟩ | ⟨b, hb, z⟩)
        · exact ⟨b, .inl hb, z⟩
        · exact ⟨b, .inr hb, z⟩
      · rintro ⟨b, hb | hb, z⟩
        · exact .inl ⟨b, hb, z⟩
        · exact .inr ⟨b, hb, z⟩
    · rcases List.mem_cons.mp hj with rfl | hj
      · exact q1
      · exact q3 j hj
def hdN : Nd → Str
  | .plain w => w
  | .letter _ => "letter"
  | .pair => "pair"
  | .data _ _ => "data"
  | .func _ => "fun"
theorem build_hd {a : Nd} {ps : List D} (h : ps.length = a.many) : ∃ r, build a ps = .tup (.str (hdN a) :: r) := by
  cases a with
  | plain w => exact ⟨_, rfl⟩
  | letter n => exact ⟨_, rfl⟩
  | data s m => exact ⟨_, rfl⟩
  | pair => match ps, h with | [p, q], _ => exact ⟨_, rfl⟩
  | func r => match ps, h with | [p, q], _ => exact ⟨_, rfl⟩
theorem rows_lbl {t : Tr} (h : okT id t) (r : Ro) : r ∈ rowsT t ↔ ∃ a ∈ lbl t, a = .func r := by
  have e := rd_rows (r := r) h
  unfold rowsT
  rw [List.mem_filterMap]
  constructor
  · rintro ⟨x, hx, e2⟩
    cases x with
    | inl n => cases e2
    | inr y => cases e2; exact e.mp hx
  · exact fun q => ⟨_, e.mpr q, rfl⟩
theorem row_ok {t : Tr} (h : okT id t) {r : Ro} (hr : r ∈ rowsT t) : okRo r := by
  obtain ⟨a, ha, e⟩ := (rows_lbl h r).mp hr
  have := lbl_ok h a ha
  rw [show id a = a from rfl, e] at this
  exact this
theorem rows_len (t : Tr) : (rowsT t).length ≤ 2 * cntT t := by
  have h1 := List.length_filterMap_le Sum.getRight? (rdT id t)
  have h2 := rdT_len id t
  rw [szT_cnt] at h2
  exact Nat.le_trans h1 h2
theorem rem_snoc {W : Str → Prop} {l : PL} {fl : PF} {ts : List (Tr × Tr)} {p : Tr × Tr} {L : Int → Tr} {F : List L2.Key → D} : Rem W l fl (ts ++ [p]) L F ↔ (Rem W l fl ts L F ∧ MatT W L F p.1 p.2) := by
  unfold Rem
  constructor
  · rintro ⟨h1, h2, h3⟩
    exact ⟨⟨h1, h2, fun q hq => h3 q (List.mem_append_left _ hq)⟩, h3 p (by simp)⟩
  · rintro ⟨⟨h1, h2, h3⟩, h4⟩
    refine ⟨h1, h2, fun q hq => ?_⟩
    rcases List.mem_append.mp hq with hq | hq
    · exact h3 q hq
    · rw [List.mem_singleton.mp hq]; exact h4
theorem rem_app {W : Str → Prop} {l : PL} {fl : PF} {ts qs : List (Tr × Tr)} {L : Int → Tr} {F : List L2.Key → D} : Rem W l fl (ts ++ qs) L F ↔ (Rem W l fl ts L F ∧ ∀ p ∈ qs, MatT W L F p.1 p.2) := by
  unfold Rem
  constructor
  · rintro ⟨h1, h2, h3⟩
    exact ⟨⟨h1, h2, fun q hq => h3 q (List.mem_append_left _ hq)⟩, fun q hq => h3 q (List.mem_append_right _ hq)⟩
  · rintro ⟨⟨h1, h2, h3⟩, h4⟩
    refine ⟨h1, h2, fun q hq => ?_⟩
    rcases List.mem_append.mp hq with hq | hq
    · exact h3 q hq
    · exact h4 q hq
theorem head_same {a c : Nd} (ha : okNd a) (hc : okNd c) (hL : hdN a ≠ "letter") (h : hdN a = hdN c) : (∃ w, a = .plain w ∧ c = .plain w) ∨ (a = .pair ∧ c = .pair) ∨ (∃ s m s' m', a = .data s m ∧ c = .data s' m') ∨ ∃ r r', a = .func r ∧ c = .func r' := by
  cases a with
  | letter n => exact absurd rfl hL
  | plain w =>
    obtain ⟨_, n1, n2, n3, n4, _⟩ := plain_word (show w ∈ thePlain from ha)
    cases c with
    | plain w' => exact .inl ⟨w, rfl, by rw [show w = w' from h]⟩
    | letter n => exact absurd h n4
    | pair => exact absurd h n1
    | data s m => exact absurd h n3
    | func r => exact absurd h n2
  | pair =>
    cases c with
    | plain w' =>
      obtain ⟨_, n1, n2, n3, n4, _⟩ := plain_word (show w' ∈ thePlain from hc)
      exact absurd h.symm n1
    | letter n => exact absurd h (show ("pair" : Str) ≠ "letter" by decide)
    | pair => exact .inr (.inl ⟨rfl, rfl⟩)
    | data s m => exact absurd h (show ("pair" : Str) ≠ "data" by decide)
    | func r => exact absurd h (show ("pair" : Str) ≠ "fun" by decide)
  | data s m =>
    cases c with
    | plain w' =>
      obtain ⟨_, n1, n2, n3, n4, _⟩ := plain_word (show w' ∈ thePlain from hc)
      exact absurd h.symm n3
    | letter n => exact absurd h (show ("data" : Str) ≠ "letter" by decide)
    | pair => exact absurd h (show ("data" : Str) ≠ "pair" by decide)
    | data s' m' => exact .inr (.inr (.inl ⟨s, m, s', m', rfl, rfl⟩))
    | func r => exact absurd h (show ("data" : Str) ≠ "fun" by decide)
  | func r =>
    cases c with
    | plain w' =>
      obtain ⟨_, n1, n2, n3, n4, _⟩ := plain_word (show w' ∈ thePlain from hc)
      exact absurd h.symm n2
    | letter n => exact absurd h (show ("fun" : Str) ≠ "letter" by decide)
    | pair => exact absurd h (show ("fun" : Str) ≠ "pair" by decide)
    | data s m => exact absurd h (show ("fun" : Str) ≠ "data" by decide)
    | func r' => exact .inr (.inr (.inr ⟨r, r', rfl, rfl⟩))
theorem headF_hd {W : Str → Prop} {F : List L2.Key → D} {a c : Nd} (h : headF W F a c) : hdN a = hdN c := by
  cases a <;> cases c <;> first | exact h.elim | exact h | rfl
theorem isLet_hd {a : Nd} (ha : okNd a) : isLet a = true ↔ hdN a = "letter" := by
  cases a with
  | letter n => exact ⟨fun _ => rfl, fun _ => rfl⟩
  | plain w =>
    obtain ⟨_, n1, n2, n3, n4, _⟩ := plain_word (show w ∈ thePlain from ha)
    exact ⟨fun h => (by cases h), fun h => absurd h n4⟩
  | pair => exact ⟨fun h => (by cases h), fun h => absurd h (show ("pair" : Str) ≠ "letter" by decide)⟩
  | data s m => exact ⟨fun h => (by cases h), fun h => absurd h (show ("data" : Str) ≠ "letter" by decide)⟩
  | func r => exact ⟨fun h => (by cases h), fun h => absurd h (show ("fun" : Str) ≠ "letter" by decide)⟩
def nameDif : Nd → Nd → Bool
  | .data s _, .data s' _ => !decide (s = s')
  | _, _ => false
theorem nameDif_no {W : Str → Prop} {F : List L2.Key → D} {a c : Nd} (h : nameDif a c = true) : ¬ headF W F a c := by
  cases a <;> cases c <;> first | cases h | skip
  rename_i s m s' m'
  intro q
  have q : s = s' := q
  rw [nameDif, decide_eq_true q] at h
  cases h
section
variable {P : Program} {w : World} {K : PySem.W.Frag} {mg : Str → Option Value} {base : Heap}
def rInst : List D → D → Prop := fun ds d => ∃ (s t : Tr) (N : List Str) (b : Bool), ds = [tD id s, tD id t] ∧ okT id s ∧ okT id t ∧ cntT s ≤ 500000 ∧ cntT t ≤ 500000 ∧ N.length ≤ 9 ∧ (∀ r, (r ∈ rowsT s ∨ r ∈ rowsT t) → ∀ p ∈ r.ns, p.1 ∈ N) ∧ d = .bl b ∧ (b = true ↔ ∃ L F, MatT (wordsOf s t) L F s t)
abbrev N_is_instance_of : List Str := ["scheme", "kind", "words", "letters", "flags", "waiting", "one", "other", "mine", "theirs"]
theorem sc_is_instance_of : FnScope ["scheme", "kind", "words", "letters", "flags", "waiting", "one", "other", "mine", "theirs"] ["scheme", "kind"] (defScope s_is_instance_of) := ⟨rfl, rfl, rfl, by decide +kernel, rfl, by decide +kernel, by decide +kernel⟩
theorem ok_is_instance_of (T : Tx K mg) : Good P w K mg base CX0 "is_instance_of" 5 ["scheme", "kind"] (spRel rInst) := by
  obtain ⟨fd, F⟩ := T.f_is_instance_of
  refine ⟨T.m_is_instance_of, F.kp, fd, ?_, F.bindsN fun _ _ _ _ _ _ us hl => match us, hl with | [_, _], _ => rfl⟩
  have G_words_in := ok_words_in (P := P) (w := w) (base := base) T
  have G_parts_of_kind := ok_parts_of_kind (P := P) (w := w) (base := base) T
  have G_rows_in := ok_rows_in (P := P) (w := w) (base := base) T
  have G_table_of := ok_table_of (P := P) (w := w) (base := base) T
  have G_fits_row := ok_fits_row (P := P) (w := w) (base := base) T
  refine F.ok sc_is_instance_of (fun vs H Q E h => ?_) (fun cdv A outer s H vs Q E hr h => ?_)
  · obtain ⟨G, ds, d, _, r, ⟨s, t, N, b, rfl, _⟩, _⟩ := h
    exact r.len
  · obtain ⟨G, ds, d, s0, r, ⟨t1, t2, N, b, rfl, hf, hg, z1, z2, hN, hNr, rfl, hb⟩, k⟩ := h
    obtain ⟨v1, _, rfl, r_scheme, v2, _, rfl, r_kind, rfl⟩ := r
    refine ⟨_, PSs.nox ((pss_cons (ps_set (i := 2) sc_is_instance_of.nd rfl (Or.inl rfl) (pe_op op_cat (pe_g G_words_in (hr.mono (by decide)) (pa_cons (pe_op op_cat (pe_g G_rows_in (hr.mono (by decide)) (pa_cons (pv 0) pa_nil)) (pe_g G_rows_in (hr.mono (by decide)) (pa_cons (pv 1) pa_nil))) pa_nil)) (pe_lst (pa_cons pe_str pa_nil))))
    (pss_cons (ps_par (i := 3) (j := 4) (by rfl) sc_is_instance_of.nd rfl rfl (by decide) rfl rfl (pa_cons (pe_dnewK) (pa_cons (pe_dnewT) pa_nil)) (by rfl))
    (pss_cons (ps_set (i := 5) sc_is_instance_of.nd rfl (Or.inl rfl) (pe_lst (pa_cons (pe_tup (pa_cons (pv 0) (pa_cons (pv 1) pa_nil))) pa_nil)))
    (pss_cons (ps_while PassesOwn.never (pt_truth (pv 5) (by intro _; rfl)) (pss_cons (ps_asg (pe_bm0 PySem.F.plainAttrs_list PySem.F.slot_list_pop PySem.F.type_list_pop mt_pop (pv 5)) (pg_tup rfl (pgs_cons (pg_name (i := 6) sc_is_instance_of.nd rfl (Or.inl rfl)) (pgs_cons (pg_name (i := 7) sc_is_instance_of.nd rfl (Or.inl rfl)) pgs_nil))))
    (pss_cons (ps_if (pt_cmpR op_eq (pe_ix ix_tup (pv 6) pe_int (fun _ _ => rfl)) pe_str (nomark _)) (pss_cons (ps_if (pt_cmpR (op_neD hr.units) (pe_g G_table_of (hr.mono (by decide)) (pa_cons (pe_dsetd (pv 3) (pe_ix ix_tup (pv 6) pe_int (fun _ _ => rfl)) (pv 7) (by exact ⟨rfl, rfl, rfl, rfl⟩)) pa_nil)) (pe_g G_table_of (hr.mono (by decide)) (pa_cons (pv 7) pa_nil)) (nomark _)) (pss_one (ps_ret pe_bl)) pss_nil)
    (pss_one ps_continue)) pss_nil)
    (pss_cons (ps_if (PW.pt (pw_or (pt_cmpR op_ne (pe_ix ix_tup (pv 6) pe_int (fun _ _ => rfl)) (pe_ix ix_tup (pv 7) pe_int (fun _ _ => rfl)) (nomark _)) (pw_or1 (PW.pt (pw_and (pt_cmpR op_eq (pe_ix ix_tup (pv 6) pe_int (fun _ _ => rfl)) pe_str (nomark _)) (pw_and1 (pt_cmpR op_ne (pe_ix ix_tup (pv 6) pe_int (fun _ _ => rfl)) (pe_ix ix_tup (pv 7) pe_int (fun _ _ => rfl)) (nomark _)))))))) (pss_one (ps_ret pe_bl)) pss_nil)
    (pss_cons (ps_par (i := 8) (j := 9) (by rfl) sc_is_instance_of.nd rfl rfl (by decide) rfl rfl (pa_cons (pe_g G_parts_of_kind (hr.mono (by decide)) (pa_cons (pv 6) pa_nil)) (pa_cons (pe_g G_parts_of_kind (hr.mono (by decide)) (pa_cons (pv 7) pa_nil)) pa_nil)) (by rfl))
    (pss_cons (ps_if (pt_cmpR op_ne (pe_callB call_len_seq (by rfl) T.n_len PySem.boot_len (pa_cons (pv 8) pa_nil)) (pe_callB call_len_seq (by rfl) T.n_len PySem.boot_len (pa_cons (pv 9) pa_nil)) (nomark _)) (pss_one (ps_ret pe_bl)) pss_nil)
    (pss_cons (ps_if (PW.pt (pw_and (pt_cmpR op_eq (pe_ix ix_tup (pv 6) pe_int (fun _ _ => rfl)) pe_str (nomark _)) (pw_and1 (pt_not (pt_val (pe_g G_fits_row (hr.mono (by decide)) (pa_cons (pe_ix ix_tup (pv 6) pe_int (fun _ _ => rfl)) (pa_cons (pe_ix ix_tup (pv 7) pe_int (fun _ _ => rfl)) (pa_cons (pv 2) (pa_cons (pv 4) pa_nil)))))))))) (pss_one (ps_ret pe_bl)) pss_nil)
    (pss_one (ps_expr (pe_bm PySem.F.plainAttrs_list PySem.F.slot_list_extend PySem.F.type_list_extend mt_extend (pv 5) (pa_cons (pe_listZip rfl (by rfl) T.n_list (by rfl) T.n_zip (pa_cons (pv 8) (pa_cons (pv 9) pa_nil))) pa_nil)))))))))))
    (pss_one (ps_ret pe_bl))))))), ?_⟩
    have g := gr0 (M := []) s0
    have l1 := rows_len t1
    have l2 := rows_len t2
    refine s_setX (P := fun d => ∃ ws : List Str, d = .lst (ws.map .str) ∧ ws.length ≤ 10 ∧ (∀ z ∈ ws, PyData.strOk z = true) ∧ ∀ z, z ∈ ws ↔ wordsOf t1 t2 z)
      (edx_op (edx_all (ds := [.lst ((rowsT t1 ++ rowsT t2).map Ro.d)]) (eds_cons ((ed_op (ed_rel (eds_cons (ed_var rfl r_scheme) eds_nil) ⟨id, t1, rfl, hf, by rw [szT_cnt]; omega, rfl⟩) (ed_rel (eds_cons (ed_var rfl r_kind) eds_nil) ⟨id, t2, rfl, hg, by rw [szT_cnt]; omega, rfl⟩) fun _ _ => rd_cat (by simp only [List.length_map]; show (rowsT t1).length + (rowsT t2).length ≤ _; omega)).to (by rw [List.map_append]; rfl)) eds_nil) ⟨_, N, rfl, hN, ?_⟩) (ed_lst (ds := [.str ""]) (eds_cons ed_str eds_nil) (Nat.le_of_ble_eq_true rfl)) ?_) g fun d vw G1 H1 hd g1 s1 k1 r_words => ?_
    · intro r hr p hp
      exact hNr r (List.mem_append.mp hr) p hp
    · rintro d ⟨rs, ys, e1, rfl, hy, hm⟩
      cases e1
      have hmz : ∀ z, z ∈ ys ↔ ∃ r, (r ∈ rowsT t1 ∨ r ∈ rowsT t2) ∧ z ∈ r.ns.map (·.1) := fun z => by
        rw [hm]
        constructor
        · rintro ⟨x, hx, hz⟩
          obtain ⟨r, hr, rfl⟩ := List.mem_map.mp hx
          rw [nmsD_d] at hz
          exact ⟨r, List.mem_append.mp hr, hz⟩
        · rintro ⟨r, hr, hz⟩
          exact ⟨r.d, List.mem_map.mpr ⟨r, List.mem_append.mpr hr, rfl⟩, by rw [nmsD_d]; exact hz⟩
      refine ⟨_, ⟨ys ++ [("" : Str)], rfl, by simp; omega, fun z hz => ?_, fun z => ?_⟩, fun G2 _ => ?_⟩
      · rcases List.mem_append.mp hz with q | q
        · obtain ⟨r, hr, hzr⟩ := (hmz z).mp q
          obtain ⟨p, hp, rfl⟩ := List.mem_map.mp hzr
          rcases hr with hr | hr
          · exact small_ok ((row_ok hf hr).nm p hp).1
          · exact small_ok ((row_ok hg hr).nm p hp).1
        · rw [List.mem_singleton.mp q]
          decide +kernel
      · rw [List.mem_append, hmz, List.mem_singleton]
        exact ⟨fun h => h.symm, fun h => h.symm⟩
      · rw [List.map_append]
        exact rd_cat (by simp; omega)
    obtain ⟨ws, rfl, hwl, hws, hwW⟩ := hd
    refine fun la na fa nfa => ⟨_, _, rfl, ?_⟩
    have g2 := g1.tmp (o := .dK []) na
    have g3 := g2.tmp (o := .dT []) nfa
    have nlf : la ≠ fa := fun e => by rw [← e, upd_same] at nfa; cases nfa
    have ola : OwnO H G1 (upd (upd H1 la (.dK [])) fa (.dT [])) la (.dK []) := ⟨g1.free na, g1.gfree na, by rw [upd_ne nlf, upd_same]⟩
    have ofa : OwnO H G1 (upd (upd H1 la (.dK [])) fa (.dT [])) fa (.dT []) := ⟨g2.free nfa, g2.gfree nfa, upd_same⟩
    refine o_new (ds := [prT (t1, t2)]) (eds_cons (ed_tup (eds_cons (ed_var rfl (r_scheme.mono s1)) (eds_cons (ed_var rfl (r_kind.mono s1)) eds_nil)) (Nat.le_of_ble_eq_true rfl)) eds_nil) (Nat.le_of_ble_eq_true rfl) g3 fun lw G4 H4 g4 s4 k4 ow _ => ?_
    have ola := (ola.kp k4)
    have ofa := (ofa.kp k4)
    have nwl : lw ≠ la := fun e => by
      obtain ⟨vs, ev, _⟩ := ow.e
      rw [e, ola.e] at ev
      cases ev
    have nwf : lw ≠ fa := fun e => by
      obtain ⟨vs, ev, _⟩ := ow.e
      rw [e, ofa.e] at ev
      cases ev
    obtain ⟨W, hW⟩ : ∃ W, W = wordsOf t1 t2 := ⟨_, rfl⟩
    rw [← hW] at hb hwW
    have bF : (∀ L F, ¬ MatT W L F t1 t2) → b = false := fun h => by
      cases b with
      | false => rfl
      | true =>
        obtain ⟨L, F, q⟩ := hb.mp rfl
        exact absurd q (h L F)
    have hz0 : szP [(t1, t2)] = cntT t1 := by simp [szP]
    dsimp only
    refine s_seq (s_while (σ := [some v1, some v2, some vw, some (.ref la), some (.ref fa), some (.ref lw), none, none, none, none]) (fun m σ G' H' => Same G4 G' ∧ ∃ o1 o2 o3 o4 ts kL kF l fl, σ = [some v1, some v2, some vw, some (.ref la), some (.ref fa), some (.ref lw), o1, o2, o3, o4] ∧ m = szP ts ∧ Own H G' H' lw (ts.map prT) ∧ OwnO H G' H' la (.dK kL) ∧ OwnO H G' H' fa (.dT kF) ∧ DicL G' l kL ∧ DicT G' fl kF ∧ (∀ p ∈ ts, okT id p.1 ∧ okT id p.2 ∧ cntT p.2 ≤ 500000) ∧ (∀ L F, MatT W L F t1 t2 ↔ Rem W l fl ts L F) ∧ kL.length + szP ts ≤ 500000 ∧ kF.length + 10 * szP ts ≤ 5000000) g4 (m0 := szP [(t1, t2)]) ⟨Same.refl _, none, none, none, none, [(t1, t2)], [], [], fun _ => none, fun _ => none, rfl, rfl, ow, ola, ofa, ⟨fun _ _ => rfl, fun n v e => (by simp [valV] at e)⟩, ⟨fun _ _ => rfl, fun n v e => (by simp [valV] at e)⟩, fun p hp => (by rw [List.mem_singleton.mp hp]; exact ⟨hf, hg, z2⟩), fun L F => ⟨fun h => ⟨fun n t e => (by cases e), fun k d e => (by cases e), fun p hp => (by rw [List.mem_singleton.mp hp]; exact h)⟩, fun h => h.2.2 (t1, t2) (by simp)⟩, (by rw [hz0]; simp only [List.length_nil]; omega), (by rw [hz0]; simp only [List.length_nil]; omega)⟩ ?_)
    rintro m σ G' H' g ⟨sG, o1, o2, o3, o4, ts, kL, kF, l, fl, rfl, rfl, ow, ola, ofa, cL, cF, hts, hRem, hkL, hkF⟩
    refine (ow.eb g.s fun Gx s r => eb_truth (ed_var rfl r) rfl) _ fun H1 g1 => ?_
    have ow := ow.kp g1.g g1.kp
    have ola := ola.kp g1.kp
    have ofa := ofa.kp g1.kp
    have g := g.call g1
    rcases nil_or_snoc ts with rfl | ⟨ts, p, rfl⟩
    · rw [if_neg (by simp [truth])]
      have e : b = true := hb.mpr ⟨fun n => (l n).getD (.mk .pair []), fun q => (fl q).getD .non, (hRem _ _).mpr ⟨fun n t e => (by show (l n).getD _ = t; rw [e]; rfl), fun q d e => (by show (fl q).getD _ = d; rw [e]; rfl), fun p hp => (by simp at hp)⟩⟩
      rw [e] at k
      dsimp only
      exact s_ret ed_bl g k
    · rw [if_pos (by simp [truth])]
      refine ⟨_, fun _ _ q => q, ?_⟩
      obtain ⟨x1, x2⟩ := p
      obtain ⟨ok1, ok2, zc2⟩ := hts (x1, x2) (by simp)
      have hts' : ∀ p ∈ ts, okT id p.1 ∧ okT id p.2 ∧ cntT p.2 ≤ 500000 := fun p hp => hts p (by simp [hp])
      have ok2' : okT id x2 := ok2
      have zc2' : cntT x2 ≤ 500000 := zc2
      cases ok1 with
      | @mk a ks ha1 hl1 hk1 =>
      have ha1 : okNd a := ha1
      have hl1 : ks.length = a.many := hl1
      have e1 : szP (ts ++ [(Tr.mk a ks, x2)]) = szP ts + (cntL ks + 1) := by rw [szP_app]; simp [szP, cntT]
      rw [e1] at hkL hkF
      have hlt := szP_len ts
      refine o_pop2 (d := tD id (.mk a ks)) (e := tD id x2) (ds := ts.map prT) rfl g (by rw [List.map_append] at ow; exact ow) rfl fun x y H2 g ow2 ks1 ko r_one r_other => ?_
      have ola := ola.kq ko (Ne.symm nwl)
      have ofa := ofa.kq ko (Ne.symm nwf)
      -- the next turn
      have nxt : ∀ (G3 H3 : Hp) (kL3 : List (L2.Key × V)) (kF3 : List (List L2.Key × V)) (l3 : PL) (fl3 : PF) (qs : List (Tr × Tr)) (o3 o4 : Option V), Gr [] G H G3 H3 → Same G' G3 → Own H G3 H3 lw ((ts ++ qs).map prT) → OwnO H G3 H3 la (.dK kL3) → OwnO H G3 H3 fa (.dT kF3) → DicL G3 l3 kL3 → DicT G3 fl3 kF3 → kL3.length ≤ kL.length + 1 → kF3.length ≤ kF.length + 10 → szP qs ≤ cntL ks → (∀ p ∈ qs, okT id p.1 ∧ okT id p.2 ∧ cntT p.2 ≤ 500000) → (∀ L F, Rem W l fl (ts ++ [(Tr.mk a ks, x2)]) L F ↔ Rem W l3 fl3 (ts ++ qs) L F) →
          (∃ m', m' < szP (ts ++ [(Tr.mk a ks, x2)]) ∧ ∃ G', Gr [] G H G' H3 ∧ Same G4 G' ∧ ∃ o1 o2 o3' o4' ts kL kF l fl, [some v1, some v2, some vw, some (.ref la), some (.ref fa), some (.ref lw), some x, some y, o3, o4] = [some v1, some v2, some vw, some (.ref la), some (.ref fa), some (.ref lw), o1, o2, o3', o4'] ∧ m' = szP ts ∧ Own H G' H3 lw (ts.map prT) ∧ OwnO H G' H3 la (.dK kL) ∧ OwnO H G' H3 fa (.dT kF) ∧ DicL G' l kL ∧ DicT G' fl kF ∧ (∀ p ∈ ts, okT id p.1 ∧ okT id p.2 ∧ cntT p.2 ≤ 500000) ∧ (∀ L F, MatT W L F t1 t2 ↔ Rem W l fl ts L F) ∧ kL.length + szP ts ≤ 500000 ∧ kF.length + 10 * szP ts ≤ 5000000) := by
        intro G3 H3 kL3 kF3 l3 fl3 qs o3 o4 g3 s3 ow3 ola3 ofa3 cL3 cF3 l3l l3f hsq hok hR
        have e2 := szP_app ts qs
        refine ⟨szP (ts ++ qs), by omega, G3, g3, sG.trans s3, _, _, _, _, ts ++ qs, kL3, kF3, l3, fl3, rfl, rfl, ow3, ola3, ofa3, cL3, cF3, fun p hp => ?_, fun L F => (hRem L F).trans (hR L F), by omega, by omega⟩
        rcases List.mem_append.mp hp with q | q
        · exact hts' p q
        · exact hok p q
      have stop : (∀ L F, ¬ Rem W l fl (ts ++ [(Tr.mk a ks, x2)]) L F) → b = false := fun h => bF fun L F q => h L F ((hRem L F).mp q)
      have ex1 : tD id (.mk a ks) = build a (ks.map (tD id)) := by rw [tD, tDL_map]; rfl
      rw [ex1] at r_one
      have hl1' : (ks.map (tD id)).length = a.many := by rw [List.length_map]; exact hl1
      obtain ⟨q1, eq1⟩ := build_hd hl1'
      have hone : Rp G' (.tup (.str (hdN a) :: q1)) x := eq1 ▸ r_one
      by_cases hL : hdN a = "letter"
      · obtain ⟨n, e⟩ : ∃ n, a = .letter n := by
          cases a with
          | letter n => exact ⟨n, rfl⟩
          | _ => have := (isLet_hd ha1).mpr hL; cases this
        have hks : ks = [] := List.eq_nil_of_length_eq_zero (by rw [hl1, e]; rfl)
        have hmat : ∀ L F, MatT W L F (.mk a ks) x2 ↔ L n = x2 := fun L F => by rw [e, MatT]
        have r_let : Rp G' (.tup [.str "letter", .int n]) x := by rw [e, hks] at r_one; exact r_one
        refine s_if' ((eb_test (ed_op (ed_op (ed_var rfl hone) ed_int fun _ _ => rd_ixT at0) ed_str fun _ _ => rd_eq rfl)).to (decide_eq_true hL)) g (fun _ H3 g k3 => ?_) fun z => nomatch z
        have ow2 := ow2.kp (Same.refl _) k3
        have ola := ola.kp k3
        have ofa := ofa.kp k3
        -- the two tables
        have fin : ∀ (G6 H6 : Hp) (u : V) (tu : Tr), Same G6 H6 → Same G' G6 → Rp G6 (tD id tu) u → okT id tu → cntT tu ≤ 500000 → ∀ (o3 o4 : Option V) (Q : VK), (∀ G7 H7, Gp G6 H6 G7 H7 → Q (.bl (!PyData.eqv (toPy (.lst (tabT tu 0))) (toPy (.lst (tabT x2 0))))) H7) → spRel rTab [u] H6 (fun v7 H7 => tCall (spRel rTab) [] E0 (tCons (tVar 7) tNil) [some v1, some v2, some vw, some (.ref la), some (.ref fa), some (.ref lw), some x, some y, o3, o4] H7 fun v8 H8 => rNeD K v7 v8 H8 Q) E0 := by
          intro G6 H6 u tu s6 s6' hu oku zu o3 o4 Q hQ
          refine ⟨G6, [tD id tu], .lst (tabT tu 0), s6, .one hu, ⟨tu, rfl, oku, by omega, rfl⟩, fun v7 G7 H7 g7 r7 => ?_⟩
          refine (ed_rel (eds_cons (ed_var rfl (r_other.mono (s6'.trans g7.g))) eds_nil) ⟨x2, rfl, ok2', by omega, rfl⟩ : Ed _ _ G7 (.lst (tabT x2 0))) H7 g7.s _ fun v8 G8 H8 g8 r8 => ?_
          refine rd_neTab oku ok2' v7 v8 H8 g8.s (r7.mono g8.g) r8 Q fun v9 G9 H9 g9 r9 => ?_
          cases (show v9 = .bl _ from r9)
          exact hQ G9 H9 ((g7.trans g8).trans g9)
        refine ⟨_, rfl, la, rfl, .inl ⟨kL, .inl ola.e⟩, ?_⟩
        refine (ed_op (ed_var rfl r_let) ed_int fun _ _ => rd_ixT at1 : Ed _ _ G' (.int n)) H3 g.s _ fun vn G5 H5 g5 r5 => ?_
        cases (show vn = .int n from r5)
        have ow5 := ow2.kp g5.g g5.kp
        have ola5 := ola.kp g5.kp
        have ofa5 := ofa.kp g5.kp
        have gr5 := g.call g5
        have cL5 := cL.mono g5.g
        have cF5 := cF.mono g5.g
        have hother5 := r_other.mono g5.g
        refine ⟨y, rfl, kL, .inl n, ola5.e, rfl, Nat.lt_of_le_of_lt (show kL.length ≤ 500000 by omega) (by decide +kernel), fun u hu => ?_, fun hu => ?_⟩
        · obtain ⟨tu, h1, h2, h3, h4⟩ := cL5.so n u hu
          refine fin G5 H5 u tu g5.s g5.g h2 h3 h4 o3 o4 _ fun G7 H7 g7 => ?_
          have hiff := neTab_iff h3 ok2'
          generalize PyData.eqv (toPy (.lst (tabT tu 0))) (toPy (.lst (tabT x2 0))) = c at hiff
          cases c with
          | true =>
            have etu := hiff.mp rfl
            refine ⟨false, rfl, ?_⟩
            refine nxt G7 H7 kL kF l fl [] o3 o4 (gr5.call g7) (g5.g.trans g7.g) (by rw [List.append_nil]; exact ow5.kp g7.g g7.kp) (ola5.kp g7.kp) (ofa5.kp g7.kp) (cL5.mono g7.g) (cF5.mono g7.g) (Nat.le_succ _) (Nat.le_add_right _ _) (Nat.zero_le _) (fun p hp => by simp at hp) fun L F => ?_
            rw [List.append_nil, rem_snoc, hmat]
            exact ⟨fun h => h.1, fun h => ⟨h, by rw [h.1 n tu h1]; exact etu⟩⟩
          | false =>
            have hbf : b = false := stop fun L F h => by
              rw [rem_snoc, hmat] at h
              have := h.1.1 n tu h1
              rw [h.2] at this
              exact nomatch hiff.mpr this.symm
            rw [hbf] at k
            refine ⟨true, rfl, ?_⟩
            exact s_ret ed_bl (gr5.call g7) k
        · have g6 := gr5.mut (o := .dK (putK kL (.inl n) y)) ola5.g ola5.h0
          have hno := cL5.no n hu
          have cL6 : DicL G5 (fun q => if q = n then some x2 else l q) (putK kL (.inl n) y) := by
            refine ⟨fun q hq => ?_, fun q u hq => ?_⟩
            · rw [valV_put] at hq
              by_cases eq : q = n
              · rw [if_pos (by rw [eq])] at hq; cases hq
              · rw [if_neg (fun z => eq (Sum.inl.inj z))] at hq
                exact (if_neg eq).trans (cL5.no q hq)
            · rw [valV_put] at hq
              by_cases eq : q = n
              · rw [if_pos (by rw [eq])] at hq
                cases Option.some.inj hq
                exact ⟨x2, if_pos eq, hother5, ok2', zc2'⟩
              · rw [if_neg (fun z => eq (Sum.inl.inj z))] at hq
                obtain ⟨t, h1, h2⟩ := cL5.so q u hq
                exact ⟨t, (if_neg eq).trans h1, h2⟩
          have l6 := length_putK kL (Sum.inl n : L2.Key) y
          have ow6 : Own H G5 (upd H5 la (.dK (putK kL (.inl n) y))) lw (ts.map prT) := ow5.upd nwl
          have ola6 : OwnO H G5 (upd H5 la (.dK (putK kL (.inl n) y))) la (.dK (putK kL (.inl n) y)) := ⟨ola5.h0, ola5.g, upd_same⟩
          have ofa6 : OwnO H G5 (upd H5 la (.dK (putK kL (.inl n) y))) fa (.dT kF) := ⟨ofa5.h0, ofa5.g, by rw [upd_ne (Ne.symm nlf)]; exact ofa5.e⟩
          refine fin G5 _ y x2 g6.s g5.g hother5 ok2' zc2' o3 o4 _ fun G7 H7 g7 => ?_
          rw [(neTab_iff ok2' ok2').mpr rfl]
          refine ⟨false, rfl, ?_⟩
          refine nxt G7 H7 _ kF _ fl [] o3 o4 (g6.call g7) (g5.g.trans g7.g) (by rw [List.append_nil]; exact ow6.kp g7.g g7.kp) (ola6.kp g7.kp) (ofa6.kp g7.kp) (cL6.mono g7.g) (cF5.mono g7.g) l6 (Nat.le_add_right _ _) (Nat.zero_le _) (fun p hp => by simp at hp) fun L F => ?_
          rw [List.append_nil, rem_snoc, hmat]
          constructor
          · rintro ⟨⟨h1, h2, h3⟩, h4⟩
            refine ⟨fun q t hq => ?_, h2, h3⟩
            by_cases eq : q = n
            · have hq : (if q = n then some x2 else l q) = some t := hq
              rw [if_pos eq] at hq
              rw [eq, h4]
              exact Option.some.inj hq
            · exact h1 q t ((if_neg eq).symm.trans hq)
          · rintro ⟨h1, h2, h3⟩
            refine ⟨⟨fun q t hq => h1 q t ?_, h2, h3⟩, h1 n x2 (if_pos rfl)⟩
            by_cases eq : q = n
            · rw [eq, hno] at hq; cases hq
            · exact (if_neg eq).trans hq
      · have hlet : isLet a = false := by
          cases q : isLet a with
          | false => rfl
          | true => exact absurd ((isLet_hd ha1).mp q) hL
        refine s_if' ((eb_test (ed_op (ed_op (ed_var rfl hone) ed_int fun _ _ => rd_ixT at0) ed_str fun _ _ => rd_eq rfl)).to (decide_eq_false hL)) g (fun z => nomatch z) fun _ H3 g k3 => ?_
        have ow2 := ow2.kp (Same.refl _) k3
        have ola := ola.kp k3
        have ofa := ofa.kp k3
        cases ok2 with
        | @mk c js ha2 hl2 hk2 =>
        have ha2 : okNd c := ha2
        have hl2 : js.length = c.many := hl2
        have hmat : ∀ L F, MatT W L F (.mk a ks) (.mk c js) ↔ (headF W F a c ∧ MatL W L F ks js) := fun L F => mat_node hlet
        have ex2 : tD id (.mk c js) = build c (js.map (tD id)) := by rw [tD, tDL_map]; rfl
        rw [ex2] at r_other
        have hl2' : (js.map (tD id)).length = c.many := by rw [List.length_map]; exact hl2
        obtain ⟨q2, eq2⟩ := build_hd hl2'
        have hoth : Rp G' (.tup (.str (hdN c) :: q2)) y := eq2 ▸ r_other
        by_cases hH : hdN a = hdN c
        · have hs := head_same ha1 ha2 hL hH
          refine s_if' (b := nameDif a c) (eb_orF ((eb_test (ed_op (ed_op (ed_var rfl hone) ed_int fun _ _ => rd_ixT at0) (ed_op (ed_var rfl hoth) ed_int fun _ _ => rd_ixT at0) fun _ _ => rd_ne rfl)).to (c := false) (by rw [decide_eq_true hH]; rfl)) ?_) g (fun hb4 H4 g k4 => ?_) fun hb4 H4 g k4 => ?_
          · by_cases hd : hdN a = "data"
            · obtain ⟨z1', m1, z2', m2, ea, ec⟩ : ∃ s m s' m', a = .data s m ∧ c = .data s' m' := by
                rcases hs with ⟨w', ea, ec⟩ | ⟨ea, ec⟩ | h | ⟨r1, r2, ea, ec⟩
                · rw [ea] at hd ha1
                  exact absurd hd (plain_word ha1).2.2.2.1
                · rw [ea] at hd; exact absurd hd (show ("pair" : Str) ≠ "data" by decide)
                · exact h
                · rw [ea] at hd; exact absurd hd (show ("fun" : Str) ≠ "data" by decide)
              refine eb_andT ((eb_test (ed_op (ed_op (ed_var rfl hone) ed_int fun _ _ => rd_ixT at0) ed_str fun _ _ => rd_eq rfl)).to (decide_eq_true hd)) ?_
              have h1 : Rp G' (.tup [.str "data", .str z1', .lst (ks.map (tD id))]) x := by rw [ea] at r_one; exact r_one
              have h2 : Rp G' (.tup [.str "data", .str z2', .lst (js.map (tD id))]) y := by rw [ec] at r_other; exact r_other
              rw [ea, ec]
              exact (eb_test (ed_op (ed_op (ed_var rfl h1) ed_int fun _ _ => rd_ixT at1) (ed_op (ed_var rfl h2) ed_int fun _ _ => rd_ixT at1) fun _ _ => rd_ne rfl)).to rfl
            · have e : nameDif a c = false := by
                rcases hs with ⟨w', ea, ec⟩ | ⟨ea, ec⟩ | ⟨_, _, _, _, ea, ec⟩ | ⟨r1, r2, ea, ec⟩
                · rw [ea]; rfl
                · rw [ea]; rfl
                · rw [ea] at hd; exact absurd rfl hd
                · rw [ea]; rfl
              rw [e]
              exact eb_andF ((eb_test (ed_op (ed_op (ed_var rfl hone) ed_int fun _ _ => rd_ixT at0) ed_str fun _ _ => rd_eq rfl)).to (decide_eq_false hd))
          · have hbf : b = false := stop fun L F h => by
              rw [rem_snoc] at h
              exact nameDif_no hb4 ((hmat L F).mp h.2).1
            rw [hbf] at k
            exact s_ret ed_bl g k
          have ow2 := ow2.kp (Same.refl _) k4
          have ola := ola.kp k4
          have ofa := ofa.kp k4
          dsimp only
          refine s_seq (s_par' (eds_cons (ed_rel (eds_cons (ed_var rfl r_one) eds_nil) ⟨a, _, rfl, ha1, hl1', rfl⟩) (eds_cons (ed_rel (eds_cons (ed_var rfl r_other) eds_nil) ⟨c, _, rfl, ha2, hl2', rfl⟩) eds_nil)) g fun vm vt G5 H5 g s5 k5 r_mine r_theirs => ?_)
          have ow2 := ow2.kp s5 k5
          have ola := ola.kp k5
          have ofa := ofa.kp k5
          have cL := cL.mono s5
          have cF := cF.mono s5
          simp only [tNext]
          refine s_seq (s_if' (b := !decide (((ks.map (tD id)).length : Int) = ((js.map (tD id)).length : Nat))) (eb_test (ed_op (ed_lenL (ed_var rfl r_mine)) (ed_lenL (ed_var rfl r_theirs)) fun _ _ => rd_ne rfl)) g (fun hb6 H6 g k6 => ?_) fun hb6 H6 g k6 => ?_)
          · have hbf : b = false := stop fun L F h => by
              rw [rem_snoc] at h
              have := (matL_zip.mp ((hmat L F).mp h.2).2).1
              simp [this] at hb6
            rw [hbf] at k
            exact s_ret ed_bl g k
          have ow2 := ow2.kp (Same.refl _) k6
          have ola := ola.kp k6
          have ofa := ofa.kp k6
          have hlen : ks.length = js.length := by
            have : decide (((ks.map (tD id)).length : Int) = ((js.map (tD id)).length : Nat)) = true := by simpa using hb6
            have := of_decide_eq_true this
            rw [List.length_map, List.length_map] at this
            omega
          have hzok : ∀ p ∈ ks.zip js, okT id p.1 ∧ okT id p.2 ∧ cntT p.2 ≤ 500000 := fun p hp => by
            have hm := List.of_mem_zip (a := p.1) (b := p.2) hp
            have hc : cntT p.2 ≤ cntL js := by
              have : ∀ (l : List Tr), p.2 ∈ l → cntT p.2 ≤ cntL l := by
                intro l
                induction l with
                | nil => intro h; simp at h
                | cons j l ih =>
                  intro h
                  rcases List.mem_cons.mp h with h | h
                  · rw [h]; simp only [cntL]; omega
                  · have := ih h; simp only [cntL]; omega
              exact this js hm.2
            have zc3 : cntL js + 1 ≤ 500000 := zc2'
            exact ⟨hk1 _ hm.1, hk2 _ hm.2, by omega⟩
          have tail : ∀ (D' : Ends) (G6 H6 : Hp) (kF6 : List (List L2.Key × V)) (fl6 : PF), Gr [] G H G6 H6 → Same G5 G6 → Own H G6 H6 lw (ts.map prT) → OwnO H G6 H6 la (.dK kL) → OwnO H G6 H6 fa (.dT kF6) → DicT G6 fl6 kF6 →
              (∀ G3 H3, Gr [] G H G3 H3 → Same G' G3 → Own H G3 H3 lw ((ts ++ ks.zip js).map prT) → OwnO H G3 H3 la (.dK kL) → OwnO H G3 H3 fa (.dT kF6) → DicL G3 l kL → DicT G3 fl6 kF6 → D'.nx [some v1, some v2, some vw, some (.ref la), some (.ref fa), some (.ref lw), some x, some y, some vm, some vt] H3) →
              tDrop (tBM K "list" rExtend (tVar 5) (tCons (tListZip K (tCons (tVar 8) (tCons (tVar 9) tNil))) tNil)) D' [some v1, some v2, some vw, some (.ref la), some (.ref fa), some (.ref lw), some x, some y, some vm, some vt] H6 := by
            intro D' G6 H6 kF6 fl6 g6 s6 ow6 ola6 ofa6 cF6 hD
            have hzl : (ks.zip js).length ≤ cntL ks := Nat.le_trans (szP_len _) (szP_zip ks js)
            refine o_extend (es := (ks.zip js).map prT) rfl ((ed_listZip (ed_var rfl (r_mine.mono s6)) (ed_var rfl (r_theirs.mono s6))).to (by rw [zip_prT])) g6 ow6 (by rw [List.length_map, List.length_map]; omega) fun G7 H7 g7 s7 ow7 _ k7 => ?_
            exact hD G7 H7 g7 ((s5.trans s6).trans s7) (by rw [List.map_append]; exact ow7) (ola6.ko k7 (Ne.symm nwl)) (ofa6.ko k7 (Ne.symm nwf)) ((cL.mono s6).mono s7) (cF6.mono s7)
          simp only [tNext]
          by_cases hfun : hdN a = "fun"
          · obtain ⟨r1, r2, ea, ec⟩ : ∃ r1 r2, a = .func r1 ∧ c = .func r2 := by
              rcases hs with ⟨w', ea, ec⟩ | ⟨ea, ec⟩ | ⟨s1', m1, s2', m2, ea, ec⟩ | h
              · rw [ea] at hfun ha1
                exact absurd hfun (plain_word ha1).2.2.1
              · rw [ea] at hfun; exact absurd hfun (show ("pair" : Str) ≠ "fun" by decide)
              · rw [ea] at hfun; exact absurd hfun (show ("data" : Str) ≠ "fun" by decide)
              · exact h
            obtain ⟨c1, c2, ek⟩ : ∃ c1 c2, ks = [c1, c2] := by
              have : ks.length = 2 := by rw [hl1, ea]; rfl
              match ks, this with | [c1, c2], _ => exact ⟨c1, c2, rfl⟩
            obtain ⟨d1, d2, ej⟩ : ∃ c1 c2, js = [c1, c2] := by
              have : js.length = 2 := by rw [hl2, ec]; rfl
              match js, this with | [c1, c2], _ => exact ⟨c1, c2, rfl⟩
            have h1 : Rp G5 (.tup [.str "fun", tD id c1, r1.d, tD id c2]) x := by
              rw [ea, ek] at r_one
              exact (show Rp G' (.tup [.str "fun", tD id c1, r1.d, tD id c2]) x from r_one).mono s5
            have h2 : Rp G5 (.tup [.str "fun", tD id d1, r2.d, tD id d2]) y := by
              rw [ec, ej] at r_other
              exact (show Rp G' (.tup [.str "fun", tD id d1, r2.d, tD id d2]) y from r_other).mono s5
            refine s_seq (((eb_test (ed_op (ed_op (ed_var rfl (hone.mono s5)) ed_int fun _ _ => rd_ixT at0) ed_str fun _ _ => rd_eq rfl)).to (decide_eq_true hfun) : Eb _ _ G5 true) H6 g.s _ fun H7 g7 => ?_)
            rw [if_pos rfl]
            have g := g.call g7
            have ow2 := ow2.kp g7.g g7.kp
            have ola := ola.kp g7.kp
            have ofa := ofa.kp g7.kp
            refine (ed_op (ed_var rfl h1) ed_int fun _ _ => rd_ixT at2 : Ed _ _ G5 r1.d) H7 g.s _ fun va G8 H8 g8 r8 => ?_
            have g := g.call g8
            have ow2 := ow2.kp g8.g g8.kp
            have ola := ola.kp g8.kp
            have ofa := ofa.kp g8.kp
            refine (ed_op (ed_var rfl (h2.mono g8.g)) ed_int fun _ _ => rd_ixT at2 : Ed _ _ G8 r2.d) H8 g8.s _ fun vb G9 H9 g9 r9 => ?_
            have g := g.call g9
            have ow2 := ow2.kp g9.g g9.kp
            have ola := ola.kp g9.kp
            have ofa := ofa.kp g9.kp
            have s9 : Same G5 G9 := g8.g.trans g9.g
            refine ⟨vw, rfl, .ref fa, rfl, ?_⟩
            refine ⟨G9, r1, r2, ws, fl, kF, va, vb, vw, fa, rfl, g9.s, r8.mono g9.g, r9, r_words.mono ((s4.trans sG).trans (s5.trans s9)), ofa.g, ofa.e, cF.mono s9, by omega, hws, fun b' G10 H10 fl' kF' g10 gf10 hf10 c10 l10 hfit => ?_⟩
            refine ⟨b', rfl, ?_⟩
            have g11 := g.callOwn g10 ofa.h0
            have ow10 := ow2.callOwn g10 nwf
            have ola10 := ola.callOwn g10 nlf
            have ofa10 : OwnO H G10 H10 fa (.dT kF') := ⟨ofa.h0, gf10, hf10⟩
            have hhd : ∀ F, headF W F a c ↔ ∀ z ∈ ws, fitF F r1 r2 z := fun F => by
              rw [ea, ec]
              show (∀ z, W z → fitF F r1 r2 z) ↔ _
              exact ⟨fun h z hz => h z ((hwW z).mp hz), fun h z hz => h z ((hwW z).mpr hz)⟩
            cases b' with
            | false =>
              have hbf : b = false := stop fun L F h => by
                rw [rem_snoc, hmat, hhd] at h
                exact hfit.2 rfl F h.1.2.1 h.2.1
              rw [hbf] at k
              dsimp only
              rw [if_pos (by rfl)]
              exact s_ret ed_bl g11 k
            | true =>
              dsimp only
              rw [if_neg (by simp)]
              simp only [tNext]
              refine tail _ G10 H10 kF' fl' g11 (s9.trans g10.g) ow10 ola10 ofa10 c10 fun G3 H3 g3 s3 ow3 ola3 ofa3 cL3 cF3 => ?_
              refine nxt G3 H3 kL kF' l fl' (ks.zip js) _ _ g3 s3 ow3 ola3 ofa3 cL3 cF3 (Nat.le_succ _) (by omega) (szP_zip ks js) hzok fun L F => ?_
              rw [rem_snoc, rem_app, hmat, hhd, matL_zip]
              have hE := hfit.1 rfl F
              unfold Rem
              rw [hE]
              exact ⟨fun h => ⟨⟨h.1.1, ⟨h.1.2.1, h.2.1⟩, h.1.2.2⟩, h.2.2.2⟩, fun h => ⟨⟨h.1.1, h.1.2.1.1, h.1.2.2⟩, h.1.2.1.2, hlen, h.2⟩⟩
          · refine s_seq (s_if' (eb_andF ((eb_test (ed_op (ed_op (ed_var rfl (hone.mono s5)) ed_int fun _ _ => rd_ixT at0) ed_str fun _ _ => rd_eq rfl)).to (decide_eq_false hfun))) g (fun z => nomatch z) fun _ H7 g k7 => ?_)
            simp only [tNext]
            refine tail _ G5 H7 kF fl g (Same.refl _) (ow2.kp (Same.refl _) k7) (ola.kp k7) (ofa.kp k7) cF fun G3 H3 g3 s3 ow3 ola3 ofa3 cL3 cF3 => ?_
            refine nxt G3 H3 kL kF l fl (ks.zip js) _ _ g3 s3 ow3 ola3 ofa3 cL3 cF3 (Nat.le_succ _) (Nat.le_add_right _ _) (szP_zip ks js) hzok fun L F => ?_
            rw [rem_snoc, rem_app, hmat, matL_zip]
            have hh : headF W F a c := by
              rcases hs with ⟨w', ea, ec⟩ | ⟨ea, ec⟩ | ⟨s1', m1, s2', m2, ea, ec⟩ | ⟨r1, r2, ea, ec⟩
              · rw [ea, ec]; exact rfl
              · rw [ea, ec]; exact trivial
              · rw [ea, ec] at hb4 ⊢
                have : decide (s1' = s2') = true := by simpa [nameDif] using hb4
                have e3 : s1' = s2' := of_decide_eq_true this
                exact e3
              · rw [ea] at hfun; exact absurd rfl hfun
            exact ⟨fun h => ⟨h.1, h.2.2.2⟩, fun h => ⟨h.1, hh, hlen, h.2⟩⟩
        · refine s_if' (eb_orT ((eb_test (ed_op (ed_op (ed_var rfl hone) ed_int fun _ _ => rd_ixT at0) (ed_op (ed_var rfl hoth) ed_int fun _ _ => rd_ixT at0) fun _ _ => rd_ne rfl)).to (c := true) (by rw [decide_eq_false hH]; rfl))) g (fun _ H4 g k4 => ?_) fun z => nomatch z
          have hbf : b = false := stop fun L F h => by
            rw [rem_snoc] at h
            exact hH (headF_hd ((hmat L F).mp h.2).1)
          rw [hbf] at k
          exact s_ret ed_bl g k
end
end K18
set_option maxHeartbeats 4000000
/-! A pool of numbers that its drawers change; what is drawn is any of what may be drawn. -/
namespace Kd
open PySem PySem.Spec PyProof.Rows L2
/-- the pool stands at p -/
structure PoolAt (p : Addr) (G H : Hp) : Prop where
  g : G p = none
  e : ∃ (pl : Int) (st : Unit) (xs : List Int), H p = some (.lst (.int pl :: xs.map V.int)) ∧ 0 ≤ pl ∧ pl ≤ xs.length ∧ 0 < xs.length ∧ (∀ x ∈ xs, 0 ≤ x ∧ x < 60) ∧ xs.length ≤ 5000
def spP (pre : List D → Prop) (R : List D → D → Prop) : Sp := fun vs H Q _ => ∃ (p : Addr) (vs' : List V) (G : Hp) (ds : List D), vs = .ref p :: vs' ∧ Same G H ∧ PoolAt p G H ∧ RpL G ds vs' ∧ pre ds ∧ ∀ d v G' H', R ds d → Gr [p] G H G' H' → PoolAt p G' H' → Rp G' d v → Q v H'
def EdP (p : Addr) (te : TE) (σ : L2.St) (G : Hp) (P : D → Prop) : Prop := ∀ H, Same G H → PoolAt p G H → ∀ Q : VK, (∀ d v G' H', P d → Gr [p] G H G' H' → PoolAt p G' H' → Rp G' d v → Q v H') → te σ H Q
def EdsP (p : Addr) (ta : TA) (σ : L2.St) (G : Hp) (P : List D → Prop) : Prop := ∀ H, Same G H → PoolAt p G H → ∀ Q : List V → Hp → Prop, (∀ ds vs G' H', P ds → Gr [p] G H G' H' → PoolAt p G' H' → RpL G' ds vs → Q vs H') → ta σ H Q
def EbP (p : Addr) (t : TT) (σ : L2.St) (G : Hp) (P : Bool → Prop) : Prop := ∀ H, Same G H → PoolAt p G H → ∀ Q : Bool → Hp → Prop, (∀ b G' H', P b → Gr [p] G H G' H' → PoolAt p G' H' → Q b H') → t σ H Q
section
variable {K : PySem.W.Frag} {σ : L2.St} {G G1 : Hp} {te ta tb tc : TE} {t u : TT} {d e z : D} {b c : Bool} {v : V} {l m p : Addr} {ds es : List D} {r : R2} {P P1 P2 P3 : D → Prop} {PB PC : Bool → Prop}
variable {M : List Addr} {G0 H0 H G' H' : Hp} {Dn : Ends} {tu tw : TS}
theorem PoolAt.kp (q : PoolAt p G H) (k : Kp G H G' H') : PoolAt p G' H' := by
  obtain ⟨pl, st, xs, e, r⟩ := q.e
  exact ⟨(k p _ e).2 q.g, pl, st, xs, (k p _ e).1, r⟩
theorem PoolAt.ne (q : PoolAt p G H) : H p ≠ none := by
  obtain ⟨pl, st, xs, e, r⟩ := q.e
  exact some_ne e
theorem PoolAt.low {Gs : Hp} (q : PoolAt p G H) (s : Same Gs G) : PoolAt p Gs H := ⟨s.free q.g, q.e⟩
theorem Gr.pl (g : Gp G H G' H') : Gr [p] G H G' H' := g.weak fun a h => by simp at h
theorem Gr.largerP {G2 H2 : Hp} (e : Same G G1) (s : Same G1 H) (n : G1 p = none) (g : Gr [p] G H G2 H2) : ∃ G3, Gr [p] G1 H G3 H2 ∧ Same G2 G3 ∧ (G2 p = none → G3 p = none) := by
  have s2 : Same G1 H2 := fun a o h => g.h a o (by simpa using ne_of_none h n) (s a o h)
  refine ⟨fun a => if (G1 a).isSome then G1 a else G2 a, ⟨g.h, g.t, fun a o h => ?_, fun a o h => ?_, fun a h1 h2 => ?_⟩, fun a o h => ?_, fun h => ?_⟩
  · show (if (G1 a).isSome then G1 a else G2 a) = some o
    rw [h]
    rfl
  · have h : (if (G1 a).isSome then G1 a else G2 a) = some o := h
    split at h
    · exact s2 a o h
    · exact g.s a o h
  · show (if (G1 a).isSome then G1 a else G2 a) = none
    rw [h1, if_neg (by simp)]
    exact g.n a (e.free h1) h2
  · show (if (G1 a).isSome then G1 a else G2 a) = some o
    split
    · rename_i w
      cases q : G1 a with
      | none => rw [q] at w; simp at w
      | some u =>
        have x1 := s2 a u q
        have x2 := g.s a o h
        rw [x1] at x2
        exact x2
    · exact h
  · show (if (G1 p).isSome then G1 p else G2 p) = none
    rw [n, if_neg (by simp)]
    exact h
theorem EdP.mono (s : Same G G1) (h : EdP p te σ G P) : EdP p te σ G1 P := fun H s1 q Q k => h H (s.trans s1) (q.low s) Q fun d v G' H' hd g hq hv =>
  let ⟨G3, g3, e3, n3⟩ := Gr.largerP s s1 q.g g
  k d v G3 H' hd g3 ⟨n3 hq.g, hq.e⟩ (hv.mono e3)
theorem EdsP.mono {tA : TA} {PP : List D → Prop} (s : Same G G1) (h : EdsP p tA σ G PP) : EdsP p tA σ G1 PP := fun H s1 q Q k => h H (s.trans s1) (q.low s) Q fun d v G' H' hd g hq hv =>
  let ⟨G3, g3, e3, n3⟩ := Gr.largerP s s1 q.g g
  k d v G3 H' hd g3 ⟨n3 hq.g, hq.e⟩ (hv.mono e3)
theorem EbP.mono (s : Same G G1) (h : EbP p t σ G PB) : EbP p t σ G1 PB := fun H s1 q Q k => h H (s.trans s1) (q.low s) Q fun b G' H' hd g hq =>
  let ⟨G3, g3, e3, n3⟩ := Gr.largerP s s1 q.g g
  k b G3 H' hd g3 ⟨n3 hq.g, hq.e⟩
theorem Ed.pl (h : Ed te σ G d) : EdP p te σ G (fun e => e = d) := fun H s q Q k => h H s Q fun v G' H' g r => k d v G' H' rfl g.pl (q.kp g.kp) r
theorem Eb.pl (h : Eb t σ G b) : EbP p t σ G (fun c => c = b) := fun H s q Q k => h H s Q fun H' g => k b G H' rfl g.pl (q.kp g.kp)
theorem EdP.to (h : EdP p te σ G P) (q : ∀ d, P d → P1 d) : EdP p te σ G P1 := fun H s hp Q k => h H s hp Q fun d v G' H' hd => k d v G' H' (q d hd)
theorem EbP.to (h : EbP p t σ G PB) (q : ∀ b, PB b → PC b) : EbP p t σ G PC := fun H s hp Q k => h H s hp Q fun b G' H' hd => k b G' H' (q b hd)
theorem edp_call {i : Nat} {pre : List D → Prop} {R : List D → D → Prop} {tr : TA} {E : XK} (hv : σ[i]? = some (some (.ref p))) (h : Eds tr σ G ds) (hp : pre ds) : EdP p (tCall (spP pre R) [] E (tCons (tVar i) tr)) σ G (R ds) := fun H s q Q k =>
  ⟨_, hv, h H s _ fun vs G1 H1 g1 r1 => ⟨p, vs, G1, ds, by rw [List.append_nil], g1.s, q.kp g1.kp, r1, hp, fun d v G2 H2 hd g2 q2 r2 => k d v G2 H2 hd (g1.pl.trans g2) q2 r2⟩⟩
theorem edp_op (ha : EdP p ta σ G P1) (hb : EdP p tb σ G P2) (hr : ∀ d e, P1 d → P2 e → ∃ z, P3 z ∧ ∀ G1, Same G G1 → Rd2 r G1 d e z) : EdP p (tOp r ta tb) σ G P3 := fun H s q Q k =>
  ha H s q _ fun d x G1 H1 hd g1 q1 r1 => hb.mono g1.g H1 g1.s q1 _ fun e y G2 H2 he g2 q2 r2 => by
    obtain ⟨z, hz, rr⟩ := hr d e hd he
    exact rr G2 (g1.g.trans g2.g) x y H2 g2.s (r1.mono g2.g) r2 Q fun v G3 H3 g3 r3 => k z v G3 H3 hz ((g1.trans g2).trans g3.pl) (q2.kp g3.kp) r3
theorem edp_cb {r : List V → Hp → VK → Prop} {tA : TA} {PP : List D → Prop} (ha : EdsP p tA σ G PP) (hr : ∀ ds, PP ds → ∃ z, P3 z ∧ ∀ G1, Same G G1 → Rdc r G1 ds z) : EdP p (tCB r tA) σ G P3 := fun H s q Q k =>
  ha H s q _ fun ds vs G1 H1 hd g1 q1 r1 => by
    obtain ⟨z, hz, rr⟩ := hr ds hd
    exact rr G1 g1.g vs H1 g1.s r1 Q fun v G3 H3 g3 r3 => k z v G3 H3 hz (g1.trans g3.pl) (q1.kp g3.kp) r3
theorem edsp_nil : EdsP p tNil σ G (fun ds => ds = []) := fun H s q Q k => k [] [] G H rfl (gr0 s) q rfl
theorem edsp_cons {tr : TA} {PP : List D → Prop} (ha : EdP p ta σ G P) (hr : EdsP p tr σ G PP) : EdsP p (tCons ta tr) σ G (fun ds => ∃ d r, ds = d :: r ∧ P d ∧ PP r) := fun H s q Q k =>
  ha H s q _ fun d x G1 H1 hd g1 q1 r1 => hr.mono g1.g H1 g1.s q1 _ fun es ys G2 H2 he g2 q2 r2 => k (d :: es) (x :: ys) G2 H2 ⟨d, es, rfl, hd, he⟩ (g1.trans g2) q2 (.cons (r1.mono g2.g) r2)
theorem edp_tup {tA : TA} {PP : List D → Prop} (ha : EdsP p tA σ G PP) (hl : ∀ ds, PP ds → ds.length ≤ 10000000) : EdP p (tTup tA) σ G (fun d => ∃ ds, d = .tup ds ∧ PP ds) := fun H s q Q k =>
  ha H s q _ fun ds vs G1 H1 hd g1 q1 r1 => ⟨by rw [r1.len]; exact Nat.le_trans (hl ds hd) (by decide), fun a hn => by
    refine k (.tup ds) (.ref a) _ _ ⟨ds, rfl, hd⟩ (g1.new hn) ⟨?_, ?_⟩ (Rp.tup upd_same (r1.mono (same_frz (g1.gfree hn))))
    · rw [upd_ne (fun z => q1.ne (by rw [z]; exact hn))]; exact q1.g
    · rw [upd_ne (fun z => q1.ne (by rw [z]; exact hn))]; exact q1.e⟩
theorem edp_lst {tA : TA} {PP : List D → Prop} (ha : EdsP p tA σ G PP) (hl : ∀ ds, PP ds → ds.length ≤ 10000000) : EdP p (tLst tA) σ G (fun d => ∃ ds, d = .lst ds ∧ PP ds) := fun H s q Q k =>
  ha H s q _ fun ds vs G1 H1 hd g1 q1 r1 => ⟨by rw [r1.len]; exact Nat.le_trans (hl ds hd) (by decide), fun a hn => by
    refine k (.lst ds) (.ref a) _ _ ⟨ds, rfl, hd⟩ (g1.new hn) ⟨?_, ?_⟩ (Rp.lst upd_same (r1.mono (same_frz (g1.gfree hn))))
    · rw [upd_ne (fun z => q1.ne (by rw [z]; exact hn))]; exact q1.g
    · rw [upd_ne (fun z => q1.ne (by rw [z]; exact hn))]; exact q1.e⟩
/-- so many, each of P -/
def AllP (P : D → Prop) (n : Nat) (ds : List D) : Prop := ds.length = n ∧ ∀ d ∈ ds, P d
theorem edsa_nil : EdsP p tNil σ G (AllP P 0) := fun H s q Q k => k [] [] G H ⟨rfl, fun d h => by simp at h⟩ (gr0 s) q rfl
theorem edsa_cons {tr : TA} {n : Nat} (ha : EdP p ta σ G P) (hr : EdsP p tr σ G (AllP P n)) : EdsP p (tCons ta tr) σ G (AllP P (n + 1)) := fun H s q Q k =>
  ha H s q _ fun d x G1 H1 hd g1 q1 r1 => hr.mono g1.g H1 g1.s q1 _ fun es ys G2 H2 he g2 q2 r2 => k (d :: es) (x :: ys) G2 H2 ⟨by rw [List.length_cons, he.1], fun e h => by
    rcases List.mem_cons.mp h with h | h
    · rw [h]; exact hd
    · exact he.2 e h⟩ (g1.trans g2) q2 (.cons (r1.mono g2.g) r2)
/-- one thing, drawn, in a list; two in a tuple -/
theorem edp_lst1 (ha : EdP p ta σ G P) : EdP p (tLst (tCons ta tNil)) σ G (fun d => ∃ x, d = .lst [x] ∧ P x) :=
  (edp_lst (edsp_cons ha edsp_nil) fun ds ⟨d, r, h, _, h2⟩ => by rw [h, h2]; exact Nat.le_of_ble_eq_true rfl).to fun d ⟨ds, h, x, r, h2, h3, h4⟩ => ⟨x, by rw [h, h2, h4], h3⟩
theorem edp_tup2 (ha : EdP p ta σ G P) (hb : EdP p tb σ G P1) : EdP p (tTup (tCons ta (tCons tb tNil))) σ G (fun d => ∃ x y, d = .tup [x, y] ∧ P x ∧ P1 y) :=
  (edp_tup (edsp_cons ha (edsp_cons hb edsp_nil)) fun ds ⟨d, r, h, _, d2, r2, h2, _, h3⟩ => by rw [h, h2, h3]; exact Nat.le_of_ble_eq_true rfl).to fun d ⟨ds, h, x, r, h2, h3, y, r2, h4, h5, h6⟩ => ⟨x, y, by rw [h, h2, h4, h6], h3, h5⟩
theorem edp_lst2 (ha : EdP p ta σ G P) (hb : EdP p tb σ G P1) : EdP p (tLst (tCons ta (tCons tb tNil))) σ G (fun d => ∃ x y, d = .lst [x, y] ∧ P x ∧ P1 y) :=
  (edp_lst (edsp_cons ha (edsp_cons hb edsp_nil)) fun ds ⟨d, r, h, _, d2, r2, h2, _, h3⟩ => by rw [h, h2, h3]; exact Nat.le_of_ble_eq_true rfl).to fun d ⟨ds, h, x, r, h2, h3, y, r2, h4, h5, h6⟩ => ⟨x, y, by rw [h, h2, h4, h6], h3, h5⟩
theorem edp_if (ht : EbP p t σ G PB) (h1 : PB true → EdP p ta σ G P) (h2 : PB false → EdP p tb σ G P) : EdP p (tIf t ta tb) σ G P := fun H s q Q k => ht H s q _ fun b G1 H1 hb g1 q1 => by
  cases b with
  | true =>
    show ta σ H1 Q
    exact (h1 hb).mono g1.g H1 g1.s q1 Q fun d v G2 H2 hd g2 q2 r2 => k d v G2 H2 hd (g1.trans g2) q2 r2
  | false =>
    show tb σ H1 Q
    exact (h2 hb).mono g1.g H1 g1.s q1 Q fun d v G2 H2 hd g2 q2 r2 => k d v G2 H2 hd (g1.trans g2) q2 r2
theorem ebp_test (h : EdP p te σ G (fun d => ∃ b, d = .bl b ∧ PB b)) : EbP p (tTest te) σ G PB := fun H s q Q k => h H s q _ fun d v G' H' hd g hq r => by
  obtain ⟨b, rfl, hb⟩ := hd
  exact ⟨b, r, k b G' H' hb g hq⟩
theorem ebp_and (h1 : EbP p t σ G PB) (h2 : PB true → EbP p u σ G PC) (h3 : PB false → PC false) : EbP p (tAnd t u) σ G PC := fun H s q Q k => h1 H s q _ fun b G1 H1 hb g1 q1 => by
  cases b with
  | true =>
    show u σ H1 Q
    exact (h2 hb).mono g1.g H1 g1.s q1 Q fun c G2 H2 hc g2 q2 => k c G2 H2 hc (g1.trans g2) q2
  | false =>
    show Q false H1
    exact k false G1 H1 (h3 hb) g1 q1
theorem ixN0 {n : Nat} (h : 0 < n) : ixN n 0 = some 0 := by
  unfold ixN
  rw [if_pos (by omega), if_pos (by omega)]
  rfl
theorem ixN1 {n : Nat} (h : 1 < n) : ixN n 1 = some 1 := by
  unfold ixN
  rw [if_pos (by omega), if_pos (by omega)]
  rfl
/-! reading a list that is not frozen for a number -/
theorem edh_of {vs : List V} (hg : G l = none) (he : H l = some (.lst vs)) (hr : RpL G ds vs) (s0 : Same G H) (hs : scl d = true) (h : ∀ Gx, Same G Gx → Rp Gx (.lst ds) (.ref l) → Ed te σ Gx d) : EdH te σ G H d := fun Q q => by
  have s : Same G (upd G l (.lst vs)) := same_frz hg
  refine h _ s ⟨l, vs, rfl, upd_same, hr.mono s⟩ H (fun a x q => ?_) Q fun v G' H' g' r' => q v G H' ⟨g'.h, g'.t, Same.refl _, s0.trans g'.e, fun _ z _ => z⟩ (r'.scl hs)
  by_cases z : a = l
  · rw [z] at q ⊢
    rw [upd_same] at q
    rw [he]
    exact q
  · rw [upd_ne z] at q
    exact s0 a x q
theorem s_setH {i : Nat} (h : EdH te σ G H d) (g : Gr M G0 H0 G H) (k : ∀ v G' H', Gr M G0 H0 G' H' → Same G G' → Kp G H G' H' → Rp G' d v → Dn.nx (σ.set i (some v)) H') : tAsg te (gName i) Dn σ H := h _ fun v G' H' g1 r => k v G' H' (g.call g1) g1.g g1.kp r
theorem s_retH (h : EdH te σ G H d) (g : Gr M G0 H0 G H) (k : ∀ v G' H', Gr M G0 H0 G' H' → Same G G' → Kp G H G' H' → Rp G' d v → Dn.rt v H') : tRet te Dn σ H := h _ fun v G' H' g1 r => k v G' H' (g.call g1) g1.g g1.kp r
theorem s_ifD (h : EdH te σ G H (.bl b)) (g : Gr M G0 H0 G H) (h1 : b = true → ∀ H', Gr M G0 H0 G H' → Kp G H G H' → tu Dn σ H') (h2 : b = false → ∀ H', Gr M G0 H0 G H' → Kp G H G H' → tw Dn σ H') : tIfS (tTest te) tu tw Dn σ H := s_ifH (fun Q q => h _ fun v G' H' g1 r => ⟨b, r, q H' g1.same⟩) g h1 h2
/-- l[i] = e, l not frozen -/
theorem s_put {i : Nat} {ti : TE} {vs : List V} {n : Int} {j : Nat} (hv : σ[i]? = some (some (.ref l))) (h : EdH te σ G H d) (he : H l = some (.lst vs)) (hg : G l = none) (g : Gr M G0 H0 G H) (hi : ∀ Q : VK, ∀ H', Q (.int n) H' → ti σ H' Q) (hn : ixN vs.length n = some j)
    (k : ∀ v G' H', Gr M G0 H0 G' H' → Same G G' → Kp G H G' H' → Rp G' d v → H' l = some (.lst vs) → G' l = none → Dn.nx σ (upd H' l (.lst (vs.set j v)))) : tAsg te (gSub (tVar i) ti rSetL) Dn σ H := h _ fun v G' H' g1 r =>
  ⟨_, hv, hi _ _ ⟨l, vs, n, j, rfl, rfl, g1.e l _ he, hn, k v G' H' (g.call g1) g1.g g1.kp r (g1.e l _ he) (g1.n l hg (some_ne he))⟩⟩
/-! statements -/
theorem Gr.callP (a : Gr M G0 H0 G H) (b : Gr [p] G H G' H') (h : p ∈ M) : Gr M G0 H0 G' H' := a.trans (b.weak fun x hx => by rw [List.mem_singleton.mp hx]; exact h)
theorem Own.callP (o : Own H0 G H l ds) (b : Gr [p] G H G' H') (h : H0 p ≠ none) : Own H0 G' H' l ds := o.callOwn b fun z => h (by rw [← z]; exact o.h0)
theorem p_set {i : Nat} (h : EdP p te σ G P) (g : Gr M G0 H0 G H) (hM : p ∈ M) (q : PoolAt p G H) (k : ∀ d v G' H', P d → Gr M G0 H0 G' H' → Same G G' → Gr [p] G H G' H' → PoolAt p G' H' → Rp G' d v → Dn.nx (σ.set i (some v)) H') : tAsg te (gName i) Dn σ H := h H g.s q _ fun d v G' H' hd g1 q1 r => k d v G' H' hd (g.callP g1 hM) g1.g g1 q1 r
theorem p_ret (h : EdP p te σ G P) (g : Gr M G0 H0 G H) (hM : p ∈ M) (q : PoolAt p G H) (k : ∀ d v G' H', P d → Gr M G0 H0 G' H' → PoolAt p G' H' → Rp G' d v → Dn.rt v H') : tRet te Dn σ H := h H g.s q _ fun d v G' H' hd g1 q1 r => k d v G' H' hd (g.callP g1 hM) q1 r
theorem p_if (h : EbP p t σ G PB) (g : Gr M G0 H0 G H) (hM : p ∈ M) (q : PoolAt p G H) (h1 : PB true → ∀ G' H', Gr M G0 H0 G' H' → Same G G' → Gr [p] G H G' H' → PoolAt p G' H' → tu Dn σ H') (h2 : PB false → ∀ G' H', Gr M G0 H0 G' H' → Same G G' → Gr [p] G H G' H' → PoolAt p G' H' → tw Dn σ H') : tIfS t tu tw Dn σ H := h H g.s q _ fun b G1 H1 hb g1 q1 => by
  cases b with
  | true =>
    show tu Dn σ H1
    exact h1 hb G1 H1 (g.callP g1 hM) g1.g g1 q1
  | false =>
    show tw Dn σ H1
    exact h2 hb G1 H1 (g.callP g1 hM) g1.g g1 q1
/-- xs.append(e), e drawn -/
theorem p_append {i : Nat} (hv : σ[i]? = some (some (.ref l))) (he : EdP p te σ G P) (g : Gr M G0 H0 G H) (hM : p ∈ M) (hp : H0 p ≠ none) (q : PoolAt p G H) (o : Own H0 G H l ds) (hl : ds.length < 10000000)
    (k : ∀ d G' H', P d → Gr M G0 H0 G' H' → Same G G' → PoolAt p G' H' → Own H0 G' H' l (ds ++ [d]) → (∀ m es, m ≠ l → Own H0 G H m es → Own H0 G' H' m es) → Dn.nx σ H') : tDrop (tBM K "list" rAppend (tVar i) (tCons te tNil)) Dn σ H := by
  obtain ⟨vs0, e0, _⟩ := o.e
  refine ⟨_, hv, .inl ⟨rfl, _, SqL.of e0⟩, he H g.s q _ fun d v G1 H1 hd g1 q1 r1 => ?_⟩
  have o1 := o.callP g1 hp
  obtain ⟨vs, e, r, hlen⟩ := o1.len
  refine ⟨l, vs, v, rfl, rfl, e, by rw [hlen]; exact Nat.lt_of_lt_of_le hl (by decide), ?_⟩
  have npl : p ≠ l := fun z => hp (by rw [z]; exact o.h0)
  refine k d G1 _ hd ((g.callP g1 hM).mut o1.g o1.h0) g1.g ⟨q1.g, ?_⟩ (o1.set (r.snoc r1)) fun m es n o' => (o'.callP g1 hp).upd n
  rw [upd_ne npl]
  exact q1.e
/-- for .. in range(e), e drawn -/
theorem p_forR {gt : TG} (h : EdP p te σ G P) (g : Gr M G0 H0 G H) (hM : p ∈ M) (q : PoolAt p G H) (hP : ∀ d, P d → ∃ n : Int, d = .int n)
    (k : ∀ (n : Int) G' H', P (.int n) → Gr M G0 H0 G' H' → Same G G' → Gr [p] G H G' H' → PoolAt p G' H' → tFor (iRng1 (tCons (tC (.int n)) tNil)) gt tu Dn σ H') : tFor (iRng1 (tCons te tNil)) gt tu Dn σ H := h H g.s q _ fun d v G' H' hd g1 q1 r => by
  obtain ⟨n, rfl⟩ := hP d hd
  cases (show v = .int n from r)
  exact k n G' H' hd (g.callP g1 hM) g1.g g1 q1
end
end Kd
set_option maxHeartbeats 4000000
namespace K18
open PySem PySem.Spec PyProof.Rows L2 Kd
section
variable {P : Program} {w : World} {K : PySem.W.Frag} {mg : Str → Option Value} {base : Heap}
def pMany : List D → Prop := fun ds => ∃ m : Int, ds = [.int m] ∧ 0 < m
def rMany : List D → D → Prop := fun ds d => ∃ m r : Int, ds = [.int m] ∧ d = .int r ∧ 0 ≤ r ∧ r < m
abbrev N_law_pick : List Str := ["pool", "many"]
theorem sc_law_pick : FnScope ["pool", "many"] ["pool", "many"] (defScope s_law_pick) := ⟨rfl, rfl, rfl, by decide +kernel, rfl, by decide +kernel, by decide +kernel⟩
theorem ok_law_pick (T : Tx K mg) : Good P w K mg base CX0 "_law_pick" 2 ["pool", "many"] (spP pMany rMany) := by
  obtain ⟨fd, F⟩ := T.f__law_pick
  refine ⟨T.m__law_pick, F.kp, fd, ?_, F.bindsN fun _ _ _ _ _ _ us hl => match us, hl with | [_, _], _ => rfl⟩
  refine F.ok sc_law_pick (fun vs H Q E h => ?_) (fun cdv A outer s H vs Q E hr h => ?_)
  · obtain ⟨p, vs', G, ds, rfl, _, _, r, ⟨m, rfl, _⟩, _⟩ := h
    show _ + 1 = _
    rw [r.len]
    rfl
  · obtain ⟨p, vs', G, ds, rfl, s0, hq, r, ⟨m, rfl, hm⟩, k⟩ := h
    obtain ⟨v2, _, rfl, r_many, rfl⟩ := r
    cases (show v2 = .int m from r_many)
    obtain ⟨pl, st, xs, hp, h2, h3, h4, h6, h7⟩ := hq.e
    refine ⟨_, PSs.nox ((pss_cons (ps_asg (pe_op op_add pe_int (pe_op op_mod (pe_callTy call_int1 (by rfl) T.n_int (by decide +kernel) (pa_cons (pe_ix ix_list (pv 0) pe_int (fun _ _ => rfl)) pa_nil)) (pe_op op_sub (pe_callB call_len_seq (by rfl) T.n_len PySem.boot_len (pa_cons (pv 0) pa_nil)) pe_int))) (pg_sub (pv 0) pe_int set_list))
    (pss_one (ps_ret (pe_op op_mod (pe_callTy call_int1 (by rfl) T.n_int (by decide +kernel) (pa_cons (pe_ix ix_list (pv 0) (pe_ix ix_list (pv 0) pe_int (fun _ _ => rfl)) (fun _ _ => rfl)) pa_nil)) (pv 1)))))), ?_⟩
    have g := gr0 (M := [p]) s0
    have hg := hq.g
    have hr : RpL G ((.int pl :: xs.map D.int)) ((.int pl :: xs.map V.int)) := .cons rfl (RpL.ints xs)
    have hlen : (((D.int pl :: xs.map D.int).length : Nat) : Int) - 1 = xs.length := by simp
    have hmod : 0 ≤ pl % xs.length ∧ pl % xs.length < xs.length := ⟨Int.emod_nonneg _ (by omega), Int.emod_lt_of_pos _ (by omega)⟩
    refine s_seq (s_put (d := .int (1 + pl % xs.length)) (n := 0) (j := 0) rfl (edh_of hg hp hr g.s rfl fun Gx s rx => ed_op ed_int (ed_op (ed_int1 (ed_op (ed_var rfl rx) ed_int fun _ _ => rd_ixL at0)) ((ed_op (ed_lenL (ed_var rfl rx)) ed_int fun _ _ => rd_I0i).to (e := .int (xs.length : Nat)) (by rw [hlen])) fun _ _ => rd_Ii (by omega)) fun _ _ => rd_I0i) hp hg g (fun Q H' q => q) (ixN0 (by simp)) fun v G3 H3 g s3 k3 r3 hp hg => ?_)
    obtain ⟨j, hj⟩ := Int.eq_ofNat_of_zero_le hmod.1
    have hjl : j < xs.length := by omega
    rw [hj] at r3 hmod
    cases (show v = .int (1 + ((j : Nat) : Int)) from r3)
    have g := g.put (l := p) (o := .lst ((V.int pl :: xs.map V.int).set 0 (.int (1 + ((j : Nat) : Int))))) (by simp) hg
    have hr' : RpL G3 (.int (1 + ((j : Nat) : Int)) :: xs.map D.int) (.int (1 + ((j : Nat) : Int)) :: xs.map V.int) := .cons rfl (RpL.ints xs)
    have hat : atI (.int (1 + ((j : Nat) : Int)) :: xs.map D.int) (1 + ((j : Nat) : Int)) = some (.int xs[j]) := by
      rw [show (1 + ((j : Nat) : Int)) = ((j + 1 : Nat) : Int) by omega]
      refine atI_nat ?_
      simp [hjl]
    have hx := h6 xs[j] (List.getElem_mem hjl)
    simp only [tNext]
    refine s_retH (d := .int (xs[j] % m)) (edh_of hg upd_same hr' g.s rfl fun Gx s rx => ed_op (ed_int1 (ed_op (ed_var rfl rx) (ed_op (ed_var rfl rx) ed_int fun _ _ => rd_ixL at0) fun _ _ => rd_ixL hat)) (ed_var rfl (show Rp Gx (.int m) (.int m) from rfl)) fun _ _ => rd_Ii hm) g fun v G4 H4 g s4 k4 r4 => ?_
    exact k _ v G4 H4 ⟨m, _, rfl, rfl, Int.emod_nonneg _ (by omega), Int.emod_lt_of_pos _ hm⟩ g ⟨(k4 p _ upd_same).2 hg, 1 + ((j : Nat) : Int), st, xs, (k4 p _ upd_same).1, by omega, by omega, h4, h6, h7⟩ r4
theorem edp_pick {σ : L2.St} {G : Hp} {p : Addr} {i : Nat} {te : TE} {E : XK} {m : Int} (hv : σ[i]? = some (some (.ref p))) (h : Ed te σ G (.int m)) (hm : 0 < m) : EdP p (tCall (spP pMany rMany) [] E (tCons (tVar i) (tCons te tNil))) σ G (fun d => ∃ r : Int, d = .int r ∧ 0 ≤ r ∧ r < m) :=
  (edp_call hv (eds_cons h eds_nil) ⟨m, rfl, hm⟩).to fun d ⟨m', r, e, e2, h0, h1⟩ => by
    cases e
    exact ⟨r, e2, h0, h1⟩
end
end K18
namespace Kd
open PySem PySem.Spec PyProof.Rows L2
theorem es_in {K : PySem.W.Frag} {σ : L2.St} {G : Hp} {a : Addr} {ns : List Int} {i : Nat} (hv : σ[i]? = some (some (.ref a))) (hs : ∀ H, Same G H → SqL K H a (ns.map V.int)) : Es (iList K (tVar i)) σ G (ns.map .int) := fun H s R q => by
  refine ⟨_, hv, a, rfl, ⟨_, hs H s⟩, q _ G H (gr0 s) ?_⟩
  have w : Walk (Itl K a) (ns.map V.int).length (fun H => SqL K H a (ns.map V.int)) (YAt (ns.map V.int)) := walk_list
  unfold WalkD
  rw [List.length_map] at w ⊢
  refine w.mono (fun H s => hs H s) fun i H x H' hi s y => ?_
  obtain ⟨e, y⟩ := y
  subst e
  rw [List.getElem?_map] at y
  obtain ⟨n, hn, rfl⟩ := Option.map_eq_some_iff.mp y
  exact ⟨.int n, by rw [List.getElem?_map, hn]; rfl, fun Gi s1 s2 => ⟨Gi, gr0 s2, rfl⟩⟩
theorem ed_ixIn {K : PySem.W.Frag} {σ : L2.St} {G : Hp} {a : Addr} {ns : List Int} {i : Nat} {te : TE} {j : Int} {c : Int} (hv : σ[i]? = some (some (.ref a))) (hs : ∀ H, Same G H → SqL K H a (ns.map V.int)) (h : Ed te σ G (.int j)) (hat : atI (ns.map V.int) j = some (.int c)) : Ed (tOp (rIxL K) (tVar i) te) σ G (.int c) := fun H s Q q =>
  ⟨_, hv, h H s _ fun v G1 H1 g1 r1 => ⟨a, ns.map V.int, j, .int c, rfl, r1, hs H1 (g1.g.trans g1.s), hat, q _ G1 H1 g1 rfl⟩⟩
theorem ed_lenIn {K : PySem.W.Frag} {σ : L2.St} {G : Hp} {a : Addr} {ns : List Int} {i : Nat} (hv : σ[i]? = some (some (.ref a))) (hs : ∀ H, Same G H → SqL K H a (ns.map V.int)) : Ed (tCB (fun xs H Q => ∃ p ys, xs = [.ref p] ∧ (SqL K H p ys ∨ SqT K H p ys) ∧ Q (.int ys.length) H) (tCons (tVar i) tNil)) σ G (.int ns.length) := fun H s Q q =>
  ⟨_, hv, a, ns.map V.int, rfl, .inl (hs H s), q _ G H (gr0 s) (by rw [List.length_map]; rfl)⟩
/-- xs = xs + [..], xs one's own -/
theorem o_cat {σ : L2.St} {M : List Addr} {G0 H0 G H : Hp} {Dn : Ends} {te : TE} {l : Addr} {ds es : List D} {i j : Nat} (hv : σ[i]? = some (some (.ref l))) (he : Ed te σ G (.lst es)) (g : Gr M G0 H0 G H) (o : Own H0 G H l ds) (hl : ds.length + es.length ≤ 10000000)
    (k : ∀ l' G' H', Gr M G0 H0 G' H' → Same G G' → Kp G H G' H' → Own H0 G' H' l' (ds ++ es) → Dn.nx (σ.set j (some (.ref l'))) H') : tAsg (tOp rCat (tVar i) te) (gName j) Dn σ H := by
  refine ⟨_, hv, he H g.s _ fun v G1 H1 g1 r1 => ?_⟩
  obtain ⟨b, zs, rfl, hb, hz⟩ := r1
  have o1 := o.kp g1.g g1.kp
  obtain ⟨vs, e, r, hlen⟩ := o1.len
  refine ⟨l, b, vs, zs, rfl, rfl, e, g1.s b _ hb, by rw [hlen, hz.len]; exact Nat.le_trans hl (by decide), fun p hp => ?_⟩
  have gg := g.call g1
  refine k p G1 _ (gg.tmp hp) g1.g ?_ ⟨gg.free hp, gg.gfree hp, vs ++ zs, upd_same, r.app hz⟩
  exact fun a o e => ⟨by rw [upd_ne (ne_of_none (g1.kp a o e).1 hp)]; exact (g1.kp a o e).1, (g1.kp a o e).2⟩
theorem rdc_min {G : Hp} {i j : Int} : Rdc (fun xs H Q => ∃ i j, xs = [.int i, .int j] ∧ Q (.int (if j < i then j else i)) H) G [.int i, .int j] (.int (if j < i then j else i)) := fun xs H s r Q q => by
  obtain ⟨v, _, rfl, h, u, _, rfl, h2, rfl⟩ := r
  cases (show v = .int i from h)
  cases (show u = .int j from h2)
  exact ⟨i, j, rfl, q _ G H (gr0 s) rfl⟩
end Kd
namespace K18
open PySem PySem.Spec PyProof.Rows L2 Kd
def spPool (K : PySem.W.Frag) : Sp := fun vs H Q _ => ∃ (a : Addr) (ns : List Int) (G : Hp), vs = [.ref a] ∧ Same G H ∧ (∀ H, Same G H → SqL K H a (ns.map V.int)) ∧ ns.length ≤ 63 ∧ ∀ p G' H', Gr [] G H G' H' → PoolAt p G' H' → H p = none → Q (.ref p) H'
section
variable {P : Program} {w : World} {K : PySem.W.Frag} {mg : Str → Option Value} {base : Heap}
abbrev N_law_pool : List Str := ["script", "pool", "state", "k", "cell", "step", "one", "two"]
theorem sc_law_pool : FnScope ["script", "pool", "state", "k", "cell", "step", "one", "two"] ["script"] (defScope s_law_pool) := ⟨rfl, rfl, rfl, by decide +kernel, rfl, by decide +kernel, by decide +kernel⟩
theorem ok_law_pool (T : Tx K mg) : Good P w K mg base CX0 "_law_pool" 2 ["script"] (spPool K) := by
  obtain ⟨fd, F⟩ := T.f__law_pool
  refine ⟨T.m__law_pool, F.kp, fd, ?_, F.bindsN fun _ _ _ _ _ _ us hl => match us, hl with | [_], _ => rfl⟩
  refine F.ok sc_law_pool (fun vs H Q E h => ?_) (fun cdv A outer s H vs Q E hr h => ?_)
  · obtain ⟨a, ns, G, rfl, _⟩ := h
    rfl
  · obtain ⟨a, ns, G, rfl, s0, hs, hlen, k⟩ := h
    refine ⟨_, PSs.nox ((pss_cons (ps_set (i := 1) sc_law_pool.nd rfl (Or.inl rfl) (pe_lst (pa_cons pe_int pa_nil)))
    (pss_cons (ps_set (i := 2) sc_law_pool.nd rfl (Or.inl rfl) pe_int)
    (pss_cons (ps_for PassesOwn.never rfl (pi_range1 (by rfl) T.n_range (pa_cons (pe_callB (call_min2 rfl) (by rfl) T.n_min (by decide +kernel) (pa_cons (pe_callB call_len_seq (by rfl) T.n_len PySem.boot_len (pa_cons (pv 0) pa_nil)) (pa_cons pe_int pa_nil))) pa_nil)) (pg_name (i := 3) sc_law_pool.nd rfl (Or.inl rfl)) (pss_cons (ps_set (i := 4) sc_law_pool.nd rfl (Or.inl rfl) (pe_op op_mod (pe_callTy call_int1 (by rfl) T.n_int (by decide +kernel) (pa_cons (pe_ix ix_list (pv 0) (pv 3) (fun _ _ => rfl)) pa_nil)) (pe_op op_pow pe_int pe_int)))
    (pss_cons (ps_set (i := 2) sc_law_pool.nd rfl (Or.inl rfl) (pe_op op_mod (pe_callTy call_int1 (by rfl) T.n_int (by decide +kernel) (pa_cons (pe_op op_add (pe_op op_add (pe_op op_mul (pv 2) pe_int) (pe_op op_mul (pv 4) pe_int)) (pv 3)) pa_nil)) pe_int))
    (pss_one (ps_if (pt_cmpR op_ge (pv 4) (pe_op op_pow pe_int pe_int) (nomark _)) (pss_one (ps_for PassesOwn.never rfl (pi_range1 (by rfl) T.n_range (pa_cons pe_int pa_nil)) (pg_name (i := 5) sc_law_pool.nd rfl (Or.inl rfl)) (pss_cons (ps_if (pt_cmpR op_eq (pv 4) pe_int (nomark _)) (pss_one ps_break) pss_nil)
    (pss_cons (ps_expr (pe_bm PySem.F.plainAttrs_list PySem.F.slot_list_append PySem.F.type_list_append mt_append (pv 1) (pa_cons (pe_op op_mod (pe_callTy call_int1 (by rfl) T.n_int (by decide +kernel) (pa_cons (pv 4) pa_nil)) pe_int) pa_nil)))
    (pss_one (ps_set (i := 4) sc_law_pool.nd rfl (Or.inl rfl) (pe_op op_fdiv (pv 4) pe_int))))))) (pss_cons (ps_set (i := 6) sc_law_pool.nd rfl (Or.inl rfl) (pe_op op_mod (pe_callTy call_int1 (by rfl) T.n_int (by decide +kernel) (pa_cons (pe_op op_add (pe_op op_add (pe_op op_mul (pv 4) pe_int) (pe_op op_mul (pv 3) pe_int)) pe_int) pa_nil)) pe_int))
    (pss_cons (ps_set (i := 7) sc_law_pool.nd rfl (Or.inl rfl) (pe_op op_mod (pe_callTy call_int1 (by rfl) T.n_int (by decide +kernel) (pa_cons (pe_op op_add (pe_op op_add (pe_op op_mul (pv 6) pe_int) (pe_op op_mul (pv 4) pe_int)) (pv 3)) pa_nil)) pe_int))
    (pss_one (ps_set (i := 1) sc_law_pool.nd rfl (Or.inl rfl) (pe_op op_cat (pv 1) (pe_lst (pa_cons (pe_op op_mod (pe_callTy call_int1 (by rfl) T.n_int (by decide +kernel) (pa_cons (pe_op op_fdiv (pv 6) pe_int) pa_nil)) pe_int) (pa_cons (pe_op op_mod (pe_callTy call_int1 (by rfl) T.n_int (by decide +kernel) (pa_cons (pv 7) pa_nil)) pe_int) pa_nil)))))))))))))
    (pss_cons (ps_for PassesOwn.never rfl (pi_range1 (by rfl) T.n_range (pa_cons pe_int pa_nil)) (pg_name (i := 5) sc_law_pool.nd rfl (Or.inl rfl)) (pss_cons (ps_set (i := 2) sc_law_pool.nd rfl (Or.inl rfl) (pe_op op_mod (pe_callTy call_int1 (by rfl) T.n_int (by decide +kernel) (pa_cons (pe_op op_add (pe_op op_mul (pv 2) pe_int) pe_int) pa_nil)) pe_int))
    (pss_one (ps_expr (pe_bm PySem.F.plainAttrs_list PySem.F.slot_list_append PySem.F.type_list_append mt_append (pv 1) (pa_cons (pe_op op_mod (pe_callTy call_int1 (by rfl) T.n_int (by decide +kernel) (pa_cons (pe_op op_fdiv (pv 2) pe_int) pa_nil)) pe_int) pa_nil))))))
    (pss_one (ps_ret (pv 1)))))))), ?_⟩
    have g := gr0 (M := []) s0
    refine s_seq (o_new (ds := [.int 0]) (eds_cons ed_int eds_nil) (Nat.le_of_ble_eq_true rfl) g fun l0 G1 H1 g s1 k1 ol0 _ => ?_)
    simp only [tNext]
    refine s_seq (s_set' ed_int g fun v2 G2 H2 g s2 k2 r2 => ?_)
    cases (show v2 = .int 17 from r2)
    have ol0 := ol0.kp s2 k2
    have hs2 : ∀ H, Same G2 H → SqL K H a (ns.map V.int) := fun H s => hs H ((s1.trans s2).trans s)
    simp only [tNext]
    have hmin : (if (63 : Int) < (ns.length : Nat) then (63 : Int) else (ns.length : Nat)) = (ns.length : Nat) := by split <;> omega
    refine s_seq (s_for (σ := [some (.ref a), some (.ref l0), some (.int 17), none, none, none, none, none]) (items := (List.range ((ns.length : Nat) : Int).toNat).map fun i => .int ((0 : Int) + (i : Nat))) (es_range1 (n := (ns.length : Nat)) ((ed_cb (eds_cons (ed_lenIn rfl hs2) (eds_cons ed_int eds_nil)) fun _ _ => rdc_min).to (by rw [hmin])) (by omega) (by omega)) g (fun i σ G' H' => Same G2 G' ∧ ∃ (l : Addr) (st : Int) (xs : List Int) (o3 o4 o5 o6 o7 : Option V), σ = [some (.ref a), some (.ref l), some (.int st), o3, o4, o5, o6, o7] ∧ Own H G' H' l (.int 0 :: xs.map .int) ∧ xs.length ≤ 60 * i ∧ (∀ x ∈ xs, 0 ≤ x ∧ x < 60)) (fun G' H' g' s' k' => ⟨s', l0, 17, [], _, _, _, _, _, rfl, ol0.kp s' k', Nat.zero_le _, fun x hx => by simp at hx⟩) ?_ ?_)
    · rintro Gs i d v σ Gi Hi Gj Hj hd sg sgi ⟨si, l, st, xs, o3, o4, o5, o6, o7, rfl, ol, hxl, hxs⟩ g sj kj rv
      have ol := ol.kp sj kj
      have hil : i < ns.length := by
        have := (List.getElem?_eq_some_iff.mp hd).1
        simpa using this
      rw [List.getElem?_map, List.getElem?_range (by simpa using hil)] at hd
      cases hd
      have hi63 : i < 63 := by omega
      obtain ⟨q, rfl, hq⟩ : ∃ q : Int, v = .int q ∧ q = (i : Nat) := ⟨_, rv, by omega⟩
      obtain ⟨c, hc⟩ : ∃ c, ns[i]? = some c := ⟨ns[i], by simp [hil]⟩
      have hat : atI (ns.map V.int) q = some (.int c) := by
        rw [hq]
        exact atI_nat (by rw [List.getElem?_map, hc]; rfl)
      have rI : ∀ {G'} {x : Int}, Rp G' (.int x) (.int x) := rfl
      have hs3 : ∀ H, Same Gj H → SqL K H a (ns.map V.int) := fun H s => hs2 H ((si.trans sj).trans s)
      have hm : (0 : Int) < 60 ^ (60 : Int).toNat := by decide
      have hr0 := Int.emod_nonneg c (b := 60 ^ (60 : Int).toNat) (by decide)
      refine s_seq (s_set' (d := .int (c % 60 ^ (60 : Int).toNat)) (ed_op (ed_int1 (ed_ixIn rfl hs3 (ed_var rfl rI) hat)) (ed_op ed_int ed_int fun _ _ => rd_Ii ⟨by decide, by decide, by decide⟩) fun _ _ => rd_Ii hm) g fun v1 G3 H3 g s3 k3 r1 => ?_)
      generalize c % 60 ^ (60 : Int).toNat = cell at r1 hr0
      cases (show v1 = .int cell from r1)
      have ol := ol.kp s3 k3
      simp only [tNext]
      refine s_seq (s_set' (d := .int ((st * 69621 + cell * 48271 + q) % 2147483647)) (ed_op (ed_int1 (ed_op (ed_op (ed_op (ed_var rfl rI) ed_int fun _ _ => rd_Ii (.inr ⟨by decide, by decide⟩)) (ed_op (ed_var rfl rI) ed_int fun _ _ => rd_Ii (.inr ⟨by decide, by decide⟩)) fun _ _ => rd_I0i) (ed_var rfl rI) fun _ _ => rd_I0i)) ed_int fun _ _ => rd_Ii (by decide)) g fun v2 G4 H4 g s4 k4 r2 => ?_)
      generalize (st * 69621 + cell * 48271 + q) % 2147483647 = st2 at r2
      cases (show v2 = .int st2 from r2)
      have ol := ol.kp s4 k4
      have sG4 := sgi.trans (sj.trans (s3.trans s4))
      have s24 := si.trans (sj.trans (s3.trans s4))
      simp only [tNext]
      refine s_if' (eb_test (ed_op (ed_var rfl rI) (ed_op ed_int ed_int fun _ _ => rd_Ii ⟨by decide, by decide, by decide⟩) fun _ _ => rd_I0b)) g (fun hb H5 g k5 => ?_) fun hb H5 g k5 => ?_
      · have ol := ol.kp (Same.refl _) k5
        refine s_for (σ := [some (.ref a), some (.ref l), some (.int st2), some (.int q), some (.int cell), o5, o6, o7]) (items := (List.range (60 : Int).toNat).map fun i => .int ((0 : Int) + (i : Nat))) (es_range1 (n := 60) ed_int (by decide) (by decide)) g (fun j σ G' H' => Same G4 G' ∧ ∃ (cell : Int) (xs' : List Int) (o5 : Option V), σ = [some (.ref a), some (.ref l), some (.int st2), some (.int q), some (.int cell), o5, o6, o7] ∧ 0 ≤ cell ∧ Own H G' H' l (.int 0 :: xs'.map .int) ∧ xs'.length ≤ 60 * i + j ∧ (∀ x ∈ xs', 0 ≤ x ∧ x < 60) ∧ j ≤ 60) (fun G' H' g' s' k' => ⟨s', cell, xs, _, rfl, hr0, ol.kp s' k', hxl, hxs, Nat.zero_le _⟩) ?_ ?_
        · rintro Gs' j d' v' σ' Gk Hk Gl Hl hd' sg' sgk ⟨sk, cell, xs', o5, rfl, hr0, ol, hxl', hxs', hj60⟩ g sl kl rv'
          have ol := ol.kp sl kl
          have hjl : j < 60 := by
            have := (List.getElem?_eq_some_iff.mp hd').1
            simpa using this
          have hd0 := Int.emod_nonneg cell (b := 60) (by decide)
          have hd1 := Int.emod_lt_of_pos cell (b := 60) (by decide)
          refine s_seq (s_if' (eb_test (ed_op (ed_var rfl rI) ed_int fun _ _ => rd_eq rfl)) g (fun hb H7 g k7 => ?_) fun hb H7 g k7 => ?_)
          · simp only [tBreak]
            exact ⟨Gl, g, sG4.trans (sk.trans sl), s24.trans (sk.trans sl), l, st2, _, _, _, _, _, _, rfl, ol.kp (Same.refl _) k7, by omega, hxs'⟩
          · have ol := ol.kp (Same.refl _) k7
            simp only [tNext]
            refine s_seq (o_append (d := .int (cell % 60)) rfl (ed_op (ed_int1 (ed_var rfl rI)) ed_int fun _ _ => rd_Ii (by decide)) g ol (by simp; omega) fun G5 H5 g s5 ol _ _ => ?_)
            simp only [tNext]
            refine s_set' (d := .int (cell / 60)) (ed_op (ed_var rfl rI) ed_int fun _ _ => rd_Ii ⟨by decide, by decide⟩) g fun v6 G6 H6 g s6 k6 r6 => ?_
            have hq0 : 0 ≤ cell / 60 := by omega
            have ol := ol.kp s6 k6
            have eapp : ((D.int 0 :: xs'.map .int) ++ [.int (cell % 60)]) = .int 0 :: (xs' ++ [cell % 60]).map .int := by simp
            rw [eapp] at ol
            cases (show v6 = .int (cell / 60) from r6)
            refine ⟨G6, g, sgk.trans (sl.trans (s5.trans s6)), sk.trans (sl.trans (s5.trans s6)), cell / 60, _, _, rfl, hq0, ol, by simp; omega, fun x hx => ?_, by omega⟩
            rcases List.mem_append.mp hx with h | h
            · exact hxs' x h
            · rw [List.mem_singleton.mp h]; exact ⟨hd0, hd1⟩
        · rintro σ' G5 H5 g s5 ⟨sk, cell, xs', o5, rfl, hr0, ol, hxl', hxs', hj60⟩
          exact ⟨G5, g, sG4.trans sk, s24.trans sk, l, st2, xs', _, _, _, _, _, rfl, ol, by omega, hxs'⟩
      · have ol := ol.kp (Same.refl _) k5
        refine s_seq (s_set' (d := .int ((cell * 48271 + q * 69621 + 7) % 2147483647)) (ed_op (ed_int1 (ed_op (ed_op (ed_op (ed_var rfl rI) ed_int fun _ _ => rd_Ii (.inr ⟨by decide, by decide⟩)) (ed_op (ed_var rfl rI) ed_int fun _ _ => rd_Ii (.inr ⟨by decide, by decide⟩)) fun _ _ => rd_I0i) ed_int fun _ _ => rd_I0i)) ed_int fun _ _ => rd_Ii (by decide)) g fun v6 G6 H6 g s6 k6 r6 => ?_)
        generalize (cell * 48271 + q * 69621 + 7) % 2147483647 = one at r6
        cases (show v6 = .int one from r6)
        have ol := ol.kp s6 k6
        simp only [tNext]
        refine s_seq (s_set' (d := .int ((one * 16807 + cell * 31 + q) % 1000003)) (ed_op (ed_int1 (ed_op (ed_op (ed_op (ed_var rfl rI) ed_int fun _ _ => rd_Ii (.inr ⟨by decide, by decide⟩)) (ed_op (ed_var rfl rI) ed_int fun _ _ => rd_Ii (.inr ⟨by decide, by decide⟩)) fun _ _ => rd_I0i) (ed_var rfl rI) fun _ _ => rd_I0i)) ed_int fun _ _ => rd_Ii (by decide)) g fun v7 G7 H7 g s7 k7 r7 => ?_)
        generalize (one * 16807 + cell * 31 + q) % 1000003 = two at r7
        cases (show v7 = .int two from r7)
        have ol := ol.kp s7 k7
        simp only [tNext]
        refine o_cat (es := [.int (one / 11 % 60), .int (two % 60)]) rfl (ed_lst (eds_cons (ed_op (ed_int1 (ed_op (ed_var rfl rI) ed_int fun _ _ => rd_Ii ⟨by decide, by decide⟩)) ed_int fun _ _ => rd_Ii (by decide)) (eds_cons (ed_op (ed_int1 (ed_var rfl rI)) ed_int fun _ _ => rd_Ii (by decide)) eds_nil)) (Nat.le_of_ble_eq_true rfl)) g ol (by simp; omega) fun l8 G8 H8 g s8 k8 ol8 => ?_
        have eapp : ((D.int 0 :: xs.map .int) ++ [.int (one / 11 % 60), .int (two % 60)]) = .int 0 :: (xs ++ [one / 11 % 60, two % 60]).map .int := by simp
        rw [eapp] at ol8
        have s48 := s6.trans (s7.trans s8)
        refine ⟨G8, g, sG4.trans s48, s24.trans s48, l8, st2, _, _, _, _, _, _, rfl, ol8, by simp; omega, fun x hx => ?_⟩
        rcases List.mem_append.mp hx with h | h
        · exact hxs x h
        · simp only [List.mem_cons, List.not_mem_nil, or_false] at h
          rcases h with rfl | rfl
          · exact ⟨Int.emod_nonneg _ (by decide), Int.emod_lt_of_pos _ (by decide)⟩
          · exact ⟨Int.emod_nonneg _ (by decide), Int.emod_lt_of_pos _ (by decide)⟩
    · rintro σ G' H' g s' ⟨si, l, st, xs, o3, o4, o5, o6, o7, rfl, ol, hxl, hxs⟩
      rw [List.length_map, List.length_range] at hxl
      have hxl : xs.length ≤ 3780 := by omega
      have rI : ∀ {G'} {x : Int}, Rp G' (.int x) (.int x) := rfl
      dsimp only
      refine s_seq (s_for (σ := [some (.ref a), some (.ref l), some (.int st), o3, o4, o5, o6, o7]) (items := (List.range (300 : Int).toNat).map fun i => .int ((0 : Int) + (i : Nat))) (es_range1 (n := 300) ed_int (by decide) (by decide)) g (fun j σ G'' H'' => Same G' G'' ∧ ∃ (st : Int) (xs' : List Int) (o5 : Option V), σ = [some (.ref a), some (.ref l), some (.int st), o3, o4, o5, o6, o7] ∧ Own H G'' H'' l (.int 0 :: xs'.map .int) ∧ xs'.length = xs.length + j ∧ (∀ x ∈ xs', 0 ≤ x ∧ x < 60)) (fun G' H' g' s' k' => ⟨s', st, xs, _, rfl, ol.kp s' k', rfl, hxs⟩) ?_ ?_)
      · rintro Gs' j d' v' σ' Gk Hk Gl Hl hd' sg' sgk ⟨sk, st, xs', o5, rfl, ol, hxl', hxs'⟩ g sl kl rv'
        have ol := ol.kp sl kl
        have hjl : j < 300 := by
          have := (List.getElem?_eq_some_iff.mp hd').1
          simpa using this
        refine s_seq (s_set' (d := .int ((st * 48271 + 11) % 2147483647)) (ed_op (ed_int1 (ed_op (ed_op (ed_var rfl rI) ed_int fun _ _ => rd_Ii (.inr ⟨by decide, by decide⟩)) ed_int fun _ _ => rd_I0i)) ed_int fun _ _ => rd_Ii (by decide)) g fun v6 G6 H6 g s6 k6 r6 => ?_)
        generalize (st * 48271 + 11) % 2147483647 = st2 at r6
        cases (show v6 = .int st2 from r6)
        have ol := ol.kp s6 k6
        simp only [tNext]
        refine o_append (d := .int (st2 / 97 % 60)) rfl (ed_op (ed_int1 (ed_op (ed_var rfl rI) ed_int fun _ _ => rd_Ii ⟨by decide, by decide⟩)) ed_int fun _ _ => rd_Ii (by decide)) g ol (by simp; omega) fun G7 H7 g s7 ol _ _ => ?_
        have eapp : ((D.int 0 :: xs'.map .int) ++ [.int (st2 / 97 % 60)]) = .int 0 :: (xs' ++ [st2 / 97 % 60]).map .int := by simp
        rw [eapp] at ol
        refine ⟨G7, g, sgk.trans (sl.trans (s6.trans s7)), sk.trans (sl.trans (s6.trans s7)), st2, _, _, rfl, ol, by simp; omega, fun x hx => ?_⟩
        rcases List.mem_append.mp hx with h | h
        · exact hxs' x h
        · rw [List.mem_singleton.mp h]
          exact ⟨Int.emod_nonneg _ (by decide), Int.emod_lt_of_pos _ (by decide)⟩
      · rintro σ' G5 H5 g s5 ⟨sk, st, xs', o5, rfl, ol, hxl', hxs'⟩
        rw [List.length_map, List.length_range] at hxl'
        obtain ⟨vs, ev, rv⟩ := ol.e
        obtain ⟨x1, ws, rfl, h1, h3⟩ := rv
        cases (show x1 = .int 0 from h1)
        have ew : ws = xs'.map V.int := by
          have : ∀ {xs : List Int} {ws : List V}, RpL G5 (xs.map D.int) ws → ws = xs.map V.int := by
            intro xs
            induction xs with
            | nil => intro ws h; exact h
            | cons x xs ih =>
              rintro ws ⟨v, r, rfl, h1, h2⟩
              rw [show v = .int x from h1, ih h2]
              rfl
          exact this h3
        subst ew
        dsimp only
        exact ⟨_, rfl, k l G5 _ g ⟨ol.g, 0, (), xs', ev, by decide, by omega, by omega, hxs', by omega⟩ ol.h0⟩
end
end K18
set_option maxHeartbeats 4000000
namespace Kd
open PySem PySem.Spec PyProof.Rows L2
theorem edp_lstA {p : Addr} {σ : L2.St} {G : Hp} {ta : TA} {P : D → Prop} {n : Nat} (ha : EdsP p ta σ G (AllP P n)) (hn : n ≤ 100000) : EdP p (tLst ta) σ G (fun d => ∃ ds, d = .lst ds ∧ AllP P n ds) := edp_lst ha fun ds h => by rw [h.1]; omega
theorem p_asg {σ : L2.St} {G : Hp} {te : TE} {p : Addr} {M : List Addr} {G0 H0 H : Hp} {Dn : Ends} {P : D → Prop} {gt : TG} (h : EdP p te σ G P) (g : Gr M G0 H0 G H) (hM : p ∈ M) (q : PoolAt p G H) (k : ∀ d v G' H', P d → Gr M G0 H0 G' H' → Same G G' → PoolAt p G' H' → Rp G' d v → gt v σ H' Dn.nx) : tAsg te gt Dn σ H := h H g.s q _ fun d v G' H' hd g1 q1 r => k d v G' H' hd (g.callP g1 hM) g1.g q1 r
theorem s_asg {M : List Addr} {G0 H0 G H : Hp} {Dn : Ends} {σ : L2.St} {te : TE} {gt : TG} {d : D} (h : Ed te σ G d) (g : Gr M G0 H0 G H) (k : ∀ v G' H', Gr M G0 H0 G' H' → Same G G' → Kp G H G' H' → Rp G' d v → gt v σ H' Dn.nx) : tAsg te gt Dn σ H := h H g.s _ fun v G' H' g1 r => k v G' H' (g.call g1) g1.g g1.kp r
end Kd
namespace K18
open PySem PySem.Spec PyProof.Rows L2 Kd
section
variable {P : Program} {w : World} {K : PySem.W.Frag} {mg : Str → Option Value} {base : Heap}
theorem edp_oneOf {σ : L2.St} {G : Hp} {p : Addr} {i : Nat} {te ta : TE} {E : XK} {m : Int} {ds : List D} (hv : σ[i]? = some (some (.ref p))) (hl : Ed ta σ G (.lst ds)) (h : Ed te σ G (.int m)) (hm : 0 < m) (hlen : (ds.length : Int) = m) :
    EdP p (tOp (rIxL K) ta (tCall (spP pMany rMany) [] E (tCons (tVar i) (tCons te tNil)))) σ G (fun d => d ∈ ds) :=
  edp_op (Ed.pl hl) (edp_pick hv h hm) fun d e hd he => by
    subst hd
    obtain ⟨r, rfl, h0, h1⟩ := he
    obtain ⟨j, rfl⟩ := Int.eq_ofNat_of_zero_le h0
    have hj : j < ds.length := by omega
    exact ⟨ds[j], List.getElem_mem hj, fun _ _ => rd_ixL (atI_nat (by simp [hj]))⟩
abbrev ltS (a b : Str) : Prop := a.cps.toList < b.cps.toList
structure WordsOk (ws : List Str) : Prop where
  sm : ∀ z ∈ ws, isSmall (.str z) = true ∧ z.length ≤ 12
  up : ws.Pairwise ltS
  len : ws.length ≤ 5
def flB (f : Int) : Fl → Prop
  | .pre => True
  | .num n => 0 ≤ n ∧ n < f
structure RoIn (ws : List Str) (f t : Int) (r : Ro) : Prop where
  sub : (r.ns.map (·.1)).Sublist ws
  fl : ∀ p ∈ r.ns, flB f p.2
  tl : 0 ≤ r.t ∧ r.t < t
theorem rising_pw : ∀ {fs : List (Str × Fl)}, (fs.map (·.1)).Pairwise ltS → rising (fs.map nmD) = true
  | [], _ => rfl
  | [p], _ => rfl
  | p :: q :: fs, h => by
    rw [List.map_cons, List.pairwise_cons] at h
    have ih := rising_pw (fs := q :: fs) h.2
    have lt : p.1.cps.toList < q.1.cps.toList := h.1 q.1 (by simp)
    show (decide (p.1.cps.toList < q.1.cps.toList) && rising ((q :: fs).map nmD)) = true
    rw [decide_eq_true lt, ih]
    rfl
theorem RoIn.ok {ws : List Str} {f t : Int} {r : Ro} (hw : WordsOk ws) (h : RoIn ws f t r) : okRo r := by
  refine ⟨?_, fun p hp => ?_, rising_pw (List.Pairwise.sublist h.sub hw.up), h.tl.1⟩
  · have := h.sub.length_le
    rw [List.length_map] at this
    have := hw.len
    omega
  · obtain ⟨h1, h2⟩ := hw.sm p.1 (h.sub.subset (List.mem_map_of_mem hp))
    refine ⟨h1, h2, ?_⟩
    have := h.fl p hp
    cases hq : p.2 with
    | pre => trivial
    | num n => rw [hq] at this; exact this.1
def pRow : List D → Prop := fun ds => ∃ (ws : List Str) (f t : Int), ds = [.lst (ws.map .str), .int f, .int t] ∧ ws.length ≤ 5 ∧ 0 < f ∧ 0 < t
def rRowL : List D → D → Prop := fun ds d => ∃ (ws : List Str) (f t : Int) (r : Ro), ds = [.lst (ws.map .str), .int f, .int t] ∧ d = r.d ∧ RoIn ws f t r
abbrev N_law_row : List Str := ["pool", "words", "flags", "tails", "named", "word", "flag"]
theorem sc_law_row : FnScope ["pool", "words", "flags", "tails", "named", "word", "flag"] ["pool", "words", "flags", "tails"] (defScope s_law_row) := ⟨rfl, rfl, rfl, by decide +kernel, rfl, by decide +kernel, by decide +kernel⟩
theorem ok_law_row (T : Tx K mg) : Good P w K mg base CX0 "_law_row" 3 ["pool", "words", "flags", "tails"] (spP pRow rRowL) := by
  obtain ⟨fd, F⟩ := T.f__law_row
  refine ⟨T.m__law_row, F.kp, fd, ?_, F.bindsN fun _ _ _ _ _ _ us hl => match us, hl with | [_, _, _, _], _ => rfl⟩
  have G_law_pick := ok_law_pick (P := P) (w := w) (base := base) T
  refine F.ok sc_law_row (fun vs H Q E h => ?_) (fun cdv A outer s H vs Q E hr h => ?_)
  · obtain ⟨p, vs', G, ds, rfl, _, _, r, ⟨ws, f, t, rfl, _⟩, _⟩ := h
    show _ + 1 = _
    rw [r.len]
    rfl
  · obtain ⟨p, vs', G, ds, rfl, s0, hq, r, ⟨ws, f, t, rfl, hwl, hf, ht⟩, k⟩ := h
    obtain ⟨v1, _, rfl, r_words, v2, _, rfl, r_flags, v3, _, rfl, r_tails, rfl⟩ := r
    cases (show v2 = .int f from r_flags)
    cases (show v3 = .int t from r_tails)
    refine ⟨_, PSs.nox ((pss_cons (ps_set (i := 4) sc_law_row.nd rfl (Or.inl rfl) (pe_lst pa_nil))
    (pss_cons (ps_for PassesOwn.never rfl (pi_list (pv 1)) (pg_name (i := 5) sc_law_row.nd rfl (Or.inl rfl)) (pss_cons (ps_set (i := 6) sc_law_row.nd rfl (Or.inl rfl) (pe_ix ix_list (pe_lst (pa_cons pe_str (pa_cons pe_str (pa_cons pe_str (pa_cons pe_str (pa_cons pe_str (pa_cons pe_str pa_nil))))))) (pe_g G_law_pick (hr.mono (by decide)) (pa_cons (pv 0) (pa_cons pe_int pa_nil))) (fun _ _ => rfl)))
    (pss_one (ps_if (pt_cmpR op_ne (pv 6) pe_str (nomark _)) (pss_one (ps_expr (pe_bm PySem.F.plainAttrs_list PySem.F.slot_list_append PySem.F.type_list_append mt_append (pv 4) (pa_cons (pe_tup (pa_cons (pv 5) (pa_cons (pe_ifExp (pt_cmpR op_eq (pv 6) pe_str (nomark _)) (pe_tup (pa_cons pe_str (pa_cons (pe_g G_law_pick (hr.mono (by decide)) (pa_cons (pv 0) (pa_cons (pv 2) pa_nil))) pa_nil))) (pv 6)) pa_nil))) pa_nil)))) pss_nil))))
    (pss_one (ps_ret (pe_tup (pa_cons (pv 4) (pa_cons (pe_g G_law_pick (hr.mono (by decide)) (pa_cons (pv 0) (pa_cons (pv 3) pa_nil))) pa_nil)))))))), ?_⟩
    have g := gr0 (M := [p]) s0
    have hp0 := hq.ne
    have rI : ∀ {G'} {x : Int}, Rp G' (.int x) (.int x) := rfl
    refine s_seq (o_new eds_nil (Nat.zero_le _) g fun ln G1 H1 g s1 k1 on _ => ?_)
    have hq := hq.kp k1
    dsimp only
    refine s_seq (s_for (σ := [some (.ref p), some v1, some (.int f), some (.int t), some (.ref ln), none, none]) (items := ws.map .str) (es_list (ed_var rfl (r_words.mono s1))) g (fun i σ G' H' => Same G1 G' ∧ PoolAt p G' H' ∧ ∃ (ns : List (Str × Fl)) (o5 o6 : Option V), σ = [some (.ref p), some v1, some (.int f), some (.int t), some (.ref ln), o5, o6] ∧ Own H G' H' ln (ns.map nmD) ∧ (ns.map (·.1)).Sublist (ws.take i) ∧ ∀ q ∈ ns, flB f q.2) (fun G' H' g' s' k' => ⟨s', hq.kp k', [], _, _, rfl, on.kp s' k', by simp, fun q hq => by simp at hq⟩) ?_ ?_)
    · rintro Gs i d v σ Gi Hi Gj Hj hd sg sgi ⟨si, hq, ns, o5, o6, rfl, on, hsub, hfl⟩ g sj kj rv
      have hq := hq.kp kj
      have on := on.kp sj kj
      rw [List.getElem?_map] at hd
      obtain ⟨z, hz, rfl⟩ := Option.map_eq_some_iff.mp hd
      cases (show v = .str z from rv)
      have rS : ∀ {G'} {x : Str}, Rp G' (.str x) (.str x) := rfl
      have hnl : ns.length ≤ 5 := by
        have := hsub.length_le
        rw [List.length_map, List.length_take] at this
        omega
      refine s_seq (p_set (edp_oneOf (ds := [.str "none", .str "none", .str "none", .str "pre", .str "flag", .str "flag"]) rfl (ed_lst (eds_cons ed_str (eds_cons ed_str (eds_cons ed_str (eds_cons ed_str (eds_cons ed_str (eds_cons ed_str eds_nil)))))) (Nat.le_of_ble_eq_true rfl)) ed_int (by decide) rfl) g (List.mem_singleton.mpr rfl) hq fun d4 v4 G4 H4 hd4 g s4 g4 hq r4 => ?_)
      have on := on.callP g4 hp0
      have keep : ∀ G5 H5, Gr [p] G H G5 H5 → Same Gj G5 → PoolAt p G5 H5 → ∀ (ns' : List (Str × Fl)) (o6 : Option V), Own H G5 H5 ln (ns'.map nmD) → (ns'.map (·.1)).Sublist (ws.take (i + 1)) → (∀ q ∈ ns', flB f q.2) →
          ∃ G', Gr [p] G H G' H5 ∧ Same Gs G' ∧ Same G1 G' ∧ PoolAt p G' H5 ∧ ∃ (ns : List (Str × Fl)) (o5' o6' : Option V), [some (.ref p), some v1, some (.int f), some (.int t), some (.ref ln), some (.str z), o6] = [some (.ref p), some v1, some (.int f), some (.int t), some (.ref ln), o5', o6'] ∧ Own H G' H5 ln (ns.map nmD) ∧ (ns.map (·.1)).Sublist (ws.take (i + 1)) ∧ ∀ q ∈ ns, flB f q.2 :=
        fun G5 H5 g5 s5 hq5 ns' o6 on5 h1 h2 => ⟨G5, g5, sgi.trans (sj.trans s5), si.trans (sj.trans s5), hq5, ns', _, _, rfl, on5, h1, h2⟩
      have hsub1 : (ns.map (·.1)).Sublist (ws.take (i + 1)) := by
        rw [take_snoc hz]
        exact hsub.trans (List.sublist_append_left _ _)
      have hsub2 : ∀ x : Fl, ((ns ++ [(z, x)]).map (·.1)).Sublist (ws.take (i + 1)) := fun x => by
        rw [take_snoc hz, List.map_append]
        exact List.Sublist.append hsub (List.Sublist.refl _)
      simp only [tNext]
      simp only [List.mem_cons, List.not_mem_nil, or_false] at hd4
      have hd5 : d4 = .str "none" ∨ d4 = .str "pre" ∨ d4 = .str "flag" := by
        rcases hd4 with h | h | h | h | h | h
        · exact .inl h
        · exact .inl h
        · exact .inl h
        · exact .inr (.inl h)
        · exact .inr (.inr h)
        · exact .inr (.inr h)
      clear hd4
      rcases hd5 with rfl | rfl | rfl
      · cases (show v4 = .str "none" from r4)
        refine s_if' (eb_test (ed_op (ed_var rfl rS) ed_str fun _ _ => rd_ne rfl)) g (fun hb => nomatch hb) fun _ H5 g k5 => ?_
        exact keep G4 H5 g s4 (hq.kp k5) ns _ (on.kp (Same.refl _) k5) hsub1 hfl
      · cases (show v4 = .str "pre" from r4)
        refine s_if' (eb_test (ed_op (ed_var rfl rS) ed_str fun _ _ => rd_ne rfl)) g (fun _ H5 g k5 => ?_) fun hb => nomatch hb
        refine p_append (P := fun d => d = nmD (z, .pre)) rfl ((edp_tup2 (Ed.pl (ed_var rfl rS)) (edp_if (P := fun d => d = .str "pre") (Eb.pl (Eb.to (c := false) (eb_test (ed_op (ed_var rfl rS) ed_str fun _ _ => rd_eq rfl)) rfl)) (fun hb => nomatch hb) fun _ => (Ed.pl (ed_var rfl rS)))).to ?_) g (List.mem_singleton.mpr rfl) hp0 (hq.kp k5) (on.kp (Same.refl _) k5) (by rw [List.length_map]; omega) fun d6 G6 H6 hd6 g s6 hq on _ => ?_
        · rintro d ⟨x, y, rfl, rfl, rfl⟩
          rfl
        · rw [hd6, ← List.map_singleton (f := nmD), ← List.map_append] at on
          refine keep G6 H6 g (s4.trans s6) hq (ns ++ [(z, .pre)]) _ on (hsub2 _) fun q hq => ?_
          rcases List.mem_append.mp hq with h | h
          · exact hfl q h
          · rw [List.mem_singleton.mp h]; exact trivial
      · cases (show v4 = .str "flag" from r4)
        refine s_if' (eb_test (ed_op (ed_var rfl rS) ed_str fun _ _ => rd_ne rfl)) g (fun _ H5 g k5 => ?_) fun hb => nomatch hb
        refine p_append (P := fun d => ∃ n : Int, d = nmD (z, .num n) ∧ 0 ≤ n ∧ n < f) rfl ((edp_tup2 (Ed.pl (ed_var rfl rS)) (edp_if (P := fun d => ∃ n : Int, d = .tup [.str "flag", .int n] ∧ 0 ≤ n ∧ n < f) (Eb.pl (Eb.to (c := true) (eb_test (ed_op (ed_var rfl rS) ed_str fun _ _ => rd_eq rfl)) rfl)) (fun _ => (edp_tup2 (Ed.pl ed_str) (edp_pick rfl (ed_var rfl rI) hf)).to ?_) fun hb => nomatch hb)).to ?_) g (List.mem_singleton.mpr rfl) hp0 (hq.kp k5) (on.kp (Same.refl _) k5) (by rw [List.length_map]; omega) fun d6 G6 H6 hd6 g s6 hq on _ => ?_
        · rintro d ⟨x, y, rfl, rfl, n, rfl, h0, h1⟩
          exact ⟨n, rfl, h0, h1⟩
        · rintro d ⟨x, y, rfl, rfl, n, rfl, h0, h1⟩
          exact ⟨n, rfl, h0, h1⟩
        · obtain ⟨n, rfl, h0, h1⟩ := hd6
          rw [← List.map_singleton (f := nmD), ← List.map_append] at on
          refine keep G6 H6 g (s4.trans s6) hq (ns ++ [(z, .num n)]) _ on (hsub2 _) fun q hq => ?_
          rcases List.mem_append.mp hq with h | h
          · exact hfl q h
          · rw [List.mem_singleton.mp h]; exact ⟨h0, h1⟩
    · rintro σ G' H' g s' ⟨si, hq, ns, o5, o6, rfl, on, hsub, hfl⟩
      rw [List.length_map, List.take_length] at hsub
      obtain ⟨G9, g, s9, r_named, _, nn⟩ := on.frz g
      have hq : PoolAt p G9 H' := ⟨nn p (fun z => hp0 (by rw [z]; exact on.h0)) hq.g, hq.e⟩
      dsimp only
      refine p_ret (P := fun d => ∃ n : Int, d = .tup [.lst (ns.map nmD), .int n] ∧ 0 ≤ n ∧ n < t) ((edp_tup2 (Ed.pl (ed_var rfl r_named)) (edp_pick rfl (ed_var rfl rI) ht)).to ?_) g (List.mem_singleton.mpr rfl) hq fun d v G' H' hd g hq r => ?_
      · rintro d ⟨x, y, rfl, rfl, n, rfl, h0, h1⟩
        exact ⟨n, rfl, h0, h1⟩
      · obtain ⟨n, rfl, h0, h1⟩ := hd
        exact k _ v G' H' ⟨ws, f, t, ⟨ns, n⟩, rfl, rfl, hsub, hfl, h0, h1⟩ g hq r
end
end K18
set_option maxHeartbeats 4000000
/-! Tables of heads: rows of nodes whose parts are places of earlier ones. -/
namespace K18
open PySem PySem.Spec PyProof.Rows L2 Kd
abbrev He2 := Nd × List Nat
def hdD (h : He2) : D := build h.1 (h.2.map fun i => D.int (i : Nat))
def leafT : Tr := .mk .pair []
def mkT (acc : List Tr) (h : He2) : Tr := .mk h.1 (h.2.map fun i => acc.getD i leafT)
def trsF : List Tr → List He2 → List Tr
  | acc, [] => acc
  | acc, h :: tb => trsF (acc ++ [mkT acc h]) tb
def trs (tb : List He2) : List Tr := trsF [] tb
theorem trsF_snoc : ∀ (tb : List He2) (acc : List Tr) (h : He2), trsF acc (tb ++ [h]) = trsF acc tb ++ [mkT (trsF acc tb) h]
  | [], acc, h => rfl
  | x :: tb, acc, h => by rw [List.cons_append, trsF, trsF_snoc tb, trsF]
theorem trs_snoc (tb : List He2) (h : He2) : trs (tb ++ [h]) = trs tb ++ [mkT (trs tb) h] := trsF_snoc tb [] h
theorem snoc_ind {α : Type} {Pp : List α → Prop} (h0 : Pp []) (h1 : ∀ l a, Pp l → Pp (l ++ [a])) : ∀ l, Pp l := by
  intro l
  rw [← List.reverse_reverse l]
  induction l.reverse with
  | nil => exact h0
  | cons a l ih => rw [List.reverse_cons]; exact h1 _ _ ih
theorem trs_len : ∀ tb : List He2, (trs tb).length = tb.length := by
  refine snoc_ind rfl fun l a ih => ?_
  rw [trs_snoc, List.length_append, List.length_append, ih]
  rfl
theorem trs_app (tb more : List He2) : ∃ ts, trs (tb ++ more) = trs tb ++ ts := by
  refine snoc_ind (Pp := fun more => ∃ ts, trs (tb ++ more) = trs tb ++ ts) ⟨[], by simp⟩ (fun l a ⟨ts, ih⟩ => ?_) more
  exact ⟨ts ++ [mkT (trs (tb ++ l)) a], by rw [← List.append_assoc, trs_snoc, ih, List.append_assoc]⟩
theorem trs_stay {tb more : List He2} {i : Nat} (h : i < tb.length) : (trs (tb ++ more))[i]? = (trs tb)[i]? := by
  obtain ⟨ts, e⟩ := trs_app tb more
  rw [e, List.getElem?_append_left (by rw [trs_len]; exact h)]
/-- what a label may be -/
def labIn (ws : List Str) (f t L : Int) : Nd → Prop
  | .letter n => 0 ≤ n ∧ n < L
  | .func r => RoIn ws f t r
  | .data _ m => (m : Int) ≤ L + 5
  | _ => True
structure HeOk (ws : List Str) (f t L : Int) (j : Nat) (h : He2) : Prop where
  ok : okNd h.1
  len : h.2.length = h.1.many
  ref : ∀ i ∈ h.2, i < j
  lab : labIn ws f t L h.1
def TabOk (ws : List Str) (f t L : Int) (tb : List He2) : Prop := ∀ j h, tb[j]? = some h → HeOk ws f t L j h
section
variable {ws : List Str} {f t L : Int} {tb : List He2} {h : He2}
theorem TabOk.nil : TabOk ws f t L [] := fun j h e => by simp at e
theorem TabOk.snoc (k : TabOk ws f t L tb) (o : HeOk ws f t L tb.length h) : TabOk ws f t L (tb ++ [h]) := fun j x e => by
  by_cases hj : j < tb.length
  · rw [List.getElem?_append_left hj] at e
    exact k j x e
  · have hj2 : j = tb.length := by
      have := (List.getElem?_eq_some_iff.mp e).1
      simp at this
      omega
    subst hj2
    rw [List.getElem?_append_right (Nat.le_refl _), Nat.sub_self] at e
    cases e
    exact o
theorem TabOk.init {h : He2} (k : TabOk ws f t L (tb ++ [h])) : TabOk ws f t L tb ∧ HeOk ws f t L tb.length h := ⟨fun j x e => k j x (by rw [List.getElem?_append_left (List.getElem?_eq_some_iff.mp e).1]; exact e), k tb.length h (by rw [List.getElem?_append_right (Nat.le_refl _), Nat.sub_self]; rfl)⟩
theorem getD_mem {α : Type} {l : List α} {i : Nat} {d : α} (h : i < l.length) : l.getD i d ∈ l := by
  rw [List.getD_eq_getElem?_getD, List.getElem?_eq_getElem h]
  exact List.getElem_mem h
theorem trs_ok : ∀ {tb : List He2}, TabOk ws f t L tb → ∀ u ∈ trs tb, okT id u := by
  intro tb
  refine snoc_ind (Pp := fun tb => TabOk ws f t L tb → ∀ u ∈ trs tb, okT id u) (fun _ u hu => by simp [trs, trsF] at hu) (fun l a ih k u hu => ?_) tb
  obtain ⟨k1, k2⟩ := k.init
  rw [trs_snoc] at hu
  rcases List.mem_append.mp hu with hu | hu
  · exact ih k1 u hu
  · rw [List.mem_singleton.mp hu]
    refine .mk k2.ok (by rw [List.length_map]; exact k2.len) fun x hx => ?_
    obtain ⟨i, hi, rfl⟩ := List.mem_map.mp hx
    exact ih k1 _ (getD_mem (by rw [trs_len]; exact k2.ref i hi))
theorem trs_lab : ∀ {tb : List He2}, TabOk ws f t L tb → ∀ u ∈ trs tb, ∀ a ∈ lbl u, ∃ h ∈ tb, h.1 = a := by
  intro tb
  refine snoc_ind (Pp := fun tb => TabOk ws f t L tb → ∀ u ∈ trs tb, ∀ a ∈ lbl u, ∃ h ∈ tb, h.1 = a) (fun _ u hu => by simp [trs, trsF] at hu) (fun l x ih k u hu a ha => ?_) tb
  obtain ⟨k1, k2⟩ := k.init
  rw [trs_snoc] at hu
  rcases List.mem_append.mp hu with hu | hu
  · obtain ⟨h, hh, e⟩ := ih k1 u hu a ha
    exact ⟨h, List.mem_append_left _ hh, e⟩
  · rw [List.mem_singleton.mp hu, mkT, lbl] at ha
    rcases List.mem_cons.mp ha with rfl | ha
    · exact ⟨x, by simp, rfl⟩
    · obtain ⟨y, hy, hay⟩ := mem_lblL.mp ha
      obtain ⟨i, hi, rfl⟩ := List.mem_map.mp hy
      obtain ⟨h, hh, e⟩ := ih k1 _ (getD_mem (by rw [trs_len]; exact k2.ref i hi)) a hay
      exact ⟨h, List.mem_append_left _ hh, e⟩
theorem TabOk.mem (k : TabOk ws f t L tb) (hm : h ∈ tb) : okNd h.1 ∧ h.2.length = h.1.many ∧ labIn ws f t L h.1 := by
  obtain ⟨j, hj, e⟩ := List.mem_iff_getElem.mp hm
  have := k j h (by rw [List.getElem?_eq_getElem hj, e])
  exact ⟨this.ok, this.len, this.lab⟩
theorem RoIn.mono {f' t' : Int} {r : Ro} (h : RoIn ws f t r) (hf : f ≤ f') (ht : t ≤ t') : RoIn ws f' t' r := ⟨h.sub, fun p hp => by
  have := h.fl p hp
  cases hq : p.2 with
  | pre => trivial
  | num n => rw [hq] at this; exact ⟨this.1, Int.lt_of_lt_of_le this.2 hf⟩, h.tl.1, Int.lt_of_lt_of_le h.tl.2 ht⟩
theorem labIn.mono {f' t' L' : Int} {a : Nd} (h : labIn ws f t L a) (hf : f ≤ f') (ht : t ≤ t') (hL : L ≤ L') : labIn ws f' t' L' a := by
  cases a with
  | letter n => exact ⟨h.1, Int.lt_of_lt_of_le h.2 hL⟩
  | func r => exact RoIn.mono h hf ht
  | data s m => exact Int.le_trans (show (m : Int) ≤ L + 5 from h) (by omega)
  | _ => trivial
theorem TabOk.mono {f' t' L' : Int} (k : TabOk ws f t L tb) (hf : f ≤ f') (ht : t ≤ t') (hL : L ≤ L') : TabOk ws f' t' L' tb := fun j h e => by
  have o := k j h e
  exact ⟨o.ok, o.len, o.ref, o.lab.mono hf ht hL⟩
end
/-- sums of sizes -/
theorem cntL_map (l : List Nat) (acc : List Tr) (sz : Nat → Nat) (h : ∀ i ∈ l, cntT (acc.getD i leafT) ≤ sz i) : cntL (l.map fun i => acc.getD i leafT) ≤ (l.map sz).sum := by
  induction l with
  | nil => exact Nat.le_refl _
  | cons i l ih =>
    have h1 := h i (by simp)
    have h2 := ih fun j hj => h j (by simp [hj])
    simp only [List.map_cons, cntL, List.sum_cons]
    omega
end K18
set_option maxHeartbeats 4000000
/-! A comprehension whose things are drawn; two names set to drawn things. -/
namespace Kd
open PySem PySem.Spec PyProof.Rows L2
theorem edp_lcD {σ : L2.St} {G : Hp} {p : Addr} {wi : TI} {g : TG} {te : TE} {P : D → Prop} {items : List D} {vs : List Nat} (hs : Es wi σ G items) (hl : items.length ≤ 10000000)
    (ht : ∀ d, d ∈ items → ∀ G', Same G G' → Tk g (wipe σ vs) G' d fun σ2 G2 => wipe σ2 vs = wipe σ vs ∧ EdP p te σ2 G2 P) :
    EdP p (tLc wi g tYes te vs) σ G (fun d => ∃ ds, d = .lst ds ∧ AllP P items.length ds) := fun H s hq Q q => hs H s _ fun J G1 H1 g1 W D hD => by
  refine lc_it W (fun j Hj => ∃ (Gj : Hp) (acc : List V) (ds : List Kd.D), Gr [p] G H Gj Hj ∧ PoolAt p Gj Hj ∧ Same G1 Gj ∧ Gj D = none ∧ Hj D = some (.lst acc) ∧ ds.length = j ∧ (∀ d ∈ ds, P d) ∧ j ≤ items.length ∧ RpL Gj ds acc) ?_ ?_ ?_ ?_
  · have hq1 := hq.kp g1.kp
    have nD : p ≠ D := fun z => hq1.ne (by rw [z]; exact hD)
    obtain ⟨pl, st, xs, e, r⟩ := hq1.e
    exact ⟨G1, [], [], (g1.pl).tmp hD, ⟨hq1.g, pl, st, xs, by rw [upd_ne nD]; exact e, r⟩, Same.refl _, g1.gfree hD, upd_same, rfl, fun d h => by simp at h, Nat.zero_le _, rfl⟩
  · rintro j Hj _ ⟨Gj, acc, ds, gj, _, sj, _⟩
    exact sj.trans gj.s
  · rintro j x Hj Hj' hj ⟨Gj, acc, ds, gj, qj, sj, hgD, hHD, hdl, hdP, hjl, hr⟩ ⟨d, hd, y⟩
    obtain ⟨Gk, gk, rk⟩ := y Gj sj gj.s
    have hkD : Gk D = none := gk.n D hgD (some_ne hHD)
    have hkH : Hj' D = some (.lst acc) := gk.e D _ hHD
    have gjk := gj.trans gk.pl
    have qk := qj.kp gk.kp
    refine ht d (List.mem_of_getElem? hd) Gk (gjk.g) x Hj' gk.s rk _ fun σ2 h2 => ?_
    obtain ⟨hw, he⟩ := h2
    refine ⟨hw, ?_⟩
    show te σ2 Hj' _
    refine he Hj' gk.s qk _ fun e w G4 H4 hPe g4 q4 r4 => ?_
    have h0 : H D = none := g1.free hD
    have nD : D ≠ p := fun z => hq.ne (by rw [← z]; exact h0)
    have h4D : H4 D = some (.lst acc) := g4.h D _ (by simpa using nD) hkH
    have n4D : G4 D = none := g4.n D hkD (some_ne hkH)
    have gall := gjk.trans g4
    have hal : acc.length = j := by rw [hr.len, hdl]
    obtain ⟨pl, st, xs, e1, r1⟩ := q4.e
    refine ⟨acc, h4D, Nat.lt_of_le_of_lt (Nat.le_of_eq hal) (Nat.lt_of_lt_of_le hj (Nat.le_trans hl (by decide))), G4, acc ++ [w], ds ++ [e], gall.mut n4D h0, ⟨q4.g, pl, st, xs, by rw [upd_ne (Ne.symm nD)]; exact e1, r1⟩, (sj.trans gk.g).trans g4.g, n4D, upd_same, by simp [hdl], fun d' hd' => ?_, hj, (hr.mono (gk.g.trans g4.g)).snoc r4⟩
    rcases List.mem_append.mp hd' with h | h
    · exact hdP d' h
    · rw [List.mem_singleton.mp h]; exact hPe
  · rintro Hj ⟨Gj, acc, ds, gj, qj, sj, hgD, hHD, hdl, hdP, _, hr⟩
    have h0 : H D = none := g1.free hD
    have nD : p ≠ D := fun z => hq.ne (by rw [z]; exact h0)
    refine q (.lst ds) (.ref D) _ _ ⟨ds, rfl, hdl, hdP⟩ (gj.frz hHD hgD h0) ⟨by rw [upd_ne nD]; exact qj.g, qj.e⟩ ⟨D, acc, rfl, upd_same, hr.mono fun a o x => ?_⟩
    rw [upd_ne (ne_of_none x hgD)]
    exact x
section
variable {σ : L2.St} {G : Hp} {p : Addr} {M : List Addr} {G0 H0 H : Hp} {Dn : Ends}
theorem p_par {i j : Nat} {ta : TA} {PP : List D → Prop} (h : EdsP p ta σ G PP) (g : Gr M G0 H0 G H) (hM : p ∈ M) (q : PoolAt p G H) (h2 : ∀ ds, PP ds → ds.length = 2)
    (k : ∀ d e v u G' H', PP [d, e] → Gr M G0 H0 G' H' → Same G G' → Gr [p] G H G' H' → PoolAt p G' H' → Rp G' d v → Rp G' e u → Dn.nx ((σ.set i (some v)).set j (some u)) H') : tPar i j ta Dn σ H := h H g.s q _ fun ds vs G' H' hd g1 q1 r => by
  have hl := h2 ds hd
  match ds, hl with
  | [d, e], _ =>
    obtain ⟨v, r1, rfl, hv, u, r2, rfl, hu, h3⟩ := r
    cases h3
    exact ⟨v, u, rfl, k d e v u G' H' hd (g.callP g1 hM) g1.g g1 q1 hv hu⟩
end
end Kd
set_option maxHeartbeats 4000000
namespace Kd
open PySem PySem.Spec PyProof.Rows L2
theorem p_catO {σ : L2.St} {G : Hp} {p : Addr} {M : List Addr} {G0 H0 H : Hp} {Dn : Ends} {ta tb : TE} {j : Nat} {PA PB : List D → Prop} (ha : EdP p ta σ G (fun d => ∃ ds, d = .lst ds ∧ PA ds)) (hb : EdP p tb σ G (fun d => ∃ ds, d = .lst ds ∧ PB ds)) (hl : ∀ ds es, PA ds → PB es → ds.length + es.length ≤ 10000000) (g : Gr M G0 H0 G H) (hM : p ∈ M) (q : PoolAt p G H)
    (k : ∀ ds es l G' H', PA ds → PB es → Gr M G0 H0 G' H' → Same G G' → PoolAt p G' H' → Own H0 G' H' l (ds ++ es) → Dn.nx (σ.set j (some (.ref l))) H') : tAsg (tOp rCat ta tb) (gName j) Dn σ H := ha H g.s q _ fun d v G1 H1 ⟨ds, e1, hA⟩ g1 q1 r1 => hb.mono g1.g H1 g1.s q1 _ fun e u G2 H2 ⟨es, e2, hB⟩ g2 q2 r2 => by
  subst e1 e2
  obtain ⟨a, xs, rfl, ha, hx⟩ := r1.mono g2.g
  obtain ⟨b, zs, rfl, hb, hz⟩ := r2
  refine ⟨a, b, xs, zs, rfl, rfl, g2.s a _ ha, g2.s b _ hb, by rw [hx.len, hz.len]; exact Nat.le_trans (hl ds es hA hB) (by decide), fun c hc => ?_⟩
  have gg := (g.callP g1 hM).callP g2 hM
  have nc : p ≠ c := fun z => q2.ne (by rw [z]; exact hc)
  obtain ⟨pl, st, ys, e, r⟩ := q2.e
  exact k ds es c G2 _ hA hB (gg.tmp hc) (g1.g.trans g2.g) ⟨q2.g, pl, st, ys, by rw [upd_ne nc]; exact e, r⟩ ⟨gg.free hc, gg.gfree hc, xs ++ zs, upd_same, hx.app hz⟩
theorem rdc_int1 {G : Hp} {i : Int} : Rdc (fun xs H Q => (∃ i, xs = [.int i] ∧ Q (.int i) H) ∨ ∃ k, xs = [.bl k] ∧ Q (.int (if k then 1 else 0)) H) G [.int i] (.int i) := fun xs H s r Q q => by
  obtain ⟨v, _, rfl, h, rfl⟩ := r
  cases (show v = .int i from h)
  exact .inl ⟨i, rfl, q _ G H (gr0 s) rfl⟩
theorem edsp_to {σ : L2.St} {G : Hp} {p : Addr} {ta : TA} {PP QQ : List D → Prop} (h : EdsP p ta σ G PP) (q : ∀ ds, PP ds → QQ ds) : EdsP p ta σ G QQ := fun H s hp Q k => h H s hp Q fun ds vs G' H' hd => k ds vs G' H' (q ds hd)
theorem sel2 {α : Type} {a b : α} {deep : Nat} (h : deep ≤ 1) : atI [a, b] ((deep : Nat) : Int) = some (if deep = 0 then a else b) := by
  match deep, h with
  | 0, _ => exact at0
  | 1, _ => exact at1
end Kd
namespace K18
open PySem PySem.Spec PyProof.Rows L2 Kd
section
variable {P : Program} {w : World} {K : PySem.W.Frag} {mg : Str → Option Value} {base : Heap}
def pTable : List D → Prop := fun ds => ∃ (ws : List Str) (steps : Nat) (L : Int) (deep : Nat), ds = [.lst (ws.map .str), .int (steps : Nat), .int L, .int (deep : Nat)] ∧ WordsOk ws ∧ steps ≤ 200 ∧ 0 < L ∧ deep ≤ 1
structure TabIn (ws : List Str) (L : Int) (steps deep : Nat) (tb : List He2) (sz : List Nat) : Prop where
  ok : TabOk ws 5 3 L tb
  len : 6 ≤ tb.length ∧ tb.length ≤ 6 + steps
  h0 : tb[0]? = some (.plain "int", [])
  szl : sz.length = tb.length
  fit : ∀ (i n : Nat), sz[i]? = some n → cntT ((trs tb).getD i leafT) ≤ n
  top : ∀ n ∈ sz, n ≤ (if deep = 0 then 60 else 1000) ∧ n + 1 ≤ 2 ^ (steps + 1)
def rTable : List D → D → Prop := fun ds d => ∃ (ws : List Str) (steps : Nat) (L : Int) (deep : Nat) (tb : List He2) (sz : List Nat), ds = [.lst (ws.map .str), .int (steps : Nat), .int L, .int (deep : Nat)] ∧ d = .lst (tb.map hdD) ∧ TabIn ws L steps deep tb sz
def tab0 (a b : Int) : List He2 := [(.plain "int", []), (.plain "bool", []), (.plain "unit", []), (.plain "void", []), (.letter a, []), (.letter b, [])]
theorem tab0_in {ws : List Str} {L a b : Int} {deep : Nat} (ha : 0 ≤ a ∧ a < L) (hb : 0 ≤ b ∧ b < L) : TabIn ws L 0 deep (tab0 a b) [1, 1, 1, 1, 1, 1] := by
  have pl : ∀ {w : Str} {j : Nat}, w ∈ thePlain → HeOk ws 5 3 L j (.plain w, []) := fun h => ⟨h, rfl, fun i hi => by simp at hi, trivial⟩
  have lt : ∀ {n : Int} {j : Nat}, 0 ≤ n ∧ n < L → HeOk ws 5 3 L j (.letter n, []) := fun h => ⟨h.1, rfl, fun i hi => by simp at hi, h⟩
  have key := (((((((TabOk.nil (ws := ws) (f := 5) (t := 3) (L := L)).snoc (pl (w := "int") (by simp [thePlain]))).snoc (pl (w := "bool") (by simp [thePlain]))).snoc (pl (w := "unit") (by simp [thePlain]))).snoc (pl (w := "void") (by simp [thePlain]))).snoc (lt ha)).snoc (lt hb))
  refine ⟨key, ⟨Nat.le_refl _, Nat.le_refl _⟩, rfl, rfl, fun i n e => ?_, fun n hn => ?_⟩
  · have hi := (List.getElem?_eq_some_iff.mp e).1
    have hi : i < 6 := hi
    have : i = 0 ∨ i = 1 ∨ i = 2 ∨ i = 3 ∨ i = 4 ∨ i = 5 := by omega
    rcases this with rfl | rfl | rfl | rfl | rfl | rfl
    all_goals
      cases e
      exact Nat.le_refl _
  · have : n = 1 := by simpa using hn
    subst this
    refine ⟨by split <;> omega, by decide⟩
theorem TabIn.snoc {ws : List Str} {L : Int} {i deep : Nat} {tb : List He2} {sz : List Nat} (k : TabIn ws L i deep tb sz) {h : He2} {n : Nat} (o : HeOk ws 5 3 L tb.length h) (hn : (h.2.map fun j => sz.getD j 0).sum + 1 ≤ n) (ht : n ≤ (if deep = 0 then 60 else 1000) ∧ n + 1 ≤ 2 ^ (i + 1 + 1)) : TabIn ws L (i + 1) deep (tb ++ [h]) (sz ++ [n]) := by
  refine ⟨k.ok.snoc o, ?_, ?_, ?_, ?_, ?_⟩
  · have := k.len
    rw [List.length_append]
    simp
    omega
  · rw [List.getElem?_append_left (by have := k.len; omega)]
    exact k.h0
  · rw [List.length_append, List.length_append, k.szl]
    rfl
  · intro j m e
    rw [trs_snoc]
    by_cases hj : j < tb.length
    · rw [List.getElem?_append_left (by rw [k.szl]; exact hj)] at e
      rw [List.getD_eq_getElem?_getD, List.getElem?_append_left (by rw [trs_len]; exact hj), ← List.getD_eq_getElem?_getD]
      exact k.fit j m e
    · have hj2 : j = tb.length := by
        have := (List.getElem?_eq_some_iff.mp e).1
        simp [k.szl] at this
        omega
      subst hj2
      rw [List.getElem?_append_right (by rw [k.szl]; exact Nat.le_refl _), k.szl, Nat.sub_self] at e
      cases e
      rw [List.getD_eq_getElem?_getD, List.getElem?_append_right (by rw [trs_len]; exact Nat.le_refl _), trs_len, Nat.sub_self]
      show cntL (h.2.map fun i => (trs tb).getD i leafT) + 1 ≤ n
      have := cntL_map h.2 (trs tb) (fun j => sz.getD j 0) fun j hj => by
        have hjl : j < sz.length := by rw [k.szl]; exact o.ref j hj
        refine k.fit j _ ?_
        rw [List.getD_eq_getElem?_getD, List.getElem?_eq_getElem hjl]
        rfl
      omega
  · intro m hm
    rcases List.mem_append.mp hm with hm | hm
    · have h1 := k.top m hm
      refine ⟨h1.1, Nat.le_trans h1.2 (Nat.pow_le_pow_right (by decide) (Nat.le_succ _))⟩
    · rw [List.mem_singleton.mp hm]
      exact ht
theorem TabIn.more {ws : List Str} {L : Int} {i deep : Nat} {tb : List He2} {sz : List Nat} (k : TabIn ws L i deep tb sz) : TabIn ws L (i + 1) deep tb sz :=
  ⟨k.ok, ⟨k.len.1, by have := k.len.2; omega⟩, k.h0, k.szl, k.fit, fun n hn => ⟨(k.top n hn).1, Nat.le_trans (k.top n hn).2 (Nat.pow_le_pow_right (by decide) (Nat.le_succ _))⟩⟩
abbrev N_law_table : List Str := ["pool", "words", "steps", "letters", "deep", "flags", "tails", "table", "sizes", "step", "many", "one", "other", "sort", "head", "inner", "size", "k"]
theorem sc_law_table : FnScope ["pool", "words", "steps", "letters", "deep", "flags", "tails", "table", "sizes", "step", "many", "one", "other", "sort", "head", "inner", "size", "k"] ["pool", "words", "steps", "letters", "deep"] (defScope s_law_table) := ⟨rfl, rfl, rfl, by decide +kernel, rfl, by decide +kernel, by decide +kernel⟩
theorem ok_law_table (T : Tx K mg) : Good P w K mg base CX0 "_law_table" 4 ["pool", "words", "steps", "letters", "deep"] (spP pTable rTable) := by
  obtain ⟨fd, F⟩ := T.f__law_table
  refine ⟨T.m__law_table, F.kp, fd, ?_, F.bindsN fun _ _ _ _ _ _ us hl => match us, hl with | [_, _, _, _, _], _ => rfl⟩
  have G_law_pick := ok_law_pick (P := P) (w := w) (base := base) T
  have G_law_row := ok_law_row (P := P) (w := w) (base := base) T
  refine F.ok sc_law_table (fun vs H Q E h => ?_) (fun cdv A outer s H vs Q E hr h => ?_)
  · obtain ⟨p, vs', G, ds, rfl, _, _, r, ⟨ws, steps, L, deep, rfl, _⟩, _⟩ := h
    show _ + 1 = _
    rw [r.len]
    rfl
  · obtain ⟨p, vs', G, ds, rfl, s0, hq, r, ⟨ws, steps, L, deep, rfl, hwl, hst, hL, hdp⟩, k⟩ := h
    obtain ⟨v1, _, rfl, r_words, v2, _, rfl, r_steps, v3, _, rfl, r_letters, v4, _, rfl, r_deep, rfl⟩ := r
    cases (show v2 = .int (steps : Nat) from r_steps)
    cases (show v3 = .int L from r_letters)
    cases (show v4 = .int (deep : Nat) from r_deep)
    refine ⟨_, PSs.nox ((pss_cons (ps_par (i := 5) (j := 6) (by rfl) sc_law_table.nd rfl rfl (by decide) rfl rfl (pa_cons (pe_op op_add pe_int (pe_g G_law_pick (hr.mono (by decide)) (pa_cons (pv 0) (pa_cons pe_int pa_nil)))) (pa_cons (pe_op op_add pe_int (pe_g G_law_pick (hr.mono (by decide)) (pa_cons (pv 0) (pa_cons pe_int pa_nil)))) pa_nil)) (by rfl))
    (pss_cons (ps_set (i := 7) sc_law_table.nd rfl (Or.inl rfl) (pe_op op_cat (pe_lst (pa_cons (pe_tup (pa_cons pe_str pa_nil)) (pa_cons (pe_tup (pa_cons pe_str pa_nil)) (pa_cons (pe_tup (pa_cons pe_str pa_nil)) (pa_cons (pe_tup (pa_cons pe_str pa_nil)) pa_nil))))) (pe_lc (own := [("k", 17)]) rfl sc_law_table.nd (pi_range1 (by rfl) T.n_range (pa_cons pe_int pa_nil)) (blkOk_by (own := [("k", 17)]) (N := ["pool", "words", "steps", "letters", "deep", "flags", "tails", "table", "sizes", "step", "many", "one", "other", "sort", "head", "inner", "size", "k"]) (sc := defScope s_law_table) (by decide +kernel)) (fun _ _ _ _ _ => by exact (pg_name (i := 17) sc_law_table.nd rfl (Or.inl rfl))) (fun _ _ _ _ _ => by exact pts_nil) (fun _ _ _ _ _ => by exact (pe_tup (pa_cons pe_str (pa_cons (pe_g G_law_pick (hr.mono (by decide)) (pa_cons (pv 0) (pa_cons (pv 3) pa_nil))) pa_nil)))))))
    (pss_cons (ps_set (i := 8) sc_law_table.nd rfl (Or.inl rfl) (pe_lst (pa_cons pe_int (pa_cons pe_int (pa_cons pe_int (pa_cons pe_int (pa_cons pe_int (pa_cons pe_int pa_nil))))))))
    (pss_cons (ps_for PassesOwn.never rfl (pi_range1 (by rfl) T.n_range (pa_cons (pv 2) pa_nil)) (pg_name (i := 9) sc_law_table.nd rfl (Or.inl rfl)) (pss_cons (ps_set (i := 10) sc_law_table.nd rfl (Or.inl rfl) (pe_callB call_len_seq (by rfl) T.n_len PySem.boot_len (pa_cons (pv 7) pa_nil)))
    (pss_cons (ps_par (i := 11) (j := 12) (by rfl) sc_law_table.nd rfl rfl (by decide) rfl rfl (pa_cons (pe_op op_sub (pe_op op_sub (pv 10) pe_int) (pe_g G_law_pick (hr.mono (by decide)) (pa_cons (pv 0) (pa_cons (pe_ix ix_list (pe_lst (pa_cons pe_int (pa_cons pe_int pa_nil))) (pv 4) (fun _ _ => rfl)) pa_nil)))) (pa_cons (pe_op op_mod (pe_callTy call_int1 (by rfl) T.n_int (by decide +kernel) (pa_cons (pe_g G_law_pick (hr.mono (by decide)) (pa_cons (pv 0) (pa_cons pe_int pa_nil))) pa_nil)) (pe_ix ix_list (pe_lst (pa_cons (pv 10) (pa_cons pe_int pa_nil))) (pv 4) (fun _ _ => rfl))) pa_nil)) (by rfl))
    (pss_cons (ps_if (pt_cmpR op_eq (pe_g G_law_pick (hr.mono (by decide)) (pa_cons (pv 0) (pa_cons pe_int pa_nil))) pe_int (nomark _)) (pss_one (ps_par (i := 11) (j := 12) (by rfl) sc_law_table.nd rfl rfl (by decide) rfl rfl (pa_cons (pv 12) (pa_cons (pv 11) pa_nil)) (by rfl))) pss_nil)
    (pss_cons (ps_set (i := 13) sc_law_table.nd rfl (Or.inl rfl) (pe_g G_law_pick (hr.mono (by decide)) (pa_cons (pv 0) (pa_cons pe_int pa_nil))))
    (pss_cons (ps_if (pt_cmpR op_lt (pv 13) pe_int (nomark _)) (pss_one (ps_set (i := 14) sc_law_table.nd rfl (Or.inl rfl) (pe_tup (pa_cons pe_str (pa_cons (pv 11) (pa_cons (pe_g G_law_row (hr.mono (by decide)) (pa_cons (pv 0) (pa_cons (pv 1) (pa_cons (pv 5) (pa_cons (pv 6) pa_nil))))) (pa_cons (pv 12) pa_nil))))))) (pss_one (ps_if (pt_cmpR op_lt (pv 13) pe_int (nomark _)) (pss_one (ps_set (i := 14) sc_law_table.nd rfl (Or.inl rfl) (pe_tup (pa_cons pe_str (pa_cons (pv 11) (pa_cons (pv 12) pa_nil)))))) (pss_cons (ps_set (i := 15) sc_law_table.nd rfl (Or.inl rfl) (pe_ix ix_list (pe_lst (pa_cons (pe_lst pa_nil) (pa_cons (pe_lst (pa_cons (pv 11) pa_nil)) (pa_cons (pe_lst (pa_cons (pv 11) (pa_cons (pv 12) pa_nil))) (pa_cons (pe_lst (pa_cons (pv 11) (pa_cons (pv 12) pa_nil))) (pa_cons (pe_lst (pa_cons (pv 11) (pa_cons (pv 12) pa_nil))) pa_nil)))))) (pe_op op_add (pe_g G_law_pick (hr.mono (by decide)) (pa_cons (pv 0) (pa_cons pe_int pa_nil))) (pe_op op_mul pe_int (pv 4))) (fun _ _ => rfl)))
    (pss_one (ps_set (i := 14) sc_law_table.nd rfl (Or.inl rfl) (pe_tup (pa_cons pe_str (pa_cons (pe_ix ix_list (pe_lst (pa_cons pe_str (pa_cons pe_str (pa_cons pe_str pa_nil)))) (pe_g G_law_pick (hr.mono (by decide)) (pa_cons (pv 0) (pa_cons pe_int pa_nil))) (fun _ _ => rfl)) (pa_cons (pv 15) pa_nil))))))))))
    (pss_cons (ps_set (i := 16) sc_law_table.nd rfl (Or.inl rfl) (pe_op op_add (pe_op op_add pe_int (pe_ix ix_list (pv 8) (pv 11) (fun _ _ => rfl))) (pe_ix ix_list (pv 8) (pv 12) (fun _ _ => rfl))))
    (pss_one (ps_if (pt_cmpR op_le (pv 16) (pe_ix ix_list (pe_lst (pa_cons pe_int (pa_cons pe_int pa_nil))) (pv 4) (fun _ _ => rfl)) (nomark _)) (pss_cons (ps_expr (pe_bm PySem.F.plainAttrs_list PySem.F.slot_list_append PySem.F.type_list_append mt_append (pv 7) (pa_cons (pv 14) pa_nil)))
    (pss_one (ps_expr (pe_bm PySem.F.plainAttrs_list PySem.F.slot_list_append PySem.F.type_list_append mt_append (pv 8) (pa_cons (pv 16) pa_nil))))) pss_nil)))))))))
    (pss_one (ps_ret (pv 7)))))))), ?_⟩
    have g := gr0 (M := [p]) s0
    have hp0 := hq.ne
    have rI : ∀ {G'} {x : Int}, Rp G' (.int x) (.int x) := rfl
    refine s_seq (p_par (PP := fun ds => ∃ a b : Int, ds = [.int a, .int b] ∧ 1 ≤ a ∧ a ≤ 5 ∧ 1 ≤ b ∧ b ≤ 3) (edsp_to (edsp_cons (edp_op (P3 := fun d => ∃ a : Int, d = .int a ∧ 1 ≤ a ∧ a ≤ 5) (Ed.pl ed_int) (edp_pick rfl ed_int (by decide)) ?_) (edsp_cons (edp_op (P3 := fun d => ∃ a : Int, d = .int a ∧ 1 ≤ a ∧ a ≤ 3) (Ed.pl ed_int) (edp_pick rfl ed_int (by decide)) ?_) edsp_nil)) ?_) g (List.mem_singleton.mpr rfl) hq (fun ds ⟨a, b, e, _⟩ => by rw [e]; rfl) fun d e v u G1 H1 hd g s1 g1 hq rv ru => ?_)
    · rintro d e rfl ⟨r, rfl, h0, h1⟩
      exact ⟨_, ⟨1 + r, rfl, by omega, by omega⟩, fun _ _ => rd_I0i⟩
    · rintro d e rfl ⟨r, rfl, h0, h1⟩
      exact ⟨_, ⟨1 + r, rfl, by omega, by omega⟩, fun _ _ => rd_I0i⟩
    · rintro ds ⟨d, r, rfl, ⟨a, rfl, h0, h1⟩, e, r', rfl, ⟨b, rfl, h2, h3⟩, rfl⟩
      exact ⟨a, b, rfl, h0, h1, h2, h3⟩
    obtain ⟨fl, tl, e, hf1, hf2, ht1, ht2⟩ := hd
    cases e
    cases (show v = .int fl from rv)
    cases (show u = .int tl from ru)
    have r_words := r_words.mono s1
    simp only [tNext]
    refine s_seq (p_catO (PA := fun ds => ds = [.tup [.str "int"], .tup [.str "bool"], .tup [.str "unit"], .tup [.str "void"]]) (PB := AllP (fun d => ∃ n : Int, d = .tup [.str "letter", .int n] ∧ 0 ≤ n ∧ n < L) 2) ((Ed.pl (ed_lst (eds_cons (ed_tup (eds_cons ed_str eds_nil) (Nat.le_of_ble_eq_true rfl)) (eds_cons (ed_tup (eds_cons ed_str eds_nil) (Nat.le_of_ble_eq_true rfl)) (eds_cons (ed_tup (eds_cons ed_str eds_nil) (Nat.le_of_ble_eq_true rfl)) (eds_cons (ed_tup (eds_cons ed_str eds_nil) (Nat.le_of_ble_eq_true rfl)) eds_nil)))) (Nat.le_of_ble_eq_true rfl))).to fun d e => ⟨_, e, rfl⟩) (edp_lcD (items := (List.range (2 : Int).toNat).map fun i => .int ((0 : Int) + (i : Nat))) (P := fun d => ∃ n : Int, d = .tup [.str "letter", .int n] ∧ 0 ≤ n ∧ n < L) (es_range1 (n := 2) ed_int (by decide) (by decide)) (Nat.le_of_ble_eq_true rfl) ?_) (fun ds es h1 h2 => by rw [h1, h2.1]; decide) g (List.mem_singleton.mpr rfl) hq fun ds es lt G2 H2 hA hB g s2 hq ot => ?_)
    · intro d hd G' s
      refine tk_name fun u hu => ⟨rfl, (edp_tup2 (Ed.pl ed_str) (edp_pick rfl (ed_var rfl rI) hL)).to ?_⟩
      rintro d ⟨x, y, rfl, rfl, n, rfl, h0, h1⟩
      exact ⟨n, rfl, h0, h1⟩
    obtain ⟨la, lb, ha, hb, rfl⟩ : ∃ a b : Int, (0 ≤ a ∧ a < L) ∧ (0 ≤ b ∧ b < L) ∧ es = [.tup [.str "letter", .int a], .tup [.str "letter", .int b]] := by
      obtain ⟨h1, h2⟩ := hB
      match es, h1, h2 with
      | [x, y], _, h2 =>
        obtain ⟨a, rfl, ha⟩ := h2 x (by simp)
        obtain ⟨b, rfl, hb⟩ := h2 y (by simp)
        exact ⟨a, b, ha, hb, rfl⟩
    subst hA
    simp only [tNext]
    refine s_seq (o_new (ds := [1, 1, 1, 1, 1, 1].map fun n : Nat => .int (n : Nat)) (eds_cons ed_int (eds_cons ed_int (eds_cons ed_int (eds_cons ed_int (eds_cons ed_int (eds_cons ed_int eds_nil)))))) (Nat.le_of_ble_eq_true rfl) g fun lz G3 H3 g s3 k3 oz ks3 => ?_)
    have hq := hq.kp k3
    obtain ⟨ot, ntz⟩ := ks3 lt _ ot
    have r_words := r_words.mono (s2.trans s3)
    simp only [tNext]
    refine s_seq (s_for (σ := [some (.ref p), some v1, some (.int (steps : Nat)), some (.int L), some (.int (deep : Nat)), some (.int fl), some (.int tl), some (.ref lt), some (.ref lz), none, none, none, none, none, none, none, none, none]) (items := (List.range ((steps : Nat) : Int).toNat).map fun i => .int ((0 : Int) + (i : Nat))) (es_range1 (n := (steps : Nat)) (ed_var rfl rI) (by omega) (by omega)) g (fun i σ G' H' => Same G3 G' ∧ PoolAt p G' H' ∧ ∃ (tb : List He2) (sz : List Nat) (o1 o2 o3 o4 o5 o6 o7 o8 o9 : Option V), σ = [some (.ref p), some v1, some (.int (steps : Nat)), some (.int L), some (.int (deep : Nat)), some (.int fl), some (.int tl), some (.ref lt), some (.ref lz), o1, o2, o3, o4, o5, o6, o7, o8, o9] ∧ Own H G' H' lt (tb.map hdD) ∧ Own H G' H' lz (sz.map fun n : Nat => .int (n : Nat)) ∧ TabIn ws L i deep tb sz) (fun G' H' g' s' k' => ⟨s', hq.kp k', tab0 la lb, [1, 1, 1, 1, 1, 1], _, _, _, _, _, _, _, _, _, rfl, ot.kp s' k', oz.kp s' k', tab0_in ha hb⟩) ?_ ?_)
    · rintro Gs i d v σ Gi Hi Gj Hj hd sg sgi ⟨si, hq, tb, sz, o1, o2, o3, o4, o5, o6, o7, o8, o9, rfl, ot, oz, ti⟩ g sj kj rv
      have hil : i < steps := by
        have := (List.getElem?_eq_some_iff.mp hd).1
        simpa using this
      have hq := hq.kp kj
      have ot := ot.kp sj kj
      have oz := oz.kp sj kj
      have r_words := r_words.mono (si.trans sj)
      obtain ⟨hl6, hlm⟩ := ti.len
      obtain ⟨many, hmany⟩ : ∃ many, many = tb.length := ⟨_, rfl⟩
      refine s_seq (o_setS (d := .int (many : Nat)) ot rfl (fun Gx s r => (ed_lenL (ed_var rfl r)).to (by rw [List.length_map, hmany])) g fun vm H5 g k5 r_m => ?_)
      cases (show vm = .int (many : Nat) from r_m)
      have hq := hq.kp k5
      have ot := ot.kp (Same.refl _) k5
      have oz := oz.kp (Same.refl _) k5
      obtain ⟨m1, hm1⟩ : ∃ m1 : Int, m1 = if deep = 0 then 4 else 1 := ⟨_, rfl⟩
      have hm1b : 0 < m1 ∧ m1 ≤ 4 := by rw [hm1]; split <;> decide
      obtain ⟨m2, hm2⟩ : ∃ m2 : Int, m2 = if deep = 0 then (many : Nat) else 6 := ⟨_, rfl⟩
      have hm2b : 0 < m2 ∧ m2 ≤ (many : Nat) := by rw [hm2]; split <;> omega
      have es1 : atI [D.int 4, .int 1] ((deep : Nat) : Int) = some (.int m1) := by rw [sel2 hdp, hm1]; split <;> rfl
      have es2 : atI [D.int (many : Nat), .int 6] ((deep : Nat) : Int) = some (.int m2) := by rw [sel2 hdp, hm2]; split <;> rfl
      simp only [tNext]
      refine s_seq (p_par (PP := fun ds => ∃ a b : Nat, ds = [.int (a : Nat), .int (b : Nat)] ∧ a < many ∧ b < many) (edsp_to (edsp_cons (edp_op (P3 := fun d => ∃ a : Nat, d = .int (a : Nat) ∧ a < many) (Ed.pl (ed_op (ed_var rfl rI) ed_int fun _ _ => rd_I0i)) (edp_pick rfl (ed_op (ed_lst (eds_cons ed_int (eds_cons ed_int eds_nil)) (Nat.le_of_ble_eq_true rfl)) (ed_var rfl rI) fun _ _ => rd_ixL es1) hm1b.1) ?_) (edsp_cons (edp_op (P3 := fun d => ∃ a : Nat, d = .int (a : Nat) ∧ a < many) (edp_cb (P3 := fun d => ∃ r : Int, d = .int r) (edsp_cons (edp_pick rfl ed_int (by decide)) edsp_nil) ?_) (Ed.pl (ed_op (ed_lst (eds_cons (ed_var rfl rI) (eds_cons ed_int eds_nil)) (Nat.le_of_ble_eq_true rfl)) (ed_var rfl rI) fun _ _ => rd_ixL es2)) ?_) edsp_nil)) ?_) g (List.mem_singleton.mpr rfl) hq (fun ds ⟨a, b, e, _⟩ => by rw [e]; rfl) fun d e v u G6 H6 hd6 g s6 g6 hq rv ru => ?_)
      · rintro d e rfl ⟨r, rfl, h0, h1⟩
        obtain ⟨a, ha⟩ := Int.eq_ofNat_of_zero_le (show 0 ≤ ((many : Nat) : Int) - 1 - r by omega)
        exact ⟨_, ⟨a, rfl, by omega⟩, fun _ _ => by rw [← ha]; exact rd_I0i⟩
      · rintro ds ⟨d, r, rfl, ⟨x, rfl, _⟩, rfl⟩
        exact ⟨_, ⟨x, rfl⟩, fun _ _ => rdc_int1⟩
      · rintro d e ⟨r, rfl⟩ rfl
        have h0 := Int.emod_nonneg r (show m2 ≠ 0 by omega)
        have h1 := Int.emod_lt_of_pos r hm2b.1
        obtain ⟨a, ha⟩ := Int.eq_ofNat_of_zero_le h0
        exact ⟨_, ⟨a, rfl, by omega⟩, fun _ _ => by rw [← ha]; exact rd_Ii hm2b.1⟩
      · rintro ds ⟨d, r, rfl, ⟨a, rfl, h0⟩, e, r', rfl, ⟨b, rfl, h1⟩, rfl⟩
        exact ⟨a, b, rfl, h0, h1⟩
      obtain ⟨i1, i2, e12, hi1, hi2⟩ := hd6
      cases e12
      cases (show v = .int (i1 : Nat) from rv)
      cases (show u = .int (i2 : Nat) from ru)
      have ot := ot.callP g6 hp0
      have oz := oz.callP g6 hp0
      have r_words := r_words.mono s6
      simp only [tNext]
      refine s_seq (p_if (PB := fun _ => True) (ebp_test (edp_op (edp_pick rfl ed_int (by decide)) (Ed.pl ed_int) ?_)) g (List.mem_singleton.mpr rfl) hq (fun _ G7 H7 g s7 g7 hq => ?_) fun _ G7 H7 g s7 g7 hq => ?_)
      · rintro d e ⟨r, rfl, _⟩ rfl
        exact ⟨_, ⟨_, rfl, trivial⟩, fun _ _ => rd_eq rfl⟩
      have ot := ot.callP g7 hp0
      have oz := oz.callP g7 hp0
      have r_words := r_words.mono s7
      refine s_par' (d := .int (i2 : Nat)) (e := .int (i1 : Nat)) (eds_cons (ed_var rfl rI) (eds_cons (ed_var rfl rI) eds_nil)) g fun v u G8 H8 g s8 k8 rv ru => ?_
      cases (show v = .int (i2 : Nat) from rv)
      cases (show u = .int (i1 : Nat) from ru)
      have hq := hq.kp k8
      have ot := ot.kp s8 k8
      have oz := oz.kp s8 k8
      have r_words := r_words.mono s8
      have s5 := s6.trans (s7.trans s8)
      have hj1 := hi2
      have hj2 := hi1
      obtain ⟨j1, e1⟩ : ∃ j, j = i2 := ⟨_, rfl⟩
      obtain ⟨j2, e2⟩ : ∃ j, j = i1 := ⟨_, rfl⟩
      subst e1
      subst e2
      rotate_left
      have ot := ot.callP g7 hp0
      have oz := oz.callP g7 hp0
      have r_words := r_words.mono s7
      have s5 := s6.trans s7
      have hj1 := hi1
      have hj2 := hi2
      obtain ⟨j1, e1⟩ : ∃ j, j = i1 := ⟨_, rfl⟩
      obtain ⟨j2, e2⟩ : ∃ j, j = i2 := ⟨_, rfl⟩
      subst e1
      subst e2
      rotate_left 2
      all_goals
        simp only [tNext]
        refine s_seq (p_set (edp_pick rfl ed_int (by decide)) g (List.mem_singleton.mpr rfl) hq fun d v G9 H9 hd9 g s9 g9 hq r9 => ?_)
        obtain ⟨sort, rfl, hso0, hso5⟩ := hd9
        cases (show v = .int sort from r9)
        have ot := ot.callP g9 hp0
        have oz := oz.callP g9 hp0
        have r_words := r_words.mono s9
        have sk := (sgi.trans sj).trans (s5.trans s9)
        have sk3 := (si.trans sj).trans (s5.trans s9)
        clear sgi sj s5 s9 r9
        have hszl := ti.szl
        obtain ⟨n1, hn1⟩ : ∃ n1, n1 = sz.getD j1 0 := ⟨_, rfl⟩
        obtain ⟨n2, hn2⟩ : ∃ n2, n2 = sz.getD j2 0 := ⟨_, rfl⟩
        have at1' : ∀ (j n : Nat), n = sz.getD j 0 → j < many → atI (sz.map fun n : Nat => D.int (n : Nat)) ((j : Nat) : Int) = some (.int (n : Nat)) := fun j n e h => by
          refine atI_nat ?_
          have hj : j < sz.length := by omega
          rw [List.getElem?_map, List.getElem?_eq_getElem hj, e, List.getD_eq_getElem?_getD, List.getElem?_eq_getElem hj]
          rfl
        have r_sort : ∀ {G'}, Rp G' (.int sort) (.int sort) := rfl
        have r_one : ∀ {G'}, Rp G' (.int (j1 : Nat)) (.int (j1 : Nat)) := rfl
        have r_other : ∀ {G'}, Rp G' (.int (j2 : Nat)) (.int (j2 : Nat)) := rfl
        have r_deep : ∀ {G'}, Rp G' (.int (deep : Nat)) (.int (deep : Nat)) := rfl
        have sum2 : ([j1, j2].map fun j => sz.getD j 0).sum ≤ n1 + n2 := by simp [hn1, hn2]
        have ref2 : ∀ i ∈ [j1, j2], i < tb.length := fun i hi => by
          simp only [List.mem_cons, List.not_mem_nil, or_false] at hi
          rcases hi with rfl | rfl <;> omega
        simp only [tNext]
        refine s_seq (s_if' (eb_test (ed_op (ed_var rfl r_sort) ed_int fun _ _ => rd_I0b)) g (fun hb H10 g k10 => ?_) fun hb H10 g k10 => ?_)
        have hq := hq.kp k10
        have ot := ot.kp (Same.refl _) k10
        have oz := oz.kp (Same.refl _) k10
        refine p_set (P := fun d => ∃ r, d = hdD (.func r, [j1, j2]) ∧ RoIn ws fl tl r) ((edp_tup (edsp_cons (Ed.pl ed_str) (edsp_cons (Ed.pl (ed_var rfl rI)) (edsp_cons (edp_call (ds := [.lst (ws.map .str), .int fl, .int tl]) rfl (eds_cons (ed_var rfl r_words) (eds_cons (ed_var rfl rI) (eds_cons (ed_var rfl rI) eds_nil))) ⟨ws, fl, tl, rfl, hwl.len, by omega, by omega⟩) (edsp_cons (Ed.pl (ed_var rfl rI)) edsp_nil)))) ?_).to ?_) g (List.mem_singleton.mpr rfl) hq fun d v G11 H11 hd11 g s11 g11 hq r_head => ?_
        · rintro ds ⟨d1, r1, rfl, _, d2, r2, rfl, _, d3, r3, rfl, _, d4, r4, rfl, _, rfl⟩
          exact Nat.le_of_ble_eq_true rfl
        · rintro d ⟨ds, rfl, d1, r1, rfl, rfl, d2, r2, rfl, rfl, d3, r3, rfl, ⟨ws', f', t', r, e, rfl, hr⟩, d4, r4, rfl, rfl, rfl⟩
          have ew : ws'.map D.str = ws.map D.str ∧ f' = fl ∧ t' = tl := by
            simp only [List.cons.injEq, D.lst.injEq, D.int.injEq, and_true] at e
            exact ⟨e.1.symm, e.2.1.symm, e.2.2.symm⟩
          have ew2 : ws' = ws := by
            have inj : ∀ {a b : List Str}, a.map D.str = b.map D.str → a = b := by
              intro a
              induction a with
              | nil => intro b h; cases b with | nil => rfl | cons x y => simp at h
              | cons x a ih =>
                intro b h
                cases b with
                | nil => simp at h
                | cons y b =>
                  simp only [List.map_cons, List.cons.injEq, D.str.injEq] at h
                  rw [h.1, ih h.2]
            exact inj ew.1
          obtain ⟨_, e2, e3⟩ := ew
          subst ew2
          subst e2
          subst e3
          exact ⟨r, rfl, hr⟩
        obtain ⟨ro, rfl, hro⟩ := hd11
        have ot := ot.callP g11 hp0
        have oz := oz.callP g11 hp0
        have sq := sk.trans s11
        have sq3 := sk3.trans s11
        obtain ⟨hh, eh⟩ : ∃ hh : He2, hh = (.func ro, [j1, j2]) := ⟨_, rfl⟩
        have ho : HeOk ws 5 3 L tb.length hh := by rw [eh]; exact ⟨RoIn.ok hwl hro, rfl, ref2, RoIn.mono hro hf2 ht2⟩
        have hsum : (hh.2.map fun j => sz.getD j 0).sum ≤ n1 + n2 := by rw [eh]; exact sum2
        rw [← eh] at r_head
        clear eh
        rotate_left
        refine s_if' (eb_test (ed_op (ed_var rfl r_sort) ed_int fun _ _ => rd_I0b)) g (fun hb H11 g k11 => ?_) fun hb H11 g k11 => ?_
        have hq := (hq.kp k10).kp k11
        have ot := (ot.kp (Same.refl _) k10).kp (Same.refl _) k11
        have oz := (oz.kp (Same.refl _) k10).kp (Same.refl _) k11
        refine s_set' (d := hdD (.pair, [j1, j2])) (Ed.to (ed_tup (eds_cons ed_str (eds_cons (ed_var rfl r_one) (eds_cons (ed_var rfl r_other) eds_nil))) (Nat.le_of_ble_eq_true rfl)) rfl) g fun v G12 H12 g s12 k12 r_head => ?_
        have hq := hq.kp k12
        have ot := ot.kp s12 k12
        have oz := oz.kp s12 k12
        have sq := sk.trans s12
        have sq3 := sk3.trans s12
        obtain ⟨hh, eh⟩ : ∃ hh : He2, hh = (.pair, [j1, j2]) := ⟨_, rfl⟩
        have ho : HeOk ws 5 3 L tb.length hh := by rw [eh]; exact ⟨trivial, rfl, ref2, trivial⟩
        have hsum : (hh.2.map fun j => sz.getD j 0).sum ≤ n1 + n2 := by rw [eh]; exact sum2
        rw [← eh] at r_head
        clear eh
        rotate_left
        have hq := (hq.kp k10).kp k11
        have ot := (ot.kp (Same.refl _) k10).kp (Same.refl _) k11
        have oz := (oz.kp (Same.refl _) k10).kp (Same.refl _) k11
        refine s_seq (p_set (P := fun d => ∃ is : List Nat, d = .lst (is.map fun i => .int (i : Nat)) ∧ (is = [] ∨ is = [j1] ∨ is = [j1, j2])) (edp_op (Ed.pl (Ed.to (e := .lst [.lst (([] : List Nat).map fun i => .int (i : Nat)), .lst ([j1].map fun i => .int (i : Nat)), .lst ([j1, j2].map fun i => .int (i : Nat)), .lst ([j1, j2].map fun i => .int (i : Nat)), .lst ([j1, j2].map fun i => .int (i : Nat))]) (ed_lst (eds_cons (ed_lst eds_nil (Nat.le_of_ble_eq_true rfl)) (eds_cons (ed_lst (eds_cons (ed_var rfl r_one) eds_nil) (Nat.le_of_ble_eq_true rfl)) (eds_cons (ed_lst (eds_cons (ed_var rfl r_one) (eds_cons (ed_var rfl r_other) eds_nil)) (Nat.le_of_ble_eq_true rfl)) (eds_cons (ed_lst (eds_cons (ed_var rfl r_one) (eds_cons (ed_var rfl r_other) eds_nil)) (Nat.le_of_ble_eq_true rfl)) (eds_cons (ed_lst (eds_cons (ed_var rfl r_one) (eds_cons (ed_var rfl r_other) eds_nil)) (Nat.le_of_ble_eq_true rfl)) eds_nil))))) (Nat.le_of_ble_eq_true rfl)) rfl)) (edp_op (P3 := fun d => ∃ r : Int, d = .int r ∧ 0 ≤ r ∧ r < 5) (edp_pick rfl ed_int (by decide)) (Ed.pl (ed_op ed_int (ed_var rfl r_deep) fun _ _ => rd_Ii (.inl ⟨by decide, by decide⟩))) ?_) ?_) g (List.mem_singleton.mpr rfl) hq fun d v G12 H12 hd12 g s12 g12 hq r_inner => ?_)
        · rintro d e ⟨r, rfl, h0, h1⟩ rfl
          exact ⟨_, ⟨r + 2 * (deep : Nat), rfl, by omega, by omega⟩, fun _ _ => rd_I0i⟩
        · rintro d e rfl ⟨r, rfl, h0, h1⟩
          have hr5 : r = 0 ∨ r = 1 ∨ r = 2 ∨ r = 3 ∨ r = 4 := by omega
          rcases hr5 with rfl | rfl | rfl | rfl | rfl
          · exact ⟨_, ⟨[], rfl, .inl rfl⟩, fun _ _ => rd_ixL at0⟩
          · exact ⟨_, ⟨[j1], rfl, .inr (.inl rfl)⟩, fun _ _ => rd_ixL at1⟩
          · exact ⟨_, ⟨[j1, j2], rfl, .inr (.inr rfl)⟩, fun _ _ => rd_ixL at2⟩
          · exact ⟨_, ⟨[j1, j2], rfl, .inr (.inr rfl)⟩, fun _ _ => rd_ixL (atI_nat (j := 3) rfl)⟩
          · exact ⟨_, ⟨[j1, j2], rfl, .inr (.inr rfl)⟩, fun _ _ => rd_ixL (atI_nat (j := 4) rfl)⟩
        obtain ⟨is, rfl, his⟩ := hd12
        have ot := ot.callP g12 hp0
        have oz := oz.callP g12 hp0
        simp only [tNext]
        refine p_set (P := fun d => ∃ nm : Str, d = hdD (.data nm is.length, is) ∧ (nm = "Opt" ∨ nm = "B7" ∨ nm = "Abcdefghijk1")) ((edp_tup (edsp_cons (Ed.pl ed_str) (edsp_cons (edp_oneOf (ds := [.str "Opt", .str "B7", .str "Abcdefghijk1"]) rfl (ed_lst (eds_cons ed_str (eds_cons ed_str (eds_cons ed_str eds_nil))) (Nat.le_of_ble_eq_true rfl)) ed_int (by decide) rfl) (edsp_cons (Ed.pl (ed_var rfl r_inner)) edsp_nil))) ?_).to ?_) g (List.mem_singleton.mpr rfl) hq fun d v G13 H13 hd13 g s13 g13 hq r_head => ?_
        · rintro ds ⟨d1, r1, rfl, _, d2, r2, rfl, _, d3, r3, rfl, _, rfl⟩
          exact Nat.le_of_ble_eq_true rfl
        · rintro d ⟨ds, rfl, d1, r1, rfl, rfl, d2, r2, rfl, hd2, d3, r3, rfl, rfl, rfl⟩
          simp only [List.mem_cons, List.not_mem_nil, or_false] at hd2
          rcases hd2 with rfl | rfl | rfl
          · exact ⟨"Opt", rfl, .inl rfl⟩
          · exact ⟨"B7", rfl, .inr (.inl rfl)⟩
          · exact ⟨"Abcdefghijk1", rfl, .inr (.inr rfl)⟩
        obtain ⟨nm, rfl, hnm⟩ := hd13
        have ot := ot.callP g13 hp0
        have oz := oz.callP g13 hp0
        have sq := sk.trans (s12.trans s13)
        have sq3 := sk3.trans (s12.trans s13)
        obtain ⟨hh, eh⟩ : ∃ hh : He2, hh = (.data nm is.length, is) := ⟨_, rfl⟩
        have ho : HeOk ws 5 3 L tb.length hh := by
          rw [eh]
          refine ⟨?_, rfl, ?_, ?_⟩
          · rcases hnm with rfl | rfl | rfl
            · exact ⟨by decide +kernel, by decide⟩
            · exact ⟨by decide +kernel, by decide⟩
            · exact ⟨by decide +kernel, by decide⟩
          · intro i hi
            rcases his with rfl | rfl | rfl
            · simp at hi
            · exact ref2 i (by simp at hi; simp [hi])
            · exact ref2 i hi
          · show ((is.length : Nat) : Int) ≤ L + 5
            rcases his with rfl | rfl | rfl <;> simp <;> omega
        have hsum : (hh.2.map fun j => sz.getD j 0).sum ≤ n1 + n2 := by
          rw [eh]
          rcases his with rfl | rfl | rfl
          · exact Nat.zero_le _
          · simp [hn1]
          · exact sum2
        rw [← eh] at r_head
        clear eh
        rotate_left
        rotate_left
        all_goals
          simp only [tNext]
          refine s_seq (o_setS (d := .int (1 + (n1 : Nat) + (n2 : Nat))) oz rfl (fun Gx s r => ed_op (ed_op ed_int (ed_op (ed_var rfl r) (ed_var rfl rI) fun _ _ => rd_ixL (at1' j1 n1 hn1 hj1)) fun _ _ => rd_I0i) (ed_op (ed_var rfl r) (ed_var rfl rI) fun _ _ => rd_ixL (at1' j2 n2 hn2 hj2)) fun _ _ => rd_I0i) g fun v H20 g k20 r_size => ?_)
          obtain ⟨size, hsize⟩ : ∃ size : Nat, size = 1 + n1 + n2 := ⟨_, rfl⟩
          have e20 : (1 + ((n1 : Nat) : Int) + ((n2 : Nat) : Int)) = ((size : Nat) : Int) := by omega
          rw [e20] at r_size
          cases (show v = .int (size : Nat) from r_size)
          have hq := hq.kp k20
          have ot := ot.kp (Same.refl _) k20
          have oz := oz.kp (Same.refl _) k20
          simp only [tNext]
          obtain ⟨top, htop⟩ : ∃ top : Int, top = if deep = 0 then 60 else 1000 := ⟨_, rfl⟩
          have es3 : atI [D.int 60, .int 1000] ((deep : Nat) : Int) = some (.int top) := by rw [sel2 hdp, htop]; split <;> rfl
          have n1le : n1 ≤ (if deep = 0 then 60 else 1000) ∧ n1 + 1 ≤ 2 ^ (i + 1) := ti.top n1 (by rw [hn1]; exact getD_mem (by omega))
          have n2le : n2 ≤ (if deep = 0 then 60 else 1000) ∧ n2 + 1 ≤ 2 ^ (i + 1) := ti.top n2 (by rw [hn2]; exact getD_mem (by omega))
          refine s_if' (b := decide (((size : Nat) : Int) ≤ top)) (Eb.to (eb_test (ed_op (ed_var rfl rI) (ed_op (ed_lst (eds_cons ed_int (eds_cons ed_int eds_nil)) (Nat.le_of_ble_eq_true rfl)) (ed_var rfl rI) fun _ _ => rd_ixL es3) fun _ _ => rd_I0b)) (by first | rfl | (simp; omega))) g (fun hb H21 g k21 => ?_) fun hb H21 g k21 => ?_
          · have hq := hq.kp k21
            have ot := ot.kp (Same.refl _) k21
            have oz := oz.kp (Same.refl _) k21
            have hb := of_decide_eq_true hb
            refine s_seq (o_append rfl (ed_var rfl r_head) g ot (by rw [List.length_map]; omega) fun G22 H22 g s22 ot ks22 ko22 => ?_)
            have oz := ks22 lz _ (Ne.symm ntz) oz
            have hq : PoolAt p G22 H22 := by
              obtain ⟨pl, st, ys, e, r⟩ := hq.e
              have npt : p ≠ lt := fun z => hp0 (by rw [z]; exact ot.h0)
              obtain ⟨e1, e2⟩ := ko22 p _ npt e
              exact ⟨e2 hq.g, pl, st, ys, e1, r⟩
            simp only [tNext]
            refine o_append (d := .int (size : Nat)) rfl (ed_var rfl rI) g oz (by rw [List.length_map]; omega) fun G23 H23 g s23 oz ks23 ko23 => ?_
            have ot := ks23 lt _ ntz ot
            have hq : PoolAt p G23 H23 := by
              obtain ⟨pl, st, ys, e, r⟩ := hq.e
              have npt : p ≠ lz := fun z => hp0 (by rw [z]; exact oz.h0)
              obtain ⟨e1, e2⟩ := ko23 p _ npt e
              exact ⟨e2 hq.g, pl, st, ys, e1, r⟩
            rw [← List.map_singleton (f := hdD), ← List.map_append] at ot
            rw [← List.map_singleton (f := fun n : Nat => D.int (n : Nat)), ← List.map_append] at oz
            refine ⟨G23, g, sq.trans (s22.trans s23), sq3.trans (s22.trans s23), hq, tb ++ [hh], sz ++ [size], _, _, _, _, _, _, _, _, _, rfl, ot, oz, ti.snoc ho (by omega) ⟨?_, ?_⟩⟩
            · have : ((size : Nat) : Int) ≤ if deep = 0 then 60 else 1000 := by rw [← htop]; exact hb
              split at this <;> split <;> omega
            · have h2 : 2 ^ (i + 1 + 1) = 2 * 2 ^ (i + 1) := by rw [Nat.pow_succ]; omega
              rw [h2]
              omega
          · exact ⟨_, g, sq, sq3, hq.kp k21, tb, sz, _, _, _, _, _, _, _, _, _, rfl, ot.kp (Same.refl _) k21, oz.kp (Same.refl _) k21, ti.more⟩
    · rintro σ G' H' g s' ⟨si, hq, tb, sz, o1, o2, o3, o4, o5, o6, o7, o8, o9, rfl, ot, oz, ti⟩
      rw [List.length_map, List.length_range, Int.toNat_natCast] at ti
      obtain ⟨G9, g, s9, r_table, _, nn⟩ := ot.frz g
      have hq : PoolAt p G9 H' := ⟨nn p (fun z => hp0 (by rw [z]; exact ot.h0)) hq.g, hq.e⟩
      dsimp only
      exact s_ret' (ed_var rfl r_table) g fun v G' H' g s' k' r => k _ v G' H' ⟨ws, steps, L, deep, tb, sz, rfl, rfl, ti⟩ g (hq.kp k') r
end
end K18
set_option maxHeartbeats 4000000
/-! Reading a list of one's own while something is made. -/
namespace Kd
open PySem PySem.Spec PyProof.Rows L2
def EdO (l : Addr) (vs : List V) (te : TE) (σ : L2.St) (G : Hp) (d : D) : Prop := ∀ H, Same G H → H l = some (.lst vs) → ∀ Q : VK, (∀ v G' H', Gp G H G' H' → Rp G' d v → Q v H') → te σ H Q
def EdsO (l : Addr) (vs : List V) (ta : TA) (σ : L2.St) (G : Hp) (ds : List D) : Prop := ∀ H, Same G H → H l = some (.lst vs) → ∀ Q : List V → Hp → Prop, (∀ us G' H', Gp G H G' H' → RpL G' ds us → Q us H') → ta σ H Q
section
variable {K : PySem.W.Frag} {σ : L2.St} {G G1 : Hp} {te ta tb : TE} {d e z : D} {l : Addr} {vs : List V} {ds : List D} {M : List Addr} {G0 H0 H : Hp} {Dn : Ends} {r : R2}
theorem Ed.o (h : Ed te σ G d) : EdO l vs te σ G d := fun H s _ Q q => h H s Q q
theorem EdO.mono (s : Same G G1) (h : EdO l vs te σ G d) : EdO l vs te σ G1 d := fun H s1 hl Q q => h H (s.trans s1) hl Q fun v G' H' g hv =>
  let ⟨G3, g3, e3⟩ := g.larger s s1
  q v G3 H' g3 (hv.mono e3)
theorem EdsO.mono {tA : TA} (s : Same G G1) (h : EdsO l vs tA σ G ds) : EdsO l vs tA σ G1 ds := fun H s1 hl Q q => h H (s.trans s1) hl Q fun v G' H' g hv =>
  let ⟨G3, g3, e3⟩ := g.larger s s1
  q v G3 H' g3 (hv.mono e3)
theorem EdO.to (h : EdO l vs te σ G d) (q : d = e) : EdO l vs te σ G e := q ▸ h
theorem edo_op (ha : EdO l vs ta σ G d) (hb : EdO l vs tb σ G e) (hr : ∀ G1, Same G G1 → Rd2 r G1 d e z) : EdO l vs (tOp r ta tb) σ G z := fun H s hl Q q =>
  ha H s hl _ fun x G1 H1 g1 r1 => hb.mono g1.g H1 g1.s (g1.e _ _ hl) _ fun y G2 H2 g2 r2 => hr G2 (g1.g.trans g2.g) x y H2 g2.s (r1.mono g2.g) r2 Q fun v G3 H3 g3 r3 => q v G3 H3 ((g1.trans g2).trans g3) r3
/-- l[i] -/
theorem edo_ix {i : Nat} {ti : TE} {j : Int} (hv : σ[i]? = some (some (.ref l))) (hr : RpL G ds vs) (ht : EdO l vs ti σ G (.int j)) (hat : atI ds j = some d) : EdO l vs (tOp (rIxL K) (tVar i) ti) σ G d := fun H s hl Q q =>
  ⟨_, hv, ht H s hl _ fun v G1 H1 g1 r1 => by
    obtain ⟨u, h1, h2⟩ := atI_rp (hr.mono g1.g) hat
    exact ⟨l, vs, j, u, rfl, r1, SqL.of (g1.e _ _ hl), h1, q u G1 H1 g1 h2⟩⟩
theorem edo_len {i : Nat} (hv : σ[i]? = some (some (.ref l))) (hr : RpL G ds vs) : EdO l vs (tCB (fun xs H Q => ∃ p ys, xs = [.ref p] ∧ (SqL K H p ys ∨ SqT K H p ys) ∧ Q (.int ys.length) H) (tCons (tVar i) tNil)) σ G (.int ds.length) := fun H s hl Q q =>
  ⟨_, hv, l, vs, rfl, .inl (SqL.of hl), q _ G H (gr0 s) (by rw [hr.len]; rfl)⟩
theorem edso_nil : EdsO l vs tNil σ G [] := fun H s _ Q q => q [] G H (gr0 s) rfl
theorem edso_cons {tr : TA} (ha : EdO l vs ta σ G d) (hr : EdsO l vs tr σ G ds) : EdsO l vs (tCons ta tr) σ G (d :: ds) := fun H s hl Q q =>
  ha H s hl _ fun x G1 H1 g1 r1 => hr.mono g1.g H1 g1.s (g1.e _ _ hl) _ fun ys G2 H2 g2 r2 => q (x :: ys) G2 H2 (g1.trans g2) (.cons (r1.mono g2.g) r2)
theorem edo_tup {tA : TA} (h : EdsO l vs tA σ G ds) (hn : ds.length ≤ 10000000) : EdO l vs (tTup tA) σ G (.tup ds) := fun H s hl Q q =>
  h H s hl _ fun us G1 H1 g1 r1 => ⟨by rw [r1.len]; exact Nat.le_trans hn (by decide), fun p hp => q (.ref p) _ _ (g1.new hp) ⟨p, us, rfl, upd_same, r1.mono (same_frz (g1.gfree hp))⟩⟩
theorem edo_lcAll {wi : TI} {g : TG} {items : List D} {ws : List Nat} (f : D → D) (hs : Es wi σ G items) (hn : items.length ≤ 10000000)
    (ht : ∀ d, d ∈ items → ∀ G', Same G G' → Tk g (wipe σ ws) G' d fun σ2 G2 => wipe σ2 ws = wipe σ ws ∧ EdO l vs te σ2 G2 (f d)) :
    EdO l vs (tLc wi g tYes te ws) σ G (.lst (items.map f)) := fun H s hl Q q => hs H s _ fun J G1 H1 g1 W D hD => by
  have hl1 := g1.e _ _ hl
  have nD : l ≠ D := ne_of_none hl1 hD
  refine lc_it W (fun j Hj => ∃ (Gj : Hp) (acc : List V), Gp G H Gj Hj ∧ Same G1 Gj ∧ Gj D = none ∧ Hj D = some (.lst acc) ∧ acc.length ≤ j ∧ RpL Gj ((items.take j).map f) acc) ?_ ?_ ?_ ?_
  · exact ⟨G1, [], g1.tmp hD, Same.refl _, g1.gfree hD, upd_same, Nat.le_refl _, rfl⟩
  · rintro j Hj _ ⟨Gj, acc, gj, sj, _⟩
    exact sj.trans gj.s
  · rintro j x Hj Hj' hj ⟨Gj, acc, gj, sj, hgD, hHD, hal, hr⟩ ⟨d, hd, y⟩
    obtain ⟨Gk, gk, rk⟩ := y Gj sj gj.s
    have hkD : Gk D = none := gk.n D hgD (some_ne hHD)
    have hkH : Hj' D = some (.lst acc) := gk.e D _ hHD
    have gjk := gj.trans gk
    refine ht d (List.mem_of_getElem? hd) Gk (gjk.g) x Hj' gk.s rk _ fun σ2 h2 => ?_
    obtain ⟨hw, he⟩ := h2
    refine ⟨hw, ?_⟩
    show te σ2 Hj' _
    refine he Hj' gk.s (gjk.e _ _ hl) _ fun w G4 H4 g4 r4 => ?_
    have h4D : H4 D = some (.lst acc) := g4.e D _ hkH
    have n4D : G4 D = none := g4.n D hkD (some_ne hkH)
    have gall := gjk.trans g4
    have h0 : H D = none := g1.free hD
    refine ⟨acc, h4D, Nat.lt_of_le_of_lt hal (Nat.lt_of_lt_of_le hj (Nat.le_trans hn (by decide))), G4, acc ++ [w], gall.mut n4D h0, (sj.trans gk.g).trans g4.g, n4D, upd_same, by simp; exact hal, ?_⟩
    rw [take_snoc hd, List.map_append]
    exact (hr.mono (gk.g.trans g4.g)).snoc r4
  · rintro Hj ⟨Gj, acc, gj, sj, hgD, hHD, hal, hr⟩
    rw [List.take_length] at hr
    have h0 : H D = none := g1.free hD
    refine q (.ref D) _ _ (gj.frz hHD hgD h0) ⟨D, acc, rfl, upd_same, hr.mono fun a o x => ?_⟩
    rw [upd_ne (ne_of_none x hgD)]
    exact x
/-- xs.append(e), e made by reading xs -/
theorem o_appendO {i : Nat} (hv : σ[i]? = some (some (.ref l))) (o : Own H0 G H l ds) (he : ∀ vs, RpL G ds vs → EdO l vs te σ G d) (g : Gr M G0 H0 G H) (hn : ds.length < 10000000)
    (k : ∀ G' H', Gr M G0 H0 G' H' → Same G G' → Own H0 G' H' l (ds ++ [d]) → (∀ m es, m ≠ l → Own H0 G H m es → Own H0 G' H' m es) → (∀ a x, a ≠ l → H a = some x → H' a = some x ∧ (G a = none → G' a = none)) → Dn.nx σ H') : tDrop (tBM K "list" rAppend (tVar i) (tCons te tNil)) Dn σ H := by
  obtain ⟨vs0, e0, r0⟩ := o.e
  refine ⟨_, hv, .inl ⟨rfl, _, SqL.of e0⟩, he vs0 r0 H g.s e0 _ fun v G1 H1 g1 r1 => ?_⟩
  have o1 := o.kp g1.g g1.kp
  obtain ⟨vs, e, r, hlen⟩ := o1.len
  refine ⟨l, vs, v, rfl, rfl, e, by rw [hlen]; exact Nat.lt_of_lt_of_le hn (by decide), ?_⟩
  refine k G1 _ ((g.call g1).mut o1.g o1.h0) g1.g (o1.set (r.snoc r1)) (fun m es n o' => (o'.kp g1.g g1.kp).upd n) fun a x n hx => ?_
  rw [upd_ne n]
  exact g1.kp a x hx
/-- v = e, e made by reading a list of one's own -/
theorem o_setO {i : Nat} (o : Own H0 G H l ds) (he : ∀ vs, RpL G ds vs → EdO l vs te σ G d) (g : Gr M G0 H0 G H)
    (k : ∀ v G' H', Gr M G0 H0 G' H' → Same G G' → Kp G H G' H' → Rp G' d v → Dn.nx (σ.set i (some v)) H') : tAsg te (gName i) Dn σ H := by
  obtain ⟨vs0, e0, r0⟩ := o.e
  exact he vs0 r0 H g.s e0 _ fun v G1 H1 g1 r1 => k v G1 H1 (g.call g1) g1.g g1.kp r1
theorem o_retO (o : Own H0 G H l ds) (he : ∀ vs, RpL G ds vs → EdO l vs te σ G d) (g : Gr M G0 H0 G H)
    (k : ∀ v G' H', Gr M G0 H0 G' H' → Same G G' → Kp G H G' H' → Rp G' d v → Dn.rt v H') : tRet te Dn σ H := by
  obtain ⟨vs0, e0, r0⟩ := o.e
  exact he vs0 r0 H g.s e0 _ fun v G1 H1 g1 r1 => k v G1 H1 (g.call g1) g1.g g1.kp r1
end
end Kd
set_option maxHeartbeats 4000000
namespace K18
open PySem PySem.Spec PyProof.Rows L2 Kd
theorem kD_mk (a : Nd) (ks : List Tr) : tD id (.mk a ks) = build a (ks.map (tD id)) := by rw [tD, tDL_map]; rfl
theorem hdD_word (h : He2) (hl : h.2.length = h.1.many) : ∃ r, hdD h = .tup (.str (hdN h.1) :: r) := build_hd (by rw [List.length_map]; exact hl)
theorem getD_tree {tb : List He2} {i : Nat} (h : i < tb.length) : atI ((trs tb).map (tD id)) ((i : Nat) : Int) = some (tD id ((trs tb).getD i leafT)) := by
  refine atI_nat ?_
  have hi : i < (trs tb).length := by rw [trs_len]; exact h
  rw [List.getElem?_map, List.getElem?_eq_getElem hi, List.getD_eq_getElem?_getD, List.getElem?_eq_getElem hi]
  rfl
section
variable {P : Program} {w : World} {K : PySem.W.Frag} {mg : Str → Option Value} {base : Heap}
def rBuilt : List D → D → Prop := fun ds d => ∃ (ws : List Str) (f t L : Int) (tb : List He2) (root : Nat), ds = [.lst (tb.map hdD), .int (root : Nat)] ∧ TabOk ws f t L tb ∧ L ≤ 100 ∧ root < tb.length ∧ tb.length ≤ 1000000 ∧ d = tD id ((trs tb).getD root leafT)
abbrev N_law_built : List Str := ["table", "root", "built", "head", "place"]
theorem sc_law_built : FnScope ["table", "root", "built", "head", "place"] ["table", "root"] (defScope s_law_built) := ⟨rfl, rfl, rfl, by decide +kernel, rfl, by decide +kernel, by decide +kernel⟩
theorem ok_law_built (T : Tx K mg) : Good P w K mg base CX0 "_law_built" 2 ["table", "root"] (spRel rBuilt) := by
  obtain ⟨fd, F⟩ := T.f__law_built
  refine ⟨T.m__law_built, F.kp, fd, ?_, F.bindsN fun _ _ _ _ _ _ us hl => match us, hl with | [_, _], _ => rfl⟩
  refine F.ok sc_law_built (fun vs H Q E h => ?_) (fun cdv A outer s H vs Q E hr h => ?_)
  · obtain ⟨G, ds, d, _, r, ⟨ws, f, t, L, tb, root, rfl, _⟩, _⟩ := h
    exact r.len
  · obtain ⟨G, ds, d, s0, r, ⟨ws, f, t, L, tb, root, rfl, hok, hL, hroot, hlen, rfl⟩, k⟩ := h
    obtain ⟨v1, _, rfl, r_table, v2, _, rfl, r_root, rfl⟩ := r
    cases (show v2 = .int (root : Nat) from r_root)
    refine ⟨_, PSs.nox ((pss_cons (ps_set (i := 2) sc_law_built.nd rfl (Or.inr rfl) (pe_lst pa_nil))
    (pss_cons (ps_for PassesOwn.never rfl (pi_list (pv 0)) (pg_name (i := 3) sc_law_built.nd rfl (Or.inl rfl)) (pss_one (ps_if (pt_cmpR op_eq (pe_ix ix_tup (pv 3) pe_int (fun _ _ => rfl)) pe_str (nomark _)) (pss_one (ps_expr (pe_bm PySem.F.plainAttrs_list PySem.F.slot_list_append PySem.F.type_list_append mt_append (pv 2) (pa_cons (pe_tup (pa_cons pe_str (pa_cons (pe_ix ix_list (pv 2) (pe_ix ix_tup (pv 3) pe_int (fun _ _ => rfl)) (fun _ _ => rfl)) (pa_cons (pe_ix ix_list (pv 2) (pe_ix ix_tup (pv 3) pe_int (fun _ _ => rfl)) (fun _ _ => rfl)) pa_nil)))) pa_nil)))) (pss_one (ps_if (pt_cmpR op_eq (pe_ix ix_tup (pv 3) pe_int (fun _ _ => rfl)) pe_str (nomark _)) (pss_one (ps_expr (pe_bm PySem.F.plainAttrs_list PySem.F.slot_list_append PySem.F.type_list_append mt_append (pv 2) (pa_cons (pe_tup (pa_cons pe_str (pa_cons (pe_ix ix_tup (pv 3) pe_int (fun _ _ => rfl)) (pa_cons (pe_lc (own := [("place", 4)]) rfl sc_law_built.nd (pi_list (pe_ix ix_tup (pv 3) pe_int (fun _ _ => rfl))) (blkOk_by (own := [("place", 4)]) (N := ["table", "root", "built", "head", "place"]) (sc := defScope s_law_built) (by decide +kernel)) (fun _ _ _ _ _ => by exact (pg_name (i := 4) sc_law_built.nd rfl (Or.inl rfl))) (fun _ _ _ _ _ => by exact pts_nil) (fun _ _ _ _ _ => by exact (pe_ix (ixK_list (K := K) rfl) (pv 2) (pv 4) (fun _ _ => rfl)))) pa_nil)))) pa_nil)))) (pss_one (ps_if (pt_cmpR op_eq (pe_ix ix_tup (pv 3) pe_int (fun _ _ => rfl)) pe_str (nomark _)) (pss_one (ps_expr (pe_bm PySem.F.plainAttrs_list PySem.F.slot_list_append PySem.F.type_list_append mt_append (pv 2) (pa_cons (pe_tup (pa_cons pe_str (pa_cons (pe_ix ix_list (pv 2) (pe_ix ix_tup (pv 3) pe_int (fun _ _ => rfl)) (fun _ _ => rfl)) (pa_cons (pe_ix ix_tup (pv 3) pe_int (fun _ _ => rfl)) (pa_cons (pe_ix ix_list (pv 2) (pe_ix ix_tup (pv 3) pe_int (fun _ _ => rfl)) (fun _ _ => rfl)) pa_nil))))) pa_nil)))) (pss_one (ps_expr (pe_bm PySem.F.plainAttrs_list PySem.F.slot_list_append PySem.F.type_list_append mt_append (pv 2) (pa_cons (pv 3) pa_nil)))))))))))
    (pss_one (ps_ret (pe_ix ix_list (pv 2) (pv 1) (fun _ _ => rfl))))))), ?_⟩
    have g := gr0 (M := []) s0
    have rI : ∀ {G'} {x : Int}, Rp G' (.int x) (.int x) := rfl
    refine s_seq (o_new eds_nil (Nat.zero_le _) g fun lb G1 H1 g s1 k1 ob _ => ?_)
    dsimp only
    refine s_seq (s_for (σ := [some v1, some (.int (root : Nat)), some (.ref lb), none, none]) (items := tb.map hdD) (es_list (ed_var rfl (r_table.mono s1))) g (fun i σ G' H' => Same G1 G' ∧ ∃ (o3 o4 : Option V), σ = [some v1, some (.int (root : Nat)), some (.ref lb), o3, o4] ∧ Own H G' H' lb ((trs (tb.take i)).map (tD id))) (fun G' H' g' s' k' => ⟨s', _, _, rfl, ob.kp s' k'⟩) ?_ ?_)
    · rintro Gs i d v σ Gi Hi Gj Hj hd sg sgi ⟨si, o3, o4, rfl, ob⟩ g sj kj r_head
      have ob := ob.kp sj kj
      rw [List.getElem?_map] at hd
      obtain ⟨h, hh, rfl⟩ := Option.map_eq_some_iff.mp hd
      have hil := (List.getElem?_eq_some_iff.mp hh).1
      have ho := hok i h hh
      have etk : tb.take (i + 1) = tb.take i ++ [h] := take_snoc hh
      have elen : (tb.take i).length = i := by rw [List.length_take]; omega
      have eln2 : ((trs (tb.take i)).map (tD id)).length < 10000000 := by rw [List.length_map, trs_len, elen]; omega
      have done : ∀ G5 H5, Gr [] G H G5 H5 → Same Gj G5 → Own H G5 H5 lb ((trs (tb.take i)).map (tD id) ++ [tD id (mkT (trs (tb.take i)) h)]) → ∃ G', Gr [] G H G' H5 ∧ Same Gs G' ∧ Same G1 G' ∧ ∃ (o3' o4' : Option V), [some v1, some (.int (root : Nat)), some (.ref lb), some v, o4] = [some v1, some (.int (root : Nat)), some (.ref lb), o3', o4'] ∧ Own H G' H5 lb ((trs (tb.take (i + 1))).map (tD id)) := fun G5 H5 g5 s5 o5 => ⟨G5, g5, sgi.trans (sj.trans s5), si.trans (sj.trans s5), _, _, rfl, by rw [etk, trs_snoc, List.map_append]; exact o5⟩
      have at' : ∀ j ∈ h.2, atI ((trs (tb.take i)).map (tD id)) ((j : Nat) : Int) = some (tD id ((trs (tb.take i)).getD j leafT)) := fun j hj => getD_tree (by rw [elen]; exact ho.ref j hj)
      obtain ⟨a, is⟩ := h
      have ha : okNd a := ho.ok
      have hl : is.length = a.many := ho.len
      have em : tD id (mkT (trs (tb.take i)) (a, is)) = build a (is.map fun j => tD id ((trs (tb.take i)).getD j leafT)) := by
        rw [mkT, kD_mk, List.map_map]
        rfl
      rw [em] at done
      have r_head : Rp Gj (build a (is.map fun i => D.int (i : Nat))) v := r_head
      cases a with
      | pair =>
        obtain ⟨x, y, rfl⟩ : ∃ x y, is = [x, y] := match is, hl with | [x, y], _ => ⟨x, y, rfl⟩
        have r_head : Rp Gj (.tup [.str "pair", .int (x : Nat), .int (y : Nat)]) v := r_head
        refine s_if' (eb_test (ed_op (ed_op (ed_var rfl r_head) ed_int fun _ _ => rd_ixT at0) ed_str fun _ _ => rd_eq rfl)) g (fun _ H4 g k4 => ?_) fun z => nomatch z
        refine o_appendO rfl (ob.kp (Same.refl _) k4) (fun vs hr => edo_tup (edso_cons (ed_str).o (edso_cons (edo_ix rfl hr ((ed_op (ed_var rfl r_head) ed_int fun _ _ => rd_ixT at1) : Ed _ _ _ (.int (x : Nat))).o (at' x (by simp))) (edso_cons (edo_ix rfl hr ((ed_op (ed_var rfl r_head) ed_int fun _ _ => rd_ixT at2) : Ed _ _ _ (.int (y : Nat))).o (at' y (by simp))) edso_nil))) (Nat.le_of_ble_eq_true rfl)) g eln2 fun G5 H5 g s5 ob _ _ => ?_
        exact done G5 H5 g s5 ob
      | data s m =>
        have r_head : Rp Gj (.tup [.str "data", .str s, .lst (is.map fun i => .int (i : Nat))]) v := r_head
        refine s_if' (eb_test (ed_op (ed_op (ed_var rfl r_head) ed_int fun _ _ => rd_ixT at0) ed_str fun _ _ => rd_eq rfl)) g (fun z => nomatch z) fun _ H4 g k4 => ?_
        refine s_if' (eb_test (ed_op (ed_op (ed_var rfl r_head) ed_int fun _ _ => rd_ixT at0) ed_str fun _ _ => rd_eq rfl)) g (fun _ H5 g k5 => ?_) fun z => nomatch z
        refine o_appendO (d := build (.data s m) (is.map fun j => tD id ((trs (tb.take i)).getD j leafT))) rfl ((ob.kp (Same.refl _) k4).kp (Same.refl _) k5) (fun vs hr => EdO.to (edo_tup (edso_cons (ed_str).o (edso_cons ((ed_op (ed_var rfl r_head) ed_int fun _ _ => rd_ixT at1) : Ed _ _ _ (.str s)).o (edso_cons (edo_lcAll (items := is.map fun i => D.int (i : Nat)) (fun d => match d with | .int j => tD id ((trs (tb.take i)).getD j.toNat leafT) | _ => .non) (es_list (ed_op (ed_var rfl r_head) ed_int fun _ _ => rd_ixT at2)) ?_ ?_) edso_nil))) (Nat.le_of_ble_eq_true rfl)) ?_) g eln2 fun G5 H5 g s5 ob _ _ => ?_
        · rw [List.length_map]
          have h1 : (m : Int) ≤ L + 5 := ho.lab
          have e : is.length = m := hl
          omega
        · intro d hd G' s'
          obtain ⟨j, hj, rfl⟩ := List.mem_map.mp hd
          exact tk_name fun u hu => ⟨rfl, edo_ix rfl (hr.mono s') (ed_var rfl hu).o (at' j hj)⟩
        · rw [List.map_map]
          rfl
        · exact done G5 H5 g s5 ob
      | func r =>
        obtain ⟨x, y, rfl⟩ : ∃ x y, is = [x, y] := match is, hl with | [x, y], _ => ⟨x, y, rfl⟩
        have r_head : Rp Gj (.tup [.str "fun", .int (x : Nat), r.d, .int (y : Nat)]) v := r_head
        refine s_if' (eb_test (ed_op (ed_op (ed_var rfl r_head) ed_int fun _ _ => rd_ixT at0) ed_str fun _ _ => rd_eq rfl)) g (fun z => nomatch z) fun _ H4 g k4 => ?_
        refine s_if' (eb_test (ed_op (ed_op (ed_var rfl r_head) ed_int fun _ _ => rd_ixT at0) ed_str fun _ _ => rd_eq rfl)) g (fun z => nomatch z) fun _ H5 g k5 => ?_
        refine s_if' (eb_test (ed_op (ed_op (ed_var rfl r_head) ed_int fun _ _ => rd_ixT at0) ed_str fun _ _ => rd_eq rfl)) g (fun _ H6 g k6 => ?_) fun z => nomatch z
        refine o_appendO rfl (((ob.kp (Same.refl _) k4).kp (Same.refl _) k5).kp (Same.refl _) k6) (fun vs hr => edo_tup (edso_cons (ed_str).o (edso_cons (edo_ix rfl hr ((ed_op (ed_var rfl r_head) ed_int fun _ _ => rd_ixT at1) : Ed _ _ _ (.int (x : Nat))).o (at' x (by simp))) (edso_cons ((ed_op (ed_var rfl r_head) ed_int fun _ _ => rd_ixT at2) : Ed _ _ _ r.d).o (edso_cons (edo_ix rfl hr ((ed_op (ed_var rfl r_head) ed_int fun _ _ => rd_ixT at3) : Ed _ _ _ (.int (y : Nat))).o (at' y (by simp))) edso_nil)))) (Nat.le_of_ble_eq_true rfl)) g eln2 fun G5 H5 g s5 ob _ _ => ?_
        exact done G5 H5 g s5 ob
      | letter n =>
        have e : is = [] := List.eq_nil_of_length_eq_zero hl
        subst e
        have r_head : Rp Gj (.tup [.str "letter", .int n]) v := r_head
        refine s_if' (eb_test (ed_op (ed_op (ed_var rfl r_head) ed_int fun _ _ => rd_ixT at0) ed_str fun _ _ => rd_eq rfl)) g (fun z => nomatch z) fun _ H4 g k4 => ?_
        refine s_if' (eb_test (ed_op (ed_op (ed_var rfl r_head) ed_int fun _ _ => rd_ixT at0) ed_str fun _ _ => rd_eq rfl)) g (fun z => nomatch z) fun _ H5 g k5 => ?_
        refine s_if' (eb_test (ed_op (ed_op (ed_var rfl r_head) ed_int fun _ _ => rd_ixT at0) ed_str fun _ _ => rd_eq rfl)) g (fun z => nomatch z) fun _ H6 g k6 => ?_
        refine o_append rfl (ed_var rfl r_head) g (((ob.kp (Same.refl _) k4).kp (Same.refl _) k5).kp (Same.refl _) k6) eln2 fun G5 H5 g s5 ob _ _ => ?_
        exact done G5 H5 g s5 ob
      | plain x =>
        obtain ⟨_, n1, n2, n3, n4, _⟩ := plain_word (show x ∈ thePlain from ha)
        have e : is = [] := List.eq_nil_of_length_eq_zero hl
        subst e
        have r_head : Rp Gj (.tup [.str x]) v := r_head
        refine s_if' (((eb_test (ed_op (ed_op (ed_var rfl r_head) ed_int fun _ _ => rd_ixT at0) ed_str fun _ _ => rd_eq rfl)) : Eb _ _ _ _).to (decide_eq_false n1)) g (fun z => nomatch z) fun _ H4 g k4 => ?_
        refine s_if' (((eb_test (ed_op (ed_op (ed_var rfl r_head) ed_int fun _ _ => rd_ixT at0) ed_str fun _ _ => rd_eq rfl)) : Eb _ _ _ _).to (decide_eq_false n3)) g (fun z => nomatch z) fun _ H5 g k5 => ?_
        refine s_if' (((eb_test (ed_op (ed_op (ed_var rfl r_head) ed_int fun _ _ => rd_ixT at0) ed_str fun _ _ => rd_eq rfl)) : Eb _ _ _ _).to (decide_eq_false n2)) g (fun z => nomatch z) fun _ H6 g k6 => ?_
        refine o_append rfl (ed_var rfl r_head) g (((ob.kp (Same.refl _) k4).kp (Same.refl _) k5).kp (Same.refl _) k6) eln2 fun G5 H5 g s5 ob _ _ => ?_
        exact done G5 H5 g s5 ob
    · rintro σ G' H' g s' ⟨si, o3, o4, rfl, ob⟩
      rw [List.length_map, List.take_length] at ob
      dsimp only
      exact o_retO ob (fun vs hr => edo_ix rfl hr (ed_var rfl rI).o (getD_tree hroot)) g fun v G' H' g s' k' r => k v G' H' g r
end
end K18
set_option maxHeartbeats 4000000
/-! Trees with other letters and other rows; when one fits the other. -/
namespace K18
open PySem PySem.Spec PyProof.Rows L2 Kd
mutual
def subT (fL : Int → Tr) (fR : Ro → Ro) : Tr → Tr
  | .mk (.letter n) _ => fL n
  | .mk (.func r) ks => .mk (.func (fR r)) (subL fL fR ks)
  | .mk (.plain w) ks => .mk (.plain w) (subL fL fR ks)
  | .mk .pair ks => .mk .pair (subL fL fR ks)
  | .mk (.data s m) ks => .mk (.data s m) (subL fL fR ks)
def subL (fL : Int → Tr) (fR : Ro → Ro) : List Tr → List Tr
  | [] => []
  | k :: ks => subT fL fR k :: subL fL fR ks
end
theorem subL_map (fL : Int → Tr) (fR : Ro → Ro) : ∀ ks, subL fL fR ks = ks.map (subT fL fR)
  | [] => rfl
  | k :: ks => by rw [subL, subL_map fL fR ks]; rfl
def subN (fR : Ro → Ro) : Nd → Nd
  | .func r => .func (fR r)
  | a => a
theorem subT_node {fL : Int → Tr} {fR : Ro → Ro} {a : Nd} {ks : List Tr} (h : isLet a = false) : subT fL fR (.mk a ks) = .mk (subN fR a) (ks.map (subT fL fR)) := by
  cases a with
  | letter n => cases h
  | plain w => rw [subT, subL_map]; rfl
  | pair => rw [subT, subL_map]; rfl
  | data s m => rw [subT, subL_map]; rfl
  | func r => rw [subT, subL_map]; rfl
/-- one after the other -/
theorem subT_sub (fL gL : Int → Tr) (fR gR : Ro → Ro) : ∀ t : Tr, subT gL gR (subT fL fR t) = subT (fun n => subT gL gR (fL n)) (fun r => gR (fR r)) t := by
  intro t
  induction t using Tr.rec (motive_2 := fun ks => ks.map (fun t => subT gL gR (subT fL fR t)) = ks.map (subT (fun n => subT gL gR (fL n)) (fun r => gR (fR r)))) with
  | mk a ks ih =>
    cases h : isLet a with
    | true =>
      cases a with
      | letter n => rw [subT, subT]
      | _ => cases h
    | false =>
      rw [subT_node h, subT_node h, subT_node (by cases a <;> first | rfl | cases h), List.map_map]
      congr 1
      cases a <;> rfl
  | nil => rfl
  | cons k ks h1 h2 => rw [List.map_cons, List.map_cons, h1, h2]
theorem subT_id {fL : Int → Tr} {fR : Ro → Ro} : ∀ {t : Tr}, okT id t → (∀ n, fL n = .mk (.letter n) []) → (∀ a ∈ lbl t, ∀ r, a = .func r → fR r = r) → subT fL fR t = t := by
  intro t
  induction t using Tr.rec (motive_2 := fun ks => (∀ k ∈ ks, okT id k) → (∀ n, fL n = .mk (.letter n) []) → (∀ a ∈ lblL ks, ∀ r, a = .func r → fR r = r) → ks.map (subT fL fR) = ks) with
  | mk a ks ih =>
    rintro ⟨h1, h2, h3⟩ hL hR
    have h2 : ks.length = a.many := h2
    cases h : isLet a with
    | true =>
      cases a with
      | letter n =>
        have : ks = [] := List.eq_nil_of_length_eq_zero h2
        rw [subT, hL, this]
      | _ => cases h
    | false =>
      rw [subT_node h, ih h3 hL fun b hb => hR b (by rw [lbl]; exact List.mem_cons_of_mem _ hb)]
      congr 1
      cases a with
      | func r => rw [subN, hR (.func r) (by rw [lbl]; simp) r rfl]
      | _ => rfl
  | nil => intros; rfl
  | cons k ks h1 h2 =>
    rename_i hk hL hR
    rw [List.map_cons, h1 (hk k (by simp)) hL fun a ha => hR a (by rw [lblL]; exact List.mem_append_left _ ha), h2 (fun j hj => hk j (by simp [hj])) hL fun a ha => hR a (by rw [lblL]; exact List.mem_append_right _ ha)]
/-- how many nodes -/
theorem subT_cnt {fL : Int → Tr} {fR : Ro → Ro} {B : Nat} (hB : 1 ≤ B) (h : ∀ n, cntT (fL n) ≤ B) : ∀ t : Tr, cntT (subT fL fR t) ≤ cntT t * B := by
  intro t
  induction t using Tr.rec (motive_2 := fun ks => cntL (ks.map (subT fL fR)) ≤ cntL ks * B) with
  | mk a ks ih =>
    cases q : isLet a with
    | true =>
      cases a with
      | letter n =>
        rw [subT, cntT]
        have := h n
        have := Nat.le_mul_of_pos_left B (show 0 < cntL ks + 1 by omega)
        omega
      | _ => cases q
    | false =>
      rw [subT_node q, cntT, cntT, Nat.add_mul]
      omega
  | nil => exact Nat.zero_le _
  | cons k ks h1 h2 =>
    rw [List.map_cons, cntL, cntL, Nat.add_mul]
    omega
theorem subT_ok {fL : Int → Tr} {fR : Ro → Ro} (hL : ∀ n, okT id (fL n)) : ∀ {t : Tr}, okT id t → (∀ a ∈ lbl t, ∀ r, a = .func r → okRo (fR r)) → okT id (subT fL fR t) := by
  intro t
  induction t using Tr.rec (motive_2 := fun ks => (∀ k ∈ ks, okT id k) → (∀ a ∈ lblL ks, ∀ r, a = .func r → okRo (fR r)) → ∀ k ∈ ks, okT id (subT fL fR k)) with
  | mk a ks ih =>
    rintro ⟨h1, h2, h3⟩ hR
    have h2 : ks.length = a.many := h2
    have h1 : okNd a := h1
    cases h : isLet a with
    | true =>
      cases a with
      | letter n => rw [subT]; exact hL n
      | _ => cases h
    | false =>
      rw [subT_node h]
      refine .mk ?_ ?_ fun k hk => ?_
      · cases a with
        | func r => exact hR (.func r) (by rw [lbl]; simp) r rfl
        | _ => exact h1
      · rw [List.length_map, h2]
        cases a <;> rfl
      · obtain ⟨j, hj, rfl⟩ := List.mem_map.mp hk
        exact ih h3 (fun b hb => hR b (by rw [lbl]; exact List.mem_cons_of_mem _ hb)) j hj
  | nil => rename_i h1 h2 k hk; simp at hk
  | cons k ks h1 h2 =>
    rename_i hk hR j hj
    rcases List.mem_cons.mp hj with rfl | hj
    · exact h1 (hk j (by simp)) fun a ha => hR a (by rw [lblL]; exact List.mem_append_left _ ha)
    · exact h2 (fun i hi => hk i (by simp [hi])) (fun a ha => hR a (by rw [lblL]; exact List.mem_append_right _ ha)) j hj
/-- what a row shows at a word, put through a table of flags -/
def liftD (φ : List L2.Key → D) (d : D) : D := if isPre d = true then .str "pre" else φ (keyD d)
def CompR (φ : List L2.Key → D) (r r' : Ro) : Prop := ∀ z, r'.at z = liftD φ (r.at z)
theorem pre_pre : isPre (.str "pre") = true := by decide
theorem CompR.trans {φ ψ : List L2.Key → D} {r r' r'' : Ro} (h : CompR φ r r') (k : CompR ψ r' r'') : CompR (fun q => liftD ψ (φ q)) r r'' := fun z => by
  rw [k z, h z]
  unfold liftD
  by_cases e : isPre (r.at z) = true
  · rw [if_pos e, if_pos pre_pre, if_pos e]
  · rw [if_neg e, if_neg e]
theorem CompR.fit {φ : List L2.Key → D} {r r' : Ro} (h : CompR φ r r') (z : Str) : fitF φ r r' z := by
  unfold fitF
  rw [h z]
  unfold liftD
  by_cases e : isPre (r.at z) = true
  · rw [if_pos e, if_pos e]; exact pre_pre
  · rw [if_neg e, if_neg e]
def idF : List L2.Key → D
  | [.inr s, .inl n] => .tup [.str s, .int n]
  | [.inl t, .inr z] => .tup [.int t, .str z]
  | _ => .non
theorem comp_id (r : Ro) : CompR idF r r := fun z => by
  unfold liftD
  rcases at_cases r z with e | ⟨n, e⟩ | e
  · rw [e, if_pos pre_pre]
  · rw [e]; rfl
  · rw [e]; rfl
/-- where the letters and the rows fit, the trees do -/
theorem mat_sub {W : Str → Prop} {L : Int → Tr} {φ : List L2.Key → D} {gL hL : Int → Tr} {gR hR : Ro → Ro} : ∀ {t : Tr}, (∀ a ∈ lbl t, ∀ n, a = .letter n → MatT W L φ (gL n) (hL n)) → (∀ a ∈ lbl t, ∀ r, a = .func r → CompR φ (gR r) (hR r)) → MatT W L φ (subT gL gR t) (subT hL hR t) := by
  intro t
  induction t using Tr.rec (motive_2 := fun ks => (∀ a ∈ lblL ks, ∀ n, a = .letter n → MatT W L φ (gL n) (hL n)) → (∀ a ∈ lblL ks, ∀ r, a = .func r → CompR φ (gR r) (hR r)) → MatL W L φ (ks.map (subT gL gR)) (ks.map (subT hL hR))) with
  | mk a ks ih =>
    intro h1 h2
    cases h : isLet a with
    | true =>
      cases a with
      | letter n => rw [subT, subT]; exact h1 _ (by rw [lbl]; simp) n rfl
      | _ => cases h
    | false =>
      rw [subT_node h, subT_node h, mat_node (by cases a <;> first | rfl | cases h)]
      refine ⟨?_, ih (fun b hb => h1 b (by rw [lbl]; exact List.mem_cons_of_mem _ hb)) fun b hb => h2 b (by rw [lbl]; exact List.mem_cons_of_mem _ hb)⟩
      cases a with
      | letter n => cases h
      | plain w => rfl
      | pair => trivial
      | data s m => rfl
      | func r => exact fun z _ => (h2 (.func r) (by rw [lbl]; simp) r rfl).fit z
  | nil => exact trivial
  | cons k ks h1 h2 =>
    rename_i hL' hR'
    rw [List.map_cons, List.map_cons, MatL]
    exact ⟨h1 (fun a ha => hL' a (by rw [lblL]; exact List.mem_append_left _ ha)) fun a ha => hR' a (by rw [lblL]; exact List.mem_append_left _ ha), h2 (fun a ha => hL' a (by rw [lblL]; exact List.mem_append_right _ ha)) fun a ha => hR' a (by rw [lblL]; exact List.mem_append_right _ ha)⟩
/-! images of rows -/
structure Im where
  tl : List Int
  fg : List (Option Fl)
  own : Int → Str → Option Fl
def Im.tlAt (im : Im) (t : Int) : Int := (atI im.tl t).getD 0
def Im.fgAt (im : Im) (n : Int) : Option Fl := (atI im.fg n).getD none
def Im.at (im : Im) (ns : List (Str × Fl)) (t : Int) (z : Str) : Option Fl := match ns.find? fun p => decide (p.1 = z) with
  | some (_, .pre) => some .pre
  | some (_, .num n) => im.fgAt n
  | none => im.own t z
def Im.row (im : Im) (ws : List Str) (r : Ro) : Ro := ⟨ws.filterMap fun z => (im.at r.ns r.t z).map fun f => (z, f), im.tlAt r.t⟩
def Im.fn (im : Im) (ws : List Str) (c : Int → Int × Str) : List L2.Key → D
  | [.inr s, .inl n] => match im.fgAt n with
    | some f => f.d
    | none => .tup [.int (c n).1, .str (c n).2]
  | [.inl t, .inr z] => match (if z ∈ ws then im.own t z else none) with
    | some f => f.d
    | none => .tup [.int (im.tlAt t), .str z]
  | _ => .non
def Im.plain (im : Im) (c : Int → Int × Str) (r : Ro) : Prop := ∀ p ∈ r.ns, ∀ n, p.2 = .num n → im.fgAt n = none → c n = (im.tlAt r.t, p.1)
theorem find_fm {f : Str → Option Fl} : ∀ {ws : List Str} {z : Str}, (ws.filterMap fun z => (f z).map fun x => (z, x)).find? (fun p => decide (p.1 = z)) = if z ∈ ws then (f z).map fun x => (z, x) else none
  | [], z => by simp
  | w :: ws, z => by
    have ih := find_fm (f := f) (ws := ws) (z := z)
    by_cases e : w = z
    · subst e
      rw [if_pos (by simp)]
      cases q : f w with
      | none =>
        rw [List.filterMap_cons, q]
        simp only [Option.map_none]
        rw [ih, q]
        split <;> rfl
      | some x =>
        rw [List.filterMap_cons, q]
        simp
    · have e2 : (z ∈ w :: ws) = (z ∈ ws) := by
        simp [Ne.symm e]
      rw [show (if z ∈ w :: ws then (f z).map fun x => (z, x) else none) = if z ∈ ws then (f z).map fun x => (z, x) else none by simp [Ne.symm e]]
      cases q : f w with
      | none =>
        rw [List.filterMap_cons, q]
        simp only [Option.map_none]
        exact ih
      | some x =>
        rw [List.filterMap_cons, q]
        simp only [Option.map_some]
        rw [List.find?_cons, decide_eq_false e]
        exact ih
theorem Im.row_at (im : Im) (ws : List Str) (r : Ro) (z : Str) : (im.row ws r).at z = match (if z ∈ ws then im.at r.ns r.t z else none) with
    | some f => f.d
    | none => .tup [.int (im.tlAt r.t), .str z] := by
  unfold Ro.at Im.row
  dsimp only
  rw [find_fm]
  by_cases h : z ∈ ws
  · rw [if_pos h, if_pos h]
    cases im.at r.ns r.t z <;> rfl
  · rw [if_neg h, if_neg h]
theorem Im.comp {im : Im} {ws : List Str} {c : Int → Int × Str} {r : Ro} (hs : ∀ p ∈ r.ns, p.1 ∈ ws) (hp : im.plain c r) : CompR (im.fn ws c) r (im.row ws r) := fun z => by
  rw [Im.row_at]
  unfold liftD Ro.at Im.at
  cases q : r.ns.find? (fun p => decide (p.1 = z)) with
  | none => rfl
  | some p =>
    have hm := List.mem_of_find?_eq_some q
    have hz : p.1 = z := by have := List.find?_some q; exact of_decide_eq_true this
    have hzw : z ∈ ws := hz ▸ hs p hm
    rw [if_pos hzw]
    obtain ⟨y, f⟩ := p
    have hz : y = z := hz
    subst hz
    cases f with
    | pre => rfl
    | num n =>
      show _ = im.fn ws c [.inr "flag", .inl n]
      unfold Im.fn
      dsimp only
      cases e : im.fgAt n with
      | some f => rfl
      | none =>
        rw [hp _ hm n rfl e]
/-- the numbers, and back -/
def numI : Im := ⟨[5, 3, 4], [some (.num 2), some (.num 3), some (.num 4), some (.num 5), some (.num 6)], fun _ _ => none⟩
def numB : List L2.Key → D
  | [.inr s, .inl n] => .tup [.str s, .int (n - 2)]
  | [.inl t, .inr z] => .tup [.int (if t = 5 then 0 else if t = 3 then 1 else 2), .str z]
  | _ => .non
theorem num_plain (r : Ro) (hf : ∀ p ∈ r.ns, flB 5 p.2) : numI.plain (fun _ => (0, "")) r := fun p hp n e z => by
  have h := hf p hp
  rw [e] at h
  have : n = 0 ∨ n = 1 ∨ n = 2 ∨ n = 3 ∨ n = 4 := by
    have := h.1
    have := h.2
    omega
  rcases this with rfl | rfl | rfl | rfl | rfl <;> cases z
theorem num_back {ws : List Str} {r : Ro} (hr : RoIn ws 5 3 r) : CompR numB (numI.row ws r) r := fun z => by
  have h := Im.comp (im := numI) (ws := ws) (c := fun _ => (0, "")) (fun p hp => hr.sub.subset (List.mem_map_of_mem hp)) (num_plain r hr.fl) z
  rw [h]
  unfold liftD Ro.at
  cases q : r.ns.find? (fun p => decide (p.1 = z)) with
  | none =>
    have ht := hr.tl
    have : r.t = 0 ∨ r.t = 1 ∨ r.t = 2 := by omega
    show D.tup [.int r.t, .str z] = _
    have e : ∀ t : Int, (if z ∈ ws then numI.own t z else none) = none := fun t => by split <;> rfl
    show _ = (if isPre (Im.fn numI ws (fun _ => (0, "")) [.inl r.t, .inr z]) = true then _ else numB (keyD (Im.fn numI ws (fun _ => (0, "")) [.inl r.t, .inr z])))
    rw [Im.fn, e]
    rcases this with h | h | h <;> rw [h] <;> rfl
  | some p =>
    have hm := List.mem_of_find?_eq_some q
    have hz : p.1 = z := by have := List.find?_some q; exact of_decide_eq_true this
    have hf := hr.fl p hm
    obtain ⟨y, f⟩ := p
    cases f with
    | pre => rfl
    | num n =>
      have : n = 0 ∨ n = 1 ∨ n = 2 ∨ n = 3 ∨ n = 4 := by
        have := hf.1
        have := hf.2
        omega
      rcases this with rfl | rfl | rfl | rfl | rfl <;> rfl
end K18
set_option maxHeartbeats 4000000
namespace Kd
open PySem PySem.Spec PyProof.Rows L2
theorem opK_eqD {X : Cx} {K : PySem.W.Frag} (h : X.K = K) (hu : X.A.units + 64 < cLine) : OpR X (compareOp .Eq) (rEqD K) := h ▸ op_eqD hu
end Kd
namespace K18
open PySem PySem.Spec PyProof.Rows L2 Kd
theorem fun_hd {a : Nd} (ha : okNd a) : hdN a = "fun" ↔ ∃ r, a = .func r := by
  cases a with
  | func r => exact ⟨fun _ => ⟨r, rfl⟩, fun _ => rfl⟩
  | plain w =>
    obtain ⟨_, n1, n2, n3, n4, _⟩ := plain_word (show w ∈ thePlain from ha)
    exact ⟨fun h => absurd h n2, fun ⟨r, h⟩ => nomatch h⟩
  | letter n => exact ⟨fun h => absurd h (show ("letter" : Str) ≠ "fun" by decide), fun ⟨r, h⟩ => nomatch h⟩
  | pair => exact ⟨fun h => absurd h (show ("pair" : Str) ≠ "fun" by decide), fun ⟨r, h⟩ => nomatch h⟩
  | data s m => exact ⟨fun h => absurd h (show ("data" : Str) ≠ "fun" by decide), fun ⟨r, h⟩ => nomatch h⟩
theorem hdD_func {r : Ro} {is : List Nat} (h : is.length = 2) : ∃ x y : Nat, is = [x, y] ∧ hdD (.func r, is) = .tup [.str "fun", .int (x : Nat), r.d, .int (y : Nat)] := match is, h with
  | [x, y], _ => ⟨x, y, rfl, rfl⟩
def usD (p : Str × Int) : D := .tup [.str p.1, .int p.2]
def isNum (n : Int) : Fl → Bool
  | .num m => decide (m = n)
  | _ => false
def usH (n : Int) (h : He2) : List (Str × Int) := match h.1 with
  | .func r => (r.ns.filter fun p => isNum n p.2).map fun p => (p.1, r.t)
  | _ => []
def usesOf (n : Int) (tb : List He2) : List (Str × Int) := tb.flatMap (usH n)
theorem usH_len {n : Int} {h : He2} (ho : okNd h.1) : (usH n h).length ≤ 6 := by
  unfold usH
  split
  · rename_i r e
    rw [e] at ho
    have := List.length_filter_le (fun p : Str × Fl => isNum n p.2) r.ns
    rw [List.length_map]
    exact Nat.le_trans this ho.len
  · exact Nat.zero_le _
def numP (n : Int) : D → Bool
  | .tup [_, e] => PyData.eqv (toPy e) (toPy (Fl.num n).d)
  | _ => false
def numF (t : Int) : D → D
  | .tup [z, _] => .tup [z, .int t]
  | _ => .non
theorem num_filter {n t : Int} : ∀ ns : List (Str × Fl), ((ns.map nmD).filter (numP n)).map (numF t) = ((ns.filter fun p => isNum n p.2).map fun p => (p.1, t)).map usD
  | [] => rfl
  | p :: ns => by
    have ih := num_filter (n := n) (t := t) ns
    have e : numP n (nmD p) = isNum n p.2 := by
      have h := eqv_iff (lay_fl (f := p.2)).b (lay_fl (f := .num n)).b
      show PyData.eqv (toPy p.2.d) (toPy (Fl.num n).d) = _
      cases q : isNum n p.2 with
      | true =>
        have : p.2 = .num n := by
          cases z : p.2 with
          | pre => rw [z] at q; cases q
          | num m => rw [z] at q; rw [of_decide_eq_true q]
        exact h.mpr (by rw [this])
      | false =>
        cases z : PyData.eqv (toPy p.2.d) (toPy (Fl.num n).d) with
        | false => rfl
        | true =>
          have := flD_inj (h.mp z)
          rw [this] at q
          simp [isNum] at q
    rw [List.map_cons, List.filter_cons, List.filter_cons, e]
    cases q : isNum n p.2 with
    | true =>
      rw [if_pos rfl, if_pos rfl, List.map_cons, List.map_cons, List.map_cons, ih]
      rfl
    | false =>
      rw [if_neg (by simp), if_neg (by simp), ih]
section
variable {P : Program} {w : World} {K : PySem.W.Frag} {mg : Str → Option Value} {base : Heap}
def rUses : List D → D → Prop := fun ds d => ∃ (ws : List Str) (f t L : Int) (tb : List He2) (n : Int), ds = [.lst (tb.map hdD), .int n] ∧ TabOk ws f t L tb ∧ tb.length ≤ 100000 ∧ d = .lst ((usesOf n tb).map usD)
abbrev N_law_uses : List Str := ["table", "number", "uses", "head", "word", "flag"]
theorem sc_law_uses : FnScope ["table", "number", "uses", "head", "word", "flag"] ["table", "number"] (defScope s_law_uses) := ⟨rfl, rfl, rfl, by decide +kernel, rfl, by decide +kernel, by decide +kernel⟩
theorem ok_law_uses (T : Tx K mg) : Good P w K mg base CX0 "_law_uses" 2 ["table", "number"] (spRel rUses) := by
  obtain ⟨fd, F⟩ := T.f__law_uses
  refine ⟨T.m__law_uses, F.kp, fd, ?_, F.bindsN fun _ _ _ _ _ _ us hl => match us, hl with | [_, _], _ => rfl⟩
  refine F.ok sc_law_uses (fun vs H Q E h => ?_) (fun cdv A outer s H vs Q E hr h => ?_)
  · obtain ⟨G, ds, d, _, r, ⟨ws, f, t, L, tb, n, rfl, _⟩, _⟩ := h
    exact r.len
  · obtain ⟨G, ds, d, s0, r, ⟨ws, f, t, L, tb, n, rfl, hok, hlen, rfl⟩, k⟩ := h
    obtain ⟨v1, _, rfl, r_table, v2, _, rfl, r_number, rfl⟩ := r
    cases (show v2 = .int n from r_number)
    refine ⟨_, PSs.nox ((pss_cons (ps_set (i := 2) sc_law_uses.nd rfl (Or.inl rfl) (pe_lst pa_nil))
    (pss_cons (ps_for PassesOwn.never rfl (pi_list (pv 0)) (pg_name (i := 3) sc_law_uses.nd rfl (Or.inr rfl)) (pss_one (ps_if (pt_cmpR op_eq (pe_ix ix_tup (pv 3) pe_int (fun _ _ => rfl)) pe_str (nomark _)) (pss_one (ps_set (i := 2) sc_law_uses.nd rfl (Or.inl rfl) (pe_op op_cat (pv 2) (pe_lc (own := [("word", 4), ("flag", 5)]) rfl sc_law_uses.nd (pi_list (pe_ix ix_tup (pe_ix ix_tup (pv 3) pe_int (fun _ _ => rfl)) pe_int (fun _ _ => rfl))) (blkOk_by (own := [("word", 4), ("flag", 5)]) (N := ["table", "number", "uses", "head", "word", "flag"]) (sc := defScope s_law_uses) (by decide +kernel)) (fun _ _ _ _ _ => by exact (pgK_tup (K := K) (n := 2) rfl rfl (pgs_cons (pg_name (i := 4) sc_law_uses.nd rfl (Or.inl rfl)) (pgs_cons (pg_name (i := 5) sc_law_uses.nd rfl (Or.inl rfl)) pgs_nil)))) (fun _ _ _ _ _ => by exact (pts_one (pt_cmpR (opK_eqD (K:=K) rfl hr.units) (pv 5) (pe_tup (pa_cons pe_str (pa_cons (pv 1) pa_nil))) (nomark _)))) (fun _ _ _ _ _ => by exact (pe_tup (pa_cons (pv 4) (pa_cons (pe_ix (ixK_tup (K := K) rfl) (pe_ix (ixK_tup (K := K) rfl) (pv 3) pe_int (fun _ _ => rfl)) pe_int (fun _ _ => rfl)) pa_nil)))))))) pss_nil)))
    (pss_one (ps_ret (pv 2)))))), ?_⟩
    have g := gr0 (M := []) s0
    have rI : ∀ {G'} {x : Int}, Rp G' (.int x) (.int x) := rfl
    refine s_seq (s_set' (d := .lst []) (ed_lst eds_nil (Nat.zero_le _)) g fun v3 G1 H1 g s1 k1 r_uses => ?_)
    dsimp only
    refine s_seq (s_for (σ := [some v1, some (.int n), some v3, none, none, none]) (items := tb.map hdD) (es_list (ed_var rfl (r_table.mono s1))) g (fun i σ G' H' => Same G1 G' ∧ ∃ (v3 : V) (o1 : Option V), σ = [some v1, some (.int n), some v3, o1, none, none] ∧ Rp G' (.lst ((usesOf n (tb.take i)).map usD)) v3 ∧ (usesOf n (tb.take i)).length ≤ 6 * i) (fun G' H' g' s' k' => ⟨s', _, _, rfl, r_uses.mono s', Nat.zero_le _⟩) ?_ ?_)
    · rintro Gs i d v σ Gi Hi Gj Hj hd sg sgi ⟨si, v3, o1, rfl, r_uses, hul⟩ g sj kj r_head
      rw [List.getElem?_map] at hd
      obtain ⟨h, hh, rfl⟩ := Option.map_eq_some_iff.mp hd
      have hil := (List.getElem?_eq_some_iff.mp hh).1
      have ho := hok i h hh
      have ei : usesOf n (tb.take (i + 1)) = usesOf n (tb.take i) ++ usH n h := by
        rw [take_snoc hh]
        simp [usesOf]
      have hul2 := usH_len (n := n) ho.ok
      have r_uses := r_uses.mono sj
      obtain ⟨q1, eq1⟩ := hdD_word h ho.len
      have hone : Rp Gj (.tup (.str (hdN h.1) :: q1)) v := eq1 ▸ r_head
      by_cases hF : hdN h.1 = "fun"
      · obtain ⟨r, er⟩ := (fun_hd ho.ok).mp hF
        obtain ⟨a, is⟩ := h
        have er : a = .func r := er
        subst er
        obtain ⟨x, y, rfl, ehd⟩ := hdD_func (r := r) ho.len
        rw [ehd] at r_head
        have hrok : okRo r := ho.ok
        have hnl := hrok.len
        refine s_if' ((eb_test (ed_op (ed_op (ed_var rfl hone) ed_int fun _ _ => rd_ixT at0) ed_str fun _ _ => rd_eq rfl)).to (decide_eq_true hF)) g (fun _ H3 g k3 => ?_) fun z => nomatch z
        refine s_set' (d := .lst ((usesOf n (tb.take (i + 1))).map usD)) (Ed.to (ed_op (ed_var rfl r_uses) (ed_lc (items := r.ns.map nmD) (numF r.t) (numP n) (es_list (ed_op (ed_op (ed_var rfl r_head) ed_int fun _ _ => rd_ixT at2) ed_int fun _ _ => rd_ixT at0)) (by rw [List.length_map]; omega) ?_) fun _ _ => rd_cat ?_) ?_) g fun v5 G5 H5 g s5 k5 r5 => ?_
        · intro d hd G' s'
          obtain ⟨p, hp, rfl⟩ := List.mem_map.mp hd
          have r_head := r_head.mono s'
          refine tk_tup rfl (tkl_cons fun u hu => tkl_cons fun u' hu' => tkl_nil ⟨rfl, ?_, fun _ => ?_⟩)
          · exact eb_test (ed_op (ed_var rfl hu') (ed_tup (eds_cons ed_str (eds_cons (ed_var rfl rI) eds_nil)) (Nat.le_of_ble_eq_true rfl)) fun _ _ => rd_eqD (d := p.2.d) (e := (Fl.num n).d) (noBl_dct lay_fl.b) (noBl_dct lay_fl.b) (lay_shaped (lay_fl.mono (by decide))) (lay_shaped (lay_fl.mono (by decide))))
          · exact ed_tup (eds_cons (ed_var rfl hu) (eds_cons (ed_op (ed_op (ed_var rfl r_head) ed_int fun _ _ => rd_ixT at2) ed_int fun _ _ => rd_ixT at1) eds_nil)) (Nat.le_of_ble_eq_true rfl)
        · have := List.length_filter_le (numP n) (r.ns.map nmD)
          rw [List.length_map] at this
          rw [List.length_map, List.length_map]
          omega
        · rw [num_filter, ei, List.map_append]
          rfl
        · exact ⟨G5, g, sgi.trans (sj.trans s5), si.trans (sj.trans s5), v5, _, rfl, r5, by rw [ei, List.length_append]; omega⟩
      · have e0 : usH n h = [] := by
          unfold usH
          split
          · rename_i r e
            exact absurd ((fun_hd ho.ok).mpr ⟨r, e⟩) hF
          · rfl
        refine s_if' ((eb_test (ed_op (ed_op (ed_var rfl hone) ed_int fun _ _ => rd_ixT at0) ed_str fun _ _ => rd_eq rfl)).to (decide_eq_false hF)) g (fun z => nomatch z) fun _ H3 g k3 => ?_
        exact ⟨Gj, g, sgi.trans sj, si.trans sj, v3, _, rfl, by rw [ei, e0, List.append_nil]; exact r_uses, by rw [ei, e0, List.append_nil]; omega⟩
    · rintro σ G' H' g s' ⟨si, v3, o1, rfl, r_uses, _⟩
      rw [List.length_map, List.take_length] at r_uses
      dsimp only
      exact s_ret (ed_var rfl r_uses) g k
/-! images -/
def imD : Option Fl → D
  | none => .str "own"
  | some f => f.d
structure OwnD (G : Hp) (B : Option Fl → Prop) (dn : Int → Str → Prop) (own : Int → Str → Option Fl) (kvs : List (List L2.Key × V)) : Prop where
  so : ∀ t z, dn t z → ∃ u, valV kvs [.inl t, .inr z] = some u ∧ Rp G (imD (own t z)) u ∧ B (own t z)
theorem OwnD.mono {G G' : Hp} {B : Option Fl → Prop} {dn : Int → Str → Prop} {own : Int → Str → Option Fl} {kvs : List (List L2.Key × V)} (s : Same G G') (h : OwnD G B dn own kvs) : OwnD G' B dn own kvs := ⟨fun t z q => by
  obtain ⟨u, h1, h2, h3⟩ := h.so t z q
  exact ⟨u, h1, h2.mono s, h3⟩⟩
theorem OwnD.put {G : Hp} {B : Option Fl → Prop} {dn dn' : Int → Str → Prop} {own : Int → Str → Option Fl} {kvs : List (List L2.Key × V)} {t0 : Int} {z0 : Str} {x : Option Fl} {u : V} (h : OwnD G B dn own kvs) (hu : Rp G (imD x) u) (hB : B x) (hd : ∀ t z, dn' t z → dn t z ∨ (t = t0 ∧ z = z0)) :
    OwnD G B dn' (fun t z => if t = t0 ∧ z = z0 then x else own t z) (putK kvs [.inl t0, .inr z0] u) := ⟨fun t z q => by
  rw [valV_put]
  by_cases e : t = t0 ∧ z = z0
  · rw [if_pos (by rw [e.1, e.2])]
    rw [if_pos e]
    exact ⟨u, rfl, hu, hB⟩
  · rw [if_neg fun w => e (by simpa using w)]
    rw [if_neg e]
    exact h.so t z ((hd t z q).resolve_right e)⟩
/-- v is a table of images -/
def ImAt (G : Hp) (ws : List Str) (f' t' : Int) (im : Im) (v : V) : Prop := ∃ (a : Addr) (v1 v2 : V) (o : Addr) (kvs : List (List L2.Key × V)), v = .ref a ∧ G a = some (.tup [v1, v2, .ref o]) ∧ Rp G (.lst (im.tl.map .int)) v1 ∧ Rp G (.lst (im.fg.map imD)) v2 ∧ G o = some (.dT kvs) ∧
  OwnD G (fun x => ∀ f, x = some f → flB f' f) (fun t z => (0 ≤ t ∧ t < 3) ∧ z ∈ ws) im.own kvs
theorem ImAt.mono {G G' : Hp} {ws : List Str} {f' t' : Int} {im : Im} {v : V} (s : Same G G') (h : ImAt G ws f' t' im v) : ImAt G' ws f' t' im v := by
  obtain ⟨a, v1, v2, o, kvs, h0, h1, h2, h3, h4, h5⟩ := h
  exact ⟨a, v1, v2, o, kvs, h0, s _ _ h1, h2.mono s, h3.mono s, s _ _ h4, h5.mono s⟩
structure ImOk (f f' t' : Int) (im : Im) : Prop where
  tn : im.tl.length = 3
  tb : ∀ x ∈ im.tl, 0 ≤ x ∧ x < t'
  fn : f ≤ (im.fg.length : Nat)
  fb : ∀ x, some x ∈ im.fg → flB f' x
end
end K18
set_option maxHeartbeats 4000000
namespace Kd
open PySem PySem.Spec PyProof.Rows L2
section
variable {K : PySem.W.Frag} {σ : L2.St} {G G1 : Hp} {te ta tb ti : TE} {d e : D} {o p : Addr} {M : List Addr} {G0 H0 H : Hp} {Dn : Ends} {kvs : List (List L2.Key × V)} {P : D → Prop}
abbrev Ko (o : Addr) (G H G' H' : Hp) : Prop := ∀ a x, a ≠ o → H a = some x → H' a = some x ∧ (G a = none → G' a = none)
theorem key2 {t : Int} {z : Str} {v : V} (h : Rp G (.tup [.int t, .str z]) v) : ∃ b, v = .ref b ∧ G b = some (.tup (([.inl t, .inr z] : List L2.Key).map kV)) := by
  obtain ⟨b, vs, rfl, hb, x, _, rfl, hx, y, _, rfl, hy, rfl⟩ := h
  cases hx
  cases hy
  exact ⟨b, rfl, hb⟩
theorem o_dput {i : Nat} {t : Int} {z : Str} (hv : σ[i]? = some (some (.ref o))) (he : Ed te σ G d) (hi : Ed ti σ G (.tup [.int t, .str z])) (oo : OwnO H0 G H o (.dT kvs)) (g : Gr M G0 H0 G H) (hl : kvs.length ≤ 1000)
    (k : ∀ v G' H', Gr M G0 H0 G' H' → Same G G' → Ko o G H G' H' → Rp G' d v → OwnO H0 G' H' o (.dT (putK kvs [.inl t, .inr z] v)) → Dn.nx σ H') : tAsg te (gSub (tVar i) ti rSetD) Dn σ H := he H g.s _ fun v G1 H1 g1 r1 => ⟨_, hv, hi.mono g1.g H1 g1.s _ fun w G2 H2 g2 r2 => by
  obtain ⟨b, rfl, hb⟩ := key2 r2
  have oo := (oo.kp g1.kp).kp g2.kp
  refine ⟨o, _, rfl, DPut.t oo.e (g2.s b _ hb) (Nat.lt_of_le_of_lt hl (by decide +kernel)), k v G2 _ (((g.call g1).call g2).mut oo.g oo.h0) (g1.g.trans g2.g) (fun a x n hx => ?_) (r1.mono g2.g) ⟨oo.h0, oo.g, upd_same⟩⟩
  rw [upd_ne n]
  exact (g1.kp.trans g2.kp) a x hx⟩
theorem p_dput {i : Nat} {t : Int} {z : Str} (hv : σ[i]? = some (some (.ref o))) (he : EdP p te σ G P) (hi : Ed ti σ G (.tup [.int t, .str z])) (oo : OwnO H0 G H o (.dT kvs)) (g : Gr M G0 H0 G H) (hM : p ∈ M) (hp0 : H0 p ≠ none) (q : PoolAt p G H) (hl : kvs.length ≤ 1000)
    (k : ∀ d v G' H', P d → Gr M G0 H0 G' H' → Same G G' → PoolAt p G' H' → (∀ m ds, m ≠ o → Own H0 G H m ds → Own H0 G' H' m ds) → Rp G' d v → OwnO H0 G' H' o (.dT (putK kvs [.inl t, .inr z] v)) → Dn.nx σ H') : tAsg te (gSub (tVar i) ti rSetD) Dn σ H := he H g.s q _ fun d v G1 H1 hd g1 q1 r1 => ⟨_, hv, hi.mono g1.g H1 g1.s _ fun w G2 H2 g2 r2 => by
  obtain ⟨b, rfl, hb⟩ := key2 r2
  have npo : o ≠ p := fun z => hp0 (by rw [← z]; exact oo.h0)
  have oo := (oo.callOwn g1 npo).kp g2.kp
  have q2 := q1.kp g2.kp
  refine ⟨o, _, rfl, DPut.t oo.e (g2.s b _ hb) (Nat.lt_of_le_of_lt hl (by decide +kernel)), k d v G2 _ hd (((g.callP g1 hM).call g2).mut oo.g oo.h0) (g1.g.trans g2.g) ⟨q2.g, ?_⟩ (fun m ds n om => ((om.callP g1 hp0).kp g2.g g2.kp).upd n) (r1.mono g2.g) ⟨oo.h0, oo.g, upd_same⟩⟩
  rw [upd_ne (Ne.symm npo)]
  exact q2.e⟩
theorem o_ret3 {i : Nat} (h1 : Ed ta σ G d) (h2 : Ed tb σ G e) (hv : σ[i]? = some (some (.ref o))) (g : Gr M G0 H0 G H) (k : ∀ a v1 v2 G' H', Gr M G0 H0 G' H' → Same G G' → Kp G H G' H' → G' a = some (.tup [v1, v2, .ref o]) → Rp G' d v1 → Rp G' e v2 → Dn.rt (.ref a) H') : tRet (tTup (tCons ta (tCons tb (tCons (tVar i) tNil)))) Dn σ H :=
  h1 H g.s _ fun v1 G1 H1 g1 r1 => h2.mono g1.g H1 g1.s _ fun v2 G2 H2 g2 r2 => ⟨_, hv, Nat.le_trans (show 3 ≤ 1000 by decide) (by decide), fun a ha => by
    have g3 := (g.call g1).call g2
    have s3 := same_frz (o := .tup [v1, v2, .ref o]) (g3.gfree ha)
    exact k a v1 v2 _ _ (g3.new ha) ((g1.g.trans g2.g).trans s3) ((g1.kp.trans g2.kp).trans fun l x e => ⟨by rw [upd_ne (ne_of_none e ha)]; exact e, fun n => by rw [upd_ne (ne_of_none e ha)]; exact n⟩) upd_same ((r1.mono g2.g).mono s3) (r2.mono s3)⟩
theorem OwnO.frz {x : HO} (q : OwnO H0 G H o x) (g : Gr M G0 H0 G H) : ∃ G', Gr M G0 H0 G' H ∧ Same G G' ∧ G' o = some x ∧ (∀ a, a ≠ o → G a = none → G' a = none) := ⟨_, g.frz q.e q.g q.h0, same_frz q.g, upd_same, fun a n h => by rw [upd_ne n]; exact h⟩
theorem ed_dget {i : Nat} {t : Int} {z : Str} {u : V} (hv : σ[i]? = some (some (.ref o))) (ho : G o = some (.dT kvs)) (hi : Ed ti σ G (.tup [.int t, .str z])) (hu : valV kvs [.inl t, .inr z] = some u) (r : Rp G d u) : Ed (tDGet (tVar i) ti) σ G d := fun H s Q q => ⟨_, hv, hi H s _ fun w G2 H2 g2 r2 => by
  obtain ⟨b, rfl, hb⟩ := key2 r2
  refine ⟨o, u, rfl, hu ▸ DGet.t (g2.e o _ (s o _ ho)) (g2.s b _ hb), q u G2 H2 g2 (r.mono g2.g)⟩⟩
end
end Kd
namespace K18
open PySem PySem.Spec PyProof.Rows L2 Kd
theorem OwnD.congr {G : Hp} {B : Option Fl → Prop} {dn : Int → Str → Prop} {own own' : Int → Str → Option Fl} {kvs : List (List L2.Key × V)} (h : OwnD G B dn own kvs) (e : ∀ t z, own t z = own' t z) : OwnD G B dn own' kvs := ⟨fun t z q => by
  rw [← e]
  exact h.so t z q⟩
section
variable {P : Program} {w : World} {K : PySem.W.Frag} {mg : Str → Option Value} {base : Heap}
def spNumI : Sp := fun vs H Q _ => ∃ (G : Hp) (ws : List Str) (v1 : V), vs = [v1] ∧ Same G H ∧ Rp G (.lst (ws.map .str)) v1 ∧ ws.length ≤ 5 ∧ ∀ v G' H', Gp G H G' H' → ImAt G' ws 7 6 numI v → Q v H'
abbrev N_law_numbers : List Str := ["words", "own", "tail", "word", "number"]
theorem sc_law_numbers : FnScope ["words", "own", "tail", "word", "number"] ["words"] (defScope s_law_numbers) := ⟨rfl, rfl, rfl, by decide +kernel, rfl, by decide +kernel, by decide +kernel⟩
theorem ok_law_numbers (T : Tx K mg) : Good P w K mg base CX0 "_law_numbers" 2 ["words"] spNumI := by
  obtain ⟨fd, F⟩ := T.f__law_numbers
  refine ⟨T.m__law_numbers, F.kp, fd, ?_, F.bindsN fun _ _ _ _ _ _ us hl => match us, hl with | [_], _ => rfl⟩
  refine F.ok sc_law_numbers (fun vs H Q E h => ?_) (fun cdv A outer s H vs Q E hr h => ?_)
  · obtain ⟨G, ws, v1, rfl, _⟩ := h
    rfl
  · obtain ⟨G, ws, v1, rfl, s0, r_words, hwl, k⟩ := h
    refine ⟨_, PSs.nox ((pss_cons (ps_set (i := 1) sc_law_numbers.nd rfl (Or.inl rfl) (pe_dnewT))
    (pss_cons (ps_for PassesOwn.never rfl (pi_range1 (by rfl) T.n_range (pa_cons pe_int pa_nil)) (pg_name (i := 2) sc_law_numbers.nd rfl (Or.inl rfl)) (pss_one (ps_for PassesOwn.never rfl (pi_list (pv 0)) (pg_name (i := 3) sc_law_numbers.nd rfl (Or.inl rfl)) (pss_one (ps_asg pe_str (pg_sub (pv 1) (pe_tup (pa_cons (pv 2) (pa_cons (pv 3) pa_nil))) (set_dict (Nat.lt_of_le_of_lt (Nat.add_le_add_left (by decide) _) hr.units))))))))
    (pss_one (ps_ret (pe_tup (pa_cons (pe_lst (pa_cons pe_int (pa_cons pe_int (pa_cons pe_int pa_nil)))) (pa_cons (pe_lc (own := [("number", 4)]) rfl sc_law_numbers.nd (pi_range1 (by rfl) T.n_range (pa_cons pe_int pa_nil)) (blkOk_by (own := [("number", 4)]) (N := ["words", "own", "tail", "word", "number"]) (sc := defScope s_law_numbers) (by decide +kernel)) (fun _ _ _ _ _ => by exact (pg_name (i := 4) sc_law_numbers.nd rfl (Or.inl rfl))) (fun _ _ _ _ _ => by exact pts_nil) (fun _ _ _ _ _ => by exact (pe_tup (pa_cons pe_str (pa_cons (pe_op op_add (pv 4) pe_int) pa_nil))))) (pa_cons (pv 1) pa_nil))))))))), ?_⟩
    have g := gr0 (M := []) s0
    have rI : ∀ {G'} {x : Int}, Rp G' (.int x) (.int x) := rfl
    have rS : ∀ {G'} {x : Str}, Rp G' (.str x) (.str x) := rfl
    refine s_seq (fun o ho => ?_)
    have oo : OwnO H G (upd H o (.dT [])) o (.dT []) := ⟨ho, g.gfree ho, upd_same⟩
    have g := g.tmp (o := .dT []) ho
    dsimp only
    refine s_seq (s_for (σ := [some v1, some (.ref o), none, none, none]) (items := (List.range (3 : Int).toNat).map fun i => .int ((0 : Int) + (i : Nat))) (es_range1 (n := 3) ed_int (by decide) (by decide)) g (fun i σ G' H' => Same G G' ∧ ∃ (o1 o2 : Option V) (kvs : List (List L2.Key × V)), σ = [some v1, some (.ref o), o1, o2, none] ∧ OwnO H G' H' o (.dT kvs) ∧ kvs.length ≤ 5 * i ∧ OwnD G' (fun x => ∀ f, x = some f → flB 7 f) (fun t z => (0 ≤ t ∧ t < i) ∧ z ∈ ws) (fun _ _ => none) kvs) (fun G' H' g' s' k' => ⟨s', _, _, [], rfl, oo.kp k', Nat.zero_le _, ⟨fun t z q => by have := q.1.1; have := q.1.2; omega⟩⟩) ?_ ?_)
    · rintro Gs i d v σ Gi Hi Gj Hj hd sg sgi ⟨si, o1, o2, kvs, rfl, oo, hkl, od⟩ g sj kj rv
      have oo := oo.kp kj
      have od := od.mono sj
      obtain ⟨hi3, ed⟩ : i < 3 ∧ d = .int (i : Nat) := by
        rw [List.getElem?_map] at hd
        obtain ⟨m, hm, rfl⟩ := Option.map_eq_some_iff.mp hd
        have h1 := (List.getElem?_eq_some_iff.mp hm).1
        have h2 := (List.getElem?_eq_some_iff.mp hm).2
        simp at h1 h2
        subst h2
        exact ⟨h1, by simp⟩
      subst ed
      cases (show v = .int (i : Nat) from rv)
      have hS := si.trans sj
      refine s_for (σ := [some v1, some (.ref o), some (.int (i : Nat)), o2, none]) (items := ws.map .str) (es_list (ed_var rfl (r_words.mono hS))) g (fun j σ G' H' => Same Gj G' ∧ ∃ (o2 : Option V) (kvs : List (List L2.Key × V)), σ = [some v1, some (.ref o), some (.int (i : Nat)), o2, none] ∧ OwnO H G' H' o (.dT kvs) ∧ kvs.length ≤ 5 * i + j ∧ OwnD G' (fun x => ∀ f, x = some f → flB 7 f) (fun t z => (0 ≤ t ∧ t < i) ∧ z ∈ ws ∨ t = i ∧ z ∈ ws.take j) (fun _ _ => none) kvs) (fun G' H' g' s' k' => ⟨s', _, kvs, rfl, oo.kp k', hkl, ⟨fun t z q => (od.mono s').so t z (q.elim id fun h => by simp at h)⟩⟩) ?_ ?_
      · rintro Gs2 j d v σ Gk Hk Gl Hl hd sg2 sgk ⟨sk, o2, kvs, rfl, oo, hkl, od⟩ g sl kl rv
        have oo := oo.kp kl
        have od := od.mono sl
        rw [List.getElem?_map] at hd
        obtain ⟨z, hz, rfl⟩ := Option.map_eq_some_iff.mp hd
        have hjl := (List.getElem?_eq_some_iff.mp hz).1
        cases (show v = .str z from rv)
        refine o_dput (d := .str "own") (t := (i : Nat)) (z := z) rfl ed_str (ed_tup (eds_cons (ed_var rfl rI) (eds_cons (ed_var rfl rS) eds_nil)) (Nat.le_of_ble_eq_true rfl)) oo g (by omega) fun v5 G5 H5 g s5 k5 r5 oo => ?_
        have := length_putK kvs ([.inl (i : Nat), .inr z] : List L2.Key) v5
        refine ⟨G5, g, sgk.trans (sl.trans s5), sk.trans (sl.trans s5), _, _, rfl, oo, by omega, ((od.mono s5).put (x := none) r5 (fun f h => nomatch h) ?_).congr fun t z => by split <;> rfl⟩
        rintro t y (h | ⟨h1, h2⟩)
        · exact .inl (.inl h)
        · rw [take_snoc hz] at h2
          rcases List.mem_append.mp h2 with h2 | h2
          · exact .inl (.inr ⟨h1, h2⟩)
          · exact .inr ⟨h1, List.mem_singleton.mp h2⟩
      · rintro σ G5 H5 g s5 ⟨sk, o2, kvs, rfl, oo, hkl, od⟩
        rw [List.length_map, List.take_length] at od
        rw [List.length_map] at hkl
        refine ⟨G5, g, sgi.trans (sj.trans sk), hS.trans sk, _, _, kvs, rfl, oo, by omega, ⟨fun t z q => od.so t z ?_⟩⟩
        obtain ⟨⟨h1, h2⟩, h3⟩ := q
        by_cases e : t = (i : Nat)
        · exact .inr ⟨e, h3⟩
        · exact .inl ⟨⟨h1, by omega⟩, h3⟩
    · rintro σ G' H' g s' ⟨si, o1, o2, kvs, rfl, oo, hkl, od⟩
      obtain ⟨G6, g, s6, e6, _⟩ := oo.frz g
      dsimp only
      refine o_ret3 (d := .lst (numI.tl.map .int)) (e := .lst (numI.fg.map imD)) (o := o) (ed_lst (eds_cons ed_int (eds_cons ed_int (eds_cons ed_int eds_nil))) (Nat.le_of_ble_eq_true rfl)) ((ed_lcAll (items := (List.range (5 : Int).toNat).map fun i => .int ((0 : Int) + (i : Nat))) (fun d => match d with | .int n => .tup [.str "flag", .int (n + 2)] | _ => .non) (es_range1 (n := 5) ed_int (by decide) (by decide)) (Nat.le_of_ble_eq_true rfl) ?_).to rfl) rfl g fun a u1 u2 G7 H7 g s7 _ ha h1 h2 => k _ G7 H7 g ⟨a, u1, u2, o, kvs, rfl, ha, h1, h2, s7 _ _ e6, ((od.mono s6).mono s7)⟩
      intro d hd G8 s8
      obtain ⟨m, hm, rfl⟩ := List.mem_map.mp hd
      exact tk_name fun u hu => ⟨rfl, ed_tup (eds_cons ed_str (eds_cons (ed_op (ed_var rfl hu) ed_int fun _ _ => rd_I0i) eds_nil)) (Nat.le_of_ble_eq_true rfl)⟩
end
end K18
set_option maxHeartbeats 4000000
namespace K18
open PySem PySem.Spec PyProof.Rows L2 Kd
theorem ltS_irr (a : Str) : ¬ ltS a a := List.lt_irrefl _
theorem up_nodup {ws : List Str} (h : ws.Pairwise ltS) : ws.Nodup := by
  show ws.Pairwise (· ≠ ·)
  exact List.Pairwise.imp (fun {a b} (h : ltS a b) (e : a = b) => ltS_irr a (by rw [← e] at h; exact h)) h
theorem RoIn.nodup {ws : List Str} {f t : Int} {r : Ro} (h : RoIn ws f t r) (hw : ws.Pairwise ltS) : (r.ns.map (·.1)).Nodup := List.Nodup.sublist h.sub (up_nodup hw)
theorem at_map {α β : Type} {xs : List α} {n : Int} {g : α → β} (h0 : 0 ≤ n) (h1 : n < (xs.length : Nat)) : ∃ x, atI xs n = some x ∧ atI (xs.map g) n = some (g x) ∧ x ∈ xs := by
  obtain ⟨m, rfl⟩ := Int.eq_ofNat_of_zero_le h0
  have hm : m < xs.length := by omega
  exact ⟨xs[m], atI_nat (by simp [hm]), atI_nat (by simp [hm]), List.getElem_mem hm⟩
theorem Im.at_hit {im : Im} {ns : List (Str × Fl)} {t : Int} {z : Str} {i : Nat} {p : Str × Fl} (hn : (ns.map (·.1)).Nodup) (hp : ns[i]? = some p) (e : p.1 = z) : im.at (ns.take (i + 1)) t z = match p.2 with
    | .pre => some .pre
    | .num n => im.fgAt n := by
  have h0 : (ns.take i).find? (fun p => decide (p.1 = z)) = none := by
    rw [List.find?_eq_none]
    intro q hq
    obtain ⟨j, hj, ej⟩ := List.mem_iff_getElem.mp hq
    rw [List.length_take] at hj
    rw [List.getElem_take] at ej
    intro h
    have h := of_decide_eq_true h
    obtain ⟨hi, ei⟩ := List.getElem?_eq_some_iff.mp hp
    have h3 : (ns.map (·.1))[j]'(by rw [List.length_map]; omega) = (ns.map (·.1))[i]'(by rw [List.length_map]; omega) := by
      rw [List.getElem_map, List.getElem_map, ej, ei, h, e]
    have := (List.pairwise_iff_getElem.mp (show (ns.map (·.1)).Pairwise (· ≠ ·) from hn)) j i (by rw [List.length_map]; omega) (by rw [List.length_map]; omega) (by omega)
    exact this h3
  unfold Im.at
  rw [take_snoc hp, List.find?_append, h0]
  obtain ⟨y, f⟩ := p
  simp only [Option.none_or]
  rw [List.find?_cons, decide_eq_true (show (y, f).1 = z from e)]
  cases f <;> rfl
theorem Im.at_miss {im : Im} {ns : List (Str × Fl)} {t : Int} {z : Str} {i : Nat} {p : Str × Fl} (hp : ns[i]? = some p) (e : p.1 ≠ z) : im.at (ns.take (i + 1)) t z = im.at (ns.take i) t z := by
  unfold Im.at
  rw [take_snoc hp, List.find?_append]
  have : [p].find? (fun p => decide (p.1 = z)) = none := by
    rw [List.find?_cons, decide_eq_false e]
    rfl
  rw [this, Option.or_none]
theorem imD_own (x : Option Fl) : eqS (imD x) "own" = true ↔ x = none := by
  cases x with
  | none => simp [imD, eqS]
  | some f =>
    cases f with
    | pre =>
      simp [imD, Fl.d, eqS]
      decide
    | num n => simp [imD, Fl.d, eqS]
theorem imD_dct (x : Option Fl) : isDct (imD x) = false := by
  cases x with
  | none => rfl
  | some f => cases f <;> rfl
section
variable {P : Program} {w : World} {K : PySem.W.Frag} {mg : Str → Option Value} {base : Heap}
def spRowI : Sp := fun vs H Q _ => ∃ (G : Hp) (r : Ro) (ws : List Str) (f f' t' : Int) (im : Im) (v1 v2 v3 : V), vs = [v1, v2, v3] ∧ Same G H ∧ Rp G r.d v1 ∧ Rp G (.lst (ws.map .str)) v2 ∧ ImAt G ws f' t' im v3 ∧ ImOk f f' t' im ∧ RoIn ws f 3 r ∧ WordsOk ws ∧ ∀ v G' H', Gp G H G' H' → Rp G' (im.row ws r).d v → Q v H'
abbrev N_law_row_image : List Str := ["row", "words", "images", "tails", "flags", "own", "named", "word", "image", "other", "flag"]
theorem sc_law_row_image : FnScope ["row", "words", "images", "tails", "flags", "own", "named", "word", "image", "other", "flag"] ["row", "words", "images"] (defScope s_law_row_image) := ⟨rfl, rfl, rfl, by decide +kernel, rfl, by decide +kernel, by decide +kernel⟩
theorem ok_law_row_image (T : Tx K mg) : Good P w K mg base CX0 "_law_row_image" 2 ["row", "words", "images"] spRowI := by
  obtain ⟨fd, F⟩ := T.f__law_row_image
  refine ⟨T.m__law_row_image, F.kp, fd, ?_, F.bindsN fun _ _ _ _ _ _ us hl => match us, hl with | [_, _, _], _ => rfl⟩
  refine F.ok sc_law_row_image (fun vs H Q E h => ?_) (fun cdv A outer s H vs Q E hr h => ?_)
  · obtain ⟨G, r, ws, f, f', t', im, v1, v2, v3, rfl, _⟩ := h
    rfl
  · obtain ⟨G, r, ws, f, f', t', im, v1, v2, v3, rfl, s0, r_row, r_words, ⟨ia, u1, u2, o, kvs, rfl, hia, r_tails, r_flags, ho, od⟩, io, hr1, hw, k⟩ := h
    refine ⟨_, PSs.nox ((pss_cons (ps_asg (pv 2) (pg_tup rfl (pgs_cons (pg_name (i := 3) sc_law_row_image.nd rfl (Or.inl rfl)) (pgs_cons (pg_name (i := 4) sc_law_row_image.nd rfl (Or.inl rfl)) (pgs_cons (pg_name (i := 5) sc_law_row_image.nd rfl (Or.inl rfl)) pgs_nil)))))
    (pss_cons (ps_set (i := 6) sc_law_row_image.nd rfl (Or.inl rfl) (pe_lst pa_nil))
    (pss_cons (ps_for PassesOwn.never rfl (pi_list (pv 1)) (pg_name (i := 7) sc_law_row_image.nd rfl (Or.inl rfl)) (pss_cons (ps_set (i := 8) sc_law_row_image.nd rfl (Or.inl rfl) (pe_dget (Nat.lt_of_le_of_lt (Nat.add_le_add_left (by decide) _) hr.units) (pv 5) (pe_tup (pa_cons (pe_ix ix_tup (pv 0) pe_int (fun _ _ => rfl)) (pa_cons (pv 7) pa_nil))) (fun _ _ => rfl)))
    (pss_cons (ps_for PassesOwn.never rfl (pi_list (pe_ix ix_tup (pv 0) pe_int (fun _ _ => rfl))) (pg_tup rfl (pgs_cons (pg_name (i := 9) sc_law_row_image.nd rfl (Or.inl rfl)) (pgs_cons (pg_name (i := 10) sc_law_row_image.nd rfl (Or.inl rfl)) pgs_nil))) (pss_one (ps_if (pt_cmpR op_eq (pv 9) (pv 7) (nomark _)) (pss_one (ps_set (i := 8) sc_law_row_image.nd rfl (Or.inl rfl) (pe_ifExp (pt_cmpR (op_eqS hr.units) (pv 10) pe_str (nomark _)) pe_str (pe_ix ix_list (pv 4) (pe_ix ix_tup (pv 10) pe_int (fun _ _ => rfl)) (fun _ _ => rfl))))) pss_nil)))
    (pss_one (ps_if (pt_cmpR (op_neS hr.units) (pv 8) pe_str (nomark _)) (pss_one (ps_expr (pe_bm PySem.F.plainAttrs_list PySem.F.slot_list_append PySem.F.type_list_append mt_append (pv 6) (pa_cons (pe_tup (pa_cons (pv 7) (pa_cons (pv 8) pa_nil))) pa_nil)))) pss_nil)))))
    (pss_one (ps_ret (pe_tup (pa_cons (pv 6) (pa_cons (pe_ix ix_list (pv 3) (pe_ix ix_tup (pv 0) pe_int (fun _ _ => rfl)) (fun _ _ => rfl)) pa_nil))))))))), ?_⟩
    have g := gr0 (M := []) s0
    have rI : ∀ {G'} {x : Int}, Rp G' (.int x) (.int x) := rfl
    have rS : ∀ {G'} {x : Str}, Rp G' (.str x) (.str x) := rfl
    have hnd := hr1.nodup hw.up
    have hwl := hw.len
    have ht := hr1.tl
    have r_row : Rp G (.tup [.lst (r.ns.map nmD), .int r.t]) v1 := r_row
    refine s_seq ⟨_, rfl, ia, _, rfl, SqT.of (s0 ia _ hia), rfl, u1, _, rfl, u2, _, rfl, .ref o, _, rfl, rfl, ?_⟩
    dsimp only
    refine s_seq (o_new eds_nil (Nat.zero_le _) g fun ln G1 H1 g s1 k1 on _ => ?_)
    dsimp only
    refine s_seq (s_for (σ := [some v1, some v2, some (.ref ia), some u1, some u2, some (.ref o), some (.ref ln), none, none, none, none]) (items := ws.map .str) (es_list (ed_var rfl (r_words.mono s1))) g (fun i σ G' H' => Same G1 G' ∧ ∃ (o1 o2 o3 o4 : Option V), σ = [some v1, some v2, some (.ref ia), some u1, some u2, some (.ref o), some (.ref ln), o1, o2, o3, o4] ∧ Own H G' H' ln (((ws.take i).filterMap fun z => (im.at r.ns r.t z).map fun f => (z, f)).map nmD)) (fun G' H' g' s' k' => ⟨s', _, _, _, _, rfl, on.kp s' k'⟩) ?_ ?_)
    · rintro Gs i d v σ Gi Hi Gj Hj hd sg sgi ⟨si, o1, o2, o3, o4, rfl, on⟩ g sj kj rv
      have on := on.kp sj kj
      rw [List.getElem?_map] at hd
      obtain ⟨z, hz, rfl⟩ := Option.map_eq_some_iff.mp hd
      have hzm := List.mem_of_getElem? hz
      have hil := (List.getElem?_eq_some_iff.mp hz).1
      cases (show v = .str z from rv)
      have hS := s1.trans (si.trans sj)
      obtain ⟨u, hu, hur, huB⟩ := od.so r.t z ⟨⟨ht.1, ht.2⟩, hzm⟩
      have r_row := r_row.mono hS
      refine s_seq (s_set' (d := imD (im.at (r.ns.take 0) r.t z)) (ed_dget rfl (hS _ _ ho) (ed_tup (eds_cons (ed_op (ed_var rfl r_row) ed_int fun _ _ => rd_ixT at1) (eds_cons (ed_var rfl rS) eds_nil)) (Nat.le_of_ble_eq_true rfl)) hu (hur.mono hS)) g fun v5 G5 H5 g s5 k5 r5 => ?_)
      have on := on.kp s5 k5
      simp only [tNext]
      refine s_seq (s_for (σ := [some v1, some v2, some (.ref ia), some u1, some u2, some (.ref o), some (.ref ln), some (.str z), some v5, o3, o4]) (items := r.ns.map nmD) (es_list (ed_op (ed_var rfl (r_row.mono s5)) ed_int fun _ _ => rd_ixT at0)) g (fun j σ G' H' => Same G5 G' ∧ ∃ (v5 : V) (o3 o4 : Option V), σ = [some v1, some v2, some (.ref ia), some u1, some u2, some (.ref o), some (.ref ln), some (.str z), some v5, o3, o4] ∧ Rp G' (imD (im.at (r.ns.take j) r.t z)) v5 ∧ Own H G' H' ln (((ws.take i).filterMap fun z => (im.at r.ns r.t z).map fun f => (z, f)).map nmD)) (fun G' H' g' s' k' => ⟨s', _, _, _, rfl, r5.mono s', on.kp s' k'⟩) ?_ ?_)
      · rintro Gs2 j d v σ Gk Hk Gl Hl hd sg2 sgk ⟨sk, v5, o3, o4, rfl, r5, on⟩ g sl kl rv
        have on := on.kp sl kl
        rw [List.getElem?_map] at hd
        obtain ⟨p, hp, rfl⟩ := Option.map_eq_some_iff.mp hd
        have hpm := List.mem_of_getElem? hp
        refine g_two g.s rv rfl fun vo vf r_other r_flag => ?_
        by_cases e : p.1 = z
        · refine s_if' ((eb_test (ed_op (ed_var rfl r_other) (ed_var rfl rS) fun _ _ => rd_eq rfl)).to (decide_eq_true e)) g (fun _ H6 g k6 => ?_) fun z => nomatch z
          have on := on.kp (Same.refl _) k6
          refine s_set' (d := imD (im.at (r.ns.take (j + 1)) r.t z)) ?_ g fun v7 G7 H7 g s7 k7 r7 => ⟨G7, g, sgk.trans (sl.trans s7), sk.trans (sl.trans s7), v7, _, _, rfl, r7, on.kp s7 k7⟩
          rw [Im.at_hit hnd hp e]
          have hf := hr1.fl p hpm
          cases q : p.2 with
          | pre =>
            rw [q] at r_flag
            have r_flag : Rp Gl (.str "pre") vf := r_flag
            exact ed_ifT ((eb_test (ed_op (ed_var rfl r_flag) ed_str fun _ _ => rd_eqS rfl)).to (by simp [eqS])) ed_str
          | num n =>
            rw [q] at r_flag hf
            have r_flag : Rp Gl (.tup [.str "flag", .int n]) vf := r_flag
            obtain ⟨x, hx, hx2, _⟩ := at_map (g := imD) hf.1 (Int.lt_of_lt_of_le hf.2 io.fn)
            refine ed_ifF ((eb_test (ed_op (ed_var rfl r_flag) ed_str fun _ _ => rd_eqS rfl)).to (by simp [eqS])) ?_
            refine (ed_op (ed_var rfl (r_flags.mono (s1.trans (si.trans (sj.trans (s5.trans (sk.trans sl))))))) (ed_op (ed_var rfl r_flag) ed_int fun _ _ => rd_ixT at1) fun _ _ => rd_ixL hx2 : Ed _ _ _ (imD x)).to ?_
            show imD x = imD ((atI im.fg n).getD none)
            rw [hx]
            rfl
        · refine s_if' ((eb_test (ed_op (ed_var rfl r_other) (ed_var rfl rS) fun _ _ => rd_eq rfl)).to (decide_eq_false e)) g (fun z => nomatch z) fun _ H6 g k6 => ?_
          exact ⟨Gl, g, sgk.trans sl, sk.trans sl, v5, _, _, rfl, by rw [Im.at_miss hp e]; exact r5.mono sl, on.kp (Same.refl _) k6⟩
      · rintro σ G6 H6 g s6 ⟨sk, v5, o3, o4, rfl, r5, on⟩
        rw [List.length_map, List.take_length] at r5
        have e1 : (ws.take (i + 1)).filterMap (fun z => (im.at r.ns r.t z).map fun f => (z, f)) = ((ws.take i).filterMap fun z => (im.at r.ns r.t z).map fun f => (z, f)) ++ ([z].filterMap fun z => (im.at r.ns r.t z).map fun f => (z, f)) := by
          rw [take_snoc hz, List.filterMap_append]
        have hlen : (((ws.take i).filterMap fun z => (im.at r.ns r.t z).map fun f => (z, f)).map nmD).length < 10000000 := by
          rw [List.length_map]
          have := List.length_filterMap_le (fun z => (im.at r.ns r.t z).map fun f => (z, f)) (ws.take i)
          rw [List.length_take] at this
          omega
        dsimp only
        cases q : im.at r.ns r.t z with
        | none =>
          refine s_if' ((eb_test (ed_op (ed_var rfl r5) ed_str fun _ _ => rd_eqS (imD_dct _))).to (c := false) ?_) g (fun z => nomatch z) fun _ H7 g k7 => ?_
          · rw [(imD_own _).mpr q]; rfl
          · exact ⟨G6, g, sgi.trans (sj.trans (s5.trans sk)), si.trans (sj.trans (s5.trans sk)), _, _, _, _, rfl, by rw [e1]; simp only [List.filterMap_cons, q, Option.map_none, List.filterMap_nil, List.append_nil]; exact on.kp (Same.refl _) k7⟩
        | some f =>
          refine s_if' ((eb_test (ed_op (ed_var rfl r5) ed_str fun _ _ => rd_eqS (imD_dct _))).to (c := true) ?_) g (fun _ H7 g k7 => ?_) fun z => nomatch z
          · have : eqS (imD (im.at r.ns r.t z)) "own" = false := by
              cases w : eqS (imD (im.at r.ns r.t z)) "own" with
              | false => rfl
              | true => rw [(imD_own _).mp w] at q; cases q
            rw [this]; rfl
          · rw [q] at r5
            refine o_append (d := nmD (z, f)) rfl (ed_tup (eds_cons (ed_var rfl rS) (eds_cons (ed_var rfl r5) eds_nil)) (Nat.le_of_ble_eq_true rfl)) g (on.kp (Same.refl _) k7) hlen fun G8 H8 g s8 on _ _ => ?_
            exact ⟨G8, g, sgi.trans (sj.trans (s5.trans (sk.trans s8))), si.trans (sj.trans (s5.trans (sk.trans s8))), _, _, _, _, rfl, by rw [e1]; simp only [List.filterMap_cons, q, Option.map_some, List.filterMap_nil]; rw [List.map_append]; exact on⟩
    · rintro σ G' H' g s' ⟨si, o1, o2, o3, o4, rfl, on⟩
      rw [List.length_map, List.take_length] at on
      obtain ⟨G9, g, s9, r_named, _, nn⟩ := on.frz g
      have hS := s1.trans (si.trans s9)
      obtain ⟨x, hx, hx2, _⟩ := at_map (g := D.int) (xs := im.tl) ht.1 (by rw [io.tn]; omega)
      dsimp only
      refine s_ret (d := (im.row ws r).d) (Ed.to (ed_tup (eds_cons (ed_var rfl r_named) (eds_cons (ed_op (ed_var rfl (r_tails.mono hS)) (ed_op (ed_var rfl (r_row.mono hS)) ed_int fun _ _ => rd_ixT at1) fun _ _ => rd_ixL hx2) eds_nil)) (Nat.le_of_ble_eq_true rfl)) ?_) g k
      unfold Ro.d Ro.l Im.row Im.tlAt
      rw [hx]
      rfl
end
end K18
set_option maxHeartbeats 4000000
namespace Kd
open PySem PySem.Spec PyProof.Rows L2
section
variable {K : PySem.W.Frag} {σ : L2.St} {G H G' H' : Hp} {te : TE} {l p : Addr} {H0 : Hp} {x : HO}
theorem OwnO.callP (o : OwnO H0 G H l x) (b : Gr [p] G H G' H') (h : H0 p ≠ none) : OwnO H0 G' H' l x := o.callOwn b fun z => h (by rw [← z]; exact o.h0)
theorem p_appendX {M : List Addr} {G0 : Hp} {Dn : Ends} {ds : List D} {P : D → Prop} {i : Nat} (hv : σ[i]? = some (some (.ref l))) (he : EdP p te σ G P) (g : Gr M G0 H0 G H) (hM : p ∈ M) (hp : H0 p ≠ none) (q : PoolAt p G H) (o : Own H0 G H l ds) (hl : ds.length < 10000000)
    (k : ∀ d G' H', P d → Gr M G0 H0 G' H' → Same G G' → PoolAt p G' H' → Own H0 G' H' l (ds ++ [d]) → (∀ m x, m ≠ l → OwnO H0 G H m x → OwnO H0 G' H' m x) → Dn.nx σ H') : tDrop (tBM K "list" rAppend (tVar i) (tCons te tNil)) Dn σ H := by
  obtain ⟨vs0, e0, _⟩ := o.e
  refine ⟨_, hv, .inl ⟨rfl, _, SqL.of e0⟩, he H g.s q _ fun d v G1 H1 hd g1 q1 r1 => ?_⟩
  have o1 := o.callP g1 hp
  obtain ⟨vs, e, r, hlen⟩ := o1.len
  refine ⟨l, vs, v, rfl, rfl, e, by rw [hlen]; exact Nat.lt_of_lt_of_le hl (by decide), ?_⟩
  have npl : p ≠ l := fun z => hp (by rw [z]; exact o.h0)
  refine k d G1 _ hd ((g.callP g1 hM).mut o1.g o1.h0) g1.g ⟨q1.g, ?_⟩ (o1.set (r.snoc r1)) fun m x n o' => ?_
  · rw [upd_ne npl]
    exact q1.e
  · have := o'.callP g1 hp
    exact ⟨this.h0, this.g, by rw [upd_ne n]; exact this.e⟩
theorem ed_intB {k : Bool} (h : Ed te σ G (.bl k)) : Ed (tCB (fun xs H Q => (∃ i, xs = [.int i] ∧ Q (.int i) H) ∨ ∃ k, xs = [.bl k] ∧ Q (.int (if k then 1 else 0)) H) (tCons te tNil)) σ G (.int (if k then 1 else 0)) := fun H s Q q =>
  h H s _ fun v G1 H1 g1 r1 => .inr ⟨k, by rw [show v = .bl k from r1], q _ G1 H1 g1 rfl⟩
end
end Kd
namespace K18
open PySem PySem.Spec PyProof.Rows L2 Kd
def Im.cOf (im : Im) (tb : List He2) (n : Int) : Int × Str := match usesOf n tb with
  | q :: _ => (im.tlAt q.2, q.1)
  | [] => (0, "")
def PlainT (im : Im) (tb : List He2) : Prop := ∀ n, 0 ≤ n → n < 10 → im.fgAt n = none → ∀ p ∈ usesOf n tb, im.cOf tb n = (im.tlAt p.2, p.1)
theorem mem_uses {n : Int} {tb : List He2} {h : He2} {r : Ro} {p : Str × Fl} (hh : h ∈ tb) (e : h.1 = .func r) (hp : p ∈ r.ns) (hn : p.2 = .num n) : (p.1, r.t) ∈ usesOf n tb := by
  unfold usesOf
  rw [List.mem_flatMap]
  refine ⟨h, hh, ?_⟩
  unfold usH
  rw [e]
  refine List.mem_map.mpr ⟨p, List.mem_filter.mpr ⟨hp, ?_⟩, rfl⟩
  rw [hn]
  exact decide_eq_true rfl
theorem uses_of {ws : List Str} {f t L n : Int} {tb : List He2} (k : TabOk ws f t L tb) {q : Str × Int} (hq : q ∈ usesOf n tb) : 0 ≤ q.2 ∧ q.2 < t := by
  unfold usesOf at hq
  obtain ⟨h, hh, hq⟩ := List.mem_flatMap.mp hq
  unfold usH at hq
  split at hq
  · rename_i r e
    obtain ⟨p, _, rfl⟩ := List.mem_map.mp hq
    have := (k.mem hh).2.2
    rw [e] at this
    exact RoIn.tl this
  · simp at hq
theorem PlainT.row {ws : List Str} {f t L : Int} {im : Im} {tb : List He2} (k : PlainT im tb) (hk : TabOk ws f t L tb) (hf : f ≤ 10) {h : He2} {r : Ro} (hh : h ∈ tb) (e : h.1 = .func r) : im.plain (im.cOf tb) r := fun p hp n hn hz => by
  have hr := (hk.mem hh).2.2
  rw [e] at hr
  have hb := RoIn.fl hr p hp
  rw [hn] at hb
  exact k n hb.1 (Int.lt_of_lt_of_le hb.2 hf) hz _ (mem_uses hh e hp hn)
def plB (ts : List Int) (us : List (Str × Int)) (y : Str × Int) : Bool := match us with
  | q :: _ => decide (y.1 = q.1) && decide ((atI ts y.2).getD 0 = (atI ts q.2).getD 0)
  | [] => true
def okIm (x : Option Fl) : Prop := ∀ f, x = some f → flB 8 f
theorem okIm_pre : okIm (some .pre) := fun f h => by cases h; trivial
theorem okIm_num {n : Int} (h0 : 0 ≤ n) (h1 : n < 8) : okIm (some (.num n)) := fun f h => by cases h; exact ⟨h0, h1⟩
theorem okIm_own : okIm none := fun f h => nomatch h
section
variable {P : Program} {w : World} {K : PySem.W.Frag} {mg : Str → Option Value} {base : Heap}
def spImgs : Sp := fun vs H Q _ => ∃ (G : Hp) (p : Addr) (ws : List Str) (f L : Int) (tb : List He2) (v1 v2 : V), vs = [.ref p, v1, v2] ∧ Same G H ∧ PoolAt p G H ∧ Rp G (.lst (tb.map hdD)) v1 ∧ Rp G (.lst (ws.map .str)) v2 ∧ TabOk ws f 3 L tb ∧ ws.length ≤ 5 ∧ tb.length ≤ 100000 ∧
  ∀ im v G' H', ImAt G' ws 8 3 im v → ImOk 10 8 3 im → PlainT im tb → Gr [p] G H G' H' → PoolAt p G' H' → Q v H'
abbrev N_law_images : List Str := ["pool", "table", "words", "tails", "flags", "own", "number", "uses", "plain", "tail", "word", "k", "use"]
theorem sc_law_images : FnScope ["pool", "table", "words", "tails", "flags", "own", "number", "uses", "plain", "tail", "word", "k", "use"] ["pool", "table", "words"] (defScope s_law_images) := ⟨rfl, rfl, rfl, by decide +kernel, rfl, by decide +kernel, by decide +kernel⟩
theorem ok_law_images (T : Tx K mg) : Good P w K mg base CX0 "_law_images" 3 ["pool", "table", "words"] spImgs := by
  obtain ⟨fd, F⟩ := T.f__law_images
  refine ⟨T.m__law_images, F.kp, fd, ?_, F.bindsN fun _ _ _ _ _ _ us hl => match us, hl with | [_, _, _], _ => rfl⟩
  have G_law_pick := ok_law_pick (P := P) (w := w) (base := base) T
  have G_law_uses := ok_law_uses (P := P) (w := w) (base := base) T
  refine F.ok sc_law_images (fun vs H Q E h => ?_) (fun cdv A outer s H vs Q E hr h => ?_)
  · obtain ⟨G, p, ws, f, L, tb, v1, v2, rfl, _⟩ := h
    rfl
  · obtain ⟨G, p, ws, f, L, tb, v1, v2, rfl, s0, hq, r_table, r_words, hok, hwl, htl, k⟩ := h
    refine ⟨_, PSs.nox ((pss_cons (ps_set (i := 3) sc_law_images.nd rfl (Or.inr rfl) (pe_lc (own := [("k", 11)]) rfl sc_law_images.nd (pi_range1 (by rfl) T.n_range (pa_cons pe_int pa_nil)) (blkOk_by (own := [("k", 11)]) (N := ["pool", "table", "words", "tails", "flags", "own", "number", "uses", "plain", "tail", "word", "k", "use"]) (sc := defScope s_law_images) (by decide +kernel)) (fun _ _ _ _ _ => by exact (pg_name (i := 11) sc_law_images.nd rfl (Or.inl rfl))) (fun _ _ _ _ _ => by exact pts_nil) (fun _ _ _ _ _ => by exact (pe_g G_law_pick (hr.mono (by decide)) (pa_cons (pv 0) (pa_cons pe_int pa_nil))))))
    (pss_cons (ps_par (i := 4) (j := 5) (by rfl) sc_law_images.nd rfl rfl (by decide) rfl rfl (pa_cons (pe_lst pa_nil) (pa_cons (pe_dnewT) pa_nil)) (by rfl))
    (pss_cons (ps_for PassesOwn.never rfl (pi_range1 (by rfl) T.n_range (pa_cons pe_int pa_nil)) (pg_name (i := 6) sc_law_images.nd rfl (Or.inl rfl)) (pss_cons (ps_set (i := 7) sc_law_images.nd rfl (Or.inr rfl) (pe_g G_law_uses (hr.mono (by decide)) (pa_cons (pv 1) (pa_cons (pv 6) pa_nil))))
    (pss_cons (ps_set (i := 8) sc_law_images.nd rfl (Or.inl rfl) (pe_callB (cr_all rfl) (by rfl) T.n_all (by decide +kernel) (pa_cons (pe_lc (own := [("use", 12)]) rfl sc_law_images.nd (pi_list (pv 7)) (blkOk_by (own := [("use", 12)]) (N := ["pool", "table", "words", "tails", "flags", "own", "number", "uses", "plain", "tail", "word", "k", "use"]) (sc := defScope s_law_images) (by decide +kernel)) (fun _ _ _ _ _ => by exact (pg_name (i := 12) sc_law_images.nd rfl (Or.inl rfl))) (fun _ _ _ _ _ => by exact pts_nil) (fun _ _ _ _ _ => by exact (pe_and (pe_cmpR op_eq (pe_ix (ixK_tup (K := K) rfl) (pv 12) pe_int (fun _ _ => rfl)) (pe_ix (ixK_tup (K := K) rfl) (pe_ix (ixK_list (K := K) rfl) (pv 7) pe_int (fun _ _ => rfl)) pe_int (fun _ _ => rfl)) (nomark _)) (pe_one (pe_cmpR op_eq (pe_ix (ixK_list (K := K) rfl) (pv 3) (pe_ix (ixK_tup (K := K) rfl) (pv 12) pe_int (fun _ _ => rfl)) (fun _ _ => rfl)) (pe_ix (ixK_list (K := K) rfl) (pv 3) (pe_ix (ixK_tup (K := K) rfl) (pe_ix (ixK_list (K := K) rfl) (pv 7) pe_int (fun _ _ => rfl)) pe_int (fun _ _ => rfl)) (fun _ _ => rfl)) (nomark _)))))) pa_nil)))
    (pss_one (ps_expr (pe_bm PySem.F.plainAttrs_list PySem.F.slot_list_append PySem.F.type_list_append mt_append (pv 4) (pa_cons (pe_ix ix_list (pe_lst (pa_cons pe_str (pa_cons (pe_tup (pa_cons pe_str (pa_cons (pe_g G_law_pick (hr.mono (by decide)) (pa_cons (pv 0) (pa_cons pe_int pa_nil))) pa_nil))) (pa_cons (pe_tup (pa_cons pe_str (pa_cons pe_int pa_nil))) (pa_cons pe_str pa_nil))))) (pe_g G_law_pick (hr.mono (by decide)) (pa_cons (pv 0) (pa_cons (pe_op op_add pe_int (pe_callTy call_int1 (by rfl) T.n_int (by decide +kernel) (pa_cons (pv 8) pa_nil))) pa_nil))) (fun _ _ => rfl)) pa_nil)))))))
    (pss_cons (ps_for PassesOwn.never rfl (pi_range1 (by rfl) T.n_range (pa_cons pe_int pa_nil)) (pg_name (i := 9) sc_law_images.nd rfl (Or.inl rfl)) (pss_one (ps_for PassesOwn.never rfl (pi_list (pv 2)) (pg_name (i := 10) sc_law_images.nd rfl (Or.inl rfl)) (pss_one (ps_asg (pe_ix ix_list (pe_lst (pa_cons pe_str (pa_cons (pe_tup (pa_cons pe_str (pa_cons (pe_g G_law_pick (hr.mono (by decide)) (pa_cons (pv 0) (pa_cons pe_int pa_nil))) pa_nil))) (pa_cons pe_str (pa_cons pe_str (pa_cons pe_str pa_nil)))))) (pe_g G_law_pick (hr.mono (by decide)) (pa_cons (pv 0) (pa_cons pe_int pa_nil))) (fun _ _ => rfl)) (pg_sub (pv 5) (pe_tup (pa_cons (pv 9) (pa_cons (pv 10) pa_nil))) (set_dict (Nat.lt_of_le_of_lt (Nat.add_le_add_left (by decide) _) hr.units))))))))
    (pss_one (ps_ret (pe_tup (pa_cons (pv 3) (pa_cons (pv 4) (pa_cons (pv 5) pa_nil))))))))))), ?_⟩
    have g := gr0 (M := [p]) s0
    have hp0 := hq.ne
    have rI : ∀ {G'} {x : Int}, Rp G' (.int x) (.int x) := rfl
    have rS : ∀ {G'} {x : Str}, Rp G' (.str x) (.str x) := rfl
    refine s_seq (p_set (edp_lcD (items := (List.range (3 : Int).toNat).map fun i => .int ((0 : Int) + (i : Nat))) (P := fun d => ∃ n : Int, d = .int n ∧ 0 ≤ n ∧ n < 3) (es_range1 (n := 3) ed_int (by decide) (by decide)) (Nat.le_of_ble_eq_true rfl) ?_) g (List.mem_singleton.mpr rfl) hq fun d v3 G1 H1 hd g s1 g1 hq r3 => ?_)
    · intro d hd G' s
      exact tk_name fun u hu => ⟨rfl, edp_pick rfl ed_int (by decide)⟩
    obtain ⟨ts, rfl, htn, htb⟩ : ∃ ts : List Int, d = .lst (ts.map .int) ∧ ts.length = 3 ∧ ∀ x ∈ ts, 0 ≤ x ∧ x < 3 := by
      obtain ⟨ds, rfl, h1, h2⟩ := hd
      have h1 : ds.length = 3 := h1
      match ds, h1, h2 with
      | [a, b, c], _, h2 =>
        obtain ⟨a, rfl, ha⟩ := h2 a (by simp)
        obtain ⟨b, rfl, hb⟩ := h2 b (by simp)
        obtain ⟨c, rfl, hc⟩ := h2 c (by simp)
        refine ⟨[a, b, c], rfl, rfl, fun x hx => ?_⟩
        simp only [List.mem_cons, List.not_mem_nil, or_false] at hx
        rcases hx with rfl | rfl | rfl
        · exact ha
        · exact hb
        · exact hc
    dsimp only
    refine s_seq ⟨Nat.zero_le _, fun la na fa nfa => ⟨_, _, rfl, ?_⟩⟩
    have ola : Own H G1 (upd H1 la (.lst [])) la [] := ⟨g.free na, g.gfree na, [], upd_same, rfl⟩
    have hq : PoolAt p G1 (upd H1 la (.lst [])) := hq.kp (kp_new na)
    have g := g.tmp (o := .lst []) na
    have nlf : la ≠ fa := fun e => by rw [← e, upd_same] at nfa; cases nfa
    have ofa : OwnO H G1 (upd (upd H1 la (.lst [])) fa (.dT [])) fa (.dT []) := ⟨g.free nfa, g.gfree nfa, upd_same⟩
    have ola := ola.upd (o' := .dT []) nlf
    have hq : PoolAt p G1 _ := hq.kp (kp_new (o := .dT []) nfa)
    have g := g.tmp (o := .dT []) nfa
    dsimp only
    refine s_seq (s_for (σ := [some (.ref p), some v1, some v2, some v3, some (.ref la), some (.ref fa), none, none, none, none, none, none, none]) (items := (List.range (10 : Int).toNat).map fun i => .int ((0 : Int) + (i : Nat))) (es_range1 (n := 10) ed_int (by decide) (by decide)) g (fun i σ G' H' => Same G1 G' ∧ PoolAt p G' H' ∧ ∃ (fg : List (Option Fl)) (o1 o2 o3 : Option V), σ = [some (.ref p), some v1, some v2, some v3, some (.ref la), some (.ref fa), o1, o2, o3, none, none, none, none] ∧ Own H G' H' la (fg.map imD) ∧ OwnO H G' H' fa (.dT []) ∧ fg.length = i ∧ (∀ x ∈ fg, okIm x) ∧ ∀ (n : Nat) (q : Str × Int) (qs : List (Str × Int)), fg[n]? = some none → usesOf (n : Nat) tb = q :: qs → ∀ y ∈ usesOf (n : Nat) tb, y.1 = q.1 ∧ (atI ts y.2).getD 0 = (atI ts q.2).getD 0) (fun G' H' g' s' k' => ⟨s', hq.kp k', [], _, _, _, rfl, ola.kp s' k', ofa.kp k', rfl, fun x h => by simp at h, fun n q qs h => by simp at h⟩) ?_ ?_)
    · rintro Gs i d v σ Gi Hi Gj Hj hd sg sgi ⟨si, hq, fg, o1, o2, o3, rfl, ola, ofa, hfl, hfb, hfp⟩ g sj kj rv
      have hq := hq.kp kj
      have ola := ola.kp sj kj
      have ofa := ofa.kp kj
      obtain ⟨hi3, ed⟩ : i < 10 ∧ d = .int (i : Nat) := by
        rw [List.getElem?_map] at hd
        obtain ⟨m, hm, rfl⟩ := Option.map_eq_some_iff.mp hd
        have h1 := (List.getElem?_eq_some_iff.mp hm).1
        have h2 := (List.getElem?_eq_some_iff.mp hm).2
        simp at h1 h2
        subst h2
        exact ⟨h1, by simp⟩
      subst ed
      cases (show v = .int (i : Nat) from rv)
      have hS := s1.trans (si.trans sj)
      have r3j := r3.mono (si.trans sj)
      refine s_seq (s_set' (d := .lst ((usesOf (i : Nat) tb).map usD)) (ed_rel (eds_cons (ed_var rfl (r_table.mono hS)) (eds_cons (ed_var rfl rI) eds_nil)) ⟨ws, f, 3, L, tb, _, rfl, hok, htl, rfl⟩) g fun v5 G5 H5 g s5 k5 r_uses => ?_)
      have hq := hq.kp k5
      have ola := ola.kp s5 k5
      have ofa := ofa.kp k5
      have r_tails := r3j.mono s5
      have hus : ∀ y ∈ usesOf (i : Nat) tb, 0 ≤ y.2 ∧ y.2 < 3 := fun y hy => uses_of hok hy
      have hul : (usesOf (i : Nat) tb).length ≤ 10000000 := by
        have : ∀ tb : List He2, (∀ h ∈ tb, okNd h.1) → (usesOf (i : Nat) tb).length ≤ 6 * tb.length := by
          intro tb
          induction tb with
          | nil => intro _; exact Nat.zero_le _
          | cons h tb ih =>
            intro hk
            have h1 := ih fun x hx => hk x (by simp [hx])
            have h2 := usH_len (n := (i : Nat)) (hk h (by simp))
            unfold usesOf at *
            rw [List.flatMap_cons, List.length_append, List.length_cons]
            omega
        have := this tb fun h hh => (hok.mem hh).1
        omega
      obtain ⟨us, hus0⟩ : ∃ us, us = usesOf (i : Nat) tb := ⟨_, rfl⟩
      rw [← hus0] at r_uses hus hul
      obtain ⟨pl, hpl⟩ : ∃ pl : Str × Int → Bool, pl = plB ts us := ⟨_, rfl⟩
      simp only [tNext]
      refine s_seq (s_set' (d := .bl ((us.map pl).all id)) (ed_all (bs := us.map pl) (Ed.to (ed_lcAll (items := us.map usD) (fun d => match d with | .tup [.str z, .int t] => .bl (pl (z, t)) | _ => .non) (es_list (ed_var rfl r_uses)) (by rw [List.length_map]; exact hul) ?_) ?_)) g fun v6 G6 H6 g s6 k6 r_plain => ?_)
      · intro d hd G' s'
        obtain ⟨y, hy, rfl⟩ := List.mem_map.mp hd
        have r_uses := r_uses.mono s'
        have r_tails := r_tails.mono s'
        refine tk_name fun u r_use => ⟨rfl, ?_⟩
        have r_use : Rp G' (.tup [.str y.1, .int y.2]) u := r_use
        rw [hpl]
        cases us with
        | nil => simp at hy
        | cons q us =>
          have r_uses : Rp G' (.lst (.tup [.str q.1, .int q.2] :: us.map usD)) v5 := r_uses
          obtain ⟨x1, hx1, hy1, _⟩ := at_map (g := D.int) (xs := ts) (hus y hy).1 (by rw [htn]; exact (hus y hy).2)
          obtain ⟨x2, hx2, hy2, _⟩ := at_map (g := D.int) (xs := ts) (hus q (by simp)).1 (by rw [htn]; exact (hus q (by simp)).2)
          show Ed _ _ _ (D.bl (decide (y.1 = q.1) && decide ((atI ts y.2).getD 0 = (atI ts q.2).getD 0)))
          rw [hx1, hx2]
          exact ed_andV (ed_op (ed_op (ed_var rfl r_use) ed_int fun _ _ => rd_ixT at0) (ed_op (ed_op (ed_var rfl r_uses) ed_int fun _ _ => rd_ixL at0) ed_int fun _ _ => rd_ixT at0) fun _ _ => rd_eq rfl) fun _ => ed_op (ed_op (ed_var rfl r_tails) (ed_op (ed_var rfl r_use) ed_int fun _ _ => rd_ixT at1) fun _ _ => rd_ixL hy1) (ed_op (ed_var rfl r_tails) (ed_op (ed_op (ed_var rfl r_uses) ed_int fun _ _ => rd_ixL at0) ed_int fun _ _ => rd_ixT at1) fun _ _ => rd_ixL hy2) fun _ _ => rd_eq rfl
      · rw [List.map_map, List.map_map]
        rfl
      have hq := hq.kp k6
      have ola := ola.kp s6 k6
      have ofa := ofa.kp k6
      obtain ⟨c, hc⟩ : ∃ c, c = (us.map pl).all id := ⟨_, rfl⟩
      rw [← hc] at r_plain
      simp only [tNext]
      refine p_appendX (P := fun d => ∃ x, d = imD x ∧ okIm x ∧ (x = none → c = true)) rfl (edp_op (P1 := fun d => ∃ n : Int, d = .lst [.str "pre", .tup [.str "flag", .int n], .tup [.str "flag", .int 7], .str "own"] ∧ 0 ≤ n ∧ n < 4) (P2 := fun d => ∃ r : Int, d = .int r ∧ 0 ≤ r ∧ r < 3 + if c = true then 1 else 0) ((edp_lst (edsp_cons (Ed.pl ed_str) (edsp_cons (edp_tup2 (Ed.pl ed_str) (edp_pick rfl ed_int (by decide))) (edsp_cons (Ed.pl (ed_tup (eds_cons ed_str (eds_cons ed_int eds_nil)) (Nat.le_of_ble_eq_true rfl))) (edsp_cons (Ed.pl ed_str) edsp_nil)))) ?_).to ?_) (edp_pick rfl (ed_op ed_int (ed_intB (ed_var rfl r_plain)) fun _ _ => rd_I0i) (by split <;> decide)) ?_) g (List.mem_singleton.mpr rfl) hp0 hq ola (by rw [List.length_map]; omega) fun d7 G7 H7 hd7 g s7 hq ola ko => ?_
      · rintro ds ⟨d1, r1, rfl, _, d2, r2, rfl, _, d3, r3, rfl, _, d4, r4, rfl, _, rfl⟩
        exact Nat.le_of_ble_eq_true rfl
      · rintro d ⟨ds, rfl, d1, r1, rfl, rfl, d2, r2, rfl, ⟨a, b, rfl, rfl, n, rfl, h0, h1⟩, d3, r3, rfl, rfl, d4, r4, rfl, rfl, rfl⟩
        exact ⟨n, rfl, h0, h1⟩
      · rintro d e ⟨n, rfl, h0, h1⟩ ⟨r, rfl, h2, h3⟩
        have : r = 0 ∨ r = 1 ∨ r = 2 ∨ (r = 3 ∧ c = true) := by
          cases c <;> simp at h3 <;> simp <;> omega
        rcases this with rfl | rfl | rfl | ⟨rfl, hct⟩
        · exact ⟨_, ⟨some .pre, rfl, okIm_pre, fun h => nomatch h⟩, fun _ _ => rd_ixL at0⟩
        · exact ⟨_, ⟨some (.num n), rfl, okIm_num h0 (by omega), fun h => nomatch h⟩, fun _ _ => rd_ixL at1⟩
        · exact ⟨_, ⟨some (.num 7), rfl, okIm_num (by decide) (by decide), fun h => nomatch h⟩, fun _ _ => rd_ixL at2⟩
        · exact ⟨_, ⟨none, rfl, okIm_own, fun _ => hct⟩, fun _ _ => rd_ixL at3⟩
      obtain ⟨x, rfl, hx1, hx2⟩ := hd7
      have sS := s5.trans (s6.trans s7)
      have ofa := ko fa _ (Ne.symm nlf) ofa
      have eapp : fg.map imD ++ [imD x] = (fg ++ [x]).map imD := by simp
      rw [eapp] at ola
      refine ⟨G7, g, sgi.trans (sj.trans sS), si.trans (sj.trans sS), hq, fg ++ [x], _, _, _, rfl, ola, ofa, by simp [hfl], fun y hy => ?_, fun n q qs hn hu => ?_⟩
      · rcases List.mem_append.mp hy with h | h
        · exact hfb y h
        · rw [List.mem_singleton.mp h]; exact hx1
      · by_cases hni : n < fg.length
        · rw [List.getElem?_append_left hni] at hn
          exact hfp n q qs hn hu
        · have hnl := (List.getElem?_eq_some_iff.mp hn).1
          rw [List.length_append, List.length_singleton] at hnl
          have e : n = fg.length := by omega
          have e2 : n = i := by omega
          rw [e, List.getElem?_append_right (Nat.le_refl _), Nat.sub_self] at hn
          have hx : x = none := by simpa using hn
          have hct := hx2 hx
          subst e2
          rw [hus0.trans hu] at hc hpl
          rw [hu]
          rw [hct] at hc
          intro y hy
          have h1 := List.all_eq_true.mp hc.symm (pl y) (List.mem_map_of_mem hy)
          rw [hpl] at h1
          have h1 : (decide (y.1 = q.1) && decide ((atI ts y.2).getD 0 = (atI ts q.2).getD 0)) = true := h1
          rw [Bool.and_eq_true] at h1
          exact ⟨of_decide_eq_true h1.1, of_decide_eq_true h1.2⟩
    · rintro σ G' H' g s' ⟨si, hq, fg, o1, o2, o3, rfl, ola, ofa, hfl, hfb, hfp⟩
      rw [List.length_map, List.length_range] at hfl
      have hfl : fg.length = 10 := hfl
      have r_words := r_words.mono (s1.trans si)
      have r3 := r3.mono si
      dsimp only
      refine s_seq (s_for (σ := [some (.ref p), some v1, some v2, some v3, some (.ref la), some (.ref fa), o1, o2, o3, none, none, none, none]) (items := (List.range (3 : Int).toNat).map fun i => .int ((0 : Int) + (i : Nat))) (es_range1 (n := 3) ed_int (by decide) (by decide)) g (fun i σ G5 H5 => Same G' G5 ∧ PoolAt p G5 H5 ∧ ∃ (o4 o5 : Option V) (kvs : List (List L2.Key × V)) (own : Int → Str → Option Fl), σ = [some (.ref p), some v1, some v2, some v3, some (.ref la), some (.ref fa), o1, o2, o3, o4, o5, none, none] ∧ Own H G5 H5 la (fg.map imD) ∧ OwnO H G5 H5 fa (.dT kvs) ∧ kvs.length ≤ 5 * i ∧ OwnD G5 okIm (fun t z => (0 ≤ t ∧ t < i) ∧ z ∈ ws) own kvs) (fun G5 H5 g5 s5 k5 => ⟨s5, hq.kp k5, _, _, [], fun _ _ => none, rfl, ola.kp s5 k5, ofa.kp k5, Nat.zero_le _, ⟨fun t z q => by have := q.1.1; have := q.1.2; omega⟩⟩) ?_ ?_)
      · rintro Gs i d v σ Gi Hi Gj Hj hd sg sgi ⟨sii, hq, o4, o5, kvs, own, rfl, ola, ofa, hkl, od⟩ g sj kj rv
        have hq := hq.kp kj
        have ola := ola.kp sj kj
        have ofa := ofa.kp kj
        have od := od.mono sj
        obtain ⟨hi3, ed⟩ : i < 3 ∧ d = .int (i : Nat) := by
          rw [List.getElem?_map] at hd
          obtain ⟨m, hm, rfl⟩ := Option.map_eq_some_iff.mp hd
          have h1 := (List.getElem?_eq_some_iff.mp hm).1
          have h2 := (List.getElem?_eq_some_iff.mp hm).2
          simp at h1 h2
          subst h2
          exact ⟨h1, by simp⟩
        subst ed
        cases (show v = .int (i : Nat) from rv)
        have hS := sii.trans sj
        refine s_for (σ := [some (.ref p), some v1, some v2, some v3, some (.ref la), some (.ref fa), o1, o2, o3, some (.int (i : Nat)), o5, none, none]) (items := ws.map .str) (es_list (ed_var rfl (r_words.mono hS))) g (fun j σ G5 H5 => Same Gj G5 ∧ PoolAt p G5 H5 ∧ ∃ (o5 : Option V) (kvs : List (List L2.Key × V)) (own : Int → Str → Option Fl), σ = [some (.ref p), some v1, some v2, some v3, some (.ref la), some (.ref fa), o1, o2, o3, some (.int (i : Nat)), o5, none, none] ∧ Own H G5 H5 la (fg.map imD) ∧ OwnO H G5 H5 fa (.dT kvs) ∧ kvs.length ≤ 5 * i + j ∧ OwnD G5 okIm (fun t z => (0 ≤ t ∧ t < i) ∧ z ∈ ws ∨ t = i ∧ z ∈ ws.take j) own kvs) (fun G5 H5 g5 s5 k5 => ⟨s5, hq.kp k5, _, kvs, own, rfl, ola.kp s5 k5, ofa.kp k5, hkl, ⟨fun t z q => (od.mono s5).so t z (q.elim id fun h => by simp at h)⟩⟩) ?_ ?_
        · rintro Gs2 j d v σ Gk Hk Gl Hl hd sg2 sgk ⟨sk, hq, o5, kvs, own, rfl, ola, ofa, hkl, od⟩ g sl kl rv
          have hq := hq.kp kl
          have ola := ola.kp sl kl
          have ofa := ofa.kp kl
          have od := od.mono sl
          rw [List.getElem?_map] at hd
          obtain ⟨z, hz, rfl⟩ := Option.map_eq_some_iff.mp hd
          have hjl := (List.getElem?_eq_some_iff.mp hz).1
          cases (show v = .str z from rv)
          refine p_dput (P := fun d => ∃ x, d = imD x ∧ okIm x) (t := (i : Nat)) (z := z) rfl (edp_op (P1 := fun d => ∃ n : Int, d = .lst [.str "pre", .tup [.str "flag", .int n], .str "own", .str "own", .str "own"] ∧ 0 ≤ n ∧ n < 4) (P2 := fun d => ∃ r : Int, d = .int r ∧ 0 ≤ r ∧ r < 5) ((edp_lst (edsp_cons (Ed.pl ed_str) (edsp_cons (edp_tup2 (Ed.pl ed_str) (edp_pick rfl ed_int (by decide))) (edsp_cons (Ed.pl ed_str) (edsp_cons (Ed.pl ed_str) (edsp_cons (Ed.pl ed_str) edsp_nil))))) ?_).to ?_) (edp_pick rfl ed_int (by decide)) ?_) (ed_tup (eds_cons (ed_var rfl rI) (eds_cons (ed_var rfl rS) eds_nil)) (Nat.le_of_ble_eq_true rfl)) ofa g (List.mem_singleton.mpr rfl) hp0 hq (by omega) fun d5 v5 G5 H5 hd5 g s5 hq kl5 r5 ofa => ?_
          · rintro ds ⟨d1, r1, rfl, _, d2, r2, rfl, _, d3, r3, rfl, _, d4, r4, rfl, _, d5, r5, rfl, _, rfl⟩
            exact Nat.le_of_ble_eq_true rfl
          · rintro d ⟨ds, rfl, d1, r1, rfl, rfl, d2, r2, rfl, ⟨a, b, rfl, rfl, n, rfl, h0, h1⟩, d3, r3, rfl, rfl, d4, r4, rfl, rfl, d5, r5, rfl, rfl, rfl⟩
            exact ⟨n, rfl, h0, h1⟩
          · rintro d e ⟨n, rfl, h0, h1⟩ ⟨r, rfl, h2, h3⟩
            have : r = 0 ∨ r = 1 ∨ r = 2 ∨ r = 3 ∨ r = 4 := by omega
            rcases this with rfl | rfl | rfl | rfl | rfl
            · exact ⟨_, ⟨some .pre, rfl, okIm_pre⟩, fun _ _ => rd_ixL at0⟩
            · exact ⟨_, ⟨some (.num n), rfl, okIm_num h0 (by omega)⟩, fun _ _ => rd_ixL at1⟩
            · exact ⟨_, ⟨none, rfl, okIm_own⟩, fun _ _ => rd_ixL at2⟩
            · exact ⟨_, ⟨none, rfl, okIm_own⟩, fun _ _ => rd_ixL at3⟩
            · exact ⟨_, ⟨none, rfl, okIm_own⟩, fun _ _ => rd_ixL (atI_nat (j := 4) rfl)⟩
          obtain ⟨x, rfl, hx⟩ := hd5
          have ola := kl5 la _ nlf ola
          have := length_putK kvs ([.inl (i : Nat), .inr z] : List L2.Key) v5
          refine ⟨G5, g, sgk.trans (sl.trans s5), sk.trans (sl.trans s5), hq, _, _, _, rfl, ola, ofa, by omega, (od.mono s5).put (x := x) r5 hx ?_⟩
          rintro t y (h | ⟨h1, h2⟩)
          · exact .inl (.inl h)
          · rw [take_snoc hz] at h2
            rcases List.mem_append.mp h2 with h2 | h2
            · exact .inl (.inr ⟨h1, h2⟩)
            · exact .inr ⟨h1, List.mem_singleton.mp h2⟩
        · rintro σ G5 H5 g s5 ⟨sk, hq, o5, kvs, own, rfl, ola, ofa, hkl, od⟩
          rw [List.length_map, List.take_length] at od
          rw [List.length_map] at hkl
          refine ⟨G5, g, sgi.trans (sj.trans sk), hS.trans sk, hq, _, _, kvs, own, rfl, ola, ofa, by omega, ⟨fun t z q => od.so t z ?_⟩⟩
          obtain ⟨⟨h1, h2⟩, h3⟩ := q
          by_cases e : t = (i : Nat)
          · exact .inr ⟨e, h3⟩
          · exact .inl ⟨⟨h1, by omega⟩, h3⟩
      · rintro σ G5 H5 g s5 ⟨sii, hq, o4, o5, kvs, own, rfl, ola, ofa, hkl, od⟩
        obtain ⟨G6, g, s6, e6, n6⟩ := ofa.frz g
        have npf : p ≠ fa := fun z => hp0 (by rw [z]; exact ofa.h0)
        have npl : p ≠ la := fun z => hp0 (by rw [z]; exact ola.h0)
        have ola : Own H G6 H5 la (fg.map imD) := by
          obtain ⟨vs, ev, rv⟩ := ola.e
          exact ⟨ola.h0, n6 la nlf ola.g, vs, ev, rv.mono s6⟩
        have hq : PoolAt p G6 H5 := ⟨n6 p npf hq.g, hq.e⟩
        obtain ⟨G7, g, s7, r_flags, _, n7⟩ := ola.frz g
        have hq : PoolAt p G7 H5 := ⟨n7 p npl hq.g, hq.e⟩
        have sS := sii.trans (s6.trans s7)
        have hfo := od.mono (s6.trans s7)
        dsimp only
        refine o_ret3 (d := .lst (ts.map .int)) (e := .lst (fg.map imD)) (o := fa) (ed_var rfl (r3.mono sS)) (ed_var rfl r_flags) rfl g fun a u1 u2 G8 H8 g s8 k8 ha h1 h2 => k ⟨ts, fg, own⟩ _ G8 H8 ⟨a, u1, u2, fa, kvs, rfl, ha, h1, h2, s8 _ _ (s7 _ _ e6), hfo.mono s8⟩ ⟨htn, htb, by rw [hfl]; decide, fun x hx => hfb _ hx x rfl⟩ ?_ g (hq.kp k8)
        intro n h0 h1 hn y hy
        obtain ⟨m, rfl⟩ := Int.eq_ofNat_of_zero_le h0
        have hm : m < fg.length := by omega
        have hn : (atI fg (m : Nat)).getD none = none := hn
        rw [atI_nat (by rw [List.getElem?_eq_getElem hm])] at hn
        have hn : fg[m] = none := hn
        unfold Im.cOf
        cases hu : usesOf (m : Nat) tb with
        | nil => rw [hu] at hy; simp at hy
        | cons q qs =>
          obtain ⟨h1, h2⟩ := hfp m q qs (by rw [List.getElem?_eq_getElem hm, hn]) hu y hy
          show ((atI ts q.2).getD 0, q.1) = ((atI ts y.2).getD 0, y.1)
          rw [h1, h2]
end
end K18
set_option maxHeartbeats 4000000
namespace Kd
open PySem PySem.Spec PyProof.Rows L2
section
variable {K : PySem.W.Frag} {σ : L2.St} {G H : Hp} {te : TE} {M : List Addr} {G0 H0 : Hp} {Dn : Ends} {ds : List D}
theorem o_two {i j q : Nat} {v : V} (hv : σ[q]? = some (some v)) (r : Rp G (.lst ds) v) (g : Gr M G0 H0 G H)
    (k : ∀ l m H', Gr M G0 H0 G H' → Own H0 G H' l ds → Own H0 G H' m [] → m ≠ l → Dn.nx ((σ.set i (some (.ref l))).set j (some (.ref m))) H') :
    tAsg (tTup (tCons (tCB (fun xs H Q => ∃ p ys, xs = [.ref p] ∧ (SqL K H p ys ∨ SqT K H p ys) ∧ ∀ l, H l = none → Q (.ref l) (upd H l (.lst ys))) (tCons (tVar q) tNil)) (tCons (tLst tNil) tNil))) (gTup K 2 (gCons (gName i) (gCons (gName j) gNil))) Dn σ H := by
  obtain ⟨a, vs, rfl, ha, hr⟩ := r
  refine ⟨_, hv, a, vs, rfl, .inl (SqL.of (g.s a _ ha)), fun l hl => ?_⟩
  have g1 := g.tmp (o := .lst vs) hl
  refine ⟨Nat.zero_le _, fun m hm => ⟨Nat.le_trans (show 2 ≤ 1000 by decide) (by decide), fun b hb => ?_⟩⟩
  have g2 := g1.tmp (o := .lst []) hm
  have g3 := g2.tmp (o := .tup [.ref l, .ref m]) hb
  have nml : m ≠ l := fun e => by rw [e, upd_same] at hm; cases hm
  have nbl : l ≠ b := fun e => by rw [← e, upd_ne (Ne.symm nml), upd_same] at hb; cases hb
  have nbm : m ≠ b := fun e => by rw [← e, upd_same] at hb; cases hb
  refine ⟨b, _, rfl, SqT.of upd_same, rfl, .ref l, _, rfl, .ref m, _, rfl, rfl, k l m _ g3 ⟨g.free hl, g.gfree hl, vs, ?_, hr⟩ ⟨g1.free hm, g1.gfree hm, [], ?_, rfl⟩ nml⟩
  · rw [upd_ne nbl, upd_ne (Ne.symm nml), upd_same]
  · rw [upd_ne nbm, upd_same]
theorem at_last {α : Type} {xs : List α} {x : α} : atI (xs ++ [x]) (-1) = some x := by
  have h : ixN (xs ++ [x]).length (-1) = some xs.length := by
    unfold ixN
    rw [if_neg (by decide), if_pos (by simp; omega)]
    congr 1
    simp
    omega
  unfold atI
  rw [h]
  show (xs ++ [x])[xs.length]? = _
  simp
end
end Kd
namespace K18
open PySem PySem.Spec PyProof.Rows L2 Kd
theorem trs_getD {tb more : List He2} {i : Nat} (h : i < tb.length) : (trs (tb ++ more)).getD i leafT = (trs tb).getD i leafT := by
  rw [List.getD_eq_getElem?_getD, List.getD_eq_getElem?_getD, trs_stay h]
theorem mkT_stay {tb more : List He2} {h : He2} (k : ∀ i ∈ h.2, i < tb.length) : mkT (trs (tb ++ more)) h = mkT (trs tb) h := by
  unfold mkT
  congr 1
  exact List.map_congr_left fun i hi => trs_getD (k i hi)
theorem trs_snocD {tb : List He2} {h : He2} : (trs (tb ++ [h])).getD tb.length leafT = mkT (trs tb) h := by
  rw [trs_snoc, List.getD_eq_getElem?_getD, List.getElem?_append_right (by rw [trs_len]; exact Nat.le_refl _), trs_len, Nat.sub_self]
  rfl
theorem trs_at {ws : List Str} {f t L : Int} {tb : List He2} (k : TabOk ws f t L tb) {j : Nat} {h : He2} (e : tb[j]? = some h) : (trs tb).getD j leafT = mkT (trs tb) h := by
  obtain ⟨hj, ej⟩ := List.getElem?_eq_some_iff.mp e
  have e1 : tb = (tb.take j ++ [h]) ++ tb.drop (j + 1) := by
    rw [← take_snoc e, List.take_append_drop]
  have hl : (tb.take j).length = j := by rw [List.length_take]; omega
  have href := (k j h e).ref
  have h1 : (trs tb).getD j leafT = mkT (trs (tb.take j)) h := by
    have h2 : (trs tb).getD j leafT = (trs (tb.take j ++ [h])).getD j leafT := by
      conv => lhs; rw [e1]
      rw [trs_getD (by rw [List.length_append, hl]; simp)]
    have := trs_snocD (tb := tb.take j) (h := h)
    rw [hl] at this
    rw [h2]
    exact this
  rw [h1]
  have e2 : trs tb = trs (tb.take j ++ ([h] ++ tb.drop (j + 1))) := by rw [← List.append_assoc, ← e1]
  rw [e2, mkT_stay (by rw [hl]; exact href)]
def lAt (lt : List Int) (n : Int) : Nat := ((atI lt n).getD 0).toNat
theorem Im.row_in {im : Im} {ws : List Str} {f f' t' : Int} {r : Ro} (io : ImOk f f' t' im) (hown : ∀ t z, (0 ≤ t ∧ t < 3) ∧ z ∈ ws → ∀ x, im.own t z = some x → flB f' x) (hr : RoIn ws f 3 r) : RoIn ws f' t' (im.row ws r) := by
  refine ⟨?_, fun p hp => ?_, ?_⟩
  · have : ∀ l : List Str, ((l.filterMap fun z => (im.at r.ns r.t z).map fun f => (z, f)).map (·.1)).Sublist l := by
      intro l
      induction l with
      | nil => exact List.Sublist.refl _
      | cons z l ih =>
        cases q : im.at r.ns r.t z with
        | none =>
          rw [List.filterMap_cons, q]
          exact List.Sublist.cons _ ih
        | some x =>
          rw [List.filterMap_cons, q]
          exact List.Sublist.cons₂ _ ih
    exact this ws
  · obtain ⟨z, hz, e⟩ := List.mem_filterMap.mp hp
    cases q : im.at r.ns r.t z with
    | none => rw [q] at e; cases e
    | some x =>
      rw [q] at e
      cases e
      show flB f' x
      unfold Im.at at q
      split at q
      · cases q; trivial
      · rename_i n y hn
        unfold Im.fgAt at q
        have hm := hr.fl _ (List.mem_of_find?_eq_some hn)
        obtain ⟨y, hy, _, hym⟩ := at_map (g := fun x => x) (xs := im.fg) (n := y) hm.1 (Int.lt_of_lt_of_le hm.2 io.fn)
        rw [hy] at q
        have q : y = some x := q
        rw [q] at hym
        exact io.fb x hym
      · exact hown _ _ ⟨hr.tl, hz⟩ x q
  · obtain ⟨x, hx, _, hxm⟩ := at_map (g := fun x => x) (xs := im.tl) hr.tl.1 (by rw [io.tn]; exact hr.tl.2)
    show 0 ≤ (atI im.tl r.t).getD 0 ∧ (atI im.tl r.t).getD 0 < t'
    rw [hx]
    exact io.tb x hxm
section
variable {P : Program} {w : World} {K : PySem.W.Frag} {mg : Str → Option Value} {base : Heap}
theorem edo_rowI {σ : L2.St} {G : Hp} {l : Addr} {vs : List V} {t1 : TE} {i2 i3 : Nat} {v2 v3 : V} {E : XK} {r : Ro} {ws : List Str} {f f' t' : Int} {im : Im} (h1 : Ed t1 σ G r.d) (h2 : σ[i2]? = some (some v2)) (r2 : Rp G (.lst (ws.map .str)) v2) (h3 : σ[i3]? = some (some v3)) (r3 : ImAt G ws f' t' im v3) (io : ImOk f f' t' im) (hr : RoIn ws f 3 r) (hw : WordsOk ws) : Ed (tCall spRowI [] E (tCons t1 (tCons (tVar i2) (tCons (tVar i3) tNil)))) σ G (im.row ws r).d := fun H s Q q =>
  h1 H s _ fun v1 G1 H1 g1 r1 => ⟨_, h2, _, h3, G1, r, ws, f, f', t', im, v1, v2, v3, rfl, g1.s, r1, r2.mono g1.g, r3.mono g1.g, io, hr, hw, fun v G2 H2 g2 r2 => q v G2 H2 (g1.trans g2) r2⟩
structure ImgIn (ws : List Str) (f f' t' F T Lt Lx : Int) (tb more : List He2) (lt : List Int) (im : Im) : Prop where
  tab : TabOk ws f 3 Lt tb
  mor : TabOk ws F T Lx more
  io : ImOk f f' t' im
  hF : f' ≤ F
  hT : t' ≤ T
  hL : Lt ≤ Lx
  ltn : Lt ≤ (lt.length : Nat)
  ltx : lt.length ≤ 1000
  ltb : ∀ x ∈ lt, 0 ≤ x ∧ x < (more.length : Nat)
  tne : 0 < tb.length
  tl : tb.length ≤ 100000
  ml : more.length ≤ 100000
structure ImgOut (ws : List Str) (F T Lx : Int) (tb more : List He2) (lt : List Int) (im : Im) (mk : List He2) : Prop where
  ok : TabOk ws F T Lx mk
  len : mk.length ≤ more.length + tb.length + 1
  ne : more.length < mk.length
  h0 : ∃ ext, mk = more ++ ext
  tr : (trs mk).getD (mk.length - 1) leafT = subT (fun n => (trs more).getD (lAt lt n) leafT) (im.row ws) ((trs tb).getD (tb.length - 1) leafT)
def spImage : Sp := fun vs H Q _ => ∃ (G : Hp) (ws : List Str) (f f' t' F T Lt Lx : Int) (tb more : List He2) (lt : List Int) (im : Im) (v1 v2 v3 v4 v5 : V), vs = [v1, v2, v3, v4, v5] ∧ Same G H ∧ Rp G (.lst (tb.map hdD)) v1 ∧ Rp G (.lst (ws.map .str)) v2 ∧ ImAt G ws f' t' im v3 ∧ Rp G (.lst (more.map hdD)) v4 ∧ Rp G (.lst (lt.map .int)) v5 ∧ WordsOk ws ∧ ImgIn ws f f' t' F T Lt Lx tb more lt im ∧
  ∀ mk v G' H', Gp G H G' H' → Rp G' (.lst (mk.map hdD)) v → ImgOut ws F T Lx tb more lt im mk → Q v H'
abbrev N_law_image : List Str := ["table", "words", "images", "more", "letters", "made", "places", "head", "place"]
theorem sc_law_image : FnScope ["table", "words", "images", "more", "letters", "made", "places", "head", "place"] ["table", "words", "images", "more", "letters"] (defScope s_law_image) := ⟨rfl, rfl, rfl, by decide +kernel, rfl, by decide +kernel, by decide +kernel⟩
theorem ok_law_image (T : Tx K mg) : Good P w K mg base CX0 "_law_image" 3 ["table", "words", "images", "more", "letters"] spImage := by
  obtain ⟨fd, F⟩ := T.f__law_image
  refine ⟨T.m__law_image, F.kp, fd, ?_, F.bindsN fun _ _ _ _ _ _ us hl => match us, hl with | [_, _, _, _, _], _ => rfl⟩
  have G_law_row_image := ok_law_row_image (P := P) (w := w) (base := base) T
  refine F.ok sc_law_image (fun vs H Q E h => ?_) (fun cdv A outer s H vs Q E hr h => ?_)
  · obtain ⟨G, ws, f, f', t', F, T, Lt, Lx, tb, more, lt, im, v1, v2, v3, v4, v5, rfl, _⟩ := h
    rfl
  · obtain ⟨G, ws, f, f', t', Fb, Tb, Lt, Lx, tb, more, lt, im, v1, v2, v3, v4, v5, rfl, s0, r_table, r_words, hia, r_more, r_letters, hw, ii, k⟩ := h
    refine ⟨_, PSs.nox ((pss_cons (ps_asg (pe_tup (pa_cons (pe_callTy call_list_of (by rfl) T.n_list (by decide +kernel) (pa_cons (pv 3) pa_nil)) (pa_cons (pe_lst pa_nil) pa_nil))) (pg_tup rfl (pgs_cons (pg_name (i := 5) sc_law_image.nd rfl (Or.inl rfl)) (pgs_cons (pg_name (i := 6) sc_law_image.nd rfl (Or.inr rfl)) pgs_nil))))
    (pss_cons (ps_for PassesOwn.never rfl (pi_list (pv 0)) (pg_name (i := 7) sc_law_image.nd rfl (Or.inl rfl)) (pss_cons (ps_if (pt_cmpR op_eq (pe_ix ix_tup (pv 7) pe_int (fun _ _ => rfl)) pe_str (nomark _)) (pss_cons (ps_expr (pe_bm PySem.F.plainAttrs_list PySem.F.slot_list_append PySem.F.type_list_append mt_append (pv 6) (pa_cons (pe_ix ix_list (pv 4) (pe_ix ix_tup (pv 7) pe_int (fun _ _ => rfl)) (fun _ _ => rfl)) pa_nil)))
    (pss_one ps_continue)) pss_nil)
    (pss_cons (ps_if (pt_cmpR op_eq (pe_ix ix_tup (pv 7) pe_int (fun _ _ => rfl)) pe_str (nomark _)) (pss_one (ps_set (i := 7) sc_law_image.nd rfl (Or.inl rfl) (pe_tup (pa_cons pe_str (pa_cons (pe_ix ix_list (pv 6) (pe_ix ix_tup (pv 7) pe_int (fun _ _ => rfl)) (fun _ _ => rfl)) (pa_cons (pe_ix ix_list (pv 6) (pe_ix ix_tup (pv 7) pe_int (fun _ _ => rfl)) (fun _ _ => rfl)) pa_nil)))))) (pss_one (ps_if (pt_cmpR op_eq (pe_ix ix_tup (pv 7) pe_int (fun _ _ => rfl)) pe_str (nomark _)) (pss_one (ps_set (i := 7) sc_law_image.nd rfl (Or.inl rfl) (pe_tup (pa_cons pe_str (pa_cons (pe_ix ix_tup (pv 7) pe_int (fun _ _ => rfl)) (pa_cons (pe_lc (own := [("place", 8)]) rfl sc_law_image.nd (pi_list (pe_ix ix_tup (pv 7) pe_int (fun _ _ => rfl))) (blkOk_by (own := [("place", 8)]) (N := ["table", "words", "images", "more", "letters", "made", "places", "head", "place"]) (sc := defScope s_law_image) (by decide +kernel)) (fun _ _ _ _ _ => by exact (pg_name (i := 8) sc_law_image.nd rfl (Or.inl rfl))) (fun _ _ _ _ _ => by exact pts_nil) (fun _ _ _ _ _ => by exact (pe_ix (ixK_list (K := K) rfl) (pv 6) (pv 8) (fun _ _ => rfl)))) pa_nil)))))) (pss_one (ps_if (pt_cmpR op_eq (pe_ix ix_tup (pv 7) pe_int (fun _ _ => rfl)) pe_str (nomark _)) (pss_one (ps_set (i := 7) sc_law_image.nd rfl (Or.inl rfl) (pe_tup (pa_cons pe_str (pa_cons (pe_ix ix_list (pv 6) (pe_ix ix_tup (pv 7) pe_int (fun _ _ => rfl)) (fun _ _ => rfl)) (pa_cons (pe_g G_law_row_image (hr.mono (by decide)) (pa_cons (pe_ix ix_tup (pv 7) pe_int (fun _ _ => rfl)) (pa_cons (pv 1) (pa_cons (pv 2) pa_nil)))) (pa_cons (pe_ix ix_list (pv 6) (pe_ix ix_tup (pv 7) pe_int (fun _ _ => rfl)) (fun _ _ => rfl)) pa_nil))))))) pss_nil)))))
    (pss_cons (ps_expr (pe_bm PySem.F.plainAttrs_list PySem.F.slot_list_append PySem.F.type_list_append mt_append (pv 5) (pa_cons (pv 7) pa_nil)))
    (pss_one (ps_expr (pe_bm PySem.F.plainAttrs_list PySem.F.slot_list_append PySem.F.type_list_append mt_append (pv 6) (pa_cons (pe_op op_sub (pe_callB call_len_seq (by rfl) T.n_len PySem.boot_len (pa_cons (pv 5) pa_nil)) pe_int) pa_nil))))))))
    (pss_one (ps_ret (pe_op op_cat (pv 5) (pe_lst (pa_cons (pe_ix ix_list (pv 5) (pe_ix ix_list (pv 6) (pe_un un_neg pe_int) (fun _ _ => rfl)) (fun _ _ => rfl)) pa_nil)))))))), ?_⟩
    have g := gr0 (M := []) s0
    have rI : ∀ {G'} {x : Int}, Rp G' (.int x) (.int x) := rfl
    have hown : ∀ t z, (0 ≤ t ∧ t < 3) ∧ z ∈ ws → ∀ x, im.own t z = some x → flB f' x := by
      obtain ⟨_, _, _, _, _, _, _, _, _, _, od⟩ := hia
      intro t z h x hx
      obtain ⟨_, _, _, hB⟩ := od.so t z h
      exact hB x hx
    have htl := ii.tl
    have hml := ii.ml
    obtain ⟨fL, hfL⟩ : ∃ fL : Int → Tr, fL = fun n => (trs more).getD (lAt lt n) leafT := ⟨_, rfl⟩
    refine s_seq (o_two (ds := more.map hdD) rfl r_more g fun lm lp H1 g om op npm => ?_)
    dsimp only
    refine s_seq (s_for (σ := [some v1, some v2, some v3, some v4, some v5, some (.ref lm), some (.ref lp), none, none]) (items := tb.map hdD) (es_list (ed_var rfl r_table)) g (fun i σ G' H' => Same G G' ∧ ∃ (mk : List He2) (pl : List Nat) (o1 o2 : Option V), σ = [some v1, some v2, some v3, some v4, some v5, some (.ref lm), some (.ref lp), o1, o2] ∧ Own H G' H' lm (mk.map hdD) ∧ Own H G' H' lp (pl.map fun n : Nat => D.int (n : Nat)) ∧ TabOk ws Fb Tb Lx mk ∧ (∃ ext, mk = more ++ ext) ∧ mk.length ≤ more.length + i ∧ pl.length = i ∧ (∀ j < i, pl.getD j 0 < mk.length ∧ (trs mk).getD (pl.getD j 0) leafT = subT fL (im.row ws) ((trs tb).getD j leafT))) (fun G' H' g' s' k' => ⟨s', more, [], _, _, rfl, om.kp s' k', op.kp s' k', ii.mor, ⟨[], by simp⟩, Nat.le_refl _, rfl, fun j hj => absurd hj (Nat.not_lt_zero _)⟩) ?_ ?_)
    · rintro Gs i d v σ Gi Hi Gj Hj hd sg sgi ⟨si, mk, pl, o1, o2, rfl, om, op, hmk, ⟨ex, hex⟩, hmkl, hpl, hm⟩ g sj kj r_head
      have om := om.kp sj kj
      have op := op.kp sj kj
      rw [List.getElem?_map] at hd
      obtain ⟨h, hh, rfl⟩ := Option.map_eq_some_iff.mp hd
      have hil := (List.getElem?_eq_some_iff.mp hh).1
      have ho := ii.tab i h hh
      have hS := si.trans sj
      have lpl : (pl.map fun n : Nat => D.int (n : Nat)).length < 10000000 := by rw [List.length_map]; omega
      -- one place more
      have step : ∀ (mk' : List He2) (q : Nat) (Gz : Hp) (Hz : Hp) (o1 : Option V), Gr [] G H Gz Hz → Same Gj Gz → Own H Gz Hz lm (mk'.map hdD) → Own H Gz Hz lp (pl.map (fun n : Nat => D.int (n : Nat)) ++ [.int (q : Nat)]) → TabOk ws Fb Tb Lx mk' → (∃ e2, mk' = mk ++ e2) → mk'.length ≤ mk.length + 1 → q < mk'.length → (trs mk').getD q leafT = subT fL (im.row ws) ((trs tb).getD i leafT) →
          ∃ G', Gr [] G H G' Hz ∧ Same Gs G' ∧ Same G G' ∧ ∃ (mk : List He2) (pl : List Nat) (o1' o2' : Option V), [some v1, some v2, some v3, some v4, some v5, some (.ref lm), some (.ref lp), o1, o2] = [some v1, some v2, some v3, some v4, some v5, some (.ref lm), some (.ref lp), o1', o2'] ∧ Own H G' Hz lm (mk.map hdD) ∧ Own H G' Hz lp (pl.map fun n : Nat => D.int (n : Nat)) ∧ TabOk ws Fb Tb Lx mk ∧ (∃ ext, mk = more ++ ext) ∧ mk.length ≤ more.length + (i + 1) ∧ pl.length = i + 1 ∧ (∀ j < i + 1, pl.getD j 0 < mk.length ∧ (trs mk).getD (pl.getD j 0) leafT = subT fL (im.row ws) ((trs tb).getD j leafT)) := by
        rintro mk' q Gz Hz o1 gz sz omz opz hok ⟨e2, he2⟩ hl2 hq htr
        refine ⟨Gz, gz, sgi.trans (sj.trans sz), hS.trans sz, mk', pl ++ [q], _, _, rfl, omz, by rw [List.map_append]; exact opz, hok, ⟨ex ++ e2, by rw [he2, hex, List.append_assoc]⟩, by omega, by rw [List.length_append, hpl]; rfl, fun j hj => ?_⟩
        by_cases e : j < i
        · have e3 : (pl ++ [q]).getD j 0 = pl.getD j 0 := by
            rw [List.getD_eq_getElem?_getD, List.getD_eq_getElem?_getD, List.getElem?_append_left (by omega)]
          rw [e3]
          obtain ⟨h1, h2⟩ := hm j e
          refine ⟨by rw [he2, List.length_append]; omega, ?_⟩
          rw [he2, trs_getD h1]
          exact h2
        · have e : j = i := by omega
          have e3 : (pl ++ [q]).getD j 0 = q := by
            rw [List.getD_eq_getElem?_getD, List.getElem?_append_right (by omega), e, hpl, Nat.sub_self]
            rfl
          rw [e3, e]
          exact ⟨hq, htr⟩
      have htb := trs_at ii.tab hh
      by_cases hL : isLet h.1 = true
      · obtain ⟨a, is⟩ := h
        cases a with
        | letter n =>
          have hb : 0 ≤ n ∧ n < Lt := ho.lab
          obtain ⟨x, hx, hx2, hxm⟩ := at_map (g := D.int) (xs := lt) hb.1 (Int.lt_of_lt_of_le hb.2 ii.ltn)
          have e : is = [] := List.eq_nil_of_length_eq_zero ho.len
          subst e
          have r_head : Rp Gj (.tup [.str "letter", .int n]) v := r_head
          obtain ⟨xn, rfl⟩ := Int.eq_ofNat_of_zero_le (ii.ltb x hxm).1
          have hxl : xn < more.length := by have := (ii.ltb _ hxm).2; omega
          refine s_seq (s_if' (eb_test (ed_op (ed_op (ed_var rfl r_head) ed_int fun _ _ => rd_ixT at0) ed_str fun _ _ => rd_eq rfl)) g (fun _ H4 g k4 => ?_) fun z => nomatch z)
          refine s_seq (o_append (d := .int (xn : Nat)) rfl (ed_op (ed_var rfl (r_letters.mono hS)) (ed_op (ed_var rfl r_head) ed_int fun _ _ => rd_ixT at1) fun _ _ => rd_ixL hx2) g (op.kp (Same.refl _) k4) lpl fun G5 H5 g s5 op ks5 _ => ?_)
          refine step mk xn G5 H5 _ g s5 (ks5 lm _ (Ne.symm npm) (om.kp (Same.refl _) k4)) op hmk ⟨[], by simp⟩ (Nat.le_succ _) (by rw [hex, List.length_append]; omega) ?_
          rw [htb, mkT, subT, hfL, hex, trs_getD hxl]
          show _ = (trs more).getD (((atI lt n).getD 0).toNat) leafT
          rw [hx]
          rfl
        | _ => cases hL
      · have hL : isLet h.1 = false := by
          cases q : isLet h.1 with
          | false => rfl
          | true => exact absurd q hL
        obtain ⟨a, is⟩ := h
        have hL : isLet a = false := hL
        have ha : okNd a := ho.ok
        have hl : is.length = a.many := ho.len
        have his : ∀ j ∈ is, j < i := ho.ref
        obtain ⟨is', his'⟩ : ∃ is', is' = is.map fun j => pl.getD j 0 := ⟨_, rfl⟩
        obtain ⟨a', ha'⟩ : ∃ a', a' = subN (im.row ws) a := ⟨_, rfl⟩
        have hmany : a'.many = a.many := by rw [ha']; cases a <;> rfl
        have done : ∀ (Gz Hz : Hp), Gr [] G H Gz Hz → Same Gj Gz → ∀ (o1 : Option V), Own H Gz Hz lm (mk.map hdD ++ [hdD (a', is')]) → Own H Gz Hz lp (pl.map (fun n : Nat => D.int (n : Nat)) ++ [.int (mk.length : Nat)]) → _ := fun Gz Hz gz sz o1 omz opz => step (mk ++ [(a', is')]) mk.length Gz Hz o1 gz sz (by rw [List.map_append]; exact omz) opz (hmk.snoc ⟨?_, by rw [his', List.length_map, hl, hmany], ?_, ?_⟩) ⟨_, rfl⟩ (by rw [List.length_append]; exact Nat.le_refl _) (by rw [List.length_append]; exact Nat.lt_succ_self _) ?_
        rotate_left
        · show okNd a'
          rw [ha']
          cases a with
          | func r => exact (Im.row_in ii.io hown ho.lab).ok hw
          | _ => exact ha
        · intro j hj
          have hj : j ∈ is' := hj
          rw [his'] at hj
          obtain ⟨j2, hj2, rfl⟩ := List.mem_map.mp hj
          exact (hm j2 (his j2 hj2)).1
        · show labIn ws Fb Tb Lx a'
          rw [ha']
          have hlab : labIn ws f 3 Lt a := ho.lab
          cases a with
          | func r => exact RoIn.mono (Im.row_in ii.io hown hlab) ii.hF ii.hT
          | letter n => cases hL
          | data s m => exact Int.le_trans (show (m : Int) ≤ Lt + 5 from hlab) (by have := ii.hL; omega)
          | pair => trivial
          | plain x => trivial
        · rw [trs_snocD, htb]
          unfold mkT
          rw [subT_node hL, List.map_map, his', List.map_map, ← ha']
          refine congrArg (Tr.mk a') (List.map_congr_left fun j hj => ?_)
          exact (hm j (his j hj)).2
        have at' : ∀ j ∈ is, atI (pl.map fun n : Nat => D.int (n : Nat)) ((j : Nat) : Int) = some (.int (pl.getD j 0 : Nat)) := fun j hj => by
          have hj2 : j < pl.length := by rw [hpl]; exact his j hj
          refine atI_nat ?_
          rw [List.getElem?_map, List.getElem?_eq_getElem hj2, List.getD_eq_getElem?_getD, List.getElem?_eq_getElem hj2]
          rfl
        have hia := hia.mono hS
        have r_words := r_words.mono hS
        have r_head : Rp Gj (build a (is.map fun i => D.int (i : Nat))) v := r_head
        cases a with
        | letter n => cases hL
        | pair =>
          obtain ⟨x, y, rfl⟩ : ∃ x y, is = [x, y] := match is, hl with | [x, y], _ => ⟨x, y, rfl⟩
          have r_head : Rp Gj (.tup [.str "pair", .int (x : Nat), .int (y : Nat)]) v := r_head
          refine s_seq (s_if' (eb_test (ed_op (ed_op (ed_var rfl r_head) ed_int fun _ _ => rd_ixT at0) ed_str fun _ _ => rd_eq rfl)) g (fun z => nomatch z) fun _ H4 g k4 => ?_)
          refine s_seq (s_if' (eb_test (ed_op (ed_op (ed_var rfl r_head) ed_int fun _ _ => rd_ixT at0) ed_str fun _ _ => rd_eq rfl)) g (fun _ H5 g k5 => ?_) fun z => nomatch z)
          have op := (op.kp (Same.refl _) k4).kp (Same.refl _) k5
          have om := (om.kp (Same.refl _) k4).kp (Same.refl _) k5
          refine o_setO (d := hdD (a', is')) op (fun vs hr => EdO.to (edo_tup (edso_cons (ed_str).o (edso_cons (edo_ix rfl hr ((ed_op (ed_var rfl r_head) ed_int fun _ _ => rd_ixT at1) : Ed _ _ _ (.int (x : Nat))).o (at' x (by simp))) (edso_cons (edo_ix rfl hr ((ed_op (ed_var rfl r_head) ed_int fun _ _ => rd_ixT at2) : Ed _ _ _ (.int (y : Nat))).o (at' y (by simp))) edso_nil))) (Nat.le_of_ble_eq_true rfl)) (by rw [his', ha']; rfl)) g fun v6 G6 H6 g s6 k6 r6 => ?_
          have op := op.kp s6 k6
          have om := om.kp s6 k6
          simp only [tNext]
          have lmk : (mk.map hdD).length < 10000000 := by rw [List.length_map]; omega
          have hm6 := hm
          clear hm
          refine s_seq (o_append (d := hdD (a', is')) rfl (ed_var rfl r6) g om lmk fun G7 H7 g s7 om ks7 ko7 => ?_)
          have op := ks7 lp _ npm op
          simp only [tNext]
          refine o_appendH (d := .int (mk.length : Nat)) rfl (om.ed g.s rfl fun Gx sx rx => (ed_op (ed_lenL (ed_var rfl rx)) ed_int fun _ _ => rd_I0i).to (by simp)) g op lpl fun G8 H8 g s8 op ks8 ko8 => ?_
          have om := ks8 lm _ (Ne.symm npm) om
          exact done G8 H8 g (s6.trans (s7.trans s8)) _ om op
        | data s m =>
          have r_head : Rp Gj (.tup [.str "data", .str s, .lst (is.map fun i => .int (i : Nat))]) v := r_head
          refine s_seq (s_if' (eb_test (ed_op (ed_op (ed_var rfl r_head) ed_int fun _ _ => rd_ixT at0) ed_str fun _ _ => rd_eq rfl)) g (fun z => nomatch z) fun _ H4 g k4 => ?_)
          refine s_seq (s_if' (eb_test (ed_op (ed_op (ed_var rfl r_head) ed_int fun _ _ => rd_ixT at0) ed_str fun _ _ => rd_eq rfl)) g (fun z => nomatch z) fun _ H5 g k5 => ?_)
          refine s_if' (eb_test (ed_op (ed_op (ed_var rfl r_head) ed_int fun _ _ => rd_ixT at0) ed_str fun _ _ => rd_eq rfl)) g (fun _ H55 g k55 => ?_) fun z => nomatch z
          have op := ((op.kp (Same.refl _) k4).kp (Same.refl _) k5).kp (Same.refl _) k55
          have om := ((om.kp (Same.refl _) k4).kp (Same.refl _) k5).kp (Same.refl _) k55
          have hislen : is.length ≤ 10000000 := by
            have h1 : (m : Int) ≤ Lt + 5 := ho.lab
            have h2 : is.length = m := hl
            have h3 := ii.ltn
            have h4 : lt.length ≤ 1000000 := Nat.le_trans ii.ltx (by decide)
            omega
          refine o_setO (d := hdD (a', is')) op (fun vs hr => EdO.to (edo_tup (edso_cons (ed_str).o (edso_cons ((ed_op (ed_var rfl r_head) ed_int fun _ _ => rd_ixT at1) : Ed _ _ _ (.str s)).o (edso_cons (edo_lcAll (items := is.map fun i => D.int (i : Nat)) (fun d => match d with | .int j => .int (pl.getD j.toNat 0 : Nat) | _ => .non) (es_list (ed_op (ed_var rfl r_head) ed_int fun _ _ => rd_ixT at2)) (by rw [List.length_map]; exact hislen) ?_) edso_nil))) (Nat.le_of_ble_eq_true rfl)) ?_) g fun v6 G6 H6 g s6 k6 r6 => ?_
          · intro d hd G' s'
            obtain ⟨j, hj, rfl⟩ := List.mem_map.mp hd
            exact tk_name fun u hu => ⟨rfl, edo_ix rfl (hr.mono s') (ed_var rfl hu).o (at' j hj)⟩
          · rw [his', ha', List.map_map]
            unfold hdD
            rw [List.map_map]
            rfl
          have op := op.kp s6 k6
          have om := om.kp s6 k6
          simp only [tNext]
          have lmk : (mk.map hdD).length < 10000000 := by rw [List.length_map]; omega
          have hm6 := hm
          clear hm
          refine s_seq (o_append (d := hdD (a', is')) rfl (ed_var rfl r6) g om lmk fun G7 H7 g s7 om ks7 ko7 => ?_)
          have op := ks7 lp _ npm op
          simp only [tNext]
          refine o_appendH (d := .int (mk.length : Nat)) rfl (om.ed g.s rfl fun Gx sx rx => (ed_op (ed_lenL (ed_var rfl rx)) ed_int fun _ _ => rd_I0i).to (by simp)) g op lpl fun G8 H8 g s8 op ks8 ko8 => ?_
          have om := ks8 lm _ (Ne.symm npm) om
          exact done G8 H8 g (s6.trans (s7.trans s8)) _ om op
        | func r =>
          obtain ⟨x, y, rfl⟩ : ∃ x y, is = [x, y] := match is, hl with | [x, y], _ => ⟨x, y, rfl⟩
          have r_head : Rp Gj (.tup [.str "fun", .int (x : Nat), r.d, .int (y : Nat)]) v := r_head
          refine s_seq (s_if' (eb_test (ed_op (ed_op (ed_var rfl r_head) ed_int fun _ _ => rd_ixT at0) ed_str fun _ _ => rd_eq rfl)) g (fun z => nomatch z) fun _ H4 g k4 => ?_)
          refine s_seq (s_if' (eb_test (ed_op (ed_op (ed_var rfl r_head) ed_int fun _ _ => rd_ixT at0) ed_str fun _ _ => rd_eq rfl)) g (fun z => nomatch z) fun _ H5 g k5 => ?_)
          refine s_if' (eb_test (ed_op (ed_op (ed_var rfl r_head) ed_int fun _ _ => rd_ixT at0) ed_str fun _ _ => rd_eq rfl)) g (fun z => nomatch z) fun _ H55 g k55 => ?_
          refine s_if' (eb_test (ed_op (ed_op (ed_var rfl r_head) ed_int fun _ _ => rd_ixT at0) ed_str fun _ _ => rd_eq rfl)) g (fun _ H56 g k56 => ?_) fun z => nomatch z
          have op := (((op.kp (Same.refl _) k4).kp (Same.refl _) k5).kp (Same.refl _) k55).kp (Same.refl _) k56
          have om := (((om.kp (Same.refl _) k4).kp (Same.refl _) k5).kp (Same.refl _) k55).kp (Same.refl _) k56
          refine o_setO (d := hdD (a', is')) op (fun vs hr => EdO.to (edo_tup (edso_cons (ed_str).o (edso_cons (edo_ix rfl hr ((ed_op (ed_var rfl r_head) ed_int fun _ _ => rd_ixT at1) : Ed _ _ _ (.int (x : Nat))).o (at' x (by simp))) (edso_cons (edo_rowI (l := lp) (vs := vs) ((ed_op (ed_var rfl r_head) ed_int fun _ _ => rd_ixT at2) : Ed _ _ _ r.d) rfl r_words rfl hia ii.io ho.lab hw).o (edso_cons (edo_ix rfl hr ((ed_op (ed_var rfl r_head) ed_int fun _ _ => rd_ixT at3) : Ed _ _ _ (.int (y : Nat))).o (at' y (by simp))) edso_nil)))) (Nat.le_of_ble_eq_true rfl)) (by rw [his', ha']; rfl)) g fun v6 G6 H6 g s6 k6 r6 => ?_
          have op := op.kp s6 k6
          have om := om.kp s6 k6
          simp only [tNext]
          have lmk : (mk.map hdD).length < 10000000 := by rw [List.length_map]; omega
          have hm6 := hm
          clear hm
          refine s_seq (o_append (d := hdD (a', is')) rfl (ed_var rfl r6) g om lmk fun G7 H7 g s7 om ks7 ko7 => ?_)
          have op := ks7 lp _ npm op
          simp only [tNext]
          refine o_appendH (d := .int (mk.length : Nat)) rfl (om.ed g.s rfl fun Gx sx rx => (ed_op (ed_lenL (ed_var rfl rx)) ed_int fun _ _ => rd_I0i).to (by simp)) g op lpl fun G8 H8 g s8 op ks8 ko8 => ?_
          have om := ks8 lm _ (Ne.symm npm) om
          exact done G8 H8 g (s6.trans (s7.trans s8)) _ om op
        | plain xw =>
          obtain ⟨_, n1, n2, n3, n4, _⟩ := plain_word (show xw ∈ thePlain from ha)
          have e : is = [] := List.eq_nil_of_length_eq_zero hl
          subst e
          have r_head : Rp Gj (.tup [.str xw]) v := r_head
          refine s_seq (s_if' (((eb_test (ed_op (ed_op (ed_var rfl r_head) ed_int fun _ _ => rd_ixT at0) ed_str fun _ _ => rd_eq rfl)) : Eb _ _ _ _).to (decide_eq_false n4)) g (fun z => nomatch z) fun _ H4 g k4 => ?_)
          refine s_seq (s_if' (((eb_test (ed_op (ed_op (ed_var rfl r_head) ed_int fun _ _ => rd_ixT at0) ed_str fun _ _ => rd_eq rfl)) : Eb _ _ _ _).to (decide_eq_false n1)) g (fun z => nomatch z) fun _ H5 g k5 => ?_)
          refine s_if' (((eb_test (ed_op (ed_op (ed_var rfl r_head) ed_int fun _ _ => rd_ixT at0) ed_str fun _ _ => rd_eq rfl)) : Eb _ _ _ _).to (decide_eq_false n3)) g (fun z => nomatch z) fun _ H55 g k55 => ?_
          refine s_if' (((eb_test (ed_op (ed_op (ed_var rfl r_head) ed_int fun _ _ => rd_ixT at0) ed_str fun _ _ => rd_eq rfl)) : Eb _ _ _ _).to (decide_eq_false n2)) g (fun z => nomatch z) fun _ H56 g k56 => ?_
          have op := (((op.kp (Same.refl _) k4).kp (Same.refl _) k5).kp (Same.refl _) k55).kp (Same.refl _) k56
          have om := (((om.kp (Same.refl _) k4).kp (Same.refl _) k5).kp (Same.refl _) k55).kp (Same.refl _) k56
          have r6 : Rp Gj (hdD (a', is')) v := by rw [his', ha']; exact r_head
          have s6 : Same Gj Gj := Same.refl _
          simp only [tNext]
          have lmk : (mk.map hdD).length < 10000000 := by rw [List.length_map]; omega
          have hm6 := hm
          clear hm
          refine s_seq (o_append (d := hdD (a', is')) rfl (ed_var rfl r6) g om lmk fun G7 H7 g s7 om ks7 ko7 => ?_)
          have op := ks7 lp _ npm op
          simp only [tNext]
          refine o_appendH (d := .int (mk.length : Nat)) rfl (om.ed g.s rfl fun Gx sx rx => (ed_op (ed_lenL (ed_var rfl rx)) ed_int fun _ _ => rd_I0i).to (by simp)) g op lpl fun G8 H8 g s8 op ks8 ko8 => ?_
          have om := ks8 lm _ (Ne.symm npm) om
          exact done G8 H8 g (s6.trans (s7.trans s8)) _ om op
    · rintro σ G' H' g s' ⟨si, mk, pl, o1, o2, rfl, om, op, hmk, ⟨ex, hex⟩, hmkl, hpl, hm⟩
      rw [List.length_map] at hmkl hpl hm
      obtain ⟨G6, g, s6, r_made, kso, n6⟩ := om.frz g
      have op := kso lp _ npm op
      obtain ⟨G7, g, s7, r_places, _, _⟩ := op.frz g
      have r_made := r_made.mono s7
      have htn := ii.tne
      obtain ⟨hq1, hq2⟩ := hm (tb.length - 1) (by omega)
      obtain ⟨q, hq⟩ : ∃ q, q = pl.getD (tb.length - 1) 0 := ⟨_, rfl⟩
      rw [← hq] at hq1 hq2
      have epl : pl = pl.take (tb.length - 1) ++ [q] := by
        have h1 : tb.length - 1 < pl.length := by omega
        have h2 := take_snoc (l := pl) (i := tb.length - 1) (x := q) (by rw [hq, List.getD_eq_getElem?_getD, List.getElem?_eq_getElem h1]; rfl)
        rw [← h2, List.take_of_length_le (by omega)]
      have hexl : more.length ≤ mk.length := by rw [hex, List.length_append]; omega
      have hh : mk[q]? = some mk[q] := List.getElem?_eq_getElem hq1
      have hho := hmk q _ hh
      dsimp only
      refine s_ret (d := .lst ((mk ++ [mk[q]]).map hdD)) (Ed.to (ed_op (ed_var rfl r_made) (ed_lst (eds_cons (ed_op (ed_var rfl r_made) (ed_op (z := .int (q : Nat)) (ed_var rfl r_places) (ed_un ed_int fun _ _ => rd_neg) fun _ _ => rd_ixL (by rw [epl, List.map_append]; exact at_last)) fun _ _ => rd_ixL (z := hdD mk[q]) (atI_nat (by rw [List.getElem?_map, hh]; rfl))) eds_nil) (Nat.le_of_ble_eq_true rfl)) fun _ _ => rd_cat (by rw [List.length_map]; simp; omega)) (by rw [List.map_append]; rfl)) g fun v G9 H9 g r9 => k (mk ++ [mk[q]]) v G9 H9 g r9 ⟨hmk.snoc ⟨hho.ok, hho.len, fun i hi => Nat.lt_trans (hho.ref i hi) hq1, hho.lab⟩, by rw [List.length_append, List.length_singleton]; omega, by rw [List.length_append, List.length_singleton]; omega, ⟨ex ++ [mk[q]], by rw [← List.append_assoc, ← hex]⟩, ?_⟩
      rw [List.length_append, List.length_singleton, Nat.add_sub_cancel, trs_snocD, ← trs_at hmk hh, hq2, hfL]
end
end K18
set_option maxHeartbeats 4000000
namespace Kd
open PySem PySem.Spec PyProof.Rows L2
section
variable {K : PySem.W.Frag} {σ : L2.St} {G H : Hp} {te ti tb : TE} {M : List Addr} {G0 H0 : Hp} {Dn : Ends} {ds : List D} {l p : Addr} {d : D} {P : D → Prop}
theorem Own.edp (o : Own H0 G H l ds) (s : Same G H) (q : PoolAt p G H) (np : p ≠ l) (hs : ∀ d, P d → scl d = true) (h : ∀ Gx, Same G Gx → Rp Gx (.lst ds) (.ref l) → EdP p te σ Gx P) : ∀ Q : VK, (∀ d v H', P d → Gr [p] G H G H' → PoolAt p G H' → Rp G d v → Q v H') → te σ H Q := fun Q k => by
  obtain ⟨vs, e, r⟩ := o.e
  have s1 : Same G (L2.upd G l (.lst vs)) := same_frz o.g
  have sx : Same (L2.upd G l (.lst vs)) H := fun a x q => by
    by_cases z : a = l
    · rw [z] at q ⊢
      rw [upd_same] at q
      rw [e]
      exact q
    · rw [upd_ne z] at q
      exact s a x q
  refine h _ s1 ⟨l, vs, rfl, upd_same, r.mono s1⟩ H sx ⟨by rw [upd_ne np]; exact q.g, q.e⟩ Q fun d v G' H' hd g' q' r' => k d v H' hd ⟨g'.h, g'.t, Same.refl _, fun a x hx => ?_, fun a h1 _ => h1⟩ ⟨q.g, q'.e⟩ (r'.scl (hs d hd))
  exact g'.s a x (g'.g a x (s1 a x hx))
theorem o_putL {i j : Nat} {q : Nat} {n : Int} (hv : σ[i]? = some (some (.ref l))) (he : Ed te σ G d) (hq : σ[q]? = some (some (.int n))) (o : Own H0 G H l ds) (g : Gr M G0 H0 G H) (hn : ixN ds.length n = some j)
    (k : ∀ G' H', Gr M G0 H0 G' H' → Same G G' → Own H0 G' H' l (ds.set j d) → (∀ m x, m ≠ l → OwnO H0 G H m x → OwnO H0 G' H' m x) → (∀ a x, a ≠ l → H a = some x → H' a = some x ∧ (G a = none → G' a = none)) → Dn.nx σ H') : tAsg te (gSub (tVar i) (tVar q) rSetL) Dn σ H := by
  obtain ⟨vs, e, r, hlen⟩ := o.len
  refine s_put (n := n) (j := j) hv (fun Q z => he H g.s Q z) e o.g g (fun Q H' z => ⟨_, hq, z⟩) (by rw [hlen]; exact hn) fun v G' H' g' s' k' r' e' n' => ?_
  refine k G' _ (g'.mut n' o.h0) s' (o.kp s' k' |>.set ?_) (fun m x nm om => ?_) fun a x na hx => by rw [upd_ne na]; exact k' a x hx
  · have : ∀ {ds : List D} {vs : List V} {j : Nat}, RpL G' ds vs → RpL G' (ds.set j d) (vs.set j v) := by
      intro ds
      induction ds with
      | nil => intro vs j h; cases h; exact rfl
      | cons d0 ds ih =>
        rintro vs j ⟨v0, r0, rfl, h1, h2⟩
        cases j with
        | zero => exact ⟨v, r0, rfl, r', h2⟩
        | succ j => exact ⟨v0, _, rfl, h1, ih h2⟩
    exact this (r.mono s')
  · have := om.kp k'
    exact ⟨this.h0, this.g, by rw [upd_ne nm]; exact this.e⟩
theorem o_copy {i q : Nat} {v : V} (hv : σ[q]? = some (some v)) (r : Rp G (.lst ds) v) (g : Gr M G0 H0 G H)
    (k : ∀ l H', Gr M G0 H0 G H' → Own H0 G H' l ds → Kp G H G H' → Dn.nx (σ.set i (some (.ref l))) H') :
    tAsg (tCB (fun xs H Q => ∃ p ys, xs = [.ref p] ∧ (SqL K H p ys ∨ SqT K H p ys) ∧ ∀ l, H l = none → Q (.ref l) (upd H l (.lst ys))) (tCons (tVar q) tNil)) (gName i) Dn σ H := by
  obtain ⟨a, vs, rfl, ha, hr⟩ := r
  refine ⟨_, hv, a, vs, rfl, .inl (SqL.of (g.s a _ ha)), fun l hl => k l _ (g.tmp hl) ⟨g.free hl, g.gfree hl, vs, upd_same, hr⟩ (kp_new hl)⟩
end
end Kd
namespace K18
open PySem PySem.Spec PyProof.Rows L2 Kd
structure Chg (ws : List Str) (t L : Int) (tb : List He2) (i : Nat) (h h' : He2) : Prop where
  at' : tb[i]? = some h
  ok : HeOk ws 10 (t + 1) (L + 4) i h'
  sz : ∀ sz : Nat → Nat, (h'.2.map sz).sum ≤ (h.2.map sz).sum + sz 0
theorem RoIn.ok10 {ws : List Str} {f t : Int} {r : Ro} (h : RoIn ws f t r) (hw : WordsOk ws) : okRo r := h.ok hw
theorem RoIn.chg {ws : List Str} {f t : Int} {r : Ro} (h : RoIn ws f t r) (hf : f ≤ 10) (turn : Int) : RoIn ws 10 (t + 1) (if turn = 0 then ⟨r.ns, r.t + 1⟩ else if turn = 1 then ⟨r.ns.drop 1, r.t⟩ else if turn = 2 then ⟨ws.map fun z => (z, .pre), r.t⟩ else ⟨r.ns.map fun p => (p.1, .num 9), r.t⟩) := by
  have h2 := h.mono hf (Int.le_refl t)
  have ht := h.tl
  split
  · exact ⟨h2.sub, h2.fl, by show 0 ≤ r.t + 1; omega, by show r.t + 1 < t + 1; omega⟩
  · split
    · exact ⟨by show ((r.ns.drop 1).map (·.1)).Sublist ws; rw [List.map_drop]; exact (List.drop_sublist _ _).trans h2.sub, fun p hp => h2.fl p (List.mem_of_mem_drop hp), ht.1, by show r.t < t + 1; omega⟩
    · split
      · refine ⟨?_, fun p hp => ?_, ht.1, by show r.t < t + 1; omega⟩
        · show ((ws.map fun z => (z, Fl.pre)).map (·.1)).Sublist ws
          rw [List.map_map]
          have : ws.map ((fun p : Str × Fl => p.1) ∘ fun z => (z, Fl.pre)) = ws := List.map_id _
          rw [this]
          exact List.Sublist.refl _
        · obtain ⟨z, _, rfl⟩ := List.mem_map.mp hp
          trivial
      · refine ⟨?_, fun p hp => ?_, ht.1, by show r.t < t + 1; omega⟩
        · show ((r.ns.map fun p => (p.1, Fl.num 9)).map (·.1)).Sublist ws
          rw [List.map_map]
          exact h2.sub
        · obtain ⟨z, _, rfl⟩ := List.mem_map.mp hp
          exact ⟨by decide, by decide⟩
section
variable {P : Program} {w : World} {K : PySem.W.Frag} {mg : Str → Option Value} {base : Heap}
def spChg : Sp := fun vs H Q _ => ∃ (G : Hp) (p : Addr) (ws : List Str) (f t L : Int) (tb : List He2) (v1 v2 : V), vs = [.ref p, v1, v2] ∧ Same G H ∧ PoolAt p G H ∧ Rp G (.lst (tb.map hdD)) v1 ∧ Rp G (.lst (ws.map .str)) v2 ∧ TabOk ws f t L tb ∧ f ≤ 10 ∧ 0 ≤ L ∧ L ≤ 100 ∧ WordsOk ws ∧ 0 < tb.length ∧ tb.length ≤ 500000 ∧ (∃ a, tb[0]? = some (a, []) ∧ leafN a = true) ∧
  ∀ i h h' v G' H', Chg ws t L tb i h h' → Rp G' (.lst ((tb.set i h').map hdD)) v → Gr [p] G H G' H' → PoolAt p G' H' → Q v H'
abbrev N_law_changed : List Str := ["pool", "table", "words", "made", "at", "head", "turn", "named", "tail", "word", "flag"]
theorem sc_law_changed : FnScope ["pool", "table", "words", "made", "at", "head", "turn", "named", "tail", "word", "flag"] ["pool", "table", "words"] (defScope s_law_changed) := ⟨rfl, rfl, rfl, by decide +kernel, rfl, by decide +kernel, by decide +kernel⟩
theorem ok_law_changed (T : Tx K mg) : Good P w K mg base CX0 "_law_changed" 3 ["pool", "table", "words"] spChg := by
  obtain ⟨fd, F⟩ := T.f__law_changed
  refine ⟨T.m__law_changed, F.kp, fd, ?_, F.bindsN fun _ _ _ _ _ _ us hl => match us, hl with | [_, _, _], _ => rfl⟩
  have G_law_pick := ok_law_pick (P := P) (w := w) (base := base) T
  refine F.ok sc_law_changed (fun vs H Q E h => ?_) (fun cdv A outer s H vs Q E hr h => ?_)
  · obtain ⟨G, p, ws, f, t, L, tb, v1, v2, rfl, _⟩ := h
    rfl
  · obtain ⟨G, p, ws, f, t, L, tb, v1, v2, rfl, s0, hq, r_table, r_words, hok, hf10, hL0, hL1, hws, htn, htl, ⟨a0, ha0, hl0⟩, k⟩ := h
    refine ⟨_, PSs.nox ((pss_cons (ps_set (i := 3) sc_law_changed.nd rfl (Or.inl rfl) (pe_callTy call_list_of (by rfl) T.n_list (by decide +kernel) (pa_cons (pv 1) pa_nil)))
    (pss_cons (ps_set (i := 4) sc_law_changed.nd rfl (Or.inl rfl) (pe_op op_sub (pe_op op_sub (pe_callB call_len_seq (by rfl) T.n_len PySem.boot_len (pa_cons (pv 3) pa_nil)) pe_int) (pe_op op_mod (pe_callTy call_int1 (by rfl) T.n_int (by decide +kernel) (pa_cons (pe_op op_add (pe_op op_mul (pe_g G_law_pick (hr.mono (by decide)) (pa_cons (pv 0) (pa_cons pe_int pa_nil))) pe_int) (pe_g G_law_pick (hr.mono (by decide)) (pa_cons (pv 0) (pa_cons pe_int pa_nil)))) pa_nil)) (pe_callB call_len_seq (by rfl) T.n_len PySem.boot_len (pa_cons (pv 3) pa_nil)))))
    (pss_cons (ps_par (i := 5) (j := 6) (by rfl) sc_law_changed.nd rfl rfl (by decide) rfl rfl (pa_cons (pe_ix ix_list (pv 3) (pv 4) (fun _ _ => rfl)) (pa_cons (pe_g G_law_pick (hr.mono (by decide)) (pa_cons (pv 0) (pa_cons pe_int pa_nil))) pa_nil)) (by rfl))
    (pss_cons (ps_if (pt_cmpR op_eq (pe_ix ix_tup (pv 5) pe_int (fun _ _ => rfl)) pe_str (nomark _)) (pss_cons (ps_asg (pe_ix ix_tup (pv 5) pe_int (fun _ _ => rfl)) (pg_tup rfl (pgs_cons (pg_name (i := 7) sc_law_changed.nd rfl (Or.inl rfl)) (pgs_cons (pg_name (i := 8) sc_law_changed.nd rfl (Or.inl rfl)) pgs_nil))))
    (pss_cons (ps_if (pt_cmpR op_eq (pv 6) pe_int (nomark _)) (pss_one (ps_set (i := 8) sc_law_changed.nd rfl (Or.inl rfl) (pe_op op_add (pv 8) pe_int))) (pss_one (ps_if (pt_cmpR op_eq (pv 6) pe_int (nomark _)) (pss_one (ps_set (i := 7) sc_law_changed.nd rfl (Or.inl rfl) (pe_slice sl_list (pv 7) (po_some pe_int) po_none))) (pss_one (ps_if (pt_cmpR op_eq (pv 6) pe_int (nomark _)) (pss_one (ps_setLc (i := 7) rfl sc_law_changed.nd rfl rfl (sw_true rfl rfl rfl (by decide +kernel)) (own := [("word", 9)]) (pi_list (pv 2)) (blkOk_by (own := [("word", 9)]) (N := ["pool", "table", "words", "made", "at", "head", "turn", "named", "tail", "word", "flag"]) (sc := defScope s_law_changed) (by decide +kernel)) (fun _ _ _ _ _ => by exact (pg_name (i := 9) sc_law_changed.nd rfl (Or.inl rfl))) (fun _ _ _ _ _ => by exact pts_nil) (fun _ _ _ _ _ => by exact (pe_tup (pa_cons (pv 9) (pa_cons pe_str pa_nil)))))) (pss_one (ps_setLc (i := 7) rfl sc_law_changed.nd rfl rfl (sw_true rfl rfl rfl (by decide +kernel)) (own := [("word", 9), ("flag", 10)]) (pi_list (pv 7)) (blkOk_by (own := [("word", 9), ("flag", 10)]) (N := ["pool", "table", "words", "made", "at", "head", "turn", "named", "tail", "word", "flag"]) (sc := defScope s_law_changed) (by decide +kernel)) (fun _ _ _ _ _ => by exact (pgK_tup (K := K) (n := 2) rfl rfl (pgs_cons (pg_name (i := 9) sc_law_changed.nd rfl (Or.inl rfl)) (pgs_cons (pg_name (i := 10) sc_law_changed.nd rfl (Or.inl rfl)) pgs_nil)))) (fun _ _ _ _ _ => by exact pts_nil) (fun _ _ _ _ _ => by exact (pe_tup (pa_cons (pv 9) (pa_cons (pe_tup (pa_cons pe_str (pa_cons pe_int pa_nil))) pa_nil)))))))))))
    (pss_one (ps_asg (pe_tup (pa_cons pe_str (pa_cons (pe_ix ix_tup (pv 5) pe_int (fun _ _ => rfl)) (pa_cons (pe_tup (pa_cons (pv 7) (pa_cons (pv 8) pa_nil))) (pa_cons (pe_ix ix_tup (pv 5) pe_int (fun _ _ => rfl)) pa_nil))))) (pg_sub (pv 3) (pv 4) set_list))))) (pss_one (ps_if (pt_cmpR op_eq (pe_ix ix_tup (pv 5) pe_int (fun _ _ => rfl)) pe_str (nomark _)) (pss_one (ps_asg (pe_ix ix_list (pe_lst (pa_cons (pe_tup (pa_cons pe_str (pa_cons (pe_ix ix_tup (pv 5) pe_int (fun _ _ => rfl)) (pa_cons (pe_ix ix_tup (pv 5) pe_int (fun _ _ => rfl)) pa_nil)))) (pa_cons (pe_tup (pa_cons pe_str pa_nil)) (pa_cons (pe_tup (pa_cons pe_str (pa_cons pe_str (pa_cons (pe_lst (pa_cons (pe_ix ix_tup (pv 5) pe_int (fun _ _ => rfl)) pa_nil)) pa_nil)))) (pa_cons (pe_tup (pa_cons pe_str (pa_cons pe_int pa_nil))) pa_nil))))) (pv 6) (fun _ _ => rfl)) (pg_sub (pv 3) (pv 4) set_list))) (pss_one (ps_if (pt_cmpR op_eq (pe_ix ix_tup (pv 5) pe_int (fun _ _ => rfl)) pe_str (nomark _)) (pss_one (ps_asg (pe_tup (pa_cons pe_str (pa_cons (pe_ix ix_list (pe_lst (pa_cons pe_str (pa_cons pe_str pa_nil))) (pe_callTy call_int1 (by rfl) T.n_int (by decide +kernel) (pa_cons (pe_cmpR op_gt (pv 6) pe_int (nomark _)) pa_nil)) (fun _ _ => rfl)) (pa_cons (pe_ix ix_list (pe_lst (pa_cons (pe_lst pa_nil) (pa_cons (pe_slice sl_list (pe_ix ix_tup (pv 5) pe_int (fun _ _ => rfl)) (po_some pe_int) po_none) (pa_cons (pe_op op_cat (pe_ix ix_tup (pv 5) pe_int (fun _ _ => rfl)) (pe_lst (pa_cons pe_int pa_nil))) (pa_cons (pe_ix ix_tup (pv 5) pe_int (fun _ _ => rfl)) pa_nil))))) (pv 6) (fun _ _ => rfl)) pa_nil)))) (pg_sub (pv 3) (pv 4) set_list))) (pss_one (ps_asg (pe_ix ix_list (pe_lst (pa_cons (pe_tup (pa_cons pe_str pa_nil)) (pa_cons (pe_tup (pa_cons pe_str (pa_cons pe_int pa_nil))) (pa_cons (pe_tup (pa_cons pe_str (pa_cons pe_int pa_nil))) (pa_cons (pe_tup (pa_cons pe_str pa_nil)) pa_nil))))) (pv 6) (fun _ _ => rfl)) (pg_sub (pv 3) (pv 4) set_list))))))))
    (pss_one (ps_ret (pv 3)))))))), ?_⟩
    have g := gr0 (M := [p]) s0
    have hp0 := hq.ne
    have hwl := hws.len
    have rI : ∀ {G'} {x : Int}, Rp G' (.int x) (.int x) := rfl
    refine s_seq (o_copy rfl r_table g fun lm H1 g om k1 => ?_)
    have hq := hq.kp k1
    have npl : p ≠ lm := fun z => hp0 (by rw [z]; exact om.h0)
    obtain ⟨tn, htn0⟩ : ∃ tn, tn = tb.length := ⟨_, rfl⟩
    dsimp only
    refine s_seq (om.edp (P := fun d => ∃ i : Nat, d = .int (i : Nat) ∧ i < tb.length) g.s hq npl (fun d ⟨i, e, _⟩ => by rw [e]; rfl) (fun Gx sx rx => ?_) _ fun d v5 H5 hd g5 hq r5 => ?_)
    · have elen : (tb.map hdD).length = tb.length := List.length_map _
      refine edp_op (P1 := fun d => d = .int ((tb.length : Nat) - 1)) (P2 := fun d => ∃ a : Int, d = .int a ∧ 0 ≤ a ∧ a < (tb.length : Nat)) (Ed.pl ((ed_op (ed_lenL (ed_var rfl rx)) ed_int fun _ _ => rd_I0i).to (by rw [elen]))) (edp_op (P1 := fun d => ∃ r : Int, d = .int r) (P2 := fun d => d = .int (tb.length : Nat)) (edp_cb (edsp_cons (edp_op (P1 := fun d => ∃ r : Int, d = .int r) (P3 := fun d => ∃ r : Int, d = .int r) (edp_op (edp_pick rfl ed_int (by decide)) (Ed.pl ed_int) ?_) (edp_pick rfl ed_int (by decide)) ?_) edsp_nil) ?_) (Ed.pl ((ed_lenL (ed_var rfl rx)).to (by rw [elen]))) ?_) ?_
      · rintro d e ⟨r, rfl, _⟩ rfl
        exact ⟨_, ⟨_, rfl⟩, fun _ _ => rd_Ii (.inr ⟨by decide, by decide⟩)⟩
      · rintro d e ⟨r, rfl⟩ ⟨r2, rfl, _⟩
        exact ⟨_, ⟨_, rfl⟩, fun _ _ => rd_I0i⟩
      · rintro ds ⟨d, r, rfl, ⟨x, rfl⟩, rfl⟩
        exact ⟨_, ⟨x, rfl⟩, fun _ _ => rdc_int1⟩
      · rintro d e ⟨r, rfl⟩ rfl
        have h0 := Int.emod_nonneg r (show ((tb.length : Nat) : Int) ≠ 0 by omega)
        have h1 := Int.emod_lt_of_pos r (show (0 : Int) < (tb.length : Nat) by omega)
        exact ⟨_, ⟨_, rfl, h0, h1⟩, fun _ _ => rd_Ii (by show (0 : Int) < _; omega)⟩
      · rintro d e rfl ⟨a, rfl, h0, h1⟩
        obtain ⟨m, hm⟩ := Int.eq_ofNat_of_zero_le (show 0 ≤ ((tb.length : Nat) : Int) - 1 - a by omega)
        exact ⟨_, ⟨m, rfl, by omega⟩, fun _ _ => by rw [← hm]; exact rd_I0i⟩
    obtain ⟨i, rfl, hi⟩ := hd
    cases (show v5 = .int (i : Nat) from r5)
    have g := g.callP g5 (List.mem_singleton.mpr rfl)
    have om := om.callP g5 hp0
    have hh : tb[i]? = some tb[i] := List.getElem?_eq_getElem hi
    obtain ⟨h, eh⟩ : ∃ h, h = tb[i] := ⟨_, rfl⟩
    rw [← eh] at hh
    have ho := hok i h hh
    have hhd : (tb.map hdD)[i]? = some (hdD h) := by rw [List.getElem?_map, hh]; rfl
    obtain ⟨vs6, e6, rv6⟩ := om.e
    simp only [tNext]
    refine s_seq ((edo_ix rfl rv6 (ed_var rfl rI).o (atI_nat hhd) : EdO lm vs6 _ _ G (hdD h)) H5 g.s e6 _ fun v7 G7 H7 g7 r_head => ?_)
    have g := g.call g7
    have om := om.kp g7.g g7.kp
    have hq := hq.kp g7.kp
    refine (edp_pick (m := 4) rfl ed_int (by decide) : EdP p _ _ G7 _) H7 g.s hq _ fun d8 v8 G8 H8 hd8 g8 hq r8 => ⟨v7, v8, rfl, ?_⟩
    obtain ⟨turn, rfl, ht0, ht4⟩ := hd8
    cases (show v8 = .int turn from r8)
    have g := g.callP g8 (List.mem_singleton.mpr rfl)
    have om := om.callP g8 hp0
    have r_head := r_head.mono g8.g
    have s08 := g7.g.trans g8.g
    have hturn : turn = 0 ∨ turn = 1 ∨ turn = 2 ∨ turn = 3 := by omega
    have hixn : ixN (tb.map hdD).length ((i : Nat) : Int) = some i := by
      unfold ixN
      rw [List.length_map, if_pos (by omega), if_pos (by omega)]
      simp
    have fin : ∀ (h' : He2) (G9 H9 : Hp), HeOk ws 10 (t + 1) (L + 4) i h' → (∀ sz : Nat → Nat, (h'.2.map sz).sum ≤ (h.2.map sz).sum + sz 0) → Gr [p] G H G9 H9 → PoolAt p G9 H9 → Own H G9 H9 lm ((tb.map hdD).set i (hdD h')) → Q (.ref lm) H9 := by
      intro h' G9 H9 h1 h2 g9 hq9 om9
      rw [← List.map_set] at om9
      obtain ⟨G10, g10, s10, r10, _, n10⟩ := om9.frz g9
      exact k i h h' _ G10 H9 ⟨hh, h1, h2⟩ r10 g10 ⟨n10 p npl hq9.g, hq9.e⟩
    have pk : ∀ {G9 H9 G10 H10 : Hp}, PoolAt p G9 H9 → (∀ a x, a ≠ lm → H9 a = some x → H10 a = some x ∧ (G9 a = none → G10 a = none)) → PoolAt p G10 H10 := by
      intro G9 H9 G10 H10 q9 ko
      obtain ⟨pl, st, xs, e, r⟩ := q9.e
      exact ⟨(ko p _ npl e).2 q9.g, pl, st, xs, (ko p _ npl e).1, r⟩
    have leafOk : ∀ {w' : Str}, w' ∈ thePlain → HeOk ws 10 (t + 1) (L + 4) i (.plain w', []) := fun hw => ⟨hw, rfl, fun j hj => by simp at hj, trivial⟩
    have letOk : ∀ {n : Int}, 0 ≤ n → n < 4 → HeOk ws 10 (t + 1) (L + 4) i (.letter n, []) := fun h0 h1 => ⟨h0, rfl, fun j hj => by simp at hj, h0, by omega⟩
    clear eh
    obtain ⟨a, is⟩ := h
    have ha : okNd a := ho.ok
    have hl : is.length = a.many := ho.len
    have his : ∀ j ∈ is, j < i := ho.ref
    have r_head : Rp G8 (build a (is.map fun i => D.int (i : Nat))) v7 := r_head
    cases a with
    | func r =>
      obtain ⟨x, y, rfl⟩ : ∃ x y, is = [x, y] := match is, hl with | [x, y], _ => ⟨x, y, rfl⟩
      have r_head : Rp G8 (.tup [.str "fun", .int (x : Nat), .tup [.lst (r.ns.map nmD), .int r.t], .int (y : Nat)]) v7 := r_head
      have hr1 : RoIn ws f t r := ho.lab
      have hr2 := hr1.chg hf10 turn
      have hnl : r.ns.length ≤ 5 := by
        have := hr1.sub.length_le
        rw [List.length_map] at this
        omega
      refine s_seq (s_if' (eb_test (ed_op (ed_op (ed_var rfl r_head) ed_int fun _ _ => rd_ixT at0) ed_str fun _ _ => rd_eq rfl)) g (fun _ H9 g k9 => ?_) fun z => nomatch z)
      have om := om.kp (Same.refl _) k9
      have hq := hq.kp k9
      refine s_seq (s_asg (ed_op (ed_var rfl r_head) ed_int fun _ _ => rd_ixT at2) g fun v10 G10 H10 g s10 k10 r10 => ?_)
      have om := om.kp s10 k10
      have hq := hq.kp k10
      have r_head := r_head.mono s10
      refine g_two g.s r10 rfl fun vn vt r_named r_tail => ?_
      cases (show vt = .int r.t from r_tail)
      have r_turn : Rp G10 (.int turn) (.int turn) := rfl
      rcases hturn with rfl | rfl | rfl | rfl
      · rw [if_pos rfl] at hr2
        refine s_seq (s_if' ((eb_test (ed_op (ed_var rfl r_turn) ed_int fun _ _ => rd_eq rfl)) : Eb _ _ _ true) g (fun _ H11 g k11 => ?_) fun z => nomatch z)
        have om := om.kp (Same.refl _) k11
        have hq := hq.kp k11
        refine s_set' (d := .int (r.t + 1)) (ed_op (ed_var rfl rI) ed_int fun _ _ => rd_I0i) g fun v13 G13 H13 g s13 k13 r13 => ?_
        cases (show v13 = .int (r.t + 1) from r13)
        have om := om.kp s13 k13
        have hq := hq.kp k13
        have r_head := r_head.mono s13
        have r_named := r_named.mono s13
        simp only [tNext]
        refine o_putL (d := hdD (.func ⟨r.ns, r.t + 1⟩, [x, y])) rfl (ed_tup (eds_cons ed_str (eds_cons (ed_op (ed_var rfl r_head) ed_int fun _ _ => rd_ixT at1) (eds_cons (ed_tup (eds_cons (ed_var rfl r_named) (eds_cons (ed_var rfl rI) eds_nil)) (Nat.le_of_ble_eq_true rfl)) (eds_cons (ed_op (ed_var rfl r_head) ed_int fun _ _ => rd_ixT at3) eds_nil)))) (Nat.le_of_ble_eq_true rfl)) rfl om g hixn fun G12 H12 g s12 om _ ko12 => ?_
        exact ⟨_, rfl, fin (.func ⟨r.ns, r.t + 1⟩, [x, y]) G12 H12 ⟨hr2.ok10 hws, rfl, his, hr2⟩ (fun sz => Nat.le_add_right _ _) g (pk hq ko12) om⟩
      · rw [if_neg (by decide), if_pos rfl] at hr2
        refine s_seq (s_if' ((eb_test (ed_op (ed_var rfl r_turn) ed_int fun _ _ => rd_eq rfl)) : Eb _ _ _ false) g (fun z => nomatch z) fun _ H11 g k11 => ?_)
        refine s_if' ((eb_test (ed_op (ed_var rfl r_turn) ed_int fun _ _ => rd_eq rfl)) : Eb _ _ _ true) g (fun _ H111 g k111 => ?_) fun z => nomatch z
        have om := (om.kp (Same.refl _) k11).kp (Same.refl _) k111
        have hq := (hq.kp k11).kp k111
        refine s_set' (d := .lst ((r.ns.drop 1).map nmD)) (((ed_slL (ed_var rfl r_named) (eo_some ed_int) eo_none) : Ed _ _ _ _).to (by rw [cut1, List.map_drop])) g fun v13 G13 H13 g s13 k13 r13 => ?_
        have om := om.kp s13 k13
        have hq := hq.kp k13
        have r_head := r_head.mono s13
        simp only [tNext]
        refine o_putL (d := hdD (.func ⟨r.ns.drop 1, r.t⟩, [x, y])) rfl (ed_tup (eds_cons ed_str (eds_cons (ed_op (ed_var rfl r_head) ed_int fun _ _ => rd_ixT at1) (eds_cons (ed_tup (eds_cons (ed_var rfl r13) (eds_cons (ed_var rfl rI) eds_nil)) (Nat.le_of_ble_eq_true rfl)) (eds_cons (ed_op (ed_var rfl r_head) ed_int fun _ _ => rd_ixT at3) eds_nil)))) (Nat.le_of_ble_eq_true rfl)) rfl om g hixn fun G12 H12 g s12 om _ ko12 => ?_
        exact ⟨_, rfl, fin (.func ⟨r.ns.drop 1, r.t⟩, [x, y]) G12 H12 ⟨hr2.ok10 hws, rfl, his, hr2⟩ (fun sz => Nat.le_add_right _ _) g (pk hq ko12) om⟩
      · rw [if_neg (by decide), if_neg (by decide), if_pos rfl] at hr2
        refine s_seq (s_if' ((eb_test (ed_op (ed_var rfl r_turn) ed_int fun _ _ => rd_eq rfl)) : Eb _ _ _ false) g (fun z => nomatch z) fun _ H11 g k11 => ?_)
        refine s_if' ((eb_test (ed_op (ed_var rfl r_turn) ed_int fun _ _ => rd_eq rfl)) : Eb _ _ _ false) g (fun z => nomatch z) fun _ H111 g k111 => ?_
        refine s_if' ((eb_test (ed_op (ed_var rfl r_turn) ed_int fun _ _ => rd_eq rfl)) : Eb _ _ _ true) g (fun _ H112 g k112 => ?_) fun z => nomatch z
        have om := ((om.kp (Same.refl _) k11).kp (Same.refl _) k111).kp (Same.refl _) k112
        have hq := ((hq.kp k11).kp k111).kp k112
        refine s_set' (d := .lst ((ws.map fun z => (z, Fl.pre)).map nmD)) ((ed_lcAll (items := ws.map .str) (fun d => .tup [d, .str "pre"]) (es_list (ed_var rfl (r_words.mono (s08.trans s10)))) (by rw [List.length_map]; omega) ?_).to (by rw [List.map_map, List.map_map]; rfl)) g fun v13 G13 H13 g s13 k13 r13 => ?_
        · intro d hd G' s'
          exact tk_name fun u hu => ⟨rfl, ed_tup (eds_cons (ed_var rfl hu) (eds_cons ed_str eds_nil)) (Nat.le_of_ble_eq_true rfl)⟩
        have om := om.kp s13 k13
        have hq := hq.kp k13
        have r_head := r_head.mono s13
        simp only [tNext]
        refine o_putL (d := hdD (.func ⟨ws.map fun z => (z, .pre), r.t⟩, [x, y])) rfl (ed_tup (eds_cons ed_str (eds_cons (ed_op (ed_var rfl r_head) ed_int fun _ _ => rd_ixT at1) (eds_cons (ed_tup (eds_cons (ed_var rfl r13) (eds_cons (ed_var rfl rI) eds_nil)) (Nat.le_of_ble_eq_true rfl)) (eds_cons (ed_op (ed_var rfl r_head) ed_int fun _ _ => rd_ixT at3) eds_nil)))) (Nat.le_of_ble_eq_true rfl)) rfl om g hixn fun G12 H12 g s12 om _ ko12 => ?_
        exact ⟨_, rfl, fin (.func ⟨ws.map fun z => (z, .pre), r.t⟩, [x, y]) G12 H12 ⟨hr2.ok10 hws, rfl, his, hr2⟩ (fun sz => Nat.le_add_right _ _) g (pk hq ko12) om⟩
      · rw [if_neg (by decide), if_neg (by decide), if_neg (by decide)] at hr2
        refine s_seq (s_if' ((eb_test (ed_op (ed_var rfl r_turn) ed_int fun _ _ => rd_eq rfl)) : Eb _ _ _ false) g (fun z => nomatch z) fun _ H11 g k11 => ?_)
        refine s_if' ((eb_test (ed_op (ed_var rfl r_turn) ed_int fun _ _ => rd_eq rfl)) : Eb _ _ _ false) g (fun z => nomatch z) fun _ H111 g k111 => ?_
        refine s_if' ((eb_test (ed_op (ed_var rfl r_turn) ed_int fun _ _ => rd_eq rfl)) : Eb _ _ _ false) g (fun z => nomatch z) fun _ H112 g k112 => ?_
        have om := ((om.kp (Same.refl _) k11).kp (Same.refl _) k111).kp (Same.refl _) k112
        have hq := ((hq.kp k11).kp k111).kp k112
        refine s_set' (d := .lst ((r.ns.map fun p => (p.1, Fl.num 9)).map nmD)) ((ed_lcAll (items := r.ns.map nmD) (fun d => match d with | .tup [z, _] => .tup [z, .tup [.str "flag", .int 9]] | _ => .non) (es_list (ed_var rfl r_named)) (by rw [List.length_map]; omega) ?_).to (by rw [List.map_map, List.map_map]; rfl)) g fun v13 G13 H13 g s13 k13 r13 => ?_
        · intro d hd G' s'
          obtain ⟨q, hq, rfl⟩ := List.mem_map.mp hd
          exact tk_tup rfl (tkl_cons fun u hu => tkl_cons fun u' hu' => tkl_nil ⟨rfl, ed_tup (eds_cons (ed_var rfl hu) (eds_cons (ed_tup (eds_cons ed_str (eds_cons ed_int eds_nil)) (Nat.le_of_ble_eq_true rfl)) eds_nil)) (Nat.le_of_ble_eq_true rfl)⟩)
        have om := om.kp s13 k13
        have hq := hq.kp k13
        have r_head := r_head.mono s13
        simp only [tNext]
        refine o_putL (d := hdD (.func ⟨r.ns.map (fun p : Str × Fl => (p.1, Fl.num 9)), r.t⟩, [x, y])) rfl (ed_tup (eds_cons ed_str (eds_cons (ed_op (ed_var rfl r_head) ed_int fun _ _ => rd_ixT at1) (eds_cons (ed_tup (eds_cons (ed_var rfl r13) (eds_cons (ed_var rfl rI) eds_nil)) (Nat.le_of_ble_eq_true rfl)) (eds_cons (ed_op (ed_var rfl r_head) ed_int fun _ _ => rd_ixT at3) eds_nil)))) (Nat.le_of_ble_eq_true rfl)) rfl om g hixn fun G12 H12 g s12 om _ ko12 => ?_
        exact ⟨_, rfl, fin (.func ⟨r.ns.map (fun p : Str × Fl => (p.1, Fl.num 9)), r.t⟩, [x, y]) G12 H12 ⟨hr2.ok10 hws, rfl, his, hr2⟩ (fun sz => Nat.le_add_right _ _) g (pk hq ko12) om⟩
    | pair =>
      obtain ⟨x, y, rfl⟩ : ∃ x y, is = [x, y] := match is, hl with | [x, y], _ => ⟨x, y, rfl⟩
      have r_head : Rp G8 (.tup [.str "pair", .int (x : Nat), .int (y : Nat)]) v7 := r_head
      refine s_seq (s_if' (eb_test (ed_op (ed_op (ed_var rfl r_head) ed_int fun _ _ => rd_ixT at0) ed_str fun _ _ => rd_eq rfl)) g (fun z => nomatch z) fun _ H9 g k9 => ?_)
      refine s_if' (eb_test (ed_op (ed_op (ed_var rfl r_head) ed_int fun _ _ => rd_ixT at0) ed_str fun _ _ => rd_eq rfl)) g (fun _ H91 g k91 => ?_) fun z => nomatch z
      have om := (om.kp (Same.refl _) k9).kp (Same.refl _) k91
      have hq := (hq.kp k9).kp k91
      rcases hturn with rfl | rfl | rfl | rfl
      · refine o_putL (d := hdD (.pair, [y, x])) rfl (ed_op (ed_lst (eds_cons (ed_tup (eds_cons ed_str (eds_cons (ed_op (ed_var rfl r_head) ed_int fun _ _ => rd_ixT at2) (eds_cons (ed_op (ed_var rfl r_head) ed_int fun _ _ => rd_ixT at1) eds_nil))) (Nat.le_of_ble_eq_true rfl)) (eds_cons (ed_tup (eds_cons ed_str eds_nil) (Nat.le_of_ble_eq_true rfl)) (eds_cons (ed_tup (eds_cons ed_str (eds_cons ed_str (eds_cons (ed_lst (eds_cons (ed_op (ed_var rfl r_head) ed_int fun _ _ => rd_ixT at1) eds_nil) (Nat.le_of_ble_eq_true rfl)) eds_nil))) (Nat.le_of_ble_eq_true rfl)) (eds_cons (ed_tup (eds_cons ed_str (eds_cons ed_int eds_nil)) (Nat.le_of_ble_eq_true rfl)) eds_nil)))) (Nat.le_of_ble_eq_true rfl)) (ed_var rfl rI) fun _ _ => rd_ixL at0) rfl om g hixn fun G12 H12 g s12 om _ ko12 => ?_
        exact ⟨_, rfl, fin (.pair, [y, x]) G12 H12 (⟨trivial, rfl, fun j hj => his j (by simp at hj ⊢; exact hj.symm), trivial⟩) (fun sz => by simp; omega) g (pk hq ko12) om⟩
      · refine o_putL (d := hdD (.plain "int", [])) rfl (ed_op (ed_lst (eds_cons (ed_tup (eds_cons ed_str (eds_cons (ed_op (ed_var rfl r_head) ed_int fun _ _ => rd_ixT at2) (eds_cons (ed_op (ed_var rfl r_head) ed_int fun _ _ => rd_ixT at1) eds_nil))) (Nat.le_of_ble_eq_true rfl)) (eds_cons (ed_tup (eds_cons ed_str eds_nil) (Nat.le_of_ble_eq_true rfl)) (eds_cons (ed_tup (eds_cons ed_str (eds_cons ed_str (eds_cons (ed_lst (eds_cons (ed_op (ed_var rfl r_head) ed_int fun _ _ => rd_ixT at1) eds_nil) (Nat.le_of_ble_eq_true rfl)) eds_nil))) (Nat.le_of_ble_eq_true rfl)) (eds_cons (ed_tup (eds_cons ed_str (eds_cons ed_int eds_nil)) (Nat.le_of_ble_eq_true rfl)) eds_nil)))) (Nat.le_of_ble_eq_true rfl)) (ed_var rfl rI) fun _ _ => rd_ixL at1) rfl om g hixn fun G12 H12 g s12 om _ ko12 => ?_
        exact ⟨_, rfl, fin (.plain "int", []) G12 H12 (leafOk (by simp [thePlain])) (fun sz => Nat.zero_le _) g (pk hq ko12) om⟩
      · refine o_putL (d := hdD (.data "Opt" 1, [x])) rfl (ed_op (ed_lst (eds_cons (ed_tup (eds_cons ed_str (eds_cons (ed_op (ed_var rfl r_head) ed_int fun _ _ => rd_ixT at2) (eds_cons (ed_op (ed_var rfl r_head) ed_int fun _ _ => rd_ixT at1) eds_nil))) (Nat.le_of_ble_eq_true rfl)) (eds_cons (ed_tup (eds_cons ed_str eds_nil) (Nat.le_of_ble_eq_true rfl)) (eds_cons (ed_tup (eds_cons ed_str (eds_cons ed_str (eds_cons (ed_lst (eds_cons (ed_op (ed_var rfl r_head) ed_int fun _ _ => rd_ixT at1) eds_nil) (Nat.le_of_ble_eq_true rfl)) eds_nil))) (Nat.le_of_ble_eq_true rfl)) (eds_cons (ed_tup (eds_cons ed_str (eds_cons ed_int eds_nil)) (Nat.le_of_ble_eq_true rfl)) eds_nil)))) (Nat.le_of_ble_eq_true rfl)) (ed_var rfl rI) fun _ _ => rd_ixL at2) rfl om g hixn fun G12 H12 g s12 om _ ko12 => ?_
        exact ⟨_, rfl, fin (.data "Opt" 1, [x]) G12 H12 (⟨⟨by decide +kernel, by decide⟩, rfl, fun j hj => his j (by simp at hj; simp [hj]), show (1 : Int) ≤ L + 4 + 5 by omega⟩) (fun sz => by simp; omega) g (pk hq ko12) om⟩
      · refine o_putL (d := hdD (.letter 1, [])) rfl (ed_op (ed_lst (eds_cons (ed_tup (eds_cons ed_str (eds_cons (ed_op (ed_var rfl r_head) ed_int fun _ _ => rd_ixT at2) (eds_cons (ed_op (ed_var rfl r_head) ed_int fun _ _ => rd_ixT at1) eds_nil))) (Nat.le_of_ble_eq_true rfl)) (eds_cons (ed_tup (eds_cons ed_str eds_nil) (Nat.le_of_ble_eq_true rfl)) (eds_cons (ed_tup (eds_cons ed_str (eds_cons ed_str (eds_cons (ed_lst (eds_cons (ed_op (ed_var rfl r_head) ed_int fun _ _ => rd_ixT at1) eds_nil) (Nat.le_of_ble_eq_true rfl)) eds_nil))) (Nat.le_of_ble_eq_true rfl)) (eds_cons (ed_tup (eds_cons ed_str (eds_cons ed_int eds_nil)) (Nat.le_of_ble_eq_true rfl)) eds_nil)))) (Nat.le_of_ble_eq_true rfl)) (ed_var rfl rI) fun _ _ => rd_ixL at3) rfl om g hixn fun G12 H12 g s12 om _ ko12 => ?_
        exact ⟨_, rfl, fin (.letter 1, []) G12 H12 (letOk (by decide) (by decide)) (fun sz => Nat.zero_le _) g (pk hq ko12) om⟩
    | letter n =>
      have e : is = [] := List.eq_nil_of_length_eq_zero hl
      subst e
      have r_head : Rp G8 (.tup [.str "letter", .int n]) v7 := r_head
      refine s_seq (s_if' (eb_test (ed_op (ed_op (ed_var rfl r_head) ed_int fun _ _ => rd_ixT at0) ed_str fun _ _ => rd_eq rfl)) g (fun z => nomatch z) fun _ H9 g k9 => ?_)
      refine s_if' (eb_test (ed_op (ed_op (ed_var rfl r_head) ed_int fun _ _ => rd_ixT at0) ed_str fun _ _ => rd_eq rfl)) g (fun z => nomatch z) fun _ H91 g k91 => ?_
      refine s_if' (eb_test (ed_op (ed_op (ed_var rfl r_head) ed_int fun _ _ => rd_ixT at0) ed_str fun _ _ => rd_eq rfl)) g (fun z => nomatch z) fun _ H92 g k92 => ?_
      have om := ((om.kp (Same.refl _) k9).kp (Same.refl _) k91).kp (Same.refl _) k92
      have hq := ((hq.kp k9).kp k91).kp k92
      rcases hturn with rfl | rfl | rfl | rfl
      · refine o_putL (d := hdD (.plain "int", [])) rfl (ed_op (ed_lst (eds_cons (ed_tup (eds_cons ed_str eds_nil) (Nat.le_of_ble_eq_true rfl)) (eds_cons (ed_tup (eds_cons ed_str (eds_cons ed_int eds_nil)) (Nat.le_of_ble_eq_true rfl)) (eds_cons (ed_tup (eds_cons ed_str (eds_cons ed_int eds_nil)) (Nat.le_of_ble_eq_true rfl)) (eds_cons (ed_tup (eds_cons ed_str eds_nil) (Nat.le_of_ble_eq_true rfl)) eds_nil)))) (Nat.le_of_ble_eq_true rfl)) (ed_var rfl rI) fun _ _ => rd_ixL at0) rfl om g hixn fun G12 H12 g s12 om _ ko12 => ?_
        exact ⟨_, rfl, fin (.plain "int", []) G12 H12 (leafOk (by simp [thePlain])) (fun sz => Nat.zero_le _) g (pk hq ko12) om⟩
      · refine o_putL (d := hdD (.letter 0, [])) rfl (ed_op (ed_lst (eds_cons (ed_tup (eds_cons ed_str eds_nil) (Nat.le_of_ble_eq_true rfl)) (eds_cons (ed_tup (eds_cons ed_str (eds_cons ed_int eds_nil)) (Nat.le_of_ble_eq_true rfl)) (eds_cons (ed_tup (eds_cons ed_str (eds_cons ed_int eds_nil)) (Nat.le_of_ble_eq_true rfl)) (eds_cons (ed_tup (eds_cons ed_str eds_nil) (Nat.le_of_ble_eq_true rfl)) eds_nil)))) (Nat.le_of_ble_eq_true rfl)) (ed_var rfl rI) fun _ _ => rd_ixL at1) rfl om g hixn fun G12 H12 g s12 om _ ko12 => ?_
        exact ⟨_, rfl, fin (.letter 0, []) G12 H12 (letOk (by decide) (by decide)) (fun sz => Nat.zero_le _) g (pk hq ko12) om⟩
      · refine o_putL (d := hdD (.letter 3, [])) rfl (ed_op (ed_lst (eds_cons (ed_tup (eds_cons ed_str eds_nil) (Nat.le_of_ble_eq_true rfl)) (eds_cons (ed_tup (eds_cons ed_str (eds_cons ed_int eds_nil)) (Nat.le_of_ble_eq_true rfl)) (eds_cons (ed_tup (eds_cons ed_str (eds_cons ed_int eds_nil)) (Nat.le_of_ble_eq_true rfl)) (eds_cons (ed_tup (eds_cons ed_str eds_nil) (Nat.le_of_ble_eq_true rfl)) eds_nil)))) (Nat.le_of_ble_eq_true rfl)) (ed_var rfl rI) fun _ _ => rd_ixL at2) rfl om g hixn fun G12 H12 g s12 om _ ko12 => ?_
        exact ⟨_, rfl, fin (.letter 3, []) G12 H12 (letOk (by decide) (by decide)) (fun sz => Nat.zero_le _) g (pk hq ko12) om⟩
      · refine o_putL (d := hdD (.plain "unit", [])) rfl (ed_op (ed_lst (eds_cons (ed_tup (eds_cons ed_str eds_nil) (Nat.le_of_ble_eq_true rfl)) (eds_cons (ed_tup (eds_cons ed_str (eds_cons ed_int eds_nil)) (Nat.le_of_ble_eq_true rfl)) (eds_cons (ed_tup (eds_cons ed_str (eds_cons ed_int eds_nil)) (Nat.le_of_ble_eq_true rfl)) (eds_cons (ed_tup (eds_cons ed_str eds_nil) (Nat.le_of_ble_eq_true rfl)) eds_nil)))) (Nat.le_of_ble_eq_true rfl)) (ed_var rfl rI) fun _ _ => rd_ixL at3) rfl om g hixn fun G12 H12 g s12 om _ ko12 => ?_
        exact ⟨_, rfl, fin (.plain "unit", []) G12 H12 (leafOk (by simp [thePlain])) (fun sz => Nat.zero_le _) g (pk hq ko12) om⟩
    | plain xw =>
      obtain ⟨_, n1, n2, n3, n4, _⟩ := plain_word (show xw ∈ thePlain from ha)
      have e : is = [] := List.eq_nil_of_length_eq_zero hl
      subst e
      have r_head : Rp G8 (.tup [.str xw]) v7 := r_head
      refine s_seq (s_if' (((eb_test (ed_op (ed_op (ed_var rfl r_head) ed_int fun _ _ => rd_ixT at0) ed_str fun _ _ => rd_eq rfl)) : Eb _ _ _ _).to (decide_eq_false n2)) g (fun z => nomatch z) fun _ H9 g k9 => ?_)
      refine s_if' (((eb_test (ed_op (ed_op (ed_var rfl r_head) ed_int fun _ _ => rd_ixT at0) ed_str fun _ _ => rd_eq rfl)) : Eb _ _ _ _).to (decide_eq_false n1)) g (fun z => nomatch z) fun _ H91 g k91 => ?_
      refine s_if' (((eb_test (ed_op (ed_op (ed_var rfl r_head) ed_int fun _ _ => rd_ixT at0) ed_str fun _ _ => rd_eq rfl)) : Eb _ _ _ _).to (decide_eq_false n3)) g (fun z => nomatch z) fun _ H92 g k92 => ?_
      have om := ((om.kp (Same.refl _) k9).kp (Same.refl _) k91).kp (Same.refl _) k92
      have hq := ((hq.kp k9).kp k91).kp k92
      rcases hturn with rfl | rfl | rfl | rfl
      · refine o_putL (d := hdD (.plain "int", [])) rfl (ed_op (ed_lst (eds_cons (ed_tup (eds_cons ed_str eds_nil) (Nat.le_of_ble_eq_true rfl)) (eds_cons (ed_tup (eds_cons ed_str (eds_cons ed_int eds_nil)) (Nat.le_of_ble_eq_true rfl)) (eds_cons (ed_tup (eds_cons ed_str (eds_cons ed_int eds_nil)) (Nat.le_of_ble_eq_true rfl)) (eds_cons (ed_tup (eds_cons ed_str eds_nil) (Nat.le_of_ble_eq_true rfl)) eds_nil)))) (Nat.le_of_ble_eq_true rfl)) (ed_var rfl rI) fun _ _ => rd_ixL at0) rfl om g hixn fun G12 H12 g s12 om _ ko12 => ?_
        exact ⟨_, rfl, fin (.plain "int", []) G12 H12 (leafOk (by simp [thePlain])) (fun sz => Nat.zero_le _) g (pk hq ko12) om⟩
      · refine o_putL (d := hdD (.letter 0, [])) rfl (ed_op (ed_lst (eds_cons (ed_tup (eds_cons ed_str eds_nil) (Nat.le_of_ble_eq_true rfl)) (eds_cons (ed_tup (eds_cons ed_str (eds_cons ed_int eds_nil)) (Nat.le_of_ble_eq_true rfl)) (eds_cons (ed_tup (eds_cons ed_str (eds_cons ed_int eds_nil)) (Nat.le_of_ble_eq_true rfl)) (eds_cons (ed_tup (eds_cons ed_str eds_nil) (Nat.le_of_ble_eq_true rfl)) eds_nil)))) (Nat.le_of_ble_eq_true rfl)) (ed_var rfl rI) fun _ _ => rd_ixL at1) rfl om g hixn fun G12 H12 g s12 om _ ko12 => ?_
        exact ⟨_, rfl, fin (.letter 0, []) G12 H12 (letOk (by decide) (by decide)) (fun sz => Nat.zero_le _) g (pk hq ko12) om⟩
      · refine o_putL (d := hdD (.letter 3, [])) rfl (ed_op (ed_lst (eds_cons (ed_tup (eds_cons ed_str eds_nil) (Nat.le_of_ble_eq_true rfl)) (eds_cons (ed_tup (eds_cons ed_str (eds_cons ed_int eds_nil)) (Nat.le_of_ble_eq_true rfl)) (eds_cons (ed_tup (eds_cons ed_str (eds_cons ed_int eds_nil)) (Nat.le_of_ble_eq_true rfl)) (eds_cons (ed_tup (eds_cons ed_str eds_nil) (Nat.le_of_ble_eq_true rfl)) eds_nil)))) (Nat.le_of_ble_eq_true rfl)) (ed_var rfl rI) fun _ _ => rd_ixL at2) rfl om g hixn fun G12 H12 g s12 om _ ko12 => ?_
        exact ⟨_, rfl, fin (.letter 3, []) G12 H12 (letOk (by decide) (by decide)) (fun sz => Nat.zero_le _) g (pk hq ko12) om⟩
      · refine o_putL (d := hdD (.plain "unit", [])) rfl (ed_op (ed_lst (eds_cons (ed_tup (eds_cons ed_str eds_nil) (Nat.le_of_ble_eq_true rfl)) (eds_cons (ed_tup (eds_cons ed_str (eds_cons ed_int eds_nil)) (Nat.le_of_ble_eq_true rfl)) (eds_cons (ed_tup (eds_cons ed_str (eds_cons ed_int eds_nil)) (Nat.le_of_ble_eq_true rfl)) (eds_cons (ed_tup (eds_cons ed_str eds_nil) (Nat.le_of_ble_eq_true rfl)) eds_nil)))) (Nat.le_of_ble_eq_true rfl)) (ed_var rfl rI) fun _ _ => rd_ixL at3) rfl om g hixn fun G12 H12 g s12 om _ ko12 => ?_
        exact ⟨_, rfl, fin (.plain "unit", []) G12 H12 (leafOk (by simp [thePlain])) (fun sz => Nat.zero_le _) g (pk hq ko12) om⟩
    | data sn m =>
      have r_head : Rp G8 (.tup [.str "data", .str sn, .lst (is.map fun i => .int (i : Nat))]) v7 := r_head
      have hm : (m : Int) ≤ L + 5 := ho.lab
      have hl : is.length = m := hl
      have i0 : 0 < i := by
        refine Nat.pos_of_ne_zero fun z => ?_
        rw [z, ha0] at hh
        cases hh
        cases hl0
      refine s_seq (s_if' (eb_test (ed_op (ed_op (ed_var rfl r_head) ed_int fun _ _ => rd_ixT at0) ed_str fun _ _ => rd_eq rfl)) g (fun z => nomatch z) fun _ H9 g k9 => ?_)
      refine s_if' (eb_test (ed_op (ed_op (ed_var rfl r_head) ed_int fun _ _ => rd_ixT at0) ed_str fun _ _ => rd_eq rfl)) g (fun z => nomatch z) fun _ H91 g k91 => ?_
      refine s_if' (eb_test (ed_op (ed_op (ed_var rfl r_head) ed_int fun _ _ => rd_ixT at0) ed_str fun _ _ => rd_eq rfl)) g (fun _ H92 g k92 => ?_) fun z => nomatch z
      have om := ((om.kp (Same.refl _) k9).kp (Same.refl _) k91).kp (Same.refl _) k92
      have hq := ((hq.kp k9).kp k91).kp k92
      have dsum : ∀ sz : Nat → Nat, ((is.drop 1).map sz).sum ≤ (is.map sz).sum + sz 0 := fun sz => by
        cases is with
        | nil => exact Nat.zero_le _
        | cons j is => simp; omega
      rcases hturn with rfl | rfl | rfl | rfl
      · refine o_putL (d := hdD (.data "Opt" 0, [])) rfl (ed_tup (eds_cons ed_str (eds_cons (ed_op (ed_lst (eds_cons ed_str (eds_cons ed_str eds_nil)) (Nat.le_of_ble_eq_true rfl)) (ed_intB (ed_op (ed_var rfl rI) ed_int fun _ _ => rd_I0b)) fun _ _ => rd_ixL at0) (eds_cons (ed_op (ed_lst (eds_cons (ed_lst eds_nil (Nat.le_of_ble_eq_true rfl)) (eds_cons (((ed_slL (ed_op (ed_var rfl r_head) ed_int fun _ _ => rd_ixT at2) (eo_some ed_int) eo_none) : Ed _ _ _ _).to (e := .lst ((is.drop 1).map fun i => D.int (i : Nat))) (by rw [cut1, List.map_drop])) (eds_cons ((ed_op (ed_op (ed_var rfl r_head) ed_int fun _ _ => rd_ixT at2) (ed_lst (eds_cons ed_int eds_nil) (Nat.le_of_ble_eq_true rfl)) fun _ _ => rd_cat (by simp; omega)).to (e := .lst ((is ++ [0]).map fun i => D.int (i : Nat))) (by rw [List.map_append]; rfl)) (eds_cons (ed_op (ed_var rfl r_head) ed_int fun _ _ => rd_ixT at2) eds_nil)))) (Nat.le_of_ble_eq_true rfl)) (ed_var rfl rI) fun _ _ => rd_ixL at0) eds_nil))) (Nat.le_of_ble_eq_true rfl)) rfl om g hixn fun G12 H12 g s12 om _ ko12 => ?_
        exact ⟨_, rfl, fin (.data "Opt" 0, []) G12 H12 (⟨⟨by decide +kernel, by decide⟩, rfl, fun j hj => by simp at hj, show (0 : Int) ≤ L + 4 + 5 by omega⟩) (fun sz => Nat.zero_le _) g (pk hq ko12) om⟩
      · refine o_putL (d := hdD (.data "Opt" (is.drop 1).length, is.drop 1)) rfl (ed_tup (eds_cons ed_str (eds_cons (ed_op (ed_lst (eds_cons ed_str (eds_cons ed_str eds_nil)) (Nat.le_of_ble_eq_true rfl)) (ed_intB (ed_op (ed_var rfl rI) ed_int fun _ _ => rd_I0b)) fun _ _ => rd_ixL at0) (eds_cons (ed_op (ed_lst (eds_cons (ed_lst eds_nil (Nat.le_of_ble_eq_true rfl)) (eds_cons (((ed_slL (ed_op (ed_var rfl r_head) ed_int fun _ _ => rd_ixT at2) (eo_some ed_int) eo_none) : Ed _ _ _ _).to (e := .lst ((is.drop 1).map fun i => D.int (i : Nat))) (by rw [cut1, List.map_drop])) (eds_cons ((ed_op (ed_op (ed_var rfl r_head) ed_int fun _ _ => rd_ixT at2) (ed_lst (eds_cons ed_int eds_nil) (Nat.le_of_ble_eq_true rfl)) fun _ _ => rd_cat (by simp; omega)).to (e := .lst ((is ++ [0]).map fun i => D.int (i : Nat))) (by rw [List.map_append]; rfl)) (eds_cons (ed_op (ed_var rfl r_head) ed_int fun _ _ => rd_ixT at2) eds_nil)))) (Nat.le_of_ble_eq_true rfl)) (ed_var rfl rI) fun _ _ => rd_ixL at1) eds_nil))) (Nat.le_of_ble_eq_true rfl)) rfl om g hixn fun G12 H12 g s12 om _ ko12 => ?_
        exact ⟨_, rfl, fin (.data "Opt" (is.drop 1).length, is.drop 1) G12 H12 (⟨⟨by decide +kernel, by decide⟩, rfl, fun j hj => his j (List.mem_of_mem_drop hj), show (((is.drop 1).length : Nat) : Int) ≤ L + 4 + 5 by rw [List.length_drop]; omega⟩) (fun sz => dsum sz) g (pk hq ko12) om⟩
      · refine o_putL (d := hdD (.data "Xy" (is ++ [0] : List Nat).length, (is ++ [0] : List Nat))) rfl (ed_tup (eds_cons ed_str (eds_cons (ed_op (ed_lst (eds_cons ed_str (eds_cons ed_str eds_nil)) (Nat.le_of_ble_eq_true rfl)) (ed_intB (ed_op (ed_var rfl rI) ed_int fun _ _ => rd_I0b)) fun _ _ => rd_ixL at1) (eds_cons (ed_op (ed_lst (eds_cons (ed_lst eds_nil (Nat.le_of_ble_eq_true rfl)) (eds_cons (((ed_slL (ed_op (ed_var rfl r_head) ed_int fun _ _ => rd_ixT at2) (eo_some ed_int) eo_none) : Ed _ _ _ _).to (e := .lst ((is.drop 1).map fun i => D.int (i : Nat))) (by rw [cut1, List.map_drop])) (eds_cons ((ed_op (ed_op (ed_var rfl r_head) ed_int fun _ _ => rd_ixT at2) (ed_lst (eds_cons ed_int eds_nil) (Nat.le_of_ble_eq_true rfl)) fun _ _ => rd_cat (by simp; omega)).to (e := .lst ((is ++ [0]).map fun i => D.int (i : Nat))) (by rw [List.map_append]; rfl)) (eds_cons (ed_op (ed_var rfl r_head) ed_int fun _ _ => rd_ixT at2) eds_nil)))) (Nat.le_of_ble_eq_true rfl)) (ed_var rfl rI) fun _ _ => rd_ixL at2) eds_nil))) (Nat.le_of_ble_eq_true rfl)) rfl om g hixn fun G12 H12 g s12 om _ ko12 => ?_
        exact ⟨_, rfl, fin (.data "Xy" (is ++ [0] : List Nat).length, (is ++ [0] : List Nat)) G12 H12 (⟨⟨by decide +kernel, by decide⟩, rfl, fun j hj => (by rcases List.mem_append.mp hj with q | q; exact his j q; rw [List.mem_singleton.mp q]; exact i0), show (((is ++ [0] : List Nat).length : Nat) : Int) ≤ L + 4 + 5 by rw [List.length_append, List.length_singleton]; omega⟩) (fun sz => by simp) g (pk hq ko12) om⟩
      · refine o_putL (d := hdD (.data "Xy" is.length, is)) rfl (ed_tup (eds_cons ed_str (eds_cons (ed_op (ed_lst (eds_cons ed_str (eds_cons ed_str eds_nil)) (Nat.le_of_ble_eq_true rfl)) (ed_intB (ed_op (ed_var rfl rI) ed_int fun _ _ => rd_I0b)) fun _ _ => rd_ixL at1) (eds_cons (ed_op (ed_lst (eds_cons (ed_lst eds_nil (Nat.le_of_ble_eq_true rfl)) (eds_cons (((ed_slL (ed_op (ed_var rfl r_head) ed_int fun _ _ => rd_ixT at2) (eo_some ed_int) eo_none) : Ed _ _ _ _).to (e := .lst ((is.drop 1).map fun i => D.int (i : Nat))) (by rw [cut1, List.map_drop])) (eds_cons ((ed_op (ed_op (ed_var rfl r_head) ed_int fun _ _ => rd_ixT at2) (ed_lst (eds_cons ed_int eds_nil) (Nat.le_of_ble_eq_true rfl)) fun _ _ => rd_cat (by simp; omega)).to (e := .lst ((is ++ [0]).map fun i => D.int (i : Nat))) (by rw [List.map_append]; rfl)) (eds_cons (ed_op (ed_var rfl r_head) ed_int fun _ _ => rd_ixT at2) eds_nil)))) (Nat.le_of_ble_eq_true rfl)) (ed_var rfl rI) fun _ _ => rd_ixL at3) eds_nil))) (Nat.le_of_ble_eq_true rfl)) rfl om g hixn fun G12 H12 g s12 om _ ko12 => ?_
        exact ⟨_, rfl, fin (.data "Xy" is.length, is) G12 H12 (⟨⟨by decide +kernel, by decide⟩, rfl, his, show ((is.length : Nat) : Int) ≤ L + 4 + 5 by omega⟩) (fun sz => Nat.le_add_right _ _) g (pk hq ko12) om⟩
end
end K18
set_option maxHeartbeats 4000000
namespace Kd
open PySem PySem.Spec PyProof.Rows L2
theorem o_catN {σ : L2.St} {M : List Addr} {G0 H0 G H : Hp} {Dn : Ends} {te : TE} {l : Addr} {ds es : List D} {i j : Nat} (hv : σ[i]? = some (some (.ref l))) (he : Ed te σ G (.lst es)) (g : Gr M G0 H0 G H) (o : Own H0 G H l ds) (hl : ds.length + es.length ≤ 10000000)
    (k : ∀ l' G' H', Gr M G0 H0 G' H' → Same G G' → Kp G H G' H' → Own H0 G' H' l' (ds ++ es) → H l' = none → Dn.nx (σ.set j (some (.ref l'))) H') : tAsg (tOp rCat (tVar i) te) (gName j) Dn σ H := by
  refine ⟨_, hv, he H g.s _ fun v G1 H1 g1 r1 => ?_⟩
  obtain ⟨b, zs, rfl, hb, hz⟩ := r1
  have o1 := o.kp g1.g g1.kp
  obtain ⟨vs, e, r, hlen⟩ := o1.len
  refine ⟨l, b, vs, zs, rfl, rfl, e, g1.s b _ hb, by rw [hlen, hz.len]; exact Nat.le_trans hl (by decide), fun p hp => ?_⟩
  have gg := g.call g1
  refine k p G1 _ (gg.tmp hp) g1.g ?_ ⟨gg.free hp, gg.gfree hp, vs ++ zs, upd_same, r.app hz⟩ (g1.free hp)
  exact fun a o e => ⟨by rw [upd_ne (ne_of_none (g1.kp a o e).1 hp)]; exact (g1.kp a o e).1, (g1.kp a o e).2⟩
theorem Own.neq {H0 G H : Hp} {l m : Addr} {ds : List D} (o : Own H0 G H m ds) (h : H l = none) : l ≠ m := fun e => by
  obtain ⟨vs, ev, _⟩ := o.e
  rw [← e, h] at ev
  cases ev
end Kd
namespace K18
open PySem PySem.Spec PyProof.Rows L2 Kd
def hasW (u : Tr) (z : Str) : Prop := ∃ r, Nd.func r ∈ lbl u ∧ z ∈ r.ns.map (·.1)
theorem hasW_node {a : Nd} {ks : List Tr} {z : Str} : hasW (.mk a ks) z ↔ ((∃ r, a = .func r ∧ z ∈ r.ns.map (·.1)) ∨ ∃ k ∈ ks, hasW k z) := by
  unfold hasW
  rw [lbl]
  constructor
  · rintro ⟨r, hr, hz⟩
    rcases List.mem_cons.mp hr with e | hr
    · exact .inl ⟨r, e.symm, hz⟩
    · obtain ⟨k, hk, hr⟩ := mem_lblL.mp hr
      exact .inr ⟨k, hk, r, hr, hz⟩
  · rintro (⟨r, rfl, hz⟩ | ⟨k, hk, r, hr, hz⟩)
    · exact ⟨r, by simp, hz⟩
    · exact ⟨r, List.mem_cons_of_mem _ (mem_lblL.mpr ⟨k, hk, hr⟩), hz⟩
theorem hasW_rows {t : Tr} (h : okT id t) (z : Str) : hasW t z ↔ ∃ r ∈ rowsT t, z ∈ r.ns.map (·.1) := by
  unfold hasW
  constructor
  · rintro ⟨r, hr, hz⟩
    exact ⟨r, (rows_lbl h r).mpr ⟨_, hr, rfl⟩, hz⟩
  · rintro ⟨r, hr, hz⟩
    obtain ⟨a, ha, rfl⟩ := (rows_lbl h r).mp hr
    exact ⟨r, ha, hz⟩
def szS (ts : List Tr) : Nat := (ts.map cntT).sum
theorem szS_app (a b : List Tr) : szS (a ++ b) = szS a + szS b := by simp [szS]
theorem szS_cntL : ∀ ks : List Tr, szS ks = cntL ks
  | [] => rfl
  | k :: ks => by
    have := szS_cntL ks
    simp only [szS, List.map_cons, List.sum_cons, cntL] at *
    omega
theorem szS_len : ∀ ts : List Tr, ts.length ≤ szS ts
  | [] => Nat.le_refl _
  | t :: ts => by
    have h1 := szS_len ts
    have h2 := cnt_pos t
    simp only [szS, List.map_cons, List.sum_cons, List.length_cons] at *
    omega
def fstD : D → D
  | .tup [z, _] => z
  | _ => .non
section
variable {P : Program} {w : World} {K : PySem.W.Frag} {mg : Str → Option Value} {base : Heap}
abbrev N_law_flag : List Str := ["row", "word", "other", "flag"]
theorem sc_law_flag : FnScope ["row", "word", "other", "flag"] ["row", "word"] (defScope s_law_flag) := ⟨rfl, rfl, rfl, by decide +kernel, rfl, by decide +kernel, by decide +kernel⟩
theorem ok_law_flag (T : Tx K mg) : Good P w K mg base CX0 "_law_flag" 2 ["row", "word"] (spRel rFlagAt) := by
  obtain ⟨fd, F⟩ := T.f__law_flag
  refine ⟨T.m__law_flag, F.kp, fd, ?_, F.bindsN fun _ _ _ _ _ _ us hl => match us, hl with | [_, _], _ => rfl⟩
  refine F.ok sc_law_flag (fun vs H Q E h => ?_) (fun cdv A outer s H vs Q E hr h => ?_)
  · obtain ⟨G, ds, d, _, r, ⟨x, z, rfl, _⟩, _⟩ := h
    exact r.len
  · obtain ⟨G, ds, d, s0, r, ⟨x, z, rfl, rfl⟩, k⟩ := h
    obtain ⟨v1, _, rfl, r_row, v2, _, rfl, r_word, rfl⟩ := r
    refine ⟨_, PSs.nox ((pss_cons (ps_for PassesOwn.never rfl (pi_list (pe_ix ix_tup (pv 0) pe_int (fun _ _ => rfl))) (pg_tup rfl (pgs_cons (pg_name (i := 2) sc_law_flag.nd rfl (Or.inl rfl)) (pgs_cons (pg_name (i := 3) sc_law_flag.nd rfl (Or.inl rfl)) pgs_nil))) (pss_one (ps_if (pt_cmpR op_eq (pv 2) (pv 1) (nomark _)) (pss_one (ps_ret (pv 3))) pss_nil)))
    (pss_one (ps_ret (pe_tup (pa_cons (pe_ix ix_tup (pv 0) pe_int (fun _ _ => rfl)) (pa_cons (pv 1) pa_nil))))))), ?_⟩
    have g := gr0 (M := []) s0
    refine s_seq (s_for (σ := [some v1, some v2, none, none]) (items := x.ns.map nmD) (es_list (ed_op (ed_var rfl r_row) ed_int fun _ _ => rd_ixT at0)) g (fun i σ G' H' => Same G G' ∧ (∃ o1 o2, σ = [some v1, some v2, o1, o2]) ∧ (x.ns.take i).find? (fun p => decide (p.1 = z)) = none) (fun G' H' g' s' k' => ⟨s', ⟨_, _, rfl⟩, rfl⟩) ?_ ?_)
    · rintro Gs i d v σ Gi Hi Gj Hj hd sg sgi ⟨si, ⟨o1, o2, rfl⟩, hn⟩ gj sj kj rv
      rw [List.getElem?_map] at hd
      obtain ⟨p, hp, rfl⟩ := Option.map_eq_some_iff.mp hd
      refine g_two gj.s rv rfl fun vo vf ro rf => ?_
      refine s_if (eb_test (ed_op (ed_var rfl ro) (ed_var rfl (r_word.mono (si.trans sj))) fun _ _ => rd_eq rfl)) gj (fun hb H2 g2 => ?_) fun hb H2 g2 => ?_
      · refine s_ret (ed_var rfl rf) g2 fun v G' H' g r => k v G' H' g ?_
        have e : x.ns.find? (fun p => decide (p.1 = z)) = some p := by
          rw [← List.take_append_drop i x.ns, List.find?_append, hn]
          have : x.ns.drop i = p :: x.ns.drop (i + 1) := by
            rw [List.drop_eq_getElem_cons (List.getElem?_eq_some_iff.mp hp).1]
            rw [(List.getElem?_eq_some_iff.mp hp).2]
          rw [this, List.find?_cons_of_pos (by exact hb)]
          rfl
        unfold Ro.at
        rw [e]
        exact r
      · refine ⟨Gj, g2, sgi.trans sj, si.trans sj, ⟨_, _, rfl⟩, ?_⟩
        rw [take_snoc hp, List.find?_append, hn, List.find?_cons_of_neg (by rw [hb]; simp)]
        rfl
    · rintro σ G' H' g' s' ⟨si, ⟨o1, o2, rfl⟩, hn⟩
      refine s_ret (ed_tup (eds_cons (ed_op (ed_var rfl (r_row.mono s')) ed_int fun _ _ => rd_ixT at1) (eds_cons (ed_var rfl (r_word.mono s')) eds_nil)) (Nat.le_of_ble_eq_true rfl)) g' fun v G' H' g r => k v G' H' g ?_
      rw [List.length_map, List.take_length] at hn
      unfold Ro.at
      rw [hn]
      exact r
def rLWords : List D → D → Prop := fun ds d => ∃ (t : Tr), ds = [tD id t] ∧ okT id t ∧ cntT t ≤ 500000 ∧ ∃ zs : List Str, d = .lst (zs.map .str)
def spLWords : Sp := fun vs H Q _ => ∃ (G : Hp) (t : Tr) (v1 : V), vs = [v1] ∧ Same G H ∧ Rp G (tD id t) v1 ∧ okT id t ∧ cntT t ≤ 500000 ∧ ∀ (zs : List Str) v G' H', Gp G H G' H' → Rp G' (.lst (zs.map .str)) v → zs.length ≤ 6 * cntT t → (∀ z, z ∈ zs ↔ hasW t z) → Q v H'
abbrev N_law_words : List Str := ["kind", "words", "waiting", "step", "one", "word", "flag"]
theorem sc_law_words : FnScope ["kind", "words", "waiting", "step", "one", "word", "flag"] ["kind"] (defScope s_law_words) := ⟨rfl, rfl, rfl, by decide +kernel, rfl, by decide +kernel, by decide +kernel⟩
theorem ok_law_words (T : Tx K mg) : Good P w K mg base CX0 "_law_words" 2 ["kind"] spLWords := by
  obtain ⟨fd, F⟩ := T.f__law_words
  refine ⟨T.m__law_words, F.kp, fd, ?_, F.bindsN fun _ _ _ _ _ _ us hl => match us, hl with | [_], _ => rfl⟩
  refine F.ok sc_law_words (fun vs H Q E h => ?_) (fun cdv A outer s H vs Q E hr h => ?_)
  · obtain ⟨G, t, v1, rfl, _⟩ := h
    rfl
  · obtain ⟨G, t, v1, rfl, s0, r_kind, hok, hct, k⟩ := h
    refine ⟨_, PSs.nox ((pss_cons (ps_par (i := 1) (j := 2) (by rfl) sc_law_words.nd rfl rfl (by decide) rfl rfl (pa_cons (pe_lst pa_nil) (pa_cons (pe_lst (pa_cons (pv 0) pa_nil)) pa_nil)) (by rfl))
    (pss_cons (ps_for PassesOwn.never rfl (pi_range1 (by rfl) T.n_range (pa_cons (pe_op op_pow pe_int pe_int) pa_nil)) (pg_name (i := 3) sc_law_words.nd rfl (Or.inl rfl)) (pss_cons (ps_if (pt_cmpR (op_eqNil hr.units) (pv 2) (pe_lst pa_nil) (nomark _)) (pss_one ps_break) pss_nil)
    (pss_cons (ps_set (i := 4) sc_law_words.nd rfl (Or.inl rfl) (pe_bm0 PySem.F.plainAttrs_list PySem.F.slot_list_pop PySem.F.type_list_pop mt_pop (pv 2)))
    (pss_one (ps_if (pt_cmpR op_eq (pe_ix ix_tup (pv 4) pe_int (fun _ _ => rfl)) pe_str (nomark _)) (pss_cons (ps_set (i := 1) sc_law_words.nd rfl (Or.inl rfl) (pe_op op_cat (pv 1) (pe_lc (own := [("word", 5), ("flag", 6)]) rfl sc_law_words.nd (pi_list (pe_ix ix_tup (pe_ix ix_tup (pv 4) pe_int (fun _ _ => rfl)) pe_int (fun _ _ => rfl))) (blkOk_by (own := [("word", 5), ("flag", 6)]) (N := ["kind", "words", "waiting", "step", "one", "word", "flag"]) (sc := defScope s_law_words) (by decide +kernel)) (fun _ _ _ _ _ => by exact (pgK_tup (K := K) (n := 2) rfl rfl (pgs_cons (pg_name (i := 5) sc_law_words.nd rfl (Or.inl rfl)) (pgs_cons (pg_name (i := 6) sc_law_words.nd rfl (Or.inl rfl)) pgs_nil)))) (fun _ _ _ _ _ => by exact pts_nil) (fun _ _ _ _ _ => by exact (pv 5)))))
    (pss_one (ps_set (i := 2) sc_law_words.nd rfl (Or.inl rfl) (pe_op op_cat (pv 2) (pe_lst (pa_cons (pe_ix ix_tup (pv 4) pe_int (fun _ _ => rfl)) (pa_cons (pe_ix ix_tup (pv 4) pe_int (fun _ _ => rfl)) pa_nil))))))) (pss_one (ps_if (pt_cmpR op_eq (pe_ix ix_tup (pv 4) pe_int (fun _ _ => rfl)) pe_str (nomark _)) (pss_one (ps_set (i := 2) sc_law_words.nd rfl (Or.inl rfl) (pe_op op_cat (pv 2) (pe_lst (pa_cons (pe_ix ix_tup (pv 4) pe_int (fun _ _ => rfl)) (pa_cons (pe_ix ix_tup (pv 4) pe_int (fun _ _ => rfl)) pa_nil)))))) (pss_one (ps_if (pt_cmpR op_eq (pe_ix ix_tup (pv 4) pe_int (fun _ _ => rfl)) pe_str (nomark _)) (pss_one (ps_set (i := 2) sc_law_words.nd rfl (Or.inl rfl) (pe_op op_cat (pv 2) (pe_ix ix_tup (pv 4) pe_int (fun _ _ => rfl))))) pss_nil)))))))))
    (pss_one (ps_ret (pv 1)))))), ?_⟩
    have g := gr0 (M := []) s0
    have rI : ∀ {G'} {x : Int}, Rp G' (.int x) (.int x) := rfl
    refine s_seq (o_parNN eds_nil (eds_cons (ed_var rfl r_kind) eds_nil) (Nat.zero_le _) (Nat.le_of_ble_eq_true rfl) g fun la lw G1 H1 g s1 k1 oa ow nlw _ => ?_)
    dsimp only
    refine s_seq (s_for (σ := [some v1, some (.ref la), some (.ref lw), none, none, none, none]) (items := (List.range ((10 : Int) ^ (9 : Int).toNat).toNat).map fun i => .int ((0 : Int) + (i : Nat))) (es_range1 (ed_op ed_int ed_int fun _ _ => rd_Ii ⟨by decide, by decide, by decide⟩) (by decide) (by decide)) g (fun i σ G' H' => ∃ (la lw : Addr) (zs : List Str) (ts : List Tr) (o3 o4 : Option V), σ = [some v1, some (.ref la), some (.ref lw), o3, o4, none, none] ∧ la ≠ lw ∧ Own H G' H' la (zs.map .str) ∧ Own H G' H' lw (ts.map (tD id)) ∧ (∀ u ∈ ts, okT id u) ∧ szS ts + i ≤ cntT t ∧ zs.length + 6 * szS ts ≤ 6 * cntT t ∧ ∀ z, hasW t z ↔ (z ∈ zs ∨ ∃ u ∈ ts, hasW u z)) (fun G' H' g' s' k' => ⟨la, lw, [], [t], _, _, rfl, nlw, oa.kp s' k', ow.kp s' k', fun u hu => by rw [List.mem_singleton.mp hu]; exact hok, by simp [szS], by simp [szS], fun z => by simp⟩) ?_ ?_)
    · rintro Gs i d v σ Gi Hi Gj Hj hd sg sgi ⟨la, lw, zs, ts, o3, o4, rfl, nlw, oa, ow, hts, hsz, hzl, hW⟩ g sj kj rv
      have oa := oa.kp sj kj
      have ow := ow.kp sj kj
      have sg := sgi.trans sj
      have fin : ∀ (zs : List Str), zs.length ≤ 6 * cntT t → (∀ z, hasW t z ↔ z ∈ zs) → ∀ {Gz Hz : Hp}, Gr [] G H Gz Hz → Own H Gz Hz la (zs.map .str) → Q (.ref la) Hz := by
        intro zs h1 h2 Gz Hz gz oz
        obtain ⟨G9, g9, s9, r9, _⟩ := oz.frz gz
        exact k zs _ G9 Hz g9 r9 h1 fun z => (h2 z).symm
      refine s_seq (s_ifH (b := (ts.map (tD id)).isEmpty) (ow.eb g.s fun Gx s r => (eb_test (ed_op (ed_var rfl r) (ed_lst eds_nil (Nat.zero_le _)) fun _ _ => rd_eqNil)).to (by simp)) g (fun hb H2 g k2 => ?_) fun hb H2 g k2 => ?_)
      · have oa := oa.kp (Same.refl _) k2
        have : ts = [] := by cases ts with | nil => rfl | cons a b => cases hb
        subst this
        exact ⟨_, rfl, fin zs (by omega) (fun z => (hW z).trans ⟨fun h => h.elim id fun ⟨u, hu, _⟩ => (by simp at hu), .inl⟩) g oa⟩
      have oa := oa.kp (Same.refl _) k2
      have ow := ow.kp (Same.refl _) k2
      rcases nil_or_snoc ts with rfl | ⟨ts, u, rfl⟩
      · cases hb
      have hu := hts u (by simp)
      have hts' : ∀ u ∈ ts, okT id u := fun x hx => hts x (by simp [hx])
      obtain ⟨a, ks⟩ := u
      have e1 : szS (ts ++ [Tr.mk a ks]) = szS ts + (cntL ks + 1) := by rw [szS_app]; simp [szS, cntT]
      rw [e1] at hsz hzl
      have hlt := szS_len ts
      have hkl := szS_len ks
      rw [szS_cntL] at hkl
      obtain ⟨ha, hl, hks⟩ := hu
      have ha : okNd a := ha
      have hl : ks.length = a.many := hl
      simp only [tNext]
      refine s_seq (o_pop (d := tD id (.mk a ks)) (ds := ts.map (tD id)) rfl g (by rw [List.map_append] at ow; exact ow) fun vo H3 g ow2 ks3 ko r_one => ?_)
      have oa := ks3 la _ nlw oa
      have r_one : Rp Gj (build a (ks.map (tD id))) vo := by rw [kD_mk] at r_one; exact r_one
      have next : ∀ (la lw : Addr) (xs : List Str) (Gz Hz : Hp) (o3 o4 : Option V), la ≠ lw → Gr [] G H Gz Hz → Same Gj Gz → Own H Gz Hz la ((zs ++ xs).map .str) → Own H Gz Hz lw ((ts ++ ks).map (tD id)) → xs.length ≤ 6 → (∀ z, z ∈ xs ↔ ∃ r, a = .func r ∧ z ∈ r.ns.map (·.1)) →
          ∃ G', Gr [] G H G' Hz ∧ Same Gs G' ∧ ∃ (la' lw' : Addr) (zs : List Str) (ts : List Tr) (o3' o4' : Option V), [some v1, some (.ref la), some (.ref lw), o3, o4, none, none] = [some v1, some (.ref la'), some (.ref lw'), o3', o4', none, none] ∧ la' ≠ lw' ∧ Own H G' Hz la' (zs.map .str) ∧ Own H G' Hz lw' (ts.map (tD id)) ∧ (∀ u ∈ ts, okT id u) ∧ szS ts + (i + 1) ≤ cntT t ∧ zs.length + 6 * szS ts ≤ 6 * cntT t ∧ ∀ z, hasW t z ↔ (z ∈ zs ∨ ∃ u ∈ ts, hasW u z) := by
        intro la lw xs Gz Hz o3 o4 nn gz sz oaz owz hx hxz
        have e2 : szS (ts ++ ks) = szS ts + cntL ks := by rw [szS_app, szS_cntL ks]
        refine ⟨Gz, gz, sg.trans sz, la, lw, zs ++ xs, ts ++ ks, _, _, rfl, nn, oaz, owz, fun x hx => ?_, by omega, by rw [List.length_append]; omega, fun z => ?_⟩
        · rcases List.mem_append.mp hx with q | q
          · exact hts' x q
          · exact hks x q
        · rw [hW, List.mem_append, hxz]
          constructor
          · rintro (h | ⟨x, hx, h⟩)
            · exact .inl (.inl h)
            · rcases List.mem_append.mp hx with q | q
              · exact .inr ⟨x, List.mem_append_left _ q, h⟩
              · rw [List.mem_singleton.mp q, hasW_node] at h
                rcases h with h | ⟨y, hy, h⟩
                · exact .inl (.inr h)
                · exact .inr ⟨y, List.mem_append_right _ hy, h⟩
          · rintro ((h | h) | ⟨x, hx, h⟩)
            · exact .inl h
            · exact .inr ⟨.mk a ks, by simp, hasW_node.mpr (.inl h)⟩
            · rcases List.mem_append.mp hx with q | q
              · exact .inr ⟨x, List.mem_append_left _ q, h⟩
              · exact .inr ⟨.mk a ks, by simp, hasW_node.mpr (.inr ⟨x, q, h⟩)⟩
      have hlen1 : (ts.map (tD id)).length ≤ 500000 := by rw [List.length_map]; omega
      simp only [tNext]
      cases a with
      | func r =>
        obtain ⟨x, y, rfl⟩ : ∃ x y, ks = [x, y] := match ks, hl with | [x, y], _ => ⟨x, y, rfl⟩
        have r_one : Rp Gj (.tup [.str "fun", tD id x, .tup [.lst (r.ns.map nmD), .int r.t], tD id y]) vo := r_one
        have hrl := okRo.len ha
        refine s_if' ((eb_test (ed_op (ed_op (ed_var rfl r_one) ed_int fun _ _ => rd_ixT at0) ed_str fun _ _ => rd_eq rfl)) : Eb _ _ _ _) g (fun _ H4 g k4 => ?_) fun z => nomatch z
        have oa := oa.kp (Same.refl _) k4
        have ow := ow2.kp (Same.refl _) k4
        refine s_seq (o_catN (es := (r.ns.map (·.1)).map .str) rfl ((ed_lcAll (items := r.ns.map nmD) fstD (es_list (ed_op (ed_op (ed_var rfl r_one) ed_int fun _ _ => rd_ixT at2) ed_int fun _ _ => rd_ixT at0)) (by rw [List.length_map]; omega) ?_).to (by rw [List.map_map, List.map_map]; rfl)) g oa (by rw [List.length_map, List.length_map, List.length_map]; omega) fun l5 G5 H5 g s5 k5 oa5 hn5 => ?_)
        · intro d hd G' s'
          obtain ⟨q, hq, rfl⟩ := List.mem_map.mp hd
          exact tk_tup rfl (tkl_cons fun u hu => tkl_cons fun u' hu' => tkl_nil ⟨rfl, ed_var rfl hu⟩)
        have ow := ow.kp s5 k5
        have r_one := r_one.mono s5
        simp only [tNext]
        refine o_catN (es := [tD id x, tD id y]) rfl (ed_lst (eds_cons (ed_op (ed_var rfl r_one) ed_int fun _ _ => rd_ixT at1) (eds_cons (ed_op (ed_var rfl r_one) ed_int fun _ _ => rd_ixT at3) eds_nil)) (Nat.le_of_ble_eq_true rfl)) g ow (by simp at hlen1 ⊢; omega) fun l6 G6 H6 g s6 k6 ow6 hn6 => ?_
        exact next l5 l6 (r.ns.map (·.1)) G6 H6 _ _ (Ne.symm (oa5.neq hn6)) g (s5.trans s6) (by rw [List.map_append]; exact oa5.kp s6 k6) (by rw [List.map_append]; exact ow6) (by rw [List.length_map]; exact hrl) fun z => ⟨fun h => ⟨r, rfl, h⟩, fun ⟨r2, e, h⟩ => by cases e; exact h⟩
      | pair =>
        obtain ⟨x, y, rfl⟩ : ∃ x y, ks = [x, y] := match ks, hl with | [x, y], _ => ⟨x, y, rfl⟩
        have r_one : Rp Gj (.tup [.str "pair", tD id x, tD id y]) vo := r_one
        refine s_if' ((eb_test (ed_op (ed_op (ed_var rfl r_one) ed_int fun _ _ => rd_ixT at0) ed_str fun _ _ => rd_eq rfl)) : Eb _ _ _ _) g (fun z => nomatch z) fun _ H4 g k4 => ?_
        refine s_if' ((eb_test (ed_op (ed_op (ed_var rfl r_one) ed_int fun _ _ => rd_ixT at0) ed_str fun _ _ => rd_eq rfl)) : Eb _ _ _ _) g (fun _ H41 g k41 => ?_) fun z => nomatch z
        have oa := (oa.kp (Same.refl _) k4).kp (Same.refl _) k41
        have ow := (ow2.kp (Same.refl _) k4).kp (Same.refl _) k41
        refine o_catN (es := [tD id x, tD id y]) rfl (ed_lst (eds_cons (ed_op (ed_var rfl r_one) ed_int fun _ _ => rd_ixT at1) (eds_cons (ed_op (ed_var rfl r_one) ed_int fun _ _ => rd_ixT at2) eds_nil)) (Nat.le_of_ble_eq_true rfl)) g ow (by simp at hlen1 ⊢; omega) fun l6 G6 H6 g s6 k6 ow6 hn6 => ?_
        exact next la l6 [] G6 H6 _ _ (Ne.symm (oa.neq hn6)) g s6 (by rw [List.append_nil]; exact oa.kp s6 k6) (by rw [List.map_append]; exact ow6) (Nat.zero_le _) fun z => ⟨fun h => by simp at h, fun ⟨r2, e, h⟩ => nomatch e⟩
      | data s m =>
        have r_one : Rp Gj (.tup [.str "data", .str s, .lst (ks.map (tD id))]) vo := r_one
        refine s_if' ((eb_test (ed_op (ed_op (ed_var rfl r_one) ed_int fun _ _ => rd_ixT at0) ed_str fun _ _ => rd_eq rfl)) : Eb _ _ _ _) g (fun z => nomatch z) fun _ H4 g k4 => ?_
        refine s_if' ((eb_test (ed_op (ed_op (ed_var rfl r_one) ed_int fun _ _ => rd_ixT at0) ed_str fun _ _ => rd_eq rfl)) : Eb _ _ _ _) g (fun z => nomatch z) fun _ H41 g k41 => ?_
        refine s_if' ((eb_test (ed_op (ed_op (ed_var rfl r_one) ed_int fun _ _ => rd_ixT at0) ed_str fun _ _ => rd_eq rfl)) : Eb _ _ _ _) g (fun _ H42 g k42 => ?_) fun z => nomatch z
        have oa := ((oa.kp (Same.refl _) k4).kp (Same.refl _) k41).kp (Same.refl _) k42
        have ow := ((ow2.kp (Same.refl _) k4).kp (Same.refl _) k41).kp (Same.refl _) k42
        refine o_catN (es := ks.map (tD id)) rfl (ed_op (ed_var rfl r_one) ed_int fun _ _ => rd_ixT at2) g ow (by rw [List.length_map (as := ks)]; omega) fun l6 G6 H6 g s6 k6 ow6 hn6 => ?_
        exact next la l6 [] G6 H6 _ _ (Ne.symm (oa.neq hn6)) g s6 (by rw [List.append_nil]; exact oa.kp s6 k6) (by rw [List.map_append]; exact ow6) (Nat.zero_le _) fun z => ⟨fun h => by simp at h, fun ⟨r2, e, h⟩ => nomatch e⟩
      | letter n =>
        have e : ks = [] := List.eq_nil_of_length_eq_zero hl
        subst e
        have r_one : Rp Gj (.tup [.str "letter", .int n]) vo := r_one
        refine s_if' ((eb_test (ed_op (ed_op (ed_var rfl r_one) ed_int fun _ _ => rd_ixT at0) ed_str fun _ _ => rd_eq rfl)) : Eb _ _ _ _) g (fun z => nomatch z) fun _ H4 g k4 => ?_
        refine s_if' ((eb_test (ed_op (ed_op (ed_var rfl r_one) ed_int fun _ _ => rd_ixT at0) ed_str fun _ _ => rd_eq rfl)) : Eb _ _ _ _) g (fun z => nomatch z) fun _ H41 g k41 => ?_
        refine s_if' ((eb_test (ed_op (ed_op (ed_var rfl r_one) ed_int fun _ _ => rd_ixT at0) ed_str fun _ _ => rd_eq rfl)) : Eb _ _ _ _) g (fun z => nomatch z) fun _ H42 g k42 => ?_
        have oa := ((oa.kp (Same.refl _) k4).kp (Same.refl _) k41).kp (Same.refl _) k42
        have ow := ((ow2.kp (Same.refl _) k4).kp (Same.refl _) k41).kp (Same.refl _) k42
        exact next la lw [] Gj _ _ _ nlw g (Same.refl _) (by rw [List.append_nil]; exact oa) (by rw [List.append_nil]; exact ow) (Nat.zero_le _) fun z => ⟨fun h => by simp at h, fun ⟨r2, e, h⟩ => nomatch e⟩
      | plain xw =>
        obtain ⟨_, n1, n2, n3, n4, _⟩ := plain_word (show xw ∈ thePlain from ha)
        have e : ks = [] := List.eq_nil_of_length_eq_zero hl
        subst e
        have r_one : Rp Gj (.tup [.str xw]) vo := r_one
        refine s_if' (((eb_test (ed_op (ed_op (ed_var rfl r_one) ed_int fun _ _ => rd_ixT at0) ed_str fun _ _ => rd_eq rfl)) : Eb _ _ _ _).to (decide_eq_false n2)) g (fun z => nomatch z) fun _ H4 g k4 => ?_
        refine s_if' (((eb_test (ed_op (ed_op (ed_var rfl r_one) ed_int fun _ _ => rd_ixT at0) ed_str fun _ _ => rd_eq rfl)) : Eb _ _ _ _).to (decide_eq_false n1)) g (fun z => nomatch z) fun _ H41 g k41 => ?_
        refine s_if' (((eb_test (ed_op (ed_op (ed_var rfl r_one) ed_int fun _ _ => rd_ixT at0) ed_str fun _ _ => rd_eq rfl)) : Eb _ _ _ _).to (decide_eq_false n3)) g (fun z => nomatch z) fun _ H42 g k42 => ?_
        have oa := ((oa.kp (Same.refl _) k4).kp (Same.refl _) k41).kp (Same.refl _) k42
        have ow := ((ow2.kp (Same.refl _) k4).kp (Same.refl _) k41).kp (Same.refl _) k42
        exact next la lw [] Gj _ _ _ nlw g (Same.refl _) (by rw [List.append_nil]; exact oa) (by rw [List.append_nil]; exact ow) (Nat.zero_le _) fun z => ⟨fun h => by simp at h, fun ⟨r2, e, h⟩ => nomatch e⟩
    · rintro σ G' H' g s' ⟨la, lw, zs, ts, o3, o4, rfl, nlw, oa, ow, hts, hsz, hzl, hW⟩
      exfalso
      rw [List.length_map, List.length_range] at hsz
      have e : ((10 : Int) ^ (9 : Int).toNat).toNat = 1000000000 := by decide
      omega
end
end K18
set_option maxHeartbeats 4000000
namespace K18
open PySem PySem.Spec PyProof.Rows L2 Kd
theorem noDctL_mem {d : D} : ∀ {ds : List D}, noDctL ds = true → d ∈ ds → noDct d = true
  | e :: ds, h, hm => by
    have h : (noDct e && noDctL ds) = true := h
    rw [Bool.and_eq_true] at h
    rcases List.mem_cons.mp hm with rfl | hm
    · exact h.1
    · exact noDctL_mem h.2 hm
theorem noDctL_all : ∀ {ds : List D}, (∀ d ∈ ds, noDct d = true) → noDctL ds = true
  | [], _ => rfl
  | d :: ds, h => by
    show (noDct d && noDctL ds) = true
    rw [h d (by simp), noDctL_all fun e he => h e (by simp [he])]
    rfl
def kids : D → List D
  | .tup ds => ds
  | .lst ds => ds
  | _ => []
def isSeq : D → Bool
  | .tup _ => true
  | .lst _ => true
  | _ => false
theorem szL_kids (d : D) : szL (kids d) + 1 ≤ szD d := by cases d <;> simp [kids, szD, szL]
theorem noDct_kids {d : D} (h : noDct d = true) : ∀ x ∈ kids d, noDct x = true := by
  cases d with
  | tup ds => exact fun x hx => noDctL_mem h hx
  | lst ds => exact fun x hx => noDctL_mem h hx
  | _ => intro x hx; simp [kids] at hx
theorem ed_lenK {σ : L2.St} {G : Hp} {te : TE} {d : D} {K : PySem.W.Frag} (hk : isSeq d = true) (h : Ed te σ G d) : Ed (tCB (fun xs H Q => ∃ p ys, xs = [.ref p] ∧ (SqL K H p ys ∨ SqT K H p ys) ∧ Q (.int ys.length) H) (tCons te tNil)) σ G (.int (kids d).length) := by
  cases d with
  | tup ds => exact ed_lenT h
  | lst ds => exact ed_lenL h
  | _ => cases hk
theorem rd_ixK {G : Hp} {d z : D} {i : Int} {K : PySem.W.Frag} (hk : isSeq d = true) (h : atI (kids d) i = some z) : Rd2 (rIx K) G d (.int i) z := fun x y H s r1 r2 Q q => by
  cases d with
  | tup ds => exact .inr (.inl (rd_ixT h x y H s r1 r2 Q q))
  | lst ds => exact .inl (rd_ixL h x y H s r1 r2 Q q)
  | _ => cases hk
theorem ix_seqK {X : Cx} {K : PySem.W.Frag} (h : X.K = K) : IxR X (rIx K) := h ▸ ix_seq
theorem range_getD {α : Type} (l : List α) (d : α) : (List.range l.length).map (fun j => l.getD j d) = l := by
  refine List.ext_getElem (by simp) fun i h1 h2 => ?_
  rw [List.getElem_map, List.getElem_range, List.getD_eq_getElem?_getD, List.getElem?_eq_getElem h2]
  rfl
abbrev P2 := D × D
def p2D (p : P2) : D := .tup [p.1, p.2]
def zipK (x y : D) : List P2 := (List.range (kids y).length).map fun j => ((kids x).getD j .non, (kids y).getD j .non)
theorem zipK_snd (x y : D) : (zipK x y).map (·.2) = kids y := by
  unfold zipK
  rw [List.map_map]
  exact range_getD _ _
theorem zipK_fst {x y : D} (h : (kids x).length = (kids y).length) : (zipK x y).map (·.1) = kids x := by
  unfold zipK
  rw [List.map_map, ← h]
  exact range_getD _ _
theorem zipK_eq {x y : D} (h : (kids x).length = (kids y).length) : kids x = kids y ↔ ∀ p ∈ zipK x y, p.1 = p.2 := by
  constructor
  · intro e p hp
    obtain ⟨j, _, rfl⟩ := List.mem_map.mp hp
    show (kids x).getD j .non = (kids y).getD j .non
    rw [e]
  · intro e
    rw [← zipK_fst h, ← zipK_snd x y]
    exact List.map_congr_left e
section
variable {P : Program} {w : World} {K : PySem.W.Frag} {mg : Str → Option Value} {base : Heap}
def rSame : List D → D → Prop := fun ds d => ∃ (x y : D) (b : Bool), ds = [x, y] ∧ noDct x = true ∧ noDct y = true ∧ szD y ≤ 5000000 ∧ d = .bl b ∧ (b = true ↔ x = y)
abbrev N_law_same : List Str := ["one", "other", "waiting", "step", "told", "due", "k"]
theorem sc_law_same : FnScope ["one", "other", "waiting", "step", "told", "due", "k"] ["one", "other"] (defScope s_law_same) := ⟨rfl, rfl, rfl, by decide +kernel, rfl, by decide +kernel, by decide +kernel⟩
theorem ok_law_same (T : Tx K mg) : Good P w K mg base CX0 "_law_same" 3 ["one", "other"] (spRel rSame) := by
  obtain ⟨fd, F⟩ := T.f__law_same
  refine ⟨T.m__law_same, F.kp, fd, ?_, F.bindsN fun _ _ _ _ _ _ us hl => match us, hl with | [_, _], _ => rfl⟩
  refine F.ok sc_law_same (fun vs H Q E h => ?_) (fun cdv A outer s H vs Q E hr h => ?_)
  · obtain ⟨G, ds, d, _, r, ⟨x, y, b, rfl, _⟩, _⟩ := h
    exact r.len
  · obtain ⟨G, ds, d, s0, r, ⟨x, y, b, rfl, hx, hy, hz, rfl, hb⟩, k⟩ := h
    obtain ⟨v1, _, rfl, r_one, v2, _, rfl, r_other, rfl⟩ := r
    refine ⟨_, PSs.nox ((pss_cons (ps_set (i := 2) sc_law_same.nd rfl (Or.inl rfl) (pe_lst (pa_cons (pe_tup (pa_cons (pv 0) (pa_cons (pv 1) pa_nil))) pa_nil)))
    (pss_cons (ps_for PassesOwn.never rfl (pi_range1 (by rfl) T.n_range (pa_cons (pe_op op_pow pe_int pe_int) pa_nil)) (pg_name (i := 3) sc_law_same.nd rfl (Or.inl rfl)) (pss_cons (ps_if (pt_cmpR (op_eqNil hr.units) (pv 2) (pe_lst pa_nil) (nomark _)) (pss_one (ps_ret pe_bl)) pss_nil)
    (pss_cons (ps_asg (pe_bm0 PySem.F.plainAttrs_list PySem.F.slot_list_pop PySem.F.type_list_pop mt_pop (pv 2)) (pg_tup rfl (pgs_cons (pg_name (i := 4) sc_law_same.nd rfl (Or.inr rfl)) (pgs_cons (pg_name (i := 5) sc_law_same.nd rfl (Or.inr rfl)) pgs_nil))))
    (pss_one (ps_if (pt_cmpR op_isN (pv 5) pe_non (nomark _)) (pss_one (ps_if (pt_cmpR op_notN (pv 4) pe_non (nomark _)) (pss_one (ps_ret pe_bl)) pss_nil)) (pss_one (ps_if (pt_val (pe_callB call_isi (by rfl) T.n_isinstance (by decide +kernel) (pa_cons (pv 5) (pa_cons (pe_bltn (v := .ty "bool") rfl T.n_bool (by decide +kernel) rfl) pa_nil)))) (pss_one (ps_if (PW.pt (pw_or (pt_not (pt_val (pe_callB call_isi (by rfl) T.n_isinstance (by decide +kernel) (pa_cons (pv 4) (pa_cons (pe_bltn (v := .ty "bool") rfl T.n_bool (by decide +kernel) rfl) pa_nil))))) (pw_or1 (pt_cmpR op_ne (pv 4) (pv 5) (nomark _))))) (pss_one (ps_ret pe_bl)) pss_nil)) (pss_one (ps_if (pt_val (pe_callB call_isi (by rfl) T.n_isinstance (by decide +kernel) (pa_cons (pv 5) (pa_cons (pe_bltn (v := .ty "int") rfl T.n_int (by decide +kernel) rfl) pa_nil)))) (pss_one (ps_if (PW.pt (pw_or (pt_not (pt_val (pe_callB call_isi (by rfl) T.n_isinstance (by decide +kernel) (pa_cons (pv 4) (pa_cons (pe_bltn (v := .ty "int") rfl T.n_int (by decide +kernel) rfl) pa_nil))))) (pw_or (pt_val (pe_callB call_isi (by rfl) T.n_isinstance (by decide +kernel) (pa_cons (pv 4) (pa_cons (pe_bltn (v := .ty "bool") rfl T.n_bool (by decide +kernel) rfl) pa_nil)))) (pw_or1 (pt_cmpR op_ne (pv 4) (pv 5) (nomark _)))))) (pss_one (ps_ret pe_bl)) pss_nil)) (pss_one (ps_if (pt_val (pe_callB call_isi (by rfl) T.n_isinstance (by decide +kernel) (pa_cons (pv 5) (pa_cons (pe_bltn (v := .ty "str") rfl T.n_str (by decide +kernel) rfl) pa_nil)))) (pss_one (ps_if (PW.pt (pw_or (pt_not (pt_val (pe_callB call_isi (by rfl) T.n_isinstance (by decide +kernel) (pa_cons (pv 4) (pa_cons (pe_bltn (v := .ty "str") rfl T.n_str (by decide +kernel) rfl) pa_nil))))) (pw_or1 (pt_cmpR op_ne (pv 4) (pv 5) (nomark _))))) (pss_one (ps_ret pe_bl)) pss_nil)) (pss_one (ps_if (PW.pt (pw_or (PW.pt (pw_and (pt_val (pe_callB call_isi (by rfl) T.n_isinstance (by decide +kernel) (pa_cons (pv 5) (pa_cons (pe_bltn (v := .ty "list") rfl T.n_list (by decide +kernel) rfl) pa_nil)))) (pw_and1 (pt_not (pt_val (pe_callB call_isi (by rfl) T.n_isinstance (by decide +kernel) (pa_cons (pv 4) (pa_cons (pe_bltn (v := .ty "list") rfl T.n_list (by decide +kernel) rfl) pa_nil)))))))) (pw_or1 (PW.pt (pw_and (pt_val (pe_callB call_isi (by rfl) T.n_isinstance (by decide +kernel) (pa_cons (pv 5) (pa_cons (pe_bltn (v := .ty "tuple") rfl T.n_tuple (by decide +kernel) rfl) pa_nil)))) (pw_and1 (pt_not (pt_val (pe_callB call_isi (by rfl) T.n_isinstance (by decide +kernel) (pa_cons (pv 4) (pa_cons (pe_bltn (v := .ty "tuple") rfl T.n_tuple (by decide +kernel) rfl) pa_nil))))))))))) (pss_one (ps_ret pe_bl)) (pss_one (ps_if (pt_cmpR op_ne (pe_callB call_len_seq (by rfl) T.n_len PySem.boot_len (pa_cons (pv 4) pa_nil)) (pe_callB call_len_seq (by rfl) T.n_len PySem.boot_len (pa_cons (pv 5) pa_nil)) (nomark _)) (pss_one (ps_ret pe_bl)) (pss_one (ps_set (i := 2) sc_law_same.nd rfl (Or.inl rfl) (pe_op op_cat (pv 2) (pe_lc (own := [("k", 6)]) rfl sc_law_same.nd (pi_range1 (by rfl) T.n_range (pa_cons (pe_callB call_len_seq (by rfl) T.n_len PySem.boot_len (pa_cons (pv 5) pa_nil)) pa_nil)) (blkOk_by (own := [("k", 6)]) (N := ["one", "other", "waiting", "step", "told", "due", "k"]) (sc := defScope s_law_same) (by decide +kernel)) (fun _ _ _ _ _ => by exact (pg_name (i := 6) sc_law_same.nd rfl (Or.inl rfl))) (fun _ _ _ _ _ => by exact pts_nil) (fun _ _ _ _ _ => by exact (pe_tup (pa_cons (pe_ix (ix_seqK (K:=K) rfl) (pv 4) (pv 6) (fun _ _ => rfl)) (pa_cons (pe_ix (ix_seqK (K:=K) rfl) (pv 5) (pv 6) (fun _ _ => rfl)) pa_nil)))))))))))))))))))))))
    (pss_one (ps_ret pe_bl))))), ?_⟩
    have g := gr0 (M := []) s0
    refine s_seq (o_new (ds := [p2D (x, y)]) (eds_cons (ed_tup (eds_cons (ed_var rfl r_one) (eds_cons (ed_var rfl r_other) eds_nil)) (Nat.le_of_ble_eq_true rfl)) eds_nil) (Nat.le_of_ble_eq_true rfl) g fun lw G1 H1 g s1 k1 ow _ => ?_)
    dsimp only
    refine s_seq (s_for (σ := [some v1, some v2, some (.ref lw), none, none, none, none]) (items := (List.range ((10 : Int) ^ (9 : Int).toNat).toNat).map fun i => .int ((0 : Int) + (i : Nat))) (es_range1 (ed_op ed_int ed_int fun _ _ => rd_Ii ⟨by decide, by decide, by decide⟩) (by decide) (by decide)) g (fun i σ G' H' => ∃ (lw : Addr) (ws : List P2) (o3 o4 o5 : Option V), σ = [some v1, some v2, some (.ref lw), o3, o4, o5, none] ∧ Own H G' H' lw (ws.map p2D) ∧ (∀ p ∈ ws, noDct p.1 = true ∧ noDct p.2 = true) ∧ szL (ws.map (·.2)) + i ≤ 5000000 ∧ (b = true ↔ ∀ p ∈ ws, p.1 = p.2)) (fun G' H' g' s' k' => ⟨lw, [(x, y)], _, _, _, rfl, ow.kp s' k', fun p hp => (by rw [List.mem_singleton.mp hp]; exact ⟨hx, hy⟩), (by simpa [szL] using hz), hb.trans ⟨fun e p hp => (by rw [List.mem_singleton.mp hp]; exact e), fun h => h (x, y) (by simp)⟩⟩) ?_ ?_)
    · rintro Gs i d v σ Gi Hi Gj Hj hd sg sgi ⟨lw, ws, o3, o4, o5, rfl, ow, hws, hsz, hb⟩ g sj kj rv
      have ow := ow.kp sj kj
      have sg := sgi.trans sj
      refine s_seq (s_ifH (b := (ws.map p2D).isEmpty) (ow.eb g.s fun Gx s r => (eb_test (ed_op (ed_var rfl r) (ed_lst eds_nil (Nat.zero_le _)) fun _ _ => rd_eqNil)).to (by simp)) g (fun hb2 H2 g k2 => ?_) fun hb2 H2 g k2 => ?_)
      · have e : ws = [] := by cases ws with | nil => rfl | cons a c => cases hb2
        subst e
        rw [hb.mpr fun p hp => by simp at hp] at k
        exact s_ret ed_bl g k
      have ow := ow.kp (Same.refl _) k2
      rcases nil_or_snoc ws with rfl | ⟨ws, p, rfl⟩
      · cases hb2
      obtain ⟨x0, y0⟩ := p
      obtain ⟨hx0, hy0⟩ := hws (x0, y0) (by simp)
      have hx0 : noDct x0 = true := hx0
      have hy0 : noDct y0 = true := hy0
      have hws' : ∀ p ∈ ws, noDct p.1 = true ∧ noDct p.2 = true := fun z hz => hws z (by simp [hz])
      have esz : szL ((ws ++ [(x0, y0)]).map (·.2)) = szL (ws.map (·.2)) + szD y0 := by
        rw [List.map_append, szL_app]
        simp [szL]
      rw [esz] at hsz
      have hszy := szL_kids y0
      have hlw := szL_len (ws.map (·.2))
      have hlk := szL_len (kids y0)
      rw [List.length_map] at hlw
      simp only [tNext]
      refine s_seq (o_pop2 (d := x0) (e := y0) (ds := ws.map p2D) rfl g (by rw [List.map_append] at ow; exact ow) rfl fun u1 u2 H3 g ow2 ks1 ko r_told r_due => ?_)
      have stop : x0 ≠ y0 → b = false := fun h => by
        cases q : b with
        | false => rfl
        | true => exact absurd (hb.mp q (x0, y0) (by simp)) h
      have go : x0 = y0 → ∀ {Gz Hz : Hp}, Gr [] G H Gz Hz → Same Gj Gz → Own H Gz Hz lw (ws.map p2D) →
          ∃ G', Gr [] G H G' Hz ∧ Same Gs G' ∧ ∃ (lw' : Addr) (ws : List P2) (o3 o4 o5 : Option V), [some v1, some v2, some (.ref lw), some v, some u1, some u2, none] = [some v1, some v2, some (.ref lw'), o3, o4, o5, none] ∧ Own H G' Hz lw' (ws.map p2D) ∧ (∀ p ∈ ws, noDct p.1 = true ∧ noDct p.2 = true) ∧ szL (ws.map (·.2)) + (i + 1) ≤ 5000000 ∧ (b = true ↔ ∀ p ∈ ws, p.1 = p.2) := by
        intro e Gz Hz gz sz owz
        refine ⟨Gz, gz, sg.trans sz, lw, ws, _, _, _, rfl, owz, hws', by omega, hb.trans ⟨fun h p hp => h p (by simp [hp]), fun h p hp => ?_⟩⟩
        rcases List.mem_append.mp hp with q | q
        · exact h p q
        · rw [List.mem_singleton.mp q]; exact e
      cases y0 with
      | dct => cases hy0
      | non  =>
        refine s_if' (((eb_test (ed_op (ed_var rfl r_due) ed_non fun _ _ => rd_isN)) : Eb _ _ _ _).to (c := true) rfl) g (fun _ H50 g k50 => ?_) fun z => nomatch z
        have owc := ow2.kp (Same.refl _) k50
        cases x0 with
        | dct => cases hx0
        | non  =>
          refine s_if' ((((eb_test (ed_op (ed_var rfl r_told) ed_non fun _ _ => rd_notN)) : Eb _ _ _ _).to rfl : Eb _ _ _ false)) g (fun z => nomatch z) fun _ H60 g k60 => ?_
          exact go rfl g (Same.refl _) (owc.kp (Same.refl _) k60)
        | bl c0 =>
          refine s_if' ((((eb_test (ed_op (ed_var rfl r_told) ed_non fun _ _ => rd_notN)) : Eb _ _ _ _).to rfl : Eb _ _ _ true)) g (fun _ H60 g k60 => ?_) fun z => nomatch z
          rw [stop (fun e => nomatch e)] at k
          exact s_ret ed_bl g k
        | int m0 =>
          refine s_if' ((((eb_test (ed_op (ed_var rfl r_told) ed_non fun _ _ => rd_notN)) : Eb _ _ _ _).to rfl : Eb _ _ _ true)) g (fun _ H60 g k60 => ?_) fun z => nomatch z
          rw [stop (fun e => nomatch e)] at k
          exact s_ret ed_bl g k
        | str t0 =>
          refine s_if' ((((eb_test (ed_op (ed_var rfl r_told) ed_non fun _ _ => rd_notN)) : Eb _ _ _ _).to rfl : Eb _ _ _ true)) g (fun _ H60 g k60 => ?_) fun z => nomatch z
          rw [stop (fun e => nomatch e)] at k
          exact s_ret ed_bl g k
        | tup ds =>
          refine s_if' ((((eb_test (ed_op (ed_var rfl r_told) ed_non fun _ _ => rd_notN)) : Eb _ _ _ _).to rfl : Eb _ _ _ true)) g (fun _ H60 g k60 => ?_) fun z => nomatch z
          rw [stop (fun e => nomatch e)] at k
          exact s_ret ed_bl g k
        | lst ds =>
          refine s_if' ((((eb_test (ed_op (ed_var rfl r_told) ed_non fun _ _ => rd_notN)) : Eb _ _ _ _).to rfl : Eb _ _ _ true)) g (fun _ H60 g k60 => ?_) fun z => nomatch z
          rw [stop (fun e => nomatch e)] at k
          exact s_ret ed_bl g k
      | bl b0 =>
        refine s_if' (((eb_test (ed_op (ed_var rfl r_due) ed_non fun _ _ => rd_isN)) : Eb _ _ _ _).to (c := false) rfl) g (fun z => nomatch z) fun _ H50 g k50 => ?_
        refine s_if' (((eb_B (ed_isBool (ed_var rfl r_due))) : Eb _ _ _ _).to (c := true) rfl) g (fun _ H51 g k51 => ?_) fun z => nomatch z
        have owc := (ow2.kp (Same.refl _) k50).kp (Same.refl _) k51
        cases x0 with
        | dct => cases hx0
        | non  =>
          refine s_if' ((eb_orT ((eb_not (eb_B ((ed_isBool (ed_var rfl r_told)) : Ed _ _ _ _))).to rfl) : Eb _ _ _ true)) g (fun _ H60 g k60 => ?_) fun z => nomatch z
          rw [stop (fun e => nomatch e)] at k
          exact s_ret ed_bl g k
        | bl c0 =>
          refine s_if' (eb_orF ((eb_not (eb_B ((ed_isBool (ed_var rfl r_told)) : Ed _ _ _ _))).to rfl) (eb_test (ed_op (ed_var rfl r_told) (ed_var rfl r_due) fun _ _ => rd_ne rfl))) g (fun hn H60 g k60 => ?_) fun hn H60 g k60 => ?_
          · rw [stop (fun e => (by cases e; simp at hn))] at k
            exact s_ret ed_bl g k
          · have e : c0 = b0 := by simpa using hn
            exact go (by rw [e]) g (Same.refl _) (owc.kp (Same.refl _) k60)
        | int m0 =>
          refine s_if' ((eb_orT ((eb_not (eb_B ((ed_isBool (ed_var rfl r_told)) : Ed _ _ _ _))).to rfl) : Eb _ _ _ true)) g (fun _ H60 g k60 => ?_) fun z => nomatch z
          rw [stop (fun e => nomatch e)] at k
          exact s_ret ed_bl g k
        | str t0 =>
          refine s_if' ((eb_orT ((eb_not (eb_B ((ed_isBool (ed_var rfl r_told)) : Ed _ _ _ _))).to rfl) : Eb _ _ _ true)) g (fun _ H60 g k60 => ?_) fun z => nomatch z
          rw [stop (fun e => nomatch e)] at k
          exact s_ret ed_bl g k
        | tup ds =>
          refine s_if' ((eb_orT ((eb_not (eb_B ((ed_isBool (ed_var rfl r_told)) : Ed _ _ _ _))).to rfl) : Eb _ _ _ true)) g (fun _ H60 g k60 => ?_) fun z => nomatch z
          rw [stop (fun e => nomatch e)] at k
          exact s_ret ed_bl g k
        | lst ds =>
          refine s_if' ((eb_orT ((eb_not (eb_B ((ed_isBool (ed_var rfl r_told)) : Ed _ _ _ _))).to rfl) : Eb _ _ _ true)) g (fun _ H60 g k60 => ?_) fun z => nomatch z
          rw [stop (fun e => nomatch e)] at k
          exact s_ret ed_bl g k
      | int n0 =>
        refine s_if' (((eb_test (ed_op (ed_var rfl r_due) ed_non fun _ _ => rd_isN)) : Eb _ _ _ _).to (c := false) rfl) g (fun z => nomatch z) fun _ H50 g k50 => ?_
        refine s_if' (((eb_B (ed_isBool (ed_var rfl r_due))) : Eb _ _ _ _).to (c := false) rfl) g (fun z => nomatch z) fun _ H51 g k51 => ?_
        refine s_if' (((eb_B (ed_isInt (ed_var rfl r_due))) : Eb _ _ _ _).to (c := true) rfl) g (fun _ H52 g k52 => ?_) fun z => nomatch z
        have owc := ((ow2.kp (Same.refl _) k50).kp (Same.refl _) k51).kp (Same.refl _) k52
        cases x0 with
        | dct => cases hx0
        | non  =>
          refine s_if' ((eb_orT ((eb_not (eb_B ((ed_isInt (ed_var rfl r_told)) : Ed _ _ _ _))).to rfl) : Eb _ _ _ true)) g (fun _ H60 g k60 => ?_) fun z => nomatch z
          rw [stop (fun e => nomatch e)] at k
          exact s_ret ed_bl g k
        | bl c0 =>
          refine s_if' ((eb_orF ((eb_not (eb_B ((ed_isInt (ed_var rfl r_told)) : Ed _ _ _ _))).to rfl) (eb_orT ((eb_B ((ed_isBool (ed_var rfl r_told)) : Ed _ _ _ _)).to rfl)) : Eb _ _ _ true)) g (fun _ H60 g k60 => ?_) fun z => nomatch z
          rw [stop (fun e => nomatch e)] at k
          exact s_ret ed_bl g k
        | int m0 =>
          refine s_if' (eb_orF ((eb_not (eb_B ((ed_isInt (ed_var rfl r_told)) : Ed _ _ _ _))).to rfl) (eb_orF ((eb_B ((ed_isBool (ed_var rfl r_told)) : Ed _ _ _ _)).to rfl) (eb_test (ed_op (ed_var rfl r_told) (ed_var rfl r_due) fun _ _ => rd_ne rfl)))) g (fun hn H60 g k60 => ?_) fun hn H60 g k60 => ?_
          · rw [stop (fun e => (by cases e; simp at hn))] at k
            exact s_ret ed_bl g k
          · have e : m0 = n0 := by simpa using hn
            exact go (by rw [e]) g (Same.refl _) (owc.kp (Same.refl _) k60)
        | str t0 =>
          refine s_if' ((eb_orT ((eb_not (eb_B ((ed_isInt (ed_var rfl r_told)) : Ed _ _ _ _))).to rfl) : Eb _ _ _ true)) g (fun _ H60 g k60 => ?_) fun z => nomatch z
          rw [stop (fun e => nomatch e)] at k
          exact s_ret ed_bl g k
        | tup ds =>
          refine s_if' ((eb_orT ((eb_not (eb_B ((ed_isInt (ed_var rfl r_told)) : Ed _ _ _ _))).to rfl) : Eb _ _ _ true)) g (fun _ H60 g k60 => ?_) fun z => nomatch z
          rw [stop (fun e => nomatch e)] at k
          exact s_ret ed_bl g k
        | lst ds =>
          refine s_if' ((eb_orT ((eb_not (eb_B ((ed_isInt (ed_var rfl r_told)) : Ed _ _ _ _))).to rfl) : Eb _ _ _ true)) g (fun _ H60 g k60 => ?_) fun z => nomatch z
          rw [stop (fun e => nomatch e)] at k
          exact s_ret ed_bl g k
      | str s0 =>
        refine s_if' (((eb_test (ed_op (ed_var rfl r_due) ed_non fun _ _ => rd_isN)) : Eb _ _ _ _).to (c := false) rfl) g (fun z => nomatch z) fun _ H50 g k50 => ?_
        refine s_if' (((eb_B (ed_isBool (ed_var rfl r_due))) : Eb _ _ _ _).to (c := false) rfl) g (fun z => nomatch z) fun _ H51 g k51 => ?_
        refine s_if' (((eb_B (ed_isInt (ed_var rfl r_due))) : Eb _ _ _ _).to (c := false) rfl) g (fun z => nomatch z) fun _ H52 g k52 => ?_
        refine s_if' (((eb_B (ed_isStr (ed_var rfl r_due))) : Eb _ _ _ _).to (c := true) rfl) g (fun _ H53 g k53 => ?_) fun z => nomatch z
        have owc := (((ow2.kp (Same.refl _) k50).kp (Same.refl _) k51).kp (Same.refl _) k52).kp (Same.refl _) k53
        cases x0 with
        | dct => cases hx0
        | non  =>
          refine s_if' ((eb_orT ((eb_not (eb_B ((ed_isStr (ed_var rfl r_told)) : Ed _ _ _ _))).to rfl) : Eb _ _ _ true)) g (fun _ H60 g k60 => ?_) fun z => nomatch z
          rw [stop (fun e => nomatch e)] at k
          exact s_ret ed_bl g k
        | bl c0 =>
          refine s_if' ((eb_orT ((eb_not (eb_B ((ed_isStr (ed_var rfl r_told)) : Ed _ _ _ _))).to rfl) : Eb _ _ _ true)) g (fun _ H60 g k60 => ?_) fun z => nomatch z
          rw [stop (fun e => nomatch e)] at k
          exact s_ret ed_bl g k
        | int m0 =>
          refine s_if' ((eb_orT ((eb_not (eb_B ((ed_isStr (ed_var rfl r_told)) : Ed _ _ _ _))).to rfl) : Eb _ _ _ true)) g (fun _ H60 g k60 => ?_) fun z => nomatch z
          rw [stop (fun e => nomatch e)] at k
          exact s_ret ed_bl g k
        | str t0 =>
          refine s_if' (eb_orF ((eb_not (eb_B ((ed_isStr (ed_var rfl r_told)) : Ed _ _ _ _))).to rfl) (eb_test (ed_op (ed_var rfl r_told) (ed_var rfl r_due) fun _ _ => rd_ne rfl))) g (fun hn H60 g k60 => ?_) fun hn H60 g k60 => ?_
          · rw [stop (fun e => (by cases e; simp at hn))] at k
            exact s_ret ed_bl g k
          · have e : t0 = s0 := by simpa using hn
            exact go (by rw [e]) g (Same.refl _) (owc.kp (Same.refl _) k60)
        | tup ds =>
          refine s_if' ((eb_orT ((eb_not (eb_B ((ed_isStr (ed_var rfl r_told)) : Ed _ _ _ _))).to rfl) : Eb _ _ _ true)) g (fun _ H60 g k60 => ?_) fun z => nomatch z
          rw [stop (fun e => nomatch e)] at k
          exact s_ret ed_bl g k
        | lst ds =>
          refine s_if' ((eb_orT ((eb_not (eb_B ((ed_isStr (ed_var rfl r_told)) : Ed _ _ _ _))).to rfl) : Eb _ _ _ true)) g (fun _ H60 g k60 => ?_) fun z => nomatch z
          rw [stop (fun e => nomatch e)] at k
          exact s_ret ed_bl g k
      | tup es =>
        refine s_if' (((eb_test (ed_op (ed_var rfl r_due) ed_non fun _ _ => rd_isN)) : Eb _ _ _ _).to (c := false) rfl) g (fun z => nomatch z) fun _ H50 g k50 => ?_
        refine s_if' (((eb_B (ed_isBool (ed_var rfl r_due))) : Eb _ _ _ _).to (c := false) rfl) g (fun z => nomatch z) fun _ H51 g k51 => ?_
        refine s_if' (((eb_B (ed_isInt (ed_var rfl r_due))) : Eb _ _ _ _).to (c := false) rfl) g (fun z => nomatch z) fun _ H52 g k52 => ?_
        refine s_if' (((eb_B (ed_isStr (ed_var rfl r_due))) : Eb _ _ _ _).to (c := false) rfl) g (fun z => nomatch z) fun _ H53 g k53 => ?_
        have owc := (((ow2.kp (Same.refl _) k50).kp (Same.refl _) k51).kp (Same.refl _) k52).kp (Same.refl _) k53
        cases x0 with
        | dct => cases hx0
        | non  =>
          refine s_if' ((((eb_or (eb_and (eb_B (ed_isLst (ed_var rfl r_due))) fun _ => (eb_not (eb_B (ed_isLst (ed_var rfl r_told))))) fun _ => (eb_and (eb_B (ed_isTup (ed_var rfl r_due))) fun _ => (eb_not (eb_B (ed_isTup (ed_var rfl r_told)))))) : Eb _ _ _ _).to rfl : Eb _ _ _ true)) g (fun _ H60 g k60 => ?_) fun z => nomatch z
          rw [stop (fun e => nomatch e)] at k
          exact s_ret ed_bl g k
        | bl c0 =>
          refine s_if' ((((eb_or (eb_and (eb_B (ed_isLst (ed_var rfl r_due))) fun _ => (eb_not (eb_B (ed_isLst (ed_var rfl r_told))))) fun _ => (eb_and (eb_B (ed_isTup (ed_var rfl r_due))) fun _ => (eb_not (eb_B (ed_isTup (ed_var rfl r_told)))))) : Eb _ _ _ _).to rfl : Eb _ _ _ true)) g (fun _ H60 g k60 => ?_) fun z => nomatch z
          rw [stop (fun e => nomatch e)] at k
          exact s_ret ed_bl g k
        | int m0 =>
          refine s_if' ((((eb_or (eb_and (eb_B (ed_isLst (ed_var rfl r_due))) fun _ => (eb_not (eb_B (ed_isLst (ed_var rfl r_told))))) fun _ => (eb_and (eb_B (ed_isTup (ed_var rfl r_due))) fun _ => (eb_not (eb_B (ed_isTup (ed_var rfl r_told)))))) : Eb _ _ _ _).to rfl : Eb _ _ _ true)) g (fun _ H60 g k60 => ?_) fun z => nomatch z
          rw [stop (fun e => nomatch e)] at k
          exact s_ret ed_bl g k
        | str t0 =>
          refine s_if' ((((eb_or (eb_and (eb_B (ed_isLst (ed_var rfl r_due))) fun _ => (eb_not (eb_B (ed_isLst (ed_var rfl r_told))))) fun _ => (eb_and (eb_B (ed_isTup (ed_var rfl r_due))) fun _ => (eb_not (eb_B (ed_isTup (ed_var rfl r_told)))))) : Eb _ _ _ _).to rfl : Eb _ _ _ true)) g (fun _ H60 g k60 => ?_) fun z => nomatch z
          rw [stop (fun e => nomatch e)] at k
          exact s_ret ed_bl g k
        | tup ds =>
          refine s_if' ((((eb_or (eb_and (eb_B (ed_isLst (ed_var rfl r_due))) fun _ => (eb_not (eb_B (ed_isLst (ed_var rfl r_told))))) fun _ => (eb_and (eb_B (ed_isTup (ed_var rfl r_due))) fun _ => (eb_not (eb_B (ed_isTup (ed_var rfl r_told)))))) : Eb _ _ _ _).to rfl : Eb _ _ _ false)) g (fun z => nomatch z) fun _ H60 g k60 => ?_
          have hq : isSeq (.tup ds) = true := rfl
          have hq2 : isSeq (.tup es) = true := rfl
          refine s_if' (eb_test (ed_op (ed_lenK hq (ed_var rfl r_told)) (ed_lenK hq2 (ed_var rfl r_due)) fun _ _ => rd_ne rfl)) g (fun hn H61 g k61 => ?_) fun hn H61 g k61 => ?_
          · rw [stop (fun e => (by cases e; simp at hn))] at k
            exact s_ret ed_bl g k
          · have e : (kids (.tup ds)).length = (kids (.tup es)).length := by simp at hn; exact Int.ofNat_inj.mp hn
            have ez := zipK_snd (.tup ds) (.tup es)
            have el : (zipK (.tup ds) (.tup es)).length = (kids (.tup es)).length := by rw [← ez, List.length_map]
            refine o_cat (es := (zipK (.tup ds) (.tup es)).map p2D) rfl ((ed_lcAll (items := (List.range (((kids (.tup es)).length : Nat) : Int).toNat).map fun i => .int ((0 : Int) + (i : Nat))) (fun d => match d with | .int j => .tup [(kids (.tup ds)).getD j.toNat .non, (kids (.tup es)).getD j.toNat .non] | _ => .non) (es_range1 (ed_lenK hq2 (ed_var rfl r_due)) (by omega) (by omega)) (by rw [List.length_map, List.length_range, Int.toNat_natCast]; omega) ?_).to ?_) g ((owc.kp (Same.refl _) k60).kp (Same.refl _) k61) (by rw [List.length_map, List.length_map, el]; omega) fun l9 G9 H9 g s9 k9 ow9 => ?_
            · intro d hd G' s'
              obtain ⟨j, hj, rfl⟩ := List.mem_map.mp hd
              have hjl : j < (kids (.tup es)).length := by simpa using hj
              have h1 : atI (kids (.tup ds)) ((0 : Int) + (j : Nat)) = some ((kids (.tup ds)).getD j .non) := by rw [Int.zero_add]; exact atI_nat (by rw [List.getD_eq_getElem?_getD, List.getElem?_eq_getElem (by omega)]; rfl)
              have h2 : atI (kids (.tup es)) ((0 : Int) + (j : Nat)) = some ((kids (.tup es)).getD j .non) := by rw [Int.zero_add]; exact atI_nat (by rw [List.getD_eq_getElem?_getD, List.getElem?_eq_getElem hjl]; rfl)
              refine tk_name fun u hu => ⟨rfl, (ed_tup (eds_cons (ed_op (ed_var rfl (r_told.mono s')) (ed_var rfl hu) fun _ _ => rd_ixK hq h1) (eds_cons (ed_op (ed_var rfl (r_due.mono s')) (ed_var rfl hu) fun _ _ => rd_ixK hq2 h2) eds_nil)) (Nat.le_of_ble_eq_true rfl)).to ?_⟩
              simp
            · show D.lst _ = D.lst ((zipK (.tup ds) (.tup es)).map p2D)
              unfold zipK
              rw [List.map_map, List.map_map, Int.toNat_natCast]
              exact congrArg D.lst (List.map_congr_left fun j _ => by simp [p2D])
            · rw [← List.map_append] at ow9
              refine ⟨G9, g, sg.trans s9, l9, ws ++ zipK (.tup ds) (.tup es), _, _, _, rfl, ow9, fun q hq => ?_, ?_, ?_⟩
              · rcases List.mem_append.mp hq with h | h
                · exact hws' q h
                · have h1 : q.2 ∈ (zipK _ _).map (·.2) := List.mem_map_of_mem h
                  have h2 : q.1 ∈ (zipK _ _).map (·.1) := List.mem_map_of_mem h
                  rw [ez] at h1
                  rw [zipK_fst e] at h2
                  exact ⟨noDct_kids hx0 _ h2, noDct_kids hy0 _ h1⟩
              · rw [List.map_append, szL_app, ez]; omega
              · refine hb.trans ⟨fun h q hq => ?_, fun h q hq => ?_⟩
                · rcases List.mem_append.mp hq with h1 | h1
                  · exact h q (by simp [h1])
                  · have e0 : (D.tup ds) = .tup es := h (.tup ds, .tup es) (by simp)
                    exact (zipK_eq e).mp (by rw [e0]) q h1
                · rcases List.mem_append.mp hq with h1 | h1
                  · exact h q (List.mem_append_left _ h1)
                  · rw [List.mem_singleton.mp h1]
                    have e0 : ds = es := (zipK_eq e).mpr fun q hq => h q (List.mem_append_right _ hq)
                    show (D.tup ds) = .tup es
                    rw [e0]
        | lst ds =>
          refine s_if' ((((eb_or (eb_and (eb_B (ed_isLst (ed_var rfl r_due))) fun _ => (eb_not (eb_B (ed_isLst (ed_var rfl r_told))))) fun _ => (eb_and (eb_B (ed_isTup (ed_var rfl r_due))) fun _ => (eb_not (eb_B (ed_isTup (ed_var rfl r_told)))))) : Eb _ _ _ _).to rfl : Eb _ _ _ true)) g (fun _ H60 g k60 => ?_) fun z => nomatch z
          rw [stop (fun e => nomatch e)] at k
          exact s_ret ed_bl g k
      | lst es =>
        refine s_if' (((eb_test (ed_op (ed_var rfl r_due) ed_non fun _ _ => rd_isN)) : Eb _ _ _ _).to (c := false) rfl) g (fun z => nomatch z) fun _ H50 g k50 => ?_
        refine s_if' (((eb_B (ed_isBool (ed_var rfl r_due))) : Eb _ _ _ _).to (c := false) rfl) g (fun z => nomatch z) fun _ H51 g k51 => ?_
        refine s_if' (((eb_B (ed_isInt (ed_var rfl r_due))) : Eb _ _ _ _).to (c := false) rfl) g (fun z => nomatch z) fun _ H52 g k52 => ?_
        refine s_if' (((eb_B (ed_isStr (ed_var rfl r_due))) : Eb _ _ _ _).to (c := false) rfl) g (fun z => nomatch z) fun _ H53 g k53 => ?_
        have owc := (((ow2.kp (Same.refl _) k50).kp (Same.refl _) k51).kp (Same.refl _) k52).kp (Same.refl _) k53
        cases x0 with
        | dct => cases hx0
        | non  =>
          refine s_if' ((((eb_or (eb_and (eb_B (ed_isLst (ed_var rfl r_due))) fun _ => (eb_not (eb_B (ed_isLst (ed_var rfl r_told))))) fun _ => (eb_and (eb_B (ed_isTup (ed_var rfl r_due))) fun _ => (eb_not (eb_B (ed_isTup (ed_var rfl r_told)))))) : Eb _ _ _ _).to rfl : Eb _ _ _ true)) g (fun _ H60 g k60 => ?_) fun z => nomatch z
          rw [stop (fun e => nomatch e)] at k
          exact s_ret ed_bl g k
        | bl c0 =>
          refine s_if' ((((eb_or (eb_and (eb_B (ed_isLst (ed_var rfl r_due))) fun _ => (eb_not (eb_B (ed_isLst (ed_var rfl r_told))))) fun _ => (eb_and (eb_B (ed_isTup (ed_var rfl r_due))) fun _ => (eb_not (eb_B (ed_isTup (ed_var rfl r_told)))))) : Eb _ _ _ _).to rfl : Eb _ _ _ true)) g (fun _ H60 g k60 => ?_) fun z => nomatch z
          rw [stop (fun e => nomatch e)] at k
          exact s_ret ed_bl g k
        | int m0 =>
          refine s_if' ((((eb_or (eb_and (eb_B (ed_isLst (ed_var rfl r_due))) fun _ => (eb_not (eb_B (ed_isLst (ed_var rfl r_told))))) fun _ => (eb_and (eb_B (ed_isTup (ed_var rfl r_due))) fun _ => (eb_not (eb_B (ed_isTup (ed_var rfl r_told)))))) : Eb _ _ _ _).to rfl : Eb _ _ _ true)) g (fun _ H60 g k60 => ?_) fun z => nomatch z
          rw [stop (fun e => nomatch e)] at k
          exact s_ret ed_bl g k
        | str t0 =>
          refine s_if' ((((eb_or (eb_and (eb_B (ed_isLst (ed_var rfl r_due))) fun _ => (eb_not (eb_B (ed_isLst (ed_var rfl r_told))))) fun _ => (eb_and (eb_B (ed_isTup (ed_var rfl r_due))) fun _ => (eb_not (eb_B (ed_isTup (ed_var rfl r_told)))))) : Eb _ _ _ _).to rfl : Eb _ _ _ true)) g (fun _ H60 g k60 => ?_) fun z => nomatch z
          rw [stop (fun e => nomatch e)] at k
          exact s_ret ed_bl g k
        | tup ds =>
          refine s_if' ((((eb_or (eb_and (eb_B (ed_isLst (ed_var rfl r_due))) fun _ => (eb_not (eb_B (ed_isLst (ed_var rfl r_told))))) fun _ => (eb_and (eb_B (ed_isTup (ed_var rfl r_due))) fun _ => (eb_not (eb_B (ed_isTup (ed_var rfl r_told)))))) : Eb _ _ _ _).to rfl : Eb _ _ _ true)) g (fun _ H60 g k60 => ?_) fun z => nomatch z
          rw [stop (fun e => nomatch e)] at k
          exact s_ret ed_bl g k
        | lst ds =>
          refine s_if' ((((eb_or (eb_and (eb_B (ed_isLst (ed_var rfl r_due))) fun _ => (eb_not (eb_B (ed_isLst (ed_var rfl r_told))))) fun _ => (eb_and (eb_B (ed_isTup (ed_var rfl r_due))) fun _ => (eb_not (eb_B (ed_isTup (ed_var rfl r_told)))))) : Eb _ _ _ _).to rfl : Eb _ _ _ false)) g (fun z => nomatch z) fun _ H60 g k60 => ?_
          have hq : isSeq (.lst ds) = true := rfl
          have hq2 : isSeq (.lst es) = true := rfl
          refine s_if' (eb_test (ed_op (ed_lenK hq (ed_var rfl r_told)) (ed_lenK hq2 (ed_var rfl r_due)) fun _ _ => rd_ne rfl)) g (fun hn H61 g k61 => ?_) fun hn H61 g k61 => ?_
          · rw [stop (fun e => (by cases e; simp at hn))] at k
            exact s_ret ed_bl g k
          · have e : (kids (.lst ds)).length = (kids (.lst es)).length := by simp at hn; exact Int.ofNat_inj.mp hn
            have ez := zipK_snd (.lst ds) (.lst es)
            have el : (zipK (.lst ds) (.lst es)).length = (kids (.lst es)).length := by rw [← ez, List.length_map]
            refine o_cat (es := (zipK (.lst ds) (.lst es)).map p2D) rfl ((ed_lcAll (items := (List.range (((kids (.lst es)).length : Nat) : Int).toNat).map fun i => .int ((0 : Int) + (i : Nat))) (fun d => match d with | .int j => .tup [(kids (.lst ds)).getD j.toNat .non, (kids (.lst es)).getD j.toNat .non] | _ => .non) (es_range1 (ed_lenK hq2 (ed_var rfl r_due)) (by omega) (by omega)) (by rw [List.length_map, List.length_range, Int.toNat_natCast]; omega) ?_).to ?_) g ((owc.kp (Same.refl _) k60).kp (Same.refl _) k61) (by rw [List.length_map, List.length_map, el]; omega) fun l9 G9 H9 g s9 k9 ow9 => ?_
            · intro d hd G' s'
              obtain ⟨j, hj, rfl⟩ := List.mem_map.mp hd
              have hjl : j < (kids (.lst es)).length := by simpa using hj
              have h1 : atI (kids (.lst ds)) ((0 : Int) + (j : Nat)) = some ((kids (.lst ds)).getD j .non) := by rw [Int.zero_add]; exact atI_nat (by rw [List.getD_eq_getElem?_getD, List.getElem?_eq_getElem (by omega)]; rfl)
              have h2 : atI (kids (.lst es)) ((0 : Int) + (j : Nat)) = some ((kids (.lst es)).getD j .non) := by rw [Int.zero_add]; exact atI_nat (by rw [List.getD_eq_getElem?_getD, List.getElem?_eq_getElem hjl]; rfl)
              refine tk_name fun u hu => ⟨rfl, (ed_tup (eds_cons (ed_op (ed_var rfl (r_told.mono s')) (ed_var rfl hu) fun _ _ => rd_ixK hq h1) (eds_cons (ed_op (ed_var rfl (r_due.mono s')) (ed_var rfl hu) fun _ _ => rd_ixK hq2 h2) eds_nil)) (Nat.le_of_ble_eq_true rfl)).to ?_⟩
              simp
            · show D.lst _ = D.lst ((zipK (.lst ds) (.lst es)).map p2D)
              unfold zipK
              rw [List.map_map, List.map_map, Int.toNat_natCast]
              exact congrArg D.lst (List.map_congr_left fun j _ => by simp [p2D])
            · rw [← List.map_append] at ow9
              refine ⟨G9, g, sg.trans s9, l9, ws ++ zipK (.lst ds) (.lst es), _, _, _, rfl, ow9, fun q hq => ?_, ?_, ?_⟩
              · rcases List.mem_append.mp hq with h | h
                · exact hws' q h
                · have h1 : q.2 ∈ (zipK _ _).map (·.2) := List.mem_map_of_mem h
                  have h2 : q.1 ∈ (zipK _ _).map (·.1) := List.mem_map_of_mem h
                  rw [ez] at h1
                  rw [zipK_fst e] at h2
                  exact ⟨noDct_kids hx0 _ h2, noDct_kids hy0 _ h1⟩
              · rw [List.map_append, szL_app, ez]; omega
              · refine hb.trans ⟨fun h q hq => ?_, fun h q hq => ?_⟩
                · rcases List.mem_append.mp hq with h1 | h1
                  · exact h q (by simp [h1])
                  · have e0 : (D.lst ds) = .lst es := h (.lst ds, .lst es) (by simp)
                    exact (zipK_eq e).mp (by rw [e0]) q h1
                · rcases List.mem_append.mp hq with h1 | h1
                  · exact h q (List.mem_append_left _ h1)
                  · rw [List.mem_singleton.mp h1]
                    have e0 : ds = es := (zipK_eq e).mpr fun q hq => h q (List.mem_append_right _ hq)
                    show (D.lst ds) = .lst es
                    rw [e0]
    · rintro σ G' H' g s' ⟨lw, ws, o3, o4, o5, rfl, ow, hws, hsz, hb⟩
      exfalso
      rw [List.length_map, List.length_range] at hsz
      have e : ((10 : Int) ^ (9 : Int).toNat).toNat = 1000000000 := by decide
      omega
end
end K18
set_option maxHeartbeats 4000000
/-! sorted(a list of texts, any number); neighbours that are equal left out. -/
namespace Kd
open PySem PySem.Spec PyProof.Rows L2
section
variable {X : Cx}
def rSortedSA (K : PySem.W.Frag) : List V → Hp → VK → Prop := fun vs H Q => ∃ (a : Addr) (xs : List Str), vs = [V.ref a] ∧ SqL K H a (xs.map V.str) ∧
  ∀ (ys : List Str) (p : Addr), ys.Perm xs → sortedS ys = true → H p = none → Q (.ref p) (upd H p (.lst (ys.map V.str)))
theorem cr_sortedSA : CallR X (.builtin "sorted") (rSortedSA X.K) := by
  intro pins s σ H vs us Q I r h
  obtain ⟨a, xs, rfl, hs, q⟩ := h
  obtain ⟨its, rv, hl, hz⟩ := I.list hs
  rw [Vals.ref1 r]
  have hlen0 := rv.length
  rw [List.length_map] at hlen0 hz
  refine PyProof.Rows.sorted_strsAny hl.isList rv.strs (by rw [← hlen0]; exact hz) fun out ys h1 h2 h3 => ?_
  obtain ⟨ep, he'⟩ := PyProof.Rows.sortedAll_at s.heap its out
  have hlen : (ys.map V.str).length ≤ sizeLine := by rw [List.length_map, h2.length_eq]; exact hz
  exact ⟨.ref _, upd H (s.heap.objs.size + 1) (.lst (ys.map V.str)), I.laid (t' := s.toks) (fun _ _ => PyProof.Rows.sortedAll_old) (Nat.le_succ _) ⟨hlen, out.toList, ep, vals_of_strs h1, he'⟩, rfl, q ys _ h2 h3 (I.hok.fresh (Nat.le_succ _))⟩
end
section
variable {K : PySem.W.Frag} {σ : L2.St} {G : Hp} {ta tb : TE} {P1 P2 P3 : D → Prop} {r : R2}
theorem edx_op2 (ha : EdX ta σ G P1) (hb : EdX tb σ G P2) (hr : ∀ d e, P1 d → P2 e → ∃ z, P3 z ∧ ∀ G1, Same G G1 → Rd2 r G1 d e z) : EdX (tOp r ta tb) σ G P3 := fun H s Q q =>
  ha H s _ fun d x G1 H1 hd g1 r1 => hb H1 (g1.g.trans g1.s) _ fun e y G2 H2 he g2 r2 => by
    have sG : Same G G1 := g1.g
    obtain ⟨G3, g3, e3⟩ := g2.larger sG g1.s
    obtain ⟨z, hz, rr⟩ := hr d e hd he
    exact rr G3 (sG.trans g3.g) x y H2 g3.s (r1.mono g3.g) (r2.mono e3) Q fun v G4 H4 g4 r4 => q z v G4 H4 hz ((g1.trans g3).trans g4) r4
def SrtP (xs ys : List Str) : Prop := ys.Perm xs ∧ sortedS ys = true
theorem strs_rp {G : Hp} : ∀ {xs : List Str} {vs : List V}, RpL G (xs.map D.str) vs → vs = xs.map V.str
  | [], vs, h => h
  | x :: xs, vs, ⟨v, r, e, h1, h2⟩ => by
    subst e
    cases (show v = .str x from h1)
    rw [strs_rp h2]
    rfl
theorem edx_sorted {P : List Str → Prop} (h : EdX ta σ G (fun d => ∃ xs : List Str, d = .lst (xs.map .str) ∧ P xs)) : EdX (tCB (rSortedSA K) (tCons ta tNil)) σ G (fun d => ∃ xs ys : List Str, d = .lst (ys.map .str) ∧ P xs ∧ SrtP xs ys) := fun H s Q q =>
  h H s _ fun d v G1 H1 ⟨xs, e, hP⟩ g1 r1 => by
    subst e
    obtain ⟨a, vs, rfl, ha, hr⟩ := r1
    rw [strs_rp hr] at ha
    refine ⟨a, xs, rfl, SqL.of (g1.s a _ ha), fun ys p h1 h2 hp => q (.lst (ys.map .str)) (.ref p) _ _ ⟨xs, ys, rfl, hP, h1, h2⟩ (g1.new hp) ⟨p, _, rfl, upd_same, RpL.strs ys⟩⟩
end
end Kd
namespace K18
open PySem PySem.Spec PyProof.Rows L2 Kd
theorem ltC {x y : Str} : ltCps x.cps.toList y.cps.toList = false ↔ ¬ x.cps.toList < y.cps.toList := by
  rw [ltCps_eq]
  simp
theorem rising_pw2 : ∀ (r : List Str) (p : Str), risingS p r = true → (p :: r).Pairwise fun a b => ¬ b.cps.toList < a.cps.toList
  | [], p, _ => by simp
  | x :: r, p, h => by
    have h : (!ltCps x.cps.toList p.cps.toList && risingS x r) = true := h
    rw [Bool.and_eq_true, Bool.not_eq_true', ltC] at h
    have ih := rising_pw2 r x h.2
    refine List.pairwise_cons.mpr ⟨fun y hy => ?_, ih⟩
    rcases List.mem_cons.mp hy with rfl | hy
    · exact h.1
    · exact List.le_trans (l₁ := p.cps.toList) (l₂ := x.cps.toList) (l₃ := y.cps.toList) h.1 ((List.pairwise_cons.mp ih).1 y hy)
theorem sorted_pw {l : List Str} (h : sortedS l = true) : l.Pairwise fun a b => ¬ b.cps.toList < a.cps.toList := by
  cases l with
  | nil => exact List.Pairwise.nil
  | cons x r => exact rising_pw2 r x h
theorem str_ext {a b : Str} (h : a.cps.toList = b.cps.toList) : a = b := by
  obtain ⟨⟨l⟩⟩ := a
  obtain ⟨⟨m⟩⟩ := b
  have h : l = m := h
  rw [h]
/-- is the text at k one that is not the one ahead -/
def keepAt (ys : List Str) (k : Nat) : Bool := decide (k = 0) || !decide (ys.getD k "" = ys.getD (k - 1) "")
def dedup (ys : List Str) : List Str := ((List.range ys.length).filter (keepAt ys)).map fun k => ys.getD k ""
theorem dedup_mem {ys : List Str} {z : Str} : z ∈ dedup ys ↔ z ∈ ys := by
  unfold dedup
  constructor
  · intro h
    obtain ⟨k, hk, rfl⟩ := List.mem_map.mp h
    exact getD_mem (by simpa using (List.mem_filter.mp hk).1)
  · intro h
    obtain ⟨i, hi, e⟩ := List.mem_iff_getElem.mp h
    have key : ∀ (i : Nat), i < ys.length → ys.getD i "" = z → z ∈ ((List.range ys.length).filter (keepAt ys)).map fun k => ys.getD k "" := by
      intro i
      induction i with
      | zero =>
        intro hi e
        exact List.mem_map.mpr ⟨0, List.mem_filter.mpr ⟨by simpa using hi, by simp [keepAt]⟩, e⟩
      | succ i ih =>
        intro hi e
        by_cases q : ys.getD (i + 1) "" = ys.getD i ""
        · exact ih (by omega) (q.symm.trans e)
        · refine List.mem_map.mpr ⟨i + 1, List.mem_filter.mpr ⟨by simpa using hi, ?_⟩, e⟩
          unfold keepAt
          rw [Nat.add_sub_cancel, decide_eq_false q]
          simp
    exact key i hi (by rw [List.getD_eq_getElem?_getD, List.getElem?_eq_getElem hi]; exact e)
theorem dedup_nodup {ys : List Str} (h : sortedS ys = true) : (dedup ys).Nodup := by
  have hp := List.pairwise_iff_getElem.mp (sorted_pw h)
  unfold dedup
  show List.Pairwise (· ≠ ·) _
  rw [List.pairwise_map]
  have hr : ((List.range ys.length).filter (keepAt ys)).Pairwise (· < ·) := List.Pairwise.sublist List.filter_sublist List.pairwise_lt_range
  refine List.Pairwise.imp_of_mem (fun {i j} hi hj hij e => ?_) hr
  obtain ⟨hi1, hi2⟩ := List.mem_filter.mp hi
  obtain ⟨hj1, hj2⟩ := List.mem_filter.mp hj
  have hil : i < ys.length := by simpa using hi1
  have hjl : j < ys.length := by simpa using hj1
  have gd : ∀ k (hk : k < ys.length), ys.getD k "" = ys[k] := fun k hk => by rw [List.getD_eq_getElem?_getD, List.getElem?_eq_getElem hk]; rfl
  rw [gd i hil, gd j hjl] at e
  unfold keepAt at hj2
  have hj0 : j ≠ 0 := by omega
  rw [decide_eq_false hj0, gd j hjl, gd (j - 1) (by omega)] at hj2
  have hne : ys[j] ≠ ys[j - 1] := by simpa using hj2
  refine hne (str_ext ?_)
  have h1 : ¬ (ys[j].cps.toList < ys[j - 1].cps.toList) := hp (j - 1) j (by omega) hjl (by omega)
  have h2 : ¬ (ys[j - 1].cps.toList < ys[j].cps.toList) := by
    by_cases q : i = j - 1
    · subst q
      rw [e]
      exact List.lt_irrefl _
    · have := hp i (j - 1) hil (by omega) (by omega)
      rw [e] at this
      exact this
  exact List.le_antisymm (as := ys[j].cps.toList) (bs := ys[j - 1].cps.toList) h2 h1
end K18
set_option maxHeartbeats 4000000
/-! A key that is not there yet is put into a dict of one's own; what stands there is asked. -/
namespace K18
open PySem PySem.Spec PyProof.Rows L2 Kd
section
variable {K : PySem.W.Frag} {σ : L2.St} {G : Hp} {te ti : TE} {o : Addr} {M : List Addr} {G0 H0 H : Hp} {Dn : Ends}
theorem _root_.Kd.Own.neO {ds : List D} {l m : Addr} {x : HO} (ow : Own H0 G H l ds) (e : H m = some x) (h : ∀ vs, x ≠ .lst vs) : l ≠ m := fun z => by
  obtain ⟨vs, ev, _⟩ := ow.e
  rw [z, e] at ev
  exact h vs (Option.some.inj ev)
theorem _root_.Kd.Own.kO {ds : List D} {l m : Addr} {G' H' : Hp} (ow : Own H0 G H l ds) (s : Same G G') (k : Ko m G H G' H') (n : l ≠ m) : Own H0 G' H' l ds := by
  obtain ⟨vs, ev, r⟩ := ow.e
  exact ⟨ow.h0, (k l _ n ev).2 ow.g, vs, (k l _ n ev).1, r.mono s⟩
/-- a, b, c = {}, {}, [..] -/
theorem o_par3D {i j q : Nat} {tA : TA} {ds : List D} (h : Eds tA σ G ds) (hl : ds.length ≤ 10000000) (g : Gr M G0 H0 G H)
    (k : ∀ la fa lw G' H', Gr M G0 H0 G' H' → Same G G' → OwnO H0 G' H' la (.dK []) → OwnO H0 G' H' fa (.dT []) → Own H0 G' H' lw ds → la ≠ fa → Dn.nx (((σ.set i (some (.ref la))).set j (some (.ref fa))).set q (some (.ref lw))) H') : tPar3 i j q (tCons tDNewK (tCons tDNewT (tCons (tLst tA) tNil))) Dn σ H := by
  intro la na fa nfa
  have ga := g.tmp (o := .dK []) na
  have gb := ga.tmp (o := .dT []) nfa
  have nlf : la ≠ fa := fun e => by rw [← e, upd_same] at nfa; cases nfa
  have ola : OwnO H0 G (upd (upd H la (.dK [])) fa (.dT [])) la (.dK []) := ⟨g.free na, g.gfree na, by rw [upd_ne nlf, upd_same]⟩
  have ofa : OwnO H0 G (upd (upd H la (.dK [])) fa (.dT [])) fa (.dT []) := ⟨ga.free nfa, ga.gfree nfa, upd_same⟩
  refine h _ gb.s _ fun vs G4 H4 g4 r4 => ⟨by rw [r4.len]; exact Nat.le_trans hl (by decide), fun lw nlw => ⟨_, _, _, rfl, ?_⟩⟩
  have ola := ola.kp g4.kp
  have ofa := ofa.kp g4.kp
  have gc := gb.call g4
  exact k la fa lw G4 _ (gc.tmp nlw) g4.g ⟨ola.h0, ola.g, by rw [upd_ne (ne_of_none ola.e nlw)]; exact ola.e⟩ ⟨ofa.h0, ofa.g, by rw [upd_ne (ne_of_none ofa.e nlw)]; exact ofa.e⟩ ⟨gc.free nlw, gc.gfree nlw, vs, upd_same, r4⟩ nlf
/-- if k not in d: d[k] = v; keys are numbers -/
theorem s_newK {kvs : List (L2.Key × V)} {i j : Nat} {n : Int} {y : V} (hi : Ed ti σ G (.int n)) (ho : σ[i]? = some (some (.ref o))) (hy : σ[j]? = some (some y)) (oo : OwnO H0 G H o (.dK kvs)) (g : Gr M G0 H0 G H) (hl : kvs.length ≤ 1000000)
    (k : ∀ G' H' kvs', Gr M G0 H0 G' H' → Same G G' → Ko o G H G' H' → OwnO H0 G' H' o (.dK kvs') → (kvs' = kvs ∧ (∃ u, valV kvs (.inl n) = some u) ∨ valV kvs (.inl n) = none ∧ kvs' = putK kvs (.inl n) y) → Dn.nx σ H') :
    tIfS (tB (tDNotIn ti (tVar i))) (tAsg (tVar j) (gSub (tVar i) ti rSetD)) tNext Dn σ H := hi H g.s _ fun vn G1 H1 g1 r1 => by
  cases (show vn = .int n from r1)
  have o1 := oo.kp g1.kp
  refine ⟨_, ho, o, valV kvs (.inl n), rfl, DGet.k (k := .inl n) o1.e, _, rfl, ?_⟩
  cases hu : valV kvs (.inl n) with
  | some u =>
    rw [if_neg (by simp)]
    exact k G1 H1 kvs (g.call g1) g1.g (fun a x _ e => g1.kp a x e) o1 (.inl ⟨rfl, u, hu⟩)
  | none =>
    rw [if_pos (by rfl)]
    refine ⟨_, hy, _, ho, hi.mono g1.g H1 g1.s _ fun vm G2 H2 g2 r2 => ?_⟩
    cases (show vm = .int n from r2)
    have o2 := o1.kp g2.kp
    refine ⟨o, _, rfl, DPut.k (k := .inl n) o2.e (Nat.lt_of_le_of_lt hl (by decide)), k G2 _ _ (((g.call g1).call g2).mut o2.g o2.h0) (g1.g.trans g2.g) (fun a x n e => ?_) ⟨o2.h0, o2.g, upd_same⟩ (.inr ⟨hu, rfl⟩)⟩
    rw [upd_ne n]
    exact (g1.kp.trans g2.kp) a x e
/-- if m != "pre" and m not in d: d[m] = t; keys are pairs -/
theorem s_newF {kvs : List (List L2.Key × V)} {i j q : Nat} {r : Ro} {z : Str} {vm vt : V} (hv : σ[q]? = some (some vm)) (hm : Rp G (r.at z) vm) (hz : PyData.strOk z = true) (ho : σ[i]? = some (some (.ref o))) (hy : σ[j]? = some (some vt)) (oo : OwnO H0 G H o (.dT kvs)) (g : Gr M G0 H0 G H) (hl : kvs.length ≤ 10000000)
    (k : ∀ H' kvs', Gr M G0 H0 G H' → Ko o G H G H' → OwnO H0 G H' o (.dT kvs') → (isPre (r.at z) = true ∧ kvs' = kvs ∨ isPre (r.at z) = false ∧ (kvs' = kvs ∧ (∃ u, valV kvs (keyD (r.at z)) = some u) ∨ valV kvs (keyD (r.at z)) = none ∧ kvs' = putK kvs (keyD (r.at z)) vt)) → Dn.nx σ H') :
    tIfS (tAnd (tTest (tOp (rEqS K true) (tVar q) (tC (.str "pre")))) (tB (tDNotIn (tVar q) (tVar i)))) (tAsg (tVar j) (gSub (tVar i) (tVar q) rSetD)) tNext Dn σ H := by
  obtain ⟨sh1, sh2, sh3⟩ := at_shape r hz
  refine (eb_test (ed_op (ed_var hv hm) ed_str fun _ _ => rd_eqS sh3) : Eb (tTest (tOp (rEqS K true) (tVar q) (tC (.str "pre")))) σ G (xor true (isPre (r.at z)))) H g.s _ fun H1 g1 => ?_
  have o1 := oo.kp g1.kp
  cases hp : isPre (r.at z) with
  | true =>
    show (if (false : Bool) = true then _ else _)
    rw [if_neg (by simp)]
    exact k H1 kvs (g.call g1) (fun a x _ e => g1.kp a x e) o1 (.inl ⟨hp, rfl⟩)
  | false =>
    have hnp : r.at z ≠ .str "pre" := fun e => by rw [isPre_iff.mpr e] at hp; cases hp
    obtain ⟨b, rfl, hb⟩ := key_at hm hnp
    refine ⟨_, hv, _, ho, o, valV kvs (keyD (r.at z)), rfl, DGet.t o1.e (g1.s b _ hb), _, rfl, ?_⟩
    cases hu : valV kvs (keyD (r.at z)) with
    | some u =>
      rw [if_neg (by simp)]
      exact k H1 kvs (g.call g1) (fun a x _ e => g1.kp a x e) o1 (.inr ⟨hp, .inl ⟨rfl, u, hu⟩⟩)
    | none =>
      rw [if_pos (by rfl)]
      refine ⟨_, hy, _, ho, _, hv, o, _, rfl, DPut.t o1.e (g1.s b _ hb) (Nat.lt_of_le_of_lt hl (by decide)), k _ _ ((g.call g1).mut o1.g o1.h0) (fun a x n e => ?_) ⟨o1.h0, o1.g, upd_same⟩ (.inr ⟨hp, .inr ⟨hu, rfl⟩⟩)⟩
      rw [upd_ne n]
      exact g1.kp a x e
/-- t != ("pre" if m == "pre" else d[m]) -/
theorem ebh_flag {kvs : List (List L2.Key × V)} {i j q : Nat} {r : Ro} {z : Str} {d2 du : D} {vm vt : V} (hv : σ[q]? = some (some vm)) (hm : Rp G (r.at z) vm) (hz : PyData.strOk z = true) (ho : σ[i]? = some (some (.ref o))) (hy : σ[j]? = some (some vt)) (ht : Rp G d2 vt) (l2 : Lay 4 d2) (oo : OwnO H0 G H o (.dT kvs)) (s : Same G H)
    (hu : isPre (r.at z) = true ∧ du = .str "pre" ∨ isPre (r.at z) = false ∧ ∃ u, valV kvs (keyD (r.at z)) = some u ∧ Rp G du u ∧ Lay 4 du) :
    EbH (tTest (tOp (rNeD K) (tVar j) (tIf (tTest (tOp (rEqS K false) (tVar q) (tC (.str "pre")))) (tC (.str "pre")) (tDGet (tVar i) (tVar q))))) σ G H (!PyData.eqv (toPy d2) (toPy du)) := fun Q k => by
  obtain ⟨sh1, sh2, sh3⟩ := at_shape r hz
  refine ⟨_, hy, ?_⟩
  refine (eb_test (ed_op (ed_var hv hm) ed_str fun _ _ => rd_eqS sh3) : Eb (tTest (tOp (rEqS K false) (tVar q) (tC (.str "pre")))) σ G (xor false (isPre (r.at z)))) H s _ fun H1 g1 => ?_
  have o1 := oo.kp g1.kp
  have fin : ∀ (v : V), Rp G du v → Lay 4 du → rNeD K vt v H1 (fun x H' => ∃ k, x = .bl k ∧ Q k H') := fun v hd hl => by
    refine rd_neD (noBl_dct l2.b) (noBl_dct hl.b) (lay_shaped l2) (lay_shaped hl) vt v H1 g1.s ht hd _ fun v6 G6 H6 g6 r6 => ⟨_, r6, k H6 ⟨(g1.trans g6.same).h, (g1.trans g6.same).t, Same.refl _, (g1.trans g6.same).s, fun _ z _ => z⟩⟩
  rcases hu with ⟨hp, rfl⟩ | ⟨hp, u, hu, hr, hl⟩
  · rw [hp]
    show (if (true : Bool) = true then _ else _)
    rw [if_pos rfl]
    exact fin _ rfl (.str (by decide +kernel))
  · rw [hp]
    show (if (false : Bool) = true then _ else _)
    rw [if_neg (by simp)]
    have hnp : r.at z ≠ .str "pre" := fun e => by rw [isPre_iff.mpr e] at hp; cases hp
    obtain ⟨b, rfl, hb⟩ := key_at hm hnp
    exact ⟨_, ho, _, hv, o, u, rfl, hu ▸ DGet.t o1.e (g1.s b _ hb), fin u hr hl⟩
end
end K18
set_option maxHeartbeats 4000000
namespace K18
open PySem PySem.Spec PyProof.Rows L2 Kd
theorem noDct_build {a : Nd} {ps : List D} (hp : ps.length = a.many) (h : noDctL ps = true) : noDct (build a ps) = true := by
  cases a with
  | pair => match ps, hp, h with | [p, q], _, h => simpa [build, noDct, noDctL] using h
  | func r => match ps, hp, h with
    | [p, q], _, h =>
      have e : ∀ fs : List (Str × Fl), noDctL (fs.map nmD) = true := by
        intro fs
        induction fs with
        | nil => rfl
        | cons f fs ih =>
          rw [List.map_cons]
          simp only [noDctL, ih, Bool.and_true]
          obtain ⟨z, f⟩ := f
          cases f <;> rfl
      simp only [noDctL, Bool.and_eq_true] at h
      simp [build, noDct, noDctL, Ro.d, Ro.l, e, h.1, h.2.1]
  | data s m => simpa [build, noDct, noDctL] using h
  | _ => rfl
theorem noDct_tree {f : Nd → Nd} : ∀ {t : Tr}, okT f t → noDct (tD f t) = true := by
  intro t
  induction t using Tr.rec (motive_2 := fun ks => (∀ k ∈ ks, okT f k) → noDctL (ks.map (tD f)) = true) with
  | mk a ks ih =>
    rintro ⟨h1, h2, h3⟩
    rw [tD, tDL_map]
    exact noDct_build (by rw [List.length_map]; exact h2) (ih h3)
  | nil => rfl
  | cons k ks h1 h2 =>
    rename_i h
    rw [List.map_cons, noDctL, h1 (h k (by simp)), h2 fun j hj => h j (by simp [hj])]
    rfl
theorem sz_fl (f : Fl) : szD f.d ≤ 3 := by cases f <;> simp [Fl.d, szD, szL]
theorem sz_nms : ∀ fs : List (Str × Fl), szL (fs.map nmD) ≤ 5 * fs.length
  | [] => by simp [szL]
  | f :: fs => by
    have h1 := sz_nms fs
    have h2 := sz_fl f.2
    simp only [List.map_cons, szL, nmD, szD, List.length_cons]
    omega
theorem sz_build {a : Nd} {ps : List D} (ha : okNd a) (hp : ps.length = a.many) : szD (build a ps) ≤ szL ps + 40 := by
  cases a with
  | pair => match ps, hp with | [p, q], _ => simp only [build, szD, szL]; omega
  | func r => match ps, hp with
    | [p, q], _ =>
      have h1 := sz_nms r.ns
      have h2 := okRo.len ha
      simp only [build, szD, szL, Ro.d, Ro.l]
      omega
  | data s m => simp only [build, szD, szL]; omega
  | plain w => simp only [build, szD, szL]; omega
  | letter n => simp only [build, szD, szL]; omega
theorem sz_tree : ∀ {t : Tr}, okT id t → szD (tD id t) ≤ 40 * cntT t := by
  intro t
  induction t using Tr.rec (motive_2 := fun ks => (∀ k ∈ ks, okT id k) → szL (ks.map (tD id)) ≤ 40 * cntL ks) with
  | mk a ks ih =>
    rintro ⟨h1, h2, h3⟩
    have i := ih h3
    rw [tD, tDL_map]
    have := sz_build (ps := ks.map (tD id)) h1 (by rw [List.length_map]; exact h2)
    rw [cntT]
    have e : id a = a := rfl
    rw [e] at this
    rw [e]
    omega
  | nil => simp [szL, cntL]
  | cons k ks h1 h2 =>
    rename_i h
    have i1 := h1 (h k (by simp))
    have i2 := h2 fun j hj => h j (by simp [hj])
    simp only [List.map_cons, szL, cntL]
    omega
theorem tD_inj : ∀ {t : Tr}, okT id t → ∀ {t' : Tr}, okT id t' → tD id t = tD id t' → t = t' := by
  intro t
  induction t using Tr.rec (motive_2 := fun ks => (∀ k ∈ ks, okT id k) → ∀ {ks' : List Tr}, (∀ k ∈ ks', okT id k) → ks.map (tD id) = ks'.map (tD id) → ks = ks') with
  | mk a ks ih =>
    rintro ⟨h1, h2, h3⟩ t' h' e
    cases h' with
    | @mk a' ks' g1 g2 g3 =>
      rw [kD_mk, kD_mk] at e
      obtain ⟨e1, e2⟩ := build_inj (by rw [List.length_map]; exact h2) (by rw [List.length_map]; exact g2) h1 g1 e
      rw [show a = a' from e1, ih h3 g3 e2]
  | nil =>
    rename_i ks' _ e
    cases ks' with
    | nil => rfl
    | cons k ks => simp at e
  | cons k ks h1 h2 =>
    rename_i hk ks' g e
    cases ks' with
    | nil => simp at e
    | cons k' ks' =>
      simp only [List.map_cons, List.cons.injEq] at e
      rw [h1 (hk k (by simp)) (g k' (by simp)) e.1, h2 (fun j hj => hk j (by simp [hj])) (fun j hj => g j (by simp [hj])) e.2]
theorem edx_lwords {σ : L2.St} {G : Hp} {te : TE} {E : XK} {t : Tr} (h : Ed te σ G (tD id t)) (ok : okT id t) (hc : cntT t ≤ 500000) : EdX (tCall spLWords [] E (tCons te tNil)) σ G (fun d => ∃ zs : List Str, d = .lst (zs.map .str) ∧ zs.length ≤ 6 * cntT t ∧ ∀ z, z ∈ zs ↔ hasW t z) := fun H s Q q =>
  h H s _ fun v G1 H1 g1 r1 => ⟨G1, t, v, rfl, g1.s, r1, ok, hc, fun zs v G' H' g r h1 h2 => q _ v G' H' ⟨zs, rfl, h1, h2⟩ (g1.trans g) r⟩
theorem words_has {t1 t2 : Tr} (h1 : okT id t1) (h2 : okT id t2) (z : Str) : wordsOf t1 t2 z ↔ (z = "" ∨ hasW t1 z) ∨ hasW t2 z := by
  rw [hasW_rows h1, hasW_rows h2]
  unfold wordsOf
  constructor
  · rintro (h | ⟨r, h | h, hz⟩)
    · exact .inl (.inl h)
    · exact .inl (.inr ⟨r, h, hz⟩)
    · exact .inr ⟨r, h, hz⟩
  · rintro ((h | ⟨r, h, hz⟩) | ⟨r, h, hz⟩)
    · exact .inl h
    · exact .inr ⟨r, .inl h, hz⟩
    · exact .inr ⟨r, .inr h, hz⟩
theorem zip_ok {ks js : List Tr} {c : Nd} (h1 : ∀ k ∈ ks, okT id k) (h2 : ∀ k ∈ js, okT id k) (hz : cntT (.mk c js) ≤ 120000) : ∀ p ∈ ks.zip js, okT id p.1 ∧ okT id p.2 ∧ cntT p.2 ≤ 120000 := fun p hp => by
  have hm := List.of_mem_zip (a := p.1) (b := p.2) hp
  have hc : ∀ (l : List Tr), p.2 ∈ l → cntT p.2 ≤ cntL l := by
    intro l
    induction l with
    | nil => intro h; simp at h
    | cons j l ih =>
      intro h
      rcases List.mem_cons.mp h with h | h
      · rw [h]; simp only [cntL]; omega
      · have := ih h; simp only [cntL]; omega
  have h3 := hc js hm.2
  rw [cntT] at hz
  exact ⟨h1 _ hm.1, h2 _ hm.2, by omega⟩
theorem two_ok {c1 c2 d1 d2 : Tr} {c : Nd} (h1 : ∀ k ∈ [c1, c2], okT id k) (h2 : ∀ k ∈ [d1, d2], okT id k) (hz : cntT (.mk c [d1, d2]) ≤ 120000) : ∀ p ∈ [(c1, d1), (c2, d2)], okT id p.1 ∧ okT id p.2 ∧ cntT p.2 ≤ 120000 := zip_ok (ks := [c1, c2]) (js := [d1, d2]) h1 h2 hz
theorem zip_range {ks js : List Tr} (h : ks.length = js.length) : ((List.range ks.length).map fun j => D.tup [(ks.map (tD id)).getD j .non, (js.map (tD id)).getD j .non]) = (ks.zip js).map prT := by
  refine List.ext_getElem (by simp [h]) fun i h1 h2 => ?_
  have hi : i < ks.length := by simpa using h1
  have hj : i < js.length := by omega
  simp only [List.getElem_map, List.getElem_range, List.getElem_zip]
  rw [List.getD_eq_getElem?_getD, List.getD_eq_getElem?_getD, List.getElem?_map, List.getElem?_map, List.getElem?_eq_getElem hi, List.getElem?_eq_getElem hj]
  rfl
section
variable {P : Program} {w : World} {K : PySem.W.Frag} {mg : Str → Option Value} {base : Heap}
def rLFits : List D → D → Prop := fun ds d => ∃ (s t : Tr) (N : List Str) (b : Bool), ds = [tD id s, tD id t] ∧ okT id s ∧ okT id t ∧ cntT s ≤ 120000 ∧ cntT t ≤ 120000 ∧ N.length ≤ 9 ∧ (∀ r, (r ∈ rowsT s ∨ r ∈ rowsT t) → ∀ p ∈ r.ns, p.1 ∈ N) ∧ d = .bl b ∧ (b = true ↔ ∃ L F, MatT (wordsOf s t) L F s t)
abbrev N_law_fits : List Str := ["scheme", "kind", "words", "letters", "flags", "waiting", "step", "one", "other", "word", "mine", "theirs", "k"]
theorem sc_law_fits : FnScope ["scheme", "kind", "words", "letters", "flags", "waiting", "step", "one", "other", "word", "mine", "theirs", "k"] ["scheme", "kind"] (defScope s_law_fits) := ⟨rfl, rfl, rfl, by decide +kernel, rfl, by decide +kernel, by decide +kernel⟩
theorem ok_law_fits (T : Tx K mg) : Good P w K mg base CX0 "_law_fits" 4 ["scheme", "kind"] (spRel rLFits) := by
  obtain ⟨fd, F⟩ := T.f__law_fits
  refine ⟨T.m__law_fits, F.kp, fd, ?_, F.bindsN fun _ _ _ _ _ _ us hl => match us, hl with | [_, _], _ => rfl⟩
  have G_law_words := ok_law_words (P := P) (w := w) (base := base) T
  have G_law_same := ok_law_same (P := P) (w := w) (base := base) T
  have G_law_flag := ok_law_flag (P := P) (w := w) (base := base) T
  refine F.ok sc_law_fits (fun vs H Q E h => ?_) (fun cdv A outer s H vs Q E hr h => ?_)
  · obtain ⟨G, ds, d, _, r, ⟨s, t, N, b, rfl, _⟩, _⟩ := h
    exact r.len
  · obtain ⟨G, ds, d, s0, r, ⟨t1, t2, N, b, rfl, hf, hg, z1, z2, hN, hNr, rfl, hb⟩, k⟩ := h
    obtain ⟨v1, _, rfl, r_scheme, v2, _, rfl, r_kind, rfl⟩ := r
    refine ⟨_, PSs.nox ((pss_cons (ps_set (i := 2) sc_law_fits.nd rfl (Or.inr rfl) (pe_callB cr_sortedSA (by rfl) T.n_sorted (by decide +kernel) (pa_cons (pe_op op_cat (pe_op op_cat (pe_lst (pa_cons pe_str pa_nil)) (pe_g G_law_words (hr.mono (by decide)) (pa_cons (pv 0) pa_nil))) (pe_g G_law_words (hr.mono (by decide)) (pa_cons (pv 1) pa_nil))) pa_nil)))
    (pss_cons (ps_set (i := 2) sc_law_fits.nd rfl (Or.inr rfl) (pe_lc (own := [("k", 12)]) rfl sc_law_fits.nd (pi_range1 (by rfl) T.n_range (pa_cons (pe_callB call_len_seq (by rfl) T.n_len PySem.boot_len (pa_cons (pv 2) pa_nil)) pa_nil)) (blkOk_by (own := [("k", 12)]) (N := ["scheme", "kind", "words", "letters", "flags", "waiting", "step", "one", "other", "word", "mine", "theirs", "k"]) (sc := defScope s_law_fits) (by decide +kernel)) (fun _ _ _ _ _ => by exact (pg_name (i := 12) sc_law_fits.nd rfl (Or.inl rfl))) (fun _ _ _ _ _ => by exact (pts_one (PW.pt (pw_or (pt_cmpR op_eq (pv 12) pe_int (nomark _)) (pw_or1 (pt_cmpR op_ne (pe_ix (ixK_list (K := K) rfl) (pv 2) (pv 12) (fun _ _ => rfl)) (pe_ix (ixK_list (K := K) rfl) (pv 2) (pe_op op_sub (pv 12) pe_int) (fun _ _ => rfl)) (nomark _))))))) (fun _ _ _ _ _ => by exact (pe_ix (ixK_list (K := K) rfl) (pv 2) (pv 12) (fun _ _ => rfl)))))
    (pss_cons (ps_par3 (i := 3) (j := 4) (l := 5) (by rfl) sc_law_fits.nd rfl rfl rfl (by decide) (by decide) (by decide) rfl rfl rfl (pa_cons (pe_dnewK) (pa_cons (pe_dnewT) (pa_cons (pe_lst (pa_cons (pe_tup (pa_cons (pv 0) (pa_cons (pv 1) pa_nil))) pa_nil)) pa_nil))) (by rfl))
    (pss_cons (ps_for PassesOwn.never rfl (pi_range1 (by rfl) T.n_range (pa_cons (pe_op op_pow pe_int pe_int) pa_nil)) (pg_name (i := 6) sc_law_fits.nd rfl (Or.inl rfl)) (pss_cons (ps_if (pt_cmpR (op_eqNil hr.units) (pv 5) (pe_lst pa_nil) (nomark _)) (pss_one (ps_ret pe_bl)) pss_nil)
    (pss_cons (ps_asg (pe_bm0 PySem.F.plainAttrs_list PySem.F.slot_list_pop PySem.F.type_list_pop mt_pop (pv 5)) (pg_tup rfl (pgs_cons (pg_name (i := 7) sc_law_fits.nd rfl (Or.inr rfl)) (pgs_cons (pg_name (i := 8) sc_law_fits.nd rfl (Or.inr rfl)) pgs_nil))))
    (pss_one (ps_if (pt_cmpR op_eq (pe_ix ix_tup (pv 7) pe_int (fun _ _ => rfl)) pe_str (nomark _)) (pss_cons (ps_if (pt_cmp (pc_dnotin (Nat.lt_of_le_of_lt (Nat.add_le_add_left (by decide) _) hr.units) (pe_ix ix_tup (pv 7) pe_int (fun _ _ => rfl)) (pv 3)) (by rfl)) (pss_one (ps_asg (pv 8) (pg_sub (pv 3) (pe_ix ix_tup (pv 7) pe_int (fun _ _ => rfl)) (set_dict (Nat.lt_of_le_of_lt (Nat.add_le_add_left (by decide) _) hr.units))))) pss_nil)
    (pss_one (ps_if (pt_not (pt_val (pe_g G_law_same (hr.mono (by decide)) (pa_cons (pe_dget (Nat.lt_of_le_of_lt (Nat.add_le_add_left (by decide) _) hr.units) (pv 3) (pe_ix ix_tup (pv 7) pe_int (fun _ _ => rfl)) (fun _ _ => rfl)) (pa_cons (pv 8) pa_nil))))) (pss_one (ps_ret pe_bl)) pss_nil))) (pss_one (ps_if (PW.pt (pw_or (pt_cmpR op_ne (pe_ix ix_tup (pv 7) pe_int (fun _ _ => rfl)) (pe_ix ix_tup (pv 8) pe_int (fun _ _ => rfl)) (nomark _)) (pw_or1 (PW.pt (pw_and (pt_cmpR op_eq (pe_ix ix_tup (pv 7) pe_int (fun _ _ => rfl)) pe_str (nomark _)) (pw_and1 (PW.pt (pw_or (pt_cmpR op_ne (pe_ix ix_tup (pv 7) pe_int (fun _ _ => rfl)) (pe_ix ix_tup (pv 8) pe_int (fun _ _ => rfl)) (nomark _)) (pw_or1 (pt_cmpR op_ne (pe_callB call_len_seq (by rfl) T.n_len PySem.boot_len (pa_cons (pe_ix ix_tup (pv 7) pe_int (fun _ _ => rfl)) pa_nil)) (pe_callB call_len_seq (by rfl) T.n_len PySem.boot_len (pa_cons (pe_ix ix_tup (pv 8) pe_int (fun _ _ => rfl)) pa_nil)) (nomark _))))))))))) (pss_one (ps_ret pe_bl)) (pss_one (ps_if (pt_cmpR op_eq (pe_ix ix_tup (pv 7) pe_int (fun _ _ => rfl)) pe_str (nomark _)) (pss_one (ps_set (i := 5) sc_law_fits.nd rfl (Or.inl rfl) (pe_op op_cat (pv 5) (pe_lc (own := [("k", 12)]) rfl sc_law_fits.nd (pi_range1 (by rfl) T.n_range (pa_cons (pe_callB call_len_seq (by rfl) T.n_len PySem.boot_len (pa_cons (pe_ix ix_tup (pv 7) pe_int (fun _ _ => rfl)) pa_nil)) pa_nil)) (blkOk_by (own := [("k", 12)]) (N := ["scheme", "kind", "words", "letters", "flags", "waiting", "step", "one", "other", "word", "mine", "theirs", "k"]) (sc := defScope s_law_fits) (by decide +kernel)) (fun _ _ _ _ _ => by exact (pg_name (i := 12) sc_law_fits.nd rfl (Or.inl rfl))) (fun _ _ _ _ _ => by exact pts_nil) (fun _ _ _ _ _ => by exact (pe_tup (pa_cons (pe_ix (ixK_list (K := K) rfl) (pe_ix (ixK_tup (K := K) rfl) (pv 7) pe_int (fun _ _ => rfl)) (pv 12) (fun _ _ => rfl)) (pa_cons (pe_ix (ixK_list (K := K) rfl) (pe_ix (ixK_tup (K := K) rfl) (pv 8) pe_int (fun _ _ => rfl)) (pv 12) (fun _ _ => rfl)) pa_nil)))))))) (pss_one (ps_if (pt_cmpR op_eq (pe_ix ix_tup (pv 7) pe_int (fun _ _ => rfl)) pe_str (nomark _)) (pss_one (ps_set (i := 5) sc_law_fits.nd rfl (Or.inl rfl) (pe_op op_cat (pv 5) (pe_lst (pa_cons (pe_tup (pa_cons (pe_ix ix_tup (pv 7) pe_int (fun _ _ => rfl)) (pa_cons (pe_ix ix_tup (pv 8) pe_int (fun _ _ => rfl)) pa_nil))) (pa_cons (pe_tup (pa_cons (pe_ix ix_tup (pv 7) pe_int (fun _ _ => rfl)) (pa_cons (pe_ix ix_tup (pv 8) pe_int (fun _ _ => rfl)) pa_nil))) pa_nil)))))) (pss_one (ps_if (pt_cmpR op_eq (pe_ix ix_tup (pv 7) pe_int (fun _ _ => rfl)) pe_str (nomark _)) (pss_cons (ps_set (i := 5) sc_law_fits.nd rfl (Or.inl rfl) (pe_op op_cat (pv 5) (pe_lst (pa_cons (pe_tup (pa_cons (pe_ix ix_tup (pv 7) pe_int (fun _ _ => rfl)) (pa_cons (pe_ix ix_tup (pv 8) pe_int (fun _ _ => rfl)) pa_nil))) (pa_cons (pe_tup (pa_cons (pe_ix ix_tup (pv 7) pe_int (fun _ _ => rfl)) (pa_cons (pe_ix ix_tup (pv 8) pe_int (fun _ _ => rfl)) pa_nil))) pa_nil)))))
    (pss_one (ps_for PassesOwn.never rfl (pi_list (pv 2)) (pg_name (i := 9) sc_law_fits.nd rfl (Or.inl rfl)) (pss_cons (ps_par (i := 10) (j := 11) (by rfl) sc_law_fits.nd rfl rfl (by decide) rfl rfl (pa_cons (pe_g G_law_flag (hr.mono (by decide)) (pa_cons (pe_ix ix_tup (pv 7) pe_int (fun _ _ => rfl)) (pa_cons (pv 9) pa_nil))) (pa_cons (pe_g G_law_flag (hr.mono (by decide)) (pa_cons (pe_ix ix_tup (pv 8) pe_int (fun _ _ => rfl)) (pa_cons (pv 9) pa_nil))) pa_nil)) (by rfl))
    (pss_cons (ps_if (PW.pt (pw_and (pt_cmpR (op_neS hr.units) (pv 10) pe_str (nomark _)) (pw_and1 (pt_cmp (pc_dnotin (Nat.lt_of_le_of_lt (Nat.add_le_add_left (by decide) _) hr.units) (pv 10) (pv 4)) (by rfl))))) (pss_one (ps_asg (pv 11) (pg_sub (pv 4) (pv 10) (set_dict (Nat.lt_of_le_of_lt (Nat.add_le_add_left (by decide) _) hr.units))))) pss_nil)
    (pss_one (ps_if (pt_cmpR (op_neD hr.units) (pv 11) (pe_ifExp (pt_cmpR (op_eqS hr.units) (pv 10) pe_str (nomark _)) pe_str (pe_dget (Nat.lt_of_le_of_lt (Nat.add_le_add_left (by decide) _) hr.units) (pv 4) (pv 10) (fun _ _ => rfl))) (nomark _)) (pss_one (ps_ret pe_bl)) pss_nil))))))) pss_nil)))))))))))))
    (pss_one (ps_ret pe_bl))))))), ?_⟩
    have g := gr0 (M := []) s0
    refine s_seq (s_setX (edx_sorted (P := fun zs => zs.length ≤ 1500000 ∧ ∀ z, z ∈ zs ↔ wordsOf t1 t2 z) (edx_op2 (P3 := fun d => ∃ zs : List Str, d = .lst (zs.map .str) ∧ zs.length ≤ 1500000 ∧ ∀ z, z ∈ zs ↔ wordsOf t1 t2 z) (edx_op2 (P3 := fun d => ∃ zs : List Str, d = .lst (zs.map .str) ∧ zs.length ≤ 720001 ∧ ∀ z, z ∈ zs ↔ (z = "" ∨ hasW t1 z)) (Ed.x (ed_lst (ds := [.str ""]) (eds_cons ed_str eds_nil) (Nat.le_of_ble_eq_true rfl))) (edx_lwords (ed_var rfl r_scheme) hf (by omega)) ?_) (edx_lwords (ed_var rfl r_kind) hg (by omega)) ?_)) g fun d vy G1 H1 hd g s1 k1 r_words => ?_)
    · rintro d e rfl ⟨zs, rfl, h1, h2⟩
      exact ⟨.lst ((("" : Str) :: zs).map .str), ⟨_, rfl, by rw [List.length_cons]; omega, fun z => by rw [List.mem_cons, h2]⟩, fun G' _ => rd_cat (by simp only [List.length_map, List.length_cons, List.length_nil]; omega)⟩
    · rintro d e ⟨zs, rfl, h1, h2⟩ ⟨ys, rfl, h3, h4⟩
      refine ⟨.lst ((zs ++ ys).map .str), ⟨_, rfl, by rw [List.length_append]; omega, fun z => by rw [List.mem_append, h2, h4, words_has hf hg]⟩, fun G' _ => ?_⟩
      rw [List.map_append]
      exact rd_cat (by simp only [List.length_map]; omega)
    obtain ⟨xs, ys, rfl, ⟨hxl, hxw⟩, hperm, hsort⟩ := hd
    have hyl : ys.length ≤ 1500000 := by rw [hperm.length_eq]; exact hxl
    have hyw : ∀ z, z ∈ ys ↔ wordsOf t1 t2 z := fun z => by rw [hperm.mem_iff, hxw]
    have r_scheme := r_scheme.mono s1
    have r_kind := r_kind.mono s1
    refine s_seq (s_set (d := .lst ((dedup ys).map .str)) (Ed.to (ed_lc (items := (List.range ((ys.length : Nat) : Int).toNat).map fun i => .int ((0 : Int) + (i : Nat))) (fun d => match d with | .int j => .str (ys.getD j.toNat "") | _ => .non) (fun d => match d with | .int j => keepAt ys j.toNat | _ => false) (es_range1 (n := ((ys.length : Nat) : Int)) ((ed_lenL (ed_var rfl r_words)).to (by rw [List.length_map])) (by omega) (by omega)) (by rw [List.length_map, List.length_range, Int.toNat_natCast]; omega) ?_) ?_) g fun vw G2 H2 g s2 r_ws => ?_)
    · intro d hd G' s'
      obtain ⟨j, hj, rfl⟩ := List.mem_map.mp hd
      have hjl : j < ys.length := by simpa using hj
      have hat : ∀ (i : Nat), i < ys.length → atI (ys.map D.str) ((i : Nat) : Int) = some (.str (ys.getD i "")) := fun i hi => atI_nat (by rw [List.getElem?_map, List.getElem?_eq_getElem hi, List.getD_eq_getElem?_getD, List.getElem?_eq_getElem hi]; rfl)
      have r_words := r_words.mono s'
      refine tk_name fun u r_k => ⟨rfl, ?_, fun _ => ?_⟩
      · rw [Int.zero_add] at r_k
        refine Eb.to (eb_or (b := decide (j = 0)) (c := !decide (ys.getD j "" = ys.getD (j - 1) "")) ((eb_test (ed_op (ed_var rfl r_k) ed_int fun _ _ => rd_eq rfl)).to ?_) fun h0 => eb_test (ed_op (ed_op (ed_var rfl r_words) (ed_var rfl r_k) fun _ _ => rd_ixL (hat j hjl)) (ed_op (ed_var rfl r_words) ((ed_op (ed_var rfl r_k) ed_int fun _ _ => rd_I0i).to (e := .int ((j - 1 : Nat) : Int)) ?_) fun _ _ => rd_ixL (hat (j - 1) (by omega))) fun _ _ => rd_ne rfl)) ?_
        · by_cases e : j = 0
          · subst e; rfl
          · rw [decide_eq_false e]
            exact decide_eq_false (by omega)
        · have : j ≠ 0 := of_decide_eq_false h0
          show D.int ((j : Int) - 1) = _
          congr 1
          omega
        · show _ = keepAt ys ((0 : Int) + (j : Nat)).toNat
          rw [Int.zero_add, Int.toNat_natCast]
          rfl
      · rw [Int.zero_add] at r_k
        refine (ed_op (ed_var rfl r_words) (ed_var rfl r_k) fun _ _ => rd_ixL (hat j hjl)).to ?_
        show _ = D.str (ys.getD ((0 : Int) + (j : Nat)).toNat "")
        rw [Int.zero_add, Int.toNat_natCast]
    · unfold dedup
      rw [List.filter_map, List.map_map, List.map_map, Int.toNat_natCast]
      have e1 : ((fun d => match d with | .int j => keepAt ys j.toNat | _ => false) ∘ fun i : Nat => D.int ((0 : Int) + (i : Nat))) = keepAt ys := funext fun i => by
        show keepAt ys ((0 : Int) + (i : Nat)).toNat = _
        rw [Int.zero_add, Int.toNat_natCast]
      rw [e1]
      refine congrArg D.lst (List.map_congr_left fun j _ => ?_)
      show D.str (ys.getD ((0 : Int) + (j : Nat)).toNat "") = _
      rw [Int.zero_add, Int.toNat_natCast]
      rfl
    obtain ⟨ws, hws⟩ : ∃ ws, ws = dedup ys := ⟨_, rfl⟩
    rw [← hws] at r_ws
    have hwW : ∀ z, z ∈ ws ↔ wordsOf t1 t2 z := fun z => by rw [hws, dedup_mem, hyw]
    have hwn : ws.length ≤ 10 := by
      have h1 : ws.Nodup := by rw [hws]; exact dedup_nodup hsort
      have h2 := nodup_len (N := ("" : Str) :: N) h1 fun z hz => by
        rcases (hwW z).mp hz with rfl | ⟨r, hr, hzr⟩
        · simp
        · obtain ⟨p, hp, rfl⟩ := List.mem_map.mp hzr
          exact List.mem_cons_of_mem _ (hNr r hr p hp)
      rw [List.length_cons] at h2
      omega
    have hwo : ∀ z ∈ ws, PyData.strOk z = true := fun z hz => by
      rcases (hwW z).mp hz with rfl | ⟨r, hr, hzr⟩
      · decide +kernel
      · obtain ⟨p, hp, rfl⟩ := List.mem_map.mp hzr
        rcases hr with hr | hr
        · exact small_ok ((row_ok hf hr).nm p hp).1
        · exact small_ok ((row_ok hg hr).nm p hp).1
    have r_scheme := r_scheme.mono s2
    have r_kind := r_kind.mono s2
    clear r_words
    obtain ⟨W, hW⟩ : ∃ W, W = wordsOf t1 t2 := ⟨_, rfl⟩
    rw [← hW] at hb hwW
    have bF : (∀ L F, ¬ MatT W L F t1 t2) → b = false := fun h => by
      cases b with
      | false => rfl
      | true =>
        obtain ⟨L, F, q⟩ := hb.mp rfl
        exact absurd q (h L F)
    have hz0 : szP [(t1, t2)] = cntT t1 := by simp [szP]
    simp only [tNext]
    refine s_seq (o_par3D (ds := [prT (t1, t2)]) (eds_cons (ed_tup (eds_cons (ed_var rfl r_scheme) (eds_cons (ed_var rfl r_kind) eds_nil)) (Nat.le_of_ble_eq_true rfl)) eds_nil) (Nat.le_of_ble_eq_true rfl) g fun la fa lw G4 H4 g s4 ola ofa ow nlf => ?_)
    have r_ws := r_ws.mono s4
    dsimp only
    refine s_seq (s_for (σ := [some v1, some v2, some vw, some (.ref la), some (.ref fa), some (.ref lw), none, none, none, none, none, none, none]) (items := (List.range ((10 : Int) ^ (9 : Int).toNat).toNat).map fun i => .int ((0 : Int) + (i : Nat))) (es_range1 (ed_op ed_int ed_int fun _ _ => rd_Ii ⟨by decide, by decide, by decide⟩) (by decide) (by decide)) g (fun i σ G' H' => ∃ (lw : Addr) (o6 o7 o8 o9 o10 o11 : Option V) (ts : List (Tr × Tr)) (kL : List (L2.Key × V)) (kF : List (List L2.Key × V)) (l : PL) (fl : PF), σ = [some v1, some v2, some vw, some (.ref la), some (.ref fa), some (.ref lw), o6, o7, o8, o9, o10, o11, none] ∧ Own H G' H' lw (ts.map prT) ∧ OwnO H G' H' la (.dK kL) ∧ OwnO H G' H' fa (.dT kF) ∧ DicL G' l kL ∧ DicT G' fl kF ∧ (∀ p ∈ ts, okT id p.1 ∧ okT id p.2 ∧ cntT p.2 ≤ 120000) ∧ (∀ L F, MatT W L F t1 t2 ↔ Rem W l fl ts L F) ∧ szP ts + i ≤ cntT t1 ∧ kL.length + szP ts ≤ 120000 ∧ kF.length + 10 * szP ts ≤ 1200000) (fun G' H' g' s' k' => ⟨lw, _, _, _, _, _, _, [(t1, t2)], [], [], fun _ => none, fun _ => none, rfl, ow.kp s' k', ola.kp k', ofa.kp k', ⟨fun _ _ => rfl, fun n v e => (by simp [valV] at e)⟩, ⟨fun _ _ => rfl, fun n v e => (by simp [valV] at e)⟩, fun p hp => (by rw [List.mem_singleton.mp hp]; exact ⟨hf, hg, z2⟩), fun L F => ⟨fun h => ⟨fun n t e => (by cases e), fun k d e => (by cases e), fun p hp => (by rw [List.mem_singleton.mp hp]; exact h)⟩, fun h => h.2.2 (t1, t2) (by simp)⟩, (by rw [hz0]; omega), (by rw [hz0]; simp only [List.length_nil]; omega), (by rw [hz0]; simp only [List.length_nil]; omega)⟩) ?_ ?_)
    · rintro Gs i d v σ Gi Hi Gj Hj hd sg sgi ⟨lw, o6, o7, o8, o9, o10, o11, ts, kL, kF, l, fl, rfl, ow, ola, ofa, cL, cF, hts, hRem, hsz, hkL, hkF⟩ g sj kj rv
      have ow := ow.kp sj kj
      have ola := ola.kp kj
      have ofa := ofa.kp kj
      have cL := cL.mono sj
      have cF := cF.mono sj
      have r_ws := r_ws.mono (sg.trans (sgi.trans sj))
      have sg := sgi.trans sj
      have nwl : lw ≠ la := ow.neO ola.e fun _ z => nomatch z
      have nwf : lw ≠ fa := ow.neO ofa.e fun _ z => nomatch z
      refine s_seq (s_ifH (b := (ts.map prT).isEmpty) (ow.eb g.s fun Gx s r => (eb_test (ed_op (ed_var rfl r) (ed_lst eds_nil (Nat.zero_le _)) fun _ _ => rd_eqNil)).to (by simp)) g (fun hb2 H5 g k5 => ?_) fun hb2 H5 g k5 => ?_)
      · have e : ts = [] := by cases ts with | nil => rfl | cons a c => cases hb2
        subst e
        have e : b = true := hb.mpr ⟨fun n => (l n).getD (.mk .pair []), fun q => (fl q).getD .non, (hRem _ _).mpr ⟨fun n t e => (by show (l n).getD _ = t; rw [e]; rfl), fun q d e => (by show (fl q).getD _ = d; rw [e]; rfl), fun p hp => (by simp at hp)⟩⟩
        rw [e] at k
        exact s_ret ed_bl g k
      have ow := ow.kp (Same.refl _) k5
      have ola := ola.kp k5
      have ofa := ofa.kp k5
      rcases nil_or_snoc ts with rfl | ⟨ts, p, rfl⟩
      · cases hb2
      obtain ⟨x1, x2⟩ := p
      obtain ⟨ok1, ok2, zc2⟩ := hts (x1, x2) (by simp)
      have hts' : ∀ p ∈ ts, okT id p.1 ∧ okT id p.2 ∧ cntT p.2 ≤ 120000 := fun p hp => hts p (by simp [hp])
      have ok2' : okT id x2 := ok2
      have zc2' : cntT x2 ≤ 120000 := zc2
      cases ok1 with
      | @mk a ks ha1 hl1 hk1 =>
      have ha1 : okNd a := ha1
      have hl1 : ks.length = a.many := hl1
      have e1 : szP (ts ++ [(Tr.mk a ks, x2)]) = szP ts + (cntL ks + 1) := by rw [szP_app]; simp [szP, cntT]
      rw [e1] at hkL hkF hsz
      have hlt := szP_len ts
      simp only [tNext]
      refine s_seq (o_pop2 (d := tD id (.mk a ks)) (e := tD id x2) (ds := ts.map prT) rfl g (by rw [List.map_append] at ow; exact ow) rfl fun x y H6 g ow2 ks1 ko r_one r_other => ?_)
      have ola := ola.kq ko (Ne.symm nwl)
      have ofa := ofa.kq ko (Ne.symm nwf)
      -- the next turn
      have nxt : ∀ (lw3 : Addr) (G3 H3 : Hp) (kL3 : List (L2.Key × V)) (kF3 : List (List L2.Key × V)) (l3 : PL) (fl3 : PF) (qs : List (Tr × Tr)) (o9 o10 o11 : Option V), Gr [] G H G3 H3 → Same Gj G3 → Own H G3 H3 lw3 ((ts ++ qs).map prT) → OwnO H G3 H3 la (.dK kL3) → OwnO H G3 H3 fa (.dT kF3) → DicL G3 l3 kL3 → DicT G3 fl3 kF3 → kL3.length ≤ kL.length + 1 → kF3.length ≤ kF.length + 10 → szP qs ≤ cntL ks → (∀ p ∈ qs, okT id p.1 ∧ okT id p.2 ∧ cntT p.2 ≤ 120000) → (∀ L F, Rem W l fl (ts ++ [(Tr.mk a ks, x2)]) L F ↔ Rem W l3 fl3 (ts ++ qs) L F) →
          ∃ G', Gr [] G H G' H3 ∧ Same Gs G' ∧ ∃ (lw' : Addr) (o6' o7' o8' o9' o10' o11' : Option V) (ts : List (Tr × Tr)) (kL : List (L2.Key × V)) (kF : List (List L2.Key × V)) (l : PL) (fl : PF), [some v1, some v2, some vw, some (.ref la), some (.ref fa), some (.ref lw3), some v, some x, some y, o9, o10, o11, none] = [some v1, some v2, some vw, some (.ref la), some (.ref fa), some (.ref lw'), o6', o7', o8', o9', o10', o11', none] ∧ Own H G' H3 lw' (ts.map prT) ∧ OwnO H G' H3 la (.dK kL) ∧ OwnO H G' H3 fa (.dT kF) ∧ DicL G' l kL ∧ DicT G' fl kF ∧ (∀ p ∈ ts, okT id p.1 ∧ okT id p.2 ∧ cntT p.2 ≤ 120000) ∧ (∀ L F, MatT W L F t1 t2 ↔ Rem W l fl ts L F) ∧ szP ts + (i + 1) ≤ cntT t1 ∧ kL.length + szP ts ≤ 120000 ∧ kF.length + 10 * szP ts ≤ 1200000 := by
        intro lw3 G3 H3 kL3 kF3 l3 fl3 qs o9 o10 o11 g3 s3 ow3 ola3 ofa3 cL3 cF3 l3l l3f hsq hok hR
        have e2 := szP_app ts qs
        refine ⟨G3, g3, sg.trans s3, lw3, _, _, _, _, _, _, ts ++ qs, kL3, kF3, l3, fl3, rfl, ow3, ola3, ofa3, cL3, cF3, fun p hp => ?_, fun L F => (hRem L F).trans (hR L F), by omega, by omega, by omega⟩
        rcases List.mem_append.mp hp with q | q
        · exact hts' p q
        · exact hok p q
      have stop : (∀ L F, ¬ Rem W l fl (ts ++ [(Tr.mk a ks, x2)]) L F) → b = false := fun h => bF fun L F q => h L F ((hRem L F).mp q)
      rw [kD_mk] at r_one
      have hl1' : (ks.map (tD id)).length = a.many := by rw [List.length_map]; exact hl1
      obtain ⟨q1, eq1⟩ := build_hd hl1'
      have hone : Rp Gj (.tup (.str (hdN a) :: q1)) x := eq1 ▸ r_one
      simp only [tNext]
      by_cases hL : hdN a = "letter"
      · obtain ⟨n, e⟩ : ∃ n, a = .letter n := by
          cases a with
          | letter n => exact ⟨n, rfl⟩
          | _ => have := (isLet_hd ha1).mpr hL; cases this
        have hks : ks = [] := List.eq_nil_of_length_eq_zero (by rw [hl1, e]; rfl)
        have hmat : ∀ L F, MatT W L F (.mk a ks) x2 ↔ L n = x2 := fun L F => by rw [e, MatT]
        have r_let : Rp Gj (.tup [.str "letter", .int n]) x := by rw [e, hks] at r_one; exact r_one
        refine s_if' ((eb_test (ed_op (ed_op (ed_var rfl hone) ed_int fun _ _ => rd_ixT at0) ed_str fun _ _ => rd_eq rfl)).to (decide_eq_true hL)) g (fun _ H7 g k7 => ?_) fun z => nomatch z
        have ow2 := ow2.kp (Same.refl _) k7
        have ola := ola.kp k7
        have ofa := ofa.kp k7
        refine s_seq (s_newK (n := n) (ed_op (ed_var rfl r_let) ed_int fun _ _ => rd_ixT at1) rfl rfl ola g (by omega) fun G8 H8 kL8 g s8 ko8 ola hcase => ?_)
        have ow2 := ow2.kO s8 ko8 nwl
        have ofa := ofa.ko ko8 (Ne.symm nlf)
        have cF := cF.mono s8
        have r_let := r_let.mono s8
        have r_other := r_other.mono s8
        obtain ⟨l8, tu, u, hu, hlu, ru, oku, zu, cL8, hR8, hl8⟩ : ∃ (l8 : PL) (tu : Tr) (u : V), valV kL8 (.inl n) = some u ∧ l8 n = some tu ∧ Rp G8 (tD id tu) u ∧ okT id tu ∧ cntT tu ≤ 500000 ∧ DicL G8 l8 kL8 ∧ (∀ L F, Rem W l fl (ts ++ [(Tr.mk a ks, x2)]) L F ↔ (Rem W l8 fl ts L F ∧ tu = x2)) ∧ kL8.length ≤ kL.length + 1 := by
          have cL5 := cL.mono s8
          rcases hcase with ⟨rfl, u, hu⟩ | ⟨hu, rfl⟩
          · obtain ⟨tu, h1, h2, h3, h4⟩ := cL5.so n u hu
            refine ⟨l, tu, u, hu, h1, h2, h3, h4, cL5, fun L F => ?_, Nat.le_succ _⟩
            rw [rem_snoc, hmat]
            exact ⟨fun h => ⟨h.1, (h.1.1 n tu h1).symm.trans h.2⟩, fun h => ⟨h.1, (h.1.1 n tu h1).trans h.2⟩⟩
          · have hno := cL5.no n hu
            have hval : valV (putK kL (.inl n) y) (.inl n) = some y := by rw [valV_put, if_pos rfl]
            refine ⟨fun q => if q = n then some x2 else l q, x2, y, hval, if_pos rfl, r_other, ok2', Nat.le_trans zc2' (by decide), ⟨fun q hq => ?_, fun q u hq => ?_⟩, fun L F => ?_, length_putK kL (Sum.inl n : L2.Key) y⟩
            · rw [valV_put] at hq
              by_cases eq : q = n
              · rw [if_pos (by rw [eq])] at hq; cases hq
              · rw [if_neg (fun z => eq (Sum.inl.inj z))] at hq
                exact (if_neg eq).trans (cL5.no q hq)
            · rw [valV_put] at hq
              by_cases eq : q = n
              · rw [if_pos (by rw [eq])] at hq
                cases Option.some.inj hq
                exact ⟨x2, if_pos eq, r_other, ok2', Nat.le_trans zc2' (by decide)⟩
              · rw [if_neg (fun z => eq (Sum.inl.inj z))] at hq
                obtain ⟨t, h1, h2⟩ := cL5.so q u hq
                exact ⟨t, (if_neg eq).trans h1, h2⟩
            · rw [rem_snoc, hmat]
              constructor
              · rintro ⟨⟨h1, h2, h3⟩, h4⟩
                refine ⟨⟨fun q t hq => ?_, h2, h3⟩, rfl⟩
                by_cases eq : q = n
                · have hq : (if q = n then some x2 else l q) = some t := hq
                  rw [if_pos eq] at hq
                  rw [eq, h4]
                  exact Option.some.inj hq
                · exact h1 q t ((if_neg eq).symm.trans hq)
              · rintro ⟨⟨h1, h2, h3⟩, _⟩
                refine ⟨⟨fun q t hq => h1 q t ?_, h2, h3⟩, h1 n x2 (if_pos rfl)⟩
                by_cases eq : q = n
                · rw [eq, hno] at hq; cases hq
                · exact (if_neg eq).trans hq
        obtain ⟨c, hc⟩ : ∃ c : Bool, c = true ↔ tu = x2 := by
          by_cases e : tu = x2
          · exact ⟨true, by simp [e]⟩
          · exact ⟨false, by simp [e]⟩
        simp only [tNext]
        refine s_ifH (b := !c) (fun Q q => ?_) g (fun hb9 H9 g k9 => ?_) fun hb9 H9 g k9 => ?_
        · refine ⟨_, rfl, (ed_op (ed_var rfl r_let) ed_int fun _ _ => rd_ixT at1 : Ed _ _ G8 (.int n)) H8 g.s _ fun vn G9 H9 g9 r9 => ?_⟩
          cases (show vn = .int n from r9)
          refine ⟨la, u, rfl, hu ▸ DGet.k (k := .inl n) (ola.kp g9.kp).e, _, rfl, ?_⟩
          refine ⟨G9, [tD id tu, tD id x2], .bl c, g9.s, .cons (ru.mono g9.g) (.one (r_other.mono g9.g)), ⟨_, _, c, rfl, noDct_tree oku, noDct_tree ok2', ?_, rfl, ?_⟩, fun v7 G7 H7 g7 r7 => ⟨c, r7, q H7 (g9.trans g7).same⟩⟩
          · have := sz_tree ok2'
            omega
          · rw [hc]
            exact ⟨fun e => by rw [e], tD_inj oku ok2'⟩
        · have hbf : b = false := stop fun L F h => by
            have := hc.mpr ((hR8 L F).mp h).2
            rw [this] at hb9
            cases hb9
          rw [hbf] at k
          exact s_ret ed_bl g k
        · have e := hc.mp (by simpa using hb9)
          refine nxt lw G8 H9 kL8 kF l8 fl [] _ _ _ g s8 (by rw [List.append_nil]; exact ow2.kp (Same.refl _) k9) (ola.kp k9) (ofa.kp k9) cL8 cF hl8 (Nat.le_add_right _ _) (Nat.zero_le _) (fun p hp => by simp at hp) fun L F => ?_
          rw [List.append_nil, hR8]
          exact ⟨fun h => h.1, fun h => ⟨h, e⟩⟩
      · have hlet : isLet a = false := by
          cases q : isLet a with
          | false => rfl
          | true => exact absurd ((isLet_hd ha1).mp q) hL
        refine s_if' ((eb_test (ed_op (ed_op (ed_var rfl hone) ed_int fun _ _ => rd_ixT at0) ed_str fun _ _ => rd_eq rfl)).to (decide_eq_false hL)) g (fun z => nomatch z) fun _ H7 g k7 => ?_
        have ow2 := ow2.kp (Same.refl _) k7
        have ola := ola.kp k7
        have ofa := ofa.kp k7
        cases ok2 with
        | @mk c js ha2 hl2 hk2 =>
        have ha2 : okNd c := ha2
        have hl2 : js.length = c.many := hl2
        have hmat : ∀ L F, MatT W L F (.mk a ks) (.mk c js) ↔ (headF W F a c ∧ MatL W L F ks js) := fun L F => mat_node hlet
        rw [kD_mk] at r_other
        have hl2' : (js.map (tD id)).length = c.many := by rw [List.length_map]; exact hl2
        obtain ⟨q2, eq2⟩ := build_hd hl2'
        have hoth : Rp Gj (.tup (.str (hdN c) :: q2)) y := eq2 ▸ r_other
        by_cases hH : hdN a = hdN c
        · rcases head_same ha1 ha2 hL hH with ⟨wd, rfl, rfl⟩ | ⟨rfl, rfl⟩ | ⟨z1', m1, z2', m2, rfl, rfl⟩ | ⟨r1, r2, rfl, rfl⟩
          · obtain ⟨_, n1, n2, n3, n4, _⟩ := plain_word (show wd ∈ thePlain from ha1)
            have e1 : ks = [] := List.eq_nil_of_length_eq_zero hl1
            have e2 : js = [] := List.eq_nil_of_length_eq_zero hl2
            subst e1 e2
            have r_one : Rp Gj (.tup [.str wd]) x := r_one
            have r_other : Rp Gj (.tup [.str wd]) y := r_other
            refine s_if' (eb_orF (((eb_test (ed_op (ed_op (ed_var rfl r_one) ed_int fun _ _ => rd_ixT at0) (ed_op (ed_var rfl r_other) ed_int fun _ _ => rd_ixT at0) fun _ _ => rd_ne rfl)) : Eb _ _ _ _).to (by simp)) (eb_andF (((eb_test (ed_op (ed_op (ed_var rfl r_one) ed_int fun _ _ => rd_ixT at0) ed_str fun _ _ => rd_eq rfl)) : Eb _ _ _ _).to (decide_eq_false n3)))) g (fun z => nomatch z) fun _ H8 g k8 => ?_
            refine s_if' (((eb_test (ed_op (ed_op (ed_var rfl r_one) ed_int fun _ _ => rd_ixT at0) ed_str fun _ _ => rd_eq rfl)) : Eb _ _ _ _).to (decide_eq_false n3)) g (fun z => nomatch z) fun _ H9 g k9 => ?_
            refine s_if' (((eb_test (ed_op (ed_op (ed_var rfl r_one) ed_int fun _ _ => rd_ixT at0) ed_str fun _ _ => rd_eq rfl)) : Eb _ _ _ _).to (decide_eq_false n1)) g (fun z => nomatch z) fun _ H10 g k10 => ?_
            refine s_if' (((eb_test (ed_op (ed_op (ed_var rfl r_one) ed_int fun _ _ => rd_ixT at0) ed_str fun _ _ => rd_eq rfl)) : Eb _ _ _ _).to (decide_eq_false n2)) g (fun z => nomatch z) fun _ H11 g k11 => ?_
            have kk := ((k8.trans k9).trans k10).trans k11
            refine nxt lw Gj H11 kL kF l fl [] _ _ _ g (Same.refl _) (by rw [List.append_nil]; exact ow2.kp (Same.refl _) kk) (ola.kp kk) (ofa.kp kk) cL cF (Nat.le_succ _) (Nat.le_add_right _ _) (Nat.zero_le _) (fun p hp => by simp at hp) fun L F => ?_
            rw [List.append_nil, rem_snoc, hmat]
            exact ⟨fun h => h.1, fun h => ⟨h, rfl, trivial⟩⟩
          · obtain ⟨c1, c2, rfl⟩ : ∃ x y, ks = [x, y] := match ks, (show ks.length = 2 from hl1) with | [x, y], _ => ⟨x, y, rfl⟩
            obtain ⟨d1, d2, rfl⟩ : ∃ x y, js = [x, y] := match js, (show js.length = 2 from hl2) with | [x, y], _ => ⟨x, y, rfl⟩
            have r_one : Rp Gj (.tup [.str "pair", tD id c1, tD id c2]) x := r_one
            have r_other : Rp Gj (.tup [.str "pair", tD id d1, tD id d2]) y := r_other
            refine s_if' (eb_orF (((eb_test (ed_op (ed_op (ed_var rfl r_one) ed_int fun _ _ => rd_ixT at0) (ed_op (ed_var rfl r_other) ed_int fun _ _ => rd_ixT at0) fun _ _ => rd_ne rfl)) : Eb _ _ _ _).to rfl) (eb_andF (((eb_test (ed_op (ed_op (ed_var rfl r_one) ed_int fun _ _ => rd_ixT at0) ed_str fun _ _ => rd_eq rfl)) : Eb _ _ _ _).to rfl))) g (fun z => nomatch z) fun _ H8 g k8 => ?_
            refine s_if' ((eb_test (ed_op (ed_op (ed_var rfl r_one) ed_int fun _ _ => rd_ixT at0) ed_str fun _ _ => rd_eq rfl)) : Eb _ _ _ _) g (fun z => nomatch z) fun _ H9 g k9 => ?_
            refine s_if' ((eb_test (ed_op (ed_op (ed_var rfl r_one) ed_int fun _ _ => rd_ixT at0) ed_str fun _ _ => rd_eq rfl)) : Eb _ _ _ _) g (fun _ H10 g k10 => ?_) fun z => nomatch z
            have kk := (k8.trans k9).trans k10
            have ow2 := ow2.kp (Same.refl _) kk
            have ola := ola.kp kk
            have ofa := ofa.kp kk
            refine o_catN (es := [prT (c1, d1), prT (c2, d2)]) rfl ((ed_lst (eds_cons (ed_tup (eds_cons (ed_op (ed_var rfl r_one) ed_int fun _ _ => rd_ixT at1) (eds_cons (ed_op (ed_var rfl r_other) ed_int fun _ _ => rd_ixT at1) eds_nil)) (Nat.le_of_ble_eq_true rfl)) (eds_cons (ed_tup (eds_cons (ed_op (ed_var rfl r_one) ed_int fun _ _ => rd_ixT at2) (eds_cons (ed_op (ed_var rfl r_other) ed_int fun _ _ => rd_ixT at2) eds_nil)) (Nat.le_of_ble_eq_true rfl)) eds_nil)) (Nat.le_of_ble_eq_true rfl)) : Ed _ _ _ (.lst [prT (c1, d1), prT (c2, d2)])) g ow2 (by rw [List.length_map]; simp only [List.length_cons, List.length_nil]; omega) fun l6 G9 H11 g s9 k11 ow6 hn6 => ?_
            refine nxt l6 G9 H11 kL kF l fl [(c1, d1), (c2, d2)] _ _ _ g s9 (by rw [List.map_append]; exact ow6) (ola.kp k11) (ofa.kp k11) (cL.mono s9) (cF.mono s9) (Nat.le_succ _) (Nat.le_add_right _ _) (szP_zip [c1, c2] [d1, d2]) (two_ok hk1 hk2 zc2') fun L F => ?_
            rw [rem_snoc, rem_app, hmat, matL_zip]
            exact ⟨fun h => ⟨h.1, h.2.2.2⟩, fun h => ⟨h.1, trivial, rfl, h.2⟩⟩
          · have r_one : Rp Gj (.tup [.str "data", .str z1', .lst (ks.map (tD id))]) x := r_one
            have r_other : Rp Gj (.tup [.str "data", .str z2', .lst (js.map (tD id))]) y := r_other
            refine s_if' (b := !decide (z1' = z2') || !decide (ks.length = js.length)) (eb_orF (((eb_test (ed_op (ed_op (ed_var rfl r_one) ed_int fun _ _ => rd_ixT at0) (ed_op (ed_var rfl r_other) ed_int fun _ _ => rd_ixT at0) fun _ _ => rd_ne rfl)) : Eb _ _ _ _).to rfl) (eb_andT (((eb_test (ed_op (ed_op (ed_var rfl r_one) ed_int fun _ _ => rd_ixT at0) ed_str fun _ _ => rd_eq rfl)) : Eb _ _ _ _).to rfl) (eb_or (eb_test (ed_op (ed_op (ed_var rfl r_one) ed_int fun _ _ => rd_ixT at1) (ed_op (ed_var rfl r_other) ed_int fun _ _ => rd_ixT at1) fun _ _ => rd_ne rfl)) fun _ => (eb_test (ed_op (ed_lenL (ed_op (ed_var rfl r_one) ed_int fun _ _ => rd_ixT at2)) (ed_lenL (ed_op (ed_var rfl r_other) ed_int fun _ _ => rd_ixT at2)) fun _ _ => rd_ne rfl)).to ?_))) g (fun hb8 H8 g k8 => ?_) fun hb8 H8 g k8 => ?_
            · rw [List.length_map, List.length_map]
              by_cases e : ks.length = js.length
              · rw [e]; simp
              · rw [decide_eq_false e, decide_eq_false (fun z => e (Int.ofNat_inj.mp z))]
            · have hbf : b = false := stop fun L F h => by
                rw [rem_snoc, hmat, matL_zip] at h
                have h1 : z1' = z2' := h.2.1
                have h2 := h.2.2.1
                rw [decide_eq_true h1, decide_eq_true h2] at hb8
                cases hb8
              rw [hbf] at k
              exact s_ret ed_bl g k
            have h3 : z1' = z2' ∧ ks.length = js.length := by simpa using hb8
            refine s_if' ((eb_test (ed_op (ed_op (ed_var rfl r_one) ed_int fun _ _ => rd_ixT at0) ed_str fun _ _ => rd_eq rfl)) : Eb _ _ _ _) g (fun _ H9 g k9 => ?_) fun z => nomatch z
            have kk := k8.trans k9
            have ow2 := ow2.kp (Same.refl _) kk
            have ola := ola.kp kk
            have ofa := ofa.kp kk
            have hzl : (ks.zip js).length ≤ cntL ks := Nat.le_trans (szP_len _) (szP_zip ks js)
            have hzz : (ks.zip js).length = ks.length := by rw [List.length_zip, ← h3.2, Nat.min_self]
            refine o_catN (es := (ks.zip js).map prT) rfl ((ed_lcAll (items := (List.range (((ks.map (tD id)).length : Nat) : Int).toNat).map fun i => .int ((0 : Int) + (i : Nat))) (fun d => match d with | .int j => .tup [(ks.map (tD id)).getD j.toNat .non, (js.map (tD id)).getD j.toNat .non] | _ => .non) (es_range1 (ed_lenL (ed_op (ed_var rfl r_one) ed_int fun _ _ => rd_ixT at2)) (by omega) (by rw [List.length_map]; omega)) (by rw [List.length_map, List.length_range, Int.toNat_natCast, List.length_map]; omega) ?_).to ?_) g ow2 (by rw [List.length_map, List.length_map]; omega) fun l6 G9 H11 g s9 k11 ow6 hn6 => ?_
            · intro d hd G' s'
              obtain ⟨j, hj, rfl⟩ := List.mem_map.mp hd
              have hjl : j < ks.length := by simpa using hj
              have h1 : atI (ks.map (tD id)) ((0 : Int) + (j : Nat)) = some ((ks.map (tD id)).getD j .non) := by rw [Int.zero_add]; exact atI_nat (by rw [List.getD_eq_getElem?_getD, List.getElem?_eq_getElem (by rw [List.length_map]; exact hjl)]; rfl)
              have h2 : atI (js.map (tD id)) ((0 : Int) + (j : Nat)) = some ((js.map (tD id)).getD j .non) := by rw [Int.zero_add]; exact atI_nat (by rw [List.getD_eq_getElem?_getD, List.getElem?_eq_getElem (by rw [List.length_map, ← h3.2]; exact hjl)]; rfl)
              have r_one := r_one.mono s'
              have r_other := r_other.mono s'
              refine tk_name fun u hu => ⟨rfl, (ed_tup (eds_cons (ed_op (ed_op (ed_var rfl r_one) ed_int fun _ _ => rd_ixT at2) (ed_var rfl hu) fun _ _ => rd_ixL h1) (eds_cons (ed_op (ed_op (ed_var rfl r_other) ed_int fun _ _ => rd_ixT at2) (ed_var rfl hu) fun _ _ => rd_ixL h2) eds_nil)) (Nat.le_of_ble_eq_true rfl)).to ?_⟩
              simp
            · rw [← zip_range h3.2, Int.toNat_natCast, List.map_map]
              refine congrArg D.lst ?_
              rw [List.length_map]
              exact List.map_congr_left fun j _ => by simp
            refine nxt l6 G9 H11 kL kF l fl (ks.zip js) _ _ _ g s9 (by rw [List.map_append]; exact ow6) (ola.kp k11) (ofa.kp k11) (cL.mono s9) (cF.mono s9) (Nat.le_succ _) (Nat.le_add_right _ _) (szP_zip ks js) (zip_ok hk1 hk2 zc2') fun L F => ?_
            rw [rem_snoc, rem_app, hmat, matL_zip]
            exact ⟨fun h => ⟨h.1, h.2.2.2⟩, fun h => ⟨h.1, h3.1, h3.2, h.2⟩⟩
          · obtain ⟨c1, c2, rfl⟩ : ∃ x y, ks = [x, y] := match ks, (show ks.length = 2 from hl1) with | [x, y], _ => ⟨x, y, rfl⟩
            obtain ⟨d1, d2, rfl⟩ : ∃ x y, js = [x, y] := match js, (show js.length = 2 from hl2) with | [x, y], _ => ⟨x, y, rfl⟩
            have r_one : Rp Gj (.tup [.str "fun", tD id c1, r1.d, tD id c2]) x := r_one
            have r_other : Rp Gj (.tup [.str "fun", tD id d1, r2.d, tD id d2]) y := r_other
            refine s_if' (eb_orF (((eb_test (ed_op (ed_op (ed_var rfl r_one) ed_int fun _ _ => rd_ixT at0) (ed_op (ed_var rfl r_other) ed_int fun _ _ => rd_ixT at0) fun _ _ => rd_ne rfl)) : Eb _ _ _ _).to rfl) (eb_andF (((eb_test (ed_op (ed_op (ed_var rfl r_one) ed_int fun _ _ => rd_ixT at0) ed_str fun _ _ => rd_eq rfl)) : Eb _ _ _ _).to rfl))) g (fun z => nomatch z) fun _ H8 g k8 => ?_
            refine s_if' ((eb_test (ed_op (ed_op (ed_var rfl r_one) ed_int fun _ _ => rd_ixT at0) ed_str fun _ _ => rd_eq rfl)) : Eb _ _ _ _) g (fun z => nomatch z) fun _ H9 g k9 => ?_
            refine s_if' ((eb_test (ed_op (ed_op (ed_var rfl r_one) ed_int fun _ _ => rd_ixT at0) ed_str fun _ _ => rd_eq rfl)) : Eb _ _ _ _) g (fun z => nomatch z) fun _ H10 g k10 => ?_
            refine s_if' ((eb_test (ed_op (ed_op (ed_var rfl r_one) ed_int fun _ _ => rd_ixT at0) ed_str fun _ _ => rd_eq rfl)) : Eb _ _ _ _) g (fun _ H11 g k11 => ?_) fun z => nomatch z
            have kk := ((k8.trans k9).trans k10).trans k11
            have ow2 := ow2.kp (Same.refl _) kk
            have ola := ola.kp kk
            have ofa := ofa.kp kk
            refine s_seq (o_catN (es := [prT (c1, d1), prT (c2, d2)]) rfl ((ed_lst (eds_cons (ed_tup (eds_cons (ed_op (ed_var rfl r_one) ed_int fun _ _ => rd_ixT at1) (eds_cons (ed_op (ed_var rfl r_other) ed_int fun _ _ => rd_ixT at1) eds_nil)) (Nat.le_of_ble_eq_true rfl)) (eds_cons (ed_tup (eds_cons (ed_op (ed_var rfl r_one) ed_int fun _ _ => rd_ixT at3) (eds_cons (ed_op (ed_var rfl r_other) ed_int fun _ _ => rd_ixT at3) eds_nil)) (Nat.le_of_ble_eq_true rfl)) eds_nil)) (Nat.le_of_ble_eq_true rfl)) : Ed _ _ _ (.lst [prT (c1, d1), prT (c2, d2)])) g ow2 (by rw [List.length_map]; simp only [List.length_cons, List.length_nil]; omega) fun l6 G9 H12 g s9 k12 ow6 hn6 => ?_)
            have ola := ola.kp k12
            have ofa := ofa.kp k12
            have cL := cL.mono s9
            have cF := cF.mono s9
            have r_ws := r_ws.mono s9
            simp only [tNext]
            refine s_for (σ := [some v1, some v2, some vw, some (.ref la), some (.ref fa), some (.ref l6), some v, some x, some y, o9, o10, o11, none]) (items := ws.map .str) (es_list (ed_var rfl r_ws)) g (fun j σ G' H' => ∃ (o9 o10 o11 : Option V) (kF' : List (List L2.Key × V)) (fl' : PF), σ = [some v1, some v2, some vw, some (.ref la), some (.ref fa), some (.ref l6), some v, some x, some y, o9, o10, o11, none] ∧ Own H G' H' l6 ((ts ++ [(c1, d1), (c2, d2)]).map prT) ∧ OwnO H G' H' la (.dK kL) ∧ OwnO H G' H' fa (.dT kF') ∧ DicT G' fl' kF' ∧ kF'.length ≤ kF.length + j ∧ ∀ F, ext fl' F ↔ (ext fl F ∧ ∀ z ∈ ws.take j, fitF F r1 r2 z)) (fun G' H' g' s' k' => ⟨_, _, _, kF, fl, rfl, by rw [List.map_append]; exact ow6.kp s' k', ola.kp k', ofa.kp k', cF.mono s', Nat.le_refl _, fun F => ⟨fun h => ⟨h, fun z hz => by simp at hz⟩, fun h => h.1⟩⟩) ?_ ?_
            · rintro Gs2 j d v9 σ Gk Hk Gl Hl hd sg2 sgk ⟨p9, p10, p11, kF', fl', rfl, ow6, ola, ofa, cF, hkF', hE⟩ g sl kl rv
              rw [List.getElem?_map] at hd
              obtain ⟨z, hz1, rfl⟩ := Option.map_eq_some_iff.mp hd
              have hzm := List.mem_of_getElem? hz1
              have hjw := (List.getElem?_eq_some_iff.mp hz1).1
              have hok := hwo z hzm
              have ow6 := ow6.kp sl kl
              have ola := ola.kp kl
              have ofa := ofa.kp kl
              have cF := cF.mono sl
              have sS := (s9.trans sg2).trans (sgk.trans sl)
              have r_one := r_one.mono sS
              have r_other := r_other.mono sS
              have lt := lay_at r2 hok
              refine s_seq (s_par' (d := r1.at z) (e := r2.at z) (eds_cons (ed_rel (eds_cons (ed_op (ed_var rfl r_one) ed_int fun _ _ => rd_ixT at2) (eds_cons (ed_var rfl rv) eds_nil)) ⟨r1, z, rfl, rfl⟩) (eds_cons (ed_rel (eds_cons (ed_op (ed_var rfl r_other) ed_int fun _ _ => rd_ixT at2) (eds_cons (ed_var rfl rv) eds_nil)) ⟨r2, z, rfl, rfl⟩) eds_nil)) g fun vm vt G13 H13 g s13 k13 r_mine r_theirs => ?_)
              have ow6 := ow6.kp s13 k13
              have ola := ola.kp k13
              have ofa := ofa.kp k13
              have cF := cF.mono s13
              have n6f : l6 ≠ fa := ow6.neO ofa.e fun _ z => nomatch z
              simp only [tNext]
              refine s_seq (s_newF (r := r1) (z := z) rfl r_mine hok rfl rfl ofa g (by omega) fun H14 kF4 g ko ofa hcase => ?_)
              have ow6 := ow6.kO (Same.refl _) ko n6f
              have ola := ola.ko ko nlf
              simp only [tNext]
              -- what the dict tells then
              obtain ⟨du, fl4, hdu, cF4, hl4, hE4, hld, hnb⟩ : ∃ (du : D) (fl4 : PF), (isPre (r1.at z) = true ∧ du = .str "pre" ∨ isPre (r1.at z) = false ∧ ∃ u, valV kF4 (keyD (r1.at z)) = some u ∧ Rp G13 du u ∧ Lay 4 du) ∧ DicT G13 fl4 kF4 ∧ kF4.length ≤ kF'.length + 1 ∧ (r2.at z = du → ∀ F, ext fl4 F ↔ (ext fl' F ∧ fitF F r1 r2 z)) ∧ Lay 4 du ∧ (r2.at z ≠ du → ∀ F, ext fl' F → ¬ fitF F r1 r2 z) := by
                rcases hcase with ⟨hp, rfl⟩ | ⟨hp, ⟨rfl, u, hu⟩ | ⟨hu, rfl⟩⟩
                · have hfit : ∀ F, fitF F r1 r2 z ↔ r2.at z = .str "pre" := fun F => by
                    unfold fitF
                    rw [if_pos hp, isPre_iff]
                  refine ⟨.str "pre", fl', .inl ⟨hp, rfl⟩, cF, Nat.le_succ _, fun e F => ?_, .str (by decide +kernel), fun e F _ => ?_⟩
                  · rw [hfit]
                    exact ⟨fun h => ⟨h, e⟩, fun h => h.1⟩
                  · rw [hfit]
                    exact e
                · obtain ⟨d, h1, h2, h3⟩ := cF.so _ _ hu
                  have hfit : ∀ F, ext fl' F → (fitF F r1 r2 z ↔ r2.at z = d) := fun F hF => by
                    unfold fitF
                    rw [if_neg (by rw [hp]; simp), hF _ _ h1]
                    exact eq_comm
                  refine ⟨d, fl', .inr ⟨hp, u, hu, h2, h3⟩, cF, Nat.le_succ _, fun e F => ⟨fun h => ⟨h, (hfit F h).mpr e⟩, fun h => h.1⟩, h3, fun e F hF h => e ((hfit F hF).mp h)⟩
                · have hno := cF.no _ hu
                  have hfit : ∀ F, fitF F r1 r2 z ↔ F (keyD (r1.at z)) = r2.at z := fun F => by
                    unfold fitF
                    rw [if_neg (by rw [hp]; simp)]
                  refine ⟨r2.at z, fun q => if q = keyD (r1.at z) then some (r2.at z) else fl' q, .inr ⟨hp, vt, by rw [valV_put, if_pos rfl], r_theirs, lt⟩, ⟨fun q hq => ?_, fun q y hq => ?_⟩, length_putK kF' (keyD (r1.at z)) vt, fun _ F => ?_, lt, fun e => absurd rfl e⟩
                  · rw [valV_put] at hq
                    by_cases e : q = keyD (r1.at z)
                    · rw [if_pos e] at hq; cases hq
                    · rw [if_neg e] at hq ⊢
                      exact cF.no q hq
                  · rw [valV_put] at hq
                    by_cases e : q = keyD (r1.at z)
                    · rw [if_pos e] at hq
                      cases Option.some.inj hq
                      exact ⟨r2.at z, if_pos e, r_theirs, lt⟩
                    · rw [if_neg e] at hq
                      obtain ⟨d, h1, h2, h3⟩ := cF.so q y hq
                      exact ⟨d, by rw [if_neg e]; exact h1, h2, h3⟩
                  · rw [hfit]
                    constructor
                    · intro h
                      refine ⟨fun q d hq => h q d ?_, h _ _ (if_pos rfl)⟩
                      by_cases e : q = keyD (r1.at z)
                      · rw [e, hno] at hq; cases hq
                      · exact (if_neg e).trans hq
                    · rintro ⟨h1, h2⟩ q d hq
                      have hq : (if q = keyD (r1.at z) then some (r2.at z) else fl' q) = some d := hq
                      by_cases e : q = keyD (r1.at z)
                      · rw [if_pos e] at hq
                        rw [e, h2]
                        exact Option.some.inj hq
                      · rw [if_neg e] at hq
                        exact h1 q d hq
              have heq := eqv_iff lt.b hld.b
              refine s_ifH (ebh_flag (r := r1) (z := z) rfl r_mine hok rfl rfl r_theirs lt ofa g.s hdu) g (fun hb15 H15 g k15 => ?_) fun hb15 H15 g k15 => ?_
              · have hne : r2.at z ≠ du := fun e => by
                  rw [heq.mpr e] at hb15
                  cases hb15
                have hbf : b = false := stop fun L F h => by
                  rw [rem_snoc, hmat] at h
                  have h2 : ∀ y, W y → fitF F r1 r2 y := h.2.1
                  exact hnb hne F ((hE F).mpr ⟨h.1.2.1, fun y hy => h2 y ((hwW y).mp (List.mem_of_mem_take hy))⟩) (h2 z ((hwW z).mp hzm))
                rw [hbf] at k
                exact s_ret ed_bl g k
              · have he : r2.at z = du := heq.mp (by simpa using hb15)
                refine ⟨G13, g, sgk.trans (sl.trans s13), _, _, _, kF4, fl4, rfl, ow6.kp (Same.refl _) k15, ola.kp k15, ofa.kp k15, cF4, by omega, fun F => ?_⟩
                rw [hE4 he, hE, take_snoc hz1]
                constructor
                · rintro ⟨⟨a1, a2⟩, a3⟩
                  refine ⟨a1, fun y hy => ?_⟩
                  rcases List.mem_append.mp hy with hy | hy
                  · exact a2 y hy
                  · rw [List.mem_singleton.mp hy]
                    exact a3
                · rintro ⟨a1, a2⟩
                  exact ⟨⟨a1, fun y hy => a2 y (List.mem_append_left _ hy)⟩, a2 z (by simp)⟩
            · rintro σ G' H' g s' ⟨p9, p10, p11, kF', fl', rfl, ow6, ola, ofa, cF, hkF', hE⟩
              rw [List.length_map] at hkF' hE
              rw [List.take_length] at hE
              refine nxt l6 G' H' kL kF' l fl' [(c1, d1), (c2, d2)] _ _ _ g (s9.trans s') ow6 ola ofa (cL.mono s') cF (Nat.le_succ _) (by omega) (szP_zip [c1, c2] [d1, d2]) (two_ok hk1 hk2 zc2') fun L F => ?_
              rw [rem_snoc, rem_app, hmat, matL_zip]
              have hhd : headF W F (.func r1) (.func r2) ↔ ∀ z ∈ ws, fitF F r1 r2 z := by
                show (∀ z, W z → fitF F r1 r2 z) ↔ _
                exact ⟨fun h z hz => h z ((hwW z).mp hz), fun h z hz => h z ((hwW z).mpr hz)⟩
              rw [hhd]
              unfold Rem
              rw [hE]
              exact ⟨fun h => ⟨⟨h.1.1, ⟨h.1.2.1, h.2.1⟩, h.1.2.2⟩, h.2.2.2⟩, fun h => ⟨⟨h.1.1, h.1.2.1.1, h.1.2.2⟩, h.1.2.1.2, rfl, h.2⟩⟩
        · refine s_if' (eb_orT ((eb_test (ed_op (ed_op (ed_var rfl hone) ed_int fun _ _ => rd_ixT at0) (ed_op (ed_var rfl hoth) ed_int fun _ _ => rd_ixT at0) fun _ _ => rd_ne rfl)).to (c := true) (by rw [decide_eq_false hH]; rfl))) g (fun _ H8 g k8 => ?_) fun z => nomatch z
          have hbf : b = false := stop fun L F h => by
            rw [rem_snoc] at h
            exact hH (headF_hd ((hmat L F).mp h.2).1)
          rw [hbf] at k
          exact s_ret ed_bl g k
    · rintro σ G' H' g s' ⟨lw, o6, o7, o8, o9, o10, o11, ts, kL, kF, l, fl, rfl, ow, ola, ofa, cL, cF, hts, hRem, hsz, hkL, hkF⟩
      exfalso
      rw [List.length_map, List.length_range] at hsz
      have e : ((10 : Int) ^ (9 : Int).toNat).toNat = 1000000000 := by decide
      omega
end
end K18
set_option maxHeartbeats 4000000
/-! What is told of trees that are built of right nodes. -/
namespace K18
open PySem PySem.Spec PyProof.Rows L2 Kd
theorem isFlag_d {f : Fl} (h : okFl f) : isFlag f.d = true := by
  cases f with
  | pre => rfl
  | num n =>
    show (decide (("flag" : Str) = "flag") && decide (0 ≤ n)) = true
    rw [decide_eq_true (show (0 : Int) ≤ n from h)]
    rfl
theorem isRow_d {r : Ro} (h : okRo r) : isRow r.d = true := by
  show (decide (0 ≤ r.t) && ((r.ns.map nmD).all isNamed && rising (r.ns.map nmD))) = true
  rw [decide_eq_true h.tl, h.up]
  simp only [Bool.true_and, Bool.and_true, List.all_map, List.all_eq_true]
  intro p hp
  obtain ⟨h1, _, h3⟩ := h.nm p hp
  show (isSmall (.str p.1) && isFlag p.2.d) = true
  rw [h1, isFlag_d h3]
  rfl
theorem rowOk_d {r : Ro} (h : okRo r) : rowOk r.d := by
  refine ⟨fun n hn => ?_, by rw [List.length_map]; have := h.len; omega⟩
  obtain ⟨p, hp, rfl⟩ := List.mem_map.mp hn
  have := h.nm p hp
  refine ⟨show p.1.length ≤ 1000 by omega, ?_⟩
  cases hf : p.2 with
  | pre => exact trivial
  | num n => rfl
theorem parts_build {a : Nd} {ps : List D} (h : okNd a) (hp : ps.length = a.many) : partsOf (build a ps) = some ps := by
  cases a with
  | plain w =>
    have e : ps = [] := List.eq_nil_of_length_eq_zero hp
    subst e
    have hw : w ∈ thePlain := h
    simp only [thePlain, List.mem_cons, List.not_mem_nil, or_false] at hw
    rcases hw with rfl | rfl | rfl | rfl <;> rfl
  | letter n =>
    have e : ps = [] := List.eq_nil_of_length_eq_zero hp
    subst e
    show (if oneNum [.int n] = true then some [] else none) = some ([] : List D)
    rw [if_pos (show oneNum [.int n] = true from decide_eq_true (p := 0 ≤ n) h)]
  | pair => match ps, hp with | [p, q], _ => rfl
  | data s m =>
    show (if isGreat (.str s) = true then some ps else none) = some ps
    rw [if_pos h.1]
  | func r => match ps, hp with
    | [p, q], _ =>
      show (if isRow r.d = true then some [p, q] else none) = some [p, q]
      rw [if_pos (isRow_d h)]
theorem isKind_build {a : Nd} {ps : List D} (h : okNd a) (hp : ps.length = a.many) : isKind (build a ps) = ps.all isKind := by
  rw [isKind_eq, parts_build h hp]
theorem rch_first {x y : D} (h : Rch x y) : y = x ∨ ∃ ps p, partsOf x = some ps ∧ p ∈ ps ∧ Rch p y := by
  induction h with
  | refl => exact .inl rfl
  | @step y z ps h1 h2 h3 ih =>
    rcases ih with rfl | ⟨ps', p, e, hp, hr⟩
    · exact .inr ⟨ps, z, h2, h3, .refl⟩
    · exact .inr ⟨ps', p, e, hp, .step hr h2 h3⟩
theorem kindOk_mk {x : D} (h : partsOk x) (k : ∀ ps, partsOf x = some ps → ∀ p ∈ ps, kindOk p) : kindOk x := fun y r => by
  rcases rch_first r with rfl | ⟨ps, p, e, hp, hr⟩
  · exact h
  · exact k ps e p hp y hr
theorem partsOk_build {a : Nd} {ps : List D} (h : okNd a) (hp : ps.length = a.many) : partsOk (build a ps) := by
  cases a with
  | plain w =>
    obtain ⟨_, _, h2, h3, _⟩ := plain_word h
    exact ⟨Nat.zero_le _, fun e => absurd e h2, fun e => absurd e h3⟩
  | letter n => exact ⟨by simp, fun e => absurd e (by decide), fun e => absurd e (by decide)⟩
  | pair => match ps, hp with | [p, q], _ => exact ⟨by simp, fun e => absurd e (by decide), fun e => absurd e (by decide)⟩
  | data s m =>
    refine ⟨by simp, fun e => absurd e (by decide), fun _ n k e => ?_⟩
    cases e
    show s.length ≤ 1000
    have := h.2
    omega
  | func r => match ps, hp with
    | [p, q], _ =>
      refine ⟨by simp, fun _ a r' b e => ?_, fun e => absurd e (by decide)⟩
      cases e
      exact rowOk_d h
theorem kindOk_build {a : Nd} {ps : List D} (h : okNd a) (hp : ps.length = a.many) (k : ∀ p ∈ ps, kindOk p) : kindOk (build a ps) := kindOk_mk (partsOk_build h hp) fun qs e => by
  rw [parts_build h hp] at e
  cases e
  exact k
theorem szD_nm (p : Str × Fl) : szD (nmD p) ≤ 5 := by
  obtain ⟨z, f⟩ := p
  cases f <;> simp [nmD, Fl.d, szD, szL]
theorem szL_nms : ∀ fs : List (Str × Fl), szL (fs.map nmD) ≤ 5 * fs.length
  | [] => by simp [szL]
  | p :: fs => by
    have := szL_nms fs
    have := szD_nm p
    simp only [List.map_cons, szL, List.length_cons]
    omega
theorem szD_row {r : Ro} (h : okRo r) : szD r.d ≤ 33 := by
  have h1 := szL_nms r.ns
  have h2 := h.len
  simp only [Ro.d, Ro.l, szD, szL]
  omega
theorem szD_build {a : Nd} {ps : List D} (h : okNd a) (hp : ps.length = a.many) : szD (build a ps) ≤ szL ps + 40 := by
  cases a with
  | plain w => simp [build, szD, szL]
  | letter n => simp [build, szD, szL]
  | pair => match ps, hp with | [p, q], _ => simp [build, szD, szL]; omega
  | data s m => simp [build, szD, szL]; omega
  | func r => match ps, hp with
    | [p, q], _ =>
      have := szD_row h
      simp [build, szD, szL]
      omega
end K18
set_option maxHeartbeats 4000000
namespace Kd
open PySem PySem.Spec PyProof.Rows L2
section
variable {K : PySem.W.Frag} {σ : L2.St} {G : Hp} {te ta tl : TE} {d : D} {p : Addr}
theorem edp_modOf {m : Int} {ds : List D} (hl : Ed ta σ G (.lst ds)) (hp : EdP p te σ G (fun d => ∃ r : Int, d = .int r ∧ 0 ≤ r ∧ r < m)) (hL : Ed tl σ G (.int ds.length)) (hn : 0 < ds.length) :
    EdP p (tOp (rIxL K) ta (tOp (rI (fun _ j => 0 < j) fun i j => .int (i % j)) (tCB (fun xs H Q => (∃ i, xs = [.int i] ∧ Q (.int i) H) ∨ ∃ k, xs = [.bl k] ∧ Q (.int (if k then 1 else 0)) H) (tCons te tNil)) tl)) σ G (fun d => d ∈ ds) :=
  edp_op (Ed.pl hl) (edp_op (P3 := fun d => ∃ r : Int, d = .int r ∧ 0 ≤ r ∧ r < (ds.length : Int)) (edp_cb (P3 := fun d => ∃ r : Int, d = .int r) (edsp_cons hp edsp_nil) fun ds h => by
    obtain ⟨d, r, rfl, ⟨x, rfl, _⟩, rfl⟩ := h
    exact ⟨_, ⟨x, rfl⟩, fun _ _ => rdc_int1⟩) (Ed.pl hL) fun d e hd he => by
      obtain ⟨r, rfl⟩ := hd
      subst he
      have h0 : (0 : Int) < ds.length := by omega
      exact ⟨_, ⟨_, rfl, Int.emod_nonneg _ (by omega), Int.emod_lt_of_pos _ h0⟩, fun _ _ => rd_Ii h0⟩) fun d e hd he => by
    subst hd
    obtain ⟨r, rfl, h0, h1⟩ := he
    obtain ⟨j, rfl⟩ := Int.eq_ofNat_of_zero_le h0
    have hj : j < ds.length := by omega
    exact ⟨ds[j], List.getElem_mem hj, fun _ _ => rd_ixL (atI_nat (by simp [hj]))⟩
end
end Kd
namespace K18
open PySem PySem.Spec PyProof.Rows L2 Kd
/-! forms that are no kinds, as a test -/
def strB : D → Bool
  | .str s => decide (s.length ≤ 1000)
  | _ => true
def flagB : D → Bool
  | .tup [a, _] => !isDct a
  | _ => true
def namB : D → Bool
  | .tup [a, b] => strB a && flagB b
  | _ => true
def rowB : D → Bool
  | .tup [.lst ns, _] => ns.all namB && decide (ns.length ≤ 1000)
  | _ => true
def funB : List D → Bool
  | [_, r, _] => rowB r
  | _ => true
def dataB : List D → Bool
  | [n, _] => strB n
  | _ => true
def partB : D → Bool
  | .tup (.str w :: rest) => decide (rest.length ≤ 1000) && ((!decide (w = "fun") || funB rest) && (!decide (w = "data") || dataB rest))
  | _ => true
theorem strB_of {d : D} (h : strB d = true) : strOk d := by
  cases d with
  | str s => exact of_decide_eq_true (p := s.length ≤ 1000) h
  | _ => trivial
theorem flagB_of {d : D} (h : flagB d = true) : flagOk d := by
  cases d with
  | tup ds => match ds, h with
    | [], _ => trivial
    | [_], _ => trivial
    | [a, _], h => exact (Bool.not_eq_true' _).mp h
    | _ :: _ :: _ :: _, _ => trivial
  | _ => trivial
theorem namB_of {d : D} (h : namB d = true) : namedOk d := by
  cases d with
  | tup ds => match ds, h with
    | [], _ => trivial
    | [_], _ => trivial
    | [a, b], h =>
      have h := (Bool.and_eq_true _ _).mp h
      exact ⟨strB_of h.1, flagB_of h.2⟩
    | _ :: _ :: _ :: _, _ => trivial
  | _ => trivial
theorem rowB_of {d : D} (h : rowB d = true) : rowOk d := by
  cases d with
  | tup ds => match ds, h with
    | [], _ => trivial
    | [a], _ => cases a <;> trivial
    | [a, b], h =>
      cases a with
      | lst ns =>
        have h := (Bool.and_eq_true _ _).mp h
        exact ⟨fun n hn => namB_of (List.all_eq_true.mp h.1 n hn), of_decide_eq_true h.2⟩
      | _ => trivial
    | a :: _ :: _ :: _, _ => cases a <;> trivial
  | _ => trivial
theorem partB_of {d : D} (h : partB d = true) : partsOk d := by
  cases d with
  | tup ds =>
    cases ds with
    | nil => trivial
    | cons a rest =>
      cases a with
      | str w =>
        have h := (Bool.and_eq_true _ _).mp h
        have h2 := (Bool.and_eq_true _ _).mp h.2
        refine ⟨of_decide_eq_true h.1, fun e a r b er => ?_, fun e n k er => ?_⟩
        · have h3 := h2.1
          rw [decide_eq_true e, er] at h3
          exact rowB_of h3
        · have h3 := h2.2
          rw [decide_eq_true e, er] at h3
          exact strB_of h3
      | _ => trivial
  | _ => trivial
theorem kind_leaf {d : D} (h : partsOf d = none) (k : partsOk d) : kindOk d ∧ isKind d = false := ⟨kindOk_mk k fun ps e => (nomatch h.symm.trans e), (by rw [isKind_eq, h])⟩
def leafB (d : D) : Bool := partB d && (partsOf d).isNone
theorem leafB_of {d : D} (h : leafB d = true) : kindOk d ∧ isKind d = false := by
  have h := (Bool.and_eq_true _ _).mp h
  exact kind_leaf (Option.isNone_iff_eq_none.mp h.2) (partB_of h.1)
def wrongB (d : D) : Bool := partB d && match partsOf d with
  | none => true
  | some ps => !ps.isEmpty && ps.all leafB
theorem wrongB_of {d : D} (h : wrongB d = true) : kindOk d ∧ isKind d = false := by
  have h := (Bool.and_eq_true _ _).mp h
  cases e : partsOf d with
  | none => exact kind_leaf e (partB_of h.1)
  | some ps =>
    have h2 := h.2
    rw [e] at h2
    have h2 := (Bool.and_eq_true _ _).mp h2
    have h3 := List.all_eq_true.mp h2.2
    refine ⟨kindOk_mk (partB_of h.1) fun qs e2 p hp => ?_, ?_⟩
    · rw [e] at e2
      cases e2
      exact (leafB_of (h3 p hp)).1
    · rw [isKind_eq, e]
      cases ps with
      | nil => cases h2.1
      | cons q qs =>
        show (isKind q && qs.all isKind) = false
        rw [(leafB_of (h3 q (by simp))).2]
        rfl
def wParts : List D := [.tup [.str "int", .int 1], .tup [.str "letter", .int (-1)], .tup [.str "letter", .bl true], .tup [.str "letter"], .tup [.str "flag", .int 0], .lst [.str "int"], .str "int", .non, .int 7, .tup [.str "pair", .tup [.str "int"]], .tup [.str "Int"], .tup [], .tup [.str "data", .str "opt", .lst []], .tup [.str "data", .str "Opt", .tup []], .tup [.str "data", .str "Thirteensigns", .lst []], .tup [.str "data", .str "O-", .lst []], .tup [.str "fun", .tup [.str "int"], .tup [.lst [], .int 0]], .tup [.str "unit", .tup []], .tup [.str "void", .lst []], .tup [.str "letter", .str "0"], .tup [.str "pair", .tup [.str "int"], .tup [.str "int"], .tup [.str "int"]], .tup [.str "data", .str "Opt", .lst [.non]], .bl true, .tup [.str "data", .str "Opt"], .tup [.str "letter", .int 0, .int 0]]
def wRows : List D := [.tup [.lst [], .int (-1)], .tup [.lst [], .bl true], .tup [.tup [], .int 0], .lst [.lst [], .int 0], .tup [.lst [], .int 0, .int 0], .tup [.lst [.tup [.str "o", .str "pre"], .tup [.str "o", .str "pre"]], .int 0], .tup [.lst [.tup [.str "p", .str "pre"], .tup [.str "o", .str "pre"]], .int 0], .tup [.lst [], .str "0"], .tup [.lst [.tup [.str "o", .str "Pre"]], .int 0], .tup [.lst [.tup [.str "o", .tup [.str "flag", .int (-1)]]], .int 0], .tup [.lst [.tup [.str "o", .tup [.str "flag", .bl false]]], .int 0], .tup [.lst [.tup [.str "O", .str "pre"]], .int 0], .tup [.lst [.tup [.str "do", .str "pre"]], .int 0], .non, .tup [.lst [.lst [.str "o", .str "pre"]], .int 0], .tup [.lst [.tup [.str "o", .lst [.str "flag", .int 0]]], .int 0], .tup [.lst [.tup [.str "o", .str "pre", .int 0]], .int 0], .tup [.lst [.tup [.str "thirteensigns", .str "pre"]], .int 0], .tup [.lst [.tup [.str "", .str "pre"]], .int 0], .tup [.lst []], .tup [.lst [.tup [.str "o", .tup [.str "flag", .int 0, .int 0]]], .int 0], .tup [.lst [.tup [.str "o", .non]], .int 0], .tup [.lst [.tup [.str "void", .str "pre"]], .int 0], .tup [.lst [.tup [.str "o", .tup [.str "letter", .int 0]]], .int 0], .tup [.lst [.tup [.str "1o", .str "pre"]], .int 0]]
theorem wParts_ok : (wParts.all fun d => wrongB d) = true := by decide +kernel
theorem wRows_ok : (wRows.all fun d => !isRow d && rowB d) = true := by decide +kernel
theorem wParts_sz : ∀ d ∈ wParts, szD d ≤ 30 := by
  unfold wParts
  simp [szD, szL]
theorem wRows_sz : ∀ d ∈ wRows, szD d ≤ 30 := by
  unfold wRows
  simp [szD, szL]
/-- none: one part of these is none, the others may be right -/
structure WrongD (m : Nat) (d : D) : Prop where
  ok : kindOk d
  no : isKind d = false
  sz : szD d ≤ m
theorem wrong_pair {x y : D} (hx : kindOk x) (hy : kindOk y) (h : isKind y = false) : kindOk (.tup [.str "pair", x, y]) ∧ isKind (.tup [.str "pair", x, y]) = false := by
  have e : partsOf (.tup [.str "pair", x, y]) = some [x, y] := rfl
  refine ⟨kindOk_mk ⟨by simp, fun e => absurd e (by decide), fun e => absurd e (by decide)⟩ fun ps e2 p hp => ?_, by rw [isKind_eq, e]; simp [h]⟩
  rw [e] at e2
  cases e2
  simp only [List.mem_cons, List.not_mem_nil, or_false] at hp
  rcases hp with rfl | rfl
  · exact hx
  · exact hy
theorem wrong_data {x y : D} (hx : kindOk x) (hy : kindOk y) (h : isKind y = false) : kindOk (.tup [.str "data", .str "Opt", .lst [x, y, x]]) ∧ isKind (.tup [.str "data", .str "Opt", .lst [x, y, x]]) = false := by
  have e : partsOf (.tup [.str "data", .str "Opt", .lst [x, y, x]]) = some [x, y, x] := by
    show (if isGreat (.str "Opt") = true then some [x, y, x] else none) = _
    rw [if_pos (by decide +kernel)]
  refine ⟨kindOk_mk ⟨by simp, fun e => absurd e (by decide), fun _ n k e => ?_⟩ fun ps e2 p hp => ?_, by rw [isKind_eq, e]; simp [h]⟩
  · cases e
    show ("Opt" : Str).length ≤ 1000
    decide
  · rw [e] at e2
    cases e2
    simp only [List.mem_cons, List.not_mem_nil, or_false] at hp
    rcases hp with rfl | rfl | rfl
    · exact hx
    · exact hy
    · exact hx
theorem wrong_fun {x y : D} (hx : kindOk x) (hy : kindOk y) (h : isKind y = false) : kindOk (.tup [.str "fun", y, .tup [.lst [], .int 0], x]) ∧ isKind (.tup [.str "fun", y, .tup [.lst [], .int 0], x]) = false := by
  have e : partsOf (.tup [.str "fun", y, .tup [.lst [], .int 0], x]) = some [y, x] := rfl
  refine ⟨kindOk_mk ⟨by simp, fun _ a r b e => ?_, fun e => absurd e (by decide)⟩ fun ps e2 p hp => ?_, by rw [isKind_eq, e]; simp [h]⟩
  · cases e
    exact ⟨fun n hn => by simp at hn, by simp⟩
  · rw [e] at e2
    cases e2
    simp only [List.mem_cons, List.not_mem_nil, or_false] at hp
    rcases hp with rfl | rfl
    · exact hy
    · exact hx
theorem wrong_row {x r : D} (hr : isRow r = false) (hb : rowOk r) : kindOk (.tup [.str "fun", x, r, x]) ∧ isKind (.tup [.str "fun", x, r, x]) = false := by
  refine kind_leaf ?_ ⟨by simp, fun _ a r' b e => ?_, fun e => absurd e (by decide)⟩
  · show (if isRow r = true then some [x, x] else none) = none
    rw [hr, if_neg (by simp)]
  · cases e
    exact hb
section
variable {P : Program} {w : World} {K : PySem.W.Frag} {mg : Str → Option Value} {base : Heap}
def pWrong : List D → Prop := fun ds => ∃ x : D, ds = [x] ∧ kindOk x
def rWrong : List D → D → Prop := fun ds d => ∃ x : D, ds = [x] ∧ WrongD (3 * szD x + 100) d
abbrev N_law_wrong : List Str := ["pool", "kind", "parts", "rows", "part"]
theorem sc_law_wrong : FnScope ["pool", "kind", "parts", "rows", "part"] ["pool", "kind"] (defScope s_law_wrong) := ⟨rfl, rfl, rfl, by decide +kernel, rfl, by decide +kernel, by decide +kernel⟩
theorem ok_law_wrong (T : Tx K mg) : Good P w K mg base CX0 "_law_wrong" 3 ["pool", "kind"] (spP pWrong rWrong) := by
  obtain ⟨fd, F⟩ := T.f__law_wrong
  refine ⟨T.m__law_wrong, F.kp, fd, ?_, F.bindsN fun _ _ _ _ _ _ us hl => match us, hl with | [_, _], _ => rfl⟩
  have G_law_pick := ok_law_pick (P := P) (w := w) (base := base) T
  refine F.ok sc_law_wrong (fun vs H Q E h => ?_) (fun cdv A outer s H vs Q E hr h => ?_)
  · obtain ⟨p, vs', G, ds, rfl, _, _, r, ⟨x, rfl, _⟩, _⟩ := h
    show _ + 1 = _
    rw [r.len]
    rfl
  · obtain ⟨p, vs', G, ds, rfl, s0, hq, r, ⟨x, rfl, hx⟩, k⟩ := h
    obtain ⟨v1, _, rfl, r_kind, rfl⟩ := r
    refine ⟨_, PSs.nox ((pss_cons (ps_set (i := 2) sc_law_wrong.nd rfl (Or.inl rfl) (pe_lst (pa_cons (pe_tup (pa_cons pe_str (pa_cons pe_int pa_nil))) (pa_cons (pe_tup (pa_cons pe_str (pa_cons (pe_un un_neg pe_int) pa_nil))) (pa_cons (pe_tup (pa_cons pe_str (pa_cons pe_bl pa_nil))) (pa_cons (pe_tup (pa_cons pe_str pa_nil)) (pa_cons (pe_tup (pa_cons pe_str (pa_cons pe_int pa_nil))) (pa_cons (pe_lst (pa_cons pe_str pa_nil)) (pa_cons pe_str (pa_cons pe_non (pa_cons pe_int (pa_cons (pe_tup (pa_cons pe_str (pa_cons (pe_tup (pa_cons pe_str pa_nil)) pa_nil))) (pa_cons (pe_tup (pa_cons pe_str pa_nil)) (pa_cons (pe_tup pa_nil) (pa_cons (pe_tup (pa_cons pe_str (pa_cons pe_str (pa_cons (pe_lst pa_nil) pa_nil)))) (pa_cons (pe_tup (pa_cons pe_str (pa_cons pe_str (pa_cons (pe_tup pa_nil) pa_nil)))) (pa_cons (pe_tup (pa_cons pe_str (pa_cons pe_str (pa_cons (pe_lst pa_nil) pa_nil)))) (pa_cons (pe_tup (pa_cons pe_str (pa_cons pe_str (pa_cons (pe_lst pa_nil) pa_nil)))) (pa_cons (pe_tup (pa_cons pe_str (pa_cons (pe_tup (pa_cons pe_str pa_nil)) (pa_cons (pe_tup (pa_cons (pe_lst pa_nil) (pa_cons pe_int pa_nil))) pa_nil)))) (pa_cons (pe_tup (pa_cons pe_str (pa_cons (pe_tup pa_nil) pa_nil))) (pa_cons (pe_tup (pa_cons pe_str (pa_cons (pe_lst pa_nil) pa_nil))) (pa_cons (pe_tup (pa_cons pe_str (pa_cons pe_str pa_nil))) (pa_cons (pe_tup (pa_cons pe_str (pa_cons (pe_tup (pa_cons pe_str pa_nil)) (pa_cons (pe_tup (pa_cons pe_str pa_nil)) (pa_cons (pe_tup (pa_cons pe_str pa_nil)) pa_nil))))) (pa_cons (pe_tup (pa_cons pe_str (pa_cons pe_str (pa_cons (pe_lst (pa_cons pe_non pa_nil)) pa_nil)))) (pa_cons pe_bl (pa_cons (pe_tup (pa_cons pe_str (pa_cons pe_str pa_nil))) (pa_cons (pe_tup (pa_cons pe_str (pa_cons pe_int (pa_cons pe_int pa_nil)))) pa_nil)))))))))))))))))))))))))))
    (pss_cons (ps_set (i := 3) sc_law_wrong.nd rfl (Or.inl rfl) (pe_lst (pa_cons (pe_tup (pa_cons (pe_lst pa_nil) (pa_cons (pe_un un_neg pe_int) pa_nil))) (pa_cons (pe_tup (pa_cons (pe_lst pa_nil) (pa_cons pe_bl pa_nil))) (pa_cons (pe_tup (pa_cons (pe_tup pa_nil) (pa_cons pe_int pa_nil))) (pa_cons (pe_lst (pa_cons (pe_lst pa_nil) (pa_cons pe_int pa_nil))) (pa_cons (pe_tup (pa_cons (pe_lst pa_nil) (pa_cons pe_int (pa_cons pe_int pa_nil)))) (pa_cons (pe_tup (pa_cons (pe_lst (pa_cons (pe_tup (pa_cons pe_str (pa_cons pe_str pa_nil))) (pa_cons (pe_tup (pa_cons pe_str (pa_cons pe_str pa_nil))) pa_nil))) (pa_cons pe_int pa_nil))) (pa_cons (pe_tup (pa_cons (pe_lst (pa_cons (pe_tup (pa_cons pe_str (pa_cons pe_str pa_nil))) (pa_cons (pe_tup (pa_cons pe_str (pa_cons pe_str pa_nil))) pa_nil))) (pa_cons pe_int pa_nil))) (pa_cons (pe_tup (pa_cons (pe_lst pa_nil) (pa_cons pe_str pa_nil))) (pa_cons (pe_tup (pa_cons (pe_lst (pa_cons (pe_tup (pa_cons pe_str (pa_cons pe_str pa_nil))) pa_nil)) (pa_cons pe_int pa_nil))) (pa_cons (pe_tup (pa_cons (pe_lst (pa_cons (pe_tup (pa_cons pe_str (pa_cons (pe_tup (pa_cons pe_str (pa_cons (pe_un un_neg pe_int) pa_nil))) pa_nil))) pa_nil)) (pa_cons pe_int pa_nil))) (pa_cons (pe_tup (pa_cons (pe_lst (pa_cons (pe_tup (pa_cons pe_str (pa_cons (pe_tup (pa_cons pe_str (pa_cons pe_bl pa_nil))) pa_nil))) pa_nil)) (pa_cons pe_int pa_nil))) (pa_cons (pe_tup (pa_cons (pe_lst (pa_cons (pe_tup (pa_cons pe_str (pa_cons pe_str pa_nil))) pa_nil)) (pa_cons pe_int pa_nil))) (pa_cons (pe_tup (pa_cons (pe_lst (pa_cons (pe_tup (pa_cons pe_str (pa_cons pe_str pa_nil))) pa_nil)) (pa_cons pe_int pa_nil))) (pa_cons pe_non (pa_cons (pe_tup (pa_cons (pe_lst (pa_cons (pe_lst (pa_cons pe_str (pa_cons pe_str pa_nil))) pa_nil)) (pa_cons pe_int pa_nil))) (pa_cons (pe_tup (pa_cons (pe_lst (pa_cons (pe_tup (pa_cons pe_str (pa_cons (pe_lst (pa_cons pe_str (pa_cons pe_int pa_nil))) pa_nil))) pa_nil)) (pa_cons pe_int pa_nil))) (pa_cons (pe_tup (pa_cons (pe_lst (pa_cons (pe_tup (pa_cons pe_str (pa_cons pe_str (pa_cons pe_int pa_nil)))) pa_nil)) (pa_cons pe_int pa_nil))) (pa_cons (pe_tup (pa_cons (pe_lst (pa_cons (pe_tup (pa_cons pe_str (pa_cons pe_str pa_nil))) pa_nil)) (pa_cons pe_int pa_nil))) (pa_cons (pe_tup (pa_cons (pe_lst (pa_cons (pe_tup (pa_cons pe_str (pa_cons pe_str pa_nil))) pa_nil)) (pa_cons pe_int pa_nil))) (pa_cons (pe_tup (pa_cons (pe_lst pa_nil) pa_nil)) (pa_cons (pe_tup (pa_cons (pe_lst (pa_cons (pe_tup (pa_cons pe_str (pa_cons (pe_tup (pa_cons pe_str (pa_cons pe_int (pa_cons pe_int pa_nil)))) pa_nil))) pa_nil)) (pa_cons pe_int pa_nil))) (pa_cons (pe_tup (pa_cons (pe_lst (pa_cons (pe_tup (pa_cons pe_str (pa_cons pe_non pa_nil))) pa_nil)) (pa_cons pe_int pa_nil))) (pa_cons (pe_tup (pa_cons (pe_lst (pa_cons (pe_tup (pa_cons pe_str (pa_cons pe_str pa_nil))) pa_nil)) (pa_cons pe_int pa_nil))) (pa_cons (pe_tup (pa_cons (pe_lst (pa_cons (pe_tup (pa_cons pe_str (pa_cons (pe_tup (pa_cons pe_str (pa_cons pe_int pa_nil))) pa_nil))) pa_nil)) (pa_cons pe_int pa_nil))) (pa_cons (pe_tup (pa_cons (pe_lst (pa_cons (pe_tup (pa_cons pe_str (pa_cons pe_str pa_nil))) pa_nil)) (pa_cons pe_int pa_nil))) pa_nil)))))))))))))))))))))))))))
    (pss_cons (ps_if (pt_cmpR op_eq (pe_g G_law_pick (hr.mono (by decide)) (pa_cons (pv 0) (pa_cons pe_int pa_nil))) pe_int (nomark _)) (pss_one (ps_ret (pe_tup (pa_cons pe_str (pa_cons (pv 1) (pa_cons (pe_ix ix_list (pv 3) (pe_op op_mod (pe_callTy call_int1 (by rfl) T.n_int (by decide +kernel) (pa_cons (pe_g G_law_pick (hr.mono (by decide)) (pa_cons (pv 0) (pa_cons pe_int pa_nil))) pa_nil)) (pe_callB call_len_seq (by rfl) T.n_len PySem.boot_len (pa_cons (pv 3) pa_nil))) (fun _ _ => rfl)) (pa_cons (pv 1) pa_nil))))))) pss_nil)
    (pss_cons (ps_set (i := 4) sc_law_wrong.nd rfl (Or.inl rfl) (pe_ix ix_list (pv 2) (pe_op op_mod (pe_callTy call_int1 (by rfl) T.n_int (by decide +kernel) (pa_cons (pe_g G_law_pick (hr.mono (by decide)) (pa_cons (pv 0) (pa_cons pe_int pa_nil))) pa_nil)) (pe_callB call_len_seq (by rfl) T.n_len PySem.boot_len (pa_cons (pv 2) pa_nil))) (fun _ _ => rfl)))
    (pss_one (ps_ret (pe_ix ix_list (pe_lst (pa_cons (pv 4) (pa_cons (pe_tup (pa_cons pe_str (pa_cons (pv 1) (pa_cons (pv 4) pa_nil)))) (pa_cons (pe_tup (pa_cons pe_str (pa_cons pe_str (pa_cons (pe_lst (pa_cons (pv 1) (pa_cons (pv 4) (pa_cons (pv 1) pa_nil)))) pa_nil)))) (pa_cons (pe_tup (pa_cons pe_str (pa_cons (pv 4) (pa_cons (pe_tup (pa_cons (pe_lst pa_nil) (pa_cons pe_int pa_nil))) (pa_cons (pv 1) pa_nil))))) pa_nil))))) (pe_g G_law_pick (hr.mono (by decide)) (pa_cons (pv 0) (pa_cons pe_int pa_nil))) (fun _ _ => rfl))))))))), ?_⟩
    have g := gr0 (M := [p]) s0
    refine s_seq (s_set' (d := .lst wParts) (Ed.to ((ed_lst (eds_cons (ed_tup (eds_cons ed_str (eds_cons ed_int eds_nil)) (Nat.le_of_ble_eq_true rfl)) (eds_cons (ed_tup (eds_cons ed_str (eds_cons (ed_un ed_int fun _ _ => rd_neg) eds_nil)) (Nat.le_of_ble_eq_true rfl)) (eds_cons (ed_tup (eds_cons ed_str (eds_cons ed_bl eds_nil)) (Nat.le_of_ble_eq_true rfl)) (eds_cons (ed_tup (eds_cons ed_str eds_nil) (Nat.le_of_ble_eq_true rfl)) (eds_cons (ed_tup (eds_cons ed_str (eds_cons ed_int eds_nil)) (Nat.le_of_ble_eq_true rfl)) (eds_cons (ed_lst (eds_cons ed_str eds_nil) (Nat.le_of_ble_eq_true rfl)) (eds_cons ed_str (eds_cons ed_non (eds_cons ed_int (eds_cons (ed_tup (eds_cons ed_str (eds_cons (ed_tup (eds_cons ed_str eds_nil) (Nat.le_of_ble_eq_true rfl)) eds_nil)) (Nat.le_of_ble_eq_true rfl)) (eds_cons (ed_tup (eds_cons ed_str eds_nil) (Nat.le_of_ble_eq_true rfl)) (eds_cons (ed_tup eds_nil (Nat.le_of_ble_eq_true rfl)) (eds_cons (ed_tup (eds_cons ed_str (eds_cons ed_str (eds_cons (ed_lst eds_nil (Nat.le_of_ble_eq_true rfl)) eds_nil))) (Nat.le_of_ble_eq_true rfl)) (eds_cons (ed_tup (eds_cons ed_str (eds_cons ed_str (eds_cons (ed_tup eds_nil (Nat.le_of_ble_eq_true rfl)) eds_nil))) (Nat.le_of_ble_eq_true rfl)) (eds_cons (ed_tup (eds_cons ed_str (eds_cons ed_str (eds_cons (ed_lst eds_nil (Nat.le_of_ble_eq_true rfl)) eds_nil))) (Nat.le_of_ble_eq_true rfl)) (eds_cons (ed_tup (eds_cons ed_str (eds_cons ed_str (eds_cons (ed_lst eds_nil (Nat.le_of_ble_eq_true rfl)) eds_nil))) (Nat.le_of_ble_eq_true rfl)) (eds_cons (ed_tup (eds_cons ed_str (eds_cons (ed_tup (eds_cons ed_str eds_nil) (Nat.le_of_ble_eq_true rfl)) (eds_cons (ed_tup (eds_cons (ed_lst eds_nil (Nat.le_of_ble_eq_true rfl)) (eds_cons ed_int eds_nil)) (Nat.le_of_ble_eq_true rfl)) eds_nil))) (Nat.le_of_ble_eq_true rfl)) (eds_cons (ed_tup (eds_cons ed_str (eds_cons (ed_tup eds_nil (Nat.le_of_ble_eq_true rfl)) eds_nil)) (Nat.le_of_ble_eq_true rfl)) (eds_cons (ed_tup (eds_cons ed_str (eds_cons (ed_lst eds_nil (Nat.le_of_ble_eq_true rfl)) eds_nil)) (Nat.le_of_ble_eq_true rfl)) (eds_cons (ed_tup (eds_cons ed_str (eds_cons ed_str eds_nil)) (Nat.le_of_ble_eq_true rfl)) (eds_cons (ed_tup (eds_cons ed_str (eds_cons (ed_tup (eds_cons ed_str eds_nil) (Nat.le_of_ble_eq_true rfl)) (eds_cons (ed_tup (eds_cons ed_str eds_nil) (Nat.le_of_ble_eq_true rfl)) (eds_cons (ed_tup (eds_cons ed_str eds_nil) (Nat.le_of_ble_eq_true rfl)) eds_nil)))) (Nat.le_of_ble_eq_true rfl)) (eds_cons (ed_tup (eds_cons ed_str (eds_cons ed_str (eds_cons (ed_lst (eds_cons ed_non eds_nil) (Nat.le_of_ble_eq_true rfl)) eds_nil))) (Nat.le_of_ble_eq_true rfl)) (eds_cons ed_bl (eds_cons (ed_tup (eds_cons ed_str (eds_cons ed_str eds_nil)) (Nat.le_of_ble_eq_true rfl)) (eds_cons (ed_tup (eds_cons ed_str (eds_cons ed_int (eds_cons ed_int eds_nil))) (Nat.le_of_ble_eq_true rfl)) eds_nil))))))))))))))))))))))))) (Nat.le_of_ble_eq_true rfl))) (by unfold wParts; rfl)) g fun v2 G2 H2 g s2 k2 r_parts => ?_)
    have hq := hq.kp k2
    simp only [tNext]
    refine s_seq (s_set' (d := .lst wRows) (Ed.to ((ed_lst (eds_cons (ed_tup (eds_cons (ed_lst eds_nil (Nat.le_of_ble_eq_true rfl)) (eds_cons (ed_un ed_int fun _ _ => rd_neg) eds_nil)) (Nat.le_of_ble_eq_true rfl)) (eds_cons (ed_tup (eds_cons (ed_lst eds_nil (Nat.le_of_ble_eq_true rfl)) (eds_cons ed_bl eds_nil)) (Nat.le_of_ble_eq_true rfl)) (eds_cons (ed_tup (eds_cons (ed_tup eds_nil (Nat.le_of_ble_eq_true rfl)) (eds_cons ed_int eds_nil)) (Nat.le_of_ble_eq_true rfl)) (eds_cons (ed_lst (eds_cons (ed_lst eds_nil (Nat.le_of_ble_eq_true rfl)) (eds_cons ed_int eds_nil)) (Nat.le_of_ble_eq_true rfl)) (eds_cons (ed_tup (eds_cons (ed_lst eds_nil (Nat.le_of_ble_eq_true rfl)) (eds_cons ed_int (eds_cons ed_int eds_nil))) (Nat.le_of_ble_eq_true rfl)) (eds_cons (ed_tup (eds_cons (ed_lst (eds_cons (ed_tup (eds_cons ed_str (eds_cons ed_str eds_nil)) (Nat.le_of_ble_eq_true rfl)) (eds_cons (ed_tup (eds_cons ed_str (eds_cons ed_str eds_nil)) (Nat.le_of_ble_eq_true rfl)) eds_nil)) (Nat.le_of_ble_eq_true rfl)) (eds_cons ed_int eds_nil)) (Nat.le_of_ble_eq_true rfl)) (eds_cons (ed_tup (eds_cons (ed_lst (eds_cons (ed_tup (eds_cons ed_str (eds_cons ed_str eds_nil)) (Nat.le_of_ble_eq_true rfl)) (eds_cons (ed_tup (eds_cons ed_str (eds_cons ed_str eds_nil)) (Nat.le_of_ble_eq_true rfl)) eds_nil)) (Nat.le_of_ble_eq_true rfl)) (eds_cons ed_int eds_nil)) (Nat.le_of_ble_eq_true rfl)) (eds_cons (ed_tup (eds_cons (ed_lst eds_nil (Nat.le_of_ble_eq_true rfl)) (eds_cons ed_str eds_nil)) (Nat.le_of_ble_eq_true rfl)) (eds_cons (ed_tup (eds_cons (ed_lst (eds_cons (ed_tup (eds_cons ed_str (eds_cons ed_str eds_nil)) (Nat.le_of_ble_eq_true rfl)) eds_nil) (Nat.le_of_ble_eq_true rfl)) (eds_cons ed_int eds_nil)) (Nat.le_of_ble_eq_true rfl)) (eds_cons (ed_tup (eds_cons (ed_lst (eds_cons (ed_tup (eds_cons ed_str (eds_cons (ed_tup (eds_cons ed_str (eds_cons (ed_un ed_int fun _ _ => rd_neg) eds_nil)) (Nat.le_of_ble_eq_true rfl)) eds_nil)) (Nat.le_of_ble_eq_true rfl)) eds_nil) (Nat.le_of_ble_eq_true rfl)) (eds_cons ed_int eds_nil)) (Nat.le_of_ble_eq_true rfl)) (eds_cons (ed_tup (eds_cons (ed_lst (eds_cons (ed_tup (eds_cons ed_str (eds_cons (ed_tup (eds_cons ed_str (eds_cons ed_bl eds_nil)) (Nat.le_of_ble_eq_true rfl)) eds_nil)) (Nat.le_of_ble_eq_true rfl)) eds_nil) (Nat.le_of_ble_eq_true rfl)) (eds_cons ed_int eds_nil)) (Nat.le_of_ble_eq_true rfl)) (eds_cons (ed_tup (eds_cons (ed_lst (eds_cons (ed_tup (eds_cons ed_str (eds_cons ed_str eds_nil)) (Nat.le_of_ble_eq_true rfl)) eds_nil) (Nat.le_of_ble_eq_true rfl)) (eds_cons ed_int eds_nil)) (Nat.le_of_ble_eq_true rfl)) (eds_cons (ed_tup (eds_cons (ed_lst (eds_cons (ed_tup (eds_cons ed_str (eds_cons ed_str eds_nil)) (Nat.le_of_ble_eq_true rfl)) eds_nil) (Nat.le_of_ble_eq_true rfl)) (eds_cons ed_int eds_nil)) (Nat.le_of_ble_eq_true rfl)) (eds_cons ed_non (eds_cons (ed_tup (eds_cons (ed_lst (eds_cons (ed_lst (eds_cons ed_str (eds_cons ed_str eds_nil)) (Nat.le_of_ble_eq_true rfl)) eds_nil) (Nat.le_of_ble_eq_true rfl)) (eds_cons ed_int eds_nil)) (Nat.le_of_ble_eq_true rfl)) (eds_cons (ed_tup (eds_cons (ed_lst (eds_cons (ed_tup (eds_cons ed_str (eds_cons (ed_lst (eds_cons ed_str (eds_cons ed_int eds_nil)) (Nat.le_of_ble_eq_true rfl)) eds_nil)) (Nat.le_of_ble_eq_true rfl)) eds_nil) (Nat.le_of_ble_eq_true rfl)) (eds_cons ed_int eds_nil)) (Nat.le_of_ble_eq_true rfl)) (eds_cons (ed_tup (eds_cons (ed_lst (eds_cons (ed_tup (eds_cons ed_str (eds_cons ed_str (eds_cons ed_int eds_nil))) (Nat.le_of_ble_eq_true rfl)) eds_nil) (Nat.le_of_ble_eq_true rfl)) (eds_cons ed_int eds_nil)) (Nat.le_of_ble_eq_true rfl)) (eds_cons (ed_tup (eds_cons (ed_lst (eds_cons (ed_tup (eds_cons ed_str (eds_cons ed_str eds_nil)) (Nat.le_of_ble_eq_true rfl)) eds_nil) (Nat.le_of_ble_eq_true rfl)) (eds_cons ed_int eds_nil)) (Nat.le_of_ble_eq_true rfl)) (eds_cons (ed_tup (eds_cons (ed_lst (eds_cons (ed_tup (eds_cons ed_str (eds_cons ed_str eds_nil)) (Nat.le_of_ble_eq_true rfl)) eds_nil) (Nat.le_of_ble_eq_true rfl)) (eds_cons ed_int eds_nil)) (Nat.le_of_ble_eq_true rfl)) (eds_cons (ed_tup (eds_cons (ed_lst eds_nil (Nat.le_of_ble_eq_true rfl)) eds_nil) (Nat.le_of_ble_eq_true rfl)) (eds_cons (ed_tup (eds_cons (ed_lst (eds_cons (ed_tup (eds_cons ed_str (eds_cons (ed_tup (eds_cons ed_str (eds_cons ed_int (eds_cons ed_int eds_nil))) (Nat.le_of_ble_eq_true rfl)) eds_nil)) (Nat.le_of_ble_eq_true rfl)) eds_nil) (Nat.le_of_ble_eq_true rfl)) (eds_cons ed_int eds_nil)) (Nat.le_of_ble_eq_true rfl)) (eds_cons (ed_tup (eds_cons (ed_lst (eds_cons (ed_tup (eds_cons ed_str (eds_cons ed_non eds_nil)) (Nat.le_of_ble_eq_true rfl)) eds_nil) (Nat.le_of_ble_eq_true rfl)) (eds_cons ed_int eds_nil)) (Nat.le_of_ble_eq_true rfl)) (eds_cons (ed_tup (eds_cons (ed_lst (eds_cons (ed_tup (eds_cons ed_str (eds_cons ed_str eds_nil)) (Nat.le_of_ble_eq_true rfl)) eds_nil) (Nat.le_of_ble_eq_true rfl)) (eds_cons ed_int eds_nil)) (Nat.le_of_ble_eq_true rfl)) (eds_cons (ed_tup (eds_cons (ed_lst (eds_cons (ed_tup (eds_cons ed_str (eds_cons (ed_tup (eds_cons ed_str (eds_cons ed_int eds_nil)) (Nat.le_of_ble_eq_true rfl)) eds_nil)) (Nat.le_of_ble_eq_true rfl)) eds_nil) (Nat.le_of_ble_eq_true rfl)) (eds_cons ed_int eds_nil)) (Nat.le_of_ble_eq_true rfl)) (eds_cons (ed_tup (eds_cons (ed_lst (eds_cons (ed_tup (eds_cons ed_str (eds_cons ed_str eds_nil)) (Nat.le_of_ble_eq_true rfl)) eds_nil) (Nat.le_of_ble_eq_true rfl)) (eds_cons ed_int eds_nil)) (Nat.le_of_ble_eq_true rfl)) eds_nil))))))))))))))))))))))))) (Nat.le_of_ble_eq_true rfl))) (by unfold wRows; rfl)) g fun v3 G3 H3 g s3 k3 r_rows => ?_)
    have hq := hq.kp k3
    have r_parts := r_parts.mono s3
    have r_kind := r_kind.mono (s2.trans s3)
    simp only [tNext]
    have e_parts : ∀ {G'}, Same G3 G' → ∀ {σ : L2.St} {i : Nat}, σ[i]? = some (some v2) → Ed (tVar i) σ G' (.lst wParts) := fun s _ _ h => ed_var h (r_parts.mono s)
    have e_rows : ∀ {G'}, Same G3 G' → ∀ {σ : L2.St} {i : Nat}, σ[i]? = some (some v3) → Ed (tVar i) σ G' (.lst wRows) := fun s _ _ h => ed_var h (r_rows.mono s)
    refine s_seq (p_if (PB := fun _ => True) (ebp_test (edp_op (edp_pick rfl ed_int (by decide)) (Ed.pl ed_int) ?_)) g (List.mem_singleton.mpr rfl) hq (fun _ G4 H4 g s4 _ hq => ?_) fun _ G4 H4 g s4 _ hq => ?_)
    · rintro d e ⟨r, rfl, h0, h1⟩ rfl
      exact ⟨_, ⟨_, rfl, trivial⟩, fun _ _ => rd_eq rfl⟩
    · have ek : Ed (tVar 1) [some (.ref p), some v1, some v2, some v3, none] G4 x := ed_var rfl (r_kind.mono s4)
      refine p_ret (edp_tup (edsp_cons (Ed.pl ed_str) (edsp_cons (Ed.pl ek) (edsp_cons (edp_modOf (e_rows s4 rfl) (edp_pick rfl ed_int (by decide)) (ed_lenL (e_rows s4 rfl)) (by decide)) (edsp_cons (Ed.pl ek) edsp_nil)))) ?_) g (List.mem_singleton.mpr rfl) hq fun d v G' H' hd g hq r => k d v G' H' ?_ g hq r
      · rintro ds ⟨_, _, rfl, _, _, _, rfl, _, _, _, rfl, _, _, _, rfl, _, rfl⟩
        exact Nat.le_of_ble_eq_true rfl
      · obtain ⟨_, rfl, _, _, rfl, rfl, a2, _, rfl, e2, rw', _, rfl, hr, a4, _, rfl, e4, rfl⟩ := hd
        rw [e2, e4]
        have h1 := List.all_eq_true.mp wRows_ok rw' hr
        simp only [Bool.and_eq_true, Bool.not_eq_true'] at h1
        obtain ⟨h2, h3⟩ := wrong_row (x := x) h1.1 (rowB_of h1.2)
        have h4 := wRows_sz rw' hr
        exact ⟨x, rfl, h2, h3, by simp only [szD, szL]; omega⟩
    · simp only [tNext]
      refine s_seq (p_set (edp_modOf (e_parts s4 rfl) (edp_pick rfl ed_int (by decide)) (ed_lenL (e_parts s4 rfl)) (by decide)) g (List.mem_singleton.mpr rfl) hq fun d v5 G5 H5 hd g s5 _ hq r_part => ?_)
      have r_kind := r_kind.mono (s4.trans s5)
      obtain ⟨h1, h2⟩ := wrongB_of (List.all_eq_true.mp wParts_ok d hd)
      have h3 := wParts_sz d hd
      simp only [tNext]
      refine p_ret (edp_oneOf rfl ((ed_lst (eds_cons (ed_var rfl r_part) (eds_cons (ed_tup (eds_cons ed_str (eds_cons (ed_var rfl r_kind) (eds_cons (ed_var rfl r_part) eds_nil))) (Nat.le_of_ble_eq_true rfl)) (eds_cons (ed_tup (eds_cons ed_str (eds_cons ed_str (eds_cons (ed_lst (eds_cons (ed_var rfl r_kind) (eds_cons (ed_var rfl r_part) (eds_cons (ed_var rfl r_kind) eds_nil))) (Nat.le_of_ble_eq_true rfl)) eds_nil))) (Nat.le_of_ble_eq_true rfl)) (eds_cons (ed_tup (eds_cons ed_str (eds_cons (ed_var rfl r_part) (eds_cons (ed_tup (eds_cons (ed_lst eds_nil (Nat.le_of_ble_eq_true rfl)) (eds_cons ed_int eds_nil)) (Nat.le_of_ble_eq_true rfl)) (eds_cons (ed_var rfl r_kind) eds_nil)))) (Nat.le_of_ble_eq_true rfl)) eds_nil)))) (Nat.le_of_ble_eq_true rfl)) : Ed _ _ _ (.lst [d, .tup [.str "pair", x, d], .tup [.str "data", .str "Opt", .lst [x, d, x]], .tup [.str "fun", d, .tup [.lst [], .int 0], x]])) ed_int (by decide) rfl) g (List.mem_singleton.mpr rfl) hq fun y v G' H' hd g hq r => k y v G' H' ?_ g hq r
      simp only [List.mem_cons, List.not_mem_nil, or_false] at hd
      rcases hd with rfl | rfl | rfl | rfl
      · exact ⟨x, rfl, h1, h2, by omega⟩
      · obtain ⟨a, b⟩ := wrong_pair hx h1 h2
        exact ⟨x, rfl, a, b, by simp only [szD, szL]; omega⟩
      · obtain ⟨a, b⟩ := wrong_data hx h1 h2
        exact ⟨x, rfl, a, b, by simp only [szD, szL]; omega⟩
      · obtain ⟨a, b⟩ := wrong_fun hx h1 h2
        exact ⟨x, rfl, a, b, by simp only [szD, szL]; omega⟩
end
end K18
set_option maxHeartbeats 4000000
/-! A def that is handed the caught exception. -/
namespace Kd
open PySem PySem.Spec PyProof.Rows L2
open L2H (RoomH PinOk cxH inv_startH)
/-- what a def promises where the exception at z stands by -/
structure FnP (P : Program) (w : World) (K : PySem.W.Frag) (mg : Str → Option Value) (base : Heap) (CX : CXT) (k : Nat) (z : Addr × Obj) (f : Addr) (fd : FuncData) (ps : List Str) (sp : Sp) : Prop where
  many : ∀ vs H Q E, sp vs H Q E → vs.length = ps.length
  goes : ∀ (A : Around) (outer : List Env) (s : Shared) (H : Hp) (args : Args) (us : List Value) (vs : List V) (Q : VK) (E : XK), RoomH k A → PinOk outer H s z → Env0 P w K mg base A outer s H →
    BindsTo s fd args (ps.zip us) → Vals vs us → sp vs H Q E → codeAny (model P w) A (.call (.ref f) args) (CR CX outer P w H s Q E) s
section
variable {P : Program} {w : World} {K : PySem.W.Frag} {mg : Str → Option Value} {base : Heap} {CX : CXT} {N ps : List Str} {x qual : Str} {params : Arguments} {body : List Stmt} {scope : Scope} {f : Addr} {fd : FuncData} {k : Nat} {sp : Sp} {z : Addr × Obj} {dvs : List V} {kws : List (Str × V)}
theorem fnP_of (F : FunD K x qual params body scope dvs kws f fd) (S : FnScope N ps scope) (hl : ∀ vs H Q E, sp vs H Q E → vs.length = ps.length)
    (hb : ∀ (cdv : Value) (A : Around) (outer : List Env) (s : Shared) (H : Hp) (vs : List V) (Q : VK) (E : XK), RoomH k (A.deeper (envOfC qual scope s.heap.objs.size f cdv)) → sp vs H Q E →
      ∃ t, PSs (cxH CX P w K mg base N qual scope f cdv A outer s H E z) body t ∧ t { nx := fun _ H' => Q .non H', rt := Q } (L2.start N vs) H) : FnP P w K mg base CX (k + 1) z f fd ps sp := by
  obtain ⟨oc, od, dV, kV, doc, pm, an, cdv, ct, osl, rfl, lk, hcd, _, _⟩ := F.ex
  refine ⟨hl, fun A outer s H args us vs Q E hr hz e0 hbind r hsp => ?_⟩
  have kin : K.In s.heap := e0.mod.kin.keeps fun b o q => (e0.bs b o q).1
  have nol : s.heap.NoLimit := e0.mod.nolimit.keeps fun b o q => (e0.bs b o q).1
  have names : ∀ y ∈ ps.zip us, scope.names.lookup y.1 = some .local ∨ (scope.names.lookup y.1 = some .cell ∧ ((cellsFrom (s.heap.objs.size + 1) scope.names []).lookup y.1).isSome = true) := by
    rintro ⟨n, v⟩ hy
    exact (S.par n (List.of_mem_zip hy).1).elim .inl fun q => .inr ⟨q, PySem.W.cellsFrom_some _ _ _ (.inl q)⟩
  refine codeAny_call_function hr.depth (kin _ _ lk) rfl S.co S.gen rfl (PySem.W.codeRec_of kin hcd) (hbind _ _ _ _ (wpAny_newFunctionEnv_cells S.kind names fun env he s1 y => ?_))
  subst he
  refine ⟨nol.keeps y.toInCall.keep, codeAny_func ?_⟩
  obtain ⟨t, ht, hq⟩ := hb cdv A outer s H vs Q E (hr.deeper _) hsp
  refine wpAny_mono (ht.run [] s1 (L2.start N vs) H _ (inv_startH S hz e0 (hl _ _ _ _ hsp) r y) hq) (fun fl s' hs => ?_) fun e s' hs => hs
  cases fl with
  | ret u =>
    obtain ⟨v, σ', H', J, rv, q⟩ := hs
    exact ⟨v, H', J.os, J.bare, J.base, J.hok, rv, q⟩
  | next =>
    obtain ⟨σ', H', J, q⟩ := hs
    exact ⟨V.non, H', J.os, J.bare, J.base, J.hok, rfl, q⟩
  | brk => obtain ⟨_, _, _, q⟩ := hs; exact q.elim
  | cont => obtain ⟨_, _, _, q⟩ := hs; exact q.elim
end
section
variable {X : Cx} {CX : CXT} {k : Nat} {f : Addr} {fd : FuncData} {ps : List Str} {sp : Sp} {E : L2.St → XK} {x : Str} {q pos : Pos} {e : Expr} {es : List Expr} {t : TA} {z : Addr × Obj}
theorem pe_callP (F : FnP X.prog X.w X.K X.mg X.base CX k z f fd ps sp) (hr : RoomH k X.A) (hz : z ∈ X.pn) (hg : Gl X x) (hm : X.mg x = some (.ref f)) (hk : PySem.W.keepIn X.K (.ref f) = true) (hb : Binds X.K fd ps []) (hx : ∀ σ, PassesAt CX X σ (E σ)) (ha : PA X (e :: es) t)
    (hdb : (x == ("__debug__" : Str)) = false := by decide) (he : starEach (e :: es) X.env = (false, eval e X.env) :: starEach es X.env := by rfl) (hpl : (backTo pos (starEach es X.env)).any (·.1) = false := by rfl) : PE X (.Call (.Name x q) (e :: es) [] pos) (tCallS sp E t) := by
  refine ⟨fun pins s σ H Q I h => wpAny_Call_Name_kw (ld_glob I hg hm (PySem.W.callWith_K (h₀ := X.base) I.ok.mod.kin hk (thn (ha.run pos pins s σ H _ I h) fun us s1 ⟨vs, H1, J, r, g⟩ => ⟨J.kIn, ?_⟩) he hpl) hdb)⟩
  have hlen : us.length = ps.length := r.length.symm.trans (F.many _ _ _ _ g)
  have b := hb s1 us J.kIn ((congrArg List.length (List.append_nil us)).trans hlen)
  rw [List.append_nil] at b
  obtain ⟨p1, p2, p3, p4, p5⟩ := J.pin z (List.mem_append_left _ hz)
  have hpin : PinOk X.stack H1 s1 z := ⟨p1, p2, fun hm => (List.mem_cons.mp (J.stkSub z.1 hm)).elim p3 p4, p5⟩
  refine wpAny_call (codeAny_mono (F.goes X.A X.stack s1 H1 ⟨us, []⟩ us vs Q (E σ) hr hpin J.env0 b r g) fun res s' hq => ?_)
  match res, hq with
  | .error e, hq => exact hx σ pins H1 s1 e s' J hq
  | .ok (.ret u), hq => exact J.after hq
  | .ok .next, hq => exact hq.elim
  | .ok .brk, hq => exact hq.elim
  | .ok .cont, hq => exact hq.elim
/-- isinstance(e, c), e stands by -/
theorem call_isP {K : PySem.W.Frag} {D a : Addr} {oe : Obj} (hK : X.K = K) (C : ExcC K D) (hz : Zc (.ref D) none oe) (hf : ∃ vs, oe.data = .fields vs) (hp : (a, oe) ∈ X.pn) : CallR X (.builtin "isinstance") (rIsE K D a) := by
  subst hK
  rintro pins s σ H xs us Q I r ⟨c, cv, b, rfl, hcv, e, g⟩
  match us, r with
  | [u1, u2], .cons r1 (.cons r2 .nil) =>
    cases r1
    cases hcv _ r2
    have hget := (I.pin (a, oe) (List.mem_append_left _ hp)).1
    obtain ⟨vs, hv⟩ := hf
    have J : PySem.W.InstAt s.heap a oe D none := by
      cases oe
      obtain ⟨h1, h2⟩ := hz
      dsimp only at h1 h2 hv
      subst h1 h2 hv
      exact ⟨hget, rfl, rfl, trivial⟩
    refine PySem.W.kia_one (PySem.W.handS_kitx_exc C.hg C.hk C.hs C.hd C.ha C.hn C.ht C.hm) I.kIn J e (fun w => nomatch w) fun tk => ?_
    exact ⟨.bl b, H, I.kept (t' := tk) fun _ _ w => w, rfl, g⟩
end
end Kd
set_option maxHeartbeats 4000000
namespace Kd
open PySem PySem.Spec PyProof.Rows L2
section
variable {X : Cx}
/-- an error of an own class that has no arguments -/
theorem pmk_own0 {C : Addr} {bmB : List Value} {B newId initId : String} {x : Str} {p pos : Pos} (F : ExcBaseFacts B newId initId bmB) (q : PySem.W.excIn X.K C bmB newId = true) (gC : X.mg x = some (.ref C)) (kC : PySem.W.keepIn X.K (.ref C) = true) (r : Raises X (.ref C)) (hg : Gl X x)
    (hdb : (x == ("__debug__" : Str)) = false := by decide) : PMk X (.Call (.Name x p) [] [] pos) (fun _ H Q => Q (.ref C) none H) := by
  intro pins s σ H Q I h
  refine wpAny_Call_Name_kw (ld_glob I hg gC ?_ hdb)
  refine PySem.W.callWith_K0 (first := []) I.kIn kC ?_
  show wpAny _ _ (call (.ref C) []) _ _ _
  obtain ⟨bm, N, nm, qn, bs, hdct, sn, sub, ab, col, dd, k0, k1, k2, k3, k5, mN, hC, hN, hni, T⟩ := exc_obj I.kIn q
  refine wpAny_call_exc_subT F T hC hN hni (fun h' e hm => ?_) (Nat.zero_le _)
  exact mk_of I hm r h (I.hok.gone hm.new)
/-- a call of a def that may raise, where it doesn't -/
theorem passE0 {σ : L2.St} : PassesAt (L2.CX X.prog X.w) X σ E0 := fun _ _ _ _ _ _ c => by
  obtain ⟨_, _, _, _, _, _, _, _, _, _, _, _, z⟩ := c
  exact z.elim
theorem pe_gS {x : Str} {k : Nat} {ps : List Str} {sp : Sp} {e : Expr} {es : List Expr} {t : TA} {p pos : Pos} (g : Good X.prog X.w X.K X.mg X.base (L2.CX X.prog X.w) x k ps sp) (hr : Room k X.A) (ha : PA X (e :: es) t) (hg : Gl X x := by rfl)
    (hdb : (x == ("__debug__" : Str)) = false := by decide) (he : starEach (e :: es) X.env = (false, eval e X.env) :: starEach es X.env := by rfl) (hpl : (backTo pos (starEach es X.env)).any (·.1) = false := by rfl) :
    PE X (.Call (.Name x p) (e :: es) [] pos) (tCallS sp (fun _ => E0) t) := by
  obtain ⟨fd, F, b⟩ := g.ok
  exact pe_callS F hr hg g.m g.kp b (fun _ => passE0) ha hdb he hpl
theorem pe_gT {W : WX} {x : Str} {k : Nat} {ps : List Str} {sp : Sp} {e : Expr} {es : List Expr} {t : TA} {p pos : Pos} (tk : Takes X W) (g : Good X.prog X.w X.K X.mg X.base (L2.CX X.prog X.w) x k ps sp) (hr : Room k X.A) (ha : PA X (e :: es) t) (hg : Gl X x := by rfl)
    (hdb : (x == ("__debug__" : Str)) = false := by decide) (he : starEach (e :: es) X.env = (false, eval e X.env) :: starEach es X.env := by rfl) (hpl : (backTo pos (starEach es X.env)).any (·.1) = false := by rfl) :
    PE X (.Call (.Name x p) (e :: es) [] pos) (tCallS sp (fun σ => WE W σ) t) := by
  obtain ⟨fd, F, b⟩ := g.ok
  exact pe_callS F hr hg g.m g.kp b (fun σ => passAt tk σ) ha hdb he hpl
theorem pss_given {b : List Stmt} {p : Prop} {t : TS} (h : p → PSs X b t) : PSs X b (fun D σ H => p ∧ t D σ H) := ⟨fun pins s σ H D I q => (h q.1).run pins s σ H D I q.2⟩
theorem roomH_mark {j k : Nat} {A : Around} {h : Option Value} (r : Room k A) (hj : j ≤ k) : L2H.RoomH j (A.mark h) := ⟨by have := r.dp; show A.depth + 3 * j + 5 < _; omega, by have := r.un; show A.units + 16 * j + 200 < _; omega⟩
theorem takes0 : Takes X (fun _ _ _ _ => False) := fun _ _ x => by
  obtain ⟨_, _, _, _, _, _, _, _, _, _, _, _, _, _, _, _, z⟩ := x
  exact z.elim
end
theorem ed_isE {K : PySem.W.Frag} {D a C : Addr} {i : Nat} {σ : L2.St} {G : Hp} {b : Bool} (hv : σ[i]? = some (some (.ref a))) (hk : PySem.W.kitOne K (.ref D) (.ref C) = some b) : Ed (tCB (rIsE K D a) (tCons (tVar i) (tCons (tC (.ref C)) tNil))) σ G (.bl b) := fun H s Q q =>
  ⟨_, hv, .ref C, .ref C, b, rfl, fun u r => r, hk, q _ G H (gr0 s) rfl⟩
end Kd
namespace K18
open PySem PySem.Spec PyProof.Rows L2 Kd
theorem zc_of {c cls : Value} {d : Option Addr} {oe : Obj} (h : Zc cls d oe) (e : cls = c ∧ d = none) : Zc c none oe := by
  obtain ⟨rfl, rfl⟩ := e
  exact h
section
variable {P : Program} {w : World} {K : PySem.W.Frag} {mg : Str → Option Value} {base : Heap}
theorem bk_C (T : Tx K mg) : ExcC K (He.ga K "BadKind") := by
  have h := T.x_3
  have h2 := T.x_2
  simp only [excG, excB, Bool.and_eq_true, beq_iff_eq] at h h2
  exact ⟨h.1.1.1.1.1.1, h.1.1.1.1.1.2, h2.1.2, h.1.1.1.1.2, h.1.1.1.2, h.1.1.2, h.1.2, h.2⟩
/-- the promise of is_instance: it raises where one is no kind -/
def spI (K : PySem.W.Frag) : Sp := fun vs H Q E => ∃ (G : Hp) (x y : D), Same G H ∧ RpL G [x, y] vs ∧ kindOk x ∧ kindOk y ∧ szD x ≤ 5000000 ∧ szD y ≤ 5000000 ∧
  (isKind x = true → isKind y = true → ∃ d, rInst [x, y] d ∧ ∀ v G' H', Gp G H G' H' → Rp G' d v → Q v H') ∧ ((isKind x && isKind y) = false → ∀ G' H', Gp G H G' H' → E (.ref (He.ga K "BadKind")) none H')
abbrev N_is_instance : List Str := ["scheme", "kind"]
theorem sc_is_instance : FnScope ["scheme", "kind"] ["scheme", "kind"] (defScope s_is_instance) := ⟨rfl, rfl, rfl, by decide +kernel, rfl, by decide +kernel, by decide +kernel⟩
theorem ok_is_instance (T : Tx K mg) : Good P w K mg base (L2.CX P w) "is_instance" 9 ["scheme", "kind"] (spI K) := by
  obtain ⟨fd, F⟩ := T.f_is_instance
  refine ⟨T.m_is_instance, F.kp, fd, ?_, F.bindsN fun _ _ _ _ _ _ us hl => match us, hl with | [_, _], _ => rfl⟩
  have G_is_instance_of := ok_is_instance_of (P := P) (w := w) (base := base) T
  have G_is_kind := ok_is_kind (P := P) (w := w) (base := base) T
  refine F.ok sc_is_instance (fun vs H Q E h => ?_) (fun cdv A outer s H vs Q E hr h => ?_)
  · obtain ⟨G, x, y, _, r, _⟩ := h
    exact r.len
  · obtain ⟨G, x, y, s0, r, hx, hy, zx, zy, k1, k2⟩ := h
    obtain ⟨v1, _, rfl, r_scheme, v2, _, rfl, r_kind, rfl⟩ := r
    refine ⟨_, (pss_cons (ps_if (PW.pt (pw_or (pt_not (pt_val (pe_g G_is_kind (hr.mono (by decide)) (pa_cons (pv 0) pa_nil)))) (pw_or1 (pt_not (pt_val (pe_g G_is_kind (hr.mono (by decide)) (pa_cons (pv 1) pa_nil))))))) (pss_one (ps_raise rfl (takes_of rfl rfl rfl rfl) (pmk_own0 PySem.F.excBase_Exception (He.ba (He.ba (He.ba T.x_2).1).1).1 T.m_BadKind (He.ba (He.ba (He.ba T.x_2).1).1).2 (raises_own (beq_iff_eq.mp (He.ba (He.ba T.x_2).1).2) (beq_iff_eq.mp (He.ba T.x_2).2)) rfl))) pss_nil)
    (pss_one (ps_ret (pe_g G_is_instance_of (hr.mono (by decide)) (pa_cons (pv 0) (pa_cons (pv 1) pa_nil)))))), ?_⟩
    have g := gr0 (M := []) s0
    refine s_seq (s_if' (b := !isKind x || !isKind y) (eb_or (eb_not (eb_B (ed_rel (eds_cons (ed_var rfl r_scheme) eds_nil) ?_))) fun _ => (eb_not (eb_B (ed_rel (eds_cons (ed_var rfl r_kind) eds_nil) ?_)))) g (fun hb H1 g k => ?_) fun hb H1 g k => ?_)
    · exact ⟨x, rfl, hx, zx, rfl⟩
    · exact ⟨y, rfl, hy, zy, rfl⟩
    · exact k2 (by cases q : isKind x <;> cases q2 : isKind y <;> simp_all) G H1 g
    · have hb2 : isKind x = true ∧ isKind y = true := by
        cases q : isKind x <;> cases q2 : isKind y <;> simp_all
      obtain ⟨d, hd, k1⟩ := k1 hb2.1 hb2.2
      simp only [tNext]
      exact s_ret (ed_rel (eds_cons (ed_var rfl r_scheme) (eds_cons (ed_var rfl r_kind) eds_nil)) hd) g k1
/-- the promise of _law_is_alone -/
def spAl (a : Addr) : Sp := fun vs H Q _ => vs = [.ref a] ∧ ∃ G, Same G H ∧ ∀ G' H', Gp G H G' H' → Q (.bl true) H'
abbrev N_law_is_alone : List Str := ["e"]
theorem sc_law_is_alone : FnScope ["e"] ["e"] (defScope s_law_is_alone) := ⟨rfl, rfl, rfl, by decide +kernel, rfl, by decide +kernel, by decide +kernel⟩
theorem ok_law_is_alone (T : Tx K mg) (a : Addr) (oe : Obj) (hz : Zc (.ref (He.ga K "BadKind")) none oe) (hf : ∃ vs, oe.data = .fields vs) : ∃ fd, FnP P w K mg base CX0 2 (a, oe) (He.ga K "_law_is_alone") fd ["e"] (spAl a) ∧ Binds K fd ["e"] [] := by
  obtain ⟨fd, F⟩ := T.f__law_is_alone
  refine ⟨fd, ?_, F.bindsN fun _ _ _ _ _ _ us hl => match us, hl with | [_], _ => rfl⟩
  refine fnP_of F sc_law_is_alone (fun vs H Q E h => ?_) (fun cdv A outer s H vs Q E hr h => ?_)
  · rw [h.1]
    rfl
  · obtain ⟨rfl, G, s0, k⟩ := h
    refine ⟨_, (pss_cons (ps_if (PW.pt (pw_or (pt_val (pe_callB (call_isP rfl (bk_C T) hz hf List.mem_cons_self) (by rfl) T.n_isinstance (by decide +kernel) (pa_cons (pv 0) (pa_cons (pe_glob (v := .ref (He.ga K "BadFiles")) rfl T.m_BadFiles rfl) pa_nil)))) (pw_or (pt_val (pe_callB (call_isP rfl (bk_C T) hz hf List.mem_cons_self) (by rfl) T.n_isinstance (by decide +kernel) (pa_cons (pv 0) (pa_cons (pe_glob (v := .ref (He.ga K "BadProgram")) rfl T.m_BadProgram rfl) pa_nil)))) (pw_or (pt_val (pe_callB (call_isP rfl (bk_C T) hz hf List.mem_cons_self) (by rfl) T.n_isinstance (by decide +kernel) (pa_cons (pv 0) (pa_cons (pe_glob (v := .ref (He.ga K "BadState")) rfl T.m_BadState rfl) pa_nil)))) (pw_or1 (pt_val (pe_callB (call_isP rfl (bk_C T) hz hf List.mem_cons_self) (by rfl) T.n_isinstance (by decide +kernel) (pa_cons (pv 0) (pa_cons (pe_glob (v := .ref (He.ga K "BadText")) rfl T.m_BadText rfl) pa_nil))))))))) (pss_one (ps_ret pe_bl)) pss_nil)
    (pss_one (ps_ret (pe_and (pe_callB (call_isP rfl (bk_C T) hz hf List.mem_cons_self) (by rfl) T.n_isinstance (by decide +kernel) (pa_cons (pv 0) (pa_cons (pe_glob (v := .ref (He.ga K "BadKind")) rfl T.m_BadKind rfl) pa_nil))) (pe_and (pe_not (pe_callB (call_isP rfl (bk_C T) hz hf List.mem_cons_self) (by rfl) T.n_isinstance (by decide +kernel) (pa_cons (pv 0) (pa_cons (pe_glob (v := .ref (He.ga K "BadTree")) rfl T.m_BadTree rfl) pa_nil)))) (pe_one (pe_not (pe_callB (call_isP rfl (bk_C T) hz hf List.mem_cons_self) (by rfl) T.n_isinstance (by decide +kernel) (pa_cons (pv 0) (pa_cons (pe_glob (v := .ref (He.ga K "NoName")) rfl T.m_NoName rfl) pa_nil)))))))))), ?_⟩
    have g := gr0 (M := []) s0
    have no : ∀ {i : Nat} {σ : L2.St} {G : Hp} {c : Str} {b : Bool}, σ[i]? = some (some (.ref a)) → (PySem.W.kitOne K (.ref (He.ga K "BadKind")) (.ref (He.ga K c)) == some b) = true → Ed (tCB (rIsE K (He.ga K "BadKind") a) (tCons (tVar i) (tCons (tC (.ref (He.ga K c))) tNil))) σ G (.bl b) := fun hv hk => ed_isE hv (beq_iff_eq.mp hk)
    refine s_seq (s_ifF (eb_orF (eb_B (no rfl T.x_7)) (eb_orF (eb_B (no rfl T.x_9)) (eb_orF (eb_B (no rfl T.x_10)) (eb_B (no rfl T.x_5))))) g fun H1 g => ?_)
    simp only [tNext]
    exact s_ret (d := .bl true) (ed_andT (no rfl T.x_8) (ed_andT ((ed_notV (no rfl T.x_6)).to rfl) ((ed_notV (no rfl T.x_11)).to rfl))) g fun v G' H' g r => (show v = .bl true from r) ▸ k G' H' g
theorem s_inst {σ : L2.St} {M : List Addr} {G0 H0 G H : Hp} {Dn : Ends} {ta : TA} {x y : D} {E : L2.St → XK} {gt : TG} (h : Eds ta σ G [x, y]) (g : Gr M G0 H0 G H) (hx : kindOk x) (hy : kindOk y) (zx : szD x ≤ 5000000) (zy : szD y ≤ 5000000)
    (k1 : isKind x = true → isKind y = true → ∃ d, rInst [x, y] d ∧ ∀ v G' H', Gr M G0 H0 G' H' → Rp G' d v → gt v σ H' Dn.nx) (k2 : (isKind x && isKind y) = false → ∀ G2 H2, Gr M G0 H0 G2 H2 → E σ (.ref (He.ga K "BadKind")) none H2) : tAsg (tCallS (spI K) E ta) gt Dn σ H :=
  h H g.s _ fun vs G1 H1 g1 r1 => ⟨G1, x, y, g1.s, r1, hx, hy, zx, zy, fun i1 i2 => by
    obtain ⟨d, hd, k⟩ := k1 i1 i2
    exact ⟨d, hd, fun v G2 H2 g2 r2 => k v G2 H2 ((g.call g1).call g2) r2⟩, fun hb G2 H2 g2 => k2 hb G2 H2 ((g.call g1).call g2)⟩
def rAsked : List D → D → Prop := fun ds d => ∃ x y, ds = [x, y] ∧ kindOk x ∧ kindOk y ∧ szD x ≤ 5000000 ∧ szD y ≤ 5000000 ∧ ((isKind x = true ∧ isKind y = true ∧ ∃ b, rInst [x, y] (.bl b) ∧ d = .tup [.str "told", .bl b]) ∨ ((isKind x && isKind y) = false ∧ d = .tup [.str "raised", .bl true]))
theorem ed_alone {σ : L2.St} {G : Hp} {a : Addr} {i : Nat} {E : L2.St → XK} (hv : σ[i]? = some (some (.ref a))) : Ed (tCallS (spAl a) E (tCons (tVar i) tNil)) σ G (.bl true) := fun H s Q q => ⟨_, hv, rfl, G, s, fun G' H' g => q _ G' H' g rfl⟩
abbrev N_law_asked : List Str := ["scheme", "kind", "told", "e"]
theorem sc_law_asked : FnScope ["scheme", "kind", "told", "e"] ["scheme", "kind"] (defScope s_law_asked) := ⟨rfl, rfl, rfl, by decide +kernel, rfl, by decide +kernel, by decide +kernel⟩
theorem ok_law_asked (T : Tx K mg) : Good P w K mg base CX0 "_law_asked" 11 ["scheme", "kind"] (spRel rAsked) := by
  obtain ⟨fd, F⟩ := T.f__law_asked
  refine ⟨T.m__law_asked, F.kp, fd, ?_, F.bindsN fun _ _ _ _ _ _ us hl => match us, hl with | [_, _], _ => rfl⟩
  have G_is_instance := ok_is_instance (P := P) (w := w) (base := base) T
  have G_law_is_aloneP : ∀ (a : Addr) (oe : Obj) {cls : Value} {d : Option Addr}, Zc cls d oe → (∃ vs, oe.data = .fields vs) → (cls = .ref (He.ga K "BadKind") ∧ d = none) → _ := fun a oe {cls d} hz hf hp => ok_law_is_alone (P := P) (w := w) (base := base) T a oe (zc_of hz hp) hf
  have G_law_is_aloneK : PySem.W.keepIn K (.ref (He.ga K "_law_is_alone")) = true := (T.f__law_is_alone).choose_spec.kp
  refine F.ok sc_law_asked (fun vs H Q E h => ?_) (fun cdv A outer s H vs Q E hr h => ?_)
  · obtain ⟨G, ds, d, _, r, ⟨x, y, rfl, _⟩, _⟩ := h
    exact r.len
  · obtain ⟨G, ds, d, s0, r, ⟨x, y, rfl, hx, hy, zx, zy, hc⟩, k⟩ := h
    obtain ⟨v1, _, rfl, r_one, v2, _, rfl, r_other, rfl⟩ := r
    refine ⟨_, PSs.nox ((pss_cons (ps_try_as (i := 3) rfl rfl sc_law_asked.nd rfl rfl ⟨rfl, by decide, .inl T.m_HeardError⟩ takes0 (fun W pn xe tk _ => pss_one (ps_set (i := 2) sc_law_asked.nd rfl (Or.inl rfl) (pe_gT tk G_is_instance (hr.mono (by decide)) (pa_cons (pv 0) (pa_cons (pv 1) pa_nil))))) (fun a oe cls d pn hz hf => pss_given (p := cls = .ref (He.ga K "BadKind") ∧ d = none) fun hp => (pss_one (ps_ret (pe_tup (pa_cons pe_str (pa_cons (pe_callP (k := 2) (E := fun _ => E0) (G_law_is_aloneP _ _ hz hf hp).choose_spec.1 (roomH_mark hr (by decide)) List.mem_cons_self rfl T.m__law_is_alone G_law_is_aloneK (G_law_is_aloneP _ _ hz hf hp).choose_spec.2 (fun _ _ _ _ _ _ _ c => c.elim) (pa_cons (pv 3) pa_nil)) pa_nil)))))))
    (pss_one (ps_ret (pe_tup (pa_cons pe_str (pa_cons (pv 2) pa_nil))))))), ?_⟩
    have g := gr0 (M := []) s0
    refine s_seq (s_inst (K := K) (eds_cons (ed_var rfl r_one) (eds_cons (ed_var rfl r_other) eds_nil)) g hx hy zx zy (fun i1 i2 => ?_) fun hb G2 H2 g => ⟨true, beq_iff_eq.mp T.x_4, fun _ a ha => ⟨⟨rfl, rfl⟩, ?_⟩, fun z => nomatch z⟩)
    · rcases hc with ⟨_, _, b, hb, rfl⟩ | ⟨hb, _⟩
      · exact ⟨.bl b, hb, fun v G2 H2 g r2 => s_ret (ed_tup (eds_cons ed_str (eds_cons (ed_var (i := 2) rfl r2) eds_nil)) (Nat.le_of_ble_eq_true rfl)) g k⟩
      · rw [i1, i2] at hb; cases hb
    · rcases hc with ⟨i1, i2, _⟩ | ⟨_, rfl⟩
      · rw [i1, i2] at hb; cases hb
      · exact s_ret (ed_tup (eds_cons ed_str (eds_cons (ed_alone (i := 3) rfl) eds_nil)) (Nat.le_of_ble_eq_true rfl)) g k
end
end K18
set_option maxHeartbeats 4000000
/-! How deep, how long what kinds show is; changed tables. -/
namespace K18
open PySem PySem.Spec PyProof.Rows L2 Kd
mutual
def htT : Tr → Nat
  | .mk _ ks => htL ks + 1
def htL : List Tr → Nat
  | [] => 0
  | k :: ks => max (htT k) (htL ks)
end
theorem htL_mem {k : Tr} : ∀ {ks : List Tr}, k ∈ ks → htT k ≤ htL ks
  | j :: ks, h => by
    rw [htL]
    rcases List.mem_cons.mp h with rfl | h
    · exact Nat.le_max_left _ _
    · exact Nat.le_trans (htL_mem h) (Nat.le_max_right _ _)
theorem htL_le {B : Nat} : ∀ {ks : List Tr}, (∀ k ∈ ks, htT k ≤ B) → htL ks ≤ B
  | [], _ => Nat.zero_le _
  | k :: ks, h => by
    rw [htL]
    exact Nat.max_le.mpr ⟨h k (by simp), htL_le fun j hj => h j (by simp [hj])⟩
theorem ht_pos (t : Tr) : 1 ≤ htT t := by cases t; simp [htT]
theorem ht_cnt : ∀ t : Tr, htT t ≤ cntT t := by
  intro t
  induction t using Tr.rec (motive_2 := fun ks => htL ks ≤ cntL ks) with
  | mk a ks ih => simp only [htT, cntT]; omega
  | nil => simp [htL, cntL]
  | cons k ks h1 h2 => simp only [htL, cntL]; omega
theorem ht_sub {fL : Int → Tr} {fR : Ro → Ro} {B : Nat} (h : ∀ n, htT (fL n) ≤ B) : ∀ t : Tr, htT (subT fL fR t) ≤ htT t + B := by
  intro t
  induction t using Tr.rec (motive_2 := fun ks => htL (ks.map (subT fL fR)) ≤ htL ks + B) with
  | mk a ks ih =>
    cases hl : isLet a with
    | true =>
      cases a with
      | letter n =>
        rw [subT]
        have := h n
        omega
      | _ => cases hl
    | false =>
      rw [subT_node hl]
      simp only [htT]
      omega
  | nil => exact Nat.zero_le _
  | cons k ks h1 h2 => simp only [List.map_cons, htL]; omega
theorem layk_build {a : Nd} {ps : List D} {n : Nat} (ha : okNd a) (hp : ps.length = a.many) (hn : 4 ≤ n) (h : ∀ p ∈ ps, Lay n p) : Lay (n + 2) (build a ps) := by
  cases a with
  | plain w => exact Lay.mono (Lay.tup (n := 0) fun d hd => by rw [List.mem_singleton.mp hd]; exact .str (lay_word ha)) (by omega)
  | letter k =>
    refine Lay.tup (n := n + 1) fun d hd => ?_
    simp only [List.mem_cons, List.not_mem_nil, or_false] at hd
    rcases hd with rfl | rfl
    · exact .str (by decide +kernel)
    · exact .int
  | pair => match ps, hp, h with
    | [p, q], _, h =>
      refine Lay.tup (n := n + 1) fun d hd => ?_
      simp only [List.mem_cons, List.not_mem_nil, or_false] at hd
      rcases hd with rfl | rfl | rfl
      · exact .str (by decide +kernel)
      · exact (h _ (by simp)).mono (by omega)
      · exact (h _ (by simp)).mono (by omega)
  | data s m =>
    refine Lay.tup (n := n + 1) fun d hd => ?_
    simp only [List.mem_cons, List.not_mem_nil, or_false] at hd
    rcases hd with rfl | rfl | rfl
    · exact .str (by decide +kernel)
    · have hg : nameIn 65 90 s = true := ha.1
      exact .str (nameIn_ok hg)
    · exact Lay.lst h
  | func r => match ps, hp, h with
    | [p, q], _, h =>
      refine Lay.tup (n := n + 1) fun d hd => ?_
      simp only [List.mem_cons, List.not_mem_nil, or_false] at hd
      rcases hd with rfl | rfl | rfl | rfl
      · exact .str (by decide +kernel)
      · exact (h _ (by simp)).mono (by omega)
      · exact (lay_row ha).mono (by omega)
      · exact (h _ (by simp)).mono (by omega)
theorem layk_tree : ∀ {t : Tr}, okT id t → Lay (2 * htT t + 4) (tD id t) := by
  intro t
  induction t using Tr.rec (motive_2 := fun ks => (∀ k ∈ ks, okT id k) → ∀ k ∈ ks, Lay (2 * htT k + 4) (tD id k)) with
  | mk a ks ih =>
    rintro ⟨h1, h2, h3⟩
    rw [kD_mk, htT]
    refine (layk_build (n := 2 * htL ks + 4) h1 (by rw [List.length_map]; exact h2) (by omega) fun p hp => ?_).mono (by omega)
    obtain ⟨k, hk, rfl⟩ := List.mem_map.mp hp
    exact (ih h3 k hk).mono (by have := htL_mem hk; omega)
  | nil => rename_i hk; simp at hk
  | cons k ks h1 h2 =>
    rename_i h j hj
    rcases List.mem_cons.mp hj with rfl | hj
    · exact h1 (h j (by simp))
    · exact h2 (fun i hi => h i (by simp [hi])) j hj
/-! the ints that are shown are small -/
def smI : D → Bool
  | .int n => decide (n.natAbs < 2 ^ 64)
  | _ => true
mutual
def smD : D → Bool
  | .int n => decide (n.natAbs < 2 ^ 64)
  | .tup ds => smDL ds
  | .lst ds => smDL ds
  | _ => true
def smDL : List D → Bool
  | [] => true
  | d :: ds => smD d && smDL ds
end
theorem smDL_all : ∀ {ds : List D}, (∀ d ∈ ds, smD d = true) → smDL ds = true
  | [], _ => rfl
  | d :: ds, h => by rw [smDL, h d (by simp), smDL_all fun e he => h e (by simp [he])]; rfl
mutual
theorem show_of : ∀ (d : D), smD d = true → (toPy d).showable = true
  | .non, _ => rfl
  | .bl _, _ => rfl
  | .str _, _ => rfl
  | .dct, _ => rfl
  | .int n, h => by
    have h1 : n.natAbs < 2 ^ 64 := of_decide_eq_true h
    refine decide_eq_true (p := n.natAbs.log2 < 1920) ?_
    by_cases z : n.natAbs = 0
    · rw [z]; decide
    · exact Nat.lt_trans ((Nat.log2_lt z).mpr h1) (by decide)
  | .tup ds, h => showL_of ds h
  | .lst ds, h => showL_of ds h
theorem showL_of : ∀ (ds : List D), smDL ds = true → PyData.showableAll (toPyL ds) = true
  | [], _ => rfl
  | d :: ds, h => by
    have h := (Bool.and_eq_true _ _).mp h
    rw [toPyL, PyData.showableAll, show_of d h.1, showL_of ds h.2]
    rfl
end
theorem kind_tree : ∀ {t : Tr}, okT id t → isKind (tD id t) = true ∧ kindOk (tD id t) := by
  intro t
  induction t using Tr.rec (motive_2 := fun ks => (∀ k ∈ ks, okT id k) → ∀ k ∈ ks, isKind (tD id k) = true ∧ kindOk (tD id k)) with
  | mk a ks ih =>
    rintro ⟨h1, h2, h3⟩
    rw [kD_mk]
    have hl : (ks.map (tD id)).length = a.many := by rw [List.length_map]; exact h2
    refine ⟨?_, kindOk_build h1 hl fun p hp => ?_⟩
    · have e : isKind (build a (ks.map (tD id))) = (ks.map (tD id)).all isKind := isKind_build h1 hl
      rw [e, List.all_map, List.all_eq_true]
      exact fun k hk => (ih h3 k hk).1
    · obtain ⟨k, hk, rfl⟩ := List.mem_map.mp hp
      exact (ih h3 k hk).2
  | nil => rename_i hk; simp at hk
  | cons k ks h1 h2 =>
    rename_i h j hj
    rcases List.mem_cons.mp hj with rfl | hj
    · exact h1 (h j (by simp))
    · exact h2 (fun i hi => h i (by simp [hi])) j hj
/-! ### the texts of kinds -/
def shn (d : D) : Nat := (toPy d).shown.length
def shL (ds : List D) : Nat := (ds.map fun d => shn d + 2).sum
theorem shL_cons (d : D) (ds : List D) : shL (d :: ds) = shn d + 2 + shL ds := by simp [shL]
theorem shL_nil : shL [] = 0 := rfl
theorem piled_sh : ∀ ds : List D, piled (PyData.shownAll (toPyL ds)) = shL ds
  | [] => rfl
  | d :: ds => by
    rw [toPyL, PyData.shownAll, piled_cons, piled_sh ds, shL_cons]
    rfl
theorem textFrom_le : ∀ (ts : List Str) (k : Nat) (acc : Str), (textFrom k acc ts).length ≤ acc.length + piled ts
  | [], k, acc => by rw [piled_nil]; exact Nat.le_refl _
  | t :: ts, k, acc => by
    have h := textFrom_le ts (k + 1) (acc ++ (if k > 0 then ", " else "" : String) ++ t)
    have e : (acc ++ (if k > 0 then ", " else "" : String) ++ t).length ≤ acc.length + 2 + t.length := by
      rw [strLen_append, strLen_append]
      have : (((if k > 0 then ", " else "" : String) : Str)).length ≤ 2 := by split <;> decide
      omega
    show (textFrom (k + 1) _ ts).length ≤ _
    rw [piled_cons]
    omega
theorem sh_lst (ds : List D) : shn (.lst ds) ≤ shL ds + 2 := by
  unfold shn
  rw [toPy, PyData.shown]
  unfold listText
  rw [strLen_append]
  have h := textFrom_le (PyData.shownAll (toPyL ds)) 0 "["
  rw [piled_sh] at h
  have e1 : (("[" : String) : Str).length = 1 := rfl
  have e2 : (("]" : String) : Str).length = 1 := rfl
  omega
theorem sh_tup (ds : List D) : shn (.tup ds) ≤ shL ds + 3 := by
  unfold shn
  rw [toPy, PyData.shown]
  unfold tupleText
  rw [strLen_append, strLen_append]
  have e1 : (("(" : String) : Str).length = 1 := rfl
  have e2 : (((if (PyData.shownAll (toPyL ds)).length == 1 then ",)" else ")" : String) : Str)).length ≤ 2 := by split <;> decide
  have e3 : (Str.join ", " (PyData.shownAll (toPyL ds))).length ≤ piled (PyData.shownAll (toPyL ds)) := by
    by_cases h : PyData.shownAll (toPyL ds) = []
    · rw [h]; exact Nat.zero_le _
    · have := join_length_add _ h
      omega
  rw [piled_sh] at e3
  omega
theorem sh_int {n : Int} (h0 : 0 ≤ n) (h : n < 1000) : shn (.int n) ≤ 3 := toString_length_le h0 (by decide) (by omega)
theorem char_sh : ∀ c < 128, wordSign c = true → (PySem.Builtin.Str.reprChar 39 c).length = 1 ∧ (PySem.Builtin.Str.reprChar 34 c).length = 1 := by decide +kernel
theorem foldl_sh {q : Nat} (hq : q = 39 ∨ q = 34) : ∀ (l : List Nat) (acc : Array Nat), (∀ c ∈ l, wordSign c = true) → (l.foldl (fun out c => out ++ (PySem.Builtin.Str.reprChar q c).toArray) acc).size = acc.size + l.length
  | [], acc, _ => rfl
  | c :: r, acc, h => by
    have ih := foldl_sh hq r (acc ++ (PySem.Builtin.Str.reprChar q c).toArray) fun d hd => h d (List.mem_cons_of_mem _ hd)
    have hw := h c (by simp)
    have hc : c < 128 := by
      simp only [wordSign, Bool.or_eq_true, Bool.and_eq_true, decide_eq_true_eq] at hw
      omega
    have h2 := char_sh c hc hw
    have h3 : (PySem.Builtin.Str.reprChar q c).length = 1 := by rcases hq with rfl | rfl; exact h2.1; exact h2.2
    rw [List.foldl_cons, ih]
    simp only [Array.size_append, List.size_toArray, h3, List.length_cons]
    omega
theorem sh_word {z : Str} (h : ∀ c ∈ z.cps.toList, wordSign c = true) : shn (.str z) = z.length + 2 := by
  show (reprText z).length = _
  unfold reprText
  show ((z.cps.foldl (fun out c => out ++ (PySem.Builtin.Str.reprChar (reprQuote z) c).toArray) #[reprQuote z]).push (reprQuote z)).size = _
  rw [Array.size_push, ← Array.foldl_toList, foldl_sh (by unfold reprQuote; split; exact .inr rfl; exact .inl rfl) _ _ h]
  show 1 + z.cps.toList.length + 1 = _
  have e : z.cps.toList.length = z.length := by simp [Str.length]
  omega
theorem name_signs {lo hi : Nat} {z : Str} (h1 : nameIn lo hi z = true) : ∀ c ∈ z.cps.toList, wordSign c = true := by
  unfold nameIn at h1
  split at h1
  · cases h1
  · rename_i c r e
    rw [e]
    have h2 := ((Bool.and_eq_true _ _).mp ((Bool.and_eq_true _ _).mp h1).2).2
    rw [List.all_eq_true] at h2
    exact fun x hx => h2 x hx
theorem sh_small {z : Str} (h : isSmall (.str z) = true) (hl : z.length ≤ 12) : shn (.str z) ≤ 14 := by
  have h1 : nameIn 97 122 z = true := ((Bool.and_eq_true _ _).mp h).1
  rw [sh_word (name_signs h1)]
  omega
theorem sh_great {z : Str} (h : isGreat (.str z) = true) (hl : z.length ≤ 12) : shn (.str z) ≤ 14 := by
  rw [sh_word (name_signs (show nameIn 65 90 z = true from h))]
  omega
theorem sh_lit {z : Str} (n : Nat) (h : z.cps.toList.all wordSign = true) (hl : z.length ≤ n) : shn (.str z) ≤ n + 2 := by
  rw [sh_word (fun c hc => List.all_eq_true.mp h c hc)]
  omega
theorem sh_nm {ws : List Str} {f t : Int} {r : Ro} (hw : WordsOk ws) (h : RoIn ws f t r) (hf : f ≤ 1000) {p : Str × Fl} (hp : p ∈ r.ns) : shn (nmD p) ≤ 40 := by
  obtain ⟨h1, h2⟩ := hw.sm p.1 (h.sub.subset (List.mem_map_of_mem hp))
  have e1 := sh_small h1 h2
  have hfl := h.fl p hp
  have e2 : shn p.2.d ≤ 16 := by
    cases hq : p.2 with
    | pre => exact Nat.le_trans (sh_lit (z := "pre") 3 (by decide +kernel) (by decide)) (by decide)
    | num n =>
      rw [hq] at hfl
      have h3 := sh_lit (z := "flag") 4 (by decide +kernel) (by decide)
      have h4 := sh_int (n := n) hfl.1 (by have := hfl.2; omega)
      have h5 := sh_tup [.str "flag", .int n]
      rw [shL_cons, shL_cons, shL_nil] at h5
      show shn (.tup [.str "flag", .int n]) ≤ 16
      omega
  have h5 := sh_tup [.str p.1, p.2.d]
  rw [shL_cons, shL_cons, shL_nil] at h5
  show shn (.tup [.str p.1, p.2.d]) ≤ 40
  omega
theorem sh_nms {ws : List Str} {f t : Int} {r : Ro} (hw : WordsOk ws) (h : RoIn ws f t r) (hf : f ≤ 1000) : shL (r.ns.map nmD) ≤ 42 * 5 := by
  have key : ∀ fs : List (Str × Fl), (∀ p ∈ fs, p ∈ r.ns) → shL (fs.map nmD) ≤ 42 * fs.length := by
    intro fs
    induction fs with
    | nil => intro _; exact Nat.le_refl _
    | cons p fs ih =>
      intro hs
      have h1 := ih fun q hq => hs q (by simp [hq])
      have h2 := sh_nm hw h hf (hs p (by simp))
      rw [List.map_cons, shL_cons, List.length_cons]
      omega
  have h1 := key r.ns fun _ h => h
  have h2 := h.sub.length_le
  rw [List.length_map] at h2
  have h3 := hw.len
  omega
theorem sh_row {ws : List Str} {f t : Int} {r : Ro} (hw : WordsOk ws) (h : RoIn ws f t r) (hf : f ≤ 1000) (ht : t ≤ 1000) : shn r.d ≤ 225 := by
  have h1 := sh_nms hw h hf
  have h2 := sh_lst (r.ns.map nmD)
  have h3 := sh_int (n := r.t) h.tl.1 (by have := h.tl.2; omega)
  have h4 := sh_tup [r.l, .int r.t]
  rw [shL_cons, shL_cons, shL_nil] at h4
  have e : shn r.l = shn (.lst (r.ns.map nmD)) := rfl
  show shn (.tup [r.l, .int r.t]) ≤ 225
  omega
theorem sh_build {ws : List Str} {f t L : Int} {a : Nd} {ps : List D} (hw : WordsOk ws) (ha : okNd a) (hl : labIn ws f t L a) (hf : f ≤ 1000) (ht : t ≤ 1000) (hL : L ≤ 1000) (hp : ps.length = a.many) : shn (build a ps) ≤ (match a with | .func _ => 245 | _ => 40) + shL ps := by
  cases a with
  | plain w =>
    have h1 : shn (.str w) ≤ 6 := by
      have ha : w ∈ thePlain := ha
      simp only [thePlain, List.mem_cons, List.not_mem_nil, or_false] at ha
      rcases ha with rfl | rfl | rfl | rfl
      all_goals exact sh_lit 4 (by decide +kernel) (by decide)
    have h2 := sh_tup [.str w]
    rw [shL_cons, shL_nil] at h2
    show shn (.tup [.str w]) ≤ 40 + _
    omega
  | letter n =>
    have h1 := sh_lit (z := "letter") 6 (by decide +kernel) (by decide)
    have hl : 0 ≤ n ∧ n < L := hl
    have h3 := sh_int (n := n) hl.1 (by omega)
    have h2 := sh_tup [.str "letter", .int n]
    rw [shL_cons, shL_cons, shL_nil] at h2
    show shn (.tup [.str "letter", .int n]) ≤ 40 + _
    omega
  | pair =>
    match ps, hp with
    | [p, q], _ =>
      have h1 := sh_lit (z := "pair") 4 (by decide +kernel) (by decide)
      have h2 := sh_tup [.str "pair", p, q]
      rw [shL_cons] at h2
      show shn (.tup [.str "pair", p, q]) ≤ 40 + _
      omega
  | data s m =>
    have h1 := sh_lit (z := "data") 4 (by decide +kernel) (by decide)
    have h3 := sh_great ha.1 ha.2
    have h4 := sh_lst ps
    have h2 := sh_tup [.str "data", .str s, .lst ps]
    rw [shL_cons, shL_cons, shL_cons, shL_nil] at h2
    show shn (.tup [.str "data", .str s, .lst ps]) ≤ 40 + _
    omega
  | func r =>
    match ps, hp with
    | [p, q], _ =>
      have h1 := sh_lit (z := "fun") 3 (by decide +kernel) (by decide)
      have h3 := sh_row hw hl hf ht
      have h2 := sh_tup [.str "fun", p, r.d, q]
      rw [shL_cons, shL_cons, shL_cons, shL_cons, shL_nil] at h2
      rw [shL_cons, shL_cons, shL_nil]
      show shn (.tup [.str "fun", p, r.d, q]) ≤ 245 + _
      omega
/-- the text of a kind -/
theorem sh_tree {ws : List Str} {f t L : Int} (hw : WordsOk ws) (hf : f ≤ 1000) (ht : t ≤ 1000) (hL : L ≤ 1000) : ∀ {u : Tr}, okT id u → (∀ a ∈ lbl u, labIn ws f t L a) → shn (tD id u) + 102 ≤ 150 * cntT u := by
  intro u
  induction u using Tr.rec (motive_2 := fun ks => (∀ k ∈ ks, okT id k) → (∀ a ∈ lblL ks, labIn ws f t L a) → shL (ks.map (tD id)) + 100 * ks.length ≤ 150 * cntL ks) with
  | mk a ks ih =>
    rintro ⟨h1, h2, h3⟩ hl
    have i := ih h3 fun b hb => hl b (by rw [lbl]; exact List.mem_cons_of_mem _ hb)
    have h1 : okNd a := h1
    have h2 : ks.length = a.many := h2
    have b := sh_build (ps := ks.map (tD id)) hw h1 (hl a (by rw [lbl]; exact List.mem_cons_self)) hf ht hL (by rw [List.length_map]; exact h2)
    rw [kD_mk, cntT]
    cases a with
    | func r =>
      have : ks.length = 2 := h2
      have b : shn (build (.func r) (ks.map (tD id))) ≤ 245 + shL (ks.map (tD id)) := b
      omega
    | plain w => have b : shn (build (.plain w) (ks.map (tD id))) ≤ 40 + shL (ks.map (tD id)) := b; omega
    | letter n => have b : shn (build (.letter n) (ks.map (tD id))) ≤ 40 + shL (ks.map (tD id)) := b; omega
    | pair => have b : shn (build .pair (ks.map (tD id))) ≤ 40 + shL (ks.map (tD id)) := b; omega
    | data s m => have b : shn (build (.data s m) (ks.map (tD id))) ≤ 40 + shL (ks.map (tD id)) := b; omega
  | nil => exact Nat.le_refl _
  | cons k ks h1 h2 =>
    rename_i h hl
    have i1 := h1 (h k (by simp)) fun b hb => hl b (by rw [lblL]; exact List.mem_append_left _ hb)
    have i2 := h2 (fun j hj => h j (by simp [hj])) fun b hb => hl b (by rw [lblL]; exact List.mem_append_right _ hb)
    rw [List.map_cons, shL_cons, List.length_cons, cntL]
    omega
theorem sm_row {ws : List Str} {f t : Int} {r : Ro} (h : RoIn ws f t r) (hf : f ≤ 1000) (ht : t ≤ 1000) : smD r.d = true := by
  have h1 : smDL (r.ns.map nmD) = true := smDL_all fun d hd => by
    obtain ⟨p, hp, rfl⟩ := List.mem_map.mp hd
    have hfl := h.fl p hp
    obtain ⟨z, q⟩ := p
    cases q with
    | pre => rfl
    | num n =>
      have hfl : 0 ≤ n ∧ n < f := hfl
      have e : decide (n.natAbs < 2 ^ 64) = true := decide_eq_true (by omega)
      show smD (.tup [.str z, .tup [.str "flag", .int n]]) = true
      simp [smD, smDL, e]
  have h2 := h.tl
  have e : decide (r.t.natAbs < 2 ^ 64) = true := decide_eq_true (by omega)
  show smD (.tup [.lst (r.ns.map nmD), .int r.t]) = true
  simp only [smD, smDL, h1, e]
  rfl
theorem sm_tree {ws : List Str} {f t L : Int} (hf : f ≤ 1000) (ht : t ≤ 1000) (hL : L ≤ 1000) : ∀ {u : Tr}, okT id u → (∀ a ∈ lbl u, labIn ws f t L a) → smD (tD id u) = true := by
  intro u
  induction u using Tr.rec (motive_2 := fun ks => (∀ k ∈ ks, okT id k) → (∀ a ∈ lblL ks, labIn ws f t L a) → smDL (ks.map (tD id)) = true) with
  | mk a ks ih =>
    rintro ⟨h1, h2, h3⟩ hl
    have i := ih h3 fun b hb => hl b (by rw [lbl]; exact List.mem_cons_of_mem _ hb)
    have hla := hl a (by rw [lbl]; exact List.mem_cons_self)
    have h2 : ks.length = a.many := h2
    rw [kD_mk]
    cases a with
    | plain w => rfl
    | letter n =>
      have hla : 0 ≤ n ∧ n < L := hla
      have e : decide (n.natAbs < 2 ^ 64) = true := decide_eq_true (by omega)
      show smD (.tup [.str "letter", .int n]) = true
      simp only [smD, smDL, e]
      rfl
    | pair => match ks, h2, i with
      | [p, q], _, i =>
        show smD (.tup [.str "pair", tD id p, tD id q]) = true
        simpa [smD, smDL] using i
    | data s m =>
      show smD (.tup [.str "data", .str s, .lst (ks.map (tD id))]) = true
      simp only [smD, smDL, i]
      rfl
    | func r => match ks, h2, i with
      | [p, q], _, i =>
        have hr := sm_row hla hf ht
        have i : (smD (tD id p) && (smD (tD id q) && true)) = true := i
        simp only [Bool.and_eq_true] at i
        show smD (.tup [.str "fun", tD id p, r.d, tD id q]) = true
        simp only [smD, smDL, i.1, i.2.1, hr]
        rfl
  | nil => rfl
  | cons k ks h1 h2 =>
    rename_i h hl
    rw [List.map_cons, smDL, h1 (h k (by simp)) fun b hb => hl b (by rw [lblL]; exact List.mem_append_left _ hb), h2 (fun j hj => h j (by simp [hj])) fun b hb => hl b (by rw [lblL]; exact List.mem_append_right _ hb)]
    rfl
end K18
set_option maxHeartbeats 4000000
/-! Changed tables: how much greater their trees are. -/
namespace K18
open PySem PySem.Spec PyProof.Rows L2 Kd
theorem cntL_sum (l : List Nat) (g : Nat → Tr) : cntL (l.map g) = (l.map fun i => cntT (g i)).sum := by
  induction l with
  | nil => rfl
  | cons i l ih => simp only [List.map_cons, cntL, List.sum_cons, ih]
theorem sum_le {l : List Nat} {f g : Nat → Nat} (h : ∀ i ∈ l, f i ≤ g i) : (l.map f).sum ≤ (l.map g).sum := by
  induction l with
  | nil => exact Nat.le_refl _
  | cons i l ih =>
    have h1 := h i (by simp)
    have h2 := ih fun j hj => h j (by simp [hj])
    simp only [List.map_cons, List.sum_cons]
    omega
theorem sum_two (l : List Nat) (g : Nat → Nat) : (l.map fun i => 2 * g i).sum = 2 * (l.map g).sum := by
  induction l with
  | nil => rfl
  | cons i l ih => simp only [List.map_cons, List.sum_cons, ih]; omega
theorem sum_zeros (l : List Nat) : (l.map fun _ => 0).sum = 0 := by
  induction l with
  | nil => rfl
  | cons i l ih => rw [List.map_cons, List.sum_cons, ih]
theorem sum_zero {l : List Nat} {g : Nat → Nat} (h : (l.map g).sum = 0) : ∀ i ∈ l, g i = 0 := by
  induction l with
  | nil => intro i hi; simp at hi
  | cons j l ih =>
    simp only [List.map_cons, List.sum_cons] at h
    intro i hi
    rcases List.mem_cons.mp hi with rfl | hi
    · omega
    · exact ih (by omega) i hi
theorem tab_set {ws : List Str} {f t L : Int} {tb : List He2} {i : Nat} {h h' : He2} (k : TabOk ws f t L tb) (hf : f ≤ 10) (c : Chg ws t L tb i h h') : TabOk ws 10 (t + 1) (L + 4) (tb.set i h') := fun j x e => by
  rw [List.getElem?_set] at e
  by_cases q : i = j
  · subst q
    have hl := (List.getElem?_eq_some_iff.mp c.at').1
    rw [if_pos rfl, if_pos hl] at e
    cases e
    exact c.ok
  · rw [if_neg q] at e
    exact (k.mono hf (by omega) (by omega)) j x e
abbrev trD (tb : List He2) (j : Nat) : Tr := (trs tb).getD j leafT
theorem trD_pre {tb : List He2} {i r : Nat} {h' : He2} (hi : i < tb.length) (hr : r < i) : trD (tb.set i h') r = trD tb r := by
  have e1 : tb.set i h' = tb.take i ++ h' :: tb.drop (i + 1) := List.set_eq_take_append_cons_drop.trans (if_pos hi)
  have e2 : tb = tb.take i ++ tb.drop i := (List.take_append_drop i tb).symm
  have hl : r < (tb.take i).length := by rw [List.length_take]; omega
  have a1 := trs_stay (tb := tb.take i) (more := h' :: tb.drop (i + 1)) hl
  have a2 := trs_stay (tb := tb.take i) (more := tb.drop i) hl
  rw [← e1] at a1
  rw [← e2] at a2
  unfold trD
  rw [List.getD_eq_getElem?_getD, List.getD_eq_getElem?_getD, a1, a2]
theorem trD_out {tb : List He2} {j : Nat} (h : tb.length ≤ j) : trD tb j = leafT := by
  unfold trD
  rw [List.getD_eq_getElem?_getD, List.getElem?_eq_none (by rw [trs_len]; exact h)]
  rfl
theorem trD_mk {ws : List Str} {f t L : Int} {tb : List He2} (k : TabOk ws f t L tb) {j : Nat} {h : He2} (e : tb[j]? = some h) : trD tb j = .mk h.1 (h.2.map (trD tb)) := trs_at k e
theorem chg_meas {ws : List Str} {f t L : Int} {tb : List He2} {i : Nat} {h h' : He2} {a : Nd} (k : TabOk ws f t L tb) (hf : f ≤ 10) (c : Chg ws t L tb i h h') (h0 : tb[0]? = some (a, [])) :
    ∀ j, cntT (trD (tb.set i h') j) ≤ 2 * cntT (trD tb j) ∧ htT (trD (tb.set i h') j) ≤ htT (trD tb j) + 1 := by
  have k' := tab_set k hf c
  have hil := (List.getElem?_eq_some_iff.mp c.at').1
  have z0 : trD tb 0 = .mk a [] := trD_mk k h0
  intro j
  induction j using Nat.strongRecOn with
  | ind j ih =>
    by_cases hj : j < tb.length
    · obtain ⟨x, hx⟩ : ∃ x, tb[j]? = some x := ⟨_, List.getElem?_eq_getElem hj⟩
      have ex := trD_mk k hx
      by_cases q : j = i
      · subst q
        have e2 : x = h := Option.some.inj (hx.symm.trans c.at')
        subst e2
        have hx' : (tb.set j h')[j]? = some h' := by rw [List.getElem?_set, if_pos rfl, if_pos hj]
        have ex' := trD_mk k' hx'
        have e3 : h'.2.map (trD (tb.set j h')) = h'.2.map (trD tb) := List.map_congr_left fun r hr => trD_pre hj (c.ok.ref r hr)
        rw [e3] at ex'
        rw [ex, ex', cntT, cntT, htT, htT, cntL_sum, cntL_sum]
        have b1 := c.sz fun r => cntT (trD tb r)
        have b2 : cntT (trD tb 0) = 1 := by rw [z0]; rfl
        refine ⟨by omega, ?_⟩
        obtain ⟨M, hM⟩ : ∃ M, M = max (htL (x.2.map (trD tb))) 1 := ⟨_, rfl⟩
        have b3 := c.sz fun r => if htT (trD tb r) ≤ M then 0 else 1
        have b4 : (x.2.map fun r => if htT (trD tb r) ≤ M then 0 else 1).sum = 0 := by
          have : (x.2.map fun r => if htT (trD tb r) ≤ M then 0 else 1) = x.2.map fun _ => 0 := List.map_congr_left fun r hr => if_pos (by
            have := htL_mem (List.mem_map_of_mem (f := trD tb) hr)
            omega)
          rw [this]
          exact sum_zeros _
        have b5 : (if htT (trD tb 0) ≤ M then 0 else 1) = 0 := if_pos (by rw [z0]; show 1 ≤ M; omega)
        have b6 : (h'.2.map fun r => if htT (trD tb r) ≤ M then 0 else 1).sum = 0 := by
          have b3 : _ ≤ (x.2.map fun r => if htT (trD tb r) ≤ M then 0 else 1).sum + (if htT (trD tb 0) ≤ M then 0 else 1) := b3
          rw [b4, b5] at b3
          exact Nat.le_zero.mp b3
        have b7 : htL (h'.2.map (trD tb)) ≤ M := htL_le fun u hu => by
          obtain ⟨r, hr, rfl⟩ := List.mem_map.mp hu
          have b8 := sum_zero b6 r hr
          by_cases b9 : htT (trD tb r) ≤ M
          · exact b9
          · rw [if_neg b9] at b8; cases b8
        omega
      · have hx' : (tb.set i h')[j]? = some x := by rw [List.getElem?_set, if_neg (Ne.symm q)]; exact hx
        have ex' := trD_mk k' hx'
        have href := (k j x hx).ref
        rw [ex, ex', cntT, cntT, htT, htT, cntL_sum, cntL_sum]
        have b1 : (x.2.map fun r => cntT (trD (tb.set i h') r)).sum ≤ (x.2.map fun r => 2 * cntT (trD tb r)).sum := sum_le fun r hr => (ih r (href r hr)).1
        rw [sum_two] at b1
        refine ⟨by omega, ?_⟩
        cases e : x.2 with
        | nil => exact Nat.le_of_lt (Nat.lt_succ_self _)
        | cons r0 rs =>
          have b2 : htL ((r0 :: rs).map (trD (tb.set i h'))) ≤ htL ((r0 :: rs).map (trD tb)) + 1 := htL_le fun u hu => by
            obtain ⟨r, hr, rfl⟩ := List.mem_map.mp hu
            have b3 := (ih r (href r (by rw [e]; exact hr))).2
            have b4 := htL_mem (List.mem_map_of_mem (f := trD tb) hr)
            omega
          omega
    · rw [trD_out (by rw [List.length_set]; omega), trD_out (by omega)]
      exact ⟨by simp [leafT, cntT, cntL], Nat.le_succ _⟩
end K18
set_option maxHeartbeats 4000000
/-! repr of data; a law's promise where nothing is being written. -/
namespace Kd
open PySem PySem.Spec PyProof.Rows L2
section
variable {X : Cx}
def rRepr (K : PySem.W.Frag) (n : Nat) : List V → Hp → VK → Prop := fun xs H Q => ∃ (a : Addr) (d : PyData), xs = [.ref a] ∧ Dp K H (.ref a) d ∧ d.showable = true ∧ d.hasDict = false ∧ d.depth ≤ n ∧ d.shown.length ≤ sizeLine ∧ Q (.str d.shown) H
theorem call_reprD {K : PySem.W.Frag} {n : Nat} (hK : X.K = K) (hg : X.A.guards = some []) (hu : X.A.units + (n + 1) < cLine) : CallR X (.builtin "repr") (rRepr K n) := by
  subst hK
  rintro pins s σ H vs us Q I r ⟨a, d, rfl, hd, h1, h2, h3, h4, q⟩
  rw [Vals.ref1 r]
  obtain ⟨as, rd⟩ := Dp.reads I d _ _ hd rfl
  exact repr_of_reads' rd h1 (PyData.noDict_hsm h2) hg (by omega) (fun _ _ e => e) (fun h' u tk hk => ⟨.str d.shown, H, I.kept (t' := tk) hk, ⟨u, rfl⟩, q⟩) h4
/-- == of two lists of the same texts -/
theorem opK_eqV {K : PySem.W.Frag} (hK : X.K = K) (hu : X.A.units + 64 < cLine) : OpR X (compareOp .Eq) (rEqV K) := by
  subst hK
  exact op_eqV hu
end
section
variable {K : PySem.W.Frag} {σ : L2.St} {G : Hp} {te ta : TE} {d : D} {n : Nat}
theorem ed_repr {ds : List D} (h : Ed te σ G (.tup ds)) (hd : noDct (.tup ds) = true) (h1 : (toPy (.tup ds)).showable = true) (h2 : (toPy (.tup ds)).hasDict = false) (h3 : (toPy (.tup ds)).depth ≤ n) (h4 : (toPy (.tup ds)).shown.length ≤ sizeLine) : Ed (tCB (rRepr K n) (tCons te tNil)) σ G (.str (toPy (.tup ds)).shown) := fun H s Q q =>
  h H s _ fun v G1 H1 g1 r1 => by
    have hp := dp_of (K := K) g1.s r1 hd
    obtain ⟨a, vs, rfl, ha, hr⟩ := r1
    exact ⟨a, _, rfl, hp, h1, h2, h3, h4, q _ G1 H1 g1 rfl⟩
theorem paired_strs {H : Hp} : ∀ (zs : List Str), Paired (EqV K H 1) (zs.map V.str) (zs.map V.str)
  | [] => .nil
  | z :: zs => .cons (.inl ⟨rfl, rfl⟩) (paired_strs zs)
theorem rd_eqV {zs : List Str} : Rd2 (rEqV K) G (.lst (zs.map .str)) (.lst (zs.map .str)) (.bl true) := fun x y H s r1 r2 Q q => by
  obtain ⟨a, vs, rfl, ha, hr⟩ := r1
  obtain ⟨b, ws, rfl, hb, hr'⟩ := r2
  rw [strs_rp hr] at ha
  rw [strs_rp hr'] at hb
  exact ⟨1, by decide, .inl ⟨a, b, _, _, rfl, rfl, SqL.of (s a _ ha), SqL.of (s b _ hb), paired_strs zs⟩, q _ G H (gr0 s) rfl⟩
end
/-! ### a promise where no text is being made of anything -/
structure FnG (P : Program) (w : World) (K : PySem.W.Frag) (mg : Str → Option Value) (base : Heap) (CX : CXT) (k : Nat) (f : Addr) (fd : FuncData) (ps : List Str) (sp : Sp) : Prop where
  many : ∀ vs H Q E, sp vs H Q E → vs.length = ps.length
  goes : ∀ (A : Around) (outer : List Env) (s : Shared) (H : Hp) (args : Args) (us : List Value) (vs : List V) (Q : VK) (E : XK), Room k A → A.guards = some [] → Env0 P w K mg base A outer s H →
    BindsTo s fd args (ps.zip us) → Vals vs us → sp vs H Q E → codeAny (model P w) A (.call (.ref f) args) (CR CX outer P w H s Q E) s
section
variable {P : Program} {w : World} {K : PySem.W.Frag} {mg : Str → Option Value} {base : Heap} {CX : CXT} {N ps : List Str} {x qual : Str} {params : Arguments} {body : List Stmt} {scope : Scope} {f : Addr} {fd : FuncData} {k : Nat} {sp : Sp} {dvs : List V} {kws : List (Str × V)}
theorem guards_deeper (A : Around) (env : Env) : (A.deeper env).guards = A.guards := by
  first | rfl | simp [Around.deeper]
theorem fnG_of (F : FunD K x qual params body scope dvs kws f fd) (S : FnScope N ps scope) (hl : ∀ vs H Q E, sp vs H Q E → vs.length = ps.length)
    (hb : ∀ (cdv : Value) (A : Around) (outer : List Env) (s : Shared) (H : Hp) (vs : List V) (Q : VK) (E : XK), Room k (A.deeper (envOfC qual scope s.heap.objs.size f cdv)) → (A.deeper (envOfC qual scope s.heap.objs.size f cdv)).guards = some [] → sp vs H Q E →
      ∃ t, PSs (cxOf CX P w K mg base N qual scope f cdv A outer s H E) body t ∧ t { nx := fun _ H' => Q .non H', rt := Q } (start N vs) H) : FnG P w K mg base CX (k + 1) f fd ps sp := by
  obtain ⟨oc, od, dV, kV, doc, pm, an, cdv, ct, osl, rfl, lk, hcd, _, _⟩ := F.ex
  refine ⟨hl, fun A outer s H args us vs Q E hr hgd e0 hbind r hsp => ?_⟩
  have kin : K.In s.heap := e0.mod.kin.keeps fun b o q => (e0.bs b o q).1
  have nol : s.heap.NoLimit := e0.mod.nolimit.keeps fun b o q => (e0.bs b o q).1
  have names : ∀ y ∈ ps.zip us, scope.names.lookup y.1 = some .local ∨ (scope.names.lookup y.1 = some .cell ∧ ((cellsFrom (s.heap.objs.size + 1) scope.names []).lookup y.1).isSome = true) := by
    rintro ⟨n, v⟩ hy
    exact (S.par n (List.of_mem_zip hy).1).elim .inl fun q => .inr ⟨q, PySem.W.cellsFrom_some _ _ _ (.inl q)⟩
  refine codeAny_call_function hr.depth (kin _ _ lk) rfl S.co S.gen rfl (PySem.W.codeRec_of kin hcd) (hbind _ _ _ _ (wpAny_newFunctionEnv_cells S.kind names fun env he s1 y => ?_))
  subst he
  refine ⟨nol.keeps y.toInCall.keep, codeAny_func ?_⟩
  obtain ⟨t, ht, hq⟩ := hb cdv A outer s H vs Q E (hr.deeper _) ((guards_deeper _ _).trans hgd) hsp
  refine wpAny_mono (ht.run [] s1 (start N vs) H _ (inv_start S hr.hd e0 (hl _ _ _ _ hsp) r y) hq) (fun fl s' hs => ?_) fun e s' hs => hs
  cases fl with
  | ret u =>
    obtain ⟨v, σ', H', J, rv, q⟩ := hs
    exact ⟨v, H', J.os, J.bare, J.base, J.hok, rv, q⟩
  | next =>
    obtain ⟨σ', H', J, q⟩ := hs
    exact ⟨V.non, H', J.os, J.bare, J.base, J.hok, rfl, q⟩
  | brk => obtain ⟨_, _, _, q⟩ := hs; exact q.elim
  | cont => obtain ⟨_, _, _, q⟩ := hs; exact q.elim
/-- the law's own call, by such a promise -/
theorem lawG_call {mb : Str → Option Value} {fa a : Addr} {s₁ : Shared} {vs : List Value} {ns : List Int} (KX : K.In s₁.heap) (hns : s₁.heap.Ns mainGlobals mg) (hbn : s₁.heap.Ns builtinsNs mb) (hbb : ∀ x : Str, x ≠ "__name__" → mb x = bootBuiltins x) (hlim : s₁.heap.NoLimit)
    (hgen : s₁.gens = #[]) (ha : s₁.heap.get? a = some { cls := .type "list", data := .seq vs.toArray }) (hi : IntsAre vs ns) (hl : ns.length ≤ sizeLine) (hr : Room k callerA) (F : ∀ base : Heap, K.In base → base.Ns mainGlobals mg → FnG P w K mg base CX k fa fd [x] sp)
    (hbind : ∀ (s : Shared) (u : Value), BindsTo s fd ⟨[u], []⟩ [(x, u)]) (hsp : ∀ H : Hp, Only H → SqL K H a (ns.map V.int) → sp [.ref a] H (fun v _ => v = .bl true) fun _ _ _ => False) (hCX : ∀ H e s', CX [] H s₁ (fun _ _ _ => False) e s' → False) :
    codeAny (model P w) callerA (.call (.ref fa) ⟨[.ref a], []⟩) (fun r s' => r = .ok (.ret (.bool true)) ∧ OldK s₁.heap s'.heap ∧ s'.os = s₁.os ∧ AllBare s'.gens) s₁ := by
  -- where at most the script itself is tracked
  have main : ∀ H : Hp, Only H → SqL K H a (ns.map V.int) → HOk P w H s₁.heap → (∀ b, H b ≠ none → b = a ∧ K.lookup a = none) → codeAny (model P w) callerA (.call (.ref fa) ⟨[.ref a], []⟩) (fun r s' => r = .ok (.ret (.bool true)) ∧ OldK s₁.heap s'.heap ∧ s'.os = s₁.os ∧ AllBare s'.gens) s₁ := by
    intro H only hS hok hA
    have free : ∀ {b : Addr} {o : Obj}, s₁.heap.get? b = some o → (b = a → K.lookup a ≠ none ∨ ∃ es ep, o.data = .dict es ep) → H b = none := fun {b o} e z => by
      cases q : H b with
      | none => rfl
      | some u =>
        obtain ⟨e1, e2⟩ := hA b (by rw [q]; exact fun z => nomatch z)
        rcases z e1 with h | ⟨es, ep, h⟩
        · exact absurd e2 h
        · rw [e1, ha] at e
          cases e
          cases h
    have ns_of : ∀ {b : Addr} {m : Str → Option Value}, s₁.heap.Ns b m → (hidT s₁.heap H).Ns b m := by
      rintro b m ⟨o, es, ep, e, d, r⟩
      exact ⟨o, es, ep, hidT_get e (free e fun _ => .inr ⟨es, ep, d⟩), d, r⟩
    have kin : K.In (hidT s₁.heap H) := fun b o e => hidT_get (KX b o e) (free (KX b o e) fun z => .inl (by rw [← z, e]; exact fun z => nomatch z))
    obtain ⟨mc, l1, l2⟩ := hlim
    have env : Env0 P w K mg (hidT s₁.heap H) callerA [] s₁ H := ⟨rfl, ⟨kin, ns_of hns, ⟨mb, ns_of hbn, hbb⟩, mc, ns_of l1, l2⟩, fun b o e => of_hidT e, Nat.le_of_eq (hidT_size _ _), trivial, fun b z => absurd (show b ∈ ([] : List Addr) from z) (by simp), hok, .of_eq hgen⟩
    refine codeAny_mono ((F _ kin (ns_of hns)).goes callerA [] s₁ H ⟨[.ref a], []⟩ [.ref a] [.ref a] _ _ hr rfl env (hbind s₁ (.ref a)) (.cons rfl .nil) (hsp H only hS)) fun r s' h => ?_
    match r, h with
    | .error e, h => exact (hCX H e s' h).elim
    | .ok .next, h => exact h.elim
    | .ok .brk, h => exact h.elim
    | .ok .cont, h => exact h.elim
    | .ok (.ret u), h =>
      obtain ⟨v, H', os, bare, un, hok', rv, q⟩ := h
      cases (show v = .bl true from q)
      cases (show u = Value.bool true from rv)
      refine ⟨rfl, OldK.of_keep fun b o e => ?_, os, bare⟩
      rcases only b with z | ⟨ob, xs, z⟩
      · exact un.keep b o e z (fun w => absurd (show b ∈ ([] : List Addr) from w) (by simp)) (by simp)
      · have e1 := (hok b _ z).1
        have e2 := (hok' b _ (un.frzs b ob _ z)).1
        rw [e] at e1
        cases e1
        exact e2
  have rv := vals_ints hi
  have lenV := hi.length
  cases hk : K.lookup a with
  | some o =>
    have e := KX a o hk
    rw [ha] at e
    cases e
    exact main (fun _ => none) (fun _ => .inl rfl) (.inr ⟨_, vs.toArray, _, hk, rfl, rfl, rfl, by rw [List.size_toArray, lenV]; exact hl, by simpa using rv⟩) (fun b u z => nomatch z) fun b z => absurd rfl z
  | none =>
    obtain ⟨ob, hob⟩ : ∃ ob : HO, ob = .frz { cls := .type "list", data := .seq vs.toArray } (.lst (ns.map V.int)) := ⟨_, rfl⟩
    refine main (fun b => if b = a then some ob else none) (fun b => ?_) (.inl (.inr ⟨_, (if_pos rfl).trans (congrArg some hob)⟩)) (fun b u z => ?_) fun b z => ?_
    · by_cases q : b = a
      · exact .inr ⟨_, _, (if_pos q).trans (congrArg some hob)⟩
      · exact .inl (if_neg q)
    · by_cases q : b = a
      · cases (if_pos q).symm.trans z
        rw [hob, q]
        exact ⟨ha, by rw [List.length_map]; exact hl, vs, _, rv, ha⟩
      · cases (if_neg q).symm.trans z
    · by_cases q : b = a
      · exact ⟨q, hk⟩
      · exact absurd (if_neg q) z
end
theorem walkG {l : PySem.W.OpenLaw} {n k : Nat} {q : Program} {loose : List Str} {XP : (Str → Option Value) → Heap → Prop} {YP : World → Heap → Prop} {d : DefRec} {CX : CXT} {x : Str} (hn : l.most = some n) (hn2 : n ≤ sizeLine) (hdf : d.params.defaults = []) (hr : Room k callerA)
    (F : ∀ (w : World) (mg : Str → Option Value) (fa : Addr) (h : Heap), YP w h → h.Ns mainGlobals mg → mg d.name = some (.ref fa) → ∃ (K : PySem.W.Frag) (fd : FuncData) (sp : Sp), K.In h ∧ (∀ (s : Shared) (u : Value), BindsTo s fd ⟨[u], []⟩ [(x, u)]) ∧
      (∀ (H : Hp) (a : Addr) (ns : List Int), ns.length ≤ n → Only H → SqL K H a (ns.map V.int) → sp [.ref a] H (fun v _ => v = .bl true) fun _ _ _ => False) ∧ ∀ base : Heap, K.In base → base.Ns mainGlobals mg → FnG l.prog w K mg base CX k fa fd [x] sp)
    (hCX : ∀ (H : Hp) (s : Shared) (e : Value) (s' : Shared), CX [] H s (fun _ _ _ => False) e s' → False) : PySem.W.WalkO q loose XP YP l.row.toRowW d [] (fun f vs => PySem.call f vs) := by
  refine Att.attach_call hn hdf fun w s₀ s₁ mg mb fa o pm cd doc a vs ns G Y ho hd hcd hmg hobj hints hlen hg => ?_
  obtain ⟨K, fd, sp, KX, hb, hsp, hF⟩ := F w mg fa _ Y G.T.g hmg
  exact lawG_call KX G.T.g G.T.b G.T.builtins G.T.nolimit hg hobj hints (Nat.le_trans hlen hn2) hr hF hb (fun H hO hS => hsp H a ns hlen hO hS) fun H e s' => hCX H s₁ e s'
end Kd
set_option maxHeartbeats 4000000
/-! The plain law: what becomes of a kind by images is an instance. -/
namespace K18
open PySem PySem.Spec PyProof.Rows L2 Kd
/-- a kind of the law: its size, its depth, its labels -/
structure KdB (ws : List Str) (t : Tr) : Prop where
  ok : okT id t
  c : cntT t ≤ 108000
  h : htT t ≤ 1200
  lab : ∀ a ∈ lbl t, labIn ws 100 100 100 a
section
variable {ws : List Str} {t u : Tr}
theorem KdB.sz (k : KdB ws t) : szD (tD id t) ≤ 4320000 := Nat.le_trans (sz_tree k.ok) (by have := k.c; omega)
theorem KdB.kind (k : KdB ws t) : isKind (tD id t) = true := (kind_tree k.ok).1
theorem KdB.kok (k : KdB ws t) : kindOk (tD id t) := (kind_tree k.ok).2
theorem KdB.lay (k : KdB ws t) : Lay 2404 (tD id t) := (layk_tree k.ok).mono (by have := k.h; omega)
theorem KdB.sho (k : KdB ws t) : (toPy (tD id t)).showable = true := show_of _ (sm_tree (by decide) (by decide) (by decide) k.ok k.lab)
theorem KdB.len (k : KdB ws t) (hw : WordsOk ws) : (toPy (tD id t)).shown.length ≤ sizeLine := by
  have h1 : shn (tD id t) + 102 ≤ 150 * cntT t := sh_tree hw (by decide) (by decide) (by decide) k.ok k.lab
  have h2 := k.c
  have h3 : (toPy (tD id t)).shown.length = shn (tD id t) := rfl
  have h4 : sizeLine = 16777216 := by decide
  omega
theorem KdB.tup (k : KdB ws t) : ∃ ds, tD id t = .tup ds := by
  cases t with
  | mk a ks =>
    rw [kD_mk]
    obtain ⟨h1, h2, h3⟩ := k.ok
    obtain ⟨r, e⟩ := build_hd (a := a) (ps := ks.map (tD id)) (by rw [List.length_map]; exact h2)
    exact ⟨_, e⟩
theorem KdB.names (k : KdB ws t) : ∀ r ∈ rowsT t, ∀ p ∈ r.ns, p.1 ∈ ws := fun r hr p hp => by
  obtain ⟨a, ha, e⟩ := (rows_lbl k.ok r).mp hr
  have := k.lab a ha
  rw [e] at this
  exact this.sub.subset (List.mem_map_of_mem hp)
/-- the answer that is due of two kinds -/
theorem inst_of (hw : WordsOk ws) (k : KdB ws t) (k2 : KdB ws u) {b : Bool} (hb : b = true ↔ ∃ L F, MatT (wordsOf t u) L F t u) : rInst [tD id t, tD id u] (.bl b) :=
  ⟨t, u, ws, b, rfl, k.ok, k2.ok, Nat.le_trans k.c (by decide), Nat.le_trans k2.c (by decide), Nat.le_trans hw.len (by decide), fun r hr p hp => hr.elim (fun h => k.names r h p hp) fun h => k2.names r h p hp, rfl, hb⟩
theorem fits_of (hw : WordsOk ws) (k : KdB ws t) (k2 : KdB ws u) {b : Bool} (hb : b = true ↔ ∃ L F, MatT (wordsOf t u) L F t u) : rLFits [tD id t, tD id u] (.bl b) :=
  ⟨t, u, ws, b, rfl, k.ok, k2.ok, Nat.le_trans k.c (by decide), Nat.le_trans k2.c (by decide), Nat.le_trans hw.len (by decide), fun r hr p hp => hr.elim (fun h => k.names r h p hp) fun h => k2.names r h p hp, rfl, hb⟩
end
/-! labels of what is made -/
theorem lbl_sub {fL : Int → Tr} {fR : Ro → Ro} {r : Ro} : ∀ {t : Tr}, okT id t → .func r ∈ lbl t → .func (fR r) ∈ lbl (subT fL fR t) := by
  intro t
  induction t using Tr.rec (motive_2 := fun ks => (∀ k ∈ ks, okT id k) → .func r ∈ lblL ks → .func (fR r) ∈ lblL (ks.map (subT fL fR))) with
  | mk a ks ih =>
    rintro ⟨h1, h2, h3⟩ h
    rw [lbl] at h
    have hl : isLet a = false := by
      cases q : isLet a with
      | false => rfl
      | true =>
        cases a with
        | letter n =>
          have : ks = [] := List.eq_nil_of_length_eq_zero h2
          subst this
          simp [lblL] at h
        | _ => cases q
    rw [subT_node hl, lbl]
    rcases List.mem_cons.mp h with e | h
    · rw [← e]; exact List.mem_cons_self
    · exact List.mem_cons_of_mem _ (ih h3 h)
  | nil => rename_i h; simp [lblL] at h
  | cons k ks h1 h2 =>
    rename_i ho h
    rw [lblL] at h
    rw [List.map_cons, lblL]
    rcases List.mem_append.mp h with h | h
    · exact List.mem_append_left _ (h1 (ho k (by simp)) h)
    · exact List.mem_append_right _ (h2 (fun j hj => ho j (by simp [hj])) h)
def leafL (n : Int) : Tr := .mk (.letter n) []
theorem mat_leaf {W : Str → Prop} {L : Int → Tr} {F : List L2.Key → D} {n : Int} {u : Tr} : MatT W L F (leafL n) u ↔ L n = u := by rw [leafL, MatT]
/-- an image of what is given by images -/
theorem inst_two {W : Str → Prop} {t : Tr} {gL hL L : Int → Tr} {gR hR : Ro → Ro} {φ : List L2.Key → D} (h1 : ∀ a ∈ lbl t, ∀ n, a = .letter n → MatT W L φ (gL n) (hL n)) (h2 : ∀ a ∈ lbl t, ∀ r, a = .func r → CompR φ (gR r) (hR r)) : ∃ L F, MatT W L F (subT gL gR t) (subT hL hR t) := ⟨L, φ, mat_sub h1 h2⟩
theorem sub_self {t : Tr} (ok : okT id t) : subT leafL (fun r => r) t = t := subT_id ok (fun _ => rfl) fun _ _ _ _ => rfl
theorem inst_img {W : Str → Prop} {t : Tr} {fL : Int → Tr} {fR : Ro → Ro} {φ : List L2.Key → D} (ok : okT id t) (h : ∀ a ∈ lbl t, ∀ r, a = .func r → CompR φ r (fR r)) : ∃ L F, MatT W L F t (subT fL fR t) := by
  have := inst_two (W := W) (t := t) (gL := leafL) (hL := fL) (L := fL) (gR := fun r => r) (hR := fR) (φ := φ) (fun a _ n _ => mat_leaf.mpr rfl) h
  rw [sub_self ok] at this
  exact this
theorem inst_self {W : Str → Prop} {t : Tr} (ok : okT id t) : ∃ L F, MatT W L F t t := by
  have := inst_img (W := W) (fL := leafL) (fR := fun r => r) ok fun _ _ r _ => comp_id r
  rw [sub_self ok] at this
  exact this
theorem comp_tab {ws : List Str} {f t L : Int} {tb : List He2} {im : Im} {u : Tr} (k : TabOk ws f t L tb) (hf : f ≤ 10) (pt : PlainT im tb) (hu : u ∈ trs tb) : ∀ a ∈ lbl u, ∀ r, a = .func r → CompR (im.fn ws (im.cOf tb)) r (im.row ws r) := fun a ha r e => by
  obtain ⟨h, hh, rfl⟩ := trs_lab k u hu a ha
  have hr := (k.mem hh).2.2
  rw [e] at hr
  exact Im.comp (fun p hp => hr.sub.subset (List.mem_map_of_mem hp)) (pt.row k hf hh e)
theorem row_tab {ws : List Str} {f t L : Int} {tb : List He2} {u : Tr} (k : TabOk ws f t L tb) (hu : u ∈ trs tb) : ∀ a ∈ lbl u, ∀ r, a = .func r → RoIn ws f t r := fun a ha r e => by
  obtain ⟨h, hh, rfl⟩ := trs_lab k u hu a ha
  have hr := (k.mem hh).2.2
  rw [e] at hr
  exact hr
theorem let_tab {ws : List Str} {f t L : Int} {tb : List He2} {u : Tr} (k : TabOk ws f t L tb) (hu : u ∈ trs tb) : ∀ a ∈ lbl u, ∀ n, a = .letter n → 0 ≤ n ∧ n < L := fun a ha n e => by
  obtain ⟨h, hh, rfl⟩ := trs_lab k u hu a ha
  have hr := (k.mem hh).2.2
  rw [e] at hr
  exact hr
/-- the letters that the numbers give -/
def lett : List He2 := [(.letter 8, []), (.letter 6, []), (.letter 7, []), (.letter 9, [])]
theorem lett_at : ∀ n : Int, 0 ≤ n → n < 3 → trD lett (lAt [0, 1, 2, 3] n) = leafL (if n = 0 then 8 else if n = 1 then 6 else 7) := fun n h0 h1 => by
  have : n = 0 ∨ n = 1 ∨ n = 2 := by omega
  rcases this with rfl | rfl | rfl <;> rfl
/-- everything that the law's first kinds are -/
structure Fam (ws : List Str) (tb mo mk1 re mk2 mk3 : List He2) (lt lt2 : List Int) (im im2 : Im) : Prop where
  t0 : TabOk ws 5 3 3 tb
  n0 : 0 < tb.length
  t1 : TabOk ws 10 3 4 mk1
  n1 : 0 < mk1.length
  p0 : PlainT im tb
  p1 : PlainT im2 mk1
  e1 : trD mk1 (mk1.length - 1) = subT (fun n => trD mo (lAt lt n)) (im.row ws) (trD tb (tb.length - 1))
  e2 : trD mk2 (mk2.length - 1) = subT (fun n => trD re (lAt lt2 n)) (im2.row ws) (trD mk1 (mk1.length - 1))
  e3 : trD mk3 (mk3.length - 1) = subT (fun n => trD lett (lAt [0, 1, 2, 3] n)) (numI.row ws) (trD tb (tb.length - 1))
section
variable {ws : List Str} {tb mo mk1 re mk2 mk3 : List He2} {lt lt2 : List Int} {im im2 : Im} {W : Str → Prop}
theorem trD_mem {tb : List He2} (h : 0 < tb.length) : trD tb (tb.length - 1) ∈ trs tb := getD_mem (by rw [trs_len]; omega)
theorem Fam.ok0 (k : Fam ws tb mo mk1 re mk2 mk3 lt lt2 im im2) : okT id (trD tb (tb.length - 1)) := trs_ok k.t0 _ (trD_mem k.n0)
theorem Fam.ok1 (k : Fam ws tb mo mk1 re mk2 mk3 lt lt2 im im2) : okT id (trD mk1 (mk1.length - 1)) := trs_ok k.t1 _ (trD_mem k.n1)
theorem Fam.i01 (k : Fam ws tb mo mk1 re mk2 mk3 lt lt2 im im2) : ∃ L F, MatT W L F (trD tb (tb.length - 1)) (trD mk1 (mk1.length - 1)) := by
  rw [k.e1]
  exact inst_img k.ok0 (comp_tab k.t0 (by decide) k.p0 (trD_mem k.n0))
theorem Fam.i12 (k : Fam ws tb mo mk1 re mk2 mk3 lt lt2 im im2) : ∃ L F, MatT W L F (trD mk1 (mk1.length - 1)) (trD mk2 (mk2.length - 1)) := by
  rw [k.e2]
  exact inst_img k.ok1 (comp_tab k.t1 (by decide) k.p1 (trD_mem k.n1))
theorem Fam.i02 (k : Fam ws tb mo mk1 re mk2 mk3 lt lt2 im im2) : ∃ L F, MatT W L F (trD tb (tb.length - 1)) (trD mk2 (mk2.length - 1)) := by
  have h2 := comp_tab k.t1 (by decide) k.p1 (trD_mem k.n1)
  rw [k.e1] at h2
  rw [k.e2, k.e1, subT_sub]
  refine inst_img k.ok0 fun a ha r e => (comp_tab k.t0 (by decide) k.p0 (trD_mem k.n0) a ha r e).trans (h2 _ (lbl_sub k.ok0 (e ▸ ha)) _ rfl)
theorem Fam.i03 (k : Fam ws tb mo mk1 re mk2 mk3 lt lt2 im im2) : ∃ L F, MatT W L F (trD tb (tb.length - 1)) (trD mk3 (mk3.length - 1)) := by
  rw [k.e3]
  refine inst_img (φ := numI.fn ws fun _ => (0, "")) k.ok0 fun a ha r e => ?_
  have hr := row_tab k.t0 (trD_mem k.n0) a ha r e
  exact Im.comp (fun p hp => hr.sub.subset (List.mem_map_of_mem hp)) (num_plain r hr.fl)
theorem Fam.i30 (k : Fam ws tb mo mk1 re mk2 mk3 lt lt2 im im2) : ∃ L F, MatT W L F (trD mk3 (mk3.length - 1)) (trD tb (tb.length - 1)) := by
  have := inst_two (W := W) (t := trD tb (tb.length - 1)) (gL := fun n => trD lett (lAt [0, 1, 2, 3] n)) (gR := numI.row ws) (hL := leafL) (hR := fun r => r) (L := fun m => leafL (if m = 8 then 0 else if m = 6 then 1 else 2)) (φ := numB) (fun a ha n e => ?_) fun a ha r e => num_back (row_tab k.t0 (trD_mem k.n0) a ha r e)
  · rw [sub_self k.ok0] at this
    rw [k.e3]
    exact this
  · obtain ⟨h0, h1⟩ := let_tab k.t0 (trD_mem k.n0) a ha n e
    rw [lett_at n h0 h1, mat_leaf]
    have : n = 0 ∨ n = 1 ∨ n = 2 := by omega
    rcases this with rfl | rfl | rfl <;> rfl
theorem Fam.i31 (k : Fam ws tb mo mk1 re mk2 mk3 lt lt2 im im2) : ∃ L F, MatT W L F (trD mk3 (mk3.length - 1)) (trD mk1 (mk1.length - 1)) := by
  have := inst_two (W := W) (t := trD tb (tb.length - 1)) (gL := fun n => trD lett (lAt [0, 1, 2, 3] n)) (gR := numI.row ws) (hL := fun n => trD mo (lAt lt n)) (hR := im.row ws) (L := fun m => trD mo (lAt lt (if m = 8 then 0 else if m = 6 then 1 else 2))) (fun a ha n e => ?_) fun a ha r e => (num_back (row_tab k.t0 (trD_mem k.n0) a ha r e)).trans (comp_tab k.t0 (by decide) k.p0 (trD_mem k.n0) a ha r e)
  · rw [k.e3, k.e1]
    exact this
  · obtain ⟨h0, h1⟩ := let_tab k.t0 (trD_mem k.n0) a ha n e
    rw [lett_at n h0 h1, mat_leaf]
    have : n = 0 ∨ n = 1 ∨ n = 2 := by omega
    rcases this with rfl | rfl | rfl <;> rfl
end
end K18
set_option maxHeartbeats 4000000
/-! Expressions of the law. -/
namespace Kd
open PySem PySem.Spec PyProof.Rows L2
section
variable {K : PySem.W.Frag} {σ : L2.St} {G : Hp} {te ta tb : TE} {p : Addr} {i : Nat}
/-- a comprehension, its things told by place -/
theorem ed_lcN {wi : TI} {g : TG} {items es : List D} {ws : List Nat} (hs : Es wi σ G items) (he : es.length = items.length) (hn : items.length ≤ 10000000)
    (ht : ∀ (j : Nat) d e, items[j]? = some d → es[j]? = some e → ∀ G', Same G G' → Tk g (wipe σ ws) G' d fun σ2 G2 => wipe σ2 ws = wipe σ ws ∧ Ed te σ2 G2 e) : Ed (tLc wi g tYes te ws) σ G (.lst es) := fun H s Q q => hs H s _ fun J G1 H1 g1 W D hD => by
  refine lc_it W (fun j Hj => ∃ (Gj : Hp) (acc : List V), Gp G H Gj Hj ∧ Same G1 Gj ∧ Gj D = none ∧ Hj D = some (.lst acc) ∧ acc.length ≤ j ∧ RpL Gj (es.take j) acc) ?_ ?_ ?_ ?_
  · exact ⟨G1, [], g1.tmp hD, Same.refl _, g1.gfree hD, upd_same, Nat.le_refl _, rfl⟩
  · rintro j Hj _ ⟨Gj, acc, gj, sj, _⟩
    exact sj.trans gj.s
  · rintro j x Hj Hj' hj ⟨Gj, acc, gj, sj, hgD, hHD, hal, hr⟩ ⟨d, hd, y⟩
    obtain ⟨Gk, gk, rk⟩ := y Gj sj gj.s
    have hkD : Gk D = none := gk.n D hgD (some_ne hHD)
    have hkH : Hj' D = some (.lst acc) := gk.e D _ hHD
    have gjk := gj.trans gk
    have hje : j < es.length := by rw [he]; exact (List.getElem?_eq_some_iff.mp hd).1
    have hde : es[j]? = some es[j] := List.getElem?_eq_getElem hje
    refine ht j d _ hd hde Gk gjk.g x Hj' gk.s rk _ fun σ2 h2 => ?_
    obtain ⟨hw, hE⟩ := h2
    refine ⟨hw, ?_⟩
    show te σ2 Hj' _
    refine hE Hj' gk.s _ fun w G4 H4 g4 r4 => ?_
    have h4D : H4 D = some (.lst acc) := g4.e D _ hkH
    have n4D : G4 D = none := g4.n D hkD (some_ne hkH)
    have h0 : H D = none := g1.free hD
    refine ⟨acc, h4D, Nat.lt_of_le_of_lt hal (Nat.lt_of_lt_of_le hj (Nat.le_trans hn (by decide))), G4, acc ++ [w], (gjk.trans g4).mut n4D h0, (sj.trans gk.g).trans g4.g, n4D, upd_same, by simp; exact hal, ?_⟩
    rw [take_snoc hde]
    exact (hr.mono (gk.g.trans g4.g)).snoc r4
  · rintro Hj ⟨Gj, acc, gj, sj, hgD, hHD, hal, hr⟩
    rw [List.take_of_length_le (by omega)] at hr
    have h0 : H D = none := g1.free hD
    exact q (.ref D) _ _ (gj.frz hHD hgD h0) ⟨D, acc, rfl, upd_same, hr.mono (same_frz hgD)⟩
/-- f(pool, ..), with things drawn -/
theorem edp_callD {pre : List D → Prop} {R : List D → D → Prop} {PP : List D → Prop} {tr : TA} {E : XK} (hv : σ[i]? = some (some (.ref p))) (h : EdsP p tr σ G PP) (hp : ∀ ds, PP ds → pre ds) : EdP p (tCall (spP pre R) [] E (tCons (tVar i) tr)) σ G (fun d => ∃ ds, PP ds ∧ R ds d) := fun H s q Q k =>
  ⟨_, hv, h H s q _ fun ds vs G1 H1 hd g1 q1 r1 => ⟨p, vs, G1, ds, by rw [List.append_nil], g1.s, q1, r1, hp ds hd, fun d v G2 H2 hR g2 q2 r2 => k d v G2 H2 ⟨ds, hd, hR⟩ (g1.trans g2) q2 r2⟩⟩
/-- xs[:n], n drawn -/
theorem edp_slTo {ds : List D} (hl : Ed te σ G (.lst ds)) (hp : EdP p ta σ G (fun d => ∃ n : Int, d = .int n)) : EdP p (tSl (rSlL K) te tNoPart (tPart ta)) σ G (fun d => ∃ n : Int, d = .lst (cutD ds none (some n))) := fun H s q Q k =>
  hl H s _ fun v G1 H1 g1 r1 => by
    change tPart ta σ H1 (fun u H3 => rSlL K v none u H3 Q)
    refine hp.mono g1.g H1 g1.s (q.kp g1.kp) _ fun d w G2 H2 hd g2 q2 r2 => ?_
    obtain ⟨n, rfl⟩ := hd
    refine ⟨n, r2, ?_⟩
    obtain ⟨a, vs, rfl, ha, hr⟩ := r1.mono g2.g
    have g := g1.pl.trans g2
    refine ⟨a, vs, rfl, SqL.of (g2.s a _ ha), fun l hl => k _ (.ref l) _ _ ⟨n, rfl⟩ (g.new hl) ⟨?_, ?_⟩ ⟨l, _, rfl, upd_same, (rl_cut hr none (some n)).mono (same_frz (g.gfree hl))⟩⟩
    · have nl : p ≠ l := fun z => q2.ne (by rw [z]; exact hl)
      rw [upd_ne nl]
      exact q2.g
    · obtain ⟨pl, st, xs, e, r⟩ := q2.e
      have nl : p ≠ l := fun z => q2.ne (by rw [z]; exact hl)
      exact ⟨pl, st, xs, by rw [upd_ne nl]; exact e, r⟩
theorem edp_sorted {P : List Str → Prop} (h : EdP p ta σ G (fun d => ∃ xs : List Str, d = .lst (xs.map .str) ∧ P xs)) : EdP p (tCB (rSortedSA K) (tCons ta tNil)) σ G (fun d => ∃ xs ys : List Str, d = .lst (ys.map .str) ∧ P xs ∧ SrtP xs ys) := fun H s q Q k =>
  h H s q _ fun d v G1 H1 hd g1 q1 r1 => by
    obtain ⟨xs, e, hP⟩ := hd
    subst e
    obtain ⟨a, vs, rfl, ha, hr⟩ := r1
    rw [strs_rp hr] at ha
    refine ⟨a, xs, rfl, SqL.of (g1.s a _ ha), fun ys l h1 h2 hl => k (.lst (ys.map .str)) (.ref l) _ _ ⟨xs, ys, rfl, hP, h1, h2⟩ (g1.new hl) ⟨?_, ?_⟩ ⟨l, _, rfl, upd_same, RpL.strs ys⟩⟩
    · have nl : p ≠ l := fun z => q1.ne (by rw [z]; exact hl)
      rw [upd_ne nl]
      exact q1.g
    · obtain ⟨pl, st, xs, e, r⟩ := q1.e
      have nl : p ≠ l := fun z => q1.ne (by rw [z]; exact hl)
      exact ⟨pl, st, xs, by rw [upd_ne nl]; exact e, r⟩
theorem edx_p {P : D → Prop} (h : EdX te σ G P) : EdP p te σ G P := fun H s q Q k => h H s Q fun d v G' H' hd g r => k d v G' H' hd g.pl (q.kp g.kp) r
end
end Kd
namespace K18
open PySem PySem.Spec PyProof.Rows L2 Kd
section
variable {σ : L2.St} {G : Hp} {p : Addr} {ip i1 i2 i4 : Nat} {v1 v2 v4 : V} {ws : List Str} {E E' : XK} {t5 : TE}
/-- where letters are told to go -/
def LtOk (Lt : Int) (mo : List He2) (lt : List Int) : Prop := Lt ≤ (lt.length : Nat) ∧ lt.length ≤ 1000 ∧ ∀ x ∈ lt, 0 ≤ x ∧ x < (mo.length : Nat)
theorem edp_image {f Lt Lx : Int} {tb mo : List He2} (hp : σ[ip]? = some (some (.ref p))) (h1 : σ[i1]? = some (some v1)) (r1 : Rp G (.lst (tb.map hdD)) v1) (h2 : σ[i2]? = some (some v2)) (r2 : Rp G (.lst (ws.map .str)) v2) (h4 : σ[i4]? = some (some v4)) (r4 : Rp G (.lst (mo.map hdD)) v4)
    (h5 : EdP p t5 σ G (fun d => ∃ lt : List Int, d = .lst (lt.map .int) ∧ LtOk Lt mo lt)) (ok : TabOk ws f 3 Lt tb) (hf : f ≤ 10) (mk : TabOk ws 10 3 Lx mo) (hL : Lt ≤ Lx) (hw : WordsOk ws) (n0 : 0 < tb.length) (tl : tb.length ≤ 100000) (ml : mo.length ≤ 100000) :
    EdP p (tCall spImage [] E (tCons (tVar i1) (tCons (tVar i2) (tCons (tCall spImgs [] E' (tCons (tVar ip) (tCons (tVar i1) (tCons (tVar i2) tNil)))) (tCons (tVar i4) (tCons t5 tNil)))))) σ G
      (fun d => ∃ (mk : List He2) (lt : List Int) (im : Im), d = .lst (mk.map hdD) ∧ LtOk Lt mo lt ∧ PlainT im tb ∧ ImgOut ws 10 3 Lx tb mo lt im mk) := fun H s q Q k =>
  ⟨_, h1, _, h2, _, hp, _, h1, _, h2, G, p, ws, f, Lt, tb, v1, v2, rfl, s, q, r1, r2, ok, hw.len, tl, fun im v3 G3 H3 ia io pt g3 q3 => ⟨_, h4, h5.mono g3.g H3 g3.s q3 _ fun d v5 G5 H5 hd g5 q5 r5 => by
    obtain ⟨lt, rfl, hl⟩ := hd
    refine ⟨G5, ws, 10, 8, 3, 10, 3, Lt, Lx, tb, mo, lt, im, v1, v2, v3, v4, v5, rfl, g5.s, r1.mono (g3.g.trans g5.g), r2.mono (g3.g.trans g5.g), ia.mono g5.g, r4.mono (g3.g.trans g5.g), r5, hw, ⟨ok.mono hf (Int.le_refl _) (Int.le_refl _), mk, io, by decide, by decide, hL, hl.1, hl.2.1, hl.2.2, n0, tl, ml⟩, fun mk v6 G6 H6 g6 r6 o => ?_⟩
    exact k _ v6 G6 H6 ⟨mk, lt, im, rfl, hl, pt, o⟩ ((g3.trans g5).trans g6.pl) (q5.kp g6.kp) r6⟩⟩
theorem edx_other {tm tl : TE} {tb : List He2} (h1 : σ[i1]? = some (some v1)) (r1 : Rp G (.lst (tb.map hdD)) v1) (h2 : σ[i2]? = some (some v2)) (r2 : Rp G (.lst (ws.map .str)) v2) (hm : Ed tm σ G (.lst (lett.map hdD))) (hl : Ed tl σ G (.lst (([0, 1, 2, 3] : List Int).map .int)))
    (ok : TabOk ws 5 3 3 tb) (hw : WordsOk ws) (n0 : 0 < tb.length) (tle : tb.length ≤ 100000) :
    EdX (tCall spImage [] E (tCons (tVar i1) (tCons (tVar i2) (tCons (tCall spNumI [] E' (tCons (tVar i2) tNil)) (tCons tm (tCons tl tNil)))))) σ G (fun d => ∃ mk : List He2, d = .lst (mk.map hdD) ∧ ImgOut ws 10 6 10 tb lett [0, 1, 2, 3] numI mk) := fun H s Q k =>
  ⟨_, h1, _, h2, _, h2, G, ws, v2, rfl, s, r2, hw.len, fun v3 G3 H3 g3 ia => hm.mono g3.g H3 g3.s _ fun v4 G4 H4 g4 r4 => hl.mono (g3.g.trans g4.g) H4 g4.s _ fun v5 G5 H5 g5 r5 => by
    have s35 := g4.g.trans g5.g
    refine ⟨G5, ws, 5, 7, 6, 10, 6, 3, 10, tb, lett, [0, 1, 2, 3], numI, v1, v2, v3, v4, v5, rfl, g5.s, r1.mono (g3.g.trans s35), r2.mono (g3.g.trans s35), ia.mono s35, r4.mono g5.g, r5, hw, ⟨ok, ?_, ⟨rfl, by decide, by decide, ?_⟩, by decide, by decide, by decide, by decide, by decide, by decide, n0, tle, by decide⟩, fun mk v6 G6 H6 g6 r6 o => ?_⟩
    · intro j h e
      have hle : ∀ n : Int, 0 ≤ n ∧ n < 10 → HeOk ws 10 6 10 j (.letter n, []) := fun n hn => ⟨hn.1, rfl, fun i hi => by simp at hi, hn⟩
      have hm := List.mem_of_getElem? e
      simp only [lett, List.mem_cons, List.not_mem_nil, or_false] at hm
      rcases hm with rfl | rfl | rfl | rfl
      all_goals exact hle _ (by decide)
    · intro x hx
      simp only [numI, List.mem_cons, List.not_mem_nil, or_false, Option.some.injEq] at hx
      rcases hx with rfl | rfl | rfl | rfl | rfl
      all_goals exact ⟨by decide, by decide⟩
    · exact k _ v6 G6 H6 ⟨mk, rfl, o⟩ (((g3.trans g4).trans g5).trans g6) r6⟩
theorem edp_chg {f t L : Int} {tb : List He2} {a : Nd} (hp : σ[ip]? = some (some (.ref p))) (h1 : σ[i1]? = some (some v1)) (r1 : Rp G (.lst (tb.map hdD)) v1) (h2 : σ[i2]? = some (some v2)) (r2 : Rp G (.lst (ws.map .str)) v2) (ok : TabOk ws f t L tb) (hf : f ≤ 10) (hL0 : 0 ≤ L) (hL : L ≤ 90) (hw : WordsOk ws)
    (n0 : 0 < tb.length) (tl : tb.length ≤ 500000) (h0 : tb[0]? = some (a, [])) (hl : leafN a = true) :
    EdP p (tCall spChg [] E (tCons (tVar ip) (tCons (tVar i1) (tCons (tVar i2) tNil)))) σ G (fun d => ∃ (i : Nat) (h h' : He2), d = .lst ((tb.set i h').map hdD) ∧ Chg ws t L tb i h h') := fun H s q Q k =>
  ⟨_, hp, _, h1, _, h2, G, p, ws, f, t, L, tb, v1, v2, rfl, s, q, r1, r2, ok, hf, hL0, Int.le_trans hL (by decide), hw, n0, tl, ⟨a, h0, hl⟩, fun i h h' v G' H' c r g q' => k _ v G' H' ⟨i, h, h', rfl, c⟩ g q' r⟩
end
/-! the kinds of tables -/
/-- a table of which a kind is built, and the kind -/
structure TbG (ws : List Str) (tb : List He2) : Prop where
  ok : ∃ f t L, TabOk ws f t L tb ∧ f ≤ 100 ∧ t ≤ 100 ∧ L ≤ 100
  n : 0 < tb.length
  len : tb.length ≤ 500000
theorem TabIn.cnt {ws : List Str} {L : Int} {st dp : Nat} {tb : List He2} {sz : List Nat} (k : TabIn ws L st dp tb sz) {B : Nat} (hB : 1 ≤ B) (h : ∀ n, n ≤ (if dp = 0 then 60 else 1000) → n + 1 ≤ 2 ^ (st + 1) → n ≤ B) : ∀ j, cntT (trD tb j) ≤ B := fun j => by
  by_cases hj : j < tb.length
  · have hjs : j < sz.length := by rw [k.szl]; exact hj
    have e : sz[j]? = some sz[j] := List.getElem?_eq_getElem hjs
    obtain ⟨h1, h2⟩ := k.top _ (List.mem_of_getElem? e)
    exact Nat.le_trans (k.fit j _ e) (h _ h1 h2)
  · rw [trD_out (by omega)]
    exact Nat.le_trans (by decide) hB
abbrev rootT (tb : List He2) : Tr := trD tb (tb.length - 1)
theorem TbG.kd {ws : List Str} {tb : List He2} (g : TbG ws tb) (hc : cntT (rootT tb) ≤ 108000) (hh : htT (rootT tb) ≤ 1200) : KdB ws (rootT tb) := by
  obtain ⟨f, t, L, ok, hf, ht, hL⟩ := g.ok
  exact ⟨trs_ok ok _ (trD_mem g.n), hc, hh, fun a ha => by
    obtain ⟨h, hm, rfl⟩ := trs_lab ok _ (trD_mem g.n) a ha
    exact (ok.mem hm).2.2.mono hf ht hL⟩
end K18
set_option maxHeartbeats 4000000
/-! What the law's kinds are. -/
namespace K18
open PySem PySem.Spec PyProof.Rows L2 Kd
theorem all_kinds {ws : List Str} {deep n n5 n8 : Nat} {tb mo mk1 re mk2 mk3 t6 : List He2} {sz szm szr sz6 : List Nat} {lt1 lt2 : List Int} {im im2 : Im} {i4 i5 i7 : Nat} {h4 h4' h5 h5' h7 h7' : He2} (h01 : deep = 0 ∨ deep = 1) (hn : n ≤ 200) (hT : TabIn ws 3 n deep tb sz) (hd1 : deep = 1 → n5 = 0) (hM : TabIn ws 4 n5 0 mo szm) (hn8 : n8 ≤ 3) (hd2 : deep = 1 → n8 = 0) (hR : TabIn ws 4 n8 0 re szr)
    (hI1 : ImgOut ws 10 3 4 tb mo lt1 im mk1) (hI2 : ImgOut ws 10 3 4 mk1 re lt2 im2 mk2) (hI3 : ImgOut ws 10 6 10 tb lett [0, 1, 2, 3] numI mk3) (z1 : mk1[0]? = some (.plain "int", [])) (z2 : mk2[0]? = some (.plain "int", [])) (z3 : mk3[0]? = some (.letter 8, []))
    (hC4 : Chg ws 3 4 mk1 i4 h4 h4') (hC5 : Chg ws 6 10 mk3 i5 h5 h5') (hT6 : TabIn ws 3 3 0 t6 sz6) (hC7 : Chg ws 3 4 mk2 i7 h7 h7') (okT0 : TabOk ws 5 3 3 tb) (nT : 0 < tb.length) (nK1 : 0 < mk1.length) (nK2 : 0 < mk2.length) (nK3 : 0 < mk3.length) (lT : tb.length ≤ 1000) (lK1 : mk1.length ≤ 3000) (lK2 : mk2.length ≤ 5000) (lK3 : mk3.length ≤ 3000) :
    ∀ t ∈ [tb, mk1, mk2, mk3, mk1.set i4 h4', mk3.set i5 h5', t6, mk2.set i7 h7'], TbG ws t ∧ KdB ws (rootT t) := by
  have cM : ∀ j, cntT (trD mo j) ≤ (if deep = 0 then 60 else 1) := hM.cnt (by split <;> decide) fun n h1 h2 => by
    rcases h01 with rfl | rfl
    · exact h1
    · rw [hd1 rfl] at h2
      show n ≤ 1
      omega
  have cR : ∀ j, cntT (trD re j) ≤ (if deep = 0 then 15 else 1) := hR.cnt (by split <;> decide) fun n h1 h2 => by
    rcases h01 with rfl | rfl
    · have : 2 ^ (n8 + 1) ≤ 2 ^ 4 := Nat.pow_le_pow_right (by decide) (by omega)
      show n ≤ 15
      omega
    · rw [hd2 rfl] at h2
      show n ≤ 1
      omega
  have cL : ∀ j, cntT (trD lett j) ≤ 1 := fun j => by
    match j with
    | 0 => decide
    | 1 => decide
    | 2 => decide
    | 3 => decide
    | n + 4 => rw [trD_out (show lett.length ≤ n + 4 by show 4 ≤ n + 4; omega)]; decide
  have a0 : cntT (rootT tb) ≤ (if deep = 0 then 60 else 1000) := hT.cnt (by split <;> decide) (fun n h1 _ => h1) _
  have a1 : cntT (rootT mk1) ≤ cntT (rootT tb) * (if deep = 0 then 60 else 1) := by
    rw [show rootT mk1 = _ from hI1.tr]
    exact subT_cnt (by split <;> decide) (fun n => cM _) _
  have a2 : cntT (rootT mk2) ≤ cntT (rootT mk1) * (if deep = 0 then 15 else 1) := by
    rw [show rootT mk2 = _ from hI2.tr]
    exact subT_cnt (by split <;> decide) (fun n => cR _) _
  have a3 : cntT (rootT mk3) ≤ cntT (rootT tb) * 1 := by
    rw [show rootT mk3 = _ from hI3.tr]
    exact subT_cnt (by decide) (fun n => cL _) _
  have b1 : htT (rootT mk1) ≤ htT (rootT tb) + 60 := by
    rw [show rootT mk1 = _ from hI1.tr]
    exact ht_sub (fun n => Nat.le_trans (ht_cnt _) (Nat.le_trans (cM _) (by split <;> decide))) _
  have b2 : htT (rootT mk2) ≤ htT (rootT mk1) + 15 := by
    rw [show rootT mk2 = _ from hI2.tr]
    exact ht_sub (fun n => Nat.le_trans (ht_cnt _) (Nat.le_trans (cR _) (by split <;> decide))) _
  have b3 : htT (rootT mk3) ≤ htT (rootT tb) + 1 := by
    rw [show rootT mk3 = _ from hI3.tr]
    exact ht_sub (fun n => Nat.le_trans (ht_cnt _) (cL _)) _
  have b0 := ht_cnt (rootT tb)
  obtain ⟨e0, e1, e2⟩ : cntT (rootT tb) ≤ 1000 ∧ cntT (rootT mk1) ≤ 3600 ∧ cntT (rootT mk2) ≤ 54000 := by
    rcases h01 with rfl | rfl
    · have a0 : cntT (rootT tb) ≤ 60 := a0
      have a1 : cntT (rootT mk1) ≤ cntT (rootT tb) * 60 := a1
      have a2 : cntT (rootT mk2) ≤ cntT (rootT mk1) * 15 := a2
      omega
    · have a0 : cntT (rootT tb) ≤ 1000 := a0
      have a1 : cntT (rootT mk1) ≤ cntT (rootT tb) * 1 := a1
      have a2 : cntT (rootT mk2) ≤ cntT (rootT mk1) * 1 := a2
      omega
  have a6 : cntT (rootT t6) ≤ 60 := hT6.cnt (by decide) (fun n h1 _ => h1) _
  have b6 := ht_cnt (rootT t6)
  have m4 := chg_meas hI1.ok (by decide) hC4 z1 (mk1.length - 1)
  have m5 := chg_meas hI3.ok (by decide) hC5 z3 (mk3.length - 1)
  have m7 := chg_meas hI2.ok (by decide) hC7 z2 (mk2.length - 1)
  have r4 : rootT (mk1.set i4 h4') = trD (mk1.set i4 h4') (mk1.length - 1) := by unfold rootT; rw [List.length_set]
  have r5 : rootT (mk3.set i5 h5') = trD (mk3.set i5 h5') (mk3.length - 1) := by unfold rootT; rw [List.length_set]
  have r7 : rootT (mk2.set i7 h7') = trD (mk2.set i7 h7') (mk2.length - 1) := by unfold rootT; rw [List.length_set]
  have l6 := hT6.len
  intro t ht
  simp only [List.mem_cons, List.not_mem_nil, or_false] at ht
  have fin : ∀ {t : List He2}, TbG ws t → cntT (rootT t) ≤ 108000 → htT (rootT t) ≤ 1200 → TbG ws t ∧ KdB ws (rootT t) := fun g c h => ⟨g, g.kd c h⟩
  rcases ht with rfl | rfl | rfl | rfl | rfl | rfl | rfl | rfl
  · exact fin ⟨⟨5, 3, 3, okT0, by decide, by decide, by decide⟩, nT, by omega⟩ (by omega) (by omega)
  · exact fin ⟨⟨10, 3, 4, hI1.ok, by decide, by decide, by decide⟩, nK1, by omega⟩ (by omega) (by omega)
  · exact fin ⟨⟨10, 3, 4, hI2.ok, by decide, by decide, by decide⟩, nK2, by omega⟩ (by omega) (by omega)
  · exact fin ⟨⟨10, 6, 10, hI3.ok, by decide, by decide, by decide⟩, nK3, by omega⟩ (by omega) (by omega)
  · exact fin ⟨⟨10, 4, 8, tab_set hI1.ok (by decide) hC4, by decide, by decide, by decide⟩, by rw [List.length_set]; exact nK1, by rw [List.length_set]; omega⟩ (by rw [r4]; have := m4.1; unfold rootT at e1; omega) (by rw [r4]; have := m4.2; unfold rootT at b1 b0 e0; omega)
  · exact fin ⟨⟨10, 7, 14, tab_set hI3.ok (by decide) hC5, by decide, by decide, by decide⟩, by rw [List.length_set]; exact nK3, by rw [List.length_set]; omega⟩ (by rw [r5]; have := m5.1; unfold rootT at a3 e0; omega) (by rw [r5]; have := m5.2; unfold rootT at b3 b0 e0; omega)
  · exact fin ⟨⟨5, 3, 3, hT6.ok, by decide, by decide, by decide⟩, by omega, by omega⟩ (by omega) (by omega)
  · exact fin ⟨⟨10, 4, 8, tab_set hI2.ok (by decide) hC7, by decide, by decide, by decide⟩, by rw [List.length_set]; exact nK2, by rw [List.length_set]; omega⟩ (by rw [r7]; have := m7.1; unfold rootT at e2; omega) (by rw [r7]; have := m7.2; unfold rootT at b2 b1 b0 e0; omega)
end K18
set_option maxHeartbeats 4000000
namespace Kd
open PySem PySem.Spec PyProof.Rows L2
theorem callK_len {X : Cx} {K : PySem.W.Frag} (h : X.K = K) : CallR X (.builtin "len") (fun xs H Q => ∃ p ys, xs = [.ref p] ∧ (SqL K H p ys ∨ SqT K H p ys) ∧ Q (.int ys.length) H) := h ▸ call_len_seq
section
variable {σ : L2.St} {G : Hp} {te : TE} {p : Addr} {t u : TT} {PB PC : Bool → Prop}
theorem ebp_or (h1 : EbP p t σ G PB) (h2 : PB false → EbP p u σ G PC) (h3 : PB true → PC true) : EbP p (tOr t u) σ G PC := fun H s q Q k => h1 H s q _ fun b G1 H1 hb g1 q1 => by
  cases b with
  | false =>
    show u σ H1 Q
    exact (h2 hb).mono g1.g H1 g1.s q1 Q fun c G2 H2 hc g2 q2 => k c G2 H2 hc (g1.trans g2) q2
  | true =>
    show Q true H1
    exact k true G1 H1 (h3 hb) g1 q1
theorem edp_relP {tr : TA} {PP : List D → Prop} {R : List D → D → Prop} {P : D → Prop} {E : XK} (h : EdsP p tr σ G PP) (hr : ∀ ds, PP ds → ∃ d, R ds d ∧ P d) : EdP p (tCall (spRel R) [] E tr) σ G P := fun H s q Q k =>
  h H s q _ fun ds vs G1 H1 hp g1 q1 r1 => by
    obtain ⟨d, hd, hP⟩ := hr ds hp
    exact ⟨G1, ds, d, g1.s, by rw [List.append_nil]; exact r1, hd, fun v G2 H2 g2 r2 => k d v G2 H2 hP (g1.trans g2.pl) (q1.kp g2.kp) r2⟩
end
end Kd
namespace K18
open PySem PySem.Spec PyProof.Rows L2 Kd
def theBase : List Str := ["o", "p", "twelve_signs", "get1", "z9"]
theorem cut_base (xs : List Str) (n : Int) : ∃ m, Kd.cutD (xs.map D.str) none (some n) = (xs.take m).map D.str := ⟨HT.sIx (xs.map D.str).length (xs.map D.str).length (some n) - HT.sIx (xs.map D.str).length 0 none, by
  unfold Kd.cutD
  rw [HT.sIx_none, List.drop_zero, List.map_take]⟩
theorem base_ok : ∀ z ∈ theBase, isSmall (.str z) = true ∧ z.length ≤ 12 := by
  intro z hz
  simp only [theBase, List.mem_cons, List.not_mem_nil, or_false] at hz
  rcases hz with rfl | rfl | rfl | rfl | rfl
  all_goals exact ⟨by decide +kernel, by decide⟩
theorem base_nodup : theBase.Nodup := by decide
theorem words_ok {m : Nat} {ws : List Str} (h : SrtP (theBase.take m) ws) : WordsOk ws := by
  have nd : ws.Nodup := h.1.nodup_iff.mpr (List.Nodup.sublist (List.take_sublist _ _) base_nodup)
  refine ⟨fun z hz => base_ok z (List.mem_of_mem_take (h.1.mem_iff.mp hz)), ?_, ?_⟩
  · refine ((sorted_pw h.2).and nd).imp fun {a b} q => ?_
    show a.cps.toList < b.cps.toList
    by_cases e : a.cps.toList < b.cps.toList
    · exact e
    · exact absurd (str_ext (List.le_antisymm (as := a.cps.toList) (bs := b.cps.toList) q.1 e)) q.2
  · rw [h.1.length_eq, List.length_take]
    have : theBase.length = 5 := rfl
    omega
theorem str_map_inj : ∀ {xs ys : List Str}, xs.map D.str = ys.map D.str → xs = ys
  | [], [], _ => rfl
  | [], y :: ys, h => by simp at h
  | x :: xs, [], h => by simp at h
  | x :: xs, y :: ys, h => by
    simp only [List.map_cons, List.cons.injEq, D.str.injEq] at h
    rw [h.1, str_map_inj h.2]
theorem tab_args {ws ws' : List Str} {n n' d d' : Nat} {L L' : Int} (h : [D.lst (ws.map .str), .int (n : Nat), .int L, .int (d : Nat)] = [D.lst (ws'.map .str), .int (n' : Nat), .int L', .int (d' : Nat)]) : ws = ws' ∧ n = n' ∧ L = L' ∧ d = d' := by
  simp only [List.cons.injEq, D.lst.injEq, D.int.injEq, and_true] at h
  exact ⟨str_map_inj h.1, Int.ofNat_inj.mp h.2.1, h.2.2.1, Int.ofNat_inj.mp h.2.2.2⟩
theorem mul_ok {i j : Int} (hi : i.natAbs ≤ 100) (hj : j.natAbs ≤ 100) : CMul i j := by
  have e : (2 : Int) ^ 64 = 18446744073709551616 := by decide
  unfold CMul
  rw [e]
  omega
theorem ints_of {B : Int} : ∀ {ds : List D}, (∀ d ∈ ds, ∃ x : Int, d = .int x ∧ 0 ≤ x ∧ x < B) → ∃ lt : List Int, ds = lt.map .int ∧ ∀ x ∈ lt, 0 ≤ x ∧ x < B
  | [], _ => ⟨[], rfl, fun x hx => by simp at hx⟩
  | d :: ds, h => by
    obtain ⟨x, rfl, hx⟩ := h d (by simp)
    obtain ⟨lt, rfl, h2⟩ := ints_of (ds := ds) fun e he => h e (by simp [he])
    exact ⟨x :: lt, rfl, fun y hy => (List.mem_cons.mp hy).elim (fun z => z ▸ hx) (h2 y)⟩
theorem wipe_set {σ : L2.St} {i : Nat} {v : Option V} : wipe ((wipe σ [i]).set i v) [i] = wipe σ [i] := by simp [wipe, List.set_set]
theorem wipe_get {σ : L2.St} {i : Nat} {v : V} (h : i < σ.length) : ((wipe σ [i]).set i (some v))[i]? = some (some v) := by
  rw [List.getElem?_set_self (by rw [wipe_length]; exact h)]
def pD (q : Nat × Nat) : D := .tup [.int (q.1 : Nat), .int (q.2 : Nat)]
def pairs1 : List (Nat × Nat) := [(0, 0), (0, 1), (0, 2), (1, 2), (0, 3), (3, 0), (3, 1)]
def pairs2 : List (Nat × Nat) := [(1, 0), (0, 4), (0, 5), (5, 0), (0, 6), (6, 1), (2, 7), (1, 7), (4, 0)]
theorem pairs2_lt : ∀ q ∈ pairs2, q.1 < 8 ∧ q.2 < 8 := by decide
theorem rdc_intB {G : Hp} {b : Bool} : Rdc (fun xs H Q => (∃ i, xs = [.int i] ∧ Q (.int i) H) ∨ ∃ k, xs = [.bl k] ∧ Q (.int (if k then 1 else 0)) H) G [.bl b] (.int (if b then 1 else 0)) := fun xs H s r Q q => by
  obtain ⟨v, _, rfl, h, rfl⟩ := r
  cases (show v = .bl b from h)
  exact .inr ⟨b, rfl, q _ G H (gr0 s) rfl⟩
section
variable {P : Program} {w : World} {K : PySem.W.Frag} {mg : Str → Option Value} {base : Heap}
def spLaw (K : PySem.W.Frag) : Sp := fun vs H Q _ => ∃ (a : Addr) (ns : List Int), vs = [.ref a] ∧ SqL K H a (ns.map V.int) ∧ ns.length ≤ 63 ∧ Only H ∧ ∀ H', Q (.bl true) H'
abbrev N_law : List Str := ["script", "pool", "words", "deep", "table", "more", "letters", "turned", "rest", "again", "other", "tables", "one", "kinds", "kept", "two", "due", "turn", "wrong", "k", "kind"]
theorem sc_law : FnScope ["script", "pool", "words", "deep", "table", "more", "letters", "turned", "rest", "again", "other", "tables", "one", "kinds", "kept", "two", "due", "turn", "wrong", "k", "kind"] ["script"] (defScope s_law) := ⟨rfl, rfl, rfl, by decide +kernel, rfl, by decide +kernel, by decide +kernel⟩
theorem fn_law (T : Tx K mg) {fd : FuncData} (F : FunD K "law" "law" (defArgs s_law) (defBody s_law) (defScope s_law) [] [] (He.ga K "law") fd) : FnG P w K mg base CX0 151 (He.ga K "law") fd ["script"] (spLaw K) := by
  have G_law_pool := ok_law_pool (P := P) (w := w) (base := base) T
  have G_law_pick := ok_law_pick (P := P) (w := w) (base := base) T
  have G_law_table := ok_law_table (P := P) (w := w) (base := base) T
  have G_law_image := ok_law_image (P := P) (w := w) (base := base) T
  have G_law_images := ok_law_images (P := P) (w := w) (base := base) T
  have G_law_numbers := ok_law_numbers (P := P) (w := w) (base := base) T
  have G_law_changed := ok_law_changed (P := P) (w := w) (base := base) T
  have G_law_built := ok_law_built (P := P) (w := w) (base := base) T
  have G_law_same := ok_law_same (P := P) (w := w) (base := base) T
  have G_law_asked := ok_law_asked (P := P) (w := w) (base := base) T
  have G_law_fits := ok_law_fits (P := P) (w := w) (base := base) T
  have G_law_wrong := ok_law_wrong (P := P) (w := w) (base := base) T
  have G_is_kind := ok_is_kind (P := P) (w := w) (base := base) T
  refine fnG_of F sc_law (fun vs H Q E h => ?_) (fun cdv A outer s H vs Q E hr hgd h => ?_)
  · obtain ⟨a, ns, rfl, _⟩ := h
    rfl
  · obtain ⟨a, ns, rfl, hs, hlen, _, k⟩ := h
    have hcr : ∀ {X : Cx}, X.K = K → X.A = A.deeper (envOfC "law" (defScope s_law) s.heap.objs.size (He.ga K "law") cdv) → CallR X (.builtin "repr") (rRepr K 2404) := fun e1 e2 => call_reprD e1 (by rw [e2]; exact hgd) (by rw [e2]; have := hr.un; omega)
    refine ⟨_, PSs.nox ((pss_cons (ps_set (i := 1) sc_law.nd rfl (Or.inr rfl) (pe_g G_law_pool (hr.mono (by decide)) (pa_cons (pv 0) pa_nil)))
    (pss_cons (ps_set (i := 2) sc_law.nd rfl (Or.inl rfl) (pe_callB cr_sortedSA (by rfl) T.n_sorted (by decide +kernel) (pa_cons (pe_slice sl_list (pe_lst (pa_cons pe_str (pa_cons pe_str (pa_cons pe_str (pa_cons pe_str (pa_cons pe_str pa_nil)))))) po_none (po_some (pe_op op_add pe_int (pe_g G_law_pick (hr.mono (by decide)) (pa_cons (pv 1) (pa_cons pe_int pa_nil)))))) pa_nil)))
    (pss_cons (ps_set (i := 3) sc_law.nd rfl (Or.inl rfl) (pe_callTy call_int1 (by rfl) T.n_int (by decide +kernel) (pa_cons (pe_cmpR op_eq (pe_g G_law_pick (hr.mono (by decide)) (pa_cons (pv 1) (pa_cons pe_int pa_nil))) pe_int (nomark _)) pa_nil)))
    (pss_cons (ps_set (i := 4) sc_law.nd rfl (Or.inl rfl) (pe_g G_law_table (hr.mono (by decide)) (pa_cons (pv 1) (pa_cons (pv 2) (pa_cons (pe_ix ix_list (pe_lst (pa_cons (pe_ix ix_list (pe_lst (pa_cons pe_int (pa_cons pe_int (pa_cons pe_int (pa_cons pe_int (pa_cons pe_int pa_nil)))))) (pe_g G_law_pick (hr.mono (by decide)) (pa_cons (pv 1) (pa_cons pe_int pa_nil))) (fun _ _ => rfl)) (pa_cons pe_int pa_nil))) (pv 3) (fun _ _ => rfl)) (pa_cons pe_int (pa_cons (pv 3) pa_nil)))))))
    (pss_cons (ps_set (i := 5) sc_law.nd rfl (Or.inr rfl) (pe_g G_law_table (hr.mono (by decide)) (pa_cons (pv 1) (pa_cons (pv 2) (pa_cons (pe_op op_mul (pe_ix ix_list (pe_lst (pa_cons pe_int (pa_cons pe_int (pa_cons pe_int pa_nil)))) (pe_g G_law_pick (hr.mono (by decide)) (pa_cons (pv 1) (pa_cons pe_int pa_nil))) (fun _ _ => rfl)) (pe_op op_sub pe_int (pv 3))) (pa_cons pe_int (pa_cons pe_int pa_nil)))))))
    (pss_cons (ps_setLc (i := 6) rfl sc_law.nd rfl rfl (sw_true rfl rfl rfl (by decide +kernel)) (own := [("k", 19)]) (pi_range1 (by rfl) T.n_range (pa_cons pe_int pa_nil)) (blkOk_by (own := [("k", 19)]) (N := ["script", "pool", "words", "deep", "table", "more", "letters", "turned", "rest", "again", "other", "tables", "one", "kinds", "kept", "two", "due", "turn", "wrong", "k", "kind"]) (sc := defScope s_law) (by decide +kernel)) (fun _ _ _ _ _ => by exact (pg_name (i := 19) sc_law.nd rfl (Or.inl rfl))) (fun _ _ _ _ _ => by exact pts_nil) (fun _ _ _ _ _ => by exact (pe_op op_mod (pe_callTy call_int1 (by rfl) T.n_int (by decide +kernel) (pa_cons (pe_g G_law_pick (hr.mono (by decide)) (pa_cons (pv 1) (pa_cons pe_int pa_nil))) pa_nil)) (pe_callB (callK_len (K := K) rfl) (by rfl) T.n_len PySem.boot_len (pa_cons (pv 5) pa_nil)))))
    (pss_cons (ps_set (i := 7) sc_law.nd rfl (Or.inl rfl) (pe_g G_law_image (hr.mono (by decide)) (pa_cons (pv 4) (pa_cons (pv 2) (pa_cons (pe_g G_law_images (hr.mono (by decide)) (pa_cons (pv 1) (pa_cons (pv 4) (pa_cons (pv 2) pa_nil)))) (pa_cons (pv 5) (pa_cons (pv 6) pa_nil)))))))
    (pss_cons (ps_set (i := 8) sc_law.nd rfl (Or.inr rfl) (pe_g G_law_table (hr.mono (by decide)) (pa_cons (pv 1) (pa_cons (pv 2) (pa_cons (pe_op op_mul (pe_g G_law_pick (hr.mono (by decide)) (pa_cons (pv 1) (pa_cons pe_int pa_nil))) (pe_op op_sub pe_int (pv 3))) (pa_cons pe_int (pa_cons pe_int pa_nil)))))))
    (pss_cons (ps_set (i := 9) sc_law.nd rfl (Or.inl rfl) (pe_g G_law_image (hr.mono (by decide)) (pa_cons (pv 7) (pa_cons (pv 2) (pa_cons (pe_g G_law_images (hr.mono (by decide)) (pa_cons (pv 1) (pa_cons (pv 7) (pa_cons (pv 2) pa_nil)))) (pa_cons (pv 8) (pa_cons (pe_lc (own := [("k", 19)]) rfl sc_law.nd (pi_range1 (by rfl) T.n_range (pa_cons pe_int pa_nil)) (blkOk_by (own := [("k", 19)]) (N := ["script", "pool", "words", "deep", "table", "more", "letters", "turned", "rest", "again", "other", "tables", "one", "kinds", "kept", "two", "due", "turn", "wrong", "k", "kind"]) (sc := defScope s_law) (by decide +kernel)) (fun _ _ _ _ _ => by exact (pg_name (i := 19) sc_law.nd rfl (Or.inl rfl))) (fun _ _ _ _ _ => by exact pts_nil) (fun _ _ _ _ _ => by exact (pe_op op_mod (pe_callTy call_int1 (by rfl) T.n_int (by decide +kernel) (pa_cons (pe_g G_law_pick (hr.mono (by decide)) (pa_cons (pv 1) (pa_cons pe_int pa_nil))) pa_nil)) (pe_callB (callK_len (K := K) rfl) (by rfl) T.n_len PySem.boot_len (pa_cons (pv 8) pa_nil))))) pa_nil)))))))
    (pss_cons (ps_set (i := 10) sc_law.nd rfl (Or.inl rfl) (pe_g G_law_image (hr.mono (by decide)) (pa_cons (pv 4) (pa_cons (pv 2) (pa_cons (pe_g G_law_numbers (hr.mono (by decide)) (pa_cons (pv 2) pa_nil)) (pa_cons (pe_lst (pa_cons (pe_tup (pa_cons pe_str (pa_cons pe_int pa_nil))) (pa_cons (pe_tup (pa_cons pe_str (pa_cons pe_int pa_nil))) (pa_cons (pe_tup (pa_cons pe_str (pa_cons pe_int pa_nil))) (pa_cons (pe_tup (pa_cons pe_str (pa_cons pe_int pa_nil))) pa_nil))))) (pa_cons (pe_lst (pa_cons pe_int (pa_cons pe_int (pa_cons pe_int (pa_cons pe_int pa_nil))))) pa_nil)))))))
    (pss_cons (ps_set (i := 11) sc_law.nd rfl (Or.inl rfl) (pe_lst (pa_cons (pv 4) (pa_cons (pv 7) (pa_cons (pv 9) (pa_cons (pv 10) (pa_cons (pe_g G_law_changed (hr.mono (by decide)) (pa_cons (pv 1) (pa_cons (pv 7) (pa_cons (pv 2) pa_nil)))) (pa_cons (pe_g G_law_changed (hr.mono (by decide)) (pa_cons (pv 1) (pa_cons (pv 10) (pa_cons (pv 2) pa_nil)))) pa_nil))))))))
    (pss_cons (ps_set (i := 11) sc_law.nd rfl (Or.inl rfl) (pe_op op_cat (pv 11) (pe_lst (pa_cons (pe_g G_law_table (hr.mono (by decide)) (pa_cons (pv 1) (pa_cons (pv 2) (pa_cons pe_int (pa_cons pe_int (pa_cons pe_int pa_nil)))))) (pa_cons (pe_g G_law_changed (hr.mono (by decide)) (pa_cons (pv 1) (pa_cons (pv 9) (pa_cons (pv 2) pa_nil)))) pa_nil)))))
    (pss_cons (ps_setLc (i := 13) rfl sc_law.nd rfl rfl (sw_true rfl rfl rfl (by decide +kernel)) (own := [("one", 12)]) (pi_list (pv 11)) (blkOk_by (own := [("one", 12)]) (N := ["script", "pool", "words", "deep", "table", "more", "letters", "turned", "rest", "again", "other", "tables", "one", "kinds", "kept", "two", "due", "turn", "wrong", "k", "kind"]) (sc := defScope s_law) (by decide +kernel)) (fun _ _ _ _ _ => by exact (pg_name (i := 12) sc_law.nd rfl (Or.inl rfl))) (fun _ _ _ _ _ => by exact pts_nil) (fun _ _ _ _ _ => by exact (pe_g G_law_built (hr.mono (by decide)) (pa_cons (pv 12) (pa_cons (pe_op op_sub (pe_callB (callK_len (K := K) rfl) (by rfl) T.n_len PySem.boot_len (pa_cons (pv 12) pa_nil)) pe_int) pa_nil)))))
    (pss_cons (ps_setLc (i := 14) rfl sc_law.nd rfl rfl (sw_true rfl rfl rfl (by decide +kernel)) (own := [("kind", 20)]) (pi_list (pv 13)) (blkOk_by (own := [("kind", 20)]) (N := ["script", "pool", "words", "deep", "table", "more", "letters", "turned", "rest", "again", "other", "tables", "one", "kinds", "kept", "two", "due", "turn", "wrong", "k", "kind"]) (sc := defScope s_law) (by decide +kernel)) (fun _ _ _ _ _ => by exact (pg_name (i := 20) sc_law.nd rfl (Or.inl rfl))) (fun _ _ _ _ _ => by exact pts_nil) (fun _ _ _ _ _ => by exact (pe_callB (hcr rfl rfl) (by rfl) T.n_repr (by decide +kernel) (pa_cons (pv 20) pa_nil))))
    (pss_cons (ps_for PassesOwn.never rfl (pi_list (pe_lst (pa_cons (pe_tup (pa_cons pe_int (pa_cons pe_int pa_nil))) (pa_cons (pe_tup (pa_cons pe_int (pa_cons pe_int pa_nil))) (pa_cons (pe_tup (pa_cons pe_int (pa_cons pe_int pa_nil))) (pa_cons (pe_tup (pa_cons pe_int (pa_cons pe_int pa_nil))) (pa_cons (pe_tup (pa_cons pe_int (pa_cons pe_int pa_nil))) (pa_cons (pe_tup (pa_cons pe_int (pa_cons pe_int pa_nil))) (pa_cons (pe_tup (pa_cons pe_int (pa_cons pe_int pa_nil))) pa_nil))))))))) (pg_tup rfl (pgs_cons (pg_name (i := 12) sc_law.nd rfl (Or.inl rfl)) (pgs_cons (pg_name (i := 15) sc_law.nd rfl (Or.inl rfl)) pgs_nil))) (pss_one (ps_if (pt_not (pt_val (pe_g G_law_same (hr.mono (by decide)) (pa_cons (pe_g G_law_asked (hr.mono (by decide)) (pa_cons (pe_ix ix_list (pv 13) (pv 12) (fun _ _ => rfl)) (pa_cons (pe_ix ix_list (pv 13) (pv 15) (fun _ _ => rfl)) pa_nil))) (pa_cons (pe_tup (pa_cons pe_str (pa_cons pe_bl pa_nil))) pa_nil))))) (pss_one (ps_ret pe_bl)) pss_nil)))
    (pss_cons (ps_for PassesOwn.never rfl (pi_list (pe_lst (pa_cons (pe_tup (pa_cons pe_int (pa_cons pe_int pa_nil))) (pa_cons (pe_tup (pa_cons pe_int (pa_cons pe_int pa_nil))) (pa_cons (pe_tup (pa_cons pe_int (pa_cons pe_int pa_nil))) (pa_cons (pe_tup (pa_cons pe_int (pa_cons pe_int pa_nil))) (pa_cons (pe_tup (pa_cons pe_int (pa_cons pe_int pa_nil))) (pa_cons (pe_tup (pa_cons pe_int (pa_cons pe_int pa_nil))) (pa_cons (pe_tup (pa_cons pe_int (pa_cons pe_int pa_nil))) (pa_cons (pe_tup (pa_cons pe_int (pa_cons pe_int pa_nil))) (pa_cons (pe_tup (pa_cons pe_int (pa_cons pe_int pa_nil))) pa_nil))))))))))) (pg_tup rfl (pgs_cons (pg_name (i := 12) sc_law.nd rfl (Or.inl rfl)) (pgs_cons (pg_name (i := 15) sc_law.nd rfl (Or.inl rfl)) pgs_nil))) (pss_cons (ps_set (i := 16) sc_law.nd rfl (Or.inl rfl) (pe_tup (pa_cons pe_str (pa_cons (pe_g G_law_fits (hr.mono (by decide)) (pa_cons (pe_ix ix_list (pv 13) (pv 12) (fun _ _ => rfl)) (pa_cons (pe_ix ix_list (pv 13) (pv 15) (fun _ _ => rfl)) pa_nil))) pa_nil))))
    (pss_one (ps_if (pt_not (pt_val (pe_g G_law_same (hr.mono (by decide)) (pa_cons (pe_g G_law_asked (hr.mono (by decide)) (pa_cons (pe_ix ix_list (pv 13) (pv 12) (fun _ _ => rfl)) (pa_cons (pe_ix ix_list (pv 13) (pv 15) (fun _ _ => rfl)) pa_nil))) (pa_cons (pv 16) pa_nil))))) (pss_one (ps_ret pe_bl)) pss_nil))))
    (pss_cons (ps_for PassesOwn.never rfl (pi_range1 (by rfl) T.n_range (pa_cons pe_int pa_nil)) (pg_name (i := 17) sc_law.nd rfl (Or.inl rfl)) (pss_cons (ps_set (i := 18) sc_law.nd rfl (Or.inl rfl) (pe_g G_law_wrong (hr.mono (by decide)) (pa_cons (pv 1) (pa_cons (pe_ix ix_list (pv 13) pe_int (fun _ _ => rfl)) pa_nil))))
    (pss_cons (ps_if (PW.pt (pw_or (pt_cmpR op_notBl (pe_g G_is_kind (hr.mono (by decide)) (pa_cons (pv 18) pa_nil)) pe_bl (nomark _)) (pw_or1 (pt_cmpR op_notBl (pe_g G_is_kind (hr.mono (by decide)) (pa_cons (pe_ix ix_list (pv 13) (pe_op op_mod (pe_callTy call_int1 (by rfl) T.n_int (by decide +kernel) (pa_cons (pe_g G_law_pick (hr.mono (by decide)) (pa_cons (pv 1) (pa_cons pe_int pa_nil))) pa_nil)) pe_int) (fun _ _ => rfl)) pa_nil)) pe_bl (nomark _))))) (pss_one (ps_ret pe_bl)) pss_nil)
    (pss_one (ps_if (pt_not (pt_val (pe_g G_law_same (hr.mono (by decide)) (pa_cons (pe_lst (pa_cons (pe_g G_law_asked (hr.mono (by decide)) (pa_cons (pe_ix ix_list (pv 13) pe_int (fun _ _ => rfl)) (pa_cons (pv 18) pa_nil))) (pa_cons (pe_g G_law_asked (hr.mono (by decide)) (pa_cons (pv 18) (pa_cons (pe_ix ix_list (pv 13) pe_int (fun _ _ => rfl)) pa_nil))) pa_nil))) (pa_cons (pe_lst (pa_cons (pe_tup (pa_cons pe_str (pa_cons pe_bl pa_nil))) (pa_cons (pe_tup (pa_cons pe_str (pa_cons pe_bl pa_nil))) pa_nil))) pa_nil))))) (pss_one (ps_ret pe_bl)) pss_nil)))))
    (pss_one (ps_ret (pe_cmpR (opK_eqV (K:=K) rfl hr.units) (pe_lc (own := [("kind", 20)]) rfl sc_law.nd (pi_list (pv 13)) (blkOk_by (own := [("kind", 20)]) (N := ["script", "pool", "words", "deep", "table", "more", "letters", "turned", "rest", "again", "other", "tables", "one", "kinds", "kept", "two", "due", "turn", "wrong", "k", "kind"]) (sc := defScope s_law) (by decide +kernel)) (fun _ _ _ _ _ => by exact (pg_name (i := 20) sc_law.nd rfl (Or.inl rfl))) (fun _ _ _ _ _ => by exact pts_nil) (fun _ _ _ _ _ => by exact (pe_callB (hcr rfl rfl) (by rfl) T.n_repr (by decide +kernel) (pa_cons (pv 20) pa_nil)))) (pv 14) (nomark _)))))))))))))))))))))), ?_⟩
    obtain ⟨G, hG⟩ : ∃ G : Hp, G = fun b => if b = a then H a else none := ⟨_, rfl⟩
    have s0 : Same G H := fun b o e => by
      rw [hG] at e
      by_cases z : b = a
      · rw [z]; simpa [z] using e
      · simp [z] at e
    have hs0 : ∀ H', Same G H' → SqL K H' a (ns.map V.int) := fun H' s => by
      rcases hs with hs | hs
      · refine .inl ?_
        rcases hs with hs | ⟨o, hs⟩
        · exact .inl (s a _ (by rw [hG]; simpa using hs))
        · exact .inr ⟨o, s a _ (by rw [hG]; simpa using hs)⟩
      · exact .inr hs
    clear hG hs
    refine s_seq ⟨_, rfl, a, ns, G, rfl, s0, hs0, hlen, fun p G1 H1 g1 hq hp0 => ?_⟩
    have g := gr0 (M := [p]) g1.s
    have hp1 := hq.ne
    have pM : p ∈ [p] := List.mem_singleton.mpr rfl
    have rJ : ∀ {G'} {x : Int}, Rp G' (.int x) (.int x) := rfl
    dsimp only
    -- words
    refine s_seq (p_set (edp_sorted (P := fun xs => ∃ m : Nat, xs = theBase.take m) ((edp_slTo (ds := theBase.map D.str) (ed_lst (eds_cons ed_str (eds_cons ed_str (eds_cons ed_str (eds_cons ed_str (eds_cons ed_str eds_nil))))) (Nat.le_of_ble_eq_true rfl)) ((edp_op (P3 := fun d => ∃ n : Int, d = .int n) (Ed.pl ed_int) (edp_pick rfl ed_int (by decide)) ?_))).to ?_)) g pM hq fun d2 vw G2 H2 hd2 g s2 _ hq r_words => ?_)
    · rintro d e rfl ⟨r, rfl, _⟩
      exact ⟨_, ⟨_, rfl⟩, fun _ _ => rd_I0i⟩
    · rintro d ⟨n, rfl⟩
      obtain ⟨m, e⟩ := cut_base theBase n
      exact ⟨theBase.take m, by rw [e], m, rfl⟩
    obtain ⟨xs, ws, rfl, ⟨m, rfl⟩, hsrt⟩ := hd2
    have hw : WordsOk ws := words_ok hsrt
    clear hsrt m
    simp only [tNext]
    -- deep
    refine s_seq (p_set (P := fun d => ∃ deep : Nat, d = .int (deep : Nat) ∧ deep ≤ 1) (edp_cb (edsp_cons (edp_op (P3 := fun d => ∃ b : Bool, d = .bl b) (edp_pick rfl ed_int (by decide)) (Ed.pl ed_int) ?_) edsp_nil) ?_) g pM hq fun d3 v3 G3 H3 hd3 g s3 _ hq r3 => ?_)
    · rintro d e ⟨r, rfl, _⟩ rfl
      exact ⟨_, ⟨_, rfl⟩, fun _ _ => rd_eq rfl⟩
    · rintro ds ⟨d, r, rfl, ⟨b, rfl⟩, rfl⟩
      exact ⟨.int (if b then 1 else 0), ⟨if b then 1 else 0, by cases b <;> rfl, by cases b <;> decide⟩, fun G' _ => rdc_intB⟩
    obtain ⟨deep, rfl, hdeep⟩ := hd3
    cases (show v3 = .int (deep : Nat) from r3)
    clear r3
    have r_words := r_words.mono s3
    simp only [tNext]
    -- table
    have e_deep : ∀ {σ : L2.St} {i : Nat} {G'}, σ[i]? = some (some (.int (deep : Nat))) → Ed (tVar i) σ G' (.int (deep : Nat)) := fun h => ed_var h rJ
    refine s_seq (p_set (edp_callD (PP := fun ds => ∃ n : Nat, n ≤ 200 ∧ ds = [.lst (ws.map .str), .int (n : Nat), .int 3, .int (deep : Nat)]) rfl (edsp_to (edsp_cons (Ed.pl (ed_var rfl r_words)) (edsp_cons (edp_op (P3 := fun d => ∃ n : Nat, d = .int (n : Nat) ∧ n ≤ 200) (edp_lst2 (edp_oneOf rfl (ed_lst (eds_cons ed_int (eds_cons ed_int (eds_cons ed_int (eds_cons ed_int (eds_cons ed_int eds_nil))))) (Nat.le_of_ble_eq_true rfl)) ed_int (by decide) rfl) (Ed.pl ed_int)) (Ed.pl (e_deep rfl)) ?_) (edsp_cons (Ed.pl ed_int) (edsp_cons (Ed.pl (e_deep rfl)) edsp_nil)))) ?_) ?_) g pM hq fun d4 vt G4 H4 hd4 g s4 _ hq r_table => ?_)
    · rintro d e ⟨x, y, rfl, hx, rfl⟩ rfl
      have h01 : deep = 0 ∨ deep = 1 := by omega
      rcases h01 with rfl | rfl
      · simp only [List.mem_cons, List.not_mem_nil, or_false] at hx
        rcases hx with rfl | rfl | rfl | rfl | rfl
        · exact ⟨_, ⟨1, rfl, by decide⟩, fun _ _ => rd_ixL at0⟩
        · exact ⟨_, ⟨3, rfl, by decide⟩, fun _ _ => rd_ixL at0⟩
        · exact ⟨_, ⟨6, rfl, by decide⟩, fun _ _ => rd_ixL at0⟩
        · exact ⟨_, ⟨12, rfl, by decide⟩, fun _ _ => rd_ixL at0⟩
        · exact ⟨_, ⟨20, rfl, by decide⟩, fun _ _ => rd_ixL at0⟩
      · exact ⟨_, ⟨200, rfl, by decide⟩, fun _ _ => rd_ixL at1⟩
    · rintro ds ⟨_, _, rfl, rfl, _, _, rfl, ⟨n, rfl, hn⟩, _, _, rfl, rfl, _, _, rfl, e, rfl⟩
      exact ⟨n, hn, by rw [e]⟩
    · rintro ds ⟨n, hn, rfl⟩
      exact ⟨ws, n, 3, deep, rfl, hw, hn, by decide, hdeep⟩
    obtain ⟨_, ⟨n, hn, rfl⟩, ws', st', L', dp', tb, sz, e4, rfl, hT⟩ := hd4
    obtain ⟨rfl, rfl, rfl, rfl⟩ := tab_args e4
    clear e4
    have r_words := r_words.mono s4
    simp only [tNext]
    -- more
    have h01 : deep = 0 ∨ deep = 1 := by omega
    refine s_seq (p_set (edp_callD (PP := fun ds => ∃ n : Nat, n ≤ 5 ∧ (deep = 1 → n = 0) ∧ ds = [.lst (ws.map .str), .int (n : Nat), .int 4, .int ((0 : Nat) : Int)]) rfl (edsp_to (edsp_cons (Ed.pl (ed_var rfl r_words)) (edsp_cons (edp_op (P3 := fun d => ∃ n : Nat, d = .int (n : Nat) ∧ n ≤ 5 ∧ (deep = 1 → n = 0)) (edp_oneOf rfl (ed_lst (eds_cons ed_int (eds_cons ed_int (eds_cons ed_int eds_nil))) (Nat.le_of_ble_eq_true rfl)) ed_int (by decide) rfl) (Ed.pl (ed_op ed_int (e_deep rfl) fun _ _ => rd_I0i)) ?_) (edsp_cons (Ed.pl ed_int) (edsp_cons (Ed.pl ed_int) edsp_nil)))) ?_) ?_) g pM hq fun d5 vm G5 H5 hd5 g s5 _ hq r_more => ?_)
    · rintro d e hx rfl
      simp only [List.mem_cons, List.not_mem_nil, or_false] at hx
      have key : ∀ c : Nat, c ≤ 5 → d = .int (c : Nat) → ∃ z : D, (∃ n : Nat, z = .int (n : Nat) ∧ n ≤ 5 ∧ (deep = 1 → n = 0)) ∧ ∀ G1, Same G4 G1 → Rd2 (rI CMul fun i j => .int (i * j)) G1 d (.int (1 - (deep : Nat))) z := by
        rintro c hc rfl
        rcases h01 with rfl | rfl
        · exact ⟨.int ((c : Int) * (1 - ((0 : Nat) : Int))), ⟨c, by simp, hc, fun z => nomatch z⟩, fun _ _ => rd_Ii (mul_ok (by omega) (by decide))⟩
        · exact ⟨.int ((c : Int) * (1 - ((1 : Nat) : Int))), ⟨0, by simp, by decide, fun _ => rfl⟩, fun _ _ => rd_Ii (mul_ok (by omega) (by decide))⟩
      rcases hx with h | h | h
      · exact key 0 (by decide) h
      · exact key 2 (by decide) h
      · exact key 5 (by decide) h
    · rintro ds ⟨_, _, rfl, rfl, _, _, rfl, ⟨n, rfl, hn, h1⟩, _, _, rfl, rfl, _, _, rfl, e, rfl⟩
      exact ⟨n, hn, h1, by rw [e]; rfl⟩
    · rintro ds ⟨n, hn, _, rfl⟩
      exact ⟨ws, n, 4, 0, rfl, hw, by omega, by decide, by decide⟩
    obtain ⟨_, ⟨n5, hn5, hd1, rfl⟩, ws', st', L', dp', mo, szm, e5, rfl, hM⟩ := hd5
    obtain ⟨rfl, rfl, rfl, rfl⟩ := tab_args e5
    clear e5
    have r_words := r_words.mono s5
    have r_table := r_table.mono s5
    simp only [tNext]
    -- letters
    have hL5 := hM.len
    have n5 : 0 < mo.length := by omega
    refine s_seq (p_set (P := fun d => ∃ lt : List Int, d = .lst (lt.map .int) ∧ LtOk 3 mo lt) ((edp_lcD (P := fun d => ∃ x : Int, d = .int x ∧ 0 ≤ x ∧ x < (mo.length : Nat)) (items := (List.range (4 : Int).toNat).map fun i => .int ((0 : Int) + (i : Nat))) (es_range1 (n := 4) ed_int (by decide) (by decide)) (by decide) ?_).to ?_) g pM hq fun d6 vl G6 H6 hd6 g s6 _ hq r_letters => ?_)
    · intro d hd G' s'
      refine tk_name fun u hu => ⟨rfl, (edp_op (edp_cb (P3 := fun d => ∃ r : Int, d = .int r) (edsp_cons (edp_pick rfl ed_int (by decide)) edsp_nil) ?_) (Ed.pl (ed_lenL (ed_var rfl (r_more.mono s')))) ?_)⟩
      · rintro ds ⟨d, r, rfl, ⟨x, rfl, _⟩, rfl⟩
        exact ⟨_, ⟨x, rfl⟩, fun _ _ => rdc_int1⟩
      · rintro d e ⟨r, rfl⟩ rfl
        rw [List.length_map]
        exact ⟨_, ⟨_, rfl, Int.emod_nonneg _ (by omega), Int.emod_lt_of_pos _ (by omega)⟩, fun _ _ => rd_Ii (by omega)⟩
    · rintro d ⟨ds, rfl, hl, hd⟩
      obtain ⟨lt, rfl, hl2⟩ := ints_of hd
      exact ⟨lt, rfl, by rw [List.length_map] at hl; rw [hl]; decide, by rw [List.length_map] at hl; rw [hl]; decide, hl2⟩
    obtain ⟨lt, rfl, hlt⟩ := hd6
    have r_words := r_words.mono s6
    have r_table := r_table.mono s6
    have r_more := r_more.mono s6
    simp only [tNext]
    -- turned
    have okT0 := hT.ok
    have okM := hM.ok
    have nT : 0 < tb.length := by have := hT.len; omega
    have lT : tb.length ≤ 1000 := by have := hT.len; omega
    have lM : mo.length ≤ 1000 := by have := hM.len; omega
    refine s_seq (p_set (edp_image (Lx := 4) rfl rfl r_table rfl r_words rfl r_more ((Ed.pl (ed_var rfl r_letters)).to fun d e => ⟨lt, e, hlt⟩) okT0 (by decide) (okM.mono (by decide) (Int.le_refl _) (Int.le_refl _)) (by decide) hw nT (by omega) (by omega)) g pM hq fun d7 v7 G7 H7 hd7 g s7 _ hq r_turned => ?_)
    obtain ⟨mk1, lt1, im, rfl, hlt1, hpt, hI1⟩ := hd7
    have r_words := r_words.mono s7
    have r_table := r_table.mono s7
    simp only [tNext]
    -- rest
    refine s_seq (p_set (edp_callD (PP := fun ds => ∃ n : Nat, n ≤ 3 ∧ (deep = 1 → n = 0) ∧ ds = [.lst (ws.map .str), .int (n : Nat), .int 4, .int ((0 : Nat) : Int)]) rfl (edsp_to (edsp_cons (Ed.pl (ed_var rfl r_words)) (edsp_cons (edp_op (P3 := fun d => ∃ n : Nat, d = .int (n : Nat) ∧ n ≤ 3 ∧ (deep = 1 → n = 0)) (edp_pick rfl ed_int (by decide)) (Ed.pl (ed_op ed_int (e_deep rfl) fun _ _ => rd_I0i)) ?_) (edsp_cons (Ed.pl ed_int) (edsp_cons (Ed.pl ed_int) edsp_nil)))) ?_) ?_) g pM hq fun d8 v8 G8 H8 hd8 g s8 _ hq r_rest => ?_)
    · rintro d e ⟨r, rfl, h0, h1⟩ rfl
      obtain ⟨c, rfl⟩ := Int.eq_ofNat_of_zero_le h0
      rcases h01 with rfl | rfl
      · exact ⟨.int ((c : Int) * (1 - ((0 : Nat) : Int))), ⟨c, by simp, by omega, fun z => nomatch z⟩, fun _ _ => rd_Ii (mul_ok (by omega) (by decide))⟩
      · exact ⟨.int ((c : Int) * (1 - ((1 : Nat) : Int))), ⟨0, by simp, by decide, fun _ => rfl⟩, fun _ _ => rd_Ii (mul_ok (by omega) (by decide))⟩
    · rintro ds ⟨_, _, rfl, rfl, _, _, rfl, ⟨n, rfl, hn, h1⟩, _, _, rfl, rfl, _, _, rfl, e, rfl⟩
      exact ⟨n, hn, h1, by rw [e]; rfl⟩
    · rintro ds ⟨n, hn, _, rfl⟩
      exact ⟨ws, n, 4, 0, rfl, hw, by omega, by decide, by decide⟩
    obtain ⟨_, ⟨n8, hn8, hd2, rfl⟩, ws', st', L', dp', re, szr, e8, rfl, hR⟩ := hd8
    obtain ⟨rfl, rfl, rfl, rfl⟩ := tab_args e8
    clear e8
    have r_words := r_words.mono s8
    have r_table := r_table.mono s8
    have r_turned := r_turned.mono s8
    have okR := hR.ok
    have lR : re.length ≤ 1000 := by have := hR.len; omega
    have nR : 0 < re.length := by have := hR.len; omega
    have lK1 : mk1.length ≤ 3000 := by have := hI1.len; omega
    have nK1 : 0 < mk1.length := by have := hI1.ne; omega
    simp only [tNext]
    -- again
    refine s_seq (p_set (edp_image (Lx := 4) rfl rfl r_turned rfl r_words rfl r_rest ((edp_lcD (P := fun d => ∃ x : Int, d = .int x ∧ 0 ≤ x ∧ x < (re.length : Nat)) (items := (List.range (4 : Int).toNat).map fun i => .int ((0 : Int) + (i : Nat))) (es_range1 (n := 4) ed_int (by decide) (by decide)) (by decide) ?_).to ?_) hI1.ok (by decide) (okR.mono (by decide) (Int.le_refl _) (Int.le_refl _)) (by decide) hw nK1 (by omega) (by omega)) g pM hq fun d9 v9 G9 H9 hd9 g s9 _ hq r_again => ?_)
    · intro d hd G' s'
      refine tk_name fun u hu => ⟨rfl, (edp_op (edp_cb (P3 := fun d => ∃ r : Int, d = .int r) (edsp_cons (edp_pick rfl ed_int (by decide)) edsp_nil) ?_) (Ed.pl (ed_lenL (ed_var rfl (r_rest.mono s')))) ?_)⟩
      · rintro ds ⟨d, r, rfl, ⟨x, rfl, _⟩, rfl⟩
        exact ⟨_, ⟨x, rfl⟩, fun _ _ => rdc_int1⟩
      · rintro d e ⟨r, rfl⟩ rfl
        rw [List.length_map]
        exact ⟨_, ⟨_, rfl, Int.emod_nonneg _ (by omega), Int.emod_lt_of_pos _ (by omega)⟩, fun _ _ => rd_Ii (by omega)⟩
    · rintro d ⟨ds, rfl, hl, hd⟩
      obtain ⟨lt, rfl, hl2⟩ := ints_of hd
      exact ⟨lt, rfl, by rw [List.length_map] at hl; rw [hl]; decide, by rw [List.length_map] at hl; rw [hl]; decide, hl2⟩
    obtain ⟨mk2, lt2, im2, rfl, hlt2, hpt2, hI2⟩ := hd9
    have r_words := r_words.mono s9
    have r_table := r_table.mono s9
    have r_turned := r_turned.mono s9
    simp only [tNext]
    -- other
    refine s_seq (p_set (edx_p (edx_other (tb := tb) rfl r_table rfl r_words ((ed_lst (eds_cons (ed_tup (eds_cons ed_str (eds_cons ed_int eds_nil)) (Nat.le_of_ble_eq_true rfl)) (eds_cons (ed_tup (eds_cons ed_str (eds_cons ed_int eds_nil)) (Nat.le_of_ble_eq_true rfl)) (eds_cons (ed_tup (eds_cons ed_str (eds_cons ed_int eds_nil)) (Nat.le_of_ble_eq_true rfl)) (eds_cons (ed_tup (eds_cons ed_str (eds_cons ed_int eds_nil)) (Nat.le_of_ble_eq_true rfl)) eds_nil)))) (Nat.le_of_ble_eq_true rfl)) : Ed _ _ _ (.lst (lett.map hdD))) ((ed_lst (eds_cons ed_int (eds_cons ed_int (eds_cons ed_int (eds_cons ed_int eds_nil)))) (Nat.le_of_ble_eq_true rfl)) : Ed _ _ _ (.lst (([0, 1, 2, 3] : List Int).map .int))) okT0 hw nT (by omega))) g pM hq fun d10 v10 G10 H10 hd10 g s10 _ hq r_other => ?_)
    obtain ⟨mk3, rfl, hI3⟩ := hd10
    have r_words := r_words.mono s10
    have r_table := r_table.mono s10
    have r_turned := r_turned.mono s10
    have r_again := r_again.mono s10
    simp only [tNext]
    show tSeq _ _ _ [some (.ref a), some (.ref p), some vw, some (.int (deep : Nat)), some vt, some vm, some vl, some v7, some v8, some v9, some v10, none, none, none, none, none, none, none, none, none, none] H10
    -- tables
    have lK2 : mk2.length ≤ 5000 := by have := hI2.len; omega
    have nK2 : 0 < mk2.length := by have := hI2.ne; omega
    have lK3 : mk3.length ≤ 3000 := by have := hI3.len; have : lett.length = 4 := rfl; omega
    have nK3 : 0 < mk3.length := by have := hI3.ne; omega
    have z1 : mk1[0]? = some (.plain "int", []) := by
      obtain ⟨ex, e⟩ := hI1.h0
      rw [e, List.getElem?_append_left n5]
      exact hM.h0
    have z2 : mk2[0]? = some (.plain "int", []) := by
      obtain ⟨ex, e⟩ := hI2.h0
      rw [e, List.getElem?_append_left nR]
      exact hR.h0
    have z3 : mk3[0]? = some (.letter 8, []) := by
      obtain ⟨ex, e⟩ := hI3.h0
      rw [e, List.getElem?_append_left (by decide)]
      rfl
    refine s_seq (p_set (edp_lst (edsp_cons (Ed.pl (ed_var rfl r_table)) (edsp_cons (Ed.pl (ed_var rfl r_turned)) (edsp_cons (Ed.pl (ed_var rfl r_again)) (edsp_cons (Ed.pl (ed_var rfl r_other)) (edsp_cons (edp_chg rfl rfl r_turned rfl r_words hI1.ok (by decide) (by decide) (by decide) hw nK1 (by omega) z1 rfl) (edsp_cons (edp_chg rfl rfl r_other rfl r_words hI3.ok (by decide) (by decide) (by decide) hw nK3 (by omega) z3 rfl) edsp_nil)))))) ?_) g pM hq fun d11 v11 G11 H11 hd11 g s11 _ hq r_tables => ?_)
    · rintro ds ⟨_, _, rfl, _, _, _, rfl, _, _, _, rfl, _, _, _, rfl, _, _, _, rfl, _, _, _, rfl, _, rfl⟩
      exact Nat.le_of_ble_eq_true rfl
    obtain ⟨_, rfl, _, _, rfl, rfl, _, _, rfl, rfl, _, _, rfl, rfl, _, _, rfl, rfl, _, _, rfl, ⟨i4, h4, h4', rfl, hC4⟩, _, _, rfl, ⟨i5, h5, h5', rfl, hC5⟩, rfl⟩ := hd11
    have r_words := r_words.mono s11
    have r_again := r_again.mono s11
    simp only [tNext]
    show tSeq _ _ _ [some (.ref a), some (.ref p), some vw, some (.int (deep : Nat)), some vt, some vm, some vl, some v7, some v8, some v9, some v10, some v11, none, none, none, none, none, none, none, none, none] H11
    refine s_seq (p_set (edp_op (P3 := fun d => ∃ (t6 : List He2) (sz6 : List Nat) (i7 : Nat) (h7 h7' : He2), TabIn ws 3 3 0 t6 sz6 ∧ Chg ws 3 4 mk2 i7 h7 h7' ∧ d = .lst ([tb, mk1, mk2, mk3, mk1.set i4 h4', mk3.set i5 h5', t6, mk2.set i7 h7'].map fun t => .lst (t.map hdD))) (Ed.pl (ed_var rfl r_tables)) (edp_lst (edsp_cons (edp_callD (PP := fun ds => ds = [.lst (ws.map .str), .int ((3 : Nat) : Int), .int 3, .int ((0 : Nat) : Int)]) rfl (edsp_to (edsp_cons (Ed.pl (ed_var rfl r_words)) (edsp_cons (Ed.pl ed_int) (edsp_cons (Ed.pl ed_int) (edsp_cons (Ed.pl ed_int) edsp_nil)))) ?_) ?_) (edsp_cons (edp_chg rfl rfl r_again rfl r_words hI2.ok (by decide) (by decide) (by decide) hw nK2 (by omega) z2 rfl) edsp_nil)) ?_) ?_) g pM hq fun d12 v12 G12 H12 hd12 g s12 _ hq r_tables => ?_)
    · rintro ds ⟨_, _, rfl, rfl, _, _, rfl, rfl, _, _, rfl, rfl, _, _, rfl, rfl, rfl⟩
      rfl
    · rintro ds rfl
      exact ⟨ws, 3, 3, 0, rfl, hw, by decide, by decide, by decide⟩
    · rintro ds ⟨_, _, rfl, _, _, _, rfl, _, rfl⟩
      exact Nat.le_of_ble_eq_true rfl
    · rintro d e rfl ⟨ds, rfl, _, _, rfl, ⟨_, rfl, ws', st', L', dp', t6, sz6, e6, rfl, hT6⟩, _, _, rfl, ⟨i7, h7, h7', rfl, hC7⟩, rfl⟩
      obtain ⟨rfl, rfl, rfl, rfl⟩ := tab_args e6
      exact ⟨_, ⟨t6, sz6, i7, h7, h7', hT6, hC7, rfl⟩, fun _ _ => rd_cat (Nat.le_of_ble_eq_true rfl)⟩
    obtain ⟨t6, sz6, i7, h7, h7', hT6, hC7, rfl⟩ := hd12
    simp only [tNext]
    -- what the kinds are
    have fam : Fam ws tb mo mk1 re mk2 mk3 lt1 lt2 im im2 := ⟨okT0, nT, hI1.ok, nK1, hpt, hpt2, hI1.tr, hI2.tr, hI3.tr⟩
    obtain ⟨TS, hTS⟩ : ∃ TS, TS = [tb, mk1, mk2, mk3, mk1.set i4 h4', mk3.set i5 h5', t6, mk2.set i7 h7'] := ⟨_, rfl⟩
    have hG : ∀ t ∈ TS, TbG ws t ∧ KdB ws (rootT t) := by
      rw [hTS]
      exact all_kinds h01 hn hT hd1 hM hn8 hd2 hR hI1 hI2 hI3 z1 z2 z3 hC4 hC5 hT6 hC7 okT0 nT nK1 nK2 nK3 lT lK1 lK2 lK3
    rw [← hTS] at r_tables
    have lTS : TS.length = 8 := by rw [hTS]; rfl
    show tSeq _ _ _ [some (.ref a), some (.ref p), some vw, some (.int (deep : Nat)), some vt, some vm, some vl, some v7, some v8, some v9, some v10, some v12, none, none, none, none, none, none, none, none, none] H12
    -- kinds
    refine s_seq (s_set' (d := .lst ((TS.map rootT).map (tD id))) (ed_lcN (items := TS.map fun t => .lst (t.map hdD)) (es := (TS.map rootT).map (tD id)) (es_list (ed_var rfl r_tables)) (by simp) (by rw [List.length_map, lTS]; decide) ?_) g fun v13 G13 H13 g s13 k13 r_kinds => ?_)
    · intro j d e hd he G' s'
      rw [List.getElem?_map] at hd
      obtain ⟨t, ht, rfl⟩ := Option.map_eq_some_iff.mp hd
      rw [List.getElem?_map, List.getElem?_map, ht] at he
      cases he
      obtain ⟨gt, _⟩ := hG t (List.mem_of_getElem? ht)
      obtain ⟨f, t', L, ok, _, _, hL⟩ := gt.ok
      have hn := gt.n
      refine tk_name fun u hu => ⟨rfl, ed_rel (eds_cons (ed_var rfl hu) (eds_cons ((ed_op (ed_lenL (ed_var rfl hu)) ed_int fun _ _ => rd_I0i).to (e := .int ((t.length - 1 : Nat) : Int)) ?_) eds_nil)) ⟨ws, f, t', L, t, t.length - 1, rfl, ok, hL, by omega, Nat.le_trans gt.len (by decide), rfl⟩⟩
      rw [List.length_map]
      show D.int ((t.length : Int) - 1) = _
      congr 1
      omega
    have hq := hq.kp k13
    simp only [tNext]
    show tSeq _ _ _ [some (.ref a), some (.ref p), some vw, some (.int (deep : Nat)), some vt, some vm, some vl, some v7, some v8, some v9, some v10, some v12, none, some v13, none, none, none, none, none, none, none] H13
    obtain ⟨KS, hKS⟩ : ∃ KS, KS = TS.map rootT := ⟨_, rfl⟩
    have hK : ∀ t ∈ KS, KdB ws t := fun t ht => by
      rw [hKS] at ht
      obtain ⟨u, hu, rfl⟩ := List.mem_map.mp ht
      exact (hG u hu).2
    have lKS : KS.length = 8 := by rw [hKS, List.length_map, lTS]
    rw [← hKS] at r_kinds
    -- kept
    have shows : ∀ {σ : L2.St} {G' : Hp}, σ.length = 21 → Same G13 G' → σ[13]? = some (some v13) → Ed (tLc (iList K (tVar 13)) (gName 20) tYes (tCB (rRepr K 2404) (tCons (tVar 20) tNil)) [20]) σ G' (.lst ((KS.map fun t => (toPy (tD id t)).shown).map .str)) := fun {σ G'} hl21 s' hv => by
      refine ed_lcN (items := KS.map (tD id)) (es_list (ed_var hv (r_kinds.mono s'))) (by simp) (by rw [List.length_map, lKS]; decide) ?_
      intro j d e hd he G'' s''
      rw [List.getElem?_map] at hd
      obtain ⟨t, ht, rfl⟩ := Option.map_eq_some_iff.mp hd
      rw [List.getElem?_map, List.getElem?_map, ht] at he
      cases he
      have kt := hK t (List.mem_of_getElem? ht)
      obtain ⟨ds, e⟩ := kt.tup
      have hl := kt.lay
      have h1 := kt.sho
      have h2 := kt.len hw
      have h3 := PyData.hasDict_of_canLay _ hl.l
      have h4 := noDct_tree kt.ok
      have h5 := hl.d
      rw [e] at h1 h2 h3 h4 h5
      refine fun v H s r Q q => q _ ⟨wipe_set, ?_⟩
      show Ed _ _ _ (.str (toPy (tD id t)).shown)
      rw [e] at r ⊢
      exact ed_repr (ed_var (wipe_get (by omega)) r) h4 h1 h3 h5 h2
    refine s_seq (s_set' (shows rfl (Same.refl _) rfl) g fun v14 G14 H14 g s14 k14 r_kept => ?_)
    have hq := hq.kp k14
    have r_kinds14 := r_kinds.mono s14
    simp only [tNext]
    show tSeq _ _ _ [some (.ref a), some (.ref p), some vw, some (.int (deep : Nat)), some vt, some vm, some vl, some v7, some v8, some v9, some v10, some v12, none, some v13, some v14, none, none, none, none, none, none] H14
    -- the kinds by number
    obtain ⟨ks, hks⟩ : ∃ ks : Nat → Tr, ks = fun i => KS.getD i leafT := ⟨_, rfl⟩
    have kK : ∀ i, i < 8 → KdB ws (ks i) := fun i hi => by
      rw [hks]
      exact hK _ (getD_mem (by omega))
    have kAt : ∀ i : Nat, i < 8 → atI (KS.map (tD id)) ((i : Nat) : Int) = some (tD id (ks i)) := fun i hi => atI_nat (by
      rw [hks, List.getElem?_map, List.getElem?_eq_getElem (by omega)]
      show _ = some (tD id (KS.getD i leafT))
      rw [List.getD_eq_getElem?_getD, List.getElem?_eq_getElem (by omega)]
      rfl)
    have kEd : ∀ {σ : L2.St} {G' : Hp} {ti : TE} {i : Nat}, Same G14 G' → σ[13]? = some (some v13) → i < 8 → Ed ti σ G' (.int ((i : Nat) : Int)) → Ed (tOp (rIxL K) (tVar 13) ti) σ G' (tD id (ks i)) := fun s' hv hi h => ed_op (ed_var hv (r_kinds14.mono s')) h fun _ _ => rd_ixL (kAt _ hi)
    have told : ∀ {σ : L2.St} {G' : Hp} {ta : TA} {td : TE} {E1 E2 : XK} {i j : Nat} {b : Bool}, i < 8 → j < 8 → (b = true ↔ ∃ L F, MatT (wordsOf (ks i) (ks j)) L F (ks i) (ks j)) → Eds ta σ G' [tD id (ks i), tD id (ks j)] → Ed td σ G' (.tup [.str "told", .bl b]) → Ed (tCall (spRel rSame) [] E1 (tCons (tCall (spRel rAsked) [] E2 ta) (tCons td tNil))) σ G' (.bl true) := fun {σ G' ta td E1 E2 i j b} hi hj hb h hd => by
      have ki := kK _ hi
      have kj := kK _ hj
      exact ed_rel (eds_cons (ed_rel h ⟨_, _, rfl, ki.kok, kj.kok, Nat.le_trans ki.sz (by decide), Nat.le_trans kj.sz (by decide), .inl ⟨ki.kind, kj.kind, b, inst_of hw ki kj hb, rfl⟩⟩) (eds_cons hd eds_nil)) ⟨_, _, true, rfl, rfl, rfl, by simp [szD, szL], rfl, by simp⟩
    -- what is an instance by its making
    have hL1 : ∀ q ∈ pairs1, q.1 < 8 ∧ q.2 < 8 ∧ ∃ L F, MatT (wordsOf (ks q.1) (ks q.2)) L F (ks q.1) (ks q.2) := by
      rw [hks, hKS, hTS]
      intro q hq
      simp only [pairs1, List.mem_cons, List.not_mem_nil, or_false] at hq
      rcases hq with rfl | rfl | rfl | rfl | rfl | rfl | rfl
      · exact ⟨by decide, by decide, inst_self fam.ok0⟩
      · exact ⟨by decide, by decide, fam.i01⟩
      · exact ⟨by decide, by decide, fam.i02⟩
      · exact ⟨by decide, by decide, fam.i12⟩
      · exact ⟨by decide, by decide, fam.i03⟩
      · exact ⟨by decide, by decide, fam.i30⟩
      · exact ⟨by decide, by decide, fam.i31⟩
    refine s_seq (s_for (σ := [some (.ref a), some (.ref p), some vw, some (.int (deep : Nat)), some vt, some vm, some vl, some v7, some v8, some v9, some v10, some v12, none, some v13, some v14, none, none, none, none, none, none]) (items := pairs1.map pD) (es_list (Ed.to (ed_lst (eds_cons (ed_tup (eds_cons ed_int (eds_cons ed_int eds_nil)) (Nat.le_of_ble_eq_true rfl)) (eds_cons (ed_tup (eds_cons ed_int (eds_cons ed_int eds_nil)) (Nat.le_of_ble_eq_true rfl)) (eds_cons (ed_tup (eds_cons ed_int (eds_cons ed_int eds_nil)) (Nat.le_of_ble_eq_true rfl)) (eds_cons (ed_tup (eds_cons ed_int (eds_cons ed_int eds_nil)) (Nat.le_of_ble_eq_true rfl)) (eds_cons (ed_tup (eds_cons ed_int (eds_cons ed_int eds_nil)) (Nat.le_of_ble_eq_true rfl)) (eds_cons (ed_tup (eds_cons ed_int (eds_cons ed_int eds_nil)) (Nat.le_of_ble_eq_true rfl)) (eds_cons (ed_tup (eds_cons ed_int (eds_cons ed_int eds_nil)) (Nat.le_of_ble_eq_true rfl)) eds_nil))))))) (Nat.le_of_ble_eq_true rfl)) rfl)) g (fun i σ G' H' => Same G14 G' ∧ PoolAt p G' H' ∧ ∃ o12 o15 : Option V, σ = [some (.ref a), some (.ref p), some vw, some (.int (deep : Nat)), some vt, some vm, some vl, some v7, some v8, some v9, some v10, some v12, o12, some v13, some v14, o15, none, none, none, none, none]) (fun G' H' g' s' k' => ⟨s', hq.kp k', _, _, rfl⟩) ?_ ?_)
    · rintro Gs i d v σ Gi Hi Gj Hj hd sg sgi ⟨si, hq, o12, o15, rfl⟩ g sj kj rv
      have hq := hq.kp kj
      have sG := si.trans sj
      rw [List.getElem?_map] at hd
      obtain ⟨q, hq1, rfl⟩ := Option.map_eq_some_iff.mp hd
      obtain ⟨qi, qj, hij⟩ := hL1 q (List.mem_of_getElem? hq1)
      refine g_two g.s rv rfl fun u1 u2 r1 r2 => ?_
      refine s_if' (b := false) ((eb_not (eb_B (told qi qj ⟨fun _ => hij, fun _ => rfl⟩ (eds_cons (kEd sG rfl qi (ed_var rfl r1)) (eds_cons (kEd sG rfl qj (ed_var rfl r2)) eds_nil)) (ed_tup (eds_cons ed_str (eds_cons ed_bl eds_nil)) (Nat.le_of_ble_eq_true rfl))))).to rfl) g (fun z => nomatch z) fun _ H15 g k15 => ?_
      exact ⟨Gj, g, sgi.trans sj, sG, hq.kp k15, _, _, rfl⟩
    rintro σ G15 H15 g s15 ⟨_, hq, o12, o15, rfl⟩
    dsimp only
    have e6 : szD (tD id (ks 6)) ≤ 2400 := by
      have h1 := sz_tree (kK 6 (by decide)).ok
      have h2 : ks 6 = rootT t6 := by rw [hks, hKS, hTS]; rfl
      rw [h2] at h1 ⊢
      have h3 : cntT (rootT t6) ≤ 60 := hT6.cnt (by decide) (fun n h1 _ => h1) _
      omega
    refine s_seq (s_for (σ := [some (.ref a), some (.ref p), some vw, some (.int (deep : Nat)), some vt, some vm, some vl, some v7, some v8, some v9, some v10, some v12, o12, some v13, some v14, o15, none, none, none, none, none]) (items := pairs2.map pD) (es_list (Ed.to (ed_lst (eds_cons (ed_tup (eds_cons ed_int (eds_cons ed_int eds_nil)) (Nat.le_of_ble_eq_true rfl)) (eds_cons (ed_tup (eds_cons ed_int (eds_cons ed_int eds_nil)) (Nat.le_of_ble_eq_true rfl)) (eds_cons (ed_tup (eds_cons ed_int (eds_cons ed_int eds_nil)) (Nat.le_of_ble_eq_true rfl)) (eds_cons (ed_tup (eds_cons ed_int (eds_cons ed_int eds_nil)) (Nat.le_of_ble_eq_true rfl)) (eds_cons (ed_tup (eds_cons ed_int (eds_cons ed_int eds_nil)) (Nat.le_of_ble_eq_true rfl)) (eds_cons (ed_tup (eds_cons ed_int (eds_cons ed_int eds_nil)) (Nat.le_of_ble_eq_true rfl)) (eds_cons (ed_tup (eds_cons ed_int (eds_cons ed_int eds_nil)) (Nat.le_of_ble_eq_true rfl)) (eds_cons (ed_tup (eds_cons ed_int (eds_cons ed_int eds_nil)) (Nat.le_of_ble_eq_true rfl)) (eds_cons (ed_tup (eds_cons ed_int (eds_cons ed_int eds_nil)) (Nat.le_of_ble_eq_true rfl)) eds_nil))))))))) (Nat.le_of_ble_eq_true rfl)) rfl)) g (fun i σ G' H' => Same G15 G' ∧ PoolAt p G' H' ∧ ∃ o12 o15 o16 : Option V, σ = [some (.ref a), some (.ref p), some vw, some (.int (deep : Nat)), some vt, some vm, some vl, some v7, some v8, some v9, some v10, some v12, o12, some v13, some v14, o15, o16, none, none, none, none]) (fun G' H' g' s' k' => ⟨s', hq.kp k', _, _, _, rfl⟩) ?_ ?_)
    · rintro Gs i d v σ Gi Hi Gj Hj hd sg sgi ⟨si, hq, o12, o15, o16, rfl⟩ g sj kj rv
      have hq := hq.kp kj
      have sG := s15.trans (si.trans sj)
      rw [List.getElem?_map] at hd
      obtain ⟨q, hq1, rfl⟩ := Option.map_eq_some_iff.mp hd
      obtain ⟨qi, qj⟩ := pairs2_lt q (List.mem_of_getElem? hq1)
      obtain ⟨b, hb⟩ : ∃ b : Bool, b = true ↔ ∃ L F, MatT (wordsOf (ks q.1) (ks q.2)) L F (ks q.1) (ks q.2) := by
        by_cases h : ∃ L F, MatT (wordsOf (ks q.1) (ks q.2)) L F (ks q.1) (ks q.2)
        · exact ⟨true, fun _ => h, fun _ => rfl⟩
        · exact ⟨false, fun z => (nomatch z), fun z => absurd z h⟩
      refine g_two g.s rv rfl fun u1 u2 r1 r2 => ?_
      refine s_seq (s_set' (d := .tup [.str "told", .bl b]) (ed_tup (eds_cons ed_str (eds_cons (ed_rel (eds_cons (kEd sG rfl qi (ed_var rfl r1)) (eds_cons (kEd sG rfl qj (ed_var rfl r2)) eds_nil)) (fits_of hw (kK _ qi) (kK _ qj) hb)) eds_nil)) (Nat.le_of_ble_eq_true rfl)) g fun v16 G16 H16 g s16 k16 r_due => ?_)
      have hq := hq.kp k16
      have sG := sG.trans s16
      simp only [tNext]
      refine s_if' (b := false) ((eb_not (eb_B (told qi qj hb (eds_cons (kEd sG rfl qi (ed_var rfl (r1.mono s16))) (eds_cons (kEd sG rfl qj (ed_var rfl (r2.mono s16))) eds_nil)) (ed_var rfl r_due)))).to rfl) g (fun z => nomatch z) fun _ H17 g k17 => ?_
      exact ⟨G16, g, sgi.trans (sj.trans s16), (si.trans sj).trans s16, hq.kp k17, _, _, _, rfl⟩
    rintro σ G16 H16 g s16 ⟨_, hq, o12, o15, o16, rfl⟩
    dsimp only
    refine s_seq (s_for (σ := [some (.ref a), some (.ref p), some vw, some (.int (deep : Nat)), some vt, some vm, some vl, some v7, some v8, some v9, some v10, some v12, o12, some v13, some v14, o15, o16, none, none, none, none]) (items := (List.range (3 : Int).toNat).map fun i => .int ((0 : Int) + (i : Nat))) (es_range1 (n := 3) ed_int (by decide) (by decide)) g (fun i σ G' H' => Same G16 G' ∧ PoolAt p G' H' ∧ ∃ o17 o18 : Option V, σ = [some (.ref a), some (.ref p), some vw, some (.int (deep : Nat)), some vt, some vm, some vl, some v7, some v8, some v9, some v10, some v12, o12, some v13, some v14, o15, o16, o17, o18, none, none]) (fun G' H' g' s' k' => ⟨s', hq.kp k', _, _, rfl⟩) ?_ ?_)
    · rintro Gs i d v σ Gi Hi Gj Hj hd sg sgi ⟨si, hq, o17, o18, rfl⟩ g sj kj rv
      have hq := hq.kp kj
      have sG := (s15.trans s16).trans (si.trans sj)
      have k6 := kK 6 (by decide)
      refine s_seq (p_set (edp_call rfl (eds_cons (kEd (i := 6) sG rfl (by decide) ed_int) eds_nil) ⟨tD id (ks 6), rfl, k6.kok⟩) g pM hq fun d18 v18 G18 H18 hd18 g s18 _ hq r_wrong => ?_)
      obtain ⟨x18, ex, w1, w2, w3⟩ := hd18
      cases ex
      have z18 : szD d18 ≤ 5000000 := by omega
      have z6 : szD (tD id (ks 6)) ≤ 5000000 := by omega
      have sG := sG.trans s18
      simp only [tNext]
      refine s_seq (p_if (PB := fun b => b = false) (ebp_or (PB := fun b => b = false) (Eb.pl (Eb.to (c := false) (eb_test (ed_op (ed_rel (eds_cons (ed_var rfl r_wrong) eds_nil) ⟨_, rfl, w1, z18, rfl⟩) ed_bl fun _ _ => rd_notB)) (by rw [w2]; rfl))) (fun _ => ebp_test (edp_op (P1 := fun d => d = .bl true) (edp_relP (edsp_cons (edp_op (P3 := fun d => ∃ j : Nat, j < 8 ∧ d = tD id (ks j)) (Ed.pl (ed_var rfl (r_kinds14.mono sG))) (edp_op (P3 := fun d => ∃ j : Nat, j < 8 ∧ d = .int ((j : Nat) : Int)) (edp_cb (P3 := fun d => ∃ r : Int, d = .int r) (edsp_cons (edp_pick rfl ed_int (by decide)) edsp_nil) ?_) (Ed.pl ed_int) ?_) ?_) edsp_nil) ?_) (Ed.pl ed_bl) ?_)) fun z => nomatch z) g pM hq (fun hb => nomatch hb) fun _ G19 H19 g s19 _ hq => ?_)
      · rintro ds ⟨d, r, rfl, ⟨x, rfl, _⟩, rfl⟩
        exact ⟨_, ⟨x, rfl⟩, fun _ _ => rdc_int1⟩
      · rintro d e ⟨r, rfl⟩ rfl
        refine ⟨.int (r % 8), ⟨(r % 8).toNat, ?_, ?_⟩, fun _ _ => rd_Ii (by decide)⟩
        · have := Int.emod_lt_of_pos r (show (0 : Int) < 8 by decide)
          omega
        · have := Int.emod_nonneg r (show (8 : Int) ≠ 0 by decide)
          congr 1
          omega
      · rintro d e rfl ⟨j, hj, rfl⟩
        exact ⟨_, ⟨j, hj, rfl⟩, fun _ _ => rd_ixL (kAt j hj)⟩
      · rintro ds ⟨_, _, rfl, ⟨j, hj, rfl⟩, rfl⟩
        have kj := kK j hj
        exact ⟨_, ⟨_, rfl, kj.kok, Nat.le_trans kj.sz (by decide), rfl⟩, by rw [kj.kind]⟩
      · rintro d e rfl rfl
        exact ⟨_, ⟨_, rfl, rfl⟩, fun _ _ => rd_notB⟩
      have r_wrong := r_wrong.mono s19
      have sG := sG.trans s19
      have ek6 : Ed (tOp (rIxL K) (tVar 13) (tC (.int 6))) ([some (.ref a), some (.ref p), some vw, some (.int (deep : Nat)), some vt, some vm, some vl, some v7, some v8, some v9, some v10, some v12, o12, some v13, some v14, o15, o16, some v, some v18, none, none]) G19 (tD id (ks 6)) := kEd (i := 6) sG rfl (by decide) ed_int
      have no1 : (isKind (tD id (ks 6)) && isKind d18) = false := by rw [w2, Bool.and_false]
      have no2 : (isKind d18 && isKind (tD id (ks 6))) = false := by rw [w2, Bool.false_and]
      simp only [tNext]
      refine s_if' (b := false) ((eb_not (eb_B (ed_rel (eds_cons (ed_lst (eds_cons (ed_rel (eds_cons ek6 (eds_cons (ed_var rfl r_wrong) eds_nil)) ⟨_, _, rfl, k6.kok, w1, z6, z18, .inr ⟨no1, rfl⟩⟩) (eds_cons (ed_rel (eds_cons (ed_var rfl r_wrong) (eds_cons ek6 eds_nil)) ⟨_, _, rfl, w1, k6.kok, z18, z6, .inr ⟨no2, rfl⟩⟩) eds_nil)) (Nat.le_of_ble_eq_true rfl)) (eds_cons (ed_lst (eds_cons (ed_tup (eds_cons ed_str (eds_cons ed_bl eds_nil)) (Nat.le_of_ble_eq_true rfl)) (eds_cons (ed_tup (eds_cons ed_str (eds_cons ed_bl eds_nil)) (Nat.le_of_ble_eq_true rfl)) eds_nil)) (Nat.le_of_ble_eq_true rfl)) eds_nil)) ⟨_, _, true, rfl, rfl, rfl, by simp [szD, szL], rfl, by simp⟩))).to rfl) g (fun z => nomatch z) fun _ H20 g k20 => ?_
      exact ⟨G19, g, sgi.trans (sj.trans (s18.trans s19)), (si.trans sj).trans (s18.trans s19), hq.kp k20, _, _, rfl⟩
    rintro σ G17 H17 g s17 ⟨_, hq, o17, o18, rfl⟩
    dsimp only
    refine s_ret (ed_op (shows rfl (s14.trans (s15.trans (s16.trans s17))) rfl) (ed_var rfl (r_kept.mono (s15.trans (s16.trans s17)))) fun _ _ => rd_eqV) g fun v G' H' g r => ?_
    cases (show v = .bl true from r)
    exact k H'
end
end K18
set_option maxHeartbeats 0
namespace K18
open PySem PySem.Spec PyProof.Rows L2
theorem facts {P : Program} {w : World} {K : PySem.W.Frag} {h : Heap} {mg : Str → Option Value} {f : Addr} (X : K.In h) (G : h.Ns mainGlobals mg) (hfa : mg ("law" : Str) = some (.ref f)) (c : He.SaysX fa fn [] [] ex w h K) :
    ∃ fd : FuncData, (∀ (s : Shared) (v : Value), BindsTo s fd ⟨[v], []⟩ [("script", v)]) ∧ ∀ base : Heap, K.In base → base.Ns mainGlobals mg → Kd.FnG P w K mg base CX0 151 f fd ["script"] (spLaw K) := by
  obtain ⟨fd, F⟩ := c.t.d.def_ 38 (d := d_law) rfl
  have e := hfa.symm.trans (He.glo_ok X G (c.t.d.fact 38 (f := .glo "law") rfl))
  cases e
  have b := FunD.bindsA (ps := ["script"]) F fun _ _ _ _ _ _ us hl => match us, hl with | [_], _ => rfl
  exact ⟨fd, fun s v => b s [v] rfl, fun base _ _ => fn_law ⟨⟨h, X, G⟩, c.t.d, c.more⟩ F⟩
end K18
open PySem PySem.W PySem.Calls PyProof.Rows
theorem PySem.Challenge.cw_heardwhole_k27_instances_of_schemes_holds : PySem.Challenge.rw_heardwhole_k27_instances_of_schemes.Holds := by
  w_on; o_law
  refine HandSHeadRun.head_any (r := OpenLaw.row PySem.Challenge.rw_heardwhole_k27_instances_of_schemes) (q := view (OpenLaw.row PySem.Challenge.rw_heardwhole_k27_instances_of_schemes).prog [55]) (H := K18.hk) (ob := K18.ob) (M := 4000) (loose := K18.names) (d := HandSHeadRun.topDef (OpenLaw.row PySem.Challenge.rw_heardwhole_k27_instances_of_schemes).prog 55) (kwd := []) K18.ob_eq
    (by kernel_rfl) (fun s => by kernel_rfl) K18.run (by kernel_rfl) (by kernel_rfl) (by kernel_rfl) (by rfl) (by first | assumption | decide +kernel) (by decide +kernel) ⟨rfl, rfl, rfl, rfl, rfl, by decide +kernel⟩ ?hw ?hc
  case hw => w_witness2
  case hc =>
    refine Kd.walkG (l := PySem.Challenge.rw_heardwhole_k27_instances_of_schemes) (n := 63) (k := 151) (x := "script") (CX := L2.CX0) rfl (by decide) (by kernel_rfl) ⟨rfl, by decide, by decide⟩ ?F (fun _ _ _ _ z => z)
    intro w mg fa h Y G hmg0
    obtain ⟨K, KX, c⟩ := Y
    have hmg : mg ("law" : PySem.Str) = some (.ref fa) := by
      have e : (HandSHeadRun.topDef (OpenLaw.row PySem.Challenge.rw_heardwhole_k27_instances_of_schemes).prog 55).name = ("law" : PySem.Str) := by kernel_rfl
      rw [← e]
      exact hmg0
    obtain ⟨fd, hb, hF⟩ := K18.facts (P := (PySem.Challenge.rw_heardwhole_k27_instances_of_schemes).prog) (w := w) KX G hmg c
    exact ⟨K, fd, K18.spLaw K, KX, hb, fun H a ns hl hO hS => ⟨a, ns, rfl, hS, hl, hO, fun _ => rfl⟩, hF⟩
