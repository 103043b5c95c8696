import PyProof.Rows.All
import Wide.All
import OpenK.AllK
import Wide.FinOn
import HandS.ForMost
import HandS.Defaults
import HandS.Exc
import HandS.ExcOwn
import HandS.IsInst
import HandS.Style
import HandS.TupAny
import HandS.SetKeys
import HandS.Conv
import HandS.HeadHook1
import HandS.Walk
import KE.KStateDown
import HandS.ExcIs
import HandS.Head0
import HandS.Head1
import HandS.Head2
import HandS.HeadEnd
import HandS.HeadHook2
import HandS.HeadHook3
import HandS.HeadHook4
import HandS.SetTxt0
import HandS.SetBool
import HandS.SortInts
import PyProof.Rows.SortShellAny
import KE.KDictZip
import HandS.MapObj
import HandS.DictTup
import HandS.More
import PySem.Challenge.RW_heardwhole_k18_kinds_and_what_is_none
set_option Elab.async false
set_option linter.all false
set_option maxRecDepth 100000
set_option maxHeartbeats 4000000
/-! Data as trees, what the heap says of them; a ghost heap of what is frozen; calls of known defs. -/
namespace Kd
open PySem PySem.Spec PyProof.Rows L2

/-! ### data -/
/-- a value that is never changed any more: a tree; dct: some dict with text keys -/
inductive D where
  | non | bl (b : Bool) | int (i : Int) | str (s : Str) | tup (xs : List D) | lst (xs : List D) | dct

mutual
/-- in the frozen heap G the value v shows the tree d -/
def Rp (G : Hp) : D → V → Prop
  | .non, v => v = .non
  | .bl b, v => v = .bl b
  | .int i, v => v = .int i
  | .str s, v => v = .str s
  | .tup ds, v => ∃ a vs, v = .ref a ∧ G a = some (.tup vs) ∧ RpL G ds vs
  | .lst ds, v => ∃ a vs, v = .ref a ∧ G a = some (.lst vs) ∧ RpL G ds vs
  | .dct, v => ∃ a kvs, v = .ref a ∧ G a = some (.dK kvs)
def RpL (G : Hp) : List D → List V → Prop
  | [], vs => vs = []
  | d :: ds, vs => ∃ v r, vs = v :: r ∧ Rp G d v ∧ RpL G ds r
end

mutual
theorem Rp.mono {G G' : Hp} (e : Same G G') : ∀ {d : D} {v : V}, Rp G d v → Rp G' d v
  | .non, _, h => h
  | .bl _, _, h => h
  | .int _, _, h => h
  | .str _, _, h => h
  | .tup ds, _, ⟨a, vs, hv, ha, hr⟩ => ⟨a, vs, hv, e _ _ ha, RpL.mono e hr⟩
  | .lst ds, _, ⟨a, vs, hv, ha, hr⟩ => ⟨a, vs, hv, e _ _ ha, RpL.mono e hr⟩
  | .dct, _, ⟨a, kvs, hv, ha⟩ => ⟨a, kvs, hv, e _ _ ha⟩
theorem RpL.mono {G G' : Hp} (e : Same G G') : ∀ {ds : List D} {vs : List V}, RpL G ds vs → RpL G' ds vs
  | [], _, h => h
  | d :: ds, _, ⟨v, r, hv, h1, h2⟩ => ⟨v, r, hv, Rp.mono e h1, RpL.mono e h2⟩
end

section
variable {G : Hp}
theorem RpL.nil : RpL G [] [] := rfl
theorem RpL.cons {d : D} {v : V} {ds : List D} {vs : List V} (h : Rp G d v) (hr : RpL G ds vs) : RpL G (d :: ds) (v :: vs) := ⟨v, vs, rfl, h, hr⟩
theorem RpL.one {d : D} {v : V} (h : Rp G d v) : RpL G [d] [v] := ⟨v, [], rfl, h, rfl⟩
theorem RpL.len : ∀ {ds : List D} {vs : List V}, RpL G ds vs → vs.length = ds.length
  | [], _, h => by cases h; rfl
  | d :: ds, _, ⟨v, r, hv, _, hr⟩ => by subst hv; simp [RpL.len hr]
theorem RpL.app : ∀ {ds es : List D} {vs ws : List V}, RpL G ds vs → RpL G es ws → RpL G (ds ++ es) (vs ++ ws)
  | [], _, _, _, h, k => by cases h; exact k
  | d :: ds, _, _, _, ⟨v, r, hv, h1, hr⟩, k => by subst hv; exact ⟨v, _, rfl, h1, RpL.app hr k⟩
theorem RpL.snoc {ds : List D} {vs : List V} {d : D} {v : V} (h : RpL G ds vs) (k : Rp G d v) : RpL G (ds ++ [d]) (vs ++ [v]) := h.app (.one k)
theorem RpL.at : ∀ {ds : List D} {vs : List V} {i : Nat} {d : D}, RpL G ds vs → ds[i]? = some d → ∃ v, vs[i]? = some v ∧ Rp G d v
  | [], _, _, _, _, e => by simp at e
  | d :: ds, _, 0, x, ⟨v, r, hv, h1, _⟩, e => by
    subst hv
    have q : d = x := by simpa using e
    subst q
    exact ⟨v, rfl, h1⟩
  | d :: ds, _, i + 1, x, ⟨v, r, hv, _, hr⟩, e => by
    subst hv
    have q : ds[i]? = some x := by simpa using e
    obtain ⟨u, h1, h2⟩ := RpL.at hr q
    exact ⟨u, by simpa using h1, h2⟩
theorem RpL.back : ∀ {ds : List D} {vs : List V} {i : Nat} {v : V}, RpL G ds vs → vs[i]? = some v → ∃ d, ds[i]? = some d ∧ Rp G d v
  | [], _, _, _, h, e => by cases h; simp at e
  | d :: ds, _, 0, x, ⟨v, r, hv, h1, _⟩, e => by
    subst hv
    have q : v = x := by simpa using e
    subst q
    exact ⟨d, rfl, h1⟩
  | d :: ds, _, i + 1, x, ⟨v, r, hv, _, hr⟩, e => by
    subst hv
    have q : r[i]? = some x := by simpa using e
    obtain ⟨u, h1, h2⟩ := RpL.back hr q
    exact ⟨u, by simpa using h1, h2⟩
theorem RpL.take : ∀ {ds : List D} {vs : List V} (n : Nat), RpL G ds vs → RpL G (ds.take n) (vs.take n)
  | [], _, n, h => by cases h; simp [RpL]
  | d :: ds, _, 0, ⟨v, r, hv, h1, hr⟩ => by subst hv; simp [RpL]
  | d :: ds, _, n + 1, ⟨v, r, hv, h1, hr⟩ => by subst hv; exact ⟨v, _, rfl, h1, RpL.take n hr⟩
theorem RpL.drop : ∀ {ds : List D} {vs : List V} (n : Nat), RpL G ds vs → RpL G (ds.drop n) (vs.drop n)
  | [], _, n, h => by cases h; simp [RpL]
  | d :: ds, _, 0, h => h
  | d :: ds, _, n + 1, ⟨v, r, hv, h1, hr⟩ => by subst hv; exact RpL.drop n hr
theorem RpL.rev : ∀ {ds : List D} {vs : List V}, RpL G ds vs → RpL G ds.reverse vs.reverse
  | [], _, h => by cases h; rfl
  | d :: ds, _, ⟨v, r, hv, h1, hr⟩ => by subst hv; rw [List.reverse_cons, List.reverse_cons]; exact (RpL.rev hr).snoc h1
theorem RpL.mem : ∀ {ds : List D} {vs : List V} {v : V}, RpL G ds vs → v ∈ vs → ∃ d, d ∈ ds ∧ Rp G d v := fun {ds vs v} h hv => by
  obtain ⟨i, hi, e⟩ := List.mem_iff_getElem.mp hv
  obtain ⟨d, h1, h2⟩ := h.back (i := i) (v := v) (by rw [List.getElem?_eq_getElem hi, e])
  exact ⟨d, List.mem_of_getElem? h1, h2⟩
theorem Rp.tup {ds : List D} {a : Addr} {vs : List V} (h : G a = some (.tup vs)) (r : RpL G ds vs) : Rp G (.tup ds) (.ref a) := ⟨a, vs, rfl, h, r⟩
theorem Rp.lst {ds : List D} {a : Addr} {vs : List V} (h : G a = some (.lst vs)) (r : RpL G ds vs) : Rp G (.lst ds) (.ref a) := ⟨a, vs, rfl, h, r⟩
theorem RpL.strs : ∀ (zs : List Str), RpL G (zs.map D.str) (zs.map V.str)
  | [] => rfl
  | z :: zs => ⟨_, _, rfl, rfl, RpL.strs zs⟩
theorem RpL.ints : ∀ (zs : List Int), RpL G (zs.map D.int) (zs.map V.int)
  | [] => rfl
  | z :: zs => ⟨_, _, rfl, rfl, RpL.ints zs⟩
end

/-! ### growth: what a piece of a run may do -/
/-- from the heap H with the frozen part G to H' with the frozen part G': all but M stays; what is frozen is G's and what is new -/
structure Gr (M : List Addr) (G H G' H' : Hp) : Prop where
  h : ∀ a o, a ∉ M → H a = some o → H' a = some o
  t : ∀ a, a ∈ M → H a ≠ none → H' a ≠ none
  g : Same G G'
  s : Same G' H'
  n : ∀ a, G a = none → H a ≠ none → G' a = none
section
variable {M : List Addr} {G H G1 H1 G2 H2 : Hp} {p l : Addr} {o : HO}
theorem some_ne {H : Hp} {a : Addr} {o : HO} (h : H a = some o) : H a ≠ none := by rw [h]; exact fun z => nomatch z
theorem Gr.refl (e : Same G H) : Gr M G H G H := ⟨fun _ _ _ h => h, fun _ _ h => h, Same.refl _, e, fun _ h _ => h⟩
theorem Gr.there (g : Gr M G H G1 H1) {a : Addr} (h : H a ≠ none) : H1 a ≠ none := by
  by_cases m : a ∈ M
  · exact g.t a m h
  · cases e : H a with
    | none => exact absurd e h
    | some o => exact some_ne (g.h a o m e)
theorem Gr.trans (a : Gr M G H G1 H1) (b : Gr M G1 H1 G2 H2) : Gr M G H G2 H2 :=
  ⟨fun x o m h => b.h x o m (a.h x o m h), fun x m h => b.t x m (a.t x m h), a.g.trans b.g, b.s, fun x h1 h2 => b.n x (a.n x h1 h2) (a.there h2)⟩
/-- a callee that changes less -/
theorem Gr.call (a : Gr M G H G1 H1) (b : Gr [] G1 H1 G2 H2) : Gr M G H G2 H2 :=
  a.trans ⟨fun x o _ h => b.h x o (by simp) h, fun x _ h => b.there h, b.g, b.s, b.n⟩
theorem Gr.free (g : Gr M G H G1 H1) (hp : H1 p = none) : H p = none := by
  cases e : H p with
  | none => rfl
  | some o => exact absurd hp (g.there (some_ne e))
theorem Gr.gfree (g : Gr M G H G1 H1) (hp : H1 p = none) : G1 p = none := g.s.free hp
/-- a new thing, not frozen -/
theorem Gr.tmp (g : Gr M G H G1 H1) (hp : H1 p = none) : Gr M G H G1 (upd H1 p o) :=
  ⟨fun a u m e => by rw [upd_ne (ne_of_none (g.h a u m e) hp)]; exact g.h a u m e,
   fun a m e => by
    have q := g.t a m e
    by_cases z : a = p
    · rw [z, upd_same]; exact fun y => nomatch y
    · rw [upd_ne z]; exact q,
   g.g, fun a u e => by rw [upd_ne (ne_of_none (g.s a u e) hp)]; exact g.s a u e, g.n⟩
/-- a thing that is frozen from now on -/
theorem Gr.frz (g : Gr M G H G1 H1) (h1 : H1 p = some o) (hg : G1 p = none) (h0 : H p = none) : Gr M G H (upd G1 p o) H1 :=
  ⟨g.h, g.t, fun a u e => by rw [upd_ne (ne_of_none (g.g a u e) hg)]; exact g.g a u e,
   fun a u e => by
    by_cases z : a = p
    · rw [z] at e ⊢; rw [upd_same] at e; rw [h1]; exact e
    · rw [upd_ne z] at e; exact g.s a u e,
   fun a h2 h3 => by
    have z : a ≠ p := fun z => h3 (z ▸ h0)
    rw [upd_ne z]; exact g.n a h2 h3⟩
/-- a new thing, frozen at once -/
theorem Gr.new (g : Gr M G H G1 H1) (hp : H1 p = none) : Gr M G H (upd G1 p o) (upd H1 p o) := (g.tmp hp).frz upd_same (g.gfree hp) (g.free hp)
/-- a thing of one's own is changed -/
theorem Gr.mut (g : Gr M G H G1 H1) (hg : G1 l = none) (h0 : H l = none) : Gr M G H G1 (upd H1 l o) :=
  ⟨fun a u m e => by rw [upd_ne (ne_of_none e h0)]; exact g.h a u m e,
   fun a m e => by
    by_cases z : a = l
    · rw [z, upd_same]; exact fun y => nomatch y
    · rw [upd_ne z]; exact g.t a m e,
   g.g, fun a u e => by rw [upd_ne (ne_of_none e hg)]; exact g.s a u e, g.n⟩
/-- the thing that may be changed is changed -/
theorem Gr.put (g : Gr M G H G1 H1) (hm : l ∈ M) (hg : G1 l = none) : Gr M G H G1 (upd H1 l o) :=
  ⟨fun a u m e => by
    have z : a ≠ l := fun z => m (by rw [z]; exact hm)
    rw [upd_ne z]; exact g.h a u m e,
   fun a m e => by
    by_cases z : a = l
    · rw [z, upd_same]; exact fun y => nomatch y
    · rw [upd_ne z]; exact g.t a m e,
   g.g, fun a u e => by rw [upd_ne (ne_of_none e hg)]; exact g.s a u e, g.n⟩
theorem Gr.weak {M' : List Addr} (g : Gr M G H G1 H1) (hm : ∀ a ∈ M, a ∈ M') : Gr M' G H G1 H1 :=
  ⟨fun a o m e => g.h a o (fun z => m (hm a z)) e, fun a _ e => g.there e, g.g, g.s, g.n⟩
end

/-! ### known defs -/
/-- the def that the module's name x holds keeps the promise sp -/
structure Good (P : Program) (w : World) (K : PySem.W.Frag) (mg : Str → Option Value) (base : Heap) (CX : CXT) (x : Str) (k : Nat) (ps : List Str) (sp : Sp) : Prop where
  m : mg x = some (.ref (He.ga K x))
  kp : PySem.W.keepIn K (.ref (He.ga K x)) = true
  ok : ∃ fd, FnOk P w K mg base CX k (He.ga K x) fd ps sp ∧ Binds K fd ps []
theorem pe_g {X : Cx} {x : Str} {k : Nat} {ps : List Str} {sp : Sp} {e : Expr} {es : List Expr} {t : TA} {p pos : Pos} (g : Good X.prog X.w X.K X.mg X.base CX0 x k ps sp) (hr : Room k X.A) (ha : PA X (e :: es) t) (hg : Gl X x := by rfl)
    (hdb : (x == ("__debug__" : Str)) = false := by decide) (he : starEach (e :: es) X.env = (false, eval e X.env) :: starEach es X.env := by rfl) (hpl : (backTo pos (starEach es X.env)).any (·.1) = false := by rfl) :
    PE X (.Call (.Name x p) (e :: es) [] pos) (tCall sp [] E0 t) := by
  obtain ⟨fd, F, b⟩ := g.ok
  exact pe_call F hr hg g.m g.kp b .nil pass0 ha hdb he hpl
end Kd
namespace Kd
open L2
theorem RpL.unsnoc {G : Hp} {ds : List D} {d : D} {vs : List V} (h : RpL G (ds ++ [d]) vs) : ∃ vs' u, vs = vs' ++ [u] ∧ RpL G ds vs' ∧ Rp G d u := by
  have h1 := h.take ds.length
  have h2 := h.drop ds.length
  rw [List.take_left' rfl] at h1
  rw [List.drop_left' rfl] at h2
  obtain ⟨u, r, e, h3, h4⟩ := h2
  cases h4
  refine ⟨vs.take ds.length, u, ?_, h1, h3⟩
  rw [← e, List.take_append_drop]
end Kd
set_option maxHeartbeats 4000000
/-! Rules of one's own: == with a text, == with an empty list, is True. -/
namespace Kd
open PySem PySem.Spec PyProof.Rows L2
section
variable {X : Cx}
/-- == of anything that is no dict with a text -/
def rEqS (K : PySem.W.Frag) (neg : Bool) : R2 := fun x y H Q => ∃ z : Str, y = .str z ∧ (scal x y = true ∨ ∃ a xs, x = .ref a ∧ (SqL K H a xs ∨ SqT K H a xs)) ∧ Q (.bl (xor neg (decide (x = y)))) H
theorem isL_of {h : Heap} {a : Addr} {its : List Value} (p : PlainL h a its.toArray) : h.IsList a its.toArray := p.isList
theorem op_eqS (hu : X.A.units + 64 < cLine) : OpR X (compareOp .Eq) (rEqS X.K false) := by
  intro pins s σ H x y v u Q I rx ry h
  obtain ⟨z, rfl, c, q⟩ := h
  have q : Q (.bl (decide (x = .str z))) H := by simpa using q
  rcases c with c | ⟨a, xs, rfl, c⟩
  · exact op_eq pins s σ H x (.str z) v u Q I rx ry ⟨c, q⟩
  · cases rx
    obtain ⟨t, rfl⟩ := ry
    have q : Q (.bl false) H := by simpa using q
    rcases c with c | c
    · obtain ⟨its, _, p, _⟩ := I.list c
      exact SeqAt.RcAt.list_str z t p.isList (by omega) X.prog X.w X.xe _ ⟨.bl false, H, I, rfl, q⟩
    · obtain ⟨its, _, p, _⟩ := I.tuple c
      obtain ⟨o, h1, h2, n, h3⟩ := p
      exact SeqAt.RcAt.tuple_str z t ⟨o, h1, h2, n, h3⟩ (by omega) X.prog X.w X.xe _ ⟨.bl false, H, I, rfl, q⟩
theorem op_neS (hu : X.A.units + 64 < cLine) : OpR X (compareOp .NotEq) (rEqS X.K true) := by
  intro pins s σ H x y v u Q I rx ry h
  obtain ⟨z, rfl, c, q⟩ := h
  have q : Q (.bl (!decide (x = .str z))) H := by simpa using q
  rcases c with c | ⟨a, xs, rfl, c⟩
  · exact op_ne pins s σ H x (.str z) v u Q I rx ry ⟨c, q⟩
  · cases rx
    obtain ⟨t, rfl⟩ := ry
    have q : Q (.bl true) H := by simpa using q
    rcases c with c | c
    · obtain ⟨its, _, p, _⟩ := I.list c
      exact SeqAt.RcNeAt.list_str z t p.isList (by omega) X.prog X.w X.xe _ ⟨.bl true, H, I, rfl, q⟩
    · obtain ⟨its, _, p, _⟩ := I.tuple c
      obtain ⟨o, h1, h2, n, h3⟩ := p
      exact SeqAt.RcNeAt.tuple_str z t ⟨o, h1, h2, n, h3⟩ (by omega) X.prog X.w X.xe _ ⟨.bl true, H, I, rfl, q⟩
/-- a list against an empty one -/
def rEqNil (K : PySem.W.Frag) (neg : Bool) : R2 := fun x y H Q => ∃ a b xs, x = .ref a ∧ y = .ref b ∧ SqL K H a xs ∧ SqL K H b [] ∧ Q (.bl (xor neg xs.isEmpty)) H
theorem op_eqNil (hu : X.A.units + 64 < cLine) : OpR X (compareOp .Eq) (rEqNil X.K false) := by
  intro pins s σ H x y v u Q I rx ry h
  obtain ⟨a, b, xs, rfl, rfl, ha, hb, q⟩ := h
  cases rx
  cases ry
  obtain ⟨its, r1, p1, _⟩ := I.list ha
  obtain ⟨jts, r2, p2, _⟩ := I.list hb
  cases r2
  cases r1 with
  | nil => exact SeqAt.RcAt.lists (e := fun _ => true) p1.isList p2.isList rfl (by omega) (fun j h1 => absurd h1 (Nat.not_lt_zero _)) X.prog X.w X.xe _ ⟨.bl true, H, I, rfl, q⟩
  | cons r t => exact SeqAt.RcAt.lists_lengths p1.isList p2.isList (by simp) (by omega) X.prog X.w X.xe _ ⟨.bl false, H, I, rfl, q⟩
theorem op_neNil (hu : X.A.units + 64 < cLine) : OpR X (compareOp .NotEq) (rEqNil X.K true) := by
  intro pins s σ H x y v u Q I rx ry h
  obtain ⟨a, b, xs, rfl, rfl, ha, hb, q⟩ := h
  cases rx
  cases ry
  obtain ⟨its, r1, p1, _⟩ := I.list ha
  obtain ⟨jts, r2, p2, _⟩ := I.list hb
  cases r2
  cases r1 with
  | nil => exact SeqAt.RcNeAt.lists (e := fun _ => true) p1.isList p2.isList rfl (by omega) (fun j h1 => absurd h1 (Nat.not_lt_zero _)) X.prog X.w X.xe _ ⟨.bl false, H, I, rfl, q⟩
  | cons r t => exact SeqAt.RcNeAt.lists_lengths p1.isList p2.isList (by simp) (by omega) X.prog X.w X.xe _ ⟨.bl true, H, I, rfl, q⟩
/-- is True, is False, of any value that is told -/
def rIsTF : R2 := fun x y H Q => ∃ b : Bool, y = .bl b ∧ (∀ n, x ≠ .ty n) ∧ Q (.bl (decide (x = .bl b))) H
theorem op_isTF : OpR X (compareOp .Is) rIsTF := by
  intro pins s σ H x y v u Q I rx ry h
  obtain ⟨b, rfl, nt, q⟩ := h
  cases (show u = Value.bool b from ry)
  cases x with
  | bl c => exact op_isBl pins s σ H (.bl c) (.bl b) v _ Q I rx rfl ⟨c, b, rfl, rfl, by simpa using q⟩
  | non => cases rx; exact wpAny_is_other rfl (fun z => nomatch z) ⟨.bl false, H, I, rfl, by simpa using q⟩
  | int i => obtain ⟨t, rfl⟩ := rx; exact wpAny_is_other rfl (fun z => nomatch z) ⟨.bl false, H, I, rfl, by simpa using q⟩
  | str i => obtain ⟨t, rfl⟩ := rx; exact wpAny_is_other rfl (fun z => nomatch z) ⟨.bl false, H, I, rfl, by simpa using q⟩
  | byt i => obtain ⟨t, rfl⟩ := rx; exact wpAny_is_other rfl (fun z => nomatch z) ⟨.bl false, H, I, rfl, by simpa using q⟩
  | flt i => obtain ⟨t, rfl⟩ := rx; exact wpAny_is_other rfl (fun z => nomatch z) ⟨.bl false, H, I, rfl, by simpa using q⟩
  | ref a => cases rx; exact wpAny_is_other rfl (fun z => nomatch z) ⟨.bl false, H, I, rfl, by simpa using q⟩
  | ty n => exact absurd rfl (nt n)
end
end Kd
namespace Kd
open PySem PySem.Spec PyProof.Rows L2
/-! within a comprehension: the written part named -/
section
variable {X : Cx} {K : PySem.W.Frag}
theorem ixK_tup (h : X.K = K) : IxR X (rIxT K) := h ▸ ix_tup
theorem piK_list {tg e : Expr} {te : TE} (h : X.K = K) (he : PE X e te) : PI X tg e (iList K te) := h ▸ pi_list he
theorem ixK_list (h : X.K = K) : IxR X (rIxL K) := h ▸ ix_list
theorem opK_eqS (h : X.K = K) (hu : X.A.units + 64 < cLine) : OpR X (compareOp .Eq) (rEqS K false) := h ▸ op_eqS hu
theorem opK_neS (h : X.K = K) (hu : X.A.units + 64 < cLine) : OpR X (compareOp .NotEq) (rEqS K true) := h ▸ op_neS hu
theorem pgK_tup {es : List Expr} {k : Nat} {t : TGs} {n : Nat} {pos : Pos} (h : X.K = K) (hc : X.calm = true) (hp : PGs X es t)
    (hn : (assignEach es X.env).length = n := by rfl) (hst : (assignEach es X.env).findIdx? (·.1) = none := by rfl) : PG X (.Tuple es k pos) (gTup K n t) := h ▸ pg_tup hc hp hn hst
end
end Kd
set_option maxHeartbeats 4000000
/-! What an expression's reading comes to, told by trees: Ed te σ G d: from any heap that has the frozen part G the value of the expression shows d; what is made is new. -/
namespace Kd
open PySem PySem.Spec PyProof.Rows L2

abbrev Gp (G H G' H' : Hp) : Prop := Gr [] G H G' H'
theorem Gr.e {G H G' H' : Hp} (g : Gr [] G H G' H') : Same H H' := fun a o e => g.h a o (by simp) e
theorem Gr.same {M : List Addr} {G H G' H' : Hp} (g : Gr M G H G' H') : Gr M G H G H' := ⟨g.h, g.t, Same.refl _, g.g.trans g.s, fun _ h _ => h⟩
/-- the same from a larger frozen part: the two parts are joined -/
theorem Gr.larger {G G1 H G2 H2 : Hp} (e : Same G G1) (s : Same G1 H) (g : Gp G H G2 H2) : ∃ G3, Gp G1 H G3 H2 ∧ Same G2 G3 := by
  have s2 : Same G1 H2 := s.trans g.e
  refine ⟨fun a => if (G1 a).isSome then G1 a else G2 a, ⟨g.h, g.t, fun a o h => ?_, fun a o h => ?_, fun a h1 h2 => ?_⟩, fun a o h => ?_⟩
  · show (if (G1 a).isSome then G1 a else G2 a) = some o
    rw [h]
    rfl
  · have h : (if (G1 a).isSome then G1 a else G2 a) = some o := h
    split at h
    · exact s2 a o h
    · exact g.s a o h
  · show (if (G1 a).isSome then G1 a else G2 a) = none
    rw [h1, if_neg (by simp)]
    exact g.n a (e.free h1) h2
  · show (if (G1 a).isSome then G1 a else G2 a) = some o
    split
    · rename_i z
      cases q : G1 a with
      | none => rw [q] at z; simp at z
      | some u =>
        have x1 := s2 a u q
        have x2 := g.s a o h
        rw [x1] at x2
        exact x2
    · exact h

def Ed (te : TE) (σ : L2.St) (G : Hp) (d : D) : Prop := ∀ H, Same G H → ∀ Q : VK, (∀ v G' H', Gp G H G' H' → Rp G' d v → Q v H') → te σ H Q
def Eds (ta : TA) (σ : L2.St) (G : Hp) (ds : List D) : Prop := ∀ H, Same G H → ∀ Q : List V → Hp → Prop, (∀ vs G' H', Gp G H G' H' → RpL G' ds vs → Q vs H') → ta σ H Q
def Eb (tt : TT) (σ : L2.St) (G : Hp) (b : Bool) : Prop := ∀ H, Same G H → ∀ Q : Bool → Hp → Prop, (∀ H', Gp G H G H' → Q b H') → tt σ H Q
def Eo (to : TO) (σ : L2.St) (G : Hp) (o : Option Int) : Prop := ∀ H, Same G H → ∀ Q : Option Int → Hp → Prop, (∀ H', Gp G H G H' → Q o H') → to σ H Q
/-- an operation upon values that show trees -/
def Rd2 (r : R2) (G : Hp) (d e z : D) : Prop := ∀ x y H, Same G H → Rp G d x → Rp G e y → ∀ Q : VK, (∀ v G' H', Gp G H G' H' → Rp G' z v → Q v H') → r x y H Q
def Rd1 (r : V → Hp → VK → Prop) (G : Hp) (d z : D) : Prop := ∀ x H, Same G H → Rp G d x → ∀ Q : VK, (∀ v G' H', Gp G H G' H' → Rp G' z v → Q v H') → r x H Q
def Rdc (r : List V → Hp → VK → Prop) (G : Hp) (ds : List D) (z : D) : Prop := ∀ xs H, Same G H → RpL G ds xs → ∀ Q : VK, (∀ v G' H', Gp G H G' H' → Rp G' z v → Q v H') → r xs H Q

section
variable {K : PySem.W.Frag} {σ : L2.St} {G G1 : Hp} {te ta tb tc : TE} {t u : TT} {d e z : D} {b c : Bool} {i j : Int} {v : V} {r r' : R2}
theorem Ed.mono (s : Same G G1) (h : Ed te σ G d) : Ed te σ G1 d := fun H s1 Q q => h H (s.trans s1) Q fun v G' H' g hv =>
  let ⟨G3, g3, e3⟩ := g.larger s s1
  q v G3 H' g3 (hv.mono e3)
theorem Eds.mono {ta : TA} {ds : List D} (s : Same G G1) (h : Eds ta σ G ds) : Eds ta σ G1 ds := fun H s1 Q q => h H (s.trans s1) Q fun v G' H' g hv =>
  let ⟨G3, g3, e3⟩ := g.larger s s1
  q v G3 H' g3 (hv.mono e3)
theorem Eb.mono (s : Same G G1) (h : Eb t σ G b) : Eb t σ G1 b := fun H s1 Q q => h H (s.trans s1) Q fun H' g => q H' ⟨g.h, g.t, Same.refl _, s1.trans g.e, fun _ z _ => z⟩
theorem Ed.to (h : Ed te σ G d) (q : d = e) : Ed te σ G e := q ▸ h
theorem Eb.to (h : Eb t σ G b) (q : b = c) : Eb t σ G c := q ▸ h
theorem gr0 {M : List Addr} {G H : Hp} (s : Same G H) : Gr M G H G H := Gr.refl s

theorem ed_var {i : Nat} (h : σ[i]? = some (some v)) (r : Rp G d v) : Ed (tVar i) σ G d := fun H s Q q => ⟨v, h, q v G H (gr0 s) r⟩
theorem ed_c (r : Rp G d v) : Ed (tC v) σ G d := fun H s Q q => q v G H (gr0 s) r
theorem ed_int : Ed (tC (.int i)) σ G (.int i) := ed_c rfl
theorem ed_bl : Ed (tC (.bl b)) σ G (.bl b) := ed_c rfl
theorem ed_non : Ed (tC .non) σ G .non := ed_c rfl
theorem ed_str {x : Str} : Ed (tC (.str x)) σ G (.str x) := ed_c rfl
theorem ed_op (ha : Ed ta σ G d) (hb : Ed tb σ G e) (hr : ∀ G1, Same G G1 → Rd2 r G1 d e z) : Ed (tOp r ta tb) σ G z := fun H s Q q =>
  ha H s _ fun x G1 H1 g1 r1 => hb.mono g1.g H1 g1.s _ fun y G2 H2 g2 r2 => hr G2 (g1.g.trans g2.g) x y H2 g2.s (r1.mono g2.g) r2 Q fun v G3 H3 g3 r3 => q v G3 H3 ((g1.trans g2).trans g3) r3
theorem ed_un {r : V → Hp → VK → Prop} (ha : Ed ta σ G d) (hr : ∀ G1, Same G G1 → Rd1 r G1 d z) : Ed (tUn r ta) σ G z := fun H s Q q =>
  ha H s _ fun x G1 H1 g1 r1 => hr G1 g1.g x H1 g1.s r1 Q fun v G3 H3 g3 r3 => q v G3 H3 (g1.trans g3) r3
theorem eds_nil : Eds tNil σ G [] := fun H s Q q => q [] G H (gr0 s) rfl
theorem eds_cons {tr : TA} {ds : List D} (ha : Ed ta σ G d) (hr : Eds tr σ G ds) : Eds (tCons ta tr) σ G (d :: ds) := fun H s Q q =>
  ha H s _ fun x G1 H1 g1 r1 => hr.mono g1.g H1 g1.s _ fun ys G2 H2 g2 r2 => q (x :: ys) G2 H2 (g1.trans g2) (.cons (r1.mono g2.g) r2)
theorem ed_tup {ta : TA} {ds : List D} (h : Eds ta σ G ds) (hl : ds.length ≤ 100000) : Ed (tTup ta) σ G (.tup ds) := fun H s Q q =>
  h H s _ fun vs G1 H1 g1 r1 => ⟨by rw [r1.len]; exact Nat.le_trans hl (by decide), fun p hp => q (.ref p) _ _ (g1.new hp) ⟨p, vs, rfl, upd_same, r1.mono (fun a o x => by rw [upd_ne (ne_of_none x (g1.gfree hp))]; exact x)⟩⟩
theorem ed_lst {ta : TA} {ds : List D} (h : Eds ta σ G ds) (hl : ds.length ≤ 100000) : Ed (tLst ta) σ G (.lst ds) := fun H s Q q =>
  h H s _ fun vs G1 H1 g1 r1 => ⟨by rw [r1.len]; exact Nat.le_trans hl (by decide), fun p hp => q (.ref p) _ _ (g1.new hp) ⟨p, vs, rfl, upd_same, r1.mono (fun a o x => by rw [upd_ne (ne_of_none x (g1.gfree hp))]; exact x)⟩⟩
theorem ed_dnewK : Ed tDNewK σ G .dct := fun H s Q q p hp => q (.ref p) _ _ ((Gr.refl s).new hp) ⟨p, _, rfl, upd_same⟩
theorem ed_cb {r : List V → Hp → VK → Prop} {ta : TA} {ds : List D} (h : Eds ta σ G ds) (hr : ∀ G1, Same G G1 → Rdc r G1 ds z) : Ed (tCB r ta) σ G z := fun H s Q q =>
  h H s _ fun vs G1 H1 g1 r1 => hr G1 g1.g vs H1 g1.s r1 Q fun v G3 H3 g3 r3 => q v G3 H3 (g1.trans g3) r3

/-! ### tests -/
theorem ed_bl_inv {G : Hp} {v : V} (h : Rp G (.bl b) v) : v = .bl b := h
theorem eb_test (h : Ed te σ G (.bl b)) : Eb (tTest te) σ G b := fun H s Q q => h H s _ fun v G' H' g r => ⟨b, r, q H' g.same⟩
theorem eb_B (h : Ed te σ G (.bl b)) : Eb (tB te) σ G b := fun H s Q q => h H s _ fun v G' H' g r => ⟨b, r, q H' g.same⟩
theorem eb_not (h : Eb t σ G b) : Eb (tNot t) σ G (!b) := fun H s Q q => h H s _ fun H' g => q H' g
theorem eb_and (h1 : Eb t σ G b) (h2 : b = true → Eb u σ G c) : Eb (tAnd t u) σ G (b && c) := fun H s Q q => h1 H s _ fun H1 g1 => by
  cases b with
  | true =>
    show u σ H1 Q
    exact h2 rfl H1 g1.s Q fun H2 g2 => q H2 (g1.trans g2)
  | false =>
    show Q false H1
    exact q H1 g1
theorem eb_or (h1 : Eb t σ G b) (h2 : b = false → Eb u σ G c) : Eb (tOr t u) σ G (b || c) := fun H s Q q => h1 H s _ fun H1 g1 => by
  cases b with
  | false =>
    show u σ H1 Q
    exact h2 rfl H1 g1.s Q fun H2 g2 => q H2 (g1.trans g2)
  | true =>
    show Q true H1
    exact q H1 g1
theorem ed_andV (h1 : Ed ta σ G (.bl b)) (h2 : b = true → Ed tb σ G (.bl c)) : Ed (tAndV ta tb) σ G (.bl (b && c)) := fun H s Q q => h1 H s _ fun x G1 H1 g1 r1 => ⟨b, r1, by
  cases b with
  | true =>
    show tb σ H1 Q
    exact (h2 rfl).mono g1.g H1 g1.s Q fun v G2 H2 g2 r2 => q v G2 H2 (g1.trans g2) r2
  | false =>
    show Q (.bl false) H1
    exact q _ G1 H1 g1 rfl⟩
theorem ed_orV (h1 : Ed ta σ G (.bl b)) (h2 : b = false → Ed tb σ G (.bl c)) : Ed (tOrV ta tb) σ G (.bl (b || c)) := fun H s Q q => h1 H s _ fun x G1 H1 g1 r1 => ⟨b, r1, by
  cases b with
  | false =>
    show tb σ H1 Q
    exact (h2 rfl).mono g1.g H1 g1.s Q fun v G2 H2 g2 r2 => q v G2 H2 (g1.trans g2) r2
  | true =>
    show Q (.bl true) H1
    exact q _ G1 H1 g1 rfl⟩
theorem ed_notV (h : Ed ta σ G (.bl b)) : Ed (tNotV ta) σ G (.bl (!b)) := fun H s Q q => h H s _ fun x G1 H1 g1 r1 => ⟨b, r1, q _ G1 H1 g1 rfl⟩
theorem ed_if (h : Eb t σ G b) (h1 : b = true → Ed ta σ G d) (h2 : b = false → Ed tb σ G d) : Ed (tIf t ta tb) σ G d := fun H s Q q => h H s _ fun H1 g1 => by
  cases b with
  | true =>
    show ta σ H1 Q
    exact h1 rfl H1 g1.s Q fun v G2 H2 g2 r2 => q v G2 H2 (g1.trans g2) r2
  | false =>
    show tb σ H1 Q
    exact h2 rfl H1 g1.s Q fun v G2 H2 g2 r2 => q v G2 H2 (g1.trans g2) r2
theorem ed_chain (ha : Ed ta σ G d) (hb : Ed tb σ G e) (hc : Ed tc σ G z) (h1 : ∀ G1, Same G G1 → Rd2 r G1 d e (.bl b)) (h2 : ∀ G1, Same G G1 → Rd2 r' G1 e z (.bl c)) : Ed (tChain r r' ta tb tc) σ G (.bl (b && c)) := fun H s Q q =>
  ha H s _ fun x G1 H1 g1 r1 => hb.mono g1.g H1 g1.s _ fun y G2 H2 g2 r2 => h1 G2 (g1.g.trans g2.g) x y H2 g2.s (r1.mono g2.g) r2 _ fun w G3 H3 g3 r3 => ⟨b, r3, by
    have g := (g1.trans g2).trans g3
    cases b with
    | true =>
      show tc σ H3 fun w' H4 => r' y w' H4 Q
      exact hc.mono g.g H3 g.s _ fun w' G4 H4 g4 r4 => h2 G4 (g.g.trans g4.g) y w' H4 g4.s (r2.mono (g3.g.trans g4.g)) r4 Q fun v G5 H5 g5 r5 => q v G5 H5 ((g.trans g4).trans g5) r5
    | false =>
      show Q (.bl false) H3
      exact q _ G3 H3 g rfl⟩
/-- truth -/
def truth : D → Bool
  | .non => false
  | .bl b => b
  | .int i => i != 0
  | .str s => (s.length : Int) != 0
  | .tup ds => !ds.isEmpty
  | .lst ds => !ds.isEmpty
  | .dct => false
def shortS : D → Bool
  | .str s => decide (s.length ≤ 100000)
  | .dct => false
  | _ => true
theorem isE : ∀ {ds : List D} {vs : List V}, RpL G ds vs → vs.isEmpty = ds.isEmpty
  | [], _, h => by cases h; rfl
  | d :: ds, _, ⟨v, r, hv, _, hr⟩ => by subst hv; rfl
theorem truV_of {H : Hp} (s : Same G H) (h : Rp G d v) (hs : shortS d = true) : TruV K v H (truth d) := by
  cases d with
  | non => cases h; rfl
  | bl b => cases h; rfl
  | int i => cases h; rfl
  | str y => cases h; exact ⟨Nat.le_trans (of_decide_eq_true hs) (by decide), rfl⟩
  | tup ds => obtain ⟨a, vs, rfl, ha, hr⟩ := h; exact .inr (.inl ⟨vs, SqT.of (s a _ ha), by rw [truth, isE hr]⟩)
  | lst ds => obtain ⟨a, vs, rfl, ha, hr⟩ := h; exact .inl ⟨vs, SqL.of (s a _ ha), by rw [truth, isE hr]⟩
  | dct => cases hs
theorem eb_truth (h : Ed ta σ G d) (hs : shortS d = true) : Eb (fun σ H Q => ta σ H fun x H' => ∃ k, TruV K x H' k ∧ Q k H') σ G (truth d) := fun H s Q q =>
  h H s _ fun v G1 H1 g1 r1 => ⟨_, truV_of g1.s r1 hs, q H1 g1.same⟩

/-! ### operations -/
theorem rd_I0 {g : Int → Int → V} {z : D} (h : Rp G z (g i j)) : Rd2 (rI0 g) G (.int i) (.int j) z := fun x y H s r1 r2 Q q => ⟨i, j, r1, r2, q _ G H (gr0 s) h⟩
theorem rd_I {C : Int → Int → Prop} {g : Int → Int → V} {z : D} (hc : C i j) (h : Rp G z (g i j)) : Rd2 (rI C g) G (.int i) (.int j) z := fun x y H s r1 r2 Q q => ⟨i, j, r1, r2, hc, q _ G H (gr0 s) h⟩
theorem rd_I0i {f : Int → Int → Int} : Rd2 (rI0 fun i j => .int (f i j)) G (.int i) (.int j) (.int (f i j)) := fun x y H s r1 r2 Q q => ⟨i, j, r1, r2, q _ G H (gr0 s) rfl⟩
theorem rd_I0b {f : Int → Int → Bool} : Rd2 (rI0 fun i j => .bl (f i j)) G (.int i) (.int j) (.bl (f i j)) := fun x y H s r1 r2 Q q => ⟨i, j, r1, r2, q _ G H (gr0 s) rfl⟩
theorem rd_Ii {C : Int → Int → Prop} {f : Int → Int → Int} (hc : C i j) : Rd2 (rI C fun i j => .int (f i j)) G (.int i) (.int j) (.int (f i j)) := fun x y H s r1 r2 Q q => ⟨i, j, r1, r2, hc, q _ G H (gr0 s) rfl⟩
/-- == of flat trees -/
def eqD : D → D → Option Bool
  | .non, .non => some true
  | .non, .int _ => some false | .int _, .non => some false | .non, .bl _ => some false | .bl _, .non => some false | .non, .str _ => some false | .str _, .non => some false
  | .int a, .int b => some (decide (a = b))
  | .bl a, .bl b => some (decide (a = b))
  | .str a, .str b => some (decide (a = b))
  | .int _, .str _ => some false | .str _, .int _ => some false | .bl _, .str _ => some false | .str _, .bl _ => some false
  | _, _ => none
theorem scal_of {x y : V} (h : eqD d e = some b) (r1 : Rp G d x) (r2 : Rp G e y) : scal x y = true ∧ decide (x = y) = b := by
  cases d <;> cases e <;> simp only [eqD] at h <;> first | cases h | skip
  all_goals (cases r1; cases r2; first | exact ⟨rfl, by simp⟩ | (refine ⟨rfl, ?_⟩; simp))
theorem rd_eq (h : eqD d e = some b) : Rd2 rEq G d e (.bl b) := fun x y H s r1 r2 Q q => by
  obtain ⟨h1, h2⟩ := scal_of h r1 r2
  exact ⟨h1, q _ G H (gr0 s) (by rw [h2]; rfl)⟩
theorem rd_ne (h : (eqD d e).map (!·) = some b) : Rd2 rNe G d e (.bl b) := fun x y H s r1 r2 Q q => by
  cases hq : eqD d e with
  | none => rw [hq] at h; cases h
  | some c =>
    rw [hq] at h
    obtain ⟨h1, h2⟩ := scal_of hq r1 r2
    exact ⟨h1, q _ G H (gr0 s) (by rw [h2]; rw [← Option.some.inj h]; rfl)⟩
theorem rd_leS {x y : Str} : Rd2 (fun x y H Q => ∃ i j, x = .str i ∧ y = .str j ∧ Q (.bl (!decide (j.cps.toList < i.cps.toList))) H) G (.str x) (.str y) (.bl (!decide (y.cps.toList < x.cps.toList))) := fun _ _ H s r1 r2 Q q => ⟨x, y, r1, r2, q _ G H (gr0 s) rfl⟩
theorem rd_ltS {x y : Str} : Rd2 (fun x y H Q => ∃ i j, x = .str i ∧ y = .str j ∧ Q (.bl (decide (i.cps.toList < j.cps.toList))) H) G (.str x) (.str y) (.bl (decide (x.cps.toList < y.cps.toList))) := fun _ _ H s r1 r2 Q q => ⟨x, y, r1, r2, q _ G H (gr0 s) rfl⟩
theorem rd_addS {x y : Str} (h : x.length + y.length ≤ 100000) : Rd2 (fun x y H Q => ∃ i j, x = .str i ∧ y = .str j ∧ i.length + j.length ≤ sizeLine ∧ Q (.str (i ++ j)) H) G (.str x) (.str y) (.str (x ++ y)) := fun _ _ H s r1 r2 Q q => ⟨x, y, r1, r2, Nat.le_trans h (by decide), q _ G H (gr0 s) rfl⟩
def isNon : D → Bool
  | .non => true
  | _ => false
theorem rd_isN : Rd2 (fun x y H Q => y = .non ∧ Q (.bl (decide (x = .non))) H) G d .non (.bl (isNon d)) := fun x y H s r1 r2 Q q => ⟨r2, q _ G H (gr0 s) (by
  cases d with
  | non => cases r1; rfl
  | bl b => cases r1; rfl
  | int i => cases r1; rfl
  | str y => cases r1; rfl
  | tup ds => obtain ⟨a, vs, rfl, _⟩ := r1; rfl
  | lst ds => obtain ⟨a, vs, rfl, _⟩ := r1; rfl
  | dct => obtain ⟨a, vs, rfl, _⟩ := r1; rfl)⟩
theorem rd_isB {a c : Bool} : Rd2 rIsB G (.bl a) (.bl c) (.bl (decide (a = c))) := fun x y H s r1 r2 Q q => ⟨a, c, r1, r2, q _ G H (gr0 s) rfl⟩
theorem rd_notB {a c : Bool} : Rd2 rNotB G (.bl a) (.bl c) (.bl (!decide (a = c))) := fun x y H s r1 r2 Q q => ⟨a, c, r1, r2, q _ G H (gr0 s) rfl⟩

/-! ### items -/
theorem at_len {α β : Type} {xs : List α} {ys : List β} {i : Int} (h : ys.length = xs.length) : ixN ys.length i = ixN xs.length i := by rw [h]
theorem atI_rp {ds : List D} {vs : List V} {i : Int} {d : D} (r : RpL G ds vs) (h : atI ds i = some d) : ∃ v, atI vs i = some v ∧ Rp G d v := by
  unfold atI at h ⊢
  rw [r.len]
  cases e : ixN ds.length i with
  | none => rw [e] at h; cases h
  | some k =>
    rw [e] at h
    have h2 : ds[k]? = some d := h
    obtain ⟨v, h3, h4⟩ := r.at h2
    exact ⟨v, h3, h4⟩
theorem rd_ixT {ds : List D} (h : atI ds i = some z) : Rd2 (rIxT K) G (.tup ds) (.int i) z := fun x y H s r1 r2 Q q => by
  obtain ⟨a, vs, rfl, ha, hr⟩ := r1
  obtain ⟨v, h1, h2⟩ := atI_rp hr h
  exact ⟨a, vs, i, v, rfl, r2, SqT.of (s a _ ha), h1, q v G H (gr0 s) h2⟩
theorem rd_ixL {ds : List D} (h : atI ds i = some z) : Rd2 (rIxL K) G (.lst ds) (.int i) z := fun x y H s r1 r2 Q q => by
  obtain ⟨a, vs, rfl, ha, hr⟩ := r1
  obtain ⟨v, h1, h2⟩ := atI_rp hr h
  exact ⟨a, vs, i, v, rfl, r2, SqL.of (s a _ ha), h1, q v G H (gr0 s) h2⟩
theorem rd_ixS {w : Str} {c : Nat} (hw : w.length ≤ 100000) (h : atI w.cps.toList i = some c) : Rd2 rIxS G (.str w) (.int i) (.str ⟨#[c]⟩) := fun x y H s r1 r2 Q q => ⟨w, i, c, r1, r2, Nat.le_trans hw (by decide), h, q _ G H (gr0 s) rfl⟩
def flatD : D → Bool
  | .non => true | .bl _ => true | .int _ => true | .str _ => true
  | _ => false
def eqF : D → D → Bool
  | .non, .non => true
  | .bl a, .bl b => a == b
  | .bl a, .int b => (if a then 1 else 0) == b
  | .int a, .bl b => a == (if b then 1 else 0)
  | .int a, .int b => a == b
  | .str a, .str b => a == b
  | _, _ => false
theorem flat_of (h : Rp G d v) (f : flatD d = true) : flatV v = true := by
  cases d <;> first | (cases h; rfl) | cases f
theorem eqV_of {x y : V} (h : Rp G d x) (k : Rp G e y) (f : flatD d = true) (f' : flatD e = true) : eqV x y = eqF d e := by
  cases d <;> cases e <;> first | (cases h; cases k; rfl) | exact absurd f Bool.false_ne_true | exact absurd f' Bool.false_ne_true
theorem flats_of : ∀ {ds : List D} {vs : List V}, RpL G ds vs → ds.all flatD = true → vs.all flatV = true
  | [], _, h, _ => by cases h; rfl
  | d :: ds, _, ⟨v, r, hv, h1, hr⟩, f => by
    subst hv
    rw [List.all_cons, Bool.and_eq_true] at f ⊢
    exact ⟨flat_of h1 f.1, flats_of hr f.2⟩
theorem inV_of {x : V} (hx : Rp G d x) (fx : flatD d = true) : ∀ {ds : List D} {vs : List V}, RpL G ds vs → ds.all flatD = true → inV x vs = ds.any fun e => eqF e d
  | [], _, h, _ => by cases h; rfl
  | e :: ds, _, ⟨v, r, hv, h1, hr⟩, f => by
    subst hv
    rw [List.all_cons, Bool.and_eq_true] at f
    have ih := inV_of hx fx hr f.2
    show (eqV v x || inV x r) = (eqF e d || ds.any fun e => eqF e d)
    rw [ih, eqV_of h1 hx f.1 fx]
theorem rd_inT {ds : List D} (fx : flatD d = true) (f : ds.all flatD = true) : Rd2 (rIn K false) G d (.tup ds) (.bl (ds.any fun e => eqF e d)) := fun x y H s r1 r2 Q q => by
  obtain ⟨a, vs, rfl, ha, hr⟩ := r2
  exact ⟨a, vs, rfl, .inr (SqT.of (s a _ ha)), flat_of r1 fx, flats_of hr f, by
    show Q (.bl (inV x vs)) H
    rw [inV_of r1 fx hr f]
    exact q _ G H (gr0 s) rfl⟩
theorem rd_inL {ds : List D} (fx : flatD d = true) (f : ds.all flatD = true) : Rd2 (rIn K false) G d (.lst ds) (.bl (ds.any fun e => eqF e d)) := fun x y H s r1 r2 Q q => by
  obtain ⟨a, vs, rfl, ha, hr⟩ := r2
  exact ⟨a, vs, rfl, .inl (SqL.of (s a _ ha)), flat_of r1 fx, flats_of hr f, by
    show Q (.bl (inV x vs)) H
    rw [inV_of r1 fx hr f]
    exact q _ G H (gr0 s) rfl⟩
theorem rd_notInL {ds : List D} (fx : flatD d = true) (f : ds.all flatD = true) : Rd2 (rIn K true) G d (.lst ds) (.bl (!ds.any fun e => eqF e d)) := fun x y H s r1 r2 Q q => by
  obtain ⟨a, vs, rfl, ha, hr⟩ := r2
  exact ⟨a, vs, rfl, .inl (SqL.of (s a _ ha)), flat_of r1 fx, flats_of hr f, by
    show Q (.bl (!inV x vs)) H
    rw [inV_of r1 fx hr f]
    exact q _ G H (gr0 s) rfl⟩
/-- in a tuple of texts of the written part -/
theorem inV_strs {x : Str} : ∀ {zs : List Str}, inV (.str x) (zs.map V.str) = zs.any (fun z => z == x)
  | [] => rfl
  | z :: zs => by
    show (eqV (.str z) (.str x) || inV (.str x) (zs.map V.str)) = _
    rw [inV_strs]
    rfl
theorem flat_strs : ∀ {zs : List Str}, (zs.map V.str).all flatV = true
  | [] => rfl
  | z :: zs => by show (true && (zs.map V.str).all flatV) = true; rw [flat_strs]; rfl
/-! ### slices -/
theorem rl_cut {ds : List D} {vs : List V} (r : RpL G ds vs) (lo hi : Option Int) : RpL G ((ds.drop (HT.sIx ds.length 0 lo)).take (HT.sIx ds.length ds.length hi - HT.sIx ds.length 0 lo)) (cutV vs lo hi) := by
  unfold cutV
  rw [r.len]
  exact (r.drop _).take _
def cutD (ds : List D) (lo hi : Option Int) : List D := (ds.drop (HT.sIx ds.length 0 lo)).take (HT.sIx ds.length ds.length hi - HT.sIx ds.length 0 lo)
theorem cutD_whole {ds : List D} {lo hi : Option Int} (h : HT.sIx ds.length 0 lo = 0 ∧ HT.sIx ds.length ds.length hi = ds.length) : cutD ds lo hi = ds := by
  unfold cutD
  rw [h.1, h.2]
  simp
theorem eo_none : Eo tNoPart σ G none := fun H s Q q => q H (gr0 s)
theorem eo_some (h : Ed te σ G (.int i)) : Eo (tPart te) σ G (some i) := fun H s Q q => h H s _ fun v G1 H1 g1 r1 => ⟨i, r1, q H1 g1.same⟩
theorem Eo.mono {to : TO} {o : Option Int} (s : Same G G1) (h : Eo to σ G o) : Eo to σ G1 o := fun H s1 Q q => h H (s.trans s1) Q fun H' g => q H' ⟨g.h, g.t, Same.refl _, s1.trans g.e, fun _ z _ => z⟩
theorem ed_slT {tl th : TO} {ds : List D} {lo hi : Option Int} (h : Ed te σ G (.tup ds)) (h1 : Eo tl σ G lo) (h2 : Eo th σ G hi) : Ed (tSl (rSlA K) te tl th) σ G (.tup (cutD ds lo hi)) := fun H s Q q =>
  h H s _ fun x G1 H1 g1 r1 => h1.mono g1.g H1 g1.s _ fun H2 g2 => h2.mono g1.g H2 g2.s _ fun H3 g3 => by
    obtain ⟨a, vs, rfl, ha, hr⟩ := r1
    have g := (g1.trans g2).trans g3
    refine ⟨a, vs, rfl, SqT.of (g.s a _ ha), fun w => q _ G1 H3 g ?_, fun w p hp => q _ _ _ (g.new hp) ?_⟩
    · rw [hr.len] at w
      exact ⟨a, vs, rfl, ha, by rw [cutD_whole w]; exact hr⟩
    · exact ⟨p, _, rfl, upd_same, (rl_cut hr lo hi).mono (fun b o x => by rw [upd_ne (ne_of_none x (g.gfree hp))]; exact x)⟩
theorem ed_slL {tl th : TO} {ds : List D} {lo hi : Option Int} (h : Ed te σ G (.lst ds)) (h1 : Eo tl σ G lo) (h2 : Eo th σ G hi) : Ed (tSl (rSlL K) te tl th) σ G (.lst (cutD ds lo hi)) := fun H s Q q =>
  h H s _ fun x G1 H1 g1 r1 => h1.mono g1.g H1 g1.s _ fun H2 g2 => h2.mono g1.g H2 g2.s _ fun H3 g3 => by
    obtain ⟨a, vs, rfl, ha, hr⟩ := r1
    have g := (g1.trans g2).trans g3
    refine ⟨a, vs, rfl, SqL.of (g.s a _ ha), fun p hp => q _ _ _ (g.new hp) ?_⟩
    exact ⟨p, _, rfl, upd_same, (rl_cut hr lo hi).mono (fun b o x => by rw [upd_ne (ne_of_none x (g.gfree hp))]; exact x)⟩
/-! ### isinstance, len, list() -/
def tyD : D → String
  | .non => "NoneType" | .bl _ => "bool" | .int _ => "int" | .str _ => "str" | .tup _ => "tuple" | .lst _ => "list" | .dct => "dict"
theorem tyX_of {H : Hp} (s : Same G H) (h : Rp G d v) : TyX K H v (.type (tyD d)) := by
  cases d with
  | non => cases h; exact .base .non
  | bl b => cases h; exact .base (.bl b)
  | int i => cases h; exact .base (.int i)
  | str y => cases h; exact .base (.str y)
  | tup ds => obtain ⟨a, vs, rfl, ha, hr⟩ := h; exact .base (.tup (s a _ ha))
  | lst ds => obtain ⟨a, vs, rfl, ha, hr⟩ := h; exact .base (.lst (s a _ ha))
  | dct => obtain ⟨a, vs, rfl, ha⟩ := h; exact .base (.dK (s a _ ha))
/-- isinstance of a tree, by the class's name -/
def isT (n : String) (d : D) : Bool := (kitB (tyD d) n).getD false
def knownT : List String := ["int", "bool", "str", "tuple", "list", "dict"]
theorem kit_known {n : String} (hn : n ∈ knownT) (d : D) : kitB (tyD d) n = some (isT n d) := by
  have key : ∀ a ∈ ["NoneType", "bool", "int", "str", "tuple", "list", "dict"], ∀ n ∈ knownT, (kitB a n).isSome = true := by decide +kernel
  have h := key (tyD d) (by cases d <;> simp [tyD]) n hn
  unfold isT
  cases e : kitB (tyD d) n with
  | none => rw [e] at h; cases h
  | some b => rfl
theorem ed_isi {n : String} (h : Ed te σ G d) (hn : n ∈ knownT := by decide) : Ed (tCB (rIsi K) (tCons te (tCons (tC (.ty n)) tNil))) σ G (.bl (isT n d)) := fun H s Q q =>
  h H s _ fun v G1 H1 g1 r1 => ⟨v, .ty n, .type (tyD d), .type n, _, rfl, .ty n, tyX_of g1.s r1, kit_ty (kit_known hn d), q _ G1 H1 g1 rfl⟩
def isInt : D → Bool
  | .int _ => true | .bl _ => true
  | _ => false
def isBool : D → Bool
  | .bl _ => true
  | _ => false
def isStr : D → Bool
  | .str _ => true
  | _ => false
def isTup : D → Bool
  | .tup _ => true
  | _ => false
def isLst : D → Bool
  | .lst _ => true
  | _ => false
def isDict : D → Bool
  | .dct => true
  | _ => false
theorem isT_of (d : D) : isT "int" d = isInt d ∧ isT "bool" d = isBool d ∧ isT "str" d = isStr d ∧ isT "tuple" d = isTup d ∧ isT "list" d = isLst d ∧ isT "dict" d = isDict d := by
  have key : ∀ a ∈ ["NoneType", "bool", "int", "str", "tuple", "list", "dict"], (kitB a "int").getD false = (a == "int" || a == "bool") ∧ (kitB a "bool").getD false = (a == "bool") ∧ (kitB a "str").getD false = (a == "str") ∧ (kitB a "tuple").getD false = (a == "tuple") ∧ (kitB a "list").getD false = (a == "list") ∧ (kitB a "dict").getD false = (a == "dict") := by decide +kernel
  have h := key (tyD d) (by cases d <;> simp [tyD])
  obtain ⟨h1, h2, h3, h4, h5, h6⟩ := h
  unfold isT
  rw [h1, h2, h3, h4, h5, h6]
  cases d <;> simp [tyD, isInt, isBool, isStr, isTup, isLst, isDict]
theorem ed_isInt (h : Ed te σ G d) : Ed (tCB (rIsi K) (tCons te (tCons (tC (.ty "int")) tNil))) σ G (.bl (isInt d)) := (ed_isi h).to (by rw [(isT_of d).1])
theorem ed_isBool (h : Ed te σ G d) : Ed (tCB (rIsi K) (tCons te (tCons (tC (.ty "bool")) tNil))) σ G (.bl (isBool d)) := (ed_isi h).to (by rw [(isT_of d).2.1])
theorem ed_isStr (h : Ed te σ G d) : Ed (tCB (rIsi K) (tCons te (tCons (tC (.ty "str")) tNil))) σ G (.bl (isStr d)) := (ed_isi h).to (by rw [(isT_of d).2.2.1])
theorem ed_isTup (h : Ed te σ G d) : Ed (tCB (rIsi K) (tCons te (tCons (tC (.ty "tuple")) tNil))) σ G (.bl (isTup d)) := (ed_isi h).to (by rw [(isT_of d).2.2.2.1])
theorem ed_isLst (h : Ed te σ G d) : Ed (tCB (rIsi K) (tCons te (tCons (tC (.ty "list")) tNil))) σ G (.bl (isLst d)) := (ed_isi h).to (by rw [(isT_of d).2.2.2.2.1])
theorem ed_isDict (h : Ed te σ G d) : Ed (tCB (rIsi K) (tCons te (tCons (tC (.ty "dict")) tNil))) σ G (.bl (isDict d)) := (ed_isi h).to (by rw [(isT_of d).2.2.2.2.2])
theorem ed_lenT {ds : List D} (h : Ed te σ G (.tup ds)) : Ed (tCB (fun xs H Q => ∃ p ys, xs = [.ref p] ∧ (SqL K H p ys ∨ SqT K H p ys) ∧ Q (.int ys.length) H) (tCons te tNil)) σ G (.int ds.length) := fun H s Q q =>
  h H s _ fun v G1 H1 g1 r1 => by
    obtain ⟨a, vs, rfl, ha, hr⟩ := r1
    exact ⟨a, vs, rfl, .inr (SqT.of (g1.s a _ ha)), q _ G1 H1 g1 (by rw [hr.len]; rfl)⟩
theorem ed_lenL {ds : List D} (h : Ed te σ G (.lst ds)) : Ed (tCB (fun xs H Q => ∃ p ys, xs = [.ref p] ∧ (SqL K H p ys ∨ SqT K H p ys) ∧ Q (.int ys.length) H) (tCons te tNil)) σ G (.int ds.length) := fun H s Q q =>
  h H s _ fun v G1 H1 g1 r1 => by
    obtain ⟨a, vs, rfl, ha, hr⟩ := r1
    exact ⟨a, vs, rfl, .inl (SqL.of (g1.s a _ ha)), q _ G1 H1 g1 (by rw [hr.len]; rfl)⟩
theorem ed_lenS {x : Str} (hx : x.length ≤ 100000) (h : Ed te σ G (.str x)) : Ed (tCB (fun xs H Q => ∃ x n, xs = [x] ∧ LenV K x H n ∧ Q (.int n) H) (tCons te tNil)) σ G (.int x.length) := fun H s Q q =>
  h H s _ fun v G1 H1 g1 r1 => ⟨v, x.length, rfl, by rw [show v = .str x from r1]; exact ⟨Nat.le_trans hx (by decide), rfl⟩, q _ G1 H1 g1 rfl⟩
/-! ### calls -/
/-- the promise of a def that gives f of its arguments -/
def spFn (pre : List D → Prop) (f : List D → D) : Sp := fun vs H Q _ => ∃ G ds, Same G H ∧ RpL G ds vs ∧ pre ds ∧ ∀ v G' H', Gp G H G' H' → Rp G' (f ds) v → Q v H'
theorem ed_call {pre : List D → Prop} {f : List D → D} {ta : TA} {ds : List D} {E : XK} (h : Eds ta σ G ds) (hp : pre ds) : Ed (tCall (spFn pre f) [] E ta) σ G (f ds) := fun H s Q q =>
  h H s _ fun vs G1 H1 g1 r1 => ⟨G1, ds, g1.s, by rw [List.append_nil]; exact r1, hp, fun v G2 H2 g2 r2 => q v G2 H2 (g1.trans g2) r2⟩
/-! ### statements: g tells the run so far -/
variable {M : List Addr} {G0 H0 H : Hp} {Dn : Ends} {tu tw : TS}
theorem s_ret (h : Ed te σ G d) (g : Gr M G0 H0 G H) (k : ∀ v G' H', Gr M G0 H0 G' H' → Rp G' d v → Dn.rt v H') : tRet te Dn σ H := h H g.s _ fun v G' H' g1 r => k v G' H' (g.call g1) r
theorem s_set {i : Nat} (h : Ed te σ G d) (g : Gr M G0 H0 G H) (k : ∀ v G' H', Gr M G0 H0 G' H' → Same G G' → Rp G' d v → Dn.nx (σ.set i (some v)) H') : tAsg te (gName i) Dn σ H := h H g.s _ fun v G' H' g1 r => k v G' H' (g.call g1) g1.g r
theorem s_if (h : Eb t σ G b) (g : Gr M G0 H0 G H) (h1 : b = true → ∀ H', Gr M G0 H0 G H' → tu Dn σ H') (h2 : b = false → ∀ H', Gr M G0 H0 G H' → tw Dn σ H') : tIfS t tu tw Dn σ H := h H g.s _ fun H1 g1 => by
  cases b with
  | true =>
    show tu Dn σ H1
    exact h1 rfl H1 (g.call g1)
  | false =>
    show tw Dn σ H1
    exact h2 rfl H1 (g.call g1)
theorem s_drop (h : Ed te σ G d) (g : Gr M G0 H0 G H) (k : ∀ G' H', Gr M G0 H0 G' H' → Same G G' → Dn.nx σ H') : tDrop te Dn σ H := h H g.s _ fun v G' H' g1 r => k G' H' (g.call g1) g1.g
theorem s_par {i j : Nat} {ta : TA} (h : Eds ta σ G [d, e]) (g : Gr M G0 H0 G H) (k : ∀ v u G' H', Gr M G0 H0 G' H' → Same G G' → Rp G' d v → Rp G' e u → Dn.nx ((σ.set i (some v)).set j (some u)) H') : tPar i j ta Dn σ H := h H g.s _ fun vs G' H' g1 r => by
  obtain ⟨v, r1, rfl, h1, u, r2, rfl, h2, h3⟩ := r
  cases h3
  exact ⟨v, u, rfl, k v u G' H' (g.call g1) g1.g h1 h2⟩
end
end Kd
namespace Kd
open PySem PySem.Spec PyProof.Rows L2
/-- the promise: on these trees the def gives that tree -/
def spRel (R : List D → D → Prop) : Sp := fun vs H Q _ => ∃ G ds d, Same G H ∧ RpL G ds vs ∧ R ds d ∧ ∀ v G' H', Gp G H G' H' → Rp G' d v → Q v H'
def eqS : D → Str → Bool
  | .str s, z => decide (s = z)
  | _, _ => false
def isDct : D → Bool
  | .dct => true
  | _ => false
section
variable {K : PySem.W.Frag} {σ : L2.St} {G G1 : Hp} {te ta tb tc : TE} {t u : TT} {d e z : D} {b c : Bool} {i j : Int} {v : V} {r r' : R2}
theorem ed_rel {R : List D → D → Prop} {ta : TA} {ds : List D} {E : XK} (h : Eds ta σ G ds) (hr : R ds d) : Ed (tCall (spRel R) [] E ta) σ G d := fun H s Q q =>
  h H s _ fun vs G1 H1 g1 r1 => ⟨G1, ds, d, g1.s, by rw [List.append_nil]; exact r1, hr, fun v G2 H2 g2 r2 => q v G2 H2 (g1.trans g2) r2⟩
end
end Kd
namespace Kd
open PySem PySem.Spec PyProof.Rows L2
section
variable {K : PySem.W.Frag} {σ : L2.St} {G G1 : Hp} {te ta tb tc : TE} {t u : TT} {d e z : D} {b c : Bool} {i j : Int} {v : V} {r r' : R2}
theorem eqS_of {x : V} {w : Str} {H : Hp} (s : Same G H) (h : Rp G d x) (hd : isDct d = false) : (scal x (.str w) = true ∨ ∃ a xs, x = .ref a ∧ (SqL K H a xs ∨ SqT K H a xs)) ∧ decide (x = .str w) = eqS d w := by
  cases d with
  | non => cases h; exact ⟨.inl rfl, rfl⟩
  | bl b => cases h; exact ⟨.inl rfl, rfl⟩
  | int i => cases h; exact ⟨.inl rfl, rfl⟩
  | str y => cases h; exact ⟨.inl rfl, by simp [eqS]⟩
  | tup ds => obtain ⟨a, vs, rfl, ha, hr⟩ := h; exact ⟨.inr ⟨a, vs, rfl, .inr (SqT.of (s a _ ha))⟩, rfl⟩
  | lst ds => obtain ⟨a, vs, rfl, ha, hr⟩ := h; exact ⟨.inr ⟨a, vs, rfl, .inl (SqL.of (s a _ ha))⟩, rfl⟩
  | dct => cases hd
theorem rd_eqS {w : Str} {n : Bool} (hd : isDct d = false) : Rd2 (rEqS K n) G d (.str w) (.bl (xor n (eqS d w))) := fun x y H s r1 r2 Q q => by
  obtain ⟨h1, h2⟩ := eqS_of (K := K) (w := w) s r1 hd
  cases (show y = .str w from r2)
  exact ⟨w, rfl, h1, q _ G H (gr0 s) (by rw [h2]; rfl)⟩
theorem rd_eqNil {ds : List D} {n : Bool} : Rd2 (rEqNil K n) G (.lst ds) (.lst []) (.bl (xor n ds.isEmpty)) := fun x y H s r1 r2 Q q => by
  obtain ⟨a, vs, rfl, ha, hr⟩ := r1
  obtain ⟨a2, vs2, rfl, ha2, hr2⟩ := r2
  cases hr2
  exact ⟨a, a2, vs, rfl, rfl, SqL.of (s a _ ha), SqL.of (s a2 _ ha2), q _ G H (gr0 s) (by rw [isE hr]; rfl)⟩
def isBl : D → Bool → Bool
  | .bl c, b => decide (c = b)
  | _, _ => false
theorem rd_isTF : Rd2 rIsTF G d (.bl b) (.bl (isBl d b)) := fun x y H s r1 r2 Q q => ⟨b, r2, by
  refine ⟨fun n => ?_, q _ G H (gr0 s) ?_⟩
  · cases d with
    | tup ds => obtain ⟨a, vs, rfl, _⟩ := r1; exact fun z => nomatch z
    | lst ds => obtain ⟨a, vs, rfl, _⟩ := r1; exact fun z => nomatch z
    | dct => obtain ⟨a, vs, rfl, _⟩ := r1; exact fun z => nomatch z
    | _ => cases r1; exact fun z => nomatch z
  · cases d with
    | tup ds => obtain ⟨a, vs, rfl, _⟩ := r1; rfl
    | lst ds => obtain ⟨a, vs, rfl, _⟩ := r1; rfl
    | dct => obtain ⟨a, vs, rfl, _⟩ := r1; rfl
    | bl c => cases r1; simp [isBl, Rp]
    | _ => cases r1; rfl⟩
end
end Kd
namespace Kd
open PySem PySem.Spec PyProof.Rows L2
section
variable {K : PySem.W.Frag} {σ : L2.St} {G G1 : Hp} {te ta tb tc : TE} {t u : TT} {d e z : D} {b c : Bool} {i j : Int} {v : V} {r r' : R2}
theorem ed_ifc (h : Eb t σ G b) (h1 : b = true → Ed ta σ G d) (h2 : b = false → Ed tb σ G e) : Ed (tIf t ta tb) σ G (if b = true then d else e) := ed_if h (fun q => by rw [if_pos q]; exact h1 q) fun q => by rw [if_neg (by rw [q]; simp)]; exact h2 q
theorem non_of {x : V} (r : Rp G d x) : decide (x = .non) = isNon d := by
  cases d with
  | tup ds => obtain ⟨a, vs, rfl, _⟩ := r; rfl
  | lst ds => obtain ⟨a, vs, rfl, _⟩ := r; rfl
  | dct => obtain ⟨a, vs, rfl, _⟩ := r; rfl
  | _ => cases r; rfl
theorem rd_notN : Rd2 (fun x y H Q => y = .non ∧ Q (.bl (!decide (x = .non))) H) G d .non (.bl (!isNon d)) := fun x y H s r1 r2 Q q => ⟨r2, q _ G H (gr0 s) (by rw [non_of r1]; rfl)⟩
theorem rd_neg {i : Int} : Rd1 (rU fun i => .int (-i)) G (.int i) (.int (-i)) := fun x H s r Q q => ⟨i, r, q _ G H (gr0 s) rfl⟩
theorem rd_cat {ds es : List D} (h : ds.length + es.length ≤ 100000) : Rd2 rCat G (.lst ds) (.lst es) (.lst (ds ++ es)) := fun x y H s r1 r2 Q q => by
  obtain ⟨a, vs, rfl, ha, hr⟩ := r1
  obtain ⟨b, ws, rfl, hb, hr'⟩ := r2
  refine ⟨a, b, vs, ws, rfl, rfl, s a _ ha, s b _ hb, by rw [hr.len, hr'.len]; exact Nat.le_trans h (by decide), fun p hp => q _ _ _ ((gr0 s).new hp) ⟨p, _, rfl, upd_same, (hr.app hr').mono fun c o x => ?_⟩⟩
  rw [upd_ne (ne_of_none x (s.free hp))]
  exact x
theorem rd_catA {ds es : List D} (h : ds.length + es.length ≤ 100000) : Rd2 (rCatA K) G (.tup ds) (.tup es) (.tup (ds ++ es)) := fun x y H s r1 r2 Q q => by
  obtain ⟨a, vs, rfl, ha, hr⟩ := r1
  obtain ⟨b, ws, rfl, hb, hr'⟩ := r2
  refine ⟨a, b, vs, ws, rfl, rfl, SqT.of (s a _ ha), SqT.of (s b _ hb), by rw [hr.len, hr'.len]; exact Nat.le_trans h (by decide), fun z => ?_, fun z1 z2 => ?_, fun _ _ p hp => q _ _ _ ((gr0 s).new hp) ⟨p, _, rfl, upd_same, (hr.app hr').mono fun c o x => ?_⟩⟩
  · subst z
    have e : ds = [] := by
      have := hr.len
      cases ds with
      | nil => rfl
      | cons _ _ => simp at this
    subst e
    exact q _ G H (gr0 s) ⟨b, ws, rfl, hb, hr'⟩
  · subst z2
    have e : es = [] := by
      have := hr'.len
      cases es with
      | nil => rfl
      | cons _ _ => simp at this
    subst e
    exact q _ G H (gr0 s) ⟨a, vs, rfl, ha, by rw [List.append_nil]; exact hr⟩
  · rw [upd_ne (ne_of_none x (s.free hp))]
    exact x
theorem ed_int1 (h : Ed te σ G (.int i)) : Ed (tCB (fun xs H Q => (∃ i, xs = [.int i] ∧ Q (.int i) H) ∨ ∃ k, xs = [.bl k] ∧ Q (.int (if k then 1 else 0)) H) (tCons te tNil)) σ G (.int i) := fun H s Q q =>
  h H s _ fun v G1 H1 g1 r1 => .inl ⟨i, by rw [show v = .int i from r1], q _ G1 H1 g1 rfl⟩
theorem ed_listL {ds : List D} (h : Ed te σ G (.lst ds)) : Ed (tCB (fun xs H Q => ∃ p ys, xs = [.ref p] ∧ (SqL K H p ys ∨ SqT K H p ys) ∧ ∀ l, H l = none → Q (.ref l) (upd H l (.lst ys))) (tCons te tNil)) σ G (.lst ds) := fun H s Q q =>
  h H s _ fun v G1 H1 g1 r1 => by
    obtain ⟨a, vs, rfl, ha, hr⟩ := r1
    refine ⟨a, vs, rfl, .inl (SqL.of (g1.s a _ ha)), fun l hl => q _ _ _ (g1.new hl) ⟨l, vs, rfl, upd_same, hr.mono fun c o x => ?_⟩⟩
    rw [upd_ne (ne_of_none x (g1.gfree hl))]
    exact x
theorem ed_listT {ds : List D} (h : Ed te σ G (.tup ds)) : Ed (tCB (fun xs H Q => ∃ p ys, xs = [.ref p] ∧ (SqL K H p ys ∨ SqT K H p ys) ∧ ∀ l, H l = none → Q (.ref l) (upd H l (.lst ys))) (tCons te tNil)) σ G (.lst ds) := fun H s Q q =>
  h H s _ fun v G1 H1 g1 r1 => by
    obtain ⟨a, vs, rfl, ha, hr⟩ := r1
    refine ⟨a, vs, rfl, .inr (SqT.of (g1.s a _ ha)), fun l hl => q _ _ _ (g1.new hl) ⟨l, vs, rfl, upd_same, hr.mono fun c o x => ?_⟩⟩
    rw [upd_ne (ne_of_none x (g1.gfree hl))]
    exact x
end
end Kd
namespace Kd
open PySem PySem.Spec PyProof.Rows L2
section
variable {K : PySem.W.Frag} {σ : L2.St} {G G1 : Hp} {te ta tb tc : TE} {t u : TT} {d e z : D} {b c : Bool} {i j : Int} {v : V} {r r' : R2}
theorem eb_orT (h : Eb t σ G true) : Eb (tOr t u) σ G true := (eb_or (c := false) h fun z => nomatch z).to rfl
theorem eb_orF (h : Eb t σ G false) (h2 : Eb u σ G c) : Eb (tOr t u) σ G c := (eb_or h fun _ => h2).to rfl
theorem eb_andF (h : Eb t σ G false) : Eb (tAnd t u) σ G false := (eb_and (c := false) h fun z => nomatch z).to rfl
theorem eb_andT (h : Eb t σ G true) (h2 : Eb u σ G c) : Eb (tAnd t u) σ G c := (eb_and h fun _ => h2).to rfl
theorem ed_andF (h : Ed ta σ G (.bl false)) : Ed (tAndV ta tb) σ G (.bl false) := (ed_andV (c := false) h fun z => nomatch z).to rfl
theorem ed_andT (h : Ed ta σ G (.bl true)) (h2 : Ed tb σ G (.bl c)) : Ed (tAndV ta tb) σ G (.bl c) := (ed_andV h fun _ => h2).to rfl
theorem ed_orT (h : Ed ta σ G (.bl true)) : Ed (tOrV ta tb) σ G (.bl true) := (ed_orV (c := false) h fun z => nomatch z).to rfl
theorem ed_orF (h : Ed ta σ G (.bl false)) (h2 : Ed tb σ G (.bl c)) : Ed (tOrV ta tb) σ G (.bl c) := (ed_orV h fun _ => h2).to rfl
theorem ed_ifT (h : Eb t σ G true) (h1 : Ed ta σ G d) : Ed (tIf t ta tb) σ G d := ed_if h (fun _ => h1) fun z => nomatch z
theorem ed_ifF (h : Eb t σ G false) (h1 : Ed tb σ G d) : Ed (tIf t ta tb) σ G d := ed_if h (fun z => nomatch z) fun _ => h1
variable {M : List Addr} {G0 H0 H : Hp} {Dn : Ends} {tu tw : TS}
theorem s_ifT (h : Eb t σ G true) (g : Gr M G0 H0 G H) (h1 : ∀ H', Gr M G0 H0 G H' → tu Dn σ H') : tIfS t tu tw Dn σ H := s_if h g (fun _ => h1) fun z => nomatch z
theorem s_ifF (h : Eb t σ G false) (g : Gr M G0 H0 G H) (h1 : ∀ H', Gr M G0 H0 G H' → tw Dn σ H') : tIfS t tu tw Dn σ H := s_if h g (fun z => nomatch z) fun _ => h1
end
end Kd
namespace Kd
open PySem PySem.Spec PyProof.Rows L2
section
variable {K : PySem.W.Frag} {σ : L2.St} {G G1 : Hp} {te ta tb tc : TE} {t u : TT} {d e z : D} {b c : Bool} {i j : Int} {v : V} {r r' : R2}
/-- in, not in a tuple of texts of the written part -/
theorem ed_inK {x : Str} {zs : List Str} {a : Addr} (h : Ed te σ G (.str x)) (hq : ∀ H, SqT K H a (zs.map V.str)) : Ed (tOp (rIn K false) te (tC (.ref a))) σ G (.bl (zs.any fun z => z == x)) := fun H s Q q =>
  h H s _ fun v G1 H1 g1 r1 => by
    cases (show v = .str x from r1)
    refine ⟨a, _, rfl, .inr (hq H1), rfl, flat_strs, ?_⟩
    show Q (.bl (inV (.str x) (zs.map V.str))) H1
    rw [inV_strs]
    exact q _ G1 H1 g1 rfl
theorem ed_notInK {x : Str} {zs : List Str} {a : Addr} (h : Ed te σ G (.str x)) (hq : ∀ H, SqT K H a (zs.map V.str)) : Ed (tOp (rIn K true) te (tC (.ref a))) σ G (.bl (!zs.any fun z => z == x)) := fun H s Q q =>
  h H s _ fun v G1 H1 g1 r1 => by
    cases (show v = .str x from r1)
    refine ⟨a, _, rfl, .inr (hq H1), rfl, flat_strs, ?_⟩
    show Q (.bl (!inV (.str x) (zs.map V.str))) H1
    rw [inV_strs]
    exact q _ G1 H1 g1 rfl
theorem at0 {α : Type} {x : α} {l : List α} : atI (x :: l) 0 = some x := atI_nat (j := 0) rfl
theorem at1 {α : Type} {x y : α} {l : List α} : atI (x :: y :: l) 1 = some y := atI_nat (j := 1) rfl
theorem at2 {α : Type} {x y z : α} {l : List α} : atI (x :: y :: z :: l) 2 = some z := atI_nat (j := 2) rfl
theorem at3 {α : Type} {x y z w : α} {l : List α} : atI (x :: y :: z :: w :: l) 3 = some w := atI_nat (j := 3) rfl
theorem cut1 {ds : List D} : cutD ds (some 1) none = ds.drop 1 := by
  unfold cutD
  show ((ds.drop (HT.sIx ds.length 0 (some ((1 : Nat) : Int)))).take (HT.sIx ds.length ds.length none - HT.sIx ds.length 0 (some ((1 : Nat) : Int)))) = ds.drop 1
  rw [HT.sIx_nat, HT.sIx_none]
  cases ds with
  | nil => simp
  | cons d r => simp
end
end Kd
namespace Kd
open PySem PySem.Spec PyProof.Rows L2
theorem s_next {Dn : Ends} {σ : L2.St} {H : Hp} (q : Dn.nx σ H) : tNext Dn σ H := q
end Kd
namespace Kd
open PySem PySem.Spec PyProof.Rows L2
section
variable {K : PySem.W.Frag} {σ : L2.St} {G G1 : Hp} {te ta tb tc : TE} {t u : TT} {d e z : D} {b c : Bool} {v : V}
variable {M : List Addr} {G0 H0 H : Hp} {Dn : Ends} {tu tw : TS}
/-! the same, the step told (where a thing of one's own stands that may be changed) -/
/-- a thing that is tracked and not frozen stays so -/
def Kp (G H G' H' : Hp) : Prop := ∀ l o, H l = some o → H' l = some o ∧ (G l = none → G' l = none)
theorem Gr.kp {G H G' H' : Hp} (g : Gp G H G' H') : Kp G H G' H' := fun l o h => ⟨g.e l o h, fun n => g.n l n (some_ne h)⟩
theorem s_ret' (h : Ed te σ G d) (g : Gr M G0 H0 G H) (k : ∀ v G' H', Gr M G0 H0 G' H' → Same G G' → Kp G H G' H' → Rp G' d v → Dn.rt v H') : tRet te Dn σ H := h H g.s _ fun v G' H' g1 r => k v G' H' (g.call g1) g1.g g1.kp r
theorem s_set' {i : Nat} (h : Ed te σ G d) (g : Gr M G0 H0 G H) (k : ∀ v G' H', Gr M G0 H0 G' H' → Same G G' → Kp G H G' H' → Rp G' d v → Dn.nx (σ.set i (some v)) H') : tAsg te (gName i) Dn σ H := h H g.s _ fun v G' H' g1 r => k v G' H' (g.call g1) g1.g g1.kp r
theorem s_if' (h : Eb t σ G b) (g : Gr M G0 H0 G H) (h1 : b = true → ∀ H', Gr M G0 H0 G H' → Kp G H G H' → tu Dn σ H') (h2 : b = false → ∀ H', Gr M G0 H0 G H' → Kp G H G H' → tw Dn σ H') : tIfS t tu tw Dn σ H := h H g.s _ fun H1 g1 => by
  cases b with
  | true =>
    show tu Dn σ H1
    exact h1 rfl H1 (g.call g1) g1.kp
  | false =>
    show tw Dn σ H1
    exact h2 rfl H1 (g.call g1) g1.kp
theorem s_par' {i j : Nat} {ta : TA} (h : Eds ta σ G [d, e]) (g : Gr M G0 H0 G H) (k : ∀ v u G' H', Gr M G0 H0 G' H' → Same G G' → Kp G H G' H' → Rp G' d v → Rp G' e u → Dn.nx ((σ.set i (some v)).set j (some u)) H') : tPar i j ta Dn σ H := h H g.s _ fun vs G' H' g1 r => by
  obtain ⟨v, r1, rfl, h1, u, r2, rfl, h2, h3⟩ := r
  cases h3
  exact ⟨v, u, rfl, k v u G' H' (g.call g1) g1.g g1.kp h1 h2⟩
theorem Kp.trans {G H G1 H1 G2 H2 : Hp} (a : Kp G H G1 H1) (b : Kp G1 H1 G2 H2) : Kp G H G2 H2 := fun l o h => ⟨(b l o (a l o h).1).1, fun n => (b l o (a l o h).1).2 ((a l o h).2 n)⟩
/-- another thing is changed -/
theorem Kp.upd {G H G1 H1 : Hp} {l : Addr} {o : HO} (hl : H l = none) (a : Kp G H G1 H1) : Kp G H G1 (upd H1 l o) := fun m u h => ⟨by rw [upd_ne (ne_of_none h hl)]; exact (a m u h).1, (a m u h).2⟩
end
theorem nil_or_snoc {α : Type} (l : List α) : l = [] ∨ ∃ l' x, l = l' ++ [x] := by
  rcases List.eq_nil_or_concat l with h | ⟨l', x, h⟩
  · exact .inl h
  · exact .inr ⟨l', x, by rw [h, List.concat_eq_append]⟩
end Kd
set_option maxHeartbeats 4000000
/-! What is walked, told by trees; list comprehensions. -/
namespace Kd
open PySem PySem.Spec PyProof.Rows L2
/-- J walks these trees, as long as G stands -/
def WalkD (J : It) (G : Hp) (items : List D) : Prop := Walk J items.length (fun H => Same G H) (fun i H x H' => ∃ d, items[i]? = some d ∧ ∀ Gi, Same G Gi → Same Gi H → ∃ Gj, Gp Gi H Gj H' ∧ Rp Gj d x)
def Es (wi : TI) (σ : L2.St) (G : Hp) (items : List D) : Prop := ∀ H, Same G H → ∀ R : It → Hp → Prop, (∀ J G' H', Gp G H G' H' → WalkD J G' items → R J H') → wi σ H R
section
variable {K : PySem.W.Frag} {σ : L2.St} {G G1 : Hp} {te ta tb : TE} {t u : TT} {d e z : D} {b c : Bool} {i j : Int} {v : V} {wi : TI} {g : TG} {tt : TT}
theorem walkD_list {a : Addr} {vs : List V} {ds : List D} (h : G a = some (.lst vs)) (r : RpL G ds vs) : WalkD (Itl K a) G ds := by
  have w : Walk (Itl K a) vs.length (fun H => SqL K H a vs) (YAt vs) := walk_list
  unfold WalkD
  rw [← r.len]
  refine w.mono (fun H s => SqL.of (s a _ h)) fun i H x H' hi s y => ?_
  obtain ⟨e, y⟩ := y
  subst e
  obtain ⟨d, h1, h2⟩ := r.back y
  exact ⟨d, h1, fun Gi s1 s2 => ⟨Gi, gr0 s2, h2.mono s1⟩⟩
theorem walkD_tup {a : Addr} {vs : List V} {ds : List D} (h : G a = some (.tup vs)) (r : RpL G ds vs) : WalkD (Itt K a) G ds := by
  have w : Walk (Itt K a) vs.length (fun H => SqT K H a vs) (YAt vs) := walk_tup
  unfold WalkD
  rw [← r.len]
  refine w.mono (fun H s => SqT.of (s a _ h)) fun i H x H' hi s y => ?_
  obtain ⟨e, y⟩ := y
  subst e
  obtain ⟨d, h1, h2⟩ := r.back y
  exact ⟨d, h1, fun Gi s1 s2 => ⟨Gi, gr0 s2, h2.mono s1⟩⟩
theorem walkD_str {x : Str} : WalkD (Its x) G (x.cps.toList.map fun c => .str ⟨#[c]⟩) := by
  have w := walk_str (z := x)
  unfold WalkD
  rw [List.length_map, Array.length_toList]
  refine w.mono (fun H s => trivial) fun i H y H' hi s q => ?_
  obtain ⟨e, c, h1, h2⟩ := q
  subst e
  refine ⟨.str ⟨#[c]⟩, ?_, fun Gi s1 s2 => ⟨Gi, gr0 s2, h2⟩⟩
  rw [List.getElem?_map, Array.getElem?_toList, h1]
  rfl
theorem walkD_range {lo : Int} {n : Nat} : WalkD (Itr lo n) G ((List.range n).map fun i => .int (lo + (i : Nat))) := by
  have w := walk_range (lo := lo) (n := n)
  unfold WalkD
  rw [List.length_map, List.length_range]
  refine w.mono (fun H s => trivial) fun i H y H' hi s q => ?_
  obtain ⟨e, h1⟩ := q
  subst e
  refine ⟨.int (lo + i), ?_, fun Gi s1 s2 => ⟨Gi, gr0 s2, h1⟩⟩
  rw [List.getElem?_map, List.getElem?_range hi]
  rfl
theorem walkD_zip {a b : Addr} {vs ws : List V} {ds es : List D} (h : G a = some (.lst vs)) (r : RpL G ds vs) (h' : G b = some (.lst ws)) (r' : RpL G es ws) : WalkD (Itz K a b) G (List.zipWith (fun x y => D.tup [x, y]) ds es) := by
  have w := walk_zip (K := K) (a := a) (b := b) (xs := vs) (ys := ws) rfl
  unfold WalkD
  rw [List.length_zipWith, ← r.len, ← r'.len]
  refine w.mono (fun H s => ⟨SqL.of (s a _ h), SqL.of (s b _ h')⟩) fun i H y H' hi s q => ?_
  obtain ⟨T, x1, y1, rfl, hT, rfl, h1, h2⟩ := q
  obtain ⟨d1, k1, k2⟩ := r.back h1
  obtain ⟨e1, l1, l2⟩ := r'.back h2
  refine ⟨.tup [d1, e1], ?_, fun Gi s1 s2 => ⟨_, (gr0 s2).new hT, ?_⟩⟩
  · rw [List.getElem?_zipWith, k1, l1]
  · have m : Same Gi (upd Gi T (.tup [x1, y1])) := fun a o x => by rw [upd_ne (ne_of_none x (s2.free hT))]; exact x
    exact ⟨T, _, rfl, upd_same, _, _, rfl, (k2.mono s1).mono m, _, _, rfl, (l2.mono s1).mono m, rfl⟩
theorem es_list {ds : List D} (h : Ed te σ G (.lst ds)) : Es (iList K te) σ G ds := fun H s R q => h H s _ fun v G1 H1 g1 r1 => by
  obtain ⟨a, vs, rfl, ha, hr⟩ := r1
  exact ⟨a, rfl, ⟨vs, SqL.of (g1.s a _ ha)⟩, q _ G1 H1 g1 (walkD_list ha hr)⟩
theorem es_tup {ds : List D} (h : Ed te σ G (.tup ds)) : Es (iTup K te) σ G ds := fun H s R q => h H s _ fun v G1 H1 g1 r1 => by
  obtain ⟨a, vs, rfl, ha, hr⟩ := r1
  exact ⟨a, rfl, ⟨vs, SqT.of (g1.s a _ ha)⟩, q _ G1 H1 g1 (walkD_tup ha hr)⟩
theorem es_str {x : Str} (h : Ed te σ G (.str x)) : Es (iStr te) σ G (x.cps.toList.map fun c => .str ⟨#[c]⟩) := fun H s R q => h H s _ fun v G1 H1 g1 r1 => ⟨x, r1, q _ G1 H1 g1 walkD_str⟩
theorem es_range1 {n : Int} (h : Ed te σ G (.int n)) (h0 : 0 ≤ n) (h1 : n < 2 ^ 62) : Es (iRng1 (tCons te tNil)) σ G ((List.range n.toNat).map fun i => .int ((0 : Int) + (i : Nat))) := fun H s R q => h H s _ fun v G1 H1 g1 r1 =>
  ⟨n, by rw [show v = .int n from r1], by omega, h1, q _ G1 H1 g1 walkD_range⟩
theorem es_zip {ds es : List D} (h : Ed ta σ G (.lst ds)) (h' : Ed tb σ G (.lst es)) : Es (iZip K (tCons ta (tCons tb tNil))) σ G (List.zipWith (fun x y => D.tup [x, y]) ds es) := fun H s R q =>
  (eds_cons h (eds_cons h' eds_nil)) H s _ fun vs G1 H1 g1 r1 => by
    obtain ⟨x, r2, rfl, k1, y, r3, rfl, k2, k3⟩ := r1
    cases k3
    obtain ⟨a, vs, rfl, ha, hr⟩ := k1
    obtain ⟨b, ws, rfl, hb, hr'⟩ := k2
    exact ⟨a, b, vs, ws, rfl, SqL.of (g1.s a _ ha), SqL.of (g1.s b _ hb), q _ G1 H1 g1 (walkD_zip ha hr hb hr')⟩

/-- how a target takes an item: what is then known of the slots -/
def Tk (g : TG) (σ0 : L2.St) (G : Hp) (d : D) (P : L2.St → Hp → Prop) : Prop := ∀ v H, Same G H → Rp G d v → ∀ Q : L2.St → Hp → Prop, (∀ σ2, P σ2 G → Q σ2 H) → g v σ0 H Q

theorem take_snoc {α : Type} {l : List α} {i : Nat} {x : α} (h : l[i]? = some x) : l.take (i + 1) = l.take i ++ [x] := by
  rw [List.take_add_one, h]
  rfl
/-- [f x for x in items if p x] -/
theorem ed_lc {items : List D} {vs : List Nat} (f : D → D) (p : D → Bool) (hs : Es wi σ G items) (hl : items.length ≤ 100000)
    (ht : ∀ d, d ∈ items → ∀ G', Same G G' → Tk g (wipe σ vs) G' d fun σ2 G2 => wipe σ2 vs = wipe σ vs ∧ Eb tt σ2 G2 (p d) ∧ (p d = true → Ed te σ2 G2 (f d))) :
    Ed (tLc wi g tt te vs) σ G (.lst ((items.filter p).map f)) := fun H s Q q => hs H s _ fun J G1 H1 g1 W D hD => by
  refine lc_it W (fun j Hj => ∃ (Gj : Hp) (acc : List V), Gp G H Gj Hj ∧ Same G1 Gj ∧ Gj D = none ∧ Hj D = some (.lst acc) ∧ acc.length ≤ j ∧ RpL Gj (((items.take j).filter p).map f) acc) ?_ ?_ ?_ ?_
  · exact ⟨G1, [], g1.tmp hD, Same.refl _, g1.gfree hD, upd_same, Nat.le_refl _, rfl⟩
  · rintro j Hj _ ⟨Gj, acc, gj, sj, _⟩
    exact sj.trans gj.s
  · rintro j x Hj Hj' hj ⟨Gj, acc, gj, sj, hgD, hHD, hal, hr⟩ ⟨d, hd, y⟩
    obtain ⟨Gk, gk, rk⟩ := y Gj sj gj.s
    have hkD : Gk D = none := gk.n D hgD (some_ne hHD)
    have hkH : Hj' D = some (.lst acc) := gk.e D _ hHD
    have gjk := gj.trans gk
    refine ht d (List.mem_of_getElem? hd) Gk (gjk.g) x Hj' gk.s rk _ fun σ2 h2 => ?_
    obtain ⟨hw, hb, he⟩ := h2
    refine ⟨hw, hb Hj' gk.s _ fun H3 g3 => ?_⟩
    have h3D : H3 D = some (.lst acc) := g3.e D _ hkH
    cases hp : p d with
    | false =>
      rw [if_neg (by simp)]
      refine ⟨Gk, acc, gjk.trans g3, sj.trans gk.g, hkD, h3D, Nat.le_succ_of_le hal, ?_⟩
      rw [take_snoc hd, List.filter_append, List.map_append, List.filter_cons, hp]
      simpa using hr.mono gk.g
    | true =>
      rw [if_pos rfl]
      refine he hp H3 g3.s _ fun w G4 H4 g4 r4 => ?_
      have h4D : H4 D = some (.lst acc) := g4.e D _ h3D
      have n4D : G4 D = none := g4.n D hkD (some_ne h3D)
      have gall := (gjk.trans g3).trans g4
      have h0 : H D = none := g1.free hD
      refine ⟨acc, h4D, Nat.lt_of_le_of_lt hal (Nat.lt_of_lt_of_le hj (Nat.le_trans hl (by decide))), G4, acc ++ [w], gall.mut n4D h0, (sj.trans gk.g).trans g4.g, n4D, upd_same, by simp; exact hal, ?_⟩
      rw [take_snoc hd, List.filter_append, List.map_append, List.filter_cons, hp]
      have := (hr.mono (gk.g.trans g4.g)).snoc r4
      simpa using this
  · rintro Hj ⟨Gj, acc, gj, sj, hgD, hHD, hal, hr⟩
    rw [List.take_length] at hr
    have h0 : H D = none := g1.free hD
    refine q (.ref D) _ _ (gj.frz hHD hgD h0) ⟨D, acc, rfl, upd_same, hr.mono fun a o x => ?_⟩
    rw [upd_ne (ne_of_none x hgD)]
    exact x
theorem ed_lcAll {items : List D} {vs : List Nat} (f : D → D) (hs : Es wi σ G items) (hl : items.length ≤ 100000)
    (ht : ∀ d, d ∈ items → ∀ G', Same G G' → Tk g (wipe σ vs) G' d fun σ2 G2 => wipe σ2 vs = wipe σ vs ∧ Ed te σ2 G2 (f d)) :
    Ed (tLc wi g tYes te vs) σ G (.lst (items.map f)) := by
  have h := ed_lc (tt := tYes) (te := te) f (fun _ => true) hs hl (g := g) (vs := vs) fun d hd G' s v H' s' r Q q => ht d hd G' s v H' s' r Q fun σ2 h2 => q σ2 ⟨h2.1, fun H s Q q => q H (gr0 s), fun _ => h2.2⟩
  have e : items.filter (fun _ => true) = items := List.filter_eq_self.mpr fun _ _ => rfl
  rw [e] at h
  exact h
/-- a plain name takes it -/
theorem tk_name {i : Nat} {P : L2.St → Hp → Prop} {σ0 : L2.St} (h : ∀ v, Rp G d v → P (σ0.set i (some v)) G) : Tk (gName i) σ0 G d P := fun v H s r Q q => q _ (h v r)
/-- a row of names takes a tuple -/
def TkL (t : TGs) (σ0 : L2.St) (G : Hp) (ds : List D) (P : L2.St → Hp → Prop) : Prop := ∀ vs H, Same G H → RpL G ds vs → ∀ Q : L2.St → Hp → Prop, (∀ σ2, P σ2 G → Q σ2 H) → t vs σ0 H Q
theorem tkl_nil {P : L2.St → Hp → Prop} {σ0 : L2.St} (h : P σ0 G) : TkL gNil σ0 G [] P := fun vs H s r Q q => ⟨r, q _ h⟩
theorem tkl_cons {t : TGs} {i : Nat} {P : L2.St → Hp → Prop} {σ0 : L2.St} {ds : List D} (h : ∀ v, Rp G d v → TkL t (σ0.set i (some v)) G ds P) : TkL (gCons (gName i) t) σ0 G (d :: ds) P := fun vs H s r Q q => by
  obtain ⟨v, r2, rfl, h1, h2⟩ := r
  exact ⟨v, r2, rfl, h v h1 r2 H s h2 Q q⟩
theorem tk_tup {t : TGs} {n : Nat} {P : L2.St → Hp → Prop} {σ0 : L2.St} {ds : List D} (hn : ds.length = n) (h : TkL t σ0 G ds P) : Tk (gTup K n t) σ0 G (.tup ds) P := fun v H s r Q q => by
  obtain ⟨a, vs, rfl, ha, hr⟩ := r
  exact ⟨a, vs, rfl, SqT.of (s a _ ha), by rw [hr.len, hn], h vs H s hr Q q⟩
/-- all(..) of a list of truth values -/
theorem all_bl : ∀ {ds : List D} {bs : List Bool} {vs : List V}, ds = bs.map D.bl → RpL G ds vs → vs = bs.map V.bl
  | _, [], _, rfl, h => by cases h; rfl
  | _, b :: bs, _, rfl, ⟨v, r, hv, h1, h2⟩ => by subst hv; rw [show v = .bl b from h1, all_bl rfl h2]; rfl
theorem ed_all {bs : List Bool} (h : Ed te σ G (.lst (bs.map D.bl))) : Ed (tCB (rAll K) (tCons te tNil)) σ G (.bl (bs.all id)) := fun H s Q q => h H s _ fun v G1 H1 g1 r1 => by
  obtain ⟨a, vs, rfl, ha, hr⟩ := r1
  have e := all_bl rfl hr
  subst e
  exact ⟨a, bs, rfl, SqL.of (g1.s a _ ha), q _ G1 H1 g1 rfl⟩
end
end Kd
set_option maxHeartbeats 0
namespace K18
open PySem PySem.Spec PyProof.Rows L2
def top (i : Nat) : Stmt := PySem.Challenge.pw_heardwhole_k18_kinds_and_what_is_none.main.body.getD i (.Pass ⟨0, 0, 0, 0⟩)
abbrev s_is_word_sign : Stmt := top 3
abbrev s_is_name : Stmt := top 4
abbrev s_is_small : Stmt := top 5
abbrev s_is_great : Stmt := top 6
abbrev s_is_number : Stmt := top 9
abbrev s_is_flag : Stmt := top 10
abbrev s_is_named : Stmt := top 11
abbrev s_is_row : Stmt := top 12
abbrev s_parts_of : Stmt := top 13
abbrev s_is_kind : Stmt := top 14
abbrev s_parts_of_kind : Stmt := top 21
abbrev s_with_parts : Stmt := top 22
abbrev s_table_of : Stmt := top 23
abbrev s_reading_of : Stmt := top 24
abbrev s_flag_at : Stmt := top 25
abbrev s_words_in : Stmt := top 26
abbrev s_rows_in : Stmt := top 27
abbrev s_fits_row : Stmt := top 28
abbrev s_is_instance_of : Stmt := top 29
abbrev s_is_instance : Stmt := top 31
abbrev s_law_pool : Stmt := top 33
abbrev s_law_pick : Stmt := top 34
abbrev s_law_wide : Stmt := top 35
abbrev s_law_sort : Stmt := top 36
abbrev s_law_same : Stmt := top 37
abbrev s_law_name : Stmt := top 38
abbrev s_law_number : Stmt := top 39
abbrev s_law_row : Stmt := top 40
abbrev s_law_node : Stmt := top 41
abbrev s_law_nodes : Stmt := top 42
abbrev s_law_right : Stmt := top 43
abbrev s_law_bad_names : Stmt := top 44
abbrev s_law_bad_rows : Stmt := top 45
abbrev s_law_wrong : Stmt := top 46
abbrev s_law_value : Stmt := top 47
abbrev s_law_flag : Stmt := top 48
abbrev s_law_changed : Stmt := top 49
abbrev s_law_numbers : Stmt := top 50
abbrev s_law_asked : Stmt := top 51
abbrev s_law_barred : Stmt := top 52
abbrev s_law : Stmt := top 53

def d_is_word_sign : He.DefD := ⟨("is_word_sign", none), "is_word_sign", "is_word_sign", defArgs s_is_word_sign, defBody s_is_word_sign, defScope s_is_word_sign, [], []⟩
def d_is_name : He.DefD := ⟨("is_name", none), "is_name", "is_name", defArgs s_is_name, defBody s_is_name, defScope s_is_name, [], []⟩
def d_is_small : He.DefD := ⟨("is_small", none), "is_small", "is_small", defArgs s_is_small, defBody s_is_small, defScope s_is_small, [], []⟩
def d_is_great : He.DefD := ⟨("is_great", none), "is_great", "is_great", defArgs s_is_great, defBody s_is_great, defScope s_is_great, [], []⟩
def d_is_number : He.DefD := ⟨("is_number", none), "is_number", "is_number", defArgs s_is_number, defBody s_is_number, defScope s_is_number, [], []⟩
def d_is_flag : He.DefD := ⟨("is_flag", none), "is_flag", "is_flag", defArgs s_is_flag, defBody s_is_flag, defScope s_is_flag, [], []⟩
def d_is_named : He.DefD := ⟨("is_named", none), "is_named", "is_named", defArgs s_is_named, defBody s_is_named, defScope s_is_named, [], []⟩
def d_is_row : He.DefD := ⟨("is_row", none), "is_row", "is_row", defArgs s_is_row, defBody s_is_row, defScope s_is_row, [], []⟩
def d_parts_of : He.DefD := ⟨("parts_of", none), "parts_of", "parts_of", defArgs s_parts_of, defBody s_parts_of, defScope s_parts_of, [], []⟩
def d_is_kind : He.DefD := ⟨("is_kind", none), "is_kind", "is_kind", defArgs s_is_kind, defBody s_is_kind, defScope s_is_kind, [], []⟩
def d_parts_of_kind : He.DefD := ⟨("parts_of_kind", none), "parts_of_kind", "parts_of_kind", defArgs s_parts_of_kind, defBody s_parts_of_kind, defScope s_parts_of_kind, [], []⟩
def d_with_parts : He.DefD := ⟨("with_parts", none), "with_parts", "with_parts", defArgs s_with_parts, defBody s_with_parts, defScope s_with_parts, [], []⟩
def d_table_of : He.DefD := ⟨("table_of", none), "table_of", "table_of", defArgs s_table_of, defBody s_table_of, defScope s_table_of, [], []⟩
def d_reading_of : He.DefD := ⟨("reading_of", none), "reading_of", "reading_of", defArgs s_reading_of, defBody s_reading_of, defScope s_reading_of, [], []⟩
def d_flag_at : He.DefD := ⟨("flag_at", none), "flag_at", "flag_at", defArgs s_flag_at, defBody s_flag_at, defScope s_flag_at, [], []⟩
def d_words_in : He.DefD := ⟨("words_in", none), "words_in", "words_in", defArgs s_words_in, defBody s_words_in, defScope s_words_in, [], []⟩
def d_rows_in : He.DefD := ⟨("rows_in", none), "rows_in", "rows_in", defArgs s_rows_in, defBody s_rows_in, defScope s_rows_in, [], []⟩
def d_fits_row : He.DefD := ⟨("fits_row", none), "fits_row", "fits_row", defArgs s_fits_row, defBody s_fits_row, defScope s_fits_row, [], []⟩
def d_is_instance_of : He.DefD := ⟨("is_instance_of", none), "is_instance_of", "is_instance_of", defArgs s_is_instance_of, defBody s_is_instance_of, defScope s_is_instance_of, [], []⟩
def d_is_instance : He.DefD := ⟨("is_instance", none), "is_instance", "is_instance", defArgs s_is_instance, defBody s_is_instance, defScope s_is_instance, [], []⟩
def d_law_pool : He.DefD := ⟨("_law_pool", none), "_law_pool", "_law_pool", defArgs s_law_pool, defBody s_law_pool, defScope s_law_pool, [], []⟩
def d_law_pick : He.DefD := ⟨("_law_pick", none), "_law_pick", "_law_pick", defArgs s_law_pick, defBody s_law_pick, defScope s_law_pick, [], []⟩
def d_law_wide : He.DefD := ⟨("_law_wide", none), "_law_wide", "_law_wide", defArgs s_law_wide, defBody s_law_wide, defScope s_law_wide, [], []⟩
def d_law_sort : He.DefD := ⟨("_law_sort", none), "_law_sort", "_law_sort", defArgs s_law_sort, defBody s_law_sort, defScope s_law_sort, [], []⟩
def d_law_same : He.DefD := ⟨("_law_same", none), "_law_same", "_law_same", defArgs s_law_same, defBody s_law_same, defScope s_law_same, [], []⟩
def d_law_name : He.DefD := ⟨("_law_name", none), "_law_name", "_law_name", defArgs s_law_name, defBody s_law_name, defScope s_law_name, [], []⟩
def d_law_number : He.DefD := ⟨("_law_number", none), "_law_number", "_law_number", defArgs s_law_number, defBody s_law_number, defScope s_law_number, [], []⟩
def d_law_row : He.DefD := ⟨("_law_row", none), "_law_row", "_law_row", defArgs s_law_row, defBody s_law_row, defScope s_law_row, [], []⟩
def d_law_node : He.DefD := ⟨("_law_node", none), "_law_node", "_law_node", defArgs s_law_node, defBody s_law_node, defScope s_law_node, [], []⟩
def d_law_nodes : He.DefD := ⟨("_law_nodes", none), "_law_nodes", "_law_nodes", defArgs s_law_nodes, defBody s_law_nodes, defScope s_law_nodes, [], []⟩
def d_law_right : He.DefD := ⟨("_law_right", none), "_law_right", "_law_right", defArgs s_law_right, defBody s_law_right, defScope s_law_right, [], []⟩
def d_law_bad_names : He.DefD := ⟨("_law_bad_names", none), "_law_bad_names", "_law_bad_names", defArgs s_law_bad_names, defBody s_law_bad_names, defScope s_law_bad_names, [], []⟩
def d_law_bad_rows : He.DefD := ⟨("_law_bad_rows", none), "_law_bad_rows", "_law_bad_rows", defArgs s_law_bad_rows, defBody s_law_bad_rows, defScope s_law_bad_rows, [], []⟩
def d_law_wrong : He.DefD := ⟨("_law_wrong", none), "_law_wrong", "_law_wrong", defArgs s_law_wrong, defBody s_law_wrong, defScope s_law_wrong, [], []⟩
def d_law_value : He.DefD := ⟨("_law_value", none), "_law_value", "_law_value", defArgs s_law_value, defBody s_law_value, defScope s_law_value, [], []⟩
def d_law_flag : He.DefD := ⟨("_law_flag", none), "_law_flag", "_law_flag", defArgs s_law_flag, defBody s_law_flag, defScope s_law_flag, [], []⟩
def d_law_changed : He.DefD := ⟨("_law_changed", none), "_law_changed", "_law_changed", defArgs s_law_changed, defBody s_law_changed, defScope s_law_changed, [], []⟩
def d_law_numbers : He.DefD := ⟨("_law_numbers", none), "_law_numbers", "_law_numbers", defArgs s_law_numbers, defBody s_law_numbers, defScope s_law_numbers, [], []⟩
def d_law_asked : He.DefD := ⟨("_law_asked", none), "_law_asked", "_law_asked", defArgs s_law_asked, defBody s_law_asked, defScope s_law_asked, [], []⟩
def d_law_barred : He.DefD := ⟨("_law_barred", none), "_law_barred", "_law_barred", defArgs s_law_barred, defBody s_law_barred, defScope s_law_barred, [], []⟩
def d_law : He.DefD := ⟨("law", none), "law", "law", defArgs s_law, defBody s_law, defScope s_law, [], []⟩
def fn : List He.DefD := [d_is_word_sign, d_is_name, d_is_small, d_is_great, d_is_number, d_is_flag, d_is_named, d_is_row, d_parts_of, d_is_kind, d_parts_of_kind, d_with_parts, d_table_of, d_reading_of, d_flag_at, d_words_in, d_rows_in, d_fits_row, d_is_instance_of, d_is_instance, d_law_pool, d_law_pick, d_law_wide, d_law_sort, d_law_same, d_law_name, d_law_number, d_law_row, d_law_node, d_law_nodes, d_law_right, d_law_bad_names, d_law_bad_rows, d_law_wrong, d_law_value, d_law_flag, d_law_changed, d_law_numbers, d_law_asked, d_law_barred, d_law]
def fa : List He.Fa := [.glo "is_word_sign", .glo "is_name", .glo "is_small", .glo "is_great", .glo "is_number", .glo "is_flag", .glo "is_named", .glo "is_row", .glo "parts_of", .glo "is_kind", .glo "parts_of_kind", .glo "with_parts", .glo "table_of", .glo "reading_of", .glo "flag_at", .glo "words_in", .glo "rows_in", .glo "fits_row", .glo "is_instance_of", .glo "is_instance", .glo "_law_pool", .glo "_law_pick", .glo "_law_wide", .glo "_law_sort", .glo "_law_same", .glo "_law_name", .glo "_law_number", .glo "_law_row", .glo "_law_node", .glo "_law_nodes", .glo "_law_right", .glo "_law_bad_names", .glo "_law_bad_rows", .glo "_law_wrong", .glo "_law_value", .glo "_law_flag", .glo "_law_changed", .glo "_law_numbers", .glo "_law_asked", .glo "_law_barred", .glo "law", .glo "HeardError", .glo "BadFiles", .glo "BadKind", .glo "BadState", .glo "WORDS", .glo "PLAIN", .int "MOST_NAME" 12, .free "all", .free "bool", .free "dict", .free "int", .free "isinstance", .free "len", .free "list", .free "min", .free "range", .free "sorted", .free "str", .free "tuple", .free "zip"]
/-- what the classes of errors say -/
def excB (K : PySem.W.Frag) (C : Addr) : Bool := PySem.W.excIn K C [.type "Exception", .type "BaseException", .type "object"] "Exception.__new__" && PySem.W.keepIn K (.ref C) && (PySem.W.subIn K (.ref C) (.type "BaseException") == some true) && (PySem.W.typeIn K (.ref C) == some (.type "type"))
def excG (K : PySem.W.Frag) (D : Addr) : Bool := (PySem.W.findIn K (.ref D) "__getattribute__" == some (some (.builtin "BaseException.__getattribute__"))) && (PySem.W.findIn K (.ref D) "__getattr__" == some none) && PySem.W.hasDictIn K D &&
  (PySem.W.findIn K (.ref D) "__class__" == some (some (.builtin "object.__class__"))) && (PySem.W.specialIn K (.builtin "object.__class__") "__get__" == some (some (.builtin "getset_descriptor.__get__"))) &&
  (PySem.W.takesIn K (.builtin "object.__class__") == some true) && (PySem.W.mroIn K D (.type "object") == some true)

def ex (K : PySem.W.Frag) : Bool := He.tupB K "WORDS" [.str "use", .str "data", .str "op", .str "let", .str "rec", .str "in", .str "fun", .str "if", .str "then", .str "else", .str "match", .str "with", .str "end", .str "handle", .str "return", .str "do", .str "true", .str "false", .str "int", .str "bool", .str "unit", .str "void"] && He.tupB K "PLAIN" [.str "int", .str "bool", .str "unit", .str "void"] && excB K (He.ga K "BadKind") && excG K (He.ga K "BadKind") && (PySem.W.exmOne K (.ref (He.ga K "BadKind")) (.ref (He.ga K "HeardError")) == some true) && (PySem.W.kitOne K (.ref (He.ga K "BadKind")) (.ref (He.ga K "BadFiles")) == some false) && (PySem.W.kitOne K (.ref (He.ga K "BadKind")) (.ref (He.ga K "BadKind")) == some true) && (PySem.W.kitOne K (.ref (He.ga K "BadKind")) (.ref (He.ga K "BadState")) == some false)
/-- what the top has written -/
structure Tx (K : PySem.W.Frag) (mg : Str → Option Value) : Prop where
  hin : ∃ h : Heap, K.In h ∧ h.Ns mainGlobals mg
  c : He.SaysD fa fn K
  more : ex K = true
section
variable {K : PySem.W.Frag} {mg : Str → Option Value}
theorem Tx.x_0 (T : Tx K mg) : (He.tupB K "WORDS" [.str "use", .str "data", .str "op", .str "let", .str "rec", .str "in", .str "fun", .str "if", .str "then", .str "else", .str "match", .str "with", .str "end", .str "handle", .str "return", .str "do", .str "true", .str "false", .str "int", .str "bool", .str "unit", .str "void"]) = true := (He.ba (He.ba (He.ba (He.ba (He.ba (He.ba (He.ba T.more).1).1).1).1).1).1).1
theorem Tx.x_1 (T : Tx K mg) : (He.tupB K "PLAIN" [.str "int", .str "bool", .str "unit", .str "void"]) = true := (He.ba (He.ba (He.ba (He.ba (He.ba (He.ba (He.ba T.more).1).1).1).1).1).1).2
theorem Tx.x_2 (T : Tx K mg) : (excB K (He.ga K "BadKind")) = true := (He.ba (He.ba (He.ba (He.ba (He.ba (He.ba T.more).1).1).1).1).1).2
theorem Tx.x_3 (T : Tx K mg) : (excG K (He.ga K "BadKind")) = true := (He.ba (He.ba (He.ba (He.ba (He.ba T.more).1).1).1).1).2
theorem Tx.x_4 (T : Tx K mg) : ((PySem.W.exmOne K (.ref (He.ga K "BadKind")) (.ref (He.ga K "HeardError")) == some true)) = true := (He.ba (He.ba (He.ba (He.ba T.more).1).1).1).2
theorem Tx.x_5 (T : Tx K mg) : ((PySem.W.kitOne K (.ref (He.ga K "BadKind")) (.ref (He.ga K "BadFiles")) == some false)) = true := (He.ba (He.ba (He.ba T.more).1).1).2
theorem Tx.x_6 (T : Tx K mg) : ((PySem.W.kitOne K (.ref (He.ga K "BadKind")) (.ref (He.ga K "BadKind")) == some true)) = true := (He.ba (He.ba T.more).1).2
theorem Tx.x_7 (T : Tx K mg) : ((PySem.W.kitOne K (.ref (He.ga K "BadKind")) (.ref (He.ga K "BadState")) == some false)) = true := (He.ba T.more).2
theorem Tx.m_is_word_sign (T : Tx K mg) : mg ("is_word_sign" : Str) = some (.ref (He.ga K "is_word_sign")) := let ⟨_, X, G⟩ := T.hin; He.glo_ok X G (T.c.fact 0 (f := .glo "is_word_sign") rfl)
theorem Tx.m_is_name (T : Tx K mg) : mg ("is_name" : Str) = some (.ref (He.ga K "is_name")) := let ⟨_, X, G⟩ := T.hin; He.glo_ok X G (T.c.fact 1 (f := .glo "is_name") rfl)
theorem Tx.m_is_small (T : Tx K mg) : mg ("is_small" : Str) = some (.ref (He.ga K "is_small")) := let ⟨_, X, G⟩ := T.hin; He.glo_ok X G (T.c.fact 2 (f := .glo "is_small") rfl)
theorem Tx.m_is_great (T : Tx K mg) : mg ("is_great" : Str) = some (.ref (He.ga K "is_great")) := let ⟨_, X, G⟩ := T.hin; He.glo_ok X G (T.c.fact 3 (f := .glo "is_great") rfl)
theorem Tx.m_is_number (T : Tx K mg) : mg ("is_number" : Str) = some (.ref (He.ga K "is_number")) := let ⟨_, X, G⟩ := T.hin; He.glo_ok X G (T.c.fact 4 (f := .glo "is_number") rfl)
theorem Tx.m_is_flag (T : Tx K mg) : mg ("is_flag" : Str) = some (.ref (He.ga K "is_flag")) := let ⟨_, X, G⟩ := T.hin; He.glo_ok X G (T.c.fact 5 (f := .glo "is_flag") rfl)
theorem Tx.m_is_named (T : Tx K mg) : mg ("is_named" : Str) = some (.ref (He.ga K "is_named")) := let ⟨_, X, G⟩ := T.hin; He.glo_ok X G (T.c.fact 6 (f := .glo "is_named") rfl)
theorem Tx.m_is_row (T : Tx K mg) : mg ("is_row" : Str) = some (.ref (He.ga K "is_row")) := let ⟨_, X, G⟩ := T.hin; He.glo_ok X G (T.c.fact 7 (f := .glo "is_row") rfl)
theorem Tx.m_parts_of (T : Tx K mg) : mg ("parts_of" : Str) = some (.ref (He.ga K "parts_of")) := let ⟨_, X, G⟩ := T.hin; He.glo_ok X G (T.c.fact 8 (f := .glo "parts_of") rfl)
theorem Tx.m_is_kind (T : Tx K mg) : mg ("is_kind" : Str) = some (.ref (He.ga K "is_kind")) := let ⟨_, X, G⟩ := T.hin; He.glo_ok X G (T.c.fact 9 (f := .glo "is_kind") rfl)
theorem Tx.m_parts_of_kind (T : Tx K mg) : mg ("parts_of_kind" : Str) = some (.ref (He.ga K "parts_of_kind")) := let ⟨_, X, G⟩ := T.hin; He.glo_ok X G (T.c.fact 10 (f := .glo "parts_of_kind") rfl)
theorem Tx.m_with_parts (T : Tx K mg) : mg ("with_parts" : Str) = some (.ref (He.ga K "with_parts")) := let ⟨_, X, G⟩ := T.hin; He.glo_ok X G (T.c.fact 11 (f := .glo "with_parts") rfl)
theorem Tx.m_table_of (T : Tx K mg) : mg ("table_of" : Str) = some (.ref (He.ga K "table_of")) := let ⟨_, X, G⟩ := T.hin; He.glo_ok X G (T.c.fact 12 (f := .glo "table_of") rfl)
theorem Tx.m_reading_of (T : Tx K mg) : mg ("reading_of" : Str) = some (.ref (He.ga K "reading_of")) := let ⟨_, X, G⟩ := T.hin; He.glo_ok X G (T.c.fact 13 (f := .glo "reading_of") rfl)
theorem Tx.m_flag_at (T : Tx K mg) : mg ("flag_at" : Str) = some (.ref (He.ga K "flag_at")) := let ⟨_, X, G⟩ := T.hin; He.glo_ok X G (T.c.fact 14 (f := .glo "flag_at") rfl)
theorem Tx.m_words_in (T : Tx K mg) : mg ("words_in" : Str) = some (.ref (He.ga K "words_in")) := let ⟨_, X, G⟩ := T.hin; He.glo_ok X G (T.c.fact 15 (f := .glo "words_in") rfl)
theorem Tx.m_rows_in (T : Tx K mg) : mg ("rows_in" : Str) = some (.ref (He.ga K "rows_in")) := let ⟨_, X, G⟩ := T.hin; He.glo_ok X G (T.c.fact 16 (f := .glo "rows_in") rfl)
theorem Tx.m_fits_row (T : Tx K mg) : mg ("fits_row" : Str) = some (.ref (He.ga K "fits_row")) := let ⟨_, X, G⟩ := T.hin; He.glo_ok X G (T.c.fact 17 (f := .glo "fits_row") rfl)
theorem Tx.m_is_instance_of (T : Tx K mg) : mg ("is_instance_of" : Str) = some (.ref (He.ga K "is_instance_of")) := let ⟨_, X, G⟩ := T.hin; He.glo_ok X G (T.c.fact 18 (f := .glo "is_instance_of") rfl)
theorem Tx.m_is_instance (T : Tx K mg) : mg ("is_instance" : Str) = some (.ref (He.ga K "is_instance")) := let ⟨_, X, G⟩ := T.hin; He.glo_ok X G (T.c.fact 19 (f := .glo "is_instance") rfl)
theorem Tx.m__law_pool (T : Tx K mg) : mg ("_law_pool" : Str) = some (.ref (He.ga K "_law_pool")) := let ⟨_, X, G⟩ := T.hin; He.glo_ok X G (T.c.fact 20 (f := .glo "_law_pool") rfl)
theorem Tx.m__law_pick (T : Tx K mg) : mg ("_law_pick" : Str) = some (.ref (He.ga K "_law_pick")) := let ⟨_, X, G⟩ := T.hin; He.glo_ok X G (T.c.fact 21 (f := .glo "_law_pick") rfl)
theorem Tx.m__law_wide (T : Tx K mg) : mg ("_law_wide" : Str) = some (.ref (He.ga K "_law_wide")) := let ⟨_, X, G⟩ := T.hin; He.glo_ok X G (T.c.fact 22 (f := .glo "_law_wide") rfl)
theorem Tx.m__law_sort (T : Tx K mg) : mg ("_law_sort" : Str) = some (.ref (He.ga K "_law_sort")) := let ⟨_, X, G⟩ := T.hin; He.glo_ok X G (T.c.fact 23 (f := .glo "_law_sort") rfl)
theorem Tx.m__law_same (T : Tx K mg) : mg ("_law_same" : Str) = some (.ref (He.ga K "_law_same")) := let ⟨_, X, G⟩ := T.hin; He.glo_ok X G (T.c.fact 24 (f := .glo "_law_same") rfl)
theorem Tx.m__law_name (T : Tx K mg) : mg ("_law_name" : Str) = some (.ref (He.ga K "_law_name")) := let ⟨_, X, G⟩ := T.hin; He.glo_ok X G (T.c.fact 25 (f := .glo "_law_name") rfl)
theorem Tx.m__law_number (T : Tx K mg) : mg ("_law_number" : Str) = some (.ref (He.ga K "_law_number")) := let ⟨_, X, G⟩ := T.hin; He.glo_ok X G (T.c.fact 26 (f := .glo "_law_number") rfl)
theorem Tx.m__law_row (T : Tx K mg) : mg ("_law_row" : Str) = some (.ref (He.ga K "_law_row")) := let ⟨_, X, G⟩ := T.hin; He.glo_ok X G (T.c.fact 27 (f := .glo "_law_row") rfl)
theorem Tx.m__law_node (T : Tx K mg) : mg ("_law_node" : Str) = some (.ref (He.ga K "_law_node")) := let ⟨_, X, G⟩ := T.hin; He.glo_ok X G (T.c.fact 28 (f := .glo "_law_node") rfl)
theorem Tx.m__law_nodes (T : Tx K mg) : mg ("_law_nodes" : Str) = some (.ref (He.ga K "_law_nodes")) := let ⟨_, X, G⟩ := T.hin; He.glo_ok X G (T.c.fact 29 (f := .glo "_law_nodes") rfl)
theorem Tx.m__law_right (T : Tx K mg) : mg ("_law_right" : Str) = some (.ref (He.ga K "_law_right")) := let ⟨_, X, G⟩ := T.hin; He.glo_ok X G (T.c.fact 30 (f := .glo "_law_right") rfl)
theorem Tx.m__law_bad_names (T : Tx K mg) : mg ("_law_bad_names" : Str) = some (.ref (He.ga K "_law_bad_names")) := let ⟨_, X, G⟩ := T.hin; He.glo_ok X G (T.c.fact 31 (f := .glo "_law_bad_names") rfl)
theorem Tx.m__law_bad_rows (T : Tx K mg) : mg ("_law_bad_rows" : Str) = some (.ref (He.ga K "_law_bad_rows")) := let ⟨_, X, G⟩ := T.hin; He.glo_ok X G (T.c.fact 32 (f := .glo "_law_bad_rows") rfl)
theorem Tx.m__law_wrong (T : Tx K mg) : mg ("_law_wrong" : Str) = some (.ref (He.ga K "_law_wrong")) := let ⟨_, X, G⟩ := T.hin; He.glo_ok X G (T.c.fact 33 (f := .glo "_law_wrong") rfl)
theorem Tx.m__law_value (T : Tx K mg) : mg ("_law_value" : Str) = some (.ref (He.ga K "_law_value")) := let ⟨_, X, G⟩ := T.hin; He.glo_ok X G (T.c.fact 34 (f := .glo "_law_value") rfl)
theorem Tx.m__law_flag (T : Tx K mg) : mg ("_law_flag" : Str) = some (.ref (He.ga K "_law_flag")) := let ⟨_, X, G⟩ := T.hin; He.glo_ok X G (T.c.fact 35 (f := .glo "_law_flag") rfl)
theorem Tx.m__law_changed (T : Tx K mg) : mg ("_law_changed" : Str) = some (.ref (He.ga K "_law_changed")) := let ⟨_, X, G⟩ := T.hin; He.glo_ok X G (T.c.fact 36 (f := .glo "_law_changed") rfl)
theorem Tx.m__law_numbers (T : Tx K mg) : mg ("_law_numbers" : Str) = some (.ref (He.ga K "_law_numbers")) := let ⟨_, X, G⟩ := T.hin; He.glo_ok X G (T.c.fact 37 (f := .glo "_law_numbers") rfl)
theorem Tx.m__law_asked (T : Tx K mg) : mg ("_law_asked" : Str) = some (.ref (He.ga K "_law_asked")) := let ⟨_, X, G⟩ := T.hin; He.glo_ok X G (T.c.fact 38 (f := .glo "_law_asked") rfl)
theorem Tx.m__law_barred (T : Tx K mg) : mg ("_law_barred" : Str) = some (.ref (He.ga K "_law_barred")) := let ⟨_, X, G⟩ := T.hin; He.glo_ok X G (T.c.fact 39 (f := .glo "_law_barred") rfl)
theorem Tx.m_law (T : Tx K mg) : mg ("law" : Str) = some (.ref (He.ga K "law")) := let ⟨_, X, G⟩ := T.hin; He.glo_ok X G (T.c.fact 40 (f := .glo "law") rfl)
theorem Tx.m_HeardError (T : Tx K mg) : mg ("HeardError" : Str) = some (.ref (He.ga K "HeardError")) := let ⟨_, X, G⟩ := T.hin; He.glo_ok X G (T.c.fact 41 (f := .glo "HeardError") rfl)
theorem Tx.m_BadFiles (T : Tx K mg) : mg ("BadFiles" : Str) = some (.ref (He.ga K "BadFiles")) := let ⟨_, X, G⟩ := T.hin; He.glo_ok X G (T.c.fact 42 (f := .glo "BadFiles") rfl)
theorem Tx.m_BadKind (T : Tx K mg) : mg ("BadKind" : Str) = some (.ref (He.ga K "BadKind")) := let ⟨_, X, G⟩ := T.hin; He.glo_ok X G (T.c.fact 43 (f := .glo "BadKind") rfl)
theorem Tx.m_BadState (T : Tx K mg) : mg ("BadState" : Str) = some (.ref (He.ga K "BadState")) := let ⟨_, X, G⟩ := T.hin; He.glo_ok X G (T.c.fact 44 (f := .glo "BadState") rfl)
theorem Tx.m_WORDS (T : Tx K mg) : mg ("WORDS" : Str) = some (.ref (He.ga K "WORDS")) := let ⟨_, X, G⟩ := T.hin; He.glo_ok X G (T.c.fact 45 (f := .glo "WORDS") rfl)
theorem Tx.m_PLAIN (T : Tx K mg) : mg ("PLAIN" : Str) = some (.ref (He.ga K "PLAIN")) := let ⟨_, X, G⟩ := T.hin; He.glo_ok X G (T.c.fact 46 (f := .glo "PLAIN") rfl)
theorem Tx.m_MOST_NAME (T : Tx K mg) : ∃ t, mg ("MOST_NAME" : Str) = some (.int 12 t) := let ⟨_, X, G⟩ := T.hin; He.int_ok X G (T.c.fact 47 (f := .int "MOST_NAME" 12) rfl)
theorem Tx.n_all (T : Tx K mg) : mg ("all" : Str) = none := let ⟨_, X, G⟩ := T.hin; He.free_ok X G (T.c.fact 48 (f := .free "all") rfl)
theorem Tx.n_bool (T : Tx K mg) : mg ("bool" : Str) = none := let ⟨_, X, G⟩ := T.hin; He.free_ok X G (T.c.fact 49 (f := .free "bool") rfl)
theorem Tx.n_dict (T : Tx K mg) : mg ("dict" : Str) = none := let ⟨_, X, G⟩ := T.hin; He.free_ok X G (T.c.fact 50 (f := .free "dict") rfl)
theorem Tx.n_int (T : Tx K mg) : mg ("int" : Str) = none := let ⟨_, X, G⟩ := T.hin; He.free_ok X G (T.c.fact 51 (f := .free "int") rfl)
theorem Tx.n_isinstance (T : Tx K mg) : mg ("isinstance" : Str) = none := let ⟨_, X, G⟩ := T.hin; He.free_ok X G (T.c.fact 52 (f := .free "isinstance") rfl)
theorem Tx.n_len (T : Tx K mg) : mg ("len" : Str) = none := let ⟨_, X, G⟩ := T.hin; He.free_ok X G (T.c.fact 53 (f := .free "len") rfl)
theorem Tx.n_list (T : Tx K mg) : mg ("list" : Str) = none := let ⟨_, X, G⟩ := T.hin; He.free_ok X G (T.c.fact 54 (f := .free "list") rfl)
theorem Tx.n_min (T : Tx K mg) : mg ("min" : Str) = none := let ⟨_, X, G⟩ := T.hin; He.free_ok X G (T.c.fact 55 (f := .free "min") rfl)
theorem Tx.n_range (T : Tx K mg) : mg ("range" : Str) = none := let ⟨_, X, G⟩ := T.hin; He.free_ok X G (T.c.fact 56 (f := .free "range") rfl)
theorem Tx.n_sorted (T : Tx K mg) : mg ("sorted" : Str) = none := let ⟨_, X, G⟩ := T.hin; He.free_ok X G (T.c.fact 57 (f := .free "sorted") rfl)
theorem Tx.n_str (T : Tx K mg) : mg ("str" : Str) = none := let ⟨_, X, G⟩ := T.hin; He.free_ok X G (T.c.fact 58 (f := .free "str") rfl)
theorem Tx.n_tuple (T : Tx K mg) : mg ("tuple" : Str) = none := let ⟨_, X, G⟩ := T.hin; He.free_ok X G (T.c.fact 59 (f := .free "tuple") rfl)
theorem Tx.n_zip (T : Tx K mg) : mg ("zip" : Str) = none := let ⟨_, X, G⟩ := T.hin; He.free_ok X G (T.c.fact 60 (f := .free "zip") rfl)
theorem Tx.f_is_word_sign (T : Tx K mg) : ∃ fd, FunD K "is_word_sign" "is_word_sign" (defArgs s_is_word_sign) (defBody s_is_word_sign) (defScope s_is_word_sign) [] [] (He.ga K "is_word_sign") fd := T.c.def_ 0 (d := d_is_word_sign) rfl
theorem Tx.f_is_name (T : Tx K mg) : ∃ fd, FunD K "is_name" "is_name" (defArgs s_is_name) (defBody s_is_name) (defScope s_is_name) [] [] (He.ga K "is_name") fd := T.c.def_ 1 (d := d_is_name) rfl
theorem Tx.f_is_small (T : Tx K mg) : ∃ fd, FunD K "is_small" "is_small" (defArgs s_is_small) (defBody s_is_small) (defScope s_is_small) [] [] (He.ga K "is_small") fd := T.c.def_ 2 (d := d_is_small) rfl
theorem Tx.f_is_great (T : Tx K mg) : ∃ fd, FunD K "is_great" "is_great" (defArgs s_is_great) (defBody s_is_great) (defScope s_is_great) [] [] (He.ga K "is_great") fd := T.c.def_ 3 (d := d_is_great) rfl
theorem Tx.f_is_number (T : Tx K mg) : ∃ fd, FunD K "is_number" "is_number" (defArgs s_is_number) (defBody s_is_number) (defScope s_is_number) [] [] (He.ga K "is_number") fd := T.c.def_ 4 (d := d_is_number) rfl
theorem Tx.f_is_flag (T : Tx K mg) : ∃ fd, FunD K "is_flag" "is_flag" (defArgs s_is_flag) (defBody s_is_flag) (defScope s_is_flag) [] [] (He.ga K "is_flag") fd := T.c.def_ 5 (d := d_is_flag) rfl
theorem Tx.f_is_named (T : Tx K mg) : ∃ fd, FunD K "is_named" "is_named" (defArgs s_is_named) (defBody s_is_named) (defScope s_is_named) [] [] (He.ga K "is_named") fd := T.c.def_ 6 (d := d_is_named) rfl
theorem Tx.f_is_row (T : Tx K mg) : ∃ fd, FunD K "is_row" "is_row" (defArgs s_is_row) (defBody s_is_row) (defScope s_is_row) [] [] (He.ga K "is_row") fd := T.c.def_ 7 (d := d_is_row) rfl
theorem Tx.f_parts_of (T : Tx K mg) : ∃ fd, FunD K "parts_of" "parts_of" (defArgs s_parts_of) (defBody s_parts_of) (defScope s_parts_of) [] [] (He.ga K "parts_of") fd := T.c.def_ 8 (d := d_parts_of) rfl
theorem Tx.f_is_kind (T : Tx K mg) : ∃ fd, FunD K "is_kind" "is_kind" (defArgs s_is_kind) (defBody s_is_kind) (defScope s_is_kind) [] [] (He.ga K "is_kind") fd := T.c.def_ 9 (d := d_is_kind) rfl
theorem Tx.f_parts_of_kind (T : Tx K mg) : ∃ fd, FunD K "parts_of_kind" "parts_of_kind" (defArgs s_parts_of_kind) (defBody s_parts_of_kind) (defScope s_parts_of_kind) [] [] (He.ga K "parts_of_kind") fd := T.c.def_ 10 (d := d_parts_of_kind) rfl
theorem Tx.f_with_parts (T : Tx K mg) : ∃ fd, FunD K "with_parts" "with_parts" (defArgs s_with_parts) (defBody s_with_parts) (defScope s_with_parts) [] [] (He.ga K "with_parts") fd := T.c.def_ 11 (d := d_with_parts) rfl
theorem Tx.f_table_of (T : Tx K mg) : ∃ fd, FunD K "table_of" "table_of" (defArgs s_table_of) (defBody s_table_of) (defScope s_table_of) [] [] (He.ga K "table_of") fd := T.c.def_ 12 (d := d_table_of) rfl
theorem Tx.f_reading_of (T : Tx K mg) : ∃ fd, FunD K "reading_of" "reading_of" (defArgs s_reading_of) (defBody s_reading_of) (defScope s_reading_of) [] [] (He.ga K "reading_of") fd := T.c.def_ 13 (d := d_reading_of) rfl
theorem Tx.f_flag_at (T : Tx K mg) : ∃ fd, FunD K "flag_at" "flag_at" (defArgs s_flag_at) (defBody s_flag_at) (defScope s_flag_at) [] [] (He.ga K "flag_at") fd := T.c.def_ 14 (d := d_flag_at) rfl
theorem Tx.f_words_in (T : Tx K mg) : ∃ fd, FunD K "words_in" "words_in" (defArgs s_words_in) (defBody s_words_in) (defScope s_words_in) [] [] (He.ga K "words_in") fd := T.c.def_ 15 (d := d_words_in) rfl
theorem Tx.f_rows_in (T : Tx K mg) : ∃ fd, FunD K "rows_in" "rows_in" (defArgs s_rows_in) (defBody s_rows_in) (defScope s_rows_in) [] [] (He.ga K "rows_in") fd := T.c.def_ 16 (d := d_rows_in) rfl
theorem Tx.f_fits_row (T : Tx K mg) : ∃ fd, FunD K "fits_row" "fits_row" (defArgs s_fits_row) (defBody s_fits_row) (defScope s_fits_row) [] [] (He.ga K "fits_row") fd := T.c.def_ 17 (d := d_fits_row) rfl
theorem Tx.f_is_instance_of (T : Tx K mg) : ∃ fd, FunD K "is_instance_of" "is_instance_of" (defArgs s_is_instance_of) (defBody s_is_instance_of) (defScope s_is_instance_of) [] [] (He.ga K "is_instance_of") fd := T.c.def_ 18 (d := d_is_instance_of) rfl
theorem Tx.f_is_instance (T : Tx K mg) : ∃ fd, FunD K "is_instance" "is_instance" (defArgs s_is_instance) (defBody s_is_instance) (defScope s_is_instance) [] [] (He.ga K "is_instance") fd := T.c.def_ 19 (d := d_is_instance) rfl
theorem Tx.f__law_pool (T : Tx K mg) : ∃ fd, FunD K "_law_pool" "_law_pool" (defArgs s_law_pool) (defBody s_law_pool) (defScope s_law_pool) [] [] (He.ga K "_law_pool") fd := T.c.def_ 20 (d := d_law_pool) rfl
theorem Tx.f__law_pick (T : Tx K mg) : ∃ fd, FunD K "_law_pick" "_law_pick" (defArgs s_law_pick) (defBody s_law_pick) (defScope s_law_pick) [] [] (He.ga K "_law_pick") fd := T.c.def_ 21 (d := d_law_pick) rfl
theorem Tx.f__law_wide (T : Tx K mg) : ∃ fd, FunD K "_law_wide" "_law_wide" (defArgs s_law_wide) (defBody s_law_wide) (defScope s_law_wide) [] [] (He.ga K "_law_wide") fd := T.c.def_ 22 (d := d_law_wide) rfl
theorem Tx.f__law_sort (T : Tx K mg) : ∃ fd, FunD K "_law_sort" "_law_sort" (defArgs s_law_sort) (defBody s_law_sort) (defScope s_law_sort) [] [] (He.ga K "_law_sort") fd := T.c.def_ 23 (d := d_law_sort) rfl
theorem Tx.f__law_same (T : Tx K mg) : ∃ fd, FunD K "_law_same" "_law_same" (defArgs s_law_same) (defBody s_law_same) (defScope s_law_same) [] [] (He.ga K "_law_same") fd := T.c.def_ 24 (d := d_law_same) rfl
theorem Tx.f__law_name (T : Tx K mg) : ∃ fd, FunD K "_law_name" "_law_name" (defArgs s_law_name) (defBody s_law_name) (defScope s_law_name) [] [] (He.ga K "_law_name") fd := T.c.def_ 25 (d := d_law_name) rfl
theorem Tx.f__law_number (T : Tx K mg) : ∃ fd, FunD K "_law_number" "_law_number" (defArgs s_law_number) (defBody s_law_number) (defScope s_law_number) [] [] (He.ga K "_law_number") fd := T.c.def_ 26 (d := d_law_number) rfl
theorem Tx.f__law_row (T : Tx K mg) : ∃ fd, FunD K "_law_row" "_law_row" (defArgs s_law_row) (defBody s_law_row) (defScope s_law_row) [] [] (He.ga K "_law_row") fd := T.c.def_ 27 (d := d_law_row) rfl
theorem Tx.f__law_node (T : Tx K mg) : ∃ fd, FunD K "_law_node" "_law_node" (defArgs s_law_node) (defBody s_law_node) (defScope s_law_node) [] [] (He.ga K "_law_node") fd := T.c.def_ 28 (d := d_law_node) rfl
theorem Tx.f__law_nodes (T : Tx K mg) : ∃ fd, FunD K "_law_nodes" "_law_nodes" (defArgs s_law_nodes) (defBody s_law_nodes) (defScope s_law_nodes) [] [] (He.ga K "_law_nodes") fd := T.c.def_ 29 (d := d_law_nodes) rfl
theorem Tx.f__law_right (T : Tx K mg) : ∃ fd, FunD K "_law_right" "_law_right" (defArgs s_law_right) (defBody s_law_right) (defScope s_law_right) [] [] (He.ga K "_law_right") fd := T.c.def_ 30 (d := d_law_right) rfl
theorem Tx.f__law_bad_names (T : Tx K mg) : ∃ fd, FunD K "_law_bad_names" "_law_bad_names" (defArgs s_law_bad_names) (defBody s_law_bad_names) (defScope s_law_bad_names) [] [] (He.ga K "_law_bad_names") fd := T.c.def_ 31 (d := d_law_bad_names) rfl
theorem Tx.f__law_bad_rows (T : Tx K mg) : ∃ fd, FunD K "_law_bad_rows" "_law_bad_rows" (defArgs s_law_bad_rows) (defBody s_law_bad_rows) (defScope s_law_bad_rows) [] [] (He.ga K "_law_bad_rows") fd := T.c.def_ 32 (d := d_law_bad_rows) rfl
theorem Tx.f__law_wrong (T : Tx K mg) : ∃ fd, FunD K "_law_wrong" "_law_wrong" (defArgs s_law_wrong) (defBody s_law_wrong) (defScope s_law_wrong) [] [] (He.ga K "_law_wrong") fd := T.c.def_ 33 (d := d_law_wrong) rfl
theorem Tx.f__law_value (T : Tx K mg) : ∃ fd, FunD K "_law_value" "_law_value" (defArgs s_law_value) (defBody s_law_value) (defScope s_law_value) [] [] (He.ga K "_law_value") fd := T.c.def_ 34 (d := d_law_value) rfl
theorem Tx.f__law_flag (T : Tx K mg) : ∃ fd, FunD K "_law_flag" "_law_flag" (defArgs s_law_flag) (defBody s_law_flag) (defScope s_law_flag) [] [] (He.ga K "_law_flag") fd := T.c.def_ 35 (d := d_law_flag) rfl
theorem Tx.f__law_changed (T : Tx K mg) : ∃ fd, FunD K "_law_changed" "_law_changed" (defArgs s_law_changed) (defBody s_law_changed) (defScope s_law_changed) [] [] (He.ga K "_law_changed") fd := T.c.def_ 36 (d := d_law_changed) rfl
theorem Tx.f__law_numbers (T : Tx K mg) : ∃ fd, FunD K "_law_numbers" "_law_numbers" (defArgs s_law_numbers) (defBody s_law_numbers) (defScope s_law_numbers) [] [] (He.ga K "_law_numbers") fd := T.c.def_ 37 (d := d_law_numbers) rfl
theorem Tx.f__law_asked (T : Tx K mg) : ∃ fd, FunD K "_law_asked" "_law_asked" (defArgs s_law_asked) (defBody s_law_asked) (defScope s_law_asked) [] [] (He.ga K "_law_asked") fd := T.c.def_ 38 (d := d_law_asked) rfl
theorem Tx.f__law_barred (T : Tx K mg) : ∃ fd, FunD K "_law_barred" "_law_barred" (defArgs s_law_barred) (defBody s_law_barred) (defScope s_law_barred) [] [] (He.ga K "_law_barred") fd := T.c.def_ 39 (d := d_law_barred) rfl
theorem Tx.f_law (T : Tx K mg) : ∃ fd, FunD K "law" "law" (defArgs s_law) (defBody s_law) (defScope s_law) [] [] (He.ga K "law") fd := T.c.def_ 40 (d := d_law) rfl
end
abbrev R : PySem.W.OpenRow := PySem.W.OpenLaw.row PySem.Challenge.rw_heardwhole_k18_kinds_and_what_is_none
abbrev hk : PySem.W.Hook := He.hookX 4 fa fn [] [] ex
def ob (s : PySem.W.SharedT) : He.AlX := He.obsX 4 fa fn [] [] ex (HandSHeadRun.getT s)
theorem ob_eq (s : PySem.W.SharedT) : ob s = hk.obs s.abs := He.obsX_eq (HandSHeadRun.getT_eq s)
def names : List PySem.Str := (["is_word_sign", "is_name", "is_small", "is_great", "is_number", "is_flag", "is_named", "is_row", "parts_of", "is_kind", "parts_of_kind", "with_parts", "table_of", "reading_of", "flag_at", "words_in", "rows_in", "fits_row", "is_instance_of", "is_instance", "_law_pool", "_law_pick", "_law_wide", "_law_sort", "_law_same", "_law_name", "_law_number", "_law_row", "_law_node", "_law_nodes"] : List PySem.Str) ++ (["_law_right", "_law_bad_names", "_law_bad_rows", "_law_wrong", "_law_value", "_law_flag", "_law_changed", "_law_numbers", "_law_asked", "_law_barred", "HeardError", "BadFiles", "BadKind", "BadState", "WORDS", "MOST_NAME", "PLAIN"] : List PySem.Str)
theorem run (w : World) : HandSHeadRun.RunEq R (PySem.W.view R.prog [53]) hk ob 4000 names w := by
  intro os
  kernel_rfl
end K18
set_option maxHeartbeats 4000000
/-! Sets of texts that are made, grown and sorted; a set comprehension with two clauses. -/
namespace Kd
open PySem PySem.Spec PyProof.Rows L2 PySem.Froz
/-- the set at a holds the texts l -/
def SetS (P : Program) (w : World) (h : Heap) (a : Addr) (l : List Str) : Prop := ∃ D : SD, h.get? a = some (sObj "set" D) ∧ TxOk P w D l ∧ Ris D.2.2.place.toList ∧ (w.params.followText "set-order" = true ∨ D.2.2.led = true)
def insS (k : Str) (l : List Str) : List Str := if k ∈ l then l else k :: l
theorem mem_insS {k j : Str} {l : List Str} : j ∈ insS k l ↔ j = k ∨ j ∈ l := by
  unfold insS
  by_cases h : k ∈ l
  · rw [if_pos h]
    exact ⟨.inr, fun q => q.elim (fun e => e ▸ h) id⟩
  · rw [if_neg h]
    exact List.mem_cons
theorem nodup_insS {k : Str} {l : List Str} (h : l.Nodup) : (insS k l).Nodup := by
  unfold insS
  by_cases q : k ∈ l
  · rwa [if_pos q]
  · rw [if_neg q]
    exact List.nodup_cons.mpr ⟨q, h⟩
def SetSO (P : Program) (w : World) (a : Addr) (l : List Str) : HO := .ext fun h => SetS P w h a l
section
variable {P : Program} {w : World} {A : Around} {E : Value → Shared → Prop} {s : Shared} {a : Addr} {l : List Str}
theorem setSO_ok {H : Hp} {h : Heap} (R : SetS P w h a l) : ObjOk P w H h a (SetSO P w a l) := by
  obtain ⟨D, ho, r⟩ := id R
  refine ⟨R, ⟨_, ho⟩, fun h1 h2 p k => ?_⟩
  obtain ⟨D', ho', r'⟩ := (p : SetS P w h1 a l)
  exact ⟨D', k _ ho', r'⟩
theorem fresh_setS (h : Heap) : SetS P w (h.push { cls := .type "set", dict := none, data := .set #[] 0 (.fresh 0 0 (!w.params.followText "set-order")) }) h.objs.size [] := by
  refine ⟨(#[], 0, .fresh 0 0 (!w.params.followText "set-order")), Heap.get?_push_size _ rfl, TxOk.nil rfl, List.Pairwise.nil, ?_⟩
  cases q : w.params.followText "set-order" with
  | true => exact .inl rfl
  | false => exact .inr rfl
theorem grown_rise {hs : Int} {v : Value} {D : SD} (r : Ris D.2.2.place.toList) : Ris (addTx hs v D).2.2.place.toList ∧ (addTx hs v D).2.2.led = D.2.2.led := by
  obtain ⟨es, ep, t⟩ := D
  have h1 := layNew_ris t es hs v r
  have h2 := layNew_led t es hs v
  unfold addTx tailTx
  dsimp only at h1 h2 ⊢
  generalize layNew t es hs v = Z at h1 h2 ⊢
  obtain ⟨es1, t1, wd, gv⟩ := Z
  dsimp only at h1 h2 ⊢
  have h3 : Ris (if t1.plain = true then { t1 with plain := false } else t1).place.toList ∧ (if t1.plain = true then { t1 with plain := false } else t1).led = t.led := by
    split
    · exact ⟨h1, h2⟩
    · exact ⟨h1, h2⟩
  generalize (if t1.plain = true then { t1 with plain := false } else t1) = t2 at h3 ⊢
  split
  · exact ⟨relayAll_ris t2 es1 _, (relayAll_led t2 es1 _).trans h3.2⟩
  · exact h3
theorem addHashed_setS {k : Str} {u : Tok} {Q : Bool → Shared → Prop} (R : SetS P w s.heap a l) (room : l.length + 1 < scanBound)
    (hQ : ∀ b h', Heap.SameBut a s.heap h' → SetS P w h' a (insS k l) → Q b { s with heap := h' }) : wpAny (model P w) A (setAddHashed a (.str k u) (hashStr w k)) Q E s := by
  obtain ⟨D, ho, F, r, hl⟩ := R
  by_cases hk : k ∈ l
  · obtain ⟨es, ep, t⟩ := D
    have hd : (sObj "set" (es, ep, t)).data = .set es ep t := rfl
    have hel : ElemsOf (strKind P w) es.toList := F.el
    have hsz : es.size = l.length := F.sz
    have hkey : (strKind P w).is k (.str k u) = true := is_str k u
    unfold setAddHashed setAddHashedIn
    refine wpAny_holding (wpAny_bind (wpAny_setState_of ho hd F.fit ?_))
    dsimp only
    rw [byScan_of rfl (by omega) hel]
    simp only [↓reduceIte]
    unfold setAddByScan
    refine wpAny_bind (wpAny_bind (wpAny_rule (wpAny_bind (wpAny_setScan_of (knd := strKind P w) (k := k) hkey ho hd F.fit hel ?_))))
    cases q : List.findIdx? (fun e => (strKind P w).is k e.2) es.toList with
    | none =>
      obtain ⟨e, he, z⟩ := (F.mem k).mp hk
      have c := List.findIdx?_eq_none_iff.mp q e he
      rw [z] at c
      cases c
    | some j =>
      dsimp only
      refine wpAny_pure (wpAny_pure ?_)
      refine hQ _ s.heap (Heap.SameBut.refl a s.heap) ?_
      unfold insS
      rw [if_pos hk]
      exact ⟨_, ho, F, r, hl⟩
  · refine add_x ho F hk room ?_
    refine hQ true _ (Heap.SameBut.update s.heap a _) ?_
    unfold insS
    rw [if_neg hk]
    have g := grown_rise (hs := hashStr w k) (v := .str k u) r
    refine ⟨_, get_upd _ ho rfl, add_ok u F, g.1, ?_⟩
    rw [g.2]
    exact hl
theorem add_setS {k : Str} {u : Tok} {Q : Value → Shared → Prop} (R : SetS P w s.heap a l) (room : l.length + 1 < scanBound)
    (hQ : ∀ h', Heap.SameBut a s.heap h' → SetS P w h' a (insS k l) → Q .none { s with heap := h', toks := s.toks + 1 }) : wpAny (model P w) A (call (.builtin "set.add") [.ref a, .str k u]) Q E s := by
  obtain ⟨D, ho, _⟩ := id R
  refine wpAny_call_entry F.slot_set_add (⟨_, ho, rfl⟩ : s.TypeIs (.ref a) "set") F.entry_set_add ?_ (F.args_set_add_2 _ _)
  unfold Builtin.«set.add» Builtin.Frozenset.oneOther
  simp only [List.isEmpty_nil, bind_assoc]
  unfold Builtin.Frozenset.addrOf setAdd
  refine wpAny_bind (wpAny_pure ?_)
  (try dsimp only); refine wpAny_bind (wpAny_pure ?_)
  (try dsimp only); refine wpAny_bind (wpAny_holding (wpAny_bind ((strKind P w).pyHash (is_str k u) ?_)))
  refine addHashed_setS (s := { s with toks := s.toks + 1 }) R room fun b h' sb r => ?_
  show wpAny _ _ (ret Value.none) _ _ _
  exact wpAny_pure ⟨_, rfl, hQ h' sb r⟩
/-- the texts of the members -/
theorem strs_sub {es : List (Int × Value)} {out : List Value} (g : ElemsOf (strKind P w) es) (p : out.Perm (es.map (·.2))) : StrsAre out (out.map strOf) := by
  refine strsAre_map out fun v hv => ?_
  obtain ⟨e, he, q⟩ := List.mem_map.mp (p.mem_iff.mp hv)
  obtain ⟨⟨k, hk, _⟩, _⟩ := g e he
  rw [q] at hk
  have hk : Value.isStrOf k v = true := hk
  cases v <;> first | exact ⟨_, _, rfl⟩ | exact absurd hk Bool.false_ne_true
theorem sorted_setS {Q : Value → Shared → Prop} (R : SetS P w s.heap a l) (hh : A.handled = none) (hb : l.length < scanBound)
    (hQ : ∀ s' p (out : Array Value) (c : Nat) (ys : List Str), (∀ b o, s.heap.get? b = some o → s'.heap.get? b = some o) → s'.gens = s.gens → s'.os = s.os → s.heap.objs.size ≤ p →
      s'.heap.get? p = some (seqObj "list" out c) → StrsAre out.toList ys → (∀ k, k ∈ ys ↔ k ∈ l) → ys.length = l.length → Q (.ref p) s') : wpAny (model P w) A (call (.builtin "sorted") [.ref a]) Q E s := by
  obtain ⟨⟨es, ep, t⟩, ho, F, r, hl⟩ := R
  have hsz : es.size = l.length := F.sz
  refine Calls.call_function_entry kind_sorted plain_sorted entry_sorted (args_sorted1 _) ?_
  unfold Builtin.«sorted»
  refine wpAny_bind (m := checkCount "sorted" 1 1 _) (wpAny_pure (wpAny_bind (collect_set (A := A.in1) hh ⟨_, ho, rfl, rfl⟩ F.fit (show es.size < scanBound by rw [hsz]; exact hb) r hl fun s1 vs k1 hz g1 o1 pm => ?_)))
  have hvl : vs.length = l.length := by rw [pm.length_eq, List.length_map, Array.length_toList]; exact hsz
  have hS : StrsAre vs (vs.map strOf) := strs_sub F.el pm
  have hlen : vs.length ≤ sizeLine := by rw [hvl]; exact Nat.le_trans (Nat.le_of_lt hb) (by decide)
  refine wpAny_bind (wpAny_newList ?_ hlen)
  have hoL : (s1.heap.push (seqObj "list" vs.toArray 0)).get? s1.heap.objs.size = some (seqObj "list" vs.toArray 0) := Heap.get?_push_size _ rfl
  refine wpAny_bind (wpAny_holding (wpAny_call_entry slot_list_sort ⟨_, hoL, rfl⟩ entry_list_sort (list_sort_treeKAny strKind_oneLt hoL hS.keysOf (fun v1 v2 rest e => keyKind_strs (by rw [← e]; exact hS)) hlen fun st' a1 a2 => ⟨_, rfl, ?_⟩) (args_list_sort _)))
  obtain ⟨ys, b1, b2, _⟩ := sorted_out_str hS a1 a2
  obtain ⟨c, hc⟩ := sortedHeap_at (vs := vs) (out := (arrOf st').map (·.2)) hoL
  refine wpAny_pure ⟨_, rfl, hQ _ s1.heap.objs.size _ c ys (fun b u e => ?_) g1 o1 hz hc b1 (fun k => ?_) ?_⟩
  · have q := k1 b u e
    have hlt := Heap.lt_size q
    show (sortedHeap (s1.heap.push (seqObj "list" vs.toArray 0)) s1.heap.objs.size vs _).get? b = some u
    rw [sortedHeap_old (Nat.ne_of_lt hlt) (by rw [size_push']; exact Nat.lt_succ_of_lt hlt)]
    exact Heap.get?_push_of_some _ q
  · rw [b2.mem_iff, F.mem k, List.mem_map]
    constructor
    · rintro ⟨v, hv, rfl⟩
      obtain ⟨e, he, q⟩ := List.mem_map.mp (pm.mem_iff.mp hv)
      refine ⟨e, he, ?_⟩
      obtain ⟨⟨k, hk, _⟩, _⟩ := F.el e he
      have hk : Value.isStrOf k e.2 = true := hk
      rw [← q]
      cases hv2 : e.2 <;> rw [hv2] at hk <;> first | exact is_str _ _ | exact absurd hk Bool.false_ne_true
    · rintro ⟨e, he, q⟩
      refine ⟨e.2, pm.mem_iff.mpr (List.mem_map.mpr ⟨e, he, rfl⟩), ?_⟩
      have q : Value.isStrOf k e.2 = true := q
      cases hv2 : e.2 <;> rw [hv2] at q <;> first | exact absurd q Bool.false_ne_true | skip
      simpa [Value.isStrOf, strOf] using q
  · rw [b2.length_eq, List.length_map, hvl]
end
section
variable {X : Cx}
/-- sorted(a set of texts) -/
def rSortS (P : Program) (w : World) : List V → Hp → VK → Prop := fun vs H Q => ∃ (a : Addr) (l : List Str), vs = [V.ref a] ∧ H a = some (SetSO P w a l) ∧ l.length < scanBound ∧
  ∀ (ys : List Str) (p : Addr), (∀ k, k ∈ ys ↔ k ∈ l) → ys.length = l.length → H p = none → Q (.ref p) (upd H p (.lst (ys.map V.str)))
theorem cr_sortS (hc : X.calm = true) : CallR X (.builtin "sorted") (rSortS X.prog X.w) := by
  intro pins s σ H vs us Q I r h
  obtain ⟨a, l, rfl, ha, hb, q⟩ := h
  have R : SetS X.prog X.w s.heap a l := (I.hok a _ ha).1
  rw [Vals.ref1 r]
  refine sorted_setS R (I.ok.hd hc) hb fun s' p out c ys k g o hp hg hi hm hl => ?_
  have hlen : (ys.map V.str).length ≤ sizeLine := by rw [List.length_map, hl]; exact Nat.le_trans (Nat.le_of_lt hb) (by decide)
  have hn : H p = none := I.hok.fresh hp
  have J : Inv X pins σ (upd H p (.lst (ys.map V.str))) { s with heap := s'.heap, gens := s'.gens, drawn := s'.drawn, toks := s'.toks } :=
    I.call (ch := []) (Un.laid k hp hn) (I.hok.laid k hp ⟨hlen, out.toList, c, vals_of_strs hi, hg⟩) (by rw [g]; exact I.bare) (fun _ z => nomatch z)
  have e : s' = { s with heap := s'.heap, gens := s'.gens, drawn := s'.drawn, toks := s'.toks } := by
    cases s'; cases s; cases o; rfl
  rw [e]
  exact ⟨.ref p, _, J, rfl, q ys p hm hl hn⟩
theorem grow_ok {pins : List (Addr × Obj)} {σ : L2.St} {H : Hp} {s : Shared} {E : Value → Shared → Prop} {D : Addr} {l : List Str} {y : V} {z : Str} {v : Value} {Q : Value → Shared → Prop} (I : Inv X pins σ H s) (hD : H D = some (SetSO X.prog X.w D l)) (room : l.length + 1 < scanBound) (r : RelV (.str z) v)
    (h : ∀ s', Inv X pins σ (upd H D (SetSO X.prog X.w D (insS z l))) s' → Q .none s') : wpAny (model X.prog X.w) X.A (call (.builtin "set.add") [.ref D, v]) Q E s := by
  obtain ⟨tk, rfl⟩ := r
  have R : SetS X.prog X.w s.heap D l := (I.hok D _ hD).1
  refine add_setS R room fun h' sb new => ?_
  have he : ∃ u, h'.get? D = some u := let ⟨_, ho, _⟩ := new; ⟨_, ho⟩
  exact h _ (I.write (e := D) (t' := s.toks + 1) (by rw [hD]; trivial) (.inl rfl) (fun b u hb hu => (sb.2 b hb).trans hu) he (setSO_ok new))
end

theorem scTurn_out (elt t0 i0 t1 i1 : Expr) (ifs0 ifs1 : List Expr) (sc : Scope) (pos : Pos) (it acc : Value) (env : Env) :
    compTurn (.SetComp elt [⟨t0, i0, ifs0, 0⟩, ⟨t1, i1, ifs1, 0⟩] sc pos) 0 it acc env = (do
      standAt i0.pos
      match ← pyNext it with
      | none => pure (.done .next)
      | some v =>
        letOwnedTupleGo t0 it v
        assign t0 env v
        let mut ok := true
        for c in ifs0 do
          if ok then ok ← isTrue c env (eval c env)
        if ok then
          let x ← eval i1 env
          standAt i1.pos
          let x ← foldedSetIterable i1 env x
          let _ ← runOwn (.compStart (.SetComp elt [⟨t0, i0, ifs0, 0⟩, ⟨t1, i1, ifs1, 0⟩] sc pos) 1 (← holding [x] (pyIter x)) acc env) env
        again (.compLoop (.SetComp elt [⟨t0, i0, ifs0, 0⟩, ⟨t1, i1, ifs1, 0⟩] sc pos) 0 it acc env)) := by rfl
theorem scTurn_in (elt t0 i0 t1 i1 : Expr) (ifs0 ifs1 : List Expr) (sc : Scope) (pos : Pos) (it acc : Value) (env : Env) :
    compTurn (.SetComp elt [⟨t0, i0, ifs0, 0⟩, ⟨t1, i1, ifs1, 0⟩] sc pos) 1 it acc env = (do
      standAt i1.pos
      match ← pyNext it with
      | none => pure (.done .next)
      | some v =>
        letOwnedTupleGo t1 it v
        assign t1 env v
        let mut ok := true
        for c in ifs1 do
          if ok then ok ← isTrue c env (eval c env)
        if ok then
          (do let v ← eval elt env; standAt elt.pos; let _ ← call (.builtin "set.add") [acc, v])
        again (.compLoop (.SetComp elt [⟨t0, i0, ifs0, 0⟩, ⟨t1, i1, ifs1, 0⟩] sc pos) 1 it acc env)) := by rfl

section
variable {prog : Program} {w : World} {A : Around} {R : Result → Shared → Prop} {s : Shared} {elt t0 i0 t1 i1 : Expr} {ifs0 ifs1 : List Expr} {sc : Scope} {pos : Pos} {it acc : Value} {env : Env}
theorem scLoop_out (hs : ∀ x, foldedSetIterable i1 env x = pure x) (I : Nat → Shared → Prop)
    (trn : ∀ n s, I n s → wpAny (model prog w) A (pyNext it) (fun r s₁ => match r with
      | none => R (.ok .next) s₁
      | some v => wpAny (model prog w) A (letOwnedTupleGo t0 it v) (fun _ s₁' => wpAny (model prog w) A (assign t0 env v) (fun _ s₂ =>
          wpAny (model prog w) A (forIn ifs0 true fun c r => if r = true then do let ok ← isTrue c env (eval c env); pure (ForInStep.yield ok) else pure (ForInStep.yield r)) (fun ok s₃ =>
            if ok = true then wpAny (model prog w) A (eval i1 env) (fun x s₄ => wpAny (model prog w) A (pyIter x) (fun it1 s₅ =>
              codeAny (model prog w) A (.compStart (.SetComp elt [⟨t0, i0, ifs0, 0⟩, ⟨t1, i1, ifs1, 0⟩] sc pos) 1 it1 acc env) (fun r s' => match r with
                | .ok _ => ∃ m, m < n ∧ I m s'
                | .error _ => False) s₅) (notedBy (model prog w) A env fun e s' => R (.error e) s') s₄) (notedBy (model prog w) A env fun e s' => R (.error e) s') s₃
            else ∃ m, m < n ∧ I m s₃) (notedBy (model prog w) A env fun e s' => R (.error e) s') s₂) (notedBy (model prog w) A env fun e s' => R (.error e) s') s₁') (notedBy (model prog w) A env fun e s' => R (.error e) s') s₁) (notedBy (model prog w) A env fun e s' => R (.error e) s') s)
    (n : Nat) (h : I n s) :
    codeAny (model prog w) A (.compLoop (.SetComp elt [⟨t0, i0, ifs0, 0⟩, ⟨t1, i1, ifs1, 0⟩] sc pos) 0 it acc env) R s := by
  refine codeAny_loop rfl I (fun n s hI => ?_) n h
  show wpAny _ A ((compTurn (.SetComp elt [⟨t0, i0, ifs0, 0⟩, ⟨t1, i1, ifs1, 0⟩] sc pos) 0 it acc env).onRaise (fun x => do noteFrame x env; theTreesLotGoes x)) _ _ s
  refine wpAny_noted ?_
  rw [scTurn_out]
  refine wpAny_bind (wpAny_standAt (wpAny_bind (wpAny_mono (trn n s hI) (fun r s₁ h₁ => ?_) fun _ _ h' => h')))
  cases r with
  | none => exact wpAny_pure h₁
  | some v =>
    refine wpAny_bind (wpAny_mono h₁ (fun _ s₁' h₁' => ?_) fun _ _ h' => h')
    refine wpAny_bind (wpAny_mono h₁' (fun _ s₂ h₂ => wpAny_bind (wpAny_mono h₂ (fun ok s₃ h₃ => ?_) fun _ _ h' => h')) fun _ _ h' => h')
    cases ok with
    | false => exact wpAny_pure ⟨rfl, h₃⟩
    | true =>
      refine wpAny_bind (wpAny_mono h₃ (fun x s₄ h₄ => ?_) fun _ _ h' => h')
      refine wpAny_bind (wpAny_standAt (wpAny_bind (wpAny_of_eq (hs x) (wpAny_bind (wpAny_holding (wpAny_mono h₄ (fun it1 s₅ h₅ => ?_) fun _ _ h' => h'))))))
      refine wpAny_bind (wpAny_runOwn ?_)
      rw [Around.mark_none]
      refine codeAny_mono h₅ fun r s' hr => ?_
      cases r with
      | ok f =>
        first
          | exact wpAny_pure ⟨rfl, hr⟩
          | exact wpAny_bind (wpAny_pure (wpAny_pure ⟨rfl, hr⟩))
      | error e => exact hr.elim
theorem scLoop_in (I : Nat → Shared → Prop)
    (trn : ∀ n s, I n s → wpAny (model prog w) A (pyNext it) (fun r s₁ => match r with
      | none => R (.ok .next) s₁
      | some v => wpAny (model prog w) A (letOwnedTupleGo t1 it v) (fun _ s₁' => wpAny (model prog w) A (assign t1 env v) (fun _ s₂ =>
          wpAny (model prog w) A (forIn ifs1 true fun c r => if r = true then do let ok ← isTrue c env (eval c env); pure (ForInStep.yield ok) else pure (ForInStep.yield r)) (fun ok s₃ =>
            if ok = true then wpAny (model prog w) A (eval elt env) (fun x s₄ =>
              wpAny (model prog w) A (call (.builtin "set.add") [acc, x]) (fun _ s₅ => ∃ m, m < n ∧ I m s₅) (notedBy (model prog w) A env fun e s' => R (.error e) s') s₄) (notedBy (model prog w) A env fun e s' => R (.error e) s') s₃
            else ∃ m, m < n ∧ I m s₃) (notedBy (model prog w) A env fun e s' => R (.error e) s') s₂) (notedBy (model prog w) A env fun e s' => R (.error e) s') s₁') (notedBy (model prog w) A env fun e s' => R (.error e) s') s₁) (notedBy (model prog w) A env fun e s' => R (.error e) s') s)
    (n : Nat) (h : I n s) :
    codeAny (model prog w) A (.compLoop (.SetComp elt [⟨t0, i0, ifs0, 0⟩, ⟨t1, i1, ifs1, 0⟩] sc pos) 1 it acc env) R s := by
  refine codeAny_loop rfl I (fun n s hI => ?_) n h
  show wpAny _ A ((compTurn (.SetComp elt [⟨t0, i0, ifs0, 0⟩, ⟨t1, i1, ifs1, 0⟩] sc pos) 1 it acc env).onRaise (fun x => do noteFrame x env; theTreesLotGoes x)) _ _ s
  refine wpAny_noted ?_
  rw [scTurn_in]
  refine wpAny_bind (wpAny_standAt (wpAny_bind (wpAny_mono (trn n s hI) (fun r s₁ h₁ => ?_) fun _ _ h' => h')))
  cases r with
  | none => exact wpAny_pure h₁
  | some v =>
    refine wpAny_bind (wpAny_mono h₁ (fun _ s₁' h₁' => ?_) fun _ _ h' => h')
    refine wpAny_bind (wpAny_mono h₁' (fun _ s₂ h₂ => wpAny_bind (wpAny_mono h₂ (fun ok s₃ h₃ => ?_) fun _ _ h' => h')) fun _ _ h' => h')
    cases ok with
    | false => exact wpAny_pure ⟨rfl, h₃⟩
    | true =>
      exact wpAny_bind (wpAny_bind (wpAny_mono h₃ (fun x s₄ h₄ => wpAny_bind (wpAny_standAt (wpAny_bind (wpAny_mono h₄ (fun _ s₅ h₅ => wpAny_pure (wpAny_pure ⟨rfl, h₅⟩)) fun _ _ h' => h')))) fun _ _ h' => h'))
theorem scStart_in (h0 : codeAny (model prog w) A (.compLoop (.SetComp elt [⟨t0, i0, ifs0, 0⟩, ⟨t1, i1, ifs1, 0⟩] sc pos) 1 it acc env) R s)
    (h : wpAny (model prog w) A (pyIter it) (fun it' s' => codeAny (model prog w) A (.compLoop (.SetComp elt [⟨t0, i0, ifs0, 0⟩, ⟨t1, i1, ifs1, 0⟩] sc pos) 1 it' acc env) R s')
      (notedBy (model prog w) A env fun x s' => R (.error x) s') s) :
    codeAny (model prog w) A (.compStart (.SetComp elt [⟨t0, i0, ifs0, 0⟩, ⟨t1, i1, ifs1, 0⟩] sc pos) 1 it acc env) R s := by
  refine codeAny_of_tree ?_
  show wpAny _ _ ((compStart (.SetComp elt [⟨t0, i0, ifs0, 0⟩, ⟨t1, i1, ifs1, 0⟩] sc pos) 1 it acc env).onRaise (fun x => do noteFrame x env; standAt theWindowsPlace)) _ _ s
  refine wpAny_notedAt ?_
  unfold compStart
  show wpAny _ _ (ask >>= _) _ _ s
  refine wpAny_bind (wpAny_askSetting (wpAny_ite ?_))
  split
  · first
      | exact wpAny_bind (wpAny_pure (wpAny_pure (And.intro rfl h0)))
      | exact wpAny_pure (And.intro rfl h0)
  · first
      | exact wpAny_bind (wpAny_rule (wpAny_bind (wpAny_standAt (wpAny_bind (wpAny_mono h (fun it' s' h' => wpAny_pure (And.intro rfl h')) fun _ _ x => x)))))
      | (refine wpAny_bind (wpAny_rule ?_); show wpAny _ _ (standAt i1.pos >>= _) _ _ s; exact wpAny_bind (wpAny_standAt (wpAny_bind (wpAny_mono h (fun it' s' h' => wpAny_pure (And.intro rfl h')) fun _ _ x => x))))
end

theorem wipe_out {σ : L2.St} {i : Nat} : ∀ {vs : List Nat}, i ∉ vs → (wipe σ vs)[i]? = σ[i]?
  | [], _ => rfl
  | v :: vs, h => by
    have h1 : v ≠ i := fun e => h (by rw [e]; exact List.mem_cons_self)
    have h2 : i ∉ vs := fun m => h (List.mem_cons_of_mem _ m)
    unfold wipe
    rw [List.getElem?_set_ne h1]
    exact wipe_out h2
section
variable {X : Cx}
def tSc2 (P : Program) (w : World) (wi : TI) (g : TG) (tt : TT) (wi1 : TI) (g1 : TG) (tt1 : TT) (te : TE) (vs vs1 : List Nat) : TE := fun σ H Q => wi σ H fun J H1 => ∀ D, H1 D = none → ∃ W : Nat → Nat → Hp → Prop, (∃ m, W 0 m (upd H1 D (SetSO P w D []))) ∧ ∀ i m H, W i m H →
  (J.stop i H ∧ Q (.ref D) H) ∨ (J.go i H ∧ ∃ Nx : Hp → Prop, (∀ H', Nx H' → ∃ m', m' < m ∧ W (i + 1) m' H') ∧ ∀ x H', J.yld i H x H' → g x (wipe σ vs) H' fun σ2 Y2 => wipe σ2 vs = wipe σ vs ∧ tt σ2 Y2 fun b Y3 =>
    if b = true then wi1 σ2 Y3 fun J1 Y4 => ∃ W1 : Nat → Nat → Hp → Prop, (∃ m, W1 0 m Y4) ∧ ∀ j k H, W1 j k H →
      (J1.stop j H ∧ Nx H) ∨ (J1.go j H ∧ ∃ Nx1 : Hp → Prop, (∀ H', Nx1 H' → ∃ k', k' < k ∧ W1 (j + 1) k' H') ∧ ∀ x H', J1.yld j H x H' → g1 x (wipe σ2 vs1) H' fun σ3 Y5 => wipe σ3 vs1 = wipe σ2 vs1 ∧ tt1 σ3 Y5 fun b Y6 =>
        if b = true then te σ3 Y6 fun y Y7 => ∃ z l, y = .str z ∧ Y7 D = some (SetSO P w D l) ∧ l.length + 1 < scanBound ∧ Nx1 (upd Y7 D (SetSO P w D (insS z l))) else Nx1 Y6)
    else Nx Y3)
theorem sc2_core {pins : List (Addr × Obj)} {s : Shared} {σ : L2.St} {H : Hp} {Q : VK} {elt tg iter tg1 iter1 : Expr} {ifs ifs1 : List Expr} {sc : Scope} {own : List (Str × Nat)} {vs1 : List Nat} {pos pos' : Pos} {wi wi1 : TI} {g g1 : TG} {tt tt1 : TT} {te : TE} {use : Option (Value → Sem Unit)} {Qf : Value → Shared → Prop}
    (hc : X.calm = true) (hN : X.N.Nodup) (I : Inv X pins σ H s) (hit : PI X tg iter wi) (ok : BlkOk X.N X.env.scope sc own) (hv : ∀ i ∈ vs1, i ∈ own.map (·.2))
    (htg : ∀ (s : Shared) (H : Hp) (C : Addr) (cl : List (Str × Addr)) (fo : List Addr), PG (X.blk s H sc (compEnvC sc cl C X.env) fo) tg g) (htt : ∀ (s : Shared) (H : Hp) (C : Addr) (cl : List (Str × Addr)) (fo : List Addr), PTs (X.blk s H sc (compEnvC sc cl C X.env) fo) ifs tt)
    (hel : ∀ (s : Shared) (H : Hp) (C : Addr) (cl : List (Str × Addr)) (fo : List Addr), PE (X.blk s H sc (compEnvC sc cl C X.env) fo) elt te) (hs : ∀ x, foldedSetIterable iter X.env x = pure x)
    (hit1 : ∀ (s : Shared) (H : Hp) (C : Addr) (cl : List (Str × Addr)) (fo : List Addr), PI (X.blk s H sc (compEnvC sc cl C X.env) fo) tg1 iter1 wi1)
    (htg1 : ∀ (s : Shared) (H : Hp) (C : Addr) (cl : List (Str × Addr)) (fo : List Addr), PG (X.blk s H sc (compEnvC sc cl C X.env) fo) tg1 g1)
    (htt1 : ∀ (s : Shared) (H : Hp) (C : Addr) (cl : List (Str × Addr)) (fo : List Addr), PTs (X.blk s H sc (compEnvC sc cl C X.env) fo) ifs1 tt1)
    (hs1 : ∀ env x, foldedSetIterable iter1 env x = pure x)
    (h : tSc2 X.prog X.w wi g tt wi1 g1 tt1 te (own.map (·.2)) vs1 σ H Q)
    (hRR : ∀ D C s' m H', Inv X pins σ H' s' → Q (.ref D) H' → s'.heap.Ns C m → FpOk X pins H' C → compPost (model X.prog X.w) X.A X.xe use Qf (.ref D) C (.ok .next) s') :
    wpAny (model X.prog X.w) X.A (comprehension (.SetComp elt [⟨tg, iter, ifs, 0⟩, ⟨tg1, iter1, ifs1, 0⟩] sc pos) sc X.env pos' (newSet (.type "set")) false (eval iter X.env) use) Qf X.xe s := by
  have hfr : ∀ y ∈ sc.names, y.2 = .free → ∃ c, X.env.cells.lookup y.1 = some c := fun y hy e => by
    rcases ok.free y hy e with k | k
    · exact I.ok.has _ (.inl k)
    · exact I.ok.has _ (.inr k)
  refine wpAny_comprehension_free (use := use) rfl hs (closure_ok hfr) ok.kind (fun y hy e => by rw [ok.uniq y hy, e])
    (thn (hit.run pins s σ H _ I h) fun xv s1 hx => thn hx fun itv z2 h2 => ?_)
  obtain ⟨it, fo, tn, J, Y2, e, J2, T, st2, f2, q⟩ := h2
  subst e
  refine PpSet.newSet_ok (newEnv_comp ?_)
  generalize hD : z2.heap.objs.size = D
  have hDn : Y2 D = none := J2.hok.fresh (Nat.le_of_eq hD)
  obtain ⟨W, ⟨m0, wz⟩, trn⟩ := q D hDn
  -- the new list
  generalize hs3 : ({ z2 with heap := z2.heap.push { cls := .type "set", dict := none, data := .set #[] 0 (.fresh 0 0 (!X.w.params.followText "set-order")) } } : Shared) = z3
  have J3 : Inv X pins σ (upd Y2 D (SetSO X.prog X.w D [])) z3 := by
    rw [← hs3]
    refine J2.laid (t' := z2.toks) (fun b o e => Heap.get?_push_of_some _ e) (Nat.le_of_eq hD) ?_
    rw [← hD]
    exact setSO_ok (fresh_setS _)
  have h3 : z3.heap = z2.heap.push { cls := .type "set", dict := none, data := .set #[] 0 (.fresh 0 0 (!X.w.params.followText "set-order")) } := by rw [← hs3]
  have szb : ∀ b ∈ fo, b < z2.heap.objs.size := fun b hb => by
    obtain ⟨o, e, _⟩ := T.obj _ _ st2 b hb
    exact Heap.lt_size e
  have f3 : ∀ b ∈ fo, FpOk X pins (upd Y2 D (SetSO X.prog X.w D [])) b ∧ b < z3.heap.objs.size := fun b hb => by
    have hlt := szb b hb
    refine ⟨⟨?_, (f2 b hb).2⟩, by rw [h3, Heap.size_push]; exact Nat.lt_succ_of_lt hlt⟩
    rw [upd_ne (by rw [← hD]; exact Nat.ne_of_lt hlt)]
    exact (f2 b hb).1
  have st3 : tn 0 z3.heap := T.keep _ _ _ st2 fun b _ o e => by rw [h3]; exact Heap.get?_push_of_some _ e
  have J4 := block_start J3 ok hN f3
  have qg := htg z3 (upd Y2 D (SetSO X.prog X.w D [])) z3.heap.objs.size (cellsFrom (z3.heap.objs.size + 1) sc.names (cloFrom X.env.cells sc.names [])) fo
  have qt := htt z3 (upd Y2 D (SetSO X.prog X.w D [])) z3.heap.objs.size (cellsFrom (z3.heap.objs.size + 1) sc.names (cloFrom X.env.cells sc.names [])) fo
  have qe := hel z3 (upd Y2 D (SetSO X.prog X.w D [])) z3.heap.objs.size (cellsFrom (z3.heap.objs.size + 1) sc.names (cloFrom X.env.cells sc.names [])) fo
  have qi1 := hit1 z3 (upd Y2 D (SetSO X.prog X.w D [])) z3.heap.objs.size (cellsFrom (z3.heap.objs.size + 1) sc.names (cloFrom X.env.cells sc.names [])) fo
  have qg1 := htg1 z3 (upd Y2 D (SetSO X.prog X.w D [])) z3.heap.objs.size (cellsFrom (z3.heap.objs.size + 1) sc.names (cloFrom X.env.cells sc.names [])) fo
  have qt1 := htt1 z3 (upd Y2 D (SetSO X.prog X.w D [])) z3.heap.objs.size (cellsFrom (z3.heap.objs.size + 1) sc.names (cloFrom X.env.cells sc.names [])) fo
  show codeAny _ _ (.compStart (.SetComp elt [⟨tg, iter, ifs, 0⟩, ⟨tg1, iter1, ifs1, 0⟩] sc pos) 0 (.ref it) (.ref D) (compEnvC sc (cellsFrom (z3.heap.objs.size + 1) sc.names (cloFrom X.env.cells sc.names [])) z3.heap.objs.size X.env)) (compPost (model X.prog X.w) X.A X.xe use Qf (.ref D) z3.heap.objs.size) { z3 with heap := pushCells (z3.heap.push { cls := .type "dict", data := .dict #[] }) sc.names }
  have nfo : ∀ b ∈ fo, (upd Y2 D (SetSO X.prog X.w D [])) b = none := fun b hb => (f3 b hb).1.1
  generalize hce : compEnvC sc (cellsFrom (z3.heap.objs.size + 1) sc.names (cloFrom X.env.cells sc.names [])) z3.heap.objs.size X.env = ze at J4 qg qt qe qi1 qg1 qt1 ⊢
  have zL : ze.locals = z3.heap.objs.size := by subst hce; rfl
  generalize hH3 : upd Y2 D (SetSO X.prog X.w D []) = Y3 at J3 J4 qg qt qe qi1 qg1 qt1 wz nfo f3
  generalize hs4 : ({ z3 with heap := pushCells (z3.heap.push { cls := .type "dict", data := .dict #[] }) sc.names } : Shared) = z4 at J4 ⊢
  have st4 : tn 0 z4.heap := T.keep _ _ _ st3 fun b _ o e => by rw [← hs4]; exact pushCells_keeps _ _ _ _ (Heap.get?_push_of_some _ e)
  have still : ∀ {σ' : L2.St} {H' : Hp} {s' : Shared}, Inv (X.blk z3 Y3 sc ze fo) [] σ' H' s' → (∀ b ∈ fo, H' b = none) → ∀ b ∈ fo, FpOk (X.blk z3 Y3 sc ze fo) [] H' b := fun {σ' H' s'} I' hn b hb =>
    ⟨hn b hb, (I'.ok.exf b hb).1, I'.ok.exfs b hb, .inl hb, fun x c e => (I'.ok.exf b hb).2 x c e, fun p hp => absurd (show p ∈ ([] : List (Addr × Obj)) ++ [] from hp) (by simp)⟩
  have runs : codeAny (model X.prog X.w) X.A (.compLoop (.SetComp elt [⟨tg, iter, ifs, 0⟩, ⟨tg1, iter1, ifs1, 0⟩] sc pos) 0 (.ref it) (.ref D) ze) (compPost (model X.prog X.w) X.A X.xe use Qf (.ref D) z3.heap.objs.size) z4 := by
    refine scLoop_out (hs1 ze) (fun n s' => ∃ i H', Inv (X.blk z3 Y3 sc ze fo) [] (wipe σ (own.map (·.2))) H' s' ∧ tn i s'.heap ∧ (∀ b ∈ fo, H' b = none) ∧ W i n H') ?_ m0 ⟨0, Y3, J4, st4, nfo, wz⟩
    rintro n z5 ⟨i, Y5, J5, st5, n5, w5⟩
    rcases trn i n Y5 w5 with ⟨stop, qq⟩ | ⟨gos, Nx, hNx, stp⟩
    · have dn := T.done (X.blk z3 Y3 sc ze fo) rfl rfl rfl hc i [] z5 _ Y5 (fun _ _ => False) J5 (still J5 n5) st5 stop
      refine thnF dn fun r z6 ⟨hr, J6⟩ => ?_
      subst hr
      -- back in the def's context
      have J7 : Inv X pins σ Y5 z6 := J3.call' (ch := fo) J6.os J6.base J6.hok J6.bare fun b hb => ⟨(f3 b hb).1.2.2.2.1, (f3 b hb).1.2.1, (f3 b hb).1.2.2.2.2.1, (f3 b hb).1.2.2.2.2.2⟩
      have nC : Y5 z3.heap.objs.size = none := by
        have z : Y5 ze.locals = none := J6.free
        rw [zL] at z
        exact z
      obtain ⟨m, hn, _⟩ := J6.loc
      have hn : z6.heap.Ns ze.locals m := hn
      rw [zL] at hn
      exact hRR D z3.heap.objs.size z6 m Y5 J7 qq hn (J3.fpOk (Nat.le_refl _) nC)
    · have nt := T.item (X.blk z3 Y3 sc ze fo) rfl rfl rfl hc i [] z5 _ Y5 (fun _ _ => False) J5 (still J5 n5) st5 gos
      refine thnF nt fun r z6 ⟨u, hr, h6⟩ => ?_
      subst hr
      refine thnF h6 fun _ z7 ⟨x, Y7, J7, r7, y7, st7, n7⟩ => ?_
      have J7' := J7.pinned (still J7 n7) (T.obj _ _ st7)
      refine thnF (qg.run _ z7 _ Y7 x u _ J7' r7 (stp x Y7 y7)) fun _ z8 ⟨σ8, Y8, J8, hw8, q8⟩ => ?_
      refine thnF (qt.run _ z8 σ8 Y8 _ J8 q8) fun b z9 ⟨Y9, J9, q9⟩ => ?_
      -- the turn's end, from any slots that know what the block knew at its start
      have ends : ∀ {σ9 : L2.St} {s' : Shared} {H' : Hp}, Inv (X.blk z3 Y3 sc ze fo) ([] ++ pinsAt fo z7.heap) σ9 H' s' → (wipe σ (own.map (·.2))).length = σ9.length → (∀ (j : Nat) v, (wipe σ (own.map (·.2)))[j]? = some (some v) → σ9[j]? = some (some v)) → Nx H' →
          ∃ m, m < n ∧ ∃ i H', Inv (X.blk z3 Y3 sc ze fo) [] (wipe σ (own.map (·.2))) H' s' ∧ tn i s'.heap ∧ (∀ b ∈ fo, H' b = none) ∧ W i m H' := fun {σ9 s' H'} I' hl hk nx => by
        obtain ⟨m', hm, w'⟩ := hNx H' nx
        have pin' : ∀ b ∈ fo, ∀ o, z7.heap.get? b = some o → s'.heap.get? b = some o ∧ H' b = none := fun b hb o e =>
          let z := I'.pin (b, o) (List.mem_append_right _ (List.mem_append_right _ (mem_pinsAt hb e)))
          ⟨z.1, z.2.1⟩
        refine ⟨m', hm, i + 1, H', (I'.unpinned (pins := [])).weak hl hk, T.keep _ _ _ st7 fun b hb o e => (pin' b hb o e).1, fun b hb => ?_, w'⟩
        obtain ⟨o, e, _⟩ := T.obj _ _ st7 b hb
        exact (pin' b hb o e).2
      have hl8 : (wipe σ (own.map (·.2))).length = σ8.length := by rw [← hw8, wipe_length]
      have hk8 : ∀ (j : Nat) v, (wipe σ (own.map (·.2)))[j]? = some (some v) → σ8[j]? = some (some v) := fun j v e => by
        rw [← hw8] at e
        exact (wipe_some e).1
      have hk9 : ∀ (j : Nat) v, (wipe σ (own.map (·.2)))[j]? = some (some v) → (wipe σ8 vs1)[j]? = some (some v) := fun j v e => by
        rw [← hw8] at e
        obtain ⟨e1, e2⟩ := wipe_some e
        rw [wipe_out fun z => e2 (hv j z)]
        exact e1
      cases b with
      | false =>
        simp only [Bool.false_eq_true, if_false] at q9 ⊢
        exact ends J9 hl8 hk8 q9
      | true =>
        simp only [if_true] at q9 ⊢
        refine thnF (qi1.run _ z9 σ8 Y9 _ J9 q9) fun xv z10 hx => thnF hx fun itv z11 h11 => ?_
        obtain ⟨it1, fo1, tn1, J1, Y11, e1, J11, T1, st11, f11, W1, ⟨m1, w1⟩, trn1⟩ := h11
        subst e1
        -- the inner runs
        have still1 : ∀ {H' : Hp}, (∀ b ∈ fo1, H' b = none) → ∀ b ∈ fo1, FpOk (X.blk z3 Y3 sc ze fo) ([] ++ pinsAt fo z7.heap) H' b := fun hn b hb => ⟨hn b hb, (f11 b hb).2⟩
        have runs1 : codeAny (model X.prog X.w) X.A (.compLoop (.SetComp elt [⟨tg, iter, ifs, 0⟩, ⟨tg1, iter1, ifs1, 0⟩] sc pos) 1 (.ref it1) (.ref D) ze)
            (fun r s' => match r with
              | .ok _ => ∃ m, m < n ∧ ∃ i H', Inv (X.blk z3 Y3 sc ze fo) [] (wipe σ (own.map (·.2))) H' s' ∧ tn i s'.heap ∧ (∀ b ∈ fo, H' b = none) ∧ W i m H'
              | .error _ => False) z11 := by
          refine scLoop_in (fun k s' => ∃ j H', Inv (X.blk z3 Y3 sc ze fo) ([] ++ pinsAt fo z7.heap) (wipe σ8 vs1) H' s' ∧ tn1 j s'.heap ∧ (∀ b ∈ fo1, H' b = none) ∧ W1 j k H') ?_ m1 ⟨0, Y11, J11.weak (wipe_length _ _) (fun j v e => (wipe_some e).1), st11, fun b hb => (f11 b hb).1, w1⟩
          rintro k z12 ⟨j, Y12, J12, st12, n12, w12⟩
          rcases trn1 j k Y12 w12 with ⟨stop1, nx1⟩ | ⟨gos1, Nx1, hNx1, stp1⟩
          · refine thnF (T1.done (X.blk z3 Y3 sc ze fo) rfl rfl rfl hc j _ z12 (wipe σ8 vs1) Y12 (fun _ _ => False) J12 (still1 n12) st12 stop1) fun r z13 ⟨hr, J13⟩ => ?_
            subst hr
            exact ends J13 (hl8.trans (wipe_length σ8 vs1).symm) hk9 nx1
          · refine thnF (T1.item (X.blk z3 Y3 sc ze fo) rfl rfl rfl hc j _ z12 (wipe σ8 vs1) Y12 (fun _ _ => False) J12 (still1 n12) st12 gos1) fun r z13 ⟨u1, hr, h13⟩ => ?_
            subst hr
            refine thnF h13 fun _ z14 ⟨x1, Y14, J14, r14, y14, st14, n14⟩ => ?_
            have J14' := J14.pinned (still1 n14) (T1.obj _ _ st14)
            refine thnF (qg1.run _ z14 (wipe σ8 vs1) Y14 x1 u1 _ J14' r14 (stp1 x1 Y14 y14)) fun _ z15 ⟨σ15, Y15, J15, hw15, q15⟩ => ?_
            refine thnF (qt1.run _ z15 σ15 Y15 _ J15 q15) fun b1 z16 ⟨Y16, J16, q16⟩ => ?_
            have ends1 : ∀ {s' : Shared} {H' : Hp}, Inv (X.blk z3 Y3 sc ze fo) (([] ++ pinsAt fo z7.heap) ++ pinsAt fo1 z14.heap) σ15 H' s' → Nx1 H' → ∃ m, m < k ∧ ∃ j H', Inv (X.blk z3 Y3 sc ze fo) ([] ++ pinsAt fo z7.heap) (wipe σ8 vs1) H' s' ∧ tn1 j s'.heap ∧ (∀ b ∈ fo1, H' b = none) ∧ W1 j m H' := fun {s' H'} I' nx => by
              obtain ⟨m', hm, w'⟩ := hNx1 H' nx
              have pin' : ∀ b ∈ fo1, ∀ o, z14.heap.get? b = some o → s'.heap.get? b = some o ∧ H' b = none := fun b hb o e =>
                let z := I'.pin (b, o) (List.mem_append_right _ (List.mem_append_right _ (mem_pinsAt hb e)))
                ⟨z.1, z.2.1⟩
              refine ⟨m', hm, j + 1, H', I'.unpinned.weak (by rw [← hw15, wipe_length]) (fun j v e => by rw [← hw15] at e; exact (wipe_some e).1), T1.keep _ _ _ st14 fun b hb o e => (pin' b hb o e).1, fun b hb => ?_, w'⟩
              obtain ⟨o, e, _⟩ := T1.obj _ _ st14 b hb
              exact (pin' b hb o e).2
            cases b1 with
            | false =>
              simp only [Bool.false_eq_true, if_false] at q16 ⊢
              exact ends1 J16 q16
            | true =>
              simp only [if_true] at q16 ⊢
              refine thnF (qe.run _ z16 σ15 Y16 _ J16 q16) fun z z17 ⟨yv, Y17, J17, r17, tx, acc, ey, hD17, hz17, nx⟩ => ?_
              subst ey
              exact grow_ok (y := .non) (X := X.blk z3 Y3 sc ze fo) J17 hD17 hz17 r17 fun z18 J18 => ends1 J18 nx
        exact scStart_in runs1 (T1.self X.A 0 _ _ _ st11 runs1)
  exact PpSet.codeAny_compStart_set runs (T.self X.A 0 _ _ _ st4 runs)
theorem pe_sc2 {elt tg iter tg1 iter1 : Expr} {ifs ifs1 : List Expr} {sc : Scope} {own : List (Str × Nat)} {vs1 : List Nat} {pos : Pos} {wi wi1 : TI} {g g1 : TG} {tt tt1 : TT} {te : TE} (hc : X.calm = true) (hN : X.N.Nodup) (hit : PI X tg iter wi) (ok : BlkOk X.N X.env.scope sc own) (hv : ∀ i ∈ vs1, i ∈ own.map (·.2))
    (htg : ∀ (s : Shared) (H : Hp) (C : Addr) (cl : List (Str × Addr)) (fo : List Addr), PG (X.blk s H sc (compEnvC sc cl C X.env) fo) tg g) (htt : ∀ (s : Shared) (H : Hp) (C : Addr) (cl : List (Str × Addr)) (fo : List Addr), PTs (X.blk s H sc (compEnvC sc cl C X.env) fo) ifs tt)
    (hit1 : ∀ (s : Shared) (H : Hp) (C : Addr) (cl : List (Str × Addr)) (fo : List Addr), PI (X.blk s H sc (compEnvC sc cl C X.env) fo) tg1 iter1 wi1)
    (htg1 : ∀ (s : Shared) (H : Hp) (C : Addr) (cl : List (Str × Addr)) (fo : List Addr), PG (X.blk s H sc (compEnvC sc cl C X.env) fo) tg1 g1) (htt1 : ∀ (s : Shared) (H : Hp) (C : Addr) (cl : List (Str × Addr)) (fo : List Addr), PTs (X.blk s H sc (compEnvC sc cl C X.env) fo) ifs1 tt1)
    (hel : ∀ (s : Shared) (H : Hp) (C : Addr) (cl : List (Str × Addr)) (fo : List Addr), PE (X.blk s H sc (compEnvC sc cl C X.env) fo) elt te) (hs : ∀ x, foldedSetIterable iter X.env x = pure x := by intro _; rfl) (hs1 : ∀ env x, foldedSetIterable iter1 env x = pure x := by intro _ _; rfl) :
    PE X (.SetComp elt [⟨tg, iter, ifs, 0⟩, ⟨tg1, iter1, ifs1, 0⟩] sc pos) (tSc2 X.prog X.w wi g tt wi1 g1 tt1 te (own.map (·.2)) vs1) := by
  refine ⟨fun pins s σ H Q I h => ?_⟩
  rw [PpSet.eval_SetComp]
  refine sc2_core hc hN I hit ok hv htg htt hel hs hit1 htg1 htt1 hs1 h fun D C s' m H' I' q hn f => ⟨m, hn, fun h'' sb => ?_⟩
  obtain ⟨f0, f1, f2, f3, f4, f5⟩ := f
  exact ⟨.ref D, H', I'.turned (t' := s'.toks) (fun b o hb e => (sb.2 b hb).trans e) f0 f1 f3 f4 f5, rfl, q⟩
end
end Kd
set_option maxHeartbeats 4000000
/-! list(zip(a, b)) of two lists; setdefault with tuples as keys. -/
namespace Kd
open PySem PySem.Spec PyProof.Rows L2
section
variable {prog : Program} {w : World} {A : Around} {E : Value → Shared → Prop} {s : Shared} {z TI TO i1 i2 l1 l2 : Addr} {xs ys : Array Value}
/-- the zip z stands at turn i -/
structure ZS (h : Heap) (z TI TO i1 i2 l1 l2 : Addr) (xs ys : Array Value) (i : Nat) : Prop where
  zip : IsZip h z TI TO .none ∨ ∃ T f o, IsZipHeld h z TI TO T f ∧ h.get? T = some o
  ti : IsPair h TI (.ref i1) (.ref i2)
  tO : ∃ a b, IsPair h TO a b
  it1 : h.IsListIter i1 l1 i
  it2 : h.IsListIter i2 l2 i
  p : h.IsList l1 xs
  q : h.IsList l2 ys
theorem ZS.at {h h' : Heap} {i : Nat} (Z : ZS h z TI TO i1 i2 l1 l2 xs ys i) {S : Addr} (hS : S < h.objs.size) (nl : ∀ o, h.get? S = some o → o.cls = .type "list") (n1 : S ≠ l1) (n2 : S ≠ l2) (k : ∀ c o, c ≠ S → h.get? c = some o → h'.get? c = some o) (g : ∃ o, h'.get? S = some o) : ZS h' z TI TO i1 i2 l1 l2 xs ys i := by
  have ne : ∀ {c : Addr} {o : Obj}, h.get? c = some o → o.cls ≠ .type "list" → h'.get? c = some o := fun {c o} e hc => k c o (fun q => hc (nl o (q ▸ e))) e
  obtain ⟨zz, ti, ⟨a, b, tO⟩, ⟨o1, e1, c1, d1⟩, ⟨o2, e2, c2, d2⟩, ⟨o3, e3, r3⟩, ⟨o4, e4, r4⟩⟩ := Z
  refine ⟨?_, ne ti (by simp), ⟨a, b, ne tO (by simp)⟩, ⟨o1, ne e1 (by rw [c1]; simp), c1, d1⟩, ⟨o2, ne e2 (by rw [c2]; simp), c2, d2⟩, ⟨o3, k _ _ (Ne.symm n1) e3, r3⟩, ⟨o4, k _ _ (Ne.symm n2) e4, r4⟩⟩
  rcases zz with zz | ⟨T, f, o, zz, hT⟩
  · exact .inl (ne zz (by simp))
  · refine .inr ⟨T, f, ?_⟩
    by_cases e : T = S
    · obtain ⟨u, hu⟩ := g
      exact ⟨u, ne zz (by simp), e ▸ hu⟩
    · exact ⟨o, ne zz (by simp), k _ _ e hT⟩
theorem zs_item {i : Nat} {x y : Value} {Q : Option Value → Shared → Prop} (D : ZipApart z TI TO i1 i2 l1 l2) (Z : ZS s.heap z TI TO i1 i2 l1 l2 xs ys i) (hx : xs[i]? = some x) (hy : ys[i]? = some y)
    (hQ : ∀ h', ZS h' z TI TO i1 i2 l1 l2 xs ys (i + 1) → IsPair h' s.heap.objs.size x y → h'.objs.size = s.heap.objs.size + 1 → (∀ c o, c ≠ z → c ≠ TO → c ≠ i1 → c ≠ i2 → s.heap.get? c = some o → h'.get? c = some o) → Q (some (.ref s.heap.objs.size)) { s with heap := h' }) :
    wpAny (model prog w) A (pyNext (.ref z)) Q E s := by
  obtain ⟨zz, ti, ⟨a, b, tO⟩, h1, h2, p, q⟩ := Z
  have hl : ∀ {l : Addr} {us : Array Value} {h' : Heap}, s.heap.IsList l us → l ≠ z → l ≠ TO → l ≠ i1 → l ≠ i2 → (∀ c o, c ≠ z → c ≠ TO → c ≠ i1 → c ≠ i2 → s.heap.get? c = some o → h'.get? c = some o) → h'.IsList l us :=
    fun {l us h'} ⟨o, e, r⟩ n1 n2 n3 n4 k => ⟨o, k _ _ n1 n2 n3 n4 e, r⟩
  rcases zz with zz | ⟨T, f, o, zz, hT⟩
  · refine wpAny_pyNext_zip_item D zz ti tO h1 h2 p q hx hy fun h' z' TO' h1' h2' hT hsz hk => ?_
    exact hQ h' ⟨.inr ⟨_, false, _, z', hT⟩, hk _ _ D.TIz D.TITO D.TIi1 D.TIi2 ti, ⟨_, _, TO'⟩, h1', h2', hl p D.l1z D.l1TO D.l1i1 D.l1i2 hk, hl q D.l2z D.l2TO D.l2i1 D.l2i2 hk⟩ hT hsz hk
  · refine wpAny_pyNext_zip_item_held D zz hT ti h1 h2 p q hx hy fun h' z' h1' h2' hT hsz hk => ?_
    have hk' : ∀ c o, c ≠ z → c ≠ TO → c ≠ i1 → c ≠ i2 → s.heap.get? c = some o → h'.get? c = some o := fun c o n1 _ n3 n4 e => hk c o n1 n3 n4 e
    refine hQ h' ⟨.inr ⟨T, true, ?_⟩, hk' _ _ D.TIz D.TITO D.TIi1 D.TIi2 ti, ⟨_, _, hk _ _ D.TOz D.TOi1 D.TOi2 tO⟩, h1', h2', hl p D.l1z D.l1TO D.l1i1 D.l1i2 hk', hl q D.l2z D.l2TO D.l2i1 D.l2i2 hk'⟩ hT hsz hk'
    have old := ‹s.heap.get? T = some o›
    by_cases e1 : T = z
    · subst e1; exact ⟨_, z', z'⟩
    · by_cases e2 : T = i1
      · obtain ⟨u, hu, _⟩ := h1'
        exact ⟨u, z', e2 ▸ hu⟩
      · by_cases e3 : T = i2
        · obtain ⟨u, hu, _⟩ := h2'
          exact ⟨u, z', e3 ▸ hu⟩
        · exact ⟨o, z', hk _ _ e1 e2 e3 old⟩
theorem zs_stop {i : Nat} {Q : Option Value → Shared → Prop} (hh : A.handled = none) (D : ZipApart z TI TO i1 i2 l1 l2) (Z : ZS s.heap z TI TO i1 i2 l1 l2 xs ys i) (he : xs[i]? = none ∨ ys[i]? = none)
    (hQ : ∀ h', (∀ c o, c ≠ z → c ≠ TO → c ≠ i1 → c ≠ i2 → s.heap.get? c = some o → h'.get? c = some o) → Q none { s with heap := h' }) : wpAny (model prog w) A (pyNext (.ref z)) Q E s := by
  obtain ⟨zz, ti, ⟨a, b, tO⟩, h1, h2, p, q⟩ := Z
  rcases zz with zz | ⟨T, f, o, zz, hT⟩
  · exact wpAny_pyNext_zip_end hh D zz ti tO h1 h2 p q he fun h' hk => hQ h' hk
  · exact wpAny_pyNext_zip_end_held hh D zz hT ti h1 h2 p q he fun h' hk => hQ h' fun c o n1 _ n3 n4 e => hk c o n1 n3 n4 e
/-- what the list is filled with: new pairs -/
def PairsAt (h : Heap) (N0 : Nat) (xs ys : Array Value) (ts : List Addr) : Prop := ts.Nodup ∧ ∀ (j : Nat) (t : Addr), ts[j]? = some t → N0 ≤ t ∧ ∃ x y, xs[j]? = some x ∧ ys[j]? = some y ∧ IsPair h t x y
abbrev lstObj (ts : List Addr) (c : Nat) : Obj := { cls := .type "list", dict := none, data := .seq ((ts.map Value.ref).toArray) c, slots := #[] }
theorem zip_fill {R : Result → Shared → Prop} (hh : A.handled = none) (D : ZipApart z TI TO i1 i2 l1 l2) {S : Addr} (n1 : S ≠ l1) (n2 : S ≠ l2) {N0 n : Nat} (hn : n ≤ sizeLine) (res : Value) (lz : z < N0) (lO : TO < N0) (la : i1 < N0) (lb : i2 < N0) (lS : S < N0) (hmin : n = min xs.size ys.size) :
    ∀ (k i : Nat) (s : Shared) (c : Nat) (ts : List Addr), n - i = k → i ≤ n → ZS s.heap z TI TO i1 i2 l1 l2 xs ys i → s.heap.get? S = some (lstObj ts c) → ts.length = i → PairsAt s.heap N0 xs ys ts → N0 ≤ s.heap.objs.size →
    (∀ (h' : Heap) (ts' : List Addr) (c' : Nat), (∀ b o, b ≠ S → b ≠ z → b ≠ TO → b ≠ i1 → b ≠ i2 → s.heap.get? b = some o → h'.get? b = some o) → h'.get? S = some (lstObj ts' c') → ts'.length = n → PairsAt h' N0 xs ys ts' → R (.ok (.ret res)) { s with heap := h' }) →
    codeAny (model prog w) A (.builtin "list.extend.loop" ⟨[.ref S, .ref z, res], []⟩) R s := by
  have nS : ∀ {s : Shared} {i : Nat} {ts : List Addr} {c : Nat}, ZS s.heap z TI TO i1 i2 l1 l2 xs ys i → s.heap.get? S = some (lstObj ts c) → S ≠ z ∧ S ≠ TO ∧ S ≠ i1 ∧ S ≠ i2 := by
    intro s i ts c Z hS
    obtain ⟨zz, ti, ⟨a, b, tO⟩, ⟨o1, e1, c1, d1⟩, ⟨o2, e2, c2, d2⟩, _, _⟩ := Z
    have dif : ∀ {c' : Addr} {o : Obj}, s.heap.get? c' = some o → o.cls ≠ .type "list" → S ≠ c' := fun {c' o} e hc q => by
      rw [← q, hS] at e
      exact hc (by rw [← Option.some.inj e])
    refine ⟨?_, dif tO (by simp), dif e1 (by rw [c1]; simp), dif e2 (by rw [c2]; simp)⟩
    rcases zz with zz | ⟨T, f, o, zz, _⟩
    · exact dif zz (by simp)
    · exact dif zz (by simp)
  intro k
  induction k with
  | zero =>
    intro i s c ts hk hi Z hS hl hP hN hR
    obtain ⟨m1, m2, m3, m4⟩ := nS Z hS
    refine codeAny_builtin F.entry_extend_loop ?_
    rw [Around.under_plainId F.plain_extend_loop _]
    show wpAny _ A.in1 (pyNext (.ref z) >>= _) _ _ s
    have he : xs[i]? = none ∨ ys[i]? = none := by
      rcases Nat.lt_or_ge i xs.size with q | q
      · right; simp; omega
      · left; simp; omega
    refine wpAny_bind (zs_stop (A := A.in1) hh D Z he fun h' hk' => wpAny_pure (hR h' ts c (fun b o _ b1 b2 b3 b4 e => hk' b o b1 b2 b3 b4 e) (hk' _ _ m1 m2 m3 m4 hS) (by omega) ⟨hP.1, fun j t ht => ?_⟩))
    obtain ⟨a0, x, y, a1, a2, a3⟩ := hP.2 j t ht
    exact ⟨a0, x, y, a1, a2, hk' _ _ (Nat.ne_of_gt (Nat.lt_of_lt_of_le lz a0)) (Nat.ne_of_gt (Nat.lt_of_lt_of_le lO a0)) (Nat.ne_of_gt (Nat.lt_of_lt_of_le la a0)) (Nat.ne_of_gt (Nat.lt_of_lt_of_le lb a0)) a3⟩
  | succ k ih =>
    intro i s c ts hk hi Z hS hl hP hN hR
    obtain ⟨m1, m2, m3, m4⟩ := nS Z hS
    refine codeAny_builtin F.entry_extend_loop ?_
    rw [Around.under_plainId F.plain_extend_loop _]
    show wpAny _ A.in1 (pyNext (.ref z) >>= _) _ _ s
    have ix : i < xs.size := by omega
    have iy : i < ys.size := by omega
    refine wpAny_bind (zs_item (A := A.in1) D Z (x := xs[i]) (y := ys[i]) (by simp [ix]) (by simp [iy]) fun h' Z' hT hsz hk' => ?_)
    have hS' : h'.get? S = some (lstObj ts c) := hk' _ _ m1 m2 m3 m4 hS
    show wpAny _ A.in1 (updateSeq S (·.push (.ref s.heap.objs.size)) >>= _) _ _ _
    have hS2 := Heap.get?_update_self (Obj.mapSeq (·.push (Value.ref s.heap.objs.size))) hS' rfl
    have oth : ∀ b o, b ≠ S → h'.get? b = some o → (h'.update S (Obj.mapSeq (·.push (Value.ref s.heap.objs.size)))).get? b = some o := fun b o hb e => (Heap.get?_update_other _ _ (Ne.symm hb)).trans e
    have hpush : (Obj.mapSeq (·.push (Value.ref s.heap.objs.size)) (lstObj ts c)) = lstObj (ts ++ [s.heap.objs.size]) (c + 1) := by
      simp [Obj.mapSeq, lstObj]
    rw [hpush] at hS2
    have lS' : S < s.heap.objs.size := Heap.lt_size hS
    refine wpAny_bind (wpAny_updateSeq hS' rfl (wpAny_pure ⟨plainId_quiet F.plain_extend_loop _, ih (i + 1) { s with heap := h'.update S (Obj.mapSeq (·.push (Value.ref s.heap.objs.size))) } _ (ts ++ [s.heap.objs.size]) (by omega) (by omega) ?_ hS2 (by simp [hl]) ?_ ?_ ?_⟩) (by simp [hl]; omega) (by simp [hl]; omega))
    · exact Z'.at (Heap.lt_size hS') (fun o e => by rw [hS'] at e; rw [← Option.some.inj e]) n1 n2 oth ⟨_, hS2⟩
    · refine ⟨List.nodup_append.mpr ⟨hP.1, by simp, fun a ha b hb => ?_⟩, fun j t ht => ?_⟩
      · rw [List.mem_singleton.mp hb]
        obtain ⟨j, hj⟩ := List.mem_iff_getElem?.mp ha
        obtain ⟨_, _, _, _, _, a3⟩ := hP.2 j a hj
        exact Nat.ne_of_lt (Heap.lt_size a3)
      · rcases Nat.lt_or_ge j ts.length with q | q
        · rw [List.getElem?_append_left q] at ht
          obtain ⟨a0, x, y, a1, a2, a3⟩ := hP.2 j t ht
          exact ⟨a0, x, y, a1, a2, oth _ _ (Nat.ne_of_gt (Nat.lt_of_lt_of_le lS a0)) (hk' _ _ (Nat.ne_of_gt (Nat.lt_of_lt_of_le lz a0)) (Nat.ne_of_gt (Nat.lt_of_lt_of_le lO a0)) (Nat.ne_of_gt (Nat.lt_of_lt_of_le la a0)) (Nat.ne_of_gt (Nat.lt_of_lt_of_le lb a0)) a3)⟩
        · rw [List.getElem?_append_right q] at ht
          have e0 : j - ts.length = 0 := by
            rcases Nat.eq_zero_or_pos (j - ts.length) with e | e
            · exact e
            · rw [List.getElem?_eq_none (by simp; omega)] at ht; cases ht
          rw [e0] at ht
          have et : s.heap.objs.size = t := by simpa using ht
          have ej : j = i := by omega
          subst et ej
          exact ⟨hN, _, _, by simp [ix], by simp [iy], oth _ _ (Nat.ne_of_gt lS') hT⟩
    · show N0 ≤ (h'.update S _).objs.size
      rw [Heap.size_update, hsz]
      omega
    · intro h2 ts2 c2 hk2 hS3 hl3 hP3
      exact hR h2 ts2 c2 (fun b o b0 b1 b2 b3 b4 e => hk2 b o b0 b1 b2 b3 b4 (oth b o b0 (hk' b o b1 b2 b3 b4 e))) hS3 hl3 hP3
theorem no_len_zip : typeLookup (.type "zip") "__len__" = pure none := by rw [typeLookup_type, builtinLookup_eq_fast]; kernel_rfl
theorem no_hint_zip : typeLookup (.type "zip") "__length_hint__" = pure none := by rw [typeLookup_type, builtinLookup_eq_fast]; kernel_rfl
theorem ZS.type {i : Nat} (Z : ZS s.heap z TI TO i1 i2 l1 l2 xs ys i) : s.TypeIs (.ref z) "zip" := by
  rcases Z.zip with zz | ⟨T, f, o, zz, _⟩
  · exact ⟨_, zz, rfl⟩
  · exact ⟨_, zz, rfl⟩
/-- list(zip(a, b)) where the zip stands new -/
theorem list_of_zip {Q : Value → Shared → Prop} (hh : A.handled = none) (D : ZipApart z TI TO i1 i2 l1 l2) (zf : IsZip s.heap z TI TO .none) (Z : ZS s.heap z TI TO i1 i2 l1 l2 xs ys 0) (lO : TO < s.heap.objs.size) (la : i1 < s.heap.objs.size) (lb : i2 < s.heap.objs.size) {n : Nat} (hn : n ≤ sizeLine) (hmin : n = min xs.size ys.size)
    (hQ : ∀ (h' : Heap) (ts : List Addr) (c : Nat), (∀ b o, b ≠ z → b ≠ TO → b ≠ i1 → b ≠ i2 → s.heap.get? b = some o → h'.get? b = some o) → h'.get? s.heap.objs.size = some (lstObj ts c) → ts.length = n → PairsAt h' (s.heap.objs.size + 1) xs ys ts → Q (.ref s.heap.objs.size) { s with heap := h' }) :
    wpAny (model prog w) A (call (.type "list") [.ref z]) Q E s := by
  have lz : z < s.heap.objs.size := let ⟨_, e, _⟩ := Z.type; Heap.lt_size e
  have ll1 : l1 < s.heap.objs.size := let ⟨_, e, _⟩ := Z.p; Heap.lt_size e
  have ll2 : l2 < s.heap.objs.size := let ⟨_, e, _⟩ := Z.q; Heap.lt_size e
  refine callType_codes (Q₁ := fun obj s₁ => obj = .ref s.heap.objs.size ∧ s₁ = { s with heap := s.heap.push { cls := .type "list", data := .seq #[] } }) PySem.F.called_list (PySem.F.typeCall_list_1 _) PySem.F.entry_list_init (code_list_new _ ⟨rfl, rfl⟩) fun obj s₁ h₁ => ?_
  obtain ⟨rfl, rfl⟩ := h₁
  have hS : (s.heap.push { cls := .type "list", data := .seq #[] }).get? s.heap.objs.size = some { cls := .type "list", data := .seq #[] } := Heap.get?_push_size _ rfl
  refine ⟨⟨_, hS, rfl⟩, PySem.F.args_list_init_2 _ _, ?_⟩
  show wpAny _ A.in1.in1 (do let old ← Builtin.List.listItems (.ref s.heap.objs.size); Builtin.List.listUpdate (.ref s.heap.objs.size) (fun _ => #[]); letGo old.toList.reverse; Builtin.List.listExtendWith (.ref s.heap.objs.size) (.ref z) .none) _ _ _
  refine wpAny_bind ?_
  unfold Builtin.List.listItems
  refine wpAny_bind (wpAny_seqItems hS rfl (wpAny_pure ?_))
  show wpAny _ _ (updateSeq s.heap.objs.size (fun _ => #[]) >>= fun _ => letGo (#[] : Array Value).toList.reverse >>= fun _ => Builtin.List.listExtendWith (.ref s.heap.objs.size) (.ref z) .none) _ _ _
  refine wpAny_bind (wpAny_updateSeq hS rfl (wpAny_bind (wpAny_letGo ?_)))
  have hS2 := Heap.get?_update_self (Obj.mapSeq (fun _ => (#[] : Array Value))) hS rfl
  generalize hH : (s.heap.push { cls := .type "list", data := .seq #[] }).update s.heap.objs.size (Obj.mapSeq (fun _ => (#[] : Array Value))) = H2 at hS2 ⊢
  have up : ∀ b o, s.heap.get? b = some o → H2.get? b = some o := fun b o e => by
    rw [← hH]
    exact (Heap.get?_update_other _ _ (Nat.ne_of_gt (Heap.lt_size e))).trans (Heap.get?_push_of_some _ e)
  have hz2 : H2.objs.size = s.heap.objs.size + 1 := by rw [← hH, Heap.size_update, Heap.size_push]
  have Z2 : ZS H2 z TI TO i1 i2 l1 l2 xs ys 0 := by
    obtain ⟨zz, ti, ⟨a, b, tO⟩, ⟨o1, e1, r1⟩, ⟨o2, e2, r2⟩, ⟨o3, e3, r3⟩, ⟨o4, e4, r4⟩⟩ := Z
    refine ⟨?_, up _ _ ti, ⟨a, b, up _ _ tO⟩, ⟨o1, up _ _ e1, r1⟩, ⟨o2, up _ _ e2, r2⟩, ⟨o3, up _ _ e3, r3⟩, ⟨o4, up _ _ e4, r4⟩⟩
    rcases zz with zz | ⟨T, f, o, zz, hT⟩
    · exact .inl (up _ _ zz)
    · exact .inr ⟨T, f, o, up _ _ zz, up _ _ hT⟩
  unfold Builtin.List.listExtendWith
  refine wpAny_bind (wpAny_typeOf (ZS.type (s := { s with heap := H2 }) Z2) ?_)
  have e1 : Builtin.List.listSameRef (.ref s.heap.objs.size) (.ref z) = false := by simp [Builtin.List.listSameRef, Nat.ne_of_gt lz]
  have e2 : (Value.type "zip" == Value.type "list") = false := by decide
  have e3 : (Value.type "zip" == Value.type "tuple") = false := by decide
  simp only [e1, e2, e3, Bool.or_false, Bool.false_eq_true, if_false]
  refine wpAny_bind (wpAny_pyIter_zip (s := { s with heap := H2 }) (up _ _ zf) (wpAny_bind (wpAny_holding ?_)))
  unfold Builtin.List.listLengthHint
  refine wpAny_bind (wpAny_specialOf (ZS.type (s := { s with heap := H2 }) Z2) no_len_zip ?_)
  show wpAny _ A.in1.in1 (specialOf (Value.ref z) (Str.ofString "__length_hint__") >>= _) _ _ _
  refine wpAny_bind (wpAny_specialOf (ZS.type (s := { s with heap := H2 }) Z2) no_hint_zip (wpAny_pure ?_))
  show wpAny _ A.in1.in1 (rule "list.extend.makes-room" >>= fun _ => Builtin.List.listTouch (.ref s.heap.objs.size) >>= fun _ => again (.builtin "list.extend.loop" ⟨[.ref s.heap.objs.size, .ref z, .none], []⟩)) _ _ _
  refine wpAny_bind (wpAny_rule (wpAny_bind ?_))
  show wpAny _ A.in1.in1 (updateSeq s.heap.objs.size (·.push .none) >>= fun _ => updateSeq s.heap.objs.size (·.pop)) _ _ _
  refine wpAny_bind (wpAny_updateSeq hS2 rfl ?_)
  have hS3 := Heap.get?_update_self (Obj.mapSeq (·.push Value.none)) hS2 rfl
  refine wpAny_updateSeq hS3 rfl ?_
  have hS4 := Heap.get?_update_self (Obj.mapSeq (·.pop)) hS3 rfl
  generalize hG : (H2.update s.heap.objs.size (Obj.mapSeq (·.push Value.none))).update s.heap.objs.size (Obj.mapSeq (·.pop)) = H4 at hS4 ⊢
  have up4 : ∀ b o, b ≠ s.heap.objs.size → H2.get? b = some o → H4.get? b = some o := fun b o hb e => by
    rw [← hG]
    exact (Heap.get?_update_other _ _ (Ne.symm hb)).trans ((Heap.get?_update_other _ _ (Ne.symm hb)).trans e)
  have hz4 : H4.objs.size = s.heap.objs.size + 1 := by rw [← hG, Heap.size_update, Heap.size_update, hz2]
  have Z4 : ZS H4 z TI TO i1 i2 l1 l2 xs ys 0 := Z2.at (Heap.lt_size hS2) (fun o e => by rw [hS2] at e; rw [← Option.some.inj e]; rfl) (Nat.ne_of_gt ll1) (Nat.ne_of_gt ll2) up4 ⟨_, hS4⟩
  refine wpAny_pure ⟨plainId_quiet F.plain_extend_loop _, zip_fill (A := A.in1) (N0 := s.heap.objs.size + 1) hh D (Nat.ne_of_gt ll1) (Nat.ne_of_gt ll2) hn .none (Nat.lt_succ_of_lt lz) (Nat.lt_succ_of_lt lO) (Nat.lt_succ_of_lt la) (Nat.lt_succ_of_lt lb) (Nat.lt_succ_self _) hmin n 0 { s with heap := H4 } _ [] (by omega) (Nat.zero_le _) Z4 hS4 rfl ⟨List.nodup_nil, fun j t ht => by simp at ht⟩ (Nat.le_of_eq hz4.symm) fun h' ts c hk hl hlen hP => ?_⟩
  exact ⟨rfl, hQ h' ts c (fun b o b1 b2 b3 b4 e => hk b o (Nat.ne_of_lt (Heap.lt_size e)) b1 b2 b3 b4 (up4 b o (Nat.ne_of_lt (Heap.lt_size e)) (up b o e))) hl hlen hP⟩
end
theorem vals_back : ∀ {xs : List V} {us : List Value} {i : Nat} {u : Value}, Vals xs us → us[i]? = some u → ∃ x, xs[i]? = some x ∧ RelV x u
  | _, _, _, _, .nil, e => by simp at e
  | _, _, 0, _, .cons r _, e => by
    have e := Option.some.inj e
    subst e
    exact ⟨_, rfl, r⟩
  | _, _, i + 1, u, .cons (l₁ := xs) (l₂ := us) _ t, e => by
    have e : us[i]? = some u := by simpa using e
    obtain ⟨x, h1, h2⟩ := vals_back t e
    exact ⟨x, by simpa using h1, h2⟩
theorem vals_refs : ∀ ts : List Addr, Vals (ts.map V.ref) (ts.map Value.ref)
  | [] => .nil
  | t :: ts => .cons rfl (vals_refs ts)
/-- list(zip(a, b)) of two lists: a new list of new pairs -/
def tListZip (K : PySem.W.Frag) (ta : TA) : TE := fun σ H Q => ta σ H fun vs H1 => ∃ a b xs ys, vs = [V.ref a, V.ref b] ∧ SqL K H1 a xs ∧ SqL K H1 b ys ∧ ∀ (ts : List Addr) (l : Addr) (H2 : Hp), (∀ c o, H1 c = some o → H2 c = some o) →
  ts.length = min xs.length ys.length → (∀ t ∈ ts, H1 t = none) → (∀ (j : Nat) (t : Addr), ts[j]? = some t → ∃ x y, xs[j]? = some x ∧ ys[j]? = some y ∧ H2 t = some (.tup [x, y])) → H1 l = none → H2 l = some (.lst (ts.map V.ref)) → Q (.ref l) H2
theorem pe_listZip {X : Cx} {e e2 : Expr} {ta : TA} {p p2 pos pos2 : Pos} (hc : X.calm = true) (hgl : Gl X "list") (hml : X.mg "list" = none) (hg : Gl X "zip") (hm : X.mg "zip" = none) (ha : PA X [e, e2] ta)
    (hs : starEach [e, e2] X.env = (false, eval e X.env) :: starEach [e2] X.env := by rfl) (hpl : (backTo pos2 (starEach [e2] X.env)).any (·.1) = false := by rfl)
    (hs1 : starEach [Expr.Call (.Name "zip" p2) [e, e2] [] pos2] X.env = (false, eval (Expr.Call (.Name "zip" p2) [e, e2] [] pos2) X.env) :: starEach [] X.env := by rfl) (hpl1 : (backTo pos (starEach [] X.env)).any (·.1) = false := by rfl) :
    PE X (.Call (.Name "list" p) [.Call (.Name "zip" p2) [e, e2] [] pos2] [] pos) (tListZip X.K ta) := by
  refine ⟨fun pins s σ H Q I h => ?_⟩
  refine wpAny_Call_Name_kw (ld_blt I hgl hml PyProof.Rows.boot_list (PyProof.Rows.callWith_type1 ?_ hs1 hpl1))
  rw [hs1]
  refine Calls.spliced_cons ?_
  refine wpAny_Call_Name_kw (ld_blt I hg hm PyProof.Rows.boot_zip (PyProof.Rows.callWith_type1 (thn (ha.run pos2 pins s σ H _ I h) fun us s1 ⟨vs, H1, I1, r1, q1⟩ => ?_) hs hpl))
  obtain ⟨a, b, xs, ys, ex, hqx, hqy, q⟩ := q1
  subst ex
  cases r1 with
  | cons r rr =>
  cases rr with
  | cons r' rr =>
  cases rr
  cases r
  cases r'
  obtain ⟨its, rv, p1, z1⟩ := I1.list hqx
  obtain ⟨its2, rv2, p2', z2⟩ := I1.list hqy
  have la : a < s1.heap.objs.size := p1.lt
  have lb : b < s1.heap.objs.size := p2'.lt
  have lx := rv.length
  have ly := rv2.length
  refine call_zip_2 p1.isList p2'.isList fun h' hz hTI hTO h1 h2 hsz hk => ?_
  refine Calls.spliced_nil ?_
  refine list_of_zip (s := { s1 with heap := h' }) (n := min xs.length ys.length) (I1.ok.hd hc) (PySem.W.ktu_apart s1.heap.objs.size a b la lb) hz ⟨.inl hz, hTI, ⟨_, _, hTO⟩, h1, h2, p1.isList.at fun o e => hk _ _ e, p2'.isList.at fun o e => hk _ _ e⟩ (by show _ < h'.objs.size; omega) (by show _ < h'.objs.size; omega) (by show _ < h'.objs.size; omega) (Nat.le_trans (Nat.min_le_left _ _) z1) (by simp [lx, ly]) fun h2' ts c hk2 hl hlen hP => ?_
  have old : ∀ c o, s1.heap.get? c = some o → h2'.get? c = some o := fun c o e => by
    have lt := Heap.lt_size e
    exact hk2 c o (Nat.ne_of_lt (Nat.lt_of_lt_of_le lt (Nat.le_add_right _ _))) (Nat.ne_of_lt (Nat.lt_of_lt_of_le lt (Nat.le_add_right _ _))) (Nat.ne_of_lt lt) (Nat.ne_of_lt (Nat.lt_of_lt_of_le lt (Nat.le_add_right _ _))) (hk c o e)
  have Ik : Inv X pins σ H1 { s1 with heap := h2' } := I1.kept (t' := s1.toks) old
  have hl0 : s1.heap.objs.size ≤ h'.objs.size := by omega
  have nl : H1 h'.objs.size = none := I1.hok.fresh hl0
  have Il : Inv X pins σ (upd H1 h'.objs.size (.lst (ts.map V.ref))) { s1 with heap := h2' } := Ik.take (h' := h2') (t' := s1.toks) (fun b ob _ e => e) (I1.fpOk hl0 nl) ⟨by rw [List.length_map, hlen]; exact Nat.le_trans (Nat.min_le_left _ _) z1, ts.map Value.ref, c, vals_refs ts, hl⟩
  have side : ∀ t ∈ ts, s1.heap.objs.size ≤ t ∧ (upd H1 h'.objs.size (.lst (ts.map V.ref))) t = none ∧ ∃ vs, (∃ (j : Nat) (x y : V), ts[j]? = some t ∧ xs[j]? = some x ∧ ys[j]? = some y ∧ vs = [x, y]) ∧ ∀ H2, ObjOk X.prog X.w H2 h2' t (.tup vs) := fun t ht => by
    obtain ⟨j, hj⟩ := List.mem_iff_getElem?.mp ht
    obtain ⟨g0, u, v, g1, g2, g3⟩ := hP.2 j t hj
    have hge : s1.heap.objs.size ≤ t := Nat.le_trans hl0 (Nat.le_of_succ_le g0)
    obtain ⟨x, ex, rx⟩ := vals_back rv (by simpa using g1)
    obtain ⟨y, ey, ry⟩ := vals_back rv2 (by simpa using g2)
    refine ⟨hge, by rw [upd_ne (Nat.ne_of_gt g0)]; exact I1.hok.fresh hge, [x, y], ⟨j, x, y, hj, ex, ey, rfl⟩, fun H2 => ⟨by show 2 ≤ sizeLine; decide, [u, v], .cons rx (.cons ry .nil), ⟨_, g3, rfl, _, rfl⟩⟩⟩
  obtain ⟨H2, I2, up, tu⟩ := DX.takeT (P := fun t vs => ∃ (j : Nat) (x y : V), ts[j]? = some t ∧ xs[j]? = some x ∧ ys[j]? = some y ∧ vs = [x, y]) I1 ts _ Il hP.1 side
  refine ⟨.ref h'.objs.size, H2, I2, rfl, q ts _ H2 (fun c o e => up c o (by rw [upd_ne (ne_of_none e nl)]; exact e)) hlen (fun t ht => ?_) (fun j t ht => ?_) nl (up _ _ upd_same)⟩
  · obtain ⟨j, hj⟩ := List.mem_iff_getElem?.mp ht
    exact I1.hok.fresh (Nat.le_trans hl0 (Nat.le_of_succ_le (hP.2 j t hj).1))
  · obtain ⟨vs, ⟨j', x, y, e1, e2, e3, rfl⟩, e4⟩ := tu t (List.mem_of_getElem? ht)
    have ej : j = j' := (List.getElem?_inj (List.getElem?_eq_some_iff.mp ht).1 hP.1).mp (ht.trans e1.symm)
    subst ej
    exact ⟨x, y, e2, e3, e4⟩
end Kd
set_option maxHeartbeats 4000000
/-! setdefault with tuples as keys; del xs[0:] of an empty list; deep == told by trees. -/
namespace Kd
open PySem PySem.Spec PyProof.Rows L2
section
variable {X : Cx}
/-- d.setdefault(k, x), keys that are tuples -/
def rSetdT : V → List V → Hp → VK → Prop := fun x xs H Q => ∃ (a : Addr) (kvs : List (List L2.Key × V)) (k : List L2.Key) (b : Addr) (y : V), x = .ref a ∧ xs = [.ref b, y] ∧ H a = some (.dT kvs) ∧ H b = some (.tup (k.map kV)) ∧ kvs.length < sizeLine ∧
  (∀ v, valV kvs k = some v → Q v H) ∧ (valV kvs k = none → Q y (upd H a (.dT (putK kvs k y))))
theorem mt_setdT (hu : X.A.units + 64 < cLine) : MtR X "dict.setdefault" rSetdT := by
  intro pins s σ H x xs v us Q I rx rxs h
  obtain ⟨a, kvs, k, b, y, rfl, rfl, ha, hb, hl, q1, q2⟩ := h
  cases rx
  obtain ⟨u1, u2, rfl, r1, r2⟩ := vals2 rxs
  cases r1
  obtain ⟨z, hd, ps, rel, dd⟩ := dt_of I.hok ha
  have hz : ps.length ≤ sizeLine := by rw [← Paired.length rel]; exact z
  have val := rel.val k
  refine call_setdefault_heap (knd := tupleKind (mixKind X.prog X.w)) (k := k) (tupleKind_room_in1 (by omega)) (key_of I.hok hb) hd dd (fun p hp => ?_) (fun hn h' dd' hs => ?_) hz
  · rw [hp] at val
    cases ev : valV kvs k with
    | none => rw [ev] at val; exact (show False from val).elim
    | some v0 =>
      rw [ev] at val
      exact ⟨v0, H, I.tok _, val, q1 v0 ev⟩
  · rw [hn] at val
    cases ev : valV kvs k with
    | some v0 => rw [ev] at val; exact (show False from val).elim
    | none =>
      obtain ⟨o, es, ep, hq, g2, g3, g4, _, g5⟩ := dd'
      have hl2 : (putK kvs k y).length ≤ sizeLine := by
        have := length_putK kvs k y
        omega
      have nb : b ≠ a := ne_of hb ha (fun z => nomatch z)
      refine ⟨y, upd H a (.dT (putK kvs k y)), d_write (ob := .dT (putK kvs k y)) (t' := s.toks + _) I (by rw [ha]; exact True.intro) hs ⟨o, hq⟩ ⟨hl2, hd, _, (rel.put k hb r2).keeps (fun c ws ec => (by rw [upd_ne (ne_of ec ha (fun z => nomatch z))]; exact ec)), o, es, ep, hq, g2, g3, g4, g5⟩, r2, q2 ev⟩
/-! ### del xs[0:] of an empty list -/
theorem del_cut0 {prog : Program} {w : World} {A : Around} {E : Value → Shared → Prop} {s : Shared} {l sl : Addr} {n : Nat} {vl : Value} {Q : Unit → Shared → Prop} (e : s.heap.get? l = some { cls := .type "list", data := .seq #[] n }) (hs : s.heap.IsSliceOf sl vl .none .none) (pl : IsPart vl (some ((0 : Nat) : Int)))
    (h : ∀ f : Array Value → Array Value, f #[] = #[] → Q () { s with heap := s.heap.update l (Obj.mapSeq f) }) : wpAny (model prog w) A (delItem (.ref l) (.ref sl)) Q E s := by
  have hl : s.heap.IsList l #[] := PySem.IsL.isList e
  obtain ⟨os, hos, hcs, hds⟩ := id hs
  have hTs : s.TypeIs (.ref sl) "slice" := ⟨os, hos, hcs⟩
  have hstep : ¬ ((rawPart none == rawInt 0) = true) := Bool.false_ne_true
  refine wpAny_delItem_slot hl.typeIs (by decide) F.slot_list_delitem (wpAny_call_entry F.slot_list_delitem hl.typeIs F.entry_list_delitem ?_ (F.args_list_delitem_2 _ _))
  show wpAny _ _ (Builtin.List.listSubscript? (.ref sl) >>= _) _ _ s
  refine wpAny_bind ?_
  unfold Builtin.List.listSubscript?
  refine wpAny_bind (wpAny_specialOf hTs slice_no_index ?_)
  simp only [Option.isNone_none, if_true]
  refine wpAny_pure ?_
  show wpAny _ _ (typeOf (.ref sl) >>= _) _ _ s
  refine wpAny_bind (wpAny_typeOf hTs ?_)
  refine wp_if_neg (by decide) ?_
  rw [listSliceParts_eq]
  refine wpAny_bind (wpAny_bind (wpAny_field hos hds (x := .none) rfl (wpAny_bind (wpAny_listPart .none ?_))))
  rw [if_neg hstep]
  refine wpAny_bind (wpAny_field hos hds (x := vl) rfl (wpAny_bind (wpAny_listPart pl ?_)))
  refine wpAny_bind (wpAny_field hos hds (x := .none) rfl (wpAny_bind (wpAny_listPart .none (wpAny_pure ?_))))
  refine wpAny_bind ?_
  unfold Builtin.List.listItems
  refine wpAny_bind (wpAny_seqItems e rfl (wpAny_pure ?_))
  refine wpAny_bind (wpAny_of_eq ((sliceIndices_raw (some ((0 : Nat) : Int)) none none 0 (by simp)).trans (congrArg (pure : Int × Int × Int → Sem (Int × Int × Int)) (show sliceBounds (some ((0 : Nat) : Int)) none none 0 = (0, 0, 1) by decide))) ?_)
  refine wpAny_bind (wpAny_rule ?_)
  show wpAny _ _ (updateSeq l _ >>= fun _ => _) _ _ s
  refine wpAny_bind (wpAny_updateSeq e rfl (wpAny_bind (wpAny_letGo ?_)))
  exact wpAny_pure ⟨.none, rfl, h _ rfl⟩
/-- del xs[lo:] where nothing stands there -/
def tDelCut (to tl : TE) : TS := fun D σ H => to σ H fun x H1 => tl σ H1 fun y H2 => ∃ l : Addr, x = V.ref l ∧ y = .int 0 ∧ H2 l = some (.lst []) ∧ D.nx σ (upd H2 l (.lst []))
theorem ps_delCut {o i : Expr} {to tl : TE} {tpos ipos pos : Pos} (ho : PE X o to) (hi : PE X i tl) (hp : ∀ env, evalPart (some i) env = eval i env := by intro _; rfl) : PS X (.Delete [.Subscript o (.Slice (some i) none none ipos) tpos] pos) (tDelCut to tl) := by
  refine ⟨fun pins s σ H D I h => ?_⟩
  refine wpAny_Delete (wpAny_deleteEach_cons (wpAny_delete_Subscript (thn (ho.run pins s σ H _ I h) fun u s1 ⟨x, H1, I1, rx, q1⟩ => wpAny_Slice ?_)))
  rw [hp]
  refine thn (hi.run pins s1 σ H1 _ I1 q1) fun iv s2 ⟨y, H2, I2, ry, l, ex, ey, hH, q2⟩ => ?_
  rw [evalPart_none]
  refine wpAny_pure (wpAny_pure ?_)
  subst ex ey
  cases (show u = Value.ref l from rx)
  obtain ⟨t, rfl⟩ := (show ∃ t, iv = Value.int 0 t from ry)
  have I4 : Inv X pins σ H2 { s2 with heap := s2.heap.push { cls := .type "slice", data := .fields #[.int 0 t, .none, .none] } } := I2.kept (t' := s2.toks) fun b ob q => Heap.get?_push_of_some _ q
  obtain ⟨z, its, n, r, hl, e⟩ := I4.lstM hH
  cases r
  refine del_cut0 e (Heap.IsSliceOf.new ..) (.int _ _) fun f hf => wpAny_deleteEach_nil ⟨σ, _, I4.lset (its' := []) (t' := s2.toks) hH e hf .nil (Nat.zero_le _), q2⟩
end
end Kd
set_option maxHeartbeats 4000000
/-! deep == of trees. -/
namespace Kd
open PySem PySem.Spec PyProof.Rows L2
mutual
def toPy : D → PyData
  | .non => .none | .bl b => .bool b | .int i => .int i | .str s => .str s
  | .tup ds => .tuple (toPyL ds) | .lst ds => .list (toPyL ds) | .dct => .dict []
def toPyL : List D → List PyData
  | [] => []
  | d :: ds => toPy d :: toPyL ds
end
mutual
def noDct : D → Bool
  | .tup ds => noDctL ds | .lst ds => noDctL ds | .dct => false
  | _ => true
def noDctL : List D → Bool
  | [] => true
  | d :: ds => noDct d && noDctL ds
end
mutual
theorem dp_of {K : PySem.W.Frag} {G H : Hp} (s : Same G H) : ∀ {d : D} {v : V}, Rp G d v → noDct d = true → Dp K H v (toPy d)
  | .non, _, r, _ => by cases r; exact .non
  | .bl b, _, r, _ => by cases r; exact .bl b
  | .int i, _, r, _ => by cases r; exact .int i
  | .str x, _, r, _ => by cases r; exact .str x
  | .tup ds, _, ⟨a, vs, hv, ha, hr⟩, n => by subst hv; exact .tup (SqT.of (s a _ ha)) (dpL_of s hr n)
  | .lst ds, _, ⟨a, vs, hv, ha, hr⟩, n => by subst hv; exact .lst (SqL.of (s a _ ha)) (dpL_of s hr n)
  | .dct, _, _, n => by cases n
theorem dpL_of {K : PySem.W.Frag} {G H : Hp} (s : Same G H) : ∀ {ds : List D} {vs : List V}, RpL G ds vs → noDctL ds = true → DpAll K H vs (toPyL ds)
  | [], _, r, _ => by cases r; exact .nil
  | d :: ds, _, ⟨v, r, hv, h1, h2⟩, n => by
    subst hv
    have n : (noDct d && noDctL ds) = true := n
    rw [Bool.and_eq_true] at n
    exact .cons (dp_of s h1 n.1) (dpL_of s h2 n.2)
end
section
variable {K : PySem.W.Frag} {G : Hp} {d e : D}
theorem rd_eqD (hd : noDct d = true) (he : noDct e = true) (sd : SeqAt.shaped (toPy d) = true) (se : SeqAt.shaped (toPy e) = true) : Rd2 (rEqD K) G d e (.bl (PyData.eqv (toPy d) (toPy e))) := fun x y H s r1 r2 Q q =>
  ⟨_, _, dp_of s r1 hd, dp_of s r2 he, sd, se, q _ G H (gr0 s) rfl⟩
theorem rd_neD (hd : noDct d = true) (he : noDct e = true) (sd : SeqAt.shaped (toPy d) = true) (se : SeqAt.shaped (toPy e) = true) : Rd2 (rNeD K) G d e (.bl (!PyData.eqv (toPy d) (toPy e))) := fun x y H s r1 r2 Q q =>
  ⟨_, _, dp_of s r1 hd, dp_of s r2 he, sd, se, q _ G H (gr0 s) rfl⟩
theorem eqv_same (sd : SeqAt.shaped (toPy d) = true) : PyData.eqv (toPy d) (toPy d) = true := by
  unfold SeqAt.shaped at sd
  rw [Bool.and_eq_true] at sd
  exact SeqAt.eqv_refl _ sd.1
theorem rd_neSame (hd : noDct d = true) (sd : SeqAt.shaped (toPy d) = true) : Rd2 (rNeD K) G d d (.bl false) := by
  have h := rd_neD (K := K) (G := G) hd hd sd sd
  rw [eqv_same sd] at h
  exact h
end
end Kd
set_option maxHeartbeats 4000000
/-! Lists of one's own; loops. -/
namespace Kd
open PySem PySem.Spec PyProof.Rows L2
/-- a list that this call has made and may still change -/
structure Own (H0 G H : Hp) (l : Addr) (ds : List D) : Prop where
  h0 : H0 l = none
  g : G l = none
  e : ∃ vs, H l = some (.lst vs) ∧ RpL G ds vs
abbrev Ows (H0 G H G' H' : Hp) : Prop := ∀ m es, Own H0 G H m es → Own H0 G' H' m es
section
variable {K : PySem.W.Frag} {σ : L2.St} {G G1 : Hp} {te ta tb tc : TE} {t u : TT} {d e z : D} {b c : Bool} {v : V} {l m : Addr} {ds es : List D}
variable {M : List Addr} {G0 H0 H G' H' : Hp} {Dn : Ends} {tu tw : TS}
theorem Own.kp (o : Own H0 G H l ds) (s : Same G G') (k : Kp G H G' H') : Own H0 G' H' l ds := by
  obtain ⟨vs, e, r⟩ := o.e
  exact ⟨o.h0, (k l _ e).2 o.g, vs, (k l _ e).1, r.mono s⟩
theorem Own.upd {o' : HO} (o : Own H0 G H l ds) (n : l ≠ m) : Own H0 G (upd H m o') l ds := by
  obtain ⟨vs, e, r⟩ := o.e
  exact ⟨o.h0, o.g, vs, by rw [upd_ne n]; exact e, r⟩
theorem Own.set {vs : List V} (o : Own H0 G H l ds) (r : RpL G es vs) : Own H0 G (L2.upd H l (.lst vs)) l es := ⟨o.h0, o.g, vs, upd_same, r⟩
theorem Own.len (o : Own H0 G H l ds) : ∃ vs, H l = some (.lst vs) ∧ RpL G ds vs ∧ vs.length = ds.length := by
  obtain ⟨vs, e, r⟩ := o.e
  exact ⟨vs, e, r, r.len⟩
theorem same_frz (hg : G l = none) {o : HO} : Same G (upd G l o) := fun a u e => by rw [upd_ne (ne_of_none e hg)]; exact e
/-- it is frozen from now on -/
theorem Own.frz (o : Own H0 G H l ds) (g : Gr M G0 H0 G H) : ∃ G', Gr M G0 H0 G' H ∧ Same G G' ∧ Rp G' (.lst ds) (.ref l) ∧ (∀ m es, m ≠ l → Own H0 G H m es → Own H0 G' H m es) ∧ (∀ a, a ≠ l → G a = none → G' a = none) := by
  obtain ⟨vs, e, r⟩ := o.e
  have s : Same G (L2.upd G l (.lst vs)) := same_frz o.g
  refine ⟨_, g.frz e o.g o.h0, s, ⟨l, vs, rfl, upd_same, r.mono s⟩, fun m es n q => ?_, fun a n q => by rw [upd_ne n]; exact q⟩
  obtain ⟨ws, e2, r2⟩ := q.e
  exact ⟨q.h0, by rw [upd_ne n]; exact q.g, ws, e2, r2.mono s⟩
/-! statements -/
/-- xs = [..] -/
theorem o_new {i : Nat} {tA : TA} (h : Eds tA σ G ds) (hl : ds.length ≤ 100000) (g : Gr M G0 H0 G H) (k : ∀ l G' H', Gr M G0 H0 G' H' → Same G G' → Kp G H G' H' → Own H0 G' H' l ds → (∀ m es, Own H0 G H m es → Own H0 G' H' m es ∧ m ≠ l) → Dn.nx (σ.set i (some (.ref l))) H') : tAsg (tLst tA) (gName i) Dn σ H := h H g.s _ fun vs G1 H1 g1 r1 => by
  refine ⟨by rw [r1.len]; exact Nat.le_trans hl (by decide), fun l hn => ?_⟩
  have gg := g.call g1
  have h0 := gg.free hn
  refine k l G1 _ (gg.tmp hn) g1.g ?_ ⟨h0, gg.gfree hn, vs, upd_same, r1⟩ fun m es o => ?_
  · exact fun a o e => ⟨by rw [upd_ne (ne_of_none (g1.kp a o e).1 hn)]; exact (g1.kp a o e).1, (g1.kp a o e).2⟩
  · have q := o.kp g1.g g1.kp
    obtain ⟨ws, e, _⟩ := q.e
    exact ⟨q.upd (ne_of_none e hn), ne_of_none e hn⟩
theorem kp_new {o : HO} (h : H l = none) : Kp G H G (upd H l o) := fun a u e => ⟨by rw [upd_ne (ne_of_none e h)]; exact e, id⟩
/-- a, b = [..], [..] -/
theorem o_parNN {i j : Nat} {tA tB : TA} {es : List D} (h : Eds tA σ G ds) (h2 : Eds tB σ G es) (hl : ds.length ≤ 100000) (hl2 : es.length ≤ 100000) (g : Gr M G0 H0 G H)
    (k : ∀ l m G' H', Gr M G0 H0 G' H' → Same G G' → Kp G H G' H' → Own H0 G' H' l ds → Own H0 G' H' m es → l ≠ m → (∀ q xs, Own H0 G H q xs → Own H0 G' H' q xs ∧ q ≠ l ∧ q ≠ m) → Dn.nx ((σ.set i (some (.ref l))).set j (some (.ref m))) H') : tPar i j (tCons (tLst tA) (tCons (tLst tB) tNil)) Dn σ H := h H g.s _ fun vs G1 H1 g1 r1 => by
  refine ⟨by rw [r1.len]; exact Nat.le_trans hl (by decide), fun l hn => ?_⟩
  have ga := g.call g1
  have gb := ga.tmp (o := .lst vs) hn
  refine h2.mono g1.g _ gb.s _ fun ws G2 H2 g2 r2 => ?_
  refine ⟨by rw [r2.len]; exact Nat.le_trans hl2 (by decide), fun m hm => ⟨_, _, rfl, ?_⟩⟩
  have gc := gb.call g2
  have o1 : Own H0 G1 (upd H1 l (.lst vs)) l ds := ⟨ga.free hn, ga.gfree hn, vs, upd_same, r1⟩
  have o1' := o1.kp g2.g g2.kp
  obtain ⟨_, e1, _⟩ := o1'.e
  have k1 : Kp G H G2 H2 := (g1.kp.trans (kp_new hn)).trans g2.kp
  have nlm := ne_of_none e1 hm
  refine k l m G2 _ (gc.tmp hm) (g1.g.trans g2.g) (k1.trans (kp_new hm)) (o1'.upd nlm) ⟨gc.free hm, gc.gfree hm, ws, upd_same, r2⟩ nlm fun q xs oq => ?_
  have q1 := oq.kp g1.g g1.kp
  obtain ⟨_, eq1, _⟩ := q1.e
  have q2 := (q1.upd (o' := .lst vs) (ne_of_none eq1 hn)).kp g2.g g2.kp
  obtain ⟨_, eq2, _⟩ := q2.e
  exact ⟨q2.upd (ne_of_none eq2 hm), ne_of_none eq1 hn, ne_of_none eq2 hm⟩
/-- a, b = e, [..] -/
theorem o_parEN {i j : Nat} {tB : TA} {es : List D} (h : Ed te σ G d) (h2 : Eds tB σ G es) (hl2 : es.length ≤ 100000) (g : Gr M G0 H0 G H)
    (k : ∀ v m G' H', Gr M G0 H0 G' H' → Same G G' → Kp G H G' H' → Rp G' d v → Own H0 G' H' m es → (∀ q xs, Own H0 G H q xs → Own H0 G' H' q xs ∧ q ≠ m) → Dn.nx ((σ.set i (some v)).set j (some (.ref m))) H') : tPar i j (tCons te (tCons (tLst tB) tNil)) Dn σ H := h H g.s _ fun v G1 H1 g1 r1 => by
  have ga := g.call g1
  refine h2.mono g1.g _ ga.s _ fun ws G2 H2 g2 r2 => ?_
  refine ⟨by rw [r2.len]; exact Nat.le_trans hl2 (by decide), fun m hm => ⟨_, _, rfl, ?_⟩⟩
  have gc := ga.call g2
  refine k v m G2 _ (gc.tmp hm) (g1.g.trans g2.g) ((g1.kp.trans g2.kp).trans (kp_new hm)) (r1.mono g2.g) ⟨gc.free hm, gc.gfree hm, ws, upd_same, r2⟩ fun q xs oq => ?_
  have q2 := (oq.kp g1.g g1.kp).kp g2.g g2.kp
  obtain ⟨_, eq2, _⟩ := q2.e
  exact ⟨q2.upd (ne_of_none eq2 hm), ne_of_none eq2 hm⟩
/-- xs.append(e) -/
theorem o_append {i : Nat} (hv : σ[i]? = some (some (.ref l))) (he : Ed te σ G d) (g : Gr M G0 H0 G H) (o : Own H0 G H l ds) (hl : ds.length < 100000)
    (k : ∀ G' H', Gr M G0 H0 G' H' → Same G G' → Own H0 G' H' l (ds ++ [d]) → (∀ m es, m ≠ l → Own H0 G H m es → Own H0 G' H' m es) → (∀ a x, a ≠ l → H a = some x → H' a = some x ∧ (G a = none → G' a = none)) → Dn.nx σ H') : tDrop (tBM K "list" rAppend (tVar i) (tCons te tNil)) Dn σ H := by
  obtain ⟨vs0, e0, _⟩ := o.e
  refine ⟨_, hv, .inl ⟨rfl, _, SqL.of e0⟩, he H g.s _ fun v G1 H1 g1 r1 => ?_⟩
  have o1 := o.kp g1.g g1.kp
  obtain ⟨vs, e, r, hlen⟩ := o1.len
  refine ⟨l, vs, v, rfl, rfl, e, by rw [hlen]; exact Nat.lt_of_lt_of_le hl (by decide), ?_⟩
  exact k G1 _ ((g.call g1).mut o1.g o1.h0) g1.g (o1.set (r.snoc r1)) (fun m es n q => (q.kp g1.g g1.kp).upd n) fun a x n e => ⟨by rw [upd_ne n]; exact (g1.kp a x e).1, (g1.kp a x e).2⟩
/-- xs.extend(e) -/
theorem o_extend {i : Nat} (hv : σ[i]? = some (some (.ref l))) (he : Ed te σ G (.lst es)) (g : Gr M G0 H0 G H) (o : Own H0 G H l ds) (hl : ds.length + es.length ≤ 100000)
    (k : ∀ G' H', Gr M G0 H0 G' H' → Same G G' → Own H0 G' H' l (ds ++ es) → (∀ m es, m ≠ l → Own H0 G H m es → Own H0 G' H' m es) → (∀ a x, a ≠ l → H a = some x → H' a = some x ∧ (G a = none → G' a = none)) → Dn.nx σ H') : tDrop (tBM K "list" rExtend (tVar i) (tCons te tNil)) Dn σ H := by
  obtain ⟨vs0, e0, _⟩ := o.e
  refine ⟨_, hv, .inl ⟨rfl, _, SqL.of e0⟩, he H g.s _ fun v G1 H1 g1 r1 => ?_⟩
  have o1 := o.kp g1.g g1.kp
  obtain ⟨vs, e, r, hlen⟩ := o1.len
  obtain ⟨a, ws, rfl, ha, hr⟩ := r1
  refine ⟨l, a, vs, ws, rfl, rfl, e, g1.s a _ ha, by rw [hlen, hr.len]; exact Nat.le_trans hl (by decide), ?_⟩
  exact k G1 _ ((g.call g1).mut o1.g o1.h0) g1.g (o1.set (r.app hr)) (fun m es n q => (q.kp g1.g g1.kp).upd n) fun a x n e => ⟨by rw [upd_ne n]; exact (g1.kp a x e).1, (g1.kp a x e).2⟩
/-- xs.pop(), as a value that is then used -/
theorem o_popV {i : Nat} {Q : VK} (hv : σ[i]? = some (some (.ref l))) (g : Gr M G0 H0 G H) (o : Own H0 G H l (ds ++ [d]))
    (k : ∀ v H', Gr M G0 H0 G H' → Own H0 G H' l ds → (∀ m es, m ≠ l → Own H0 G H m es → Own H0 G H' m es) → (∀ a x, a ≠ l → H a = some x → H' a = some x) → Rp G d v → Q v H') : tBM0 K "list" rPop (tVar i) σ H Q := by
  obtain ⟨vs, e, r⟩ := o.e
  obtain ⟨vs', u, rfl, r1, r2⟩ := RpL.unsnoc r
  refine ⟨_, hv, .inl ⟨rfl, _, SqL.of e⟩, l, _, u, rfl, rfl, e, by simp, ?_⟩
  rw [List.dropLast_concat]
  exact k u _ (g.mut o.g o.h0) (o.set r1) (fun m es n q => q.upd n) (fun a x n e => by rw [upd_ne n]; exact e) r2
theorem o_pop {i j : Nat} (hv : σ[i]? = some (some (.ref l))) (g : Gr M G0 H0 G H) (o : Own H0 G H l (ds ++ [d]))
    (k : ∀ v H', Gr M G0 H0 G H' → Own H0 G H' l ds → (∀ m es, m ≠ l → Own H0 G H m es → Own H0 G H' m es) → (∀ a x, a ≠ l → H a = some x → H' a = some x) → Rp G d v → Dn.nx (σ.set j (some v)) H') : tAsg (tBM0 K "list" rPop (tVar i)) (gName j) Dn σ H := o_popV hv g o k
/-- a pair is taken apart -/
theorem g_two {n : Nat} {i j : Nat} {σ0 : L2.St} {Q : L2.St → Hp → Prop} (s : Same G H) (r : Rp G (.tup [d, e]) v) (hn : n = 2) (k : ∀ x y, Rp G d x → Rp G e y → Q ((σ0.set i (some x)).set j (some y)) H) : gTup K n (gCons (gName i) (gCons (gName j) gNil)) v σ0 H Q := by
  obtain ⟨a, vs, rfl, ha, x, _, rfl, hx, y, _, rfl, hy, rfl⟩ := r
  exact ⟨a, _, rfl, SqT.of (s a _ ha), hn.symm, x, _, rfl, y, _, rfl, rfl, k x y hx hy⟩
theorem g_three {n : Nat} {i j q : Nat} {σ0 : L2.St} {Q : L2.St → Hp → Prop} (s : Same G H) (r : Rp G (.tup [d, e, z]) v) (hn : n = 3) (k : ∀ x y w, Rp G d x → Rp G e y → Rp G z w → Q (((σ0.set i (some x)).set j (some y)).set q (some w)) H) : gTup K n (gCons (gName i) (gCons (gName j) (gCons (gName q) gNil))) v σ0 H Q := by
  obtain ⟨a, vs, rfl, ha, x, _, rfl, hx, y, _, rfl, hy, w, _, rfl, hw, rfl⟩ := r
  exact ⟨a, _, rfl, SqT.of (s a _ ha), hn.symm, x, _, rfl, y, _, rfl, w, _, rfl, rfl, k x y w hx hy hw⟩
theorem o_pop2 {n i j q : Nat} (hv : σ[i]? = some (some (.ref l))) (g : Gr M G0 H0 G H) (o : Own H0 G H l (ds ++ [.tup [d, e]])) (hn : n = 2)
    (k : ∀ x y H', Gr M G0 H0 G H' → Own H0 G H' l ds → (∀ m es, m ≠ l → Own H0 G H m es → Own H0 G H' m es) → (∀ a x, a ≠ l → H a = some x → H' a = some x) → Rp G d x → Rp G e y → Dn.nx ((σ.set j (some x)).set q (some y)) H') : tAsg (tBM0 K "list" rPop (tVar i)) (gTup K n (gCons (gName j) (gCons (gName q) gNil))) Dn σ H :=
  o_popV hv g o fun v H' g' o' ks ko r => g_two g'.s r hn fun x y hx hy => k x y H' g' o' ks ko hx hy
/-- one list is walked into another: xs.append(ys.pop()) -/
theorem o_move {i j : Nat} (hv : σ[i]? = some (some (.ref l))) (hw : σ[j]? = some (some (.ref m))) (g : Gr M G0 H0 G H) (o : Own H0 G H l ds) (o2 : Own H0 G H m (es ++ [d])) (n : l ≠ m) (hl : ds.length < 100000)
    (k : ∀ H', Gr M G0 H0 G H' → Own H0 G H' l (ds ++ [d]) → Own H0 G H' m es → (∀ a x, a ≠ l → a ≠ m → H a = some x → H' a = some x) → (∀ m' es, m' ≠ l → m' ≠ m → Own H0 G H m' es → Own H0 G H' m' es) → Dn.nx σ H') : tDrop (tBM K "list" rAppend (tVar i) (tCons (tBM0 K "list" rPop (tVar j)) tNil)) Dn σ H := by
  obtain ⟨vs0, e0, _⟩ := o.e
  refine ⟨_, hv, .inl ⟨rfl, _, SqL.of e0⟩, o_popV hw g o2 fun v H1 g1 o1 ks ko r => ?_⟩
  obtain ⟨vs, e, r', hlen⟩ := (ks l ds n o).len
  refine ⟨l, vs, v, rfl, rfl, e, by rw [hlen]; exact Nat.lt_of_lt_of_le hl (by decide), ?_⟩
  have o' := ks l ds n o
  exact k _ (g1.mut o'.g o'.h0) (o'.set (r'.snoc r)) (o1.upd (Ne.symm n)) (fun a x n1 n2 e => by rw [upd_ne n1]; exact ko a x n2 e) fun m' es n1 n2 q => (ks m' es n2 q).upd n1
/-! reading a list of one's own for a number or a truth value: it stands as if frozen meanwhile -/
def EbH (t : TT) (σ : L2.St) (G H : Hp) (b : Bool) : Prop := ∀ Q : Bool → Hp → Prop, (∀ H', Gp G H G H' → Q b H') → t σ H Q
theorem Own.eb (o : Own H0 G H l ds) (g : Same G H) (h : ∀ Gx, Same G Gx → Rp Gx (.lst ds) (.ref l) → Eb t σ Gx b) : EbH t σ G H b := fun Q q => by
  obtain ⟨vs, e, r⟩ := o.e
  have s : Same G (L2.upd G l (.lst vs)) := same_frz o.g
  refine h _ s ⟨l, vs, rfl, upd_same, r.mono s⟩ H (fun a x q => ?_) Q fun H' g' => q H' ⟨g'.h, g'.t, Same.refl _, g.trans g'.e, fun _ z _ => z⟩
  by_cases z : a = l
  · rw [z] at q ⊢
    rw [upd_same] at q
    rw [e]
    exact q
  · rw [upd_ne z] at q
    exact g a x q
theorem s_ifH (h : EbH t σ G H b) (g : Gr M G0 H0 G H) (h1 : b = true → ∀ H', Gr M G0 H0 G H' → Kp G H G H' → tu Dn σ H') (h2 : b = false → ∀ H', Gr M G0 H0 G H' → Kp G H G H' → tw Dn σ H') : tIfS t tu tw Dn σ H := h _ fun H1 g1 => by
  cases b with
  | true =>
    show tu Dn σ H1
    exact h1 rfl H1 (g.call g1) g1.kp
  | false =>
    show tw Dn σ H1
    exact h2 rfl H1 (g.call g1) g1.kp
/-- a number, a truth value, a text, None -/
def scl : D → Bool
  | .non => true | .bl _ => true | .int _ => true | .str _ => true
  | _ => false
theorem Rp.scl {G2 : Hp} (h : scl d = true) (r : Rp G d v) : Rp G2 d v := by
  cases d <;> first | exact r | cases h
def EdH (te : TE) (σ : L2.St) (G H : Hp) (d : D) : Prop := ∀ Q : VK, (∀ v G' H', Gp G H G' H' → Rp G' d v → Q v H') → te σ H Q
theorem Own.ed (o : Own H0 G H l ds) (g : Same G H) (hs : Kd.scl d = true) (h : ∀ Gx, Same G Gx → Rp Gx (.lst ds) (.ref l) → Ed te σ Gx d) : EdH te σ G H d := fun Q q => by
  obtain ⟨vs, e, r⟩ := o.e
  have s : Same G (L2.upd G l (.lst vs)) := same_frz o.g
  refine h _ s ⟨l, vs, rfl, upd_same, r.mono s⟩ H (fun a x q => ?_) Q fun v G' H' g' r' => q v G H' ⟨g'.h, g'.t, Same.refl _, g.trans g'.e, fun _ z _ => z⟩ (r'.scl hs)
  by_cases z : a = l
  · rw [z] at q ⊢
    rw [upd_same] at q
    rw [e]
    exact q
  · rw [upd_ne z] at q
    exact g a x q
theorem o_appendH {i : Nat} (hv : σ[i]? = some (some (.ref l))) (he : EdH te σ G H d) (g : Gr M G0 H0 G H) (o : Own H0 G H l ds) (hl : ds.length < 100000)
    (k : ∀ G' H', Gr M G0 H0 G' H' → Same G G' → Own H0 G' H' l (ds ++ [d]) → (∀ m es, m ≠ l → Own H0 G H m es → Own H0 G' H' m es) → (∀ a x, a ≠ l → H a = some x → H' a = some x ∧ (G a = none → G' a = none)) → Dn.nx σ H') : tDrop (tBM K "list" rAppend (tVar i) (tCons te tNil)) Dn σ H := by
  obtain ⟨vs0, e0, _⟩ := o.e
  refine ⟨_, hv, .inl ⟨rfl, _, SqL.of e0⟩, he _ fun v G1 H1 g1 r1 => ?_⟩
  have o1 := o.kp g1.g g1.kp
  obtain ⟨vs, e, r, hlen⟩ := o1.len
  refine ⟨l, vs, v, rfl, rfl, e, by rw [hlen]; exact Nat.lt_of_lt_of_le hl (by decide), ?_⟩
  exact k G1 _ ((g.call g1).mut o1.g o1.h0) g1.g (o1.set (r.snoc r1)) (fun m es n q => (q.kp g1.g g1.kp).upd n) fun a x n e => ⟨by rw [upd_ne n]; exact (g1.kp a x e).1, (g1.kp a x e).2⟩
/-- x = e where e reads a list of one's own and gives a number -/
theorem o_setS {i : Nat} (o : Own H0 G H l ds) (hs : scl d = true) (h : ∀ Gx, Same G Gx → Rp Gx (.lst ds) (.ref l) → Ed te σ Gx d) (g : Gr M G0 H0 G H)
    (k : ∀ v H', Gr M G0 H0 G H' → Kp G H G H' → Rp G d v → Dn.nx (σ.set i (some v)) H') : tAsg te (gName i) Dn σ H := by
  obtain ⟨vs, e, r⟩ := o.e
  have s : Same G (upd G l (.lst vs)) := same_frz o.g
  refine h _ s ⟨l, vs, rfl, upd_same, r.mono s⟩ H (fun a x q => ?_) _ fun v G' H' g' r' => ?_
  · by_cases z : a = l
    · rw [z] at q ⊢
      rw [upd_same] at q
      rw [e]
      exact q
    · rw [upd_ne z] at q
      exact g.s a x q
  · have g2 : Gp G H G H' := ⟨g'.h, g'.t, Same.refl _, g.s.trans g'.e, fun _ z _ => z⟩
    exact k v H' (g.call g2) g2.kp (r'.scl hs)
theorem s_seq {x y : TS} (h : x { Dn with nx := y Dn } σ H) : tSeq x y Dn σ H := h
/-! loops -/
/-- while: m falls at each turn -/
theorem s_while (Iv : Nat → L2.St → Hp → Hp → Prop) (g : Gr M G0 H0 G H) {m0 : Nat} (h0 : Iv m0 σ G H)
    (turn : ∀ m σ G H, Gr M G0 H0 G H → Iv m σ G H → t σ H fun b H1 => if b = true then ∃ N : L2.St → Hp → Prop, (∀ σ' H', N σ' H' → ∃ m', m' < m ∧ ∃ G', Gr M G0 H0 G' H' ∧ Iv m' σ' G' H') ∧ tu { Dn with nx := N, ct := N, bk := Dn.nx } σ H1 else Dn.nx σ H1) : tWhile t tu Dn σ H := by
  refine ⟨fun m σ H => ∃ G, Gr M G0 H0 G H ∧ Iv m σ G H, ⟨m0, G, g, h0⟩, ?_⟩
  rintro m σ1 H1 ⟨G1, g1, i1⟩
  exact turn m σ1 G1 H1 g1 i1
/-- for: the invariant by the turn -/
theorem s_for {wi : TI} {gt : TG} {items : List D} (hs : Es wi σ G items) (g : Gr M G0 H0 G H) (Iv : Nat → L2.St → Hp → Hp → Prop)
    (h0 : ∀ G' H', Gr M G0 H0 G' H' → Same G G' → Kp G H G' H' → Iv 0 σ G' H')
    (turn : ∀ (Gs : Hp) i d v σ Gi Hi Gj Hj, items[i]? = some d → Same G Gs → Same Gs Gi → Iv i σ Gi Hi → Gr M G0 H0 Gj Hj → Same Gi Gj → Kp Gi Hi Gj Hj → Rp Gj d v →
      gt v σ Hj fun σ2 H2 => tu { Dn with nx := fun σ' H' => ∃ G', Gr M G0 H0 G' H' ∧ Same Gs G' ∧ Iv (i + 1) σ' G' H', ct := fun σ' H' => ∃ G', Gr M G0 H0 G' H' ∧ Same Gs G' ∧ Iv (i + 1) σ' G' H', bk := Dn.nx } σ2 H2)
    (hd : ∀ σ G' H', Gr M G0 H0 G' H' → Same G G' → Iv items.length σ G' H' → Dn.nx σ H') : tFor wi gt tu Dn σ H := hs H g.s _ fun J Gs H1 g1 W => by
  refine for_it W (fun i σ' H' => ∃ G', Gr M G0 H0 G' H' ∧ Same Gs G' ∧ Iv i σ' G' H') ?_ ?_ ?_ ?_
  · exact ⟨Gs, g.call g1, Same.refl _, h0 Gs H1 (g.call g1) g1.g g1.kp⟩
  · rintro i σ' H' _ ⟨G', g', s', _⟩
    exact s'.trans g'.s
  · rintro i x σ' Hi Hj hi ⟨Gi, gi, si, iv⟩ ⟨d, hd', y⟩
    obtain ⟨Gj, gj, r⟩ := y Gi si gi.s
    exact turn Gs i d x σ' Gi Hi Gj Hj hd' g1.g si iv (gi.call gj) gj.g gj.kp r
  · rintro σ' H' ⟨G', g', s', iv⟩
    exact hd σ' G' H' g' (g1.g.trans s') iv
end
end Kd
set_option maxHeartbeats 4000000
/-! A set comprehension of texts with two clauses, told by trees; promises that leave the outcome open. -/
namespace Kd
open PySem PySem.Spec PyProof.Rows L2
theorem nodup_len {α : Type} [BEq α] [LawfulBEq α] : ∀ {l N : List α}, l.Nodup → (∀ x ∈ l, x ∈ N) → l.length ≤ N.length
  | [], _, _, _ => Nat.zero_le _
  | x :: l, N, h, k => by
    have h1 := List.nodup_cons.mp h
    have hx : x ∈ N := k x (by simp)
    have ih := nodup_len (l := l) (N := N.erase x) h1.2 fun y hy => (List.mem_erase_of_ne (fun z => h1.1 (by rw [← z]; exact hy))).mpr (k y (by simp [hy]))
    rw [List.length_erase_of_mem hx] at ih
    have : 0 < N.length := List.length_pos_of_mem hx
    simp only [List.length_cons]
    omega
/-- the promise: any outcome that R allows -/
def spAll (pre : List D → Prop) (R : List D → D → Prop) : Sp := fun vs H Q _ => ∃ G ds, Same G H ∧ RpL G ds vs ∧ pre ds ∧ ∀ d v G' H', R ds d → Gp G H G' H' → Rp G' d v → Q v H'
section
variable {P : Program} {w : World} {K : PySem.W.Frag} {σ : L2.St} {G : Hp} {te : TE} {wi wi1 : TI} {g g1 : TG}
/-- what one row gives -/
structure RowS (P : Program) (w : World) (N : List Str) (wi1 : TI) (g1 : TG) (te : TE) (vs1 : List Nat) (σ2 : L2.St) (G2 : Hp) (ns : List Str) : Prop where
  ex : ∃ items1 : List D, ∃ nm : D → Str, Es wi1 σ2 G2 items1 ∧ items1.map nm = ns ∧ ∀ d1 ∈ items1, nm d1 ∈ N ∧ ∀ G3, Same G2 G3 → Tk g1 (wipe σ2 vs1) G3 d1 fun σ3 G4 => wipe σ3 vs1 = wipe σ2 vs1 ∧ Ed te σ3 G4 (.str (nm d1))
theorem run_sc2 {items : List D} {names : D → List Str} {N : List Str} {vs vs1 : List Nat} (hs : Es wi σ G items) (hN : N.length ≤ 4000)
    (ht : ∀ d ∈ items, ∀ G', Same G G' → Tk g (wipe σ vs) G' d fun σ2 G2 => wipe σ2 vs = wipe σ vs ∧ RowS P w N wi1 g1 te vs1 σ2 G2 (names d)) {H : Hp} (s : Same G H) {Q : VK}
    (q : ∀ a l G' H', Gp G H G' H' → H' a = some (SetSO P w a l) → l.length ≤ 4000 → (∀ z, z ∈ l ↔ ∃ d ∈ items, z ∈ names d) → Q (.ref a) H') : tSc2 P w wi g tYes wi1 g1 tYes te vs vs1 σ H Q := by
  refine hs H s _ fun J G1 H1 ga W D hD => ?_
  -- the set so far
  let St : List Str → Hp → Hp → Prop := fun L Gj Hj => Gp G H Gj Hj ∧ Same G1 Gj ∧ Gj D = none ∧ ∃ l, Hj D = some (SetSO P w D l) ∧ l.Nodup ∧ (∀ z, z ∈ l ↔ z ∈ L) ∧ (∀ z ∈ l, z ∈ N)
  have step : ∀ {L Gj Hj Gk Hk}, St L Gj Hj → Gp Gj Hj Gk Hk → St L Gk Hk := by
    rintro L Gj Hj Gk Hk ⟨a1, a2, a3, l, a4, a5⟩ gk
    exact ⟨a1.trans gk, a2.trans gk.g, gk.n D a3 (some_ne a4), l, gk.e D _ a4, a5⟩
  refine ⟨fun i m Hj => m = items.length - i ∧ i ≤ items.length ∧ ∃ Gj, St ((items.take i).flatMap names) Gj Hj, ⟨_, rfl, Nat.zero_le _, G1, ga.tmp hD, Same.refl _, ga.gfree hD, [], upd_same, List.nodup_nil, fun z => by simp, fun z hz => by simp at hz⟩, ?_⟩
  rintro i m Hj ⟨rfl, hi, Gj, st⟩
  have sj : Same G1 Hj := st.2.1.trans st.1.s
  by_cases hlt : i < items.length
  · refine .inr ⟨W.goes i Hj hlt sj, fun H' => ∃ Gj, St ((items.take (i + 1)).flatMap names) Gj H', fun H' p => ⟨items.length - (i + 1), by omega, rfl, hlt, p⟩, fun x Hx y => ?_⟩
    obtain ⟨d, hd, y⟩ := W.yields i Hj x Hx hlt sj y
    obtain ⟨Gk, gk, rk⟩ := y Gj st.2.1 st.1.s
    have st := step st gk
    have hmem : d ∈ items := List.mem_of_getElem? hd
    refine ht d hmem Gk (st.1.g) x Hx gk.s rk _ fun σ2 h2 => ?_
    obtain ⟨hw, ⟨items1, nm, hs1, hnm, ht1⟩⟩ := h2
    have etake : (items.take (i + 1)).flatMap names = (items.take i).flatMap names ++ items1.map nm := by
      rw [take_snoc hd, List.flatMap_append, hnm]
      simp
    refine ⟨hw, ?_⟩
    simp only [tYes, ↓reduceIte]
    refine hs1 Hx gk.s _ fun J1 G2 H2 g2 W1 => ?_
    have st := step st g2
    let St1 : Nat → Hp → Hp → Prop := fun j Gj Hj => Same G2 Gj ∧ St ((items.take i).flatMap names ++ (items1.take j).map nm) Gj Hj
    refine ⟨fun j k Hq => k = items1.length - j ∧ j ≤ items1.length ∧ ∃ Gq, St1 j Gq Hq, ⟨_, rfl, Nat.zero_le _, G2, Same.refl _, by simpa using st⟩, ?_⟩
    rintro j k Hq ⟨rfl, hj, Gq, sq, stq⟩
    have sq1 : Same G2 Hq := sq.trans stq.1.s
    by_cases hlt1 : j < items1.length
    · refine .inr ⟨W1.goes j Hq hlt1 sq1, fun H' => ∃ Gq, St1 (j + 1) Gq H', fun H' p => ⟨items1.length - (j + 1), by omega, rfl, hlt1, p⟩, fun x1 Hx1 y1 => ?_⟩
      obtain ⟨d1, hd1, y1⟩ := W1.yields j Hq x1 Hx1 hlt1 sq1 y1
      obtain ⟨Gr', gr, rr⟩ := y1 Gq sq stq.1.s
      have stq := step stq gr
      obtain ⟨hin, ht1⟩ := ht1 d1 (List.mem_of_getElem? hd1)
      refine ht1 Gr' ((g2.g.trans sq).trans gr.g) x1 Hx1 gr.s rr _ fun σ3 h3 => ?_
      refine ⟨h3.1, ?_⟩
      simp only [tYes, ↓reduceIte]
      refine h3.2 Hx1 gr.s _ fun v Gs Hs gs rs => ?_
      cases (show v = .str (nm d1) from rs)
      obtain ⟨a1, a2, a3, l, a4, a5, a6, a7⟩ := step stq gs
      have hlen : l.length ≤ 4000 := Nat.le_trans (nodup_len a5 a7) hN
      refine ⟨nm d1, l, rfl, a4, Nat.lt_of_le_of_lt (Nat.succ_le_succ hlen) (by decide), Gs, (sq.trans gr.g).trans gs.g, a1.mut a3 (ga.free hD), a2, a3, insS (nm d1) l, upd_same, nodup_insS a5, fun z => ?_, fun z hz => ?_⟩
      · rw [mem_insS, a6, take_snoc hd1]
        simp [or_comm, or_assoc, or_left_comm]
      · rcases mem_insS.mp hz with rfl | hz
        · exact hin
        · exact a7 z hz
    · have e : j = items1.length := by omega
      subst e
      refine .inl ⟨W1.stops Hq sq1, Gq, ?_⟩
      rw [etake]
      rw [List.take_length] at stq
      exact stq
  · have e : i = items.length := by omega
    subst e
    refine .inl ⟨W.stops Hj sj, ?_⟩
    obtain ⟨a1, a2, a3, l, a4, a5, a6, a7⟩ := st
    rw [List.take_length] at a6
    exact q D l Gj Hj a1 a4 (Nat.le_trans (nodup_len a5 a7) hN) fun z => by rw [a6, List.mem_flatMap]
end
end Kd
set_option maxHeartbeats 4000000
/-! More of the same: outcomes left open, list(zip), things of one's own other than lists. -/
namespace Kd
open PySem PySem.Spec PyProof.Rows L2
section
variable {K : PySem.W.Frag} {σ : L2.St} {G G1 : Hp} {te ta tb tc : TE} {t u : TT} {d e z : D} {b c : Bool} {v : V} {l m : Addr} {ds es : List D} {r : R2}
variable {M : List Addr} {G0 H0 H G' H' : Hp} {Dn : Ends} {tu tw : TS}
theorem rpl_of : ∀ {ds : List D} {vs : List V}, vs.length = ds.length → (∀ (j : Nat) (v : V), vs[j]? = some v → ∃ d, ds[j]? = some d ∧ Rp G d v) → RpL G ds vs
  | [], [], _, _ => rfl
  | [], _ :: _, h, _ => by simp at h
  | _ :: _, [], h, _ => by simp at h
  | d :: ds, v :: vs, h, k => by
    obtain ⟨e, h1, h2⟩ := k 0 v rfl
    have h1 : d = e := by simpa using h1
    subst h1
    exact ⟨v, vs, rfl, h2, rpl_of (by simpa using h) fun j u hj => by simpa using k (j + 1) u (by simpa using hj)⟩
theorem ed_listZip (h : Ed ta σ G (.lst ds)) (h2 : Ed tb σ G (.lst es)) : Ed (tListZip K (tCons ta (tCons tb tNil))) σ G (.lst (List.zipWith (fun x y => D.tup [x, y]) ds es)) := fun H s Q q =>
  (eds_cons h (eds_cons h2 eds_nil)) H s _ fun vs G1 H1 g1 r1 => by
    obtain ⟨x, r2, rfl, k1, y, r3, rfl, k2, k3⟩ := r1
    cases k3
    obtain ⟨a, xs, rfl, ha, hr⟩ := k1
    obtain ⟨b, ys, rfl, hb, hr'⟩ := k2
    refine ⟨a, b, xs, ys, rfl, SqL.of (g1.s a _ ha), SqL.of (g1.s b _ hb), fun ts l H2 up hlen hn hp nl hl => ?_⟩
    let Gx : Hp := fun c => if c = l then H2 l else if c ∈ ts then H2 c else G1 c
    have gx : ∀ c o, G1 c = some o → Gx c = some o := fun c o e => by
      have n1 : c ≠ l := ne_of_none (g1.s c o e) nl
      have n2 : c ∉ ts := fun z => by
        have := hn c z
        rw [g1.s c o e] at this
        cases this
      show (if c = l then H2 l else if c ∈ ts then H2 c else G1 c) = some o
      rw [if_neg n1, if_neg n2]
      exact e
    have gl : Gx l = some (.lst (ts.map V.ref)) := by
      show (if l = l then H2 l else _) = _
      rw [if_pos rfl]
      exact hl
    have gt : ∀ t ∈ ts, Gx t = H2 t := fun t ht => by
      show (if t = l then H2 l else if t ∈ ts then H2 t else G1 t) = H2 t
      by_cases e : t = l
      · rw [if_pos e, e]
      · rw [if_neg e, if_pos ht]
    refine q (.ref l) Gx H2 (g1.trans ⟨fun c o _ e => up c o e, fun c z => by simp at z, gx, fun c o e => ?_, fun c e1 e2 => ?_⟩) ⟨l, _, rfl, gl, ?_⟩
    · have e : (if c = l then H2 l else if c ∈ ts then H2 c else G1 c) = some o := e
      by_cases n1 : c = l
      · rw [if_pos n1] at e
        rw [n1]
        exact e
      · rw [if_neg n1] at e
        by_cases n2 : c ∈ ts
        · rw [if_pos n2] at e
          exact e
        · rw [if_neg n2] at e
          exact up c o (g1.s c o e)
    · have n1 : c ≠ l := fun z => e2 (by rw [z]; exact nl)
      have n2 : c ∉ ts := fun z => e2 (hn c z)
      show (if c = l then H2 l else if c ∈ ts then H2 c else G1 c) = none
      rw [if_neg n1, if_neg n2]
      exact e1
    · refine rpl_of (by rw [List.length_map, hlen, List.length_zipWith, hr.len, hr'.len]) fun j v hj => ?_
      rw [List.getElem?_map] at hj
      obtain ⟨t, ht, rfl⟩ := Option.map_eq_some_iff.mp hj
      obtain ⟨x, y, e1, e2, e3⟩ := hp j t ht
      obtain ⟨d1, f1, f2⟩ := hr.back e1
      obtain ⟨d2, f3, f4⟩ := hr'.back e2
      refine ⟨.tup [d1, d2], by rw [List.getElem?_zipWith, f1, f3], ?_⟩
      exact Rp.tup ((gt t (List.mem_of_getElem? ht)).trans e3) (.cons (f2.mono gx) (.one (f4.mono gx)))
/-- any outcome of P -/
def EdX (te : TE) (σ : L2.St) (G : Hp) (P : D → Prop) : Prop := ∀ H, Same G H → ∀ Q : VK, (∀ d v G' H', P d → Gp G H G' H' → Rp G' d v → Q v H') → te σ H Q
theorem Ed.x (h : Ed te σ G d) : EdX te σ G (fun e => e = d) := fun H s Q q => h H s Q fun v G' H' g r => q d v G' H' rfl g r
theorem edx_all {pre : List D → Prop} {R : List D → D → Prop} {tA : TA} {E : XK} (h : Eds tA σ G ds) (hp : pre ds) : EdX (tCall (spAll pre R) [] E tA) σ G (R ds) := fun H s Q q =>
  h H s _ fun vs G1 H1 g1 r1 => ⟨G1, ds, g1.s, by rw [List.append_nil]; exact r1, hp, fun d v G2 H2 hd g2 r2 => q d v G2 H2 hd (g1.trans g2) r2⟩
theorem edx_op {P P' : D → Prop} (ha : EdX ta σ G P) (hb : Ed tb σ G e) (hr : ∀ d, P d → ∃ z, P' z ∧ ∀ G1, Same G G1 → Rd2 r G1 d e z) : EdX (tOp r ta tb) σ G P' := fun H s Q q =>
  ha H s _ fun d x G1 H1 hd g1 r1 => hb.mono g1.g H1 g1.s _ fun y G2 H2 g2 r2 => by
    obtain ⟨z, hz, rr⟩ := hr d hd
    exact rr G2 (g1.g.trans g2.g) x y H2 g2.s (r1.mono g2.g) r2 Q fun v G3 H3 g3 r3 => q z v G3 H3 hz ((g1.trans g2).trans g3) r3
theorem s_setX {i : Nat} {P : D → Prop} (h : EdX te σ G P) (g : Gr M G0 H0 G H) (k : ∀ d v G' H', P d → Gr M G0 H0 G' H' → Same G G' → Kp G H G' H' → Rp G' d v → Dn.nx (σ.set i (some v)) H') : tAsg te (gName i) Dn σ H := h H g.s _ fun d v G' H' hd g1 r => k d v G' H' hd (g.call g1) g1.g g1.kp r
/-- a callee that may change one thing of our own -/
theorem Gr.callOwn (a : Gr M G0 H0 G H) (b : Gr [l] G H G' H') (h0 : H0 l = none) : Gr M G0 H0 G' H' :=
  ⟨fun x o m h => b.h x o (by simpa using ne_of_none h h0) (a.h x o m h), fun x m h => b.there (a.t x m h), a.g.trans b.g, b.s, fun x h1 h2 => b.n x (a.n x h1 h2) (a.there h2)⟩
theorem Own.callOwn (o : Own H0 G H m ds) (b : Gr [l] G H G' H') (n : m ≠ l) : Own H0 G' H' m ds := by
  obtain ⟨vs, e, r⟩ := o.e
  exact ⟨o.h0, b.n m o.g (some_ne e), vs, b.h m _ (by simpa using n) e, r.mono b.g⟩
structure OwnO (H0 G H : Hp) (l : Addr) (o : HO) : Prop where
  h0 : H0 l = none
  g : G l = none
  e : H l = some o
theorem OwnO.kp {o : HO} (q : OwnO H0 G H l o) (k : Kp G H G' H') : OwnO H0 G' H' l o := ⟨q.h0, (k l _ q.e).2 q.g, (k l _ q.e).1⟩
theorem OwnO.callOwn {o : HO} (q : OwnO H0 G H m o) (b : Gr [l] G H G' H') (n : m ≠ l) : OwnO H0 G' H' m o := ⟨q.h0, b.n m q.g (some_ne q.e), b.h m _ (by simpa using n) q.e⟩
theorem OwnO.ko {o : HO} (q : OwnO H0 G H m o) (k : ∀ a x, a ≠ l → H a = some x → H' a = some x ∧ (G a = none → G' a = none)) (n : m ≠ l) : OwnO H0 G' H' m o := ⟨q.h0, (k m _ n q.e).2 q.g, (k m _ n q.e).1⟩
theorem OwnO.kq {o : HO} (q : OwnO H0 G H m o) (k : ∀ a x, a ≠ l → H a = some x → H' a = some x) (n : m ≠ l) : OwnO H0 G H' m o := ⟨q.h0, q.g, k m _ n q.e⟩
end
end Kd
set_option maxHeartbeats 4000000
namespace K18
open PySem PySem.Spec PyProof.Rows L2 Kd
/-! ### what the judges of names, flags, rows tell of a tree -/
def wordSign (c : Nat) : Bool := (decide (97 ≤ c) && decide (c ≤ 122)) || ((decide (65 ≤ c) && decide (c ≤ 90)) || ((decide (48 ≤ c) && decide (c ≤ 57)) || decide (c = 95)))
def nameIn (lo hi : Nat) (s : Str) : Bool := match s.cps.toList with
  | [] => false
  | c :: r => decide (s.length ≤ 12) && ((decide (lo ≤ c) && decide (c ≤ hi)) && (c :: r).all wordSign)
def isName (lo hi : Nat) : D → Bool
  | .str s => nameIn lo hi s
  | _ => false
def theWords : List Str := ["use", "data", "op", "let", "rec", "in", "fun", "if", "then", "else", "match", "with", "end", "handle", "return", "do", "true", "false", "int", "bool", "unit", "void"]
def isSmall : D → Bool
  | .str s => nameIn 97 122 s && !theWords.any (fun z => z == s)
  | _ => false
def isGreat : D → Bool
  | .str s => nameIn 65 90 s
  | _ => false
def isNumber : D → Bool
  | .int i => decide (0 ≤ i)
  | _ => false
def isFlag : D → Bool
  | .str s => decide (s = "pre")
  | .tup [a, b] => eqS a "flag" && isNumber b
  | _ => false
def isNamed : D → Bool
  | .tup [a, b] => isSmall a && isFlag b
  | _ => false
/-- a text is no longer than told (for the rules of lengths) -/
def strOk : D → Prop
  | .str s => s.length ≤ 1000
  | _ => True
/-- == of its first part with a text is told -/
def flagOk : D → Prop
  | .tup [a, _] => isDct a = false
  | _ => True
theorem lt1 {a b : Nat} : decide (([a] : List Nat) < [b]) = decide (a < b) := by
  have h : (([a] : List Nat) < [b]) ↔ a < b := by simp [List.cons_lt_cons_iff]
  by_cases z : a < b
  · rw [decide_eq_true z, decide_eq_true (h.mpr z)]
  · rw [decide_eq_false z, decide_eq_false (fun q => z (h.mp q))]
theorem notlt {a b : Nat} : (!decide (a < b)) = decide (b ≤ a) := by
  by_cases z : a < b
  · rw [decide_eq_true z, decide_eq_false (by omega)]; rfl
  · rw [decide_eq_false z, decide_eq_true (by omega)]; rfl
theorem str1_eq {c e : Nat} : decide ((⟨#[c]⟩ : Str) = ⟨#[e]⟩) = decide (c = e) := by
  by_cases z : c = e
  · subst z; simp
  · rw [decide_eq_false z, decide_eq_false (fun q => z (by injection q with q; simpa using q))]
section
variable {P : Program} {w : World} {K : PySem.W.Frag} {mg : Str → Option Value} {base : Heap}
/-! ### is_word_sign -/
def rWordSign : List D → D → Prop := fun ds d => ∃ c : Nat, ds = [.str ⟨#[c]⟩] ∧ d = .bl (wordSign c)
abbrev N_is_word_sign : List Str := ["sign"]
theorem sc_is_word_sign : FnScope ["sign"] ["sign"] (defScope s_is_word_sign) := ⟨rfl, rfl, rfl, by decide +kernel, rfl, by decide +kernel, by decide +kernel⟩
theorem ok_is_word_sign (T : Tx K mg) : Good P w K mg base CX0 "is_word_sign" 2 ["sign"] (spRel rWordSign) := by
  obtain ⟨fd, F⟩ := T.f_is_word_sign
  refine ⟨T.m_is_word_sign, F.kp, fd, ?_, F.bindsN fun _ _ _ _ _ _ us hl => match us, hl with | [_], _ => rfl⟩
  refine F.ok sc_is_word_sign (fun vs H Q E h => ?_) (fun cdv A outer s H vs Q E hr h => ?_)
  · obtain ⟨G, ds, d, _, r, ⟨c, rfl, _⟩, _⟩ := h
    exact r.len
  · obtain ⟨G, ds, d, s0, r, ⟨c, rfl, rfl⟩, k⟩ := h
    obtain ⟨v, _, rfl, r_sign, rfl⟩ := r
    refine ⟨_, PSs.nox ((pss_one (ps_ret (pe_or (pe_chain op_le_str op_le_str pe_str (pv 0) pe_str) (pe_or (pe_chain op_le_str op_le_str pe_str (pv 0) pe_str) (pe_or (pe_chain op_le_str op_le_str pe_str (pv 0) pe_str) (pe_one (pe_cmpR op_eq (pv 0) pe_str (nomark _))))))))), ?_⟩
    refine s_ret (Ed.to (ed_orV (ed_chain ed_str (ed_var rfl r_sign) ed_str (fun _ _ => rd_leS) (fun _ _ => rd_leS)) fun _ => (ed_orV (ed_chain ed_str (ed_var rfl r_sign) ed_str (fun _ _ => rd_leS) (fun _ _ => rd_leS)) fun _ => (ed_orV (ed_chain ed_str (ed_var rfl r_sign) ed_str (fun _ _ => rd_leS) (fun _ _ => rd_leS)) fun _ => (ed_op (ed_var rfl r_sign) ed_str fun _ _ => rd_eq rfl)))) ?_) (gr0 (M := []) s0) k
    show D.bl ((!decide (([c] : List Nat) < [97]) && !decide (([122] : List Nat) < [c])) || ((!decide (([c] : List Nat) < [65]) && !decide (([90] : List Nat) < [c])) || ((!decide (([c] : List Nat) < [48]) && !decide (([57] : List Nat) < [c])) || decide ((⟨#[c]⟩ : Str) = ⟨#[95]⟩)))) = _
    simp only [lt1, notlt, str1_eq]
    rfl
/-! ### is_name -/
def rName : List D → D → Prop := fun ds d => ∃ (x : D) (a b : Nat), ds = [x, .str ⟨#[a]⟩, .str ⟨#[b]⟩] ∧ strOk x ∧ d = .bl (isName a b x)
def fSign : D → D
  | .str s => .bl (wordSign (s.cps.getD 0 0))
  | _ => .non
theorem all_signs (l : List Nat) : ((l.map fun c => wordSign c).all id) = l.all wordSign := by rw [List.all_map]; rfl
abbrev N_is_name : List Str := ["value", "low", "high", "sign"]
theorem sc_is_name : FnScope ["value", "low", "high", "sign"] ["value", "low", "high"] (defScope s_is_name) := ⟨rfl, rfl, rfl, by decide +kernel, rfl, by decide +kernel, by decide +kernel⟩
theorem ok_is_name (T : Tx K mg) : Good P w K mg base CX0 "is_name" 3 ["value", "low", "high"] (spRel rName) := by
  obtain ⟨fd, F⟩ := T.f_is_name
  refine ⟨T.m_is_name, F.kp, fd, ?_, F.bindsN fun _ _ _ _ _ _ us hl => match us, hl with | [_, _, _], _ => rfl⟩
  have G_is_word_sign := ok_is_word_sign (P := P) (w := w) (base := base) T
  refine F.ok sc_is_name (fun vs H Q E h => ?_) (fun cdv A outer s H vs Q E hr h => ?_)
  · obtain ⟨G, ds, d, _, r, ⟨x, a, b, rfl, _⟩, _⟩ := h
    exact r.len
  · obtain ⟨G, ds, d, s0, r, ⟨x, a, b, rfl, hx, rfl⟩, k⟩ := h
    obtain ⟨v1, _, rfl, r_value, v2, _, rfl, r_low, v3, _, rfl, r_high, rfl⟩ := r
    refine ⟨_, PSs.nox ((pss_cons (ps_if (PW.pt (pw_or (pt_not (pt_val (pe_callB call_isi (by rfl) T.n_isinstance (by decide +kernel) (pa_cons (pv 0) (pa_cons (pe_bltn (v := .ty "str") rfl T.n_str (by decide +kernel) rfl) pa_nil))))) (pw_or1 (pt_not (pt_chain op_le op_le pe_int (pe_callB call_len (by rfl) T.n_len PySem.boot_len (pa_cons (pv 0) pa_nil)) (pe_glob (v := .int 12) rfl T.m_MOST_NAME.choose_spec ⟨_, rfl⟩)))))) (pss_one (ps_ret pe_bl)) pss_nil)
    (pss_one (ps_ret (pe_and (pe_chain op_le_str op_le_str (pv 1) (pe_ix ix_str (pv 0) pe_int (fun _ _ => rfl)) (pv 2)) (pe_one (pe_callB (cr_all rfl) (by rfl) T.n_all (by decide +kernel) (pa_cons (pe_lc (own := [("sign", 3)]) rfl sc_is_name.nd (pi_str (pv 0)) (blkOk_by (own := [("sign", 3)]) (N := ["value", "low", "high", "sign"]) (sc := defScope s_is_name) (by decide +kernel)) (fun _ _ _ _ _ => by exact (pg_name (i := 3) sc_is_name.nd rfl (Or.inl rfl))) (fun _ _ _ _ _ => by exact pts_nil) (fun _ _ _ _ _ => by exact (pe_g G_is_word_sign (hr.mono (by decide)) (pa_cons (pv 3) pa_nil)))) pa_nil)))))))), ?_⟩
    cases x with
    | str x =>
      have hx : x.length ≤ 1000 := hx
      have hlen : x.length = x.cps.toList.length := by simp [Str.length]
      refine s_if (eb_orF (eb_not (eb_B (ed_isStr (ed_var rfl r_value)))) (eb_not (eb_test (ed_chain ed_int (ed_lenS ?_ (ed_var rfl r_value)) ed_int (fun _ _ => rd_I0b) (fun _ _ => rd_I0b))))) (gr0 (M := []) s0) (fun hb H' g => ?_) (fun hb H' g => ?_)
      · omega
      · have e : nameIn a b x = false := by
          have hb : (!(decide (1 ≤ (x.length : Int)) && decide ((x.length : Int) ≤ 12))) = true := hb
          unfold nameIn
          cases q : x.cps.toList with
          | nil => rfl
          | cons c r =>
            rw [q] at hlen
            have : ¬ x.length ≤ 12 := by
              intro z
              rw [decide_eq_true (by simp at hlen; omega), decide_eq_true (by omega)] at hb
              cases hb
            show (decide (x.length ≤ 12) && _) = false
            rw [decide_eq_false this]
            rfl
        exact s_ret (Ed.to ed_bl (by show D.bl false = D.bl (nameIn a b x); rw [e])) g k
      · have hb : (!(decide (1 ≤ (x.length : Int)) && decide ((x.length : Int) ≤ 12))) = false := hb
        have h1 : 1 ≤ x.length ∧ x.length ≤ 12 := by
          by_cases z1 : 1 ≤ (x.length : Int)
          · by_cases z2 : (x.length : Int) ≤ 12
            · omega
            · rw [decide_eq_false z2] at hb; simp at hb
          · rw [decide_eq_false z1] at hb; simp at hb
        obtain ⟨c, r, q⟩ : ∃ c r, x.cps.toList = c :: r := by
          cases q : x.cps.toList with
          | nil => rw [q] at hlen; simp at hlen; omega
          | cons c r => exact ⟨c, r, rfl⟩
        have hi : atI x.cps.toList 0 = some c := by rw [q]; exact atI_nat (j := 0) rfl
        have el : ∀ (σ : L2.St) (G' : Hp) (u : V), σ[3]? = some (some u) → ∀ z, Rp G' z u → ∀ c, z = .str ⟨#[c]⟩ → Ed (tCall (spRel rWordSign) [] E0 (tCons (tVar 3) tNil)) σ G' (.bl (wordSign c)) := fun σ G' u h1 z h2 c h3 => ed_rel (eds_cons (ed_var h1 h2) eds_nil) ⟨c, by rw [h3], rfl⟩
        refine s_ret (Ed.to (ed_andV (b := decide (a ≤ c) && decide (c ≤ b)) (c := x.cps.toList.all wordSign) (((ed_chain (ed_var rfl r_low) (ed_op (ed_var rfl r_value) ed_int fun _ _ => rd_ixS (by omega) hi) (ed_var rfl r_high) (fun _ _ => rd_leS) (fun _ _ => rd_leS)) : Ed _ _ _ _).to ?_) fun _ => (ed_all (bs := x.cps.toList.map wordSign) ((ed_lcAll fSign (es_str (ed_var rfl r_value)) ?_ ?_).to ?_)).to ?_) ?_) g k
        · show D.bl (!decide (([c] : List Nat) < [a]) && !decide (([b] : List Nat) < [c])) = _
          simp only [lt1, notlt]
        · rw [List.length_map]
          omega
        · intro d hd G' s'
          obtain ⟨c', _, rfl⟩ := List.mem_map.mp hd
          exact tk_name fun u hu => ⟨rfl, ed_rel (eds_cons (ed_var rfl hu) eds_nil) ⟨c', rfl, rfl⟩⟩
        · rw [List.map_map, List.map_map]
          rfl
        · rw [List.all_map]
          rfl
        · show D.bl _ = D.bl (nameIn a b x)
          unfold nameIn
          rw [q]
          show D.bl _ = D.bl (decide (x.length ≤ 12) && _)
          rw [decide_eq_true h1.2]
          rfl
    | _ => exact s_ifT (eb_orT ((eb_not (eb_B (ed_isStr (ed_var rfl r_value)))).to rfl)) (gr0 (M := []) s0) fun H' g => s_ret ed_bl g k
end
end K18
set_option maxHeartbeats 4000000
namespace K18
open PySem PySem.Spec PyProof.Rows L2 Kd
section
variable {P : Program} {w : World} {K : PySem.W.Frag} {mg : Str → Option Value} {base : Heap}
theorem Tx.words (T : Tx K mg) (H : Hp) : SqT K H (He.ga K "WORDS") (theWords.map V.str) := He.tupB_ok T.x_0 H
def thePlain : List Str := ["int", "bool", "unit", "void"]
theorem Tx.plain (T : Tx K mg) (H : Hp) : SqT K H (He.ga K "PLAIN") (thePlain.map V.str) := He.tupB_ok T.x_1 H
/-! ### is_small, is_great -/
def rSmall : List D → D → Prop := fun ds d => ∃ x, ds = [x] ∧ strOk x ∧ d = .bl (isSmall x)
def rGreat : List D → D → Prop := fun ds d => ∃ x, ds = [x] ∧ strOk x ∧ d = .bl (isGreat x)
abbrev N_is_small : List Str := ["value"]
theorem sc_is_small : FnScope ["value"] ["value"] (defScope s_is_small) := ⟨rfl, rfl, rfl, by decide +kernel, rfl, by decide +kernel, by decide +kernel⟩
theorem ok_is_small (T : Tx K mg) : Good P w K mg base CX0 "is_small" 4 ["value"] (spRel rSmall) := by
  obtain ⟨fd, F⟩ := T.f_is_small
  refine ⟨T.m_is_small, F.kp, fd, ?_, F.bindsN fun _ _ _ _ _ _ us hl => match us, hl with | [_], _ => rfl⟩
  have G_is_name := ok_is_name (P := P) (w := w) (base := base) T
  refine F.ok sc_is_small (fun vs H Q E h => ?_) (fun cdv A outer s H vs Q E hr h => ?_)
  · obtain ⟨G, ds, d, _, r, ⟨x, rfl, _⟩, _⟩ := h
    exact r.len
  · obtain ⟨G, ds, d, s0, r, ⟨x, rfl, hx, rfl⟩, k⟩ := h
    obtain ⟨v1, _, rfl, r_value, rfl⟩ := r
    refine ⟨_, PSs.nox ((pss_one (ps_ret (pe_and (pe_g G_is_name (hr.mono (by decide)) (pa_cons (pv 0) (pa_cons pe_str (pa_cons pe_str pa_nil)))) (pe_one (pe_cmpR op_notIn_seq (pv 0) (pe_glob (v := .ref (He.ga K "WORDS")) rfl T.m_WORDS rfl) (by rfl))))))), ?_⟩
    have h1 : rName [x, .str ⟨#[97]⟩, .str ⟨#[122]⟩] (.bl (isName 97 122 x)) := ⟨x, 97, 122, rfl, hx, rfl⟩
    cases x with
    | str x => exact s_ret (ed_andV ((ed_rel (eds_cons (ed_var rfl r_value) (eds_cons ed_str (eds_cons ed_str eds_nil))) h1) : Ed _ _ _ (.bl (nameIn 97 122 x))) fun _ => ed_notInK (ed_var rfl r_value) T.words) (gr0 (M := []) s0) k
    | _ => exact s_ret (ed_andF (ed_rel (eds_cons (ed_var rfl r_value) (eds_cons ed_str (eds_cons ed_str eds_nil))) h1)) (gr0 (M := []) s0) k
abbrev N_is_great : List Str := ["value"]
theorem sc_is_great : FnScope ["value"] ["value"] (defScope s_is_great) := ⟨rfl, rfl, rfl, by decide +kernel, rfl, by decide +kernel, by decide +kernel⟩
theorem ok_is_great (T : Tx K mg) : Good P w K mg base CX0 "is_great" 4 ["value"] (spRel rGreat) := by
  obtain ⟨fd, F⟩ := T.f_is_great
  refine ⟨T.m_is_great, F.kp, fd, ?_, F.bindsN fun _ _ _ _ _ _ us hl => match us, hl with | [_], _ => rfl⟩
  have G_is_name := ok_is_name (P := P) (w := w) (base := base) T
  refine F.ok sc_is_great (fun vs H Q E h => ?_) (fun cdv A outer s H vs Q E hr h => ?_)
  · obtain ⟨G, ds, d, _, r, ⟨x, rfl, _⟩, _⟩ := h
    exact r.len
  · obtain ⟨G, ds, d, s0, r, ⟨x, rfl, hx, rfl⟩, k⟩ := h
    obtain ⟨v1, _, rfl, r_value, rfl⟩ := r
    refine ⟨_, PSs.nox ((pss_one (ps_ret (pe_g G_is_name (hr.mono (by decide)) (pa_cons (pv 0) (pa_cons pe_str (pa_cons pe_str pa_nil))))))), ?_⟩
    have h1 : rName [x, .str ⟨#[65]⟩, .str ⟨#[90]⟩] (.bl (isName 65 90 x)) := ⟨x, 65, 90, rfl, hx, rfl⟩
    exact s_ret (Ed.to (ed_rel (eds_cons (ed_var rfl r_value) (eds_cons ed_str (eds_cons ed_str eds_nil))) h1) (by cases x <;> rfl)) (gr0 (M := []) s0) k
/-! ### is_number, is_flag, is_named -/
def rNumber : List D → D → Prop := fun ds d => ∃ x, ds = [x] ∧ d = .bl (isNumber x)
abbrev N_is_number : List Str := ["value"]
theorem sc_is_number : FnScope ["value"] ["value"] (defScope s_is_number) := ⟨rfl, rfl, rfl, by decide +kernel, rfl, by decide +kernel, by decide +kernel⟩
theorem ok_is_number (T : Tx K mg) : Good P w K mg base CX0 "is_number" 2 ["value"] (spRel rNumber) := by
  obtain ⟨fd, F⟩ := T.f_is_number
  refine ⟨T.m_is_number, F.kp, fd, ?_, F.bindsN fun _ _ _ _ _ _ us hl => match us, hl with | [_], _ => rfl⟩
  refine F.ok sc_is_number (fun vs H Q E h => ?_) (fun cdv A outer s H vs Q E hr h => ?_)
  · obtain ⟨G, ds, d, _, r, ⟨x, rfl, _⟩, _⟩ := h
    exact r.len
  · obtain ⟨G, ds, d, s0, r, ⟨x, rfl, rfl⟩, k⟩ := h
    obtain ⟨v1, _, rfl, r_value, rfl⟩ := r
    refine ⟨_, PSs.nox ((pss_one (ps_ret (pe_and (pe_callB call_isi (by rfl) T.n_isinstance (by decide +kernel) (pa_cons (pv 0) (pa_cons (pe_bltn (v := .ty "int") rfl T.n_int (by decide +kernel) rfl) pa_nil))) (pe_and (pe_not (pe_callB call_isi (by rfl) T.n_isinstance (by decide +kernel) (pa_cons (pv 0) (pa_cons (pe_bltn (v := .ty "bool") rfl T.n_bool (by decide +kernel) rfl) pa_nil)))) (pe_one (pe_cmpR op_ge (pv 0) pe_int (nomark _)))))))), ?_⟩
    cases x with
    | int i => exact s_ret (ed_andV (ed_isInt (ed_var rfl r_value)) fun _ => (ed_andV (ed_notV (ed_isBool (ed_var rfl r_value))) fun _ => (ed_op (ed_var rfl r_value) ed_int fun _ _ => rd_I0b))) (gr0 (M := []) s0) k
    | bl b => exact s_ret (ed_andT (ed_isInt (ed_var rfl r_value)) (ed_andF (ed_notV (ed_isBool (ed_var rfl r_value))))) (gr0 (M := []) s0) k
    | _ => exact s_ret (ed_andF (ed_isInt (ed_var rfl r_value))) (gr0 (M := []) s0) k
def rFlag : List D → D → Prop := fun ds d => ∃ x, ds = [x] ∧ flagOk x ∧ d = .bl (isFlag x)
abbrev N_is_flag : List Str := ["value"]
theorem sc_is_flag : FnScope ["value"] ["value"] (defScope s_is_flag) := ⟨rfl, rfl, rfl, by decide +kernel, rfl, by decide +kernel, by decide +kernel⟩
theorem ok_is_flag (T : Tx K mg) : Good P w K mg base CX0 "is_flag" 3 ["value"] (spRel rFlag) := by
  obtain ⟨fd, F⟩ := T.f_is_flag
  refine ⟨T.m_is_flag, F.kp, fd, ?_, F.bindsN fun _ _ _ _ _ _ us hl => match us, hl with | [_], _ => rfl⟩
  have G_is_number := ok_is_number (P := P) (w := w) (base := base) T
  refine F.ok sc_is_flag (fun vs H Q E h => ?_) (fun cdv A outer s H vs Q E hr h => ?_)
  · obtain ⟨G, ds, d, _, r, ⟨x, rfl, _⟩, _⟩ := h
    exact r.len
  · obtain ⟨G, ds, d, s0, r, ⟨x, rfl, hx, rfl⟩, k⟩ := h
    obtain ⟨v1, _, rfl, r_value, rfl⟩ := r
    refine ⟨_, PSs.nox ((pss_cons (ps_if (pt_val (pe_callB call_isi (by rfl) T.n_isinstance (by decide +kernel) (pa_cons (pv 0) (pa_cons (pe_bltn (v := .ty "str") rfl T.n_str (by decide +kernel) rfl) pa_nil)))) (pss_one (ps_ret (pe_cmpR op_eq (pv 0) pe_str (nomark _)))) pss_nil)
    (pss_one (ps_ret (pe_and (pe_callB call_isi (by rfl) T.n_isinstance (by decide +kernel) (pa_cons (pv 0) (pa_cons (pe_bltn (v := .ty "tuple") rfl T.n_tuple (by decide +kernel) rfl) pa_nil))) (pe_and (pe_cmpR op_eq (pe_callB call_len_seq (by rfl) T.n_len PySem.boot_len (pa_cons (pv 0) pa_nil)) pe_int (nomark _)) (pe_and (pe_cmpR (op_eqS hr.units) (pe_ix ix_tup (pv 0) pe_int (fun _ _ => rfl)) pe_str (nomark _)) (pe_one (pe_g G_is_number (hr.mono (by decide)) (pa_cons (pe_ix ix_tup (pv 0) pe_int (fun _ _ => rfl)) pa_nil)))))))))), ?_⟩
    cases x with
    | str x => exact s_ifT ((eb_B (ed_isStr (ed_var rfl r_value)))) (gr0 (M := []) s0) fun H' g => s_ret (ed_op (ed_var rfl r_value) ed_str fun _ _ => rd_eq rfl) g k
    | tup ds =>
      refine s_ifF ((eb_B (ed_isStr (ed_var rfl r_value)))) (gr0 (M := []) s0) fun H' g => ?_
      match ds, hx, r_value, k with
      | [], hx, r_value, k => exact s_ret (ed_andT (ed_isTup (ed_var rfl r_value)) (ed_andF (ed_op (ed_lenT (ed_var rfl r_value)) ed_int fun _ _ => rd_eq rfl))) g k
      | [a], hx, r_value, k => exact s_ret (ed_andT (ed_isTup (ed_var rfl r_value)) (ed_andF (ed_op (ed_lenT (ed_var rfl r_value)) ed_int fun _ _ => rd_eq rfl))) g k
      | [a, b], hx, r_value, k =>
        have hn : rNumber [b] (.bl (isNumber b)) := ⟨b, rfl, rfl⟩
        have hx : isDct a = false := hx
        exact s_ret (Ed.to (ed_andT (ed_isTup (ed_var rfl r_value)) (ed_andT (ed_op (ed_lenT (ed_var rfl r_value)) ed_int fun _ _ => rd_eq rfl) (ed_andV (b := eqS a "flag") (Ed.to (ed_op (ed_op (ed_var rfl r_value) ed_int fun _ _ => rd_ixT at0) ed_str fun _ _ => rd_eqS hx) (by simp)) fun _ => ed_rel (eds_cons (ed_op (ed_var rfl r_value) ed_int fun _ _ => rd_ixT at1) eds_nil) hn))) rfl) g k
      | a :: b :: c :: r, hx, r_value, k =>
        refine s_ret (ed_andT (ed_isTup (ed_var rfl r_value)) (ed_andF (Ed.to (ed_op (ed_lenT (ed_var rfl r_value)) ed_int fun _ _ => rd_eq rfl) ?_))) g k
        rw [decide_eq_false (by simp only [List.length_cons]; omega)]
    | _ => exact s_ifF ((eb_B (ed_isStr (ed_var rfl r_value)))) (gr0 (M := []) s0) fun H' g => s_ret (ed_andF (ed_isTup (ed_var rfl r_value))) g k
def namedOk : D → Prop
  | .tup [a, b] => strOk a ∧ flagOk b
  | _ => True
def rNamed : List D → D → Prop := fun ds d => ∃ x, ds = [x] ∧ namedOk x ∧ d = .bl (isNamed x)
abbrev N_is_named : List Str := ["value"]
theorem sc_is_named : FnScope ["value"] ["value"] (defScope s_is_named) := ⟨rfl, rfl, rfl, by decide +kernel, rfl, by decide +kernel, by decide +kernel⟩
theorem ok_is_named (T : Tx K mg) : Good P w K mg base CX0 "is_named" 5 ["value"] (spRel rNamed) := by
  obtain ⟨fd, F⟩ := T.f_is_named
  refine ⟨T.m_is_named, F.kp, fd, ?_, F.bindsN fun _ _ _ _ _ _ us hl => match us, hl with | [_], _ => rfl⟩
  have G_is_small := ok_is_small (P := P) (w := w) (base := base) T
  have G_is_flag := ok_is_flag (P := P) (w := w) (base := base) T
  refine F.ok sc_is_named (fun vs H Q E h => ?_) (fun cdv A outer s H vs Q E hr h => ?_)
  · obtain ⟨G, ds, d, _, r, ⟨x, rfl, _⟩, _⟩ := h
    exact r.len
  · obtain ⟨G, ds, d, s0, r, ⟨x, rfl, hx, rfl⟩, k⟩ := h
    obtain ⟨v1, _, rfl, r_value, rfl⟩ := r
    refine ⟨_, PSs.nox ((pss_one (ps_ret (pe_and (pe_callB call_isi (by rfl) T.n_isinstance (by decide +kernel) (pa_cons (pv 0) (pa_cons (pe_bltn (v := .ty "tuple") rfl T.n_tuple (by decide +kernel) rfl) pa_nil))) (pe_and (pe_cmpR op_eq (pe_callB call_len_seq (by rfl) T.n_len PySem.boot_len (pa_cons (pv 0) pa_nil)) pe_int (nomark _)) (pe_and (pe_g G_is_small (hr.mono (by decide)) (pa_cons (pe_ix ix_tup (pv 0) pe_int (fun _ _ => rfl)) pa_nil)) (pe_one (pe_g G_is_flag (hr.mono (by decide)) (pa_cons (pe_ix ix_tup (pv 0) pe_int (fun _ _ => rfl)) pa_nil))))))))), ?_⟩
    cases x with
    | tup ds =>
      have g := gr0 (M := []) s0
      match ds, hx, r_value, k with
      | [], hx, r_value, k => exact s_ret (ed_andT (ed_isTup (ed_var rfl r_value)) (ed_andF (ed_op (ed_lenT (ed_var rfl r_value)) ed_int fun _ _ => rd_eq rfl))) g k
      | [a], hx, r_value, k => exact s_ret (ed_andT (ed_isTup (ed_var rfl r_value)) (ed_andF (ed_op (ed_lenT (ed_var rfl r_value)) ed_int fun _ _ => rd_eq rfl))) g k
      | [a, b], hx, r_value, k =>
        have hx : strOk a ∧ flagOk b := hx
        have h1 : rSmall [a] (.bl (isSmall a)) := ⟨a, rfl, hx.1, rfl⟩
        have h2 : rFlag [b] (.bl (isFlag b)) := ⟨b, rfl, hx.2, rfl⟩
        exact s_ret (ed_andT (ed_isTup (ed_var rfl r_value)) (ed_andT (ed_op (ed_lenT (ed_var rfl r_value)) ed_int fun _ _ => rd_eq rfl) (ed_andV (ed_rel (eds_cons (ed_op (ed_var rfl r_value) ed_int fun _ _ => rd_ixT at0) eds_nil) h1) fun _ => ed_rel (eds_cons (ed_op (ed_var rfl r_value) ed_int fun _ _ => rd_ixT at1) eds_nil) h2))) g k
      | a :: b :: c :: r, hx, r_value, k =>
        refine s_ret (ed_andT (ed_isTup (ed_var rfl r_value)) (ed_andF (Ed.to (ed_op (ed_lenT (ed_var rfl r_value)) ed_int fun _ _ => rd_eq rfl) ?_))) g k
        rw [decide_eq_false (by simp only [List.length_cons]; omega)]
    | _ => exact s_ret (ed_andF (ed_isTup (ed_var rfl r_value))) (gr0 (M := []) s0) k
end
end K18
set_option maxHeartbeats 4000000
namespace K18
open PySem PySem.Spec PyProof.Rows L2 Kd
/-! ### rows, parts, kinds of a tree -/
def opOf : D → List Nat
  | .tup (.str s :: _) => s.cps.toList
  | _ => []
def rising (ns : List D) : Bool := (List.zipWith (fun x y => decide (opOf x < opOf y)) ns (ns.drop 1)).all id
def isRow : D → Bool
  | .tup [.lst ns, t] => isNumber t && (ns.all isNamed && rising ns)
  | _ => false
def rowOk : D → Prop
  | .tup [.lst ns, _] => (∀ n ∈ ns, namedOk n) ∧ ns.length ≤ 1000
  | _ => True
theorem isNamed_str {x : D} (h : isNamed x = true) : ∃ s r, x = .tup (.str s :: r) := by
  cases x with
  | tup ds =>
    match ds, h with
    | [a, b], h =>
      have h : (isSmall a && isFlag b) = true := h
      cases a with
      | str s => exact ⟨s, _, rfl⟩
      | _ => simp [isSmall] at h
    | [], h => simp [isNamed] at h
    | [_], h => simp [isNamed] at h
    | _ :: _ :: _ :: _, h => simp [isNamed] at h
  | _ => simp [isNamed] at h
section
variable {P : Program} {w : World} {K : PySem.W.Frag} {mg : Str → Option Value} {base : Heap}
def rRow : List D → D → Prop := fun ds d => ∃ x, ds = [x] ∧ rowOk x ∧ d = .bl (isRow x)
def fNamed (z : D) : D := .bl (isNamed z)
def fLess : D → D
  | .tup [a, b] => .bl (decide (opOf a < opOf b))
  | _ => .non
theorem isRow_no2 {ds : List D} (h : ds.length ≠ 2) : isRow (.tup ds) = false := by
  match ds, h with
  | [], _ => rfl
  | [a], _ => cases a <;> rfl
  | [a, b], h => simp at h
  | a :: b :: c :: r, _ => cases a <;> rfl
abbrev N_is_row : List Str := ["value", "named", "tail", "one", "other"]
theorem sc_is_row : FnScope ["value", "named", "tail", "one", "other"] ["value"] (defScope s_is_row) := ⟨rfl, rfl, rfl, by decide +kernel, rfl, by decide +kernel, by decide +kernel⟩
theorem ok_is_row (T : Tx K mg) : Good P w K mg base CX0 "is_row" 6 ["value"] (spRel rRow) := by
  obtain ⟨fd, F⟩ := T.f_is_row
  refine ⟨T.m_is_row, F.kp, fd, ?_, F.bindsN fun _ _ _ _ _ _ us hl => match us, hl with | [_], _ => rfl⟩
  have G_is_number := ok_is_number (P := P) (w := w) (base := base) T
  have G_is_named := ok_is_named (P := P) (w := w) (base := base) T
  refine F.ok sc_is_row (fun vs H Q E h => ?_) (fun cdv A outer s H vs Q E hr h => ?_)
  · obtain ⟨G, ds, d, _, r, ⟨x, rfl, _⟩, _⟩ := h
    exact r.len
  · obtain ⟨G, ds, d, s0, r, ⟨x, rfl, hx, rfl⟩, k⟩ := h
    obtain ⟨v1, _, rfl, r_value, rfl⟩ := r
    refine ⟨_, PSs.nox ((pss_cons (ps_if (PW.pt (pw_or (pt_not (pt_val (pe_callB call_isi (by rfl) T.n_isinstance (by decide +kernel) (pa_cons (pv 0) (pa_cons (pe_bltn (v := .ty "tuple") rfl T.n_tuple (by decide +kernel) rfl) pa_nil))))) (pw_or (pt_cmpR op_ne (pe_callB call_len_seq (by rfl) T.n_len PySem.boot_len (pa_cons (pv 0) pa_nil)) pe_int (nomark _)) (pw_or1 (pt_not (pt_val (pe_callB call_isi (by rfl) T.n_isinstance (by decide +kernel) (pa_cons (pe_ix ix_tup (pv 0) pe_int (fun _ _ => rfl)) (pa_cons (pe_bltn (v := .ty "list") rfl T.n_list (by decide +kernel) rfl) pa_nil))))))))) (pss_one (ps_ret pe_bl)) pss_nil)
    (pss_cons (ps_asg (pv 0) (pg_tup rfl (pgs_cons (pg_name (i := 1) sc_is_row.nd rfl (Or.inl rfl)) (pgs_cons (pg_name (i := 2) sc_is_row.nd rfl (Or.inl rfl)) pgs_nil))))
    (pss_cons (ps_if (PW.pt (pw_or (pt_not (pt_val (pe_g G_is_number (hr.mono (by decide)) (pa_cons (pv 2) pa_nil)))) (pw_or1 (pt_not (pt_val (pe_callB (cr_all rfl) (by rfl) T.n_all (by decide +kernel) (pa_cons (pe_lc (own := [("one", 3)]) rfl sc_is_row.nd (pi_list (pv 1)) (blkOk_by (own := [("one", 3)]) (N := ["value", "named", "tail", "one", "other"]) (sc := defScope s_is_row) (by decide +kernel)) (fun _ _ _ _ _ => by exact (pg_name (i := 3) sc_is_row.nd rfl (Or.inl rfl))) (fun _ _ _ _ _ => by exact pts_nil) (fun _ _ _ _ _ => by exact (pe_g G_is_named (hr.mono (by decide)) (pa_cons (pv 3) pa_nil)))) pa_nil))))))) (pss_one (ps_ret pe_bl)) pss_nil)
    (pss_one (ps_ret (pe_callB (cr_all rfl) (by rfl) T.n_all (by decide +kernel) (pa_cons (pe_lc (own := [("one", 3), ("other", 4)]) rfl sc_is_row.nd (pi_zip (by rfl) T.n_zip (pa_cons (pv 1) (pa_cons (pe_slice sl_list (pv 1) (po_some pe_int) po_none) pa_nil))) (blkOk_by (own := [("one", 3), ("other", 4)]) (N := ["value", "named", "tail", "one", "other"]) (sc := defScope s_is_row) (by decide +kernel)) (fun _ _ _ _ _ => by exact (pgK_tup (K := K) (n := 2) rfl rfl (pgs_cons (pg_name (i := 3) sc_is_row.nd rfl (Or.inl rfl)) (pgs_cons (pg_name (i := 4) sc_is_row.nd rfl (Or.inl rfl)) pgs_nil)))) (fun _ _ _ _ _ => by exact pts_nil) (fun _ _ _ _ _ => by exact (pe_cmpR op_lt_str (pe_ix (ixK_tup (K := K) rfl) (pv 3) pe_int (fun _ _ => rfl)) (pe_ix (ixK_tup (K := K) rfl) (pv 4) pe_int (fun _ _ => rfl)) (nomark _)))) pa_nil)))))))), ?_⟩
    have g := gr0 (M := []) s0
    cases x with
    | tup ds =>
      by_cases h2 : ds.length = 2
      · obtain ⟨a, t, rfl⟩ : ∃ a t, ds = [a, t] := match ds, h2 with | [a, t], _ => ⟨a, t, rfl⟩
        cases a with
        | lst ns =>
          obtain ⟨hn, hl⟩ : (∀ n ∈ ns, namedOk n) ∧ ns.length ≤ 1000 := hx
          refine s_ifF (eb_orF (eb_not (eb_B (ed_isTup (ed_var rfl r_value)))) (eb_orF (eb_test (ed_op (ed_lenT (ed_var rfl r_value)) ed_int fun _ _ => rd_ne rfl)) (eb_not (eb_B (ed_isLst (ed_op (ed_var rfl r_value) ed_int fun _ _ => rd_ixT at0)))))) g fun H1 g => ?_
          -- named, tail = value
          obtain ⟨a0, vs0, rfl, ha0, hr0⟩ := id r_value
          obtain ⟨vn, _, rfl, r_named, vt, _, rfl, r_tail, rfl⟩ := hr0
          refine ⟨_, rfl, a0, _, rfl, SqT.of (g.s a0 _ ha0), rfl, vn, _, rfl, vt, _, rfl, rfl, ?_⟩
          have hcN : rNumber [t] (.bl (isNumber t)) := ⟨t, rfl, rfl⟩
          have hcomp : ∀ G', Same G G' → Ed (tLc (iList K (tVar 1)) (gName 3) tYes (tCall (spRel rNamed) [] E0 (tCons (tVar 3) tNil)) [3]) [some (.ref a0), some vn, some vt, none, none] G' (.lst ((ns.map isNamed).map D.bl)) := fun G' e => by
            refine Ed.to (ed_lcAll fNamed (es_list (ed_var rfl (r_named.mono e))) (by omega) ?_) (by rw [List.map_map]; rfl)
            intro d hd G2 s2
            exact tk_name fun u hu => ⟨rfl, ed_rel (eds_cons (ed_var rfl hu) eds_nil) ⟨d, rfl, hn d hd, rfl⟩⟩
          refine s_if (eb_or (eb_not (eb_B (ed_rel (eds_cons (ed_var rfl r_tail) eds_nil) hcN))) fun _ => eb_not (eb_B (ed_all (hcomp G (Same.refl _))))) g (fun hb H2 g => ?_) (fun hb H2 g => ?_)
          · refine s_ret (Ed.to ed_bl ?_) g k
            show D.bl false = D.bl (isNumber t && (ns.all isNamed && rising ns))
            rw [List.all_map] at hb
            have hb : (!isNumber t || !ns.all isNamed) = true := hb
            cases h3 : isNumber t <;> cases h4 : ns.all isNamed <;> rw [h3, h4] at hb <;> first | rfl | cases hb
          · rw [List.all_map] at hb
            have hb : (!isNumber t || !ns.all isNamed) = false := hb
            have h3 : isNumber t = true := by cases h3 : isNumber t <;> rw [h3] at hb <;> first | rfl | cases hb
            have h4 : ns.all isNamed = true := by cases h4 : ns.all isNamed <;> rw [h3, h4] at hb <;> first | rfl | cases hb
            refine s_ret (Ed.to (ed_all (bs := List.zipWith (fun x y => decide (opOf x < opOf y)) ns (ns.drop 1)) ((ed_lcAll fLess (es_zip (ed_var rfl r_named) ((ed_slL (ed_var rfl r_named) (eo_some ed_int) eo_none).to (by rw [cut1]))) (by rw [List.length_zipWith]; omega) ?_).to ?_)) ?_) g k
            · intro d hd G2 s2
              rw [List.mem_iff_getElem?] at hd
              obtain ⟨i, hi⟩ := hd
              rw [List.getElem?_zipWith] at hi
              cases e1 : ns[i]? with
              | none => rw [e1] at hi; cases hi
              | some x1 =>
                cases e2 : (ns.drop 1)[i]? with
                | none => rw [e1, e2] at hi; cases hi
                | some y1 =>
                  rw [e1, e2] at hi
                  cases hi
                  obtain ⟨s1, q1, rfl⟩ := isNamed_str (List.all_eq_true.mp h4 x1 (List.mem_of_getElem? e1))
                  obtain ⟨s2, q2, rfl⟩ := isNamed_str (List.all_eq_true.mp h4 y1 (List.mem_of_mem_drop (List.mem_of_getElem? e2)))
                  refine tk_tup rfl (tkl_cons fun u hu => tkl_cons fun u' hu' => tkl_nil ⟨rfl, ?_⟩)
                  exact ed_op (ed_op (ed_var rfl hu) ed_int fun _ _ => rd_ixT at0) (ed_op (ed_var rfl hu') ed_int fun _ _ => rd_ixT at0) fun _ _ => rd_ltS
            · rw [List.map_zipWith, List.map_zipWith]
              rfl
            · show D.bl (rising ns) = D.bl (isNumber t && (ns.all isNamed && rising ns))
              rw [h3, h4]
              rfl
        | _ => exact s_ifT (eb_orF (eb_not (eb_B (ed_isTup (ed_var rfl r_value)))) (eb_orF (eb_test (ed_op (ed_lenT (ed_var rfl r_value)) ed_int fun _ _ => rd_ne rfl)) (eb_not (eb_B (ed_isLst (ed_op (ed_var rfl r_value) ed_int fun _ _ => rd_ixT at0)))))) g fun H1 g => s_ret ed_bl g k
      · refine s_ifT (eb_orF (eb_not (eb_B (ed_isTup (ed_var rfl r_value)))) (eb_orT (((eb_test (ed_op (ed_lenT (ed_var rfl r_value)) ed_int fun _ _ => rd_ne rfl)) : Eb _ _ _ _).to ?_))) g fun H1 g => s_ret (Ed.to ed_bl (by rw [isRow_no2 h2])) g k
        rw [decide_eq_false (by omega)]
        rfl
    | _ => exact s_ifT (eb_orT (eb_not (eb_B (ed_isTup (ed_var rfl r_value))))) g fun H1 g => s_ret ed_bl g k
end
end K18
set_option maxHeartbeats 4000000
namespace K18
open PySem PySem.Spec PyProof.Rows L2 Kd
/-! ### the parts of a tree that may be a kind -/
def oneNum : List D → Bool
  | [n] => isNumber n
  | _ => false
def funOf : List D → Option (List D)
  | [a, r, b] => if isRow r = true then some [a, b] else none
  | _ => none
def dataOf : List D → Option (List D)
  | [n, .lst ks] => if isGreat n = true then some ks else none
  | _ => none
def partsW (w : Str) (rest : List D) : Option (List D) :=
  if thePlain.any (fun z => z == w) = true then (if rest.isEmpty = true then some [] else none)
  else if decide (w = "letter") = true then (if oneNum rest = true then some [] else none)
  else if decide (w = "pair") = true then (if rest.length = 2 then some rest else none)
  else if decide (w = "fun") = true then funOf rest
  else if decide (w = "data") = true then dataOf rest
  else none
def partsOf : D → Option (List D)
  | .tup (.str w :: rest) => partsW w rest
  | _ => none
def optD : Option (List D) → D
  | none => .non
  | some ps => .lst ps
/-- what the walk through its parts asks of it -/
def partsOk : D → Prop
  | .tup (.str w :: rest) => rest.length ≤ 1000 ∧ (w = "fun" → ∀ a r b, rest = [a, r, b] → rowOk r) ∧ (w = "data" → ∀ n k, rest = [n, k] → strOk n)
  | _ => True
theorem cut1t {d : D} {ds : List D} : cutD (d :: ds) (some 1) none = ds := cut1
theorem funOf_no {ds : List D} (h : ds.length ≠ 3) : funOf ds = none := by
  match ds, h with
  | [], _ => rfl
  | [_], _ => rfl
  | [_, _], _ => rfl
  | [_, _, _], h => simp at h
  | _ :: _ :: _ :: _ :: _, _ => rfl
theorem dataOf_no {ds : List D} (h : ds.length ≠ 2) : dataOf ds = none := by
  match ds, h with
  | [], _ => rfl
  | [_], _ => rfl
  | [_, _], h => simp at h
  | a :: b :: _ :: _, _ => cases b <;> rfl
theorem isEmpty_no {ds : List D} : (!ds.isEmpty) = true ↔ ds ≠ [] := by cases ds <;> simp
section
variable {P : Program} {w : World} {K : PySem.W.Frag} {mg : Str → Option Value} {base : Heap}
def rParts : List D → D → Prop := fun ds d => ∃ x, ds = [x] ∧ partsOk x ∧ d = optD (partsOf x)
abbrev N_parts_of : List Str := ["value", "word", "rest"]
theorem sc_parts_of : FnScope ["value", "word", "rest"] ["value"] (defScope s_parts_of) := ⟨rfl, rfl, rfl, by decide +kernel, rfl, by decide +kernel, by decide +kernel⟩
theorem ok_parts_of (T : Tx K mg) : Good P w K mg base CX0 "parts_of" 7 ["value"] (spRel rParts) := by
  obtain ⟨fd, F⟩ := T.f_parts_of
  refine ⟨T.m_parts_of, F.kp, fd, ?_, F.bindsN fun _ _ _ _ _ _ us hl => match us, hl with | [_], _ => rfl⟩
  have G_is_great := ok_is_great (P := P) (w := w) (base := base) T
  have G_is_number := ok_is_number (P := P) (w := w) (base := base) T
  have G_is_row := ok_is_row (P := P) (w := w) (base := base) T
  refine F.ok sc_parts_of (fun vs H Q E h => ?_) (fun cdv A outer s H vs Q E hr h => ?_)
  · obtain ⟨G, ds, d, _, r, ⟨x, rfl, _⟩, _⟩ := h
    exact r.len
  · obtain ⟨G, ds, d, s0, r, ⟨x, rfl, hx, rfl⟩, k⟩ := h
    obtain ⟨v1, _, rfl, r_value, rfl⟩ := r
    refine ⟨_, PSs.nox ((pss_cons (ps_if (PW.pt (pw_or (pt_not (pt_val (pe_callB call_isi (by rfl) T.n_isinstance (by decide +kernel) (pa_cons (pv 0) (pa_cons (pe_bltn (v := .ty "tuple") rfl T.n_tuple (by decide +kernel) rfl) pa_nil))))) (pw_or (pt_not (pt_truth (pv 0) (by intro _; rfl))) (pw_or1 (pt_not (pt_val (pe_callB call_isi (by rfl) T.n_isinstance (by decide +kernel) (pa_cons (pe_ix ix_tup (pv 0) pe_int (fun _ _ => rfl)) (pa_cons (pe_bltn (v := .ty "str") rfl T.n_str (by decide +kernel) rfl) pa_nil))))))))) (pss_one (ps_ret pe_non)) pss_nil)
    (pss_cons (ps_par (i := 1) (j := 2) (by rfl) sc_parts_of.nd rfl rfl (by decide) rfl rfl (pa_cons (pe_ix ix_tup (pv 0) pe_int (fun _ _ => rfl)) (pa_cons (pe_slice sl_tupA (pv 0) (po_some pe_int) po_none) pa_nil)) (by rfl))
    (pss_cons (ps_if (pt_cmpR op_in_seq (pv 1) (pe_glob (v := .ref (He.ga K "PLAIN")) rfl T.m_PLAIN rfl) (by rfl)) (pss_one (ps_ret (pe_ifExp (pt_truth (pv 2) (by intro _; rfl)) pe_non (pe_lst pa_nil)))) pss_nil)
    (pss_cons (ps_if (pt_cmpR op_eq (pv 1) pe_str (nomark _)) (pss_one (ps_ret (pe_ifExp (PW.pt (pw_and (pt_cmpR op_eq (pe_callB call_len_seq (by rfl) T.n_len PySem.boot_len (pa_cons (pv 2) pa_nil)) pe_int (nomark _)) (pw_and1 (pt_val (pe_g G_is_number (hr.mono (by decide)) (pa_cons (pe_ix ix_tup (pv 2) pe_int (fun _ _ => rfl)) pa_nil)))))) (pe_lst pa_nil) pe_non))) pss_nil)
    (pss_cons (ps_if (pt_cmpR op_eq (pv 1) pe_str (nomark _)) (pss_one (ps_ret (pe_ifExp (pt_cmpR op_eq (pe_callB call_len_seq (by rfl) T.n_len PySem.boot_len (pa_cons (pv 2) pa_nil)) pe_int (nomark _)) (pe_callTy call_list_of (by rfl) T.n_list (by decide +kernel) (pa_cons (pv 2) pa_nil)) pe_non))) pss_nil)
    (pss_cons (ps_if (pt_cmpR op_eq (pv 1) pe_str (nomark _)) (pss_one (ps_ret (pe_ifExp (PW.pt (pw_and (pt_cmpR op_eq (pe_callB call_len_seq (by rfl) T.n_len PySem.boot_len (pa_cons (pv 2) pa_nil)) pe_int (nomark _)) (pw_and1 (pt_val (pe_g G_is_row (hr.mono (by decide)) (pa_cons (pe_ix ix_tup (pv 2) pe_int (fun _ _ => rfl)) pa_nil)))))) (pe_lst (pa_cons (pe_ix ix_tup (pv 2) pe_int (fun _ _ => rfl)) (pa_cons (pe_ix ix_tup (pv 2) pe_int (fun _ _ => rfl)) pa_nil))) pe_non))) pss_nil)
    (pss_cons (ps_if (PW.pt (pw_and (pt_cmpR op_eq (pv 1) pe_str (nomark _)) (pw_and (pt_cmpR op_eq (pe_callB call_len_seq (by rfl) T.n_len PySem.boot_len (pa_cons (pv 2) pa_nil)) pe_int (nomark _)) (pw_and (pt_val (pe_g G_is_great (hr.mono (by decide)) (pa_cons (pe_ix ix_tup (pv 2) pe_int (fun _ _ => rfl)) pa_nil))) (pw_and1 (pt_val (pe_callB call_isi (by rfl) T.n_isinstance (by decide +kernel) (pa_cons (pe_ix ix_tup (pv 2) pe_int (fun _ _ => rfl)) (pa_cons (pe_bltn (v := .ty "list") rfl T.n_list (by decide +kernel) rfl) pa_nil))))))))) (pss_one (ps_ret (pe_callTy call_list_of (by rfl) T.n_list (by decide +kernel) (pa_cons (pe_ix ix_tup (pv 2) pe_int (fun _ _ => rfl)) pa_nil)))) pss_nil)
    (pss_one (ps_ret pe_non)))))))))), ?_⟩
    have g := gr0 (M := []) s0
    cases x with
    | tup ds =>
      cases ds with
      | nil => exact s_ifT (eb_orF (eb_not (eb_B (ed_isTup (ed_var rfl r_value)))) (eb_orT (eb_not (eb_truth (ed_var rfl r_value) rfl)))) g fun H1 g => s_ret ed_non g k
      | cons a rest =>
        cases a with
        | str wd =>
          obtain ⟨hl, hf, hd⟩ := hx
          refine s_ifF (eb_orF (eb_not (eb_B (ed_isTup (ed_var rfl r_value)))) (eb_orF (eb_not (eb_truth (ed_var rfl r_value) rfl)) (eb_not (eb_B (ed_isStr (ed_op (ed_var rfl r_value) ed_int fun _ _ => rd_ixT at0)))))) g fun H1 g => ?_
          refine s_par (eds_cons (ed_op (ed_var rfl r_value) ed_int fun _ _ => rd_ixT at0) (eds_cons ((ed_slT (ed_var rfl r_value) (eo_some ed_int) eo_none).to (by rw [cut1t])) eds_nil)) g fun vw vr G H2 g e r_word r_rest => ?_
          show tSeq _ _ _ [some v1, some vw, some vr] H2
          have k : ∀ v G' H', Gp _ H G' H' → Rp G' (optD (partsW wd rest)) v → Q v H' := k
          unfold partsW at k
          refine s_if (eb_test (ed_inK (ed_var rfl r_word) T.plain)) g (fun hb H3 g => ?_) fun hb H3 g => ?_
          · rw [if_pos hb] at k
            refine s_ret (ed_ifc (eb_truth (ed_var rfl r_rest) rfl) (fun _ => ed_non) fun _ => ed_lst eds_nil (Nat.zero_le _)) g fun v G' H' g r => k v G' H' g ?_
            cases rest with
            | nil => exact r
            | cons _ _ => exact r
          rw [if_neg (by rw [hb]; simp)] at k
          refine s_if (eb_test (ed_op (ed_var rfl r_word) ed_str fun _ _ => rd_eq rfl)) g (fun hb H4 g => ?_) fun hb H4 g => ?_
          · rw [if_pos hb] at k
            by_cases h1 : rest.length = 1
            · obtain ⟨n, rfl⟩ : ∃ n, rest = [n] := match rest, h1 with | [n], _ => ⟨n, rfl⟩
              have hN : rNumber [n] (.bl (isNumber n)) := ⟨n, rfl, rfl⟩
              refine s_ret (ed_ifc (eb_andT (eb_test (ed_op (ed_lenT (ed_var rfl r_rest)) ed_int fun _ _ => rd_eq rfl)) (eb_B (ed_rel (eds_cons (ed_op (ed_var rfl r_rest) ed_int fun _ _ => rd_ixT at0) eds_nil) hN))) (fun _ => ed_lst eds_nil (Nat.zero_le _)) fun _ => ed_non) g fun v G' H' g r => k v G' H' g ?_
              show Rp G' (optD (if isNumber n = true then some [] else none)) v
              cases q : isNumber n <;> rw [q] at r <;> exact r
            · refine s_ret (ed_ifF (eb_andF (((eb_test (ed_op (ed_lenT (ed_var rfl r_rest)) ed_int fun _ _ => rd_eq rfl)) : Eb _ _ _ _).to (decide_eq_false (by omega)))) ed_non) g fun v G' H' g r => k v G' H' g ?_
              have e : oneNum rest = false := by
                match rest, h1 with
                | [], _ => rfl
                | [_], h1 => simp at h1
                | _ :: _ :: _, _ => rfl
              rw [e]
              exact r
          rw [if_neg (by rw [hb]; simp)] at k
          refine s_if (eb_test (ed_op (ed_var rfl r_word) ed_str fun _ _ => rd_eq rfl)) g (fun hb H5 g => ?_) fun hb H5 g => ?_
          · rw [if_pos hb] at k
            refine s_ret (ed_ifc (eb_test (ed_op (ed_lenT (ed_var rfl r_rest)) ed_int fun _ _ => rd_eq rfl)) (fun _ => ed_listT (ed_var rfl r_rest)) fun _ => ed_non) g fun v G' H' g r => k v G' H' g ?_
            by_cases h2 : rest.length = 2
            · rw [if_pos h2]
              rw [if_pos (decide_eq_true (by omega))] at r
              exact r
            · rw [if_neg h2]
              rw [if_neg (by rw [decide_eq_false (by omega)]; simp)] at r
              exact r
          rw [if_neg (by rw [hb]; simp)] at k
          refine s_if (eb_test (ed_op (ed_var rfl r_word) ed_str fun _ _ => rd_eq rfl)) g (fun hb H6 g => ?_) fun hb H6 g => ?_
          · rw [if_pos hb] at k
            by_cases h3 : rest.length = 3
            · obtain ⟨a, rw', b, rfl⟩ : ∃ a r b, rest = [a, r, b] := match rest, h3 with | [a, r, b], _ => ⟨a, r, b, rfl⟩
              have hR : rRow [rw'] (.bl (isRow rw')) := ⟨rw', rfl, hf (of_decide_eq_true hb) a rw' b rfl, rfl⟩
              refine s_ret (ed_ifc (eb_andT (eb_test (ed_op (ed_lenT (ed_var rfl r_rest)) ed_int fun _ _ => rd_eq rfl)) (eb_B (ed_rel (eds_cons (ed_op (ed_var rfl r_rest) ed_int fun _ _ => rd_ixT at1) eds_nil) hR))) (fun _ => (ed_lst (eds_cons (ed_op (ed_var rfl r_rest) ed_int fun _ _ => rd_ixT at0) (eds_cons (ed_op (ed_var rfl r_rest) ed_int fun _ _ => rd_ixT at2) eds_nil)) (Nat.le_of_ble_eq_true rfl))) fun _ => ed_non) g fun v G' H' g r => k v G' H' g ?_
              show Rp G' (optD (if isRow rw' = true then some [a, b] else none)) v
              cases q : isRow rw' <;> rw [q] at r <;> exact r
            · refine s_ret (ed_ifF (eb_andF (((eb_test (ed_op (ed_lenT (ed_var rfl r_rest)) ed_int fun _ _ => rd_eq rfl)) : Eb _ _ _ _).to (decide_eq_false (by omega)))) ed_non) g fun v G' H' g r => k v G' H' g ?_
              rw [funOf_no h3]
              exact r
          rw [if_neg (by rw [hb]; simp)] at k
          cases hw : decide (wd = "data") with
          | false =>
            rw [hw, if_neg (by simp)] at k
            refine s_ifF (eb_andF (((eb_test (ed_op (ed_var rfl r_word) ed_str fun _ _ => rd_eq rfl)) : Eb _ _ _ _).to hw)) g fun H7 g => ?_
            simp only [tNext]
            refine s_ret ed_non g ?_
            exact k
          | true =>
            rw [hw, if_pos rfl] at k
            by_cases h2 : rest.length = 2
            · obtain ⟨n, ks, rfl⟩ : ∃ n ks, rest = [n, ks] := match rest, h2 with | [n, ks], _ => ⟨n, ks, rfl⟩
              have hG : rGreat [n] (.bl (isGreat n)) := ⟨n, rfl, hd (of_decide_eq_true hw) n ks rfl, rfl⟩
              cases q : isGreat n with
              | false =>
                refine s_ifF (eb_andT (((eb_test (ed_op (ed_var rfl r_word) ed_str fun _ _ => rd_eq rfl)) : Eb _ _ _ _).to hw) (eb_andT (eb_test (ed_op (ed_lenT (ed_var rfl r_rest)) ed_int fun _ _ => rd_eq rfl)) (eb_andF ((eb_B (ed_rel (eds_cons (ed_op (ed_var rfl r_rest) ed_int fun _ _ => rd_ixT at0) eds_nil) hG)).to q)))) g fun H7 g => ?_
                simp only [tNext]
                refine s_ret ed_non g ?_
                refine fun v G' H' g r => k v G' H' g ?_
                cases ks <;> first | exact r | (show Rp G' (optD (if isGreat n = true then some _ else none)) v; rw [q]; exact r)
              | true =>
                cases ks with
                | lst ks =>
                  refine s_ifT (eb_andT (((eb_test (ed_op (ed_var rfl r_word) ed_str fun _ _ => rd_eq rfl)) : Eb _ _ _ _).to hw) (eb_andT (eb_test (ed_op (ed_lenT (ed_var rfl r_rest)) ed_int fun _ _ => rd_eq rfl)) (eb_andT ((eb_B (ed_rel (eds_cons (ed_op (ed_var rfl r_rest) ed_int fun _ _ => rd_ixT at0) eds_nil) hG)).to q) (eb_B (ed_isLst (ed_op (ed_var rfl r_rest) ed_int fun _ _ => rd_ixT at1)))))) g fun H7 g => s_ret (ed_listL (ed_op (ed_var rfl r_rest) ed_int fun _ _ => rd_ixT at1)) g fun v G' H' g r => k v G' H' g ?_
                  show Rp G' (optD (if isGreat n = true then some ks else none)) v
                  rw [q]
                  exact r
                | _ =>
                  refine s_ifF (eb_andT (((eb_test (ed_op (ed_var rfl r_word) ed_str fun _ _ => rd_eq rfl)) : Eb _ _ _ _).to hw) (eb_andT (eb_test (ed_op (ed_lenT (ed_var rfl r_rest)) ed_int fun _ _ => rd_eq rfl)) (eb_andT ((eb_B (ed_rel (eds_cons (ed_op (ed_var rfl r_rest) ed_int fun _ _ => rd_ixT at0) eds_nil) hG)).to q) (eb_B (ed_isLst (ed_op (ed_var rfl r_rest) ed_int fun _ _ => rd_ixT at1)))))) g fun H7 g => ?_
                  simp only [tNext]
                  refine s_ret ed_non g ?_
                  exact k
            · refine s_ifF (eb_andT (((eb_test (ed_op (ed_var rfl r_word) ed_str fun _ _ => rd_eq rfl)) : Eb _ _ _ _).to hw) (eb_andF (((eb_test (ed_op (ed_lenT (ed_var rfl r_rest)) ed_int fun _ _ => rd_eq rfl)) : Eb _ _ _ _).to (decide_eq_false (by omega))))) g fun H7 g => ?_
              simp only [tNext]
              refine s_ret ed_non g ?_
              refine fun v G' H' g r => k v G' H' g ?_
              rw [dataOf_no h2]
              exact r
        | _ => exact s_ifT (eb_orF (eb_not (eb_B (ed_isTup (ed_var rfl r_value)))) (eb_orF (eb_not (eb_truth (ed_var rfl r_value) rfl)) (eb_not (eb_B (ed_isStr (ed_op (ed_var rfl r_value) ed_int fun _ _ => rd_ixT at0)))))) g fun H1 g => s_ret ed_non g k
    | _ => exact s_ifT (eb_orT (eb_not (eb_B (ed_isTup (ed_var rfl r_value))))) g fun H1 g => s_ret ed_non g k
end
end K18
set_option maxHeartbeats 4000000
namespace K18
open PySem PySem.Spec PyProof.Rows L2 Kd
/-! ### kinds of a tree -/
mutual
def szD : D → Nat
  | .tup ds => szL ds + 1
  | .lst ds => szL ds + 1
  | _ => 1
def szL : List D → Nat
  | [] => 0
  | d :: ds => szD d + szL ds
end
theorem szL_app : ∀ (ds es : List D), szL (ds ++ es) = szL ds + szL es
  | [], es => by simp [szL]
  | d :: ds, es => by simp [szL, szL_app ds es]; omega
theorem szD_pos : ∀ d : D, 1 ≤ szD d := fun d => by cases d <;> simp [szD]
theorem szL_mem {d : D} : ∀ {ds : List D}, d ∈ ds → szD d ≤ szL ds
  | e :: ds, h => by
    rcases List.mem_cons.mp h with rfl | h
    · simp [szL]
    · have := szL_mem h
      simp [szL]
      omega
theorem szL_len : ∀ ds : List D, ds.length ≤ szL ds
  | [] => by simp
  | d :: ds => by
    have := szL_len ds
    have := szD_pos d
    simp [szL]
    omega
theorem szL_drop (n : Nat) : ∀ ds : List D, szL (ds.drop n) ≤ szL ds := fun ds => by
  have e := szL_app (ds.take n) (ds.drop n)
  rw [List.take_append_drop] at e
  omega
theorem partsOf_sz {x : D} {ps : List D} (h : partsOf x = some ps) : szL ps < szD x := by
  unfold partsOf at h
  split at h
  · rename_i w rest
    show szL ps < szD (.str w) + szL rest + 1
    unfold partsW at h
    split at h
    · split at h
      · cases h; simp [szL]
      · cases h
    · split at h
      · split at h
        · cases h; simp [szL]
        · cases h
      · split at h
        · split at h
          · cases h; omega
          · cases h
        · split at h
          · unfold funOf at h
            split at h
            · split at h
              · cases h; simp [szL]; omega
              · cases h
            · cases h
          · split at h
            · unfold dataOf at h
              split at h
              · split at h
                · cases h; simp [szL, szD]; omega
                · cases h
              · cases h
            · cases h
  · cases h
def isKind (x : D) : Bool := match h : partsOf x with
  | none => false
  | some ps => ps.attach.all fun p => isKind p.1
termination_by szD x
decreasing_by exact Nat.lt_of_le_of_lt (szL_mem p.2) (partsOf_sz h)
theorem isKind_eq (x : D) : isKind x = match partsOf x with | none => false | some ps => ps.all isKind := by
  rw [isKind]
  split
  · rename_i h
    rw [h]
  · rename_i ps h
    rw [h]
    show (ps.attach.all fun p => isKind p.1) = ps.all isKind
    rw [← List.attach_map_subtype_val ps, List.all_map]
    simp
/-- what the walk comes to -/
inductive Rch (x : D) : D → Prop where
  | refl : Rch x x
  | step {y z : D} {ps : List D} : Rch x y → partsOf y = some ps → z ∈ ps → Rch x z
def kindOk (x : D) : Prop := ∀ y, Rch x y → partsOk y
theorem Rch.trans {x y z : D} (a : Rch x y) (b : Rch y z) : Rch x z := by
  induction b with
  | refl => exact a
  | step _ h1 h2 ih => exact .step ih h1 h2
theorem kindOk.part {x y : D} {ps : List D} (h : kindOk x) (e : partsOf x = some ps) (hy : y ∈ ps) : kindOk y := fun z r => h z (Rch.trans (.step .refl e hy) r)
theorem isNon_opt (o : Option (List D)) : isNon (optD o) = o.isNone := by cases o <;> rfl
section
variable {P : Program} {w : World} {K : PySem.W.Frag} {mg : Str → Option Value} {base : Heap}
def rKind : List D → D → Prop := fun ds d => ∃ x, ds = [x] ∧ kindOk x ∧ szD x ≤ 100000 ∧ d = .bl (isKind x)
abbrev N_is_kind : List Str := ["value", "waiting", "parts"]
theorem sc_is_kind : FnScope ["value", "waiting", "parts"] ["value"] (defScope s_is_kind) := ⟨rfl, rfl, rfl, by decide +kernel, rfl, by decide +kernel, by decide +kernel⟩
theorem ok_is_kind (T : Tx K mg) : Good P w K mg base CX0 "is_kind" 8 ["value"] (spRel rKind) := by
  obtain ⟨fd, F⟩ := T.f_is_kind
  refine ⟨T.m_is_kind, F.kp, fd, ?_, F.bindsN fun _ _ _ _ _ _ us hl => match us, hl with | [_], _ => rfl⟩
  have G_parts_of := ok_parts_of (P := P) (w := w) (base := base) T
  refine F.ok sc_is_kind (fun vs H Q E h => ?_) (fun cdv A outer s H vs Q E hr h => ?_)
  · obtain ⟨G, ds, d, _, r, ⟨x, rfl, _⟩, _⟩ := h
    exact r.len
  · obtain ⟨G, ds, d, s0, r, ⟨x, rfl, hx, hz, rfl⟩, k⟩ := h
    obtain ⟨v1, _, rfl, r_value, rfl⟩ := r
    refine ⟨_, PSs.nox ((pss_cons (ps_set (i := 1) sc_is_kind.nd rfl (Or.inl rfl) (pe_lst (pa_cons (pv 0) pa_nil)))
    (pss_cons (ps_while PassesOwn.never (pt_truth (pv 1) (by intro _; rfl)) (pss_cons (ps_set (i := 2) sc_is_kind.nd rfl (Or.inl rfl) (pe_g G_parts_of (hr.mono (by decide)) (pa_cons (pe_bm0 PySem.F.plainAttrs_list PySem.F.slot_list_pop PySem.F.type_list_pop mt_pop (pv 1)) pa_nil)))
    (pss_cons (ps_if (pt_cmpR op_isN (pv 2) pe_non (nomark _)) (pss_one (ps_ret pe_bl)) pss_nil)
    (pss_one (ps_expr (pe_bm PySem.F.plainAttrs_list PySem.F.slot_list_extend PySem.F.type_list_extend mt_extend (pv 1) (pa_cons (pv 2) pa_nil)))))))
    (pss_one (ps_ret pe_bl))))), ?_⟩
    have g := gr0 (M := []) s0
    -- waiting = [value]
    refine ⟨v1, rfl, (by show 1 ≤ sizeLine; decide), fun l hl => ?_⟩
    show tSeq _ _ _ [some v1, some (.ref l), none] _
    have h0 : H l = none := hl
    refine ⟨fun m σ Hc => ∃ (Gc : Hp) (ws : List D) (vs : List V) (o : Option V), σ = [some v1, some (.ref l), o] ∧ Gp G H Gc Hc ∧ Gc l = none ∧ Hc l = some (.lst vs) ∧ RpL Gc ws vs ∧ (∀ y ∈ ws, kindOk y) ∧ szL ws ≤ 100000 ∧ isKind x = ws.all isKind ∧ m = szL ws,
      ⟨_, G, [x], [v1], none, rfl, g.tmp hl, g.gfree hl, upd_same, .one r_value, fun y hy => by rw [List.mem_singleton.mp hy]; exact hx, by simpa [szL] using hz, by simp, rfl⟩, ?_⟩
    rintro m σ Hc ⟨Gc, ws, vs, o, rfl, gc, gl, hL, hr, hok, hsz, hkd, rfl⟩
    refine ⟨_, rfl, _, .inl ⟨vs, SqL.of hL, rfl⟩, ?_⟩
    rcases nil_or_snoc ws with rfl | ⟨ws', y, rfl⟩
    · cases hr
      rw [if_neg (by simp)]
      dsimp only
      refine s_ret ed_bl gc ?_
      refine fun v G' H' g r => k v G' H' g ?_
      rw [hkd]
      exact r
    · obtain ⟨vs', u, rfl, hr1, hr2⟩ : ∃ vs' u, vs = vs' ++ [u] ∧ RpL Gc ws' vs' ∧ Rp Gc y u := RpL.unsnoc hr
      rw [if_pos (by simp)]
      rw [szL_app] at hsz
      have hsz : szL ws' + (szD y + 0) ≤ 100000 := hsz
      refine ⟨_, fun _ _ q => q, ?_⟩
      have gl' : ∀ {o}, Gp G H Gc (upd Hc l o) := fun {o} => gc.mut gl h0
      refine ⟨_, rfl, .inl ⟨rfl, _, SqL.of hL⟩, l, _, u, rfl, rfl, hL, by simp, Gc, [y], optD (partsOf y), gl'.s, .one hr2, ⟨y, rfl, hok y (by simp) y .refl, rfl⟩, fun v2 G2 H2 g2 r_parts => ?_⟩
      have g2' := gl'.call g2
      have hL2 : H2 l = some (.lst vs') := by
        have := g2.e l _ (upd_same (o := .lst (vs' ++ [u]).dropLast))
        rw [List.dropLast_concat] at this
        exact this
      have gl2 : G2 l = none := g2.n l gl (by rw [upd_same]; exact fun z => nomatch z)
      show tSeq _ _ _ [some v1, some (.ref l), some v2] _
      have hy : isKind y = match partsOf y with | none => false | some ps => ps.all isKind := isKind_eq y
      rw [List.all_append] at hkd
      refine s_if' (eb_test (ed_op (ed_var rfl r_parts) ed_non fun _ _ => rd_isN)) g2' (fun hb H3 g3 e3 => ?_) fun hb H3 g3 e3 => ?_
      · rw [isNon_opt] at hb
        cases e : partsOf y with
        | some ps => rw [e] at hb; cases hb
        | none =>
          rw [e] at hy
          refine s_ret ed_bl g3 fun v G' H' g r => k v G' H' g ?_
          rw [hkd, List.all_cons, hy]
          simpa using r
      · rw [isNon_opt] at hb
        cases e : partsOf y with
        | none => rw [e] at hb; cases hb
        | some ps =>
          rw [e] at hy r_parts
          obtain ⟨b, zs, rfl, hb2, hrz⟩ := r_parts
          have hlz := partsOf_sz e
          obtain ⟨hL3, _⟩ := e3 l _ hL2
          have hlen : vs'.length + zs.length ≤ sizeLine := by
            rw [hr1.len, hrz.len]
            have h1 := szL_len ws'
            have h2 := szL_len ps
            exact Nat.le_trans (by omega : _ ≤ 100000) (by decide)
          refine ⟨_, rfl, .inl ⟨rfl, _, SqL.of hL3⟩, _, rfl, l, b, vs', zs, rfl, rfl, hL3, g3.s b _ hb2, hlen, ?_⟩
          refine ⟨szL (ws' ++ ps), ?_, G2, ws' ++ ps, vs' ++ zs, _, rfl, g3.mut gl2 h0, gl2, upd_same, ((hr1.mono g2.g).app hrz), fun z hz => ?_, ?_, ?_, rfl⟩
          · rw [szL_app, szL_app]
            show _ < szL ws' + (szD y + 0)
            omega
          · rcases List.mem_append.mp hz with q | q
            · exact hok z (by simp [q])
            · exact (hok y (by simp)).part e q
          · rw [szL_app]
            omega
          · rw [hkd, List.all_append, List.all_cons, hy]
            simp
end
end K18
set_option maxHeartbeats 4000000
/-! Nodes, trees of nodes, what they show. -/
namespace K18
open PySem PySem.Spec PyProof.Rows L2 Kd
inductive Fl where
  | pre | num (n : Int)
def Fl.d : Fl → D
  | .pre => .str "pre"
  | .num n => .tup [.str "flag", .int n]
structure Ro where
  ns : List (Str × Fl)
  t : Int
def nmD (p : Str × Fl) : D := .tup [.str p.1, p.2.d]
def Ro.l (r : Ro) : D := .lst (r.ns.map nmD)
def Ro.d (r : Ro) : D := .tup [r.l, .int r.t]
inductive Nd where
  | plain (w : Str) | letter (n : Int) | pair | data (s : Str) (m : Nat) | func (r : Ro)
def Nd.many : Nd → Nat
  | .pair => 2
  | .data _ m => m
  | .func _ => 2
  | _ => 0
inductive Tr where
  | mk (a : Nd) (ks : List Tr)
def build : Nd → List D → D
  | .plain w, _ => .tup [.str w]
  | .letter n, _ => .tup [.str "letter", .int n]
  | .pair, p :: q :: _ => .tup [.str "pair", p, q]
  | .data s _, ps => .tup [.str "data", .str s, .lst ps]
  | .func r, p :: q :: _ => .tup [.str "fun", p, r.d, q]
  | _, _ => .non
mutual
def tD (f : Nd → Nd) : Tr → D
  | .mk a ks => build (f a) (tDL f ks)
def tDL (f : Nd → Nd) : List Tr → List D
  | [] => []
  | k :: ks => tD f k :: tDL f ks
end
theorem tDL_map (f : Nd → Nd) : ∀ ks, tDL f ks = ks.map (tD f)
  | [] => rfl
  | k :: ks => by rw [tDL, tDL_map f ks]; rfl
theorem tDL_len (f : Nd → Nd) (ks : List Tr) : (tDL f ks).length = ks.length := by rw [tDL_map, List.length_map]
def okFl : Fl → Prop
  | .pre => True
  | .num n => 0 ≤ n
structure okRo (r : Ro) : Prop where
  len : r.ns.length ≤ 6
  nm : ∀ p ∈ r.ns, isSmall (.str p.1) = true ∧ p.1.length ≤ 12 ∧ okFl p.2
  up : rising (r.ns.map nmD) = true
  tl : 0 ≤ r.t
def okNd : Nd → Prop
  | .plain w => w ∈ thePlain
  | .letter n => 0 ≤ n
  | .pair => True
  | .data s _ => isGreat (.str s) = true ∧ s.length ≤ 12
  | .func r => okRo r
/-- the parts are as many as told, every label is right -/
inductive okT (f : Nd → Nd) : Tr → Prop where
  | mk {a : Nd} {ks : List Tr} : okNd (f a) → ks.length = (f a).many → (∀ k ∈ ks, okT f k) → okT f (.mk a ks)
mutual
def szT : Tr → Nat
  | .mk _ ks => szTL ks + 2
def szTL : List Tr → Nat
  | [] => 0
  | k :: ks => szT k + szTL ks
end
theorem szTL_len : ∀ ks : List Tr, 2 * ks.length ≤ szTL ks
  | [] => by simp
  | .mk a ks :: r => by
    have := szTL_len r
    simp only [szTL, szT, List.length_cons]
    omega
theorem szTL_app : ∀ (ks js : List Tr), szTL (ks ++ js) = szTL ks + szTL js
  | [], js => by simp [szTL]
  | k :: ks, js => by simp [szTL, szTL_app ks js]; omega
theorem szTL_rev : ∀ ks : List Tr, szTL ks.reverse = szTL ks
  | [] => rfl
  | k :: ks => by rw [List.reverse_cons, szTL_app, szTL_rev ks]; simp [szTL]; omega
-- what is read of a tree: letters, rows
mutual
def rdT (f : Nd → Nd) : Tr → List (Int ⊕ Ro)
  | .mk a ks => match f a with
    | .letter n => [.inl n]
    | .func r => match ks with
      | [x, y] => rdT f x ++ (.inr r :: rdT f y)
      | _ => []
    | _ => rdTL f ks
def rdTL (f : Nd → Nd) : List Tr → List (Int ⊕ Ro)
  | [] => []
  | k :: ks => rdT f k ++ rdTL f ks
end
def eD : Int ⊕ Ro → D
  | .inl n => build (.letter n) []
  | .inr r => .tup [.str "row", r.d]
def leafN : Nd → Bool
  | .plain _ => true
  | .letter _ => true
  | _ => false
theorem plain_word {w : Str} (h : w ∈ thePlain) : w.length ≤ 4 ∧ (w ≠ "pair" ∧ w ≠ "fun" ∧ w ≠ "data" ∧ w ≠ "letter" ∧ w ≠ "row") := by
  simp only [thePlain, List.mem_cons, List.not_mem_nil, or_false] at h
  rcases h with rfl | rfl | rfl | rfl <;> decide
end K18
set_option maxHeartbeats 4000000
namespace K18
open PySem PySem.Spec PyProof.Rows L2 Kd
section
variable {P : Program} {w : World} {K : PySem.W.Frag} {mg : Str → Option Value} {base : Heap}
def rPK : List D → D → Prop := fun ds d => ∃ a ps, ds = [build a ps] ∧ okNd a ∧ ps.length = a.many ∧ d = .lst ps
abbrev N_parts_of_kind : List Str := ["kind"]
theorem sc_parts_of_kind : FnScope ["kind"] ["kind"] (defScope s_parts_of_kind) := ⟨rfl, rfl, rfl, by decide +kernel, rfl, by decide +kernel, by decide +kernel⟩
theorem ok_parts_of_kind (T : Tx K mg) : Good P w K mg base CX0 "parts_of_kind" 2 ["kind"] (spRel rPK) := by
  obtain ⟨fd, F⟩ := T.f_parts_of_kind
  refine ⟨T.m_parts_of_kind, F.kp, fd, ?_, F.bindsN fun _ _ _ _ _ _ us hl => match us, hl with | [_], _ => rfl⟩
  refine F.ok sc_parts_of_kind (fun vs H Q E h => ?_) (fun cdv A outer s H vs Q E hr h => ?_)
  · obtain ⟨G, ds, d, _, r, ⟨a, ps, rfl, _⟩, _⟩ := h
    exact r.len
  · obtain ⟨G, ds, d, s0, r, ⟨a, ps, rfl, ha, hp, rfl⟩, k⟩ := h
    obtain ⟨v1, _, rfl, r_kind, rfl⟩ := r
    refine ⟨_, PSs.nox ((pss_cons (ps_if (pt_cmpR op_eq (pe_ix ix_tup (pv 0) pe_int (fun _ _ => rfl)) pe_str (nomark _)) (pss_one (ps_ret (pe_lst (pa_cons (pe_ix ix_tup (pv 0) pe_int (fun _ _ => rfl)) (pa_cons (pe_ix ix_tup (pv 0) pe_int (fun _ _ => rfl)) pa_nil))))) pss_nil)
    (pss_cons (ps_if (pt_cmpR op_eq (pe_ix ix_tup (pv 0) pe_int (fun _ _ => rfl)) pe_str (nomark _)) (pss_one (ps_ret (pe_lst (pa_cons (pe_ix ix_tup (pv 0) pe_int (fun _ _ => rfl)) (pa_cons (pe_ix ix_tup (pv 0) pe_int (fun _ _ => rfl)) pa_nil))))) pss_nil)
    (pss_one (ps_ret (pe_ifExp (pt_cmpR op_eq (pe_ix ix_tup (pv 0) pe_int (fun _ _ => rfl)) pe_str (nomark _)) (pe_callTy call_list_of (by rfl) T.n_list (by decide +kernel) (pa_cons (pe_ix ix_tup (pv 0) pe_int (fun _ _ => rfl)) pa_nil)) (pe_lst pa_nil))))))), ?_⟩
    have g := gr0 (M := []) s0
    cases a with
    | plain x =>
      obtain ⟨_, h1, h2, h3, _⟩ := plain_word ha
      have e : ps = [] := List.eq_nil_of_length_eq_zero hp
      subst e
      refine s_ifF (((eb_test (ed_op (ed_op (ed_var rfl r_kind) ed_int fun _ _ => rd_ixT at0) ed_str fun _ _ => rd_eq rfl)) : Eb _ _ _ _).to (decide_eq_false h1)) g fun H1 g => ?_
      refine s_ifF (((eb_test (ed_op (ed_op (ed_var rfl r_kind) ed_int fun _ _ => rd_ixT at0) ed_str fun _ _ => rd_eq rfl)) : Eb _ _ _ _).to (decide_eq_false h2)) g fun H1 g => ?_
      exact s_ret (ed_ifF (((eb_test (ed_op (ed_op (ed_var rfl r_kind) ed_int fun _ _ => rd_ixT at0) ed_str fun _ _ => rd_eq rfl)) : Eb _ _ _ _).to (decide_eq_false h3)) (ed_lst eds_nil (Nat.zero_le _))) g k
    | letter n =>
      have e : ps = [] := List.eq_nil_of_length_eq_zero hp
      subst e
      refine s_ifF (eb_test (ed_op (ed_op (ed_var rfl r_kind) ed_int fun _ _ => rd_ixT at0) ed_str fun _ _ => rd_eq rfl)) g fun H1 g => ?_
      refine s_ifF (eb_test (ed_op (ed_op (ed_var rfl r_kind) ed_int fun _ _ => rd_ixT at0) ed_str fun _ _ => rd_eq rfl)) g fun H1 g => ?_
      exact s_ret (ed_ifF (eb_test (ed_op (ed_op (ed_var rfl r_kind) ed_int fun _ _ => rd_ixT at0) ed_str fun _ _ => rd_eq rfl)) (ed_lst eds_nil (Nat.zero_le _))) g k
    | pair =>
      obtain ⟨p, q, rfl⟩ : ∃ p q, ps = [p, q] := match ps, hp with | [p, q], _ => ⟨p, q, rfl⟩
      refine s_ifT (eb_test (ed_op (ed_op (ed_var rfl r_kind) ed_int fun _ _ => rd_ixT at0) ed_str fun _ _ => rd_eq rfl)) g fun H1 g => ?_
      exact s_ret (ed_lst (eds_cons (ed_op (ed_var rfl r_kind) ed_int fun _ _ => rd_ixT at1) (eds_cons (ed_op (ed_var rfl r_kind) ed_int fun _ _ => rd_ixT at2) eds_nil)) (Nat.le_of_ble_eq_true rfl)) g k
    | data x m =>
      refine s_ifF (eb_test (ed_op (ed_op (ed_var rfl r_kind) ed_int fun _ _ => rd_ixT at0) ed_str fun _ _ => rd_eq rfl)) g fun H1 g => ?_
      refine s_ifF (eb_test (ed_op (ed_op (ed_var rfl r_kind) ed_int fun _ _ => rd_ixT at0) ed_str fun _ _ => rd_eq rfl)) g fun H1 g => ?_
      exact s_ret (ed_ifT (eb_test (ed_op (ed_op (ed_var rfl r_kind) ed_int fun _ _ => rd_ixT at0) ed_str fun _ _ => rd_eq rfl)) (ed_listL (ed_op (ed_var rfl r_kind) ed_int fun _ _ => rd_ixT at2))) g k
    | func x =>
      obtain ⟨p, q, rfl⟩ : ∃ p q, ps = [p, q] := match ps, hp with | [p, q], _ => ⟨p, q, rfl⟩
      refine s_ifF (eb_test (ed_op (ed_op (ed_var rfl r_kind) ed_int fun _ _ => rd_ixT at0) ed_str fun _ _ => rd_eq rfl)) g fun H1 g => ?_
      refine s_ifT (eb_test (ed_op (ed_op (ed_var rfl r_kind) ed_int fun _ _ => rd_ixT at0) ed_str fun _ _ => rd_eq rfl)) g fun H1 g => ?_
      exact s_ret (ed_lst (eds_cons (ed_op (ed_var rfl r_kind) ed_int fun _ _ => rd_ixT at1) (eds_cons (ed_op (ed_var rfl r_kind) ed_int fun _ _ => rd_ixT at3) eds_nil)) (Nat.le_of_ble_eq_true rfl)) g k
def rWP : List D → D → Prop := fun ds d => ∃ a x, ds = [build a [], x] ∧ okNd a ∧ leafN a = true ∧ d = build a []
abbrev N_with_parts : List Str := ["kind", "parts"]
theorem sc_with_parts : FnScope ["kind", "parts"] ["kind", "parts"] (defScope s_with_parts) := ⟨rfl, rfl, rfl, by decide +kernel, rfl, by decide +kernel, by decide +kernel⟩
theorem ok_with_parts (T : Tx K mg) : Good P w K mg base CX0 "with_parts" 2 ["kind", "parts"] (spRel rWP) := by
  obtain ⟨fd, F⟩ := T.f_with_parts
  refine ⟨T.m_with_parts, F.kp, fd, ?_, F.bindsN fun _ _ _ _ _ _ us hl => match us, hl with | [_, _], _ => rfl⟩
  refine F.ok sc_with_parts (fun vs H Q E h => ?_) (fun cdv A outer s H vs Q E hr h => ?_)
  · obtain ⟨G, ds, d, _, r, ⟨a, x, rfl, _⟩, _⟩ := h
    exact r.len
  · obtain ⟨G, ds, d, s0, r, ⟨a, x, rfl, ha, hl, rfl⟩, k⟩ := h
    obtain ⟨v1, _, rfl, r_kind, v2, _, rfl, r_parts, rfl⟩ := r
    refine ⟨_, PSs.nox ((pss_cons (ps_if (pt_cmpR op_eq (pe_ix ix_tup (pv 0) pe_int (fun _ _ => rfl)) pe_str (nomark _)) (pss_one (ps_ret (pe_tup (pa_cons pe_str (pa_cons (pe_ix ix_list (pv 1) pe_int (fun _ _ => rfl)) (pa_cons (pe_ix ix_list (pv 1) pe_int (fun _ _ => rfl)) pa_nil)))))) pss_nil)
    (pss_cons (ps_if (pt_cmpR op_eq (pe_ix ix_tup (pv 0) pe_int (fun _ _ => rfl)) pe_str (nomark _)) (pss_one (ps_ret (pe_tup (pa_cons pe_str (pa_cons (pe_ix ix_list (pv 1) pe_int (fun _ _ => rfl)) (pa_cons (pe_ix ix_tup (pv 0) pe_int (fun _ _ => rfl)) (pa_cons (pe_ix ix_list (pv 1) pe_int (fun _ _ => rfl)) pa_nil))))))) pss_nil)
    (pss_one (ps_ret (pe_ifExp (pt_cmpR op_eq (pe_ix ix_tup (pv 0) pe_int (fun _ _ => rfl)) pe_str (nomark _)) (pe_tup (pa_cons pe_str (pa_cons (pe_ix ix_tup (pv 0) pe_int (fun _ _ => rfl)) (pa_cons (pe_callTy call_list_of (by rfl) T.n_list (by decide +kernel) (pa_cons (pv 1) pa_nil)) pa_nil)))) (pv 0))))))), ?_⟩
    have g := gr0 (M := []) s0
    cases a with
    | plain x =>
      obtain ⟨_, h1, h2, h3, _⟩ := plain_word ha
      refine s_ifF (((eb_test (ed_op (ed_op (ed_var rfl r_kind) ed_int fun _ _ => rd_ixT at0) ed_str fun _ _ => rd_eq rfl)) : Eb _ _ _ _).to (decide_eq_false h1)) g fun H1 g => ?_
      refine s_ifF (((eb_test (ed_op (ed_op (ed_var rfl r_kind) ed_int fun _ _ => rd_ixT at0) ed_str fun _ _ => rd_eq rfl)) : Eb _ _ _ _).to (decide_eq_false h2)) g fun H1 g => ?_
      exact s_ret (ed_ifF (((eb_test (ed_op (ed_op (ed_var rfl r_kind) ed_int fun _ _ => rd_ixT at0) ed_str fun _ _ => rd_eq rfl)) : Eb _ _ _ _).to (decide_eq_false h3)) (ed_var rfl r_kind)) g k
    | letter n =>
      refine s_ifF (eb_test (ed_op (ed_op (ed_var rfl r_kind) ed_int fun _ _ => rd_ixT at0) ed_str fun _ _ => rd_eq rfl)) g fun H1 g => ?_
      refine s_ifF (eb_test (ed_op (ed_op (ed_var rfl r_kind) ed_int fun _ _ => rd_ixT at0) ed_str fun _ _ => rd_eq rfl)) g fun H1 g => ?_
      exact s_ret (ed_ifF (eb_test (ed_op (ed_op (ed_var rfl r_kind) ed_int fun _ _ => rd_ixT at0) ed_str fun _ _ => rd_eq rfl)) (ed_var rfl r_kind)) g k
    | _ => cases hl
end
end K18
set_option maxHeartbeats 4000000
namespace K18
open PySem PySem.Spec PyProof.Rows L2 Kd
section
variable {P : Program} {w : World} {K : PySem.W.Frag} {mg : Str → Option Value} {base : Heap}
def rTab : List D → D → Prop := fun ds d => ∃ a, ds = [build a []] ∧ okNd a ∧ leafN a = true ∧ d = .lst [build a []]
abbrev N_table_of : List Str := ["kind", "heads", "places", "waiting", "one", "is_met", "parts", "cut", "part"]
theorem sc_table_of : FnScope ["kind", "heads", "places", "waiting", "one", "is_met", "parts", "cut", "part"] ["kind"] (defScope s_table_of) := ⟨rfl, rfl, rfl, by decide +kernel, rfl, by decide +kernel, by decide +kernel⟩
theorem ok_table_of (T : Tx K mg) : Good P w K mg base CX0 "table_of" 3 ["kind"] (spRel rTab) := by
  obtain ⟨fd, F⟩ := T.f_table_of
  refine ⟨T.m_table_of, F.kp, fd, ?_, F.bindsN fun _ _ _ _ _ _ us hl => match us, hl with | [_], _ => rfl⟩
  have G_parts_of_kind := ok_parts_of_kind (P := P) (w := w) (base := base) T
  have G_with_parts := ok_with_parts (P := P) (w := w) (base := base) T
  refine F.ok sc_table_of (fun vs H Q E h => ?_) (fun cdv A outer s H vs Q E hr h => ?_)
  · obtain ⟨G, ds, d, _, r, ⟨a, rfl, _⟩, _⟩ := h
    exact r.len
  · obtain ⟨G, ds, d, s0, r, ⟨a, rfl, ha, hl, rfl⟩, k⟩ := h
    obtain ⟨v1, _, rfl, r_kind, rfl⟩ := r
    refine ⟨_, PSs.nox ((pss_cons (ps_par (i := 1) (j := 2) (by rfl) sc_table_of.nd rfl rfl (by decide) rfl rfl (pa_cons (pe_lst pa_nil) (pa_cons (pe_lst pa_nil) pa_nil)) (by rfl))
    (pss_cons (ps_set (i := 3) sc_table_of.nd rfl (Or.inl rfl) (pe_lst (pa_cons (pe_tup (pa_cons (pv 0) (pa_cons pe_bl pa_nil))) pa_nil)))
    (pss_cons (ps_while PassesOwn.never (pt_truth (pv 3) (by intro _; rfl)) (pss_cons (ps_asg (pe_bm0 PySem.F.plainAttrs_list PySem.F.slot_list_pop PySem.F.type_list_pop mt_pop (pv 3)) (pg_tup rfl (pgs_cons (pg_name (i := 4) sc_table_of.nd rfl (Or.inl rfl)) (pgs_cons (pg_name (i := 5) sc_table_of.nd rfl (Or.inl rfl)) pgs_nil))))
    (pss_cons (ps_set (i := 6) sc_table_of.nd rfl (Or.inl rfl) (pe_g G_parts_of_kind (hr.mono (by decide)) (pa_cons (pv 4) pa_nil)))
    (pss_cons (ps_if (PW.pt (pw_and (pt_truth (pv 6) (by intro _; rfl)) (pw_and1 (pt_not (pt_val (pv 5)))))) (pss_cons (ps_expr (pe_bm PySem.F.plainAttrs_list PySem.F.slot_list_append PySem.F.type_list_append mt_append (pv 3) (pa_cons (pe_tup (pa_cons (pv 4) (pa_cons pe_bl pa_nil))) pa_nil)))
    (pss_cons (ps_expr (pe_bm PySem.F.plainAttrs_list PySem.F.slot_list_extend PySem.F.type_list_extend mt_extend (pv 3) (pa_cons (pe_lc (own := [("part", 8)]) rfl sc_table_of.nd (pi_list (pe_revL (pv 6))) (blkOk_by (own := [("part", 8)]) (N := ["kind", "heads", "places", "waiting", "one", "is_met", "parts", "cut", "part"]) (sc := defScope s_table_of) (by decide +kernel)) (fun _ _ _ _ _ => by exact (pg_name (i := 8) sc_table_of.nd rfl (Or.inl rfl))) (fun _ _ _ _ _ => by exact pts_nil) (fun _ _ _ _ _ => by exact (pe_tup (pa_cons (pv 8) (pa_cons pe_bl pa_nil))))) pa_nil)))
    (pss_one ps_continue))) pss_nil)
    (pss_cons (ps_set (i := 7) sc_table_of.nd rfl (Or.inl rfl) (pe_op op_sub (pe_callB call_len_seq (by rfl) T.n_len PySem.boot_len (pa_cons (pv 2) pa_nil)) (pe_callB call_len_seq (by rfl) T.n_len PySem.boot_len (pa_cons (pv 6) pa_nil))))
    (pss_cons (ps_expr (pe_bm PySem.F.plainAttrs_list PySem.F.slot_list_append PySem.F.type_list_append mt_append (pv 1) (pa_cons (pe_g G_with_parts (hr.mono (by decide)) (pa_cons (pv 4) (pa_cons (pe_slice sl_list (pv 2) (po_some (pv 7)) po_none) pa_nil))) pa_nil)))
    (pss_cons (ps_delCut (pv 2) (pv 7))
    (pss_one (ps_expr (pe_bm PySem.F.plainAttrs_list PySem.F.slot_list_append PySem.F.type_list_append mt_append (pv 2) (pa_cons (pe_op op_sub (pe_callB call_len_seq (by rfl) T.n_len PySem.boot_len (pa_cons (pv 1) pa_nil)) pe_int) pa_nil)))))))))))
    (pss_one (ps_ret (pv 1))))))), ?_⟩
    have g := gr0 (M := []) s0
    have hm : ([] : List D).length = a.many := by cases a <;> first | rfl | cases hl
    refine o_parNN eds_nil eds_nil (Nat.zero_le _) (Nat.zero_le _) g fun lh lp G1 H1 g1 s1 k1 oh op nhp ks => ?_
    refine o_new (ds := [.tup [build a [], .bl false]]) (eds_cons (ed_tup (eds_cons (ed_var rfl (r_kind.mono s1)) (eds_cons ed_bl eds_nil)) (Nat.le_of_ble_eq_true rfl)) eds_nil) (Nat.le_of_ble_eq_true rfl) g1 fun lw G2 H2 g2 s2 k2 ow ks2 => ?_
    obtain ⟨oh, nhw⟩ := ks2 lh _ oh
    obtain ⟨op, npw⟩ := ks2 lp _ op
    dsimp only
    refine s_seq (s_while (σ := [some v1, some (.ref lh), some (.ref lp), some (.ref lw), none, none, none, none, none]) (fun m σ G' H' => ∃ o1 o2 o3 o4 o5, σ = [some v1, some (.ref lh), some (.ref lp), some (.ref lw), o1, o2, o3, o4, o5] ∧ ((m = 1 ∧ Own H G' H' lh [] ∧ Own H G' H' lp [] ∧ Own H G' H' lw [.tup [build a [], .bl false]]) ∨ (m = 0 ∧ Own H G' H' lw [] ∧ Own H G' H' lh [build a []]))) g2 (m0 := 1) ⟨_, _, _, _, _, rfl, .inl ⟨rfl, oh, op, ow⟩⟩ ?_)
    rintro m σ G' H' g ⟨o1, o2, o3, o4, o5, rfl, ⟨rfl, oh, op, ow⟩ | ⟨rfl, ow, oh⟩⟩
    · refine (ow.eb g.s fun Gx s r => eb_truth (ed_var rfl r) rfl) _ fun H1 g1 => ?_
      have oh := oh.kp g1.g g1.kp
      have op := op.kp g1.g g1.kp
      have ow := ow.kp g1.g g1.kp
      have g := g.call g1
      rw [if_pos (by rfl)]
      refine ⟨_, fun _ _ q => q, ?_⟩
      refine o_pop2 (ds := []) rfl g ow rfl fun x y H2 g ow ks ko r_one r_met => ?_
      have oh := ks lh _ nhw oh
      have op := ks lp _ npw op
      refine s_set' (ed_rel (eds_cons (ed_var rfl r_one) eds_nil) ⟨a, [], rfl, ha, hm, rfl⟩) g fun vp G3 H3 g s3 k3 r_parts => ?_
      have oh := oh.kp s3 k3
      have op := op.kp s3 k3
      have ow := ow.kp s3 k3
      refine s_if' (eb_andF (eb_truth (ed_var rfl r_parts) rfl)) g (fun z => nomatch z) fun _ H4 g k4 => ?_
      have oh := oh.kp (Same.refl _) k4
      have op := op.kp (Same.refl _) k4
      have ow := ow.kp (Same.refl _) k4
      refine o_setS (d := .int 0) op rfl (fun Gx s r => (ed_op (ed_lenL (ed_var rfl r)) (ed_lenL (ed_var rfl (r_parts.mono s))) fun _ _ => rd_I0i).to rfl) g fun vc H5 g k5 r_cut => ?_
      have oh := oh.kp (Same.refl _) k5
      have op := op.kp (Same.refl _) k5
      have ow := ow.kp (Same.refl _) k5
      cases (show vc = .int 0 from r_cut)
      -- heads.append(with_parts(one, places[cut:]))
      obtain ⟨hs, eh, rh, lnh⟩ := oh.len
      cases rh
      obtain ⟨ps, ep, rp⟩ := op.e
      cases rp
      have r_one := r_one.mono s3
      refine ⟨_, rfl, .inl ⟨rfl, _, SqL.of eh⟩, _, rfl, _, rfl, _, rfl, 0, rfl, lp, [], rfl, SqL.of ep, fun p hp => ?_⟩
      have g6 := g.new (o := .lst (cutV [] (some 0) none)) hp
      have sp := same_frz (o := .lst (cutV [] (some 0) none)) (g.gfree hp)
      refine ⟨_, _, _, g6.s, .cons (r_one.mono sp) (.one (Rp.lst (ds := []) upd_same (by simp [cutV, RpL]))), ⟨a, .lst [], rfl, ha, hl, rfl⟩, fun v7 G7 H7 g7 r7 => ?_⟩
      have eh7 := g7.e lh _ (by rw [upd_ne (ne_of_none eh hp)]; exact eh)
      have ep7 := g7.e lp _ (by rw [upd_ne (ne_of_none ep hp)]; exact ep)
      obtain ⟨ws, ew, rw'⟩ := ow.e
      cases rw'
      have ew7 := g7.e lw _ (by rw [upd_ne (ne_of_none ew hp)]; exact ew)
      have ng7 : ∀ x, H5 x ≠ none → G3 x = none → G7 x = none := fun x hx gx => by
        have z : x ≠ p := fun z => hx (by rw [z]; exact hp)
        exact g7.n x (by rw [upd_ne z]; exact gx) (by rw [upd_ne z]; exact hx)
      have gh7 := ng7 lh (some_ne eh) oh.g
      have gp7 := ng7 lp (some_ne ep) op.g
      have gw7 := ng7 lw (some_ne ew) ow.g
      refine ⟨lh, [], v7, rfl, rfl, eh7, by show 0 < sizeLine; decide, ?_⟩
      have g8 := (g6.call g7).mut (o := .lst ([] ++ [v7])) gh7 oh.h0
      -- del places[cut:]
      refine ⟨_, rfl, _, rfl, lp, rfl, rfl, by rw [upd_ne (Ne.symm nhp)]; exact ep7, ?_⟩
      have g9 := g8.mut (o := .lst []) gp7 op.h0
      have oh9 : Own H G7 (upd (upd H7 lh (.lst ([] ++ [v7]))) lp (.lst [])) lh [build a []] := ⟨oh.h0, gh7, [v7], by rw [upd_ne nhp, upd_same]; rfl, .one r7⟩
      have op9 : Own H G7 (upd (upd H7 lh (.lst ([] ++ [v7]))) lp (.lst [])) lp [] := ⟨op.h0, gp7, [], upd_same, rfl⟩
      have ow9 : Own H G7 (upd (upd H7 lh (.lst ([] ++ [v7]))) lp (.lst [])) lw [] := ⟨ow.h0, gw7, [], by rw [upd_ne (Ne.symm npw), upd_ne (Ne.symm nhw)]; exact ew7, rfl⟩
      refine o_appendH (d := .int 0) rfl (oh9.ed g9.s rfl fun Gx s r => (ed_op (ed_lenL (ed_var rfl r)) ed_int fun _ _ => rd_I0i).to rfl) g9 op9 (Nat.zero_lt_succ _) fun G10 H10 g10 s10 op10 ks10 _ => ?_
      exact ⟨0, Nat.zero_lt_one, G10, g10, _, _, _, _, _, rfl, .inr ⟨rfl, ks10 lw _ (Ne.symm npw) ow9, ks10 lh _ nhp oh9⟩⟩
    · refine (ow.eb g.s fun Gx s r => eb_truth (ed_var rfl r) rfl) _ fun H1 g1 => ?_
      rw [if_neg (by simp [truth])]
      have oh := oh.kp g1.g g1.kp
      have g := g.call g1
      obtain ⟨G2, g2, s2, r2, _, _⟩ := oh.frz g
      exact s_ret (ed_var rfl r2) g2 k
end
end K18
set_option maxHeartbeats 4000000
namespace Kd
open PySem PySem.Spec PyProof.Rows L2
theorem ed_revL {K : PySem.W.Frag} {σ : L2.St} {G : Hp} {te : TE} {ds : List D} (h : Ed te σ G (.lst ds)) : Ed (tRevL K te) σ G (.lst ds.reverse) := fun H s Q q => h H s _ fun v G1 H1 g1 r1 => by
  obtain ⟨a, vs, rfl, ha, hr⟩ := r1
  refine ⟨a, vs, rfl, SqL.of (g1.s a _ ha), fun p hp => q _ _ _ (g1.new hp) ⟨p, _, rfl, upd_same, hr.rev.mono fun c o x => ?_⟩⟩
  rw [upd_ne (ne_of_none x (g1.gfree hp))]
  exact x
end Kd
namespace K18
open PySem PySem.Spec PyProof.Rows L2 Kd
def itD (f : Nd → Nd) : Tr ⊕ Ro → D
  | .inl t => tD f t
  | .inr r => .tup [.str "row", r.d]
def szI : Tr ⊕ Ro → Nat
  | .inl t => szT t
  | .inr _ => 1
def rdI (f : Nd → Nd) : Tr ⊕ Ro → List (Int ⊕ Ro)
  | .inl t => rdT f t
  | .inr r => [.inr r]
def okI (f : Nd → Nd) : Tr ⊕ Ro → Prop
  | .inl t => okT f t
  | .inr _ => True
def szIs (ws : List (Tr ⊕ Ro)) : Nat := (ws.map szI).sum
theorem szIs_app (a b : List (Tr ⊕ Ro)) : szIs (a ++ b) = szIs a + szIs b := by simp [szIs]
theorem szI_pos (i : Tr ⊕ Ro) : 1 ≤ szI i := by
  cases i with
  | inl t => cases t; simp [szI, szT]
  | inr r => simp [szI]
theorem szIs_len : ∀ ws : List (Tr ⊕ Ro), ws.length ≤ szIs ws
  | [] => Nat.le_refl _
  | i :: ws => by
    have := szIs_len ws
    have := szI_pos i
    simp [szIs] at *
    omega
theorem szIs_inl : ∀ ks : List Tr, szIs (ks.map .inl) = szTL ks
  | [] => rfl
  | k :: ks => by
    have := szIs_inl ks
    simp [szIs, szI, szTL] at *
    omega
def rdIs (f : Nd → Nd) (ws : List (Tr ⊕ Ro)) : List (Int ⊕ Ro) := ws.reverse.flatMap (rdI f)
theorem rdIs_snoc (f : Nd → Nd) (ws : List (Tr ⊕ Ro)) (i : Tr ⊕ Ro) : rdIs f (ws ++ [i]) = rdI f i ++ rdIs f ws := by simp [rdIs]
theorem rdIs_app (f : Nd → Nd) (ws xs : List (Tr ⊕ Ro)) : rdIs f (ws ++ xs) = rdIs f xs ++ rdIs f ws := by simp [rdIs]
theorem rdTL_flat (f : Nd → Nd) : ∀ ks : List Tr, rdTL f ks = ks.flatMap (rdT f)
  | [] => rfl
  | k :: ks => by rw [rdTL, rdTL_flat f ks]; rfl
theorem rdIs_kids (f : Nd → Nd) (ks : List Tr) : rdIs f (ks.reverse.map .inl) = rdTL f ks := by
  rw [rdTL_flat, rdIs, ← List.map_reverse, List.reverse_reverse, List.flatMap_map]
  rfl
section
variable {P : Program} {w : World} {K : PySem.W.Frag} {mg : Str → Option Value} {base : Heap}
def rRead : List D → D → Prop := fun ds d => ∃ f t, ds = [tD f t] ∧ okT f t ∧ szT t ≤ 50000 ∧ d = .lst ((rdT f t).map eD)
abbrev N_reading_of : List Str := ["kind", "found", "waiting", "one"]
theorem sc_reading_of : FnScope ["kind", "found", "waiting", "one"] ["kind"] (defScope s_reading_of) := ⟨rfl, rfl, rfl, by decide +kernel, rfl, by decide +kernel, by decide +kernel⟩
theorem ok_reading_of (T : Tx K mg) : Good P w K mg base CX0 "reading_of" 3 ["kind"] (spRel rRead) := by
  obtain ⟨fd, F⟩ := T.f_reading_of
  refine ⟨T.m_reading_of, F.kp, fd, ?_, F.bindsN fun _ _ _ _ _ _ us hl => match us, hl with | [_], _ => rfl⟩
  have G_parts_of_kind := ok_parts_of_kind (P := P) (w := w) (base := base) T
  refine F.ok sc_reading_of (fun vs H Q E h => ?_) (fun cdv A outer s H vs Q E hr h => ?_)
  · obtain ⟨G, ds, d, _, r, ⟨f, t, rfl, _⟩, _⟩ := h
    exact r.len
  · obtain ⟨G, ds, d, s0, r, ⟨f, t, rfl, ht, hz, rfl⟩, k⟩ := h
    obtain ⟨v1, _, rfl, r_kind, rfl⟩ := r
    refine ⟨_, PSs.nox ((pss_cons (ps_set (i := 1) sc_reading_of.nd rfl (Or.inl rfl) (pe_lst pa_nil))
    (pss_cons (ps_set (i := 2) sc_reading_of.nd rfl (Or.inl rfl) (pe_lst (pa_cons (pv 0) pa_nil)))
    (pss_cons (ps_while PassesOwn.never (pt_truth (pv 2) (by intro _; rfl)) (pss_cons (ps_set (i := 3) sc_reading_of.nd rfl (Or.inl rfl) (pe_bm0 PySem.F.plainAttrs_list PySem.F.slot_list_pop PySem.F.type_list_pop mt_pop (pv 2)))
    (pss_one (ps_if (pt_cmpR op_in_seq (pe_ix ix_tup (pv 3) pe_int (fun _ _ => rfl)) (pe_tup (pa_cons pe_str (pa_cons pe_str pa_nil))) (by rfl)) (pss_one (ps_expr (pe_bm PySem.F.plainAttrs_list PySem.F.slot_list_append PySem.F.type_list_append mt_append (pv 1) (pa_cons (pv 3) pa_nil)))) (pss_one (ps_if (pt_cmpR op_eq (pe_ix ix_tup (pv 3) pe_int (fun _ _ => rfl)) pe_str (nomark _)) (pss_one (ps_expr (pe_bm PySem.F.plainAttrs_list PySem.F.slot_list_extend PySem.F.type_list_extend mt_extend (pv 2) (pa_cons (pe_lst (pa_cons (pe_ix ix_tup (pv 3) pe_int (fun _ _ => rfl)) (pa_cons (pe_tup (pa_cons pe_str (pa_cons (pe_ix ix_tup (pv 3) pe_int (fun _ _ => rfl)) pa_nil))) (pa_cons (pe_ix ix_tup (pv 3) pe_int (fun _ _ => rfl)) pa_nil)))) pa_nil)))) (pss_one (ps_expr (pe_bm PySem.F.plainAttrs_list PySem.F.slot_list_extend PySem.F.type_list_extend mt_extend (pv 2) (pa_cons (pe_revL (pe_g G_parts_of_kind (hr.mono (by decide)) (pa_cons (pv 3) pa_nil))) pa_nil))))))))))
    (pss_one (ps_ret (pv 1))))))), ?_⟩
    have g := gr0 (M := []) s0
    refine o_new eds_nil (Nat.zero_le _) g fun lf G1 H1 g1 s1 k1 of ks1 => ?_
    refine o_new (ds := [tD f t]) (eds_cons (ed_var rfl (r_kind.mono s1)) eds_nil) (Nat.le_of_ble_eq_true rfl) g1 fun lw G2 H2 g2 s2 k2 ow ks2 => ?_
    obtain ⟨of, nfw⟩ := ks2 lf _ of
    dsimp only
    refine s_seq (s_while (σ := [some v1, some (.ref lf), some (.ref lw), none]) (fun m σ G' H' => ∃ o1 fs ws, σ = [some v1, some (.ref lf), some (.ref lw), o1] ∧ m = szIs ws ∧ Own H G' H' lf (fs.map eD) ∧ Own H G' H' lw (ws.map (itD f)) ∧ fs ++ rdIs f ws = rdT f t ∧ (∀ i ∈ ws, okI f i) ∧ szIs ws + fs.length ≤ 50000) g2 (m0 := szIs [.inl t]) ⟨_, [], [.inl t], rfl, rfl, of, ow, by simp [rdIs, rdI], fun i hi => by rw [List.mem_singleton.mp hi]; exact ht, by simpa [szIs, szI] using hz⟩ ?_)
    rintro m σ G' H' g ⟨o1, fs, ws, rfl, rfl, of, ow, hrd, hok, hsz⟩
    refine (ow.eb g.s fun Gx s r => eb_truth (ed_var rfl r) rfl) _ fun H1 g1 => ?_
    have of := of.kp g1.g g1.kp
    have ow := ow.kp g1.g g1.kp
    have g := g.call g1
    rcases nil_or_snoc ws with rfl | ⟨ws, i, rfl⟩
    · rw [if_neg (by simp [truth])]
      obtain ⟨G2, g2, s2, r2, _, _⟩ := of.frz g
      refine s_ret (ed_var rfl r2) g2 fun v G' H' g r => k v G' H' g ?_
      have e : fs = rdT f t := by simpa [rdIs] using hrd
      rw [← e]
      exact r
    · rw [if_pos (by simp [truth])]
      refine ⟨_, fun _ _ q => q, ?_⟩
      rw [List.map_append] at ow
      rw [rdIs_snoc] at hrd
      rw [szIs_app] at hsz
      have hoki := hok i (by simp)
      have hokw : ∀ j ∈ ws, okI f j := fun j hj => hok j (by simp [hj])
      have hlw := szIs_len ws
      have hei : szIs [i] = szI i := by simp [szIs]
      rw [hei] at hsz
      refine o_pop (d := itD f i) rfl g ow fun vo H2 g ow2 ks ko r_one => ?_
      have of := ks lf _ nfw of
      cases i with
      | inr r =>
        refine s_if' (((eb_test (ed_op (ed_op (ed_var rfl r_one) ed_int fun _ _ => rd_ixT at0) (ed_tup (eds_cons ed_str (eds_cons ed_str eds_nil)) (Nat.le_of_ble_eq_true rfl)) fun _ _ => rd_inT rfl rfl)) : Eb _ _ _ _).to (c := true) rfl) g (fun _ H3 g k3 => ?_) fun z => nomatch z
        have of := of.kp (Same.refl _) k3
        have ow := ow2.kp (Same.refl _) k3
        refine o_append rfl (ed_var rfl r_one) g of (by rw [List.length_map]; omega) fun G4 H4 g s4 of ks4 _ => ?_
        refine ⟨szIs ws, by rw [szIs_app]; simp [szIs, szI], G4, g, _, fs ++ [.inr r], ws, rfl, rfl, by rw [List.map_append]; exact of, ks4 lw _ (Ne.symm nfw) ow, by rw [← hrd]; simp [rdI], hokw, by simp [szI] at hsz ⊢; omega⟩
      | inl t' =>
        cases hoki with
        | @mk a ks ha hl hks =>
        have hszt : szI (.inl (Tr.mk a ks)) = szTL ks + 2 := rfl
        rw [hszt] at hsz
        have hkl := szTL_len ks
        have ext : ∀ G3 H3, Gr [] G H G3 H3 → Own H G3 H3 lf (fs.map eD) → Own H G3 H3 lw ((ws.map (itD f)) ++ (ks.reverse.map (fun k => tD f k))) → rdI f (.inl (Tr.mk a ks)) = rdTL f ks →
            (∃ m', m' < szIs (ws ++ [.inl (Tr.mk a ks)]) ∧ ∃ G', Gr [] G H G' H3 ∧ ∃ o1 fs ws, [some v1, some (.ref lf), some (.ref lw), some vo] = [some v1, some (.ref lf), some (.ref lw), o1] ∧ m' = szIs ws ∧ Own H G' H3 lf (fs.map eD) ∧ Own H G' H3 lw (ws.map (itD f)) ∧ fs ++ rdIs f ws = rdT f t ∧ (∀ i ∈ ws, okI f i) ∧ szIs ws + fs.length ≤ 50000) := by
          intro G3 H3 g3 of3 ow3 hrdi
          have e1 : szIs (ws ++ ks.reverse.map .inl) = szIs ws + szTL ks := by rw [szIs_app, szIs_inl, szTL_rev]
          refine ⟨szIs (ws ++ ks.reverse.map .inl), by rw [e1, szIs_app]; simp [szIs, szI, szT], G3, g3, _, fs, ws ++ ks.reverse.map .inl, rfl, rfl, of3, ?_, ?_, ?_, by rw [e1]; omega⟩
          · rw [List.map_append, List.map_map]
            exact ow3
          · rw [rdIs_app, rdIs_kids, ← hrdi, ← hrd]
          · intro j hj
            rcases List.mem_append.mp hj with q | q
            · exact hokw j q
            · obtain ⟨k', hk', rfl⟩ := List.mem_map.mp q
              exact hks k' (List.mem_reverse.mp hk')
        have r_one : Rp G' (build (f a) (ks.map (tD f))) vo := by rw [← tDL_map]; exact r_one
        have hpk : rPK [build (f a) (ks.map (tD f))] (.lst (ks.map (tD f))) := ⟨f a, _, rfl, ha, by rw [List.length_map]; exact hl, rfl⟩
        have lenw : (ws.map (itD f)).length + (ks.map (tD f)).reverse.length ≤ 100000 := by simp; omega
        have hpart : ∀ σ, σ[3]? = some (some vo) → Ed (tRevL K (tCall (spRel rPK) [] E0 (tCons (tVar 3) tNil))) σ G' (.lst (ks.map (tD f)).reverse) := fun σ hσ => ed_revL (ed_rel (eds_cons (ed_var hσ r_one) eds_nil) hpk)
        cases e : f a with
        | letter n =>
          rw [e] at r_one
          refine s_if' (((eb_test (ed_op (ed_op (ed_var rfl r_one) ed_int fun _ _ => rd_ixT at0) (ed_tup (eds_cons ed_str (eds_cons ed_str eds_nil)) (Nat.le_of_ble_eq_true rfl)) fun _ _ => rd_inT rfl rfl)) : Eb _ _ _ _).to (c := true) rfl) g (fun _ H3 g k3 => ?_) fun z => nomatch z
          have of := of.kp (Same.refl _) k3
          have ow := ow2.kp (Same.refl _) k3
          refine o_append rfl (ed_var rfl r_one) g of (by rw [List.length_map]; omega) fun G4 H4 g s4 of ks4 _ => ?_
          have hrd' : rdI f (.inl (Tr.mk a ks)) = [.inl n] := by simp [rdI, rdT, e]
          refine ⟨szIs ws, by rw [szIs_app]; simp [szIs, szI, szT], G4, g, _, fs ++ [.inl n], ws, rfl, rfl, by rw [List.map_append]; exact of, ks4 lw _ (Ne.symm nfw) ow, by rw [← hrd, hrd']; simp, hokw, by simp at hsz ⊢; omega⟩
        | plain x =>
          have hx : x ∈ thePlain := by have := ha; rw [e] at this; exact this
          obtain ⟨_, n1, n2, n3, n4, n5⟩ := plain_word hx
          rw [e] at r_one
          refine s_if' (((eb_test (ed_op (ed_op (ed_var rfl r_one) ed_int fun _ _ => rd_ixT at0) (ed_tup (eds_cons ed_str (eds_cons ed_str eds_nil)) (Nat.le_of_ble_eq_true rfl)) fun _ _ => rd_inT rfl rfl)) : Eb _ _ _ _).to (c := false) ?_) g (fun z => nomatch z) fun _ H3 g k3 => ?_
          · simp [eqF, Ne.symm n4, Ne.symm n5]
          have of := of.kp (Same.refl _) k3
          have ow := ow2.kp (Same.refl _) k3
          refine s_if' (((eb_test (ed_op (ed_op (ed_var rfl r_one) ed_int fun _ _ => rd_ixT at0) ed_str fun _ _ => rd_eq rfl)) : Eb _ _ _ _).to (decide_eq_false n2)) g (fun z => nomatch z) fun _ H4 g k4 => ?_
          have of := of.kp (Same.refl _) k4
          have ow := ow.kp (Same.refl _) k4
          refine o_extend rfl (hpart _ rfl) g ow lenw fun G5 H5 g s5 ow ks5 _ => ?_
          exact ext G5 H5 g (ks5 lf _ nfw of) (by rw [← List.map_reverse] at ow; exact ow) (by simp [rdI, rdT, e])
        | pair =>
          obtain ⟨x, y, rfl⟩ : ∃ x y, ks = [x, y] := by
            have : ks.length = 2 := by rw [hl, e]; rfl
            match ks, this with | [x, y], _ => exact ⟨x, y, rfl⟩
          rw [e] at r_one
          refine s_if' (((eb_test (ed_op (ed_op (ed_var rfl r_one) ed_int fun _ _ => rd_ixT at0) (ed_tup (eds_cons ed_str (eds_cons ed_str eds_nil)) (Nat.le_of_ble_eq_true rfl)) fun _ _ => rd_inT rfl rfl)) : Eb _ _ _ _).to (c := false) rfl) g (fun z => nomatch z) fun _ H3 g k3 => ?_
          have of := of.kp (Same.refl _) k3
          have ow := ow2.kp (Same.refl _) k3
          refine s_if' (((eb_test (ed_op (ed_op (ed_var rfl r_one) ed_int fun _ _ => rd_ixT at0) ed_str fun _ _ => rd_eq rfl)) : Eb _ _ _ _).to (c := false) rfl) g (fun z => nomatch z) fun _ H4 g k4 => ?_
          have of := of.kp (Same.refl _) k4
          have ow := ow.kp (Same.refl _) k4
          refine o_extend rfl (hpart _ rfl) g ow lenw fun G5 H5 g s5 ow ks5 _ => ?_
          exact ext G5 H5 g (ks5 lf _ nfw of) (by rw [← List.map_reverse] at ow; exact ow) (by simp [rdI, rdT, e])
        | data x n =>
          rw [e] at r_one
          refine s_if' (((eb_test (ed_op (ed_op (ed_var rfl r_one) ed_int fun _ _ => rd_ixT at0) (ed_tup (eds_cons ed_str (eds_cons ed_str eds_nil)) (Nat.le_of_ble_eq_true rfl)) fun _ _ => rd_inT rfl rfl)) : Eb _ _ _ _).to (c := false) rfl) g (fun z => nomatch z) fun _ H3 g k3 => ?_
          have of := of.kp (Same.refl _) k3
          have ow := ow2.kp (Same.refl _) k3
          refine s_if' (((eb_test (ed_op (ed_op (ed_var rfl r_one) ed_int fun _ _ => rd_ixT at0) ed_str fun _ _ => rd_eq rfl)) : Eb _ _ _ _).to (c := false) rfl) g (fun z => nomatch z) fun _ H4 g k4 => ?_
          have of := of.kp (Same.refl _) k4
          have ow := ow.kp (Same.refl _) k4
          refine o_extend rfl (hpart _ rfl) g ow lenw fun G5 H5 g s5 ow ks5 _ => ?_
          exact ext G5 H5 g (ks5 lf _ nfw of) (by rw [← List.map_reverse] at ow; exact ow) (by simp [rdI, rdT, e])
        | func r =>
          obtain ⟨x, y, rfl⟩ : ∃ x y, ks = [x, y] := by
            have : ks.length = 2 := by rw [hl, e]; rfl
            match ks, this with | [x, y], _ => exact ⟨x, y, rfl⟩
          rw [e] at r_one
          have r_one : Rp G' (.tup [.str "fun", tD f x, r.d, tD f y]) vo := r_one
          refine s_if' (((eb_test (ed_op (ed_op (ed_var rfl r_one) ed_int fun _ _ => rd_ixT at0) (ed_tup (eds_cons ed_str (eds_cons ed_str eds_nil)) (Nat.le_of_ble_eq_true rfl)) fun _ _ => rd_inT rfl rfl)) : Eb _ _ _ _).to (c := false) rfl) g (fun z => nomatch z) fun _ H3 g k3 => ?_
          have of := of.kp (Same.refl _) k3
          have ow := ow2.kp (Same.refl _) k3
          refine s_if' (((eb_test (ed_op (ed_op (ed_var rfl r_one) ed_int fun _ _ => rd_ixT at0) ed_str fun _ _ => rd_eq rfl)) : Eb _ _ _ _).to (c := true) rfl) g (fun _ H4 g k4 => ?_) fun z => nomatch z
          have of := of.kp (Same.refl _) k4
          have ow := ow.kp (Same.refl _) k4
          refine o_extend (es := [tD f y, .tup [.str "row", r.d], tD f x]) rfl (ed_lst (eds_cons (ed_op (ed_var rfl r_one) ed_int fun _ _ => rd_ixT at3) (eds_cons (ed_tup (eds_cons ed_str (eds_cons (ed_op (ed_var rfl r_one) ed_int fun _ _ => rd_ixT at2) eds_nil)) (Nat.le_of_ble_eq_true rfl)) (eds_cons (ed_op (ed_var rfl r_one) ed_int fun _ _ => rd_ixT at1) eds_nil))) (Nat.le_of_ble_eq_true rfl)) g ow (by simp; omega) fun G5 H5 g s5 ow ks5 _ => ?_
          have hsz' : szTL [x, y] = szT x + szT y := by simp [szTL]
          refine ⟨szIs (ws ++ [.inl y, .inr r, .inl x]), by rw [szIs_app, szIs_app]; simp [szIs, szI, szT, szTL]; omega, G5, g, _, fs, ws ++ [.inl y, .inr r, .inl x], rfl, rfl, ks5 lf _ nfw of, by rw [List.map_append]; exact ow, ?_, ?_, ?_⟩
          · rw [rdIs_app, ← hrd]
            simp [rdIs, rdI, rdT, e]
          · intro j hj
            rcases List.mem_append.mp hj with q | q
            · exact hokw j q
            · simp only [List.mem_cons, List.not_mem_nil, or_false] at q
              rcases q with rfl | rfl | rfl
              · exact hks y (by simp)
              · exact trivial
              · exact hks x (by simp)
          · rw [szIs_app]
            simp [szIs, szI] at hsz ⊢
            omega
def rRows : List D → D → Prop := fun ds d => ∃ f t, ds = [tD f t] ∧ okT f t ∧ szT t ≤ 50000 ∧ d = .lst (((rdT f t).filterMap Sum.getRight?).map Ro.d)
end
end K18
set_option maxHeartbeats 4000000
namespace K18
open PySem PySem.Spec PyProof.Rows L2 Kd
def Ro.at (r : Ro) (z : Str) : D := match r.ns.find? fun p => decide (p.1 = z) with
  | some p => p.2.d
  | none => .tup [.int r.t, .str z]
section
variable {P : Program} {w : World} {K : PySem.W.Frag} {mg : Str → Option Value} {base : Heap}
def snd : D → D
  | .tup [_, b] => b
  | _ => .non
def isRowE : D → Bool
  | .tup [.str s, _] => decide (s = "row")
  | _ => false
theorem rows_filter : ∀ l : List (Int ⊕ Ro), ((l.map eD).filter isRowE).map snd = (l.filterMap Sum.getRight?).map Ro.d
  | [] => rfl
  | .inl n :: l => by
    have ih := rows_filter l
    simp only [List.map_cons, eD, build]
    rw [List.filter_cons_of_neg (by show ¬ decide (("letter" : Str) = "row") = true; decide)]
    rw [ih]
    rfl
  | .inr r :: l => by
    have ih := rows_filter l
    simp only [List.map_cons, eD, isRowE]
    rw [List.filter_cons_of_pos (by rfl)]
    simpa [snd] using ih
theorem rdT_len (f : Nd → Nd) : ∀ t, (rdT f t).length ≤ szT t := by
  intro t
  induction t using Tr.rec (motive_2 := fun ks => (rdTL f ks).length ≤ szTL ks ∧ ∀ k ∈ ks, (rdT f k).length ≤ szT k) with
  | mk a ks ih =>
    rw [rdT]
    split
    · simp [szT]
    · split
      · rename_i x y
        have h1 := ih.2 x (by simp)
        have h2 := ih.2 y (by simp)
        simp [szT, szTL] at *
        omega
      · simp
    · have := ih.1
      simp only [szT]
      omega
  | nil => exact ⟨by simp [rdTL], fun k hk => by simp at hk⟩
  | cons k ks h1 h2 =>
    refine ⟨?_, fun j hj => ?_⟩
    · have := h2.1
      simp [rdTL, szTL]
      omega
    · rcases List.mem_cons.mp hj with rfl | hj
      · exact h1
      · exact h2.2 j hj
abbrev N_rows_in : List Str := ["kind", "word", "row"]
theorem sc_rows_in : FnScope ["kind", "word", "row"] ["kind"] (defScope s_rows_in) := ⟨rfl, rfl, rfl, by decide +kernel, rfl, by decide +kernel, by decide +kernel⟩
theorem ok_rows_in (T : Tx K mg) : Good P w K mg base CX0 "rows_in" 4 ["kind"] (spRel rRows) := by
  obtain ⟨fd, F⟩ := T.f_rows_in
  refine ⟨T.m_rows_in, F.kp, fd, ?_, F.bindsN fun _ _ _ _ _ _ us hl => match us, hl with | [_], _ => rfl⟩
  have G_reading_of := ok_reading_of (P := P) (w := w) (base := base) T
  refine F.ok sc_rows_in (fun vs H Q E h => ?_) (fun cdv A outer s H vs Q E hr h => ?_)
  · obtain ⟨G, ds, d, _, r, ⟨f, t, rfl, _⟩, _⟩ := h
    exact r.len
  · obtain ⟨G, ds, d, s0, r, ⟨f, t, rfl, ht, hz, rfl⟩, k⟩ := h
    obtain ⟨v1, _, rfl, r_kind, rfl⟩ := r
    refine ⟨_, PSs.nox ((pss_one (ps_ret (pe_lc (own := [("word", 1), ("row", 2)]) rfl sc_rows_in.nd (pi_list (pe_g G_reading_of (hr.mono (by decide)) (pa_cons (pv 0) pa_nil))) (blkOk_by (own := [("word", 1), ("row", 2)]) (N := ["kind", "word", "row"]) (sc := defScope s_rows_in) (by decide +kernel)) (fun _ _ _ _ _ => by exact (pgK_tup (K := K) (n := 2) rfl rfl (pgs_cons (pg_name (i := 1) sc_rows_in.nd rfl (Or.inl rfl)) (pgs_cons (pg_name (i := 2) sc_rows_in.nd rfl (Or.inl rfl)) pgs_nil)))) (fun _ _ _ _ _ => by exact (pts_one (pt_cmpR op_eq (pv 1) pe_str (nomark _)))) (fun _ _ _ _ _ => by exact (pv 2)))))), ?_⟩
    have g := gr0 (M := []) s0
    have hl := rdT_len f t
    refine s_ret (Ed.to (ed_lc (items := (rdT f t).map eD) snd isRowE (es_list (ed_rel (eds_cons (ed_var rfl r_kind) eds_nil) ⟨f, t, rfl, ht, hz, rfl⟩)) (by rw [List.length_map]; omega) ?_) (by rw [rows_filter])) g k
    intro d hd G' s
    obtain ⟨x, _, rfl⟩ := List.mem_map.mp hd
    cases x with
    | inl n => exact tk_tup rfl (tkl_cons fun x hx => tkl_cons fun y hy => tkl_nil ⟨rfl, eb_test (ed_op (ed_var rfl hx) ed_str fun _ _ => rd_eq rfl), fun z => nomatch z⟩)
    | inr r => exact tk_tup rfl (tkl_cons fun x hx => tkl_cons fun y hy => tkl_nil ⟨rfl, eb_test (ed_op (ed_var rfl hx) ed_str fun _ _ => rd_eq rfl), fun _ => ed_var rfl hy⟩)
def rFlagAt : List D → D → Prop := fun ds d => ∃ (r : Ro) (z : Str), ds = [r.d, .str z] ∧ d = r.at z
abbrev N_flag_at : List Str := ["row", "word", "other", "flag"]
theorem sc_flag_at : FnScope ["row", "word", "other", "flag"] ["row", "word"] (defScope s_flag_at) := ⟨rfl, rfl, rfl, by decide +kernel, rfl, by decide +kernel, by decide +kernel⟩
theorem ok_flag_at (T : Tx K mg) : Good P w K mg base CX0 "flag_at" 2 ["row", "word"] (spRel rFlagAt) := by
  obtain ⟨fd, F⟩ := T.f_flag_at
  refine ⟨T.m_flag_at, F.kp, fd, ?_, F.bindsN fun _ _ _ _ _ _ us hl => match us, hl with | [_, _], _ => rfl⟩
  refine F.ok sc_flag_at (fun vs H Q E h => ?_) (fun cdv A outer s H vs Q E hr h => ?_)
  · obtain ⟨G, ds, d, _, r, ⟨x, z, rfl, _⟩, _⟩ := h
    exact r.len
  · obtain ⟨G, ds, d, s0, r, ⟨x, z, rfl, rfl⟩, k⟩ := h
    obtain ⟨v1, _, rfl, r_row, v2, _, rfl, r_word, rfl⟩ := r
    refine ⟨_, PSs.nox ((pss_cons (ps_for PassesOwn.never rfl (pi_list (pe_ix ix_tup (pv 0) pe_int (fun _ _ => rfl))) (pg_tup rfl (pgs_cons (pg_name (i := 2) sc_flag_at.nd rfl (Or.inl rfl)) (pgs_cons (pg_name (i := 3) sc_flag_at.nd rfl (Or.inl rfl)) pgs_nil))) (pss_one (ps_if (pt_cmpR op_eq (pv 2) (pv 1) (nomark _)) (pss_one (ps_ret (pv 3))) pss_nil)))
    (pss_one (ps_ret (pe_tup (pa_cons (pe_ix ix_tup (pv 0) pe_int (fun _ _ => rfl)) (pa_cons (pv 1) pa_nil))))))), ?_⟩
    have g := gr0 (M := []) s0
    refine s_seq (s_for (σ := [some v1, some v2, none, none]) (items := x.ns.map nmD) (es_list (ed_op (ed_var rfl r_row) ed_int fun _ _ => rd_ixT at0)) g (fun i σ G' H' => Same G G' ∧ (∃ o1 o2, σ = [some v1, some v2, o1, o2]) ∧ (x.ns.take i).find? (fun p => decide (p.1 = z)) = none) (fun G' H' g' s' k' => ⟨s', ⟨_, _, rfl⟩, rfl⟩) ?_ ?_)
    · rintro Gs i d v σ Gi Hi Gj Hj hd sg sgi ⟨si, ⟨o1, o2, rfl⟩, hn⟩ gj sj kj rv
      rw [List.getElem?_map] at hd
      obtain ⟨p, hp, rfl⟩ := Option.map_eq_some_iff.mp hd
      refine g_two gj.s rv rfl fun vo vf ro rf => ?_
      refine s_if (eb_test (ed_op (ed_var rfl ro) (ed_var rfl (r_word.mono (si.trans sj))) fun _ _ => rd_eq rfl)) gj (fun hb H2 g2 => ?_) fun hb H2 g2 => ?_
      · refine s_ret (ed_var rfl rf) g2 fun v G' H' g r => k v G' H' g ?_
        have e : x.ns.find? (fun p => decide (p.1 = z)) = some p := by
          rw [← List.take_append_drop i x.ns, List.find?_append, hn]
          have : x.ns.drop i = p :: x.ns.drop (i + 1) := by
            rw [List.drop_eq_getElem_cons (List.getElem?_eq_some_iff.mp hp).1]
            rw [(List.getElem?_eq_some_iff.mp hp).2]
          rw [this, List.find?_cons_of_pos (by exact hb)]
          rfl
        unfold Ro.at
        rw [e]
        exact r
      · refine ⟨Gj, g2, sgi.trans sj, si.trans sj, ⟨_, _, rfl⟩, ?_⟩
        rw [take_snoc hp, List.find?_append, hn, List.find?_cons_of_neg (by rw [hb]; simp)]
        rfl
    · rintro σ G' H' g' s' ⟨si, ⟨o1, o2, rfl⟩, hn⟩
      refine s_ret (ed_tup (eds_cons (ed_op (ed_var rfl (r_row.mono s')) ed_int fun _ _ => rd_ixT at1) (eds_cons (ed_var rfl (r_word.mono s')) eds_nil)) (Nat.le_of_ble_eq_true rfl)) g' fun v G' H' g r => k v G' H' g ?_
      rw [List.length_map, List.take_length] at hn
      unfold Ro.at
      rw [hn]
      exact r
def oneNm : D → List Str
  | .tup (.str s :: _) => [s]
  | _ => []
def nmsD : D → List Str
  | .tup [.lst ns, _] => ns.flatMap oneNm
  | _ => []
theorem nmsD_d (r : Ro) : nmsD r.d = r.ns.map (·.1) := by
  show (r.ns.map nmD).flatMap oneNm = _
  rw [List.flatMap_map]
  induction r.ns with
  | nil => rfl
  | cons p l ih => rw [List.flatMap_cons, ih]; rfl
def pWords : List D → Prop := fun ds => ∃ (rs : List Ro) (N : List Str), ds = [.lst (rs.map Ro.d)] ∧ N.length ≤ 4000 ∧ ∀ r ∈ rs, ∀ p ∈ r.ns, p.1 ∈ N
def rWords : List D → D → Prop := fun ds d => ∃ (rs : List D) (ys : List Str), ds = [.lst rs] ∧ d = .lst (ys.map .str) ∧ ys.length ≤ 4000 ∧ ∀ z : Str, z ∈ ys ↔ ∃ r ∈ rs, z ∈ nmsD r
abbrev N_words_in : List Str := ["rows", "row", "word", "flag"]
theorem sc_words_in : FnScope ["rows", "row", "word", "flag"] ["rows"] (defScope s_words_in) := ⟨rfl, rfl, rfl, by decide +kernel, rfl, by decide +kernel, by decide +kernel⟩
theorem ok_words_in (T : Tx K mg) : Good P w K mg base CX0 "words_in" 2 ["rows"] (spAll pWords rWords) := by
  obtain ⟨fd, F⟩ := T.f_words_in
  refine ⟨T.m_words_in, F.kp, fd, ?_, F.bindsN fun _ _ _ _ _ _ us hl => match us, hl with | [_], _ => rfl⟩
  refine F.ok sc_words_in (fun vs H Q E h => ?_) (fun cdv A outer s H vs Q E hr h => ?_)
  · obtain ⟨G, ds, _, r, ⟨rs, N, rfl, _⟩, _⟩ := h
    exact r.len
  · obtain ⟨G, ds, s0, r, ⟨rs, N, rfl, hN, hr2⟩, k⟩ := h
    obtain ⟨v1, _, rfl, r_rows, rfl⟩ := r
    refine ⟨_, PSs.nox ((pss_one (ps_ret (pe_callB (cr_sortS rfl) (by rfl) T.n_sorted (by decide +kernel) (pa_cons (pe_sc2 (own := [("row", 1), ("word", 2), ("flag", 3)]) (vs1 := [2, 3]) rfl sc_words_in.nd (pi_list (pv 0)) (blkOk_by (own := [("row", 1), ("word", 2), ("flag", 3)]) (N := ["rows", "row", "word", "flag"]) (sc := defScope s_words_in) (by decide +kernel)) (by decide) (fun _ _ _ _ _ => by exact (pg_name (i := 1) sc_words_in.nd rfl (Or.inl rfl))) (fun _ _ _ _ _ => by exact pts_nil) (fun _ _ _ _ _ => by exact (piK_list (K := K) rfl (pe_ix (ixK_tup (K := K) rfl) (pv 1) pe_int (fun _ _ => rfl)))) (fun _ _ _ _ _ => by exact (pgK_tup (K := K) (n := 2) rfl rfl (pgs_cons (pg_name (i := 2) sc_words_in.nd rfl (Or.inl rfl)) (pgs_cons (pg_name (i := 3) sc_words_in.nd rfl (Or.inl rfl)) pgs_nil)))) (fun _ _ _ _ _ => by exact pts_nil) (fun _ _ _ _ _ => by exact (pv 2))) pa_nil))))), ?_⟩
    show tSc2 P w (iList K (tVar 0)) (gName 1) tYes (iList K (tOp (rIxT K) (tVar 1) (tC (V.int 0)))) (gTup K 2 (gCons (gName 2) (gCons (gName 3) gNil))) tYes (tVar 2) [1, 2, 3] [2, 3] [some v1, none, none, none] H fun v H1 => rSortS P w [v] H1 Q
    refine run_sc2 (P := P) (w := w) (σ := [some v1, none, none, none]) (items := rs.map Ro.d) (names := nmsD) (N := N) (es_list (ed_var (i := 0) rfl r_rows)) hN ?_ s0 ?_
    · intro d hd G' s
      obtain ⟨r, hr, rfl⟩ := List.mem_map.mp hd
      refine tk_name fun u hu => ⟨rfl, r.ns.map nmD, fun d => (oneNm d).headD "", es_list (ed_op (ed_var rfl hu) ed_int fun _ _ => rd_ixT at0), ?_, ?_⟩
      · rw [nmsD_d, List.map_map]
        rfl
      · intro d1 hd1
        obtain ⟨p, hp, rfl⟩ := List.mem_map.mp hd1
        exact ⟨hr2 r hr p hp, fun G3 s3 => tk_tup rfl (tkl_cons fun x hx => tkl_cons fun y hy => tkl_nil ⟨rfl, ed_var rfl hx⟩)⟩
    · intro a l G' H' g ha hl hm
      refine ⟨a, l, rfl, ha, Nat.lt_of_le_of_lt hl (by decide), fun ys p hy hlen hp => ?_⟩
      refine k (.lst (ys.map .str)) _ _ _ ⟨_, ys, rfl, rfl, by rw [hlen]; exact hl, fun z => by rw [hy, hm]⟩ (g.new hp) ⟨p, _, rfl, upd_same, RpL.strs ys⟩
end
end K18
set_option maxHeartbeats 4000000
namespace K18
open PySem PySem.Spec PyProof.Rows L2 Kd
theorem at_cases (r : Ro) (z : Str) : r.at z = .str "pre" ∨ (∃ n, r.at z = .tup [.str "flag", .int n]) ∨ r.at z = .tup [.int r.t, .str z] := by
  unfold Ro.at
  cases e : r.ns.find? (fun p => decide (p.1 = z)) with
  | none => exact .inr (.inr rfl)
  | some p =>
    cases q : p.2 with
    | pre => left; simp [q, Fl.d]
    | num n => right; left; exact ⟨n, by simp [q, Fl.d]⟩
def keyD : D → List L2.Key
  | .tup [.str s, .int n] => [.inr s, .inl n]
  | .tup [.int t, .str z] => [.inl t, .inr z]
  | _ => []
theorem key_at {G : Hp} {r : Ro} {z : Str} {v : V} (h : Rp G (r.at z) v) (n : r.at z ≠ .str "pre") : ∃ b, v = .ref b ∧ G b = some (.tup ((keyD (r.at z)).map kV)) := by
  rcases at_cases r z with e | ⟨m, e⟩ | e
  · exact absurd e n
  · rw [e] at h ⊢
    obtain ⟨a, vs, rfl, ha, x, _, rfl, hx, y, _, rfl, hy, rfl⟩ := h
    cases hx
    cases hy
    exact ⟨a, rfl, ha⟩
  · rw [e] at h ⊢
    obtain ⟨a, vs, rfl, ha, x, _, rfl, hx, y, _, rfl, hy, rfl⟩ := h
    cases hx
    cases hy
    exact ⟨a, rfl, ha⟩
theorem at_shape (r : Ro) {z : Str} (hz : PyData.strOk z = true) : noDct (r.at z) = true ∧ SeqAt.shaped (toPy (r.at z)) = true ∧ isDct (r.at z) = false := by
  rcases at_cases r z with e | ⟨m, e⟩ | e
  · rw [e]; exact ⟨rfl, by decide +kernel, rfl⟩
  · rw [e]
    refine ⟨rfl, ?_, rfl⟩
    simp [SeqAt.shaped, toPy, toPyL, PyData.canLay0, PyData.canLayAll0, PyData.depth, PyData.depthAll]
    decide +kernel
  · rw [e]
    refine ⟨rfl, ?_, rfl⟩
    simp [SeqAt.shaped, toPy, toPyL, PyData.canLay0, PyData.canLayAll0, PyData.depth, PyData.depthAll, hz]
def isPre (d : D) : Bool := eqS d "pre"
theorem isPre_iff {r : Ro} {z : Str} : isPre (r.at z) = true ↔ r.at z = .str "pre" := by
  rcases at_cases r z with e | ⟨m, e⟩ | e <;> rw [e] <;> simp [isPre, eqS]
def badAt (r1 r2 : Ro) (z : Str) : Bool := isPre (r1.at z) && !isPre (r2.at z)
def fit1 (F : List L2.Key → D) (r1 r2 : Ro) (z : Str) : Prop := isPre (r1.at z) = true ∨ F (keyD (r1.at z)) = r2.at z
def ConsT (G : Hp) (F : List L2.Key → D) (kvs : List (List L2.Key × V)) : Prop := ∀ k v, valV kvs k = some v → Rp G (F k) v
theorem ConsT.mono {G G' : Hp} {F : List L2.Key → D} {kvs : List (List L2.Key × V)} (s : Same G G') (h : ConsT G F kvs) : ConsT G' F kvs := fun k v e => (h k v e).mono s
def spFits : Sp := fun vs H Q _ => ∃ (G : Hp) (r1 r2 : Ro) (ws : List Str) (F : List L2.Key → D) (kvs : List (List L2.Key × V)) (v1 v2 v3 : V) (fa : Addr), vs = [v1, v2, v3, .ref fa] ∧ Same G H ∧ Rp G r1.d v1 ∧ Rp G r2.d v2 ∧ Rp G (.lst (ws.map .str)) v3 ∧ G fa = none ∧ H fa = some (.dT kvs) ∧ ConsT G F kvs ∧ kvs.length + ws.length ≤ 10000000 ∧
  (∀ z ∈ ws, PyData.strOk z = true ∧ fit1 F r1 r2 z) ∧ ∀ b G' H' kvs', Gr [fa] G H G' H' → G' fa = none → H' fa = some (.dT kvs') → ConsT G' F kvs' → kvs'.length ≤ kvs.length + ws.length → b = (ws.all fun z => !badAt r1 r2 z) → Q (.bl b) H'
section
variable {P : Program} {w : World} {K : PySem.W.Frag} {mg : Str → Option Value} {base : Heap}
abbrev N_fits_row : List Str := ["row", "other", "words", "flags", "word", "mine", "theirs"]
theorem sc_fits_row : FnScope ["row", "other", "words", "flags", "word", "mine", "theirs"] ["row", "other", "words", "flags"] (defScope s_fits_row) := ⟨rfl, rfl, rfl, by decide +kernel, rfl, by decide +kernel, by decide +kernel⟩
theorem ok_fits_row (T : Tx K mg) : Good P w K mg base CX0 "fits_row" 3 ["row", "other", "words", "flags"] spFits := by
  obtain ⟨fd, F⟩ := T.f_fits_row
  refine ⟨T.m_fits_row, F.kp, fd, ?_, F.bindsN fun _ _ _ _ _ _ us hl => match us, hl with | [_, _, _, _], _ => rfl⟩
  have G_flag_at := ok_flag_at (P := P) (w := w) (base := base) T
  refine F.ok sc_fits_row (fun vs H Q E h => ?_) (fun cdv A outer s H vs Q E hr h => ?_)
  · obtain ⟨G, r1, r2, ws, F0, kvs, v1, v2, v3, fa, rfl, _⟩ := h
    rfl
  · obtain ⟨G, r1, r2, ws, F0, kvs, v1, v2, v3, fa, rfl, s0, r_row, r_other, r_words, gfa, hfa, hc, hlen, hz, k⟩ := h
    refine ⟨_, PSs.nox ((pss_cons (ps_for PassesOwn.never rfl (pi_list (pv 2)) (pg_name (i := 4) sc_fits_row.nd rfl (Or.inl rfl)) (pss_cons (ps_par (i := 5) (j := 6) (by rfl) sc_fits_row.nd rfl rfl (by decide) rfl rfl (pa_cons (pe_g G_flag_at (hr.mono (by decide)) (pa_cons (pv 0) (pa_cons (pv 4) pa_nil))) (pa_cons (pe_g G_flag_at (hr.mono (by decide)) (pa_cons (pv 1) (pa_cons (pv 4) pa_nil))) pa_nil)) (by rfl))
    (pss_one (ps_if (pt_cmpR (op_eqS hr.units) (pv 5) pe_str (nomark _)) (pss_one (ps_if (pt_cmpR (op_neS hr.units) (pv 6) pe_str (nomark _)) (pss_one (ps_ret pe_bl)) pss_nil)) (pss_one (ps_if (pt_cmpR (op_neD hr.units) (pe_bm PySem.F.plainAttrs_dict PySem.F.slot_dict_setdefault PySem.F.type_dict_setdefault (mt_setdT hr.units) (pv 3) (pa_cons (pv 5) (pa_cons (pv 6) pa_nil))) (pv 6) (nomark _)) (pss_one (ps_ret pe_bl)) pss_nil))))))
    (pss_one (ps_ret pe_bl)))), ?_⟩
    have g := gr0 (M := [fa]) s0
    refine s_seq (s_for (σ := [some v1, some v2, some v3, some (.ref fa), none, none, none]) (items := ws.map .str) (es_list (ed_var rfl r_words)) g (fun i σ G' H' => Same G G' ∧ (∃ o1 o2 o3, σ = [some v1, some v2, some v3, some (.ref fa), o1, o2, o3]) ∧ ((ws.take i).all fun z => !badAt r1 r2 z) = true ∧ ∃ kvs', G' fa = none ∧ H' fa = some (.dT kvs') ∧ ConsT G' F0 kvs' ∧ kvs'.length ≤ kvs.length + i) (fun G' H' g' s' k' => ⟨s', ⟨_, _, _, rfl⟩, rfl, kvs, (k' fa _ hfa).2 gfa, (k' fa _ hfa).1, hc.mono s', Nat.le_refl _⟩) ?_ ?_)
    · rintro Gs i d v σ Gi Hi Gj Hj hd sg sgi ⟨si, ⟨o1, o2, o3, rfl⟩, hall, kv, gf, hf, cf, lf⟩ gj sj kj rv
      rw [List.getElem?_map] at hd
      obtain ⟨z, hz1, rfl⟩ := Option.map_eq_some_iff.mp hd
      have hil : i < ws.length := (List.getElem?_eq_some_iff.mp hz1).1
      obtain ⟨hok, hfit⟩ := hz z (List.mem_of_getElem? hz1)
      obtain ⟨sh1, sh2, sh3⟩ := at_shape r1 hok
      obtain ⟨th1, th2, th3⟩ := at_shape r2 hok
      have gf := (kj fa _ hf).2 gf
      have hf := (kj fa _ hf).1
      have cf := cf.mono sj
      have hS := si.trans sj
      refine s_par' (d := r1.at z) (e := r2.at z) (eds_cons (ed_rel (eds_cons (ed_var rfl (r_row.mono hS)) (eds_cons (ed_var rfl rv) eds_nil)) ⟨r1, z, rfl, rfl⟩) (eds_cons (ed_rel (eds_cons (ed_var rfl (r_other.mono hS)) (eds_cons (ed_var rfl rv) eds_nil)) ⟨r2, z, rfl, rfl⟩) eds_nil)) gj fun vm vt G2 H2 g2 s2 k2 r_mine r_theirs => ?_
      have gf := (k2 fa _ hf).2 gf
      have hf := (k2 fa _ hf).1
      have cf := cf.mono s2
      have done : (!badAt r1 r2 z) = true → ∀ G3 H3 kv3, Gr [fa] G H G3 H3 → Same G2 G3 → G3 fa = none → H3 fa = some (.dT kv3) → ConsT G3 F0 kv3 → kv3.length ≤ kv.length + 1 →
          (∃ G', Gr [fa] G H G' H3 ∧ Same Gs G' ∧ Same G G' ∧ (∃ o1 o2 o3, [some v1, some v2, some v3, some (.ref fa), some v, some vm, some vt] = [some v1, some v2, some v3, some (.ref fa), o1, o2, o3]) ∧ ((ws.take (i + 1)).all fun z => !badAt r1 r2 z) = true ∧ ∃ kvs', G' fa = none ∧ H3 fa = some (.dT kvs') ∧ ConsT G' F0 kvs' ∧ kvs'.length ≤ kvs.length + (i + 1)) := by
        intro hb G3 H3 kv3 g3 s3 gf3 hf3 cf3 lf3
        refine ⟨G3, g3, (sgi.trans sj).trans (s2.trans s3), (hS.trans s2).trans s3, ⟨_, _, _, rfl⟩, ?_, kv3, gf3, hf3, cf3, by omega⟩
        rw [take_snoc hz1, List.all_append, hall]
        simpa using hb
      refine s_if' (((eb_test (ed_op (ed_var rfl r_mine) ed_str fun _ _ => rd_eqS ?_)) : Eb _ _ _ _).to (c := isPre (r1.at z)) ?_) g2 (fun hb H3 g3 k3 => ?_) fun hb H3 g3 k3 => ?_
      · exact sh3
      · simp [isPre]
      · refine s_if' (((eb_test (ed_op (ed_var rfl r_theirs) ed_str fun _ _ => rd_eqS ?_)) : Eb _ _ _ _).to (c := !isPre (r2.at z)) ?_) g3 (fun hb2 H4 g4 k4 => ?_) fun hb2 H4 g4 k4 => ?_
        · exact th3
        · simp [isPre]
        · have hbad : badAt r1 r2 z = true := by unfold badAt; rw [hb, hb2]; rfl
          have hf := (k3 fa _ hf).1
          have hf := (k4 fa _ hf).1
          refine s_ret' ed_bl g4 fun v' G5 H5 g5 s5 k5 r5 => ?_
          cases (show v' = .bl false from r5)
          refine k false G5 H5 kv g5 ((k5 fa _ hf).2 gf) (k5 fa _ hf).1 (cf.mono s5) (by omega) ?_
          symm
          rw [← Bool.not_eq_true, List.all_eq_true]
          intro q
          have := q z (List.mem_of_getElem? hz1)
          rw [hbad] at this
          cases this
        · have hf := (k3 fa _ hf).1
          have hf := (k4 fa _ hf).1
          exact done (by unfold badAt; rw [hb, hb2]; rfl) _ _ kv g4 (Same.refl _) gf hf cf (by omega)
      · have hf := (k3 fa _ hf).1
        have hnp : r1.at z ≠ .str "pre" := fun e => by rw [isPre_iff.mpr e] at hb; cases hb
        have hF : F0 (keyD (r1.at z)) = r2.at z := by
          rcases hfit with q | q
          · rw [hb] at q; cases q
          · exact q
        obtain ⟨b, rfl, hbk⟩ := key_at r_mine hnp
        have hnb : (!badAt r1 r2 z) = true := by unfold badAt; rw [hb]; rfl
        have gdef : ∀ (G5 : Hp) (H5 : Hp) (u : V) (kv5 : List (List L2.Key × V)), Gr [fa] G H G5 H5 → Same G2 G5 → G5 fa = none → H5 fa = some (.dT kv5) → ConsT G5 F0 kv5 → kv5.length ≤ kv.length + 1 → Rp G5 (r2.at z) u → ∀ Q : VK, (∀ v G6 H6, Gp G5 H5 G6 H6 → Rp G6 (.bl false) v → Q v H6) → rNeD K u vt H5 Q := by
          intro G5 H5 u kv5 g5 s5 _ _ _ _ hu Q hQ
          exact rd_neSame th1 th2 u vt H5 g5.s hu (r_theirs.mono s5) Q hQ
        refine ⟨_, rfl, .inr (.inr (.inl ⟨rfl, .inr ⟨kv, hf⟩⟩)), _, rfl, _, rfl, fa, kv, _, b, vt, rfl, rfl, hf, g3.s b _ hbk, Nat.lt_of_le_of_lt (show kv.length ≤ 10000000 by omega) (by decide +kernel), fun u hu => ?_, fun hu => ?_⟩
        · refine ⟨vt, rfl, gdef G2 H3 u kv g3 (Same.refl _) gf hf cf (by omega) (hF ▸ cf _ _ hu) _ fun v6 G6 H6 g6 r6 => ?_⟩
          cases (show v6 = .bl false from r6)
          refine ⟨false, rfl, ?_⟩
          exact done hnb G6 H6 kv (g3.call g6) g6.g (g6.n fa gf (some_ne hf)) (g6.e fa _ hf) (cf.mono g6.g) (by omega)
        · have g5 := g3.put (o := .dT (putK kv (keyD (r1.at z)) vt)) (l := fa) (by simp) gf
          have cf5 : ConsT G2 F0 (putK kv (keyD (r1.at z)) vt) := by
            intro q y hq
            rw [valV_put] at hq
            by_cases e : q = keyD (r1.at z)
            · rw [if_pos e] at hq
              cases Option.some.inj hq
              rw [e, hF]
              exact r_theirs
            · rw [if_neg e] at hq
              exact cf q y hq
          have l5 := length_putK kv (keyD (r1.at z)) vt
          refine ⟨vt, rfl, gdef G2 _ vt _ g5 (Same.refl _) gf upd_same cf5 l5 r_theirs _ fun v6 G6 H6 g6 r6 => ?_⟩
          cases (show v6 = .bl false from r6)
          refine ⟨false, rfl, ?_⟩
          exact done hnb G6 H6 _ (g5.call g6) g6.g (g6.n fa gf (by rw [upd_same]; exact fun z => nomatch z)) (g6.e fa _ upd_same) (cf5.mono g6.g) l5
    · rintro σ G' H' g' s' ⟨si, ⟨o1, o2, o3, rfl⟩, hall, kv, gf, hf, cf, lf⟩
      rw [List.length_map] at hall lf
      rw [List.take_length] at hall
      dsimp only
      refine s_ret' ed_bl g' fun v' G5 H5 g5 s5 k5 r5 => ?_
      cases (show v' = .bl true from r5)
      exact k true G5 H5 kv g5 ((k5 fa _ hf).2 gf) (k5 fa _ hf).1 (cf.mono s5) lf hall.symm
end
end K18
set_option maxHeartbeats 4000000
namespace K18
open PySem PySem.Spec PyProof.Rows L2 Kd
mutual
def lbl : Tr → List Nd
  | .mk a ks => a :: lblL ks
def lblL : List Tr → List Nd
  | [] => []
  | k :: ks => lbl k ++ lblL ks
end
theorem mem_lblL {a : Nd} : ∀ {ks : List Tr}, a ∈ lblL ks ↔ ∃ k ∈ ks, a ∈ lbl k
  | [] => by simp [lblL]
  | k :: ks => by simp [lblL, mem_lblL (ks := ks)]
def okPr (L : Int → D) (F : List L2.Key → D) : Nd → Nd → Prop
  | .letter n, b => leafN b = true ∧ L n = build b []
  | .plain w, .plain w' => w = w'
  | .plain _, .letter _ => True
  | .pair, .pair => True
  | .data s m, .data s' m' => s = s' ∧ m = m'
  | .func r1, .func r2 => r1.ns.map (·.1) = r2.ns.map (·.1) ∧ ∀ z, fit1 F r1 r2 z
  | _, _ => False
def clash : Nd → Nd → Prop
  | .plain _, .letter _ => True
  | .func r1, .func r2 => ∃ z ∈ r1.ns.map (·.1), badAt r1 r2 z = true
  | _, _ => False
theorem rd_rows {f : Nd → Nd} {r : Ro} : ∀ {t : Tr}, okT f t → (.inr r ∈ rdT f t ↔ ∃ a ∈ lbl t, f a = .func r) := by
  intro t
  induction t using Tr.rec (motive_2 := fun ks => (∀ k ∈ ks, okT f k) → (.inr r ∈ rdTL f ks ↔ ∃ a ∈ lblL ks, f a = .func r) ∧ ∀ k ∈ ks, (.inr r ∈ rdT f k ↔ ∃ a ∈ lbl k, f a = .func r)) with
  | mk a ks ih =>
    rintro ⟨h1, h2, h3⟩
    obtain ⟨i1, i2⟩ := ih h3
    rw [rdT, lbl]
    split
    · rename_i n e
      have : ks = [] := List.eq_nil_of_length_eq_zero (by rw [h2, e]; rfl)
      subst this
      simp [lblL, e]
    · rename_i q e
      have hl : ks.length = 2 := by rw [h2, e]; rfl
      match ks, hl with
      | [x, y], _ =>
        have j1 := i2 x (by simp)
        have j2 := i2 y (by simp)
        simp only [List.mem_append, List.mem_cons, lblL, List.not_mem_nil, or_false, List.append_nil, Sum.inr.injEq, j1, j2]
        constructor
        · rintro (⟨b, hb, z⟩ | rfl | ⟨b, hb, z⟩)
          · exact ⟨b, .inr (.inl hb), z⟩
          · exact ⟨a, .inl rfl, e⟩
          · exact ⟨b, .inr (.inr hb), z⟩
        · rintro ⟨b, rfl | hb | hb, z⟩
          · rw [e] at z
            cases z
            exact .inr (.inl rfl)
          · exact .inl ⟨b, hb, z⟩
          · exact .inr (.inr ⟨b, hb, z⟩)
    · rename_i n1 n2
      rw [i1]
      constructor
      · rintro ⟨b, hb, z⟩
        exact ⟨b, List.mem_cons_of_mem _ hb, z⟩
      · rintro ⟨b, hb, z⟩
        rcases List.mem_cons.mp hb with rfl | hb
        · exact absurd z (n2 r)
        · exact ⟨b, hb, z⟩
  | nil => exact ⟨by simp [rdTL, lblL], fun k hk => by simp at hk⟩
  | cons k ks h1 h2 =>
    rename_i h
    have q1 := h1 (h k (by simp))
    obtain ⟨q2, q3⟩ := h2 fun j hj => h j (by simp [hj])
    refine ⟨?_, fun j hj => ?_⟩
    · rw [rdTL, lblL, List.mem_append, q1, q2]
      simp only [List.mem_append]
      constructor
      · rintro (⟨b, hb, z⟩ | ⟨b, hb, z⟩)
        · exact ⟨b, .inl hb, z⟩
        · exact ⟨b, .inr hb, z⟩
      · rintro ⟨b, hb | hb, z⟩
        · exact .inl ⟨b, hb, z⟩
        · exact .inr ⟨b, hb, z⟩
    · rcases List.mem_cons.mp hj with rfl | hj
      · exact q1
      · exact q3 j hj
def hdN : Nd → Str
  | .plain w => w
  | .letter _ => "letter"
  | .pair => "pair"
  | .data _ _ => "data"
  | .func _ => "fun"
theorem build_hd {a : Nd} {ps : List D} (h : ps.length = a.many) : ∃ r, build a ps = .tup (.str (hdN a) :: r) := by
  cases a with
  | plain w => exact ⟨_, rfl⟩
  | letter n => exact ⟨_, rfl⟩
  | data s m => exact ⟨_, rfl⟩
  | pair => match ps, h with | [p, q], _ => exact ⟨_, rfl⟩
  | func r => match ps, h with | [p, q], _ => exact ⟨_, rfl⟩
def ConsK (G : Hp) (L : Int → D) (kvs : List (L2.Key × V)) : Prop := ∀ n v, valV kvs (.inl n) = some v → Rp G (L n) v
theorem ConsK.mono {G G' : Hp} {L : Int → D} {kvs : List (L2.Key × V)} (s : Same G G') (h : ConsK G L kvs) : ConsK G' L kvs := fun k v e => (h k v e).mono s
def prD (f g : Nd → Nd) (t : Tr) : D := .tup [tD f t, tD g t]
theorem zip_prD (f g : Nd → Nd) : ∀ ks : List Tr, List.zipWith (fun x y => D.tup [x, y]) (ks.map (tD f)) (ks.map (tD g)) = ks.map (prD f g)
  | [] => rfl
  | k :: ks => by rw [List.map_cons, List.map_cons, List.zipWith_cons_cons, zip_prD f g ks]; rfl
section
variable {P : Program} {w : World} {K : PySem.W.Frag} {mg : Str → Option Value} {base : Heap}
def rInst : List D → D → Prop := fun ds d => ∃ (f g : Nd → Nd) (t : Tr) (L : Int → D) (F : List L2.Key → D) (N : List Str) (b : Bool), ds = [tD f t, tD g t] ∧ okT f t ∧ okT g t ∧ szT t ≤ 2000 ∧ (∀ a ∈ lbl t, okPr L F (f a) (g a)) ∧ N.length ≤ 4000 ∧ (∀ z ∈ N, PyData.strOk z = true) ∧
  (∀ a ∈ lbl t, ∀ r, f a = .func r ∨ g a = .func r → ∀ p ∈ r.ns, p.1 ∈ N) ∧ d = .bl b ∧ (b = true ↔ ∀ a ∈ lbl t, ¬ clash (f a) (g a))
abbrev N_is_instance_of : List Str := ["scheme", "kind", "words", "letters", "flags", "waiting", "one", "other", "mine", "theirs"]
theorem sc_is_instance_of : FnScope ["scheme", "kind", "words", "letters", "flags", "waiting", "one", "other", "mine", "theirs"] ["scheme", "kind"] (defScope s_is_instance_of) := ⟨rfl, rfl, rfl, by decide +kernel, rfl, by decide +kernel, by decide +kernel⟩
theorem ok_is_instance_of (T : Tx K mg) : Good P w K mg base CX0 "is_instance_of" 5 ["scheme", "kind"] (spRel rInst) := by
  obtain ⟨fd, F⟩ := T.f_is_instance_of
  refine ⟨T.m_is_instance_of, F.kp, fd, ?_, F.bindsN fun _ _ _ _ _ _ us hl => match us, hl with | [_, _], _ => rfl⟩
  have G_words_in := ok_words_in (P := P) (w := w) (base := base) T
  have G_parts_of_kind := ok_parts_of_kind (P := P) (w := w) (base := base) T
  have G_rows_in := ok_rows_in (P := P) (w := w) (base := base) T
  have G_table_of := ok_table_of (P := P) (w := w) (base := base) T
  have G_fits_row := ok_fits_row (P := P) (w := w) (base := base) T
  refine F.ok sc_is_instance_of (fun vs H Q E h => ?_) (fun cdv A outer s H vs Q E hr h => ?_)
  · obtain ⟨G, ds, d, _, r, ⟨f, g, t, L, F0, N, b, rfl, _⟩, _⟩ := h
    exact r.len
  · obtain ⟨G, ds, d, s0, r, ⟨f, gg, t, L, F0, N, b, rfl, hf, hg, hz, hpr, hN, hNs, hNr, rfl, hb⟩, k⟩ := h
    obtain ⟨v1, _, rfl, r_scheme, v2, _, rfl, r_kind, rfl⟩ := r
    refine ⟨_, PSs.nox ((pss_cons (ps_set (i := 2) sc_is_instance_of.nd rfl (Or.inl rfl) (pe_op op_cat (pe_g G_words_in (hr.mono (by decide)) (pa_cons (pe_op op_cat (pe_g G_rows_in (hr.mono (by decide)) (pa_cons (pv 0) pa_nil)) (pe_g G_rows_in (hr.mono (by decide)) (pa_cons (pv 1) pa_nil))) pa_nil)) (pe_lst (pa_cons pe_str pa_nil))))
    (pss_cons (ps_par (i := 3) (j := 4) (by rfl) sc_is_instance_of.nd rfl rfl (by decide) rfl rfl (pa_cons (pe_dnewK) (pa_cons (pe_dnewT) pa_nil)) (by rfl))
    (pss_cons (ps_set (i := 5) sc_is_instance_of.nd rfl (Or.inl rfl) (pe_lst (pa_cons (pe_tup (pa_cons (pv 0) (pa_cons (pv 1) pa_nil))) pa_nil)))
    (pss_cons (ps_while PassesOwn.never (pt_truth (pv 5) (by intro _; rfl)) (pss_cons (ps_asg (pe_bm0 PySem.F.plainAttrs_list PySem.F.slot_list_pop PySem.F.type_list_pop mt_pop (pv 5)) (pg_tup rfl (pgs_cons (pg_name (i := 6) sc_is_instance_of.nd rfl (Or.inl rfl)) (pgs_cons (pg_name (i := 7) sc_is_instance_of.nd rfl (Or.inl rfl)) pgs_nil))))
    (pss_cons (ps_if (pt_cmpR op_eq (pe_ix ix_tup (pv 6) pe_int (fun _ _ => rfl)) pe_str (nomark _)) (pss_cons (ps_if (pt_cmpR (op_neD hr.units) (pe_g G_table_of (hr.mono (by decide)) (pa_cons (pe_dsetd (pv 3) (pe_ix ix_tup (pv 6) pe_int (fun _ _ => rfl)) (pv 7) (by exact ⟨rfl, rfl, rfl, rfl⟩)) pa_nil)) (pe_g G_table_of (hr.mono (by decide)) (pa_cons (pv 7) pa_nil)) (nomark _)) (pss_one (ps_ret pe_bl)) pss_nil)
    (pss_one ps_continue)) pss_nil)
    (pss_cons (ps_if (PW.pt (pw_or (pt_cmpR op_ne (pe_ix ix_tup (pv 6) pe_int (fun _ _ => rfl)) (pe_ix ix_tup (pv 7) pe_int (fun _ _ => rfl)) (nomark _)) (pw_or1 (PW.pt (pw_and (pt_cmpR op_eq (pe_ix ix_tup (pv 6) pe_int (fun _ _ => rfl)) pe_str (nomark _)) (pw_and1 (pt_cmpR op_ne (pe_ix ix_tup (pv 6) pe_int (fun _ _ => rfl)) (pe_ix ix_tup (pv 7) pe_int (fun _ _ => rfl)) (nomark _)))))))) (pss_one (ps_ret pe_bl)) pss_nil)
    (pss_cons (ps_par (i := 8) (j := 9) (by rfl) sc_is_instance_of.nd rfl rfl (by decide) rfl rfl (pa_cons (pe_g G_parts_of_kind (hr.mono (by decide)) (pa_cons (pv 6) pa_nil)) (pa_cons (pe_g G_parts_of_kind (hr.mono (by decide)) (pa_cons (pv 7) pa_nil)) pa_nil)) (by rfl))
    (pss_cons (ps_if (pt_cmpR op_ne (pe_callB call_len_seq (by rfl) T.n_len PySem.boot_len (pa_cons (pv 8) pa_nil)) (pe_callB call_len_seq (by rfl) T.n_len PySem.boot_len (pa_cons (pv 9) pa_nil)) (nomark _)) (pss_one (ps_ret pe_bl)) pss_nil)
    (pss_cons (ps_if (PW.pt (pw_and (pt_cmpR op_eq (pe_ix ix_tup (pv 6) pe_int (fun _ _ => rfl)) pe_str (nomark _)) (pw_and1 (pt_not (pt_val (pe_g G_fits_row (hr.mono (by decide)) (pa_cons (pe_ix ix_tup (pv 6) pe_int (fun _ _ => rfl)) (pa_cons (pe_ix ix_tup (pv 7) pe_int (fun _ _ => rfl)) (pa_cons (pv 2) (pa_cons (pv 4) pa_nil)))))))))) (pss_one (ps_ret pe_bl)) pss_nil)
    (pss_one (ps_expr (pe_bm PySem.F.plainAttrs_list PySem.F.slot_list_extend PySem.F.type_list_extend mt_extend (pv 5) (pa_cons (pe_listZip rfl (by rfl) T.n_list (by rfl) T.n_zip (pa_cons (pv 8) (pa_cons (pv 9) pa_nil))) pa_nil)))))))))))
    (pss_one (ps_ret pe_bl))))))), ?_⟩
    have g := gr0 (M := []) s0
    have hrow : ∀ (q : Nd → Nd), okT q t → ∀ r, r ∈ (rdT q t).filterMap Sum.getRight? ↔ ∃ a ∈ lbl t, q a = .func r := by
      intro q hq r
      rw [← rd_rows hq, List.mem_filterMap]
      constructor
      · rintro ⟨x, hx, e⟩
        cases x with
        | inl n => cases e
        | inr y => cases e; exact hx
      · exact fun h => ⟨_, h, rfl⟩
    have hlen : ∀ q : Nd → Nd, ((rdT q t).filterMap Sum.getRight?).length ≤ 2000 := fun q => Nat.le_trans (List.length_filterMap_le _ _) (Nat.le_trans (rdT_len q t) hz)
    refine s_setX (P := fun d => ∃ ws : List Str, d = .lst (ws.map .str) ∧ ws.length ≤ 4001 ∧ (∀ z ∈ ws, PyData.strOk z = true) ∧ ∀ a ∈ lbl t, ∀ r, f a = .func r → ∀ z ∈ r.ns.map (·.1), z ∈ ws)
      (edx_op (edx_all (ds := [.lst ((((rdT f t).filterMap Sum.getRight?) ++ ((rdT gg t).filterMap Sum.getRight?)).map Ro.d)]) (eds_cons ((ed_op (ed_rel (eds_cons (ed_var rfl r_scheme) eds_nil) ⟨f, t, rfl, hf, by omega, rfl⟩) (ed_rel (eds_cons (ed_var rfl r_kind) eds_nil) ⟨gg, t, rfl, hg, by omega, rfl⟩) fun _ _ => rd_cat (by have := hlen f; have := hlen gg; simp only [List.length_map]; omega)).to (by rw [List.map_append])) eds_nil) ⟨_, N, rfl, hN, ?_⟩) (ed_lst (ds := [.str ""]) (eds_cons ed_str eds_nil) (Nat.le_of_ble_eq_true rfl)) ?_) g fun d vw G1 H1 hd g1 s1 k1 r_words => ?_
    · intro r hr p hp
      rcases List.mem_append.mp hr with q | q
      · obtain ⟨a, ha, e⟩ := (hrow f hf r).mp q
        exact hNr a ha r (.inl e) p hp
      · obtain ⟨a, ha, e⟩ := (hrow gg hg r).mp q
        exact hNr a ha r (.inr e) p hp
    · rintro d ⟨rs, ys, e1, rfl, hy, hm⟩
      cases e1
      refine ⟨_, ⟨ys ++ [("" : Str)], rfl, by simp; omega, fun z hz => ?_, fun a ha r e z hz => ?_⟩, fun G2 _ => ?_⟩
      · rcases List.mem_append.mp hz with q | q
        · obtain ⟨x, hx, hzx⟩ := (hm z).mp q
          obtain ⟨r, hr, rfl⟩ := List.mem_map.mp hx
          rw [nmsD_d] at hzx
          obtain ⟨p, hp, rfl⟩ := List.mem_map.mp hzx
          rcases List.mem_append.mp hr with q | q
          · obtain ⟨a, ha, e⟩ := (hrow f hf r).mp q
            exact hNs _ (hNr a ha r (.inl e) p hp)
          · obtain ⟨a, ha, e⟩ := (hrow gg hg r).mp q
            exact hNs _ (hNr a ha r (.inr e) p hp)
        · rw [List.mem_singleton.mp q]
          decide +kernel
      · refine List.mem_append_left _ ((hm z).mpr ⟨r.d, List.mem_map.mpr ⟨r, List.mem_append_left _ ((hrow f hf r).mpr ⟨a, ha, e⟩), rfl⟩, ?_⟩)
        rw [nmsD_d]
        exact hz
      · rw [List.map_append]
        exact rd_cat (by simp; omega)
    obtain ⟨ws, rfl, hwl, hws, hwn⟩ := hd
    refine fun la na fa nfa => ⟨_, _, rfl, ?_⟩
    have g2 := g1.tmp (o := .dK []) na
    have g3 := g2.tmp (o := .dT []) nfa
    have nlf : la ≠ fa := fun e => by rw [← e, upd_same] at nfa; cases nfa
    have ola : OwnO H G1 (upd (upd H1 la (.dK [])) fa (.dT [])) la (.dK []) := ⟨g1.free na, g1.gfree na, by rw [upd_ne nlf, upd_same]⟩
    have ofa : OwnO H G1 (upd (upd H1 la (.dK [])) fa (.dT [])) fa (.dT []) := ⟨g2.free nfa, g2.gfree nfa, upd_same⟩
    refine o_new (ds := [prD f gg t]) (eds_cons (ed_tup (eds_cons (ed_var rfl (r_scheme.mono s1)) (eds_cons (ed_var rfl (r_kind.mono s1)) eds_nil)) (Nat.le_of_ble_eq_true rfl)) eds_nil) (Nat.le_of_ble_eq_true rfl) g3 fun lw G4 H4 g4 s4 k4 ow _ => ?_
    have ola := (ola.kp k4)
    have ofa := (ofa.kp k4)
    have nwl : lw ≠ la := fun e => by
      obtain ⟨vs, ev, _⟩ := ow.e
      rw [e, ola.e] at ev
      cases ev
    have nwf : lw ≠ fa := fun e => by
      obtain ⟨vs, ev, _⟩ := ow.e
      rw [e, ofa.e] at ev
      cases ev
    dsimp only
    refine s_seq (s_while (σ := [some v1, some v2, some vw, some (.ref la), some (.ref fa), some (.ref lw), none, none, none, none]) (fun m σ G' H' => Same G4 G' ∧ ∃ o1 o2 o3 o4 ts kL kF, σ = [some v1, some v2, some vw, some (.ref la), some (.ref fa), some (.ref lw), o1, o2, o3, o4] ∧ m = szTL ts ∧ Own H G' H' lw (ts.map (prD f gg)) ∧ OwnO H G' H' la (.dK kL) ∧ OwnO H G' H' fa (.dT kF) ∧ ConsK G' L kL ∧ ConsT G' F0 kF ∧
        (∀ t' ∈ ts, okT f t' ∧ okT gg t' ∧ ∀ a ∈ lbl t', a ∈ lbl t) ∧ ((∀ a ∈ lbl t, ¬ clash (f a) (gg a)) ↔ ∀ t' ∈ ts, ∀ a ∈ lbl t', ¬ clash (f a) (gg a)) ∧ kL.length + szTL ts ≤ 2000 ∧ kF.length + 4001 * szTL ts ≤ 8002000 ∧ szTL ts ≤ 2000) g4 (m0 := szTL [t]) ⟨Same.refl _, _, _, _, _, [t], [], [], rfl, rfl, ow, ola, ofa, fun n v e => by simp [valV] at e, fun n v e => by simp [valV] at e, fun t' ht' => by rw [List.mem_singleton.mp ht']; exact ⟨hf, hg, fun a h => h⟩, by simp, by simp [szTL]; omega, by simp [szTL]; omega, by simp [szTL]; omega⟩ ?_)
    rintro m σ G' H' g ⟨sG, o1, o2, o3, o4, ts, kL, kF, rfl, rfl, ow, ola, ofa, cL, cF, hts, hcl, hkL, hkF, hsz⟩
    refine (ow.eb g.s fun Gx s r => eb_truth (ed_var rfl r) rfl) _ fun H1 g1 => ?_
    have ow := ow.kp g1.g g1.kp
    have ola := ola.kp g1.kp
    have ofa := ofa.kp g1.kp
    have g := g.call g1
    rcases nil_or_snoc ts with rfl | ⟨ts, t', rfl⟩
    · rw [if_neg (by simp [truth])]
      have e : b = true := hb.mpr (hcl.mpr fun t' ht' => by simp at ht')
      rw [e] at k
      dsimp only
      exact s_ret ed_bl g k
    · rw [if_pos (by simp [truth])]
      refine ⟨_, fun _ _ q => q, ?_⟩
      obtain ⟨hf', hg', hsub⟩ := hts t' (by simp)
      have hts' : ∀ j ∈ ts, okT f j ∧ okT gg j ∧ ∀ a ∈ lbl j, a ∈ lbl t := fun j hj => hts j (by simp [hj])
      cases t' with
      | mk a ks =>
      cases hf' with
      | mk ha1 hl1 hk1 =>
      cases hg' with
      | mk ha2 hl2 hk2 =>
      have hp := hpr a (hsub a (by simp [lbl]))
      have e1 : szTL (ts ++ [Tr.mk a ks]) = szTL ts + (szTL ks + 2) := by rw [szTL_app]; simp [szTL, szT]
      rw [e1] at hkL hkF hsz
      have hkl := szTL_len ks
      have htl := szTL_len ts
      have hclA : ¬ clash (f a) (gg a) → ((∀ a ∈ lbl t, ¬ clash (f a) (gg a)) ↔ ∀ t' ∈ ts ++ ks, ∀ a ∈ lbl t', ¬ clash (f a) (gg a)) := by
        intro hna
        rw [hcl]
        constructor
        · intro q t' ht' x hx
          rcases List.mem_append.mp ht' with z | z
          · exact q t' (by simp [z]) x hx
          · exact q _ (List.mem_append_right _ (List.mem_singleton.mpr rfl)) x (by rw [lbl]; exact List.mem_cons_of_mem _ (mem_lblL.mpr ⟨t', z, hx⟩))
        · intro q t' ht' x hx
          rcases List.mem_append.mp ht' with z | z
          · exact q t' (by simp [z]) x hx
          · rw [List.mem_singleton.mp z, lbl] at hx
            rcases List.mem_cons.mp hx with rfl | hx
            · exact hna
            · obtain ⟨k', hk', hx⟩ := mem_lblL.mp hx
              exact q k' (by simp [hk']) x hx
      have hbF : clash (f a) (gg a) → b = false := by
        intro hc
        cases b with
        | false => rfl
        | true => exact absurd hc (hb.mp rfl a (hsub a (by simp [lbl])))
      refine o_pop2 (d := tD f (.mk a ks)) (e := tD gg (.mk a ks)) (ds := ts.map (prD f gg)) rfl g (by rw [List.map_append] at ow; exact ow) rfl fun x y H2 g ow2 ks1 ko r_one r_other => ?_
      have ola := ola.kq ko (Ne.symm nwl)
      have ofa := ofa.kq ko (Ne.symm nwf)
      have nxt : ∀ (G3 H3 : Hp) (kL3 : List (L2.Key × V)) (kF3 : List (List L2.Key × V)) (o3 o4 : Option V), Gr [] G H G3 H3 → Same G' G3 → Own H G3 H3 lw ((ts ++ ks).map (prD f gg)) → OwnO H G3 H3 la (.dK kL3) → OwnO H G3 H3 fa (.dT kF3) → ConsK G3 L kL3 → ConsT G3 F0 kF3 → kL3.length ≤ kL.length + 1 → kF3.length ≤ kF.length + 4001 → ¬ clash (f a) (gg a) →
          (∃ m', m' < szTL (ts ++ [Tr.mk a ks]) ∧ ∃ G', Gr [] G H G' H3 ∧ Same G4 G' ∧ ∃ o1 o2 o3' o4' ts kL kF, [some v1, some v2, some vw, some (.ref la), some (.ref fa), some (.ref lw), some x, some y, o3, o4] = [some v1, some v2, some vw, some (.ref la), some (.ref fa), some (.ref lw), o1, o2, o3', o4'] ∧ m' = szTL ts ∧ Own H G' H3 lw (ts.map (prD f gg)) ∧ OwnO H G' H3 la (.dK kL) ∧ OwnO H G' H3 fa (.dT kF) ∧ ConsK G' L kL ∧ ConsT G' F0 kF ∧
            (∀ t' ∈ ts, okT f t' ∧ okT gg t' ∧ ∀ a ∈ lbl t', a ∈ lbl t) ∧ ((∀ a ∈ lbl t, ¬ clash (f a) (gg a)) ↔ ∀ t' ∈ ts, ∀ a ∈ lbl t', ¬ clash (f a) (gg a)) ∧ kL.length + szTL ts ≤ 2000 ∧ kF.length + 4001 * szTL ts ≤ 8002000 ∧ szTL ts ≤ 2000) := by
        intro G3 H3 kL3 kF3 o3 o4 g3 s3 ow3 ola3 ofa3 cL3 cF3 l3 l3' hna
        have e2 : szTL (ts ++ ks) = szTL ts + szTL ks := szTL_app ts ks
        refine ⟨szTL (ts ++ ks), by omega, G3, g3, sG.trans s3, _, _, _, _, ts ++ ks, kL3, kF3, rfl, rfl, ow3, ola3, ofa3, cL3, cF3, fun j hj => ?_, hclA hna, by omega, by omega, by omega⟩
        rcases List.mem_append.mp hj with q | q
        · exact hts' j q
        · exact ⟨hk1 j q, hk2 j q, fun c hc => hsub c (by rw [lbl]; exact List.mem_cons_of_mem _ (mem_lblL.mpr ⟨j, q, hc⟩))⟩
      rw [tD, tDL_map] at r_one r_other
      have hl1' : (ks.map (tD f)).length = (f a).many := by rw [List.length_map]; exact hl1
      have hl2' : (ks.map (tD gg)).length = (gg a).many := by rw [List.length_map]; exact hl2
      obtain ⟨q1, eq1⟩ := build_hd hl1'
      obtain ⟨q2, eq2⟩ := build_hd hl2'
      have hone : Rp G' (.tup (.str (hdN (f a)) :: q1)) x := eq1 ▸ r_one
      have hoth : Rp G' (.tup (.str (hdN (gg a)) :: q2)) y := eq2 ▸ r_other
      by_cases hL : hdN (f a) = "letter"
      · obtain ⟨n, e⟩ : ∃ n, f a = .letter n := by
          cases e : f a with
          | letter n => exact ⟨n, rfl⟩
          | plain w =>
            rw [e] at hL ha1
            exact absurd hL (plain_word ha1).2.2.2.2.1
          | _ => rw [e] at hL; exact absurd hL (by simp only [hdN]; decide)
        rw [e] at hp r_one
        obtain ⟨hleaf, hLn⟩ := hp
        have hks : ks = [] := List.eq_nil_of_length_eq_zero (by rw [hl1, e]; rfl)
        subst hks
        have hna : ¬ clash (f a) (gg a) := by rw [e]; cases gg a <;> exact fun z => z
        have hother : Rp G' (build (gg a) []) y := r_other
        have shp : noDct (D.lst [build (gg a) []]) = true ∧ SeqAt.shaped (toPy (D.lst [build (gg a) []])) = true := by
          cases e2 : gg a with
          | letter m =>
            refine ⟨rfl, ?_⟩
            simp [build, SeqAt.shaped, toPy, toPyL, PyData.canLay0, PyData.canLayAll0, PyData.depth, PyData.depthAll]
            decide +kernel
          | plain w =>
            rw [e2] at ha2
            have ha2 : w ∈ thePlain := ha2
            refine ⟨rfl, ?_⟩
            simp only [thePlain, List.mem_cons, List.not_mem_nil, or_false] at ha2
            rcases ha2 with rfl | rfl | rfl | rfl <;> decide +kernel
          | _ => rw [e2] at hleaf; cases hleaf
        refine s_if' ((eb_test (ed_op (ed_op (ed_var rfl hone) ed_int fun _ _ => rd_ixT at0) ed_str fun _ _ => rd_eq rfl)).to (decide_eq_true hL)) g (fun _ H3 g k3 => ?_) fun z => nomatch z
        have ow2 := ow2.kp (Same.refl _) k3
        have ola := ola.kp k3
        have ofa := ofa.kp k3
        have fin : ∀ (G6 H6 : Hp) (u : V) (kL6 : List (L2.Key × V)), Gr [] G H G6 H6 → Same G' G6 → Own H G6 H6 lw (ts.map (prD f gg)) → OwnO H G6 H6 la (.dK kL6) → OwnO H G6 H6 fa (.dT kF) → ConsK G6 L kL6 → kL6.length ≤ kL.length + 1 → Rp G6 (build (gg a) []) u →
            ∀ Q : VK, (∀ G7 H7, Gp G6 H6 G7 H7 → Q (.bl false) H7) → spRel rTab [u] H6 (fun v7 H7 => tCall (spRel rTab) [] E0 (tCons (tVar 7) tNil) [some v1, some v2, some vw, some (.ref la), some (.ref fa), some (.ref lw), some x, some y, o3, o4] H7 fun v8 H8 => rNeD K v7 v8 H8 Q) E0 := by
          intro G6 H6 u kL6 g6 s6 _ _ _ _ _ hu Q hQ
          refine ⟨G6, [build (gg a) []], .lst [build (gg a) []], g6.s, .one hu, ⟨gg a, rfl, ha2, hleaf, rfl⟩, fun v7 G7 H7 g7 r7 => ?_⟩
          refine (ed_rel (eds_cons (ed_var rfl (hother.mono (s6.trans g7.g))) eds_nil) ⟨gg a, rfl, ha2, hleaf, rfl⟩ : Ed _ _ G7 (.lst [build (gg a) []])) H7 g7.s _ fun v8 G8 H8 g8 r8 => ?_
          refine rd_neSame shp.1 shp.2 v7 v8 H8 g8.s (r7.mono g8.g) r8 Q fun v9 G9 H9 g9 r9 => ?_
          cases (show v9 = .bl false from r9)
          exact hQ G9 H9 ((g7.trans g8).trans g9)
        refine ⟨_, rfl, la, rfl, .inl ⟨kL, .inl ola.e⟩, ?_⟩
        refine (ed_op (ed_var rfl (show Rp G' (.tup [.str "letter", .int n]) x from r_one)) ed_int fun _ _ => rd_ixT at1 : Ed _ _ G' (.int n)) H3 g.s _ fun vn G5 H5 g5 r5 => ?_
        cases (show vn = .int n from r5)
        have ow5 := ow2.kp g5.g g5.kp
        have ola5 := ola.kp g5.kp
        have ofa5 := ofa.kp g5.kp
        have gr5 := g.call g5
        have cL5 := cL.mono g5.g
        have cF5 := cF.mono g5.g
        have hother5 := hother.mono g5.g
        refine ⟨y, rfl, kL, .inl n, ola5.e, rfl, Nat.lt_of_le_of_lt (show kL.length ≤ 2000 by omega) (by decide), fun u hu => ?_, fun hu => ?_⟩
        · have hru : Rp G5 (build (gg a) []) u := by rw [← hLn]; exact cL5 n u hu
          refine fin G5 H5 u kL gr5 g5.g ow5 ola5 ofa5 cL5 (Nat.le_succ _) hru _ fun G7 H7 g7 => ?_
          refine ⟨false, rfl, ?_⟩
          exact nxt G7 H7 kL kF o3 o4 (gr5.call g7) (g5.g.trans g7.g) (by rw [List.append_nil]; exact ow5.kp g7.g g7.kp) (ola5.kp g7.kp) (ofa5.kp g7.kp) (cL5.mono g7.g) (cF5.mono g7.g) (Nat.le_succ _) (Nat.le_add_right _ _) hna
        · have g6 := gr5.mut (o := .dK (putK kL (.inl n) y)) ola5.g ola5.h0
          have cL6 : ConsK G5 L (putK kL (.inl n) y) := by
            intro q u hq
            rw [valV_put] at hq
            by_cases eq : (Sum.inl q : L2.Key) = .inl n
            · rw [if_pos eq] at hq
              cases Option.some.inj hq
              cases eq
              rw [hLn]
              exact hother5
            · rw [if_neg eq] at hq
              exact cL5 q u hq
          have l6 := length_putK kL (Sum.inl n : L2.Key) y
          have ow6 : Own H G5 (upd H5 la (.dK (putK kL (.inl n) y))) lw (ts.map (prD f gg)) := ow5.upd nwl
          have ola6 : OwnO H G5 (upd H5 la (.dK (putK kL (.inl n) y))) la (.dK (putK kL (.inl n) y)) := ⟨ola5.h0, ola5.g, upd_same⟩
          have ofa6 : OwnO H G5 (upd H5 la (.dK (putK kL (.inl n) y))) fa (.dT kF) := ⟨ofa5.h0, ofa5.g, by rw [upd_ne (Ne.symm nlf)]; exact ofa5.e⟩
          refine fin G5 _ y _ g6 g5.g ow6 ola6 ofa6 cL6 l6 hother5 _ fun G7 H7 g7 => ?_
          refine ⟨false, rfl, ?_⟩
          exact nxt G7 H7 _ kF o3 o4 (g6.call g7) (g5.g.trans g7.g) (by rw [List.append_nil]; exact ow6.kp g7.g g7.kp) (ola6.kp g7.kp) (ofa6.kp g7.kp) (cL6.mono g7.g) (cF5.mono g7.g) l6 (Nat.le_add_right _ _) hna
      · refine s_if' ((eb_test (ed_op (ed_op (ed_var rfl hone) ed_int fun _ _ => rd_ixT at0) ed_str fun _ _ => rd_eq rfl)).to (decide_eq_false hL)) g (fun z => nomatch z) fun _ H3 g k3 => ?_
        have ow2 := ow2.kp (Same.refl _) k3
        have ola := ola.kp k3
        have ofa := ofa.kp k3
        by_cases hH : hdN (f a) = hdN (gg a)
        · have hnp : ∀ w m, ¬ (f a = .plain w ∧ gg a = .letter m) := by
            rintro w m ⟨e, e2⟩
            rw [e, e2] at hH
            rw [e] at ha1
            exact (plain_word ha1).2.2.2.2.1 hH
          refine s_if' (eb_orF ((eb_test (ed_op (ed_op (ed_var rfl hone) ed_int fun _ _ => rd_ixT at0) (ed_op (ed_var rfl hoth) ed_int fun _ _ => rd_ixT at0) fun _ _ => rd_ne rfl)).to (c := false) (by rw [decide_eq_true hH]; rfl)) (?_ : Eb _ _ _ false)) g (fun z => nomatch z) fun _ H4 g k4 => ?_
          · by_cases hd : hdN (f a) = "data"
            · obtain ⟨s, m, e⟩ : ∃ s m, f a = .data s m := by
                cases e : f a with
                | data s m => exact ⟨s, m, rfl⟩
                | plain w =>
                  rw [e] at hd ha1
                  exact absurd hd (plain_word ha1).2.2.2.1
                | _ => rw [e] at hd; exact absurd hd (by simp only [hdN]; decide)
              obtain ⟨m', e2⟩ : ∃ m', gg a = .data s m' := by
                rw [e] at hp
                cases e2 : gg a <;> rw [e2] at hp <;> first | exact hp.elim | exact ⟨_, by rw [hp.1]⟩
              rw [e] at r_one
              rw [e2] at r_other
              refine eb_andT ((eb_test (ed_op (ed_op (ed_var rfl hone) ed_int fun _ _ => rd_ixT at0) ed_str fun _ _ => rd_eq rfl)).to (decide_eq_true hd)) ?_
              refine (eb_test (ed_op (ed_op (ed_var rfl (show Rp G' (.tup [.str "data", .str s, .lst _]) x from r_one)) ed_int fun _ _ => rd_ixT at1) (ed_op (ed_var rfl (show Rp G' (.tup [.str "data", .str s, .lst _]) y from r_other)) ed_int fun _ _ => rd_ixT at1) fun _ _ => rd_ne rfl)).to (by simp)
            · exact eb_andF ((eb_test (ed_op (ed_op (ed_var rfl hone) ed_int fun _ _ => rd_ixT at0) ed_str fun _ _ => rd_eq rfl)).to (decide_eq_false hd))
          have ow2 := ow2.kp (Same.refl _) k4
          have ola := ola.kp k4
          have ofa := ofa.kp k4
          refine s_par' (eds_cons (ed_rel (eds_cons (ed_var rfl r_one) eds_nil) ⟨f a, _, rfl, ha1, hl1', rfl⟩) (eds_cons (ed_rel (eds_cons (ed_var rfl r_other) eds_nil) ⟨gg a, _, rfl, ha2, hl2', rfl⟩) eds_nil)) g fun vm vt G5 H5 g s5 k5 r_mine r_theirs => ?_
          have ow2 := ow2.kp s5 k5
          have ola := ola.kp k5
          have ofa := ofa.kp k5
          have cL := cL.mono s5
          have cF := cF.mono s5
          refine s_if' ((eb_test (ed_op (ed_lenL (ed_var rfl r_mine)) (ed_lenL (ed_var rfl r_theirs)) fun _ _ => rd_ne rfl)).to (c := false) (by simp)) g (fun z => nomatch z) fun _ H6 g k6 => ?_
          have ow2 := ow2.kp (Same.refl _) k6
          have ola := ola.kp k6
          have ofa := ofa.kp k6
          have tail : ∀ (D' : Ends) (G6 H6 : Hp) (kF6 : List (List L2.Key × V)), Gr [] G H G6 H6 → Same G5 G6 → Own H G6 H6 lw (ts.map (prD f gg)) → OwnO H G6 H6 la (.dK kL) → OwnO H G6 H6 fa (.dT kF6) → ConsT G6 F0 kF6 →
              (∀ G3 H3, Gr [] G H G3 H3 → Same G' G3 → Own H G3 H3 lw ((ts ++ ks).map (prD f gg)) → OwnO H G3 H3 la (.dK kL) → OwnO H G3 H3 fa (.dT kF6) → ConsK G3 L kL → ConsT G3 F0 kF6 → D'.nx [some v1, some v2, some vw, some (.ref la), some (.ref fa), some (.ref lw), some x, some y, some vm, some vt] H3) →
              tDrop (tBM K "list" rExtend (tVar 5) (tCons (tListZip K (tCons (tVar 8) (tCons (tVar 9) tNil))) tNil)) D' [some v1, some v2, some vw, some (.ref la), some (.ref fa), some (.ref lw), some x, some y, some vm, some vt] H6 := by
            intro D' G6 H6 kF6 g6 s6 ow6 ola6 ofa6 cF6 hD
            have ez : List.zipWith (fun x y => D.tup [x, y]) (ks.map (tD f)) (ks.map (tD gg)) = ks.map (prD f gg) := by
              exact zip_prD f gg ks
            refine o_extend (es := ks.map (prD f gg)) rfl ((ed_listZip (ed_var rfl (r_mine.mono s6)) (ed_var rfl (r_theirs.mono s6))).to (by rw [ez])) g6 ow6 (by simp; omega) fun G7 H7 g7 s7 ow7 _ k7 => ?_
            exact hD G7 H7 g7 ((s5.trans s6).trans s7) (by rw [List.map_append]; exact ow7) (ola6.ko k7 (Ne.symm nwl)) (ofa6.ko k7 (Ne.symm nwf)) ((cL.mono s6).mono s7) (cF6.mono s7)
          by_cases hfun : hdN (f a) = "fun"
          · obtain ⟨r1, e⟩ : ∃ r, f a = .func r := by
              cases e : f a with
              | func r => exact ⟨r, rfl⟩
              | plain w =>
                rw [e] at hfun ha1
                exact absurd hfun (plain_word ha1).2.2.1
              | _ => rw [e] at hfun; exact absurd hfun (by simp only [hdN]; decide)
            obtain ⟨r2, e2⟩ : ∃ r, gg a = .func r := by
              rw [e] at hp
              cases e2 : gg a <;> rw [e2] at hp <;> first | exact hp.elim | exact ⟨_, rfl⟩
            rw [e, e2] at hp
            obtain ⟨hnm, hfit⟩ := hp
            obtain ⟨c1, c2, rfl⟩ : ∃ c1 c2, ks = [c1, c2] := by
              have : ks.length = 2 := by rw [hl1, e]; rfl
              match ks, this with | [c1, c2], _ => exact ⟨c1, c2, rfl⟩
            rw [e] at r_one
            rw [e2] at r_other
            have h1 : Rp G5 (.tup [.str "fun", tD f c1, r1.d, tD f c2]) x := (show Rp G' (.tup [.str "fun", tD f c1, r1.d, tD f c2]) x from r_one).mono s5
            have h2 : Rp G5 (.tup [.str "fun", tD gg c1, r2.d, tD gg c2]) y := (show Rp G' (.tup [.str "fun", tD gg c1, r2.d, tD gg c2]) y from r_other).mono s5
            refine ((eb_test (ed_op (ed_op (ed_var rfl (hone.mono s5)) ed_int fun _ _ => rd_ixT at0) ed_str fun _ _ => rd_eq rfl)).to (decide_eq_true hfun) : Eb _ _ G5 true) H6 g.s _ fun H7 g7 => ?_
            rw [if_pos rfl]
            have g := g.call g7
            have ow2 := ow2.kp g7.g g7.kp
            have ola := ola.kp g7.kp
            have ofa := ofa.kp g7.kp
            refine (ed_op (ed_var rfl h1) ed_int fun _ _ => rd_ixT at2 : Ed _ _ G5 r1.d) H7 g.s _ fun va G8 H8 g8 r8 => ?_
            have g := g.call g8
            have ow2 := ow2.kp g8.g g8.kp
            have ola := ola.kp g8.kp
            have ofa := ofa.kp g8.kp
            refine (ed_op (ed_var rfl (h2.mono g8.g)) ed_int fun _ _ => rd_ixT at2 : Ed _ _ G8 r2.d) H8 g8.s _ fun vb G9 H9 g9 r9 => ?_
            have g := g.call g9
            have ow2 := ow2.kp g9.g g9.kp
            have ola := ola.kp g9.kp
            have ofa := ofa.kp g9.kp
            have s9 : Same G5 G9 := g8.g.trans g9.g
            refine ⟨vw, rfl, .ref fa, rfl, ?_⟩
            refine ⟨G9, r1, r2, ws, F0, kF, va, vb, vw, fa, rfl, g9.s, r8.mono g9.g, r9, r_words.mono ((s4.trans sG).trans (s5.trans s9)), ofa.g, ofa.e, cF.mono s9, by omega, fun z hz => ⟨hws z hz, hfit z⟩, fun b' G10 H10 kF' g10 gf10 hf10 c10 l10 hb' => ?_⟩
            refine ⟨b', rfl, ?_⟩
            have g11 := g.callOwn g10 ofa.h0
            have ow10 := ow2.callOwn g10 nwf
            have ola10 := ola.callOwn g10 nlf
            have ofa10 : OwnO H G10 H10 fa (.dT kF') := ⟨ofa.h0, gf10, hf10⟩
            have hcb : clash (f a) (gg a) ↔ b' = false := by
              rw [e, e2, hb']
              constructor
              · rintro ⟨z, hz, hbad⟩
                rw [← Bool.not_eq_true, List.all_eq_true]
                intro q
                have := q z (hwn a (hsub a (by simp [lbl])) r1 e z hz)
                rw [hbad] at this
                cases this
              · intro hF
                rw [← Bool.not_eq_true, List.all_eq_true] at hF
                obtain ⟨z, hz⟩ := Classical.not_forall.mp hF
                obtain ⟨hz1, hz2⟩ := Classical.not_imp.mp hz
                have hbad : badAt r1 r2 z = true := by
                  cases q : badAt r1 r2 z with
                  | true => rfl
                  | false => rw [q] at hz2; exact absurd rfl hz2
                refine ⟨z, ?_, hbad⟩
                have hpre : isPre (r1.at z) = true := by
                  unfold badAt at hbad
                  exact (Bool.and_eq_true _ _ ▸ hbad).1
                rw [isPre_iff] at hpre
                unfold Ro.at at hpre
                cases ef : r1.ns.find? (fun p => decide (p.1 = z)) with
                | none => rw [ef] at hpre; cases hpre
                | some p =>
                  have hm := List.mem_of_find?_eq_some ef
                  have := List.find?_some ef
                  exact List.mem_map.mpr ⟨p, hm, of_decide_eq_true this⟩
            cases b' with
            | false =>
              have hbf := hbF (hcb.mpr rfl)
              rw [hbf] at k
              dsimp only
              rw [if_pos (by rfl)]
              exact s_ret ed_bl g11 k
            | true =>
              have hna : ¬ clash (f a) (gg a) := fun hc => by cases hcb.mp hc
              dsimp only
              rw [if_neg (by simp)]
              refine tail _ G10 H10 kF' g11 (s9.trans g10.g) ow10 ola10 ofa10 c10 fun G3 H3 g3 s3 ow3 ola3 ofa3 cL3 cF3 => ?_
              exact nxt G3 H3 kL kF' _ _ g3 s3 ow3 ola3 ofa3 cL3 cF3 (Nat.le_succ _) (by omega) hna
          · refine s_if' (eb_andF ((eb_test (ed_op (ed_op (ed_var rfl (hone.mono s5)) ed_int fun _ _ => rd_ixT at0) ed_str fun _ _ => rd_eq rfl)).to (decide_eq_false hfun))) g (fun z => nomatch z) fun _ H7 g k7 => ?_
            have hna : ¬ clash (f a) (gg a) := by
              intro hc
              cases e : f a <;> rw [e] at hc hfun <;> cases e2 : gg a <;> rw [e2] at hc <;> first | exact hc | exact hnp _ _ ⟨e, e2⟩ | exact hfun rfl
            refine tail _ G5 H7 kF g (Same.refl _) (ow2.kp (Same.refl _) k7) (ola.kp k7) (ofa.kp k7) cF fun G3 H3 g3 s3 ow3 ola3 ofa3 cL3 cF3 => ?_
            exact nxt G3 H3 kL kF _ _ g3 s3 ow3 ola3 ofa3 cL3 cF3 (Nat.le_succ _) (Nat.le_add_right _ _) hna
        · refine s_if' (eb_orT ((eb_test (ed_op (ed_op (ed_var rfl hone) ed_int fun _ _ => rd_ixT at0) (ed_op (ed_var rfl hoth) ed_int fun _ _ => rd_ixT at0) fun _ _ => rd_ne rfl)).to (c := true) (by rw [decide_eq_false hH]; rfl))) g (fun _ H4 g k4 => ?_) fun z => nomatch z
          have hc : clash (f a) (gg a) := by
            cases e : f a <;> rw [e] at hp hH <;> cases e2 : gg a <;> rw [e2] at hp hH <;> first | exact trivial | exact hp.elim | (exact absurd rfl hH) | (exact absurd hp hH) | (exact absurd rfl hL) | skip
            all_goals first | (exact absurd (by rw [e]; rfl) hL) | (exact absurd (by simp only [hdN]) hH)
          rw [hbF hc] at k
          exact s_ret ed_bl g k
end
end K18
set_option maxHeartbeats 4000000
/-! A pool of numbers that its drawers change; what is drawn is any of what may be drawn. -/
namespace Kd
open PySem PySem.Spec PyProof.Rows L2
/-- the pool stands at p -/
structure PoolAt (p : Addr) (G H : Hp) : Prop where
  g : G p = none
  e : ∃ (pl st : Int) (xs : List Int), H p = some (.lst (.int pl :: .int st :: xs.map V.int)) ∧ 2 ≤ pl ∧ pl ≤ xs.length + 2 ∧ 0 ≤ st ∧ st < 2147483647 ∧ (∀ x ∈ xs, 0 ≤ x ∧ x < 60) ∧ xs.length ≤ 5000
def spP (pre : List D → Prop) (R : List D → D → Prop) : Sp := fun vs H Q _ => ∃ (p : Addr) (vs' : List V) (G : Hp) (ds : List D), vs = .ref p :: vs' ∧ Same G H ∧ PoolAt p G H ∧ RpL G ds vs' ∧ pre ds ∧ ∀ d v G' H', R ds d → Gr [p] G H G' H' → PoolAt p G' H' → Rp G' d v → Q v H'
def EdP (p : Addr) (te : TE) (σ : L2.St) (G : Hp) (P : D → Prop) : Prop := ∀ H, Same G H → PoolAt p G H → ∀ Q : VK, (∀ d v G' H', P d → Gr [p] G H G' H' → PoolAt p G' H' → Rp G' d v → Q v H') → te σ H Q
def EdsP (p : Addr) (ta : TA) (σ : L2.St) (G : Hp) (P : List D → Prop) : Prop := ∀ H, Same G H → PoolAt p G H → ∀ Q : List V → Hp → Prop, (∀ ds vs G' H', P ds → Gr [p] G H G' H' → PoolAt p G' H' → RpL G' ds vs → Q vs H') → ta σ H Q
def EbP (p : Addr) (t : TT) (σ : L2.St) (G : Hp) (P : Bool → Prop) : Prop := ∀ H, Same G H → PoolAt p G H → ∀ Q : Bool → Hp → Prop, (∀ b G' H', P b → Gr [p] G H G' H' → PoolAt p G' H' → Q b H') → t σ H Q
section
variable {K : PySem.W.Frag} {σ : L2.St} {G G1 : Hp} {te ta tb tc : TE} {t u : TT} {d e z : D} {b c : Bool} {v : V} {l m p : Addr} {ds es : List D} {r : R2} {P P1 P2 P3 : D → Prop} {PB PC : Bool → Prop}
variable {M : List Addr} {G0 H0 H G' H' : Hp} {Dn : Ends} {tu tw : TS}
theorem PoolAt.kp (q : PoolAt p G H) (k : Kp G H G' H') : PoolAt p G' H' := by
  obtain ⟨pl, st, xs, e, r⟩ := q.e
  exact ⟨(k p _ e).2 q.g, pl, st, xs, (k p _ e).1, r⟩
theorem PoolAt.ne (q : PoolAt p G H) : H p ≠ none := by
  obtain ⟨pl, st, xs, e, r⟩ := q.e
  exact some_ne e
theorem PoolAt.low {Gs : Hp} (q : PoolAt p G H) (s : Same Gs G) : PoolAt p Gs H := ⟨s.free q.g, q.e⟩
theorem Gr.pl (g : Gp G H G' H') : Gr [p] G H G' H' := g.weak fun a h => by simp at h
theorem Gr.largerP {G2 H2 : Hp} (e : Same G G1) (s : Same G1 H) (n : G1 p = none) (g : Gr [p] G H G2 H2) : ∃ G3, Gr [p] G1 H G3 H2 ∧ Same G2 G3 ∧ (G2 p = none → G3 p = none) := by
  have s2 : Same G1 H2 := fun a o h => g.h a o (by simpa using ne_of_none h n) (s a o h)
  refine ⟨fun a => if (G1 a).isSome then G1 a else G2 a, ⟨g.h, g.t, fun a o h => ?_, fun a o h => ?_, fun a h1 h2 => ?_⟩, fun a o h => ?_, fun h => ?_⟩
  · show (if (G1 a).isSome then G1 a else G2 a) = some o
    rw [h]
    rfl
  · have h : (if (G1 a).isSome then G1 a else G2 a) = some o := h
    split at h
    · exact s2 a o h
    · exact g.s a o h
  · show (if (G1 a).isSome then G1 a else G2 a) = none
    rw [h1, if_neg (by simp)]
    exact g.n a (e.free h1) h2
  · show (if (G1 a).isSome then G1 a else G2 a) = some o
    split
    · rename_i w
      cases q : G1 a with
      | none => rw [q] at w; simp at w
      | some u =>
        have x1 := s2 a u q
        have x2 := g.s a o h
        rw [x1] at x2
        exact x2
    · exact h
  · show (if (G1 p).isSome then G1 p else G2 p) = none
    rw [n, if_neg (by simp)]
    exact h
theorem EdP.mono (s : Same G G1) (h : EdP p te σ G P) : EdP p te σ G1 P := fun H s1 q Q k => h H (s.trans s1) (q.low s) Q fun d v G' H' hd g hq hv =>
  let ⟨G3, g3, e3, n3⟩ := Gr.largerP s s1 q.g g
  k d v G3 H' hd g3 ⟨n3 hq.g, hq.e⟩ (hv.mono e3)
theorem EdsP.mono {tA : TA} {PP : List D → Prop} (s : Same G G1) (h : EdsP p tA σ G PP) : EdsP p tA σ G1 PP := fun H s1 q Q k => h H (s.trans s1) (q.low s) Q fun d v G' H' hd g hq hv =>
  let ⟨G3, g3, e3, n3⟩ := Gr.largerP s s1 q.g g
  k d v G3 H' hd g3 ⟨n3 hq.g, hq.e⟩ (hv.mono e3)
theorem EbP.mono (s : Same G G1) (h : EbP p t σ G PB) : EbP p t σ G1 PB := fun H s1 q Q k => h H (s.trans s1) (q.low s) Q fun b G' H' hd g hq =>
  let ⟨G3, g3, e3, n3⟩ := Gr.largerP s s1 q.g g
  k b G3 H' hd g3 ⟨n3 hq.g, hq.e⟩
theorem Ed.pl (h : Ed te σ G d) : EdP p te σ G (fun e => e = d) := fun H s q Q k => h H s Q fun v G' H' g r => k d v G' H' rfl g.pl (q.kp g.kp) r
theorem Eb.pl (h : Eb t σ G b) : EbP p t σ G (fun c => c = b) := fun H s q Q k => h H s Q fun H' g => k b G H' rfl g.pl (q.kp g.kp)
theorem EdP.to (h : EdP p te σ G P) (q : ∀ d, P d → P1 d) : EdP p te σ G P1 := fun H s hp Q k => h H s hp Q fun d v G' H' hd => k d v G' H' (q d hd)
theorem EbP.to (h : EbP p t σ G PB) (q : ∀ b, PB b → PC b) : EbP p t σ G PC := fun H s hp Q k => h H s hp Q fun b G' H' hd => k b G' H' (q b hd)
theorem edp_call {i : Nat} {pre : List D → Prop} {R : List D → D → Prop} {tr : TA} {E : XK} (hv : σ[i]? = some (some (.ref p))) (h : Eds tr σ G ds) (hp : pre ds) : EdP p (tCall (spP pre R) [] E (tCons (tVar i) tr)) σ G (R ds) := fun H s q Q k =>
  ⟨_, hv, h H s _ fun vs G1 H1 g1 r1 => ⟨p, vs, G1, ds, by rw [List.append_nil], g1.s, q.kp g1.kp, r1, hp, fun d v G2 H2 hd g2 q2 r2 => k d v G2 H2 hd (g1.pl.trans g2) q2 r2⟩⟩
theorem edp_op (ha : EdP p ta σ G P1) (hb : EdP p tb σ G P2) (hr : ∀ d e, P1 d → P2 e → ∃ z, P3 z ∧ ∀ G1, Same G G1 → Rd2 r G1 d e z) : EdP p (tOp r ta tb) σ G P3 := fun H s q Q k =>
  ha H s q _ fun d x G1 H1 hd g1 q1 r1 => hb.mono g1.g H1 g1.s q1 _ fun e y G2 H2 he g2 q2 r2 => by
    obtain ⟨z, hz, rr⟩ := hr d e hd he
    exact rr G2 (g1.g.trans g2.g) x y H2 g2.s (r1.mono g2.g) r2 Q fun v G3 H3 g3 r3 => k z v G3 H3 hz ((g1.trans g2).trans g3.pl) (q2.kp g3.kp) r3
theorem edp_cb {r : List V → Hp → VK → Prop} {tA : TA} {PP : List D → Prop} (ha : EdsP p tA σ G PP) (hr : ∀ ds, PP ds → ∃ z, P3 z ∧ ∀ G1, Same G G1 → Rdc r G1 ds z) : EdP p (tCB r tA) σ G P3 := fun H s q Q k =>
  ha H s q _ fun ds vs G1 H1 hd g1 q1 r1 => by
    obtain ⟨z, hz, rr⟩ := hr ds hd
    exact rr G1 g1.g vs H1 g1.s r1 Q fun v G3 H3 g3 r3 => k z v G3 H3 hz (g1.trans g3.pl) (q1.kp g3.kp) r3
theorem edsp_nil : EdsP p tNil σ G (fun ds => ds = []) := fun H s q Q k => k [] [] G H rfl (gr0 s) q rfl
theorem edsp_cons {tr : TA} {PP : List D → Prop} (ha : EdP p ta σ G P) (hr : EdsP p tr σ G PP) : EdsP p (tCons ta tr) σ G (fun ds => ∃ d r, ds = d :: r ∧ P d ∧ PP r) := fun H s q Q k =>
  ha H s q _ fun d x G1 H1 hd g1 q1 r1 => hr.mono g1.g H1 g1.s q1 _ fun es ys G2 H2 he g2 q2 r2 => k (d :: es) (x :: ys) G2 H2 ⟨d, es, rfl, hd, he⟩ (g1.trans g2) q2 (.cons (r1.mono g2.g) r2)
theorem edp_tup {tA : TA} {PP : List D → Prop} (ha : EdsP p tA σ G PP) (hl : ∀ ds, PP ds → ds.length ≤ 100000) : EdP p (tTup tA) σ G (fun d => ∃ ds, d = .tup ds ∧ PP ds) := fun H s q Q k =>
  ha H s q _ fun ds vs G1 H1 hd g1 q1 r1 => ⟨by rw [r1.len]; exact Nat.le_trans (hl ds hd) (by decide), fun a hn => by
    refine k (.tup ds) (.ref a) _ _ ⟨ds, rfl, hd⟩ (g1.new hn) ⟨?_, ?_⟩ (Rp.tup upd_same (r1.mono (same_frz (g1.gfree hn))))
    · rw [upd_ne (fun z => q1.ne (by rw [z]; exact hn))]; exact q1.g
    · rw [upd_ne (fun z => q1.ne (by rw [z]; exact hn))]; exact q1.e⟩
theorem edp_lst {tA : TA} {PP : List D → Prop} (ha : EdsP p tA σ G PP) (hl : ∀ ds, PP ds → ds.length ≤ 100000) : EdP p (tLst tA) σ G (fun d => ∃ ds, d = .lst ds ∧ PP ds) := fun H s q Q k =>
  ha H s q _ fun ds vs G1 H1 hd g1 q1 r1 => ⟨by rw [r1.len]; exact Nat.le_trans (hl ds hd) (by decide), fun a hn => by
    refine k (.lst ds) (.ref a) _ _ ⟨ds, rfl, hd⟩ (g1.new hn) ⟨?_, ?_⟩ (Rp.lst upd_same (r1.mono (same_frz (g1.gfree hn))))
    · rw [upd_ne (fun z => q1.ne (by rw [z]; exact hn))]; exact q1.g
    · rw [upd_ne (fun z => q1.ne (by rw [z]; exact hn))]; exact q1.e⟩
/-- so many, each of P -/
def AllP (P : D → Prop) (n : Nat) (ds : List D) : Prop := ds.length = n ∧ ∀ d ∈ ds, P d
theorem edsa_nil : EdsP p tNil σ G (AllP P 0) := fun H s q Q k => k [] [] G H ⟨rfl, fun d h => by simp at h⟩ (gr0 s) q rfl
theorem edsa_cons {tr : TA} {n : Nat} (ha : EdP p ta σ G P) (hr : EdsP p tr σ G (AllP P n)) : EdsP p (tCons ta tr) σ G (AllP P (n + 1)) := fun H s q Q k =>
  ha H s q _ fun d x G1 H1 hd g1 q1 r1 => hr.mono g1.g H1 g1.s q1 _ fun es ys G2 H2 he g2 q2 r2 => k (d :: es) (x :: ys) G2 H2 ⟨by rw [List.length_cons, he.1], fun e h => by
    rcases List.mem_cons.mp h with h | h
    · rw [h]; exact hd
    · exact he.2 e h⟩ (g1.trans g2) q2 (.cons (r1.mono g2.g) r2)
/-- one thing, drawn, in a list; two in a tuple -/
theorem edp_lst1 (ha : EdP p ta σ G P) : EdP p (tLst (tCons ta tNil)) σ G (fun d => ∃ x, d = .lst [x] ∧ P x) :=
  (edp_lst (edsp_cons ha edsp_nil) fun ds ⟨d, r, h, _, h2⟩ => by rw [h, h2]; exact Nat.le_of_ble_eq_true rfl).to fun d ⟨ds, h, x, r, h2, h3, h4⟩ => ⟨x, by rw [h, h2, h4], h3⟩
theorem edp_tup2 (ha : EdP p ta σ G P) (hb : EdP p tb σ G P1) : EdP p (tTup (tCons ta (tCons tb tNil))) σ G (fun d => ∃ x y, d = .tup [x, y] ∧ P x ∧ P1 y) :=
  (edp_tup (edsp_cons ha (edsp_cons hb edsp_nil)) fun ds ⟨d, r, h, _, d2, r2, h2, _, h3⟩ => by rw [h, h2, h3]; exact Nat.le_of_ble_eq_true rfl).to fun d ⟨ds, h, x, r, h2, h3, y, r2, h4, h5, h6⟩ => ⟨x, y, by rw [h, h2, h4, h6], h3, h5⟩
theorem edp_lst2 (ha : EdP p ta σ G P) (hb : EdP p tb σ G P1) : EdP p (tLst (tCons ta (tCons tb tNil))) σ G (fun d => ∃ x y, d = .lst [x, y] ∧ P x ∧ P1 y) :=
  (edp_lst (edsp_cons ha (edsp_cons hb edsp_nil)) fun ds ⟨d, r, h, _, d2, r2, h2, _, h3⟩ => by rw [h, h2, h3]; exact Nat.le_of_ble_eq_true rfl).to fun d ⟨ds, h, x, r, h2, h3, y, r2, h4, h5, h6⟩ => ⟨x, y, by rw [h, h2, h4, h6], h3, h5⟩
theorem edp_if (ht : EbP p t σ G PB) (h1 : PB true → EdP p ta σ G P) (h2 : PB false → EdP p tb σ G P) : EdP p (tIf t ta tb) σ G P := fun H s q Q k => ht H s q _ fun b G1 H1 hb g1 q1 => by
  cases b with
  | true =>
    show ta σ H1 Q
    exact (h1 hb).mono g1.g H1 g1.s q1 Q fun d v G2 H2 hd g2 q2 r2 => k d v G2 H2 hd (g1.trans g2) q2 r2
  | false =>
    show tb σ H1 Q
    exact (h2 hb).mono g1.g H1 g1.s q1 Q fun d v G2 H2 hd g2 q2 r2 => k d v G2 H2 hd (g1.trans g2) q2 r2
theorem ebp_test (h : EdP p te σ G (fun d => ∃ b, d = .bl b ∧ PB b)) : EbP p (tTest te) σ G PB := fun H s q Q k => h H s q _ fun d v G' H' hd g hq r => by
  obtain ⟨b, rfl, hb⟩ := hd
  exact ⟨b, r, k b G' H' hb g hq⟩
theorem ebp_and (h1 : EbP p t σ G PB) (h2 : PB true → EbP p u σ G PC) (h3 : PB false → PC false) : EbP p (tAnd t u) σ G PC := fun H s q Q k => h1 H s q _ fun b G1 H1 hb g1 q1 => by
  cases b with
  | true =>
    show u σ H1 Q
    exact (h2 hb).mono g1.g H1 g1.s q1 Q fun c G2 H2 hc g2 q2 => k c G2 H2 hc (g1.trans g2) q2
  | false =>
    show Q false H1
    exact k false G1 H1 (h3 hb) g1 q1
theorem ixN0 {n : Nat} (h : 0 < n) : ixN n 0 = some 0 := by
  unfold ixN
  rw [if_pos (by omega), if_pos (by omega)]
  rfl
theorem ixN1 {n : Nat} (h : 1 < n) : ixN n 1 = some 1 := by
  unfold ixN
  rw [if_pos (by omega), if_pos (by omega)]
  rfl
/-! reading a list that is not frozen for a number -/
theorem edh_of {vs : List V} (hg : G l = none) (he : H l = some (.lst vs)) (hr : RpL G ds vs) (s0 : Same G H) (hs : scl d = true) (h : ∀ Gx, Same G Gx → Rp Gx (.lst ds) (.ref l) → Ed te σ Gx d) : EdH te σ G H d := fun Q q => by
  have s : Same G (upd G l (.lst vs)) := same_frz hg
  refine h _ s ⟨l, vs, rfl, upd_same, hr.mono s⟩ H (fun a x q => ?_) Q fun v G' H' g' r' => q v G H' ⟨g'.h, g'.t, Same.refl _, s0.trans g'.e, fun _ z _ => z⟩ (r'.scl hs)
  by_cases z : a = l
  · rw [z] at q ⊢
    rw [upd_same] at q
    rw [he]
    exact q
  · rw [upd_ne z] at q
    exact s0 a x q
theorem s_setH {i : Nat} (h : EdH te σ G H d) (g : Gr M G0 H0 G H) (k : ∀ v G' H', Gr M G0 H0 G' H' → Same G G' → Kp G H G' H' → Rp G' d v → Dn.nx (σ.set i (some v)) H') : tAsg te (gName i) Dn σ H := h _ fun v G' H' g1 r => k v G' H' (g.call g1) g1.g g1.kp r
theorem s_retH (h : EdH te σ G H d) (g : Gr M G0 H0 G H) (k : ∀ v G' H', Gr M G0 H0 G' H' → Same G G' → Kp G H G' H' → Rp G' d v → Dn.rt v H') : tRet te Dn σ H := h _ fun v G' H' g1 r => k v G' H' (g.call g1) g1.g g1.kp r
theorem s_ifD (h : EdH te σ G H (.bl b)) (g : Gr M G0 H0 G H) (h1 : b = true → ∀ H', Gr M G0 H0 G H' → Kp G H G H' → tu Dn σ H') (h2 : b = false → ∀ H', Gr M G0 H0 G H' → Kp G H G H' → tw Dn σ H') : tIfS (tTest te) tu tw Dn σ H := s_ifH (fun Q q => h _ fun v G' H' g1 r => ⟨b, r, q H' g1.same⟩) g h1 h2
/-- l[i] = e, l not frozen -/
theorem s_put {i : Nat} {ti : TE} {vs : List V} {n : Int} {j : Nat} (hv : σ[i]? = some (some (.ref l))) (h : EdH te σ G H d) (he : H l = some (.lst vs)) (hg : G l = none) (g : Gr M G0 H0 G H) (hi : ∀ Q : VK, ∀ H', Q (.int n) H' → ti σ H' Q) (hn : ixN vs.length n = some j)
    (k : ∀ v G' H', Gr M G0 H0 G' H' → Same G G' → Kp G H G' H' → Rp G' d v → H' l = some (.lst vs) → G' l = none → Dn.nx σ (upd H' l (.lst (vs.set j v)))) : tAsg te (gSub (tVar i) ti rSetL) Dn σ H := h _ fun v G' H' g1 r =>
  ⟨_, hv, hi _ _ ⟨l, vs, n, j, rfl, rfl, g1.e l _ he, hn, k v G' H' (g.call g1) g1.g g1.kp r (g1.e l _ he) (g1.n l hg (some_ne he))⟩⟩
/-! statements -/
theorem Gr.callP (a : Gr M G0 H0 G H) (b : Gr [p] G H G' H') (h : p ∈ M) : Gr M G0 H0 G' H' := a.trans (b.weak fun x hx => by rw [List.mem_singleton.mp hx]; exact h)
theorem Own.callP (o : Own H0 G H l ds) (b : Gr [p] G H G' H') (h : H0 p ≠ none) : Own H0 G' H' l ds := o.callOwn b fun z => h (by rw [← z]; exact o.h0)
theorem p_set {i : Nat} (h : EdP p te σ G P) (g : Gr M G0 H0 G H) (hM : p ∈ M) (q : PoolAt p G H) (k : ∀ d v G' H', P d → Gr M G0 H0 G' H' → Same G G' → Gr [p] G H G' H' → PoolAt p G' H' → Rp G' d v → Dn.nx (σ.set i (some v)) H') : tAsg te (gName i) Dn σ H := h H g.s q _ fun d v G' H' hd g1 q1 r => k d v G' H' hd (g.callP g1 hM) g1.g g1 q1 r
theorem p_ret (h : EdP p te σ G P) (g : Gr M G0 H0 G H) (hM : p ∈ M) (q : PoolAt p G H) (k : ∀ d v G' H', P d → Gr M G0 H0 G' H' → PoolAt p G' H' → Rp G' d v → Dn.rt v H') : tRet te Dn σ H := h H g.s q _ fun d v G' H' hd g1 q1 r => k d v G' H' hd (g.callP g1 hM) q1 r
theorem p_if (h : EbP p t σ G PB) (g : Gr M G0 H0 G H) (hM : p ∈ M) (q : PoolAt p G H) (h1 : PB true → ∀ G' H', Gr M G0 H0 G' H' → Same G G' → Gr [p] G H G' H' → PoolAt p G' H' → tu Dn σ H') (h2 : PB false → ∀ G' H', Gr M G0 H0 G' H' → Same G G' → Gr [p] G H G' H' → PoolAt p G' H' → tw Dn σ H') : tIfS t tu tw Dn σ H := h H g.s q _ fun b G1 H1 hb g1 q1 => by
  cases b with
  | true =>
    show tu Dn σ H1
    exact h1 hb G1 H1 (g.callP g1 hM) g1.g g1 q1
  | false =>
    show tw Dn σ H1
    exact h2 hb G1 H1 (g.callP g1 hM) g1.g g1 q1
/-- xs.append(e), e drawn -/
theorem p_append {i : Nat} (hv : σ[i]? = some (some (.ref l))) (he : EdP p te σ G P) (g : Gr M G0 H0 G H) (hM : p ∈ M) (hp : H0 p ≠ none) (q : PoolAt p G H) (o : Own H0 G H l ds) (hl : ds.length < 100000)
    (k : ∀ d G' H', P d → Gr M G0 H0 G' H' → Same G G' → PoolAt p G' H' → Own H0 G' H' l (ds ++ [d]) → (∀ m es, m ≠ l → Own H0 G H m es → Own H0 G' H' m es) → Dn.nx σ H') : tDrop (tBM K "list" rAppend (tVar i) (tCons te tNil)) Dn σ H := by
  obtain ⟨vs0, e0, _⟩ := o.e
  refine ⟨_, hv, .inl ⟨rfl, _, SqL.of e0⟩, he H g.s q _ fun d v G1 H1 hd g1 q1 r1 => ?_⟩
  have o1 := o.callP g1 hp
  obtain ⟨vs, e, r, hlen⟩ := o1.len
  refine ⟨l, vs, v, rfl, rfl, e, by rw [hlen]; exact Nat.lt_of_lt_of_le hl (by decide), ?_⟩
  have npl : p ≠ l := fun z => hp (by rw [z]; exact o.h0)
  refine k d G1 _ hd ((g.callP g1 hM).mut o1.g o1.h0) g1.g ⟨q1.g, ?_⟩ (o1.set (r.snoc r1)) fun m es n o' => (o'.callP g1 hp).upd n
  rw [upd_ne npl]
  exact q1.e
/-- for .. in range(e), e drawn -/
theorem p_forR {gt : TG} (h : EdP p te σ G P) (g : Gr M G0 H0 G H) (hM : p ∈ M) (q : PoolAt p G H) (hP : ∀ d, P d → ∃ n : Int, d = .int n)
    (k : ∀ (n : Int) G' H', P (.int n) → Gr M G0 H0 G' H' → Same G G' → Gr [p] G H G' H' → PoolAt p G' H' → tFor (iRng1 (tCons (tC (.int n)) tNil)) gt tu Dn σ H') : tFor (iRng1 (tCons te tNil)) gt tu Dn σ H := h H g.s q _ fun d v G' H' hd g1 q1 r => by
  obtain ⟨n, rfl⟩ := hP d hd
  cases (show v = .int n from r)
  exact k n G' H' hd (g.callP g1 hM) g1.g g1 q1
end
end Kd
set_option maxHeartbeats 4000000
namespace K18
open PySem PySem.Spec PyProof.Rows L2 Kd
section
variable {P : Program} {w : World} {K : PySem.W.Frag} {mg : Str → Option Value} {base : Heap}
def pMany : List D → Prop := fun ds => ∃ m : Int, ds = [.int m] ∧ 0 < m
def rMany : List D → D → Prop := fun ds d => ∃ m r : Int, ds = [.int m] ∧ d = .int r ∧ 0 ≤ r ∧ r < m
abbrev N_law_pick : List Str := ["pool", "many", "place"]
theorem sc_law_pick : FnScope ["pool", "many", "place"] ["pool", "many"] (defScope s_law_pick) := ⟨rfl, rfl, rfl, by decide +kernel, rfl, by decide +kernel, by decide +kernel⟩
theorem ok_law_pick (T : Tx K mg) : Good P w K mg base CX0 "_law_pick" 2 ["pool", "many"] (spP pMany rMany) := by
  obtain ⟨fd, F⟩ := T.f__law_pick
  refine ⟨T.m__law_pick, F.kp, fd, ?_, F.bindsN fun _ _ _ _ _ _ us hl => match us, hl with | [_, _], _ => rfl⟩
  refine F.ok sc_law_pick (fun vs H Q E h => ?_) (fun cdv A outer s H vs Q E hr h => ?_)
  · obtain ⟨p, vs', G, ds, rfl, _, _, r, ⟨m, rfl, _⟩, _⟩ := h
    show _ + 1 = _
    rw [r.len]
    rfl
  · obtain ⟨p, vs', G, ds, rfl, s0, hq, r, ⟨m, rfl, hm⟩, k⟩ := h
    obtain ⟨v2, _, rfl, r_many, rfl⟩ := r
    cases (show v2 = .int m from r_many)
    obtain ⟨pl, st, xs, hp, h2, h3, h4, h5, h6, h7⟩ := hq.e
    refine ⟨_, PSs.nox ((pss_cons (ps_set (i := 2) sc_law_pick.nd rfl (Or.inl rfl) (pe_ix ix_list (pv 0) pe_int (fun _ _ => rfl)))
    (pss_cons (ps_if (pt_cmpR op_lt (pv 2) (pe_callB call_len_seq (by rfl) T.n_len PySem.boot_len (pa_cons (pv 0) pa_nil)) (nomark _)) (pss_cons (ps_asg (pe_op op_add (pv 2) pe_int) (pg_sub (pv 0) pe_int set_list))
    (pss_one (ps_ret (pe_op op_mod (pe_callTy call_int1 (by rfl) T.n_int (by decide +kernel) (pa_cons (pe_ix ix_list (pv 0) (pv 2) (fun _ _ => rfl)) pa_nil)) (pv 1))))) pss_nil)
    (pss_cons (ps_asg (pe_op op_mod (pe_callTy call_int1 (by rfl) T.n_int (by decide +kernel) (pa_cons (pe_op op_add (pe_op op_mul (pe_ix ix_list (pv 0) pe_int (fun _ _ => rfl)) pe_int) pe_int) pa_nil)) pe_int) (pg_sub (pv 0) pe_int set_list))
    (pss_one (ps_ret (pe_op op_mod (pe_callTy call_int1 (by rfl) T.n_int (by decide +kernel) (pa_cons (pe_op op_fdiv (pe_ix ix_list (pv 0) pe_int (fun _ _ => rfl)) pe_int) pa_nil)) (pv 1)))))))), ?_⟩
    have g := gr0 (M := [p]) s0
    have hr : RpL G ((.int pl :: .int st :: xs.map D.int)) ((.int pl :: .int st :: xs.map V.int)) := .cons rfl (.cons rfl (RpL.ints xs))
    refine s_setH (d := .int pl) (edh_of hq.g hp hr s0 rfl fun Gx s rx => ed_op (ed_var rfl rx) ed_int fun _ _ => rd_ixL at0) g fun v G1 H1 g s1 k1 r_place => ?_
    cases (show v = .int pl from r_place)
    have hg := (k1 p _ hp).2 hq.g
    have hp := (k1 p _ hp).1
    have hr := hr.mono s1
    refine s_ifD (b := decide (pl < ((pl :: st :: xs).length : Nat))) (edh_of hg hp hr g.s rfl fun Gx s rx => (ed_op (ed_var rfl (show Rp Gx (.int pl) (.int pl) from rfl)) (ed_lenL (ed_var rfl rx)) fun _ _ => rd_I0b).to (by simp)) g (fun hb H2 g k2 => ?_) fun hb H2 g k2 => ?_
    · have hp := (k2 p _ hp).1
      have hb : pl < ((pl :: st :: xs).length : Nat) := of_decide_eq_true hb
      refine s_put (d := .int (pl + 1)) (n := 0) (j := 0) rfl (fun Q q => (ed_op (ed_var rfl (show Rp G1 (.int pl) (.int pl) from rfl)) ed_int fun _ _ => rd_I0i : Ed _ _ G1 (.int (pl + 1))) H2 g.s Q q) hp hg g (fun Q H' q => q) (ixN0 (by simp)) fun v G3 H3 g s3 k3 r3 hp hg => ?_
      cases (show v = .int (pl + 1) from r3)
      have g := g.put (l := p) (o := .lst ((V.int pl :: .int st :: xs.map V.int).set 0 (.int (pl + 1)))) (by simp) hg
      have hlen : (pl : Int) + 1 ≤ xs.length + 2 := by simp at hb; omega
      obtain ⟨j, hj⟩ := Int.eq_ofNat_of_zero_le (show 0 ≤ pl - 2 by omega)
      have hjl : j < xs.length := by simp at hb; omega
      have hat : atI (.int (pl + 1) :: .int st :: xs.map D.int) pl = some (.int xs[j]) := by
        have e : pl = ((j + 2 : Nat) : Int) := by omega
        rw [e]
        refine atI_nat ?_
        simp [hjl]
      have hx := h6 xs[j] (List.getElem_mem hjl)
      have hr' : RpL G3 (.int (pl + 1) :: .int st :: xs.map D.int) (.int (pl + 1) :: .int st :: xs.map V.int) := .cons rfl (.cons rfl (RpL.ints xs))
      refine s_retH (d := .int (xs[j] % m)) (edh_of hg upd_same hr' g.s rfl fun Gx s rx => ed_op (ed_int1 (ed_op (ed_var rfl rx) (ed_var rfl (show Rp Gx (.int pl) (.int pl) from rfl)) fun _ _ => rd_ixL hat)) (ed_var rfl (show Rp Gx (.int m) (.int m) from rfl)) fun _ _ => rd_Ii hm) g fun v G4 H4 g s4 k4 r4 => ?_
      refine k _ v G4 H4 ⟨m, _, rfl, rfl, Int.emod_nonneg _ (by omega), Int.emod_lt_of_pos _ hm⟩ g ⟨(k4 p _ upd_same).2 hg, pl + 1, st, xs, (k4 p _ upd_same).1, by omega, hlen, h4, h5, h6, h7⟩ r4
    · dsimp only
      have hp := (k2 p _ hp).1
      have hb : ¬ pl < ((pl :: st :: xs).length : Nat) := of_decide_eq_false hb
      have hst : 0 ≤ (st * 48271 + 11) % 2147483647 ∧ (st * 48271 + 11) % 2147483647 < 2147483647 := ⟨Int.emod_nonneg _ (by decide), Int.emod_lt_of_pos _ (by decide)⟩
      refine s_put (d := .int ((st * 48271 + 11) % 2147483647)) (n := 1) (j := 1) rfl (edh_of hg hp hr g.s rfl fun Gx s rx => ed_op (ed_int1 (ed_op (ed_op (ed_op (ed_var rfl rx) ed_int fun _ _ => rd_ixL at1) ed_int fun _ _ => rd_Ii (.inr ⟨by decide, by decide⟩)) ed_int fun _ _ => rd_I0i)) ed_int fun _ _ => rd_Ii (by decide)) hp hg g (fun Q H' q => q) (ixN1 (by simp)) fun v G3 H3 g s3 k3 r3 hp hg => ?_
      generalize (st * 48271 + 11) % 2147483647 = st' at r3 hst
      cases (show v = .int st' from r3)
      have g := g.put (l := p) (o := .lst ((V.int pl :: .int st :: xs.map V.int).set 1 (.int st'))) (by simp) hg
      have hr' : RpL G3 (.int pl :: .int st' :: xs.map D.int) (.int pl :: .int st' :: xs.map V.int) := .cons rfl (.cons rfl (RpL.ints xs))
      refine s_retH (d := .int (st' / 97 % m)) (edh_of hg upd_same hr' g.s rfl fun Gx s rx => ed_op (ed_int1 (ed_op (ed_op (ed_var rfl rx) ed_int fun _ _ => rd_ixL at1) ed_int fun _ _ => rd_Ii ⟨by decide, by decide⟩)) (ed_var rfl (show Rp Gx (.int m) (.int m) from rfl)) fun _ _ => rd_Ii hm) g fun v G4 H4 g s4 k4 r4 => ?_
      refine k _ v G4 H4 ⟨m, _, rfl, rfl, Int.emod_nonneg _ (by omega), Int.emod_lt_of_pos _ hm⟩ g ⟨(k4 p _ upd_same).2 hg, pl, st', xs, (k4 p _ upd_same).1, by omega, by simp at hb ⊢; omega, hst.1, hst.2, h6, h7⟩ r4
end
end K18
set_option maxHeartbeats 4000000
namespace K18
open PySem PySem.Spec PyProof.Rows L2 Kd
section
variable {P : Program} {w : World} {K : PySem.W.Frag} {mg : Str → Option Value} {base : Heap}
theorem edp_pick {σ : L2.St} {G : Hp} {p : Addr} {i : Nat} {te : TE} {E : XK} {m : Int} (hv : σ[i]? = some (some (.ref p))) (h : Ed te σ G (.int m)) (hm : 0 < m) : EdP p (tCall (spP pMany rMany) [] E (tCons (tVar i) (tCons te tNil))) σ G (fun d => ∃ r : Int, d = .int r ∧ 0 ≤ r ∧ r < m) :=
  (edp_call hv (eds_cons h eds_nil) ⟨m, rfl, hm⟩).to fun d ⟨m', r, e, e2, h0, h1⟩ => by
    cases e
    exact ⟨r, e2, h0, h1⟩
theorem rdc_int1 {G : Hp} {i : Int} : Rdc (fun xs H Q => (∃ i, xs = [.int i] ∧ Q (.int i) H) ∨ ∃ k, xs = [.bl k] ∧ Q (.int (if k then 1 else 0)) H) G [.int i] (.int i) := fun xs H s r Q q => by
  obtain ⟨v, _, rfl, h, rfl⟩ := r
  cases (show v = .int i from h)
  exact .inl ⟨i, rfl, q _ G H (gr0 s) rfl⟩
abbrev N_law_wide : List Str := ["pool", "many"]
theorem sc_law_wide : FnScope ["pool", "many"] ["pool", "many"] (defScope s_law_wide) := ⟨rfl, rfl, rfl, by decide +kernel, rfl, by decide +kernel, by decide +kernel⟩
theorem ok_law_wide (T : Tx K mg) : Good P w K mg base CX0 "_law_wide" 3 ["pool", "many"] (spP pMany rMany) := by
  obtain ⟨fd, F⟩ := T.f__law_wide
  refine ⟨T.m__law_wide, F.kp, fd, ?_, F.bindsN fun _ _ _ _ _ _ us hl => match us, hl with | [_, _], _ => rfl⟩
  have G_law_pick := ok_law_pick (P := P) (w := w) (base := base) T
  refine F.ok sc_law_wide (fun vs H Q E h => ?_) (fun cdv A outer s H vs Q E hr h => ?_)
  · obtain ⟨p, vs', G, ds, rfl, _, _, r, ⟨m, rfl, _⟩, _⟩ := h
    show _ + 1 = _
    rw [r.len]
    rfl
  · obtain ⟨p, vs', G, ds, rfl, s0, hq, r, ⟨m, rfl, hm⟩, k⟩ := h
    obtain ⟨v2, _, rfl, r_many, rfl⟩ := r
    refine ⟨_, PSs.nox ((pss_one (ps_ret (pe_op op_mod (pe_callTy call_int1 (by rfl) T.n_int (by decide +kernel) (pa_cons (pe_op op_add (pe_op op_mul (pe_g G_law_pick (hr.mono (by decide)) (pa_cons (pv 0) (pa_cons pe_int pa_nil))) pe_int) (pe_g G_law_pick (hr.mono (by decide)) (pa_cons (pv 0) (pa_cons pe_int pa_nil)))) pa_nil)) (pv 1))))), ?_⟩
    have g := gr0 (M := [p]) s0
    refine p_ret (P := fun d => ∃ r : Int, d = .int r ∧ 0 ≤ r ∧ r < m) (edp_op (edp_cb (P3 := fun d => ∃ r : Int, d = .int r) (edsp_cons (edp_op (P3 := fun d => ∃ r : Int, d = .int r) (edp_op (P3 := fun d => ∃ r : Int, d = .int r) (edp_pick rfl ed_int (by decide)) (Ed.pl ed_int) ?_) (edp_pick rfl ed_int (by decide)) ?_) edsp_nil) ?_) (Ed.pl (ed_var rfl r_many)) ?_) g (by simp) hq fun d v G' H' ⟨r, e, h0, h1⟩ g q rr => k d v G' H' ⟨m, r, rfl, e, h0, h1⟩ g q rr
    · rintro d e ⟨r, rfl, _⟩ rfl
      exact ⟨_, ⟨_, rfl⟩, fun _ _ => rd_Ii (.inr ⟨by decide, by decide⟩)⟩
    · rintro d e ⟨r, rfl⟩ ⟨q, rfl, _⟩
      exact ⟨_, ⟨_, rfl⟩, fun _ _ => rd_I0i⟩
    · rintro ds ⟨d, r, rfl, ⟨x, rfl⟩, rfl⟩
      exact ⟨_, ⟨x, rfl⟩, fun _ _ => rdc_int1⟩
    · rintro d e ⟨r, rfl⟩ rfl
      exact ⟨_, ⟨_, rfl, Int.emod_nonneg _ (by omega), Int.emod_lt_of_pos _ hm⟩, fun _ _ => rd_Ii hm⟩
theorem edp_wide {σ : L2.St} {G : Hp} {p : Addr} {i : Nat} {te : TE} {E : XK} {m : Int} (hv : σ[i]? = some (some (.ref p))) (h : Ed te σ G (.int m)) (hm : 0 < m) : EdP p (tCall (spP pMany rMany) [] E (tCons (tVar i) (tCons te tNil))) σ G (fun d => ∃ r : Int, d = .int r ∧ 0 ≤ r ∧ r < m) := edp_pick hv h hm
/-- one of a written list -/
theorem edp_oneOf {σ : L2.St} {G : Hp} {p : Addr} {i : Nat} {te ta : TE} {E : XK} {m : Int} {ds : List D} (hv : σ[i]? = some (some (.ref p))) (hl : Ed ta σ G (.lst ds)) (h : Ed te σ G (.int m)) (hm : 0 < m) (hlen : (ds.length : Int) = m) :
    EdP p (tOp (rIxL K) ta (tCall (spP pMany rMany) [] E (tCons (tVar i) (tCons te tNil)))) σ G (fun d => d ∈ ds) :=
  edp_op (Ed.pl hl) (edp_pick hv h hm) fun d e hd he => by
    subst hd
    obtain ⟨r, rfl, h0, h1⟩ := he
    obtain ⟨j, rfl⟩ := Int.eq_ofNat_of_zero_le h0
    have hj : j < ds.length := by omega
    exact ⟨ds[j], List.getElem_mem hj, fun _ _ => rd_ixL (atI_nat (by simp [hj]))⟩
def rNum : List D → D → Prop := fun ds d => ∃ n : Int, d = .int n ∧ 0 ≤ n ∧ n ≤ 10 ^ 18
abbrev N_law_number : List Str := ["pool"]
theorem sc_law_number : FnScope ["pool"] ["pool"] (defScope s_law_number) := ⟨rfl, rfl, rfl, by decide +kernel, rfl, by decide +kernel, by decide +kernel⟩
theorem ok_law_number (T : Tx K mg) : Good P w K mg base CX0 "_law_number" 3 ["pool"] (spP (fun ds => ds = []) rNum) := by
  obtain ⟨fd, F⟩ := T.f__law_number
  refine ⟨T.m__law_number, F.kp, fd, ?_, F.bindsN fun _ _ _ _ _ _ us hl => match us, hl with | [_], _ => rfl⟩
  have G_law_pick := ok_law_pick (P := P) (w := w) (base := base) T
  refine F.ok sc_law_number (fun vs H Q E h => ?_) (fun cdv A outer s H vs Q E hr h => ?_)
  · obtain ⟨p, vs', G, ds, rfl, _, _, r, rfl, _⟩ := h
    show _ + 1 = _
    rw [r.len]
    rfl
  · obtain ⟨p, vs', G, ds, rfl, s0, hq, r, rfl, k⟩ := h
    cases r
    refine ⟨_, PSs.nox ((pss_one (ps_ret (pe_ix ix_list (pe_lst (pa_cons pe_int (pa_cons pe_int (pa_cons pe_int (pa_cons pe_int (pa_cons pe_int (pa_cons pe_int (pa_cons pe_int (pa_cons (pe_op op_pow pe_int pe_int) pa_nil))))))))) (pe_g G_law_pick (hr.mono (by decide)) (pa_cons (pv 0) (pa_cons pe_int pa_nil))) (fun _ _ => rfl))))), ?_⟩
    refine p_ret (edp_oneOf (ds := [.int 0, .int 0, .int 1, .int 1, .int 2, .int 3, .int 60, .int (10 ^ 18)]) rfl (ed_lst (eds_cons ed_int (eds_cons ed_int (eds_cons ed_int (eds_cons ed_int (eds_cons ed_int (eds_cons ed_int (eds_cons ed_int (eds_cons ((ed_op ed_int ed_int fun _ _ => rd_Ii ⟨by decide, by decide, by decide⟩).to rfl) eds_nil)))))))) (Nat.le_of_ble_eq_true rfl)) ed_int (by decide) (by rfl)) (gr0 (M := [p]) s0) (by simp) hq fun d v G' H' hd g q rr => k d v G' H' ?_ g q rr
    simp only [List.mem_cons, List.not_mem_nil, or_false] at hd
    rcases hd with rfl | rfl | rfl | rfl | rfl | rfl | rfl | rfl <;> exact ⟨_, rfl, by decide, by decide⟩
theorem edp_num {σ : L2.St} {G : Hp} {p : Addr} {i : Nat} {E : XK} (hv : σ[i]? = some (some (.ref p))) : EdP p (tCall (spP (fun ds => ds = []) rNum) [] E (tCons (tVar i) tNil)) σ G (fun d => ∃ n : Int, d = .int n ∧ 0 ≤ n ∧ n ≤ 10 ^ 18) := edp_call hv eds_nil rfl
def sortD : D → Int
  | .non => 0 | .bl true => 1 | .bl false => 2 | .int _ => 3 | .str _ => 4 | .tup _ => 5 | .lst _ => 6 | .dct => 7
def rSort : List D → D → Prop := fun ds d => ∃ x, ds = [x] ∧ d = .int (sortD x)
abbrev N_law_sort : List Str := ["value"]
theorem sc_law_sort : FnScope ["value"] ["value"] (defScope s_law_sort) := ⟨rfl, rfl, rfl, by decide +kernel, rfl, by decide +kernel, by decide +kernel⟩
theorem ok_law_sort (T : Tx K mg) : Good P w K mg base CX0 "_law_sort" 2 ["value"] (spRel rSort) := by
  obtain ⟨fd, F⟩ := T.f__law_sort
  refine ⟨T.m__law_sort, F.kp, fd, ?_, F.bindsN fun _ _ _ _ _ _ us hl => match us, hl with | [_], _ => rfl⟩
  refine F.ok sc_law_sort (fun vs H Q E h => ?_) (fun cdv A outer s H vs Q E hr h => ?_)
  · obtain ⟨G, ds, d, _, r, ⟨x, rfl, _⟩, _⟩ := h
    exact r.len
  · obtain ⟨G, ds, d, s0, r, ⟨x, rfl, rfl⟩, k⟩ := h
    obtain ⟨v1, _, rfl, r_value, rfl⟩ := r
    refine ⟨_, PSs.nox ((pss_cons (ps_if (pt_cmpR op_isN (pv 0) pe_non (nomark _)) (pss_one (ps_ret pe_int)) pss_nil)
    (pss_cons (ps_if (pt_cmpR op_isTF (pv 0) pe_bl (nomark _)) (pss_one (ps_ret pe_int)) pss_nil)
    (pss_cons (ps_if (pt_cmpR op_isTF (pv 0) pe_bl (nomark _)) (pss_one (ps_ret pe_int)) pss_nil)
    (pss_cons (ps_if (pt_val (pe_callB call_isi (by rfl) T.n_isinstance (by decide +kernel) (pa_cons (pv 0) (pa_cons (pe_bltn (v := .ty "int") rfl T.n_int (by decide +kernel) rfl) pa_nil)))) (pss_one (ps_ret pe_int)) pss_nil)
    (pss_cons (ps_if (pt_val (pe_callB call_isi (by rfl) T.n_isinstance (by decide +kernel) (pa_cons (pv 0) (pa_cons (pe_bltn (v := .ty "str") rfl T.n_str (by decide +kernel) rfl) pa_nil)))) (pss_one (ps_ret pe_int)) pss_nil)
    (pss_cons (ps_if (pt_val (pe_callB call_isi (by rfl) T.n_isinstance (by decide +kernel) (pa_cons (pv 0) (pa_cons (pe_bltn (v := .ty "tuple") rfl T.n_tuple (by decide +kernel) rfl) pa_nil)))) (pss_one (ps_ret pe_int)) pss_nil)
    (pss_cons (ps_if (pt_val (pe_callB call_isi (by rfl) T.n_isinstance (by decide +kernel) (pa_cons (pv 0) (pa_cons (pe_bltn (v := .ty "list") rfl T.n_list (by decide +kernel) rfl) pa_nil)))) (pss_one (ps_ret pe_int)) pss_nil)
    (pss_one (ps_ret (pe_ifExp (pt_val (pe_callB call_isi (by rfl) T.n_isinstance (by decide +kernel) (pa_cons (pv 0) (pa_cons (pe_bltn (v := .ty "dict") rfl T.n_dict (by decide +kernel) rfl) pa_nil)))) pe_int pe_int))))))))))), ?_⟩
    have g := gr0 (M := []) s0
    cases x with
    | non => exact s_ifT (eb_test (ed_op (ed_var rfl r_value) ed_non fun _ _ => rd_isN)) g fun H1 g => s_ret ed_int g k
    | bl b =>
      refine s_ifF (eb_test (ed_op (ed_var rfl r_value) ed_non fun _ _ => rd_isN)) g fun H1 g => ?_
      cases b with
      | true => exact s_ifT (eb_test (ed_op (ed_var rfl r_value) ed_bl fun _ _ => rd_isTF)) g fun H1 g => s_ret ed_int g k
      | false =>
        refine s_ifF (eb_test (ed_op (ed_var rfl r_value) ed_bl fun _ _ => rd_isTF)) g fun H1 g => ?_
        exact s_ifT (eb_test (ed_op (ed_var rfl r_value) ed_bl fun _ _ => rd_isTF)) g fun H1 g => s_ret ed_int g k
    | int i =>
      refine s_ifF (eb_test (ed_op (ed_var rfl r_value) ed_non fun _ _ => rd_isN)) g fun H1 g => ?_
      refine s_ifF (eb_test (ed_op (ed_var rfl r_value) ed_bl fun _ _ => rd_isTF)) g fun H1 g => ?_
      refine s_ifF (eb_test (ed_op (ed_var rfl r_value) ed_bl fun _ _ => rd_isTF)) g fun H1 g => ?_
      exact s_ifT (eb_B (ed_isInt (ed_var rfl r_value))) g fun H1 g => s_ret ed_int g k
    | str i =>
      refine s_ifF (eb_test (ed_op (ed_var rfl r_value) ed_non fun _ _ => rd_isN)) g fun H1 g => ?_
      refine s_ifF (eb_test (ed_op (ed_var rfl r_value) ed_bl fun _ _ => rd_isTF)) g fun H1 g => ?_
      refine s_ifF (eb_test (ed_op (ed_var rfl r_value) ed_bl fun _ _ => rd_isTF)) g fun H1 g => ?_
      refine s_ifF (eb_B (ed_isInt (ed_var rfl r_value))) g fun H1 g => ?_
      exact s_ifT (eb_B (ed_isStr (ed_var rfl r_value))) g fun H1 g => s_ret ed_int g k
    | tup i =>
      refine s_ifF (eb_test (ed_op (ed_var rfl r_value) ed_non fun _ _ => rd_isN)) g fun H1 g => ?_
      refine s_ifF (eb_test (ed_op (ed_var rfl r_value) ed_bl fun _ _ => rd_isTF)) g fun H1 g => ?_
      refine s_ifF (eb_test (ed_op (ed_var rfl r_value) ed_bl fun _ _ => rd_isTF)) g fun H1 g => ?_
      refine s_ifF (eb_B (ed_isInt (ed_var rfl r_value))) g fun H1 g => ?_
      refine s_ifF (eb_B (ed_isStr (ed_var rfl r_value))) g fun H1 g => ?_
      exact s_ifT (eb_B (ed_isTup (ed_var rfl r_value))) g fun H1 g => s_ret ed_int g k
    | lst i =>
      refine s_ifF (eb_test (ed_op (ed_var rfl r_value) ed_non fun _ _ => rd_isN)) g fun H1 g => ?_
      refine s_ifF (eb_test (ed_op (ed_var rfl r_value) ed_bl fun _ _ => rd_isTF)) g fun H1 g => ?_
      refine s_ifF (eb_test (ed_op (ed_var rfl r_value) ed_bl fun _ _ => rd_isTF)) g fun H1 g => ?_
      refine s_ifF (eb_B (ed_isInt (ed_var rfl r_value))) g fun H1 g => ?_
      refine s_ifF (eb_B (ed_isStr (ed_var rfl r_value))) g fun H1 g => ?_
      refine s_ifF (eb_B (ed_isTup (ed_var rfl r_value))) g fun H1 g => ?_
      exact s_ifT (eb_B (ed_isLst (ed_var rfl r_value))) g fun H1 g => s_ret ed_int g k
    | dct =>
      refine s_ifF (eb_test (ed_op (ed_var rfl r_value) ed_non fun _ _ => rd_isN)) g fun H1 g => ?_
      refine s_ifF (eb_test (ed_op (ed_var rfl r_value) ed_bl fun _ _ => rd_isTF)) g fun H1 g => ?_
      refine s_ifF (eb_test (ed_op (ed_var rfl r_value) ed_bl fun _ _ => rd_isTF)) g fun H1 g => ?_
      refine s_ifF (eb_B (ed_isInt (ed_var rfl r_value))) g fun H1 g => ?_
      refine s_ifF (eb_B (ed_isStr (ed_var rfl r_value))) g fun H1 g => ?_
      refine s_ifF (eb_B (ed_isTup (ed_var rfl r_value))) g fun H1 g => ?_
      refine s_ifF (eb_B (ed_isLst (ed_var rfl r_value))) g fun H1 g => ?_
      exact s_ret (ed_ifc (eb_B (ed_isDict (ed_var rfl r_value))) (fun _ => ed_int) fun _ => ed_int) g k
end
end K18
set_option maxHeartbeats 4000000
namespace K18
open PySem PySem.Spec PyProof.Rows L2 Kd
section
variable {P : Program} {w : World} {K : PySem.W.Frag} {mg : Str → Option Value} {base : Heap}
theorem noDctL_mem {d : D} : ∀ {ds : List D}, noDctL ds = true → d ∈ ds → noDct d = true
  | e :: ds, h, hm => by
    have h : (noDct e && noDctL ds) = true := h
    rw [Bool.and_eq_true] at h
    rcases List.mem_cons.mp hm with rfl | hm
    · exact h.1
    · exact noDctL_mem h.2 hm
theorem noDctL_all : ∀ {ds : List D}, (∀ d ∈ ds, noDct d = true) → noDctL ds = true
  | [], _ => rfl
  | d :: ds, h => by
    show (noDct d && noDctL ds) = true
    rw [h d (by simp), noDctL_all fun e he => h e (by simp [he])]
    rfl
def kids : D → List D
  | .tup ds => ds
  | .lst ds => ds
  | _ => []
def isSeq : D → Bool
  | .tup _ => true
  | .lst _ => true
  | _ => false
theorem szL_kids (d : D) : szL (kids d) + 1 ≤ szD d := by cases d <;> simp [kids, szD, szL]
theorem noDct_kids {d : D} (h : noDct d = true) : ∀ x ∈ kids d, noDct x = true := by
  cases d with
  | tup ds => exact fun x hx => noDctL_mem h hx
  | lst ds => exact fun x hx => noDctL_mem h hx
  | _ => intro x hx; simp [kids] at hx
theorem ed_lenK {σ : L2.St} {G : Hp} {te : TE} {d : D} (hk : isSeq d = true) (h : Ed te σ G d) : Ed (tCB (fun xs H Q => ∃ p ys, xs = [.ref p] ∧ (SqL K H p ys ∨ SqT K H p ys) ∧ Q (.int ys.length) H) (tCons te tNil)) σ G (.int (kids d).length) := by
  cases d with
  | tup ds => exact ed_lenT h
  | lst ds => exact ed_lenL h
  | _ => cases hk
theorem rd_ixK {G : Hp} {d z : D} {i : Int} (hk : isSeq d = true) (h : atI (kids d) i = some z) : Rd2 (rIx K) G d (.int i) z := fun x y H s r1 r2 Q q => by
  cases d with
  | tup ds => exact .inr (.inl (rd_ixT h x y H s r1 r2 Q q))
  | lst ds => exact .inl (rd_ixL h x y H s r1 r2 Q q)
  | _ => cases hk
theorem sort6 : ∀ {y : D}, noDct y = true → decide ((6 : Int) < sortD y) = false
  | .non, _ => rfl
  | .bl true, _ => rfl
  | .bl false, _ => rfl
  | .int _, _ => rfl
  | .str _, _ => rfl
  | .tup _, _ => rfl
  | .lst _, _ => rfl
theorem sort56 : ∀ {y : D}, noDct y = true → ([D.int 5, D.int 6].any fun e => eqF e (.int (sortD y))) = isSeq y
  | .non, _ => rfl
  | .bl true, _ => rfl
  | .bl false, _ => rfl
  | .int _, _ => rfl
  | .str _, _ => rfl
  | .tup _, _ => rfl
  | .lst _, _ => rfl
def rSame : List D → D → Prop := fun ds d => ∃ x, ds = [x, x] ∧ noDct x = true ∧ szD x ≤ 100000 ∧ d = .bl true
def dup (x : D) : D := .tup [x, x]
abbrev N_law_same : List Str := ["due", "told", "waiting", "turn", "one", "other", "sort", "k"]
theorem sc_law_same : FnScope ["due", "told", "waiting", "turn", "one", "other", "sort", "k"] ["due", "told"] (defScope s_law_same) := ⟨rfl, rfl, rfl, by decide +kernel, rfl, by decide +kernel, by decide +kernel⟩
theorem ok_law_same (T : Tx K mg) : Good P w K mg base CX0 "_law_same" 3 ["due", "told"] (spRel rSame) := by
  obtain ⟨fd, F⟩ := T.f__law_same
  refine ⟨T.m__law_same, F.kp, fd, ?_, F.bindsN fun _ _ _ _ _ _ us hl => match us, hl with | [_, _], _ => rfl⟩
  have G_law_sort := ok_law_sort (P := P) (w := w) (base := base) T
  refine F.ok sc_law_same (fun vs H Q E h => ?_) (fun cdv A outer s H vs Q E hr h => ?_)
  · obtain ⟨G, ds, d, _, r, ⟨x, rfl, _⟩, _⟩ := h
    exact r.len
  · obtain ⟨G, ds, d, s0, r, ⟨x, rfl, hx, hz, rfl⟩, k⟩ := h
    obtain ⟨v1, _, rfl, r_due, v2, _, rfl, r_told, rfl⟩ := r
    refine ⟨_, PSs.nox ((pss_cons (ps_set (i := 2) sc_law_same.nd rfl (Or.inl rfl) (pe_lst (pa_cons (pe_tup (pa_cons (pv 0) (pa_cons (pv 1) pa_nil))) pa_nil)))
    (pss_cons (ps_for PassesOwn.never rfl (pi_range1 (by rfl) T.n_range (pa_cons (pe_op op_pow pe_int pe_int) pa_nil)) (pg_name (i := 3) sc_law_same.nd rfl (Or.inl rfl)) (pss_cons (ps_if (pt_cmpR (op_eqNil hr.units) (pv 2) (pe_lst pa_nil) (nomark _)) (pss_one ps_break) pss_nil)
    (pss_cons (ps_asg (pe_bm0 PySem.F.plainAttrs_list PySem.F.slot_list_pop PySem.F.type_list_pop mt_pop (pv 2)) (pg_tup rfl (pgs_cons (pg_name (i := 4) sc_law_same.nd rfl (Or.inl rfl)) (pgs_cons (pg_name (i := 5) sc_law_same.nd rfl (Or.inl rfl)) pgs_nil))))
    (pss_cons (ps_set (i := 6) sc_law_same.nd rfl (Or.inl rfl) (pe_g G_law_sort (hr.mono (by decide)) (pa_cons (pv 4) pa_nil)))
    (pss_cons (ps_if (PW.pt (pw_or (pt_cmpR op_ne (pv 6) (pe_g G_law_sort (hr.mono (by decide)) (pa_cons (pv 5) pa_nil)) (nomark _)) (pw_or1 (pt_cmpR op_gt (pv 6) pe_int (nomark _))))) (pss_one (ps_ret pe_bl)) pss_nil)
    (pss_cons (ps_if (PW.pt (pw_and (pt_cmpR op_in_seq (pv 6) (pe_tup (pa_cons pe_int (pa_cons pe_int pa_nil))) (by rfl)) (pw_and1 (pt_cmpR op_ne (pv 4) (pv 5) (nomark _))))) (pss_one (ps_ret pe_bl)) pss_nil)
    (pss_one (ps_if (pt_cmpR op_in_seq (pv 6) (pe_tup (pa_cons pe_int (pa_cons pe_int pa_nil))) (by rfl)) (pss_cons (ps_if (pt_cmpR op_ne (pe_callB call_len_seq (by rfl) T.n_len PySem.boot_len (pa_cons (pv 4) pa_nil)) (pe_callB call_len_seq (by rfl) T.n_len PySem.boot_len (pa_cons (pv 5) pa_nil)) (nomark _)) (pss_one (ps_ret pe_bl)) pss_nil)
    (pss_one (ps_for PassesOwn.never rfl (pi_range1 (by rfl) T.n_range (pa_cons (pe_callB call_len_seq (by rfl) T.n_len PySem.boot_len (pa_cons (pv 4) pa_nil)) pa_nil)) (pg_name (i := 7) sc_law_same.nd rfl (Or.inl rfl)) (pss_one (ps_expr (pe_bm PySem.F.plainAttrs_list PySem.F.slot_list_append PySem.F.type_list_append mt_append (pv 2) (pa_cons (pe_tup (pa_cons (pe_ix ix_seq (pv 4) (pv 7) (fun _ _ => rfl)) (pa_cons (pe_ix ix_seq (pv 5) (pv 7) (fun _ _ => rfl)) pa_nil))) pa_nil))))))) pss_nil))))))))
    (pss_one (ps_ret pe_bl))))), ?_⟩
    have g := gr0 (M := []) s0
    refine o_new (ds := [dup x]) (eds_cons (ed_tup (eds_cons (ed_var rfl r_due) (eds_cons (ed_var rfl r_told) eds_nil)) (Nat.le_of_ble_eq_true rfl)) eds_nil) (Nat.le_of_ble_eq_true rfl) g fun lw G1 H1 g s1 k1 ow _ => ?_
    dsimp only
    refine s_seq (s_for (σ := [some v1, some v2, some (.ref lw), none, none, none, none, none]) (items := (List.range ((10 : Int) ^ (9 : Int).toNat).toNat).map fun i => .int ((0 : Int) + (i : Nat))) (es_range1 (ed_op ed_int ed_int fun _ _ => rd_Ii ⟨by decide, by decide, by decide⟩) (by decide) (by decide)) g (fun i σ G' H' => ∃ ws o3 o4 o5 o6 o7, σ = [some v1, some v2, some (.ref lw), o3, o4, o5, o6, o7] ∧ Own H G' H' lw (ws.map dup) ∧ (∀ y ∈ ws, noDct y = true) ∧ szL ws + i ≤ 100000) (fun G' H' g' s' k' => ⟨[x], _, _, _, _, _, rfl, ow.kp s' k', fun y hy => by rw [List.mem_singleton.mp hy]; exact hx, by simpa [szL] using hz⟩) ?_ ?_)
    · rintro Gs i d v σ Gi Hi Gj Hj hd sg sgi ⟨ws, o3, o4, o5, o6, o7, rfl, ow, hws, hsz⟩ g sj kj rv
      have ow := ow.kp sj kj
      have sg := sgi.trans sj
      refine s_ifH (b := (ws.map dup).isEmpty) (ow.eb g.s fun Gx s r => (eb_test (ed_op (ed_var rfl r) (ed_lst eds_nil (Nat.zero_le _)) fun _ _ => rd_eqNil)).to (by simp)) g (fun hb H2 g k2 => ?_) fun hb H2 g k2 => ?_
      · simp only [tBreak]
        exact s_ret ed_bl g k
      have ow := ow.kp (Same.refl _) k2
      rcases nil_or_snoc ws with rfl | ⟨ws, y, rfl⟩
      · cases hb
      have hy := hws y (by simp)
      have hws' : ∀ y ∈ ws, noDct y = true := fun z hz => hws z (by simp [hz])
      rw [szL_app] at hsz
      have hszy := szL_kids y
      have hsy : szL [y] = szD y := by simp [szL]
      have hlw := szL_len ws
      have hlk := szL_len (kids y)
      dsimp only
      refine o_pop2 (d := y) (e := y) (ds := ws.map dup) rfl g (by rw [List.map_append] at ow; exact ow) rfl fun u1 u2 H3 g ow2 ks1 ko r_one r_other => ?_
      refine s_set' (ed_rel (eds_cons (ed_var rfl r_one) eds_nil) ⟨y, rfl, rfl⟩) g fun vs G4 H4 g s4 k4 r_sort => ?_
      have ow3 := ow2.kp s4 k4
      have r_one := r_one.mono s4
      have r_other := r_other.mono s4
      refine s_if' (eb_orF ((eb_test (ed_op (ed_var rfl r_sort) (ed_rel (eds_cons (ed_var rfl r_other) eds_nil) ⟨y, rfl, rfl⟩) fun _ _ => rd_ne rfl)).to (c := false) (by simp)) ((eb_test (ed_op (ed_var rfl r_sort) ed_int fun _ _ => rd_I0b)).to (c := false) (sort6 hy))) g (fun z => nomatch z) fun _ H5 g k5 => ?_
      have ow4 := ow3.kp (Same.refl _) k5
      have h34 : Eb (tAnd (tTest (tOp (rIn K false) (tVar 6) (tTup (tCons (tC (V.int 3)) (tCons (tC (V.int 4)) tNil))))) (tTest (tOp rNe (tVar 4) (tVar 5)))) [some v1, some v2, some (.ref lw), some v, some u1, some u2, some vs, o7] G4 false := by
        by_cases hf : isSeq y = true
        · exact eb_andF ((eb_test (ed_op (ed_var rfl r_sort) (ed_tup (eds_cons ed_int (eds_cons ed_int eds_nil)) (Nat.le_of_ble_eq_true rfl)) fun _ _ => rd_inT rfl rfl)).to (by cases y <;> first | rfl | cases hf))
        · cases y with
          | int i => exact eb_andT ((eb_test (ed_op (ed_var rfl r_sort) (ed_tup (eds_cons ed_int (eds_cons ed_int eds_nil)) (Nat.le_of_ble_eq_true rfl)) fun _ _ => rd_inT rfl rfl)).to rfl) ((eb_test (ed_op (ed_var rfl r_one) (ed_var rfl r_other) fun _ _ => rd_ne rfl)).to (by simp))
          | str i => exact eb_andT ((eb_test (ed_op (ed_var rfl r_sort) (ed_tup (eds_cons ed_int (eds_cons ed_int eds_nil)) (Nat.le_of_ble_eq_true rfl)) fun _ _ => rd_inT rfl rfl)).to rfl) ((eb_test (ed_op (ed_var rfl r_one) (ed_var rfl r_other) fun _ _ => rd_ne rfl)).to (by simp))
          | tup ds => exact absurd rfl hf
          | lst ds => exact absurd rfl hf
          | dct => cases hy
          | non => exact eb_andF ((eb_test (ed_op (ed_var rfl r_sort) (ed_tup (eds_cons ed_int (eds_cons ed_int eds_nil)) (Nat.le_of_ble_eq_true rfl)) fun _ _ => rd_inT rfl rfl)).to rfl)
          | bl b => exact eb_andF ((eb_test (ed_op (ed_var rfl r_sort) (ed_tup (eds_cons ed_int (eds_cons ed_int eds_nil)) (Nat.le_of_ble_eq_true rfl)) fun _ _ => rd_inT rfl rfl)).to (by cases b <;> rfl))
      refine s_if' h34 g (fun z => nomatch z) fun _ H6 g k6 => ?_
      have ow5 := ow4.kp (Same.refl _) k6
      refine s_if' ((eb_test (ed_op (ed_var rfl r_sort) (ed_tup (eds_cons ed_int (eds_cons ed_int eds_nil)) (Nat.le_of_ble_eq_true rfl)) fun _ _ => rd_inT rfl rfl)).to (c := isSeq y) (sort56 hy)) g (fun hq H7 g k7 => ?_) fun hq H7 g k7 => ?_
      · have ow6 := ow5.kp (Same.refl _) k7
        refine s_if' ((eb_test (ed_op (ed_lenK hq (ed_var rfl r_one)) (ed_lenK hq (ed_var rfl r_other)) fun _ _ => rd_ne rfl)).to (c := false) (by simp)) g (fun z => nomatch z) fun _ H8 g k8 => ?_
        have ow7 := ow6.kp (Same.refl _) k8
        dsimp only
        refine s_for (σ := [some v1, some v2, some (.ref lw), some v, some u1, some u2, some vs, o7]) (items := (List.range ((kids y).length : Int).toNat).map fun i => .int ((0 : Int) + (i : Nat))) (es_range1 (ed_lenK hq (ed_var rfl r_one)) (by omega) (by omega)) g (fun j σ G' H' => Same G4 G' ∧ (∃ o, σ = [some v1, some v2, some (.ref lw), some v, some u1, some u2, some vs, o]) ∧ Own H G' H' lw ((ws ++ (kids y).take j).map dup)) (fun G' H' g' s' k' => ⟨s', ⟨_, rfl⟩, by rw [List.take_zero, List.append_nil]; exact ow7.kp s' k'⟩) ?_ ?_
        · rintro Gs' j d' v' σ' Gk Hk Gl Hl hd' sg' sgk ⟨sk, ⟨o, rfl⟩, ow8⟩ g sl kl rv'
          rw [List.getElem?_map] at hd'
          obtain ⟨j', hj', rfl⟩ := Option.map_eq_some_iff.mp hd'
          have hjl : j < (kids y).length := by
            have := (List.getElem?_eq_some_iff.mp hj').1
            simpa using this
          have ej : j' = j := by
            rw [List.getElem?_range (by simpa using hjl)] at hj'
            exact (Option.some.inj hj').symm
          subst ej
          have ow9 := ow8.kp sl kl
          have s0l := sk.trans sl
          have hat : atI (kids y) ((0 : Int) + ((j' : Nat) : Int)) = some (kids y)[j'] := by
            rw [Int.zero_add]
            exact atI_nat (by simp [hjl])
          refine o_append (d := dup (kids y)[j']) rfl (ed_tup (eds_cons (ed_op (ed_var rfl (r_one.mono s0l)) (ed_var rfl rv') fun _ _ => rd_ixK hq hat) (eds_cons (ed_op (ed_var rfl (r_other.mono s0l)) (ed_var rfl rv') fun _ _ => rd_ixK hq hat) eds_nil)) (Nat.le_of_ble_eq_true rfl)) g ow9 (by simp; omega) fun G9 H9 g s9 ow10 _ _ => ?_
          refine ⟨G9, g, sgk.trans (sl.trans s9), s0l.trans s9, ⟨_, rfl⟩, ?_⟩
          have e : (kids y).take (j' + 1) = (kids y).take j' ++ [(kids y)[j']] := take_snoc (by simp [hjl])
          rw [e, ← List.append_assoc, List.map_append]
          exact ow10
        · rintro σ' G9 H9 g s9 ⟨s4', ⟨o, rfl⟩, ow8⟩
          simp only [List.length_map, List.length_range, Int.toNat_natCast, List.take_length] at ow8
          refine ⟨G9, g, sg.trans (s4.trans s4'), ws ++ kids y, _, _, _, _, _, rfl, ow8, fun z hz => ?_, by rw [szL_app]; omega⟩
          rcases List.mem_append.mp hz with q | q
          · exact hws' z q
          · exact noDct_kids hy z q
      · have ow6 := ow5.kp (Same.refl _) k7
        exact ⟨G4, g, sg.trans s4, ws, _, _, _, _, _, rfl, ow6, hws', by omega⟩
    · rintro σ G' H' g s' ⟨ws, o3, o4, o5, o6, o7, rfl, ow, hws, hsz⟩
      exfalso
      rw [List.length_map, List.length_range] at hsz
      have e : ((10 : Int) ^ (9 : Int).toNat).toNat = 1000000000 := by decide
      omega
end
end K18
set_option maxHeartbeats 4000000
namespace K18
open PySem PySem.Spec PyProof.Rows L2 Kd
theorem app_list (a b : Str) : (a ++ b).cps.toList = a.cps.toList ++ b.cps.toList := by
  show (a.cps ++ b.cps).toList = _
  rw [Array.toList_append]
theorem app_len (a b : Str) : (a ++ b).length = a.length + b.length := by
  show (a.cps ++ b.cps).size = _
  rw [Array.size_append]
  rfl
def theSigns : Str := "abcdefghijklmnopqrstuvwxyzABCDEFGHIJKLMNOPQRSTUVWXYZ0123456789_"
theorem sign_at {r : Int} (h0 : 0 ≤ r) (h1 : r < 63) : ∃ c, atI theSigns.cps.toList r = some c ∧ wordSign c = true ∧ (r < 26 → 97 ≤ c ∧ c ≤ 122) ∧ (26 ≤ r → r < 52 → 65 ≤ c ∧ c ≤ 90) := by
  have key : ∀ j : Fin 63, ∃ c, theSigns.cps.toList[j.1]? = some c ∧ wordSign c = true ∧ (j.1 < 26 → 97 ≤ c ∧ c ≤ 122) ∧ (26 ≤ j.1 → j.1 < 52 → 65 ≤ c ∧ c ≤ 90) := by
    have key2 : ∀ j : Fin 63, theSigns.cps.toList[j.1]? = some (theSigns.cps.toList.getD j.1 0) ∧ wordSign (theSigns.cps.toList.getD j.1 0) = true ∧ (j.1 < 26 → 97 ≤ theSigns.cps.toList.getD j.1 0 ∧ theSigns.cps.toList.getD j.1 0 ≤ 122) ∧ (26 ≤ j.1 → j.1 < 52 → 65 ≤ theSigns.cps.toList.getD j.1 0 ∧ theSigns.cps.toList.getD j.1 0 ≤ 90) := by decide +kernel
    exact fun j => ⟨_, key2 j⟩
  obtain ⟨j, rfl⟩ := Int.eq_ofNat_of_zero_le h0
  obtain ⟨c, e, h2, h3, h4⟩ := key ⟨j, by omega⟩
  exact ⟨c, atI_nat e, h2, fun h => h3 (by show j < 26; omega), fun h h' => h4 (by show 26 ≤ j; omega) (by show j < 52; omega)⟩
def gNm (b : Bool) (s : Str) : Prop := (if b = true then isGreat (.str s) = true else isSmall (.str s) = true) ∧ s.length ≤ 12
def loOf (b : Bool) : Nat := if b = true then 65 else 97
def hiOf (b : Bool) : Nat := if b = true then 90 else 122
structure Nm (b : Bool) (s : Str) : Prop where
  ex : ∃ c r, s.cps.toList = c :: r ∧ (c :: r).all wordSign = true ∧ loOf b ≤ c ∧ c ≤ hiOf b
theorem Nm.in_ {b : Bool} {s : Str} (h : Nm b s) (hl : s.length ≤ 12) : nameIn (loOf b) (hiOf b) s = true := by
  obtain ⟨c, r, e, h1, h2, h3⟩ := h.ex
  unfold nameIn
  rw [e]
  show (decide (s.length ≤ 12) && ((decide (loOf b ≤ c) && decide (c ≤ hiOf b)) && (c :: r).all wordSign)) = true
  rw [decide_eq_true hl, decide_eq_true h2, decide_eq_true h3, h1]
  rfl
theorem Nm.snoc {b : Bool} {s : Str} {c : Nat} (h : Nm b s) (hc : wordSign c = true) : Nm b (s ++ ⟨#[c]⟩) := by
  obtain ⟨x, r, e, h1, h2, h3⟩ := h.ex
  refine ⟨x, r ++ [c], by rw [app_list, e]; rfl, ?_, h2, h3⟩
  rw [← List.cons_append, List.all_append, h1]
  simp [hc]
theorem nm_word {b : Bool} {s : Str} (h : Nm b s) (hl : s.length ≤ 12) (hw : (theWords.any fun z => z == s) = true) : gNm b (s ++ "1") := by
  obtain ⟨z, hz, e⟩ := List.any_eq_true.mp hw
  have e : z = s := by simpa using e
  subst e
  cases b with
  | true =>
    have k : ∀ z ∈ theWords, nameIn 65 90 z = false := by decide +kernel
    have := h.in_ hl
    rw [show loOf true = 65 from rfl, show hiOf true = 90 from rfl, k z hz] at this
    cases this
  | false =>
    have k : ∀ z ∈ theWords, isSmall (.str (z ++ ("1" : Str))) = true ∧ (z ++ ("1" : Str)).length ≤ 12 := by decide +kernel
    exact ⟨(k z hz).1, (k z hz).2⟩
theorem nm_else {b : Bool} {s : Str} (h : Nm b s) (hl : s.length ≤ 12) (hw : (theWords.any fun z => z == s) = false) : gNm b s := by
  refine ⟨?_, hl⟩
  have := h.in_ hl
  cases b with
  | true => exact this
  | false =>
    show (nameIn 97 122 s && !theWords.any fun z => z == s) = true
    rw [hw]
    have : nameIn 97 122 s = true := this
    rw [this]
    rfl
theorem any_words (s : Str) : ∀ l : List Str, ((l.map D.str).any fun e => eqF e (.str s)) = l.any fun z => z == s
  | [] => rfl
  | z :: l => by rw [List.map_cons, List.any_cons, List.any_cons, any_words s l]; rfl
theorem ed_split {σ : L2.St} {G : Hp} {to te : TE} {x y : Str} (h : Ed to σ G (.str x)) (h2 : Ed te σ G (.str y)) (hy : (y.length == 0) = false) (hx : x.length + 2 ≤ 100000) :
    Ed (tM1 (fun x xs H Q => ∃ a b, x = .str a ∧ xs = [.str b] ∧ (b.length == 0) = false ∧ a.length + 2 ≤ sizeLine ∧ rNewStrs (Txt.split a b) H Q) to te) σ G (.lst ((Txt.split x y).map .str)) := fun H s Q q =>
  h H s _ fun v G1 H1 g1 r1 => by
    cases (show v = .str x from r1)
    refine ⟨⟨x, rfl⟩, h2.mono g1.g H1 g1.s _ fun u G2 H2 g2 r2 => ?_⟩
    cases (show u = .str y from r2)
    refine ⟨x, y, rfl, rfl, hy, Nat.le_trans hx (by decide), fun p hp => q _ _ _ ((g1.trans g2).new hp) ⟨p, _, rfl, upd_same, RpL.strs _⟩⟩
theorem flat_strsD : ∀ l : List Str, (l.map D.str).all flatD = true
  | [] => rfl
  | z :: l => by rw [List.map_cons, List.all_cons, flat_strsD l]; rfl
section
variable {P : Program} {w : World} {K : PySem.W.Frag} {mg : Str → Option Value} {base : Heap}
def pName : List D → Prop := fun ds => ∃ b : Bool, ds = [.bl b]
def rNm : List D → D → Prop := fun ds d => ∃ (b : Bool) (s : Str), ds = [.bl b] ∧ d = .str s ∧ gNm b s
abbrev N_law_name : List Str := ["pool", "great", "signs", "first", "name", "k", "words"]
theorem sc_law_name : FnScope ["pool", "great", "signs", "first", "name", "k", "words"] ["pool", "great"] (defScope s_law_name) := ⟨rfl, rfl, rfl, by decide +kernel, rfl, by decide +kernel, by decide +kernel⟩
theorem ok_law_name (T : Tx K mg) : Good P w K mg base CX0 "_law_name" 4 ["pool", "great"] (spP pName rNm) := by
  obtain ⟨fd, F⟩ := T.f__law_name
  refine ⟨T.m__law_name, F.kp, fd, ?_, F.bindsN fun _ _ _ _ _ _ us hl => match us, hl with | [_, _], _ => rfl⟩
  have G_law_pick := ok_law_pick (P := P) (w := w) (base := base) T
  have G_law_wide := ok_law_wide (P := P) (w := w) (base := base) T
  refine F.ok sc_law_name (fun vs H Q E h => ?_) (fun cdv A outer s H vs Q E hr h => ?_)
  · obtain ⟨p, vs', G, ds, rfl, _, _, r, ⟨b, rfl⟩, _⟩ := h
    show _ + 1 = _
    rw [r.len]
    rfl
  · obtain ⟨p, vs', G, ds, rfl, s0, hq, r, ⟨b, rfl⟩, k⟩ := h
    obtain ⟨v2, _, rfl, r_great, rfl⟩ := r
    cases (show v2 = .bl b from r_great)
    refine ⟨_, PSs.nox ((pss_cons (ps_set (i := 2) sc_law_name.nd rfl (Or.inl rfl) pe_str)
    (pss_cons (ps_set (i := 3) sc_law_name.nd rfl (Or.inl rfl) (pe_ifExp (pt_val (pv 1)) (pe_op op_add pe_int (pe_g G_law_pick (hr.mono (by decide)) (pa_cons (pv 0) (pa_cons pe_int pa_nil)))) (pe_g G_law_pick (hr.mono (by decide)) (pa_cons (pv 0) (pa_cons pe_int pa_nil)))))
    (pss_cons (ps_set (i := 4) sc_law_name.nd rfl (Or.inl rfl) (pe_ix ix_str (pv 2) (pv 3) (fun _ _ => rfl)))
    (pss_cons (ps_for PassesOwn.never rfl (pi_range1 (by rfl) T.n_range (pa_cons (pe_ix ix_list (pe_lst (pa_cons pe_int (pa_cons pe_int (pa_cons pe_int (pa_cons pe_int (pa_cons pe_int (pa_cons pe_int pa_nil))))))) (pe_g G_law_pick (hr.mono (by decide)) (pa_cons (pv 0) (pa_cons pe_int pa_nil))) (fun _ _ => rfl)) pa_nil)) (pg_name (i := 5) sc_law_name.nd rfl (Or.inl rfl)) (pss_one (ps_set (i := 4) sc_law_name.nd rfl (Or.inl rfl) (pe_op op_add_str (pv 4) (pe_ix ix_str (pv 2) (pe_callTy call_int1 (by rfl) T.n_int (by decide +kernel) (pa_cons (pe_g G_law_wide (hr.mono (by decide)) (pa_cons (pv 0) (pa_cons pe_int pa_nil))) pa_nil)) (fun _ _ => rfl))))))
    (pss_cons (ps_set (i := 6) sc_law_name.nd rfl (Or.inl rfl) pe_str)
    (pss_one (ps_ret (pe_ifExp (pt_cmpR op_in_seq (pv 4) (pe_split (pv 6) pe_str) (by rfl)) (pe_op op_add_str (pv 4) pe_str) (pv 4)))))))))), ?_⟩
    have g := gr0 (M := [p]) s0
    have hb : ∀ {G'}, Rp G' (.bl b) (.bl b) := rfl
    refine s_set' ed_str g fun v G1 H1 g s1 k1 r_signs => ?_
    cases (show v = .str theSigns from r_signs)
    have hq := hq.kp k1
    refine p_set (P := fun d => ∃ r : Int, d = .int r ∧ ∃ c, atI theSigns.cps.toList r = some c ∧ wordSign c = true ∧ loOf b ≤ c ∧ c ≤ hiOf b) (edp_if (Eb.pl (eb_B (ed_var rfl hb))) (fun hb' => edp_op (Ed.pl ed_int) (edp_pick rfl ed_int (by decide)) ?_) (fun hb' => (edp_pick rfl ed_int (by decide)).to ?_)) g (by simp) hq fun d v G2 H2 hd g s2 k2 hq r_first => ?_
    · rintro d e rfl ⟨r, rfl, h0, h1⟩
      obtain ⟨c, e1, e2, e3, e4⟩ := sign_at (r := 26 + r) (by omega) (by omega)
      have := e4 (by omega) (by omega)
      exact ⟨_, ⟨_, rfl, c, e1, e2, by rw [← hb']; exact this.1, by rw [← hb']; exact this.2⟩, fun _ _ => rd_I0i⟩
    · rintro d ⟨r, rfl, h0, h1⟩
      obtain ⟨c, e1, e2, e3, e4⟩ := sign_at (r := r) h0 (by omega)
      have := e3 (by omega)
      exact ⟨_, rfl, c, e1, e2, by rw [← hb']; exact this.1, by rw [← hb']; exact this.2⟩
    obtain ⟨r, rfl, c, hat, hcw, hc1, hc2⟩ := hd
    refine s_set' (ed_op (ed_var rfl (show Rp G2 (.str theSigns) (.str theSigns) from rfl)) (ed_var rfl r_first) fun _ _ => rd_ixS (by decide) hat) g fun v G3 H3 g s3 k3 r_name => ?_
    cases (show v = .str ⟨#[c]⟩ from r_name)
    have hq := hq.kp k3
    have nm0 : Nm b ⟨#[c]⟩ := ⟨c, [], rfl, by simp [hcw], hc1, hc2⟩
    dsimp only
    refine s_seq (p_forR (edp_oneOf (ds := [.int 0, .int 0, .int 1, .int 2, .int 5, .int 11]) rfl (ed_lst (eds_cons ed_int (eds_cons ed_int (eds_cons ed_int (eds_cons ed_int (eds_cons ed_int (eds_cons ed_int eds_nil)))))) (Nat.le_of_ble_eq_true rfl)) ed_int (by decide) (by rfl)) g (by simp) hq (fun d hd => ?_) fun n G4 H4 hn g s4 _ hq => ?_)
    · simp only [List.mem_cons, List.not_mem_nil, or_false] at hd
      rcases hd with rfl | rfl | rfl | rfl | rfl | rfl <;> exact ⟨_, rfl⟩
    have hn : 0 ≤ n ∧ n ≤ 11 := by
      simp only [List.mem_cons, List.not_mem_nil, or_false, D.int.injEq] at hn
      omega
    refine s_for (σ := [some (.ref p), some (.bl b), some (.str theSigns), _, some (.str ⟨#[c]⟩), none, none]) (es_range1 ed_int hn.1 (by omega)) g (fun i σ G' H' => Same G4 G' ∧ PoolAt p G' H' ∧ ∃ nm o o2, σ = [some (.ref p), some (.bl b), some (.str theSigns), o2, some (.str nm), o, none] ∧ Nm b nm ∧ nm.length = 1 + i) (fun G' H' g' s' k' => ⟨s', hq.kp k', ⟨#[c]⟩, _, _, rfl, nm0, rfl⟩) ?_ ?_
    · rintro Gs i d v σ Gi Hi Gj Hj hd sg sgi ⟨si, hq, nm, o, o2, rfl, hnm, hlen⟩ g sj kj rv
      have hq := hq.kp kj
      rw [List.getElem?_map] at hd
      obtain ⟨j, hj, rfl⟩ := Option.map_eq_some_iff.mp hd
      have hil : i < n.toNat := by
        have := (List.getElem?_eq_some_iff.mp hj).1
        simpa using this
      refine p_set (P := fun d => ∃ c, d = .str (nm ++ ⟨#[c]⟩) ∧ wordSign c = true) (edp_op (Ed.pl (ed_var rfl (show Rp Gj (.str nm) (.str nm) from rfl))) (edp_op (P3 := fun d => ∃ c, d = .str ⟨#[c]⟩ ∧ wordSign c = true) (Ed.pl (ed_var rfl (show Rp Gj (.str theSigns) (.str theSigns) from rfl))) (edp_cb (P3 := fun d => ∃ r : Int, d = .int r ∧ 0 ≤ r ∧ r < 63) (edsp_cons (edp_wide rfl ed_int (by decide)) edsp_nil) ?_) ?_) ?_) g (by simp) hq fun d v2 G5 H5 hd g s5 k5 hq r5 => ?_
      · rintro ds ⟨d, r, rfl, ⟨x, rfl, h0, h1⟩, rfl⟩
        exact ⟨_, ⟨x, rfl, h0, h1⟩, fun _ _ => rdc_int1⟩
      · rintro d e rfl ⟨x, rfl, h0, h1⟩
        obtain ⟨c', e1, e2, _⟩ := sign_at h0 h1
        exact ⟨_, ⟨c', rfl, e2⟩, fun _ _ => rd_ixS (by decide) e1⟩
      · rintro d e rfl ⟨c', rfl, e2⟩
        exact ⟨_, ⟨c', rfl, e2⟩, fun _ _ => rd_addS (by show nm.length + 1 ≤ 100000; omega)⟩
      · obtain ⟨c', rfl, e2⟩ := hd
        cases (show v2 = .str (nm ++ ⟨#[c']⟩) from r5)
        exact ⟨G5, g, sgi.trans (sj.trans s5), si.trans (sj.trans s5), hq, nm ++ ⟨#[c']⟩, _, _, rfl, hnm.snoc e2, by rw [app_len, hlen]; rfl⟩
    · rintro σ G' H' g s' ⟨si, hq, nm, o, o2, rfl, hnm, hlen⟩
      have hl12 : nm.length ≤ 12 := by
        rw [List.length_map, List.length_range] at hlen
        omega
      dsimp only
      refine s_set' ed_str g fun v G6 H6 g s6 k6 r_words => ?_
      have hq := hq.kp k6
      have hsp : Ed (tM1 (fun x xs H Q => ∃ a b, x = .str a ∧ xs = [.str b] ∧ (b.length == 0) = false ∧ a.length + 2 ≤ sizeLine ∧ rNewStrs (Txt.split a b) H Q) (tVar 6) (tC (.str " "))) [some (.ref p), some (.bl b), some (.str theSigns), o2, some (.str nm), o, some v] G6 (.lst (theWords.map .str)) := by
        refine (ed_split (ed_var rfl r_words) ed_str (by decide) (by decide)).to ?_
        rw [show Txt.split _ _ = theWords from by decide +kernel]
      refine s_ret' (ed_ifc (eb_test (ed_op (ed_var rfl (show Rp G6 (.str nm) (.str nm) from rfl)) hsp fun _ _ => rd_inL rfl (flat_strsD _))) (fun _ => ed_op (ed_var rfl (show Rp G6 (.str nm) (.str nm) from rfl)) ed_str fun _ _ => rd_addS (by show nm.length + 1 ≤ 100000; omega)) fun _ => ed_var rfl (show Rp G6 (.str nm) (.str nm) from rfl)) g fun v G7 H7 g s7 k7 r7 => ?_
      rw [any_words] at r7
      have hq := hq.kp k7
      cases e : theWords.any fun z => z == nm with
      | true =>
        rw [e, if_pos rfl] at r7
        exact k _ v G7 H7 ⟨b, _, rfl, rfl, nm_word hnm hl12 e⟩ g hq r7
      | false =>
        rw [e, if_neg (by simp)] at r7
        exact k _ v G7 H7 ⟨b, _, rfl, rfl, nm_else hnm hl12 e⟩ g hq r7
end
end K18
set_option maxHeartbeats 4000000
namespace Kd
open PySem PySem.Spec PyProof.Rows L2
section
variable {K : PySem.W.Frag} {σ : L2.St} {G : Hp} {te : TE} {M : List Addr} {G0 H0 H : Hp} {Dn : Ends} {tu : TS} {P : D → Prop}
theorem s_forX {gt : TG} (h : EdX te σ G P) (g : Gr M G0 H0 G H) (k : ∀ d v G' H', P d → Gr M G0 H0 G' H' → Same G G' → Kp G H G' H' → Rp G' d v → tFor (iList K (tC v)) gt tu Dn σ H') : tFor (iList K te) gt tu Dn σ H := h H g.s _ fun d v G' H' hd g1 r => k d v G' H' hd (g.call g1) g1.g g1.kp r
theorem edx_sorted {xs : List Str} (h : Ed te σ G (.lst (xs.map .str))) (hl : xs.length < 64) : EdX (tCB (rSortedS K) (tCons te tNil)) σ G (fun d => ∃ ys : List Str, d = .lst (ys.map .str) ∧ ys.Perm xs ∧ sortedS ys = true) := fun H s Q q => h H s _ fun v G1 H1 g1 r1 => by
  obtain ⟨a, vs, rfl, ha, hr⟩ := r1
  have e : vs = xs.map V.str := by
    have : ∀ {xs : List Str} {vs : List V}, RpL G1 (xs.map D.str) vs → vs = xs.map V.str := by
      intro xs
      induction xs with
      | nil => intro vs h; exact h
      | cons x xs ih =>
        rintro vs ⟨v, r, rfl, h1, h2⟩
        rw [show v = .str x from h1, ih h2]
        rfl
    exact this hr
  subst e
  exact ⟨a, xs, rfl, SqL.of (g1.s a _ ha), hl, fun ys p hp hs hn => q _ _ _ _ ⟨ys, rfl, hp, hs⟩ (g1.new hn) ⟨p, _, rfl, upd_same, RpL.strs ys⟩⟩
end
theorem lt_of_cps : ∀ {a b : List Nat}, ltCps b a = false → a ≠ b → a < b
  | [], [], _, h => absurd rfl h
  | [], _ :: _, _, _ => List.nil_lt_cons _ _
  | _ :: _, [], h, _ => by cases h
  | a :: r, b :: t, h, n => by
    have h : (decide (b < a) || (b == a && ltCps t r)) = false := h
    rw [Bool.or_eq_false_iff] at h
    have h1 := of_decide_eq_false h.1
    rw [List.cons_lt_cons_iff]
    rcases Nat.lt_trichotomy a b with c | c | c
    · exact .inl c
    · subst c
      have h2 := h.2
      rw [beq_self_eq_true, Bool.true_and] at h2
      exact .inr ⟨rfl, lt_of_cps h2 fun e => n (by rw [e])⟩
    · exact absurd c h1
end Kd
namespace K18
open PySem PySem.Spec PyProof.Rows L2 Kd
theorem str_ext {a b : Str} (h : a.cps.toList = b.cps.toList) : a = b := by
  cases a; cases b
  simp only [PySem.Str.mk.injEq]
  exact Array.toList_inj.mp h
theorem rising_of : ∀ {fs : List (Str × Fl)}, sortedS (fs.map (·.1)) = true → (fs.map (·.1)).Nodup → rising (fs.map nmD) = true
  | [], _, _ => rfl
  | [p], _, _ => rfl
  | p :: q :: fs, h, n => by
    have h : (!ltCps q.1.cps.toList p.1.cps.toList && risingS q.1 (fs.map (·.1))) = true := h
    rw [Bool.and_eq_true] at h
    have ih := rising_of (fs := q :: fs) h.2 (List.nodup_cons.mp n).2
    have lt : p.1.cps.toList < q.1.cps.toList := lt_of_cps (by simpa using h.1) fun e => by
      have e := str_ext e
      exact (List.nodup_cons.mp n).1 (List.mem_map.mpr ⟨q, by simp, e.symm⟩)
    show (decide (p.1.cps.toList < q.1.cps.toList) && rising ((q :: fs).map nmD)) = true
    rw [decide_eq_true lt, ih]
    rfl
section
variable {P : Program} {w : World} {K : PySem.W.Frag} {mg : Str → Option Value} {base : Heap}
def rRowP : List D → D → Prop := fun _ d => ∃ r : Ro, d = r.d ∧ okRo r
abbrev N_law_row : List Str := ["pool", "names", "named", "k", "name"]
theorem sc_law_row : FnScope ["pool", "names", "named", "k", "name"] ["pool"] (defScope s_law_row) := ⟨rfl, rfl, rfl, by decide +kernel, rfl, by decide +kernel, by decide +kernel⟩
theorem ok_law_row (T : Tx K mg) : Good P w K mg base CX0 "_law_row" 5 ["pool"] (spP (fun ds => ds = []) rRowP) := by
  obtain ⟨fd, F⟩ := T.f__law_row
  refine ⟨T.m__law_row, F.kp, fd, ?_, F.bindsN fun _ _ _ _ _ _ us hl => match us, hl with | [_], _ => rfl⟩
  have G_law_name := ok_law_name (P := P) (w := w) (base := base) T
  have G_law_number := ok_law_number (P := P) (w := w) (base := base) T
  have G_law_pick := ok_law_pick (P := P) (w := w) (base := base) T
  refine F.ok sc_law_row (fun vs H Q E h => ?_) (fun cdv A outer s H vs Q E hr h => ?_)
  · obtain ⟨p, vs', G, ds, rfl, _, _, r, rfl, _⟩ := h
    show _ + 1 = _
    rw [r.len]
    rfl
  · obtain ⟨p, vs', G, ds, rfl, s0, hq, r, rfl, k⟩ := h
    cases r
    refine ⟨_, PSs.nox ((pss_cons (ps_par (i := 1) (j := 2) (by rfl) sc_law_row.nd rfl rfl (by decide) rfl rfl (pa_cons (pe_lst pa_nil) (pa_cons (pe_lst pa_nil) pa_nil)) (by rfl))
    (pss_cons (ps_for PassesOwn.never rfl (pi_range1 (by rfl) T.n_range (pa_cons (pe_ix ix_list (pe_lst (pa_cons pe_int (pa_cons pe_int (pa_cons pe_int (pa_cons pe_int (pa_cons pe_int (pa_cons pe_int (pa_cons pe_int pa_nil)))))))) (pe_g G_law_pick (hr.mono (by decide)) (pa_cons (pv 0) (pa_cons pe_int pa_nil))) (fun _ _ => rfl)) pa_nil)) (pg_name (i := 3) sc_law_row.nd rfl (Or.inl rfl)) (pss_cons (ps_set (i := 4) sc_law_row.nd rfl (Or.inl rfl) (pe_g G_law_name (hr.mono (by decide)) (pa_cons (pv 0) (pa_cons pe_bl pa_nil))))
    (pss_one (ps_if (pt_cmpR op_notIn_seq (pv 4) (pv 1) (by rfl)) (pss_one (ps_expr (pe_bm PySem.F.plainAttrs_list PySem.F.slot_list_append PySem.F.type_list_append mt_append (pv 1) (pa_cons (pv 4) pa_nil)))) pss_nil))))
    (pss_cons (ps_for PassesOwn.never rfl (pi_list (pe_callB cr_sortedS (by rfl) T.n_sorted (by decide +kernel) (pa_cons (pv 1) pa_nil))) (pg_name (i := 4) sc_law_row.nd rfl (Or.inl rfl)) (pss_one (ps_expr (pe_bm PySem.F.plainAttrs_list PySem.F.slot_list_append PySem.F.type_list_append mt_append (pv 2) (pa_cons (pe_tup (pa_cons (pv 4) (pa_cons (pe_ifExp (pt_cmpR op_eq (pe_g G_law_pick (hr.mono (by decide)) (pa_cons (pv 0) (pa_cons pe_int pa_nil))) pe_int (nomark _)) pe_str (pe_tup (pa_cons pe_str (pa_cons (pe_g G_law_number (hr.mono (by decide)) (pa_cons (pv 0) pa_nil)) pa_nil)))) pa_nil))) pa_nil)))))
    (pss_one (ps_ret (pe_tup (pa_cons (pv 2) (pa_cons (pe_g G_law_number (hr.mono (by decide)) (pa_cons (pv 0) pa_nil)) pa_nil))))))))), ?_⟩
    have g := gr0 (M := [p]) s0
    have hp0 := hq.ne
    refine o_parNN eds_nil eds_nil (Nat.zero_le _) (Nat.zero_le _) g fun ln lm G1 H1 g s1 k1 on om nlm _ => ?_
    have hq := hq.kp k1
    dsimp only
    refine s_seq (p_forR (edp_oneOf (ds := [.int 0, .int 0, .int 1, .int 1, .int 2, .int 3, .int 6]) rfl (ed_lst (eds_cons ed_int (eds_cons ed_int (eds_cons ed_int (eds_cons ed_int (eds_cons ed_int (eds_cons ed_int (eds_cons ed_int eds_nil))))))) (Nat.le_of_ble_eq_true rfl)) ed_int (by decide) (by rfl)) g (by simp) hq (fun d hd => ?_) fun n G4 H4 hn g s4 b4 hq => ?_)
    · simp only [List.mem_cons, List.not_mem_nil, or_false] at hd
      rcases hd with rfl | rfl | rfl | rfl | rfl | rfl | rfl <;> exact ⟨_, rfl⟩
    have hn : 0 ≤ n ∧ n ≤ 6 := by
      simp only [List.mem_cons, List.not_mem_nil, or_false, D.int.injEq] at hn
      omega
    have on := on.callP b4 hp0
    have om := om.callP b4 hp0
    refine s_for (σ := [some (.ref p), some (.ref ln), some (.ref lm), none, none]) (es_range1 ed_int hn.1 (by omega)) g (fun i σ G' H' => PoolAt p G' H' ∧ ∃ (ns : List Str) (o o2 : Option V), σ = [some (.ref p), some (.ref ln), some (.ref lm), o, o2] ∧ Own H G' H' ln (ns.map .str) ∧ Own H G' H' lm [] ∧ ns.Nodup ∧ (∀ z ∈ ns, gNm false z) ∧ ns.length ≤ i) (fun G' H' g' s' k' => ⟨hq.kp k', [], _, _, rfl, on.kp s' k', om.kp s' k', List.nodup_nil, fun z hz => by simp at hz, Nat.le_refl _⟩) ?_ ?_
    · rintro Gs i d v σ Gi Hi Gj Hj hd sg sgi ⟨hq, ns, o, o2, rfl, on, om, hnd, hgn, hlen⟩ g sj kj rv
      have hq := hq.kp kj
      have on := on.kp sj kj
      have om := om.kp sj kj
      rw [List.getElem?_map] at hd
      obtain ⟨j, hj, rfl⟩ := Option.map_eq_some_iff.mp hd
      have hil : i < n.toNat := by
        have := (List.getElem?_eq_some_iff.mp hj).1
        simpa using this
      refine p_set (edp_call (ds := [.bl false]) rfl (eds_cons ed_bl eds_nil) ⟨false, rfl⟩) g (by simp) hq fun d v2 G5 H5 hd g s5 k5 hq r5 => ?_
      obtain ⟨b, z, e, rfl, hz⟩ := hd
      cases e
      cases (show v2 = .str z from r5)
      have on := on.callP k5 hp0
      have om := om.callP k5 hp0
      refine s_ifH (b := !(ns.any fun y => y == z)) (on.eb g.s fun Gx s r => (eb_test (ed_op (ed_var rfl (show Rp Gx (.str z) (.str z) from rfl)) (ed_var rfl r) fun _ _ => rd_notInL rfl (flat_strsD _))).to (by rw [any_words])) g (fun hb H6 g k6 => ?_) fun hb H6 g k6 => ?_
      · have on := on.kp (Same.refl _) k6
        have om := om.kp (Same.refl _) k6
        have hq := hq.kp k6
        refine o_append rfl (ed_var rfl (show Rp G5 (.str z) (.str z) from rfl)) g on (by rw [List.length_map]; omega) fun G7 H7 g s7 on ks7 ka => ?_
        have hq7 : PoolAt p G7 H7 := by
          obtain ⟨pl, st, xs, e, r⟩ := hq.e
          have := ka p _ (fun z => hp0 (by rw [z]; exact on.h0)) e
          exact ⟨this.2 hq.g, pl, st, xs, this.1, r⟩
        have hzn : z ∉ ns := fun hm => by
          have : (ns.any fun y => y == z) = true := List.any_eq_true.mpr ⟨z, hm, by simp⟩
          rw [this] at hb
          cases hb
        refine ⟨G7, g, sgi.trans (sj.trans (s5.trans s7)), hq7, ns ++ [z], _, _, rfl, by rw [List.map_append]; exact on, ks7 lm _ (Ne.symm nlm) om, ?_, ?_, by simp; omega⟩
        · exact List.nodup_append.mpr ⟨hnd, by simp, fun a ha b hb => by rw [List.mem_singleton.mp hb]; exact fun e => hzn (e ▸ ha)⟩
        · intro y hy
          rcases List.mem_append.mp hy with q | q
          · exact hgn y q
          · rw [List.mem_singleton.mp q]; exact hz
      · exact ⟨G5, g, sgi.trans (sj.trans s5), hq.kp k6, ns, _, _, rfl, on.kp (Same.refl _) k6, om.kp (Same.refl _) k6, hnd, hgn, by omega⟩
    · rintro σ G6 H6 g s6 ⟨hq, ns, o, o2, rfl, on, om, hnd, hgn, hlen⟩
      rw [List.length_map, List.length_range] at hlen
      have hl6 : ns.length ≤ 6 := by omega
      obtain ⟨G7, g, s7, r_names, ks, nn⟩ := on.frz g
      have om := ks lm _ (Ne.symm nlm) om
      have hq : PoolAt p G7 H6 := ⟨nn p (fun z => hp0 (by rw [z]; exact on.h0)) hq.g, hq.e⟩
      dsimp only
      refine s_seq (s_forX (edx_sorted (ed_var rfl r_names) (by omega)) g fun d v G8 H8 hd g s8 k8 r_ys => ?_)
      obtain ⟨ys, rfl, hperm, hsort⟩ := hd
      have hq := hq.kp k8
      have om := om.kp s8 k8
      have hynd : ys.Nodup := hperm.nodup_iff.mpr hnd
      refine s_for (σ := [some (.ref p), some (.ref ln), some (.ref lm), o, o2]) (items := ys.map .str) (es_list (ed_c r_ys)) g (fun i σ G' H' => PoolAt p G' H' ∧ ∃ (fs : List (Str × Fl)) (o o2 : Option V), σ = [some (.ref p), some (.ref ln), some (.ref lm), o, o2] ∧ Own H G' H' lm (fs.map nmD) ∧ fs.map (·.1) = ys.take i ∧ ∀ q ∈ fs, okFl q.2) (fun G' H' g' s' k' => ⟨hq.kp k', [], _, _, rfl, om.kp s' k', rfl, fun q hq => by simp at hq⟩) ?_ ?_
      · rintro Gs i d v σ Gi Hi Gj Hj hd sg sgi ⟨hq, fs, o, o2, rfl, om, hfs, hfl⟩ g sj kj rv
        have hq := hq.kp kj
        have om := om.kp sj kj
        rw [List.getElem?_map] at hd
        obtain ⟨z, hz, rfl⟩ := Option.map_eq_some_iff.mp hd
        have hil : fs.length ≤ 6 := by
          have h1 : (fs.map (·.1)).length = (ys.take i).length := by rw [hfs]
          rw [List.length_map, List.length_take, hperm.length_eq] at h1
          omega
        refine p_append (P := fun d => ∃ f : Fl, d = nmD (z, f) ∧ okFl f) rfl ((edp_tup (edsp_cons (Ed.pl (ed_var rfl rv)) (edsp_cons (P := fun d => ∃ f : Fl, d = f.d ∧ okFl f) (edp_if (PB := fun _ => True) (ebp_test ((edp_op (P3 := fun d => ∃ b, d = .bl b) (edp_pick rfl ed_int (by decide)) (Ed.pl ed_int) ?_).to fun d ⟨b, e⟩ => ⟨b, e, trivial⟩)) (fun _ => (Ed.pl ed_str).to fun d e => ⟨.pre, e, trivial⟩) fun _ => (edp_tup (edsp_cons (Ed.pl ed_str) (edsp_cons (edp_num rfl) edsp_nil)) ?_).to ?_) edsp_nil)) ?_).to ?_) g (by simp) hp0 hq om (by rw [List.length_map]; omega) fun d G9 H9 hd g s9 hq om _ => ?_
        · rintro d e ⟨r, rfl, _⟩ rfl
          exact ⟨_, ⟨_, rfl⟩, fun _ _ => rd_eq rfl⟩
        · rintro ds ⟨d1, r1, rfl, _, d2, r2, rfl, _, rfl⟩
          exact Nat.le_of_ble_eq_true rfl
        · rintro d ⟨ds, rfl, d1, r1, rfl, rfl, d2, r2, rfl, ⟨n, rfl, h0, _⟩, rfl⟩
          exact ⟨.num n, rfl, h0⟩
        · rintro ds ⟨d1, r1, rfl, _, d2, r2, rfl, _, rfl⟩
          exact Nat.le_of_ble_eq_true rfl
        · rintro d ⟨ds, rfl, d1, r1, rfl, rfl, d2, r2, rfl, ⟨f, rfl, hf⟩, rfl⟩
          exact ⟨f, rfl, hf⟩
        · obtain ⟨f, rfl, hf⟩ := hd
          refine ⟨G9, g, sgi.trans (sj.trans s9), hq, fs ++ [(z, f)], _, _, rfl, by rw [List.map_append]; exact om, ?_, ?_⟩
          · rw [take_snoc hz, List.map_append, hfs]
            rfl
          · intro q hq'
            rcases List.mem_append.mp hq' with h1 | h1
            · exact hfl q h1
            · rw [List.mem_singleton.mp h1]; exact hf
      · rintro σ G' H' g s' ⟨hq, fs, o, o2, rfl, om, hfs, hfl⟩
        rw [List.length_map, List.take_length] at hfs
        obtain ⟨G9, g, s9, r_named, _, nn⟩ := om.frz g
        have hq : PoolAt p G9 H' := ⟨nn p (fun z => hp0 (by rw [z]; exact om.h0)) hq.g, hq.e⟩
        dsimp only
        refine p_ret (edp_tup (edsp_cons (Ed.pl (ed_var rfl r_named)) (edsp_cons (edp_num rfl) edsp_nil)) ?_) g (by simp) hq fun d v G10 H10 hd g hq r => ?_
        · rintro ds ⟨d1, r1, rfl, _, d2, r2, rfl, _, rfl⟩
          exact Nat.le_of_ble_eq_true rfl
        · obtain ⟨ds, rfl, d1, r1, rfl, rfl, d2, r2, rfl, ⟨n, rfl, h0, _⟩, rfl⟩ := hd
          refine k _ v G10 H10 ⟨⟨fs, n⟩, rfl, ⟨?_, ?_, ?_, h0⟩⟩ g hq r
          · have h1 : (fs.map (·.1)).length = ys.length := by rw [hfs]
            rw [List.length_map, hperm.length_eq] at h1
            show fs.length ≤ 6
            omega
          · intro q hq'
            have hm : q.1 ∈ ys := by rw [← hfs]; exact List.mem_map.mpr ⟨q, hq', rfl⟩
            have := hgn q.1 (hperm.mem_iff.mp hm)
            exact ⟨this.1, this.2, hfl q hq'⟩
          · exact rising_of (by rw [hfs]; exact hsort) (by rw [hfs]; exact hynd)
end
end K18
set_option maxHeartbeats 4000000
namespace K18
open PySem PySem.Spec PyProof.Rows L2 Kd
def heldD : Nd → D
  | .letter n => .int n
  | .data s _ => .str s
  | .func r => r.d
  | _ => .non
def ndD (a : Nd) : D := .tup [.str (hdN a), heldD a, .int (a.many : Nat)]
theorem rdc_min {G : Hp} {i j : Int} : Rdc (fun xs H Q => ∃ i j, xs = [.int i, .int j] ∧ Q (.int (if j < i then j else i)) H) G [.int i, .int j] (.int (if j < i then j else i)) := fun xs H s r Q q => by
  obtain ⟨v, _, rfl, h, u, _, rfl, h2, rfl⟩ := r
  cases (show v = .int i from h)
  cases (show u = .int j from h2)
  exact ⟨i, j, rfl, q _ G H (gr0 s) rfl⟩
section
variable {P : Program} {w : World} {K : PySem.W.Frag} {mg : Str → Option Value} {base : Heap}
def rRight : List D → D → Prop := fun ds d => ∃ a ps, ds = [.str (hdN a), heldD a, .lst ps] ∧ okNd a ∧ ps.length = a.many ∧ ps.length ≤ 1000 ∧ d = build a ps
abbrev N_law_right : List Str := ["word", "held", "parts", "part", "one"]
theorem sc_law_right : FnScope ["word", "held", "parts", "part", "one"] ["word", "held", "parts"] (defScope s_law_right) := ⟨rfl, rfl, rfl, by decide +kernel, rfl, by decide +kernel, by decide +kernel⟩
theorem ok_law_right (T : Tx K mg) : Good P w K mg base CX0 "_law_right" 2 ["word", "held", "parts"] (spRel rRight) := by
  obtain ⟨fd, F⟩ := T.f__law_right
  refine ⟨T.m__law_right, F.kp, fd, ?_, F.bindsN fun _ _ _ _ _ _ us hl => match us, hl with | [_, _, _], _ => rfl⟩
  refine F.ok sc_law_right (fun vs H Q E h => ?_) (fun cdv A outer s H vs Q E hr h => ?_)
  · obtain ⟨G, ds, d, _, r, ⟨a, ps, rfl, _⟩, _⟩ := h
    exact r.len
  · obtain ⟨G, ds, d, s0, r, ⟨a, ps, rfl, ha, hp, hl, rfl⟩, k⟩ := h
    obtain ⟨v1, _, rfl, r_word, v2, _, rfl, r_held, v3, _, rfl, r_parts, rfl⟩ := r
    refine ⟨_, PSs.nox ((pss_cons (ps_if (pt_cmpR op_eq (pv 0) pe_str (nomark _)) (pss_one (ps_ret (pe_tup (pa_cons pe_str (pa_cons (pe_ix ix_list (pv 2) pe_int (fun _ _ => rfl)) (pa_cons (pe_ix ix_list (pv 2) pe_int (fun _ _ => rfl)) pa_nil)))))) pss_nil)
    (pss_cons (ps_if (pt_cmpR op_eq (pv 0) pe_str (nomark _)) (pss_one (ps_ret (pe_tup (pa_cons pe_str (pa_cons (pv 1) (pa_cons (pe_lc (own := [("part", 3)]) rfl sc_law_right.nd (pi_list (pv 2)) (blkOk_by (own := [("part", 3)]) (N := ["word", "held", "parts", "part", "one"]) (sc := defScope s_law_right) (by decide +kernel)) (fun _ _ _ _ _ => by exact (pg_name (i := 3) sc_law_right.nd rfl (Or.inl rfl))) (fun _ _ _ _ _ => by exact pts_nil) (fun _ _ _ _ _ => by exact (pv 3))) pa_nil)))))) pss_nil)
    (pss_cons (ps_if (pt_cmpR op_eq (pv 0) pe_str (nomark _)) (pss_one (ps_ret (pe_tup (pa_cons pe_str (pa_cons (pe_ix ix_list (pv 2) pe_int (fun _ _ => rfl)) (pa_cons (pe_tup (pa_cons (pe_lc (own := [("one", 4)]) rfl sc_law_right.nd (pi_list (pe_ix ix_tup (pv 1) pe_int (fun _ _ => rfl))) (blkOk_by (own := [("one", 4)]) (N := ["word", "held", "parts", "part", "one"]) (sc := defScope s_law_right) (by decide +kernel)) (fun _ _ _ _ _ => by exact (pg_name (i := 4) sc_law_right.nd rfl (Or.inl rfl))) (fun _ _ _ _ _ => by exact pts_nil) (fun _ _ _ _ _ => by exact (pv 4))) (pa_cons (pe_ix ix_tup (pv 1) pe_int (fun _ _ => rfl)) pa_nil))) (pa_cons (pe_ix ix_list (pv 2) pe_int (fun _ _ => rfl)) pa_nil))))))) pss_nil)
    (pss_one (ps_ret (pe_ifExp (pt_cmpR op_eq (pv 0) pe_str (nomark _)) (pe_tup (pa_cons pe_str (pa_cons (pv 1) pa_nil))) (pe_tup (pa_cons (pv 0) pa_nil))))))))), ?_⟩
    have g := gr0 (M := []) s0
    have r_word' : Rp G (.str (hdN a)) v1 := r_word
    cases a with
    | pair =>
      obtain ⟨x, y, rfl⟩ : ∃ x y, ps = [x, y] := match ps, hp with | [x, y], _ => ⟨x, y, rfl⟩
      have r_word : Rp G (.str "pair") v1 := r_word
      exact s_ifT (eb_test (ed_op (ed_var rfl r_word) ed_str fun _ _ => rd_eq rfl)) g fun H1 g => s_ret (ed_tup (eds_cons ed_str (eds_cons (ed_op (ed_var rfl r_parts) ed_int fun _ _ => rd_ixL at0) (eds_cons (ed_op (ed_var rfl r_parts) ed_int fun _ _ => rd_ixL at1) eds_nil))) (Nat.le_of_ble_eq_true rfl)) g k
    | data x m =>
      have r_word : Rp G (.str "data") v1 := r_word
      have r_held : Rp G (.str x) v2 := r_held
      refine s_ifF (eb_test (ed_op (ed_var rfl r_word) ed_str fun _ _ => rd_eq rfl)) g fun H1 g => s_ifT (eb_test (ed_op (ed_var rfl r_word) ed_str fun _ _ => rd_eq rfl)) g fun H2 g => s_ret (Ed.to (ed_tup (eds_cons ed_str (eds_cons (ed_var rfl r_held) (eds_cons (ed_lcAll (fun d => d) (es_list (ed_var rfl r_parts)) (by omega) ?_) eds_nil))) (Nat.le_of_ble_eq_true rfl)) ?_) g k
      · intro d hd G' s
        exact tk_name fun u hu => ⟨rfl, ed_var rfl hu⟩
      · rw [List.map_id']
        rfl
    | func x =>
      obtain ⟨y, z, rfl⟩ : ∃ x y, ps = [x, y] := match ps, hp with | [x, y], _ => ⟨x, y, rfl⟩
      have r_word : Rp G (.str "fun") v1 := r_word
      have r_held : Rp G (.tup [.lst (x.ns.map nmD), .int x.t]) v2 := r_held
      refine s_ifF (eb_test (ed_op (ed_var rfl r_word) ed_str fun _ _ => rd_eq rfl)) g fun H1 g => s_ifF (eb_test (ed_op (ed_var rfl r_word) ed_str fun _ _ => rd_eq rfl)) g fun H2 g => s_ifT (eb_test (ed_op (ed_var rfl r_word) ed_str fun _ _ => rd_eq rfl)) g fun H3 g => s_ret (Ed.to (ed_tup (eds_cons ed_str (eds_cons (ed_op (ed_var rfl r_parts) ed_int fun _ _ => rd_ixL at0) (eds_cons (ed_tup (eds_cons (ed_lcAll (fun d => d) (es_list (ed_op (ed_var rfl r_held) ed_int fun _ _ => rd_ixT at0)) (by rw [List.length_map]; have := ha.len; omega) ?_) (eds_cons (ed_op (ed_var rfl r_held) ed_int fun _ _ => rd_ixT at1) eds_nil)) (Nat.le_of_ble_eq_true rfl)) (eds_cons (ed_op (ed_var rfl r_parts) ed_int fun _ _ => rd_ixL at1) eds_nil)))) (Nat.le_of_ble_eq_true rfl)) ?_) g k
      · intro d hd G' s
        exact tk_name fun u hu => ⟨rfl, ed_var rfl hu⟩
      · rw [List.map_id']
        rfl
    | letter n =>
      have r_word : Rp G (.str "letter") v1 := r_word
      have r_held : Rp G (.int n) v2 := r_held
      have e : ps = [] := List.eq_nil_of_length_eq_zero hp
      subst e
      exact s_ifF (eb_test (ed_op (ed_var rfl r_word) ed_str fun _ _ => rd_eq rfl)) g fun H1 g => s_ifF (eb_test (ed_op (ed_var rfl r_word) ed_str fun _ _ => rd_eq rfl)) g fun H2 g => s_ifF (eb_test (ed_op (ed_var rfl r_word) ed_str fun _ _ => rd_eq rfl)) g fun H3 g => s_ret (ed_ifT (eb_test (ed_op (ed_var rfl r_word) ed_str fun _ _ => rd_eq rfl)) (ed_tup (eds_cons ed_str (eds_cons (ed_var rfl r_held) eds_nil)) (Nat.le_of_ble_eq_true rfl))) g k
    | plain x =>
      obtain ⟨_, h1, h2, h3, h4, _⟩ := plain_word ha
      have r_word : Rp G (.str x) v1 := r_word
      have e : ps = [] := List.eq_nil_of_length_eq_zero hp
      subst e
      exact s_ifF (((eb_test (ed_op (ed_var rfl r_word) ed_str fun _ _ => rd_eq rfl)) : Eb _ _ _ _).to (decide_eq_false h1)) g fun H1 g => s_ifF (((eb_test (ed_op (ed_var rfl r_word) ed_str fun _ _ => rd_eq rfl)) : Eb _ _ _ _).to (decide_eq_false h3)) g fun H2 g => s_ifF (((eb_test (ed_op (ed_var rfl r_word) ed_str fun _ _ => rd_eq rfl)) : Eb _ _ _ _).to (decide_eq_false h2)) g fun H3 g => s_ret (ed_ifF (((eb_test (ed_op (ed_var rfl r_word) ed_str fun _ _ => rd_eq rfl)) : Eb _ _ _ _).to (decide_eq_false h4)) (ed_tup (eds_cons (ed_var rfl r_word) eds_nil) (Nat.le_of_ble_eq_true rfl))) g k
/-- a node that was drawn for this room -/
def ndOk (room : Int) (a : Nd) : Prop := okNd a ∧ (a.many : Int) + 1 ≤ room ∧ a.many ≤ 59
def pNode : List D → Prop := fun ds => ∃ room depth : Int, ds = [.int room, .int depth] ∧ 1 ≤ room
def rNode : List D → D → Prop := fun ds d => ∃ (room depth : Int) (a : Nd), ds = [.int room, .int depth] ∧ d = ndD a ∧ ndOk room a
def theHeads : List Str := ["int", "bool", "unit", "void", "letter", "letter", "pair", "pair", "data", "data", "fun", "fun"]
abbrev N_law_node : List Str := ["pool", "room", "depth", "word"]
theorem sc_law_node : FnScope ["pool", "room", "depth", "word"] ["pool", "room", "depth"] (defScope s_law_node) := ⟨rfl, rfl, rfl, by decide +kernel, rfl, by decide +kernel, by decide +kernel⟩
theorem ok_law_node (T : Tx K mg) : Good P w K mg base CX0 "_law_node" 6 ["pool", "room", "depth"] (spP pNode rNode) := by
  obtain ⟨fd, F⟩ := T.f__law_node
  refine ⟨T.m__law_node, F.kp, fd, ?_, F.bindsN fun _ _ _ _ _ _ us hl => match us, hl with | [_, _, _], _ => rfl⟩
  have G_law_pick := ok_law_pick (P := P) (w := w) (base := base) T
  have G_law_number := ok_law_number (P := P) (w := w) (base := base) T
  have G_law_name := ok_law_name (P := P) (w := w) (base := base) T
  have G_law_row := ok_law_row (P := P) (w := w) (base := base) T
  refine F.ok sc_law_node (fun vs H Q E h => ?_) (fun cdv A outer s H vs Q E hr h => ?_)
  · obtain ⟨p, vs', G, ds, rfl, _, _, r, ⟨room, depth, rfl, _⟩, _⟩ := h
    show _ + 1 = _
    rw [r.len]
    rfl
  · obtain ⟨p, vs', G, ds, rfl, s0, hq, r, ⟨room, depth, rfl, hroom⟩, k⟩ := h
    obtain ⟨v1, _, rfl, r_room, v2, _, rfl, r_depth, rfl⟩ := r
    cases (show v1 = .int room from r_room)
    cases (show v2 = .int depth from r_depth)
    refine ⟨_, PSs.nox ((pss_cons (ps_set (i := 3) sc_law_node.nd rfl (Or.inl rfl) (pe_ix ix_list (pe_lst (pa_cons pe_str (pa_cons pe_str (pa_cons pe_str (pa_cons pe_str (pa_cons pe_str (pa_cons pe_str (pa_cons pe_str (pa_cons pe_str (pa_cons pe_str (pa_cons pe_str (pa_cons pe_str (pa_cons pe_str pa_nil))))))))))))) (pe_g G_law_pick (hr.mono (by decide)) (pa_cons (pv 0) (pa_cons pe_int pa_nil))) (fun _ _ => rfl)))
    (pss_cons (ps_if (PW.pt (pw_and (pt_cmpR op_gt (pv 1) pe_int (nomark _)) (pw_and (pt_cmpR op_lt (pv 2) pe_int (nomark _)) (pw_and1 (pt_cmpR op_gt (pe_g G_law_pick (hr.mono (by decide)) (pa_cons (pv 0) (pa_cons pe_int pa_nil))) pe_int (nomark _)))))) (pss_one (ps_set (i := 3) sc_law_node.nd rfl (Or.inl rfl) (pe_ix ix_list (pe_lst (pa_cons pe_str (pa_cons pe_str (pa_cons pe_str pa_nil)))) (pe_g G_law_pick (hr.mono (by decide)) (pa_cons (pv 0) (pa_cons pe_int pa_nil))) (fun _ _ => rfl)))) pss_nil)
    (pss_cons (ps_if (PW.pt (pw_and (pt_cmpR op_in_seq (pv 3) (pe_tup (pa_cons pe_str (pa_cons pe_str pa_nil))) (by rfl)) (pw_and1 (PW.pt (pw_or (pt_cmpR op_lt (pv 1) pe_int (nomark _)) (pw_or1 (pt_cmpR op_gt (pv 2) pe_int (nomark _)))))))) (pss_one (ps_set (i := 3) sc_law_node.nd rfl (Or.inl rfl) pe_str)) pss_nil)
    (pss_cons (ps_if (pt_cmpR op_eq (pv 3) pe_str (nomark _)) (pss_one (ps_ret (pe_tup (pa_cons pe_str (pa_cons (pe_g G_law_number (hr.mono (by decide)) (pa_cons (pv 0) pa_nil)) (pa_cons pe_int pa_nil)))))) pss_nil)
    (pss_cons (ps_if (pt_cmpR op_eq (pv 3) pe_str (nomark _)) (pss_one (ps_ret (pe_tup (pa_cons pe_str (pa_cons (pe_g G_law_name (hr.mono (by decide)) (pa_cons (pv 0) (pa_cons pe_bl pa_nil))) (pa_cons (pe_ifExp (pt_cmpR op_lt (pv 2) pe_int (nomark _)) (pe_callB (call_min2 rfl) (by rfl) T.n_min (by decide +kernel) (pa_cons (pe_op op_sub (pv 1) pe_int) (pa_cons (pe_ix ix_list (pe_lst (pa_cons pe_int (pa_cons pe_int (pa_cons pe_int (pa_cons pe_int (pa_cons pe_int (pa_cons pe_int pa_nil))))))) (pe_g G_law_pick (hr.mono (by decide)) (pa_cons (pv 0) (pa_cons pe_int pa_nil))) (fun _ _ => rfl)) pa_nil))) pe_int) pa_nil)))))) pss_nil)
    (pss_one (ps_ret (pe_tup (pa_cons (pv 3) (pa_cons (pe_ifExp (pt_cmpR op_eq (pv 3) pe_str (nomark _)) (pe_g G_law_row (hr.mono (by decide)) (pa_cons (pv 0) pa_nil)) pe_non) (pa_cons (pe_ifExp (pt_cmpR op_in_seq (pv 3) (pe_tup (pa_cons pe_str (pa_cons pe_str pa_nil))) (by rfl)) pe_int pe_int) pa_nil)))))))))))), ?_⟩
    have g := gr0 (M := [p]) s0
    clear r_room r_depth
    have r_room : ∀ {G'}, Rp G' (.int room) (.int room) := rfl
    have r_depth : ∀ {G'}, Rp G' (.int depth) (.int depth) := rfl
    refine p_set (edp_oneOf (ds := theHeads.map .str) rfl ((ed_lst (eds_cons ed_str (eds_cons ed_str (eds_cons ed_str (eds_cons ed_str (eds_cons ed_str (eds_cons ed_str (eds_cons ed_str (eds_cons ed_str (eds_cons ed_str (eds_cons ed_str (eds_cons ed_str (eds_cons ed_str eds_nil)))))))))))) (Nat.le_of_ble_eq_true rfl)) : Ed _ _ _ _) ed_int (by decide) (by rfl)) g (by simp) hq fun d v G1 H1 hd g s1 _ hq r1 => ?_
    obtain ⟨w1, hw1, rfl⟩ := List.mem_map.mp hd
    cases (show v = .str w1 from r1)
    refine p_if (PB := fun _ => True) (ebp_and (PB := fun _ => True) ((Eb.pl (eb_test (ed_op (ed_var rfl r_room) ed_int fun _ _ => rd_I0b))).to fun _ _ => trivial) (fun _ => ebp_and (PB := fun _ => True) ((Eb.pl (eb_test (ed_op (ed_var rfl r_depth) ed_int fun _ _ => rd_I0b))).to fun _ _ => trivial) (fun _ => ebp_test ((edp_op (P3 := fun d => ∃ b, d = .bl b) (edp_pick rfl ed_int (by decide)) (Ed.pl ed_int) fun d e ⟨r, h, _⟩ h2 => by subst h; subst h2; exact ⟨_, ⟨_, rfl⟩, fun _ _ => rd_I0b⟩).to fun d ⟨b, h⟩ => ⟨b, h, trivial⟩)) (fun _ => trivial)) (fun _ => trivial)) g (List.mem_singleton.mpr rfl) hq (fun _ G2 H2 g s2 _ hq => p_set (edp_oneOf (ds := [.str "pair", .str "fun", .str "data"]) rfl (ed_lst (eds_cons ed_str (eds_cons ed_str (eds_cons ed_str eds_nil))) (Nat.le_of_ble_eq_true rfl)) ed_int (by decide) (by rfl)) g (List.mem_singleton.mpr rfl) hq fun d v G3 H3 hd g s3 _ hq r3 => ?_) fun _ G3 H3 g s3 _ hq => ?_
    have z3 : ∃ w2, w2 ∈ theHeads ∧ v = .str w2 := by
      simp only [List.mem_cons, List.not_mem_nil, or_false] at hd
      rcases hd with rfl | rfl | rfl <;> (cases r3; exact ⟨_, by decide, rfl⟩)
    obtain ⟨w2, hw2, rfl⟩ := z3
    rotate_left
    obtain ⟨w2, hw2, e⟩ : ∃ w2, w2 ∈ theHeads ∧ w2 = w1 := ⟨_, hw1, rfl⟩
    subst e
    rotate_left
    all_goals
      have r_word : ∀ {G'}, Rp G' (.str w2) (.str w2) := rfl
      refine s_if' (eb_and (eb_test (ed_op (ed_var rfl r_word) (ed_tup (eds_cons ed_str (eds_cons ed_str eds_nil)) (Nat.le_of_ble_eq_true rfl)) fun _ _ => rd_inT rfl rfl)) fun _ => (eb_or (eb_test (ed_op (ed_var rfl r_room) ed_int fun _ _ => rd_I0b)) fun _ => (eb_test (ed_op (ed_var rfl r_depth) ed_int fun _ _ => rd_I0b)))) g (fun hb H4 g k4 => s_set' ed_str g fun v G5 H5 g s5 k5 r5 => ?_) fun hb H5 g k5 => ?_
      · cases (show v = .str "letter" from r5)
        have hq := (hq.kp k4).kp k5
        have r_word : ∀ {G'}, Rp G' (.str "letter") (.str "letter") := rfl
        refine s_if' (eb_test (ed_op (ed_var rfl r_word) ed_str fun _ _ => rd_eq rfl)) g (fun _ H6 g k6 => ?_) fun z => nomatch z
        refine p_ret (P := fun d => ∃ a, d = ndD a ∧ ndOk room a) ((edp_tup (edsp_cons (Ed.pl ed_str) (edsp_cons (edp_num rfl) (edsp_cons (Ed.pl ed_int) edsp_nil))) ?_).to ?_) g (List.mem_singleton.mpr rfl) (hq.kp k6) fun d v G7 H7 ⟨a, e, h⟩ g hq r => k d v G7 H7 ⟨room, depth, a, rfl, e, h⟩ g hq r
        · rintro ds ⟨d1, r1, rfl, _, d2, r2, rfl, _, d3, r3, rfl, _, rfl⟩
          exact Nat.le_of_ble_eq_true rfl
        · rintro d ⟨ds, rfl, d1, r1, rfl, rfl, d2, r2, rfl, ⟨n, rfl, h0, _⟩, d3, r3, rfl, rfl, rfl⟩
          exact ⟨.letter n, rfl, h0, by show ((0 : Nat) : Int) + 1 ≤ room; omega, Nat.zero_le _⟩
      · have hq := hq.kp k5
        have hb : ((([D.str "pair", D.str "fun"].any fun e => eqF e (.str w2))) && (decide (room < 3) || decide (99 < depth))) = false := hb
        have hw3 : w2 ∈ (["int", "bool", "unit", "void", "letter", "pair", "data", "fun"] : List Str) := by
          have : ∀ z ∈ theHeads, z ∈ (["int", "bool", "unit", "void", "letter", "pair", "data", "fun"] : List Str) := by decide
          exact this _ hw2
        clear hw2
        dsimp only
        simp only [List.mem_cons, List.not_mem_nil, or_false] at hw3
        rcases hw3 with rfl | rfl | rfl | rfl | rfl | rfl | rfl | rfl
        case' inr.inr.inr.inr.inl =>
          refine s_if' (eb_test (ed_op (ed_var rfl r_word) ed_str fun _ _ => rd_eq rfl)) g (fun _ H6 g k6 => ?_) fun z => nomatch z
          refine p_ret (P := fun d => ∃ a, d = ndD a ∧ ndOk room a) ((edp_tup (edsp_cons (Ed.pl ed_str) (edsp_cons (edp_num rfl) (edsp_cons (Ed.pl ed_int) edsp_nil))) ?_).to ?_) g (List.mem_singleton.mpr rfl) (hq.kp k6) fun d v G7 H7 ⟨a, e, h⟩ g hq r => k d v G7 H7 ⟨room, depth, a, rfl, e, h⟩ g hq r
          · rintro ds ⟨d1, r1, rfl, _, d2, r2, rfl, _, d3, r3, rfl, _, rfl⟩
            exact Nat.le_of_ble_eq_true rfl
          · rintro d ⟨ds, rfl, d1, r1, rfl, rfl, d2, r2, rfl, ⟨n, rfl, h0, _⟩, d3, r3, rfl, rfl, rfl⟩
            exact ⟨.letter n, rfl, h0, by show ((0 : Nat) : Int) + 1 ≤ room; omega, Nat.zero_le _⟩
        case' inr.inr.inr.inr.inr.inr.inl =>
          refine s_if' (eb_test (ed_op (ed_var rfl r_word) ed_str fun _ _ => rd_eq rfl)) g (fun z => nomatch z) fun _ H6 g k6 => ?_
          have hq := hq.kp k6
          refine s_if' (eb_test (ed_op (ed_var rfl r_word) ed_str fun _ _ => rd_eq rfl)) g (fun _ H7 g k7 => ?_) fun z => nomatch z
          have hq := hq.kp k7
          refine p_ret (P := fun d => ∃ a, d = ndD a ∧ ndOk room a) ((edp_tup (edsp_cons (Ed.pl ed_str) (edsp_cons (edp_call (ds := [.bl true]) rfl (eds_cons ed_bl eds_nil) ⟨true, rfl⟩) (edsp_cons (P := fun d => ∃ m : Nat, d = .int (m : Int) ∧ (m : Int) + 1 ≤ room ∧ m ≤ 59) (edp_if (Eb.pl (eb_test (ed_op (ed_var rfl r_depth) ed_int fun _ _ => rd_I0b))) (fun _ => edp_cb (edsp_cons (Ed.pl (ed_op (ed_var rfl r_room) ed_int fun _ _ => rd_I0i)) (edsp_cons (edp_oneOf (ds := [.int 0, .int 1, .int 1, .int 2, .int 5, .int 59]) rfl (ed_lst (eds_cons ed_int (eds_cons ed_int (eds_cons ed_int (eds_cons ed_int (eds_cons ed_int (eds_cons ed_int eds_nil)))))) (Nat.le_of_ble_eq_true rfl)) ed_int (by decide) (by rfl)) edsp_nil)) ?_) (fun _ => (Ed.pl ed_int).to ?_)) edsp_nil))) ?_).to ?_) g (List.mem_singleton.mpr rfl) hq fun d v G7 H7 ⟨a, e, h⟩ g hq r => k d v G7 H7 ⟨room, depth, a, rfl, e, h⟩ g hq r
          · rintro ds ⟨d1, r1, rfl, rfl, d2, r2, rfl, hd2, rfl⟩
            have : ∃ x : Int, d2 = .int x ∧ 0 ≤ x ∧ x ≤ 59 := by
              simp only [List.mem_cons, List.not_mem_nil, or_false] at hd2
              rcases hd2 with rfl | rfl | rfl | rfl | rfl | rfl <;> exact ⟨_, rfl, by decide, by decide⟩
            obtain ⟨x, rfl, hx0, hx1⟩ := this
            refine ⟨_, ⟨(if x < room - 1 then x else room - 1).toNat, ?_, ?_, ?_⟩, fun _ _ => rdc_min⟩
            · rw [Int.toNat_of_nonneg (by split <;> omega)]
            · rw [Int.toNat_of_nonneg (by split <;> omega)]
              split <;> omega
            · have : (if x < room - 1 then x else room - 1) ≤ 59 := by split <;> omega
              omega
          · rintro d rfl
            exact ⟨0, rfl, by show ((0 : Nat) : Int) + 1 ≤ room; omega, Nat.zero_le _⟩
          · rintro ds ⟨d1, r1, rfl, _, d2, r2, rfl, _, d3, r3, rfl, _, rfl⟩
            exact Nat.le_of_ble_eq_true rfl
          · rintro d ⟨ds, rfl, d1, r1, rfl, rfl, d2, r2, rfl, ⟨b, z, e, rfl, hz⟩, d3, r3, rfl, ⟨m, rfl, h0, h1⟩, rfl⟩
            cases e
            exact ⟨.data z m, rfl, hz, h0, h1⟩
        case' inr.inr.inr.inr.inr.inl =>
          have h3 : 3 ≤ room := by
            have e : ([D.str "pair", D.str "fun"].any fun e => eqF e (.str "pair")) = true := rfl
            rw [e, Bool.true_and, Bool.or_eq_false_iff] at hb
            have := of_decide_eq_false hb.1
            omega
          refine s_if' (eb_test (ed_op (ed_var rfl r_word) ed_str fun _ _ => rd_eq rfl)) g (fun z => nomatch z) fun _ H6 g k6 => ?_
          have hq := hq.kp k6
          refine s_if' (eb_test (ed_op (ed_var rfl r_word) ed_str fun _ _ => rd_eq rfl)) g (fun z => nomatch z) fun _ H7 g k7 => ?_
          have hq := hq.kp k7
          refine p_ret (P := fun d => ∃ a, d = ndD a ∧ ndOk room a) ((Ed.pl (ed_tup (eds_cons (ed_var rfl r_word) (eds_cons (ed_ifF (eb_test (ed_op (ed_var rfl r_word) ed_str fun _ _ => rd_eq rfl)) ed_non) (eds_cons (ed_ifT (eb_test (ed_op (ed_var rfl r_word) (ed_tup (eds_cons ed_str (eds_cons ed_str eds_nil)) (Nat.le_of_ble_eq_true rfl)) fun _ _ => rd_inT rfl rfl)) ed_int) eds_nil))) (Nat.le_of_ble_eq_true rfl))).to fun d e => ⟨.pair, e, trivial, by show ((2 : Nat) : Int) + 1 ≤ room; omega, by decide⟩) g (List.mem_singleton.mpr rfl) hq fun d v G7 H7 ⟨a, e, h⟩ g hq r => k d v G7 H7 ⟨room, depth, a, rfl, e, h⟩ g hq r
        case' inr.inr.inr.inr.inr.inr.inr =>
          have h3 : 3 ≤ room := by
            have e : ([D.str "pair", D.str "fun"].any fun e => eqF e (.str "fun")) = true := rfl
            rw [e, Bool.true_and, Bool.or_eq_false_iff] at hb
            have := of_decide_eq_false hb.1
            omega
          refine s_if' (eb_test (ed_op (ed_var rfl r_word) ed_str fun _ _ => rd_eq rfl)) g (fun z => nomatch z) fun _ H6 g k6 => ?_
          have hq := hq.kp k6
          refine s_if' (eb_test (ed_op (ed_var rfl r_word) ed_str fun _ _ => rd_eq rfl)) g (fun z => nomatch z) fun _ H7 g k7 => ?_
          have hq := hq.kp k7
          refine p_ret (P := fun d => ∃ a, d = ndD a ∧ ndOk room a) ((edp_tup (edsp_cons (Ed.pl (ed_var rfl r_word)) (edsp_cons (P := fun d => ∃ r : Ro, d = r.d ∧ okRo r) (edp_if (PB := fun c => c = true) (Eb.pl (((eb_test (ed_op (ed_var rfl r_word) ed_str fun _ _ => rd_eq rfl)) : Eb _ _ _ _).to (c := true) rfl)) (fun _ => edp_call (pre := fun ds => ds = []) (R := rRowP) rfl eds_nil rfl) fun z => nomatch z) (edsp_cons (Ed.pl (ed_ifT (eb_test (ed_op (ed_var rfl r_word) (ed_tup (eds_cons ed_str (eds_cons ed_str eds_nil)) (Nat.le_of_ble_eq_true rfl)) fun _ _ => rd_inT rfl rfl)) ed_int)) edsp_nil))) ?_).to ?_) g (List.mem_singleton.mpr rfl) hq fun d v G7 H7 ⟨a, e, h⟩ g hq r => k d v G7 H7 ⟨room, depth, a, rfl, e, h⟩ g hq r
          · rintro ds ⟨d1, r1, rfl, _, d2, r2, rfl, _, d3, r3, rfl, _, rfl⟩
            exact Nat.le_of_ble_eq_true rfl
          · rintro d ⟨ds, rfl, d1, r1, rfl, rfl, d2, r2, rfl, ⟨ro, rfl, hro⟩, d3, r3, rfl, rfl, rfl⟩
            exact ⟨.func ro, rfl, hro, by show ((2 : Nat) : Int) + 1 ≤ room; omega, by show 2 ≤ 59; decide⟩
        all_goals
          refine s_if' (eb_test (ed_op (ed_var rfl r_word) ed_str fun _ _ => rd_eq rfl)) g (fun z => nomatch z) fun _ H6 g k6 => ?_
          have hq := hq.kp k6
          refine s_if' (eb_test (ed_op (ed_var rfl r_word) ed_str fun _ _ => rd_eq rfl)) g (fun z => nomatch z) fun _ H7 g k7 => ?_
          have hq := hq.kp k7
          refine p_ret (P := fun d => ∃ a, d = ndD a ∧ ndOk room a) ((Ed.pl (ed_tup (eds_cons (ed_var rfl r_word) (eds_cons (ed_ifF (eb_test (ed_op (ed_var rfl r_word) ed_str fun _ _ => rd_eq rfl)) ed_non) (eds_cons (ed_ifF (eb_test (ed_op (ed_var rfl r_word) (ed_tup (eds_cons ed_str (eds_cons ed_str eds_nil)) (Nat.le_of_ble_eq_true rfl)) fun _ _ => rd_inT rfl rfl)) ed_int) eds_nil))) (Nat.le_of_ble_eq_true rfl))).to fun d e => ⟨.plain _, e, by show _ ∈ thePlain; decide, by show ((0 : Nat) : Int) + 1 ≤ room; omega, Nat.zero_le _⟩) g (List.mem_singleton.mpr rfl) hq fun d v G7 H7 ⟨a, e, h⟩ g hq r => k d v G7 H7 ⟨room, depth, a, rfl, e, h⟩ g hq r
end
end K18
set_option maxHeartbeats 4000000
namespace K18
open PySem PySem.Spec PyProof.Rows L2 Kd
/-- so many open places, filled by these nodes one after the other -/
inductive Pre : Nat → List Nd → Prop where
  | nil : Pre 0 []
  | cons {w : Nat} {a : Nd} {ns : List Nd} : Pre (w + a.many) ns → Pre (w + 1) (a :: ns)
def rmD (q : Int × Int) : D := .tup [.int q.1, .int q.2]
def sumR (ws : List (Int × Int)) : Int := (ws.map (·.1)).sum
theorem sumR_app (a b : List (Int × Int)) : sumR (a ++ b) = sumR a + sumR b := by simp [sumR]
theorem sumR_nn : ∀ {ws : List (Int × Int)}, (∀ q ∈ ws, 1 ≤ q.1) → (ws.length : Int) ≤ sumR ws
  | [], _ => by simp [sumR]
  | q :: ws, h => by
    have h1 := h q (by simp)
    have h2 := sumR_nn (ws := ws) fun x hx => h x (by simp [hx])
    simp [sumR] at *
    omega
def ndOk2 (a : Nd) : Prop := okNd a ∧ a.many ≤ 59
section
variable {P : Program} {w : World} {K : PySem.W.Frag} {mg : Str → Option Value} {base : Heap}
def pNodes : List D → Prop := fun ds => ∃ room : Int, ds = [.int room] ∧ 1 ≤ room ∧ room ≤ 900
def rNodes : List D → D → Prop := fun ds d => ∃ (ns : List Nd), d = .lst (ns.map ndD) ∧ Pre 1 ns ∧ (∀ a ∈ ns, ndOk2 a) ∧ ns.length ≤ 900
abbrev N_law_nodes : List Str := ["pool", "room", "nodes", "waiting", "turn", "depth", "node", "rest", "more", "k", "part"]
theorem sc_law_nodes : FnScope ["pool", "room", "nodes", "waiting", "turn", "depth", "node", "rest", "more", "k", "part"] ["pool", "room"] (defScope s_law_nodes) := ⟨rfl, rfl, rfl, by decide +kernel, rfl, by decide +kernel, by decide +kernel⟩
theorem ok_law_nodes (T : Tx K mg) : Good P w K mg base CX0 "_law_nodes" 7 ["pool", "room"] (spP pNodes rNodes) := by
  obtain ⟨fd, F⟩ := T.f__law_nodes
  refine ⟨T.m__law_nodes, F.kp, fd, ?_, F.bindsN fun _ _ _ _ _ _ us hl => match us, hl with | [_, _], _ => rfl⟩
  have G_law_node := ok_law_node (P := P) (w := w) (base := base) T
  have G_law_pick := ok_law_pick (P := P) (w := w) (base := base) T
  refine F.ok sc_law_nodes (fun vs H Q E h => ?_) (fun cdv A outer s H vs Q E hr h => ?_)
  · obtain ⟨p, vs', G, ds, rfl, _, _, r, ⟨room, rfl, _⟩, _⟩ := h
    show _ + 1 = _
    rw [r.len]
    rfl
  · obtain ⟨p, vs', G, ds, rfl, s0, hq, r, ⟨room, rfl, hroom, hroom2⟩, k⟩ := h
    obtain ⟨v1, _, rfl, r_room, rfl⟩ := r
    refine ⟨_, PSs.nox ((pss_cons (ps_par (i := 2) (j := 3) (by rfl) sc_law_nodes.nd rfl rfl (by decide) rfl rfl (pa_cons (pe_lst pa_nil) (pa_cons (pe_lst (pa_cons (pe_tup (pa_cons (pv 1) (pa_cons pe_int pa_nil))) pa_nil)) pa_nil)) (by rfl))
    (pss_cons (ps_for PassesOwn.never rfl (pi_range1 (by rfl) T.n_range (pa_cons (pe_op op_pow pe_int pe_int) pa_nil)) (pg_name (i := 4) sc_law_nodes.nd rfl (Or.inl rfl)) (pss_cons (ps_if (pt_cmpR (op_eqNil hr.units) (pv 3) (pe_lst pa_nil) (nomark _)) (pss_one ps_break) pss_nil)
    (pss_cons (ps_asg (pe_bm0 PySem.F.plainAttrs_list PySem.F.slot_list_pop PySem.F.type_list_pop mt_pop (pv 3)) (pg_tup rfl (pgs_cons (pg_name (i := 1) sc_law_nodes.nd rfl (Or.inl rfl)) (pgs_cons (pg_name (i := 5) sc_law_nodes.nd rfl (Or.inl rfl)) pgs_nil))))
    (pss_cons (ps_set (i := 6) sc_law_nodes.nd rfl (Or.inl rfl) (pe_g G_law_node (hr.mono (by decide)) (pa_cons (pv 0) (pa_cons (pv 1) (pa_cons (pv 5) pa_nil)))))
    (pss_cons (ps_expr (pe_bm PySem.F.plainAttrs_list PySem.F.slot_list_append PySem.F.type_list_append mt_append (pv 2) (pa_cons (pv 6) pa_nil)))
    (pss_cons (ps_par (i := 7) (j := 8) (by rfl) sc_law_nodes.nd rfl rfl (by decide) rfl rfl (pa_cons (pe_op op_sub (pe_op op_sub (pv 1) pe_int) (pe_ix ix_tup (pv 6) pe_int (fun _ _ => rfl))) (pa_cons (pe_lst pa_nil) pa_nil)) (by rfl))
    (pss_cons (ps_for PassesOwn.never rfl (pi_range1 (by rfl) T.n_range (pa_cons (pe_ix ix_tup (pv 6) pe_int (fun _ _ => rfl)) pa_nil)) (pg_name (i := 9) sc_law_nodes.nd rfl (Or.inl rfl)) (pss_cons (ps_set (i := 10) sc_law_nodes.nd rfl (Or.inl rfl) (pe_ix ix_list (pe_lst (pa_cons pe_int (pa_cons (pv 7) (pa_cons (pe_callTy call_int1 (by rfl) T.n_int (by decide +kernel) (pa_cons (pe_op op_fdiv (pv 7) pe_int) pa_nil)) (pa_cons (pe_callB (call_min2 rfl) (by rfl) T.n_min (by decide +kernel) (pa_cons (pv 7) (pa_cons pe_int pa_nil))) pa_nil))))) (pe_g G_law_pick (hr.mono (by decide)) (pa_cons (pv 0) (pa_cons pe_int pa_nil))) (fun _ _ => rfl)))
    (pss_cons (ps_set (i := 7) sc_law_nodes.nd rfl (Or.inl rfl) (pe_op op_sub (pv 7) (pv 10)))
    (pss_one (ps_expr (pe_bm PySem.F.plainAttrs_list PySem.F.slot_list_append PySem.F.type_list_append mt_append (pv 8) (pa_cons (pe_tup (pa_cons (pe_op op_add pe_int (pv 10)) (pa_cons (pe_op op_add (pv 5) pe_int) pa_nil))) pa_nil)))))))
    (pss_one (ps_expr (pe_bm PySem.F.plainAttrs_list PySem.F.slot_list_extend PySem.F.type_list_extend mt_extend (pv 3) (pa_cons (pv 8) pa_nil)))))))))))
    (pss_one (ps_ret (pv 2)))))), ?_⟩
    have g := gr0 (M := [p]) s0
    have hp0 := hq.ne
    refine o_parNN (es := [rmD (room, 0)]) eds_nil (eds_cons (ed_tup (eds_cons (ed_var rfl r_room) (eds_cons ed_int eds_nil)) (Nat.le_of_ble_eq_true rfl)) eds_nil) (Nat.zero_le _) (Nat.le_of_ble_eq_true rfl) g fun ln lw G1 H1 g s1 k1 on ow nlw _ => ?_
    have hq := hq.kp k1
    dsimp only
    refine s_seq (s_for (σ := [some (.ref p), some v1, some (.ref ln), some (.ref lw), none, none, none, none, none, none, none]) (items := (List.range ((10 : Int) ^ (9 : Int).toNat).toNat).map fun i => .int ((0 : Int) + (i : Nat))) (es_range1 (ed_op ed_int ed_int fun _ _ => rd_Ii ⟨by decide, by decide, by decide⟩) (by decide) (by decide)) g (fun i σ G' H' => PoolAt p G' H' ∧ ∃ (ns : List Nd) (ws : List (Int × Int)) (o1 o4 o5 o6 o7 o8 o9 o10 : Option V), σ = [some (.ref p), o1, some (.ref ln), some (.ref lw), o4, o5, o6, o7, o8, o9, o10] ∧ Own H G' H' ln (ns.map ndD) ∧ Own H G' H' lw (ws.map rmD) ∧ (∀ q ∈ ws, 1 ≤ q.1) ∧ sumR ws + ns.length ≤ 900 ∧ (∀ rest, Pre ws.length rest → Pre 1 (ns ++ rest)) ∧ (∀ a ∈ ns, ndOk2 a) ∧ i ≤ ns.length) (fun G' H' g' s' k' => ⟨hq.kp k', [], [(room, 0)], _, _, _, _, _, _, _, _, rfl, on.kp s' k', ow.kp s' k', fun q hq => by rw [List.mem_singleton.mp hq]; exact hroom, by simp [sumR]; omega, fun rest h => h, fun a ha => by simp at ha, Nat.le_refl _⟩) ?_ ?_)
    · rintro Gs i d v σ Gi Hi Gj Hj hd sg sgi ⟨hq, ns, ws, o1, o4, o5, o6, o7, o8, o9, o10, rfl, on, ow, hws, hsum, hpre, hok, hi⟩ g sj kj rv
      have hq := hq.kp kj
      have on := on.kp sj kj
      have ow := ow.kp sj kj
      have sg := sgi.trans sj
      refine s_ifH (b := (ws.map rmD).isEmpty) (ow.eb g.s fun Gx s r => (eb_test (ed_op (ed_var rfl r) (ed_lst eds_nil (Nat.zero_le _)) fun _ _ => rd_eqNil)).to (by simp)) g (fun hb H2 g k2 => ?_) fun hb H2 g k2 => ?_
      · have e : ws = [] := by
          cases ws with
          | nil => rfl
          | cons _ _ => cases hb
        subst e
        have hq := hq.kp k2
        have on := on.kp (Same.refl _) k2
        obtain ⟨G3, g, s3, r_nodes, _, nn⟩ := on.frz g
        have hq : PoolAt p G3 H2 := ⟨nn p (fun z => hp0 (by rw [z]; exact on.h0)) hq.g, hq.e⟩
        simp only [tBreak]
        have hsn : (ns.length : Int) ≤ 900 := by simpa [sumR] using hsum
        refine s_ret' (ed_var rfl r_nodes) g fun v G4 H4 g s4 k4 r4 => k _ v G4 H4 ⟨ns, rfl, by have := hpre [] .nil; rwa [List.append_nil] at this, hok, by omega⟩ g (hq.kp k4) r4
      have hq := hq.kp k2
      have on := on.kp (Same.refl _) k2
      have ow := ow.kp (Same.refl _) k2
      rcases nil_or_snoc ws with rfl | ⟨ws, ⟨rm, dp⟩, rfl⟩
      · cases hb
      have hrm := hws (rm, dp) (by simp)
      have hws' : ∀ q ∈ ws, 1 ≤ q.1 := fun q h => hws q (by simp [h])
      rw [sumR_app] at hsum
      have hs1 : sumR [(rm, dp)] = rm := by simp [sumR]
      rw [hs1] at hsum
      have hsw := sumR_nn hws'
      dsimp only
      refine o_pop2 (d := .int rm) (e := .int dp) (ds := ws.map rmD) rfl g (by rw [List.map_append] at ow; exact ow) rfl fun u1 u2 H3 g ow2 ks1 ko r_rm r_dp => ?_
      cases (show u1 = .int rm from r_rm)
      cases (show u2 = .int dp from r_dp)
      have on := ks1 ln _ nlw on
      have hq : PoolAt p Gj H3 := by
        obtain ⟨pl, st, xs, e, r⟩ := hq.e
        exact ⟨hq.g, pl, st, xs, ko p _ (fun z => hp0 (by rw [z]; exact ow2.h0)) e, r⟩
      refine p_set (edp_call (ds := [.int rm, .int dp]) rfl (eds_cons (ed_var rfl (show Rp Gj (.int rm) (.int rm) from rfl)) (eds_cons (ed_var rfl (show Rp Gj (.int dp) (.int dp) from rfl)) eds_nil)) ⟨rm, dp, rfl, hrm⟩) g (List.mem_singleton.mpr rfl) hq fun d v2 G5 H5 hd g s5 b5 hq r_node => ?_
      obtain ⟨rm', dp', a, e, rfl, ha, hm1, hm2⟩ := hd
      cases e
      have on := on.callP b5 hp0
      have ow3 := ow2.callP b5 hp0
      refine o_append rfl (ed_var rfl r_node) g on (by rw [List.length_map]; omega) fun G6 H6 g s6 on ks6 ka6 => ?_
      have ow4 := ks6 lw _ (Ne.symm nlw) ow3
      have hq : PoolAt p G6 H6 := by
        obtain ⟨pl, st, xs, e, r⟩ := hq.e
        have := ka6 p _ (fun z => hp0 (by rw [z]; exact on.h0)) e
        exact ⟨this.2 hq.g, pl, st, xs, this.1, r⟩
      have r_node6 := r_node.mono s6
      have hat2 : atI [D.str (hdN a), heldD a, D.int (a.many : Nat)] 2 = some (.int (a.many : Nat)) := at2
      refine o_parEN (d := .int (rm - 1 - a.many)) (ed_op (ed_op (ed_var rfl (show Rp G6 (.int rm) (.int rm) from rfl)) ed_int fun _ _ => rd_I0i) (ed_op (ed_var rfl r_node6) ed_int fun _ _ => rd_ixT hat2) fun _ _ => rd_I0i) eds_nil (Nat.zero_le _) g fun v3 lm G7 H7 g s7 k7 r_rest om ks7 => ?_
      cases (show v3 = .int (rm - 1 - a.many) from r_rest)
      obtain ⟨on, nnm⟩ := ks7 ln _ on
      obtain ⟨ow5, nwm⟩ := ks7 lw _ ow4
      have hq := hq.kp k7
      have r_node7 := r_node6.mono s7
      dsimp only
      refine s_seq (s_for (σ := [some (.ref p), some (.int rm), some (.ref ln), some (.ref lw), some v, some (.int dp), some v2, some (.int (rm - 1 - a.many)), some (.ref lm), o9, o10]) (es_range1 (ed_op (ed_var rfl r_node7) ed_int fun _ _ => rd_ixT hat2) (by omega) (by omega)) g (fun j σ G' H' => PoolAt p G' H' ∧ ∃ (rest : Int) (es : List (Int × Int)) (o9 o10 : Option V), σ = [some (.ref p), some (.int rm), some (.ref ln), some (.ref lw), some v, some (.int dp), some v2, some (.int rest), some (.ref lm), o9, o10] ∧ Own H G' H' ln ((ns ++ [a]).map ndD) ∧ Own H G' H' lw (ws.map rmD) ∧ Own H G' H' lm (es.map rmD) ∧ 0 ≤ rest ∧ sumR es + rest = rm - 1 - a.many + j ∧ es.length = j ∧ ∀ q ∈ es, 1 ≤ q.1) (fun G' H' g' s' k' => ⟨hq.kp k', _, [], _, _, rfl, by rw [List.map_append]; exact on.kp s' k', ow5.kp s' k', om.kp s' k', by omega, by simp [sumR], rfl, fun q hq => by simp at hq⟩) ?_ ?_)
      · rintro Gs' j d' v' σ' Gk Hk Gl Hl hd' sg' sgk ⟨hq, rest, es, o9, o10, rfl, on, ow, om, hr0, hrs, hel, hes⟩ g sl kl rv'
        have hq := hq.kp kl
        have on := on.kp sl kl
        have ow := ow.kp sl kl
        have om := om.kp sl kl
        rw [List.getElem?_map] at hd'
        obtain ⟨j', hj', rfl⟩ := Option.map_eq_some_iff.mp hd'
        have hjl : j < a.many := by
          have := (List.getElem?_eq_some_iff.mp hj').1
          simpa using this
        have rR : ∀ {G'}, Rp G' (.int rest) (.int rest) := rfl
        refine p_set (P := fun d => ∃ x : Int, d = .int x ∧ 0 ≤ x ∧ x ≤ rest) ((edp_oneOf (ds := [.int 0, .int rest, .int (rest / 2), .int (if 3 < rest then 3 else rest)]) rfl (ed_lst (eds_cons ed_int (eds_cons (ed_var rfl rR) (eds_cons (ed_int1 (ed_op (ed_var rfl rR) ed_int fun _ _ => rd_Ii ⟨by decide, by decide⟩)) (eds_cons (ed_cb (eds_cons (ed_var rfl rR) (eds_cons ed_int eds_nil)) fun _ _ => rdc_min) eds_nil)))) (Nat.le_of_ble_eq_true rfl)) ed_int (by decide) (by rfl)).to ?_) g (List.mem_singleton.mpr rfl) hq fun d v4 G8 H8 hd g s8 b8 hq r_part => ?_
        · intro d hd
          simp only [List.mem_cons, List.not_mem_nil, or_false] at hd
          rcases hd with rfl | rfl | rfl | rfl
          · exact ⟨_, rfl, by omega, by omega⟩
          · exact ⟨_, rfl, by omega, by omega⟩
          · exact ⟨_, rfl, by omega, by omega⟩
          · exact ⟨_, rfl, by split <;> omega, by split <;> omega⟩
        obtain ⟨x, rfl, hx0, hx1⟩ := hd
        cases (show v4 = .int x from r_part)
        have on := on.callP b8 hp0
        have ow := ow.callP b8 hp0
        have om := om.callP b8 hp0
        refine s_set' (ed_op (ed_var rfl (show Rp G8 (.int rest) (.int rest) from rfl)) (ed_var rfl (show Rp G8 (.int x) (.int x) from rfl)) fun _ _ => rd_I0i) g fun v5 G9 H9 g s9 k9 r9 => ?_
        cases (show v5 = .int (rest - x) from r9)
        have hq := hq.kp k9
        have on := on.kp s9 k9
        have ow := ow.kp s9 k9
        have om := om.kp s9 k9
        refine o_append (d := rmD (1 + x, dp + 1)) rfl (ed_tup (eds_cons (ed_op ed_int (ed_var rfl (show Rp G9 (.int x) (.int x) from rfl)) fun _ _ => rd_I0i) (eds_cons (ed_op (ed_var rfl (show Rp G9 (.int dp) (.int dp) from rfl)) ed_int fun _ _ => rd_I0i) eds_nil)) (Nat.le_of_ble_eq_true rfl)) g om (by rw [List.length_map]; omega) fun G10 H10 g s10 om ks10 ka10 => ?_
        have hq : PoolAt p G10 H10 := by
          obtain ⟨pl, st, xs, e, r⟩ := hq.e
          have := ka10 p _ (fun z => hp0 (by rw [z]; exact om.h0)) e
          exact ⟨this.2 hq.g, pl, st, xs, this.1, r⟩
        refine ⟨G10, g, sgk.trans (sl.trans (s8.trans (s9.trans s10))), hq, rest - x, es ++ [(1 + x, dp + 1)], _, _, rfl, ks10 ln _ nnm on, ks10 lw _ nwm ow, by rw [List.map_append]; exact om, by omega, ?_, by simp [hel], ?_⟩
        · rw [sumR_app]
          have : sumR [((1 : Int) + x, dp + 1)] = 1 + x := by simp [sumR]
          rw [this]
          omega
        · intro q hq
          rcases List.mem_append.mp hq with h | h
          · exact hes q h
          · rw [List.mem_singleton.mp h]
            show 1 ≤ 1 + x
            omega
      · rintro σ' G8 H8 g s8 ⟨hq, rest, es, o9, o10, rfl, on, ow, om, hr0, hrs, hel, hes⟩
        rw [List.length_map, List.length_range, Int.toNat_natCast] at hrs hel
        obtain ⟨G9, g, s9, r_more, ks9, nn⟩ := om.frz g
        have hq : PoolAt p G9 H8 := ⟨nn p (fun z => hp0 (by rw [z]; exact om.h0)) hq.g, hq.e⟩
        have on := ks9 ln _ nnm on
        have ow := ks9 lw _ nwm ow
        dsimp only
        refine o_extend (es := es.map rmD) rfl (ed_var rfl r_more) g ow (by simp; omega) fun G10 H10 g s10 ow ks10 ka10 => ?_
        have hq : PoolAt p G10 H10 := by
          obtain ⟨pl, st, xs, e, r⟩ := hq.e
          have := ka10 p _ (fun z => hp0 (by rw [z]; exact ow.h0)) e
          exact ⟨this.2 hq.g, pl, st, xs, this.1, r⟩
        refine ⟨G10, g, sg.trans (s5.trans (s6.trans (s7.trans (s8.trans (s9.trans s10))))), hq, ns ++ [a], ws ++ es, _, _, _, _, _, _, _, _, rfl, ks10 ln _ nlw on, by rw [List.map_append]; exact ow, ?_, ?_, ?_, ?_, by simp; omega⟩
        · intro q hq
          rcases List.mem_append.mp hq with h | h
          · exact hws' q h
          · exact hes q h
        · rw [sumR_app]
          simp only [List.length_append, List.length_cons, List.length_nil]
          omega
        · intro rest' h
          rw [List.append_assoc]
          refine hpre _ ?_
          rw [List.length_append, List.length_cons, List.length_nil]
          refine Pre.cons ?_
          rw [List.length_append, hel] at h
          exact h
        · intro q hq
          rcases List.mem_append.mp hq with h | h
          · exact hok q h
          · rw [List.mem_singleton.mp h]; exact ⟨ha, hm2⟩
    · rintro σ G' H' g s' ⟨hq, ns, ws, o1, o4, o5, o6, o7, o8, o9, o10, rfl, on, ow, hws, hsum, hpre, hok, hi⟩
      exfalso
      rw [List.length_map, List.length_range] at hi
      have e : ((10 : Int) ^ (9 : Int).toNat).toNat = 1000000000 := by decide
      have := sumR_nn hws
      omega
end
end K18
set_option maxHeartbeats 4000000
namespace K18
open PySem PySem.Spec PyProof.Rows L2 Kd
def chF (kind num : Int) : Fl → Fl
  | .pre => .pre
  | .num n => if kind = 1 then .num n else if kind = 2 then (if n = num then .pre else .num n) else .num (n * 2 + 5)
def chR (kind num : Int) (r : Ro) : Ro := ⟨r.ns.map fun p => (p.1, chF kind num p.2), if kind = 0 then r.t * 5 + 2 else r.t⟩
def chg (kind num : Int) : Nd → Nd
  | .letter n => if kind = 1 ∧ n = num then .plain "int" else if kind = 0 then .letter (n * 3 + 1) else .letter n
  | .func r => .func (chR kind num r)
  | a => a
theorem chg_many (kind num : Int) (a : Nd) : (chg kind num a).many = a.many := by
  cases a with
  | letter n =>
    show (if kind = 1 ∧ n = num then Nd.plain "int" else if kind = 0 then .letter (n * 3 + 1) else .letter n).many = 0
    by_cases h : kind = 1 ∧ n = num
    · rw [if_pos h]; rfl
    · rw [if_neg h]
      by_cases h2 : kind = 0
      · rw [if_pos h2]; rfl
      · rw [if_neg h2]; rfl
  | _ => rfl
section
variable {P : Program} {w : World} {K : PySem.W.Frag} {mg : Str → Option Value} {base : Heap}
def rFl : List D → D → Prop := fun ds d => ∃ (f : Fl) (kind num : Int), ds = [f.d, .int kind, .int num] ∧ d = (chF kind num f).d
abbrev N_law_flag : List Str := ["flag", "kind", "number"]
theorem sc_law_flag : FnScope ["flag", "kind", "number"] ["flag", "kind", "number"] (defScope s_law_flag) := ⟨rfl, rfl, rfl, by decide +kernel, rfl, by decide +kernel, by decide +kernel⟩
theorem ok_law_flag (T : Tx K mg) : Good P w K mg base CX0 "_law_flag" 2 ["flag", "kind", "number"] (spRel rFl) := by
  obtain ⟨fd, F⟩ := T.f__law_flag
  refine ⟨T.m__law_flag, F.kp, fd, ?_, F.bindsN fun _ _ _ _ _ _ us hl => match us, hl with | [_, _, _], _ => rfl⟩
  refine F.ok sc_law_flag (fun vs H Q E h => ?_) (fun cdv A outer s H vs Q E hr h => ?_)
  · obtain ⟨G, ds, d, _, r, ⟨f, kind, num, rfl, _⟩, _⟩ := h
    exact r.len
  · obtain ⟨G, ds, d, s0, r, ⟨f, kind, num, rfl, rfl⟩, k⟩ := h
    obtain ⟨v1, _, rfl, r_flag, v2, _, rfl, r_kind, v3, _, rfl, r_number, rfl⟩ := r
    refine ⟨_, PSs.nox ((pss_cons (ps_if (PW.pt (pw_or (pt_cmpR (op_eqS hr.units) (pv 0) pe_str (nomark _)) (pw_or (pt_cmpR op_eq (pv 1) pe_int (nomark _)) (pw_or1 (PW.pt (pw_and (pt_cmpR op_eq (pv 1) pe_int (nomark _)) (pw_and1 (pt_cmpR op_ne (pe_ix ix_tup (pv 0) pe_int (fun _ _ => rfl)) (pv 2) (nomark _))))))))) (pss_one (ps_ret (pv 0))) pss_nil)
    (pss_one (ps_ret (pe_ifExp (pt_cmpR op_eq (pv 1) pe_int (nomark _)) pe_str (pe_tup (pa_cons pe_str (pa_cons (pe_op op_add (pe_op op_mul (pe_ix ix_tup (pv 0) pe_int (fun _ _ => rfl)) pe_int) pe_int) pa_nil)))))))), ?_⟩
    have g := gr0 (M := []) s0
    cases f with
    | pre =>
      have r_flag : Rp G (.str "pre") v1 := r_flag
      exact s_ifT (eb_orT ((eb_test (ed_op (ed_var rfl r_flag) ed_str fun _ _ => rd_eqS rfl)).to (c := true) rfl)) g fun H1 g => s_ret (ed_var rfl r_flag) g k
    | num n =>
      have r_flag : Rp G (.tup [.str "flag", .int n]) v1 := r_flag
      have k : ∀ v G' H', Gp _ H G' H' → Rp G' (chF kind num (.num n)).d v → Q v H' := k
      rw [show chF kind num (.num n) = if kind = 1 then Fl.num n else if kind = 2 then (if n = num then .pre else .num n) else .num (n * 2 + 5) from rfl] at k
      refine s_if (eb_orF ((eb_test (ed_op (ed_var rfl r_flag) ed_str fun _ _ => rd_eqS rfl)).to (c := false) rfl) (eb_or (eb_test (ed_op (ed_var rfl r_kind) ed_int fun _ _ => rd_eq rfl)) fun _ => eb_and (eb_test (ed_op (ed_var rfl r_kind) ed_int fun _ _ => rd_eq rfl)) fun _ => (eb_test (ed_op (ed_op (ed_var rfl r_flag) ed_int fun _ _ => rd_ixT at1) (ed_var rfl r_number) fun _ _ => rd_ne rfl)))) g (fun hb H1 g => ?_) fun hb H1 g => ?_
      · refine s_ret (ed_var rfl r_flag) g fun v G' H' g r => k v G' H' g ?_
        have hb : (decide (kind = 1) || (decide (kind = 2) && !decide (n = num))) = true := hb
        by_cases h1 : kind = 1
        · rw [if_pos h1]; exact r
        · rw [decide_eq_false h1, Bool.false_or, Bool.and_eq_true] at hb
          have h2 := of_decide_eq_true hb.1
          have h3 : ¬ n = num := by simpa using hb.2
          rw [if_neg h1, if_pos h2, if_neg h3]
          exact r
      · dsimp only
        have hb : (decide (kind = 1) || (decide (kind = 2) && !decide (n = num))) = false := hb
        rw [Bool.or_eq_false_iff] at hb
        have h1 := of_decide_eq_false hb.1
        rw [if_neg h1] at k
        refine s_ret (ed_ifc (eb_test (ed_op (ed_var rfl r_kind) ed_int fun _ _ => rd_eq rfl)) (fun _ => ed_str) fun _ => ed_tup (eds_cons ed_str (eds_cons (ed_op (ed_op (ed_op (ed_var rfl r_flag) ed_int fun _ _ => rd_ixT at1) ed_int fun _ _ => rd_Ii (.inr ⟨by decide, by decide⟩)) ed_int fun _ _ => rd_I0i) eds_nil)) (Nat.le_of_ble_eq_true rfl)) g fun v G' H' g r => k v G' H' g ?_
        by_cases h2 : kind = 2
        · have h3 : n = num := by
            have := hb.2
            rw [decide_eq_true h2, Bool.true_and] at this
            simpa using this
          rw [if_pos h2, if_pos h3]
          rw [if_pos (decide_eq_true h2)] at r
          exact r
        · rw [if_neg h2]
          rw [if_neg (by rw [decide_eq_false h2]; simp)] at r
          exact r
def rChg : List D → D → Prop := fun ds d => ∃ (ns : List Nd) (kind num : Int), ds = [.lst (ns.map ndD), .int kind, .int num] ∧ (∀ a ∈ ns, okNd a) ∧ ns.length ≤ 900 ∧ d = .lst ((ns.map (chg kind num)).map ndD)
def mapN (kind num : Int) : D → D
  | .tup [.str z, .str s] => if s = "pre" then nmD (z, chF kind num .pre) else .non
  | .tup [.str z, .tup [_, .int n]] => nmD (z, chF kind num (.num n))
  | _ => .non
theorem mapN_nm (kind num : Int) (q : Str × Fl) : mapN kind num (nmD q) = nmD (q.1, chF kind num q.2) := by
  obtain ⟨z, f⟩ := q
  cases f with
  | pre => show (if ("pre" : Str) = "pre" then nmD (z, chF kind num .pre) else D.non) = _; rw [if_pos rfl]
  | num n => rfl
abbrev N_law_changed : List Str := ["nodes", "kind", "number", "found", "word", "held", "many", "named", "name", "flag"]
theorem sc_law_changed : FnScope ["nodes", "kind", "number", "found", "word", "held", "many", "named", "name", "flag"] ["nodes", "kind", "number"] (defScope s_law_changed) := ⟨rfl, rfl, rfl, by decide +kernel, rfl, by decide +kernel, by decide +kernel⟩
theorem ok_law_changed (T : Tx K mg) : Good P w K mg base CX0 "_law_changed" 3 ["nodes", "kind", "number"] (spRel rChg) := by
  obtain ⟨fd, F⟩ := T.f__law_changed
  refine ⟨T.m__law_changed, F.kp, fd, ?_, F.bindsN fun _ _ _ _ _ _ us hl => match us, hl with | [_, _, _], _ => rfl⟩
  have G_law_flag := ok_law_flag (P := P) (w := w) (base := base) T
  refine F.ok sc_law_changed (fun vs H Q E h => ?_) (fun cdv A outer s H vs Q E hr h => ?_)
  · obtain ⟨G, ds, d, _, r, ⟨ns, kind, num, rfl, _⟩, _⟩ := h
    exact r.len
  · obtain ⟨G, ds, d, s0, r, ⟨ns, kind, num, rfl, hok, hlen, rfl⟩, k⟩ := h
    obtain ⟨v1, _, rfl, r_nodes, v2, _, rfl, r_kind, v3, _, rfl, r_number, rfl⟩ := r
    cases (show v2 = .int kind from r_kind)
    cases (show v3 = .int num from r_number)
    clear r_kind r_number
    have r_kind : ∀ {G'}, Rp G' (.int kind) (.int kind) := rfl
    have r_number : ∀ {G'}, Rp G' (.int num) (.int num) := rfl
    refine ⟨_, PSs.nox ((pss_cons (ps_set (i := 3) sc_law_changed.nd rfl (Or.inl rfl) (pe_lst pa_nil))
    (pss_cons (ps_for PassesOwn.never rfl (pi_list (pv 0)) (pg_tup rfl (pgs_cons (pg_name (i := 4) sc_law_changed.nd rfl (Or.inl rfl)) (pgs_cons (pg_name (i := 5) sc_law_changed.nd rfl (Or.inl rfl)) (pgs_cons (pg_name (i := 6) sc_law_changed.nd rfl (Or.inl rfl)) pgs_nil)))) (pss_cons (ps_if (PW.pt (pw_and (pt_cmpR op_eq (pv 4) pe_str (nomark _)) (pw_and (pt_cmpR op_eq (pv 1) pe_int (nomark _)) (pw_and1 (pt_cmpR op_eq (pv 5) (pv 2) (nomark _)))))) (pss_one (ps_asg (pe_tup (pa_cons pe_str (pa_cons pe_non pa_nil))) (pg_tup rfl (pgs_cons (pg_name (i := 4) sc_law_changed.nd rfl (Or.inl rfl)) (pgs_cons (pg_name (i := 5) sc_law_changed.nd rfl (Or.inl rfl)) pgs_nil))))) (pss_one (ps_if (PW.pt (pw_and (pt_cmpR op_eq (pv 4) pe_str (nomark _)) (pw_and1 (pt_cmpR op_eq (pv 1) pe_int (nomark _))))) (pss_one (ps_set (i := 5) sc_law_changed.nd rfl (Or.inl rfl) (pe_op op_add (pe_op op_mul (pv 5) pe_int) pe_int))) (pss_one (ps_if (pt_cmpR op_eq (pv 4) pe_str (nomark _)) (pss_cons (ps_setLc (i := 7) rfl sc_law_changed.nd rfl rfl (sw_true rfl rfl rfl (by decide +kernel)) (own := [("name", 8), ("flag", 9)]) (pi_list (pe_ix ix_tup (pv 5) pe_int (fun _ _ => rfl))) (blkOk_by (own := [("name", 8), ("flag", 9)]) (N := ["nodes", "kind", "number", "found", "word", "held", "many", "named", "name", "flag"]) (sc := defScope s_law_changed) (by decide +kernel)) (fun _ _ _ _ _ => by exact (pgK_tup (K := K) (n := 2) rfl rfl (pgs_cons (pg_name (i := 8) sc_law_changed.nd rfl (Or.inl rfl)) (pgs_cons (pg_name (i := 9) sc_law_changed.nd rfl (Or.inl rfl)) pgs_nil)))) (fun _ _ _ _ _ => by exact pts_nil) (fun _ _ _ _ _ => by exact (pe_tup (pa_cons (pv 8) (pa_cons (pe_g G_law_flag (hr.mono (by decide)) (pa_cons (pv 9) (pa_cons (pv 1) (pa_cons (pv 2) pa_nil)))) pa_nil)))))
    (pss_one (ps_set (i := 5) sc_law_changed.nd rfl (Or.inl rfl) (pe_tup (pa_cons (pv 7) (pa_cons (pe_ifExp (pt_cmpR op_eq (pv 1) pe_int (nomark _)) (pe_op op_add (pe_op op_mul (pe_ix ix_tup (pv 5) pe_int (fun _ _ => rfl)) pe_int) pe_int) (pe_ix ix_tup (pv 5) pe_int (fun _ _ => rfl))) pa_nil)))))) pss_nil)))))
    (pss_one (ps_expr (pe_bm PySem.F.plainAttrs_list PySem.F.slot_list_append PySem.F.type_list_append mt_append (pv 3) (pa_cons (pe_tup (pa_cons (pv 4) (pa_cons (pv 5) (pa_cons (pv 6) pa_nil)))) pa_nil))))))
    (pss_one (ps_ret (pv 3)))))), ?_⟩
    have g := gr0 (M := []) s0
    refine o_new eds_nil (Nat.zero_le _) g fun lf G1 H1 g s1 k1 of _ => ?_
    dsimp only
    refine s_seq (s_for (σ := [some v1, some (.int kind), some (.int num), some (.ref lf), none, none, none, none, none, none]) (items := ns.map ndD) (es_list (ed_var rfl (r_nodes.mono s1))) g (fun i σ G' H' => ∃ o4 o5 o6 o7, σ = [some v1, some (.int kind), some (.int num), some (.ref lf), o4, o5, o6, o7, none, none] ∧ Own H G' H' lf (((ns.take i).map (chg kind num)).map ndD)) (fun G' H' g' s' k' => ⟨_, _, _, _, rfl, of.kp s' k'⟩) ?_ ?_)
    · rintro Gs i d v σ Gi Hi Gj Hj hd sg sgi ⟨o4, o5, o6, o7, rfl, of⟩ g sj kj rv
      have of := of.kp sj kj
      have sg := sgi.trans sj
      rw [List.getElem?_map] at hd
      obtain ⟨a, ha, rfl⟩ := Option.map_eq_some_iff.mp hd
      have hoka := hok a (List.mem_of_getElem? ha)
      have htl : (ns.take i).length < 900 := by
        have := (List.getElem?_eq_some_iff.mp ha).1
        rw [List.length_take]
        omega
      have r_node : Rp Gj (.tup [.str (hdN a), heldD a, .int (a.many : Nat)]) v := rv
      refine g_three g.s r_node rfl fun x y z rx ry rz => ?_
      dsimp only
      have fin : ∀ (D' : Ends) (G2 H2 : Hp) (x' y' : V) (o7 : Option V), Gr [] G H G2 H2 → Same Gj G2 → Own H G2 H2 lf (((ns.take i).map (chg kind num)).map ndD) → Rp G2 (.str (hdN (chg kind num a))) x' → Rp G2 (heldD (chg kind num a)) y' →
          (∀ G3 H3, Gr [] G H G3 H3 → Same Gs G3 → Own H G3 H3 lf (((ns.take (i + 1)).map (chg kind num)).map ndD) → D'.nx [some v1, some (.int kind), some (.int num), some (.ref lf), some x', some y', some z, o7, none, none] H3) →
          tDrop (tBM K "list" rAppend (tVar 3) (tCons (tTup (tCons (tVar 4) (tCons (tVar 5) (tCons (tVar 6) tNil)))) tNil)) D' [some v1, some (.int kind), some (.int num), some (.ref lf), some x', some y', some z, o7, none, none] H2 := by
        intro D' G2 H2 x' y' o7 g2 s2 of2 hx hy hD
        refine o_append (d := ndD (chg kind num a)) rfl ((ed_tup (eds_cons (ed_var rfl hx) (eds_cons (ed_var rfl hy) (eds_cons (ed_var rfl (rz.mono s2)) eds_nil))) (Nat.le_of_ble_eq_true rfl)).to (by rw [← chg_many kind num a]; rfl)) g2 of2 (by simp only [List.length_map]; omega) fun G3 H3 g3 s3 of3 _ _ => ?_
        refine hD G3 H3 g3 (sg.trans (s2.trans s3)) ?_
        rw [take_snoc ha, List.map_append, List.map_append]
        exact of3
      cases a with
      | letter n =>
        have rx : Rp Gj (.str "letter") x := rx
        have ry : Rp Gj (.int n) y := ry
        refine s_if' (eb_andT ((eb_test (ed_op (ed_var rfl rx) ed_str fun _ _ => rd_eq rfl)).to (c := true) rfl) (eb_and (eb_test (ed_op (ed_var rfl r_kind) ed_int fun _ _ => rd_eq rfl)) fun _ => eb_test (ed_op (ed_var rfl ry) (ed_var rfl r_number) fun _ _ => rd_eq rfl))) g (fun hb H2 g k2 => ?_) fun hb H2 g k2 => ?_
        · have of := of.kp (Same.refl _) k2
          have hb : (decide (kind = 1) && decide (n = num)) = true := hb
          rw [Bool.and_eq_true] at hb
          have e : chg kind num (.letter n) = .plain "int" := by
            show (if kind = 1 ∧ n = num then Nd.plain "int" else _) = _
            rw [if_pos ⟨of_decide_eq_true hb.1, of_decide_eq_true hb.2⟩]
          refine (ed_tup (eds_cons ed_str (eds_cons ed_non eds_nil)) (Nat.le_of_ble_eq_true rfl) : Ed _ _ Gj (.tup [.str "int", .non])) H2 g.s _ fun vt G3 H3 g3 r3 => ?_
          have of := of.kp g3.g g3.kp
          have g := g.call g3
          refine g_two g.s r3 rfl fun x' y' rx' ry' => ?_
          refine fin _ G3 H3 x' y' o7 g g3.g of (by rw [e]; exact rx') (by rw [e]; exact ry') fun G4 H4 g4 s4 of4 => ⟨G4, g4, s4, _, _, _, _, rfl, of4⟩
        · have of := of.kp (Same.refl _) k2
          have hb : (decide (kind = 1) && decide (n = num)) = false := hb
          have hnb : ¬ (kind = 1 ∧ n = num) := by
            rintro ⟨h1, h2⟩
            rw [decide_eq_true h1, decide_eq_true h2] at hb
            cases hb
          refine s_if' (eb_andT ((eb_test (ed_op (ed_var rfl rx) ed_str fun _ _ => rd_eq rfl)).to (c := true) rfl) (eb_test (ed_op (ed_var rfl r_kind) ed_int fun _ _ => rd_eq rfl))) g (fun hb2 H3 g k3 => ?_) fun hb2 H3 g k3 => ?_
          · have of := of.kp (Same.refl _) k3
            have e : chg kind num (.letter n) = .letter (n * 3 + 1) := by
              show (if kind = 1 ∧ n = num then Nd.plain "int" else if kind = 0 then .letter (n * 3 + 1) else .letter n) = _
              rw [if_neg hnb, if_pos (of_decide_eq_true hb2)]
            refine s_set' (ed_op (ed_op (ed_var rfl ry) ed_int fun _ _ => rd_Ii (.inr ⟨by decide, by decide⟩)) ed_int fun _ _ => rd_I0i) g fun v' G4 H4 g s4 k4 r4 => ?_
            have of := of.kp s4 k4
            refine fin _ G4 H4 x v' o7 g s4 of (by rw [e]; exact rx.mono s4) (by rw [e]; exact r4) fun G5 H5 g5 s5 of5 => ⟨G5, g5, s5, _, _, _, _, rfl, of5⟩
          · have of := of.kp (Same.refl _) k3
            have e : chg kind num (.letter n) = .letter n := by
              show (if kind = 1 ∧ n = num then Nd.plain "int" else if kind = 0 then .letter (n * 3 + 1) else .letter n) = _
              rw [if_neg hnb, if_neg (of_decide_eq_false hb2)]
            refine s_if' ((eb_test (ed_op (ed_var rfl rx) ed_str fun _ _ => rd_eq rfl)).to (c := false) rfl) g (fun z => nomatch z) fun _ H4 g k4 => ?_
            refine fin _ Gj H4 x y o7 g (Same.refl _) (of.kp (Same.refl _) k4) (by rw [e]; exact rx) (by rw [e]; exact ry) fun G5 H5 g5 s5 of5 => ⟨G5, g5, s5, _, _, _, _, rfl, of5⟩
      | func r =>
        have rx : Rp Gj (.str "fun") x := rx
        have ry : Rp Gj (.tup [.lst (r.ns.map nmD), .int r.t]) y := ry
        refine s_if' (eb_andF ((eb_test (ed_op (ed_var rfl rx) ed_str fun _ _ => rd_eq rfl)).to (c := false) rfl)) g (fun z => nomatch z) fun _ H2 g k2 => ?_
        have of := of.kp (Same.refl _) k2
        refine s_if' (eb_andF ((eb_test (ed_op (ed_var rfl rx) ed_str fun _ _ => rd_eq rfl)).to (c := false) rfl)) g (fun z => nomatch z) fun _ H3 g k3 => ?_
        have of := of.kp (Same.refl _) k3
        refine s_if' ((eb_test (ed_op (ed_var rfl rx) ed_str fun _ _ => rd_eq rfl)).to (c := true) rfl) g (fun _ H4 g k4 => ?_) fun z => nomatch z
        have of := of.kp (Same.refl _) k4
        refine s_set' (d := .lst ((chR kind num r).ns.map nmD)) ((ed_lcAll (items := r.ns.map nmD) (mapN kind num) (es_list (ed_op (ed_var rfl ry) ed_int fun _ _ => rd_ixT at0)) (by rw [List.length_map]; have := hoka.len; omega) ?_).to ?_) g fun v' G5 H5 g s5 k5 r5 => ?_
        · intro d hd G' s'
          obtain ⟨q, hq, rfl⟩ := List.mem_map.mp hd
          rw [mapN_nm]
          exact tk_tup rfl (tkl_cons fun x1 h1 => tkl_cons fun x2 h2 => tkl_nil ⟨rfl, ed_tup (eds_cons (ed_var rfl h1) (eds_cons (ed_rel (eds_cons (ed_var rfl h2) (eds_cons (ed_var rfl r_kind) (eds_cons (ed_var rfl r_number) eds_nil))) ⟨q.2, kind, num, rfl, rfl⟩) eds_nil)) (Nat.le_of_ble_eq_true rfl)⟩)
        · rw [List.map_map]
          show D.lst _ = D.lst ((r.ns.map fun p => (p.1, chF kind num p.2)).map nmD)
          rw [List.map_map]
          congr 1
          exact List.map_congr_left fun q _ => mapN_nm kind num q
        have of := of.kp s5 k5
        refine s_set' (d := (chR kind num r).d) ((ed_tup (eds_cons (ed_var rfl r5) (eds_cons (ed_ifc (eb_test (ed_op (ed_var rfl r_kind) ed_int fun _ _ => rd_eq rfl)) (fun _ => ed_op (ed_op (ed_op (ed_var rfl (ry.mono s5)) ed_int fun _ _ => rd_ixT at1) ed_int fun _ _ => rd_Ii (.inr ⟨by decide, by decide⟩)) ed_int fun _ _ => rd_I0i) fun _ => ed_op (ed_var rfl (ry.mono s5)) ed_int fun _ _ => rd_ixT at1) eds_nil)) (Nat.le_of_ble_eq_true rfl)).to ?_) g fun v6 G6 H6 g s6 k6 r6 => ?_
        · show D.tup [_, _] = D.tup [.lst ((chR kind num r).ns.map nmD), .int (if kind = 0 then r.t * 5 + 2 else r.t)]
          by_cases h : kind = 0
          · rw [if_pos (decide_eq_true h), if_pos h]
          · rw [if_neg (by rw [decide_eq_false h]; simp), if_neg h]
        have of := of.kp s6 k6
        refine fin _ G6 H6 x v6 _ g (s5.trans s6) of (rx.mono (s5.trans s6)) r6 fun G7 H7 g7 s7 of7 => ⟨G7, g7, s7, _, _, _, _, rfl, of7⟩
      | plain z' =>
        obtain ⟨_, n1, n2, n3, n4, _⟩ := plain_word hoka
        have rx : Rp Gj (.str z') x := rx
        refine s_if' (eb_andF ((eb_test (ed_op (ed_var rfl rx) ed_str fun _ _ => rd_eq rfl)).to (decide_eq_false n4))) g (fun z => nomatch z) fun _ H2 g k2 => ?_
        have of := of.kp (Same.refl _) k2
        refine s_if' (eb_andF ((eb_test (ed_op (ed_var rfl rx) ed_str fun _ _ => rd_eq rfl)).to (decide_eq_false n4))) g (fun z => nomatch z) fun _ H3 g k3 => ?_
        have of := of.kp (Same.refl _) k3
        refine s_if' ((eb_test (ed_op (ed_var rfl rx) ed_str fun _ _ => rd_eq rfl)).to (decide_eq_false n2)) g (fun z => nomatch z) fun _ H4 g k4 => ?_
        have of := of.kp (Same.refl _) k4
        refine fin _ Gj H4 x y o7 g (Same.refl _) of rx ry fun G5 H5 g5 s5 of5 => ⟨G5, g5, s5, _, _, _, _, rfl, of5⟩
      | pair =>
        have rx : Rp Gj (.str "pair") x := rx
        refine s_if' (eb_andF ((eb_test (ed_op (ed_var rfl rx) ed_str fun _ _ => rd_eq rfl)).to (c := false) rfl)) g (fun z => nomatch z) fun _ H2 g k2 => ?_
        have of := of.kp (Same.refl _) k2
        refine s_if' (eb_andF ((eb_test (ed_op (ed_var rfl rx) ed_str fun _ _ => rd_eq rfl)).to (c := false) rfl)) g (fun z => nomatch z) fun _ H3 g k3 => ?_
        have of := of.kp (Same.refl _) k3
        refine s_if' ((eb_test (ed_op (ed_var rfl rx) ed_str fun _ _ => rd_eq rfl)).to (c := false) rfl) g (fun z => nomatch z) fun _ H4 g k4 => ?_
        have of := of.kp (Same.refl _) k4
        refine fin _ Gj H4 x y o7 g (Same.refl _) of rx ry fun G5 H5 g5 s5 of5 => ⟨G5, g5, s5, _, _, _, _, rfl, of5⟩
      | data z' m' =>
        have rx : Rp Gj (.str "data") x := rx
        refine s_if' (eb_andF ((eb_test (ed_op (ed_var rfl rx) ed_str fun _ _ => rd_eq rfl)).to (c := false) rfl)) g (fun z => nomatch z) fun _ H2 g k2 => ?_
        have of := of.kp (Same.refl _) k2
        refine s_if' (eb_andF ((eb_test (ed_op (ed_var rfl rx) ed_str fun _ _ => rd_eq rfl)).to (c := false) rfl)) g (fun z => nomatch z) fun _ H3 g k3 => ?_
        have of := of.kp (Same.refl _) k3
        refine s_if' ((eb_test (ed_op (ed_var rfl rx) ed_str fun _ _ => rd_eq rfl)).to (c := false) rfl) g (fun z => nomatch z) fun _ H4 g k4 => ?_
        have of := of.kp (Same.refl _) k4
        refine fin _ Gj H4 x y o7 g (Same.refl _) of rx ry fun G5 H5 g5 s5 of5 => ⟨G5, g5, s5, _, _, _, _, rfl, of5⟩
    · rintro σ G' H' g s' ⟨o4, o5, o6, o7, rfl, of⟩
      rw [List.length_map, List.take_length] at of
      obtain ⟨G9, g, s9, r_found, _, _⟩ := of.frz g
      dsimp only
      exact s_ret (ed_var rfl r_found) g k
end
end K18
set_option maxHeartbeats 4000000
namespace K18
open PySem PySem.Spec PyProof.Rows L2 Kd
def letOf : Nd → Option Int
  | .letter n => some n
  | _ => none
def flOf : Str × Fl → Option Int
  | (_, .num n) => some n
  | _ => none
def flsOf : Nd → List Int
  | .func r => r.ns.filterMap flOf
  | _ => []
def isLetD : D → Bool
  | .tup (.str s :: _) => decide (s = "letter")
  | _ => false
def sndD : D → D
  | .tup (_ :: b :: _) => b
  | _ => .non
def isNumD : D → Bool
  | .tup [_, b] => !eqS b "pre"
  | _ => false
def numD : D → D
  | .tup [_, .tup [_, n]] => n
  | _ => .non
theorem lets_eq : ∀ ns : List Nd, (∀ a ∈ ns, okNd a) → ((ns.map ndD).filter isLetD).map sndD = (ns.filterMap letOf).map .int
  | [], _ => rfl
  | a :: ns, h => by
    have ih := lets_eq ns fun b hb => h b (by simp [hb])
    have ha := h a (by simp)
    rw [List.map_cons]
    have e : isLetD (ndD a) = decide (hdN a = "letter") := rfl
    cases a with
    | letter n =>
      rw [List.filter_cons_of_pos (by rfl), List.map_cons, ih]
      rfl
    | plain w =>
      have : ¬ w = "letter" := (plain_word ha).2.2.2.2.1
      rw [List.filter_cons_of_neg (by rw [e, decide_eq_false (show ¬ hdN (Nd.plain w) = "letter" from this)]; simp), ih]
      rfl
    | pair => rw [List.filter_cons_of_neg (by rw [e]; simp only [hdN]; decide), ih]; rfl
    | data s m =>
      rw [List.filter_cons_of_neg (by rw [e]; show ¬ decide (("data" : Str) = "letter") = true; decide), ih]; rfl
    | func r =>
      rw [List.filter_cons_of_neg (by rw [e]; show ¬ decide (("fun" : Str) = "letter") = true; decide), ih]; rfl
theorem fls_eq : ∀ fs : List (Str × Fl), ((fs.map nmD).filter isNumD).map numD = (fs.filterMap flOf).map .int
  | [] => rfl
  | (z, .pre) :: fs => by
    rw [List.map_cons, List.filter_cons_of_neg (by show ¬ (!eqS (.str "pre") "pre") = true; decide), fls_eq fs]
    rfl
  | (z, .num n) :: fs => by
    rw [List.map_cons, List.filter_cons_of_pos (by rfl), List.map_cons, fls_eq fs]
    rfl
section
variable {P : Program} {w : World} {K : PySem.W.Frag} {mg : Str → Option Value} {base : Heap}
def lfD (ns : List Nd) : D := .tup [.lst ((ns.filterMap letOf).map .int), .lst ((ns.flatMap flsOf).map .int)]
def rNumbers : List D → D → Prop := fun ds d => ∃ (ns : List Nd), ds = [.lst (ns.map ndD)] ∧ (∀ a ∈ ns, okNd a) ∧ ns.length ≤ 900 ∧ d = lfD ns
theorem fls_len {a : Nd} (h : okNd a) : (flsOf a).length ≤ 6 := by
  cases a with
  | func r => exact Nat.le_trans (List.length_filterMap_le _ _) h.len
  | _ => exact Nat.zero_le _
theorem flss_len : ∀ {ns : List Nd}, (∀ a ∈ ns, okNd a) → (ns.flatMap flsOf).length ≤ 6 * ns.length
  | [], _ => Nat.zero_le _
  | a :: ns, h => by
    have h1 := fls_len (h a (by simp))
    have h2 := flss_len (ns := ns) fun b hb => h b (by simp [hb])
    rw [List.flatMap_cons, List.length_append, List.length_cons]
    omega
abbrev N_law_numbers : List Str := ["nodes", "word", "held", "many", "letters", "flags", "name", "flag"]
theorem sc_law_numbers : FnScope ["nodes", "word", "held", "many", "letters", "flags", "name", "flag"] ["nodes"] (defScope s_law_numbers) := ⟨rfl, rfl, rfl, by decide +kernel, rfl, by decide +kernel, by decide +kernel⟩
theorem ok_law_numbers (T : Tx K mg) : Good P w K mg base CX0 "_law_numbers" 2 ["nodes"] (spRel rNumbers) := by
  obtain ⟨fd, F⟩ := T.f__law_numbers
  refine ⟨T.m__law_numbers, F.kp, fd, ?_, F.bindsN fun _ _ _ _ _ _ us hl => match us, hl with | [_], _ => rfl⟩
  refine F.ok sc_law_numbers (fun vs H Q E h => ?_) (fun cdv A outer s H vs Q E hr h => ?_)
  · obtain ⟨G, ds, d, _, r, ⟨ns, rfl, _⟩, _⟩ := h
    exact r.len
  · obtain ⟨G, ds, d, s0, r, ⟨ns, rfl, hok, hlen, rfl⟩, k⟩ := h
    obtain ⟨v1, _, rfl, r_nodes, rfl⟩ := r
    refine ⟨_, PSs.nox ((pss_cons (ps_par (i := 4) (j := 5) (by rfl) sc_law_numbers.nd rfl rfl (by decide) rfl rfl (pa_cons (pe_lc (own := [("word", 1), ("held", 2), ("many", 3)]) rfl sc_law_numbers.nd (pi_list (pv 0)) (blkOk_by (own := [("word", 1), ("held", 2), ("many", 3)]) (N := ["nodes", "word", "held", "many", "letters", "flags", "name", "flag"]) (sc := defScope s_law_numbers) (by decide +kernel)) (fun _ _ _ _ _ => by exact (pgK_tup (K := K) (n := 3) rfl rfl (pgs_cons (pg_name (i := 1) sc_law_numbers.nd rfl (Or.inl rfl)) (pgs_cons (pg_name (i := 2) sc_law_numbers.nd rfl (Or.inl rfl)) (pgs_cons (pg_name (i := 3) sc_law_numbers.nd rfl (Or.inl rfl)) pgs_nil))))) (fun _ _ _ _ _ => by exact (pts_one (pt_cmpR op_eq (pv 1) pe_str (nomark _)))) (fun _ _ _ _ _ => by exact (pv 2))) (pa_cons (pe_lst pa_nil) pa_nil)) (by rfl))
    (pss_cons (ps_for PassesOwn.never rfl (pi_list (pv 0)) (pg_tup rfl (pgs_cons (pg_name (i := 1) sc_law_numbers.nd rfl (Or.inl rfl)) (pgs_cons (pg_name (i := 2) sc_law_numbers.nd rfl (Or.inl rfl)) (pgs_cons (pg_name (i := 3) sc_law_numbers.nd rfl (Or.inl rfl)) pgs_nil)))) (pss_one (ps_if (pt_cmpR op_eq (pv 1) pe_str (nomark _)) (pss_one (ps_set (i := 5) sc_law_numbers.nd rfl (Or.inl rfl) (pe_op op_cat (pv 5) (pe_lc (own := [("name", 6), ("flag", 7)]) rfl sc_law_numbers.nd (pi_list (pe_ix ix_tup (pv 2) pe_int (fun _ _ => rfl))) (blkOk_by (own := [("name", 6), ("flag", 7)]) (N := ["nodes", "word", "held", "many", "letters", "flags", "name", "flag"]) (sc := defScope s_law_numbers) (by decide +kernel)) (fun _ _ _ _ _ => by exact (pgK_tup (K := K) (n := 2) rfl rfl (pgs_cons (pg_name (i := 6) sc_law_numbers.nd rfl (Or.inl rfl)) (pgs_cons (pg_name (i := 7) sc_law_numbers.nd rfl (Or.inl rfl)) pgs_nil)))) (fun _ _ _ _ _ => by exact (pts_one (pt_cmpR (opK_neS (K := K) rfl hr.units) (pv 7) pe_str (nomark _)))) (fun _ _ _ _ _ => by exact (pe_ix (ixK_tup (K := K) rfl) (pv 7) pe_int (fun _ _ => rfl))))))) pss_nil)))
    (pss_one (ps_ret (pe_tup (pa_cons (pv 4) (pa_cons (pv 5) pa_nil)))))))), ?_⟩
    have g := gr0 (M := []) s0
    refine s_par (eds_cons (((ed_lc (items := ns.map ndD) sndD isLetD (es_list (ed_var rfl r_nodes)) (by rw [List.length_map]; omega) ?_).to (by rw [lets_eq ns hok]))) (eds_cons (ed_lst eds_nil (Nat.zero_le _)) eds_nil)) g fun vl vf G1 H1 g s1 r_letters r_flags => ?_
    · intro d hd G' s'
      obtain ⟨a, ha, rfl⟩ := List.mem_map.mp hd
      exact tk_tup rfl (tkl_cons fun x1 h1 => tkl_cons fun x2 h2 => tkl_cons fun x3 h3 => tkl_nil ⟨rfl, eb_test (ed_op (ed_var rfl h1) ed_str fun _ _ => rd_eq rfl), fun _ => ed_var rfl h2⟩)
    dsimp only
    refine s_seq (s_for (σ := [some v1, none, none, none, some vl, some vf, none, none]) (items := ns.map ndD) (es_list (ed_var rfl (r_nodes.mono s1))) g (fun i σ G' H' => Same G1 G' ∧ ∃ vf o3 o4 o5 , σ = [some v1, o3, o4, o5, some vl, some vf, none, none] ∧ Rp G' (.lst (((ns.take i).flatMap flsOf).map .int)) vf) (fun G' H' g' s' k' => ⟨s', _, _, _, _, rfl, r_flags.mono s'⟩) ?_ ?_)
    · rintro Gs i d v σ Gi Hi Gj Hj hd sg sgi ⟨si, vf, o3, o4, o5, rfl, r_fl⟩ g sj kj rv
      rw [List.getElem?_map] at hd
      obtain ⟨a, ha, rfl⟩ := Option.map_eq_some_iff.mp hd
      have hoka := hok a (List.mem_of_getElem? ha)
      have r_node : Rp Gj (.tup [.str (hdN a), heldD a, .int (a.many : Nat)]) v := rv
      have r_fl := r_fl.mono sj
      have hil := (List.getElem?_eq_some_iff.mp ha).1
      have hl1 := flss_len (ns := ns.take i) fun b hb => hok b (List.mem_of_mem_take hb)
      have hl2 := fls_len hoka
      rw [List.length_take] at hl1
      refine g_three g.s r_node rfl fun x y z rx ry rz => ?_
      have et : (ns.take (i + 1)).flatMap flsOf = (ns.take i).flatMap flsOf ++ flsOf a := by
        rw [take_snoc ha, List.flatMap_append]
        simp
      refine s_if (eb_test (ed_op (ed_var rfl rx) ed_str fun _ _ => rd_eq rfl)) g (fun hb H2 g => ?_) fun hb H2 g => ?_
      · obtain ⟨r, rfl⟩ : ∃ r, a = .func r := by
          have hb := of_decide_eq_true hb
          cases a with
          | func r => exact ⟨r, rfl⟩
          | plain w => exact absurd hb (plain_word hoka).2.2.1
          | _ => exact absurd hb (by simp only [hdN]; decide)
        have ry : Rp Gj (.tup [.lst (r.ns.map nmD), .int r.t]) y := ry
        refine s_set (ed_op (ed_var rfl r_fl) ((ed_lc (items := r.ns.map nmD) numD isNumD (es_list (ed_op (ed_var rfl ry) ed_int fun _ _ => rd_ixT at0)) (by rw [List.length_map]; have := hoka.len; omega) ?_).to (by rw [fls_eq])) fun _ _ => rd_cat (by simp only [List.length_map]; have : (r.ns.filterMap flOf).length ≤ 6 := hl2; omega)) g fun v' G5 H5 g s5 r5 => ?_
        · intro d hd G' s'
          obtain ⟨⟨q, f⟩, hq, rfl⟩ := List.mem_map.mp hd
          cases f with
          | pre => exact tk_tup rfl (tkl_cons fun x1 h1 => tkl_cons fun x2 h2 => tkl_nil ⟨rfl, (eb_test (ed_op (ed_var rfl h2) ed_str fun _ _ => rd_eqS rfl)).to rfl, fun z => nomatch z⟩)
          | num n => exact tk_tup rfl (tkl_cons fun x1 h1 => tkl_cons fun x2 h2 => tkl_nil ⟨rfl, (eb_test (ed_op (ed_var rfl h2) ed_str fun _ _ => rd_eqS rfl)).to rfl, fun _ => ed_op (ed_var rfl h2) ed_int fun _ _ => rd_ixT at1⟩)
        · refine ⟨G5, g, sgi.trans (sj.trans s5), si.trans (sj.trans s5), _, _, _, _, rfl, ?_⟩
          rw [et, List.map_append]
          exact r5
      · refine ⟨Gj, g, sgi.trans sj, si.trans sj, _, _, _, _, rfl, ?_⟩
        have : flsOf a = [] := by
          have hb := of_decide_eq_false hb
          cases a with
          | func r => exact absurd rfl hb
          | _ => rfl
        rw [et, this, List.append_nil]
        exact r_fl
    · rintro σ G' H' g s' ⟨si, vf, o3, o4, o5, rfl, r_fl⟩
      rw [List.length_map, List.take_length] at r_fl
      dsimp only
      exact s_ret (ed_tup (eds_cons (ed_var rfl (r_letters.mono si)) (eds_cons (ed_var rfl r_fl) eds_nil)) (Nat.le_of_ble_eq_true rfl)) g k
end
end K18
set_option maxHeartbeats 4000000
namespace K18
open PySem PySem.Spec PyProof.Rows L2 Kd
def bnG : List D := [.str "", .str "a", .str "nil", .str "_A", .str "1A", .str "A-", .str "A b", .str "A.", .str "Abcdefghijklm", .str "A(", .int 5, .non, .bl true, .tup [.str "A"], .lst [.str "A"]]
def bnS1 : List D := [.str "in", .str "do", .str "let", .str "use", .str "data", .str "op", .str "rec", .str "fun", .str "if", .str "int", .str "void", .str "unit", .str "end", .str "handle", .str "return", .str "true"]
def bnS2 : List D := [.str "", .str "A", .str "Get", .str "_a", .str "1a", .str "a-", .str "a b", .str "a.", .str "abcdefghijklm", .int 5, .non, .bl true, .tup [.str "a"], .lst [.str "a"]]
def bnS : List D := bnS1 ++ bnS2
def strOkB : D → Bool
  | .str s => decide (s.length ≤ 1000)
  | _ => true
theorem strOk_of {d : D} (h : strOkB d = true) : strOk d := by
  cases d with
  | str s =>
    show s.length ≤ 1000
    exact of_decide_eq_true h
  | _ => trivial
theorem bnG_bad : (bnG.all fun d => !isGreat d && strOkB d) = true := by decide +kernel
theorem bnS_bad : (bnS.all fun d => !isSmall d && strOkB d) = true := by decide +kernel
theorem bnG_sz : szL bnG ≤ 40 := by simp [bnG, szL, szD]
theorem bnS_sz : szL bnS ≤ 60 := by simp [bnS, bnS1, bnS2, szL, szD]
section
variable {P : Program} {w : World} {K : PySem.W.Frag} {mg : Str → Option Value} {base : Heap}
def rBn : List D → D → Prop := fun ds d => ∃ b : Bool, ds = [.bl b] ∧ d = .lst (if b = true then bnG else bnS)
abbrev N_law_bad_names : List Str := ["great", "words"]
theorem sc_law_bad_names : FnScope ["great", "words"] ["great"] (defScope s_law_bad_names) := ⟨rfl, rfl, rfl, by decide +kernel, rfl, by decide +kernel, by decide +kernel⟩
theorem ok_law_bad_names (T : Tx K mg) : Good P w K mg base CX0 "_law_bad_names" 2 ["great"] (spRel rBn) := by
  obtain ⟨fd, F⟩ := T.f__law_bad_names
  refine ⟨T.m__law_bad_names, F.kp, fd, ?_, F.bindsN fun _ _ _ _ _ _ us hl => match us, hl with | [_], _ => rfl⟩
  refine F.ok sc_law_bad_names (fun vs H Q E h => ?_) (fun cdv A outer s H vs Q E hr h => ?_)
  · obtain ⟨G, ds, d, _, r, ⟨b, rfl, _⟩, _⟩ := h
    exact r.len
  · obtain ⟨G, ds, d, s0, r, ⟨b, rfl, rfl⟩, k⟩ := h
    obtain ⟨v1, _, rfl, r_great, rfl⟩ := r
    refine ⟨_, PSs.nox ((pss_cons (ps_if (pt_val (pv 0)) (pss_one (ps_ret (pe_lst (pa_cons pe_str (pa_cons pe_str (pa_cons pe_str (pa_cons pe_str (pa_cons pe_str (pa_cons pe_str (pa_cons pe_str (pa_cons pe_str (pa_cons pe_str (pa_cons pe_str (pa_cons pe_int (pa_cons pe_non (pa_cons pe_bl (pa_cons (pe_tup (pa_cons pe_str pa_nil)) (pa_cons (pe_lst (pa_cons pe_str pa_nil)) pa_nil)))))))))))))))))) pss_nil)
    (pss_cons (ps_set (i := 1) sc_law_bad_names.nd rfl (Or.inl rfl) (pe_lst (pa_cons pe_str (pa_cons pe_str (pa_cons pe_str (pa_cons pe_str (pa_cons pe_str (pa_cons pe_str (pa_cons pe_str (pa_cons pe_str (pa_cons pe_str (pa_cons pe_str (pa_cons pe_str (pa_cons pe_str (pa_cons pe_str (pa_cons pe_str (pa_cons pe_str (pa_cons pe_str pa_nil))))))))))))))))))
    (pss_one (ps_ret (pe_op op_cat (pv 1) (pe_lst (pa_cons pe_str (pa_cons pe_str (pa_cons pe_str (pa_cons pe_str (pa_cons pe_str (pa_cons pe_str (pa_cons pe_str (pa_cons pe_str (pa_cons pe_str (pa_cons pe_int (pa_cons pe_non (pa_cons pe_bl (pa_cons (pe_tup (pa_cons pe_str pa_nil)) (pa_cons (pe_lst (pa_cons pe_str pa_nil)) pa_nil))))))))))))))))))))), ?_⟩
    have g := gr0 (M := []) s0
    refine s_if (eb_B (ed_var rfl r_great)) g (fun hb H1 g => ?_) fun hb H1 g => ?_
    · rw [hb, if_pos rfl] at k
      refine s_ret (d := .lst bnG) (Ed.to (d := .lst [.str "", .str "a", .str "nil", .str "_A", .str "1A", .str "A-", .str "A b", .str "A.", .str "Abcdefghijklm", .str "A(", .int 5, .non, .bl true, .tup [.str "A"], .lst [.str "A"]]) (ed_lst (eds_cons ed_str (eds_cons ed_str (eds_cons ed_str (eds_cons ed_str (eds_cons ed_str (eds_cons ed_str (eds_cons ed_str (eds_cons ed_str (eds_cons ed_str (eds_cons ed_str (eds_cons ed_int (eds_cons ed_non (eds_cons ed_bl (eds_cons (ed_tup (eds_cons ed_str eds_nil) (Nat.le_of_ble_eq_true rfl)) (eds_cons (ed_lst (eds_cons ed_str eds_nil) (Nat.le_of_ble_eq_true rfl)) eds_nil))))))))))))))) (Nat.le_of_ble_eq_true rfl)) (by unfold bnG; rfl)) g k
    · rw [hb, if_neg (by simp)] at k
      simp only [tNext]
      refine s_seq (s_set (d := .lst bnS1) (Ed.to (d := .lst [.str "in", .str "do", .str "let", .str "use", .str "data", .str "op", .str "rec", .str "fun", .str "if", .str "int", .str "void", .str "unit", .str "end", .str "handle", .str "return", .str "true"]) (ed_lst (eds_cons ed_str (eds_cons ed_str (eds_cons ed_str (eds_cons ed_str (eds_cons ed_str (eds_cons ed_str (eds_cons ed_str (eds_cons ed_str (eds_cons ed_str (eds_cons ed_str (eds_cons ed_str (eds_cons ed_str (eds_cons ed_str (eds_cons ed_str (eds_cons ed_str (eds_cons ed_str eds_nil)))))))))))))))) (Nat.le_of_ble_eq_true rfl)) (by unfold bnS1; rfl)) g fun v G2 H2 g s2 r_words => ?_)
      refine s_ret (d := .lst bnS) (ed_op (d := .lst bnS1) (e := .lst bnS2) (ed_var rfl r_words) (Ed.to (d := .lst [.str "", .str "A", .str "Get", .str "_a", .str "1a", .str "a-", .str "a b", .str "a.", .str "abcdefghijklm", .int 5, .non, .bl true, .tup [.str "a"], .lst [.str "a"]]) (ed_lst (eds_cons ed_str (eds_cons ed_str (eds_cons ed_str (eds_cons ed_str (eds_cons ed_str (eds_cons ed_str (eds_cons ed_str (eds_cons ed_str (eds_cons ed_str (eds_cons ed_int (eds_cons ed_non (eds_cons ed_bl (eds_cons (ed_tup (eds_cons ed_str eds_nil) (Nat.le_of_ble_eq_true rfl)) (eds_cons (ed_lst (eds_cons ed_str eds_nil) (Nat.le_of_ble_eq_true rfl)) eds_nil)))))))))))))) (Nat.le_of_ble_eq_true rfl)) (by unfold bnS2; rfl)) fun _ _ => rd_cat (by decide)) g k
end
end K18
set_option maxHeartbeats 4000000
namespace K18
open PySem PySem.Spec PyProof.Rows L2 Kd
/-- what was handed in, walked -/
theorem es_in {K : PySem.W.Frag} {σ : L2.St} {G : Hp} {a : Addr} {ns : List Int} {i : Nat} (hv : σ[i]? = some (some (.ref a))) (hs : ∀ H, Same G H → SqL K H a (ns.map V.int)) : Es (iList K (tVar i)) σ G (ns.map .int) := fun H s R q => by
  refine ⟨_, hv, a, rfl, ⟨_, hs H s⟩, q _ G H (gr0 s) ?_⟩
  have w : Walk (Itl K a) (ns.map V.int).length (fun H => SqL K H a (ns.map V.int)) (YAt (ns.map V.int)) := walk_list
  unfold WalkD
  rw [List.length_map] at w ⊢
  refine w.mono (fun H s => hs H s) fun i H x H' hi s y => ?_
  obtain ⟨e, y⟩ := y
  subst e
  rw [List.getElem?_map] at y
  obtain ⟨n, hn, rfl⟩ := Option.map_eq_some_iff.mp y
  exact ⟨.int n, by rw [List.getElem?_map, hn]; rfl, fun Gi s1 s2 => ⟨Gi, gr0 s2, rfl⟩⟩
def spPool (K : PySem.W.Frag) : Sp := fun vs H Q _ => ∃ (a : Addr) (ns : List Int) (G : Hp), vs = [.ref a] ∧ Same G H ∧ (∀ H, Same G H → SqL K H a (ns.map V.int)) ∧ ns.length ≤ 63 ∧ ∀ p G' H', Gr [] G H G' H' → PoolAt p G' H' → H p = none → Q (.ref p) H'
section
variable {P : Program} {w : World} {K : PySem.W.Frag} {mg : Str → Option Value} {base : Heap}
abbrev N_law_pool : List Str := ["script", "pool", "state", "cell", "rest", "k"]
theorem sc_law_pool : FnScope ["script", "pool", "state", "cell", "rest", "k"] ["script"] (defScope s_law_pool) := ⟨rfl, rfl, rfl, by decide +kernel, rfl, by decide +kernel, by decide +kernel⟩
theorem ok_law_pool (T : Tx K mg) : Good P w K mg base CX0 "_law_pool" 2 ["script"] (spPool K) := by
  obtain ⟨fd, F⟩ := T.f__law_pool
  refine ⟨T.m__law_pool, F.kp, fd, ?_, F.bindsN fun _ _ _ _ _ _ us hl => match us, hl with | [_], _ => rfl⟩
  refine F.ok sc_law_pool (fun vs H Q E h => ?_) (fun cdv A outer s H vs Q E hr h => ?_)
  · obtain ⟨a, ns, G, rfl, _⟩ := h
    rfl
  · obtain ⟨a, ns, G, rfl, s0, hs, hlen, k⟩ := h
    refine ⟨_, PSs.nox ((pss_cons (ps_par (i := 1) (j := 2) (by rfl) sc_law_pool.nd rfl rfl (by decide) rfl rfl (pa_cons (pe_lst (pa_cons pe_int (pa_cons pe_int pa_nil))) (pa_cons pe_int pa_nil)) (by rfl))
    (pss_cons (ps_for PassesOwn.never rfl (pi_list (pv 0)) (pg_name (i := 3) sc_law_pool.nd rfl (Or.inl rfl)) (pss_cons (ps_set (i := 4) sc_law_pool.nd rfl (Or.inl rfl) (pe_op op_mod (pe_callTy call_int1 (by rfl) T.n_int (by decide +kernel) (pa_cons (pv 3) pa_nil)) (pe_op op_pow pe_int pe_int)))
    (pss_cons (ps_set (i := 2) sc_law_pool.nd rfl (Or.inl rfl) (pe_op op_mod (pe_callTy call_int1 (by rfl) T.n_int (by decide +kernel) (pa_cons (pe_op op_add (pe_op op_mul (pv 2) pe_int) (pv 4)) pa_nil)) pe_int))
    (pss_one (ps_for PassesOwn.never rfl (pi_range1 (by rfl) T.n_range (pa_cons (pe_ifExp (pt_cmpR op_lt (pv 4) (pe_op op_pow pe_int pe_int) (nomark _)) pe_int pe_int) pa_nil)) (pg_name (i := 5) sc_law_pool.nd rfl (Or.inl rfl)) (pss_cons (ps_expr (pe_bm PySem.F.plainAttrs_list PySem.F.slot_list_append PySem.F.type_list_append mt_append (pv 1) (pa_cons (pe_op op_mod (pe_callTy call_int1 (by rfl) T.n_int (by decide +kernel) (pa_cons (pv 4) pa_nil)) pe_int) pa_nil)))
    (pss_cons (ps_set (i := 4) sc_law_pool.nd rfl (Or.inl rfl) (pe_callTy call_int1 (by rfl) T.n_int (by decide +kernel) (pa_cons (pe_op op_fdiv (pv 4) pe_int) pa_nil)))
    (pss_one (ps_if (pt_cmpR op_eq (pv 4) pe_int (nomark _)) (pss_one ps_break) pss_nil)))))))))
    (pss_cons (ps_asg (pv 2) (pg_sub (pv 1) pe_int set_list))
    (pss_one (ps_ret (pv 1))))))), ?_⟩
    have g := gr0 (M := []) s0
    refine ⟨by show 2 ≤ sizeLine; decide, fun l hl => ⟨_, _, rfl, ?_⟩⟩
    have g1 := g.tmp (o := .lst [.int 2, .int 17]) hl
    have ol : Own H G (upd H l (.lst [.int 2, .int 17])) l (.int 2 :: .int 17 :: ([] : List Int).map .int) := ⟨hl, g.gfree hl, _, upd_same, .cons rfl (.cons rfl rfl)⟩
    dsimp only
    refine s_seq (s_for (σ := [some (.ref a), some (.ref l), some (.int 17), none, none, none]) (items := ns.map .int) (es_in rfl hs) g1 (fun i σ G' H' => ∃ (st : Int) (xs : List Int) (o3 o4 o5 : Option V), σ = [some (.ref a), some (.ref l), some (.int st), o3, o4, o5] ∧ 0 ≤ st ∧ st < 2147483647 ∧ Own H G' H' l (.int 2 :: .int 17 :: xs.map .int) ∧ xs.length ≤ 60 * i ∧ ∀ x ∈ xs, 0 ≤ x ∧ x < 60) (fun G' H' g' s' k' => ⟨17, [], _, _, _, rfl, by decide, by decide, ol.kp s' k', Nat.le_refl _, fun x hx => by simp at hx⟩) ?_ ?_)
    · rintro Gs i d v σ Gi Hi Gj Hj hd sg sgi ⟨st, xs, o3, o4, o5, rfl, hst0, hst1, ol, hxl, hxs⟩ g sj kj rv
      have ol := ol.kp sj kj
      rw [List.getElem?_map] at hd
      obtain ⟨c, hc, rfl⟩ := Option.map_eq_some_iff.mp hd
      have hil : i < 63 := by
        have := (List.getElem?_eq_some_iff.mp hc).1
        omega
      cases (show v = .int c from rv)
      have hm : (0 : Int) < 60 ^ (60 : Int).toNat := by decide
      have hr0 := Int.emod_nonneg c (b := 60 ^ (60 : Int).toNat) (by decide)
      refine s_set' (d := .int (c % 60 ^ (60 : Int).toNat)) (ed_op (ed_int1 (ed_var rfl rv)) (ed_op ed_int ed_int fun _ _ => rd_Ii ⟨by decide, by decide, by decide⟩) fun _ _ => rd_Ii hm) g fun v1 G1 H1 g s1 k1 r1 => ?_
      generalize c % 60 ^ (60 : Int).toNat = rest at r1 hr0
      cases (show v1 = .int rest from r1)
      have ol := ol.kp s1 k1
      have rS : ∀ {G'}, Rp G' (.int st) (.int st) := rfl
      have rR : ∀ {G'} {x : Int}, Rp G' (.int x) (.int x) := rfl
      refine s_set' (d := .int ((st * 31 + rest) % 2147483647)) (ed_op (ed_int1 (ed_op (ed_op (ed_var rfl rS) ed_int fun _ _ => rd_Ii (.inr ⟨by decide, by decide⟩)) (ed_var rfl rR) fun _ _ => rd_I0i)) ed_int fun _ _ => rd_Ii (by decide)) g fun v2 G2 H2 g s2 k2 r2 => ?_
      have hs0 := Int.emod_nonneg (st * 31 + rest) (b := 2147483647) (by decide)
      have hs1 := Int.emod_lt_of_pos (st * 31 + rest) (b := 2147483647) (by decide)
      generalize (st * 31 + rest) % 2147483647 = st2 at r2 hs0 hs1
      cases (show v2 = .int st2 from r2)
      have ol := ol.kp s2 k2
      have sG2 := sgi.trans (sj.trans (s1.trans s2))
      dsimp only
      refine s_for (σ := [some (.ref a), some (.ref l), some (.int st2), some (.int c), some (.int rest), o5]) (es_range1 (n := if decide (rest < 10 ^ (18 : Int).toNat) = true then 2 else 60) (Ed.to (ed_ifc (eb_test (ed_op (ed_var rfl rR) (ed_op ed_int ed_int fun _ _ => rd_Ii ⟨by decide, by decide, by decide⟩) fun _ _ => rd_I0b)) (fun _ => ed_int) fun _ => ed_int) (by split <;> rfl)) (by split <;> decide) (by split <;> decide)) g (fun j σ G' H' => ∃ (rest : Int) (xs' : List Int) (o5 : Option V), σ = [some (.ref a), some (.ref l), some (.int st2), some (.int c), some (.int rest), o5] ∧ 0 ≤ rest ∧ Own H G' H' l (.int 2 :: .int 17 :: xs'.map .int) ∧ xs'.length ≤ 60 * i + j ∧ (∀ x ∈ xs', 0 ≤ x ∧ x < 60) ∧ j ≤ 60) (fun G' H' g' s' k' => ⟨rest, xs, _, rfl, hr0, ol.kp s' k', hxl, hxs, Nat.zero_le _⟩) ?_ ?_
      · rintro Gs' j d' v' σ' Gk Hk Gl Hl hd' sg' sgk ⟨rest, xs', o5, rfl, hr0, ol, hxl', hxs', hj60⟩ g sl kl rv'
        have ol := ol.kp sl kl
        have hjl : j < 60 := by
          rw [List.getElem?_map] at hd'
          obtain ⟨j', hj', _⟩ := Option.map_eq_some_iff.mp hd'
          have := (List.getElem?_eq_some_iff.mp hj').1
          rw [List.length_range] at this
          split at this <;> omega
        have hd0 := Int.emod_nonneg rest (b := 60) (by decide)
        have hd1 := Int.emod_lt_of_pos rest (b := 60) (by decide)
        refine o_append (d := .int (rest % 60)) rfl (ed_op (ed_int1 (ed_var rfl rR)) ed_int fun _ _ => rd_Ii (by decide)) g ol (by simp; omega) fun G5 H5 g s5 ol _ _ => ?_
        refine s_set' (d := .int (rest / 60)) (ed_int1 (ed_op (ed_var rfl rR) ed_int fun _ _ => rd_Ii ⟨by decide, by decide⟩)) g fun v6 G6 H6 g s6 k6 r6 => ?_
        have hq0 : 0 ≤ rest / 60 := by omega
        have ol := ol.kp s6 k6
        have eapp : ((D.int 2 :: .int 17 :: xs'.map .int) ++ [.int (rest % 60)]) = .int 2 :: .int 17 :: (xs' ++ [rest % 60]).map .int := by simp
        rw [eapp] at ol
        have hall : ∀ x ∈ xs' ++ [rest % 60], 0 ≤ x ∧ x < 60 := by
          intro x hx
          rcases List.mem_append.mp hx with h | h
          · exact hxs' x h
          · rw [List.mem_singleton.mp h]; exact ⟨hd0, hd1⟩
        generalize rest / 60 = rest2 at r6 hq0
        cases (show v6 = .int rest2 from r6)
        have s56 := s5.trans s6
        refine s_if' (eb_test (ed_op (ed_var rfl rR) ed_int fun _ _ => rd_eq rfl)) g (fun hb H7 g k7 => ?_) fun hb H7 g k7 => ?_
        · simp only [tBreak]
          exact ⟨G6, g, sG2.trans (sg'.trans (sgk.trans (sl.trans s56))), st2, _, _, _, _, rfl, hs0, hs1, ol.kp (Same.refl _) k7, by simp; omega, hall⟩
        · exact ⟨G6, g, sgk.trans (sl.trans s56), rest2, _, _, rfl, hq0, ol.kp (Same.refl _) k7, by simp; omega, hall, by omega⟩
      · rintro σ' G5 H5 g s5 ⟨rest, xs', o5, rfl, hr0, ol, hxl', hxs', hj60⟩
        exact ⟨G5, g, sG2.trans s5, st2, xs', _, _, _, rfl, hs0, hs1, ol, by omega, hxs'⟩
    · rintro σ G' H' g s' ⟨st, xs, o3, o4, o5, rfl, hst0, hst1, ol, hxl, hxs⟩
      rw [List.length_map] at hxl
      obtain ⟨vs, ev, rv⟩ := ol.e
      obtain ⟨x1, _, rfl, h1, x2, ws, rfl, h2, h3⟩ := rv
      cases (show x1 = .int 2 from h1)
      have ew : ws = xs.map V.int := by
        have : ∀ {xs : List Int} {ws : List V}, RpL G' (xs.map D.int) ws → ws = xs.map V.int := by
          intro xs
          induction xs with
          | nil => intro ws h; exact h
          | cons x xs ih =>
            rintro ws ⟨v, r, rfl, h1, h2⟩
            rw [show v = .int x from h1, ih h2]
            rfl
        exact this h3
      subst ew
      dsimp only
      refine s_seq (s_put (d := .int st) (n := 1) (j := 1) rfl (fun Q q => (ed_var rfl (show Rp G' (.int st) (.int st) from rfl) : Ed _ _ G' (.int st)) H' g.s Q q) ev ol.g g (fun Q H' q => q) (ixN1 (by simp)) fun v G3 H3 g s3 k3 r3 hp hg => ?_)
      cases (show v = .int st from r3)
      have g4 := g.mut (o := .lst ((V.int 2 :: x2 :: xs.map V.int).set 1 (.int st))) hg ol.h0
      refine ⟨_, rfl, k l G3 _ g4 ⟨hg, 2, st, xs, upd_same, by decide, by omega, hst0, hst1, hxs, by omega⟩ ol.h0⟩
end
end K18
set_option maxHeartbeats 4000000
/-! What is told of trees that are built of right nodes. -/
namespace K18
open PySem PySem.Spec PyProof.Rows L2 Kd
theorem isFlag_d {f : Fl} (h : okFl f) : isFlag f.d = true := by
  cases f with
  | pre => rfl
  | num n =>
    show (decide (("flag" : Str) = "flag") && decide (0 ≤ n)) = true
    rw [decide_eq_true (show (0 : Int) ≤ n from h)]
    rfl
theorem isRow_d {r : Ro} (h : okRo r) : isRow r.d = true := by
  show (decide (0 ≤ r.t) && ((r.ns.map nmD).all isNamed && rising (r.ns.map nmD))) = true
  rw [decide_eq_true h.tl, h.up]
  simp only [Bool.true_and, Bool.and_true, List.all_map, List.all_eq_true]
  intro p hp
  obtain ⟨h1, _, h3⟩ := h.nm p hp
  show (isSmall (.str p.1) && isFlag p.2.d) = true
  rw [h1, isFlag_d h3]
  rfl
theorem rowOk_d {r : Ro} (h : okRo r) : rowOk r.d := by
  refine ⟨fun n hn => ?_, by rw [List.length_map]; have := h.len; omega⟩
  obtain ⟨p, hp, rfl⟩ := List.mem_map.mp hn
  have := h.nm p hp
  refine ⟨show p.1.length ≤ 1000 by omega, ?_⟩
  cases hf : p.2 with
  | pre => exact trivial
  | num n => rfl
theorem parts_build {a : Nd} {ps : List D} (h : okNd a) (hp : ps.length = a.many) : partsOf (build a ps) = some ps := by
  cases a with
  | plain w =>
    have e : ps = [] := List.eq_nil_of_length_eq_zero hp
    subst e
    have hw : w ∈ thePlain := h
    simp only [thePlain, List.mem_cons, List.not_mem_nil, or_false] at hw
    rcases hw with rfl | rfl | rfl | rfl <;> rfl
  | letter n =>
    have e : ps = [] := List.eq_nil_of_length_eq_zero hp
    subst e
    show (if oneNum [.int n] = true then some [] else none) = some ([] : List D)
    rw [if_pos (show oneNum [.int n] = true from decide_eq_true (p := 0 ≤ n) h)]
  | pair => match ps, hp with | [p, q], _ => rfl
  | data s m =>
    show (if isGreat (.str s) = true then some ps else none) = some ps
    rw [if_pos h.1]
  | func r => match ps, hp with
    | [p, q], _ =>
      show (if isRow r.d = true then some [p, q] else none) = some [p, q]
      rw [if_pos (isRow_d h)]
theorem isKind_build {a : Nd} {ps : List D} (h : okNd a) (hp : ps.length = a.many) : isKind (build a ps) = ps.all isKind := by
  rw [isKind_eq, parts_build h hp]
theorem rch_first {x y : D} (h : Rch x y) : y = x ∨ ∃ ps p, partsOf x = some ps ∧ p ∈ ps ∧ Rch p y := by
  induction h with
  | refl => exact .inl rfl
  | @step y z ps h1 h2 h3 ih =>
    rcases ih with rfl | ⟨ps', p, e, hp, hr⟩
    · exact .inr ⟨ps, z, h2, h3, .refl⟩
    · exact .inr ⟨ps', p, e, hp, .step hr h2 h3⟩
theorem kindOk_mk {x : D} (h : partsOk x) (k : ∀ ps, partsOf x = some ps → ∀ p ∈ ps, kindOk p) : kindOk x := fun y r => by
  rcases rch_first r with rfl | ⟨ps, p, e, hp, hr⟩
  · exact h
  · exact k ps e p hp y hr
theorem partsOk_build {a : Nd} {ps : List D} (h : okNd a) (hp : ps.length = a.many) : partsOk (build a ps) := by
  cases a with
  | plain w =>
    obtain ⟨_, _, h2, h3, _⟩ := plain_word h
    exact ⟨Nat.zero_le _, fun e => absurd e h2, fun e => absurd e h3⟩
  | letter n => exact ⟨by simp, fun e => absurd e (by decide), fun e => absurd e (by decide)⟩
  | pair => match ps, hp with | [p, q], _ => exact ⟨by simp, fun e => absurd e (by decide), fun e => absurd e (by decide)⟩
  | data s m =>
    refine ⟨by simp, fun e => absurd e (by decide), fun _ n k e => ?_⟩
    cases e
    show s.length ≤ 1000
    have := h.2
    omega
  | func r => match ps, hp with
    | [p, q], _ =>
      refine ⟨by simp, fun _ a r' b e => ?_, fun e => absurd e (by decide)⟩
      cases e
      exact rowOk_d h
theorem kindOk_build {a : Nd} {ps : List D} (h : okNd a) (hp : ps.length = a.many) (k : ∀ p ∈ ps, kindOk p) : kindOk (build a ps) := kindOk_mk (partsOk_build h hp) fun qs e => by
  rw [parts_build h hp] at e
  cases e
  exact k
theorem szD_nm (p : Str × Fl) : szD (nmD p) ≤ 5 := by
  obtain ⟨z, f⟩ := p
  cases f <;> simp [nmD, Fl.d, szD, szL]
theorem szL_nms : ∀ fs : List (Str × Fl), szL (fs.map nmD) ≤ 5 * fs.length
  | [] => by simp [szL]
  | p :: fs => by
    have := szL_nms fs
    have := szD_nm p
    simp only [List.map_cons, szL, List.length_cons]
    omega
theorem szD_row {r : Ro} (h : okRo r) : szD r.d ≤ 33 := by
  have h1 := szL_nms r.ns
  have h2 := h.len
  simp only [Ro.d, Ro.l, szD, szL]
  omega
theorem szD_build {a : Nd} {ps : List D} (h : okNd a) (hp : ps.length = a.many) : szD (build a ps) ≤ szL ps + 40 := by
  cases a with
  | plain w => simp [build, szD, szL]
  | letter n => simp [build, szD, szL]
  | pair => match ps, hp with | [p, q], _ => simp [build, szD, szL]; omega
  | data s m => simp [build, szD, szL]; omega
  | func r => match ps, hp with
    | [p, q], _ =>
      have := szD_row h
      simp [build, szD, szL]
      omega
end K18
set_option maxHeartbeats 4000000
/-! Trees out of rows of nodes. -/
namespace K18
open PySem PySem.Spec PyProof.Rows L2 Kd
theorem tree_ok {f : Nd → Nd} : ∀ {t : Tr}, okT f t → isKind (tD f t) = true ∧ kindOk (tD f t) ∧ szD (tD f t) ≤ 20 * szT t := by
  intro t
  induction t using Tr.rec (motive_2 := fun ks => (∀ k ∈ ks, okT f k) → (∀ k ∈ ks, isKind (tD f k) = true ∧ kindOk (tD f k)) ∧ szL (ks.map (tD f)) ≤ 20 * szTL ks) with
  | mk a ks ih =>
    rintro ⟨h1, h2, h3⟩
    obtain ⟨i1, i2⟩ := ih h3
    rw [tD, tDL_map]
    have hl : (ks.map (tD f)).length = (f a).many := by rw [List.length_map]; exact h2
    refine ⟨?_, ?_, ?_⟩
    · rw [isKind_build h1 hl, List.all_map, List.all_eq_true]
      exact fun k hk => (i1 k hk).1
    · refine kindOk_build h1 hl fun p hp => ?_
      obtain ⟨k, hk, rfl⟩ := List.mem_map.mp hp
      exact (i1 k hk).2
    · have := szD_build h1 hl
      simp only [szT]
      omega
  | nil => exact ⟨fun k hk => by simp at hk, by simp [szL]⟩
  | cons k ks h1 h2 =>
    rename_i h
    have q1 := h1 (h k (by simp))
    obtain ⟨q2, q3⟩ := h2 fun j hj => h j (by simp [hj])
    refine ⟨fun j hj => ?_, ?_⟩
    · rcases List.mem_cons.mp hj with rfl | hj
      · exact ⟨q1.1, q1.2.1⟩
      · exact q2 j hj
    · simp only [List.map_cons, szL, szTL]
      have := q1.2.2
      omega
/-- the trees that stand when these nodes are done (from the last), the last one done ahead -/
def stk : List Nd → List Tr
  | [] => []
  | a :: ns => .mk a ((stk ns).take a.many) :: (stk ns).drop a.many
theorem stk_len : ∀ {w : Nat} {ns : List Nd}, Pre w ns → (stk ns).length = w
  | _, _, .nil => rfl
  | _, _, .cons (w := w) (a := a) (ns := ns) h => by
    have := stk_len h
    simp only [stk, List.length_cons, List.length_drop]
    omega
theorem stk_sz : ∀ {w : Nat} {ns : List Nd}, Pre w ns → szTL (stk ns) = 2 * ns.length
  | _, _, .nil => rfl
  | _, _, .cons (w := w) (a := a) (ns := ns) h => by
    have := stk_sz h
    have e : szTL ((stk ns).take a.many) + szTL ((stk ns).drop a.many) = szTL (stk ns) := by rw [← szTL_app, List.take_append_drop]
    simp only [stk, szTL, szT, List.length_cons]
    omega
theorem stk_lbl : ∀ (ns : List Nd) (x : Nd), x ∈ lblL (stk ns) ↔ x ∈ ns
  | [], x => by simp [stk, lblL]
  | a :: ns, x => by
    have ih := stk_lbl ns x
    rw [← List.take_append_drop a.many (stk ns)] at ih
    have app : ∀ (ks js : List Tr), lblL (ks ++ js) = lblL ks ++ lblL js := by
      intro ks js
      induction ks with
      | nil => rfl
      | cons k ks ih => rw [List.cons_append, lblL, lblL, ih, List.append_assoc]
    rw [app, List.mem_append] at ih
    simp only [stk, lblL, lbl, List.mem_append, List.mem_cons, List.cons_append]
    rw [← ih]
theorem stk_ok {f : Nd → Nd} (hf : ∀ a, (f a).many = a.many) : ∀ {w : Nat} {ns : List Nd}, Pre w ns → (∀ a ∈ ns, okNd (f a)) → ∀ t ∈ stk ns, okT f t
  | _, _, .nil, _ => fun t ht => by simp [stk] at ht
  | _, _, .cons (w := w) (a := a) (ns := ns) h, ha => by
    have ih := stk_ok hf h fun b hb => ha b (by simp [hb])
    have hl := stk_len h
    intro t ht
    rw [stk] at ht
    rcases List.mem_cons.mp ht with rfl | ht
    · exact .mk (ha a (by simp)) (by rw [List.length_take, hl, hf]; omega) fun k hk => ih k (List.mem_of_mem_take hk)
    · exact ih t (List.mem_of_mem_drop ht)
end K18
set_option maxHeartbeats 4000000
/-! What a wrong form is; a range that falls. -/
namespace Kd
open PySem PySem.Spec PyProof.Rows L2
theorem es_down {σ : L2.St} {G : Hp} {te tf : TE} {n : Nat} (h : Ed te σ G (.int ((n : Int) - 1))) (hf : Ed tf σ G (.int (-1))) (hn : n ≤ 100000) : Es (iRng3 (tCons te (tCons tf (tCons (tUn (rU fun i => .int (-i)) (tC (.int 1))) tNil)))) σ G ((List.range n).map fun i => .int ((n : Int) - 1 - (i : Nat))) := fun H s R q =>
  (eds_cons h (eds_cons hf (eds_cons (ed_un ed_int fun _ _ => rd_neg) eds_nil))) H s _ fun vs G1 H1 g1 r1 => by
    obtain ⟨x, _, rfl, k1, y, _, rfl, k2, z, _, rfl, k3, rfl⟩ := r1
    cases (show x = .int ((n : Int) - 1) from k1)
    cases (show y = .int (-1) from k2)
    cases (show z = .int (-1) from k3)
    have e : ((n : Int) - 1 - (-1)).toNat = n := by omega
    refine ⟨_, _, _, n, rfl, by have := RgC.neg (i := (n : Int) - 1) (j := -1) (by omega) (by omega) (by omega) (by omega); rw [e] at this; exact this, q _ G1 H1 g1 ?_⟩
    have w := walk_rangeC (lo := (n : Int) - 1) (c := -1) (n := n)
    unfold WalkD
    rw [List.length_map, List.length_range]
    refine w.mono (fun H s => trivial) fun i H y H' hi s q => ?_
    obtain ⟨e, h1⟩ := q
    subst e
    refine ⟨.int ((n : Int) - 1 - (i : Nat)), ?_, fun Gi s1 s2 => ⟨Gi, gr0 s2, ?_⟩⟩
    · rw [List.getElem?_map, List.getElem?_range hi]
      rfl
    · rw [h1]
      show V.int _ = V.int _
      congr 1
      omega
end Kd
namespace K18
open PySem PySem.Spec PyProof.Rows L2 Kd
def goodK (p : D) : Prop := isKind p = true ∧ kindOk p
def pWrong : List D → Prop := fun ds => ∃ a ps, ds = [.str (hdN a), heldD a, .lst ps] ∧ okNd a ∧ ps.length = a.many ∧ ps.length ≤ 59 ∧ ∀ p ∈ ps, goodK p
def rWrong : List D → D → Prop := fun ds d => ∃ a ps, ds = [.str (hdN a), heldD a, .lst ps] ∧ kindOk d ∧ isKind d = false ∧ szD d ≤ 2 * szL ps + 200
/-- the tree of a row of nodes -/
def root (ns : List Nd) : Tr := (stk ns).headD (.mk .pair [])
theorem stk_root {ns : List Nd} (h : Pre 1 ns) : stk ns = [root ns] := by
  have := stk_len h
  unfold root
  match stk ns, this with
  | [t], _ => rfl
end K18
set_option maxHeartbeats 4000000
/-! Rows that are none. -/
namespace Kd
open PySem PySem.Spec PyProof.Rows L2
theorem ed_tupL {K : PySem.W.Frag} {σ : L2.St} {G : Hp} {te : TE} {ds : List D} (h : Ed te σ G (.lst ds)) : Ed (tCB (fun xs H Q => ∃ p ys, xs = [.ref p] ∧ ((SqL K H p ys ∧ ∀ l, H l = none → Q (.ref l) (upd H l (.tup ys))) ∨ (SqT K H p ys ∧ Q (.ref p) H))) (tCons te tNil)) σ G (.tup ds) := fun H s Q q =>
  h H s _ fun v G1 H1 g1 r1 => by
    obtain ⟨a, vs, rfl, ha, hr⟩ := r1
    refine ⟨a, vs, rfl, .inl ⟨SqL.of (g1.s a _ ha), fun l hl => q _ _ _ (g1.new hl) ⟨l, vs, rfl, upd_same, hr.mono fun c o x => ?_⟩⟩⟩
    rw [upd_ne (ne_of_none x (g1.gfree hl))]
    exact x
theorem edp_lstA {p : Addr} {σ : L2.St} {G : Hp} {ta : TA} {P : D → Prop} {n : Nat} (ha : EdsP p ta σ G (AllP P n)) (hn : n ≤ 100000) : EdP p (tLst ta) σ G (fun d => ∃ ds, d = .lst ds ∧ AllP P n ds) := edp_lst ha fun ds h => by rw [h.1]; exact hn
theorem cut_to {ds : List D} {k : Nat} (h : k ≤ ds.length) : cutD ds none (some (k : Int)) = ds.take k := by
  unfold cutD
  rw [HT.sIx_none, HT.sIx_nat, List.drop_zero, Nat.sub_zero, Nat.min_eq_left h]
theorem s_asg {M : List Addr} {G0 H0 G H : Hp} {Dn : Ends} {σ : L2.St} {te : TE} {gt : TG} {d : D} (h : Ed te σ G d) (g : Gr M G0 H0 G H) (k : ∀ v G' H', Gr M G0 H0 G' H' → Same G G' → Kp G H G' H' → Rp G' d v → gt v σ H' Dn.nx) : tAsg te gt Dn σ H := h H g.s _ fun v G' H' g1 r => k v G' H' (g.call g1) g1.g g1.kp r
end Kd
namespace K18
open PySem PySem.Spec PyProof.Rows L2 Kd
def rowsL : D → Bool
  | .lst ns => ns.all isNamed && rising ns
  | _ => false
theorem isRow_of (x t : D) : isRow (.tup [x, t]) = (isNumber t && rowsL x) := by
  cases x <;> simp [isRow, rowsL]
def flagB : D → Bool
  | .tup [a, _] => !isDct a
  | _ => true
def namB : D → Bool
  | .tup [a, b] => strOkB a && flagB b
  | _ => true
def rokB : D → Bool
  | .lst ns => ns.all namB && decide (ns.length ≤ 1000)
  | _ => true
theorem flagOk_of {d : D} (h : flagB d = true) : flagOk d := by
  cases d with
  | tup ds => match ds, h with
    | [], _ => trivial
    | [_], _ => trivial
    | [a, _], h => exact (Bool.not_eq_true' _).mp h
    | _ :: _ :: _ :: _, _ => trivial
  | _ => trivial
theorem namedOk_of {d : D} (h : namB d = true) : namedOk d := by
  cases d with
  | tup ds => match ds, h with
    | [], _ => trivial
    | [_], _ => trivial
    | [a, b], h =>
      have h := (Bool.and_eq_true _ _).mp h
      exact ⟨strOk_of h.1, flagOk_of h.2⟩
    | _ :: _ :: _ :: _, _ => trivial
  | _ => trivial
theorem rowOk_of {x t : D} (h : rokB x = true) : rowOk (.tup [x, t]) := by
  cases x with
  | lst ns =>
    have h := (Bool.and_eq_true _ _).mp h
    exact ⟨fun n hn => namedOk_of (List.all_eq_true.mp h.1 n hn), of_decide_eq_true h.2⟩
  | _ => trivial
/-- no row's names and flags -/
def badR (x : D) : Prop := rowsL x = false ∧ rokB x = true ∧ szD x ≤ 110
def bfl : List D := [.str "abs", .str "", .str "Pre", .str "flag", .non, .bl true, .int 0, .tup [.str "flag"], .tup [.str "flag", .int (-1)], .tup [.str "flag", .bl true], .tup [.str "flag", .str "0"], .lst [.str "flag", .int 0], .tup [.str "flag", .int 0, .int 0], .tup [.str "pre"], .tup [.str "Flag", .int 0], .tup [.int 0, .str "flag"]]
theorem bfl_bad : (bfl.all fun d => !isFlag d && flagB d) = true := by decide +kernel
theorem bfl_sz : szL bfl ≤ 60 := by simp [bfl, szL, szD]
theorem bfl_of {d : D} (h : d ∈ bfl) : isFlag d = false ∧ flagB d = true ∧ szD d ≤ 60 := by
  have h1 := List.all_eq_true.mp bfl_bad d h
  rw [Bool.and_eq_true, Bool.not_eq_true'] at h1
  exact ⟨h1.1, h1.2, Nat.le_trans (szL_mem h) bfl_sz⟩
theorem bnS_of {d : D} (h : d ∈ bnS) : isSmall d = false ∧ strOkB d = true ∧ szD d ≤ 60 := by
  have h1 := List.all_eq_true.mp bnS_bad d h
  rw [Bool.and_eq_true, Bool.not_eq_true'] at h1
  exact ⟨h1.1, h1.2, Nat.le_trans (szL_mem h) bnS_sz⟩
theorem bnG_of {d : D} (h : d ∈ bnG) : isGreat d = false ∧ strOkB d = true ∧ szD d ≤ 60 := by
  have h1 := List.all_eq_true.mp bnG_bad d h
  rw [Bool.and_eq_true, Bool.not_eq_true'] at h1
  have := szL_mem h
  have := bnG_sz
  exact ⟨h1.1, h1.2, by omega⟩
theorem bad_one {x : D} (h : isNamed x = false) (k : namB x = true) (s : szD x ≤ 100) : badR (.lst [x]) := ⟨by simp [rowsL, h], by simp [rokB, k], by simp [szD, szL]; omega⟩
theorem rise_cons (x y : D) (r : List D) : rising (x :: y :: r) = (decide (opOf x < opOf y) && rising (y :: r)) := by simp [rising]
theorem rise_end : ∀ (r : List D) (x z : D), rising (x :: (r ++ [z])) = true → opOf x < opOf z
  | [], x, z, h => by
    rw [List.nil_append, rise_cons, Bool.and_eq_true] at h
    exact of_decide_eq_true h.1
  | y :: r, x, z, h => by
    rw [List.cons_append, rise_cons, Bool.and_eq_true] at h
    exact List.lt_trans (of_decide_eq_true h.1) (rise_end r y z h.2)
theorem rise_last : ∀ (r : List D) (a b : D), rising (r ++ [a, b]) = true → opOf a < opOf b
  | [], a, b, h => by
    rw [List.nil_append, rise_cons, Bool.and_eq_true] at h
    exact of_decide_eq_true h.1
  | [x], a, b, h => by
    rw [List.cons_append, List.nil_append, rise_cons, Bool.and_eq_true] at h
    exact rise_last [] a b h.2
  | x :: y :: r, a, b, h => by
    rw [List.cons_append, List.cons_append, rise_cons, Bool.and_eq_true] at h
    exact rise_last (y :: r) a b h.2
theorem nm_B {r : Ro} (h : okRo r) : ∀ n ∈ r.ns.map nmD, namB n = true := fun n hn => by
  obtain ⟨p, hp, rfl⟩ := List.mem_map.mp hn
  obtain ⟨_, h2, _⟩ := h.nm p hp
  have e : strOkB (.str p.1) = true := decide_eq_true (show p.1.length ≤ 1000 by omega)
  show (strOkB (.str p.1) && flagB p.2.d) = true
  rw [e]
  cases p.2 <;> rfl
theorem nms_sz {r : Ro} (h : okRo r) : szL (r.ns.map nmD) ≤ 30 := by
  have h1 := szL_nms r.ns
  have h2 := h.len
  omega
/-- a list of named ones and something behind that is none, or does not rise -/
theorem bad_more {r : Ro} (h : okRo r) {ms : List D} (hm : ∀ m ∈ ms, m ∈ r.ns.map nmD) (hs : szL ms ≤ 30) (hl : ms.length ≤ 6) {x : D} (hx : namB x = true) (sx : szD x ≤ 70) (k : isNamed x = false ∨ rising (ms ++ [x]) = false) : badR (.lst (ms ++ [x])) := by
  refine ⟨?_, ?_, ?_⟩
  · rcases k with k | k
    · simp [rowsL, k]
    · simp only [rowsL, k, Bool.and_false]
  · simp only [rokB, List.all_append, List.all_cons, List.all_nil, hx, Bool.and_true, Bool.and_eq_true, List.all_eq_true, List.length_append, List.length_cons, List.length_nil]
    exact ⟨fun m e => nm_B h m (hm m e), decide_eq_true (by omega)⟩
  · simp only [szD, szL_app, szL]
    omega
theorem bad_twice {r : Ro} (h : okRo r) {x : D} {ns : List D} (e : r.ns.map nmD = x :: ns) : badR (.lst (r.ns.map nmD ++ [x])) := by
  have hs := nms_sz h
  have hl := h.len
  refine bad_more h (fun m e => e) hs (by simpa using hl) (nm_B h x (by rw [e]; simp)) (Nat.le_trans (szL_mem (show x ∈ r.ns.map nmD by rw [e]; simp)) (by omega)) (.inr ?_)
  cases q : rising (r.ns.map nmD ++ [x]) with
  | false => rfl
  | true =>
    rw [e, List.cons_append] at q
    exact absurd (rise_end ns x x q) (List.lt_irrefl _)
theorem bad_again {r : Ro} (h : okRo r) {i : List D} {p : Str × Fl} (e : r.ns.map nmD = i ++ [nmD p]) : badR (.lst (r.ns.map nmD ++ [.tup [.str p.1, .str "pre"]])) := by
  have hs := nms_sz h
  have hl := h.len
  have hp : nmD p ∈ r.ns.map nmD := by rw [e]; simp
  have hb := nm_B h _ hp
  have hb : (strOkB (.str p.1) && flagB p.2.d) = true := hb
  rw [Bool.and_eq_true] at hb
  refine bad_more h (fun m e => e) hs (by simpa using hl) (by show (strOkB (.str p.1) && flagB (.str "pre")) = true; rw [hb.1]; rfl) (by simp [szD, szL]) (.inr ?_)
  cases q : rising (r.ns.map nmD ++ [.tup [.str p.1, .str "pre"]]) with
  | false => rfl
  | true =>
    rw [e, List.append_assoc] at q
    exact absurd (rise_last i (nmD p) _ q) (List.lt_irrefl _)
theorem ends_of {r : Ro} (h : (r.ns.map nmD).isEmpty = false) : (∃ x ns, r.ns.map nmD = x :: ns) ∧ ∃ i p, r.ns.map nmD = i ++ [nmD p] := by
  cases e : r.ns with
  | nil => rw [e] at h; simp at h
  | cons q qs =>
    refine ⟨⟨nmD q, qs.map nmD, rfl⟩, ((q :: qs).dropLast).map nmD, (q :: qs).getLast (by simp), ?_⟩
    rw [← List.map_singleton (f := nmD), ← List.map_append, List.dropLast_concat_getLast]
end K18
set_option maxHeartbeats 4000000
namespace K18
open PySem PySem.Spec PyProof.Rows L2 Kd
theorem bad_pre : badR (.lst [.lst [.str "o", .str "pre"]]) := ⟨by decide +kernel, by decide +kernel, by simp [szD, szL]⟩
theorem bad_o : badR (.lst [.tup [.str "o"]]) := ⟨by decide +kernel, by decide +kernel, by simp [szD, szL]⟩
theorem bad_s : badR (.lst [.str "o"]) := ⟨by decide +kernel, by decide +kernel, by simp [szD, szL]⟩
theorem bad_n : badR (.lst [.non]) := ⟨by decide +kernel, by decide +kernel, by simp [szD, szL]⟩
theorem bad_3 : badR (.lst [.tup [.str "o", .str "pre", .int 0]]) := ⟨by decide +kernel, by decide +kernel, by simp [szD, szL]⟩
theorem bad_po : badR (.lst [.tup [.str "p", .str "pre"], .tup [.str "o", .str "pre"]]) := ⟨by decide +kernel, by decide +kernel, by simp [szD, szL]⟩
theorem bad_oo : badR (.lst [.tup [.str "o", .str "pre"], .tup [.str "o", .tup [.str "flag", .int 1]]]) := ⟨by decide +kernel, by decide +kernel, by simp [szD, szL]⟩
theorem bad_flag {s : Str} {f : D} (h : f ∈ bfl) (hs : strOkB (.str s) = true) : isNamed (.tup [.str s, f]) = false ∧ namB (.tup [.str s, f]) = true ∧ szD (.tup [.str s, f]) ≤ 70 := by
  obtain ⟨h1, h2, h3⟩ := bfl_of h
  refine ⟨by show (isSmall (.str s) && isFlag f) = false; rw [h1, Bool.and_false], by show (strOkB (.str s) && flagB f) = true; rw [hs, h2]; rfl, by simp [szD, szL]; omega⟩
section
variable {P : Program} {w : World} {K : PySem.W.Frag} {mg : Str → Option Value} {base : Heap}
def rBrows : List D → D → Prop := fun ds d => ∃ L, d = .lst L ∧ L.length ≤ 100 ∧ ∀ x ∈ L, isRow x = false ∧ rowOk x ∧ szD x ≤ 130
def pRo : List D → Prop := fun ds => ∃ r : Ro, ds = [r.d] ∧ okRo r
abbrev N_law_bad_rows : List Str := ["pool", "held", "named", "tail", "flags", "names", "rows", "last", "many", "row"]
theorem sc_law_bad_rows : FnScope ["pool", "held", "named", "tail", "flags", "names", "rows", "last", "many", "row"] ["pool", "held"] (defScope s_law_bad_rows) := ⟨rfl, rfl, rfl, by decide +kernel, rfl, by decide +kernel, by decide +kernel⟩
theorem ok_law_bad_rows (T : Tx K mg) : Good P w K mg base CX0 "_law_bad_rows" 3 ["pool", "held"] (spP pRo rBrows) := by
  obtain ⟨fd, F⟩ := T.f__law_bad_rows
  refine ⟨T.m__law_bad_rows, F.kp, fd, ?_, F.bindsN fun _ _ _ _ _ _ us hl => match us, hl with | [_, _], _ => rfl⟩
  have G_law_bad_names := ok_law_bad_names (P := P) (w := w) (base := base) T
  have G_law_pick := ok_law_pick (P := P) (w := w) (base := base) T
  refine F.ok sc_law_bad_rows (fun vs H Q E h => ?_) (fun cdv A outer s H vs Q E hr h => ?_)
  · obtain ⟨p, vs', G, ds, rfl, _, _, r, ⟨ro, rfl, _⟩, _⟩ := h
    show _ + 1 = _
    rw [r.len]
    rfl
  · obtain ⟨p, vs', G, ds, rfl, s0, hq, r, ⟨ro, rfl, hro⟩, k⟩ := h
    obtain ⟨v1, _, rfl, r_held, rfl⟩ := r
    refine ⟨_, PSs.nox ((pss_cons (ps_asg (pv 1) (pg_tup rfl (pgs_cons (pg_name (i := 2) sc_law_bad_rows.nd rfl (Or.inl rfl)) (pgs_cons (pg_name (i := 3) sc_law_bad_rows.nd rfl (Or.inr rfl)) pgs_nil))))
    (pss_cons (ps_set (i := 4) sc_law_bad_rows.nd rfl (Or.inl rfl) (pe_lst (pa_cons pe_str (pa_cons pe_str (pa_cons pe_str (pa_cons pe_str (pa_cons pe_non (pa_cons pe_bl (pa_cons pe_int (pa_cons (pe_tup (pa_cons pe_str pa_nil)) (pa_cons (pe_tup (pa_cons pe_str (pa_cons (pe_un un_neg pe_int) pa_nil))) (pa_cons (pe_tup (pa_cons pe_str (pa_cons pe_bl pa_nil))) (pa_cons (pe_tup (pa_cons pe_str (pa_cons pe_str pa_nil))) (pa_cons (pe_lst (pa_cons pe_str (pa_cons pe_int pa_nil))) (pa_cons (pe_tup (pa_cons pe_str (pa_cons pe_int (pa_cons pe_int pa_nil)))) (pa_cons (pe_tup (pa_cons pe_str pa_nil)) (pa_cons (pe_tup (pa_cons pe_str (pa_cons pe_int pa_nil))) (pa_cons (pe_tup (pa_cons pe_int (pa_cons pe_str pa_nil))) pa_nil))))))))))))))))))
    (pss_cons (ps_set (i := 5) sc_law_bad_rows.nd rfl (Or.inl rfl) (pe_g G_law_bad_names (hr.mono (by decide)) (pa_cons pe_bl pa_nil)))
    (pss_cons (ps_set (i := 6) sc_law_bad_rows.nd rfl (Or.inl rfl) (pe_lst (pa_cons (pe_lst (pa_cons (pe_tup (pa_cons pe_str (pa_cons (pe_ix ix_list (pv 4) (pe_g G_law_pick (hr.mono (by decide)) (pa_cons (pv 0) (pa_cons (pe_callB call_len_seq (by rfl) T.n_len PySem.boot_len (pa_cons (pv 4) pa_nil)) pa_nil))) (fun _ _ => rfl)) pa_nil))) pa_nil)) (pa_cons (pe_lst (pa_cons (pe_tup (pa_cons (pe_ix ix_list (pv 5) (pe_g G_law_pick (hr.mono (by decide)) (pa_cons (pv 0) (pa_cons (pe_callB call_len_seq (by rfl) T.n_len PySem.boot_len (pa_cons (pv 5) pa_nil)) pa_nil))) (fun _ _ => rfl)) (pa_cons pe_str pa_nil))) pa_nil)) (pa_cons (pe_lst (pa_cons (pe_lst (pa_cons pe_str (pa_cons pe_str pa_nil))) pa_nil)) (pa_cons (pe_lst (pa_cons (pe_tup (pa_cons pe_str pa_nil)) pa_nil)) (pa_cons (pe_lst (pa_cons pe_str pa_nil)) (pa_cons (pe_lst (pa_cons pe_non pa_nil)) pa_nil))))))))
    (pss_cons (ps_set (i := 6) sc_law_bad_rows.nd rfl (Or.inl rfl) (pe_op op_cat (pv 6) (pe_lst (pa_cons (pe_lst (pa_cons (pe_tup (pa_cons pe_str (pa_cons pe_str (pa_cons pe_int pa_nil)))) pa_nil)) (pa_cons (pe_lst (pa_cons (pe_tup (pa_cons pe_str (pa_cons pe_str pa_nil))) (pa_cons (pe_tup (pa_cons pe_str (pa_cons pe_str pa_nil))) pa_nil))) (pa_cons (pe_lst (pa_cons (pe_tup (pa_cons pe_str (pa_cons pe_str pa_nil))) (pa_cons (pe_tup (pa_cons pe_str (pa_cons (pe_tup (pa_cons pe_str (pa_cons pe_int pa_nil))) pa_nil))) pa_nil))) (pa_cons (pe_lst (pa_cons (pe_tup (pa_cons pe_str (pa_cons pe_str pa_nil))) (pa_cons (pe_tup (pa_cons pe_str (pa_cons (pe_ix ix_list (pv 4) (pe_g G_law_pick (hr.mono (by decide)) (pa_cons (pv 0) (pa_cons (pe_callB call_len_seq (by rfl) T.n_len PySem.boot_len (pa_cons (pv 4) pa_nil)) pa_nil))) (fun _ _ => rfl)) pa_nil))) pa_nil))) (pa_cons pe_non (pa_cons pe_str (pa_cons (pe_dnewK) pa_nil))))))))))
    (pss_cons (ps_if (pt_cmpR (op_neNil hr.units) (pv 2) (pe_lst pa_nil) (nomark _)) (pss_cons (ps_set (i := 7) sc_law_bad_rows.nd rfl (Or.inl rfl) (pe_ix ix_tup (pe_ix ix_list (pv 2) (pe_op op_sub (pe_callB call_len_seq (by rfl) T.n_len PySem.boot_len (pa_cons (pv 2) pa_nil)) pe_int) (fun _ _ => rfl)) pe_int (fun _ _ => rfl)))
    (pss_one (ps_set (i := 6) sc_law_bad_rows.nd rfl (Or.inl rfl) (pe_op op_cat (pv 6) (pe_lst (pa_cons (pe_op op_cat (pv 2) (pe_slice sl_list (pv 2) po_none (po_some pe_int))) (pa_cons (pe_callTy call_tuple_of (by rfl) T.n_tuple (by decide +kernel) (pa_cons (pv 2) pa_nil)) (pa_cons (pe_op op_cat (pe_slice sl_list (pv 2) po_none (po_some (pe_op op_sub (pe_callB call_len_seq (by rfl) T.n_len PySem.boot_len (pa_cons (pv 2) pa_nil)) pe_int))) (pe_lst (pa_cons (pe_tup (pa_cons (pv 7) (pa_cons (pe_ix ix_list (pv 4) (pe_g G_law_pick (hr.mono (by decide)) (pa_cons (pv 0) (pa_cons (pe_callB call_len_seq (by rfl) T.n_len PySem.boot_len (pa_cons (pv 4) pa_nil)) pa_nil))) (fun _ _ => rfl)) pa_nil))) pa_nil))) (pa_cons (pe_op op_cat (pv 2) (pe_lst (pa_cons (pe_tup (pa_cons (pv 7) (pa_cons pe_str pa_nil))) pa_nil))) pa_nil))))))))) pss_nil)
    (pss_cons (ps_set (i := 8) sc_law_bad_rows.nd rfl (Or.inl rfl) (pe_op op_cat (pe_lc (own := [("row", 9)]) rfl sc_law_bad_rows.nd (pi_list (pv 6)) (blkOk_by (own := [("row", 9)]) (N := ["pool", "held", "named", "tail", "flags", "names", "rows", "last", "many", "row"]) (sc := defScope s_law_bad_rows) (by decide +kernel)) (fun _ _ _ _ _ => by exact (pg_name (i := 9) sc_law_bad_rows.nd rfl (Or.inl rfl))) (fun _ _ _ _ _ => by exact pts_nil) (fun _ _ _ _ _ => by exact (pe_tup (pa_cons (pv 9) (pa_cons (pv 3) pa_nil))))) (pe_lst (pa_cons (pe_tup (pa_cons (pe_callTy call_tuple_of (by rfl) T.n_tuple (by decide +kernel) (pa_cons (pv 2) pa_nil)) (pa_cons (pv 3) pa_nil))) (pa_cons (pe_lst (pa_cons (pv 2) (pa_cons (pv 3) pa_nil))) (pa_cons (pe_tup (pa_cons (pv 2) pa_nil)) (pa_cons (pe_tup (pa_cons (pv 2) (pa_cons (pv 3) (pa_cons pe_int pa_nil)))) (pa_cons (pe_tup (pa_cons (pv 3) (pa_cons (pv 2) pa_nil))) (pa_cons (pv 2) (pa_cons (pv 3) (pa_cons pe_non pa_nil)))))))))))
    (pss_one (ps_ret (pe_op op_cat (pv 8) (pe_lst (pa_cons (pe_tup (pa_cons (pv 2) (pa_cons (pe_un un_neg pe_int) pa_nil))) (pa_cons (pe_tup (pa_cons (pv 2) (pa_cons pe_bl pa_nil))) (pa_cons (pe_tup (pa_cons (pv 2) (pa_cons pe_non pa_nil))) (pa_cons (pe_tup (pa_cons (pv 2) (pa_cons pe_str pa_nil))) (pa_cons (pe_tup (pa_cons (pv 2) (pa_cons (pe_tup (pa_cons (pv 3) pa_nil)) pa_nil))) pa_nil))))))))))))))))), ?_⟩
    have g := gr0 (M := [p]) s0
    have hns := nms_sz hro
    have hnl : (ro.ns.map nmD).length ≤ 6 := by simpa using hro.len
    refine s_seq (s_asg (ed_var rfl (show Rp G (.tup [.lst (ro.ns.map nmD), .int ro.t]) v1 from r_held)) g fun vn G1 H1 g s01 k1 rn => ?_)
    have hq := hq.kp k1
    refine g_two g.s rn rfl fun xn xt r_named rt => ?_
    cases (show xt = .int ro.t from rt)
    have r_tail : ∀ {G'}, Rp G' (.int ro.t) (.int ro.t) := rfl
    dsimp only
    refine s_seq (s_set' (d := .lst bfl) (Ed.to (d := .lst [.str "abs", .str "", .str "Pre", .str "flag", .non, .bl true, .int 0, .tup [.str "flag"], .tup [.str "flag", .int (-1)], .tup [.str "flag", .bl true], .tup [.str "flag", .str "0"], .lst [.str "flag", .int 0], .tup [.str "flag", .int 0, .int 0], .tup [.str "pre"], .tup [.str "Flag", .int 0], .tup [.int 0, .str "flag"]]) (ed_lst (eds_cons ed_str (eds_cons ed_str (eds_cons ed_str (eds_cons ed_str (eds_cons ed_non (eds_cons ed_bl (eds_cons ed_int (eds_cons (ed_tup (eds_cons ed_str eds_nil) (Nat.le_of_ble_eq_true rfl)) (eds_cons (ed_tup (eds_cons ed_str (eds_cons (ed_un ed_int fun _ _ => rd_neg) eds_nil)) (Nat.le_of_ble_eq_true rfl)) (eds_cons (ed_tup (eds_cons ed_str (eds_cons ed_bl eds_nil)) (Nat.le_of_ble_eq_true rfl)) (eds_cons (ed_tup (eds_cons ed_str (eds_cons ed_str eds_nil)) (Nat.le_of_ble_eq_true rfl)) (eds_cons (ed_lst (eds_cons ed_str (eds_cons ed_int eds_nil)) (Nat.le_of_ble_eq_true rfl)) (eds_cons (ed_tup (eds_cons ed_str (eds_cons ed_int (eds_cons ed_int eds_nil))) (Nat.le_of_ble_eq_true rfl)) (eds_cons (ed_tup (eds_cons ed_str eds_nil) (Nat.le_of_ble_eq_true rfl)) (eds_cons (ed_tup (eds_cons ed_str (eds_cons ed_int eds_nil)) (Nat.le_of_ble_eq_true rfl)) (eds_cons (ed_tup (eds_cons ed_int (eds_cons ed_str eds_nil)) (Nat.le_of_ble_eq_true rfl)) eds_nil)))))))))))))))) (Nat.le_of_ble_eq_true rfl)) (by unfold bfl; rfl)) g fun v2 G2 H2 g s2 k2 r_flags => ?_)
    have hq := hq.kp k2
    simp only [tNext]
    refine s_seq (s_set' (d := .lst bnS) (Ed.to (ed_rel (eds_cons ed_bl eds_nil) ⟨false, rfl, rfl⟩) (by simp)) g fun v3 G3 H3 g s3 k3 r_names => ?_)
    have hq := hq.kp k3
    simp only [tNext]
    have e_flags : ∀ {σ : L2.St} {i : Nat} {G' : Hp}, Same G2 G' → σ[i]? = some (some v2) → Ed (tVar i) σ G' (.lst bfl) := fun s h => ed_var h (r_flags.mono s)
    have e_names : ∀ {σ : L2.St} {i : Nat} {G' : Hp}, Same G3 G' → σ[i]? = some (some v3) → Ed (tVar i) σ G' (.lst bnS) := fun s h => ed_var h (r_names.mono s)
    refine s_seq (p_set (P := fun d => ∃ L, d = .lst L ∧ AllP badR 6 L) (edp_lstA (edsa_cons ((edp_lst1 (edp_tup2 (Ed.pl ed_str) (edp_oneOf rfl (e_flags s3 rfl) (ed_lenL (e_flags s3 rfl)) (by decide) rfl))).to ?_) (edsa_cons ((edp_lst1 (edp_tup2 (edp_oneOf rfl (e_names (Same.refl _) rfl) (ed_lenL (e_names (Same.refl _) rfl)) (by decide) rfl) (Ed.pl ed_str))).to ?_) (edsa_cons ((Ed.pl (ed_lst (eds_cons (ed_lst (eds_cons ed_str (eds_cons ed_str eds_nil)) (Nat.le_of_ble_eq_true rfl)) eds_nil) (Nat.le_of_ble_eq_true rfl))).to ?_) (edsa_cons ((Ed.pl (ed_lst (eds_cons (ed_tup (eds_cons ed_str eds_nil) (Nat.le_of_ble_eq_true rfl)) eds_nil) (Nat.le_of_ble_eq_true rfl))).to ?_) (edsa_cons ((Ed.pl (ed_lst (eds_cons ed_str eds_nil) (Nat.le_of_ble_eq_true rfl))).to ?_) (edsa_cons ((Ed.pl (ed_lst (eds_cons ed_non eds_nil) (Nat.le_of_ble_eq_true rfl))).to ?_) (edsa_nil (P := badR)))))))) (by decide)) g (List.mem_singleton.mpr rfl) hq fun d4 v4 G4 H4 hd4 g s4 k4 hq r_rows => ?_)
    · rintro d ⟨x, rfl, a, f, rfl, rfl, hf⟩
      obtain ⟨h1, h2, h3⟩ := bad_flag (s := "o") hf (by decide +kernel)
      exact bad_one h1 h2 (by omega)
    · rintro d ⟨x, rfl, a, f, rfl, ha, rfl⟩
      obtain ⟨h1, h2, h3⟩ := bnS_of ha
      exact bad_one (by show (isSmall a && isFlag (.str "pre")) = false; rw [h1, Bool.false_and]) (by show (strOkB a && flagB (.str "pre")) = true; rw [h2]; rfl) (by simp [szD, szL]; omega)
    · rintro d rfl; exact bad_pre
    · rintro d rfl; exact bad_o
    · rintro d rfl; exact bad_s
    · rintro d rfl; exact bad_n
    obtain ⟨L4, rfl, hL4, hB4⟩ := hd4
    simp only [tNext]
    refine s_seq (p_set (P := fun d => ∃ L, d = .lst L ∧ AllP badR 13 L) (edp_op (Ed.pl (ed_var rfl r_rows)) (edp_lstA (edsa_cons ((Ed.pl (ed_lst (eds_cons (ed_tup (eds_cons ed_str (eds_cons ed_str (eds_cons ed_int eds_nil))) (Nat.le_of_ble_eq_true rfl)) eds_nil) (Nat.le_of_ble_eq_true rfl))).to ?_) (edsa_cons ((Ed.pl (ed_lst (eds_cons (ed_tup (eds_cons ed_str (eds_cons ed_str eds_nil)) (Nat.le_of_ble_eq_true rfl)) (eds_cons (ed_tup (eds_cons ed_str (eds_cons ed_str eds_nil)) (Nat.le_of_ble_eq_true rfl)) eds_nil)) (Nat.le_of_ble_eq_true rfl))).to ?_) (edsa_cons ((Ed.pl (ed_lst (eds_cons (ed_tup (eds_cons ed_str (eds_cons ed_str eds_nil)) (Nat.le_of_ble_eq_true rfl)) (eds_cons (ed_tup (eds_cons ed_str (eds_cons (ed_tup (eds_cons ed_str (eds_cons ed_int eds_nil)) (Nat.le_of_ble_eq_true rfl)) eds_nil)) (Nat.le_of_ble_eq_true rfl)) eds_nil)) (Nat.le_of_ble_eq_true rfl))).to ?_) (edsa_cons ((edp_lst2 (Ed.pl (ed_tup (eds_cons ed_str (eds_cons ed_str eds_nil)) (Nat.le_of_ble_eq_true rfl))) (edp_tup2 (Ed.pl ed_str) (edp_oneOf rfl (e_flags (s3.trans s4) rfl) (ed_lenL (e_flags (s3.trans s4) rfl)) (by decide) rfl))).to ?_) (edsa_cons ((Ed.pl ed_non).to ?_) (edsa_cons ((Ed.pl ed_str).to ?_) (edsa_cons ((Ed.pl ed_dnewK).to ?_) (edsa_nil (P := badR))))))))) (by decide)) ?_) g (List.mem_singleton.mpr rfl) hq fun d5 v5 G5 H5 hd5 g s5 k5 hq r_rows => ?_)
    · rintro d rfl; exact bad_3
    · rintro d rfl; exact bad_po
    · rintro d rfl; exact bad_oo
    · rintro d ⟨x, y, rfl, rfl, a, f, rfl, rfl, hf⟩
      obtain ⟨h1, h2, h3⟩ := bad_flag (s := "b") hf (by decide +kernel)
      refine ⟨?_, ?_, ?_⟩
      · simp [rowsL, h1]
      · have e : namB (.tup [.str "a", .str "pre"]) = true := by decide +kernel
        simp [rokB, h2, e]
      · simp [szD, szL] at h3 ⊢
        omega
    · rintro d rfl; exact ⟨rfl, rfl, by simp [szD]⟩
    · rintro d rfl; exact ⟨rfl, rfl, by simp [szD]⟩
    · rintro d rfl; exact ⟨rfl, rfl, by simp [szD]⟩
    · rintro d e rfl ⟨ds, rfl, h1, h2⟩
      refine ⟨_, ⟨L4 ++ ds, rfl, by rw [List.length_append, hL4, h1], fun x hx => ?_⟩, fun _ _ => rd_cat (by rw [hL4, h1]; decide)⟩
      rcases List.mem_append.mp hx with hx | hx
      · exact hB4 x hx
      · exact h2 x hx
    obtain ⟨L5, rfl, hL5, hB5⟩ := hd5
    have r_named := r_named.mono ((s2.trans s3).trans (s4.trans s5))
    simp only [tNext]
    refine s_seq (s_if' (eb_test (ed_op (ed_var rfl r_named) (ed_lst eds_nil (Nat.zero_le _)) fun _ _ => rd_eqNil)) g (fun hb H6 g k6 => ?_) fun hb H6 g k6 => ?_)
    have hq := hq.kp k6
    have hb : (ro.ns.map nmD).isEmpty = false := by
      cases z : (ro.ns.map nmD).isEmpty with
      | false => rfl
      | true => rw [z] at hb; cases hb
    obtain ⟨⟨x, ns, ex⟩, i, pl, ei⟩ := ends_of hb
    have hil : (ro.ns.map nmD).length = i.length + 1 := by rw [ei, List.length_append]; rfl
    refine s_seq (s_set' (d := .str pl.1) (ed_op (ed_op (ed_var rfl r_named) ((ed_op (ed_lenL (ed_var rfl r_named)) ed_int fun _ _ => rd_I0i).to (e := .int (i.length : Nat)) (by rw [hil]; congr 1; omega)) fun _ _ => rd_ixL (z := nmD pl) (atI_nat (by rw [ei]; simp))) ed_int fun _ _ => rd_ixT at0) g fun v6 G7 H7 g s7 k7 r_last => ?_)
    have hq := hq.kp k7
    simp only [tNext]
    have r_named7 := r_named.mono s7
    have s37 := (s3.trans s4).trans (s5.trans s7)
    refine p_set (P := fun d => ∃ L, d = .lst L ∧ AllP badR 17 L) (edp_op (Ed.pl (ed_var rfl (r_rows.mono s7))) (edp_lstA (edsa_cons ((Ed.pl (ed_op (ed_var rfl r_named7) ((ed_slL (ed_var rfl r_named7) eo_none (eo_some ed_int)).to (e := .lst [x]) (by rw [show ((1 : Int)) = ((1 : Nat) : Int) from rfl, cut_to (by omega), ex]; rfl)) fun _ _ => rd_cat (by have := hro.len; simp; omega))).to ?_) (edsa_cons ((Ed.pl (ed_tupL (ed_var rfl r_named7))).to ?_) (edsa_cons (edp_op (P3 := badR) (Ed.pl ((ed_slL (ed_var rfl r_named7) eo_none (eo_some ((ed_op (ed_lenL (ed_var rfl r_named7)) ed_int fun _ _ => rd_I0i).to (e := .int (i.length : Nat)) (by rw [hil]; congr 1; omega)))).to (e := .lst i) (by rw [cut_to (by omega), ei, List.take_left' rfl]))) (edp_lst1 (edp_tup2 (Ed.pl (ed_var rfl r_last)) (edp_oneOf rfl (e_flags s37 rfl) (ed_lenL (e_flags s37 rfl)) (by decide) rfl))) ?_) (edsa_cons ((Ed.pl (ed_op (ed_var rfl r_named7) (ed_lst (eds_cons (ed_tup (eds_cons (ed_var rfl r_last) (eds_cons ed_str eds_nil)) (Nat.le_of_ble_eq_true rfl)) eds_nil) (Nat.le_of_ble_eq_true rfl)) fun _ _ => rd_cat (by have := hro.len; simp; omega))).to ?_) (edsa_nil (P := badR)))))) (by decide)) ?_) g (List.mem_singleton.mpr rfl) hq fun d8 v8 G8 H8 hd8 g s8 k8 hq r_rows => ?_
    · rintro d rfl
      exact bad_twice hro ex
    · rintro d rfl
      exact ⟨rfl, rfl, by simp only [szD]; omega⟩
    · rintro d e rfl ⟨y, rfl, a, f, rfl, rfl, hf⟩
      have hpl : nmD pl ∈ ro.ns.map nmD := by rw [ei]; simp
      have hb2 : (strOkB (.str pl.1) && flagB pl.2.d) = true := nm_B hro _ hpl
      rw [Bool.and_eq_true] at hb2
      obtain ⟨h1, h2, h3⟩ := bad_flag (s := pl.1) hf hb2.1
      have hsz : szL i ≤ 30 := by rw [ei, szL_app] at hns; omega
      exact ⟨_, bad_more hro (fun m hm => by rw [ei]; exact List.mem_append_left _ hm) hsz (by omega) h2 h3 (.inl h1), fun _ _ => rd_cat (by simp; omega)⟩
    · rintro d rfl
      exact bad_again hro ei
    · rintro d e rfl ⟨ds, rfl, h1, h2⟩
      refine ⟨_, ⟨L5 ++ ds, rfl, by rw [List.length_append, hL5, h1], fun x hx => ?_⟩, fun _ _ => rd_cat (by rw [hL5, h1]; decide)⟩
      rcases List.mem_append.mp hx with hx | hx
      · exact hB5 x hx
      · exact h2 x hx
    obtain ⟨L, rfl, hL, hB⟩ := hd8
    have hL : L.length ≤ 17 := Nat.le_of_eq hL
    have r_named := r_named.mono (s7.trans s8)
    rotate_left
    obtain ⟨L, eL⟩ : ∃ L, L = L5 := ⟨_, rfl⟩
    subst eL
    have hL : L.length ≤ 17 := by omega
    have hB := hB5
    have hq := hq.kp k6
    rotate_left
    all_goals
      simp only [tNext]
      refine s_seq (s_set' (ed_op (ed_lcAll (fun x => .tup [x, .int ro.t]) (es_list (ed_var rfl r_rows)) (by omega) ?_) (ed_lst (eds_cons (ed_tup (eds_cons (ed_tupL (ed_var rfl r_named)) (eds_cons (ed_var rfl r_tail) eds_nil)) (Nat.le_of_ble_eq_true rfl)) (eds_cons (ed_lst (eds_cons (ed_var rfl r_named) (eds_cons (ed_var rfl r_tail) eds_nil)) (Nat.le_of_ble_eq_true rfl)) (eds_cons (ed_tup (eds_cons (ed_var rfl r_named) eds_nil) (Nat.le_of_ble_eq_true rfl)) (eds_cons (ed_tup (eds_cons (ed_var rfl r_named) (eds_cons (ed_var rfl r_tail) (eds_cons ed_int eds_nil))) (Nat.le_of_ble_eq_true rfl)) (eds_cons (ed_tup (eds_cons (ed_var rfl r_tail) (eds_cons (ed_var rfl r_named) eds_nil)) (Nat.le_of_ble_eq_true rfl)) (eds_cons (ed_var rfl r_named) (eds_cons (ed_var rfl r_tail) (eds_cons ed_non eds_nil)))))))) (Nat.le_of_ble_eq_true rfl)) fun _ _ => rd_cat (by simp; omega)) g fun v9 G9 H9 g s9 k9 r_many => ?_)
      · intro d hd G' s
        exact tk_name fun u hu => ⟨rfl, ed_tup (eds_cons (ed_var rfl hu) (eds_cons (ed_var rfl r_tail) eds_nil)) (Nat.le_of_ble_eq_true rfl)⟩
      have hq := hq.kp k9
      have r_named9 := r_named.mono s9
      have r_named := r_named9
      refine s_ret' (ed_op (ed_var rfl r_many) (ed_lst (eds_cons (ed_tup (eds_cons (ed_var rfl r_named) (eds_cons (ed_un ed_int fun _ _ => rd_neg) eds_nil)) (Nat.le_of_ble_eq_true rfl)) (eds_cons (ed_tup (eds_cons (ed_var rfl r_named) (eds_cons ed_bl eds_nil)) (Nat.le_of_ble_eq_true rfl)) (eds_cons (ed_tup (eds_cons (ed_var rfl r_named) (eds_cons ed_non eds_nil)) (Nat.le_of_ble_eq_true rfl)) (eds_cons (ed_tup (eds_cons (ed_var rfl r_named) (eds_cons ed_str eds_nil)) (Nat.le_of_ble_eq_true rfl)) (eds_cons (ed_tup (eds_cons (ed_var rfl r_named) (eds_cons (ed_tup (eds_cons (ed_var rfl r_tail) eds_nil) (Nat.le_of_ble_eq_true rfl)) eds_nil)) (Nat.le_of_ble_eq_true rfl)) eds_nil))))) (Nat.le_of_ble_eq_true rfl)) fun _ _ => rd_cat (by simp; omega)) g fun v G' H' g s' k' r => k _ v G' H' ⟨_, rfl, by simp; omega, fun x hx => ?_⟩ g (hq.kp k') r
      have hrow : ∀ t, rowOk (.tup [.lst (ro.ns.map nmD), t]) := fun t => rowOk_d hro
      rcases List.mem_append.mp hx with hx | hx
      · rcases List.mem_append.mp hx with hx | hx
        · obtain ⟨y, hy, rfl⟩ := List.mem_map.mp hx
          obtain ⟨b1, b2, b3⟩ := hB y hy
          exact ⟨by rw [isRow_of, b1, Bool.and_false], rowOk_of b2, by simp only [szD, szL]; omega⟩
        · simp only [List.mem_cons, List.not_mem_nil, or_false] at hx
          rcases hx with rfl | rfl | rfl | rfl | rfl | rfl | rfl | rfl
          all_goals exact ⟨rfl, trivial, by simp only [szD, szL]; omega⟩
      · simp only [List.mem_cons, List.not_mem_nil, or_false] at hx
        rcases hx with rfl | rfl | rfl | rfl | rfl
        all_goals exact ⟨rfl, hrow _, by simp only [szD, szL]; omega⟩
end
end K18
set_option maxHeartbeats 4000000
/-! Forms that are no kinds. -/
namespace Kd
open PySem PySem.Spec PyProof.Rows L2
section
variable {K : PySem.W.Frag} {σ : L2.St} {G : Hp} {te ta : TE} {d : D} {p : Addr}
/-- {x: d}, x a text -/
theorem ed_disp1 {x : Str} (hk : Ed ta σ G (.str x)) (hv : Ed te σ G d) : Ed (tDisp [(ta, te)]) σ G .dct := fun H s Q q a ha => by
  have g0 := (gr0 (M := []) s).tmp (o := .dK []) ha
  refine hk _ g0.s _ fun v1 G1 H1 g1 r1 => hv.mono g1.g H1 g1.s _ fun v2 G2 H2 g2 r2 => ?_
  have g := (g0.trans g1).trans g2
  have h1 : H2 a = some (.dK []) := g2.e _ _ (g1.e _ _ upd_same)
  have hg : G2 a = none := g2.n a (g1.n a (s.free ha) (some_ne upd_same)) (some_ne (g1.e _ _ upd_same))
  refine ⟨h1, [(.inr x, v2)], ?_, Nat.le_of_ble_eq_true rfl, ?_⟩
  · rw [show v1 = .str x from r1]
    rfl
  · exact q _ _ _ ((g.mut (o := .dK (mergeK [] [(.inr x, v2)])) hg ha).frz upd_same hg ha) ⟨a, _, rfl, upd_same⟩
theorem ed_slS {tl th : TO} {x : Str} {lo hi : Option Int} (hx : x.length ≤ 100000) (h : Ed te σ G (.str x)) (h1 : Eo tl σ G lo) (h2 : Eo th σ G hi) : Ed (tSl rSlS te tl th) σ G (.str (cutS x lo hi)) := fun H s Q q =>
  h H s _ fun v G1 H1 g1 r1 => h1.mono g1.g H1 g1.s _ fun H2 g2 => h2.mono g1.g H2 g2.s _ fun H3 g3 => ⟨x, r1, Nat.le_trans hx (by decide), q _ G1 H3 ((g1.trans g2).trans g3) rfl⟩
/-- [.. for x in e], e drawn -/
theorem edp_lcL {P P3 : D → Prop} {g : TG} {tt : TT} {te2 : TE} {vs : List Nat} (h : EdP p te σ G P) (k : ∀ d v G', P d → Same G G' → Rp G' d v → EdP p (tLc (iList K (tC v)) g tt te2 vs) σ G' P3) : EdP p (tLc (iList K te) g tt te2 vs) σ G P3 := fun H s q Q kk =>
  h H s q _ fun d v G1 H1 hd g1 q1 r1 => k d v G1 hd g1.g r1 H1 g1.s q1 Q fun d2 v2 G2 H2 hd2 g2 q2 r2 => kk d2 v2 G2 H2 hd2 (g1.trans g2) q2 r2
theorem edp_wideOf {m : Int} {ds : List D} (hl : Ed ta σ G (.lst ds)) (hw : EdP p te σ G (fun d => ∃ r : Int, d = .int r ∧ 0 ≤ r ∧ r < m)) (hlen : (ds.length : Int) = m) : EdP p (tOp (rIxL K) ta te) σ G (fun d => d ∈ ds) :=
  edp_op (Ed.pl hl) hw fun d e hd he => by
    subst hd
    obtain ⟨r, rfl, h0, h1⟩ := he
    obtain ⟨j, rfl⟩ := Int.eq_ofNat_of_zero_le h0
    have hj : j < ds.length := by omega
    exact ⟨ds[j], List.getElem_mem hj, fun _ _ => rd_ixL (atI_nat (by simp [hj]))⟩
end
end Kd
namespace K18
open PySem PySem.Spec PyProof.Rows L2 Kd
def restOf : Nd → List D → List D
  | .plain _, _ => []
  | .letter n, _ => [.int n]
  | .pair, ps => ps
  | .data s _, ps => [.str s, .lst ps]
  | .func r, p :: q :: _ => [p, r.d, q]
  | .func _, _ => []
theorem build_rest {a : Nd} {ps : List D} (h : ps.length = a.many) : build a ps = .tup (.str (hdN a) :: restOf a ps) := by
  cases a with
  | pair => match ps, h with | [p, q], _ => rfl
  | func r => match ps, h with | [p, q], _ => rfl
  | _ => rfl
/-- none, told of these parts -/
def wrongD (ps : List D) (d : D) : Prop := kindOk d ∧ isKind d = false ∧ szD d ≤ 2 * szL ps + 200
theorem szL_take_drop (n : Nat) (vs : List D) : szL (vs.take n) + szL (vs.drop n) = szL vs := by rw [← szL_app, List.take_append_drop]
theorem kind_leaf {d : D} (h : partsOf d = none) (k : partsOk d) : kindOk d ∧ isKind d = false := ⟨kindOk_mk k fun ps e => (nomatch h.symm.trans e), (by rw [isKind_eq, h])⟩
theorem leaf_w {d : D} {ps : List D} (h : partsOf d = none) (k : partsOk d) (s : szD d ≤ 2 * szL ps + 200) : wrongD ps d := ⟨(kind_leaf h k).1, (kind_leaf h k).2, s⟩
/-- a word that is none -/
def badW (x : Str) : Bool := !thePlain.any (fun z => z == x) && (!decide (x = "letter") && (!decide (x = "pair") && (!decide (x = "fun") && !decide (x = "data"))))
theorem word_leaf {x : Str} {rs : List D} (h : badW x = true) (hl : rs.length ≤ 1000) : kindOk (.tup (.str x :: rs)) ∧ isKind (.tup (.str x :: rs)) = false := by
  simp only [badW, Bool.and_eq_true, Bool.not_eq_true', decide_eq_false_iff_not] at h
  obtain ⟨h1, h2, h3, h4, h5⟩ := h
  refine kind_leaf ?_ ⟨hl, fun e => absurd e h4, fun e => absurd e h5⟩
  show partsW x rs = none
  unfold partsW
  rw [if_neg (by rw [h1]; simp), if_neg (by simpa using h2), if_neg (by simpa using h3), if_neg (by simpa using h4), if_neg (by simpa using h5)]
def wordB (x : Str) : Bool := badW (x ++ "s") && (badW ("I" ++ cutS x (some 1) none) && decide (x.length ≤ 6))
theorem wordB_of {x : Str} (h : wordB x = true) : badW (x ++ "s") = true ∧ badW ("I" ++ cutS x (some 1) none) = true ∧ x.length ≤ 6 := by
  simp only [wordB, Bool.and_eq_true] at h
  exact ⟨h.1, h.2.1, of_decide_eq_true h.2.2⟩
theorem words_bad {a : Nd} (h : okNd a) : badW (hdN a ++ "s") = true ∧ badW ("I" ++ cutS (hdN a) (some 1) none) = true ∧ (hdN a).length ≤ 6 := by
  cases a with
  | plain w =>
    have hw : w ∈ thePlain := h
    simp only [thePlain, List.mem_cons, List.not_mem_nil, or_false] at hw
    rcases hw with rfl | rfl | rfl | rfl
    all_goals exact wordB_of (by decide +kernel)
  | letter n => exact wordB_of (x := "letter") (by decide +kernel)
  | pair => exact wordB_of (x := "pair") (by decide +kernel)
  | data s m => exact wordB_of (x := "data") (by decide +kernel)
  | func r => exact wordB_of (x := "fun") (by decide +kernel)
/-- the forms of any node -/
def wF1 (w : Str) (R : List D) : List D := [.lst R, .tup (R ++ [.int 0]), .tup (cutD R none (some ((R.length : Int) - 1))), .tup ([.str (w ++ "s")] ++ cutD R (some 1) none), .tup ([.str ""] ++ cutD R (some 1) none), .tup ([.non] ++ cutD R (some 1) none), .tup ([.bl true] ++ cutD R (some 1) none)]
def wF2 (w : Str) (R : List D) : List D := [.tup ([.str ("I" ++ cutS w (some 1) none)] ++ cutD R (some 1) none), .tup ([.tup [.str w]] ++ cutD R (some 1) none), .non, .bl true, .bl false, .int 0, .str w, .str "", .dct, .lst [], .tup [], .lst [.tup R], .tup [.tup R], .dct]
theorem more_part {a : Nd} {ps : List D} (h : okNd a) (hp : ps.length = a.many) : kindOk (.tup ((.str (hdN a) :: restOf a ps) ++ [.int 0])) ∧ isKind (.tup ((.str (hdN a) :: restOf a ps) ++ [.int 0])) = false := by
  cases a with
  | plain w =>
    have hw : w ∈ thePlain := h
    simp only [thePlain, List.mem_cons, List.not_mem_nil, or_false] at hw
    rcases hw with rfl | rfl | rfl | rfl
    all_goals exact kind_leaf rfl ⟨by simp [restOf], fun e => absurd e (by decide), fun e => absurd e (by decide)⟩
  | letter n => exact kind_leaf rfl ⟨by simp [restOf], fun e => absurd (show ("letter" : Str) = "fun" from e) (by decide), fun e => absurd (show ("letter" : Str) = "data" from e) (by decide)⟩
  | pair => match ps, hp with | [p, q], _ => exact kind_leaf rfl ⟨by simp [restOf], fun e => absurd (show ("pair" : Str) = "fun" from e) (by decide), fun e => absurd (show ("pair" : Str) = "data" from e) (by decide)⟩
  | data s m => exact kind_leaf rfl ⟨by simp [restOf], fun e => absurd (show ("data" : Str) = "fun" from e) (by decide), fun _ _ _ e => by simp [restOf] at e⟩
  | func r => match ps, hp with | [p, q], _ => exact kind_leaf rfl ⟨by simp [restOf], fun _ _ _ _ e => by simp [restOf] at e, fun e => absurd (show ("fun" : Str) = "data" from e) (by decide)⟩
theorem less_part {a : Nd} {ps : List D} (h : okNd a) (hp : ps.length = a.many) : kindOk (.tup ((.str (hdN a) :: restOf a ps).take (restOf a ps).length)) ∧ isKind (.tup ((.str (hdN a) :: restOf a ps).take (restOf a ps).length)) = false := by
  cases a with
  | plain w => exact kind_leaf rfl trivial
  | letter n => exact kind_leaf rfl ⟨by simp [restOf], fun e => absurd (show ("letter" : Str) = "fun" from e) (by decide), fun e => absurd (show ("letter" : Str) = "data" from e) (by decide)⟩
  | pair => match ps, hp with | [p, q], _ => exact kind_leaf rfl ⟨by simp [restOf], fun e => absurd (show ("pair" : Str) = "fun" from e) (by decide), fun e => absurd (show ("pair" : Str) = "data" from e) (by decide)⟩
  | data s m => exact kind_leaf rfl ⟨by simp [restOf], fun e => absurd (show ("data" : Str) = "fun" from e) (by decide), fun _ _ _ e => by simp [restOf] at e⟩
  | func r => match ps, hp with | [p, q], _ => exact kind_leaf rfl ⟨by simp [restOf], fun _ _ _ _ e => by simp [restOf] at e, fun e => absurd (show ("fun" : Str) = "data" from e) (by decide)⟩
theorem rest_len {a : Nd} {ps : List D} (h59 : ps.length ≤ 59) : (restOf a ps).length ≤ 59 := by
  cases a with
  | func r => match ps, h59 with
    | [], _ => simp [restOf]
    | [_], _ => simp [restOf]
    | _ :: _ :: _, _ => simp [restOf]
  | pair => exact h59
  | _ => simp [restOf]
theorem rest_sz {a : Nd} {ps : List D} (h : okNd a) (hp : ps.length = a.many) : szL (restOf a ps) + 2 ≤ szL ps + 40 := by
  have h1 := szD_build h hp
  rw [build_rest hp] at h1
  simp only [szD, szL] at h1
  omega
theorem wF_bad {a : Nd} {ps : List D} (h : okNd a) (hp : ps.length = a.many) (h59 : ps.length ≤ 59) : ∀ d ∈ wF1 (hdN a) (.str (hdN a) :: restOf a ps) ++ wF2 (hdN a) (.str (hdN a) :: restOf a ps), wrongD ps d := by
  have hl := rest_len (a := a) h59
  have hs := rest_sz h hp
  obtain ⟨w1, w2, w3⟩ := words_bad h
  have hl' : (restOf a ps).length ≤ 1000 := by omega
  have e1 : cutD (.str (hdN a) :: restOf a ps) (some 1) none = restOf a ps := cut1
  have e2 : cutD (.str (hdN a) :: restOf a ps) none (some (((.str (hdN a) :: restOf a ps : List D).length : Int) - 1)) = (.str (hdN a) :: restOf a ps).take (restOf a ps).length := by
    rw [show (((.str (hdN a) :: restOf a ps : List D).length : Int) - 1) = (((restOf a ps).length : Nat) : Int) by simp]
    exact cut_to (by simp)
  have e3 := szL_take_drop (restOf a ps).length (.str (hdN a) :: restOf a ps)
  intro d hd
  rcases List.mem_append.mp hd with hd | hd
  · simp only [wF1, e1, e2, List.mem_cons, List.not_mem_nil, or_false] at hd
    rcases hd with rfl | rfl | rfl | rfl | rfl | rfl | rfl
    · obtain ⟨k1, k2⟩ := kind_leaf (d := .lst (.str (hdN a) :: restOf a ps)) rfl trivial
      exact ⟨k1, k2, by simp only [szD, szL]; omega⟩
    · obtain ⟨k1, k2⟩ := more_part h hp
      exact ⟨k1, k2, by simp only [szD, szL_app, szL]; omega⟩
    · obtain ⟨k1, k2⟩ := less_part h hp
      exact ⟨k1, k2, by simp only [szD, szL] at e3 ⊢; omega⟩
    · obtain ⟨k1, k2⟩ := word_leaf (rs := restOf a ps) w1 hl'
      exact ⟨k1, k2, by simp only [szD, szL_app, szL]; omega⟩
    · obtain ⟨k1, k2⟩ := word_leaf (x := "") (rs := restOf a ps) (by decide +kernel) hl'
      exact ⟨k1, k2, by simp only [szD, szL_app, szL]; omega⟩
    all_goals exact leaf_w rfl trivial (by simp only [szD, szL_app, szL]; omega)
  · simp only [wF2, e1, List.mem_cons, List.not_mem_nil, or_false] at hd
    rcases hd with rfl | rfl | rfl | rfl | rfl | rfl | rfl | rfl | rfl | rfl | rfl | rfl | rfl | rfl
    · obtain ⟨k1, k2⟩ := word_leaf (rs := restOf a ps) w2 hl'
      exact ⟨k1, k2, by simp only [szD, szL_app, szL]; omega⟩
    all_goals exact leaf_w rfl trivial (by simp only [szD, szL_app, szL]; omega)
end K18
set_option maxHeartbeats 4000000
/-! The wrong forms of each word. -/
namespace K18
open PySem PySem.Spec PyProof.Rows L2 Kd
theorem leaf3 {d : D} {n : Nat} (h : partsOf d = none) (k : partsOk d) (s : szD d ≤ n) : kindOk d ∧ isKind d = false ∧ szD d ≤ n := ⟨(kind_leaf h k).1, (kind_leaf h k).2, s⟩
theorem kind_row {q : D} (h : isKind q = true) : isRow q = false ∧ rowOk q := by
  rw [isKind_eq] at h
  cases q with
  | tup ds =>
    match ds, h with
    | [], h => cases h
    | .str w :: [], _ => exact ⟨rfl, trivial⟩
    | .str w :: [_], _ => exact ⟨rfl, trivial⟩
    | .str w :: _ :: _ :: _, _ => exact ⟨rfl, trivial⟩
    | .non :: _, h => cases h
    | .bl _ :: _, h => cases h
    | .int _ :: _, h => cases h
    | .tup _ :: _, h => cases h
    | .lst _ :: _, h => cases h
    | .dct :: _, h => cases h
  | _ => exact ⟨rfl, trivial⟩
def mLet (n : Int) : List D := [.int (-1), .bl true, .bl false, .non, .str "0", .str "a", .tup [.int n], .lst [.int n], .tup [.str "letter", .int 0]]
theorem mLet_bad {ps : List D} {n : Int} : ∀ d ∈ (mLet n).map fun o => D.tup [.str "letter", o], wrongD ps d := by
  intro d hd
  obtain ⟨o, ho, rfl⟩ := List.mem_map.mp hd
  simp only [mLet, List.mem_cons, List.not_mem_nil, or_false] at ho
  rcases ho with rfl | rfl | rfl | rfl | rfl | rfl | rfl | rfl | rfl
  all_goals exact leaf_w rfl ⟨by simp, fun e => absurd e (by decide), fun e => absurd e (by decide)⟩ (by simp only [szD, szL]; omega)
def mDat (ps : List D) : List D := [.tup ps, .non, .dct, .str "", .int 0, .bl true]
def mDat2 : List D := [.non, .str "int", .int 0, .lst [], .tup [.str "flag", .int 0], .tup [.lst [], .int 0]]
theorem mDat_bad {ps : List D} {s : Str} (hs : s.length ≤ 12) (hg : isGreat (.str s) = true) (h59 : ps.length ≤ 59) (hk : ∀ p ∈ ps, goodK p) :
    ∀ d ∈ ((bnG.map fun n => D.tup [.str "data", n, .lst ps]) ++ (mDat ps).map fun o => D.tup [.str "data", .str s, o]) ++ ((mDat2.map fun o => D.tup [.str "data", .str s, .lst (ps ++ [o])]) ++ [.tup [.str "data", .lst ps, .str s]]), wrongD ps d := by
  intro d hd
  have dn : ∀ {b : Prop}, ("data" : Str) = "fun" → b := fun e => absurd e (by decide)
  rcases List.mem_append.mp hd with hd | hd
  · rcases List.mem_append.mp hd with hd | hd
    · obtain ⟨n, hn, rfl⟩ := List.mem_map.mp hd
      obtain ⟨b1, b2, b3⟩ := bnG_of hn
      refine leaf_w ?_ ⟨by simp, dn, fun _ n' k e => ?_⟩ (by simp only [szD, szL]; omega)
      · show (if isGreat n = true then some ps else none) = none
        rw [b1]
        rfl
      · cases e
        exact strOk_of b2
    · obtain ⟨o, ho, rfl⟩ := List.mem_map.mp hd
      simp only [mDat, List.mem_cons, List.not_mem_nil, or_false] at ho
      rcases ho with rfl | rfl | rfl | rfl | rfl | rfl
      all_goals refine leaf_w rfl ⟨by simp, dn, fun _ n' k e => ?_⟩ (by simp only [szD, szL]; omega)
      all_goals
        cases e
        show s.length ≤ 1000
        omega
  · rcases List.mem_append.mp hd with hd | hd
    · obtain ⟨o, ho, rfl⟩ := List.mem_map.mp hd
      have e : partsOf (.tup [.str "data", .str s, .lst (ps ++ [o])]) = some (ps ++ [o]) := by
        show (if isGreat (.str s) = true then some (ps ++ [o]) else none) = _
        rw [if_pos hg]
      have po : partsOk (.tup [.str "data", .str s, .lst (ps ++ [o])]) := ⟨by simp, dn, fun _ n' k e => by
        cases e
        show s.length ≤ 1000
        omega⟩
      have ho : kindOk o ∧ isKind o = false ∧ szD o ≤ 10 := by
        simp only [mDat2, List.mem_cons, List.not_mem_nil, or_false] at ho
        rcases ho with rfl | rfl | rfl | rfl | rfl | rfl
        · exact leaf3 rfl trivial (by simp [szD, szL])
        · exact leaf3 rfl trivial (by simp [szD, szL])
        · exact leaf3 rfl trivial (by simp [szD, szL])
        · exact leaf3 rfl trivial (by simp [szD, szL])
        · obtain ⟨k1, k2⟩ := word_leaf (x := "flag") (rs := [.int 0]) (by decide +kernel) (by simp)
          exact ⟨k1, k2, by simp [szD, szL]⟩
        · exact leaf3 rfl trivial (by simp [szD, szL])
      refine ⟨kindOk_mk po fun qs e2 p hp => ?_, ?_, by simp only [szD, szL, szL_app]; omega⟩
      · rw [e] at e2
        cases e2
        rcases List.mem_append.mp hp with hp | hp
        · exact (hk p hp).2
        · rw [List.mem_singleton.mp hp]
          exact ho.1
      · rw [isKind_eq, e]
        show (ps ++ [o]).all isKind = false
        rw [List.all_append, List.all_cons, ho.2.1]
        simp
    · rw [List.mem_singleton.mp hd]
      refine leaf_w rfl ⟨by simp, dn, fun _ n' k e => ?_⟩ (by simp only [szD, szL]; omega)
      cases e
      trivial
theorem mFun_bad {p q : D} {r : Ro} {L : List D} (hr : okRo r) (hp : goodK p) (hq : goodK q) (hL : ∀ x ∈ L, isRow x = false ∧ rowOk x ∧ szD x ≤ 130) :
    ∀ d ∈ (L.map fun x => D.tup [.str "fun", p, x, q]) ++ [.tup [.str "fun", p, q, r.d], .tup [.str "fun", r.d, p, q]], wrongD [p, q] d := by
  intro d hd
  have dn : ∀ {b : Prop}, ("fun" : Str) = "data" → b := fun e => absurd e (by decide)
  have key : ∀ x y z : D, isRow y = false → rowOk y → szD x + szD y + szD z ≤ szL [p, q] + 150 → wrongD [p, q] (.tup [.str "fun", x, y, z]) := by
    intro x y z h1 h2 h3
    refine leaf_w ?_ ⟨by simp, fun _ a b c e => ?_, dn⟩ (by simp only [szD, szL] at h3 ⊢; omega)
    · show (if isRow y = true then some [x, z] else none) = none
      rw [h1]
      rfl
    · cases e
      exact h2
  have hz := szD_row hr
  rcases List.mem_append.mp hd with hd | hd
  · obtain ⟨x, hx, rfl⟩ := List.mem_map.mp hd
    obtain ⟨b1, b2, b3⟩ := hL x hx
    exact key p x q b1 b2 (by simp only [szL]; omega)
  · simp only [List.mem_cons, List.not_mem_nil, or_false] at hd
    rcases hd with rfl | rfl
    · obtain ⟨k1, k2⟩ := kind_row hq.1
      exact key p q r.d k1 k2 (by simp only [szL]; omega)
    · obtain ⟨k1, k2⟩ := kind_row hp.1
      exact key r.d p q k1 k2 (by simp only [szL]; omega)
def mPair (p q : D) : List D := [.non, .int 0, .str "int", .lst [], .tup [], .lst [p, q]]
theorem mPair_bad {p q : D} (hp : goodK p) : ∀ d ∈ [.tup [.str "pair", .lst [p, q]]] ++ (mPair p q).map fun o => D.tup [.str "pair", p, o], wrongD [p, q] d := by
  intro d hd
  have d1 : ∀ {b : Prop}, ("pair" : Str) = "data" → b := fun e => absurd e (by decide)
  have d2 : ∀ {b : Prop}, ("pair" : Str) = "fun" → b := fun e => absurd e (by decide)
  rcases List.mem_append.mp hd with hd | hd
  · rw [List.mem_singleton.mp hd]
    exact leaf_w rfl ⟨by simp, d2, d1⟩ (by simp only [szD, szL]; omega)
  · obtain ⟨o, ho, rfl⟩ := List.mem_map.mp hd
    have ho : kindOk o ∧ isKind o = false ∧ szD o ≤ szL [p, q] + 10 := by
      simp only [mPair, List.mem_cons, List.not_mem_nil, or_false] at ho
      rcases ho with rfl | rfl | rfl | rfl | rfl | rfl
      all_goals exact leaf3 rfl trivial (by simp only [szD, szL]; omega)
    have e : partsOf (.tup [.str "pair", p, o]) = some [p, o] := rfl
    refine ⟨kindOk_mk ⟨by simp, d2, d1⟩ fun qs e2 x hx => ?_, ?_, by simp only [szD, szL] at ho ⊢; omega⟩
    · rw [e] at e2
      cases e2
      simp only [List.mem_cons, List.not_mem_nil, or_false] at hx
      rcases hx with rfl | rfl
      · exact hp.2
      · exact ho.1
    · rw [isKind_eq, e]
      show [p, o].all isKind = false
      simp [ho.2.1]
end K18
set_option maxHeartbeats 4000000
namespace K18
open PySem PySem.Spec PyProof.Rows L2 Kd
theorem cutD_len (ds : List D) (lo hi : Option Int) : (Kd.cutD ds lo hi).length ≤ ds.length := by
  unfold Kd.cutD
  rw [List.length_take, List.length_drop]
  omega
theorem cutS_len (x : Str) (lo hi : Option Int) : (cutS x lo hi).length ≤ x.length := by
  show (List.toArray _).size ≤ x.cps.size
  rw [List.size_toArray, List.length_take, List.length_drop]
  have : x.cps.toList.length = x.cps.size := Array.length_toList
  omega
section
variable {P : Program} {w : World} {K : PySem.W.Frag} {mg : Str → Option Value} {base : Heap}
abbrev N_law_wrong : List Str := ["pool", "word", "held", "parts", "right", "forms", "more", "other", "name", "row", "part"]
theorem sc_law_wrong : FnScope ["pool", "word", "held", "parts", "right", "forms", "more", "other", "name", "row", "part"] ["pool", "word", "held", "parts"] (defScope s_law_wrong) := ⟨rfl, rfl, rfl, by decide +kernel, rfl, by decide +kernel, by decide +kernel⟩
theorem ok_law_wrong (T : Tx K mg) : Good P w K mg base CX0 "_law_wrong" 4 ["pool", "word", "held", "parts"] (spP pWrong rWrong) := by
  obtain ⟨fd, F⟩ := T.f__law_wrong
  refine ⟨T.m__law_wrong, F.kp, fd, ?_, F.bindsN fun _ _ _ _ _ _ us hl => match us, hl with | [_, _, _, _], _ => rfl⟩
  have G_law_right := ok_law_right (P := P) (w := w) (base := base) T
  have G_law_wide := ok_law_wide (P := P) (w := w) (base := base) T
  have G_law_pick := ok_law_pick (P := P) (w := w) (base := base) T
  have G_law_bad_names := ok_law_bad_names (P := P) (w := w) (base := base) T
  have G_law_bad_rows := ok_law_bad_rows (P := P) (w := w) (base := base) T
  refine F.ok sc_law_wrong (fun vs H Q E h => ?_) (fun cdv A outer s H vs Q E hr h => ?_)
  · obtain ⟨p, vs', G, ds, rfl, _, _, r, ⟨a, ps, rfl, _⟩, _⟩ := h
    show _ + 1 = _
    rw [r.len]
    rfl
  · obtain ⟨p, vs', G, ds, rfl, s0, hq, r, ⟨a, ps, rfl, ha, hp, h59, hk⟩, k⟩ := h
    obtain ⟨v2, _, rfl, r_word, v3, _, rfl, r_held, v4, _, rfl, r_parts, rfl⟩ := r
    refine ⟨_, PSs.nox ((pss_cons (ps_set (i := 4) sc_law_wrong.nd rfl (Or.inl rfl) (pe_g G_law_right (hr.mono (by decide)) (pa_cons (pv 1) (pa_cons (pv 2) (pa_cons (pv 3) pa_nil)))))
    (pss_cons (ps_set (i := 5) sc_law_wrong.nd rfl (Or.inl rfl) (pe_lst (pa_cons (pe_callTy call_list_of (by rfl) T.n_list (by decide +kernel) (pa_cons (pv 4) pa_nil)) (pa_cons (pe_op op_catA (pv 4) (pe_tup (pa_cons pe_int pa_nil))) (pa_cons (pe_slice sl_tupA (pv 4) po_none (po_some (pe_op op_sub (pe_callB call_len_seq (by rfl) T.n_len PySem.boot_len (pa_cons (pv 4) pa_nil)) pe_int))) (pa_cons (pe_op op_catA (pe_tup (pa_cons (pe_op op_add_str (pv 1) pe_str) pa_nil)) (pe_slice sl_tupA (pv 4) (po_some pe_int) po_none)) (pa_cons (pe_op op_catA (pe_tup (pa_cons pe_str pa_nil)) (pe_slice sl_tupA (pv 4) (po_some pe_int) po_none)) (pa_cons (pe_op op_catA (pe_tup (pa_cons pe_non pa_nil)) (pe_slice sl_tupA (pv 4) (po_some pe_int) po_none)) (pa_cons (pe_op op_catA (pe_tup (pa_cons pe_bl pa_nil)) (pe_slice sl_tupA (pv 4) (po_some pe_int) po_none)) pa_nil)))))))))
    (pss_cons (ps_set (i := 5) sc_law_wrong.nd rfl (Or.inl rfl) (pe_op op_cat (pv 5) (pe_lst (pa_cons (pe_op op_catA (pe_tup (pa_cons (pe_op op_add_str pe_str (pe_slice sl_str (pv 1) (po_some pe_int) po_none)) pa_nil)) (pe_slice sl_tupA (pv 4) (po_some pe_int) po_none)) (pa_cons (pe_op op_catA (pe_tup (pa_cons (pe_tup (pa_cons (pv 1) pa_nil)) pa_nil)) (pe_slice sl_tupA (pv 4) (po_some pe_int) po_none)) (pa_cons pe_non (pa_cons pe_bl (pa_cons pe_bl (pa_cons pe_int (pa_cons (pv 1) (pa_cons pe_str (pa_cons (pe_dnewK) (pa_cons (pe_lst pa_nil) (pa_cons (pe_tup pa_nil) (pa_cons (pe_lst (pa_cons (pv 4) pa_nil)) (pa_cons (pe_tup (pa_cons (pv 4) pa_nil)) (pa_cons (pe_disp (pps_cons pe_str (pv 4) pps_nil) (by rfl) (by rfl) (fun z => by cases z) (by decide)) pa_nil)))))))))))))))))
    (pss_cons (ps_set (i := 6) sc_law_wrong.nd rfl (Or.inl rfl) (pe_lst pa_nil))
    (pss_cons (ps_if (pt_cmpR op_eq (pv 1) pe_str (nomark _)) (pss_one (ps_setLc (i := 6) rfl sc_law_wrong.nd rfl rfl (sw_true rfl rfl rfl (by decide +kernel)) (own := [("other", 7)]) (pi_list (pe_lst (pa_cons (pe_un un_neg pe_int) (pa_cons pe_bl (pa_cons pe_bl (pa_cons pe_non (pa_cons pe_str (pa_cons pe_str (pa_cons (pe_tup (pa_cons (pv 2) pa_nil)) (pa_cons (pe_lst (pa_cons (pv 2) pa_nil)) (pa_cons (pe_tup (pa_cons pe_str (pa_cons pe_int pa_nil))) pa_nil))))))))))) (blkOk_by (own := [("other", 7)]) (N := ["pool", "word", "held", "parts", "right", "forms", "more", "other", "name", "row", "part"]) (sc := defScope s_law_wrong) (by decide +kernel)) (fun _ _ _ _ _ => by exact (pg_name (i := 7) sc_law_wrong.nd rfl (Or.inl rfl))) (fun _ _ _ _ _ => by exact pts_nil) (fun _ _ _ _ _ => by exact (pe_tup (pa_cons pe_str (pa_cons (pv 7) pa_nil)))))) pss_nil)
    (pss_cons (ps_if (pt_cmpR op_eq (pv 1) pe_str (nomark _)) (pss_cons (ps_set (i := 6) sc_law_wrong.nd rfl (Or.inl rfl) (pe_op op_cat (pe_lc (own := [("name", 8)]) rfl sc_law_wrong.nd (pi_list (pe_g G_law_bad_names (hr.mono (by decide)) (pa_cons pe_bl pa_nil))) (blkOk_by (own := [("name", 8)]) (N := ["pool", "word", "held", "parts", "right", "forms", "more", "other", "name", "row", "part"]) (sc := defScope s_law_wrong) (by decide +kernel)) (fun _ _ _ _ _ => by exact (pg_name (i := 8) sc_law_wrong.nd rfl (Or.inl rfl))) (fun _ _ _ _ _ => by exact pts_nil) (fun _ _ _ _ _ => by exact (pe_tup (pa_cons pe_str (pa_cons (pv 8) (pa_cons (pv 3) pa_nil)))))) (pe_lc (own := [("other", 7)]) rfl sc_law_wrong.nd (pi_list (pe_lst (pa_cons (pe_callTy call_tuple_of (by rfl) T.n_tuple (by decide +kernel) (pa_cons (pv 3) pa_nil)) (pa_cons pe_non (pa_cons (pe_dnewK) (pa_cons pe_str (pa_cons pe_int (pa_cons pe_bl pa_nil)))))))) (blkOk_by (own := [("other", 7)]) (N := ["pool", "word", "held", "parts", "right", "forms", "more", "other", "name", "row", "part"]) (sc := defScope s_law_wrong) (by decide +kernel)) (fun _ _ _ _ _ => by exact (pg_name (i := 7) sc_law_wrong.nd rfl (Or.inl rfl))) (fun _ _ _ _ _ => by exact pts_nil) (fun _ _ _ _ _ => by exact (pe_tup (pa_cons pe_str (pa_cons (pv 2) (pa_cons (pv 7) pa_nil))))))))
    (pss_one (ps_set (i := 6) sc_law_wrong.nd rfl (Or.inl rfl) (pe_op op_cat (pe_op op_cat (pv 6) (pe_lc (own := [("other", 7)]) rfl sc_law_wrong.nd (pi_list (pe_lst (pa_cons pe_non (pa_cons pe_str (pa_cons pe_int (pa_cons (pe_lst pa_nil) (pa_cons (pe_tup (pa_cons pe_str (pa_cons pe_int pa_nil))) (pa_cons (pe_tup (pa_cons (pe_lst pa_nil) (pa_cons pe_int pa_nil))) pa_nil)))))))) (blkOk_by (own := [("other", 7)]) (N := ["pool", "word", "held", "parts", "right", "forms", "more", "other", "name", "row", "part"]) (sc := defScope s_law_wrong) (by decide +kernel)) (fun _ _ _ _ _ => by exact (pg_name (i := 7) sc_law_wrong.nd rfl (Or.inl rfl))) (fun _ _ _ _ _ => by exact pts_nil) (fun _ _ _ _ _ => by exact (pe_tup (pa_cons pe_str (pa_cons (pv 2) (pa_cons (pe_op op_cat (pv 3) (pe_lst (pa_cons (pv 7) pa_nil))) pa_nil))))))) (pe_lst (pa_cons (pe_tup (pa_cons pe_str (pa_cons (pv 3) (pa_cons (pv 2) pa_nil)))) pa_nil)))))) pss_nil)
    (pss_cons (ps_if (pt_cmpR op_eq (pv 1) pe_str (nomark _)) (pss_one (ps_set (i := 6) sc_law_wrong.nd rfl (Or.inl rfl) (pe_op op_cat (pe_lc (own := [("row", 9)]) rfl sc_law_wrong.nd (pi_list (pe_g G_law_bad_rows (hr.mono (by decide)) (pa_cons (pv 0) (pa_cons (pv 2) pa_nil)))) (blkOk_by (own := [("row", 9)]) (N := ["pool", "word", "held", "parts", "right", "forms", "more", "other", "name", "row", "part"]) (sc := defScope s_law_wrong) (by decide +kernel)) (fun _ _ _ _ _ => by exact (pg_name (i := 9) sc_law_wrong.nd rfl (Or.inl rfl))) (fun _ _ _ _ _ => by exact pts_nil) (fun _ _ _ _ _ => by exact (pe_tup (pa_cons pe_str (pa_cons (pe_ix (ixK_list (K := K) rfl) (pv 3) pe_int (fun _ _ => rfl)) (pa_cons (pv 9) (pa_cons (pe_ix (ixK_list (K := K) rfl) (pv 3) pe_int (fun _ _ => rfl)) pa_nil))))))) (pe_lst (pa_cons (pe_tup (pa_cons pe_str (pa_cons (pe_ix ix_list (pv 3) pe_int (fun _ _ => rfl)) (pa_cons (pe_ix ix_list (pv 3) pe_int (fun _ _ => rfl)) (pa_cons (pv 2) pa_nil))))) (pa_cons (pe_tup (pa_cons pe_str (pa_cons (pv 2) (pa_cons (pe_ix ix_list (pv 3) pe_int (fun _ _ => rfl)) (pa_cons (pe_ix ix_list (pv 3) pe_int (fun _ _ => rfl)) pa_nil))))) pa_nil)))))) pss_nil)
    (pss_cons (ps_if (pt_cmpR op_eq (pv 1) pe_str (nomark _)) (pss_one (ps_set (i := 6) sc_law_wrong.nd rfl (Or.inl rfl) (pe_op op_cat (pe_lst (pa_cons (pe_tup (pa_cons pe_str (pa_cons (pe_lc (own := [("part", 10)]) rfl sc_law_wrong.nd (pi_list (pv 3)) (blkOk_by (own := [("part", 10)]) (N := ["pool", "word", "held", "parts", "right", "forms", "more", "other", "name", "row", "part"]) (sc := defScope s_law_wrong) (by decide +kernel)) (fun _ _ _ _ _ => by exact (pg_name (i := 10) sc_law_wrong.nd rfl (Or.inl rfl))) (fun _ _ _ _ _ => by exact pts_nil) (fun _ _ _ _ _ => by exact (pv 10))) pa_nil))) pa_nil)) (pe_lc (own := [("other", 7)]) rfl sc_law_wrong.nd (pi_list (pe_lst (pa_cons pe_non (pa_cons pe_int (pa_cons pe_str (pa_cons (pe_lst pa_nil) (pa_cons (pe_tup pa_nil) (pa_cons (pv 3) pa_nil)))))))) (blkOk_by (own := [("other", 7)]) (N := ["pool", "word", "held", "parts", "right", "forms", "more", "other", "name", "row", "part"]) (sc := defScope s_law_wrong) (by decide +kernel)) (fun _ _ _ _ _ => by exact (pg_name (i := 7) sc_law_wrong.nd rfl (Or.inl rfl))) (fun _ _ _ _ _ => by exact pts_nil) (fun _ _ _ _ _ => by exact (pe_tup (pa_cons pe_str (pa_cons (pe_ix (ixK_list (K := K) rfl) (pv 3) pe_int (fun _ _ => rfl)) (pa_cons (pv 7) pa_nil))))))))) pss_nil)
    (pss_cons (ps_if (PW.pt (pw_and (pt_cmpR (op_neNil hr.units) (pv 6) (pe_lst pa_nil) (nomark _)) (pw_and1 (pt_cmpR op_gt (pe_g G_law_pick (hr.mono (by decide)) (pa_cons (pv 0) (pa_cons pe_int pa_nil))) pe_int (nomark _))))) (pss_one (ps_set (i := 5) sc_law_wrong.nd rfl (Or.inl rfl) (pv 6))) pss_nil)
    (pss_one (ps_ret (pe_ix ix_list (pv 5) (pe_g G_law_wide (hr.mono (by decide)) (pa_cons (pv 0) (pa_cons (pe_callB call_len_seq (by rfl) T.n_len PySem.boot_len (pa_cons (pv 5) pa_nil)) pa_nil))) (fun _ _ => rfl)))))))))))))), ?_⟩
    have g := gr0 (M := [p]) s0
    refine s_seq (s_set' (d := build a ps) (ed_rel (eds_cons (ed_var rfl r_word) (eds_cons (ed_var rfl r_held) (eds_cons (ed_var rfl r_parts) eds_nil))) ⟨a, ps, rfl, ha, hp, by omega, rfl⟩) g fun v5 G1 H1 g s1 k1 r_right => ?_)
    have hq := hq.kp k1
    rw [build_rest hp] at r_right
    have hF := wF_bad ha hp h59
    obtain ⟨_, _, w3⟩ := words_bad ha
    have hR := rest_len (a := a) h59
    obtain ⟨R, eR⟩ : ∃ R, R = .str (hdN a) :: restOf a ps := ⟨_, rfl⟩
    rw [← eR] at hF r_right
    have hRl : R.length ≤ 60 := by rw [eR, List.length_cons]; omega
    clear eR
    have hc := cutD_len R (some 1) none
    have r_word := r_word.mono s1
    simp only [tNext]
    refine s_seq (s_set' (d := .lst (wF1 (hdN a) R)) (Ed.to (ed_lst (eds_cons (ed_listT (ed_var rfl r_right)) (eds_cons (ed_op (ed_var rfl r_right) (ed_tup (eds_cons ed_int eds_nil) (Nat.le_of_ble_eq_true rfl)) fun _ _ => rd_catA ?_) (eds_cons (ed_slT (ed_var rfl r_right) eo_none (eo_some (ed_op (ed_lenT (ed_var rfl r_right)) ed_int fun _ _ => rd_I0i))) (eds_cons (ed_op (ed_tup (eds_cons (ed_op (ed_var rfl r_word) ed_str fun _ _ => rd_addS ?_) eds_nil) (Nat.le_of_ble_eq_true rfl)) (ed_slT (ed_var rfl r_right) (eo_some ed_int) eo_none) fun _ _ => rd_catA ?_) (eds_cons (ed_op (ed_tup (eds_cons ed_str eds_nil) (Nat.le_of_ble_eq_true rfl)) (ed_slT (ed_var rfl r_right) (eo_some ed_int) eo_none) fun _ _ => rd_catA ?_) (eds_cons (ed_op (ed_tup (eds_cons ed_non eds_nil) (Nat.le_of_ble_eq_true rfl)) (ed_slT (ed_var rfl r_right) (eo_some ed_int) eo_none) fun _ _ => rd_catA ?_) (eds_cons (ed_op (ed_tup (eds_cons ed_bl eds_nil) (Nat.le_of_ble_eq_true rfl)) (ed_slT (ed_var rfl r_right) (eo_some ed_int) eo_none) fun _ _ => rd_catA ?_) eds_nil))))))) (Nat.le_of_ble_eq_true rfl)) (by unfold wF1; rfl)) g fun v6 G2 H2 g s2 k2 r_forms => ?_)
    · simp; omega
    · show _ + 1 ≤ _; omega
    · simp; omega
    · simp; omega
    · simp; omega
    · simp; omega
    have hq := hq.kp k2
    have r_word := r_word.mono s2
    have r_right := r_right.mono s2
    simp only [tNext]
    refine s_seq (s_set' (d := .lst (wF1 (hdN a) R ++ wF2 (hdN a) R)) (ed_op (ed_var rfl r_forms) (Ed.to (e := .lst (wF2 (hdN a) R)) (ed_lst (eds_cons (ed_op (ed_tup (eds_cons (ed_op ed_str (ed_slS ?_ (ed_var rfl r_word) (eo_some ed_int) eo_none) fun _ _ => rd_addS ?_) eds_nil) (Nat.le_of_ble_eq_true rfl)) (ed_slT (ed_var rfl r_right) (eo_some ed_int) eo_none) fun _ _ => rd_catA ?_) (eds_cons (ed_op (ed_tup (eds_cons (ed_tup (eds_cons (ed_var rfl r_word) eds_nil) (Nat.le_of_ble_eq_true rfl)) eds_nil) (Nat.le_of_ble_eq_true rfl)) (ed_slT (ed_var rfl r_right) (eo_some ed_int) eo_none) fun _ _ => rd_catA ?_) (eds_cons ed_non (eds_cons ed_bl (eds_cons ed_bl (eds_cons ed_int (eds_cons (ed_var rfl r_word) (eds_cons ed_str (eds_cons ed_dnewK (eds_cons (ed_lst eds_nil (Nat.le_of_ble_eq_true rfl)) (eds_cons (ed_tup eds_nil (Nat.le_of_ble_eq_true rfl)) (eds_cons (ed_lst (eds_cons (ed_var rfl r_right) eds_nil) (Nat.le_of_ble_eq_true rfl)) (eds_cons (ed_tup (eds_cons (ed_var rfl r_right) eds_nil) (Nat.le_of_ble_eq_true rfl)) (eds_cons (ed_disp1 ed_str (ed_var rfl r_right)) eds_nil)))))))))))))) (Nat.le_of_ble_eq_true rfl)) (by unfold wF2; rfl)) fun _ _ => rd_cat (by simp [wF1, wF2])) g fun v7 G3 H3 g s3 k3 r_forms => ?_)
    · omega
    · have := cutS_len (hdN a) (some 1) none
      show 1 + _ ≤ _
      omega
    · simp; omega
    · simp; omega
    have hFl : (wF1 (hdN a) R ++ wF2 (hdN a) R).length = 21 := rfl
    generalize wF1 (hdN a) R ++ wF2 (hdN a) R = F at hF hFl r_forms
    have hq := hq.kp k3
    have r_word := r_word.mono s3
    have r_held := r_held.mono (s1.trans (s2.trans s3))
    have r_parts := r_parts.mono (s1.trans (s2.trans s3))
    simp only [tNext]
    refine s_seq (s_set' (d := .lst []) (ed_lst eds_nil (Nat.zero_le _)) g fun v8 G4 H4 g s4 k4 r_more => ?_)
    have hq := hq.kp k4
    have r_word := r_word.mono s4
    have r_held := r_held.mono s4
    have r_parts := r_parts.mono s4
    have r_F := r_forms.mono s4
    have r_pZ := r_parts
    have r_hZ := r_held
    clear r_forms r_parts r_held
    simp only [tNext]
    rcases a with w' | n | _ | ⟨z, m⟩ | x
    obtain ⟨_, n1, n2, n3, n4, _⟩ := plain_word ha
    have r_word : ∀ {G'}, Rp G' (.str w') v2 := fun {G'} => (show v2 = .str w' from r_word)
    refine s_seq (s_if' (((eb_test (ed_op (ed_var rfl r_word) ed_str fun _ _ => rd_eq rfl)) : Eb _ _ _ _).to (decide_eq_false n4)) g (fun z => nomatch z) fun _ H5 g k5 => ?_)
    have hq := hq.kp k5
    simp only [tNext]
    refine s_seq (s_if' (((eb_test (ed_op (ed_var rfl r_word) ed_str fun _ _ => rd_eq rfl)) : Eb _ _ _ _).to (decide_eq_false n3)) g (fun z => nomatch z) fun _ H6 g k6 => ?_)
    have hq := hq.kp k6
    simp only [tNext]
    refine s_seq (s_if' (((eb_test (ed_op (ed_var rfl r_word) ed_str fun _ _ => rd_eq rfl)) : Eb _ _ _ _).to (decide_eq_false n2)) g (fun z => nomatch z) fun _ H7 g k7 => ?_)
    have hq := hq.kp k7
    simp only [tNext]
    refine s_seq (s_if' (((eb_test (ed_op (ed_var rfl r_word) ed_str fun _ _ => rd_eq rfl)) : Eb _ _ _ _).to (decide_eq_false n1)) g (fun z => nomatch z) fun _ H8 g k8 => ?_)
    have hq := hq.kp k8
    simp only [tNext]
    obtain ⟨L, eL⟩ : ∃ L : List D, L = [] := ⟨_, rfl⟩
    have hm : ∀ d ∈ L, wrongD ps d := by rw [eL]; intro d hd; simp at hd
    rw [← eL] at r_more
    clear eL
    rotate_left
    have r_word : ∀ {G'}, Rp G' (.str "letter") v2 := fun {G'} => (show v2 = .str "letter" from r_word)
    have r_held : ∀ {G'}, Rp G' (.int n) v3 := fun {G'} => (show v3 = .int n from r_hZ)
    refine s_seq (s_if' (eb_test (ed_op (ed_var rfl r_word) ed_str fun _ _ => rd_eq rfl)) g (fun _ H5 g k5 => ?_) fun z => nomatch z)
    have hq := hq.kp k5
    refine s_set' (ed_lcAll (fun o => D.tup [.str "letter", o]) (es_list (Ed.to (e := .lst (mLet n)) (ed_lst (eds_cons (ed_un ed_int fun _ _ => rd_neg) (eds_cons ed_bl (eds_cons ed_bl (eds_cons ed_non (eds_cons ed_str (eds_cons ed_str (eds_cons (ed_tup (eds_cons (ed_var rfl r_held) eds_nil) (Nat.le_of_ble_eq_true rfl)) (eds_cons (ed_lst (eds_cons (ed_var rfl r_held) eds_nil) (Nat.le_of_ble_eq_true rfl)) (eds_cons (ed_tup (eds_cons ed_str (eds_cons ed_int eds_nil)) (Nat.le_of_ble_eq_true rfl)) eds_nil))))))))) (Nat.le_of_ble_eq_true rfl)) (by unfold mLet; rfl))) (Nat.le_of_ble_eq_true rfl) ?_) g fun v9 G6 H6 g s6 k6 r_more => ?_
    · intro d hd G' s
      exact tk_name fun u hu => ⟨rfl, ed_tup (eds_cons ed_str (eds_cons (ed_var rfl hu) eds_nil)) (Nat.le_of_ble_eq_true rfl)⟩
    have hq := hq.kp k6
    have r_F := r_F.mono s6
    simp only [tNext]
    refine s_seq (s_if' (eb_test (ed_op (ed_var rfl r_word) ed_str fun _ _ => rd_eq rfl)) g (fun z => nomatch z) fun _ H7 g k7 => ?_)
    have hq := hq.kp k7
    simp only [tNext]
    refine s_seq (s_if' (eb_test (ed_op (ed_var rfl r_word) ed_str fun _ _ => rd_eq rfl)) g (fun z => nomatch z) fun _ H8 g k8 => ?_)
    have hq := hq.kp k8
    simp only [tNext]
    refine s_seq (s_if' (eb_test (ed_op (ed_var rfl r_word) ed_str fun _ _ => rd_eq rfl)) g (fun z => nomatch z) fun _ H9 g k9 => ?_)
    have hq := hq.kp k9
    simp only [tNext]
    have hm : ∀ d ∈ _, wrongD ps d := mLet_bad (ps := ps) (n := n)
    generalize (mLet n).map (fun o => D.tup [.str "letter", o]) = L at hm r_more
    rotate_left
    obtain ⟨y1, y2, rfl⟩ : ∃ x y, ps = [x, y] := match ps, hp with | [x, y], _ => ⟨x, y, rfl⟩
    have r_word : ∀ {G'}, Rp G' (.str "pair") v2 := fun {G'} => (show v2 = .str "pair" from r_word)
    refine s_seq (s_if' (eb_test (ed_op (ed_var rfl r_word) ed_str fun _ _ => rd_eq rfl)) g (fun z => nomatch z) fun _ H5 g k5 => ?_)
    have hq := hq.kp k5
    simp only [tNext]
    refine s_seq (s_if' (eb_test (ed_op (ed_var rfl r_word) ed_str fun _ _ => rd_eq rfl)) g (fun z => nomatch z) fun _ H6 g k6 => ?_)
    have hq := hq.kp k6
    simp only [tNext]
    refine s_seq (s_if' (eb_test (ed_op (ed_var rfl r_word) ed_str fun _ _ => rd_eq rfl)) g (fun z => nomatch z) fun _ H7 g k7 => ?_)
    have hq := hq.kp k7
    simp only [tNext]
    refine s_seq (s_if' (eb_test (ed_op (ed_var rfl r_word) ed_str fun _ _ => rd_eq rfl)) g (fun _ H8 g k8 => ?_) fun z => nomatch z)
    have hq := hq.kp k8
    have r_parts := r_pZ
    refine s_set' (ed_op (ed_lst (eds_cons (ed_tup (eds_cons ed_str (eds_cons ((ed_lcAll (fun d => d) (es_list (ed_var rfl r_parts)) (Nat.le_of_ble_eq_true rfl) ?_).to (e := .lst [y1, y2]) rfl) eds_nil)) (Nat.le_of_ble_eq_true rfl)) eds_nil) (Nat.le_of_ble_eq_true rfl)) (ed_lcAll (fun o => D.tup [.str "pair", y1, o]) (es_list (Ed.to (e := .lst (mPair y1 y2)) (ed_lst (eds_cons ed_non (eds_cons ed_int (eds_cons ed_str (eds_cons (ed_lst eds_nil (Nat.le_of_ble_eq_true rfl)) (eds_cons (ed_tup eds_nil (Nat.le_of_ble_eq_true rfl)) (eds_cons (ed_var rfl r_parts) eds_nil)))))) (Nat.le_of_ble_eq_true rfl)) (by unfold mPair; rfl))) (Nat.le_of_ble_eq_true rfl) ?_) fun _ _ => rd_cat (Nat.le_of_ble_eq_true rfl)) g fun v9 G6 H6 g s6 k6 r_more => ?_
    · intro d hd G' s
      exact tk_name fun u hu => ⟨rfl, ed_var rfl hu⟩
    · intro d hd G' s
      exact tk_name fun u hu => ⟨rfl, ed_tup (eds_cons ed_str (eds_cons (ed_op (ed_var rfl (r_parts.mono s)) ed_int fun _ _ => rd_ixL at0) (eds_cons (ed_var rfl hu) eds_nil))) (Nat.le_of_ble_eq_true rfl)⟩
    have hq := hq.kp k6
    have r_F := r_F.mono s6
    simp only [tNext]
    have hm := mPair_bad (p := y1) (q := y2) (hk y1 (by simp))
    generalize [D.tup [.str "pair", .lst [y1, y2]]] ++ (mPair y1 y2).map (fun o => D.tup [.str "pair", y1, o]) = L at hm r_more
    rotate_left
    have r_word : ∀ {G'}, Rp G' (.str "data") v2 := fun {G'} => (show v2 = .str "data" from r_word)
    have r_held : ∀ {G'}, Rp G' (.str z) v3 := fun {G'} => (show v3 = .str z from r_hZ)
    have r_parts := r_pZ
    refine s_seq (s_if' (eb_test (ed_op (ed_var rfl r_word) ed_str fun _ _ => rd_eq rfl)) g (fun z => nomatch z) fun _ H5 g k5 => ?_)
    have hq := hq.kp k5
    simp only [tNext]
    refine s_seq (s_if' (eb_test (ed_op (ed_var rfl r_word) ed_str fun _ _ => rd_eq rfl)) g (fun _ H6 g k6 => ?_) fun z => nomatch z)
    have hq := hq.kp k6
    refine s_seq (s_set' (ed_op (ed_lcAll (fun n => D.tup [.str "data", n, .lst ps]) (es_list (Ed.to (e := .lst bnG) (ed_rel (eds_cons ed_bl eds_nil) ⟨true, rfl, rfl⟩) (by simp))) (Nat.le_of_ble_eq_true rfl) ?_) (ed_lcAll (fun o => D.tup [.str "data", .str z, o]) (es_list (Ed.to (e := .lst (mDat ps)) (ed_lst (eds_cons (ed_tupL (ed_var rfl r_parts)) (eds_cons ed_non (eds_cons ed_dnewK (eds_cons ed_str (eds_cons ed_int (eds_cons ed_bl eds_nil)))))) (Nat.le_of_ble_eq_true rfl)) (by unfold mDat; rfl))) (Nat.le_of_ble_eq_true rfl) ?_) fun _ _ => rd_cat (Nat.le_of_ble_eq_true rfl)) g fun v9 G6 H6 g s6 k6 r_more => ?_)
    · intro d hd G' s
      exact tk_name fun u hu => ⟨rfl, ed_tup (eds_cons ed_str (eds_cons (ed_var rfl hu) (eds_cons (ed_var rfl (r_parts.mono s)) eds_nil))) (Nat.le_of_ble_eq_true rfl)⟩
    · intro d hd G' s
      exact tk_name fun u hu => ⟨rfl, ed_tup (eds_cons ed_str (eds_cons (ed_var rfl r_held) (eds_cons (ed_var rfl hu) eds_nil))) (Nat.le_of_ble_eq_true rfl)⟩
    have hq := hq.kp k6
    have r_F := r_F.mono s6
    have r_partsS := r_parts.mono s6
    have r_parts := r_partsS
    simp only [tNext]
    refine s_set' ((ed_op (ed_op (ed_var rfl r_more) (ed_lcAll (fun o => D.tup [.str "data", .str z, .lst (ps ++ [o])]) (es_list (Ed.to (e := .lst mDat2) (ed_lst (eds_cons ed_non (eds_cons ed_str (eds_cons ed_int (eds_cons (ed_lst eds_nil (Nat.le_of_ble_eq_true rfl)) (eds_cons (ed_tup (eds_cons ed_str (eds_cons ed_int eds_nil)) (Nat.le_of_ble_eq_true rfl)) (eds_cons (ed_tup (eds_cons (ed_lst eds_nil (Nat.le_of_ble_eq_true rfl)) (eds_cons ed_int eds_nil)) (Nat.le_of_ble_eq_true rfl)) eds_nil)))))) (Nat.le_of_ble_eq_true rfl)) (by unfold mDat2; rfl))) (Nat.le_of_ble_eq_true rfl) ?_) fun _ _ => rd_cat (Nat.le_of_ble_eq_true rfl)) (ed_lst (eds_cons (ed_tup (eds_cons ed_str (eds_cons (ed_var rfl r_parts) (eds_cons (ed_var rfl r_held) eds_nil))) (Nat.le_of_ble_eq_true rfl)) eds_nil) (Nat.le_of_ble_eq_true rfl)) fun _ _ => rd_cat (Nat.le_of_ble_eq_true rfl)).to (e := .lst (((bnG.map (fun n => D.tup [.str "data", n, .lst ps])) ++ (mDat ps).map (fun o => D.tup [.str "data", .str z, o])) ++ ((mDat2.map (fun o => D.tup [.str "data", .str z, .lst (ps ++ [o])])) ++ [D.tup [.str "data", .lst ps, .str z]]))) (by rw [List.append_assoc])) g fun v10 G7 H7 g s7 k7 r_more => ?_
    · intro d hd G' s
      exact tk_name fun u hu => ⟨rfl, ed_tup (eds_cons ed_str (eds_cons (ed_var rfl r_held) (eds_cons (ed_op (ed_var rfl (r_partsS.mono s)) (ed_lst (eds_cons (ed_var rfl hu) eds_nil) (Nat.le_of_ble_eq_true rfl)) fun _ _ => rd_cat (by simp; omega)) eds_nil))) (Nat.le_of_ble_eq_true rfl)⟩
    have hq := hq.kp k7
    have r_F := r_F.mono s7
    simp only [tNext]
    refine s_seq (s_if' (eb_test (ed_op (ed_var rfl r_word) ed_str fun _ _ => rd_eq rfl)) g (fun z => nomatch z) fun _ H8 g k8 => ?_)
    have hq := hq.kp k8
    simp only [tNext]
    refine s_seq (s_if' (eb_test (ed_op (ed_var rfl r_word) ed_str fun _ _ => rd_eq rfl)) g (fun z => nomatch z) fun _ H9 g k9 => ?_)
    have hq := hq.kp k9
    simp only [tNext]
    have hm := mDat_bad ha.2 ha.1 h59 hk
    generalize ((bnG.map (fun n => D.tup [.str "data", n, .lst ps])) ++ (mDat ps).map (fun o => D.tup [.str "data", .str z, o])) ++ ((mDat2.map (fun o => D.tup [.str "data", .str z, .lst (ps ++ [o])])) ++ [D.tup [.str "data", .lst ps, .str z]]) = L at hm r_more
    rotate_left
    obtain ⟨y1, y2, rfl⟩ : ∃ x y, ps = [x, y] := match ps, hp with | [x, y], _ => ⟨x, y, rfl⟩
    have r_word : ∀ {G'}, Rp G' (.str "fun") v2 := fun {G'} => (show v2 = .str "fun" from r_word)
    refine s_seq (s_if' (eb_test (ed_op (ed_var rfl r_word) ed_str fun _ _ => rd_eq rfl)) g (fun z => nomatch z) fun _ H5 g k5 => ?_)
    have hq := hq.kp k5
    simp only [tNext]
    refine s_seq (s_if' (eb_test (ed_op (ed_var rfl r_word) ed_str fun _ _ => rd_eq rfl)) g (fun z => nomatch z) fun _ H6 g k6 => ?_)
    have hq := hq.kp k6
    simp only [tNext]
    refine s_seq (s_if' (eb_test (ed_op (ed_var rfl r_word) ed_str fun _ _ => rd_eq rfl)) g (fun _ H7 g k7 => ?_) fun z => nomatch z)
    have hq := hq.kp k7
    have r_held : Rp G4 x.d v3 := r_hZ
    have r_parts := r_pZ
    refine p_set (P := fun d => ∃ Lr : List D, d = .lst ((Lr.map fun r => D.tup [.str "fun", y1, r, y2]) ++ [.tup [.str "fun", y1, y2, x.d], .tup [.str "fun", x.d, y1, y2]]) ∧ ∀ r ∈ Lr, isRow r = false ∧ rowOk r ∧ szD r ≤ 130) (edp_op (P1 := fun d => ∃ Lr : List D, d = .lst (Lr.map fun r => D.tup [.str "fun", y1, r, y2]) ∧ Lr.length ≤ 100 ∧ ∀ r ∈ Lr, isRow r = false ∧ rowOk r ∧ szD r ≤ 130) (edp_lcL (edp_call rfl (eds_cons (ed_var rfl r_held) eds_nil) ⟨x, rfl, ha⟩) ?_) (Ed.pl (ed_lst (eds_cons (ed_tup (eds_cons ed_str (eds_cons (ed_op (ed_var rfl r_parts) ed_int fun _ _ => rd_ixL at0) (eds_cons (ed_op (ed_var rfl r_parts) ed_int fun _ _ => rd_ixL at1) (eds_cons (ed_var rfl r_held) eds_nil)))) (Nat.le_of_ble_eq_true rfl)) (eds_cons (ed_tup (eds_cons ed_str (eds_cons (ed_var rfl r_held) (eds_cons (ed_op (ed_var rfl r_parts) ed_int fun _ _ => rd_ixL at0) (eds_cons (ed_op (ed_var rfl r_parts) ed_int fun _ _ => rd_ixL at1) eds_nil)))) (Nat.le_of_ble_eq_true rfl)) eds_nil)) (Nat.le_of_ble_eq_true rfl))) ?_) g (List.mem_singleton.mpr rfl) hq fun d9 v9 G6 H6 hd9 g s6 k6 hq r_more => ?_
    · rintro d v G' ⟨Lr, rfl, l1, l2⟩ s r
      refine (Ed.pl (ed_lcAll (fun r => D.tup [.str "fun", y1, r, y2]) (es_list (ed_c r)) (by omega) ?_)).to fun d e => ⟨Lr, e, l1, l2⟩
      intro d hd G'' s'
      exact tk_name fun u hu => ⟨rfl, ed_tup (eds_cons ed_str (eds_cons (ed_op (ed_var rfl (r_parts.mono (s.trans s'))) ed_int fun _ _ => rd_ixL at0) (eds_cons (ed_var rfl hu) (eds_cons (ed_op (ed_var rfl (r_parts.mono (s.trans s'))) ed_int fun _ _ => rd_ixL at1) eds_nil)))) (Nat.le_of_ble_eq_true rfl)⟩
    · rintro d e ⟨Lr, rfl, l1, l2⟩ rfl
      exact ⟨_, ⟨Lr, rfl, l2⟩, fun _ _ => rd_cat (by simp; omega)⟩
    obtain ⟨Lr, rfl, l2⟩ := hd9
    have r_F := r_F.mono s6
    simp only [tNext]
    refine s_seq (s_if' (eb_test (ed_op (ed_var rfl r_word) ed_str fun _ _ => rd_eq rfl)) g (fun z => nomatch z) fun _ H8 g k8 => ?_)
    have hq := hq.kp k8
    simp only [tNext]
    have hm := mFun_bad ha (hk y1 (by simp)) (hk y2 (by simp)) l2
    generalize (Lr.map (fun r => D.tup [.str "fun", y1, r, y2])) ++ [D.tup [.str "fun", y1, y2, x.d], .tup [.str "fun", x.d, y1, y2]] = L at hm r_more
    rotate_left
    all_goals
      refine s_seq (p_if (PB := fun b => b = true → L.isEmpty = false) (ebp_and (PB := fun b => b = !L.isEmpty) (Eb.pl (Eb.to (eb_test (ed_op (ed_var rfl r_more) (ed_lst eds_nil (Nat.zero_le _)) fun _ _ => rd_eqNil)) (by cases L <;> rfl))) (fun hb => (ebp_test (PB := fun _ => True) (edp_op (edp_pick rfl ed_int (by decide)) (Ed.pl ed_int) ?_)).to fun _ _ _ => by simpa using hb) fun _ z => nomatch z) g (List.mem_singleton.mpr rfl) hq (fun hb G10 H10 g s10 g10 hq => ?_) fun hb G10 H10 g s10 g10 hq => ?_)
      · rintro d e ⟨r, rfl, _⟩ rfl
        exact ⟨_, ⟨_, rfl, trivial⟩, fun _ _ => rd_I0b⟩
      · refine s_set' (ed_var rfl (r_more.mono s10)) g fun v11 G11 H11 g s11 k11 r_forms => ?_
        have hq := hq.kp k11
        simp only [tNext]
        refine p_ret (edp_wideOf (ed_var rfl r_forms) (edp_wide rfl (ed_lenL (ed_var rfl r_forms)) (by have := hb rfl; cases L with | nil => cases this | cons x xs => simp)) rfl) g (List.mem_singleton.mpr rfl) hq fun d v G' H' hd g hq r => k d v G' H' ⟨_, _, rfl, hm d hd⟩ g hq r
      · simp only [tNext]
        have r_F := r_F.mono s10
        refine p_ret (edp_wideOf (ed_var rfl r_F) (edp_wide rfl (ed_lenL (ed_var rfl r_F)) (by omega)) rfl) g (List.mem_singleton.mpr rfl) hq fun d v G' H' hd g hq r => k d v G' H' ⟨_, _, rfl, hF d hd⟩ g hq r
end
end K18
set_option maxHeartbeats 4000000
namespace K18
open PySem PySem.Spec PyProof.Rows L2 Kd
theorem pre_drop : ∀ {w : Nat} {ns : List Nd}, Pre w ns → ∀ j, j ≤ ns.length → ∃ v, Pre v (ns.drop j)
  | w, ns, h, 0, _ => ⟨w, h⟩
  | _, _, .nil, j + 1, h => by simp at h
  | _, _, .cons h, j + 1, hj => by
    rw [List.drop_succ_cons]
    exact pre_drop h j (by simpa using hj)

def hit (at' : Int) (n i : Nat) : Prop := 0 ≤ at' ∧ at' < n ∧ (n : Int) - i ≤ at'
structure SV (f : Nd → Nd) (ns : List Nd) (at' : Int) (i : Nat) (vals : List D) : Prop where
  len : vals.length = (stk (ns.drop (ns.length - i))).length
  good : ¬ hit at' ns.length i → vals = (stk (ns.drop (ns.length - i))).map (tD f)
  bad : hit at' ns.length i → (∀ v ∈ vals, kindOk v) ∧ (∃ v ∈ vals, isKind v = false) ∧ szL vals ≤ 80 * i + 200
theorem trees_good {f : Nd → Nd} (hf : ∀ a, (f a).many = a.many) {v : Nat} {ns : List Nd} (hp : Pre v ns) (hok : ∀ a ∈ ns, okNd (f a)) : (∀ d ∈ (stk ns).map (tD f), goodK d) ∧ szL ((stk ns).map (tD f)) ≤ 40 * ns.length := by
  have hs := stk_sz hp
  have ho := stk_ok hf hp hok
  generalize stk ns = ts at hs ho
  refine ⟨fun d hd => ?_, ?_⟩
  · obtain ⟨t, ht, rfl⟩ := List.mem_map.mp hd
    obtain ⟨h1, h2, _⟩ := tree_ok (ho t ht)
    exact ⟨h1, h2⟩
  · have : szL (ts.map (tD f)) ≤ 20 * szTL ts := by
      clear hs
      induction ts with
      | nil => simp [szL]
      | cons t ts ih =>
        have h1 := ih fun u hu => ho u (by simp [hu])
        have h2 := (tree_ok (ho t (by simp))).2.2
        simp only [List.map_cons, szL, szTL]
        omega
    omega
theorem sv_wrong {f : Nd → Nd} {ns : List Nd} {at' : Int} {i m q : Nat} {vals : List D} {d : D} (hf : ∀ a, (f a).many = a.many) {v : Nat} (hp : Pre v (ns.drop (m + 1))) (hok : ∀ a ∈ ns, okNd (f a)) (hm : m + 1 + i = ns.length) (hat : at' = m) (sv : SV f ns at' i vals)
    (hlen : (d :: vals.drop q).length = (stk (ns.drop (ns.length - (i + 1)))).length) (h1 : kindOk d) (h2 : isKind d = false) (h3 : szD d ≤ 2 * szL (vals.take q) + 200) : SV f ns at' (i + 1) (d :: vals.drop q) := by
  have e : ns.length - i = m + 1 := by omega
  have hv := sv.good fun h => by have := h.2.2; omega
  rw [e] at hv
  obtain ⟨k1, k2⟩ := trees_good hf hp fun a ha => hok a (List.mem_of_mem_drop ha)
  rw [← hv] at k1 k2
  rw [List.length_drop] at k2
  have hs := szL_take_drop q vals
  refine ⟨hlen, fun h => absurd ⟨by omega, by omega, by omega⟩ h, fun _ => ⟨fun w hw => ?_, ⟨d, by simp, h2⟩, by simp only [szL]; omega⟩⟩
  rcases List.mem_cons.mp hw with rfl | hw
  · exact h1
  · exact (k1 w (List.mem_of_mem_drop hw)).2
theorem sv_right {f : Nd → Nd} {ns : List Nd} {at' : Int} {i m : Nat} {vals : List D} {x : Nd} (hf : ∀ a, (f a).many = a.many) (hx : okNd (f x)) (hdrop : ns.drop m = x :: ns.drop (m + 1)) (hm : m + 1 + i = ns.length) (hat : at' ≠ m) (sv : SV f ns at' i vals)
    (hpl : (vals.take x.many).length = (f x).many) (hlen : (build (f x) (vals.take x.many) :: vals.drop x.many).length = (stk (ns.drop (ns.length - (i + 1)))).length) : SV f ns at' (i + 1) (build (f x) (vals.take x.many) :: vals.drop x.many) := by
  have e : ns.length - i = m + 1 := by omega
  have e2 : ns.length - (i + 1) = m := by omega
  have hs := szL_take_drop x.many vals
  refine ⟨hlen, fun h => ?_, fun h => ?_⟩
  · have hv := sv.good fun z => h ⟨z.1, z.2.1, by have := z.2.2; omega⟩
    rw [e] at hv
    rw [e2, hdrop, hv]
    show build (f x) (((stk (ns.drop (m + 1))).map (tD f)).take x.many) :: ((stk (ns.drop (m + 1))).map (tD f)).drop x.many = tD f (.mk x ((stk (ns.drop (m + 1))).take x.many)) :: ((stk (ns.drop (m + 1))).drop x.many).map (tD f)
    rw [tD, tDL_map, List.map_take, List.map_drop]
  · obtain ⟨b1, ⟨w, hw, b2⟩, b3⟩ := sv.bad ⟨h.1, h.2.1, by have := h.2.2; omega⟩
    have hz := szD_build hx hpl
    refine ⟨fun u hu => ?_, ?_, by simp only [szL]; omega⟩
    · rcases List.mem_cons.mp hu with rfl | hu
      · exact kindOk_build hx hpl fun p hp => b1 p (List.mem_of_mem_take hp)
      · exact b1 u (List.mem_of_mem_drop hu)
    · rw [← List.take_append_drop x.many vals] at hw
      rcases List.mem_append.mp hw with hw | hw
      · refine ⟨build (f x) (vals.take x.many), List.mem_cons_self, ?_⟩
        rw [isKind_build hx hpl]
        cases q : (vals.take x.many).all isKind with
        | false => rfl
        | true => rw [List.all_eq_true.mp q w hw] at b2; cases b2
      · exact ⟨w, by simp [hw], b2⟩
section
variable {P : Program} {w : World} {K : PySem.W.Frag} {mg : Str → Option Value} {base : Heap}
def rValue (f : Nd → Nd) (ns : List Nd) (at' : Int) (d : D) : Prop := (at' = -1 → d = tD f (root ns)) ∧ (0 ≤ at' → at' < ns.length → kindOk d ∧ isKind d = false ∧ szD d ≤ 100000)
def spV : Sp := fun vs H Q _ => ∃ (p : Addr) (vs' : List V) (G : Hp) (f : Nd → Nd) (ns : List Nd) (at' : Int), vs = .ref p :: vs' ∧ Same G H ∧ PoolAt p G H ∧ RpL G [.lst ((ns.map f).map ndD), .int at'] vs' ∧ Pre 1 ns ∧ (∀ a, (f a).many = a.many) ∧ (∀ a ∈ ns, okNd (f a) ∧ a.many ≤ 59) ∧ ns.length ≤ 900 ∧
  ∀ d v G' H', rValue f ns at' d → Gr [p] G H G' H' → PoolAt p G' H' → Rp G' d v → Q v H'
abbrev N_law_value : List Str := ["pool", "nodes", "at", "done", "k", "word", "held", "many", "parts", "part"]
theorem sc_law_value : FnScope ["pool", "nodes", "at", "done", "k", "word", "held", "many", "parts", "part"] ["pool", "nodes", "at"] (defScope s_law_value) := ⟨rfl, rfl, rfl, by decide +kernel, rfl, by decide +kernel, by decide +kernel⟩
theorem ok_law_value (T : Tx K mg) : Good P w K mg base CX0 "_law_value" 5 ["pool", "nodes", "at"] spV := by
  obtain ⟨fd, F⟩ := T.f__law_value
  refine ⟨T.m__law_value, F.kp, fd, ?_, F.bindsN fun _ _ _ _ _ _ us hl => match us, hl with | [_, _, _], _ => rfl⟩
  have G_law_wrong := ok_law_wrong (P := P) (w := w) (base := base) T
  have G_law_right := ok_law_right (P := P) (w := w) (base := base) T
  refine F.ok sc_law_value (fun vs H Q E h => ?_) (fun cdv A outer s H vs Q E hr h => ?_)
  · obtain ⟨p, vs', G, f, ns, at', rfl, _, _, r, _⟩ := h
    show _ + 1 = _
    rw [r.len]
    rfl
  · obtain ⟨p, vs', G, f, ns, at', rfl, s0, hq, r, hpre, hmany, hok, hlen, k⟩ := h
    obtain ⟨v1, _, rfl, r_nodes, v2, _, rfl, r_at, rfl⟩ := r
    cases (show v2 = .int at' from r_at)
    refine ⟨_, PSs.nox ((pss_cons (ps_set (i := 3) sc_law_value.nd rfl (Or.inl rfl) (pe_lst pa_nil))
    (pss_cons (ps_for PassesOwn.never rfl (pi_range3 (by rfl) T.n_range (pa_cons (pe_op op_sub (pe_callB call_len_seq (by rfl) T.n_len PySem.boot_len (pa_cons (pv 1) pa_nil)) pe_int) (pa_cons (pe_un un_neg pe_int) (pa_cons (pe_un un_neg pe_int) pa_nil)))) (pg_name (i := 4) sc_law_value.nd rfl (Or.inl rfl)) (pss_cons (ps_asg (pe_ix ix_list (pv 1) (pv 4) (fun _ _ => rfl)) (pg_tup rfl (pgs_cons (pg_name (i := 5) sc_law_value.nd rfl (Or.inl rfl)) (pgs_cons (pg_name (i := 6) sc_law_value.nd rfl (Or.inl rfl)) (pgs_cons (pg_name (i := 7) sc_law_value.nd rfl (Or.inl rfl)) pgs_nil)))))
    (pss_cons (ps_set (i := 8) sc_law_value.nd rfl (Or.inl rfl) (pe_lst pa_nil))
    (pss_cons (ps_for PassesOwn.never rfl (pi_range1 (by rfl) T.n_range (pa_cons (pv 7) pa_nil)) (pg_name (i := 9) sc_law_value.nd rfl (Or.inl rfl)) (pss_one (ps_expr (pe_bm PySem.F.plainAttrs_list PySem.F.slot_list_append PySem.F.type_list_append mt_append (pv 8) (pa_cons (pe_bm0 PySem.F.plainAttrs_list PySem.F.slot_list_pop PySem.F.type_list_pop mt_pop (pv 3)) pa_nil)))))
    (pss_one (ps_expr (pe_bm PySem.F.plainAttrs_list PySem.F.slot_list_append PySem.F.type_list_append mt_append (pv 3) (pa_cons (pe_ifExp (pt_cmpR op_eq (pv 4) (pv 2) (nomark _)) (pe_g G_law_wrong (hr.mono (by decide)) (pa_cons (pv 0) (pa_cons (pv 5) (pa_cons (pv 6) (pa_cons (pv 8) pa_nil))))) (pe_g G_law_right (hr.mono (by decide)) (pa_cons (pv 5) (pa_cons (pv 6) (pa_cons (pv 8) pa_nil))))) pa_nil))))))))
    (pss_one (ps_ret (pe_ix ix_list (pv 3) pe_int (fun _ _ => rfl))))))), ?_⟩
    have g := gr0 (M := [p]) s0
    have hp0 := hq.ne
    have hnl : ((ns.map f).map ndD).length = ns.length := by simp
    refine o_new eds_nil (Nat.zero_le _) g fun ld G1 H1 g s1 k1 od _ => ?_
    have hq := hq.kp k1
    dsimp only
    refine s_seq (s_for (σ := [some (.ref p), some v1, some (.int at'), some (.ref ld), none, none, none, none, none, none]) (items := (List.range ns.length).map fun i => .int ((ns.length : Int) - 1 - (i : Nat))) (es_down (ed_op ((ed_lenL (ed_var rfl (r_nodes.mono s1))).to (by rw [hnl])) ed_int fun _ _ => rd_I0i) (ed_un ed_int fun _ _ => rd_neg) (by omega)) g (fun i σ G' H' => Same G1 G' ∧ PoolAt p G' H' ∧ ∃ (vals : List D) (o4 o5 o6 o7 o8 o9 : Option V), σ = [some (.ref p), some v1, some (.int at'), some (.ref ld), o4, o5, o6, o7, o8, o9] ∧ Own H G' H' ld vals.reverse ∧ SV f ns at' i vals) (fun G' H' g' s' k' => ⟨s', hq.kp k', [], _, _, _, _, _, _, rfl, od.kp s' k', by simp [stk], fun _ => by simp [stk], fun h => absurd h.2.2 (by have := h.2.1; omega)⟩) ?_ ?_)
    · rintro Gs i d v σ Gi Hi Gj Hj hd sg sgi ⟨si, hq, vals, o4, o5, o6, o7, o8, o9, rfl, od, sv⟩ g sj kj rv
      have hq := hq.kp kj
      have od := od.kp sj kj
      rw [List.getElem?_map] at hd
      obtain ⟨i', hi', rfl⟩ := Option.map_eq_some_iff.mp hd
      have hil : i < ns.length := by
        have := (List.getElem?_eq_some_iff.mp hi').1
        simpa using this
      have ei : i' = i := by
        rw [List.getElem?_range hil] at hi'
        exact (Option.some.inj hi').symm
      subst ei
      obtain ⟨m, hm⟩ : ∃ m, m = ns.length - 1 - i' := ⟨_, rfl⟩
      have hml : m < ns.length := by omega
      have ek : (ns.length : Int) - 1 - ((i' : Nat) : Int) = ((m : Nat) : Int) := by omega
      rw [ek] at rv
      cases (show v = .int ((m : Nat) : Int) from rv)
      obtain ⟨x, hx⟩ : ∃ x, ns[m]? = some x := ⟨ns[m], by simp [hml]⟩
      have hdrop : ns.drop m = x :: ns.drop (m + 1) := by
        rw [List.drop_eq_getElem_cons hml]
        rw [(List.getElem?_eq_some_iff.mp hx).2]
      have e1 : ns.length - i' = m + 1 := by omega
      have e2 : ns.length - (i' + 1) = m := by omega
      have hxm := List.mem_of_getElem? hx
      obtain ⟨hokx, hmx⟩ := hok x hxm
      have hfm := hmany x
      obtain ⟨wv, hpv⟩ := pre_drop hpre m (by omega)
      rw [hdrop] at hpv
      have svl := sv.len
      rw [e1] at svl
      have hcut : x.many ≤ vals.length := by
        cases hpv with
        | cons hp2 =>
          rw [svl, stk_len hp2]
          omega
      have hvl : vals.length ≤ 1800 := by
        cases hpv with
        | cons hp2 =>
          have h1 := stk_sz hp2
          have h2 := szTL_len (stk (ns.drop (m + 1)))
          rw [svl]
          simp only [List.length_drop] at h1
          omega
      have r_nodes' := r_nodes.mono (s1.trans (si.trans sj))
      have hat : atI ((ns.map f).map ndD) ((m : Nat) : Int) = some (ndD (f x)) := atI_nat (by rw [List.getElem?_map, List.getElem?_map, hx]; rfl)
      refine (ed_op (ed_var rfl r_nodes') (ed_var rfl (show Rp Gj (.int ((m : Nat) : Int)) (.int ((m : Nat) : Int)) from rfl)) fun _ _ => rd_ixL hat : Ed _ _ Gj (ndD (f x))) Hj g.s _ fun vn G2 H2 g2 rn => ?_
      have hq := hq.kp g2.kp
      have od := od.kp g2.g g2.kp
      have g := g.call g2
      refine g_three g.s rn rfl fun xw xh xm rw' rh rm => ?_
      cases (show xm = .int ((f x).many : Nat) from rm)
      refine o_new eds_nil (Nat.zero_le _) g fun lp G3 H3 g s3 k3 op ks3 => ?_
      obtain ⟨od, ndp⟩ := ks3 ld _ od
      have hq := hq.kp k3
      dsimp only
      refine s_seq (s_for (σ := [some (.ref p), some v1, some (.int at'), some (.ref ld), some (.int ((m : Nat) : Int)), some xw, some xh, some (.int ((f x).many : Nat)), some (.ref lp), o9]) (es_range1 (n := ((f x).many : Nat)) (ed_var rfl rfl) (by omega) (by omega)) g (fun j σ G' H' => Same G3 G' ∧ PoolAt p G' H' ∧ ∃ o9, σ = [some (.ref p), some v1, some (.int at'), some (.ref ld), some (.int ((m : Nat) : Int)), some xw, some xh, some (.int ((f x).many : Nat)), some (.ref lp), o9] ∧ Own H G' H' ld (vals.drop j).reverse ∧ Own H G' H' lp (vals.take j)) (fun G' H' g' s' k' => ⟨s', hq.kp k', _, rfl, by rw [List.drop_zero]; exact od.kp s' k', op.kp s' k'⟩) ?_ ?_)
      · rintro Gs' j d' v' σ' Gk Hk Gl Hl hd' sg' sgk ⟨sk, hq, o9, rfl, od, op⟩ g sl kl rv'
        rw [List.getElem?_map] at hd'
        obtain ⟨j', hj', _⟩ := Option.map_eq_some_iff.mp hd'
        have hjm : j < (f x).many := by
          have := (List.getElem?_eq_some_iff.mp hj').1
          simpa using this
        have hjl : j < vals.length := by omega
        have e : (vals.drop j).reverse = (vals.drop (j + 1)).reverse ++ [vals[j]] := by rw [List.drop_eq_getElem_cons hjl, List.reverse_cons]
        have od := od.kp sl kl
        rw [e] at od
        have hq := hq.kp kl
        refine o_move rfl rfl g (op.kp sl kl) od (Ne.symm ndp) (by rw [List.length_take]; omega) fun H9 g op od ko _ => ?_
        refine ⟨Gl, g, sgk.trans sl, sk.trans sl, ⟨hq.g, ?_⟩, _, rfl, od, by rw [take_snoc (show vals[j]? = some vals[j] by simp [hjl])]; exact op⟩
        obtain ⟨pl, st, xs, e, r⟩ := hq.e
        exact ⟨pl, st, xs, ko p _ (fun z => hp0 (by rw [z]; exact op.h0)) (fun z => hp0 (by rw [z]; exact od.h0)) e, r⟩
      · rintro σ' G5 H5 g s5 ⟨sk, hq, o9, rfl, od, op⟩
        rw [List.length_map, List.length_range, Int.toNat_natCast, hfm] at od op
        obtain ⟨G6, g, s6, r_parts, ks6, nn6⟩ := op.frz g
        have od := ks6 ld _ ndp od
        have hq : PoolAt p G6 H5 := ⟨nn6 p (fun z => hp0 (by rw [z]; exact op.h0)) hq.g, hq.e⟩
        have s36 : Same G2 G6 := s3.trans (sk.trans s6)
        have hpl : (vals.take x.many).length = (f x).many := by rw [List.length_take, hfm]; omega
        have e1' : stk (ns.drop m) = .mk x ((stk (ns.drop (m + 1))).take x.many) :: (stk (ns.drop (m + 1))).drop x.many := by rw [hdrop]; rfl
        have hnewlen : ∀ d, (d :: vals.drop x.many).length = (stk (ns.drop (ns.length - (i' + 1)))).length := by
          intro d
          rw [e2, e1', List.length_cons, List.length_cons, List.length_drop, List.length_drop, svl]
        have szs := szL_take_drop x.many vals
        refine p_append (P := fun d => SV f ns at' (i' + 1) (d :: vals.drop x.many)) rfl (edp_if (Eb.pl (eb_test (ed_op (ed_var rfl (show Rp G6 (.int ((m : Nat) : Int)) (.int ((m : Nat) : Int)) from rfl)) (ed_var rfl (show Rp G6 (.int at') (.int at') from rfl)) fun _ _ => rd_eq rfl))) (fun hb => (edp_call (ds := [.str (hdN (f x)), heldD (f x), .lst (vals.take x.many)]) rfl (eds_cons (ed_var rfl (rw'.mono s36)) (eds_cons (ed_var rfl (rh.mono s36)) (eds_cons (ed_var rfl r_parts) eds_nil))) ⟨f x, _, rfl, hokx, hpl, by omega, ?_⟩).to ?_) (fun hb => (Ed.pl (ed_rel (eds_cons (ed_var rfl (rw'.mono s36)) (eds_cons (ed_var rfl (rh.mono s36)) (eds_cons (ed_var rfl r_parts) eds_nil))) ⟨f x, _, rfl, hokx, hpl, by omega, rfl⟩)).to ?_)) g (List.mem_singleton.mpr rfl) hp0 hq od (by simp; omega) fun d G7 H7 hd g s7 hq od _ => ?_
        · rintro d ⟨a', ps', e, z1, z2, z3⟩
          have e3 : vals.take x.many = ps' := by
            have e4 := (List.cons.inj (List.cons.inj (List.cons.inj e).2).2).1
            exact D.lst.inj e4
          rw [← e3] at z3
          cases hpv with
          | cons hp2 => exact sv_wrong hmany hp2 (fun a ha => (hok a ha).1) (by omega) (of_decide_eq_true hb.symm).symm sv (hnewlen d) z1 z2 z3
        · rintro d rfl
          exact sv_right hmany hokx hdrop (by omega) (fun e => of_decide_eq_false hb.symm e.symm) sv hpl (hnewlen _)
        · exact ⟨G7, g, sgi.trans (sj.trans (g2.g.trans (s36.trans s7))), si.trans (sj.trans (g2.g.trans (s36.trans s7))), hq, d :: vals.drop x.many, _, _, _, _, _, _, rfl, by rw [List.reverse_cons]; exact od, hd⟩
        · intro q hq'
          have hv := sv.good fun h => by
            have := h.2.2
            have := of_decide_eq_true hb.symm
            omega
          cases hpv with
          | cons hp2 =>
            rw [e1] at hv
            rw [hv] at hq'
            exact (trees_good hmany hp2 fun a ha => (hok a (List.mem_of_mem_drop ha)).1).1 q (List.mem_of_mem_take hq')
    · rintro σ G' H' g s' ⟨si, hq, vals, o4, o5, o6, o7, o8, o9, rfl, od, sv⟩
      rw [List.length_map, List.length_range] at sv
      have hs1 := stk_root hpre
      have hl1 : vals.length = 1 := by
        have := sv.len
        rw [Nat.sub_self, List.drop_zero, hs1] at this
        exact this
      obtain ⟨d, rfl⟩ : ∃ d, vals = [d] := match vals, hl1 with | [d], _ => ⟨d, rfl⟩
      obtain ⟨G9, g, s9, r_done, _, nn⟩ := od.frz g
      have hq : PoolAt p G9 H' := ⟨nn p (fun z => hp0 (by rw [z]; exact od.h0)) hq.g, hq.e⟩
      dsimp only
      refine s_ret' (ed_op (ed_var rfl r_done) ed_int fun _ _ => rd_ixL at0) g fun v G10 H10 g s10 k10 r10 => ?_
      refine k d v G10 H10 ?_ g (hq.kp k10) r10
      refine ⟨fun e => ?_, fun h0 h1 => ?_⟩
      · have := sv.good (fun h => by have := h.1; omega)
        rw [Nat.sub_self, List.drop_zero, hs1] at this
        exact (List.cons.inj this).1
      · obtain ⟨b1, ⟨v', hv', b2⟩, b3⟩ := sv.bad ⟨h0, h1, by omega⟩
        rw [List.mem_singleton.mp hv'] at b2
        have hsz : szL [d] = szD d := by simp [szL]
        exact ⟨b1 d (by simp), b2, by rw [hsz] at b3; omega⟩
end
end K18
set_option maxHeartbeats 4000000
namespace Kd
open PySem PySem.Spec PyProof.Rows L2
section
variable {X : Cx}
/-- an error of an own class that has no arguments -/
theorem pmk_own0 {C : Addr} {bmB : List Value} {B newId initId : String} {x : Str} {p pos : Pos} (F : ExcBaseFacts B newId initId bmB) (q : PySem.W.excIn X.K C bmB newId = true) (gC : X.mg x = some (.ref C)) (kC : PySem.W.keepIn X.K (.ref C) = true) (r : Raises X (.ref C)) (hg : Gl X x)
    (hdb : (x == ("__debug__" : Str)) = false := by decide) : PMk X (.Call (.Name x p) [] [] pos) (fun _ H Q => Q (.ref C) none H) := by
  intro pins s σ H Q I h
  refine wpAny_Call_Name_kw (ld_glob I hg gC ?_ hdb)
  refine PySem.W.callWith_K0 (first := []) I.kIn kC ?_
  show wpAny _ _ (call (.ref C) []) _ _ _
  obtain ⟨bm, N, nm, qn, bs, hdct, sn, sub, ab, col, dd, k0, k1, k2, k3, k5, mN, hC, hN, hni, T⟩ := exc_obj I.kIn q
  refine wpAny_call_exc_subT F T hC hN hni (fun h' e hm => ?_) (Nat.zero_le _)
  exact mk_of I hm r h (I.hok.gone hm.new)
/-- a call of a def that may raise, where it doesn't -/
theorem passE0 {σ : L2.St} : PassesAt (L2.CX X.prog X.w) X σ E0 := fun _ _ _ _ _ _ c => by
  obtain ⟨_, _, _, _, _, _, _, _, _, _, _, _, z⟩ := c
  exact z.elim
theorem pe_gS {x : Str} {k : Nat} {ps : List Str} {sp : Sp} {e : Expr} {es : List Expr} {t : TA} {p pos : Pos} (g : Good X.prog X.w X.K X.mg X.base (L2.CX X.prog X.w) x k ps sp) (hr : Room k X.A) (ha : PA X (e :: es) t) (hg : Gl X x := by rfl)
    (hdb : (x == ("__debug__" : Str)) = false := by decide) (he : starEach (e :: es) X.env = (false, eval e X.env) :: starEach es X.env := by rfl) (hpl : (backTo pos (starEach es X.env)).any (·.1) = false := by rfl) :
    PE X (.Call (.Name x p) (e :: es) [] pos) (tCallS sp (fun _ => E0) t) := by
  obtain ⟨fd, F, b⟩ := g.ok
  exact pe_callS F hr hg g.m g.kp b (fun _ => passE0) ha hdb he hpl
theorem pe_gT {W : WX} {x : Str} {k : Nat} {ps : List Str} {sp : Sp} {e : Expr} {es : List Expr} {t : TA} {p pos : Pos} (tk : Takes X W) (g : Good X.prog X.w X.K X.mg X.base (L2.CX X.prog X.w) x k ps sp) (hr : Room k X.A) (ha : PA X (e :: es) t) (hg : Gl X x := by rfl)
    (hdb : (x == ("__debug__" : Str)) = false := by decide) (he : starEach (e :: es) X.env = (false, eval e X.env) :: starEach es X.env := by rfl) (hpl : (backTo pos (starEach es X.env)).any (·.1) = false := by rfl) :
    PE X (.Call (.Name x p) (e :: es) [] pos) (tCallS sp (fun σ => WE W σ) t) := by
  obtain ⟨fd, F, b⟩ := g.ok
  exact pe_callS F hr hg g.m g.kp b (fun σ => passAt tk σ) ha hdb he hpl
theorem pss_given {b : List Stmt} {p : Prop} {t : TS} (h : p → PSs X b t) : PSs X b (fun D σ H => p ∧ t D σ H) := ⟨fun pins s σ H D I q => (h q.1).run pins s σ H D I q.2⟩
end
end Kd
namespace K18
open PySem PySem.Spec PyProof.Rows L2 Kd
section
variable {P : Program} {w : World} {K : PySem.W.Frag} {mg : Str → Option Value} {base : Heap}
/-- the promise of is_instance: it raises where one is no kind -/
def spI (K : PySem.W.Frag) : Sp := fun vs H Q E => ∃ (G : Hp) (x y : D), Same G H ∧ RpL G [x, y] vs ∧ kindOk x ∧ kindOk y ∧ szD x ≤ 100000 ∧ szD y ≤ 100000 ∧
  (isKind x = true → isKind y = true → ∃ d, rInst [x, y] d ∧ ∀ v G' H', Gp G H G' H' → Rp G' d v → Q v H') ∧ ((isKind x && isKind y) = false → ∀ G' H', Gp G H G' H' → E (.ref (He.ga K "BadKind")) none H')
abbrev N_is_instance : List Str := ["scheme", "kind"]
theorem sc_is_instance : FnScope ["scheme", "kind"] ["scheme", "kind"] (defScope s_is_instance) := ⟨rfl, rfl, rfl, by decide +kernel, rfl, by decide +kernel, by decide +kernel⟩
theorem ok_is_instance (T : Tx K mg) : Good P w K mg base (L2.CX P w) "is_instance" 9 ["scheme", "kind"] (spI K) := by
  obtain ⟨fd, F⟩ := T.f_is_instance
  refine ⟨T.m_is_instance, F.kp, fd, ?_, F.bindsN fun _ _ _ _ _ _ us hl => match us, hl with | [_, _], _ => rfl⟩
  have G_is_instance_of := ok_is_instance_of (P := P) (w := w) (base := base) T
  have G_is_kind := ok_is_kind (P := P) (w := w) (base := base) T
  refine F.ok sc_is_instance (fun vs H Q E h => ?_) (fun cdv A outer s H vs Q E hr h => ?_)
  · obtain ⟨G, x, y, _, r, _⟩ := h
    exact r.len
  · obtain ⟨G, x, y, s0, r, hx, hy, zx, zy, k1, k2⟩ := h
    obtain ⟨v1, _, rfl, r_scheme, v2, _, rfl, r_kind, rfl⟩ := r
    refine ⟨_, (pss_cons (ps_if (PW.pt (pw_or (pt_not (pt_val (pe_g G_is_kind (hr.mono (by decide)) (pa_cons (pv 0) pa_nil)))) (pw_or1 (pt_not (pt_val (pe_g G_is_kind (hr.mono (by decide)) (pa_cons (pv 1) pa_nil))))))) (pss_one (ps_raise rfl (takes_of rfl rfl rfl rfl) (pmk_own0 PySem.F.excBase_Exception (He.ba (He.ba (He.ba T.x_2).1).1).1 T.m_BadKind (He.ba (He.ba (He.ba T.x_2).1).1).2 (raises_own (beq_iff_eq.mp (He.ba (He.ba T.x_2).1).2) (beq_iff_eq.mp (He.ba T.x_2).2)) rfl))) pss_nil)
    (pss_one (ps_ret (pe_g G_is_instance_of (hr.mono (by decide)) (pa_cons (pv 0) (pa_cons (pv 1) pa_nil)))))), ?_⟩
    have g := gr0 (M := []) s0
    refine s_seq (s_if' (b := !isKind x || !isKind y) (eb_or (eb_not (eb_B (ed_rel (eds_cons (ed_var rfl r_scheme) eds_nil) ?_))) fun _ => (eb_not (eb_B (ed_rel (eds_cons (ed_var rfl r_kind) eds_nil) ?_)))) g (fun hb H1 g k => ?_) fun hb H1 g k => ?_)
    · exact ⟨x, rfl, hx, zx, rfl⟩
    · exact ⟨y, rfl, hy, zy, rfl⟩
    · exact k2 (by cases q : isKind x <;> cases q2 : isKind y <;> simp_all) G H1 g
    · have hb2 : isKind x = true ∧ isKind y = true := by
        cases q : isKind x <;> cases q2 : isKind y <;> simp_all
      obtain ⟨d, hd, k1⟩ := k1 hb2.1 hb2.2
      simp only [tNext]
      exact s_ret (ed_rel (eds_cons (ed_var rfl r_scheme) (eds_cons (ed_var rfl r_kind) eds_nil)) hd) g k1
theorem ed_inst {σ : L2.St} {G : Hp} {ta : TA} {x y d : D} (h : Eds ta σ G [x, y]) (hx : kindOk x) (hy : kindOk y) (zx : szD x ≤ 100000) (zy : szD y ≤ 100000) (ix : isKind x = true) (iy : isKind y = true) (hd : rInst [x, y] d) : Ed (tCallS (spI K) (fun _ => E0) ta) σ G d := fun H s Q q =>
  h H s _ fun vs G1 H1 g1 r1 => ⟨G1, x, y, g1.s, r1, hx, hy, zx, zy, fun _ _ => ⟨d, hd, fun v G2 H2 g2 r2 => q v G2 H2 (g1.trans g2) r2⟩, fun h => by rw [ix, iy] at h; cases h⟩
end
end K18
set_option maxHeartbeats 4000000
namespace Kd
open PySem PySem.Spec PyProof.Rows L2
theorem takes0 {X : Cx} : Takes X (fun _ _ _ _ => False) := fun _ _ x => by
  obtain ⟨_, _, _, _, _, _, _, _, _, _, _, _, _, _, _, _, z⟩ := x
  exact z.elim
theorem opK_eqD {X : Cx} {K : PySem.W.Frag} (h : X.K = K) (hu : X.A.units + 64 < cLine) : OpR X (compareOp .Eq) (rEqD K) := h ▸ op_eqD hu
theorem callK_isE {X : Cx} {K : PySem.W.Frag} {a D : Addr} {oe : Obj} {pn : List (Addr × Obj)} (h : X.K = K) (C : ExcC K D) (hz : Zc (.ref D) none oe) (hf : ∃ vs, oe.data = .fields vs) : CallR (X.suite a ((a, oe) :: pn)) (.builtin "isinstance") (rIsE K D a) := by
  subst h
  exact call_isE C hz hf
theorem ed_isE {K : PySem.W.Frag} {D a C : Addr} {i : Nat} {σ : L2.St} {G : Hp} {b : Bool} (hv : σ[i]? = some (some (.ref a))) (hk : PySem.W.kitOne K (.ref D) (.ref C) = some b) : Ed (tCB (rIsE K D a) (tCons (tVar i) (tCons (tC (.ref C)) tNil))) σ G (.bl b) := fun H s Q q =>
  ⟨_, hv, .ref C, .ref C, b, rfl, fun u r => r, hk, q _ G H (gr0 s) rfl⟩
end Kd
namespace K18
open PySem PySem.Spec PyProof.Rows L2 Kd
theorem zc_of {c cls : Value} {d : Option Addr} {oe : Obj} (h : Zc cls d oe) (e : cls = c ∧ d = none) : Zc c none oe := by
  obtain ⟨rfl, rfl⟩ := e
  exact h
section
variable {P : Program} {w : World} {K : PySem.W.Frag} {mg : Str → Option Value} {base : Heap}
theorem bk_C (T : Tx K mg) : ExcC K (He.ga K "BadKind") := by
  have h := T.x_3
  have h2 := T.x_2
  simp only [excG, excB, Bool.and_eq_true, beq_iff_eq] at h h2
  exact ⟨h.1.1.1.1.1.1, h.1.1.1.1.1.2, h2.1.2, h.1.1.1.1.2, h.1.1.1.2, h.1.1.2, h.1.2, h.2⟩
theorem s_raised {σ : L2.St} {M : List Addr} {G0 H0 G H : Hp} {Dn : Ends} {ta : TA} {x y : D} {E : L2.St → XK} (h : Eds ta σ G [x, y]) (g : Gr M G0 H0 G H) (hx : kindOk x) (hy : kindOk y) (zx : szD x ≤ 100000) (zy : szD y ≤ 100000) (hb : (isKind x && isKind y) = false)
    (k : ∀ G2 H2, Gr M G0 H0 G2 H2 → Same G G2 → E σ (.ref (He.ga K "BadKind")) none H2) : tDrop (tCallS (spI K) E ta) Dn σ H :=
  h H g.s _ fun vs G1 H1 g1 r1 => ⟨G1, x, y, g1.s, r1, hx, hy, zx, zy, (fun i1 i2 => by rw [i1, i2] at hb; cases hb), fun _ G2 H2 g2 => k G2 H2 ((g.call g1).call g2) (g1.g.trans g2.g)⟩
def rBarred : List D → D → Prop := fun ds d => ∃ x y, ds = [x, y] ∧ kindOk x ∧ kindOk y ∧ szD x ≤ 100000 ∧ szD y ≤ 100000 ∧ (isKind x && isKind y) = false ∧ d = .bl true
abbrev N_law_barred : List Str := ["one", "other", "e", "marks"]
theorem sc_law_barred : FnScope ["one", "other", "e", "marks"] ["one", "other"] (defScope s_law_barred) := ⟨rfl, rfl, rfl, by decide +kernel, rfl, by decide +kernel, by decide +kernel⟩
theorem ok_law_barred (T : Tx K mg) : Good P w K mg base CX0 "_law_barred" 10 ["one", "other"] (spRel rBarred) := by
  obtain ⟨fd, F⟩ := T.f__law_barred
  refine ⟨T.m__law_barred, F.kp, fd, ?_, F.bindsN fun _ _ _ _ _ _ us hl => match us, hl with | [_, _], _ => rfl⟩
  have G_is_instance := ok_is_instance (P := P) (w := w) (base := base) T
  refine F.ok sc_law_barred (fun vs H Q E h => ?_) (fun cdv A outer s H vs Q E hr h => ?_)
  · obtain ⟨G, ds, d, _, r, ⟨x, y, rfl, _⟩, _⟩ := h
    exact r.len
  · obtain ⟨G, ds, d, s0, r, ⟨x, y, rfl, hx, hy, zx, zy, hb, rfl⟩, k⟩ := h
    obtain ⟨v1, _, rfl, r_one, v2, _, rfl, r_other, rfl⟩ := r
    refine ⟨_, PSs.nox ((pss_cons (ps_try_as (i := 2) rfl rfl sc_law_barred.nd rfl rfl ⟨rfl, by decide, .inl T.m_HeardError⟩ takes0 (fun W pn xe tk _ => pss_one (ps_expr (pe_gT tk G_is_instance (hr.mono (by decide)) (pa_cons (pv 0) (pa_cons (pv 1) pa_nil))))) (fun a oe cls d pn hz hf => pss_given (p := cls = .ref (He.ga K "BadKind") ∧ d = none) fun hp => (pss_cons (ps_set (i := 3) sc_law_barred.nd rfl (Or.inl rfl) (pe_lst (pa_cons (pe_callB (callK_isE rfl (bk_C T) (zc_of hz hp) hf) (by rfl) T.n_isinstance (by decide +kernel) (pa_cons (pv 2) (pa_cons (pe_glob (v := .ref (He.ga K "BadKind")) rfl T.m_BadKind rfl) pa_nil))) (pa_cons (pe_callB (callK_isE rfl (bk_C T) (zc_of hz hp) hf) (by rfl) T.n_isinstance (by decide +kernel) (pa_cons (pv 2) (pa_cons (pe_glob (v := .ref (He.ga K "BadFiles")) rfl T.m_BadFiles rfl) pa_nil))) (pa_cons (pe_callB (callK_isE rfl (bk_C T) (zc_of hz hp) hf) (by rfl) T.n_isinstance (by decide +kernel) (pa_cons (pv 2) (pa_cons (pe_glob (v := .ref (He.ga K "BadState")) rfl T.m_BadState rfl) pa_nil))) pa_nil)))))
    (pss_one (ps_ret (pe_cmpR (opK_eqD (K:=K) rfl hr.units) (pv 3) (pe_lst (pa_cons pe_bl (pa_cons pe_bl (pa_cons pe_bl pa_nil)))) (nomark _)))))))
    (pss_one (ps_ret pe_bl)))), ?_⟩
    have g := gr0 (M := []) s0
    refine s_seq (s_raised (K := K) (eds_cons (ed_var rfl r_one) (eds_cons (ed_var rfl r_other) eds_nil)) g hx hy zx zy hb fun G2 H2 g s2 => ⟨true, beq_iff_eq.mp T.x_4, fun _ a ha => ⟨⟨rfl, rfl⟩, ?_⟩, fun z => nomatch z⟩)
    dsimp only
    refine s_seq (s_set' (d := .lst [.bl true, .bl false, .bl false]) (ed_lst (eds_cons (ed_isE rfl (beq_iff_eq.mp T.x_6)) (eds_cons (ed_isE rfl (beq_iff_eq.mp T.x_5)) (eds_cons (ed_isE rfl (beq_iff_eq.mp T.x_7)) eds_nil))) (Nat.le_of_ble_eq_true rfl)) g fun v3 G3 H3 g s3 k3 r_marks => ?_)
    dsimp only
    refine s_ret (Ed.to (ed_op (ed_var rfl r_marks) (ed_lst (eds_cons ed_bl (eds_cons ed_bl (eds_cons ed_bl eds_nil))) (Nat.le_of_ble_eq_true rfl)) fun _ _ => rd_eqD rfl rfl (by decide) (by decide)) ?_) g k
    exact congrArg D.bl (by decide)
end
end K18
set_option maxHeartbeats 4000000
/-! What is_instance tells of a value, of the same one made again and of a changed one. -/
namespace K18
open PySem PySem.Spec PyProof.Rows L2 Kd
theorem small_ok {z : Str} (h : isSmall (.str z) = true) : PyData.strOk z = true := by
  have h1 : nameIn 97 122 z = true := ((Bool.and_eq_true _ _).mp h).1
  unfold nameIn at h1
  unfold PyData.strOk
  rw [← Array.all_toList]
  split at h1
  · cases h1
  · rename_i c r e
    rw [e]
    have h2 := ((Bool.and_eq_true _ _).mp ((Bool.and_eq_true _ _).mp h1).2).2
    rw [List.all_eq_true] at h2 ⊢
    intro x hx
    have h3 := h2 x hx
    simp only [wordSign, Bool.or_eq_true, Bool.and_eq_true, decide_eq_true_eq] at h3
    refine decide_eq_true ?_
    omega
def namesOf : Nd → List Str
  | .func r => r.ns.map (·.1)
  | _ => []
def manySum : List Nd → Nat
  | [] => 0
  | a :: ns => a.many + manySum ns
theorem pre_sum : ∀ {v : Nat} {ns : List Nd}, Pre v ns → manySum ns + v = ns.length
  | _, _, .nil => rfl
  | _, _, .cons h => by
    have := pre_sum h
    simp only [manySum, List.length_cons]
    omega
theorem names_len : ∀ {ns : List Nd}, (∀ a ∈ ns, okNd a) → (ns.flatMap namesOf).length ≤ 3 * manySum ns
  | [], _ => by simp [manySum]
  | a :: ns, h => by
    have ih := names_len (ns := ns) fun b hb => h b (by simp [hb])
    have h1 : (namesOf a).length ≤ 3 * a.many := by
      cases a with
      | func r =>
        have := (show okRo r from h (.func r) (by simp)).len
        simp only [namesOf, Nd.many, List.length_map]
        omega
      | _ => simp [namesOf]
    rw [List.flatMap_cons, List.length_append, manySum]
    omega
theorem inst_mk {ns : List Nd} (hpre : Pre 1 ns) (hok : ∀ a ∈ ns, okNd a) (hlen : ns.length ≤ 900) {f g : Nd → Nd} (hf : ∀ a, (f a).many = a.many) (hg : ∀ a, (g a).many = a.many) (of : ∀ a ∈ ns, okNd (f a)) (og : ∀ a ∈ ns, okNd (g a)) (nf : ∀ a, namesOf (f a) = namesOf a) (ng : ∀ a, namesOf (g a) = namesOf a)
    {L : Int → D} {F : List L2.Key → D} {b : Bool} (hpr : ∀ a ∈ ns, okPr L F (f a) (g a)) (hb : b = true ↔ ∀ a ∈ ns, ¬ clash (f a) (g a)) : rInst [tD f (root ns), tD g (root ns)] (.bl b) := by
  have hr := stk_root hpre
  have hl : ∀ a, a ∈ lbl (root ns) ↔ a ∈ ns := fun a => by
    have := stk_lbl ns a
    rw [hr] at this
    simpa [lblL] using this
  have o1 := stk_ok hf hpre of (root ns) (by rw [hr]; simp)
  have o2 := stk_ok hg hpre og (root ns) (by rw [hr]; simp)
  have hs := stk_sz hpre
  rw [hr] at hs
  simp only [szTL] at hs
  have hn := names_len hok
  have hm := pre_sum hpre
  refine ⟨f, g, root ns, L, F, ns.flatMap namesOf, b, rfl, o1, o2, by omega, fun a ha => hpr a ((hl a).mp ha), by omega, fun z hz => ?_, fun a ha r hr p hp => ?_, rfl, hb.trans ⟨fun h a ha => h a ((hl a).mp ha), fun h a ha => h a ((hl a).mpr ha)⟩⟩
  · obtain ⟨a, ha, hz⟩ := List.mem_flatMap.mp hz
    cases a with
    | func r =>
      obtain ⟨p, hp, rfl⟩ := List.mem_map.mp hz
      exact small_ok ((show okRo r from hok _ ha).nm p hp).1
    | _ => cases hz
  · refine List.mem_flatMap.mpr ⟨a, (hl a).mp ha, ?_⟩
    rcases hr with hr | hr
    · rw [← nf a, hr]
      exact List.mem_map_of_mem hp
    · rw [← ng a, hr]
      exact List.mem_map_of_mem hp
theorem chg_names (kind num : Int) (a : Nd) : namesOf (chg kind num a) = namesOf a := by
  cases a with
  | letter n =>
    show namesOf (if kind = 1 ∧ n = num then Nd.plain "int" else if kind = 0 then .letter (n * 3 + 1) else .letter n) = []
    by_cases h : kind = 1 ∧ n = num
    · rw [if_pos h]; rfl
    · rw [if_neg h]
      by_cases h2 : kind = 0
      · rw [if_pos h2]; rfl
      · rw [if_neg h2]; rfl
  | func r =>
    show ((chR kind num r).ns.map (·.1)) = r.ns.map (·.1)
    simp [chR, List.map_map, Function.comp_def]
  | _ => rfl
theorem rise_map : ∀ {ns ms : List D}, ns.map opOf = ms.map opOf → rising ns = rising ms
  | [], [], _ => rfl
  | [], _ :: _, h => by simp at h
  | _ :: _, [], h => by simp at h
  | [x], [y], h => rfl
  | [x], y :: y2 :: ms, h => by simp at h
  | x :: x2 :: ns, [y], h => by simp at h
  | x :: x2 :: ns, y :: y2 :: ms, h => by
    have h1 : opOf x = opOf y ∧ opOf x2 = opOf y2 ∧ ns.map opOf = ms.map opOf := by simpa using h
    rw [rise_cons, rise_cons, h1.1, h1.2.1, rise_map (ns := x2 :: ns) (ms := y2 :: ms) (by simp [h1.2.1, h1.2.2])]
theorem chF_ok {kind num : Int} {f : Fl} (h : okFl f) : okFl (chF kind num f) := by
  cases f with
  | pre => trivial
  | num n =>
    have h : 0 ≤ n := h
    show okFl (if kind = 1 then .num n else if kind = 2 then (if n = num then .pre else .num n) else .num (n * 2 + 5))
    split
    · exact h
    · split
      · split
        · trivial
        · exact h
      · show 0 ≤ n * 2 + 5
        omega
theorem chg_ok {kind num : Int} {a : Nd} (h : okNd a) : okNd (chg kind num a) := by
  cases a with
  | letter n =>
    have h : 0 ≤ n := h
    show okNd (if kind = 1 ∧ n = num then Nd.plain "int" else if kind = 0 then .letter (n * 3 + 1) else .letter n)
    split
    · show ("int" : Str) ∈ thePlain
      simp [thePlain]
    · split
      · show 0 ≤ n * 3 + 1
        omega
      · exact h
  | func r =>
    have h : okRo r := h
    refine ⟨by simpa [chR] using h.len, fun p hp => ?_, ?_, ?_⟩
    · obtain ⟨q, hq, rfl⟩ := List.mem_map.mp hp
      obtain ⟨h1, h2, h3⟩ := h.nm q hq
      exact ⟨h1, h2, chF_ok h3⟩
    · rw [← h.up]
      refine rise_map ?_
      simp only [chR, List.map_map]
      rfl
    · have := h.tl
      show 0 ≤ (if kind = 0 then r.t * 5 + 2 else r.t)
      split <;> omega
  | _ => exact h
/-- what stands at a name behind a change -/
theorem at_ch (kind num : Int) (r : Ro) (z : Str) : (∃ f : Fl, r.at z = f.d ∧ (chR kind num r).at z = (chF kind num f).d) ∨ (r.at z = .tup [.int r.t, .str z] ∧ (chR kind num r).at z = .tup [.int (if kind = 0 then r.t * 5 + 2 else r.t), .str z]) := by
  unfold Ro.at
  have e : (chR kind num r).ns.find? (fun p => decide (p.1 = z)) = (r.ns.find? fun p => decide (p.1 = z)).map fun p => (p.1, chF kind num p.2) := by
    show (r.ns.map fun p => (p.1, chF kind num p.2)).find? _ = _
    rw [List.find?_map]
    rfl
  rw [e]
  cases q : r.ns.find? (fun p => decide (p.1 = z)) with
  | none => exact .inr ⟨rfl, rfl⟩
  | some p => exact .inl ⟨p.2, rfl, rfl⟩
end K18
namespace K18
open PySem PySem.Spec PyProof.Rows L2 Kd
/-- it is an instance of itself -/
theorem inst_self {ns : List Nd} (hpre : Pre 1 ns) (hok : ∀ a ∈ ns, okNd a) (hlen : ns.length ≤ 900) : rInst [tD id (root ns), tD id (root ns)] (.bl true) := by
  refine inst_mk hpre hok hlen (f := id) (g := id) (fun _ => rfl) (fun _ => rfl) hok hok (fun _ => rfl) (fun _ => rfl) (L := fun n => build (.letter n) []) (F := fun k => match k with | [.inr s, .inl n] => .tup [.str s, .int n] | [.inl t, .inr z] => .tup [.int t, .str z] | _ => .non) (fun a ha => ?_) ⟨fun _ a ha => ?_, fun _ => rfl⟩
  · cases a with
    | letter n => exact ⟨rfl, rfl⟩
    | func r =>
      refine ⟨rfl, fun z => ?_⟩
      rcases at_cases r z with e | ⟨m, e⟩ | e
      · exact .inl (by rw [e]; rfl)
      · exact .inr (by rw [e]; rfl)
      · exact .inr (by rw [e]; rfl)
    | plain w => exact rfl
    | pair => trivial
    | data s m => exact ⟨rfl, rfl⟩
  · cases a with
    | func r =>
      rintro ⟨z, _, hz⟩
      unfold badAt at hz
      cases q : isPre (r.at z) <;> simp [q] at hz
    | _ => exact fun h => h
/-- the changed one is an instance of it -/
theorem inst_chg {ns : List Nd} (hpre : Pre 1 ns) (hok : ∀ a ∈ ns, okNd a) (hlen : ns.length ≤ 900) (kind num : Int) : rInst [tD id (root ns), tD (chg kind num) (root ns)] (.bl true) := by
  refine inst_mk hpre hok hlen (f := id) (g := chg kind num) (fun _ => rfl) (chg_many kind num) hok (fun a ha => chg_ok (hok a ha)) (fun _ => rfl) (chg_names kind num) (L := fun n => build (chg kind num (.letter n)) []) (F := fun k => match k with | [.inr _, .inl n] => (chF kind num (.num n)).d | [.inl t, .inr z] => .tup [.int (if kind = 0 then t * 5 + 2 else t), .str z] | _ => .non) (fun a ha => ?_) ⟨fun _ a ha => ?_, fun _ => rfl⟩
  · cases a with
    | letter n =>
      refine ⟨?_, rfl⟩
      show leafN (if kind = 1 ∧ n = num then Nd.plain "int" else if kind = 0 then .letter (n * 3 + 1) else .letter n) = true
      split
      · rfl
      · split <;> rfl
    | func r =>
      refine ⟨by simp [chR, List.map_map, Function.comp_def], fun z => ?_⟩
      unfold fit1
      rcases at_ch kind num r z with ⟨f, e1, e2⟩ | ⟨e1, e2⟩
      · rw [e1, e2]
        cases f with
        | pre => exact .inl rfl
        | num n => exact .inr rfl
      · rw [e1, e2]
        exact .inr rfl
    | plain w => exact rfl
    | pair => trivial
    | data s m => exact ⟨rfl, rfl⟩
  · cases a with
    | letter n =>
      show ¬ clash (.letter n) _
      exact fun h => h
    | func r =>
      rintro ⟨z, _, hz⟩
      unfold badAt at hz
      rcases at_ch kind num r z with ⟨f, e1, e2⟩ | ⟨e1, e2⟩
      · rw [e1, e2] at hz
        cases f with
        | pre => simp [chF, Fl.d, isPre, eqS] at hz
        | num n => simp [Fl.d, isPre, eqS] at hz
      · rw [e1] at hz
        simp [isPre, eqS] at hz
    | _ => exact fun h => h
theorem find_name : ∀ {ns : List (Str × Fl)} {q : Str × Fl}, rising (ns.map nmD) = true → q ∈ ns → ns.find? (fun p => decide (p.1 = q.1)) = some q
  | [], _, _, h => by simp at h
  | x :: ns, q, hr, hq => by
    have up : ∀ {x : Str × Fl} {ns : List (Str × Fl)}, rising ((x :: ns).map nmD) = true → ∀ y ∈ ns, x.1.cps.toList < y.1.cps.toList ∧ rising (ns.map nmD) = true := by
      intro x ns
      induction ns generalizing x with
      | nil => intro _ y hy; simp at hy
      | cons z ns ih =>
        intro hr y hy
        rw [List.map_cons, List.map_cons, rise_cons, Bool.and_eq_true] at hr
        have h1 : x.1.cps.toList < z.1.cps.toList := of_decide_eq_true hr.1
        refine ⟨?_, hr.2⟩
        rcases List.mem_cons.mp hy with rfl | hy
        · exact h1
        · exact List.lt_trans h1 (ih hr.2 y hy).1
    rcases List.mem_cons.mp hq with rfl | hq
    · rw [List.find?_cons_of_pos (by simp)]
    · obtain ⟨h1, h2⟩ := up hr q hq
      rw [List.find?_cons_of_neg (by
        intro e
        rw [of_decide_eq_true e] at h1
        exact absurd h1 (List.lt_irrefl _))]
      exact find_name h2 hq
/-- it is an instance of the changed one, if all numbers were changed alike -/
theorem inst_back0 {ns : List Nd} (hpre : Pre 1 ns) (hok : ∀ a ∈ ns, okNd a) (hlen : ns.length ≤ 900) (num : Int) : rInst [tD (chg 0 num) (root ns), tD id (root ns)] (.bl true) := by
  refine inst_mk hpre hok hlen (f := chg 0 num) (g := id) (chg_many 0 num) (fun _ => rfl) (fun a ha => chg_ok (hok a ha)) hok (chg_names 0 num) (fun _ => rfl) (L := fun n => build (.letter ((n - 1) / 3)) []) (F := fun k => match k with | [.inr s, .inl n] => .tup [.str s, .int ((n - 5) / 2)] | [.inl t, .inr z] => .tup [.int ((t - 2) / 5), .str z] | _ => .non) (fun a ha => ?_) ⟨fun _ a ha => ?_, fun _ => rfl⟩
  · cases a with
    | letter n =>
      show okPr _ _ (if (0 : Int) = 1 ∧ n = num then Nd.plain "int" else if (0 : Int) = 0 then .letter (n * 3 + 1) else .letter n) (.letter n)
      rw [if_neg (by omega), if_pos rfl]
      refine ⟨rfl, ?_⟩
      show build (.letter ((n * 3 + 1 - 1) / 3)) [] = build (.letter n) []
      rw [show (n * 3 + 1 - 1) / 3 = n by omega]
    | func r =>
      refine ⟨by simp [chR, List.map_map, Function.comp_def], fun z => ?_⟩
      unfold fit1
      rcases at_ch 0 num r z with ⟨f, e1, e2⟩ | ⟨e1, e2⟩
      · rw [e1]
        show isPre ((chR 0 num r).at z) = true ∨ _
        rw [e2]
        cases f with
        | pre => exact .inl rfl
        | num n =>
          refine .inr ?_
          show D.tup [.str "flag", .int ((n * 2 + 5 - 5) / 2)] = _
          rw [show (n * 2 + 5 - 5) / 2 = n by omega]
          rfl
      · rw [e1]
        show isPre ((chR 0 num r).at z) = true ∨ _
        rw [e2]
        refine .inr ?_
        show D.tup [.int ((r.t * 5 + 2 - 2) / 5), .str z] = _
        rw [show (r.t * 5 + 2 - 2) / 5 = r.t by omega]
    | plain w => exact rfl
    | pair => trivial
    | data s m => exact ⟨rfl, rfl⟩
  · cases a with
    | letter n =>
      show ¬ clash (if (0 : Int) = 1 ∧ n = num then Nd.plain "int" else if (0 : Int) = 0 then .letter (n * 3 + 1) else .letter n) (.letter n)
      rw [if_neg (by omega), if_pos rfl]
      exact fun h => h
    | func r =>
      rintro ⟨z, _, hz⟩
      have hz : badAt (chR 0 num r) r z = true := hz
      unfold badAt at hz
      rcases at_ch 0 num r z with ⟨f, e1, e2⟩ | ⟨e1, e2⟩
      · rw [e1, e2] at hz
        cases f with
        | pre => simp [Fl.d, isPre, eqS] at hz
        | num n => simp [chF, Fl.d, isPre, eqS] at hz
      · rw [e2] at hz
        simp [isPre, eqS] at hz
    | _ => exact fun h => h
/-- .. but not if a letter or a flag was put off -/
theorem inst_back {ns : List Nd} (hpre : Pre 1 ns) (hok : ∀ a ∈ ns, okNd a) (hlen : ns.length ≤ 900) {kind num : Int} (h : (kind = 1 ∧ num ∈ ns.filterMap letOf) ∨ (kind = 2 ∧ num ∈ ns.flatMap flsOf)) : rInst [tD (chg kind num) (root ns), tD id (root ns)] (.bl false) := by
  have hk0 : ¬ kind = 0 := by rcases h with h | h <;> omega
  refine inst_mk hpre hok hlen (f := chg kind num) (g := id) (chg_many kind num) (fun _ => rfl) (fun a ha => chg_ok (hok a ha)) hok (chg_names kind num) (fun _ => rfl) (L := fun n => build (.letter n) []) (F := fun k => match k with | [.inr s, .inl n] => .tup [.str s, .int n] | [.inl t, .inr z] => .tup [.int t, .str z] | _ => .non) (fun a ha => ?_) ⟨fun z => (nomatch z), fun z => ?_⟩
  · cases a with
    | letter n =>
      show okPr _ _ (if kind = 1 ∧ n = num then Nd.plain "int" else if kind = 0 then .letter (n * 3 + 1) else .letter n) (.letter n)
      split
      · trivial
      · exact ⟨rfl, rfl⟩
    | func r =>
      refine ⟨by simp [chR, List.map_map, Function.comp_def], fun z => ?_⟩
      unfold fit1
      rcases at_ch kind num r z with ⟨f, e1, e2⟩ | ⟨e1, e2⟩
      · rw [e1]
        show isPre ((chR kind num r).at z) = true ∨ _
        rw [e2]
        cases f with
        | pre => exact .inl rfl
        | num n =>
          show isPre (if kind = 1 then Fl.num n else if kind = 2 then (if n = num then .pre else .num n) else .num (n * 2 + 5)).d = true ∨ _ = _
          by_cases h1 : kind = 1
          · refine .inr ?_
            show (match keyD (if kind = 1 then Fl.num n else if kind = 2 then (if n = num then .pre else .num n) else .num (n * 2 + 5)).d with | [.inr s, .inl n] => D.tup [.str s, .int n] | [.inl t, .inr z] => .tup [.int t, .str z] | _ => .non) = _
            rw [if_pos h1]
            rfl
          · have h2 : kind = 2 := by rcases h with h | h <;> omega
            by_cases h3 : n = num
            · refine .inl ?_
              rw [if_neg h1, if_pos h2, if_pos h3]
              rfl
            · refine .inr ?_
              show (match keyD (if kind = 1 then Fl.num n else if kind = 2 then (if n = num then .pre else .num n) else .num (n * 2 + 5)).d with | [.inr s, .inl n] => D.tup [.str s, .int n] | [.inl t, .inr z] => .tup [.int t, .str z] | _ => .non) = _
              rw [if_neg h1, if_pos h2, if_neg h3]
              rfl
      · rw [e1]
        show isPre ((chR kind num r).at z) = true ∨ _
        rw [e2]
        refine .inr ?_
        rw [if_neg hk0]
        rfl
    | plain w => exact rfl
    | pair => trivial
    | data s m => exact ⟨rfl, rfl⟩
  · rcases h with ⟨h1, h2⟩ | ⟨h1, h2⟩
    · obtain ⟨a, ha, hn⟩ := List.mem_filterMap.mp h2
      cases a with
      | letter n =>
        have hn : n = num := Option.some.inj hn
        refine absurd ?_ (z _ ha)
        show clash (if kind = 1 ∧ n = num then Nd.plain "int" else if kind = 0 then .letter (n * 3 + 1) else .letter n) (.letter n)
        rw [if_pos ⟨h1, hn⟩]
        trivial
      | _ => cases hn
    · obtain ⟨a, ha, hn⟩ := List.mem_flatMap.mp h2
      cases a with
      | func r =>
        have hr : okRo r := hok _ ha
        obtain ⟨q, hq, hf⟩ := List.mem_filterMap.mp hn
        obtain ⟨w, f⟩ := q
        cases f with
        | pre => cases hf
        | num n =>
          have hn : n = num := Option.some.inj hf
          refine absurd ?_ (z _ ha)
          have e := find_name hr.up hq
          have e1 : r.at w = (Fl.num n).d := by unfold Ro.at; rw [e]
          refine ⟨w, by rw [show (chR kind num r).ns.map (·.1) = r.ns.map (·.1) by simp [chR, List.map_map, Function.comp_def]]; exact List.mem_map_of_mem (f := (·.1)) hq, ?_⟩
          unfold badAt
          have e2 : (chR kind num r).at w = (chF kind num (.num n)).d := by
            rcases at_ch kind num r w with ⟨f, e3, e4⟩ | ⟨e3, e4⟩
            · rw [e1] at e3
              cases f with
              | pre => cases e3
              | num m => cases e3; exact e4
            · rw [e1] at e3
              cases e3
          show (isPre ((chR kind num r).at w) && !isPre (r.at w)) = true
          rw [e1, e2]
          show (isPre (if kind = 1 then Fl.num n else if kind = 2 then (if n = num then .pre else .num n) else .num (n * 2 + 5)).d && _) = true
          rw [if_neg (by omega), if_pos h1, if_pos hn]
          rfl
      | _ => cases hn
end K18
set_option maxHeartbeats 4000000
namespace Kd
open PySem PySem.Spec PyProof.Rows L2
section
variable {K : PySem.W.Frag} {σ : L2.St} {G G1 : Hp} {te ta : TE} {d e z : D} {p : Addr} {M : List Addr} {G0 H0 H : Hp} {Dn : Ends} {P : D → Prop}
theorem p_asg {gt : TG} (h : EdP p te σ G P) (g : Gr M G0 H0 G H) (hM : p ∈ M) (q : PoolAt p G H) (k : ∀ d v G' H', P d → Gr M G0 H0 G' H' → Same G G' → PoolAt p G' H' → Rp G' d v → gt v σ H' Dn.nx) : tAsg te gt Dn σ H := h H g.s q _ fun d v G' H' hd g1 q1 r => k d v G' H' hd (g.callP g1 hM) g1.g q1 r
/-- a, (b, c) = .. -/
theorem g_twoN {n m : Nat} {i j k : Nat} {v : V} {x : D} {σ0 : L2.St} {Q : L2.St → Hp → Prop} (s : Same G H) (r : Rp G (.tup [d, .tup [e, x]]) v) (hn : n = 2) (hm : m = 2) (kk : ∀ u1 u2 u3, Rp G d u1 → Rp G e u2 → Rp G x u3 → Q (((σ0.set i (some u1)).set j (some u2)).set k (some u3)) H) : gTup K n (gCons (gName i) (gCons (gTup K m (gCons (gName j) (gCons (gName k) gNil))) gNil)) v σ0 H Q := by
  obtain ⟨a, vs, rfl, ha, u1, _, rfl, h1, w, _, rfl, h2, rfl⟩ := r
  exact ⟨a, _, rfl, SqT.of (s a _ ha), hn.symm, u1, _, rfl, w, _, rfl, g_two s h2 hm fun u2 u3 k2 k3 => ⟨rfl, kk u1 u2 u3 h1 k2 k3⟩⟩
end
end Kd
namespace K18
open PySem PySem.Spec PyProof.Rows L2 Kd
section
variable {P : Program} {w : World} {K : PySem.W.Frag} {mg : Str → Option Value} {base : Heap}
theorem edp_value {σ : L2.St} {G : Hp} {p : Addr} {i : Nat} {tr : TA} {E : XK} {f : Nd → Nd} {ns : List Nd} {at' : Int} (hv : σ[i]? = some (some (.ref p))) (h : Eds tr σ G [.lst ((ns.map f).map ndD), .int at']) (hpre : Pre 1 ns) (hf : ∀ a, (f a).many = a.many) (hok : ∀ a ∈ ns, okNd (f a) ∧ a.many ≤ 59) (hlen : ns.length ≤ 900) :
    EdP p (tCall spV [] E (tCons (tVar i) tr)) σ G (rValue f ns at') := fun H s q Q k =>
  ⟨_, hv, h H s _ fun vs G1 H1 g1 r1 => ⟨p, vs, G1, f, ns, at', by rw [List.append_nil], g1.s, q.kp g1.kp, r1, hpre, hf, hok, hlen, fun d v G2 H2 hd g2 q2 r2 => k d v G2 H2 hd (g1.pl.trans g2) q2 r2⟩⟩
theorem edp_inst {σ : L2.St} {G : Hp} {p : Addr} {ta : TA} {PP : List D → Prop} {Pd : D → Prop} (h : EdsP p ta σ G PP) (hd : ∀ ds, PP ds → ∃ x y d, ds = [x, y] ∧ kindOk x ∧ kindOk y ∧ szD x ≤ 100000 ∧ szD y ≤ 100000 ∧ isKind x = true ∧ isKind y = true ∧ rInst [x, y] d ∧ Pd d) : EdP p (tCallS (spI K) (fun _ => E0) ta) σ G Pd := fun H s q Q k =>
  h H s q _ fun ds vs G1 H1 hp g1 q1 r1 => by
    obtain ⟨x, y, d, rfl, hx, hy, zx, zy, ix, iy, hi, hP⟩ := hd ds hp
    exact ⟨G1, x, y, g1.s, r1, hx, hy, zx, zy, (fun _ _ => ⟨d, hi, fun v G2 H2 g2 r2 => k d v G2 H2 hP (g1.trans g2.pl) (q1.kp g2.kp) r2⟩), fun h => by rw [ix, iy] at h; cases h⟩
def pAsked : List D → Prop := fun ds => ∃ ns : List Nd, ds = [.lst (ns.map ndD)] ∧ Pre 1 ns ∧ (∀ a ∈ ns, ndOk2 a) ∧ ns.length ≤ 900
def rAsked : List D → D → Prop := fun ds d => d = .bl true
abbrev N_law_asked : List Str := ["pool", "nodes", "one", "letters", "flags", "kind", "number", "other", "told"]
theorem sc_law_asked : FnScope ["pool", "nodes", "one", "letters", "flags", "kind", "number", "other", "told"] ["pool", "nodes"] (defScope s_law_asked) := ⟨rfl, rfl, rfl, by decide +kernel, rfl, by decide +kernel, by decide +kernel⟩
theorem ok_law_asked (T : Tx K mg) : Good P w K mg base CX0 "_law_asked" 10 ["pool", "nodes"] (spP pAsked rAsked) := by
  obtain ⟨fd, F⟩ := T.f__law_asked
  refine ⟨T.m__law_asked, F.kp, fd, ?_, F.bindsN fun _ _ _ _ _ _ us hl => match us, hl with | [_, _], _ => rfl⟩
  have G_law_pick := ok_law_pick (P := P) (w := w) (base := base) T
  have G_law_value := ok_law_value (P := P) (w := w) (base := base) T
  have G_is_instance := ok_is_instance (P := P) (w := w) (base := base) T
  have G_law_numbers := ok_law_numbers (P := P) (w := w) (base := base) T
  have G_law_changed := ok_law_changed (P := P) (w := w) (base := base) T
  have G_law_wide := ok_law_wide (P := P) (w := w) (base := base) T
  refine F.ok sc_law_asked (fun vs H Q E h => ?_) (fun cdv A outer s H vs Q E hr h => ?_)
  · obtain ⟨p, vs', G, ds, rfl, _, _, r, ⟨ns, rfl, _⟩, _⟩ := h
    show _ + 1 = _
    rw [r.len]
    rfl
  · obtain ⟨p, vs', G, ds, rfl, s0, hq, r, ⟨ns, rfl, hpre, hok2, hlen⟩, k⟩ := h
    obtain ⟨v1, _, rfl, r_nodes, rfl⟩ := r
    refine ⟨_, PSs.nox ((pss_cons (ps_asg (pe_tup (pa_cons (pe_g G_law_value (hr.mono (by decide)) (pa_cons (pv 0) (pa_cons (pv 1) (pa_cons (pe_un un_neg pe_int) pa_nil)))) (pa_cons (pe_g G_law_numbers (hr.mono (by decide)) (pa_cons (pv 1) pa_nil)) pa_nil))) (pg_tup rfl (pgs_cons (pg_name (i := 2) sc_law_asked.nd rfl (Or.inl rfl)) (pgs_cons (pg_tup rfl (pgs_cons (pg_name (i := 3) sc_law_asked.nd rfl (Or.inl rfl)) (pgs_cons (pg_name (i := 4) sc_law_asked.nd rfl (Or.inl rfl)) pgs_nil))) pgs_nil))))
    (pss_cons (ps_if (pt_cmpR op_notBl (pe_gS G_is_instance (hr.mono (by decide)) (pa_cons (pv 2) (pa_cons (pe_g G_law_value (hr.mono (by decide)) (pa_cons (pv 0) (pa_cons (pv 1) (pa_cons (pe_un un_neg pe_int) pa_nil)))) pa_nil))) pe_bl (nomark _)) (pss_one (ps_ret pe_bl)) pss_nil)
    (pss_cons (ps_set (i := 5) sc_law_asked.nd rfl (Or.inl rfl) (pe_g G_law_pick (hr.mono (by decide)) (pa_cons (pv 0) (pa_cons pe_int pa_nil))))
    (pss_cons (ps_if (PW.pt (pw_or (PW.pt (pw_and (pt_cmpR op_eq (pv 5) pe_int (nomark _)) (pw_and1 (pt_cmpR (op_eqNil hr.units) (pv 3) (pe_lst pa_nil) (nomark _))))) (pw_or1 (PW.pt (pw_and (pt_cmpR op_eq (pv 5) pe_int (nomark _)) (pw_and1 (pt_cmpR (op_eqNil hr.units) (pv 4) (pe_lst pa_nil) (nomark _)))))))) (pss_one (ps_set (i := 5) sc_law_asked.nd rfl (Or.inl rfl) pe_int)) pss_nil)
    (pss_cons (ps_set (i := 6) sc_law_asked.nd rfl (Or.inl rfl) (pe_ix ix_list (pe_ix ix_tup (pe_tup (pa_cons (pe_lst (pa_cons pe_int pa_nil)) (pa_cons (pv 3) (pa_cons (pv 4) pa_nil)))) (pv 5) (fun _ _ => rfl)) (pe_op op_mod (pe_callTy call_int1 (by rfl) T.n_int (by decide +kernel) (pa_cons (pe_g G_law_wide (hr.mono (by decide)) (pa_cons (pv 0) (pa_cons pe_int pa_nil))) pa_nil)) (pe_callB call_len_seq (by rfl) T.n_len PySem.boot_len (pa_cons (pe_ix ix_tup (pe_tup (pa_cons (pe_lst (pa_cons pe_int pa_nil)) (pa_cons (pv 3) (pa_cons (pv 4) pa_nil)))) (pv 5) (fun _ _ => rfl)) pa_nil))) (fun _ _ => rfl)))
    (pss_cons (ps_set (i := 7) sc_law_asked.nd rfl (Or.inl rfl) (pe_g G_law_value (hr.mono (by decide)) (pa_cons (pv 0) (pa_cons (pe_g G_law_changed (hr.mono (by decide)) (pa_cons (pv 1) (pa_cons (pv 5) (pa_cons (pv 6) pa_nil)))) (pa_cons (pe_un un_neg pe_int) pa_nil)))))
    (pss_cons (ps_if (pt_cmpR op_notBl (pe_gS G_is_instance (hr.mono (by decide)) (pa_cons (pv 2) (pa_cons (pv 7) pa_nil))) pe_bl (nomark _)) (pss_one (ps_ret pe_bl)) pss_nil)
    (pss_cons (ps_set (i := 8) sc_law_asked.nd rfl (Or.inl rfl) (pe_gS G_is_instance (hr.mono (by decide)) (pa_cons (pv 7) (pa_cons (pv 2) pa_nil))))
    (pss_one (ps_ret (pe_ifExp (pt_cmpR op_eq (pv 5) pe_int (nomark _)) (pe_cmpR op_isBl (pv 8) pe_bl (nomark _)) (pe_cmpR op_isBl (pv 8) pe_bl (nomark _)))))))))))))), ?_⟩
    have g := gr0 (M := [p]) s0
    have hok : ∀ a ∈ ns, okNd a := fun a ha => (hok2 a ha).1
    have e_id : ns.map id = ns := List.map_id ns
    have hokv : ∀ a ∈ ns, okNd (id a) ∧ a.many ≤ 59 := hok2
    have root_ok : ∀ {f : Nd → Nd}, (∀ a, (f a).many = a.many) → (∀ a ∈ ns, okNd (f a)) → isKind (tD f (root ns)) = true ∧ kindOk (tD f (root ns)) ∧ szD (tD f (root ns)) ≤ 100000 := fun {f} hf ho => by
      have hs := stk_sz hpre
      have h1 := tree_ok (stk_ok hf hpre ho (root ns) (by rw [stk_root hpre]; simp))
      rw [stk_root hpre] at hs
      simp only [szTL] at hs
      exact ⟨h1.1, h1.2.1, by omega⟩
    obtain ⟨i1, i2, i3⟩ := root_ok (f := id) (fun _ => rfl) hok
    refine s_seq (p_asg (edp_tup2 (edp_value (f := id) (ns := ns) (at' := -1) rfl (eds_cons ((ed_var rfl r_nodes).to (by rw [e_id])) (eds_cons (ed_un ed_int fun _ _ => rd_neg) eds_nil)) hpre (fun _ => rfl) hokv hlen) (Ed.pl (ed_rel (eds_cons (ed_var rfl r_nodes) eds_nil) ⟨ns, rfl, hok, hlen, rfl⟩))) g (List.mem_singleton.mpr rfl) hq fun d1 v2 G1 H1 hd1 g s1 hq r1 => ?_)
    obtain ⟨x, y, rfl, hx, rfl⟩ := hd1
    rw [hx.1 rfl] at r1
    refine g_twoN g.s r1 rfl rfl fun u1 u2 u3 r_one r_letters r_flags => ?_
    dsimp only
    have r_nodes := r_nodes.mono s1
    refine s_seq (p_if (PB := fun b => b = false) (ebp_test (edp_op (P1 := fun d => d = .bl true) (P2 := fun d => d = .bl true) (edp_inst (edsp_cons (Ed.pl (ed_var rfl r_one)) (edsp_cons (edp_value (f := id) (ns := ns) (at' := -1) rfl (eds_cons ((ed_var rfl r_nodes).to (by rw [e_id])) (eds_cons (ed_un ed_int fun _ _ => rd_neg) eds_nil)) hpre (fun _ => rfl) hokv hlen) edsp_nil)) ?_) (Ed.pl ed_bl) ?_)) g (List.mem_singleton.mpr rfl) hq (fun hb => nomatch hb) fun _ G2 H2 g s2 _ hq => ?_)
    · rintro ds ⟨x, r, rfl, rfl, y, r', rfl, hy, rfl⟩
      rw [hy.1 rfl]
      exact ⟨_, _, _, rfl, i2, i2, i3, i3, i1, i1, inst_self hpre hok hlen, rfl⟩
    · rintro d e rfl rfl
      exact ⟨_, ⟨_, rfl, rfl⟩, fun _ _ => rd_notB⟩
    dsimp only
    have r_nodes := r_nodes.mono s2
    have r_one := r_one.mono s2
    have r_letters := r_letters.mono s2
    have r_flags := r_flags.mono s2
    refine s_seq (p_set (edp_pick rfl ed_int (by decide)) g (List.mem_singleton.mpr rfl) hq fun d3 v3 G3 H3 hd3 g s3 _ hq r3 => ?_)
    obtain ⟨kind, rfl, hk0, hk3⟩ := hd3
    cases (show v3 = .int kind from r3)
    clear r3
    have r_kind : ∀ {G'}, Rp G' (.int kind) (.int kind) := rfl
    have r_nodes := r_nodes.mono s3
    have r_one := r_one.mono s3
    have r_letters := r_letters.mono s3
    have r_flags := r_flags.mono s3
    simp only [tNext]
    refine s_seq (s_if' (eb_or (eb_and (eb_test (ed_op (ed_var rfl r_kind) ed_int fun _ _ => rd_eq rfl)) fun _ => (eb_test (ed_op (ed_var rfl r_letters) (ed_lst eds_nil (Nat.le_of_ble_eq_true rfl)) fun _ _ => rd_eqNil))) fun _ => (eb_and (eb_test (ed_op (ed_var rfl r_kind) ed_int fun _ _ => rd_eq rfl)) fun _ => (eb_test (ed_op (ed_var rfl r_flags) (ed_lst eds_nil (Nat.le_of_ble_eq_true rfl)) fun _ _ => rd_eqNil)))) g (fun hb H4 g k3 => s_set' ed_int g fun v4 G4 H4 g s4 k4 r4 => ?_) fun hb H4 g k4 => ?_)
    obtain ⟨kd, rfl, ekd⟩ : ∃ kd : Int, v4 = .int kd ∧ kd = 0 := ⟨0, r4, rfl⟩
    have hsel : ∃ Lk : List Int, atI [D.lst [.int 0], .lst ((ns.filterMap letOf).map .int), .lst ((ns.flatMap flsOf).map .int)] kd = some (.lst (Lk.map .int)) ∧ 0 < Lk.length ∧ (kd = 1 → Lk = ns.filterMap letOf) ∧ (kd = 2 → Lk = ns.flatMap flsOf) ∧ 0 ≤ kd ∧ kd < 3 := ⟨[0], by rw [ekd]; exact at0, by decide, by omega, by omega, by omega, by omega⟩
    have r_nodes := r_nodes.mono s4
    have r_one := r_one.mono s4
    have r_letters := r_letters.mono s4
    have r_flags := r_flags.mono s4
    have hq := (hq.kp k3).kp k4
    rotate_left
    obtain ⟨kd, ekd⟩ : ∃ kd : Int, kd = kind := ⟨_, rfl⟩
    have hsel : ∃ Lk : List Int, atI [D.lst [.int 0], .lst ((ns.filterMap letOf).map .int), .lst ((ns.flatMap flsOf).map .int)] kd = some (.lst (Lk.map .int)) ∧ 0 < Lk.length ∧ (kd = 1 → Lk = ns.filterMap letOf) ∧ (kd = 2 → Lk = ns.flatMap flsOf) ∧ 0 ≤ kd ∧ kd < 3 := by
      rw [ekd]
      have h3 : kind = 0 ∨ kind = 1 ∨ kind = 2 := by omega
      rcases h3 with h3 | h3 | h3
      · exact ⟨[0], by rw [h3]; exact at0, by decide, by omega, by omega, hk0, hk3⟩
      · refine ⟨ns.filterMap letOf, by rw [h3]; exact at1, ?_, fun _ => rfl, by omega, hk0, hk3⟩
        rw [h3] at hb
        cases e : ns.filterMap letOf with
        | nil => rw [e] at hb; simp at hb
        | cons a b => simp
      · refine ⟨ns.flatMap flsOf, by rw [h3]; exact at2, ?_, by omega, fun _ => rfl, hk0, hk3⟩
        rw [h3] at hb
        cases e : ns.flatMap flsOf with
        | nil => rw [e] at hb; simp at hb
        | cons a b => simp
    rw [← ekd]
    have hq := hq.kp k4
    rotate_left
    all_goals
      obtain ⟨Lk, hat, hLk, hk1, hk2, h0, h3⟩ := hsel
      have r_kind : ∀ {G'}, Rp G' (.int kd) (.int kd) := rfl
      simp only [tNext]
      refine s_seq (p_set (P := fun d => ∃ num : Int, d = .int num ∧ num ∈ Lk) (edp_op (Ed.pl (ed_op (ed_tup (eds_cons (ed_lst (eds_cons ed_int eds_nil) (Nat.le_of_ble_eq_true rfl)) (eds_cons (ed_var rfl r_letters) (eds_cons (ed_var rfl r_flags) eds_nil))) (Nat.le_of_ble_eq_true rfl)) (ed_var rfl r_kind) fun _ _ => rd_ixT hat)) (edp_op (P3 := fun d => ∃ r : Int, d = .int r ∧ 0 ≤ r ∧ r < Lk.length) (edp_cb (P3 := fun d => ∃ r : Int, d = .int r) (edsp_cons (edp_wide rfl ed_int (by decide)) edsp_nil) ?_) (Ed.pl (ed_lenL (ed_op (ed_tup (eds_cons (ed_lst (eds_cons ed_int eds_nil) (Nat.le_of_ble_eq_true rfl)) (eds_cons (ed_var rfl r_letters) (eds_cons (ed_var rfl r_flags) eds_nil))) (Nat.le_of_ble_eq_true rfl)) (ed_var rfl r_kind) fun _ _ => rd_ixT hat))) ?_) ?_) g (List.mem_singleton.mpr rfl) hq fun d5 v5 G5 H5 hd5 g s5 _ hq r5 => ?_)
      · rintro ds ⟨d, r, rfl, ⟨x, rfl, _⟩, rfl⟩
        exact ⟨_, ⟨x, rfl⟩, fun _ _ => rdc_int1⟩
      · rintro d e ⟨r, rfl⟩ rfl
        rw [List.length_map]
        exact ⟨_, ⟨_, rfl, Int.emod_nonneg _ (by omega), Int.emod_lt_of_pos _ (by omega)⟩, fun _ _ => rd_Ii (by omega)⟩
      · rintro d e rfl ⟨r, rfl, h1, h2⟩
        obtain ⟨j, rfl⟩ := Int.eq_ofNat_of_zero_le h1
        have hj : j < Lk.length := by omega
        exact ⟨_, ⟨Lk[j], rfl, List.getElem_mem hj⟩, fun _ _ => rd_ixL (atI_nat (by simp [hj]))⟩
      obtain ⟨num, rfl, hnum⟩ := hd5
      cases (show v5 = .int num from r5)
      have r_number : ∀ {G'}, Rp G' (.int num) (.int num) := rfl
      have r_nodes5 := r_nodes.mono s5
      have r_one5 := r_one.mono s5
      simp only [tNext]
      refine s_seq (p_set (edp_value (f := chg kd num) (ns := ns) (at' := -1) rfl (eds_cons (ed_rel (eds_cons (ed_var rfl r_nodes5) (eds_cons (ed_var rfl r_kind) (eds_cons (ed_var rfl r_number) eds_nil))) ⟨ns, kd, num, rfl, hok, hlen, rfl⟩) (eds_cons (ed_un ed_int fun _ _ => rd_neg) eds_nil)) hpre (chg_many kd num) (fun a ha => ⟨chg_ok (hok a ha), (hok2 a ha).2⟩) hlen) g (List.mem_singleton.mpr rfl) hq fun d6 v6 G6 H6 hd6 g s6 _ hq r_other => ?_)
      rw [hd6.1 rfl] at r_other
      obtain ⟨c1, c2, c3⟩ := root_ok (chg_many kd num) fun a ha => chg_ok (hok a ha)
      have r_one6 := r_one5.mono s6
      simp only [tNext]
      refine s_seq (s_if' (eb_test (ed_op (ed_inst (eds_cons (ed_var rfl r_one6) (eds_cons (ed_var rfl r_other) eds_nil)) i2 c2 i3 c3 i1 c1 (inst_chg hpre hok hlen kd num)) ed_bl fun _ _ => rd_notB)) g (fun hb => nomatch hb) fun _ H7 g k7 => ?_)
      have hq := hq.kp k7
      have hback : rInst [tD (chg kd num) (root ns), tD id (root ns)] (.bl (decide (kd = 0))) := by
        by_cases e : kd = 0
        · rw [decide_eq_true e, e]
          exact inst_back0 hpre hok hlen num
        · rw [decide_eq_false e]
          refine inst_back hpre hok hlen ?_
          have e3 : kd = 1 ∨ kd = 2 := by omega
          rcases e3 with e3 | e3
          · exact .inl ⟨e3, by rw [← hk1 e3]; exact hnum⟩
          · exact .inr ⟨e3, by rw [← hk2 e3]; exact hnum⟩
      simp only [tNext]
      refine s_seq (s_set' (ed_inst (eds_cons (ed_var rfl r_other) (eds_cons (ed_var rfl r_one6) eds_nil)) c2 i2 c3 i3 c1 i1 hback) g fun v8 G8 H8 g s8 k8 r_told => ?_)
      have hq := hq.kp k8
      simp only [tNext]
      refine s_ret' (d := .bl true) (ed_if (eb_test (ed_op (ed_var rfl r_kind) ed_int fun _ _ => rd_eq rfl)) (fun hb => (ed_op (ed_var rfl r_told) ed_bl fun _ _ => rd_isB).to (by rw [hb]; rfl)) (fun hb => (ed_op (ed_var rfl r_told) ed_bl fun _ _ => rd_isB).to (by rw [hb]; rfl))) g fun v G' H' g s' k' r => k _ v G' H' rfl g (hq.kp k') r
end
end K18
set_option maxHeartbeats 4000000
namespace Kd
open PySem PySem.Spec PyProof.Rows L2
section
variable {K : PySem.W.Frag} {σ : L2.St} {G : Hp} {te ta : TE} {p : Addr} {t u : TT} {PB PC : Bool → Prop}
theorem ebp_or (h1 : EbP p t σ G PB) (h2 : PB false → EbP p u σ G PC) (h3 : PB true → PC true) : EbP p (tOr t u) σ G PC := fun H s q Q k => h1 H s q _ fun b G1 H1 hb g1 q1 => by
  cases b with
  | false =>
    show u σ H1 Q
    exact (h2 hb).mono g1.g H1 g1.s q1 Q fun c G2 H2 hc g2 q2 => k c G2 H2 hc (g1.trans g2) q2
  | true =>
    show Q true H1
    exact k true G1 H1 (h3 hb) g1 q1
theorem ebp_not (h : EbP p t σ G PB) : EbP p (tNot t) σ G (fun b => PB (!b)) := fun H s q Q k => h H s q _ fun b G1 H1 hb g1 q1 => k _ G1 H1 (by show PB (!!b); rw [Bool.not_not]; exact hb) g1 q1
theorem ebp_B (h : EdP p te σ G (fun d => ∃ b, d = .bl b ∧ PB b)) : EbP p (tB te) σ G PB := fun H s q Q k => h H s q _ fun d v G' H' hd g hq r => by
  obtain ⟨b, rfl, hb⟩ := hd
  exact ⟨b, r, k b G' H' hb g hq⟩
theorem edp_relP {tr : TA} {PP : List D → Prop} {R : List D → D → Prop} {P : D → Prop} {E : XK} (h : EdsP p tr σ G PP) (hr : ∀ ds, PP ds → ∃ d, R ds d ∧ P d) : EdP p (tCall (spRel R) [] E tr) σ G P := fun H s q Q k =>
  h H s q _ fun ds vs G1 H1 hp g1 q1 r1 => by
    obtain ⟨d, hd, hP⟩ := hr ds hp
    exact ⟨G1, ds, d, g1.s, by rw [List.append_nil]; exact r1, hd, fun v G2 H2 g2 r2 => k d v G2 H2 hP (g1.trans g2.pl) (q1.kp g2.kp) r2⟩
end
end Kd
namespace K18
open PySem PySem.Spec PyProof.Rows L2 Kd
theorem noDct_build {a : Nd} {ps : List D} (hp : ps.length = a.many) (h : noDctL ps = true) : noDct (build a ps) = true := by
  cases a with
  | pair => match ps, hp, h with | [p, q], _, h => simpa [build, noDct, noDctL] using h
  | func r => match ps, hp, h with
    | [p, q], _, h =>
      have e : ∀ fs : List (Str × Fl), noDctL (fs.map nmD) = true := by
        intro fs
        induction fs with
        | nil => rfl
        | cons f fs ih =>
          rw [List.map_cons]
          simp only [noDctL, ih, Bool.and_true]
          obtain ⟨z, f⟩ := f
          cases f <;> rfl
      simp only [noDctL, Bool.and_eq_true] at h
      simp [build, noDct, noDctL, Ro.d, Ro.l, e, h.1, h.2.1]
  | data s m => simpa [build, noDct, noDctL] using h
  | _ => rfl
theorem noDct_tree {f : Nd → Nd} : ∀ {t : Tr}, okT f t → noDct (tD f t) = true := by
  intro t
  induction t using Tr.rec (motive_2 := fun ks => (∀ k ∈ ks, okT f k) → noDctL (ks.map (tD f)) = true) with
  | mk a ks ih =>
    rintro ⟨h1, h2, h3⟩
    rw [tD, tDL_map]
    exact noDct_build (by rw [List.length_map]; exact h2) (ih h3)
  | nil => rfl
  | cons k ks h1 h2 =>
    rename_i h
    rw [List.map_cons, noDctL, h1 (h k (by simp)), h2 fun j hj => h j (by simp [hj])]
    rfl
section
variable {P : Program} {w : World} {K : PySem.W.Frag} {mg : Str → Option Value} {base : Heap}
def spLaw (K : PySem.W.Frag) : Sp := fun vs H Q _ => ∃ (a : Addr) (ns : List Int), vs = [.ref a] ∧ SqL K H a (ns.map V.int) ∧ ns.length ≤ 63 ∧ Only H ∧ ∀ H', Q (.bl true) H'
abbrev N_law : List Str := ["script", "pool", "rooms", "room", "nodes", "value", "turn", "at", "wrong"]
theorem sc_law : FnScope ["script", "pool", "rooms", "room", "nodes", "value", "turn", "at", "wrong"] ["script"] (defScope s_law) := ⟨rfl, rfl, rfl, by decide +kernel, rfl, by decide +kernel, by decide +kernel⟩
theorem fn_law (T : Tx K mg) {fd : FuncData} (F : FunD K "law" "law" (defArgs s_law) (defBody s_law) (defScope s_law) [] [] (He.ga K "law") fd) : FnOk P w K mg base CX0 20 (He.ga K "law") fd ["script"] (spLaw K) := by
  have G_law_pool := ok_law_pool (P := P) (w := w) (base := base) T
  have G_law_nodes := ok_law_nodes (P := P) (w := w) (base := base) T
  have G_law_value := ok_law_value (P := P) (w := w) (base := base) T
  have G_law_pick := ok_law_pick (P := P) (w := w) (base := base) T
  have G_is_kind := ok_is_kind (P := P) (w := w) (base := base) T
  have G_law_same := ok_law_same (P := P) (w := w) (base := base) T
  have G_law_asked := ok_law_asked (P := P) (w := w) (base := base) T
  have G_law_wide := ok_law_wide (P := P) (w := w) (base := base) T
  have G_law_barred := ok_law_barred (P := P) (w := w) (base := base) T
  refine F.ok sc_law (fun vs H Q E h => ?_) (fun cdv A outer s H vs Q E hr h => ?_)
  · obtain ⟨a, ns, rfl, _⟩ := h
    rfl
  · obtain ⟨a, ns, rfl, hs, hlen, _, k⟩ := h
    refine ⟨_, PSs.nox ((pss_cons (ps_set (i := 1) sc_law.nd rfl (Or.inl rfl) (pe_g G_law_pool (hr.mono (by decide)) (pa_cons (pv 0) pa_nil)))
    (pss_cons (ps_set (i := 2) sc_law.nd rfl (Or.inl rfl) (pe_ifExp (pt_cmpR op_gt (pe_g G_law_pick (hr.mono (by decide)) (pa_cons (pv 1) (pa_cons pe_int pa_nil))) pe_int (nomark _)) (pe_lst (pa_cons pe_int (pa_cons pe_int (pa_cons pe_int (pa_cons pe_int pa_nil))))) (pe_lst (pa_cons pe_int (pa_cons pe_int pa_nil)))))
    (pss_cons (ps_for PassesOwn.never rfl (pi_list (pv 2)) (pg_name (i := 3) sc_law.nd rfl (Or.inl rfl)) (pss_cons (ps_set (i := 4) sc_law.nd rfl (Or.inl rfl) (pe_g G_law_nodes (hr.mono (by decide)) (pa_cons (pv 1) (pa_cons (pv 3) pa_nil))))
    (pss_cons (ps_set (i := 5) sc_law.nd rfl (Or.inl rfl) (pe_g G_law_value (hr.mono (by decide)) (pa_cons (pv 1) (pa_cons (pv 4) (pa_cons (pe_un un_neg pe_int) pa_nil)))))
    (pss_cons (ps_if (PW.pt (pw_or (pt_cmpR op_notBl (pe_g G_is_kind (hr.mono (by decide)) (pa_cons (pv 5) pa_nil)) pe_bl (nomark _)) (pw_or (pt_not (pt_val (pe_g G_law_same (hr.mono (by decide)) (pa_cons (pe_g G_law_value (hr.mono (by decide)) (pa_cons (pv 1) (pa_cons (pv 4) (pa_cons (pe_un un_neg pe_int) pa_nil)))) (pa_cons (pv 5) pa_nil))))) (pw_or1 (pt_not (pt_val (pe_g G_law_asked (hr.mono (by decide)) (pa_cons (pv 1) (pa_cons (pv 4) pa_nil))))))))) (pss_one (ps_ret pe_bl)) pss_nil)
    (pss_one (ps_for PassesOwn.never rfl (pi_range1 (by rfl) T.n_range (pa_cons pe_int pa_nil)) (pg_name (i := 6) sc_law.nd rfl (Or.inl rfl)) (pss_cons (ps_set (i := 7) sc_law.nd rfl (Or.inl rfl) (pe_ix ix_list (pe_lst (pa_cons pe_int (pa_cons (pe_op op_sub (pe_callB call_len_seq (by rfl) T.n_len PySem.boot_len (pa_cons (pv 4) pa_nil)) pe_int) (pa_cons (pe_g G_law_wide (hr.mono (by decide)) (pa_cons (pv 1) (pa_cons (pe_callB call_len_seq (by rfl) T.n_len PySem.boot_len (pa_cons (pv 4) pa_nil)) pa_nil))) (pa_cons (pe_g G_law_wide (hr.mono (by decide)) (pa_cons (pv 1) (pa_cons (pe_callB call_len_seq (by rfl) T.n_len PySem.boot_len (pa_cons (pv 4) pa_nil)) pa_nil))) pa_nil))))) (pv 6) (fun _ _ => rfl)))
    (pss_cons (ps_set (i := 8) sc_law.nd rfl (Or.inl rfl) (pe_g G_law_value (hr.mono (by decide)) (pa_cons (pv 1) (pa_cons (pv 4) (pa_cons (pv 7) pa_nil)))))
    (pss_cons (ps_if (pt_cmpR op_notBl (pe_g G_is_kind (hr.mono (by decide)) (pa_cons (pv 8) pa_nil)) pe_bl (nomark _)) (pss_one (ps_ret pe_bl)) pss_nil)
    (pss_one (ps_if (PW.pt (pw_or (pt_not (pt_val (pe_g G_law_barred (hr.mono (by decide)) (pa_cons (pv 8) (pa_cons (pe_tup (pa_cons pe_str pa_nil)) pa_nil))))) (pw_or1 (pt_not (pt_val (pe_g G_law_barred (hr.mono (by decide)) (pa_cons (pv 5) (pa_cons (pv 8) pa_nil)))))))) (pss_one (ps_ret pe_bl)) pss_nil)))))))))))
    (pss_one (ps_ret pe_bl)))))), ?_⟩
    obtain ⟨G, hG⟩ : ∃ G : Hp, G = fun b => if b = a then H a else none := ⟨_, rfl⟩
    have s0 : Same G H := fun b o e => by
      rw [hG] at e
      by_cases z : b = a
      · rw [z]; simpa [z] using e
      · simp [z] at e
    have hs0 : ∀ H', Same G H' → SqL K H' a (ns.map V.int) := fun H' s => by
      rcases hs with hs | hs
      · refine .inl ?_
        rcases hs with hs | ⟨o, hs⟩
        · exact .inl (s a _ (by rw [hG]; simpa using hs))
        · exact .inr ⟨o, s a _ (by rw [hG]; simpa using hs)⟩
      · exact .inr hs
    clear hG hs
    refine s_seq ⟨_, rfl, a, ns, G, rfl, s0, hs0, hlen, fun p G1 H1 g1 hq hp0 => ?_⟩
    have g := gr0 (M := [p]) g1.s
    have hp1 := hq.ne
    dsimp only
    refine s_seq (p_set (P := fun d => ∃ L : List Int, d = .lst (L.map .int) ∧ L.length ≤ 4 ∧ ∀ x ∈ L, 1 ≤ x ∧ x ≤ 900) (edp_if (PB := fun _ => True) (ebp_test (edp_op (edp_pick rfl ed_int (by decide)) (Ed.pl ed_int) ?_)) (fun _ => (Ed.pl (ed_lst (eds_cons ed_int (eds_cons ed_int (eds_cons ed_int (eds_cons ed_int eds_nil)))) (Nat.le_of_ble_eq_true rfl))).to ?_) fun _ => (Ed.pl (ed_lst (eds_cons ed_int (eds_cons ed_int eds_nil)) (Nat.le_of_ble_eq_true rfl))).to ?_) g (List.mem_singleton.mpr rfl) hq fun d2 vr G2 H2 hd2 g s2 _ hq r_rooms => ?_)
    · rintro d e ⟨r, rfl, _⟩ rfl
      exact ⟨_, ⟨_, rfl, trivial⟩, fun _ _ => rd_I0b⟩
    · rintro d rfl
      exact ⟨[1, 5, 12, 40], rfl, by decide, by decide⟩
    · rintro d rfl
      exact ⟨[900, 3], rfl, by decide, by decide⟩
    obtain ⟨Lr, rfl, hLr, hLx⟩ := hd2
    simp only [tNext]
    refine s_seq (s_for (σ := [some (.ref a), some (.ref p), some vr, none, none, none, none, none, none]) (items := Lr.map .int) (es_list (ed_var rfl r_rooms)) g (fun i σ G' H' => Same G2 G' ∧ PoolAt p G' H' ∧ ∃ o3 o4 o5 o6 o7 o8 : Option V, σ = [some (.ref a), some (.ref p), some vr, o3, o4, o5, o6, o7, o8]) (fun G' H' g' s' k' => ⟨s', hq.kp k', _, _, _, _, _, _, rfl⟩) ?_ ?_)
    · rintro Gs i d v σ Gi Hi Gj Hj hd sg sgi ⟨si, hq, o3, o4, o5, o6, o7, o8, rfl⟩ g sj kj rv
      have hq := hq.kp kj
      obtain ⟨room, hroom, rfl⟩ := List.mem_map.mp (List.mem_of_getElem? hd)
      cases (show v = .int room from rv)
      have hx := hLx room hroom
      refine s_seq (p_set (edp_call rfl (eds_cons (ed_var rfl rv) eds_nil) ⟨room, rfl, hx.1, hx.2⟩) g (List.mem_singleton.mpr rfl) hq fun d3 v3 G3 H3 hd3 g s3 _ hq r_nodes => ?_)
      obtain ⟨nds, rfl, hpre, hok2, hlen2⟩ := hd3
      have hok : ∀ a ∈ nds, okNd a := fun a ha => (hok2 a ha).1
      have e_id : nds.map id = nds := List.map_id nds
      have hokv : ∀ a ∈ nds, okNd (id a) ∧ a.many ≤ 59 := hok2
      have ht : okT id (root nds) := stk_ok (fun _ => rfl) hpre hok (root nds) (by rw [stk_root hpre]; simp)
      have hs := stk_sz hpre
      rw [stk_root hpre] at hs
      simp only [szTL] at hs
      obtain ⟨i1, i2, i3⟩ := tree_ok ht
      have i4 := noDct_tree ht
      have i3 : szD (tD id (root nds)) ≤ 100000 := by omega
      have hpos : 0 < nds.length := by
        cases nds with
        | nil => cases hpre
        | cons a b => simp
      simp only [tNext]
      refine s_seq (p_set (edp_value (f := id) (ns := nds) (at' := -1) rfl (eds_cons ((ed_var rfl r_nodes).to (by rw [e_id])) (eds_cons (ed_un ed_int fun _ _ => rd_neg) eds_nil)) hpre (fun _ => rfl) hokv hlen2) g (List.mem_singleton.mpr rfl) hq fun d4 v4 G4 H4 hd4 g s4 _ hq r_value => ?_)
      rw [hd4.1 rfl] at r_value
      have r_nodes := r_nodes.mono s4
      simp only [tNext]
      refine s_seq (p_if (PB := fun b => b = false) (ebp_or (PB := fun b => b = false) (Eb.pl (Eb.to (c := false) (eb_test (ed_op (ed_rel (eds_cons (ed_var rfl r_value) eds_nil) ⟨_, rfl, i2, i3, rfl⟩) ed_bl fun _ _ => rd_notB)) (by rw [i1]; rfl))) (fun _ => ebp_or (PB := fun b => b = false) ((ebp_not (PB := fun b => b = true) (ebp_B (edp_relP (P := fun d => ∃ b, d = .bl b ∧ b = true) (edsp_cons (edp_value (f := id) (ns := nds) (at' := -1) rfl (eds_cons ((ed_var rfl r_nodes).to (by rw [e_id])) (eds_cons (ed_un ed_int fun _ _ => rd_neg) eds_nil)) hpre (fun _ => rfl) hokv hlen2) (edsp_cons (Ed.pl (ed_var rfl r_value)) edsp_nil)) ?_))).to fun b hb => by cases b <;> simp_all) (fun _ => (ebp_not (PB := fun b => b = true) (ebp_B ((edp_call rfl (eds_cons (ed_var rfl r_nodes) eds_nil) ⟨nds, rfl, hpre, hok2, hlen2⟩).to ?_))).to fun b hb => by cases b <;> simp_all) fun z => nomatch z) fun z => nomatch z) g (List.mem_singleton.mpr rfl) hq (fun hb => nomatch hb) fun _ G5 H5 g s5 _ hq => ?_)
      · rintro ds ⟨x, r, rfl, hx, y, r', rfl, rfl, rfl⟩
        rw [hx.1 rfl]
        exact ⟨_, ⟨_, rfl, i4, i3, rfl⟩, true, rfl, rfl⟩
      · rintro d rfl
        exact ⟨true, rfl, rfl⟩
      have r_nodes := r_nodes.mono s5
      have r_value := r_value.mono s5
      simp only [tNext]
      refine s_for (σ := [some (.ref a), some (.ref p), some vr, some (.int room), some v3, some v4, o6, o7, o8]) (items := (List.range (4 : Int).toNat).map fun i => .int ((0 : Int) + (i : Nat))) (es_range1 (n := 4) ed_int (by decide) (by decide)) g (fun i σ G' H' => Same G5 G' ∧ PoolAt p G' H' ∧ ∃ o6 o7 o8 : Option V, σ = [some (.ref a), some (.ref p), some vr, some (.int room), some v3, some v4, o6, o7, o8]) (fun G' H' g' s' k' => ⟨s', hq.kp k', _, _, _, rfl⟩) ?_ ?_
      · rintro Gs' i' d' v' σ Gk Hk Gl Hl hd' sg' sgk ⟨sk, hq, o6, o7, o8, rfl⟩ g sl kl rv'
        have hq := hq.kp kl
        have hi4 : i' < 4 := by
          have := (List.getElem?_eq_some_iff.mp hd').1
          simpa using this
        rw [List.getElem?_map, List.getElem?_range (show i' < (4 : Int).toNat from hi4)] at hd'
        cases hd'
        obtain ⟨tn, rfl, htn⟩ : ∃ tn : Int, v' = .int tn ∧ tn = (i' : Nat) := ⟨_, rv', by omega⟩
        have r_turn : ∀ {G'}, Rp G' (.int tn) (.int tn) := rfl
        have s5l := sk.trans sl
        have r_nodesL := r_nodes.mono s5l
        have r_valueL := r_value.mono s5l
        have hlN : ((nds.map ndD).length : Int) = nds.length := by simp
        refine s_seq (p_set (P := fun d => ∃ j : Int, d = .int j ∧ 0 ≤ j ∧ j < nds.length) (edp_op (edp_lstA (edsa_cons (P := fun d => ∃ j : Int, d = .int j ∧ 0 ≤ j ∧ j < nds.length) ((Ed.pl ed_int).to ?_) (edsa_cons ((Ed.pl (ed_op (ed_lenL (ed_var rfl r_nodesL)) ed_int fun _ _ => rd_I0i)).to ?_) (edsa_cons ((edp_wide rfl (ed_lenL (ed_var rfl r_nodesL)) (by simpa using hpos)).to ?_) (edsa_cons ((edp_wide rfl (ed_lenL (ed_var rfl r_nodesL)) (by simpa using hpos)).to ?_) edsa_nil)))) (by decide)) (Ed.pl (ed_var rfl r_turn)) ?_) g (List.mem_singleton.mpr rfl) hq fun d7 v7 G7 H7 hd7 g s7 _ hq r7 => ?_)
        · rintro d rfl
          exact ⟨0, rfl, by omega, by omega⟩
        · rintro d rfl
          exact ⟨_, rfl, by omega, by omega⟩
        · rintro d ⟨r, rfl, h0, h1⟩
          exact ⟨r, rfl, h0, by omega⟩
        · rintro d ⟨r, rfl, h0, h1⟩
          exact ⟨r, rfl, h0, by omega⟩
        · rintro d e ⟨ds, rfl, hl4, hP⟩ rfl
          rw [htn]
          have hj : i' < ds.length := by omega
          exact ⟨ds[i'], hP _ (List.getElem_mem hj), fun _ _ => rd_ixL (atI_nat (by simp [hj]))⟩
        obtain ⟨at', rfl, ha0, ha1⟩ := hd7
        cases (show v7 = .int at' from r7)
        have r_at : ∀ {G'}, Rp G' (.int at') (.int at') := rfl
        have r_nodes7 := r_nodesL.mono s7
        simp only [tNext]
        refine s_seq (p_set (edp_value (f := id) (ns := nds) (at' := at') rfl (eds_cons ((ed_var rfl r_nodes7).to (by rw [e_id])) (eds_cons (ed_var rfl r_at) eds_nil)) hpre (fun _ => rfl) hokv hlen2) g (List.mem_singleton.mpr rfl) hq fun d8 v8 G8 H8 hd8 g s8 _ hq r_wrong => ?_)
        obtain ⟨w1, w2, w3⟩ := hd8.2 ha0 ha1
        have r_value8 := r_valueL.mono (s7.trans s8)
        simp only [tNext]
        refine s_seq (s_if' (b := false) (Eb.to (c := false) (eb_test (ed_op (ed_rel (eds_cons (ed_var rfl r_wrong) eds_nil) ⟨_, rfl, w1, w3, rfl⟩) ed_bl fun _ _ => rd_notB)) (by rw [w2]; rfl)) g (fun hb => nomatch hb) fun _ H9 g k9 => ?_)
        have hq := hq.kp k9
        have hi : okNd (.plain "int") := by show ("int" : Str) ∈ thePlain; simp [thePlain]
        have b1 : kindOk (.tup [.str "int"]) := kindOk_build (a := .plain "int") (ps := []) hi rfl fun p hp => by simp at hp
        have b2 : szD (.tup [.str "int"]) ≤ 100000 := by simp [szD, szL]
        simp only [tNext]
        refine s_if' (b := false) (Eb.to (c := false) (eb_or (eb_not (eb_B (ed_rel (eds_cons (ed_var rfl r_wrong) (eds_cons (ed_tup (eds_cons ed_str eds_nil) (Nat.le_of_ble_eq_true rfl)) eds_nil)) ⟨_, _, rfl, w1, b1, w3, b2, by rw [w2]; rfl, rfl⟩))) fun _ => eb_not (eb_B (ed_rel (eds_cons (ed_var rfl r_value8) (eds_cons (ed_var rfl r_wrong) eds_nil)) ⟨_, _, rfl, i2, w1, i3, w3, by rw [w2, Bool.and_false], rfl⟩))) rfl) g (fun hb => nomatch hb) fun _ H10 g k10 => ?_
        have hq := hq.kp k10
        exact ⟨G8, g, sgk.trans (sl.trans (s7.trans s8)), s5l.trans (s7.trans s8), hq, _, _, _, rfl⟩
      · rintro σ G' H' g s' ⟨s'', hq, o6, o7, o8, rfl⟩
        have sa := sj.trans (s3.trans (s4.trans (s5.trans s'')))
        exact ⟨G', g, sgi.trans sa, si.trans sa, hq, _, _, _, _, _, _, rfl⟩
    · rintro σ G' H' g s' ⟨si, hq, o3, o4, o5, o6, o7, o8, rfl⟩
      dsimp only
      exact s_ret ed_bl g fun v G' H' g r => by
        cases (show v = .bl true from r)
        exact k H'
end
end K18
set_option maxHeartbeats 0
namespace K18
open PySem PySem.Spec PyProof.Rows L2
theorem facts {P : Program} {w : World} {K : PySem.W.Frag} {h : Heap} {mg : Str → Option Value} {f : Addr} (X : K.In h) (G : h.Ns mainGlobals mg) (hfa : mg ("law" : Str) = some (.ref f)) (c : He.SaysX fa fn [] [] ex w h K) :
    ∃ fd : FuncData, (∀ (s : Shared) (v : Value), BindsTo s fd ⟨[v], []⟩ [("script", v)]) ∧ ∀ base : Heap, K.In base → base.Ns mainGlobals mg → FnOk P w K mg base CX0 20 f fd ["script"] (spLaw K) := by
  obtain ⟨fd, F⟩ := c.t.d.def_ 40 (d := d_law) rfl
  have e := hfa.symm.trans (He.glo_ok X G (c.t.d.fact 40 (f := .glo "law") rfl))
  cases e
  have b := FunD.bindsA (ps := ["script"]) F fun _ _ _ _ _ _ us hl => match us, hl with | [_], _ => rfl
  exact ⟨fd, fun s v => b s [v] rfl, fun base _ _ => fn_law ⟨⟨h, X, G⟩, c.t.d, c.more⟩ F⟩
end K18
open PySem PySem.W PySem.Calls PyProof.Rows
theorem PySem.Challenge.cw_heardwhole_k18_kinds_and_what_is_none_holds : PySem.Challenge.rw_heardwhole_k18_kinds_and_what_is_none.Holds := by
  w_on; o_law
  refine HandSHeadRun.head_any (r := OpenLaw.row PySem.Challenge.rw_heardwhole_k18_kinds_and_what_is_none) (q := view (OpenLaw.row PySem.Challenge.rw_heardwhole_k18_kinds_and_what_is_none).prog [53]) (H := K18.hk) (ob := K18.ob) (M := 4000) (loose := K18.names) (d := HandSHeadRun.topDef (OpenLaw.row PySem.Challenge.rw_heardwhole_k18_kinds_and_what_is_none).prog 53) (kwd := []) K18.ob_eq
    (by kernel_rfl) (fun s => by kernel_rfl) K18.run (by kernel_rfl) (by kernel_rfl) (by kernel_rfl) (by rfl) (by first | assumption | decide +kernel) (by decide +kernel) ⟨rfl, rfl, rfl, rfl, rfl, by decide +kernel⟩ ?hw ?hc
  case hw => w_witness2
  case hc =>
    refine L2.walk_ofE (l := PySem.Challenge.rw_heardwhole_k18_kinds_and_what_is_none) (n := 63) (k := 20) (x := "script") (CX := L2.CX0) rfl (by decide) (by kernel_rfl) ⟨rfl, by decide, by decide⟩ ?F (fun _ _ _ _ z => z)
    intro w mg fa h Y G hmg0
    obtain ⟨K, KX, c⟩ := Y
    have hmg : mg ("law" : PySem.Str) = some (.ref fa) := by
      have e : (HandSHeadRun.topDef (OpenLaw.row PySem.Challenge.rw_heardwhole_k18_kinds_and_what_is_none).prog 53).name = ("law" : PySem.Str) := by kernel_rfl
      rw [← e]
      exact hmg0
    obtain ⟨fd, hb, hF⟩ := K18.facts (P := (PySem.Challenge.rw_heardwhole_k18_kinds_and_what_is_none).prog) (w := w) KX G hmg c
    exact ⟨K, fd, K18.spLaw K, KX, hb, fun H a ns hl hO hS => ⟨a, ns, rfl, hS, hl, hO, fun _ => rfl⟩, hF⟩
