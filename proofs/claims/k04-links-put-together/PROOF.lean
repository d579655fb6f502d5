import PyProof.Rows.All
import Wide.All
import OpenK.AllK
import Wide.FinOn
import HandS.ForMost
import HandS.ForExc
import HandS.Defaults
import HandS.Style
import HandS.IsInst
import HandS.HeadHook1
import HandS.HeadHook2
import HandS.Property
import HandS.Wide
import HandS.Walk
import HandS.SortInts
import HandS.DictComp
import PyProof.ListStr
import HandS.Conv
import PyProof.EnumMake
import PyProof.Draws
import KE.GoesMore
import PyProof.InstEq
import HandS.Exc
import HandS.ExcInit
import HandS.ExcOwn
import HandS.ExcValue
import HandS.ExcField
import HandS.TryOnly
import HandS.WordsExc
import HandS.RaiseMore
import KE.KExcIs
import HandS.HeadHook3
import HandS.HeadHook4
import PySem.Challenge.RW_newsinorder_k04_links_put_together
import KE.KStateDown
import Lean
import HandS.Head0
import HandS.Head1
import HandS.Head2
import HandS.HeadEnd
set_option Elab.async false
set_option linter.all false
set_option maxRecDepth 100000
set_option maxHeartbeats 0
namespace Nw
open PySem PySem.Spec PyProof.Rows L2

/-! ### heaps: what a part of a run does to the view I (what stands for good) and the heap H -/
structure Grow (T : Addr → Prop) (I H I' H' : Hp) : Prop where
  view : Same I I'
  sub : Same I' H'
  keep : ∀ b o, ¬ T b → H b = some o → H' b = some o
  live : ∀ b, H b ≠ none → H' b ≠ none
  fresh : ∀ b, I b = none → H b ≠ none → I' b = none
  tbl : ∀ b ps, I' b = some (.tbl ps) → I b = some (.tbl ps)
/-- no table of code objects -/
abbrev NTb (o : HO) : Prop := ∀ ps, o ≠ .tbl ps
abbrev No : Addr → Prop := fun _ => False
variable {T : Addr → Prop} {I H I' H' I0 H0 I1 H1 I2 H2 J : Hp} {p l m : Addr} {o o' : HO}
theorem Same.up (h : H p = none) : Same H (upd H p o) := fun b u e => by
  rw [upd_ne (ne_of_none e h)]
  exact e
theorem Grow.refl (h : Same I H) : Grow T I H I H := ⟨Same.refl I, h, fun _ _ _ e => e, fun _ e => e, fun _ e _ => e, fun _ _ e => e⟩
theorem Grow.trans (a : Grow T I H I1 H1) (b : Grow T I1 H1 I2 H2) : Grow T I H I2 H2 :=
  ⟨a.view.trans b.view, b.sub, fun x o n e => b.keep x o n (a.keep x o n e), fun x e => b.live x (a.live x e), fun x e n => b.fresh x (a.fresh x e n) (a.live x n), fun x ps e => a.tbl x ps (b.tbl x ps e)⟩
theorem Grow.to {T' : Addr → Prop} (h : ∀ x, T x → T' x) (g : Grow T I H I' H') : Grow T' I H I' H' :=
  ⟨g.view, g.sub, fun x o n e => g.keep x o (fun t => n (h x t)) e, g.live, g.fresh, g.tbl⟩
theorem Grow.no (g : Grow No I H I' H') : Grow T I H I' H' := g.to fun _ z => z.elim
theorem Grow.same (g : Grow No I H I' H') : Same H H' := fun b o e => g.keep b o (fun z => z) e
theorem upd_tbl {b : Addr} {ps : Array Value} (n : NTb o) (e : upd H p o b = some (.tbl ps)) : H b = some (.tbl ps) := by
  unfold upd at e
  split at e
  · exact absurd (Option.some.inj e) (n ps)
  · exact e
theorem upd_live {b : Addr} (h : H b ≠ none) : upd H p o b ≠ none := by
  unfold upd
  split
  · exact fun z => nomatch z
  · exact h
/-- a new object, for good -/
theorem Grow.new (h : Same I H) (hp : H p = none) (nt : NTb o := by intro _ z; cases z) : Grow T I H (upd I p o) (upd H p o) where
  view := Same.up (h.free hp)
  sub := fun b u e => by
    by_cases q : b = p
    · subst q; rw [upd_same] at e ⊢; exact e
    · rw [upd_ne q] at e ⊢; exact h b u e
  keep := fun b u _ e => Same.up hp b u e
  live := fun b e => upd_live e
  fresh := fun b e n => by
    rw [upd_ne (fun z => n (by rw [z]; exact hp))]
    exact e
  tbl := fun b ps e => upd_tbl nt e
/-- a new object of one's own, that may change yet -/
theorem Grow.mine (h : Same I H) (hp : H p = none) : Grow T I H I (upd H p o) where
  view := Same.refl I
  sub := h.trans (Same.up hp)
  keep := fun b u _ e => Same.up hp b u e
  live := fun b e => upd_live e
  fresh := fun b e _ => e
  tbl := fun _ _ e => e
/-- an object of one's own -/
structure Own (T : Addr → Prop) (H0 : Hp) (l : Addr) (o : HO) (I H : Hp) : Prop where
  nt : ¬ T l
  n0 : H0 l = none
  ni : I l = none
  at_ : H l = some o
theorem Own.new (hs : Same I H) (h : Same H0 H ∨ (∀ b, H0 b ≠ none → H b ≠ none)) (ht : ∀ b, T b → H b ≠ none) (hp : H p = none) : Own T H0 p o I (upd H p o) := by
  refine ⟨fun t => ht p t hp, ?_, hs.free hp, upd_same⟩
  cases q : H0 p with
  | none => rfl
  | some u =>
    rcases h with h | h
    · have z := h p u q
      rw [hp] at z; cases z
    · exact absurd hp (h p (by rw [q]; exact fun z => nomatch z))
theorem Own.grow (w : Own T H0 l o I H) (g : Grow T I H I' H') : Own T H0 l o I' H' :=
  ⟨w.nt, w.n0, g.fresh l w.ni (by rw [w.at_]; exact fun z => nomatch z), g.keep l o w.nt w.at_⟩
theorem Own.put (w : Own T H0 l o I H) : Own T H0 l o' I (upd H l o') := ⟨w.nt, w.n0, w.ni, upd_same⟩
theorem Own.other (w : Own T H0 l o I H) (ne : l ≠ m) : Own T H0 l o I (upd H m o') := ⟨w.nt, w.n0, w.ni, by rw [upd_ne ne]; exact w.at_⟩
theorem Grow.put (g : Grow T I0 H0 I H) (w : Own T H0 l o I H) : Grow T I0 H0 I (upd H l o') where
  view := g.view
  sub := fun b u e => by
    rw [upd_ne (ne_of_none e w.ni)]
    exact g.sub b u e
  keep := fun b u n e => by
    rw [upd_ne (ne_of_none e w.n0)]
    exact g.keep b u n e
  live := fun b e => upd_live (g.live b e)
  fresh := g.fresh
  tbl := g.tbl
/-- it is given out: it will not change any more -/
theorem Grow.give (g : Grow T I0 H0 I H) (w : Own T H0 l o I H) (nt : NTb o := by intro _ z; cases z) : Grow T I0 H0 (upd I l o) H where
  view := g.view.trans (Same.up w.ni)
  sub := fun b u e => by
    by_cases q : b = l
    · subst q; rw [upd_same] at e; rw [w.at_]; exact e
    · rw [upd_ne q] at e; exact g.sub b u e
  keep := g.keep
  live := g.live
  fresh := fun b e n => by
    rw [upd_ne (fun z => n (by rw [z]; exact w.n0))]
    exact g.fresh b e n
  tbl := fun b ps e => g.tbl b ps (upd_tbl nt e)

/-- what was changed is younger than where one looks from -/
theorem Grow.drop (g0 : Grow T I0 H0 I H) {T' : Addr → Prop} (g : Grow T' I H I' H') (hT : ∀ b, T' b → T b ∨ H0 b = none) : Grow T I0 H0 I' H' where
  view := g0.view.trans g.view
  sub := g.sub
  keep := fun b u n e => g.keep b u (fun t => by
    rcases hT b t with z | z
    · exact n z
    · rw [z] at e; cases e) (g0.keep b u n e)
  live := fun b e => g.live b (g0.live b e)
  fresh := fun b e n => g.fresh b (g0.fresh b e n) (g0.live b n)
  tbl := fun b ps e => g0.tbl b ps (g.tbl b ps e)
/-- x is given out, with what it holds now -/
theorem Grow.give' (g : Grow T I0 H0 I H) (n0 : H0 l = none) (ni : I l = none) (h : H l = some o) (nt : NTb o := by intro _ z; cases z) : Grow T I0 H0 (upd I l o) H where
  view := g.view.trans (Same.up ni)
  sub := fun b u e => by
    by_cases q : b = l
    · subst q; rw [upd_same] at e; rw [h]; exact e
    · rw [upd_ne q] at e; exact g.sub b u e
  keep := g.keep
  live := g.live
  fresh := fun b e n => by
    rw [upd_ne (fun z => n (by rw [z]; exact n0))]
    exact g.fresh b e n
  tbl := fun b ps e => g.tbl b ps (upd_tbl nt e)

/-- an object that T names is changed -/
theorem Grow.chg (g : Grow T I0 H0 I H) (t : T p) (ni : I p = none) : Grow T I0 H0 I (upd H p o') where
  view := g.view
  sub := fun b u e => by
    rw [upd_ne (ne_of_none e ni)]
    exact g.sub b u e
  keep := fun b u n e => by
    rw [upd_ne (fun z => n (by rw [z]; exact t))]
    exact g.keep b u n e
  live := fun b e => upd_live (g.live b e)
  fresh := g.fresh
  tbl := g.tbl

/-! ### data and what stands for it -/
class Rep (α : Type) where
  is : Hp → V → α → Prop
  mono : ∀ {H H' : Hp} {v : V} {x : α}, Same H H' → is H v x → is H' v x
instance : Rep V := ⟨fun _ v x => v = x, fun _ h => h⟩
instance : Rep Int := ⟨fun _ v x => v = .int x, fun _ h => h⟩
instance : Rep Bool := ⟨fun _ v x => v = .bl x, fun _ h => h⟩
instance : Rep Str := ⟨fun _ v x => v = .str x, fun _ h => h⟩
instance : Rep Unit := ⟨fun _ v _ => v = .non, fun _ h => h⟩
theorem Paired.mono' {α β : Type} {F G : α → β → Prop} (h : ∀ a b, F a b → G a b) : ∀ {xs : List α} {ys : List β}, Paired F xs ys → Paired G xs ys
  | _, _, .nil => .nil
  | _, _, .cons a t => .cons (h _ _ a) (Paired.mono' h t)
/-- a list -/
def isL {α : Type} [Rep α] (I : Hp) (v : V) (xs : List α) : Prop := ∃ a vs, v = .ref a ∧ I a = some (.lst vs) ∧ Paired (Rep.is I) vs xs
/-- a tuple of any length, of things of one kind -/
structure Tup (α : Type) where
  l : List α
def isU {α : Type} [Rep α] (I : Hp) (v : V) (xs : List α) : Prop := ∃ a vs, v = .ref a ∧ I a = some (.tup vs) ∧ Paired (Rep.is I) vs xs
instance {α : Type} [Rep α] : Rep (List α) := ⟨isL, fun e ⟨a, vs, h1, h2, h3⟩ => ⟨a, vs, h1, e _ _ h2, Paired.mono' (fun _ _ z => Rep.mono e z) h3⟩⟩
instance {α : Type} [Rep α] : Rep (Tup α) := ⟨fun I v x => isU I v x.l, fun e ⟨a, vs, h1, h2, h3⟩ => ⟨a, vs, h1, e _ _ h2, Paired.mono' (fun _ _ z => Rep.mono e z) h3⟩⟩
/-- a pair -/
def isP {α β : Type} [Rep α] [Rep β] (I : Hp) (v : V) (x : α × β) : Prop := ∃ a v1 v2, v = .ref a ∧ I a = some (.tup [v1, v2]) ∧ Rep.is I v1 x.1 ∧ Rep.is I v2 x.2
instance {α β : Type} [Rep α] [Rep β] : Rep (α × β) := ⟨isP, fun e ⟨a, v1, v2, h1, h2, h3, h4⟩ => ⟨a, v1, v2, h1, e _ _ h2, Rep.mono e h3, Rep.mono e h4⟩⟩

/-! ### what an expression gives -/
def EvR {α : Type} [Rep α] (te : TE) (σ : L2.St) (I : Hp) (x : α) : Prop := ∀ H, Same I H → ∀ Q : VK, (∀ v I' H', Grow No I H I' H' → Rep.is I' v x → Q v H') → te σ H Q
def EvT (tt : TT) (σ : L2.St) (I : Hp) (b : Bool) : Prop := ∀ H, Same I H → ∀ Q : Bool → Hp → Prop, (∀ I' H', Grow No I H I' H' → Q b H') → tt σ H Q
def un (J I : Hp) : Hp := fun b => match J b with
  | some o => some o
  | none => I b
theorem un_l : Same J (un J I) := fun b o e => by
  unfold un
  rw [e]
theorem un_none {b : Addr} (h : J b = none) : un J I b = I b := by
  unfold un
  rw [h]
theorem Grow.join {e : Same I J} {s : Same J H} (g : Grow No I H I' H') : Grow No J H (un J I') H' ∧ Same I' (un J I') := by
  have k : Same J H' := fun b o q => g.keep b o (fun z => z) (s b o q)
  refine ⟨⟨un_l, fun b o q => ?_, g.keep, g.live, fun b n q => ?_, fun b ps q => ?_⟩, fun b o q => ?_⟩
  · cases h : J b with
    | none => rw [un_none h] at q; exact g.sub b o q
    | some u =>
      have z : un J I' b = some u := un_l b u h
      rw [z] at q; cases q
      exact k b o h
  · rw [un_none n]
    exact g.fresh b (e.free n) q
  · cases h : J b with
    | none =>
      rw [un_none h] at q
      have z := e b _ (g.tbl b ps q)
      rw [h] at z; cases z
    | some u =>
      have z : un J I' b = some u := un_l b u h
      rw [z] at q
      exact q
  · cases h : J b with
    | none => rw [un_none h]; exact q
    | some u =>
      have z : un J I' b = some u := un_l b u h
      have h1 := k b u h
      rw [g.sub b o q] at h1
      rw [z, h1]
section
variable {α β γ : Type} [Rep α] [Rep β] [Rep γ] {te ta tb tc : TE} {tt t u : TT} {σ : L2.St} {x : α} {y : β} {z : γ} {v w : V} {K : PySem.W.Frag}
theorem EvR.mono (h : EvR te σ I x) (e : Same I J) : EvR te σ J x := fun H s Q k => h H (e.trans s) Q fun v I' H' g r =>
  let ⟨g', e'⟩ := g.join (e := e) (s := s)
  k v _ H' g' (Rep.mono e' r)
theorem EvT.mono {b : Bool} (h : EvT tt σ I b) (e : Same I J) : EvT tt σ J b := fun H s Q k => h H (e.trans s) Q fun I' H' g =>
  let ⟨g', _⟩ := g.join (e := e) (s := s)
  k _ H' g'
/-- the rest of an evaluation: from the view and the heap as they stand -/
theorem EvR.go (h : EvR te σ I x) (s : Same I H) {Q : VK} (k : ∀ v I' H', Grow No I H I' H' → Rep.is I' v x → Q v H') : te σ H Q := h H s Q k
theorem evr_var {i : Nat} (h : σ[i]? = some (some v)) (r : Rep.is I v x) : EvR (tVar i) σ I x := fun H s Q k => ⟨v, h, k v I H (Grow.refl s) r⟩
theorem evr_c (r : Rep.is I v x) : EvR (tC v) σ I x := fun H s Q k => k v I H (Grow.refl s) r
theorem evr_int {i : Int} : EvR (tC (.int i)) σ I i := evr_c rfl
theorem evr_str {s : Str} : EvR (tC (.str s)) σ I s := evr_c rfl
theorem evr_bl {b : Bool} : EvR (tC (.bl b)) σ I b := evr_c rfl
theorem evr_non : EvR (tC .non) σ I () := evr_c rfl
/-- what an operator makes of two values -/
def RvR (r : R2) (I : Hp) (v w : V) (z : γ) : Prop := ∀ H, Same I H → ∀ Q : VK, (∀ u I' H', Grow No I H I' H' → Rep.is I' u z → Q u H') → r v w H Q
theorem evr_op {r : R2} (ha : EvR ta σ I x) (hb : EvR tb σ I y) (hr : ∀ J v w, Same I J → Rep.is J v x → Rep.is J w y → RvR r J v w z) : EvR (tOp r ta tb) σ I z := fun H s Q k =>
  ha H s _ fun v I1 H1 g1 r1 => (hb.mono g1.view) H1 g1.sub _ fun w I2 H2 g2 r2 => hr I2 v w (g1.view.trans g2.view) (Rep.mono g2.view r1) r2 H2 g2.sub Q fun u I3 H3 g3 r3 => k u I3 H3 ((g1.trans g2).trans g3) r3
theorem evr_opI {r : R2} {i j : Int} {z : γ} (ha : EvR ta σ I i) (hb : EvR tb σ I j) (hr : ∀ J, RvR r J (.int i) (.int j) z) : EvR (tOp r ta tb) σ I z :=
  evr_op ha hb fun J v w _ h1 h2 => by
    cases h1; cases h2
    exact hr J
theorem rvr_I0 {g : Int → Int → V} {i j : Int} (h : ∀ J, Rep.is J (g i j) z) : RvR (rI0 g) I (.int i) (.int j) z := fun H s Q k => ⟨i, j, rfl, rfl, k _ I H (Grow.refl s) (h I)⟩
theorem rvr_I {C : Int → Int → Prop} {g : Int → Int → V} {i j : Int} (hc : C i j) (h : ∀ J, Rep.is J (g i j) z) : RvR (rI C g) I (.int i) (.int j) z := fun H s Q k => ⟨i, j, rfl, rfl, hc, k _ I H (Grow.refl s) (h I)⟩
end
end Nw

namespace Nw
open PySem PySem.Spec PyProof.Rows L2

/-! ### a def and its promise, by the def's address -/
structure Ok (P : Program) (w : World) (K : PySem.W.Frag) (mg : Str → Option Value) (base : Heap) (CX : CXT) (k : Nat) (f : Addr) (ps : List Str) (sp : Sp) : Prop where
  ok : ∃ fd, FnOk P w K mg base CX k f fd ps sp ∧ Binds K fd ps [] ∧ PySem.W.keepIn K (.ref f) = true ∧ ∃ oc od osl, K.lookup f = some ⟨oc, od, .func fd, osl⟩
abbrev FnAt (K : PySem.W.Frag) (x qual : Str) (st : Stmt) (f : Addr) : Prop := ∃ fd, FunD K x qual (defArgs st) (defBody st) (defScope st) [] [] f fd
section
variable {P : Program} {w : World} {K : PySem.W.Frag} {mg : Str → Option Value} {base : Heap} {X : Cx} {CX : CXT} {k : Nat} {f C p g : Addr} {ps : List Str} {sp : Sp} {E : XK} {x m : Str} {pos ppos apos : Pos} {e o : Expr} {es : List Expr} {ta : TE} {t : TA}
theorem Ok.imp {sp' : Sp} (G : Ok P w K mg base CX k f ps sp) (h : ∀ vs H Q E, sp' vs H Q E → sp vs H Q E) : Ok P w K mg base CX k f ps sp' := by
  obtain ⟨fd, F, b, kp⟩ := G.ok
  exact ⟨fd, F.imp h, b, kp⟩
theorem Ok.up {j : Nat} (G : Ok P w K mg base CX k f ps sp) (h : k ≤ j) : Ok P w K mg base CX j f ps sp := by
  obtain ⟨fd, F, b, kp⟩ := G.ok
  exact ⟨fd, F.mono h, b, kp⟩
/-- a def that lets no exception out keeps its promise -/
theorem ok_of {qual : Str} {st : Stmt} {N : List Str} (F : FnAt K x qual st f) (S : FnScope N ps (defScope st))
    (hb : ∀ (kV doc pm : Value) (an : Option Addr) (cdv ct : Value) (us : List Value), us.length = ps.length → bindArgs (PySem.W.fnOf x qual (defArgs st) (defBody st) (defScope st) .none kV doc pm an cdv ct) ⟨us, []⟩ = pure (ps.zip us))
    (len : ∀ vs H Q E, sp vs H Q E → vs.length = ps.length)
    (hbody : ∀ (cdv : Value) (A : Around) (outer : List Env) (s : Shared) (H : Hp) (vs : List V) (Q : VK) (E : XK), Room k (A.deeper (envOfC qual (defScope st) s.heap.objs.size f cdv)) → sp vs H Q E →
      ∃ t, PSs (cxOf CX0 P w K mg base N qual (defScope st) f cdv A outer s H E).nox (defBody st) t ∧ t { nx := fun _ H' => Q .non H', rt := Q } (start N vs) H) : Ok P w K mg base CX0 (k + 1) f ps sp := by
  obtain ⟨fd, F⟩ := F
  refine ⟨fd, F.ok S len fun cdv A outer s H vs Q E hr h => ?_, F.bindsN hb, F.kp, let ⟨oc, od, _, _, _, _, _, _, _, osl, _, lk, _⟩ := F.ex; ⟨oc, od, osl, lk⟩⟩
  obtain ⟨t, h1, h2⟩ := hbody cdv A outer s H vs Q E hr h
  exact ⟨t, h1.nox, h2⟩
/-- a def that lets none out, where some may be let out -/
theorem Ok.toX {CX' : CXT} (G : Ok P w K mg base CX0 k f ps sp) : Ok P w K mg base CX' k f ps sp := by
  obtain ⟨fd, F, r⟩ := G.ok
  refine ⟨fd, ⟨F.len, fun A outer s H args us vs Q E hr e0 hb rv h => codeAny_mono (F.run A outer s H args us vs Q E hr e0 hb rv h) fun r s' hq => ?_⟩, r⟩
  cases r with
  | error e => exact (show False from hq).elim
  | ok fl => cases fl <;> exact hq
/-- both of two promises -/
theorem Ok.or {sp' : Sp} (G : Ok P w K mg base CX k f ps sp) (G' : Ok P w K mg base CX k f ps sp') : Ok P w K mg base CX k f ps (fun vs H Q E => sp vs H Q E ∨ sp' vs H Q E) := by
  obtain ⟨fd, F, b, kp, oc, od, osl, lk⟩ := G.ok
  obtain ⟨fd', F', _, _, oc', od', osl', lk'⟩ := G'.ok
  rw [lk] at lk'
  cases lk'
  refine ⟨fd, ⟨fun vs H Q E h => h.elim (F.len vs H Q E) (F'.len vs H Q E), fun A outer s H args us vs Q E hr e0 hb rv h => ?_⟩, b, kp, oc, od, osl, lk⟩
  rcases h with h | h
  · exact F.run A outer s H args us vs Q E hr e0 hb rv h
  · exact F'.run A outer s H args us vs Q E hr e0 hb rv h
theorem pe_callC (G : Ok X.prog X.w X.K X.mg X.base CX0 k f ps sp) (hr : Room k X.A) (hm : X.mg x = some (.ref f)) (ha : PA X (e :: es) t) (hg : Gl X x := by rfl) (hdb : (x == ("__debug__" : Str)) = false := by decide)
    (he : starEach (e :: es) X.env = (false, eval e X.env) :: starEach es X.env := by rfl) (hpl : (backTo pos (starEach es X.env)).any (·.1) = false := by rfl) : PE X (.Call (.Name x ppos) (e :: es) [] pos) (tCall sp [] E0 t) := by
  obtain ⟨fd, F, b, kp, _⟩ := G.ok
  exact pe_call F hr hg hm kp b .nil pass0 ha hdb he hpl
theorem pe_makeC (M : Mk X.K C f) (G : Ok X.prog X.w X.K X.mg X.base CX0 k f ps sp) (hr : Room (k + 1) X.A) (hm : X.mg x = some (.ref C)) (ha : PA X (e :: es) t) (hg : Gl X x := by rfl) (hdb : (x == ("__debug__" : Str)) = false := by decide)
    (he : starEach (e :: es) X.env = (false, eval e X.env) :: starEach es X.env := by rfl) (hpl : (backTo pos (starEach es X.env)).any (·.1) = false := by rfl) : PE X (.Call (.Name x ppos) (e :: es) [] pos) (tMake C sp [] E0 t) := by
  obtain ⟨fd, F, b, kp, _⟩ := G.ok
  exact pe_make M F hr hg hm b .nil pass0 ha hdb he hpl
theorem pe_gint {i : Int} (h : ∃ t, X.mg x = some (.int i t)) (hg : Gl X x := by rfl) (hd : (x == ("__debug__" : Str)) = false := by decide) : PE X (.Name x pos) (tC (.int i)) := by
  obtain ⟨t, h⟩ := h
  exact pe_glob hg h ⟨t, rfl⟩ hd
theorem pe_gstr {i : Str} (h : ∃ t, X.mg x = some (.str i t)) (hg : Gl X x := by rfl) (hd : (x == ("__debug__" : Str)) = false := by decide) : PE X (.Name x pos) (tC (.str i)) := by
  obtain ⟨t, h⟩ := h
  exact pe_glob hg h ⟨t, rfl⟩ hd
/-- a statement, then the others, by what holds between them -/
def tMid (t u : TS) : TS := fun D σ H => ∃ M : L2.St → Hp → Prop, t { D with nx := M } σ H ∧ ∀ σ1 H1, M σ1 H1 → u D σ1 H1
theorem pss_mid {st : Stmt} {sts : List Stmt} {t u : TS} (a : PS X st t) (b : PSs X sts u) : PSs X (st :: sts) (tMid t u) :=
  ⟨fun pins s σ H D I ⟨M, h1, h2⟩ => wpAny_execs_cons (wpAny_mono (a.run pins s σ H { D with nx := M } I h1) (fun f s1 q => by
    cases f with
    | next => exact let ⟨σ1, H1, I1, q1⟩ := q; b.run pins s1 σ1 H1 D I1 (h2 σ1 H1 q1)
    | ret v => exact q
    | brk => exact q
    | cont => exact q) fun _ _ z => z)⟩
/-- what isinstance leans on, of an own class -/
structure InsF (K : PySem.W.Frag) (C : Addr) : Prop where
  ha : PySem.W.findIn K (.ref C) "__class__" = some (some (.builtin "object.__class__"))
  hn : PySem.W.specialIn K (.builtin "object.__class__") "__get__" = some (some (.builtin "getset_descriptor.__get__"))
  htk : PySem.W.takesIn K (.builtin "object.__class__") = some true
  hm : PySem.W.mroIn K C (.type "object") = some true
def insB (K : PySem.W.Frag) (C : Addr) : Bool := decide (PySem.W.findIn K (.ref C) "__class__" = some (some (.builtin "object.__class__"))) && (decide (PySem.W.specialIn K (.builtin "object.__class__") "__get__" = some (some (.builtin "getset_descriptor.__get__"))) && (decide (PySem.W.takesIn K (.builtin "object.__class__") = some true) && decide (PySem.W.mroIn K C (.type "object") = some true)))
theorem insB_ok {K : PySem.W.Frag} {C : Addr} (h : insB K C = true) : InsF K C := by
  unfold insB at h
  simp only [Bool.and_eq_true, decide_eq_true_eq] at h
  exact ⟨h.1, h.2.1, h.2.2.1, h.2.2.2⟩
theorem InsF.ty {K : PySem.W.Frag} {H : Hp} {a C dx : Addr} {fs : List (Str × V)} (F : InsF K C) (c : Cls K C) (h : H a = some (.ins C dx fs)) : TyX K H (.ref a) (.ref C) := .base (.ins h c F.ha F.hn F.htk F.hm)
theorem kit_self {K : PySem.W.Frag} {C : Addr} : PySem.W.kitOne K (.ref C) (.ref C) = some true := by
  unfold PySem.W.kitOne
  rw [if_pos (by simp)]
theorem kit_refl {K : PySem.W.Frag} {t : Value} (h : (t == t) = true := by rfl) : PySem.W.kitOne K t t = some true := by
  unfold PySem.W.kitOne
  rw [if_pos h]
theorem kit_any_hd {K : PySem.W.Frag} {t : Value} {r : List Value} (h : (t == t) = true := by rfl) : PySem.W.kitAny K t (t :: r) = some true := by
  unfold PySem.W.kitAny
  rw [kit_refl h]
/-- xs == [] and xs != [], whatever stands in xs -/
def rNilE (K : PySem.W.Frag) : R2 := fun x y H Q => ∃ a b xs, x = .ref a ∧ y = .ref b ∧ SqL K H a xs ∧ SqL K H b [] ∧ Q (.bl xs.isEmpty) H
def rNilN (K : PySem.W.Frag) : R2 := fun x y H Q => ∃ a b xs, x = .ref a ∧ y = .ref b ∧ SqL K H a xs ∧ SqL K H b [] ∧ Q (.bl (!xs.isEmpty)) H
theorem op_eqNil (hu : X.A.units + 64 < cLine) : OpR X (compareOp .Eq) (rNilE X.K) := by
  intro pins s σ H x y v u Q I rx ry h
  obtain ⟨a, b, xs, rfl, rfl, ha, hb, q⟩ := h
  cases rx
  cases ry
  obtain ⟨its, r1, t1, z1⟩ := I.list ha
  obtain ⟨its2, r2, t2, z2⟩ := I.list hb
  cases r2
  have hu' : X.A.units < cLine := Nat.lt_of_le_of_lt (Nat.le_add_right _ _) hu
  cases r1 with
  | nil =>
    refine SeqAt.eq_listAt (e := fun _ => true) t1.isList t2.isList rfl hu' (fun j h1 => ?_) ⟨.bl true, H, I, rfl, q⟩
    exact absurd h1 (by simp)
  | cons p r => exact SeqAt.eq_list_lengthsAt t1.isList t2.isList (by simp) hu' ⟨.bl false, H, I, rfl, q⟩
theorem op_neNil (hu : X.A.units + 64 < cLine) : OpR X (compareOp .NotEq) (rNilN X.K) := by
  intro pins s σ H x y v u Q I rx ry h
  obtain ⟨a, b, xs, rfl, rfl, ha, hb, q⟩ := h
  cases rx
  cases ry
  obtain ⟨its, r1, t1, z1⟩ := I.list ha
  obtain ⟨its2, r2, t2, z2⟩ := I.list hb
  cases r2
  have hu' : X.A.units < cLine := Nat.lt_of_le_of_lt (Nat.le_add_right _ _) hu
  cases r1 with
  | nil =>
    refine SeqAt.RcNeAt.lists (e := fun _ => true) t1.isList t2.isList rfl hu' (fun j h1 => ?_) _ _ _ _ ⟨.bl false, H, I, rfl, q⟩
    exact absurd h1 (by simp)
  | cons p r => exact SeqAt.RcNeAt.lists_lengths t1.isList t2.isList (by simp) hu' _ _ _ _ ⟨.bl true, H, I, rfl, q⟩
end
end Nw

namespace Nw
open PySem PySem.Spec PyProof.Rows L2
/-! ### the source of draws: a dict, two lists -/
structure DA where
  d : Addr
  g : Addr
  l : Addr
def TD (D : DA) : Addr → Prop := fun b => b = D.d ∨ b = D.g ∨ b = D.l
abbrev drK (D : DA) (dig tn : Int) : List (Key × V) := [(.inr "digits", .int dig), (.inr "great", .ref D.g), (.inr "lumps", .ref D.l), (.inr "turn", .int tn)]
structure DrS (D : DA) (dig tn : Int) (gs ls : List Int) (I H : Hp) : Prop where
  sub : Same I H
  vd : I D.d = none
  vg : I D.g = none
  vl : I D.l = none
  dg : D.d ≠ D.g
  dl : D.d ≠ D.l
  gl : D.g ≠ D.l
  hd : H D.d = some (.dK (drK D dig tn))
  hg : H D.g = some (.lst (gs.map V.int))
  hl : H D.l = some (.lst (ls.map V.int))
structure Drw (D : DA) (n : Nat) (I H : Hp) : Prop where
  ex : ∃ (dig tn : Int) (gs ls : List Int), DrS D dig tn gs ls I H ∧ 0 ≤ dig ∧ 0 ≤ tn ∧ tn ≤ n ∧ (∀ g ∈ gs, 0 ≤ g) ∧ (∀ l ∈ ls, 0 ≤ l)
section
variable {D : DA} {dig tn : Int} {gs ls : List Int} {n : Nat} {T : Addr → Prop} {I H I' H' I0 H0 : Hp} {p l m : Addr} {o o' : HO}
theorem DrS.live (s : DrS D dig tn gs ls I H) : ∀ b, TD D b → H b ≠ none := fun b t => by
  rcases t with rfl | rfl | rfl
  · rw [s.hd]; exact fun z => nomatch z
  · rw [s.hg]; exact fun z => nomatch z
  · rw [s.hl]; exact fun z => nomatch z
theorem Drw.live (w : Drw D n I H) : ∀ b, TD D b → H b ≠ none := let ⟨_, _, _, _, s, _⟩ := w.ex; s.live
theorem Drw.sub (w : Drw D n I H) : Same I H := let ⟨_, _, _, _, s, _⟩ := w.ex; s.sub
theorem DrS.grow (s : DrS D dig tn gs ls I H) (g : Grow No I H I' H') : DrS D dig tn gs ls I' H' :=
  ⟨g.sub, g.fresh _ s.vd (s.live _ (.inl rfl)), g.fresh _ s.vg (s.live _ (.inr (.inl rfl))), g.fresh _ s.vl (s.live _ (.inr (.inr rfl))), s.dg, s.dl, s.gl, g.keep _ _ (fun z => z) s.hd, g.keep _ _ (fun z => z) s.hg, g.keep _ _ (fun z => z) s.hl⟩
theorem Drw.grow (w : Drw D n I H) (g : Grow No I H I' H') : Drw D n I' H' := let ⟨a, b, c, d, s, r⟩ := w.ex; ⟨a, b, c, d, s.grow g, r⟩
theorem DrS.put (s : DrS D dig tn gs ls I H) (nt : ¬ TD D m) (ni : I m = none) : DrS D dig tn gs ls I (upd H m o) :=
  ⟨fun b u e => by rw [upd_ne (ne_of_none e ni)]; exact s.sub b u e, s.vd, s.vg, s.vl, s.dg, s.dl, s.gl, by rw [upd_ne fun z => nt (.inl z.symm)]; exact s.hd, by rw [upd_ne fun z => nt (.inr (.inl z.symm))]; exact s.hg, by rw [upd_ne fun z => nt (.inr (.inr z.symm))]; exact s.hl⟩
theorem Drw.put (w : Drw D n I H) (x : Own (TD D) H0 m o I H) : Drw D n I (upd H m o') := let ⟨a, b, c, d, s, r⟩ := w.ex; ⟨a, b, c, d, s.put x.nt x.ni, r⟩
theorem Drw.give (w : Drw D n I H) (x : Own (TD D) H0 m o I H) : Drw D n (upd I m o) H := by
  obtain ⟨a, b, c, d, s, r⟩ := w.ex
  refine ⟨a, b, c, d, ⟨fun q u e => ?_, ?_, ?_, ?_, s.dg, s.dl, s.gl, s.hd, s.hg, s.hl⟩, r⟩
  · by_cases z : q = m
    · subst z; rw [upd_same] at e; rw [x.at_]; exact e
    · rw [upd_ne z] at e; exact s.sub q u e
  · rw [upd_ne fun z => x.nt (.inl z.symm)]; exact s.vd
  · rw [upd_ne fun z => x.nt (.inr (.inl z.symm))]; exact s.vg
  · rw [upd_ne fun z => x.nt (.inr (.inr z.symm))]; exact s.vl
theorem Drw.mono {m : Nat} (w : Drw D n I H) (h : n ≤ m) : Drw D m I H := by
  obtain ⟨a, b, c, d, s, h1, h2, h3, h4⟩ := w.ex
  exact ⟨a, b, c, d, s, h1, h2, by omega, h4⟩
theorem DrS.up (s : DrS D dig tn gs ls I H) {d2 t2 : Int} (hH : Same I H') (h1 : H' D.d = some (.dK (drK D d2 t2))) {gs2 : List Int} (h2 : H' D.g = some (.lst (gs2.map V.int))) (h3 : H' D.l = some (.lst (ls.map V.int))) : DrS D d2 t2 gs2 ls I H' :=
  ⟨hH, s.vd, s.vg, s.vl, s.dg, s.dl, s.gl, h1, h2, h3⟩
/-- only the source's own objects change -/
theorem DrS.gd (s : DrS D dig tn gs ls I H) (g : Grow (TD D) I0 H0 I H) : Grow (TD D) I0 H0 I (upd H D.d o) where
  view := g.view
  sub := fun b u e => by rw [upd_ne (ne_of_none e s.vd)]; exact g.sub b u e
  keep := fun b u n e => by rw [upd_ne fun z => n (.inl z)]; exact g.keep b u n e
  live := fun b e => upd_live (g.live b e)
  fresh := g.fresh
  tbl := g.tbl
theorem DrS.gg (s : DrS D dig tn gs ls I H) (g : Grow (TD D) I0 H0 I H) : Grow (TD D) I0 H0 I (upd H D.g o) where
  view := g.view
  sub := fun b u e => by rw [upd_ne (ne_of_none e s.vg)]; exact g.sub b u e
  keep := fun b u n e => by rw [upd_ne fun z => n (.inr (.inl z))]; exact g.keep b u n e
  live := fun b e => upd_live (g.live b e)
  fresh := g.fresh
  tbl := g.tbl
end
theorem putK_new {κ : Type} [DecidableEq κ] {kvs : List (κ × V)} {k : κ} {v : V} (h : k ∉ kvs.map (·.1)) : putK kvs k v = kvs ++ [(k, v)] := by
  unfold putK
  have e : (kvs.any fun kv => decide (kv.1 = k)) = false := by
    rw [List.any_eq_false]
    intro kv hkv z
    exact h (List.mem_map.mpr ⟨kv, hkv, of_decide_eq_true z⟩)
  rw [e, if_neg Bool.false_ne_true]
theorem merge_app : ∀ {more acc : List (Key × V)}, (∀ k ∈ more.map (·.1), k ∉ acc.map (·.1)) → (more.map (·.1)).Nodup → mergeK acc more = acc ++ more
  | [], acc, _, _ => (List.append_nil acc).symm
  | q :: r, acc, h, nd => by
    have h1 : putK acc q.1 q.2 = acc ++ [q] := putK_new (h q.1 (List.mem_cons_self ..))
    have nd' := List.nodup_cons.mp nd
    have ih := merge_app (more := r) (acc := acc ++ [q]) (fun k hk => by
      rw [List.map_append, List.mem_append]
      rintro (z | z)
      · exact h k (List.mem_cons_of_mem _ hk) z
      · simp at z; subst z; exact nd'.1 hk) nd'.2
    show mergeK (putK acc q.1 q.2) r = acc ++ q :: r
    rw [h1, ih, List.append_assoc] <;> rfl
theorem merge_nodup {kvs : List (Key × V)} (h : (kvs.map (·.1)).Nodup) : mergeK [] kvs = kvs := merge_app (fun _ _ z => by cases z) h
theorem k12 : ¬ ((Sum.inr "digits" : Key) = (Sum.inr "great" : Key)) := by decide +kernel
theorem k13 : ¬ ((Sum.inr "digits" : Key) = (Sum.inr "lumps" : Key)) := by decide +kernel
theorem k14 : ¬ ((Sum.inr "digits" : Key) = (Sum.inr "turn" : Key)) := by decide +kernel
theorem k23 : ¬ ((Sum.inr "great" : Key) = (Sum.inr "lumps" : Key)) := by decide +kernel
theorem k24 : ¬ ((Sum.inr "great" : Key) = (Sum.inr "turn" : Key)) := by decide +kernel
theorem k34 : ¬ ((Sum.inr "lumps" : Key) = (Sum.inr "turn" : Key)) := by decide +kernel
variable {D : DA} {dig tn i : Int}
theorem val_dig : valV (drK D dig tn) (Sum.inr "digits") = some (.int dig) := valV_pos rfl
theorem val_great : valV (drK D dig tn) (Sum.inr "great") = some (.ref D.g) := (valV_neg k12).trans (valV_pos rfl)
theorem val_lumps : valV (drK D dig tn) (Sum.inr "lumps") = some (.ref D.l) := (valV_neg k13).trans ((valV_neg k23).trans (valV_pos rfl))
theorem val_turn : valV (drK D dig tn) (Sum.inr "turn") = some (.int tn) := (valV_neg k14).trans ((valV_neg k24).trans ((valV_neg k34).trans (valV_pos rfl)))
theorem put_dig : putK (drK D dig tn) (Sum.inr "digits") (.int i) = drK D i tn := by
  unfold putK
  rw [valV_any, val_dig]
  show (if true = true then _ else _) = _
  rw [if_pos rfl]
  simp only [List.map_cons, List.map_nil]
  rw [if_pos trivial, if_neg (Ne.symm k12), if_neg (Ne.symm k13), if_neg (Ne.symm k14)]
theorem put_turn : putK (drK D dig tn) (Sum.inr "turn") (.int i) = drK D dig i := by
  unfold putK
  rw [valV_any, val_turn]
  show (if true = true then _ else _) = _
  rw [if_pos rfl]
  simp only [List.map_cons, List.map_nil]
  rw [if_neg k14, if_neg k24, if_neg k34, if_pos trivial]
def lim : Nat := 1099511627776
/-- a number below many -/
def spNext : Sp := fun vs H Q _ => ∃ (I : Hp) (D : DA) (n : Nat) (many : Int), vs = [.ref D.d, .int many] ∧ Drw D n I H ∧ 0 < many ∧ many < 1073741824 ∧ n < lim ∧
  ∀ (r : Int) (H' : Hp), 0 ≤ r → r < many → Grow (TD D) I H I H' → Drw D (n + 1) I H' → Q (.int r) H'
theorem DrS.get_dig {gs ls : List Int} {I H : Hp} (s : DrS D dig tn gs ls I H) : DGet H D.d (.str "digits") (some (.int dig)) := by
  have z := DGet.k (k := .inr "digits") s.hd
  rw [val_dig] at z
  exact z
theorem DrS.get_great {gs ls : List Int} {I H : Hp} (s : DrS D dig tn gs ls I H) : DGet H D.d (.str "great") (some (.ref D.g)) := by
  have z := DGet.k (k := .inr "great") s.hd
  rw [val_great] at z
  exact z
theorem DrS.get_lumps {gs ls : List Int} {I H : Hp} (s : DrS D dig tn gs ls I H) : DGet H D.d (.str "lumps") (some (.ref D.l)) := by
  have z := DGet.k (k := .inr "lumps") s.hd
  rw [val_lumps] at z
  exact z
theorem DrS.get_turn {gs ls : List Int} {I H : Hp} (s : DrS D dig tn gs ls I H) : DGet H D.d (.str "turn") (some (.int tn)) := by
  have z := DGet.k (k := .inr "turn") s.hd
  rw [val_turn] at z
  exact z
theorem DrS.put_dig {gs ls : List Int} {I H : Hp} (s : DrS D dig tn gs ls I H) : DPut H D.d (.str "digits") (.int i) (upd H D.d (.dK (drK D i tn))) := by
  have z := DPut.k (k := .inr "digits") (v := .int i) s.hd (by show 4 < sizeLine; decide)
  rw [Nw.put_dig] at z
  exact z
theorem DrS.put_turn {gs ls : List Int} {I H : Hp} (s : DrS D dig tn gs ls I H) : DPut H D.d (.str "turn") (.int i) (upd H D.d (.dK (drK D dig i))) := by
  have z := DPut.k (k := .inr "turn") (v := .int i) s.hd (by show 4 < sizeLine; decide)
  rw [Nw.put_turn] at z
  exact z
end Nw

namespace Nw
open PySem PySem.Spec PyProof.Rows L2
/-- what is said of the heap stands through the making and changing of other things -/
structure Stable (T : Addr → Prop) (R : Hp → Hp → Prop) : Prop where
  grow : ∀ {I H I' H' : Hp}, R I H → Grow No I H I' H' → R I' H'
  put : ∀ {H0 : Hp} {m : Addr} {o o' : HO} {I H : Hp}, R I H → Own T H0 m o I H → R I (upd H m o')
  give : ∀ {H0 : Hp} {m : Addr} {o : HO} {I H : Hp}, R I H → Own T H0 m o I H → R (upd I m o) H
theorem Stable.triv {T : Addr → Prop} : Stable T fun _ _ => True := ⟨fun _ _ => trivial, fun _ _ => trivial, fun _ _ => trivial⟩
theorem Stable.drw {D : DA} {n : Nat} : Stable (TD D) (Drw D n) := ⟨fun w g => w.grow g, fun w x => w.put x, fun w x => w.give x⟩
theorem Paired.snoc {α β : Type} {F : α → β → Prop} : ∀ {xs : List α} {ys : List β} {x : α} {y : β}, Paired F xs ys → F x y → Paired F (xs ++ [x]) (ys ++ [y])
  | _, _, _, _, .nil, h => .cons h .nil
  | _, _, _, _, .cons a t, h => .cons a (Paired.snoc t h)
theorem Paired.at {α β : Type} {F : α → β → Prop} : ∀ {xs : List α} {ys : List β} {i : Nat} {y : β}, Paired F xs ys → ys[i]? = some y → ∃ x, xs[i]? = some x ∧ F x y
  | _, _, _, _, .nil, h => by simp at h
  | _, _, 0, _, .cons a t, h => by simp at h; subst h; exact ⟨_, rfl, a⟩
  | _, _, i + 1, _, .cons a t, h => by
    obtain ⟨x, h1, h2⟩ := Paired.at (i := i) t (by simpa using h)
    exact ⟨x, by simpa using h1, h2⟩
theorem Paired.at' {α β : Type} {F : α → β → Prop} : ∀ {xs : List α} {ys : List β} {i : Nat} {x : α}, Paired F xs ys → xs[i]? = some x → ∃ y, ys[i]? = some y ∧ F x y
  | _, _, _, _, .nil, h => by simp at h
  | _, _, 0, _, .cons a t, h => by simp at h; subst h; exact ⟨_, rfl, a⟩
  | _, _, i + 1, _, .cons a t, h => by
    obtain ⟨x, h1, h2⟩ := Paired.at' (i := i) t (by simpa using h)
    exact ⟨x, by simpa using h1, h2⟩
theorem Paired.len {α β : Type} {F : α → β → Prop} : ∀ {xs : List α} {ys : List β}, Paired F xs ys → xs.length = ys.length
  | _, _, .nil => rfl
  | _, _, .cons a t => congrArg (· + 1) (Paired.len t)
theorem lc_yes {te : TE} {σ : L2.St} {H : Hp} {Ky : VK} {Kn : Hp → Prop} (h : te σ H Ky) : tYes σ H (fun b H3 => if b = true then te σ H3 Ky else Kn H3) := by
  show (if true = true then te σ H Ky else Kn H)
  rw [if_pos rfl]
  exact h
section
variable {β : Type} [Rep β] {J : It} {n : Nat} {G : Hp → Prop} {Y : Nat → Hp → V → Hp → Prop} {T : Addr → Prop} {I H1 : Hp} {L : Addr} {g : TG} {tt : TT} {te : TE} {vs : List Nat} {σ : L2.St} {Qd : Hp → Prop}
/-- a comprehension over anything that is walked -/
theorem lc_gen (w : Walk J n G Y) (R : Nat → Hp → Hp → Prop) (hR : ∀ i, Stable T (R i)) (sub : Same I H1) (hT : ∀ b, T b → H1 b ≠ none) (hL : H1 L = none) (r0 : R 0 I H1) (hn : n ≤ 16777216)
    (hG : ∀ i I' H', Grow T I H1 I' H' → R i I' H' → G H') (P : Nat → Option β → Prop)
    (step : ∀ i x I' H' H'', i < n → Grow T I H1 I' H' → R i I' H' → Y i H' x H'' → ∀ (Kn : Hp → Prop) (Ky : V → Hp → Prop), (P i none → ∀ I2 H2, Grow T I' H' I2 H2 → R (i + 1) I2 H2 → Kn H2) →
      (∀ y, P i (some y) → ∀ v I2 H2, Grow T I' H' I2 H2 → R (i + 1) I2 H2 → Rep.is I2 v y → Ky v H2) →
      g x (wipe σ vs) H'' fun σ2 H2 => wipe σ2 vs = wipe σ vs ∧ tt σ2 H2 fun b H3 => if b = true then te σ2 H3 Ky else Kn H3)
    (done : ∀ (os : List (Option β)) I' H' vs', os.length = n → (∀ i o, os[i]? = some o → P i o) → Grow T I H1 I' H' → R n I' H' → Own T H1 L (.lst vs') I' H' → Paired (Rep.is I') vs' (os.filterMap id) → Qd H') :
    ∃ W : Nat → Nat → Hp → Prop, (∃ m, W 0 m (upd H1 L (.lst []))) ∧ ∀ i m H, W i m H →
      (J.stop i H ∧ Qd H) ∨ (J.go i H ∧ ∃ Nx : Hp → Prop, (∀ H', Nx H' → ∃ m', m' < m ∧ W (i + 1) m' H') ∧ ∀ x H', J.yld i H x H' → g x (wipe σ vs) H' fun σ2 H2 => wipe σ2 vs = wipe σ vs ∧ tt σ2 H2 fun b H3 =>
        if b = true then te σ2 H3 fun y H4 => ∃ acc, H4 L = some (.lst acc) ∧ acc.length < sizeLine ∧ Nx (upd H4 L (.lst (acc ++ [y]))) else Nx H3) := by
  refine lc_it w (fun i H => i ≤ n ∧ ∃ I' acc, ∃ os : List (Option β), Grow T I H1 I' H ∧ R i I' H ∧ Own T H1 L (.lst acc) I' H ∧ os.length = i ∧ acc.length ≤ i ∧ (∀ j o, os[j]? = some o → P j o) ∧ Paired (Rep.is I') acc (os.filterMap id))
    ⟨Nat.zero_le _, I, [], [], Grow.mine sub hL, (hR 0).grow r0 (Grow.mine sub hL), Own.new sub (.inl (Same.refl H1)) hT hL, rfl, Nat.le_refl _, fun j o e => by simp at e, .nil⟩ (fun i H _ ⟨_, I', _, _, g1, r1, _⟩ => hG i I' H g1 r1) ?_ ?_
  · rintro i x H H' hi ⟨_, I', acc, os, g1, r1, ow, hl, ha, hP, hp⟩ y
    have hz : acc.length < sizeLine := by rw [sizeLine_eq]; omega
    refine step i x I' H H' hi g1 r1 y (fun H3 => i + 1 ≤ n ∧ ∃ I' acc, ∃ os : List (Option β), Grow T I H1 I' H3 ∧ R (i + 1) I' H3 ∧ Own T H1 L (.lst acc) I' H3 ∧ os.length = i + 1 ∧ acc.length ≤ i + 1 ∧ (∀ j o, os[j]? = some o → P j o) ∧ Paired (Rep.is I') acc (os.filterMap id)) _ (fun h0 I2 H2 g2 r2 => ?_) (fun z hz2 v I2 H2 g2 r2 hv => ?_)
    · refine ⟨hi, I2, acc, os ++ [none], g1.trans g2, r2, ow.grow g2, by simp [hl], by omega, fun j o e => ?_, ?_⟩
      · rw [List.getElem?_append] at e
        split at e
        · exact hP j o e
        · rename_i hj
          cases q : j - os.length with
          | zero =>
            rw [q] at e
            simp at e; subst e
            have : j = i := by omega
            rw [this]; exact h0
          | succ k => rw [q] at e; simp at e
      · rw [List.filterMap_append]
        simp only [List.filterMap_cons, List.filterMap_nil, id, List.append_nil]
        exact Paired.mono' (fun _ _ z => Rep.mono g2.view z) hp
    · have ow2 := ow.grow g2
      refine ⟨acc, ow2.at_, hz, hi, I2, acc ++ [v], os ++ [some z], (g1.trans g2).put ow2, (hR _).put r2 ow2, ow2.put, by simp [hl], by simp; omega, fun j o e => ?_, ?_⟩
      · rw [List.getElem?_append] at e
        split at e
        · exact hP j o e
        · rename_i hj
          cases q : j - os.length with
          | zero =>
            rw [q] at e
            simp at e; subst e
            have : j = i := by omega
            rw [this]; exact hz2
          | succ k => rw [q] at e; simp at e
      · rw [List.filterMap_append]
        exact Paired.snoc (Paired.mono' (fun _ _ z => Rep.mono g2.view z) hp) hv
  · rintro H ⟨_, I', acc, os, g1, r1, ow, hl, ha, hP, hp⟩
    exact done os I' H acc hl hP g1 r1 ow hp
end
theorem os_eq {α β : Type} {f : α → β} : ∀ {xs : List α} {os : List β}, os.length = xs.length → (∀ (i : Nat) (o : β), os[i]? = some o → ∃ x, xs[i]? = some x ∧ o = f x) → os = xs.map f
  | [], [], _, _ => rfl
  | [], _ :: _, h, _ => by simp at h
  | _ :: _, [], h, _ => by simp at h
  | x :: xs, o :: os, h, hP => by
    obtain ⟨z, h1, h2⟩ := hP 0 o rfl
    simp at h1
    subst h1
    rw [List.map_cons, h2, os_eq (f := f) (xs := xs) (os := os) (by simpa using h) fun i o' e => hP (i + 1) o' (by simpa using e)]
theorem fm_id {α β : Type} {f : α → Option β} (xs : List α) : (xs.map f).filterMap id = xs.filterMap f := by
  rw [List.filterMap_map]
  rfl
theorem Paired.ints {I : Hp} : ∀ {vs : List V} {ns : List Int}, Paired (Rep.is I) vs ns → vs = ns.map V.int
  | _, _, .nil => rfl
  | _, _, .cons h t => by
    have e : _ = V.int _ := h
    rw [List.map_cons, e, Paired.ints t]
theorem Paired.bls {I : Hp} : ∀ {vs : List V} {ns : List Bool}, Paired (Rep.is I) vs ns → vs = ns.map V.bl
  | _, _, .nil => rfl
  | _, _, .cons h t => by
    have e : _ = V.bl _ := h
    rw [List.map_cons, e, Paired.bls t]
theorem Paired.strs {I : Hp} : ∀ {vs : List V} {ns : List Str}, Paired (Rep.is I) vs ns → vs = ns.map V.str
  | _, _, .nil => rfl
  | _, _, .cons h t => by
    have e : _ = V.str _ := h
    rw [List.map_cons, e, Paired.strs t]
section
variable {α β : Type} [Rep β] {J : It} {n : Nat} {G : Hp → Prop} {Y : Nat → Hp → V → Hp → Prop} {I H1 : Hp} {L : Addr} {g : TG} {tt : TT} {te : TE} {vs : List Nat} {σ : L2.St} {Qd : Hp → Prop}
/-- a comprehension that only makes: its list is xs.filterMap f -/
theorem lc_pure (w : Walk J n G Y) (xs : List α) (f : α → Option β) (hx : xs.length = n) (sub : Same I H1) (hL : H1 L = none) (hn : n ≤ 16777216) (hG : ∀ I' H', Grow No I H1 I' H' → G H')
    (step : ∀ i x v I' H' H'', xs[i]? = some x → Grow No I H1 I' H' → Y i H' v H'' → ∀ (Kn : Hp → Prop) (Ky : V → Hp → Prop), (f x = none → ∀ I2 H2, Grow No I' H' I2 H2 → Kn H2) →
      (∀ y, f x = some y → ∀ v I2 H2, Grow No I' H' I2 H2 → Rep.is I2 v y → Ky v H2) →
      g v (wipe σ vs) H'' fun σ2 H2 => wipe σ2 vs = wipe σ vs ∧ tt σ2 H2 fun b H3 => if b = true then te σ2 H3 Ky else Kn H3)
    (done : ∀ I' H' vs', Grow No I H1 I' H' → Own No H1 L (.lst vs') I' H' → Paired (Rep.is I') vs' (xs.filterMap f) → Qd H') :
    ∃ W : Nat → Nat → Hp → Prop, (∃ m, W 0 m (upd H1 L (.lst []))) ∧ ∀ i m H, W i m H →
      (J.stop i H ∧ Qd H) ∨ (J.go i H ∧ ∃ Nx : Hp → Prop, (∀ H', Nx H' → ∃ m', m' < m ∧ W (i + 1) m' H') ∧ ∀ x H', J.yld i H x H' → g x (wipe σ vs) H' fun σ2 H2 => wipe σ2 vs = wipe σ vs ∧ tt σ2 H2 fun b H3 =>
        if b = true then te σ2 H3 fun y H4 => ∃ acc, H4 L = some (.lst acc) ∧ acc.length < sizeLine ∧ Nx (upd H4 L (.lst (acc ++ [y]))) else Nx H3) := by
  refine lc_gen (T := No) w (fun _ _ _ => True) (fun _ => Stable.triv) sub (fun _ z => z.elim) hL trivial hn (fun _ I' H' g _ => hG I' H' g) (fun i o => ∃ x, xs[i]? = some x ∧ o = f x) ?_ ?_
  · intro i v I' H' H'' hi g1 _ y Kn Ky kn ky
    have hi' : i < xs.length := by omega
    have hx' : xs[i]? = some xs[i] := List.getElem?_eq_getElem hi'
    exact step i _ v I' H' H'' hx' g1 y Kn Ky (fun e I2 H2 g2 => kn ⟨_, hx', e.symm⟩ I2 H2 g2 trivial) fun z e v I2 H2 g2 r => ky z ⟨_, hx', e.symm⟩ v I2 H2 g2 trivial r
  · intro os I' H' vs' hl hP g1 _ ow hp
    have e : os.filterMap id = xs.filterMap f := by
      rw [os_eq (f := f) (by omega) hP, fm_id]
    rw [e] at hp
    exact done I' H' vs' g1 ow hp
end
theorem sum_ones {α : Type} : ∀ l : List α, (l.map (fun _ => 1)).sum = l.length
  | [] => rfl
  | x :: r => by
    rw [List.map_cons, List.sum_cons, sum_ones r, List.length_cons]
    omega
theorem fm_some {α β : Type} {f : α → β} (xs : List α) : xs.filterMap (fun x => some (f x)) = xs.map f := by
  induction xs with
  | nil => rfl
  | cons x r ih => rw [List.filterMap_cons, List.map_cons, ih]
theorem take_fold {α β : Type} {f : β → α → β} {b : β} {l : List α} {i : Nat} {x : α} (h : l[i]? = some x) : (l.take (i + 1)).foldl f b = f ((l.take i).foldl f b) x := by
  rw [List.take_add_one, h, List.foldl_append]
  rfl
theorem mem_take {α : Type} {l : List α} {i : Nat} {r : α} (h : l[i]? = some r) {x : α} : x ∈ l.take (i + 1) ↔ x ∈ l.take i ∨ x = r := by
  rw [List.take_add_one, h, List.mem_append]
  simp
end Nw

namespace Nw
open PySem PySem.Spec PyProof.Rows L2
/-! ### texts as lists of signs -/
def mk (l : List Nat) : Str := ⟨l.toArray⟩
abbrev sg (c : Nat) : Str := ⟨#[c]⟩
theorem mk_sg (c : Nat) : mk [c] = sg c := rfl
theorem mk_list (s : Str) : mk s.cps.toList = s := rfl
theorem mk_app (a b : List Nat) : mk a ++ mk b = mk (a ++ b) := by
  show (⟨a.toArray ++ b.toArray⟩ : Str) = ⟨(a ++ b).toArray⟩
  simp
theorem mk_inj {a b : List Nat} (h : mk a = mk b) : a = b := by
  have z := congrArg (fun s : Str => s.cps.toList) h
  simpa [mk] using z
theorem mk_len (a : List Nat) : (mk a).length = a.length := by simp [mk, Str.length]
theorem mk_cps (a : List Nat) : (mk a).cps.toList = a := by simp [mk]
theorem mk_nil : mk [] = ("" : Str) := rfl
theorem join_signs : ∀ cs : List Nat, Txt.join ("" : Str) (cs.map sg) = mk cs := by
  intro cs
  unfold Txt.join
  rw [StrLaws.glued_eq_join]
  induction cs with
  | nil => rfl
  | cons c r ih =>
    cases r with
    | nil => rfl
    | cons d t =>
      show sg c ++ ("" : Str) ++ Str.join ("" : Str) ((d :: t).map sg) = mk (c :: d :: t)
      rw [ih]
      rw [← mk_nil, ← mk_sg, mk_app, mk_app] <;> rfl
theorem upper_sg {c : Nat} (h : c < 128) : Txt.upper (sg c) = sg (up1 c) := by
  rw [upper_ascii (by intro d hd; simp at hd; omega)]
  simp [sg]
theorem lower_sg {c : Nat} (h : c < 128) : Txt.lower (sg c) = sg (lo1 c) := by
  rw [lower_ascii (by intro d hd; simp at hd; omega)]
  simp [sg]
theorem upper_mk {l : List Nat} (h : ∀ c ∈ l, c < 128) : Txt.upper (mk l) = mk (l.map up1) := by
  rw [upper_ascii (by rw [mk_cps]; exact h)]
  simp [mk]
/-! ### z[::-1] -/
def tRevS (te : TE) : TE := fun σ H Q => te σ H fun x H1 => ∃ l : List Nat, x = .str (mk l) ∧ l.length ≤ 16777216 ∧ Q (.str (mk l.reverse)) H1
theorem rev_pick (z : Str) : (Builtin.Str.strSliceIndices none none (-1) z.length).filterMap (z.cps[·]?) = z.cps.toList.reverse := by
  have e : Builtin.Str.strSliceIndices none none (-1) z.length = (List.range z.cps.size).reverse := by
    unfold Builtin.Str.strSliceIndices
    show sliceRange ((z.cps.size : Int) - 1) (-1) (-1) = _
    rw [PySem.W.krv_sliceRange, PySem.W.krv_range]
  rw [e, List.filterMap_reverse, PySem.W.krv_all]
theorem pe_revS {X : Cx} {e : Expr} {te : TE} {k : Nat} {p1 p2 p3 pos : Pos} (he : PE X e te) : PE X (.Subscript e (.Slice none none (some (.UnaryOp .USub (.Constant (.int 1) k p1) p2)) p3) pos) (tRevS te) := by
  refine ⟨fun pins s σ H Q I h => Subscript_ (wpAny_mono (he.run pins s σ H _ I h) (fun v s1 hv => ?_) fun _ _ z => z)⟩
  obtain ⟨x, H1, I1, r1, l, ex, hz, q⟩ := hv
  subst ex
  obtain ⟨t, rfl⟩ := r1
  have hst : PO X (some (.UnaryOp .USub (.Constant (.int 1) k p1) p2)) (tPart (tUn (rU fun i => .int (-i)) (tC (.int 1)))) := po_some (pe_un un_neg pe_int)
  refine wpAny_Slice (wpAny_mono (po_none.run pins s1 σ H1 (fun o H2 => o = none ∧ H2 = H1) I1 ⟨rfl, rfl⟩) (fun vl s2 h2 => ?_) fun _ _ z => z)
  obtain ⟨lo, H2, I2, pl, el, e2⟩ := h2
  subst el e2
  refine wpAny_mono (po_none.run pins s2 σ H2 (fun o H3 => o = none ∧ H3 = H2) I2 ⟨rfl, rfl⟩) (fun vu s3 h3 => ?_) fun _ _ z => z
  obtain ⟨hi, H3, I3, pu, eu, e3⟩ := h3
  subst eu e3
  refine wpAny_mono (hst.run pins s3 σ H3 (fun o H4 => o = some (-1) ∧ H4 = H3) I3 ⟨1, rfl, -1, rfl, rfl, rfl⟩) (fun vs s4 h4 => ?_) fun _ _ z => z
  obtain ⟨o, H4, I4, ps, eo, e4⟩ := h4
  subst eo e4
  obtain ⟨l1, rfl, e1⟩ := IsPart.raw pl
  obtain ⟨u1, rfl, e2⟩ := IsPart.raw pu
  obtain ⟨t1, rfl, e3⟩ := IsPart.raw ps
  have I5 : Inv X pins σ H4 { s4 with heap := s4.heap.push { cls := .type "slice", data := .fields #[partValue l1, partValue u1, partValue t1] } } := I4.kept (t' := s4.toks) fun b ob q => Heap.get?_push_of_some _ q
  refine tail_any (ops := [.ref s4.heap.objs.size, .str (mk l) t]) (typeIs_str _ _ _) PySem.F.slot_str_getitem.lookup ?_ (by with_unfolding_all rfl)
  refine wpAny_getItem_str_slice (l := l1) (u := u1) (st := t1) ⟨_, Heap.get?_push_size _ rfl, rfl, rfl⟩ (by rw [e3]; rfl) ?_
  unfold sliceMade slicePicked
  rw [e3, e1, e2]
  rw [if_neg (by intro z; exact Bool.noConfusion z)]
  show Made.post (Made.str ⟨((Builtin.Str.strSliceIndices none none (-1) (mk l).length).filterMap ((mk l).cps[·]?)).toArray⟩) (EP X pins σ Q) _
  rw [rev_pick, mk_cps]
  refine ⟨?_, .str (mk l.reverse), H4, I5.tok _, ⟨_, rfl⟩, q⟩
  show (mk l.reverse).length ≤ sizeLine
  rw [mk_len, List.length_reverse, sizeLine_eq]
  exact hz
end Nw

namespace Nw
open PySem PySem.Spec PyProof.Rows L2
theorem atI_rev {α : Type} (st : List α) (j : Nat) (i : Int) (hi : i = -(j : Int) - 1) : atI st.reverse i = st[j]? := by
  subst hi
  unfold atI ixN
  rw [if_neg (by omega), List.length_reverse]
  by_cases h : j < st.length
  · rw [if_pos (by omega)]
    have e : (-(j : Int) - 1 + (st.length : Int)).toNat = st.length - 1 - j := by omega
    rw [e]
    show st.reverse[st.length - 1 - j]? = st[j]?
    rw [List.getElem?_reverse (by omega)]
    congr 1
    omega
  · rw [if_neg (by omega), List.getElem?_eq_none (by omega)]
    rfl
theorem atI_nat' {α : Type} {xs : List α} {j : Nat} {i : Int} (hi : i = (j : Int)) : atI xs i = xs[j]? := by
  subst hi
  unfold atI ixN
  rw [if_pos (by omega)]
  by_cases h : j < xs.length
  · rw [if_pos (by omega)]
    rfl
  · rw [if_neg (by omega), List.getElem?_eq_none (by omega)]
    rfl
theorem cut_rev2 (st : List V) (h : 2 ≤ st.length) : cutV st.reverse none (some (-2)) = (st.drop 2).reverse := by
  unfold cutV
  have e1 : HT.sIx st.reverse.length st.reverse.length (some (-2)) = ((-2 : Int) + (st.reverse.length : Int)).toNat := by
    show (if (-2 : Int) < 0 then ((-2 : Int) + (st.reverse.length : Int)).toNat else min (-2 : Int).toNat st.reverse.length) = _
    rw [if_pos (by decide)]
  have e2 : HT.sIx st.reverse.length 0 none = 0 := rfl
  rw [e1, e2, List.drop_zero, List.length_reverse, Nat.sub_zero]
  have e : ((-2 : Int) + (st.length : Int)).toNat = st.length - 2 := by omega
  rw [e, List.take_reverse]
  congr 1
  congr 1
  omega
/-- a dict comprehension over anything that is walked -/
theorem dc_it {J : It} {n : Nat} {G : Hp → Prop} {Y : Nat → Hp → V → Hp → Prop} (w : Walk J n G Y) {g : TG} {tt : TT} {tk tv : TE} {vs : List Nat} {σ : L2.St} {H1 : Hp} {D : Addr} {Qd : Hp → Prop} (Pv : Nat → Hp → Prop) (h0 : Pv 0 (upd H1 D (.dK []))) (hG : ∀ i H, i ≤ n → Pv i H → G H)
    (hs : ∀ i x H H', i < n → Pv i H → Y i H x H' → g x (wipe σ vs) H' fun σ2 H2 => wipe σ2 vs = wipe σ vs ∧ tt σ2 H2 fun b H3 =>
      if b = true then tk σ2 H3 fun y H4 => tv σ2 H4 fun z H5 => ∃ kvs k, y = kV k ∧ H5 D = some (.dK kvs) ∧ kvs.length < sizeLine ∧ Pv (i + 1) (upd H5 D (.dK (putK kvs k z))) else Pv (i + 1) H3) (hd : ∀ H, Pv n H → Qd H) :
    ∃ W : Nat → Nat → Hp → Prop, (∃ m, W 0 m (upd H1 D (.dK []))) ∧ ∀ i m H, W i m H →
      (J.stop i H ∧ Qd H) ∨ (J.go i H ∧ ∃ Nx : Hp → Prop, (∀ H', Nx H' → ∃ m', m' < m ∧ W (i + 1) m' H') ∧ ∀ x H', J.yld i H x H' → g x (wipe σ vs) H' fun σ2 H2 => wipe σ2 vs = wipe σ vs ∧ tt σ2 H2 fun b H3 =>
        if b = true then tk σ2 H3 fun y H4 => tv σ2 H4 fun z H5 => ∃ kvs k, y = kV k ∧ H5 D = some (.dK kvs) ∧ kvs.length < sizeLine ∧ Nx (upd H5 D (.dK (putK kvs k z))) else Nx H3) := by
  refine ⟨fun i m H => m = n - i ∧ i ≤ n ∧ Pv i H, ⟨n, (Nat.sub_zero n).symm, Nat.zero_le n, h0⟩, ?_⟩
  rintro i m H ⟨em, hi, p⟩
  have q := hG i H hi p
  rcases Nat.lt_or_ge i n with hlt | hge
  · refine .inr ⟨w.goes i H hlt q, Pv (i + 1), fun H' p' => ⟨n - (i + 1), by omega, rfl, hlt, p'⟩, fun x H' y => ?_⟩
    exact hs i x H H' hlt p (w.yields i H x H' hlt q y)
  · have e : i = n := by omega
    subst e
    exact .inl ⟨w.stops H q, hd H p⟩
/-- d == {} -/
def rDNilE : R2 := fun x y H Q => ∃ a b ks, x = .ref a ∧ y = .ref b ∧ H a = some (.dK ks) ∧ H b = some (.dK []) ∧ Q (.bl ks.isEmpty) H
theorem op_eqDNil {X : Cx} (hu : X.A.units + 64 < cLine) : OpR X (compareOp .Eq) rDNilE := by
  intro pins s σ H x y v u Q I rx ry h
  obtain ⟨a, b, ks, rfl, rfl, ea, eb, q⟩ := h
  obtain rfl : v = Value.ref a := rx
  obtain rfl : u = Value.ref b := ry
  obtain ⟨_, ya, va, ra, da⟩ := (show ObjOk X.prog X.w H s.heap a (.dK ks) from I.hok a _ ea)
  obtain ⟨_, yb, vb, rb, db⟩ := (show ObjOk X.prog X.w H s.heap b (.dK []) from I.hok b _ eb)
  cases rb
  have hu' : X.A.units < cLine := Nat.lt_of_le_of_lt (Nat.le_add_right _ _) hu
  refine PySem.W.keq_eq (knd := mixKind X.prog X.w) (r := true) ya yb da db hu' (fun e => ?_) (fin_bl I q ?_)
  · cases ra with
    | nil => exact .nil
    | cons p t => cases e
  · cases ra with
    | nil => rfl
    | cons p t => rfl
end Nw

namespace Nw
open PySem PySem.Spec PyProof.Rows L2
variable {X : Cx}
theorem pe_gref {x : Str} {pos : Pos} {f : Addr} (h : X.mg x = some (.ref f)) (hg : Gl X x := by rfl) (hd : (x == ("__debug__" : Str)) = false := by decide) : PE X (.Name x pos) (tC (.ref f)) := pe_glob hg h rfl hd
/-! the rules that name the written part, for a comprehension's block -/
section
variable {K : PySem.W.Frag} (h : X.K = K)
include h
theorem call_isiK : CallR X (.builtin "isinstance") (rIsi K) := h ▸ call_isi
theorem ix_listK : IxR X (rIxL K) := h ▸ ix_list
theorem ix_tupK : IxR X (rIxT K) := h ▸ ix_tup
theorem op_in_seqK : OpR X (compareOp .In) (rIn K false) := h ▸ op_in_seq
theorem op_notIn_seqK : OpR X (compareOp .NotIn) (rIn K true) := h ▸ op_notIn_seq
theorem cr_allK (hc : X.calm = true) : CallR X (.builtin "all") (rAll K) := h ▸ cr_all hc
theorem cr_anyK (hc : X.calm = true) : CallR X (.builtin "any") (rAny K) := h ▸ cr_any hc
theorem call_len_seqK : CallR X (.builtin "len") (fun xs H Q => ∃ p ys, xs = [.ref p] ∧ (SqL K H p ys ∨ SqT K H p ys) ∧ Q (.int ys.length) H) := h ▸ call_len_seq
theorem pe_fldK {e : Expr} {f : Str} {pos : Pos} {ta : TE} (he : PE X e ta) (hb : attributeBase e f X.env (eval e X.env) = eval e X.env) : PE X (.Attribute e f pos) (tFld K ta f) := h ▸ pe_fld he hb
end
/-- list(text): its signs -/
theorem call_list_sg (hc : X.calm = true) : CallR X (.type "list") (fun xs H Q => ∃ l : List Nat, xs = [.str (mk l)] ∧ l.length ≤ 16777216 ∧ ∀ p, H p = none → Q (.ref p) (upd H p (.lst (l.map fun c => V.str (sg c))))) := by
  intro pins s σ H xs us Q I r h
  obtain ⟨l, rfl, hz, q⟩ := h
  obtain ⟨u, rfl, t, rfl⟩ := vals1 r
  have hsz : (mk l).cps.size = l.length := by simp [mk]
  refine PySem.call_list_str (I.ok.hd hc) (mk l) t (fun h' tk acc' c' hkeep hS hacc => ?_) (by rw [hsz, sizeLine_eq]; exact hz)
  refine ⟨.ref s.heap.objs.size, upd H s.heap.objs.size (.lst (l.map fun c => V.str (sg c))), I.laid hkeep (Nat.le_refl _) ⟨?_, acc'.toList, c', ?_, ?_⟩, rfl, q _ (I.hok.fresh (Nat.le_refl _))⟩
  · rw [List.length_map, sizeLine_eq]; exact hz
  · have h0 : acc'.size = l.length := hacc.1.trans hsz
    refine vals_of_at (by rw [List.length_map]; exact h0.symm.trans (Array.length_toList (xs := acc')).symm) fun j x w h1 h2 => ?_
    have h3 := hacc.2 j w (by rw [← Array.getElem?_toList]; exact h2)
    obtain ⟨c, t', e1, rfl⟩ := h3
    have e2 : l[j]? = some c := by simpa [mk] using e1
    have e3 : x = .str (sg c) := by
      have z : (l.map fun c => V.str (sg c))[j]? = some (.str (sg c)) := by rw [List.getElem?_map, e2]; rfl
      rw [z] at h1
      cases h1
      rfl
    rw [e3]
    exact ⟨t', rfl⟩
  · simpa using hS
end Nw

namespace Nw
open PySem PySem.Spec PyProof.Rows L2
/-! ### an object that is made, then given out -/
section
variable {D : DA} {n : Nat} {T T' : Addr → Prop} {I H I' H' I0 H0 I3 H3 : Hp} {x dx : Addr} {o o1 o2 : HO}
theorem DrS.growT {dig tn : Int} {gs ls : List Int} (s : DrS D dig tn gs ls I H) (g : Grow T I H I' H') (h : ∀ b, TD D b → ¬ T b) : DrS D dig tn gs ls I' H' :=
  ⟨g.sub, g.fresh _ s.vd (s.live _ (.inl rfl)), g.fresh _ s.vg (s.live _ (.inr (.inl rfl))), g.fresh _ s.vl (s.live _ (.inr (.inr rfl))), s.dg, s.dl, s.gl, g.keep _ _ (h _ (.inl rfl)) s.hd, g.keep _ _ (h _ (.inr (.inl rfl))) s.hg, g.keep _ _ (h _ (.inr (.inr rfl))) s.hl⟩
theorem Drw.growT (w : Drw D n I H) (g : Grow T I H I' H') (h : ∀ b, TD D b → ¬ T b) : Drw D n I' H' := let ⟨a, b, c, d, s, r⟩ := w.ex; ⟨a, b, c, d, s.growT g h, r⟩
theorem Drw.view (w : Drw D n I H) (nt : ¬ TD D x) (h : H x = some o) : Drw D n (upd I x o) H := by
  obtain ⟨a, b, c, d, s, r⟩ := w.ex
  refine ⟨a, b, c, d, ⟨fun q u e => ?_, ?_, ?_, ?_, s.dg, s.dl, s.gl, s.hd, s.hg, s.hl⟩, r⟩
  · by_cases z : q = x
    · subst z; rw [upd_same] at e; rw [h]; exact e
    · rw [upd_ne z] at e; exact s.sub q u e
  · rw [upd_ne fun z => nt (.inl z.symm)]; exact s.vd
  · rw [upd_ne fun z => nt (.inr (.inl z.symm))]; exact s.vg
  · rw [upd_ne fun z => nt (.inr (.inr z.symm))]; exact s.vl
theorem Drw.chg (w : Drw D n I H) (nt : ¬ TD D x) (ni : I x = none) : Drw D n I (upd H x o) := let ⟨a, b, c, d, s, r⟩ := w.ex; ⟨a, b, c, d, s.put nt ni, r⟩
theorem Drw.mine (w : Drw D n I H) (h : H x = none) : Drw D n I (upd H x o) := w.grow (Grow.mine w.sub h)
theorem Drw.not (w : Drw D n I H) (h : H x = none) : ¬ TD D x := fun t => w.live x t h
theorem grow_made (sb : Same I H) (hx : H x = none) (hdx : H dx = none) (ne : dx ≠ x) : Grow T I H I (upd (upd H dx o1) x o2) :=
  (Grow.mine sb hdx).trans (Grow.mine (Grow.mine (T := T) (o := o1) sb hdx).sub (by rw [upd_ne ne.symm]; exact hx))
theorem live_none {T : Addr → Prop} (g : Grow T I0 H0 I H) (h : H x = none) : H0 x = none := by
  cases e : H0 x with
  | none => rfl
  | some u => exact absurd h (g.live x (by rw [e]; exact fun z => nomatch z))
/-- what C(..) does, seen from H0 -/
theorem Grow.make (g : Grow T I0 H0 I H) (hx : H x = none) (hdx : H dx = none) (ne : dx ≠ x) (g3 : Grow T' I (upd (upd H dx o1) x o2) I3 H3) (hT : ∀ b, T' b → T b ∨ H0 b = none) (h : H3 x = some o) (nt : NTb o := by intro _ z; cases z) : Grow T I0 H0 (upd I3 x o) H3 ∧ I3 x = none := by
  have gm : Grow T I0 H0 I (upd (upd H dx o1) x o2) := g.trans (grow_made g.sub hx hdx ne)
  have gd := gm.drop g3 hT
  have n3 : I3 x = none := g3.fresh x (g.sub.free hx) (by rw [upd_same]; exact fun z => nomatch z)
  exact ⟨gd.give' (live_none g hx) n3 h nt, n3⟩
theorem Drw.make (w : Drw D n I H) (hx : H x = none) (hdx : H dx = none) (ne : dx ≠ x) (g3 : Grow T' I (upd (upd H dx o1) x o2) I3 H3) (hT : ∀ b, TD D b → ¬ T' b) (h : H3 x = some o) : Drw D n (upd I3 x o) H3 :=
  (((w.mine hdx).mine (by rw [upd_ne ne.symm]; exact hx)).growT g3 hT).view (w.not hx) h
end
/-- a def that is asked by its own data -/
theorem okd_of {P : Program} {w : World} {K : PySem.W.Frag} {mg : Str → Option Value} {base : Heap} {k : Nat} {f : Addr} {fd : FuncData} {ps : List Str} {sp : Sp} {x qual : Str} {st : Stmt} {N : List Str}
    (F : FunD K x qual (defArgs st) (defBody st) (defScope st) [] [] f fd) (S : FnScope N ps (defScope st)) (len : ∀ vs H Q E, sp vs H Q E → vs.length = ps.length)
    (hbody : ∀ (cdv : Value) (A : Around) (outer : List Env) (s : Shared) (H : Hp) (vs : List V) (Q : VK) (E : XK), Room k (A.deeper (envOfC qual (defScope st) s.heap.objs.size f cdv)) → sp vs H Q E →
      ∃ t, PSs (cxOf CX0 P w K mg base N qual (defScope st) f cdv A outer s H E).nox (defBody st) t ∧ t { nx := fun _ H' => Q .non H', rt := Q } (start N vs) H) : FnOk P w K mg base CX0 (k + 1) f fd ps sp :=
  F.ok S len fun cdv A outer s H vs Q E hr h => by
    obtain ⟨t, h1, h2⟩ := hbody cdv A outer s H vs Q E hr h
    exact ⟨t, h1.nox, h2⟩
end Nw

namespace Nw
open PySem PySem.Spec PyProof.Rows L2
/-! ### operators that a class of the text has itself -/
section
variable {X : Cx} {k : Nat} {f C : Addr} {fd : FuncData} {ps : List Str} {sp : Sp}
/-- two instances of one class -/
def rOwn (C : Addr) (sp : Sp) : R2 := fun x y H Q => ∃ a b dx dy fs gs, x = .ref a ∧ y = .ref b ∧ H a = some (.ins C dx fs) ∧ H b = some (.ins C dy gs) ∧ sp [.ref a, .ref b] H (fun v H' => ∃ p, v = .ref p ∧ Q v H') E0
theorem op_own {op : Operator} {nm : Str} (M : Meth X.K C nm f) (he : PySem.dunder op.info.2 = nm) (hc : PySem.W.selfFirst X.K C = true) (F : FnOk X.prog X.w X.K X.mg X.base CX0 k f fd ps sp) (hr : Room k X.A) (hb : Binds X.K fd ps []) : OpR X (binaryOp op) (rOwn C sp) := by
  intro pins s σ H x y v u Q I rx ry h
  obtain ⟨a, b, dx, dy, fs, gs, rfl, rfl, ha, hb', q⟩ := h
  cases rx
  cases ry
  obtain ⟨mA, J, _⟩ := ins_get I.hok ha
  obtain ⟨mB, J', _⟩ := ins_get I.hok hb'
  obtain ⟨od, J, _⟩ := J.look
  obtain ⟨od', J', _⟩ := J'.look
  obtain ⟨m, hF⟩ := I.fr
  refine PySem.W.binop_K hF I.ok.mod.kin J J'.type hc (by rw [he]; exact M.at_) M.fn ?_
  have r2 : Vals [V.ref a, V.ref b] [Value.ref a, Value.ref b] := .cons rfl (.cons rfl .nil)
  refine wpAny_mono (run_fn (dvs := []) (ds := []) (E := E0) F hr hb .nil pass0 I r2 q) (fun v s' hq => ?_) fun _ _ e => e
  obtain ⟨z, H', I', rz, p, rfl, q⟩ := hq
  cases rz
  exact ⟨.ref p, _, I', rfl, q⟩
def rOwn1 (C : Addr) (sp : Sp) : V → Hp → VK → Prop := fun x H Q => ∃ a dx fs, x = .ref a ∧ H a = some (.ins C dx fs) ∧ sp [.ref a] H Q E0
theorem un_own_inv (M : Meth X.K C "__invert__" f) (F : FnOk X.prog X.w X.K X.mg X.base CX0 k f fd ps sp) (hr : Room k X.A) (hb : Binds X.K fd ps []) : UnR X (unaryOp .Invert) (rOwn1 C sp) := by
  intro pins s σ H x v Q I rx h
  obtain ⟨a, dx, fs, rfl, ha, q⟩ := h
  cases rx
  obtain ⟨mA, J, _⟩ := ins_get I.hok ha
  obtain ⟨od, J, _⟩ := J.look
  obtain ⟨m, hF⟩ := I.fr
  refine PySem.W.ksp_inv hF I.ok.mod.kin J M.at_ M.fn ?_
  have r2 : Vals [V.ref a] [Value.ref a] := .cons rfl .nil
  exact run_fn (dvs := []) (ds := []) (E := E0) F hr hb .nil pass0 I r2 q
/-- a comparison that the class has itself: a truth -/
theorem op_own_le (M : Meth X.K C "__le__" f) (F : FnOk X.prog X.w X.K X.mg X.base CX0 k f fd ps sp) (hr : Room k X.A) (hb : Binds X.K fd ps []) :
    OpR X (compareOp .LtE) (fun x y H Q => ∃ a b dx dy fs gs, x = .ref a ∧ y = .ref b ∧ H a = some (.ins C dx fs) ∧ H b = some (.ins C dy gs) ∧ sp [.ref a, .ref b] H (fun v H' => ∃ t, v = .bl t ∧ Q v H') E0) := by
  intro pins s σ H x y v u Q I rx ry h
  obtain ⟨a, b, dx, dy, fs, gs, rfl, rfl, ha, hb', q⟩ := h
  cases rx
  cases ry
  obtain ⟨mA, J, _⟩ := ins_get I.hok ha
  obtain ⟨mB, J', _⟩ := ins_get I.hok hb'
  obtain ⟨od, J, _⟩ := J.look
  obtain ⟨od', J', _⟩ := J'.look
  obtain ⟨m, hF⟩ := I.fr
  show wpAny (model X.prog X.w) X.A (richCompare .LtE (.ref a) (.ref b)) (EP X pins σ Q) X.xe s
  refine PySem.W.cmp_K (op := .LtE) (tb := .ref C) hr.units0 hF I.ok.mod.kin J J'.type (by simp [PySem.W.notFirst]) M.at_ M.fn ?_
  have r2 : Vals [V.ref a, V.ref b] [Value.ref a, Value.ref b] := .cons rfl (.cons rfl .nil)
  refine wpAny_mono (run_fn (dvs := []) (ds := []) (E := E0) F hr hb .nil pass0 I r2 q) (fun v s' hq => ?_) fun _ _ e => e
  obtain ⟨z, H', I', rz, p, rfl, q⟩ := hq
  cases rz
  exact ⟨.bl p, _, I', rfl, q⟩
end
end Nw

namespace Nw
open PySem PySem.Spec PyProof.Rows L2
open AutoSeq1 (wpAny_loadPart')
/-! ### enumerate(tuple) -/
theorem meets_enumT (l : Addr) (items : Array Value) (n : Nat) (dct : Option Addr) (sl : Array (Option Value)) :
    Meets (Builtin.«enumerate.__new__» ⟨[.type "enumerate", .ref l], []⟩) (fun _ R s => s.heap.get? l = some { cls := .type "tuple", dict := dct, data := .seq items n, slots := sl } ∧
      R (.ok (.ret (.ref (s.heap.push { cls := .type "tuple_iterator", data := .fields #[.ref l, .int 0 0] }).objs.size)))
        { s with heap := (s.heap.push { cls := .type "tuple_iterator", data := .fields #[.ref l, .int 0 0] }).push { cls := .type "enumerate", data := .fields #[.none, .bool false, .ref s.heap.objs.size, rawInt 0, .none, .none] } }) :=
  .of_wp fun prog w A R s h => by
    obtain ⟨hp, g, d, tk, os⟩ := s; obtain ⟨hl, h⟩ := h
    have hsub := sub_enumerate
    have hL : Heap.IsTuple (Shared.heap ⟨hp, g, d, tk, os⟩) l items := ⟨_, hl, rfl, n, rfl⟩
    wp_walk using wpAny_loadPart' hl
    refine wpAny_stack_any fun st => wpAny_pure ?_
    split
    · rename_i c _ _ _ _ _
      cases (c == Value.type "enumerate")
      · wp_walk using wpAny_loadPart' hl, wpAny_pyIter_tuple hL
        exact ⟨_, rfl, h⟩
      · wp_walk using wpAny_loadPart' hl, wpAny_pyIter_tuple hL
        exact ⟨_, rfl, h⟩
    · wp_walk using wpAny_loadPart' hl, wpAny_pyIter_tuple hL
      exact ⟨_, rfl, h⟩
section
variable {prog : Program} {w : World} {A : Around} {E : Value → Shared → Prop} {s : Shared}
theorem call_enumT {l : Addr} {items : Array Value} {Q : Value → Shared → Prop} (hL : s.heap.IsTuple l items)
    (h : ∀ h', IsEnum h' (s.heap.objs.size + 1) s.heap.objs.size 0 .none → h'.IsTupleIter s.heap.objs.size l 0 → h'.objs.size = s.heap.objs.size + 2 →
      (∀ b o, s.heap.get? b = some o → h'.get? b = some o) → Q (.ref (s.heap.objs.size + 1)) { s with heap := h' }) :
    wpAny (model prog w) A (call (.type "enumerate") [.ref l]) Q E s := by
  obtain ⟨⟨c, dct, dt, sl⟩, hl, hc, n, hd⟩ := hL
  replace hc : c = .type "tuple" := hc
  replace hd : dt = .seq items n := hd
  subst hc hd
  refine callType_new F.called_enumerate (by decide) (F.typeCall_enumerate_1 _) (F.newCall_enumerate_1 _) (fun obj => F.args_object_init_2 obj _) F.entry_enumerate_new
    (meets_enumT l items n dct sl) ⟨hl, ?_⟩
  have hz : (s.heap.push { cls := .type "tuple_iterator", data := .fields #[.ref l, .int 0 0] }).objs.size = s.heap.objs.size + 1 := Heap.size_push ..
  show _ ∧ _
  rw [hz]
  have he : IsEnum ((s.heap.push { cls := .type "tuple_iterator", data := .fields #[.ref l, .int 0 0] }).push
      { cls := .type "enumerate", data := .fields #[.none, .bool false, .ref s.heap.objs.size, rawInt 0, .none, .none] }) (s.heap.objs.size + 1) s.heap.objs.size 0 .none := by
    have := Heap.get?_push_size (s.heap.push { cls := .type "tuple_iterator", data := .fields #[.ref l, .int 0 0] })
      (o := { cls := .type "enumerate", data := .fields #[.none, .bool false, .ref s.heap.objs.size, rawInt 0, .none, .none] }) rfl
    rw [hz] at this; exact this
  refine ⟨⟨_, he, rfl⟩, h _ he ⟨_, Heap.get?_push_of_some _ (Heap.get?_push_size _ rfl), rfl, rfl⟩ (by rw [Heap.size_push, hz]) fun b o x => Heap.get?_push_of_some _ (Heap.get?_push_of_some _ x)⟩
theorem draws_tup (hh : A.handled = none) {it t : Addr} (hne : t ≠ it) (items : Array Value) : Draws prog w A it [it, t] items.size (fun i v => items[i]? = some v) (fun i h => h.IsTupleIter it t i ∧ h.IsTuple t items) where
  live := fun i h st => let ⟨⟨o, e, _⟩, _⟩ := st; ⟨o, e⟩
  frame := fun i h h' st k => ⟨st.1.at fun o e => k it (by simp) o e, let ⟨o, e, z⟩ := st.2; ⟨o, k t (by simp) o e, z⟩⟩
  item := fun i s Q E hi st hQ => by
    refine wpAny_nextOf_tuple_item st.1 st.2 (x := items[i]) (by simp [hi]) fun h' st' sb => ?_
    refine hQ _ h' s.toks (by simp [hi]) ⟨st', ?_⟩ sb
    obtain ⟨o, e, z⟩ := st.2
    exact ⟨o, (sb.2 t hne).trans e, z⟩
  done := fun s Q E st hE => wpAny_nextOf_tuple_end hh st.1 st.2 (by simp) hE
end
def IteT (K : PySem.W.Frag) (a : Addr) : It :=
  ⟨fun i H => ∃ (xs : List V) (x : V), SqT K H a xs ∧ xs[i]? = some x, fun i H v H' => ∃ T x, v = .ref T ∧ H T = none ∧ H' = upd H T (.tup [.int (i : Nat), x]) ∧ ∀ xs, SqT K H a xs → xs[i]? = some x, fun i H => ∃ xs : List V, SqT K H a xs ∧ xs.length ≤ i⟩
theorem turn_enumT {P : Program} {w : World} {K : PySem.W.Frag} {elts : List Expr} {kk : Nat} {tpos : Pos} (a e it : Addr) :
    Turn P w K (.Tuple elts kk tpos) (IteT K a) [e, it] e (fun i h => (∃ old, IsEnum h e it ((i : Nat) : Int) old) ∧ h.IsTupleIter it a i ∧ e ≠ it) where
  mem := by simp
  obj := fun i h st b hb => by
    obtain ⟨⟨old, he⟩, ⟨o, ho, hc, hd⟩, _⟩ := st
    have e' : b = e ∨ b = it := by simpa using hb
    rcases e' with z | z
    · rw [z]; exact ⟨_, he, fun v q => nomatch q⟩
    · rw [z]; exact ⟨o, ho, fun v q => by rw [hd] at q; cases q⟩
  keep := fun i h h' st k => let ⟨⟨old, he⟩, hi, hne⟩ := st; ⟨⟨old, k e (by simp) _ he⟩, hi.at fun o q => k it (by simp) o q, hne⟩
  item := by
    intro X hP hw hK hc i pins s σ H E I hf st hg
    subst hP hw hK
    obtain ⟨⟨old, he⟩, hit, hne⟩ := st
    obtain ⟨xs, x, hq, hx⟩ := hg
    obtain ⟨its, rv, p, hz⟩ := I.tuple hq
    have p' : s.heap.IsTuple a its.toArray := p
    obtain ⟨u, hu, ru⟩ := rv.get hx
    have hel : e < s.heap.objs.size := Heap.lt_size he
    have hil : it < s.heap.objs.size := by obtain ⟨_, q, _⟩ := hit; exact Heap.lt_size q
    have nea : a ≠ it := by
      rintro rfl
      obtain ⟨o1, e1, c1, _⟩ := hit
      obtain ⟨o2, e2, c2, _⟩ := p'
      rw [e1] at e2
      cases e2
      rw [c1] at c2
      exact absurd c2 (by decide)
    have nee : a ≠ e := by
      rintro rfl
      obtain ⟨o2, e2, c2, _⟩ := p'
      rw [he] at e2
      cases e2
      exact absurd (show Value.type "enumerate" = Value.type "tuple" from c2) (by decide)
    have hlt : i < its.toArray.size := by
      rcases Nat.lt_or_ge i its.length with z | z
      · simpa using z
      · rw [List.getElem?_eq_none z] at hu; cases hu
    refine wpAny_pyNext_enum_itemD (draws_tup (by simpa using I.ok.hd hc) nea its.toArray) he ⟨hit, p'⟩ hlt hne (by simp [hne, Ne.symm nee]) fun y h' tk hy ho hst' hT hsz hk => ?_
    obtain ⟨hit', _⟩ := hst'
    have ey : y = u := by
      have z : its[i]? = some y := by simpa using hy
      rw [hu] at z
      exact (Option.some.inj z).symm
    subst ey
    refine ⟨_, rfl, wpAny_letOwnedTupleGo_enum (s := { s with heap := h', toks := tk + 1 }) ho fun h'' he' sb => ?_⟩
    have hT2 : h''.get? s.heap.objs.size = some { cls := .type "tuple", data := .seq #[.int i tk, y] } := (sb.2 _ (Nat.ne_of_gt hel)).trans hT
    have new : ObjOk X.prog X.w (upd H s.heap.objs.size (.tup [.int (i : Nat), x])) h'' s.heap.objs.size (.tup [.int (i : Nat), x]) :=
      ⟨by show 2 ≤ sizeLine; decide, [.int i tk, y], .cons ⟨_, rfl⟩ (.cons ru .nil), ⟨_, hT2, rfl, _, rfl⟩⟩
    have I1 : Inv X pins σ (upd H s.heap.objs.size (.tup [.int (i : Nat), x])) { s with heap := h'', toks := tk + 1 } :=
      I.turnedNew (ch := [e, it]) (fun b ob hb q => (sb.2 b (fun z => hb (by simp [z]))).trans (hk b ob (fun z => hb (by simp [z])) (fun z => hb (by simp [z])) q)) hf (Nat.le_refl _) new
    refine ⟨.ref s.heap.objs.size, _, I1, rfl, ⟨_, x, rfl, I.hok.fresh (Nat.le_refl _), rfl, fun ys hy => by rw [I.tuple_inj hy hq]; exact hx⟩, ⟨⟨y, ?_⟩, hit'.at fun o q => (sb.2 it (Ne.symm hne)).trans q, hne⟩, fun b hb => ?_⟩
    · have e1 : ((i + 1 : Nat) : Int) = (i : Int) + 1 := by omega
      rw [e1]; exact he'
    · have hb' : b < s.heap.objs.size := by
        have e' : b = e ∨ b = it := by simpa using hb
        rcases e' with z | z
        · rw [z]; exact hel
        · rw [z]; exact hil
      rw [upd_ne (Nat.ne_of_lt hb')]
      exact (hf b hb).1
  done := by
    intro X hP hw hK hc i pins s σ H E I hf st hg
    subst hP hw hK
    obtain ⟨⟨old, he⟩, hit, hne⟩ := st
    obtain ⟨xs, hq, hx⟩ := hg
    obtain ⟨its, rv, p, hz⟩ := I.tuple hq
    have p' : s.heap.IsTuple a its.toArray := p
    obtain ⟨f0, f1, f2, f3, f4, f5⟩ := hf it (by simp)
    have hl := rv.length
    have hT : s.TypeIs (.ref e) "enumerate" := ⟨_, he, rfl⟩
    unfold pyNext
    refine wpAny_bind (wpAny_attempt (wpAny_callSpecial?_slot (name := Str.ofString "__next__") hT F.slot_enumerate_next
      (wpAny_call_entry F.slot_enumerate_next hT F.entry_enumerate_next ?_ (F.args_enumerate_next_1 _))))
    show wpAny _ _ (field (.ref e) 2 >>= _) _ _ _
    refine wpAny_bind (wpAny_field he rfl (x := .ref it) rfl ?_)
    refine wpAny_bind (wpAny_nextOf_tuple_end (by simpa using I.ok.hd hc) hit p' (by simp; omega) fun h' x he' hx' => ?_)
    obtain ⟨o, ho, hc'⟩ := hx'
    refine wpAny_bind (wpAny_isInstance (T := "StopIteration") (b := true) ⟨o, ho, hc'⟩ isSubtype_stop ?_)
    exact wpAny_pure ⟨rfl, I.turned (t' := s.toks) (fun b o hb q => he' b o hb q) f0 f1 f3 f4 f5⟩
  self := fun A i s Q E st h => let ⟨⟨_, he⟩, _⟩ := st; wpAny_pyIter_enum he h
def iEnumT (K : PySem.W.Frag) (ta : TA) : TI := fun σ H R => ta σ H fun vs H1 => ∃ a xs, vs = [.ref a] ∧ SqT K H1 a xs ∧ R (IteT K a) H1
theorem pi_enumT {X : Cx} {e : Expr} {ta : TA} {p pos tpos : Pos} {elts : List Expr} {kk : Nat} (hg : Gl X "enumerate") (hm : X.mg "enumerate" = none) (ha : PA X [e] ta) (hs : starEach [e] X.env = [(false, eval e X.env)] := by rfl) :
    PI X (.Tuple elts kk tpos) (.Call (.Name "enumerate" p) [e] [] pos) (iEnumT X.K ta) := by
  refine ⟨fun pins s σ H R I h => ?_⟩
  refine Call_ (ld_blt I hg hm boot_enumerate (PyProof.Rows.callWith_type1 (thn (ha.run pos pins s σ H _ I h) fun us s1 ⟨vs, H1, I1, r1, q1⟩ => ?_) hs rfl))
  obtain ⟨a, xs, ex, hq, q⟩ := q1
  subst ex
  cases r1 with
  | cons r rr =>
    cases rr
    cases r
    obtain ⟨its, rv, p', hz⟩ := I1.tuple hq
    refine call_enumT (show s1.heap.IsTuple a its.toArray from p') fun h' he hit hsz hk => wpAny_pyIter_enum he ?_
    have I2 : Inv X pins σ H1 { s1 with heap := h' } := I1.kept (t' := s1.toks) hk
    refine ⟨s1.heap.objs.size + 1, [s1.heap.objs.size + 1, s1.heap.objs.size], _, _, H1, rfl, I2, turn_enumT a (s1.heap.objs.size + 1) s1.heap.objs.size, ⟨⟨.none, he⟩, hit, Nat.succ_ne_self _⟩, fun b hb => ?_, q⟩
    have e' : b = s1.heap.objs.size + 1 ∨ b = s1.heap.objs.size := by simpa using hb
    have hle : s1.heap.objs.size ≤ b := by
      rcases e' with z | z
      · rw [z]; exact Nat.le_add_right _ _
      · rw [z]; exact Nat.le_refl _
    exact I1.fpOk hle (I1.hok.fresh hle)
theorem walk_enumT {K : PySem.W.Frag} {a : Addr} {xs : List V} : Walk (IteT K a) xs.length (fun H => SqT K H a xs) (YPair (fun i => some (.int (i : Nat))) (fun i => xs[i]?)) := by
  refine ⟨fun i _ hi q => ⟨xs, xs[i], q, by simp [hi]⟩, fun _ q => ⟨xs, q, Nat.le_refl _⟩, fun i H v H' _ q y => ?_⟩
  obtain ⟨T, x, h1, h2, h3, h4⟩ := y
  exact ⟨T, .int (i : Nat), x, h1, h2, h3, rfl, h4 xs q⟩
end Nw

namespace Nw
open PySem PySem.Spec PyProof.Rows L2
/-! ### what may be a list or a tuple: t tells which -/
def ho (t : Bool) (vs : List V) : HO := match t with
  | false => .lst vs
  | true => .tup vs
def SqB (K : PySem.W.Frag) (t : Bool) (H : Hp) (a : Addr) (xs : List V) : Prop := match t with
  | false => SqL K H a xs
  | true => SqT K H a xs
theorem SqB.of {K : PySem.W.Frag} {t : Bool} {H : Hp} {a : Addr} {xs : List V} (h : H a = some (ho t xs)) : SqB K t H a xs := by
  cases t
  · exact SqL.of h
  · exact SqT.of h
def isS {α : Type} [Rep α] (t : Bool) (I : Hp) (v : V) (xs : List α) : Prop := ∃ a vs, v = .ref a ∧ I a = some (ho t vs) ∧ Paired (Rep.is I) vs xs
theorem isL.s {α : Type} [Rep α] {I : Hp} {v : V} {xs : List α} (h : isL I v xs) : isS false I v xs := h
theorem isU.s {α : Type} [Rep α] {I : Hp} {v : V} {xs : List α} (h : isU I v xs) : isS true I v xs := h
theorem isS.up {α : Type} [Rep α] {t : Bool} {I I' : Hp} {v : V} {xs : List α} (h : isS t I v xs) (e : Same I I') : isS t I' v xs :=
  let ⟨a, vs, h1, h2, h3⟩ := h
  ⟨a, vs, h1, e _ _ h2, Paired.mono' (fun _ _ z => Rep.mono e z) h3⟩
def Itq (K : PySem.W.Frag) (t : Bool) (a : Addr) : It := match t with
  | false => Itl K a
  | true => Itt K a
def iSeq (K : PySem.W.Frag) (tl : TE) : TI := fun σ H R => tl σ H fun x H1 => ∃ a t, x = .ref a ∧ (∃ xs, SqB K t H1 a xs) ∧ R (Itq K t a) H1
theorem pi_seq {X : Cx} {tg l : Expr} {tl : TE} (hl : PE X l tl) : PI X tg l (iSeq X.K tl) := by
  refine ⟨fun pins s σ H R I h => ?_⟩
  refine thn (hl.run pins s σ H _ I h) fun v s1 ⟨x, H1, I1, r1, q1⟩ => ?_
  obtain ⟨a, t, e, ⟨xs, hq⟩, q⟩ := q1
  subst e
  cases r1
  cases t
  · obtain ⟨its, rv, p, hz⟩ := I1.list hq
    refine wpAny_pyIter_list p.isList ?_
    refine ⟨s1.heap.objs.size, [s1.heap.objs.size], _, _, H1, rfl, I1.kept (t' := s1.toks) fun b o e => Heap.get?_push_of_some _ e, turn_list a _, ⟨_, Heap.get?_push_size _ rfl, rfl, rfl⟩, fun b hb => ?_, q⟩
    have e : b = s1.heap.objs.size := by simpa using hb
    subst e
    exact I1.fpOk (Nat.le_refl _) (I1.hok.fresh (Nat.le_refl _))
  · obtain ⟨its, rv, p, hz⟩ := I1.tuple hq
    refine wpAny_pyIter_tuple (show s1.heap.IsTuple a its.toArray from p) ?_
    refine ⟨s1.heap.objs.size, [s1.heap.objs.size], _, _, H1, rfl, I1.kept (t' := s1.toks) fun b o e => Heap.get?_push_of_some _ e, turn_tuple a _, ⟨_, Heap.get?_push_size _ rfl, rfl, rfl⟩, fun b hb => ?_, q⟩
    have e : b = s1.heap.objs.size := by simpa using hb
    subst e
    exact I1.fpOk (Nat.le_refl _) (I1.hok.fresh (Nat.le_refl _))
theorem walk_seq {K : PySem.W.Frag} {t : Bool} {a : Addr} {xs : List V} : Walk (Itq K t a) xs.length (fun H => SqB K t H a xs) (YAt xs) := by
  cases t
  · exact walk_list
  · exact walk_tup
def IteB (K : PySem.W.Frag) (t : Bool) (a : Addr) : It := match t with
  | false => Ite K a
  | true => IteT K a
def iEnumS (K : PySem.W.Frag) (ta : TA) : TI := fun σ H R => ta σ H fun vs H1 => ∃ a t xs, vs = [.ref a] ∧ SqB K t H1 a xs ∧ R (IteB K t a) H1
theorem pi_enumS {X : Cx} {e : Expr} {ta : TA} {p pos tpos : Pos} {elts : List Expr} {kk : Nat} (hg : Gl X "enumerate") (hm : X.mg "enumerate" = none) (ha : PA X [e] ta) (hs : starEach [e] X.env = [(false, eval e X.env)] := by rfl) :
    PI X (.Tuple elts kk tpos) (.Call (.Name "enumerate" p) [e] [] pos) (iEnumS X.K ta) := by
  refine ⟨fun pins s σ H R I h => ?_⟩
  refine Call_ (ld_blt I hg hm boot_enumerate (PyProof.Rows.callWith_type1 (thn (ha.run pos pins s σ H _ I h) fun us s1 ⟨vs, H1, I1, r1, q1⟩ => ?_) hs rfl))
  obtain ⟨a, t, xs, ex, hq, q⟩ := q1
  subst ex
  cases r1 with
  | cons r rr =>
    cases rr
    cases r
    have fin : ∀ b : Addr, b ∈ [s1.heap.objs.size + 1, s1.heap.objs.size] → s1.heap.objs.size ≤ b := fun b hb => by
      have e' : b = s1.heap.objs.size + 1 ∨ b = s1.heap.objs.size := by simpa using hb
      rcases e' with z | z
      · rw [z]; exact Nat.le_add_right _ _
      · rw [z]; exact Nat.le_refl _
    cases t
    · obtain ⟨its, rv, p', hz⟩ := I1.list hq
      refine call_enumerate_list p'.isList fun h' he hit hsz hk => wpAny_pyIter_enum he ?_
      have I2 : Inv X pins σ H1 { s1 with heap := h' } := I1.kept (t' := s1.toks) hk
      exact ⟨s1.heap.objs.size + 1, [s1.heap.objs.size + 1, s1.heap.objs.size], _, _, H1, rfl, I2, turn_enum a (s1.heap.objs.size + 1) s1.heap.objs.size, ⟨⟨.none, he⟩, hit, Nat.succ_ne_self _⟩, fun b hb => I1.fpOk (fin b hb) (I1.hok.fresh (fin b hb)), q⟩
    · obtain ⟨its, rv, p', hz⟩ := I1.tuple hq
      refine call_enumT (show s1.heap.IsTuple a its.toArray from p') fun h' he hit hsz hk => wpAny_pyIter_enum he ?_
      have I2 : Inv X pins σ H1 { s1 with heap := h' } := I1.kept (t' := s1.toks) hk
      exact ⟨s1.heap.objs.size + 1, [s1.heap.objs.size + 1, s1.heap.objs.size], _, _, H1, rfl, I2, turn_enumT a (s1.heap.objs.size + 1) s1.heap.objs.size, ⟨⟨.none, he⟩, hit, Nat.succ_ne_self _⟩, fun b hb => I1.fpOk (fin b hb) (I1.hok.fresh (fin b hb)), q⟩
theorem walk_enumS {K : PySem.W.Frag} {t : Bool} {a : Addr} {xs : List V} : Walk (IteB K t a) xs.length (fun H => SqB K t H a xs) (YPair (fun i => some (.int (i : Nat))) (fun i => xs[i]?)) := by
  cases t
  · exact walk_enum
  · exact walk_enumT
/-- its type, and what isinstance of (list, tuple) tells -/
theorem ty_seq {K : PySem.W.Frag} {t : Bool} {H : Hp} {a : Addr} {vs : List V} (h : H a = some (ho t vs)) : ∃ n, TyX K H (.ref a) (.type n) ∧ PySem.W.kitAny K (.type n) [.type "list", .type "tuple"] = some true := by
  cases t
  · exact ⟨_, .base (.lst h), kit_any_hd⟩
  · exact ⟨_, .base (.tup h), kitAny_cons (b := false) (kit_ty (by decide +kernel)) (fun _ => kit_any_hd) (fun z => nomatch z)⟩
end Nw

namespace Nw
open PySem PySem.Spec PyProof.Rows L2
section
variable {X : Cx} {k : Nat} {f C : Addr} {fd : FuncData} {ps : List Str} {sp : Sp}
def rOwnB (C : Addr) (sp : Sp) (g : Bool → Bool) : R2 := fun x y H Q => ∃ a b dx dy fs gs, x = .ref a ∧ y = .ref b ∧ H a = some (.ins C dx fs) ∧ H b = some (.ins C dy gs) ∧ sp [.ref a, .ref b] H (fun v H' => ∃ t, v = .bl t ∧ Q (.bl (g t)) H') E0
/-- == that the class has itself -/
theorem op_own_eq (M : Meth X.K C "__eq__" f) (F : FnOk X.prog X.w X.K X.mg X.base CX0 k f fd ps sp) (hr : Room k X.A) (hb : Binds X.K fd ps []) : OpR X (compareOp .Eq) (rOwnB C sp id) := by
  intro pins s σ H x y v u Q I rx ry h
  obtain ⟨a, b, dx, dy, fs, gs, rfl, rfl, ha, hb', q⟩ := h
  cases rx
  cases ry
  obtain ⟨mA, J, _⟩ := ins_get I.hok ha
  obtain ⟨mB, J', _⟩ := ins_get I.hok hb'
  obtain ⟨od, J, _⟩ := J.look
  obtain ⟨od', J', _⟩ := J'.look
  obtain ⟨m, hF⟩ := I.fr
  show wpAny (model X.prog X.w) X.A (richCompare .Eq (.ref a) (.ref b)) (EP X pins σ Q) X.xe s
  refine PySem.W.cmp_K (op := .Eq) (tb := .ref C) hr.units0 hF I.ok.mod.kin J J'.type (by simp [PySem.W.notFirst]) M.at_ M.fn ?_
  have r2 : Vals [V.ref a, V.ref b] [Value.ref a, Value.ref b] := .cons rfl (.cons rfl .nil)
  refine wpAny_mono (run_fn (dvs := []) (ds := []) (E := E0) F hr hb .nil pass0 I r2 q) (fun v s' hq => ?_) fun _ _ e => e
  obtain ⟨z, H', I', rz, p, rfl, q⟩ := hq
  cases rz
  exact ⟨.bl p, _, I', rfl, q⟩
theorem slot_ne : Slot "object" "__ne__" "object.__ne__" := F.cmp_object.ne
/-- a builtin's slot of an instance, found by the class's part -/
theorem ifBoundB_K {M : Model} {A : Around} {E : Value → Shared → Prop} {s : Shared} {K : PySem.W.Frag} {x C : Addr} {ox : Obj} {od : Option Obj} {name : Str} {T id : String} {args : List Value} {Q : Option Value → Shared → Prop} (Xk : K.In s.heap) (I : PySem.W.InstAt s.heap x ox C od)
    (hs : PySem.W.findIn K (.ref C) name = some (some (.builtin id))) (S : Slot T name id)
    (h : wpAny M A (call (.builtin id) (.ref x :: args)) (fun v => Q (some v)) E s) : wpAny M A (callSpecialIfBound? (.ref x) name args) Q E s := by
  simp only [callSpecialIfBound?, bindSpecialIfBound?]
  refine wpAny_holding (wpAny_bind (wpAny_bind (wpAny_bind (I.type.here ((PySem.W.looks_findIn Xk hs).here ?_)))))
  simp only [S.bind]
  refine wpAny_bind (wpAny_askSetting (wpAny_ite ?_))
  have fin : wpAny M A (call (.builtin id) ([.ref x] ++ args) >>= fun v => pure (some v)) Q E s := wpAny_bind (wpAny_mono h (fun v s' h' => wpAny_pure h') fun _ _ h' => h')
  split
  · exact wpAny_bind (wpAny_pure (wpAny_pure fin))
  · exact wpAny_tryCatch (wpAny_bind (wpAny_pure (wpAny_pure fin)))
theorem check_slotK {M : Model} {A : Around} {E : Value → Shared → Prop} {s : Shared} {K : PySem.W.Frag} {x C : Addr} {ox : Obj} {od : Option Obj} {id owner n : String} {rest : List Value} {Q : Unit → Shared → Prop} (Xk : K.In s.heap) (I : PySem.W.InstAt s.heap x ox C od) (hk : builtinKind id = some .slot) (hs : splitId id = some (owner, n))
    (ha : argsOk id ⟨.ref x :: rest, []⟩) (hsub : PySem.W.subIn K (.ref C) (.type owner) = some true) (hq : Q () s) : wpAny M A (checkBuiltinCall id ⟨.ref x :: rest, []⟩) Q E s := by
  simp only [checkBuiltinCall, hk, hs]
  refine wpAny_bind ?_
  unfold isInstance
  refine wpAny_bind (I.type.here ?_)
  refine (PySem.W.looks_subIn Xk hsub).here ?_
  cases hsig : Manifest.signature? id with
  | none => exact wpAny_pure hq
  | some sig =>
    simp only [argsOk, hsig] at ha
    have h2 : Bind.checkArgs id sig ⟨.ref x :: rest, []⟩ = pure () := ha
    show wpAny M A (Bind.checkArgs id sig ⟨.ref x :: rest, []⟩) Q E _
    rw [h2]; exact wpAny_pure hq
/-- != of a class with its own ==, that leaves __ne__ to object -/
theorem op_own_ne (M : Meth X.K C "__eq__" f) (hne : PySem.W.findIn X.K (.ref C) "__ne__" = some (some (.builtin "object.__ne__"))) (hob : PySem.W.subIn X.K (.ref C) (.type "object") = some true)
    (F : FnOk X.prog X.w X.K X.mg X.base CX0 k f fd ps sp) (hr : Room (k + 1) X.A) (hb : Binds X.K fd ps []) : OpR X (compareOp .NotEq) (rOwnB C sp not) := by
  intro pins s σ H x y v u Q I rx ry h
  obtain ⟨a, b, dx, dy, fs, gs, rfl, rfl, ha, hb', q⟩ := h
  cases rx
  cases ry
  obtain ⟨mA, J, _⟩ := ins_get I.hok ha
  obtain ⟨mB, J', _⟩ := ins_get I.hok hb'
  obtain ⟨od, J, _⟩ := J.look
  obtain ⟨od', J', _⟩ := J'.look
  obtain ⟨m, hF⟩ := I.fr
  have Xk := I.kIn
  show wpAny (model X.prog X.w) X.A (richCompare .NotEq (.ref a) (.ref b)) (EP X pins σ Q) X.xe s
  have r2 : Vals [V.ref a, V.ref b] [Value.ref a, Value.ref b] := .cons rfl (.cons rfl .nil)
  have e0 : Env0 X.prog X.w X.K X.mg X.base X.A.in1 X.stack s H := I.env0.in1
  have hl : (([.ref a, .ref b] : List Value) ++ []).length = ps.length := by
    have := F.len _ _ _ _ q
    simpa using this
  -- the own ==, one deeper
  have own : wpAny (model X.prog X.w) X.A.in1 (call (.ref f) [.ref a, .ref b]) (EP X pins σ (fun v H' => ∃ t, v = .bl t ∧ Q (.bl (!t)) H')) X.xe s := by
    refine wpAny_call (codeAny_mono (F.run X.A.in1 X.stack s H ⟨[.ref a, .ref b], []⟩ [.ref a, .ref b] [.ref a, .ref b] _ E0 hr.in1 e0 (by
      have := hb s [.ref a, .ref b] I.kIn hl
      simpa using this) r2 q) fun r s' hq => ?_)
    cases r with
    | error e => exact pass0 pins σ H s e s' I hq
    | ok fl =>
      cases fl with
      | ret w => exact I.after hq
      | next => exact False.elim hq
      | brk => exact False.elim hq
      | cont => exact False.elim hq
  have neq : wpAny (model X.prog X.w) X.A.in1 (Builtin.«object.__ne__» ⟨[.ref a, .ref b], []⟩) (fun fin s' => ∃ t, fin = .done (.ret (.bool t)) ∧ EP X pins σ Q (.bool t) s') X.xe s := by
    unfold Builtin.«object.__ne__»
    refine wpAny_bind (m := slotArgs "__ne__" 1 ⟨[.ref a, .ref b], []⟩) ?_
    refine (show wpAny _ _ (pure (Value.ref a, [Value.ref b])) _ _ _ from wpAny_pure ?_)
    refine wpAny_bind (wpAny_cRoomFor hr.in1.units0 ?_)
    refine wpAny_bind (PySem.W.ifBound_K Xk J M.at_ M.fn (wpAny_mono own (fun v s' hv => ?_) fun _ _ e => e))
    obtain ⟨z, H', I', rz, t, rfl, q'⟩ := hv
    cases rz
    refine wpAny_bind (wpAny_truthy_bool ?_)
    exact wpAny_pure ⟨!t, rfl, .bl (!t), H', I', rfl, q'⟩
  have one : wpAny (model X.prog X.w) X.A (tryCompare (.ref a) "__ne__" (.ref b)) (fun r s' => ∃ v, r = some v ∧ EP X pins σ Q v s') X.xe s := by
    unfold tryCompare
    refine wpAny_bind (ifBoundB_K Xk J hne slot_ne (wpAny_call (codeAny_call_builtin slot_ne.plain PySem.F.cmpEntry_ne (check_slotK Xk J PySem.F.cmpKind_ne PySem.F.cmpSplit_ne (PySem.F.cmpArgs_ne _ _) hob ?_))))
    refine wpAny_mono neq (fun fin s' hv => ?_) fun e s' z => z
    obtain ⟨t, rfl, q'⟩ := hv
    exact wpAny_pure ⟨_, rfl, q'⟩
  unfold richCompare
  simp only [oneThing_ref]
  refine wpAny_holding (wpAny_bind (wpAny_cRoomFor hr.units0 ?_))
  refine wpAny_bind (J.type.here (wpAny_bind (J'.type.here ?_)))
  simp only [bne_self_eq_false, Bool.false_eq_true, if_false]
  refine wpAny_bind (wpAny_pure ?_)
  simp only [Bool.false_eq_true, if_false]
  refine wpAny_bind (wpAny_mono one (fun r s' z => ?_) fun _ _ e => e)
  obtain ⟨v, rfl, hq⟩ := z
  exact wpAny_pure hq
end
end Nw

namespace Nw
open PySem PySem.Spec PyProof.Rows L2
/-! ### an exception that was caught and is held as a value -/
def ExV (cls : Value) (d : Option Addr) (a : Addr) : HO := .ext fun h => ∃ (oe : Obj) (vs : Array Value), h.get? a = some oe ∧ Zc cls d oe ∧ oe.data = .fields vs
theorem exv_at {P : Program} {w : World} {H : Hp} {h : Heap} {cls : Value} {d : Option Addr} {a : Addr} (hok : HOk P w H h) (e : H a = some (ExV cls d a)) : ∃ (oe : Obj) (vs : Array Value), h.get? a = some oe ∧ Zc cls d oe ∧ oe.data = .fields vs := by
  have z : ObjOk P w H h a (ExV cls d a) := hok a _ e
  exact z.1
section
variable {X : Cx} {pins : List (Addr × Obj)} {σ : L2.St} {H : Hp} {s : Shared}
theorem inv_held {a : Addr} {oe : Obj} {vs : Array Value} {cls : Value} {d : Option Addr} (I : Inv X pins σ H s) (at_ : s.heap.get? a = some oe) (z : Zc cls d oe) (fl : oe.data = .fields vs) (fr : H a = none) (young : X.s_0.heap.get? a = none)
    (nl : a ≠ X.env.locals) (np : ∀ p ∈ X.pn ++ pins, p.1 ≠ a) : Inv X pins σ (upd H a (ExV cls d a)) s := by
  have nc : ∀ x c, X.env.cells.lookup x = some c → c ≠ a := fun x c e q => by
    obtain ⟨v, o, ho, hd⟩ := I.cell x c e
    rw [q, at_] at ho
    cases ho
    rw [fl] at hd
    cases hd
  refine ⟨I.ok, I.os, I.bare, { I.base with free := fun b o e n hx => ?_, tups := fun b xs e => ?_, frzs := fun b o u e => ?_, tbls := fun b ps e => ?_ }, I.loc, I.cell, ?_, fun x c e => ?_, fun p hp => ?_, ?_, I.len⟩
  · rw [upd_ne fun q => by rw [q, young] at e; cases e]
    exact I.base.free b o e n hx
  · have q := I.base.tups b xs e
    rw [upd_ne (ne_of_none q fr)]
    exact q
  · have q := I.base.frzs b o u e
    rw [upd_ne (ne_of_none q fr)]
    exact q
  · obtain ⟨more, q⟩ := I.base.tbls b ps e
    exact ⟨more, by rw [upd_ne (ne_of_none q fr)]; exact q⟩
  · rw [upd_ne nl.symm]
    exact I.free
  · rw [upd_ne (nc x c e)]
    exact I.freeC x c e
  · obtain ⟨p1, p2, p3⟩ := I.pin p hp
    exact ⟨p1, by rw [upd_ne (np p hp)]; exact p2, p3⟩
  · exact I.hok.laidN (fun _ _ q => q) fr ⟨⟨oe, vs, at_, z, fl⟩, ⟨oe, at_⟩, fun _ _ ⟨o, v, q, r⟩ k => ⟨o, v, k o q, r⟩⟩
end
/-- behind the suite the caught one stands as a value -/
def keepD (i : Nat) (a : Addr) (cls : Value) (d : Option Addr) (D : Ends) : Ends where
  nx := fun σ H => D.nx (σ.set i none) (upd H a (ExV cls d a))
  rt := fun v H => D.rt v (upd H a (ExV cls d a))
  bk := fun σ H => D.bk (σ.set i none) (upd H a (ExV cls d a))
  ct := fun σ H => D.ct (σ.set i none) (upd H a (ExV cls d a))
/-- what 'except c as n: suite' wishes, the exception being kept; one of another class isn't raised there -/
def wKeep (K : PySem.W.Frag) (c : Value) (i : Nat) (ts : Addr → Value → Option Addr → TS) (D : Ends) : WX := fun cls d σ H =>
  PySem.W.exmOne K cls c = some true ∧ ∀ a, H a = none → ts a cls d (keepD i a cls d D) (σ.set i (some (.ref a))) H
section
variable {X : Cx} {x n : Str} {c : Value} {i : Nat} {body suite : List Stmt} {b₀ : Stmt} {np pos pos' : Pos} {tb : WX → TS} {ts : Addr → Value → Option Addr → TS}
/-- an object in the air is none that stood at the call, no frame, no pinned one -/
structure Apart (X : Cx) (pins : List (Addr × Obj)) (a : Addr) : Prop where
  young : X.s_0.heap.get? a = none
  nl : a ≠ X.env.locals
  nf : a ∉ X.fs
  np : ∀ p ∈ X.pn ++ pins, p.1 ≠ a
theorem apart_of {pins : List (Addr × Obj)} {σ : L2.St} {H : Hp} {sI : Shared} {B h : Heap} {a : Addr} {Z : Obj → Prop} (hst : X.stack = X.env :: X.outer) (hfm : X.env.frame = some X.env.locals) (hex : X.ex = []) (I : Inv X pins σ H sI)
    (nb : ∀ b o, sI.heap.get? b = some o → b ∉ frs X.stack → B.get? b = some o) (fl : HandSPX.FlyingZ B (X.env :: X.outer) a Z h) : Apart X pins a := by
  obtain ⟨oe, vs, e1, e2, e3⟩ := fl.there
  have nB : B.get? a = none := fl.2.1
  have off : a ∉ frs (X.env :: X.outer) := fun hm => by
    obtain ⟨_, o', e', nofld⟩ := fl.2.2.1.mem hm
    rw [e1] at e'
    cases e'
    exact nofld _ e3
  have gone : ∀ o, sI.heap.get? a ≠ some o := fun o e => by
    have z := nb a o e (by rw [hst]; exact off)
    rw [nB] at z
    cases z
  refine ⟨?_, fun q => off (List.mem_filterMap.mpr ⟨X.env, List.mem_cons_self, by rw [hfm, q]⟩), fun hm => ?_, fun p hp q => ?_⟩
  · cases e : X.s_0.heap.get? a with
    | none => rfl
    | some o =>
      obtain ⟨o', z⟩ := I.base.there a o e (by rw [hex]; exact fun q => nomatch q)
      exact absurd z (gone o')
  · obtain ⟨ev, he, q⟩ := List.mem_filterMap.mp hm
    exact off (List.mem_filterMap.mpr ⟨ev, List.mem_cons_of_mem _ he, q⟩)
  · have z := (I.pin p hp).1
    rw [q] at z
    exact gone _ z
/-- try: body / except x as n: suite; the exception is kept behind it -/
theorem ps_try_keep (hst : X.stack = X.env :: X.outer) (hfm : X.env.frame = some X.env.locals) (hex : X.ex = []) (hN : X.N.Nodup) (hi : X.N[i]? = some n) (hln : X.env.kindOf n = some .local) (hc : Names X x c)
    (hb : ∀ (W : WX) (pn : List (Addr × Obj)) (xe : Value → Shared → Prop), Takes (X.tr pn xe) W → PSs (X.tr pn xe) body (tb W))
    (hsu : ∀ (a : Addr) (oe : Obj) (cls : Value) (d : Option Addr) (pn : List (Addr × Obj)), Zc cls d oe → (∃ vs, oe.data = .fields vs) → PSs (X.suite a ((a, oe) :: pn)) (b₀ :: suite) (ts a cls d)) :
    PS X (.Try body [.ExceptHandler (some (.Name x np)) (some n) (b₀ :: suite) pos'] [] [] pos) (fun D σ H => tb (wKeep X.K c i ts D) D σ H) := by
  refine ⟨fun pins s σ H D I wish => ?_⟩
  have hA : X.A.frames = some (X.env :: X.outer) := by rw [I.ok.frames, hst]
  -- what is raised in the body comes here
  have land : Takes (X.tr (X.pn ++ pins) fun e s1 => wpAny (model X.prog X.w) X.A (noteFrame e X.env) (fun _ s2 => wpAny (model X.prog X.w) X.A (setFlight e none) (fun _ s3 =>
      wpAny (model X.prog X.w) X.A (handleBy e X.env [.ExceptHandler (some (.Name x np)) (some n) (b₀ :: suite) pos']) (SP X pins D) X.xe s3) X.xe s2) X.xe s1) (wKeep X.K c i ts D) := by
    rintro u sx ⟨a, B, sI, pins', σx, Hx, cls, d, rfl, Ix, nb, up, sky, na, os, ag, hm, hyes⟩
    have J : Inv X pins σx Hx sI := Ix.ofTry I.ok
    show wpAny (model X.prog X.w) X.A (noteFrame (.ref a) X.env) _ _ _
    have sky2 : Sky B (X.env :: X.outer) a (Zc cls d) X.env.locals sx.heap := hst ▸ sky
    refine Sky.land Zc.steady hA hfm sky2 fun hA1 fl1 up1 => ?_
    have ap := apart_of hst hfm hex J nb fl1
    have J1 : Inv X pins σx Hx { sx with heap := hA1 } := J.landed nb fl1.1 (up.trans up1) os ag
    obtain ⟨o1, f1, g1, z1, d1⟩ := fl1.there
    have S1 := J1.suite g1 d1 na ap.nl ap.nf
    refine wpAny_handleBy_cons (codeAny_handlers_test ?_) (fun q => nomatch q)
    have LC : PySem.W.Looks (model X.prog X.w) hA1 (typeOf (.ref a)) cls := fun A1 Q1 E1 sh kk q => wpAny_typeOf_ref (kk _ _ g1) (by rw [z1.1]; exact q)
    have LM := PySem.W.exm_one (M := model X.prog X.w) (J1.kIn) LC hm
    have clause : ∀ {Q1 : Value → Shared → Prop} {E1 : Value → Shared → Prop}, Q1 c { sx with heap := hA1 } → wpAny (model X.prog X.w) (X.A.mark (some (.ref a))) (eval (.Name x np) X.env) Q1 E1 { sx with heap := hA1 } := fun {Q1 E1} q => by
      obtain ⟨hg, hdb, hm | ⟨hm, hv, hnn⟩⟩ := hc
      · exact ld_glob (X := X.suite a ((a, o1) :: (X.pn ++ pins))) S1 hg hm q hdb
      · exact ld_blt (X := X.suite a ((a, o1) :: (X.pn ++ pins))) S1 hg hm hv q hnn hdb
    refine clause (LM.here (codeAny_handlers_suite_as (HandSPX.lands_againZ fl1 fun hA2 fl2 up2 => ?_)))
    have J2 : Inv X pins σx Hx { sx with heap := hA2 } := J.landed nb fl2.1 ((up.trans up1).trans up2) os ag
    obtain ⟨o2, f2, g2, z2, d2⟩ := fl2.there
    refine store_ok (X := X.suite a ((a, o2) :: (X.pn ++ pins))) (v := .ref a) (J2.suite g2 d2 na ap.nl ap.nf) hN hi (.inl hln) rfl (fun s5 S5 => ?_) (.inr hln)
    refine wpAny_mono ((hsu a o2 cls d (X.pn ++ pins) z2 ⟨_, d2⟩).run [] s5 _ Hx _ S5 (hyes a na)) (fun f s6 hsp => ?_) (fun _ _ z => False.elim z)
    have out : ∀ {σ6 : L2.St} {H6 : Hp} {Q1 : Shared → Prop}, Inv (X.suite a ((a, o2) :: (X.pn ++ pins))) [] σ6 H6 s6 → (∀ s7, Inv X pins (σ6.set i none) (upd H6 a (ExV cls d a)) s7 → Q1 s7) →
        wpAny (model X.prog X.w) X.A (do bindName X.env n .none; unbindBehindTheSuite X.env n pos') (fun _ s7 => Q1 s7) X.xe s6 := fun {σ6 H6 Q1} S6 hq => by
      obtain ⟨p1, p2, _⟩ := S6.pin (a, o2) (List.mem_append_left _ List.mem_cons_self)
      exact gone_ok (inv_held (S6.unsuite I.ok) p1 z2 d2 p2 ap.young ap.nl ap.np) hN hi hln hq
    cases f with
    | next => exact let ⟨_, _, S6, q6⟩ := hsp; out S6 fun s7 J7 => ⟨_, _, J7, q6⟩
    | brk => exact let ⟨_, _, S6, q6⟩ := hsp; out S6 fun s7 J7 => ⟨_, _, J7, q6⟩
    | cont => exact let ⟨_, _, S6, q6⟩ := hsp; out S6 fun s7 J7 => ⟨_, _, J7, q6⟩
    | ret u => exact let ⟨_, _, _, S6, r6, q6⟩ := hsp; out S6 fun s7 J7 => ⟨_, _, _, J7, r6, q6⟩
  refine wpAny_Try_except (wpAny_mono ((hb (wKeep X.K c i ts D) _ _ land).run [] s σ H D (I.toTry _) wish) (fun f s1 hsp => ?_) (fun e s1 he => he))
  cases f with
  | next => exact let ⟨σ1, H1, J1, q⟩ := hsp; wpAny_execs_nil ⟨σ1, H1, J1.ofTry I.ok, q⟩
  | brk => exact let ⟨σ1, H1, J1, q⟩ := hsp; ⟨σ1, H1, J1.ofTry I.ok, q⟩
  | cont => exact let ⟨σ1, H1, J1, q⟩ := hsp; ⟨σ1, H1, J1.ofTry I.ok, q⟩
  | ret u => exact let ⟨v, σ1, H1, J1, r, q⟩ := hsp; ⟨v, σ1, H1, J1.ofTry I.ok, r, q⟩
end
/-! ### isinstance of such a value, its fields -/
/-- what isinstance and fields lean on, of an own exception class -/
structure ExF (K : PySem.W.Frag) (C : Addr) : Prop where
  ga : PySem.W.findIn K (.ref C) "__getattribute__" = some (some (.builtin "BaseException.__getattribute__"))
  gt : PySem.W.findIn K (.ref C) "__getattr__" = some none
  sb : PySem.W.subIn K (.ref C) (.type "BaseException") = some true
  hd : PySem.W.hasDictIn K C = true
  cl : PySem.W.findIn K (.ref C) "__class__" = some (some (.builtin "object.__class__"))
  sp : PySem.W.specialIn K (.builtin "object.__class__") "__get__" = some (some (.builtin "getset_descriptor.__get__"))
  tk : PySem.W.takesIn K (.builtin "object.__class__") = some true
  mr : PySem.W.mroIn K C (.type "object") = some true
def exfB (K : PySem.W.Frag) (C : Addr) : Bool :=
  decide (PySem.W.findIn K (.ref C) "__getattribute__" = some (some (.builtin "BaseException.__getattribute__"))) && (decide (PySem.W.findIn K (.ref C) "__getattr__" = some none) && (decide (PySem.W.subIn K (.ref C) (.type "BaseException") = some true) &&
  (PySem.W.hasDictIn K C && (decide (PySem.W.findIn K (.ref C) "__class__" = some (some (.builtin "object.__class__"))) && (decide (PySem.W.specialIn K (.builtin "object.__class__") "__get__" = some (some (.builtin "getset_descriptor.__get__"))) &&
  (decide (PySem.W.takesIn K (.builtin "object.__class__") = some true) && decide (PySem.W.mroIn K C (.type "object") = some true)))))))
theorem exfB_ok {K : PySem.W.Frag} {C : Addr} (h : exfB K C = true) : ExF K C := by
  unfold exfB at h
  simp only [Bool.and_eq_true, decide_eq_true_eq] at h
  obtain ⟨a, b, c, d, e, f, g, i⟩ := h
  exact ⟨a, b, c, d, e, f, g, i⟩
theorem clsIn_of {K : PySem.W.Frag} {C : Addr} (h : PySem.W.hasDictIn K C = true) : (PySem.W.clsIn K C).isSome = true := by
  obtain ⟨cd, hc, _⟩ := PySem.W.any_some h
  rw [hc]
  rfl
/-- the object at a of the class at C, as the library tells of instances -/
theorem exv_inst {X : Cx} {pins : List (Addr × Obj)} {σ : L2.St} {H : Hp} {s : Shared} {a C : Addr} {d : Option Addr} (I : Inv X pins σ H s) (e : H a = some (ExV (.ref C) d a)) (hd : ∀ dx, d = some dx → ∃ fs, H dx = some (.xd fs)) :
    ∃ ox od, PySem.W.InstAt s.heap a ox C od ∧ (∀ dx fs, d = some dx → H dx = some (.xd fs) → ∃ o, od = some o ∧ ∀ f, ∃ u, PySem.W.lookIn f o = some u ∧ RelO (fs.lookup f) u) := by
  obtain ⟨oe, vs, g, z, fl⟩ := exv_at I.hok e
  have nc : PySem.W.notCls oe = true := by
    unfold PySem.W.notCls
    rw [fl] <;> rfl
  cases d with
  | none => exact ⟨oe, none, ⟨g, z.1, nc, by rw [z.2]; trivial⟩, fun dx fs q => nomatch q⟩
  | some dx =>
    obtain ⟨fs, hfs⟩ := hd dx rfl
    have hx : ObjOk X.prog X.w H s.heap dx (.xd fs) := I.hok dx _ hfs
    obtain ⟨mA, hns, hr⟩ := hx
    obtain ⟨o, ho, look⟩ := lookIn_ns hns
    refine ⟨oe, some o, ⟨g, z.1, nc, by rw [z.2]; exact ho⟩, fun dx' fs' q q' => ?_⟩
    cases q
    rw [hfs] at q'
    cases q'
    exact ⟨o, rfl, fun f => ⟨mA f, look f, hr f⟩⟩
def rIsV (K : PySem.W.Frag) : List V → Hp → VK → Prop := fun xs H Q => ∃ (a C : Addr) (d : Option Addr) (c : V) (u : Value) (b : Bool), xs = [.ref a, c] ∧ H a = some (ExV (.ref C) d a) ∧ (∀ dx, d = some dx → ∃ fs, H dx = some (.xd fs)) ∧ ExF K C ∧ ClsV c u ∧ PySem.W.kitOne K (.ref C) u = some b ∧ Q (.bl b) H
theorem call_isV {X : Cx} : CallR X (.builtin "isinstance") (rIsV X.K) := by
  intro pins s σ H xs us Q I r h
  obtain ⟨a, C, d, c, u, b, rfl, e, hd, F, k, kit, q⟩ := h
  obtain ⟨u1, u2, rfl, r1, r2⟩ := vals2 r
  have e2 := k.eq r2
  subst e2
  cases r1
  obtain ⟨ox, od, J, _⟩ := exv_inst I e hd
  exact PySem.W.kia_one (PySem.W.kitx_exc (clsIn_of F.hd) F.ga F.gt F.sb F.cl F.sp F.tk F.mr) I.kIn J kit (fun z => nomatch z) fun tk => ⟨.bl b, H, I.tok tk, rfl, q⟩
/-- what may be anything: a plain value or such a one -/
def rIsA (K : PySem.W.Frag) : List V → Hp → VK → Prop := fun xs H Q => rIsi K xs H Q ∨ rIsV K xs H Q
theorem call_isA {X : Cx} : CallR X (.builtin "isinstance") (rIsA X.K) := by
  intro pins s σ H xs us Q I r h
  rcases h with h | h
  · exact call_isi pins s σ H xs us Q I r h
  · exact call_isV pins s σ H xs us Q I r h
/-- e.f of such a value -/
def tExF (K : PySem.W.Frag) (f : Str) (te : TE) : TE := fun σ H Q => te σ H fun x H1 => ∃ (a C dx : Addr) (fs : List (Str × V)) (v : V), x = .ref a ∧ H1 a = some (ExV (.ref C) (some dx) a) ∧ H1 dx = some (.xd fs) ∧ ExF K C ∧ PySem.W.findIn K (.ref C) f = some none ∧ fs.lookup f = some v ∧ Q v H1
theorem pe_exf {X : Cx} {e : Expr} {te : TE} {pos : Pos} {f : Str} (he : PE X e te) (hb : attributeBase e f X.env (eval e X.env) = eval e X.env := by rfl) : PE X (.Attribute e f pos) (tExF X.K f te) := by
  refine ⟨fun pins s σ H Q I h => ?_⟩
  refine attr_of hb (thn (he.run pins s σ H _ I h) fun u s1 ⟨x, H1, I1, rx, a, C, dx, fs, v, ex, ea, ed, F, hno, l, q⟩ => ?_)
  subst ex
  cases rx
  obtain ⟨ox, od, J, hl⟩ := exv_inst I1 ea fun dx' z => by cases z; exact ⟨fs, ed⟩
  obtain ⟨o, rfl, look⟩ := hl dx fs rfl ed
  obtain ⟨m, h1, h2⟩ := look f
  rw [l] at h2
  obtain ⟨u, hu, ru⟩ := RelO.some_of (v := v) (o := m) h2
  exact HandSPX.exc_get I1.kIn J F.ga F.gt F.sb (PySem.W.findObj_own F.hd hno rfl (by rw [h1, hu])) (handed_of ru) ⟨v, H1, I1.tok _, ru, q⟩
end Nw

namespace Nw
open PySem PySem.Spec PyProof.Rows L2
/-! ### own exception classes with fields: what the head tells of them -/
def oexC (C : Addr) (mro : List Value) (sl : List (Option Value)) : Bool := match mro, sl with
  | .ref c :: bm, [_, _, _, _, some (.builtin n), _] => decide (c = C) && (decide (n = "ValueError.__new__") && PySem.HandSPX.refsVE bm)
  | _, _ => false
def oexO (K : PySem.W.Frag) (C : Addr) : Bool := match K.lookup C with
  | some ⟨.type t, _, .cls cd, sl⟩ => decide (t = "type") && (cd.hasDict && (!cd.hasDel && oexC C cd.mro sl.toList))
  | _ => false
def oexB (K : PySem.W.Frag) (C : Addr) : Bool := oexO K C && (decide (PySem.W.findIn K (.ref C) "__setattr__" = some (some (.builtin "object.__setattr__"))) &&
  (decide (PySem.W.subIn K (.ref C) (.type "BaseException") = some true) && (decide (PySem.W.typeIn K (.ref C) = some (.type "type")) && PySem.W.keepIn K (.ref C))))
theorem oexB_ok {K : PySem.W.Frag} {C : Addr} (h : oexB K C = true) : OexC K C := by
  unfold oexB at h
  simp only [Bool.and_eq_true, decide_eq_true_eq] at h
  obtain ⟨h0, h1, h2, h3, h4⟩ := h
  refine ⟨?_, h1, h2, h3, h4⟩
  unfold oexO at h0
  split at h0
  · rename_i t dd cd sl hl
    simp only [Bool.and_eq_true, decide_eq_true_eq, Bool.not_eq_true'] at h0
    obtain ⟨rfl, hd, hdel, hc⟩ := h0
    unfold oexC at hc
    split at hc
    · rename_i c bm k0 k1 k2 k3 n k5 hm hs
      simp only [Bool.and_eq_true, decide_eq_true_eq] at hc
      obtain ⟨rfl, rfl, hb⟩ := hc
      obtain ⟨nm, bs, mro, ns, qn, hdd, sn, sub, ab, col, del⟩ := cd
      dsimp only at hm hd hdel
      subst hm hd hdel
      obtain ⟨ls⟩ := sl
      dsimp only at hs
      subst hs
      exact ⟨nm, qn, ns, bs, bm, sn, sub, ab, col, dd, k0, k1, k2, k3, k5, hl, hb⟩
    · cases hc
  · cases h0
/-- the class above them: its own __init__ is ValueError's -/
structure OeI (K : PySem.W.Frag) (C : Addr) : Prop where
  sp : PySem.W.specialIn K (.ref C) "__getattribute__" = some (some (.builtin "type.__getattribute__"))
  rd : PySem.W.readsIn K C (.type "type") = true
  at_ : PySem.W.findCls K (.ref C) (.type "type") "__init__" = some (.val (.builtin "ValueError.__init__"))
def veiB : Option PySem.W.CFound → Bool
  | some (.val (.builtin n)) => decide (n = "ValueError.__init__")
  | _ => false
theorem veiB_ok {o : Option PySem.W.CFound} (h : veiB o = true) : o = some (.val (.builtin "ValueError.__init__")) := by
  unfold veiB at h
  split at h
  · rw [of_decide_eq_true h]
  · cases h
def oeiB (K : PySem.W.Frag) (C : Addr) : Bool := decide (PySem.W.specialIn K (.ref C) "__getattribute__" = some (some (.builtin "type.__getattribute__"))) && (PySem.W.readsIn K C (.type "type") &&
  veiB (PySem.W.findCls K (.ref C) (.type "type") "__init__"))
theorem oeiB_ok {K : PySem.W.Frag} {C : Addr} (h : oeiB K C = true) : OeI K C := by
  unfold oeiB at h
  simp only [Bool.and_eq_true, decide_eq_true_eq] at h
  exact ⟨h.1, h.2.1, veiB_ok h.2.2⟩
/-- C0.__init__(self, ..) -/
theorem pe_oeinit {X : Cx} {c : Str} {C0 : Addr} {e : Expr} {es : List Expr} {ta : TA} {p1 p2 pos : Pos} {pl : Sem Bool} (F : OeI X.K C0) (hm : X.mg c = some (.ref C0)) (ha : PA X (e :: es) ta) (hg : Gl X c := by rfl) (hdb : (c == ("__debug__" : Str)) = false := by decide)
    (hc : eval (.Call (.Attribute (.Name c p1) "__init__" p2) (e :: es) [] pos) X.env = (do
      let cv ← eval (.Name c p1) X.env
      standAt p2.atName
      let (g, fst) ← holding [cv] (getMethod cv "__init__" pl)
      callWith pos g fst (backTo pos (starEach (e :: es) X.env)) (backToKw pos (keywordEach [] X.env))) := by rfl)
    (hst : starEach (e :: es) X.env = (false, eval e X.env) :: starEach es X.env := by rfl) (hpl : (backTo pos (starEach es X.env)).any (·.1) = false := by rfl) :
    PE X (.Call (.Attribute (.Name c p1) "__init__" p2) (e :: es) [] pos) (tVeI X.K ta) := by
  refine ⟨fun pins s σ H Q I h => PySem.W.methodCall_KW (ld_glob I hg hm ?_ hdb) hc⟩
  refine PySem.W.method_cls I.kIn F.sp (PySem.W.cls_value I.kIn F.rd F.at_ (by first | rfl | decide +kernel) ?_)
  have I0 := I.tok (s.toks + 1)
  refine PyProof.Rows.callWith_method1 (thn (ha.run pos pins _ σ H _ I0 h) fun us s1 ⟨vs, H1, I1, rv, a, C, ws, ev, hl, T, ea, q⟩ => ?_) hst hpl
  subst ev
  cases rv with
  | @cons _ u0 _ ur ra rw' =>
    obtain rfl : u0 = Value.ref a := ra
    refine oinit_ok T I1 ea ?_ fun s' J => ⟨.non, H1, J, rfl, q⟩
    rw [← Paired.length rw', sizeLine_eq]
    omega
/-! ### an __init__ with one field, with two -/
def spX1 (K : PySem.W.Frag) (C : Addr) (f : Str) : Sp := fun vs H Q _ => ∃ (a : Addr) (v : V), vs = [.ref a, v] ∧ H a = some (exo a C none) ∧ ∀ dx, H dx = none → dx ≠ a → Q .non (upd (upd H dx (exd dx [(f, v)])) a (exo a C (some dx)))
def spX2 (K : PySem.W.Frag) (C : Addr) (f g : Str) : Sp := fun vs H Q _ => ∃ (a : Addr) (v w : V), vs = [.ref a, v, w] ∧ H a = some (exo a C none) ∧ ∀ dx, H dx = none → dx ≠ a → Q .non (upd (upd H dx (exd dx [(g, w), (f, v)])) a (exo a C (some dx)))
theorem upd_upd {H : Hp} {a : Addr} {o o' : HO} : upd (upd H a o) a o' = upd H a o' := by
  funext b
  by_cases h : b = a
  · rw [h, upd_same, upd_same]
  · rw [upd_ne h, upd_ne h, upd_ne h]
theorem upd_comm {H : Hp} {a b : Addr} {o u : HO} (h : a ≠ b) : upd (upd H a o) b u = upd (upd H b u) a o := by
  funext c
  by_cases h1 : c = a
  · rw [h1, upd_ne h, upd_same, upd_same]
  · by_cases h2 : c = b
    · rw [h2, upd_same, upd_ne h.symm, upd_same]
    · rw [upd_ne h2, upd_ne h1, upd_ne h1, upd_ne h2]
theorem made_heap {H1 : Hp} {a dx C : Addr} {fs : List (Str × V)} (na : H1 a = none) (ne : dx ≠ a) :
    upd (del (upd (upd (upd H1 a (exo a C none)) dx (exd dx fs)) a (exo a C (some dx))) a) dx (.xd fs) = upd H1 dx (.xd fs) := by
  funext b
  by_cases h : b = dx
  · rw [h, upd_same, upd_same]
  · rw [upd_ne h, upd_ne h]
    by_cases h2 : b = a
    · rw [h2, del_same, na]
    · rw [del_ne h2, upd_ne h2, upd_ne h, upd_ne h2]
/-- what X(e) asks behind its argument -/
theorem mk1 {K : PySem.W.Frag} {C : Addr} {f : Str} {v : V} {H1 : Hp} {Q : XK} (k : ∀ dx, H1 dx = none → Q (.ref C) (some dx) (upd H1 dx (.xd [(f, v)]))) :
    [v].length ≤ 1000 ∧ ∀ a, H1 a = none → spX1 K C f (.ref a :: ([v] ++ [])) (upd H1 a (exo a C none))
      (fun w H2 => w = .non ∧ ∃ (d : Addr) (fs : List (Str × V)), H2 a = some (exo a C (some d)) ∧ H2 d = some (exd d fs) ∧ H1 d = none ∧ Q (.ref C) (some d) (upd (del H2 a) d (.xd fs))) (fun _ _ _ => False) := by
  refine ⟨by simp, fun a na => ⟨a, v, rfl, upd_same, fun dx hdx ne => ⟨rfl, dx, _, upd_same, by rw [upd_ne ne]; exact upd_same, ?_, ?_⟩⟩⟩
  · rw [upd_ne ne] at hdx
    exact hdx
  · rw [made_heap na ne]
    refine k dx ?_
    rw [upd_ne ne] at hdx
    exact hdx
theorem mk2 {K : PySem.W.Frag} {C : Addr} {f g : Str} {v w : V} {H1 : Hp} {Q : XK} (k : ∀ dx, H1 dx = none → Q (.ref C) (some dx) (upd H1 dx (.xd [(g, w), (f, v)]))) :
    [v, w].length ≤ 1000 ∧ ∀ a, H1 a = none → spX2 K C f g (.ref a :: ([v, w] ++ [])) (upd H1 a (exo a C none))
      (fun w H2 => w = .non ∧ ∃ (d : Addr) (fs : List (Str × V)), H2 a = some (exo a C (some d)) ∧ H2 d = some (exd d fs) ∧ H1 d = none ∧ Q (.ref C) (some d) (upd (del H2 a) d (.xd fs))) (fun _ _ _ => False) := by
  refine ⟨by simp, fun a na => ⟨a, v, w, rfl, upd_same, fun dx hdx ne => ⟨rfl, dx, _, upd_same, by rw [upd_ne ne]; exact upd_same, ?_, ?_⟩⟩⟩
  · rw [upd_ne ne] at hdx
    exact hdx
  · rw [made_heap na ne]
    refine k dx ?_
    rw [upd_ne ne] at hdx
    exact hdx
section
variable {X : Cx} {P : Program} {w : World} {K : PySem.W.Frag} {mg : Str → Option Value} {base : Heap} {k : Nat} {f C : Addr} {ps : List Str} {sp : Sp} {E : XK} {x m : Str} {pos ppos apos : Pos} {e o : Expr} {es : List Expr} {ta : TE} {t : TA}
/-- X(e, ..), X an own class with its own __init__ -/
theorem pmk_oexC (O : OexC X.K C) (M : Meth X.K C "__init__" f) (G : Ok X.prog X.w X.K X.mg X.base CX0 k f ps sp) (hr : Room (k + 1) X.A) (hm : X.mg x = some (.ref C)) (ha : PA X (e :: es) t) (hg : Gl X x := by rfl) (hdb : (x == ("__debug__" : Str)) = false := by decide)
    (hst : starEach (e :: es) X.env = (false, eval e X.env) :: starEach es X.env := by rfl) (hpl : (backTo pos (starEach es X.env)).any (·.1) = false := by rfl) : PMk X (.Call (.Name x ppos) (e :: es) [] pos) (tMkO C sp [] t) := by
  obtain ⟨fd, F, b, kp, _⟩ := G.ok
  exact pmk_oex O M.at_ (beq_iff_eq.mp M.fn) F hr b .nil pass0 hg hm ha hdb hst hpl
/-- a def that may let exceptions out -/
theorem ok_ofX {qual : Str} {st : Stmt} {N : List Str} (F : FnAt K x qual st f) (S : FnScope N ps (defScope st))
    (hb : ∀ (kV doc pm : Value) (an : Option Addr) (cdv ct : Value) (us : List Value), us.length = ps.length → bindArgs (PySem.W.fnOf x qual (defArgs st) (defBody st) (defScope st) .none kV doc pm an cdv ct) ⟨us, []⟩ = pure (ps.zip us))
    (len : ∀ vs H Q E, sp vs H Q E → vs.length = ps.length)
    (hbody : ∀ (cdv : Value) (A : Around) (outer : List Env) (s : Shared) (H : Hp) (vs : List V) (Q : VK) (E : XK), Room k (A.deeper (envOfC qual (defScope st) s.heap.objs.size f cdv)) → sp vs H Q E →
      ∃ t, PSs (cxOf (L2.CX P w) P w K mg base N qual (defScope st) f cdv A outer s H E) (defBody st) t ∧ t { nx := fun _ H' => Q .non H', rt := Q } (start N vs) H) : Ok P w K mg base (L2.CX P w) (k + 1) f ps sp := by
  obtain ⟨fd, F⟩ := F
  exact ⟨fd, F.ok S len hbody, F.bindsN hb, F.kp, let ⟨oc, od, _, _, _, _, _, _, _, osl, _, lk, _⟩ := F.ex; ⟨oc, od, osl, lk⟩⟩
/-- where no exception is let out, though a callee may raise at other arguments -/
theorem passN : Passes (L2.CX X.prog X.w) X E0 := passL
/-- in a def's body: what a callee lets out goes out -/
theorem passE {E1 : Value → Shared → Prop} (hs : X.stack = X.env :: X.outer := by rfl) (hf : X.env.frame = some X.env.locals := by rfl) (hex : X.ex = [] := by rfl)
    (hx : X.xe = fun e s' => wpAny (model X.prog X.w) X.A (leaving X.env e) (fun _ s'' => L2.CX X.prog X.w X.outer X.H_0 X.s_0 E e s'') E1 s' := by rfl) : Passes (L2.CX X.prog X.w) X E := passes_call (takes_of hs hf hex hx) fun _ _ _ _ z => z
/-- in a try's body: the wish, for all slots of the right number -/
def EW (n : Nat) (W : WX) : XK := fun cls d H => ∀ σ : L2.St, σ.length = n → W cls d σ H
theorem Takes.len {W : WX} (t : Takes X W) : Takes X (fun cls d σ H => σ.length = X.N.length → W cls d σ H) := fun u s' ⟨a, B, sI, pins, σ, H, cls, d, e, I, nb, up, sky, na, os, ag, h⟩ =>
  t u s' ⟨a, B, sI, pins, σ, H, cls, d, e, I, nb, up, sky, na, os, ag, h I.len⟩
theorem passW {W : WX} (n : Nat) (t : Takes X W) (hn : X.N.length = n := by rfl) : Passes (L2.CX X.prog X.w) X (EW n W) := passes_call (Nw.Takes.len t) fun _ _ σ _ z hl => z σ (hl.trans hn)
theorem pe_callX (G : Ok X.prog X.w X.K X.mg X.base (L2.CX X.prog X.w) k f ps sp) (hr : Room k X.A) (hm : X.mg x = some (.ref f)) (hx : Passes (L2.CX X.prog X.w) X E) (ha : PA X (e :: es) t) (hg : Gl X x := by rfl) (hdb : (x == ("__debug__" : Str)) = false := by decide)
    (hst : starEach (e :: es) X.env = (false, eval e X.env) :: starEach es X.env := by rfl) (hpl : (backTo pos (starEach es X.env)).any (·.1) = false := by rfl) : PE X (.Call (.Name x ppos) (e :: es) [] pos) (tCall sp [] E t) := by
  obtain ⟨fd, F, b, kp, _⟩ := G.ok
  exact pe_call F hr hg hm kp b .nil hx ha hdb hst hpl
theorem pe_makeX (M : Mk X.K C f) (G : Ok X.prog X.w X.K X.mg X.base (L2.CX X.prog X.w) k f ps sp) (hr : Room (k + 1) X.A) (hm : X.mg x = some (.ref C)) (hx : Passes (L2.CX X.prog X.w) X E) (ha : PA X (e :: es) t) (hg : Gl X x := by rfl) (hdb : (x == ("__debug__" : Str)) = false := by decide)
    (hst : starEach (e :: es) X.env = (false, eval e X.env) :: starEach es X.env := by rfl) (hpl : (backTo pos (starEach es X.env)).any (·.1) = false := by rfl) : PE X (.Call (.Name x ppos) (e :: es) [] pos) (tMake C sp [] E t) := by
  obtain ⟨fd, F, b, kp, _⟩ := G.ok
  exact pe_make M F hr hg hm b .nil hx ha hdb hst hpl
/-- a op b by the class's own method, which may raise -/
def rOwnX (C : Addr) (sp : Sp) (E : XK) : R2 := fun x y H Q => ∃ a b dx dy fs gs, x = .ref a ∧ y = .ref b ∧ H a = some (.ins C dx fs) ∧ H b = some (.ins C dy gs) ∧ sp [.ref a, .ref b] H (fun v H' => ∃ p, v = .ref p ∧ Q v H') E
theorem op_ownX {op : Operator} {nm : Str} (M : Meth X.K C nm f) (he : PySem.dunder op.info.2 = nm) (hc : PySem.W.selfFirst X.K C = true) (G : Ok X.prog X.w X.K X.mg X.base (L2.CX X.prog X.w) k f ps sp) (hr : Room k X.A) (hx : Passes (L2.CX X.prog X.w) X E) : OpR X (binaryOp op) (rOwnX C sp E) := by
  intro pins s σ H x y v u Q I rx ry h
  obtain ⟨fd, F, b, kp, _⟩ := G.ok
  obtain ⟨p, q, dx, dy, fs, gs, rfl, rfl, hp, hq, h⟩ := h
  cases rx
  cases ry
  obtain ⟨_, Jp, _⟩ := ins_get I.hok hp
  obtain ⟨_, Jq, _⟩ := ins_get I.hok hq
  obtain ⟨od, Jp, _⟩ := Jp.look
  obtain ⟨od', Jq, _⟩ := Jq.look
  obtain ⟨m, fr⟩ := I.fr
  refine PySem.W.binop_K fr I.ok.mod.kin Jp Jq.type hc (by rw [he]; exact M.at_) M.fn ?_
  refine wpAny_mono (run_fn (vs := [.ref p, .ref q]) (dvs := []) (ds := []) (E := E) F hr b .nil hx I (.cons rfl (.cons rfl .nil)) h) (fun v s' ⟨z, H', I', rz, r, e, k⟩ => ?_) fun _ _ z => z
  subst e
  cases rz
  exact ⟨.ref r, _, I', rfl, k⟩
end
end Nw

namespace Nw
open PySem PySem.Spec PyProof.Rows L2
/-! ### properties: the getter found through its class -/
def propAt (K : PySem.W.Frag) (C : Addr) (m : Str) : Addr := match PySem.W.findIn K (.ref C) m with
  | some (some (.ref p)) => p
  | _ => 0
def propGet (K : PySem.W.Frag) (C : Addr) (m : Str) : Addr := match PySem.W.recIn K (propAt K C m) "property" with
  | some (.ref g :: _) => g
  | _ => 0
def recB (K : PySem.W.Frag) (p g : Addr) : Bool := match PySem.W.recIn K p "property" with
  | some (.ref h :: _) => decide (h = g)
  | _ => false
def propB (K : PySem.W.Frag) (C : Addr) (m : Str) : Bool := decide (PySem.W.findIn K (.ref C) m = some (some (.ref (propAt K C m)))) && (decide (PySem.W.specialIn K (.ref (propAt K C m)) "__get__" = some (some (.builtin "property.__get__"))) &&
  (decide (PySem.W.takesIn K (.ref (propAt K C m)) = some true) && recB K (propAt K C m) (propGet K C m)))
theorem propB_ok {K : PySem.W.Frag} {C : Addr} {m : Str} (h : propB K C m = true) : PropOf K C m (propAt K C m) (propGet K C m) := by
  unfold propB at h
  simp only [Bool.and_eq_true, decide_eq_true_eq] at h
  obtain ⟨h1, h2, h3, h4⟩ := h
  refine ⟨h1, h2, h3, ?_⟩
  unfold recB at h4
  split at h4
  · rename_i g r e
    rw [← of_decide_eq_true h4]
    exact ⟨r, e⟩
  · cases h4
/-- a function by its address -/
def fnAtA (K : PySem.W.Frag) (f : Addr) : He.FnW := match K.lookup f with
  | some ⟨_, _, .func fd, _⟩ => some (fd.name, fd.qualname, fd.params, fd.body, fd.scope, fd.globals, fd.closure, fd.builtins)
  | _ => none
def fnOkA (K : PySem.W.Frag) (f : Addr) (q : Str) : Bool := PySem.W.keepIn K (.ref f) && (match K.lookup f with
  | some ⟨_, _, .func fd, _⟩ => PySem.W.codeIn K fd.code q && (He.dflB K fd.defaults [] && He.kwdB K fd.kwdefaults [])
  | _ => false)
theorem funD_at {K : PySem.W.Frag} {f : Addr} {d : He.DefD} (e : fnAtA K f = d.val) (c : fnOkA K f d.qual = true) : ∃ fd, FunD K d.name d.qual d.params d.body d.scope [] [] f fd := by
  unfold fnOkA at c
  rw [Bool.and_eq_true] at c
  obtain ⟨kp, c⟩ := c
  unfold fnAtA at e
  split at e
  · rename_i oc od fd osl lk
    rw [lk] at c
    obtain ⟨a1, a2, a3, a4, a5, a6, a7, a8, a9, a10, a11, a12, a13, a14, a15⟩ := fd
    unfold He.DefD.val at e
    simp only [Option.some.injEq, Prod.mk.injEq] at e
    obtain ⟨e1, e2, e3, e4, e5, e6, e7, e8⟩ := e
    subst e1 e2 e3 e4 e5 e6 e7 e8
    simp only [Bool.and_eq_true] at c
    exact ⟨_, ⟨oc, od, a8, a9, a10, a11, a12, a13, a14, osl, rfl, lk, c.1, He.dflB_ok c.2.1, He.kwdB_ok c.2.2⟩, kp⟩
  · cases e
/-- the head's look, with the getters and the model's own statics -/
abbrev GetD : Type := (Str × Str) × He.DefD
def getAd (K : PySem.W.Frag) (g : GetD) : Addr := propGet K (He.ga K g.1.1) g.1.2
abbrev AlP : Type := (He.AlD × Bool) × (List He.FnW × Bool)
def frP (n : Nat) (g : Addr → Option Obj) : PySem.W.Frag := He.frT g (cStatics :: He.asD g n)
def obsK (fa : List He.Fa) (fn : List He.DefD) (tf : List He.Defn) (ex : PySem.W.Frag → Bool) (gs : List GetD) (g : Addr → Option Obj) (K : PySem.W.Frag) : AlP :=
  ((He.obsD fa fn K, ex K && He.tabsB g tf K), (gs.map fun d => fnAtA K (getAd K d), gs.all fun d => fnOkA K (getAd K d) d.2.qual))
def obsP (n : Nat) (fa : List He.Fa) (fn : List He.DefD) (tf : List He.Defn) (ex : PySem.W.Frag → Bool) (gs : List GetD) (g : Addr → Option Obj) : AlP := obsK fa fn tf ex gs g (frP n g)
def valP (fn : List He.DefD) (gs : List GetD) : AlP := ((He.valD fn, true), (gs.map fun d => d.2.val, true))
structure SaysP (fa : List He.Fa) (fn : List He.DefD) (tf : List He.Defn) (ex : PySem.W.Frag → Bool) (gs : List GetD) (h : Heap) (K : PySem.W.Frag) : Prop where
  d : He.SaysD fa fn K
  more : ex K = true
  hd : ∀ p ∈ tf, PySem.W.codeHdIn K (He.cT K p).1 (He.cT K p).2 = true
  out : ∀ p ∈ tf, K.lookup (He.cT K p).2 = none
  empty : ∀ p ∈ tf, h.get? (He.cT K p).2 = some { cls := .none, data := .fields #[] }
  fns : (gs.map fun d => fnAtA K (getAd K d)) = gs.map fun d => d.2.val
  oks : (gs.all fun d => fnOkA K (getAd K d) d.2.qual) = true
theorem tab_at {h : Heap} {tf : List He.Defn} {K : PySem.W.Frag} (e : He.tabsB h.get? tf K = true) : ∀ p ∈ tf, PySem.W.codeHdIn K (He.cT K p).1 (He.cT K p).2 = true ∧ ∃ o, h.get? (He.cT K p).2 = some o ∧ He.emptyTab o = true := fun p hp => by
  have z := List.all_eq_true.mp e p hp
  rw [Bool.and_eq_true] at z
  refine ⟨z.1, ?_⟩
  have z2 := z.2
  split at z2
  · rename_i o q
    exact ⟨o, q, z2⟩
  · cases z2
theorem saysP_of {n : Nat} {fa : List He.Fa} {fn : List He.DefD} {tf : List He.Defn} {ex : PySem.W.Frag → Bool} {gs : List GetD} {h : Heap} (e : obsP n fa fn tf ex gs h.get? = valP fn gs) : SaysP fa fn tf ex gs h (frP n h.get?) := by
  have e2 : (ex (frP n h.get?) && He.tabsB h.get? tf (frP n h.get?)) = true := congrArg (fun z : AlP => z.1.2) e
  rw [Bool.and_eq_true] at e2
  have tb := tab_at e2.2
  refine ⟨congrArg (fun z : AlP => z.1.1) e, e2.1, fun p hp => (tb p hp).1, fun p hp => ?_, fun p hp => ?_, congrArg (fun z : AlP => z.2.1) e, congrArg (fun z : AlP => z.2.2) e⟩
  · obtain ⟨_, o, q, z⟩ := tb p hp
    exact He.frT_none q z
  · obtain ⟨_, o, q, z⟩ := tb p hp
    rw [q, He.emptyTab_eq z]
def hookP (n : Nat) (fa : List He.Fa) (fn : List He.DefD) (tf : List He.Defn) (ex : PySem.W.Frag → Bool) (gs : List GetD) : PySem.W.Hook where
  α := AlP
  obs := fun s => obsP n fa fn tf ex gs s.heap.get?
  val := fun _ => valP fn gs
  says := fun _ h => ∃ K : PySem.W.Frag, K.In h ∧ SaysP fa fn tf ex gs h K
  of := fun _ _ e => ⟨_, He.frT_in, saysP_of e⟩
  keeps := fun _ _ _ ⟨K, hK, c⟩ k => ⟨K, PySem.W.Frag.In.keeps hK k, ⟨c.d, c.more, c.hd, c.out, fun p hp => k _ _ (c.empty p hp), c.fns, c.oks⟩⟩
theorem obsP_eq {n : Nat} {fa : List He.Fa} {fn : List He.DefD} {tf : List He.Defn} {ex : PySem.W.Frag → Bool} {gs : List GetD} {g : Addr → Option Obj} {s : Shared} (h : ∀ a, g a = s.heap.get? a) : obsP n fa fn tf ex gs g = (hookP n fa fn tf ex gs).obs s := by
  obtain rfl : g = s.heap.get? := funext h
  rfl
theorem SaysP.get {fa : List He.Fa} {fn : List He.DefD} {tf : List He.Defn} {ex : PySem.W.Frag → Bool} {gs : List GetD} {h : Heap} {K : PySem.W.Frag} (c : SaysP fa fn tf ex gs h K) (i : Nat) {d : GetD} (e : gs[i]? = some d := by rfl) :
    ∃ fd, FunD K d.2.name d.2.qual d.2.params d.2.body d.2.scope [] [] (getAd K d) fd := by
  have e2 : (gs.map fun d => fnAtA K (getAd K d))[i]? = (gs.map fun d => d.2.val)[i]? := by rw [c.fns]
  rw [List.getElem?_map, List.getElem?_map, e] at e2
  exact funD_at (Option.some.inj e2) (List.all_eq_true.mp c.oks d (List.mem_of_getElem? e))
theorem pe_propC {X : Cx} {k : Nat} {C p g : Addr} {f : Str} {ps : List Str} {sp : Sp} {e : Expr} {pos : Pos} {ta : TE} (c : Cls X.K C) (hp : PropOf X.K C f p g) (G : Ok X.prog X.w X.K X.mg X.base CX0 k g ps sp) (hr : Room (k + 1) X.A) (he : PE X e ta)
    (hab : attributeBase e f X.env (eval e X.env) = eval e X.env := by rfl) : PE X (.Attribute e f pos) (tProp C sp [] E0 ta) := by
  obtain ⟨fd, F, b, _⟩ := G.ok
  exact pe_prop he c hp F hr b .nil pass0 hab
theorem xfc {K : PySem.W.Frag} {C : Addr} (F : ExF K C) : XfC K C := ⟨F.ga, F.gt, F.sb, F.hd⟩
end Nw

namespace Nw
open PySem PySem.Spec PyProof.Rows L2
def top (i : Nat) : Stmt := PySem.Challenge.pw_newsinorder_k04_links_put_together.main.body.getD i (.Pass ⟨0, 0, 0, 0⟩)
abbrev s_NoRides__init : Stmt := inClass (top 3) 0
abbrev n_NoRides__init : List Str := ["self", "at"]
theorem sc_NoRides__init : FnScope n_NoRides__init ["self", "at"] (defScope s_NoRides__init) := ⟨rfl, rfl, rfl, by decide +kernel, rfl, by decide +kernel, by decide +kernel⟩
abbrev s_TooMany__init : Stmt := inClass (top 4) 0
abbrev n_TooMany__init : List Str := ["self", "most"]
theorem sc_TooMany__init : FnScope n_TooMany__init ["self", "most"] (defScope s_TooMany__init) := ⟨rfl, rfl, rfl, by decide +kernel, rfl, by decide +kernel, by decide +kernel⟩
abbrev s_is_number : Stmt := top 9
abbrev n_is_number : List Str := ["thing"]
theorem sc_is_number : FnScope n_is_number ["thing"] (defScope s_is_number) := ⟨rfl, rfl, rfl, by decide +kernel, rfl, by decide +kernel, by decide +kernel⟩
abbrev s_is_moment : Stmt := top 10
abbrev n_is_moment : List Str := ["thing"]
theorem sc_is_moment : FnScope n_is_moment ["thing"] (defScope s_is_moment) := ⟨rfl, rfl, rfl, by decide +kernel, rfl, by decide +kernel, by decide +kernel⟩
abbrev s_need_moment : Stmt := top 11
abbrev n_need_moment : List Str := ["moment"]
theorem sc_need_moment : FnScope n_need_moment ["moment"] (defScope s_need_moment) := ⟨rfl, rfl, rfl, by decide +kernel, rfl, by decide +kernel, by decide +kernel⟩
abbrev s_is_earlier : Stmt := top 12
abbrev n_is_earlier : List Str := ["one", "other"]
theorem sc_is_earlier : FnScope n_is_earlier ["one", "other"] (defScope s_is_earlier) := ⟨rfl, rfl, rfl, by decide +kernel, rfl, by decide +kernel, by decide +kernel⟩
abbrev s_sooner_of : Stmt := top 13
abbrev n_sooner_of : List Str := ["one", "other"]
theorem sc_sooner_of : FnScope n_sooner_of ["one", "other"] (defScope s_sooner_of) := ⟨rfl, rfl, rfl, by decide +kernel, rfl, by decide +kernel, by decide +kernel⟩
abbrev s_is_ride : Stmt := top 14
abbrev n_is_ride : List Str := ["thing"]
theorem sc_is_ride : FnScope n_is_ride ["thing"] (defScope s_is_ride) := ⟨rfl, rfl, rfl, by decide +kernel, rfl, by decide +kernel, by decide +kernel⟩
abbrev s_ended : Stmt := top 15
abbrev n_ended : List Str := ["rides", "moment", "found", "begin", "end"]
theorem sc_ended : FnScope n_ended ["rides", "moment"] (defScope s_ended) := ⟨rfl, rfl, rfl, by decide +kernel, rfl, by decide +kernel, by decide +kernel⟩
abbrev s_begun : Stmt := top 16
abbrev n_begun : List Str := ["rides", "moment", "found", "begin", "end"]
theorem sc_begun : FnScope n_begun ["rides", "moment"] (defScope s_begun) := ⟨rfl, rfl, rfl, by decide +kernel, rfl, by decide +kernel, by decide +kernel⟩
abbrev s_needed : Stmt := top 17
abbrev n_needed : List Str := ["rides", "ends", "begin", "end", "found", "one"]
theorem sc_needed : FnScope n_needed ["rides"] (defScope s_needed) := ⟨rfl, rfl, rfl, by decide +kernel, rfl, by decide +kernel, by decide +kernel⟩
abbrev s_link_by : Stmt := top 18
abbrev n_link_by : List Str := ["rides", "some"]
theorem sc_link_by : FnScope n_link_by ["rides"] (defScope s_link_by) := ⟨rfl, rfl, rfl, by decide +kernel, rfl, by decide +kernel, by decide +kernel⟩
abbrev s_Link__init : Stmt := inClass (top 19) 0
abbrev n_Link__init : List Str := ["self", "rides", "at", "ride"]
theorem sc_Link__init : FnScope n_Link__init ["self", "rides"] (defScope s_Link__init) := ⟨rfl, rfl, rfl, by decide +kernel, rfl, by decide +kernel, by decide +kernel⟩
abbrev s_Link_rides : Stmt := inClass (top 19) 1
abbrev n_Link_rides : List Str := ["self"]
theorem sc_Link_rides : FnScope n_Link_rides ["self"] (defScope s_Link_rides) := ⟨rfl, rfl, rfl, by decide +kernel, rfl, by decide +kernel, by decide +kernel⟩
abbrev s_Link_end : Stmt := inClass (top 19) 2
abbrev n_Link_end : List Str := ["self", "moment"]
theorem sc_Link_end : FnScope n_Link_end ["self", "moment"] (defScope s_Link_end) := ⟨rfl, rfl, rfl, by decide +kernel, rfl, by decide +kernel, by decide +kernel⟩
abbrev s_Link_begin : Stmt := inClass (top 19) 3
abbrev n_Link_begin : List Str := ["self", "moment"]
theorem sc_Link_begin : FnScope n_Link_begin ["self", "moment"] (defScope s_Link_begin) := ⟨rfl, rfl, rfl, by decide +kernel, rfl, by decide +kernel, by decide +kernel⟩
abbrev s_Link__eq : Stmt := inClass (top 19) 4
abbrev n_Link__eq : List Str := ["self", "other"]
theorem sc_Link__eq : FnScope n_Link__eq ["self", "other"] (defScope s_Link__eq) := ⟨rfl, rfl, rfl, by decide +kernel, rfl, by decide +kernel, by decide +kernel⟩
abbrev s_Link__mul : Stmt := inClass (top 19) 5
abbrev n_Link__mul : List Str := ["self", "other", "some", "begin", "end"]
theorem sc_Link__mul : FnScope n_Link__mul ["self", "other"] (defScope s_Link__mul) := ⟨rfl, rfl, rfl, by decide +kernel, rfl, by decide +kernel, by decide +kernel⟩
abbrev s_Link__or : Stmt := inClass (top 19) 6
abbrev n_Link__or : List Str := ["self", "other"]
theorem sc_Link__or : FnScope n_Link__or ["self", "other"] (defScope s_Link__or) := ⟨rfl, rfl, rfl, by decide +kernel, rfl, by decide +kernel, by decide +kernel⟩
abbrev s_Link__and : Stmt := inClass (top 19) 7
abbrev n_Link__and : List Str := ["self", "other", "ends", "some", "begin", "end"]
theorem sc_Link__and : FnScope n_Link__and ["self", "other"] (defScope s_Link__and) := ⟨rfl, rfl, rfl, by decide +kernel, rfl, by decide +kernel, by decide +kernel⟩
abbrev s_Link__invert : Stmt := inClass (top 19) 8
abbrev n_Link__invert : List Str := ["self", "begin", "end"]
theorem sc_Link__invert : FnScope n_Link__invert ["self"] (defScope s_Link__invert) := ⟨rfl, rfl, rfl, by decide +kernel, rfl, by decide +kernel, by decide +kernel⟩
abbrev s_Link__le : Stmt := inClass (top 19) 9
abbrev n_Link__le : List Str := ["self", "other", "begin", "end"]
theorem sc_Link__le : FnScope n_Link__le ["self", "other"] (defScope s_Link__le) := ⟨rfl, rfl, rfl, by decide +kernel, rfl, by decide +kernel, by decide +kernel⟩
abbrev s_l_begun : Stmt := top 21
abbrev n_l_begun : List Str := ["_law_script", "_law_great", "_law_lump"]
theorem sc_l_begun : FnScope n_l_begun ["_law_script"] (defScope s_l_begun) := ⟨rfl, rfl, rfl, by decide +kernel, rfl, by decide +kernel, by decide +kernel⟩
abbrev s_l_next : Stmt := top 22
abbrev n_l_next : List Str := ["_law_draw", "_law_many", "_law_found", "_law_turn", "_law_lump", "_law_mixed"]
theorem sc_l_next : FnScope n_l_next ["_law_draw", "_law_many"] (defScope s_l_next) := ⟨rfl, rfl, rfl, by decide +kernel, rfl, by decide +kernel, by decide +kernel⟩
abbrev s_l_pick : Stmt := top 23
abbrev n_l_pick : List Str := ["_law_draw", "_law_some"]
theorem sc_l_pick : FnScope n_l_pick ["_law_draw", "_law_some"] (defScope s_l_pick) := ⟨rfl, rfl, rfl, by decide +kernel, rfl, by decide +kernel, by decide +kernel⟩
abbrev s_l_rides : Stmt := top 24
abbrev n_l_rides : List Str := ["_law_draw", "_law_many", "_law_wide_here", "_law_found", "_law_turn", "_law_begin_here"]
theorem sc_l_rides : FnScope n_l_rides ["_law_draw", "_law_many", "_law_wide_here"] (defScope s_l_rides) := ⟨rfl, rfl, rfl, by decide +kernel, rfl, by decide +kernel, by decide +kernel⟩
abbrev s_l_place : Stmt := top 25
abbrev n_l_place : List Str := ["_law_moment_here"]
theorem sc_l_place : FnScope n_l_place ["_law_moment_here"] (defScope s_l_place) := ⟨rfl, rfl, rfl, by decide +kernel, rfl, by decide +kernel, by decide +kernel⟩
abbrev s_l_moment : Stmt := top 26
abbrev n_l_moment : List Str := ["_law_draw", "_law_wide_here", "_law_some", "_law_turn"]
theorem sc_l_moment : FnScope n_l_moment ["_law_draw", "_law_wide_here"] (defScope s_l_moment) := ⟨rfl, rfl, rfl, by decide +kernel, rfl, by decide +kernel, by decide +kernel⟩
abbrev s_l_end : Stmt := top 27
abbrev n_l_end : List Str := ["_law_rides_here", "_law_moment_here", "_law_ends", "_law_begin_here", "_law_end_here"]
theorem sc_l_end : FnScope n_l_end ["_law_rides_here", "_law_moment_here"] (defScope s_l_end) := ⟨rfl, rfl, rfl, by decide +kernel, rfl, by decide +kernel, by decide +kernel⟩
abbrev s_l_begin : Stmt := top 28
abbrev n_l_begin : List Str := ["_law_rides_here", "_law_moment_here", "_law_begins", "_law_begin_here", "_law_end_here"]
theorem sc_l_begin : FnScope n_l_begin ["_law_rides_here", "_law_moment_here"] (defScope s_l_begin) := ⟨rfl, rfl, rfl, by decide +kernel, rfl, by decide +kernel, by decide +kernel⟩
abbrev s_l_later : Stmt := top 29
abbrev n_l_later : List Str := ["_law_one", "_law_two"]
theorem sc_l_later : FnScope n_l_later ["_law_one", "_law_two"] (defScope s_l_later) := ⟨rfl, rfl, rfl, by decide +kernel, rfl, by decide +kernel, by decide +kernel⟩
abbrev s_l_sooner : Stmt := top 30
abbrev n_l_sooner : List Str := ["_law_one", "_law_two"]
theorem sc_l_sooner : FnScope n_l_sooner ["_law_one", "_law_two"] (defScope s_l_sooner) := ⟨rfl, rfl, rfl, by decide +kernel, rfl, by decide +kernel, by decide +kernel⟩
abbrev s_l_turned : Stmt := top 31
abbrev n_l_turned : List Str := ["_law_moment_here"]
theorem sc_l_turned : FnScope n_l_turned ["_law_moment_here"] (defScope s_l_turned) := ⟨rfl, rfl, rfl, by decide +kernel, rfl, by decide +kernel, by decide +kernel⟩
abbrev s_l_right : Stmt := top 32
abbrev n_l_right : List Str := ["_law_draw", "_law_rides_here", "_law_others", "_law_one", "_law_two", "_law_chained", "_law_quick", "_law_slow_here", "_law_turned_here", "_law_turn", "_law_t", "_law_ends", "_law_begins", "_law_sooner_here", "_law_later_here", "_law_back", "_law_begin_here", "_law_end_here"]
theorem sc_l_right : FnScope n_l_right ["_law_draw", "_law_rides_here", "_law_others"] (defScope s_l_right) := ⟨rfl, rfl, rfl, by decide +kernel, rfl, by decide +kernel, by decide +kernel⟩
abbrev s_l_wide : Stmt := top 33
abbrev n_l_wide : List Str := ["_law_many", "_law_more", "_law_shift", "_law_one", "_law_two", "_law_found", "error", "_law_k"]
theorem sc_l_wide : FnScope n_l_wide ["_law_many", "_law_more", "_law_shift"] (defScope s_l_wide) := ⟨rfl, rfl, rfl, by decide +kernel, rfl, by decide +kernel, by decide +kernel⟩
abbrev s_l_slow : Stmt := top 34
abbrev n_l_slow : List Str := ["_law_many", "_law_more", "_law_one", "_law_two", "_law_found", "error", "_law_k"]
theorem sc_l_slow : FnScope n_l_slow ["_law_many", "_law_more"] (defScope s_l_slow) := ⟨rfl, rfl, rfl, by decide +kernel, rfl, by decide +kernel, by decide +kernel⟩
abbrev s_law : Stmt := top 35
abbrev n_law : List Str := ["_law_script", "_law_draw", "_law_turn", "_law_rides_here", "_law_others", "_law_third", "_law_slow_here", "_law_more", "_law_one", "_law_two", "_law_last", "_law_many", "_law_begin_here", "_law_end_here"]
theorem sc_law : FnScope n_law ["_law_script"] (defScope s_law) := ⟨rfl, rfl, rfl, by decide +kernel, rfl, by decide +kernel, by decide +kernel⟩
structure Txt (K : PySem.W.Frag) (mg : Str → Option Value) : Prop where
  b_abs : mg "abs" = none
  b_all : mg "all" = none
  b_bool : mg "bool" = none
  b_enumerate : mg "enumerate" = none
  b_int : mg "int" = none
  b_isinstance : mg "isinstance" = none
  b_len : mg "len" = none
  b_list : mg "list" = none
  b_property : mg "property" = none
  b_range : mg "range" = none
  b_repr : mg "repr" = none
  b_sorted : mg "sorted" = none
  b_str : mg "str" = none
  b_tuple : mg "tuple" = none
  g_is_number : mg "is_number" = some (.ref (He.ga K "is_number"))
  g_is_moment : mg "is_moment" = some (.ref (He.ga K "is_moment"))
  g_need_moment : mg "need_moment" = some (.ref (He.ga K "need_moment"))
  g_is_earlier : mg "is_earlier" = some (.ref (He.ga K "is_earlier"))
  g_sooner_of : mg "sooner_of" = some (.ref (He.ga K "sooner_of"))
  g_is_ride : mg "is_ride" = some (.ref (He.ga K "is_ride"))
  g_ended : mg "ended" = some (.ref (He.ga K "ended"))
  g_begun : mg "begun" = some (.ref (He.ga K "begun"))
  g_needed : mg "needed" = some (.ref (He.ga K "needed"))
  g_link_by : mg "link_by" = some (.ref (He.ga K "link_by"))
  g__law_begun : mg "_law_begun" = some (.ref (He.ga K "_law_begun"))
  g__law_next : mg "_law_next" = some (.ref (He.ga K "_law_next"))
  g__law_pick : mg "_law_pick" = some (.ref (He.ga K "_law_pick"))
  g__law_rides : mg "_law_rides" = some (.ref (He.ga K "_law_rides"))
  g__law_place : mg "_law_place" = some (.ref (He.ga K "_law_place"))
  g__law_moment : mg "_law_moment" = some (.ref (He.ga K "_law_moment"))
  g__law_end : mg "_law_end" = some (.ref (He.ga K "_law_end"))
  g__law_begin : mg "_law_begin" = some (.ref (He.ga K "_law_begin"))
  g__law_later : mg "_law_later" = some (.ref (He.ga K "_law_later"))
  g__law_sooner : mg "_law_sooner" = some (.ref (He.ga K "_law_sooner"))
  g__law_turned : mg "_law_turned" = some (.ref (He.ga K "_law_turned"))
  g__law_right : mg "_law_right" = some (.ref (He.ga K "_law_right"))
  g__law_wide : mg "_law_wide" = some (.ref (He.ga K "_law_wide"))
  g__law_slow : mg "_law_slow" = some (.ref (He.ga K "_law_slow"))
  g_law : mg "law" = some (.ref (He.ga K "law"))
  g_OrderError : mg "OrderError" = some (.ref (He.ga K "OrderError"))
  xp_OrderError : PySem.W.excIn K (He.ga K "OrderError") He.veBase "ValueError.__new__" = true ∧ PySem.W.keepIn K (.ref (He.ga K "OrderError")) = true ∧ PySem.W.subIn K (.ref (He.ga K "OrderError")) (.type "BaseException") = some true ∧ PySem.W.typeIn K (.ref (He.ga K "OrderError")) = some (.type "type")
  g_NoMoment : mg "NoMoment" = some (.ref (He.ga K "NoMoment"))
  xp_NoMoment : PySem.W.excIn K (He.ga K "NoMoment") He.veBase "ValueError.__new__" = true ∧ PySem.W.keepIn K (.ref (He.ga K "NoMoment")) = true ∧ PySem.W.subIn K (.ref (He.ga K "NoMoment")) (.type "BaseException") = some true ∧ PySem.W.typeIn K (.ref (He.ga K "NoMoment")) = some (.type "type")
  g_NoRides : mg "NoRides" = some (.ref (He.ga K "NoRides"))
  m_NoRides___init__ : Meth K (He.ga K "NoRides") "__init__" (He.ma K (He.ga K "NoRides") "__init__")
  na_NoRides_at : NoAttr K (He.ga K "NoRides") "at"
  g_TooMany : mg "TooMany" = some (.ref (He.ga K "TooMany"))
  m_TooMany___init__ : Meth K (He.ga K "TooMany") "__init__" (He.ma K (He.ga K "TooMany") "__init__")
  na_TooMany_most : NoAttr K (He.ga K "TooMany") "most"
  g_Link : mg "Link" = some (.ref (He.ga K "Link"))
  cl_Link : Cls K (He.ga K "Link")
  mk_Link : Mk K (He.ga K "Link") (He.ma K (He.ga K "Link") "__init__")
  m_Link_end : Meth K (He.ga K "Link") "end" (He.ma K (He.ga K "Link") "end")
  m_Link_begin : Meth K (He.ga K "Link") "begin" (He.ma K (He.ga K "Link") "begin")
  m_Link___eq__ : Meth K (He.ga K "Link") "__eq__" (He.ma K (He.ga K "Link") "__eq__")
  m_Link___mul__ : Meth K (He.ga K "Link") "__mul__" (He.ma K (He.ga K "Link") "__mul__")
  m_Link___or__ : Meth K (He.ga K "Link") "__or__" (He.ma K (He.ga K "Link") "__or__")
  m_Link___and__ : Meth K (He.ga K "Link") "__and__" (He.ma K (He.ga K "Link") "__and__")
  m_Link___invert__ : Meth K (He.ga K "Link") "__invert__" (He.ma K (He.ga K "Link") "__invert__")
  m_Link___le__ : Meth K (He.ga K "Link") "__le__" (He.ma K (He.ga K "Link") "__le__")
  na_Link_own_rides : NoAttr K (He.ga K "Link") "own_rides"
  c_FIRST : ∃ t, mg "FIRST" = some (.str "first" t)
  c_LAST : ∃ t, mg "LAST" = some (.str "last" t)
  c_MOST_RIDES : ∃ t, mg "MOST_RIDES" = some (.int 60 t)
  em_TooMany_TooMany : PySem.W.exmOne K (.ref (He.ga K "TooMany")) (.ref (He.ga K "TooMany")) = some true
  is_Link : InsF K (He.ga K "Link")
  sf_Link : PySem.W.selfFirst K (He.ga K "Link") = true
  ne_Link : PySem.W.findIn K (.ref (He.ga K "Link")) "__ne__" = some (some (.builtin "object.__ne__"))
  ob_Link : PySem.W.subIn K (.ref (He.ga K "Link")) (.type "object") = some true
  xf_NoMoment : ExF K (He.ga K "NoMoment")
  xf_NoRides : ExF K (He.ga K "NoRides")
  xf_TooMany : ExF K (He.ga K "TooMany")
  xf_OrderError : ExF K (He.ga K "OrderError")
  xo_NoRides : OexC K (He.ga K "NoRides")
  xo_TooMany : OexC K (He.ga K "TooMany")
  oe : OeI K (He.ga K "OrderError")
  p_Link_rides : PropOf K (He.ga K "Link") "rides" (propAt K (He.ga K "Link") "rides") (propGet K (He.ga K "Link") "rides")
end Nw

namespace Nw
open PySem PySem.Spec PyProof.Rows L2
section
variable {P : Program} {w : World} {K : PySem.W.Frag} {mg : Str → Option Value} {base : Heap}
theorem nn_mul {x y : Int} (hx : 0 ≤ x) (hy : 0 ≤ y) : 0 ≤ x * y := Int.mul_nonneg hx hy
theorem pow3_nn {x : Int} (h : 0 ≤ x) (n : Nat) : 0 ≤ x ^ n := Int.pow_nonneg h
theorem ok_l_next (T : Txt K mg) (F : FnAt K "_law_next" "_law_next" s_l_next (He.ga K "_law_next")) : Ok P w K mg base CX0 1 (He.ga K "_law_next") ["_law_draw", "_law_many"] spNext := by
  refine ok_of F sc_l_next (fun _ _ _ _ _ _ us hl => match us, hl with | [_, _], _ => rfl) (fun vs H Q E h => ?_) (fun cdv A outer s H vs Q E hr h => ?_)
  · obtain ⟨_, _, _, _, rfl, _⟩ := h
    rfl
  · obtain ⟨I, D, n, many, rfl, hD, hm0, hm1, hn, k⟩ := h
    refine ⟨_, pss_mid (ps_while PassesOwn.never (PW.pt (pw_and (pt_cmpR op_eq (pe_dget (hu_of hr) (pv 0) pe_str (fun _ _ => rfl)) pe_int (nomark _)) (pw_and1 (pt_cmpR (op_neNil hr.units) (pe_dget (hu_of hr) (pv 0) pe_str (fun _ _ => rfl)) (pe_lst pa_nil) (nomark _))))) (pss_one (ps_dput (hu_of hr) (pv 0) pe_str (pe_bm PySem.F.plainAttrs_list PySem.F.slot_list_pop PySem.F.type_list_pop mt_popAt (pe_dget (hu_of hr) (pv 0) pe_str (fun _ _ => rfl)) (pa_cons pe_int pa_nil)) rfl)))
      (pss_cons (ps_if (pt_cmpR op_gt (pe_dget (hu_of hr) (pv 0) pe_str (fun _ _ => rfl)) pe_int (nomark _)) (pss_cons (ps_set (i := 2) sc_l_next.nd rfl (Or.inl rfl) (pe_op op_mod (pe_callTy call_int1 (by rfl) T.b_int (by decide +kernel) (pa_cons (pe_dget (hu_of hr) (pv 0) pe_str (fun _ _ => rfl)) pa_nil)) (pv 1)))
      (pss_cons (ps_dput (hu_of hr) (pv 0) pe_str (pe_op op_fdiv (pe_dget (hu_of hr) (pv 0) pe_str (fun _ _ => rfl)) (pv 1)) rfl)
      (pss_one (ps_ret (pv 2))))) pss_nil)
      (pss_cons (ps_daug (hu_of hr) (pv 0) pe_str pe_int in_add (fun _ _ _ => rfl))
      (pss_cons (ps_set (i := 3) sc_l_next.nd rfl (Or.inl rfl) (pe_dget (hu_of hr) (pv 0) pe_str (fun _ _ => rfl)))
      (pss_cons (ps_set (i := 4) sc_l_next.nd rfl (Or.inl rfl) pe_int)
      (pss_mid (ps_if (pt_cmpR (op_neNil hr.units) (pe_dget (hu_of hr) (pv 0) pe_str (fun _ _ => rfl)) (pe_lst pa_nil) (nomark _)) (pss_one (ps_set (i := 4) sc_l_next.nd rfl (Or.inl rfl) (pe_ix ix_list (pe_dget (hu_of hr) (pv 0) pe_str (fun _ _ => rfl)) (pe_op op_mod (pe_callTy call_int1 (by rfl) T.b_int (by decide +kernel) (pa_cons (pv 3) pa_nil)) (pe_callB call_len_seq (by rfl) T.b_len (by decide +kernel) (pa_cons (pe_dget (hu_of hr) (pv 0) pe_str (fun _ _ => rfl)) pa_nil))) (fun _ _ => rfl)))) pss_nil)
      (pss_cons (ps_set (i := 5) sc_l_next.nd rfl (Or.inl rfl) (pe_op op_mod (pe_callTy call_int1 (by rfl) T.b_int (by decide +kernel) (pa_cons (pe_op op_pow (pe_op op_add (pe_op op_mod (pe_callTy call_int1 (by rfl) T.b_int (by decide +kernel) (pa_cons (pv 4) pa_nil)) pe_int) (pe_op op_mul pe_int (pv 3))) pe_int) pa_nil)) pe_int))
      (pss_one (ps_ret (pe_op op_mod (pe_callTy call_int1 (by rfl) T.b_int (by decide +kernel) (pa_cons (pe_op op_fdiv (pe_op op_mod (pe_callTy call_int1 (by rfl) T.b_int (by decide +kernel) (pa_cons (pe_op op_pow (pe_op op_add (pv 5) (pe_op op_mul pe_int (pv 3))) pe_int) pa_nil)) pe_int) pe_int) pa_nil)) (pv 1)))))))))), ?_⟩
    obtain ⟨dig0, tn, gs0, ls, s0, hd0, ht0, htn, hg0, hl0⟩ := hD.ex
    -- the while: the rest of the great numbers falls
    refine ⟨fun σ H2 => ∃ (dig : Int) (gs : List Int), σ = [some (.ref D.d), some (.int many), none, none, none, none] ∧ DrS D dig tn gs ls I H2 ∧ 0 ≤ dig ∧ (∀ g ∈ gs, 0 ≤ g) ∧ Grow (TD D) I H I H2, ?_, ?_⟩
    · refine ⟨fun m σ H' => ∃ (dig : Int) (gs : List Int), m = gs.length ∧ σ = [some (.ref D.d), some (.int many), none, none, none, none] ∧ DrS D dig tn gs ls I H' ∧ 0 ≤ dig ∧ (∀ g ∈ gs, 0 ≤ g) ∧ Grow (TD D) I H I H',
        ⟨_, dig0, gs0, rfl, rfl, s0, hd0, hg0, Grow.refl s0.sub⟩, ?_⟩
      rintro m σ H1 ⟨dig, gs, rfl, rfl, s1, hd1, hg1, G1⟩
      refine ⟨_, rfl, D.d, _, rfl, s1.get_dig, rfl, _, rfl, ?_⟩
      by_cases c : dig = 0
      · subst c
        rw [decide_eq_true rfl]
        refine iteT ⟨_, rfl, D.d, _, rfl, s1.get_great, by decide, fun p hp => ⟨D.g, p, _, rfl, rfl, SqL.of (by rw [upd_ne (ne_of_none s1.hg hp)]; exact s1.hg), SqL.of upd_same, _, rfl, ?_⟩⟩
        have G2 : Grow (TD D) I H I (upd H1 p (.lst [])) := G1.trans (Grow.mine G1.sub hp)
        have s2 : DrS D 0 tn gs ls I (upd H1 p (.lst [])) := s1.put (fun t => s1.live p t hp) (G1.sub.free hp)
        cases gs with
        | nil => exact ⟨0, [], rfl, s2, hd1, hg1, G2⟩
        | cons g r =>
          refine ⟨fun σ' H' => ∃ (dig : Int), σ' = [some (.ref D.d), some (.int many), none, none, none, none] ∧ DrS D dig tn r ls I H' ∧ 0 ≤ dig ∧ (∀ g ∈ r, 0 ≤ g) ∧ Grow (TD D) I H I H', fun σ' H' ⟨dig, e, a⟩ => ⟨r.length, Nat.lt_succ_self _, dig, r, rfl, e, a⟩, ?_⟩
          refine ⟨_, rfl, D.d, _, rfl, s2.get_great, .inl ⟨rfl, _, SqL.of s2.hg⟩, D.g, _, 0, 0, _, rfl, rfl, s2.hg, by decide, by decide, by simp [seqIndex?], rfl, ?_⟩
          have G3 := s2.gg (o := .lst (r.map V.int)) G2
          have s3 : DrS D 0 tn r ls I (upd (upd H1 p (.lst [])) D.g (.lst (r.map V.int))) := s2.up G3.sub (by rw [upd_ne s1.dg]; exact s2.hd) upd_same (by rw [upd_ne s1.gl.symm]; exact s2.hl)
          refine ⟨_, rfl, D.d, _, rfl, s3.put_dig, g, rfl, ?_, hg1 g (List.mem_cons_self ..), fun x hx => hg1 x (List.mem_cons_of_mem _ hx), s3.gd G3⟩
          exact s3.up (s3.gd G3).sub upd_same (by rw [upd_ne s1.dg.symm]; exact s3.hg) (by rw [upd_ne s1.dl.symm]; exact s3.hl)
      · rw [decide_eq_false (fun z => c (V.int.inj z))]
        exact iteF ⟨dig, gs, rfl, s1, hd1, hg1, G1⟩
    · rintro σ H1 ⟨dig, gs, rfl, s1, hd1, hg1, G1⟩
      refine ⟨_, rfl, D.d, _, rfl, s1.get_dig, _, _, rfl, rfl, _, rfl, ?_⟩
      by_cases c : 0 < dig
      · rw [decide_eq_true c]
        refine iteT ⟨_, rfl, D.d, _, rfl, s1.get_dig, .inl ⟨_, rfl, _, rfl, _, _, rfl, rfl, hm0, ?_⟩⟩
        refine ⟨_, rfl, D.d, _, rfl, s1.get_dig, _, rfl, _, _, rfl, rfl, ⟨hm0, hm1⟩, _, rfl, D.d, _, rfl, s1.put_dig, _, rfl, ?_⟩
        refine k _ _ (Int.emod_nonneg _ (Int.ne_of_gt hm0)) (Int.emod_lt_of_pos _ hm0) (s1.gd G1) ⟨dig / many, tn, gs, ls, ?_, Int.ediv_nonneg hd1 (Int.le_of_lt hm0), ht0, by omega, hg1, hl0⟩
        exact s1.up (s1.gd G1).sub upd_same (by rw [upd_ne s1.dg.symm]; exact s1.hg) (by rw [upd_ne s1.dl.symm]; exact s1.hl)
      · rw [decide_eq_false c]
        refine iteF ?_
        -- the turn
        have G2 := s1.gd (o := .dK (drK D dig (tn + 1))) G1
        have s2 : DrS D dig (tn + 1) gs ls I (upd H1 D.d (.dK (drK D dig (tn + 1)))) := s1.up G2.sub upd_same (by rw [upd_ne s1.dg.symm]; exact s1.hg) (by rw [upd_ne s1.dl.symm]; exact s1.hl)
        refine ⟨_, rfl, D.d, _, rfl, s1.get_turn, _, _, rfl, rfl, _, s1.put_turn, ?_⟩
        refine ⟨_, rfl, D.d, _, rfl, s2.get_turn, ?_⟩
        -- a lump
        have ht1 : 0 ≤ tn + 1 := by omega
        refine ⟨fun σ H2 => ∃ (lump : Int), σ = [some (.ref D.d), some (.int many), none, some (.int (tn + 1)), some (.int lump), none] ∧ 0 ≤ lump ∧ DrS D dig (tn + 1) gs ls I H2 ∧ Grow (TD D) I H I H2, ?_, ?_⟩
        · refine ⟨_, rfl, D.d, _, rfl, s2.get_lumps, by decide, fun p hp => ⟨D.l, p, _, rfl, rfl, SqL.of (by rw [upd_ne (ne_of_none s2.hl hp)]; exact s2.hl), SqL.of upd_same, _, rfl, ?_⟩⟩
          have G3 : Grow (TD D) I H I (upd (upd H1 D.d (.dK (drK D dig (tn + 1)))) p (.lst [])) := G2.trans (Grow.mine G2.sub hp)
          have s3 : DrS D dig (tn + 1) gs ls I (upd (upd H1 D.d (.dK (drK D dig (tn + 1)))) p (.lst [])) := s2.put (fun t => s2.live p t hp) (G2.sub.free hp)
          cases ls with
          | nil => exact ⟨0, rfl, Int.le_refl 0, s3, G3⟩
          | cons l0 lr =>
            have hpos : (0 : Int) < ((List.map V.int (l0 :: lr)).length : Int) := by simp only [List.map_cons, List.length_cons]; omega
            have hi0 := Int.emod_nonneg (tn + 1) (Int.ne_of_gt hpos)
            have hi1 := Int.emod_lt_of_pos (tn + 1) hpos
            have hlt : ((tn + 1) % ((List.map V.int (l0 :: lr)).length : Int)).toNat < (l0 :: lr).length := by
              have e : (List.map V.int (l0 :: lr)).length = (l0 :: lr).length := List.length_map ..
              rw [e] at hi0 hi1 ⊢
              omega
            refine ⟨_, rfl, D.d, _, rfl, s3.get_lumps, _, rfl, .inl ⟨_, rfl, _, rfl, D.d, _, rfl, s3.get_lumps, D.l, _, rfl, .inl (SqL.of s3.hl), ?_⟩⟩
            refine ⟨_, _, rfl, rfl, hpos, D.l, _, _, .int ((l0 :: lr)[((tn + 1) % ((List.map V.int (l0 :: lr)).length : Int)).toNat]'hlt), rfl, rfl, SqL.of s3.hl, ?_, ?_⟩
            · have e : (tn + 1) % ((List.map V.int (l0 :: lr)).length : Int) = (((tn + 1) % ((List.map V.int (l0 :: lr)).length : Int)).toNat : Int) := (Int.toNat_of_nonneg hi0).symm
              refine at_of e ?_
              rw [List.getElem?_map, List.getElem?_eq_getElem hlt]
              rfl
            · exact ⟨_, rfl, hl0 _ (List.getElem_mem hlt), s3, G3⟩
        · rintro σ H2 ⟨lump, rfl, hlump, s3, G3⟩
          have hb : tn + 1 ≤ 1099511627776 := by
            have q : n < 1099511627776 := hn
            omega
          have m0 := Int.emod_nonneg lump (show (2147483629 : Int) ≠ 0 by decide)
          have m1 := Int.emod_lt_of_pos lump (show (0 : Int) < 2147483629 by decide)
          refine ⟨_, rfl, .inl ⟨_, rfl, _, _, rfl, rfl, (by show (0 : Int) < 2147483629; decide), _, rfl, _, _, rfl, rfl, .inl ⟨by decide, by decide⟩, ?_⟩⟩
          refine ⟨_, _, rfl, rfl, _, _, rfl, rfl, ⟨by decide, by decide, ?_⟩, .inl ⟨_, rfl, _, _, rfl, rfl, (by show (0 : Int) < 2147483647; decide), ?_⟩⟩
          · omega
          have q0 : (0 : Int) ≤ (lump % 2147483629 + 40009 * (tn + 1)) ^ (3 : Int).toNat % 2147483647 := Int.emod_nonneg _ (by decide)
          have q1 : (lump % 2147483629 + 40009 * (tn + 1)) ^ (3 : Int).toNat % 2147483647 < 2147483647 := Int.emod_lt_of_pos _ (by decide)
          revert q0 q1
          generalize (lump % 2147483629 + 40009 * (tn + 1)) ^ (3 : Int).toNat % 2147483647 = mixed
          intro q0 q1
          refine ⟨_, rfl, _, rfl, _, _, rfl, rfl, .inl ⟨by decide, by decide⟩, ?_⟩
          refine ⟨_, _, rfl, rfl, _, _, rfl, rfl, ⟨by decide, by decide, by omega⟩, .inl ⟨_, rfl, _, _, rfl, rfl, (by show (0 : Int) < 2147483629; decide), _, _, rfl, rfl, ⟨by decide, by decide⟩, .inl ⟨_, rfl, ?_⟩⟩⟩
          refine ⟨_, rfl, _, _, rfl, rfl, hm0, ?_⟩
          exact k _ _ (Int.emod_nonneg _ (Int.ne_of_gt hm0)) (Int.emod_lt_of_pos _ hm0) G3 ⟨dig, tn + 1, gs, ls, s3, hd1, ht1, by omega, hg1, hl0⟩

theorem getI0 {ns : List Int} {i : Nat} {v : V} (h : (ns.map V.int)[i]? = some v) : ∃ k, ns[i]? = some k ∧ v = .int k := by
  rw [List.getElem?_map] at h
  cases e : ns[i]? with
  | none => rw [e] at h; cases h
  | some k => rw [e] at h; exact ⟨k, rfl, (Option.some.inj h).symm⟩
/-- the source of draws of a script -/
def spBegun (K : PySem.W.Frag) : Sp := fun vs H Q _ => ∃ (I : Hp) (a : Addr) (ns : List Int), vs = [.ref a] ∧ Same I H ∧ SqL K I a (ns.map V.int) ∧ ns.length ≤ 63 ∧
  ∀ (D : DA) (I' H' : Hp), Grow No I H I' H' → Drw D 0 I' H' → Q (.ref D.d) H'
theorem abs_nn (i : Int) : 0 ≤ (if i < 0 then -i else i) := by split <;> omega
theorem ok_l_begun (T : Txt K mg) (F : FnAt K "_law_begun" "_law_begun" s_l_begun (He.ga K "_law_begun")) : Ok P w K mg base CX0 1 (He.ga K "_law_begun") ["_law_script"] (spBegun K) := by
  refine ok_of F sc_l_begun (fun _ _ _ _ _ _ us hl => match us, hl with | [_], _ => rfl) (fun vs H Q E h => ?_) (fun cdv A outer s H vs Q E hr h => ?_)
  · obtain ⟨_, _, _, rfl, _⟩ := h
    rfl
  · obtain ⟨I, a, ns, rfl, sb, hS, hl, k⟩ := h
    refine ⟨_, (pss_cons (ps_setLc (i := 1) (own := [("_law_lump", 2)]) (g := (gName 2)) rfl sc_l_begun.nd rfl rfl (sw_true rfl rfl rfl (by decide +kernel)) (pi_list (pv 0)) (blkOk_by (own := [("_law_lump", 2)]) (N := n_l_begun) (sc := defScope s_l_begun) (by decide +kernel)) (fun _ _ _ _ _ => (pg_name (i := 2) sc_l_begun.nd rfl (Or.inl rfl))) (fun _ _ _ _ _ => (pts_one (pt_cmpR op_ge (pe_callB call_abs (by rfl) T.b_abs (by decide +kernel) (pa_cons (pv 2) pa_nil)) (pe_op op_pow pe_int pe_int) (nomark _)))) (fun _ _ _ _ _ => (pe_op op_fdivW (pe_callB call_abs (by rfl) T.b_abs (by decide +kernel) (pa_cons (pv 2) pa_nil)) (pe_op op_pow pe_int pe_int))))
      (pss_one (ps_ret (pe_disp (pps_cons pe_str pe_int (pps_cons pe_str (pv 1) (pps_cons pe_str (pe_lc (own := [("_law_lump", 2)]) (g := (gName 2)) rfl sc_l_begun.nd (pi_list (pv 0)) (blkOk_by (own := [("_law_lump", 2)]) (N := n_l_begun) (sc := defScope s_l_begun) (by decide +kernel)) (fun _ _ _ _ _ => (pg_name (i := 2) sc_l_begun.nd rfl (Or.inl rfl))) (fun _ _ _ _ _ => pts_nil) (fun _ _ _ _ _ => (pe_op op_mod (pe_callTy call_int1 (by rfl) T.b_int (by decide +kernel) (pa_cons (pe_callB call_abs (by rfl) T.b_abs (by decide +kernel) (pa_cons (pv 2) pa_nil)) pa_nil)) (pe_op op_pow pe_int pe_int)))) (pps_cons pe_str pe_int pps_nil)))) (by rfl) (by rfl) (fun z => by cases z) (by decide))))), ?_⟩
    have hS1 : SqL K H a (ns.map V.int) := sb.seq hS
    refine ⟨_, rfl, a, rfl, ⟨_, hS1⟩, fun L hL => ?_⟩
    refine lc_gen (T := No) (I := I) (β := Int) (walk_list (K := K) (a := a) (xs := ns.map V.int)) (fun _ _ _ => True) (fun _ => Stable.triv) sb (fun _ z => z.elim) hL trivial (by rw [List.length_map]; omega) (fun i I' H' g _ => g.same.seq hS1)
      (fun _ o => ∀ y, o = some y → 0 ≤ y) ?_ ?_
    · rintro i x I' H' H'' hi g _ ⟨rfl, hx⟩ Kn Ky kn ky
      obtain ⟨z, hz, rfl⟩ := getI0 hx
      refine ⟨rfl, _, rfl, _, rfl, _, _, rfl, rfl, ⟨by decide, by decide, by decide⟩, _, _, rfl, rfl, _, rfl, ?_⟩
      refine ite2 (fun _ => ?_) (fun _ => kn (fun y e => nomatch e) I' H'' (Grow.refl g.sub) trivial)
      refine ⟨_, rfl, _, rfl, _, _, rfl, rfl, ⟨by decide, by decide, by decide⟩, _, _, rfl, rfl, ⟨by decide, by decide⟩, ?_⟩
      exact ky _ (fun y e => by cases e; exact Int.ediv_nonneg (abs_nn z) (by decide)) _ I' H'' (Grow.refl g.sub) trivial rfl
    · intro os I1 H1 vs' hlen hP g1 _ ow hp
      have hg : ∀ z ∈ os.filterMap id, (0 : Int) ≤ z := fun z hz => by
        obtain ⟨o, ho, e⟩ := List.mem_filterMap.mp hz
        obtain ⟨j, hj, e2⟩ := List.mem_iff_getElem.mp ho
        exact hP j o (by rw [List.getElem?_eq_getElem hj, e2]) z e
      have e1 := Paired.ints hp
      subst e1
      -- the dict, with the second list made within its display
      intro p hp1
      have G2 := g1.trans (Grow.mine (o := .dK []) g1.sub hp1)
      have ow2 := ow.grow (Grow.mine (T := No) (o := .dK []) g1.sub hp1)
      have op : Own No H p (.dK []) I1 (upd H1 p (.dK [])) := Own.new g1.sub (.inr g1.live) (fun _ z => z.elim) hp1
      have npL : p ≠ L := (ne_of_none ow.at_ hp1).symm
      refine ⟨_, rfl, _, rfl, a, rfl, ⟨_, G2.same.seq hS1⟩, fun M hM => ?_⟩
      refine lc_gen (T := No) (I := I1) (β := Int) (walk_list (K := K) (a := a) (xs := ns.map V.int)) (fun _ _ _ => True) (fun _ => Stable.triv) G2.sub (fun _ z => z.elim) hM trivial (by rw [List.length_map]; omega) (fun i I' H' g _ => g.same.seq (G2.same.seq hS1))
        (fun _ o => ∀ y, o = some y → 0 ≤ y) ?_ ?_
      · rintro i x I' H' H'' hi g _ ⟨rfl, hx⟩ Kn Ky kn ky
        obtain ⟨z, hz, rfl⟩ := getI0 hx
        refine ⟨rfl, lc_yes ?_⟩
        refine ⟨_, rfl, _, rfl, .inl ⟨_, rfl, _, _, rfl, rfl, ⟨by decide, by decide, by decide⟩, _, _, rfl, rfl, (by show (0 : Int) < 10 ^ Int.toNat 18; decide), ?_⟩⟩
        exact ky _ (fun y e => by cases e; exact Int.emod_nonneg _ (by decide)) _ I' H'' (Grow.refl g.sub) trivial rfl
      · intro os2 I2 H2 vs2 hlen2 hP2 g2 _ owM hp2
        have hl2 : ∀ z ∈ os2.filterMap id, (0 : Int) ≤ z := fun z hz => by
          obtain ⟨o, ho, e⟩ := List.mem_filterMap.mp hz
          obtain ⟨j, hj, e2⟩ := List.mem_iff_getElem.mp ho
          exact hP2 j o (by rw [List.getElem?_eq_getElem hj, e2]) z e
        have e2 := Paired.ints hp2
        subst e2
        have ow3 := ow2.grow g2
        have op3 := op.grow g2
        have nML : M ≠ L := (ne_of_none ow2.at_ hM).symm
        have nMp : M ≠ p := (ne_of_none op.at_ hM).symm
        refine ⟨op3.at_, [(.inr "digits", .int 0), (.inr "great", .ref L), (.inr "lumps", .ref M), (.inr "turn", .int 0)], rfl, (by show 4 ≤ 15; decide), ?_⟩
        have em : mergeK [] [((.inr "digits" : Key), V.int 0), ((.inr "great" : Key), V.ref L), ((.inr "lumps" : Key), V.ref M), ((.inr "turn" : Key), V.int 0)] = drK ⟨p, L, M⟩ 0 0 := merge_nodup (show ([(.inr "digits" : Key), .inr "great", .inr "lumps", .inr "turn"]).Nodup by decide +kernel)
        rw [em]
        have opg : Own No H p (.dK []) I2 H2 := op3
        have G4 : Grow No I H I2 (upd H2 p (.dK (drK ⟨p, L, M⟩ 0 0))) := (G2.trans g2).put opg
        refine k ⟨p, L, M⟩ I2 _ G4 ⟨0, 0, _, _, ⟨?_, ?_, ?_, ?_, npL, nMp.symm, nML.symm, upd_same, by rw [upd_ne npL.symm]; exact ow3.at_, by rw [upd_ne nMp]; exact owM.at_⟩, Int.le_refl 0, Int.le_refl 0, Int.le_refl 0, hg, hl2⟩
        · exact G4.sub
        · exact op3.ni
        · exact ow3.ni
        · exact owM.ni
end
end Nw

namespace Nw
open PySem PySem.Spec PyProof.Rows L2
/-! ### moments -/
inductive Mom where
  | first
  | num (t : Int)
  | last
  deriving DecidableEq
def Mom.v : Mom → V
  | .first => .str "first"
  | .num t => .int t
  | .last => .str "last"
theorem fl_ne : ¬ (("first" : Str) = "last") := by decide +kernel
theorem Mom.v_inj : ∀ {a b : Mom}, a.v = b.v → a = b
  | .first, .first, _ => rfl
  | .last, .last, _ => rfl
  | .num t, .num u, h => by rw [V.int.inj h]
  | .first, .last, h => absurd (V.str.inj h) fl_ne
  | .last, .first, h => absurd (V.str.inj h).symm fl_ne
  | .first, .num _, h => nomatch h
  | .last, .num _, h => nomatch h
  | .num _, .first, h => nomatch h
  | .num _, .last, h => nomatch h
theorem Mom.eqv (a b : Mom) : decide (a.v = b.v) = decide (a = b) := by
  by_cases h : a = b
  · subst h; rw [decide_eq_true rfl, decide_eq_true rfl]
  · rw [decide_eq_false h, decide_eq_false fun z => h (Mom.v_inj z)]
theorem Mom.scal (a b : Mom) : scal a.v b.v = true := by cases a <;> cases b <;> rfl
theorem Mom.flat (a : Mom) : flatV a.v = true := by cases a <;> rfl
def Mom.lt : Mom → Mom → Bool
  | .last, _ => false
  | _, .first => false
  | .first, _ => true
  | _, .last => true
  | .num a, .num b => decide (a < b)
def Mom.isNum : Mom → Bool
  | .num _ => true
  | _ => false
instance : Rep Mom := ⟨fun _ v m => v = m.v, fun _ h => h⟩
abbrev Rides : Type := List (Int × Int)
def endedL (rs : Rides) : Mom → Mom
  | .num t => match rs.filterMap (fun r => if r.1 ≥ t then some r.2 else none) with
    | [] => .last
    | e :: _ => .num e
  | m => m
def begunL (rs : Rides) : Mom → Mom
  | .num t => match (rs.filterMap (fun r => if r.2 ≤ t then some r.1 else none)).reverse with
    | [] => .first
    | b :: _ => .num b
  | m => m
def sp_is_number (K : PySem.W.Frag) : Sp := fun vs H Q _ => ∃ m : Mom, vs = [m.v] ∧ Q (.bl m.isNum) H
def sp_is_moment (K : PySem.W.Frag) : Sp := fun vs H Q _ => ∃ (I : Hp) (m : Mom), vs = [m.v] ∧ Same I H ∧ ∀ I' H', Grow No I H I' H' → Q (.bl true) H'
def sp_need_moment (K : PySem.W.Frag) : Sp := fun vs H Q _ => ∃ (I : Hp) (m : Mom), vs = [m.v] ∧ Same I H ∧ ∀ I' H', Grow No I H I' H' → Q .non H'
def sp_is_earlier (K : PySem.W.Frag) : Sp := fun vs H Q _ => ∃ a b : Mom, vs = [a.v, b.v] ∧ Q (.bl (a.lt b)) H
def sp_is_ride (K : PySem.W.Frag) : Sp := fun vs H Q _ => ∃ (I : Hp) (v : V) (r : Int × Int), vs = [v] ∧ Rep.is I v r ∧ Same I H ∧ Q (.bl (decide (r.1 ≤ r.2))) H
def sp_ended (K : PySem.W.Frag) : Sp := fun vs H Q _ => ∃ (I : Hp) (v : V) (rs : Rides) (m : Mom), vs = [v, m.v] ∧ isU I v rs ∧ rs.length ≤ 100000 ∧ Same I H ∧ ∀ I' H', Grow No I H I' H' → Q (endedL rs m).v H'
def sp_begun (K : PySem.W.Frag) : Sp := fun vs H Q _ => ∃ (I : Hp) (v : V) (rs : Rides) (m : Mom), vs = [v, m.v] ∧ isU I v rs ∧ rs.length ≤ 100000 ∧ Same I H ∧ ∀ I' H', Grow No I H I' H' → Q (begunL rs m).v H'
section
variable {P : Program} {w : World} {K : PySem.W.Frag} {mg : Str → Option Value} {base : Heap}
theorem ty_mom (H : Hp) : ∀ m : Mom, ∃ n, TyX K H m.v (.type n) ∧ (n = "str" ∧ m.isNum = false ∨ n = "int" ∧ m.isNum = true)
  | .first => ⟨_, .base (.str _), .inl ⟨rfl, rfl⟩⟩
  | .last => ⟨_, .base (.str _), .inl ⟨rfl, rfl⟩⟩
  | .num t => ⟨_, .base (.int _), .inr ⟨rfl, rfl⟩⟩
theorem ok_is_number (T : Txt K mg) (F : FnAt K "is_number" "is_number" s_is_number (He.ga K "is_number"))  : Ok P w K mg base CX0 1 (He.ga K "is_number") ["thing"] (sp_is_number K) := by
  refine ok_of F sc_is_number (fun _ _ _ _ _ _ us hl => match us, hl with | [_], _ => rfl) (fun vs H Q E h => ?_) (fun cdv A outer s H vs Q E hr h => ?_)
  · obtain ⟨_, rfl, _⟩ := h
    rfl
  · obtain ⟨m, rfl, k⟩ := h
    refine ⟨_, (pss_one (ps_ret (pe_and (pe_callB call_isi (by rfl) T.b_isinstance (by decide +kernel) (pa_cons (pv 0) (pa_cons (pe_bltn (v := .ty "int") rfl T.b_int (by decide +kernel) rfl) pa_nil))) (pe_one (pe_not (pe_callB call_isi (by rfl) T.b_isinstance (by decide +kernel) (pa_cons (pv 0) (pa_cons (pe_bltn (v := .ty "bool") rfl T.b_bool (by decide +kernel) rfl) pa_nil)))))))), ?_⟩
    obtain ⟨n, ty, ⟨rfl, e⟩ | ⟨rfl, e⟩⟩ := ty_mom (K := K) H m
    · rw [e] at k
      exact ⟨_, rfl, m.v, .ty "int", _, _, false, rfl, .ty _, ty, kit_ty (by decide +kernel), false, rfl, iteF k⟩
    · rw [e] at k
      exact ⟨_, rfl, m.v, .ty "int", _, _, true, rfl, .ty _, ty, kit_ty (by decide +kernel), true, rfl, iteT ⟨_, rfl, m.v, .ty "bool", _, _, false, rfl, .ty _, ty, kit_ty (by decide +kernel), false, rfl, k⟩⟩
theorem ok_is_moment (T : Txt K mg) (F : FnAt K "is_moment" "is_moment" s_is_moment (He.ga K "is_moment")) (G_is_number : Ok P w K mg base CX0 1 (He.ga K "is_number") ["thing"] (sp_is_number K)) : Ok P w K mg base CX0 2 (He.ga K "is_moment") ["thing"] (sp_is_moment K) := by
  refine ok_of F sc_is_moment (fun _ _ _ _ _ _ us hl => match us, hl with | [_], _ => rfl) (fun vs H Q E h => ?_) (fun cdv A outer s H vs Q E hr h => ?_)
  · obtain ⟨_, _, rfl, _⟩ := h
    rfl
  · obtain ⟨I, m, rfl, sb, k⟩ := h
    refine ⟨_, (pss_one (ps_ret (pe_or (pe_callC G_is_number (hr.mono (by decide)) T.g_is_number (pa_cons (pv 0) pa_nil)) (pe_one (pe_and (pe_callB call_isi (by rfl) T.b_isinstance (by decide +kernel) (pa_cons (pv 0) (pa_cons (pe_bltn (v := .ty "str") rfl T.b_str (by decide +kernel) rfl) pa_nil))) (pe_one (pe_cmpR op_in_seq (pv 0) (pe_tup (pa_cons (pe_gstr T.c_FIRST) (pa_cons (pe_gstr T.c_LAST) pa_nil))) (by with_unfolding_all rfl)))))))), ?_⟩
    obtain ⟨n, ty, ⟨rfl, e⟩ | ⟨rfl, e⟩⟩ := ty_mom (K := K) H m
    · refine ⟨_, rfl, m, rfl, ?_⟩
      rw [e]
      refine ⟨false, rfl, iteF ⟨_, rfl, m.v, .ty "str", _, _, true, rfl, .ty _, ty, kit_ty (by decide +kernel), true, rfl, iteT ⟨_, rfl, by decide, fun p hp => ?_⟩⟩⟩
      refine ⟨p, _, rfl, .inr (SqT.of upd_same), m.flat, rfl, ?_⟩
      have h1 : inV m.v [V.str "first", V.str "last"] = true := by
        cases m with
        | num t => cases e
        | first => exact rfl
        | last => exact rfl
      show Q (.bl (inV m.v [V.str "first", V.str "last"])) _
      rw [h1]
      exact k _ _ (Grow.new sb hp)
    · refine ⟨_, rfl, m, rfl, ?_⟩
      rw [e]
      exact ⟨true, rfl, iteT (k I H (Grow.refl sb))⟩
theorem ok_need_moment (T : Txt K mg) (F : FnAt K "need_moment" "need_moment" s_need_moment (He.ga K "need_moment")) (G_is_moment : Ok P w K mg base CX0 2 (He.ga K "is_moment") ["thing"] (sp_is_moment K)) : Ok P w K mg base CX0 3 (He.ga K "need_moment") ["moment"] (sp_need_moment K) := by
  refine ok_of F sc_need_moment (fun _ _ _ _ _ _ us hl => match us, hl with | [_], _ => rfl) (fun vs H Q E h => ?_) (fun cdv A outer s H vs Q E hr h => ?_)
  · obtain ⟨_, _, rfl, _⟩ := h
    rfl
  · obtain ⟨I, m, rfl, sb, k⟩ := h
    refine ⟨_, (pss_one (ps_if (pt_not (pt_val (pe_callC G_is_moment (hr.mono (by decide)) T.g_is_moment (pa_cons (pv 0) pa_nil)))) (pss_one ps_never) pss_nil)), ?_⟩
    exact ⟨_, rfl, I, m, rfl, sb, fun I' H' g => ⟨true, rfl, iteF (k I' H' g)⟩⟩
theorem ok_is_earlier (T : Txt K mg) (F : FnAt K "is_earlier" "is_earlier" s_is_earlier (He.ga K "is_earlier"))  : Ok P w K mg base CX0 1 (He.ga K "is_earlier") ["one", "other"] (sp_is_earlier K) := by
  refine ok_of F sc_is_earlier (fun _ _ _ _ _ _ us hl => match us, hl with | [_, _], _ => rfl) (fun vs H Q E h => ?_) (fun cdv A outer s H vs Q E hr h => ?_)
  · obtain ⟨_, _, rfl, _⟩ := h
    rfl
  · obtain ⟨a, b, rfl, k⟩ := h
    refine ⟨_, (pss_cons (ps_if (PW.pt (pw_or (pt_cmpR op_eq (pv 0) (pv 1) (nomark _)) (pw_or (pt_cmpR op_eq (pv 0) (pe_gstr T.c_LAST) (nomark _)) (pw_or1 (pt_cmpR op_eq (pv 1) (pe_gstr T.c_FIRST) (nomark _)))))) (pss_one (ps_ret pe_bl)) pss_nil)
      (pss_one (ps_ret (pe_or (pe_cmpR op_eq (pv 0) (pe_gstr T.c_FIRST) (nomark _)) (pe_or (pe_cmpR op_eq (pv 1) (pe_gstr T.c_LAST) (nomark _)) (pe_one (pe_cmpR op_lt (pv 0) (pv 1) (nomark _)))))))), ?_⟩
    refine ⟨_, rfl, _, rfl, a.scal b, _, rfl, ?_⟩
    rw [Mom.eqv]
    by_cases h1 : a = b
    · subst h1
      rw [decide_eq_true rfl]
      have e : a.lt a = false := by cases a <;> simp [Mom.lt]
      rw [e] at k
      exact iteT k
    rw [decide_eq_false h1]
    refine iteF ⟨_, rfl, a.scal .last, _, rfl, ?_⟩
    have e2 : decide (a.v = .str "last") = decide (a = .last) := a.eqv .last
    rw [e2]
    by_cases h2 : a = .last
    · subst h2
      rw [decide_eq_true rfl]
      exact iteT k
    rw [decide_eq_false h2]
    refine iteF ⟨_, rfl, b.scal .first, _, rfl, ?_⟩
    have e3 : decide (b.v = .str "first") = decide (b = .first) := b.eqv .first
    rw [e3]
    by_cases h3 : b = .first
    · subst h3
      rw [decide_eq_true rfl]
      have e : a.lt .first = false := by cases a <;> simp [Mom.lt]
      rw [e] at k
      exact iteT k
    rw [decide_eq_false h3]
    refine iteF ?_
    refine ⟨_, rfl, a.scal .first, _, rfl, ?_⟩
    have e4 : decide (a.v = .str "first") = decide (a = .first) := a.eqv .first
    rw [e4]
    by_cases h4 : a = .first
    · subst h4
      rw [decide_eq_true rfl]
      have e : Mom.lt .first b = true := by cases b <;> first | rfl | exact absurd rfl h3
      rw [e] at k
      exact iteT k
    rw [decide_eq_false h4]
    refine iteF ⟨_, rfl, b.scal .last, _, rfl, ?_⟩
    have e5 : decide (b.v = .str "last") = decide (b = .last) := b.eqv .last
    rw [e5]
    by_cases h5 : b = .last
    · subst h5
      rw [decide_eq_true rfl]
      have e : a.lt .last = true := by cases a <;> first | rfl | exact absurd rfl h4 | exact absurd rfl h2
      rw [e] at k
      exact iteT k
    rw [decide_eq_false h5]
    match a, b, h2, h3, h4, h5, k with
    | .num s, .num t, _, _, _, _, k => exact iteF ⟨_, rfl, _, rfl, _, _, rfl, rfl, k⟩
    | .first, _, _, _, h4, _, _ => exact absurd rfl h4
    | .last, _, h2, _, _, _, _ => exact absurd rfl h2
    | .num _, .first, _, h3, _, _, _ => exact absurd rfl h3
    | .num _, .last, _, _, _, h5, _ => exact absurd rfl h5
theorem ok_is_ride (T : Txt K mg) (F : FnAt K "is_ride" "is_ride" s_is_ride (He.ga K "is_ride")) (G_is_number : Ok P w K mg base CX0 1 (He.ga K "is_number") ["thing"] (sp_is_number K)) : Ok P w K mg base CX0 2 (He.ga K "is_ride") ["thing"] (sp_is_ride K) := by
  refine ok_of F sc_is_ride (fun _ _ _ _ _ _ us hl => match us, hl with | [_], _ => rfl) (fun vs H Q E h => ?_) (fun cdv A outer s H vs Q E hr h => ?_)
  · obtain ⟨_, _, _, rfl, _⟩ := h
    rfl
  · obtain ⟨I, v, ⟨b, e⟩, rfl, ⟨a, v1, v2, rfl, ha, h1, h2⟩, sb, k⟩ := h
    cases h1
    cases h2
    refine ⟨_, (pss_cons (ps_if (PW.pt (pw_or (pt_not (pt_val (pe_callB call_isi (by rfl) T.b_isinstance (by decide +kernel) (pa_cons (pv 0) (pa_cons (pe_bltn (v := .ty "tuple") rfl T.b_tuple (by decide +kernel) rfl) pa_nil))))) (pw_or (pt_cmpR op_ne (pe_callB call_len_seq (by rfl) T.b_len (by decide +kernel) (pa_cons (pv 0) pa_nil)) pe_int (nomark _)) (pw_or (pt_not (pt_val (pe_callC G_is_number (hr.mono (by decide)) T.g_is_number (pa_cons (pe_ix ix_tup (pv 0) pe_int (fun _ _ => rfl)) pa_nil)))) (pw_or1 (pt_not (pt_val (pe_callC G_is_number (hr.mono (by decide)) T.g_is_number (pa_cons (pe_ix ix_tup (pv 0) pe_int (fun _ _ => rfl)) pa_nil))))))))) (pss_one (ps_ret pe_bl)) pss_nil)
      (pss_one (ps_ret (pe_cmpR op_le (pe_ix ix_tup (pv 0) pe_int (fun _ _ => rfl)) (pe_ix ix_tup (pv 0) pe_int (fun _ _ => rfl)) (nomark _))))), ?_⟩
    have hT : SqT K H a [.int b, .int e] := SqT.of (sb _ _ ha)
    refine ⟨_, rfl, .ref a, .ty "tuple", _, _, true, rfl, .ty _, .base (.tup (sb _ _ ha)), kit_ty (by decide +kernel), true, rfl, iteF ?_⟩
    refine ⟨_, rfl, a, _, rfl, .inr hT, rfl, _, rfl, iteF ?_⟩
    refine ⟨_, rfl, a, _, _, _, rfl, rfl, hT, rfl, .num b, rfl, true, rfl, iteF ?_⟩
    refine ⟨_, rfl, a, _, _, _, rfl, rfl, hT, rfl, .num e, rfl, true, rfl, iteF ?_⟩
    exact ⟨_, rfl, a, _, _, _, rfl, rfl, hT, rfl, _, rfl, a, _, _, _, rfl, rfl, hT, rfl, _, _, rfl, rfl, k⟩
theorem ok_ended (T : Txt K mg) (F : FnAt K "ended" "ended" s_ended (He.ga K "ended"))  : Ok P w K mg base CX0 1 (He.ga K "ended") ["rides", "moment"] (sp_ended K) := by
  refine ok_of F sc_ended (fun _ _ _ _ _ _ us hl => match us, hl with | [_, _], _ => rfl) (fun vs H Q E h => ?_) (fun cdv A outer s H vs Q E hr h => ?_)
  · obtain ⟨_, _, _, _, rfl, _⟩ := h
    rfl
  · obtain ⟨I, v, rs, m, rfl, ⟨a, vs, rfl, ha, hp⟩, hz, sb, k⟩ := h
    refine ⟨_, (pss_cons (ps_if (pt_cmpR op_in_seq (pv 1) (pe_tup (pa_cons (pe_gstr T.c_FIRST) (pa_cons (pe_gstr T.c_LAST) pa_nil))) (by with_unfolding_all rfl)) (pss_one (ps_ret (pv 1))) pss_nil)
      (pss_cons (ps_setLc (i := 2) (own := [("begin", 3), ("end", 4)]) (g := (gTup K 2 (gCons (gName 3) (gCons (gName 4) gNil)))) rfl sc_ended.nd rfl rfl (sw_true rfl rfl rfl (by decide +kernel)) (pi_tup (pv 0)) (blkOk_by (own := [("begin", 3), ("end", 4)]) (N := n_ended) (sc := defScope s_ended) (by decide +kernel)) (fun _ _ _ _ _ => (pg_tup (by rfl) (pgs_cons (pg_name (i := 3) sc_ended.nd rfl (Or.inl rfl)) (pgs_cons (pg_name (i := 4) sc_ended.nd rfl (Or.inl rfl)) pgs_nil)))) (fun _ _ _ _ _ => (pts_one (pt_cmpR op_ge (pv 3) (pv 1) (nomark _)))) (fun _ _ _ _ _ => (pv 4)))
      (pss_one (ps_ret (pe_ifExp (pt_cmpR (op_neNil hr.units) (pv 2) (pe_lst pa_nil) (nomark _)) (pe_ix ix_list (pv 2) pe_int (fun _ _ => rfl)) (pe_gstr T.c_LAST)))))), ?_⟩
    refine ⟨_, rfl, by decide, fun p hp1 => ⟨p, _, rfl, .inr (SqT.of upd_same), m.flat, rfl, _, rfl, ?_⟩⟩
    have g1 : Grow No I H _ (upd H p (.tup [V.str "first", V.str "last"])) := Grow.new sb hp1
    match m, k with
    | .first, k => exact iteT ⟨_, rfl, k _ _ g1⟩
    | .last, k => exact iteT ⟨_, rfl, k _ _ g1⟩
    | .num t, k =>
      refine iteF ⟨_, rfl, a, rfl, ⟨_, SqT.of (g1.sub _ _ (g1.view _ _ ha))⟩, fun L hL => ?_⟩
      refine lc_pure (β := Int) walk_tup rs (fun r => if r.1 ≥ t then some r.2 else none) (Nw.Paired.len hp).symm g1.sub hL (by rw [Nw.Paired.len hp]; omega) (fun I' H' g => SqT.of (g.sub _ _ (g.view _ _ (g1.view _ _ ha)))) ?_ ?_
      · rintro i r x I' H' H'' hr g ⟨rfl, hx⟩ Kn Ky kn ky
        obtain ⟨x', hx', b, v1, v2, rfl, hb, h1, h2⟩ := Nw.Paired.at hp hr
        rw [hx] at hx'
        cases hx'
        cases h1
        cases h2
        refine ⟨b, _, rfl, SqT.of (g.sub _ _ (g.view _ _ (g1.view _ _ hb))), rfl, _, _, rfl, _, _, rfl, rfl, rfl, ?_⟩
        refine ⟨_, rfl, _, rfl, _, _, rfl, rfl, _, rfl, ?_⟩
        refine ite2 (fun c => ?_) (fun c => ?_)
        · exact ⟨_, rfl, ky _ (if_pos (of_decide_eq_true c)) _ I' H'' (Grow.refl g.sub) rfl⟩
        · exact kn (if_neg (fun z => c (decide_eq_true z))) I' H'' (Grow.refl g.sub)
      · intro I2 H2 vs2 g2 ow hp2
        have e := Paired.ints hp2
        subst e
        have ek : endedL rs (.num t) = (match rs.filterMap (fun r => if r.1 ≥ t then some r.2 else none) with
          | [] => .last
          | e :: _ => .num e) := rfl
        rw [ek] at k
        revert ow hp2 k
        generalize rs.filterMap (fun r => if r.1 ≥ t then some r.2 else none) = es
        intro k ow hp2
        refine ⟨_, rfl, by decide, fun q hq => ⟨L, q, _, rfl, rfl, SqL.of (by rw [upd_ne (ne_of_none ow.at_ hq)]; exact ow.at_), SqL.of upd_same, _, rfl, ?_⟩⟩
        have g3 := (g1.trans g2).trans (Grow.mine (T := No) (o := .lst []) g2.sub hq)
        cases es with
        | nil => exact iteF (k _ _ g3)
        | cons e r => exact iteT ⟨_, rfl, L, _, _, _, rfl, rfl, SqL.of (by rw [upd_ne (ne_of_none ow.at_ hq)]; exact ow.at_), (by rw [atI_nat' (j := 0) (by decide)]; rfl), k _ _ g3⟩
theorem ok_begun (T : Txt K mg) (F : FnAt K "begun" "begun" s_begun (He.ga K "begun"))  : Ok P w K mg base CX0 1 (He.ga K "begun") ["rides", "moment"] (sp_begun K) := by
  refine ok_of F sc_begun (fun _ _ _ _ _ _ us hl => match us, hl with | [_, _], _ => rfl) (fun vs H Q E h => ?_) (fun cdv A outer s H vs Q E hr h => ?_)
  · obtain ⟨_, _, _, _, rfl, _⟩ := h
    rfl
  · obtain ⟨I, v, rs, m, rfl, ⟨a, vs, rfl, ha, hp⟩, hz, sb, k⟩ := h
    refine ⟨_, (pss_cons (ps_if (pt_cmpR op_in_seq (pv 1) (pe_tup (pa_cons (pe_gstr T.c_FIRST) (pa_cons (pe_gstr T.c_LAST) pa_nil))) (by with_unfolding_all rfl)) (pss_one (ps_ret (pv 1))) pss_nil)
      (pss_cons (ps_setLc (i := 2) (own := [("begin", 3), ("end", 4)]) (g := (gTup K 2 (gCons (gName 3) (gCons (gName 4) gNil)))) rfl sc_begun.nd rfl rfl (sw_true rfl rfl rfl (by decide +kernel)) (pi_tup (pv 0)) (blkOk_by (own := [("begin", 3), ("end", 4)]) (N := n_begun) (sc := defScope s_begun) (by decide +kernel)) (fun _ _ _ _ _ => (pg_tup (by rfl) (pgs_cons (pg_name (i := 3) sc_begun.nd rfl (Or.inl rfl)) (pgs_cons (pg_name (i := 4) sc_begun.nd rfl (Or.inl rfl)) pgs_nil)))) (fun _ _ _ _ _ => (pts_one (pt_cmpR op_le (pv 4) (pv 1) (nomark _)))) (fun _ _ _ _ _ => (pv 3)))
      (pss_one (ps_ret (pe_ifExp (pt_cmpR (op_neNil hr.units) (pv 2) (pe_lst pa_nil) (nomark _)) (pe_ix ix_list (pv 2) (pe_un un_neg pe_int) (fun _ _ => rfl)) (pe_gstr T.c_FIRST)))))), ?_⟩
    refine ⟨_, rfl, by decide, fun p hp1 => ⟨p, _, rfl, .inr (SqT.of upd_same), m.flat, rfl, _, rfl, ?_⟩⟩
    have g1 : Grow No I H _ (upd H p (.tup [V.str "first", V.str "last"])) := Grow.new sb hp1
    match m, k with
    | .first, k => exact iteT ⟨_, rfl, k _ _ g1⟩
    | .last, k => exact iteT ⟨_, rfl, k _ _ g1⟩
    | .num t, k =>
      refine iteF ⟨_, rfl, a, rfl, ⟨_, SqT.of (g1.sub _ _ (g1.view _ _ ha))⟩, fun L hL => ?_⟩
      refine lc_pure (β := Int) walk_tup rs (fun r => if r.2 ≤ t then some r.1 else none) (Nw.Paired.len hp).symm g1.sub hL (by rw [Nw.Paired.len hp]; omega) (fun I' H' g => SqT.of (g.sub _ _ (g.view _ _ (g1.view _ _ ha)))) ?_ ?_
      · rintro i r x I' H' H'' hr g ⟨rfl, hx⟩ Kn Ky kn ky
        obtain ⟨x', hx', b, v1, v2, rfl, hb, h1, h2⟩ := Nw.Paired.at hp hr
        rw [hx] at hx'
        cases hx'
        cases h1
        cases h2
        refine ⟨b, _, rfl, SqT.of (g.sub _ _ (g.view _ _ (g1.view _ _ hb))), rfl, _, _, rfl, _, _, rfl, rfl, rfl, ?_⟩
        refine ⟨_, rfl, _, rfl, _, _, rfl, rfl, _, rfl, ?_⟩
        refine ite2 (fun c => ?_) (fun c => ?_)
        · exact ⟨_, rfl, ky _ (if_pos (of_decide_eq_true c)) _ I' H'' (Grow.refl g.sub) rfl⟩
        · exact kn (if_neg (fun z => c (decide_eq_true z))) I' H'' (Grow.refl g.sub)
      · intro I2 H2 vs2 g2 ow hp2
        have e := Paired.ints hp2
        subst e
        have ek : begunL rs (.num t) = (match (rs.filterMap (fun r => if r.2 ≤ t then some r.1 else none)).reverse with
          | [] => .first
          | b :: _ => .num b) := rfl
        rw [ek] at k
        revert ow hp2 k
        generalize rs.filterMap (fun r => if r.2 ≤ t then some r.1 else none) = es
        intro k ow hp2
        refine ⟨_, rfl, by decide, fun q hq => ⟨L, q, _, rfl, rfl, SqL.of (by rw [upd_ne (ne_of_none ow.at_ hq)]; exact ow.at_), SqL.of upd_same, _, rfl, ?_⟩⟩
        have g3 := (g1.trans g2).trans (Grow.mine (T := No) (o := .lst []) g2.sub hq)
        have er : es = es.reverse.reverse := es.reverse_reverse.symm
        cases hes : es.reverse with
        | nil =>
          rw [hes] at er
          subst er
          rw [hes] at k
          exact iteF (k _ _ g3)
        | cons e r =>
          rw [hes] at er k
          have hne : (es.map V.int).isEmpty = false := by
            rw [er]
            simp
          rw [hne]
          refine iteT ⟨_, rfl, _, rfl, L, es.map V.int, _, .int e, rfl, rfl, SqL.of (by rw [upd_ne (ne_of_none ow.at_ hq)]; exact ow.at_), ?_, k _ _ g3⟩
          rw [er, List.map_reverse]
          exact atI_rev _ 0 _ (by decide)
end
end Nw

namespace Nw
open PySem PySem.Spec PyProof.Rows L2
theorem Paired.rev {α β : Type} {F : α → β → Prop} : ∀ {xs : List α} {ys : List β}, Paired F xs ys → Paired F xs.reverse ys.reverse
  | _, _, .nil => .nil
  | _, _, .cons a t => by
    rw [List.reverse_cons, List.reverse_cons]
    exact Nw.Paired.snoc (Paired.rev t) a
theorem Paired.last {α β : Type} {F : α → β → Prop} {xs : List α} {ys : List β} {y : β} (h : Paired F xs (ys ++ [y])) : ∃ x xr, xs = xr ++ [x] ∧ F x y := by
  have h2 := Paired.rev h
  rw [List.reverse_append] at h2
  cases e : xs.reverse with
  | nil => rw [e] at h2; cases h2
  | cons x r =>
    rw [e] at h2
    cases h2 with
    | cons h3 h4 => exact ⟨x, r.reverse, by rw [← List.reverse_reverse xs, e, List.reverse_cons], h3⟩
/-- the needed ones of some rides, ascending -/
structure IsNeeded (rs ns : Rides) : Prop where
  asc : ns.Pairwise fun a b => a.1 < b.1 ∧ a.2 < b.2
  sub : ∀ n ∈ ns, n ∈ rs
  cov : ∀ r ∈ rs, ∃ n ∈ ns, r.1 ≤ n.1 ∧ n.2 ≤ r.2
/-! a dict of numbers, as pairs -/
def kvI (p : Int × Int) : Key × V := (.inl p.1, .int p.2)
def lookM (m : Rides) (b : Int) : Option Int := (m.find? fun p => decide (p.1 = b)).map (·.2)
def putM (m : Rides) (b e : Int) : Rides := if (m.any fun p => decide (p.1 = b)) = true then m.map (fun p => if p.1 = b then (p.1, e) else p) else m ++ [(b, e)]
theorem valV_I (b : Int) : ∀ m : Rides, valV (m.map kvI) (.inl b) = (lookM m b).map V.int
  | [] => rfl
  | p :: r => by
    by_cases h : p.1 = b
    · have e1 : lookM (p :: r) b = some p.2 := by simp [lookM, h]
      rw [e1, List.map_cons]
      exact valV_pos (by show (Sum.inl p.1 : Key) = Sum.inl b; rw [h])
    · have e1 : lookM (p :: r) b = lookM r b := by simp [lookM, h]
      rw [e1, List.map_cons, ← valV_I b r]
      exact valV_neg (fun z => h (Sum.inl.inj z))
theorem putK_I (m : Rides) (b e : Int) : putK (m.map kvI) (.inl b) (.int e) = (putM m b e).map kvI := by
  unfold putK putM
  have e1 : ((m.map kvI).any fun kv => decide (kv.1 = Sum.inl b)) = (m.any fun p => decide (p.1 = b)) := by
    rw [List.any_map]
    congr 1
    funext p
    show decide ((Sum.inl p.1 : Key) = Sum.inl b) = decide (p.1 = b)
    by_cases h : p.1 = b
    · rw [h, decide_eq_true rfl, decide_eq_true rfl]
    · rw [decide_eq_false h, decide_eq_false fun z => h (Sum.inl.inj z)]
  rw [e1]
  split
  · rw [List.map_map, List.map_map]
    congr 1
    funext p
    show (if (Sum.inl p.1 : Key) = Sum.inl b then ((Sum.inl p.1 : Key), V.int e) else kvI p) = kvI (if p.1 = b then (p.1, e) else p)
    by_cases h : p.1 = b
    · rw [if_pos h, if_pos (by rw [h])]
      rfl
    · rw [if_neg h, if_neg fun z => h (Sum.inl.inj z)]
  · rw [List.map_append]
    rfl
theorem lookM_none {m : Rides} {b : Int} (h : lookM m b = none) : ∀ p ∈ m, p.1 ≠ b := by
  intro p hp z
  unfold lookM at h
  rw [Option.map_eq_none_iff, List.find?_eq_none] at h
  exact h p hp (decide_eq_true z)
theorem lookM_some {m : Rides} {b e : Int} (h : lookM m b = some e) : (b, e) ∈ m := by
  unfold lookM at h
  rw [Option.map_eq_some_iff] at h
  obtain ⟨p, h1, h2⟩ := h
  have h3 := List.mem_of_find?_eq_some h1
  have h4 : p.1 = b := by simpa using List.find?_some h1
  cases p
  simp only at h2 h4
  subst h2 h4
  exact h3
theorem mem_putM {m : Rides} {b e : Int} {p : Int × Int} : p ∈ putM m b e ↔ p = (b, e) ∨ (p ∈ m ∧ p.1 ≠ b) := by
  unfold putM
  split
  · rename_i h
    rw [List.any_eq_true] at h
    obtain ⟨q, hq, hb⟩ := h
    have hb := of_decide_eq_true hb
    rw [List.mem_map]
    constructor
    · rintro ⟨r, hr, rfl⟩
      by_cases c : r.1 = b
      · rw [if_pos c]
        left
        rw [← c]
      · rw [if_neg c]
        exact .inr ⟨hr, c⟩
    · rintro (rfl | ⟨hp, c⟩)
      · exact ⟨q, hq, by rw [if_pos hb, hb]⟩
      · exact ⟨p, hp, by rw [if_neg c]⟩
  · rename_i h
    have hn : ∀ q ∈ m, q.1 ≠ b := fun q hq z => h (List.any_eq_true.mpr ⟨q, hq, decide_eq_true z⟩)
    rw [List.mem_append, List.mem_singleton]
    constructor
    · rintro (z | z)
      · exact .inr ⟨z, hn p z⟩
      · exact .inl z
    · rintro (z | z)
      · exact .inr z
      · exact .inl z.1
theorem keys_putM {m : Rides} {b e : Int} (h : (m.map (·.1)).Nodup) : ((putM m b e).map (·.1)).Nodup := by
  unfold putM
  split
  · have e1 : (m.map fun p => if p.1 = b then (p.1, e) else p).map (·.1) = m.map (·.1) := by
      rw [List.map_map]
      congr 1
      funext p
      show (if p.1 = b then (p.1, e) else p).1 = p.1
      split <;> rfl
    rw [e1]
    exact h
  · rename_i c
    rw [List.map_append, List.map_singleton]
    refine List.nodup_append.mpr ⟨h, by simp, fun x hx y hy => ?_⟩
    rw [List.mem_singleton] at hy
    subst hy
    rintro rfl
    obtain ⟨p, hp, e1⟩ := List.mem_map.mp hx
    exact c (List.any_eq_true.mpr ⟨p, hp, decide_eq_true e1⟩)
theorem len_putM (m : Rides) (b e : Int) : (putM m b e).length ≤ m.length + 1 := by
  unfold putM
  split
  · rw [List.length_map]; omega
  · rw [List.length_append]; simp
def sp_needed (K : PySem.W.Frag) : Sp := fun vs H Q _ => ∃ (I : Hp) (t : Bool) (v : V) (rs : Rides), vs = [v] ∧ isS t I v rs ∧ rs.length ≤ 100000 ∧ Same I H ∧ ∀ ns v' I' H', Grow No I H I' H' → isU I' v' ns → IsNeeded rs ns → Q v' H'
def ndJ (I H : Hp) (a d q L : Addr) (m : Rides) (kr : List Int) (v3 : Option V) (i : Nat) (σ : L2.St) (H' : Hp) : Prop :=
  ∃ (I' : Hp) (fs : Rides) (ws : List V) (v2 : Option V), σ = [some (.ref a), some (.ref d), v2, v3, some (.ref L), none] ∧ Grow No I H I' H' ∧ Own No H d (.dK (m.map kvI)) I' H' ∧ Own No H q (.lst (kr.map V.int)) I' H' ∧ Own No H L (.lst ws) I' H' ∧ Paired (Rep.is I') ws fs ∧
    fs.length ≤ i ∧ (fs.Pairwise fun a b => b.1 < a.1 ∧ b.2 < a.2) ∧ (∀ n ∈ fs, n ∈ m ∧ n.1 ∈ kr.take i) ∧ (∀ b ∈ kr.take i, ∀ e, (b, e) ∈ m → ∃ n ∈ fs, b ≤ n.1 ∧ n.2 ≤ e)
theorem getI {ns : List Int} {i : Nat} {v : V} (h : (ns.map V.int)[i]? = some v) : ∃ k, ns[i]? = some k ∧ v = .int k := by
  rw [List.getElem?_map] at h
  cases e : ns[i]? with
  | none => rw [e] at h; cases h
  | some k => rw [e] at h; exact ⟨k, rfl, (Option.some.inj h).symm⟩
section
variable {P : Program} {w : World} {K : PySem.W.Frag} {mg : Str → Option Value} {base : Heap}
theorem ok_needed (T : Txt K mg) (F : FnAt K "needed" "needed" s_needed (He.ga K "needed"))  : Ok P w K mg base CX0 1 (He.ga K "needed") ["rides"] (sp_needed K) := by
  refine ok_of F sc_needed (fun _ _ _ _ _ _ us hl => match us, hl with | [_], _ => rfl) (fun vs H Q E h => ?_) (fun cdv A outer s H vs Q E hr h => ?_)
  · obtain ⟨_, _, _, _, rfl, _⟩ := h
    rfl
  · obtain ⟨I, tt, v, rs, rfl, ⟨a, vs, rfl, ha, hp⟩, hz, sb, k⟩ := h
    refine ⟨_, (pss_cons (ps_set (i := 1) sc_needed.nd rfl (Or.inl rfl) pe_dnewK)
      (pss_cons (ps_for PassesOwn.never rfl (pi_seq (pv 0)) (pg_tup (by rfl) (pgs_cons (pg_name (i := 2) sc_needed.nd rfl (Or.inl rfl)) (pgs_cons (pg_name (i := 3) sc_needed.nd rfl (Or.inl rfl)) pgs_nil))) (pss_one (ps_dput (hu_of hr) (pv 1) (pv 2) (pe_ifExp (PW.pt (pw_or (pt_cmp (pc_dnotin (hu_of hr) (pv 2) (pv 1))) (pw_or1 (pt_cmpR op_lt (pv 3) (pe_dget (hu_of hr) (pv 1) (pv 2) (fun _ _ => rfl)) (nomark _))))) (pv 3) (pe_dget (hu_of hr) (pv 1) (pv 2) (fun _ _ => rfl))) rfl)))
      (pss_cons (ps_set (i := 4) sc_needed.nd rfl (Or.inl rfl) (pe_lst pa_nil))
      (pss_cons (ps_for PassesOwn.never rfl (pi_list (pe_revL (pe_callB cr_sortedI (by rfl) T.b_sorted (by decide +kernel) (pa_cons (pe_lock (pe_lc (own := [("one", 5)]) (g := (gName 5)) rfl sc_needed.nd (pi_keys (pv 1)) (blkOk_by (own := [("one", 5)]) (N := n_needed) (sc := defScope s_needed) (by decide +kernel)) (fun _ _ _ _ _ => (pg_name (i := 5) sc_needed.nd rfl (Or.inl rfl))) (fun _ _ _ _ _ => pts_nil) (fun _ _ _ _ _ => (pe_callTy call_int1 (by rfl) T.b_int (by decide +kernel) (pa_cons (pv 5) pa_nil))))) pa_nil)))) (pg_name (i := 2) sc_needed.nd rfl (Or.inl rfl)) (pss_one (ps_if (PW.pt (pw_or (pt_cmpR (op_eqNil hr.units) (pv 4) (pe_lst pa_nil) (nomark _)) (pw_or1 (pt_cmpR op_lt (pe_dget (hu_of hr) (pv 1) (pv 2) (fun _ _ => rfl)) (pe_ix ix_tup (pe_ix ix_list (pv 4) (pe_un un_neg pe_int) (fun _ _ => rfl)) pe_int (fun _ _ => rfl)) (nomark _))))) (pss_one (ps_expr (pe_bm PySem.F.plainAttrs_list PySem.F.slot_list_append PySem.F.type_list_append mt_append (pv 4) (pa_cons (pe_tup (pa_cons (pv 2) (pa_cons (pe_dget (hu_of hr) (pv 1) (pv 2) (fun _ _ => rfl)) pa_nil))) pa_nil)))) pss_nil)))
      (pss_one (ps_ret (pe_callTy call_tuple_of (by rfl) T.b_tuple (by decide +kernel) (pa_cons (pe_revL (pv 4)) pa_nil)))))))), ?_⟩
    intro d hd
    refine ⟨_, rfl, a, tt, rfl, ⟨_, SqB.of (by rw [upd_ne (ne_of_none (sb _ _ ha) hd)]; exact sb _ _ ha)⟩, ?_⟩
    refine for_it walk_seq (fun i σ H' => ∃ (I' : Hp) (m : Rides) (v2 v3 : Option V), σ = [some (.ref a), some (.ref d), v2, v3, none, none] ∧ Grow No I H I' H' ∧ Own No H d (.dK (m.map kvI)) I' H' ∧ (m.map (·.1)).Nodup ∧ (∀ p ∈ m, p ∈ rs.take i) ∧ (∀ r ∈ rs.take i, ∃ e, (r.1, e) ∈ m ∧ e ≤ r.2) ∧ m.length ≤ i)
      ⟨I, [], none, none, rfl, Grow.mine sb hd, Own.new sb (.inl (Same.refl H)) (fun _ z => z.elim) hd, .nil, (fun p z => nomatch z), (fun r z => by simp at z), Nat.le_refl _⟩ (fun i σ H' _ ⟨I', _, _, _, _, g, _⟩ => SqB.of (g.same _ _ (sb _ _ ha))) ?_ ?_
    · rintro i x σ H2 H3 hi ⟨I', m, v2, v3, rfl, g, ow, nd, h1, h2, hl⟩ ⟨rfl, hx⟩
      obtain ⟨r, hr, b, w1, w2, rfl, hb, e1, e2⟩ := Nw.Paired.at' hp hx
      cases e1
      cases e2
      have hi2 : i < rs.length := by
        have := Nw.Paired.len hp
        omega
      refine ⟨b, _, rfl, SqT.of (g.same _ _ (sb _ _ hb)), rfl, _, _, rfl, _, _, rfl, rfl, ?_⟩
      -- the value
      have hget : DGet H3 d (.int r.1) ((lookM m r.1).map V.int) := by
        have z := DGet.k (k := .inl r.1) ow.at_
        rw [valV_I] at z
        exact z
      have fin : ∀ e, (e = r.2 ∨ (r.1, e) ∈ m) → e ≤ r.2 → (∀ e', (r.1, e') ∈ m → e ≤ e') →
          ∃ (a2 : Addr) (H4 : Hp), (V.ref d) = V.ref a2 ∧ DPut H3 a2 (.int r.1) (.int e) H4 ∧ ∃ (I' : Hp) (m : Rides) (v2 v3 : Option V), [some (V.ref a), some (V.ref d), some (V.int r.1), some (V.int r.2), none, none] = [some (.ref a), some (.ref d), v2, v3, none, none] ∧ Grow No I H I' H4 ∧ Own No H d (.dK (m.map kvI)) I' H4 ∧ (m.map (·.1)).Nodup ∧ (∀ p ∈ m, p ∈ rs.take (i + 1)) ∧ (∀ r ∈ rs.take (i + 1), ∃ e, (r.1, e) ∈ m ∧ e ≤ r.2) ∧ m.length ≤ i + 1 := by
        intro e he hle hmin
        have z := DPut.k (k := .inl r.1) (v := .int e) ow.at_ (by rw [List.length_map, sizeLine_eq]; omega)
        rw [putK_I] at z
        refine ⟨d, _, rfl, z, I', putM m r.1 e, _, _, rfl, g.put ow, ow.put, keys_putM nd, fun p hp' => ?_, fun q hq => ?_, Nat.le_trans (len_putM _ _ _) (by omega)⟩
        · rw [mem_take hr]
          rcases mem_putM.mp hp' with rfl | ⟨z, _⟩
          · rcases he with rfl | he
            · exact .inr rfl
            · exact .inl (h1 _ he)
          · exact .inl (h1 p z)
        · rcases (mem_take hr).mp hq with q1 | rfl
          · obtain ⟨e', he', hle'⟩ := h2 q q1
            by_cases c : q.1 = r.1
            · exact ⟨e, mem_putM.mpr (.inl (by rw [c])), by rw [c] at he'; exact Int.le_trans (hmin e' he') hle'⟩
            · exact ⟨e', mem_putM.mpr (.inr ⟨he', c⟩), hle'⟩
          · exact ⟨e, mem_putM.mpr (.inl rfl), hle⟩
      have uniq : ∀ e e', (r.1, e) ∈ m → (r.1, e') ∈ m → e = e' := fun e e' p1 p2 => by
        obtain ⟨i1, l1, q1⟩ := List.mem_iff_getElem.mp p1
        obtain ⟨i2, l2, q2⟩ := List.mem_iff_getElem.mp p2
        have key : (m.map (·.1))[i1]'(by simpa using l1) = (m.map (·.1))[i2]'(by simpa using l2) := by
          rw [List.getElem_map, List.getElem_map, q1, q2]
        have ei : i1 = i2 := (List.getElem_inj nd).mp key
        subst ei
        rw [q1] at q2
        exact (Prod.mk.inj q2).2
      cases hlk : lookM m r.1 with
      | none =>
        rw [hlk] at hget
        refine ⟨_, rfl, _, rfl, d, _, rfl, hget, true, rfl, ?_⟩
        refine iteT ?_
        refine iteT ?_
        exact ⟨_, rfl, _, rfl, _, rfl, fin r.2 (.inl rfl) (Int.le_refl _) fun e' he' => (lookM_none hlk (r.1, e') he' rfl).elim⟩
      | some e0 =>
        rw [hlk] at hget
        have hm0 := lookM_some hlk
        refine ⟨_, rfl, _, rfl, d, _, rfl, hget, false, rfl, ?_⟩
        refine iteF ?_
        refine ⟨_, rfl, _, rfl, _, rfl, d, _, rfl, hget, _, _, rfl, rfl, _, rfl, ?_⟩
        by_cases c : r.2 < e0
        · rw [decide_eq_true c]
          refine iteT ?_
          exact ⟨_, rfl, _, rfl, _, rfl, fin r.2 (.inl rfl) (Int.le_refl _) fun e' he' => by rw [uniq _ _ he' hm0]; omega⟩
        · rw [decide_eq_false c]
          refine iteF ?_
          exact ⟨_, rfl, _, rfl, d, _, rfl, hget, _, rfl, _, rfl, fin e0 (.inr hm0) (by omega) fun e' he' => by rw [uniq _ _ he' hm0]; exact Int.le_refl _⟩
    · rintro σ H2 ⟨I', m, v2, v3, rfl, g, ow, nd, h1, h2, hl⟩
      have et : rs.take vs.length = rs := by rw [Nw.Paired.len hp, List.take_length]
      rw [et] at h1 h2
      refine ⟨Nat.zero_le _, fun L hL => ?_⟩
      have gL := g.trans (Grow.mine (T := No) (o := .lst []) g.sub hL)
      have owL : Own No H L (.lst []) I' (upd H2 L (.lst [])) := Own.new g.sub (.inr g.live) (fun _ z => z.elim) hL
      have owd := ow.grow (Grow.mine (T := No) (o := .lst []) g.sub hL)
      have ndL : d ≠ L := ne_of_none ow.at_ hL
      -- sorted([int(one) for one in ends])[::-1]
      refine ⟨d, _, owd.at_, trivial, fun od => ?_⟩
      have gf := gL.put (o' := .frz od (.dK (m.map kvI))) owd
      have owf : Own No H d (.frz od (.dK (m.map kvI))) I' (upd (upd H2 L (.lst [])) d (.frz od (.dK (m.map kvI)))) := owd.put
      refine ⟨_, rfl, d, od, rfl, .inl ⟨_, upd_same, fun M hM => ?_⟩⟩
      refine lc_pure (β := Int) walk_keys m (fun p => some p.1) (by rw [List.length_map]) gf.sub hM (by rw [List.length_map]; have := Nw.Paired.len hp; omega) (fun I1 H1 g1 => g1.keep _ _ (fun z => z) upd_same) ?_ ?_
      · rintro j p x I1 H1 H3 hj g1 ⟨rfl, kk, vv, hkv, rfl⟩ Kn Ky kn ky
        have ek : kvI p = (kk, vv) := by
          rw [List.getElem?_map, hj] at hkv
          exact Option.some.inj hkv
        cases ek
        refine ⟨rfl, lc_yes ?_⟩
        exact ⟨_, rfl, .inl ⟨_, rfl, ky _ rfl _ I1 H3 (Grow.refl g1.sub) rfl⟩⟩
      · intro I1 H1 vs1 g1 owM hp1
        have e1 := Paired.ints hp1
        rw [fm_some] at e1
        subst e1
        have owf1 := owf.grow g1
        have gf1 := gf.trans g1
        have ndM : M ≠ d := (ne_of_none upd_same hM).symm
        refine ⟨owf1.at_, M, _, rfl, SqL.of (by rw [upd_ne ndM]; exact owM.at_), fun ks p perm rising hpn => ?_⟩
        -- the walk from the last one on
        have gs := (gf1.put (o' := .dK (m.map kvI)) owf1)
        have owd2 : Own No H d (.dK (m.map kvI)) I1 (upd H1 d (.dK (m.map kvI))) := owf1.put
        have owL2 : Own No H L (.lst []) I1 (upd H1 d (.dK (m.map kvI))) := ((owL.other ndL.symm).grow g1).other ndL.symm
        have gp := gs.trans (Grow.mine (T := No) (o := .lst (ks.map V.int)) gs.sub hpn)
        have owd3 := owd2.grow (Grow.mine (T := No) (o := .lst (ks.map V.int)) gs.sub hpn)
        have owL3 := owL2.grow (Grow.mine (T := No) (o := .lst (ks.map V.int)) gs.sub hpn)
        refine ⟨p, _, rfl, SqL.of upd_same, fun q hq => ?_⟩
        rw [show (ks.map V.int).reverse = ks.reverse.map V.int from (List.map_reverse ..).symm]
        have gq := gp.trans (Grow.mine (T := No) (o := .lst (ks.reverse.map V.int)) gp.sub hq)
        have owd4 := owd3.grow (Grow.mine (T := No) (o := .lst (ks.reverse.map V.int)) gp.sub hq)
        have owL4 := owL3.grow (Grow.mine (T := No) (o := .lst (ks.reverse.map V.int)) gp.sub hq)
        have owq : Own No H q (.lst (ks.reverse.map V.int)) I1 _ := Own.new gp.sub (.inr gp.live) (fun _ z => z.elim) hq
        have hks : ∀ j b, ks.reverse[j]? = some b → ∃ e, (b, e) ∈ m := fun j b hj => by
          have h3 : b ∈ ks := List.mem_reverse.mp (List.mem_of_getElem? hj)
          obtain ⟨p, hp, rfl⟩ := List.mem_map.mp (perm.mem_iff.mp h3)
          exact ⟨p.2, hp⟩
        have desc : ks.reverse.Pairwise (fun a b => b < a) := by
          rw [List.pairwise_reverse]
          have ndk : ks.Nodup := perm.nodup_iff.mpr nd
          exact (List.Pairwise.and rising ndk).imp fun z => by omega
        refine ⟨q, rfl, ⟨_, SqL.of upd_same⟩, ?_⟩
        have hlk : ∀ b e, (b, e) ∈ m → lookM m b = some e := fun b e he => by
          cases hl2 : lookM m b with
          | none => exact (lookM_none hl2 (b, e) he rfl).elim
          | some e0 =>
            have p2 := lookM_some hl2
            obtain ⟨i1, l1, q1⟩ := List.mem_iff_getElem.mp he
            obtain ⟨i2, l2, q2⟩ := List.mem_iff_getElem.mp p2
            have key : (m.map (·.1))[i1]'(by simpa using l1) = (m.map (·.1))[i2]'(by simpa using l2) := by
              rw [List.getElem_map, List.getElem_map, q1, q2]
            have ei : i1 = i2 := (List.getElem_inj nd).mp key
            subst ei
            rw [q1] at q2
            rw [(Prod.mk.inj q2).2]
        have nqL : q ≠ L := (ne_of_none owL3.at_ hq).symm
        refine for_it walk_list (ndJ I H a d q L m ks.reverse v3)
          ⟨I1, [], [], v2, rfl, gq, owd4, owq, owL4, .nil, Nat.le_refl _, .nil, (fun n z => nomatch z), fun b hb => by simp at hb⟩ (fun i σ H' _ ⟨I', _, _, _, _, g, _, oq, _⟩ => SqL.of oq.at_) ?_ ?_
        · rintro j x σ H3 H4 hj ⟨I', fs, ws, v2', rfl, g3, od3, oq3, oL3, hpr, hfl, hasc, hsub, hcov⟩ ⟨rfl, hx⟩
          obtain ⟨b, hb, rfl⟩ := getI hx
          obtain ⟨e, he⟩ := hks j b hb
          have hlb := hlk b e he
          have hget : DGet H4 d (.int b) (some (.int e)) := by
            have z := DGet.k (k := .inl b) od3.at_
            rw [valV_I, hlb] at z
            exact z
          have nLd : L ≠ d := ne_of oL3.at_ od3.at_ (by intro z; cases z)
          have hjl : j < ks.reverse.length := by
            obtain ⟨h, _⟩ := List.getElem?_eq_some_iff.mp hb
            exact h
          have hkl : ks.length = m.length := by rw [perm.length_eq, List.length_map]
          have hlt : ∀ c ∈ ks.reverse.take j, b < c := fun c hc => by
            obtain ⟨i, hi, ec⟩ := List.mem_iff_getElem.mp hc
            rw [List.getElem_take] at ec
            rw [List.length_take] at hi
            have eb : ks.reverse[j] = b := by
              have := List.getElem?_eq_getElem hjl
              rw [hb] at this
              exact (Option.some.inj this).symm
            have := (List.pairwise_iff_getElem.mp desc) i j (by omega) hjl (by omega)
            rw [ec, eb] at this
            exact this
          have hcase : fs = [] ∨ ∃ fr l, fs = fr ++ [l] := by
            cases fs.eq_nil_or_concat with
            | inl h => exact .inl h
            | inr h => exact .inr (let ⟨l, x, e⟩ := h; ⟨l, x, by simpa using e⟩)
          have app : (∀ n ∈ fs, e < n.2) → ∀ H5 : Hp, Grow No I' H4 I' H5 → ∀ t, H5 t = none → ndJ I H a d q L m ks.reverse v3 (j + 1) [some (.ref a), some (.ref d), some (.int b), v3, some (.ref L), none] (upd (upd H5 t (.tup [.int b, .int e])) L (.lst (ws ++ [.ref t]))) := by
            intro hlast H5 g5 t ht
            have gt := Grow.new (T := No) (o := .tup [.int b, .int e]) g5.sub ht
            have oL5 := (oL3.grow g5).grow gt
            refine ⟨upd I' t (.tup [.int b, .int e]), fs ++ [(b, e)], ws ++ [.ref t], _, rfl, ((g3.trans g5).trans gt).put oL5, ((od3.grow g5).grow gt).other nLd.symm, ((oq3.grow g5).grow gt).other nqL, oL5.put, Nw.Paired.snoc (Paired.mono' (fun _ _ z => Rep.mono gt.view z) hpr) ⟨t, _, _, rfl, upd_same, rfl, rfl⟩, by simp; omega, ?_, fun n hn => ?_, fun b2 hb2 e2 he2 => ?_⟩
            · rw [List.pairwise_append]
              refine ⟨hasc, by simp, fun x hx y hy => ?_⟩
              rw [List.mem_singleton] at hy
              subst hy
              exact ⟨hlt x.1 (hsub x hx).2, hlast x hx⟩
            · rcases List.mem_append.mp hn with z | z
              · exact ⟨(hsub n z).1, (mem_take hb).mpr (.inl (hsub n z).2)⟩
              · rw [List.mem_singleton] at z
                subst z
                exact ⟨he, (mem_take hb).mpr (.inr rfl)⟩
            · rcases (mem_take hb).mp hb2 with z | rfl
              · obtain ⟨n, hn, q1, q2⟩ := hcov b2 z e2 he2
                exact ⟨n, List.mem_append_left _ hn, q1, q2⟩
              · have h4 := hlk b2 e2 he2
                rw [hlb] at h4
                cases h4
                exact ⟨(b2, e), List.mem_append_right _ (by simp), Int.le_refl _, Int.le_refl _⟩
          refine ⟨_, rfl, Nat.zero_le _, fun p2 hp2 => ⟨L, p2, ws, rfl, rfl, SqL.of (by rw [upd_ne (ne_of_none oL3.at_ hp2)]; exact oL3.at_), SqL.of upd_same, _, rfl, ?_⟩⟩
          have g5 := Grow.mine (T := No) (o := .lst []) g3.sub hp2
          have oL5 := oL3.grow g5
          have od5 := od3.grow g5
          have hget5 : DGet (upd H4 p2 (.lst [])) d (.int b) (some (.int e)) := by
            have z := DGet.k (k := .inl b) od5.at_
            rw [valV_I, hlb] at z
            exact z
          rcases hcase with rfl | ⟨fr, l, rfl⟩
          · have ews : ws = [] := by cases hpr; rfl
            subst ews
            refine iteT ?_
            refine iteT ?_
            refine ⟨_, rfl, .inl ⟨rfl, _, SqL.of oL5.at_⟩, _, rfl, _, rfl, _, rfl, d, _, rfl, hget5, (by show 2 ≤ sizeLine; decide), fun t ht => ?_⟩
            refine ⟨L, _, _, rfl, rfl, by rw [upd_ne (ne_of_none oL5.at_ ht)]; exact oL5.at_, by decide, ?_⟩
            exact app (fun n z => nomatch z) _ g5 t ht
          · obtain ⟨w1, wr, ew, hwl⟩ : ∃ w1 wr, ws = wr ++ [w1] ∧ Rep.is I' w1 l := Paired.last hpr
            subst ew
            have eemp : (wr ++ [w1]).isEmpty = false := by simp
            rw [eemp]
            refine iteF ?_
            obtain ⟨la, l1, l2, rfl, hla, hl1, hl2⟩ := hwl
            cases hl1
            cases hl2
            refine ⟨_, rfl, _, rfl, d, _, rfl, hget5, _, rfl, _, rfl, L, _, _, _, rfl, rfl, SqL.of oL5.at_, atI_last _ _, la, _, 1, _, rfl, rfl, SqT.of (g5.sub _ _ (g5.view _ _ hla)), rfl, _, _, rfl, rfl, _, rfl, ?_⟩
            by_cases c : e < l.2
            · rw [decide_eq_true c]
              refine iteT ?_
              refine ⟨_, rfl, .inl ⟨rfl, _, SqL.of oL5.at_⟩, _, rfl, _, rfl, _, rfl, d, _, rfl, hget5, (by show 2 ≤ sizeLine; decide), fun t ht => ?_⟩
              refine ⟨L, _, _, rfl, rfl, by rw [upd_ne (ne_of_none oL5.at_ ht)]; exact oL5.at_, ?_, ?_⟩
              · have h5 := Nw.Paired.len hpr
                have h6 := Nw.Paired.len hp
                rw [h5, sizeLine_eq]
                rw [List.length_reverse] at hjl
                omega
              · refine app (fun n hn => ?_) _ g5 t ht
                rcases List.mem_append.mp hn with z | z
                · have := (List.pairwise_append.mp hasc).2.2 n z l (by simp)
                  omega
                · rw [List.mem_singleton] at z
                  rw [z]
                  exact c
            · rw [decide_eq_false c]
              refine iteF ?_
              refine ⟨I', fr ++ [l], _, _, rfl, g3.trans g5, od5, oq3.grow g5, oL5, hpr, by omega, hasc, fun n hn => ⟨(hsub n hn).1, (mem_take hb).mpr (.inl (hsub n hn).2)⟩, fun b2 hb2 e2 he2 => ?_⟩
              rcases (mem_take hb).mp hb2 with z | rfl
              · exact hcov b2 z e2 he2
              · have h4 := hlk b2 e2 he2
                rw [hlb] at h4
                cases h4
                exact ⟨l, by simp, Int.le_of_lt (hlt l.1 (hsub l (by simp)).2), by omega⟩
        · rintro σ H3 ⟨I', fs, ws, v2', rfl, g3, od3, oq3, oL3, hpr, hfl, hasc, hsub, hcov⟩
          refine ⟨_, rfl, L, _, rfl, SqL.of oL3.at_, fun p2 hp2 => ?_⟩
          refine ⟨p2, _, rfl, .inl ⟨SqL.of upd_same, fun l hl2 => ?_⟩⟩
          have g4 := g3.trans (Grow.mine (T := No) (o := .lst ws.reverse) g3.sub hp2)
          have g5 := g4.trans (Grow.new (T := No) (o := .tup ws.reverse) g4.sub hl2)
          rw [List.length_map, List.take_length] at hsub hcov
          refine k fs.reverse _ _ _ g5 ⟨l, ws.reverse, rfl, upd_same, Paired.mono' (fun _ _ z => Rep.mono (Same.up (g4.sub.free hl2)) z) (Paired.rev hpr)⟩ ⟨?_, fun n hn => ?_, fun r hr => ?_⟩
          · rw [List.pairwise_reverse]
            exact hasc
          · exact h1 n (hsub n (List.mem_reverse.mp hn)).1
          · obtain ⟨e, he, hle⟩ := h2 r hr
            have hb : r.1 ∈ ks.reverse := List.mem_reverse.mpr (perm.mem_iff.mpr (List.mem_map.mpr ⟨_, he, rfl⟩))
            obtain ⟨n, hn, q1, q2⟩ := hcov r.1 hb e he
            exact ⟨n, List.mem_reverse.mpr hn, q1, by omega⟩
end
end Nw

namespace Nw
open PySem PySem.Spec PyProof.Rows L2
/-! ### rows: what the program's functions do, as lists of signs -/
def stepsL : List Nat := [65, 66, 67, 68, 97, 98, 99, 100]
def isStep (c : Nat) : Bool := stepsL.contains c
def isRowL (l : List Nat) : Bool := decide (l.length ≤ 60) && l.all isStep
def low (c : Nat) : Bool := decide (97 ≤ c)
def cp (c : Nat) : Nat := if 97 ≤ c then c - 32 else c + 32
def turnedL (l : List Nat) : List Nat := l.reverse.map cp
theorem step_cases {c : Nat} (h : isStep c = true) : c = 65 ∨ c = 66 ∨ c = 67 ∨ c = 68 ∨ c = 97 ∨ c = 98 ∨ c = 99 ∨ c = 100 := by
  simpa [isStep, stepsL] using h
theorem cp_step {c : Nat} (h : isStep c = true) : isStep (cp c) = true := by
  rcases step_cases h with rfl | rfl | rfl | rfl | rfl | rfl | rfl | rfl <;> rfl
theorem cp_cp {c : Nat} (h : isStep c = true) : cp (cp c) = c := by
  rcases step_cases h with rfl | rfl | rfl | rfl | rfl | rfl | rfl | rfl <;> rfl
theorem turned_row {l : List Nat} (h : isRowL l = true) : isRowL (turnedL l) = true := by
  simp only [isRowL, Bool.and_eq_true, decide_eq_true_eq, List.all_eq_true] at h ⊢
  refine ⟨by simp [turnedL, h.1], fun c hc => ?_⟩
  obtain ⟨d, hd, rfl⟩ := List.mem_map.mp hc
  exact cp_step (h.2 d (List.mem_reverse.mp hd))
theorem row_steps {l : List Nat} (h : isRowL l = true) : l.length ≤ 60 ∧ ∀ c ∈ l, isStep c = true := by
  simpa [isRowL, Bool.and_eq_true, decide_eq_true_eq, List.all_eq_true] using h
theorem in_steps (c : Nat) : decide (c ∈ ("ABCDabcd" : Str).cps.toList) = isStep c := by
  have e : ("ABCDabcd" : Str).cps.toList = stepsL := by decide +kernel
  rw [e]
  unfold isStep
  rw [Bool.eq_iff_iff, decide_eq_true_iff, List.contains_iff_mem]
theorem links_list : ("abcd" : Str).cps.toList = [97, 98, 99, 100] := by decide +kernel
theorem in_links {c : Nat} (h : isStep c = true) : decide (c ∈ ("abcd" : Str).cps.toList) = low c := by
  rw [links_list]
  rcases step_cases h with rfl | rfl | rfl | rfl | rfl | rfl | rfl | rfl <;> rfl
def sp_is_row (K : PySem.W.Frag) : Sp := fun vs H Q _ => ∃ (I : Hp) (l : List Nat), vs = [.str (mk l)] ∧ l.length ≤ 16777216 ∧ Same I H ∧ ∀ I' H', Grow No I H I' H' → Q (.bl (isRowL l)) H'
def sp_need_row (K : PySem.W.Frag) : Sp := fun vs H Q _ => ∃ (I : Hp) (l : List Nat), vs = [.str (mk l)] ∧ isRowL l = true ∧ Same I H ∧ ∀ I' H', Grow No I H I' H' → Q .non H'
def sp_counterpart (K : PySem.W.Frag) : Sp := fun vs H Q _ => ∃ c : Nat, vs = [.str (sg c)] ∧ isStep c = true ∧ Q (.str (sg (cp c))) H
def sp_turned_row (K : PySem.W.Frag) : Sp := fun vs H Q _ => ∃ (I : Hp) (l : List Nat), vs = [.str (mk l)] ∧ isRowL l = true ∧ Same I H ∧ ∀ I' H', Grow No I H I' H' → Q (.str (mk (turnedL l))) H'
def sp_mirrored (K : PySem.W.Frag) : Sp := sp_turned_row K
section
variable {P : Program} {w : World} {K : PySem.W.Frag} {mg : Str → Option Value} {base : Heap}
end
end Nw

namespace Nw
open PySem PySem.Spec PyProof.Rows L2
/-- the ends x, y, x of a stack (its top first) taken back to x, as long as there are some -/
def collapse : List Nat → List Nat
  | x :: y :: z :: r => if x = z ∧ y = cp x then collapse (z :: r) else x :: y :: z :: r
  | l => l
def pushC (st : List Nat) (c : Nat) : List Nat := collapse (c :: st)
def reducedL (l : List Nat) : List Nat := (l.foldl pushC []).reverse
theorem collapse_sub : ∀ l : List Nat, ∀ c ∈ collapse l, c ∈ l
  | x :: y :: z :: r, c, h => by
    unfold collapse at h
    split at h
    · exact List.mem_cons_of_mem _ (List.mem_cons_of_mem _ (collapse_sub (z :: r) c h))
    · exact h
  | [], c, h => by simpa [collapse] using h
  | [x], c, h => by simpa [collapse] using h
  | [x, y], c, h => by simpa [collapse] using h
theorem collapse_len : ∀ l : List Nat, (collapse l).length ≤ l.length
  | x :: y :: z :: r => by
    unfold collapse
    split
    · have := collapse_len (z :: r)
      simp only [List.length_cons] at this ⊢
      omega
    · exact Nat.le_refl _
  | [] => Nat.le_refl _
  | [x] => Nat.le_refl _
  | [x, y] => Nat.le_refl _
theorem push_len (l : List Nat) : ∀ st : List Nat, (l.foldl pushC st).length ≤ st.length + l.length := by
  induction l with
  | nil => intro st; exact Nat.le_refl _
  | cons c r ih =>
    intro st
    have h1 := ih (pushC st c)
    have h2 : (pushC st c).length ≤ (c :: st).length := collapse_len (c :: st)
    simp only [List.foldl_cons, List.length_cons] at h1 h2 ⊢
    omega
theorem push_sub (l : List Nat) : ∀ st : List Nat, ∀ c ∈ l.foldl pushC st, c ∈ st ∨ c ∈ l := by
  induction l with
  | nil => intro st c h; exact .inl h
  | cons d r ih =>
    intro st c h
    rcases ih (pushC st d) c h with z | z
    · have := collapse_sub (d :: st) c z
      rcases List.mem_cons.mp this with rfl | q
      · exact .inr (List.mem_cons_self ..)
      · exact .inl q
    · exact .inr (List.mem_cons_of_mem _ z)
def stV (st : List Nat) : List V := (st.map fun c => V.str (sg c)).reverse
theorem sg_inj {a b : Nat} (h : sg a = sg b) : a = b := mk_inj (a := [a]) (b := [b]) h |> List.cons.inj |>.1
theorem eq_sg {a b : Nat} : decide (V.str (sg a) = V.str (sg b)) = decide (a = b) := by
  by_cases h : a = b
  · subst h; rw [decide_eq_true rfl, decide_eq_true rfl]
  · rw [decide_eq_false h, decide_eq_false fun z => h (sg_inj (V.str.inj z))]
def sp_reduced (K : PySem.W.Frag) : Sp := fun vs H Q _ => ∃ (I : Hp) (l : List Nat), vs = [.str (mk l)] ∧ isRowL l = true ∧ Same I H ∧ ∀ I' H', Grow No I H I' H' → Q (.str (mk (reducedL l))) H'
section
variable {P : Program} {w : World} {K : PySem.W.Frag} {mg : Str → Option Value} {base : Heap}
end
end Nw

namespace Nw
open PySem PySem.Spec PyProof.Rows L2
/-! ### links and timetables as objects -/
def isLink (K : PySem.W.Frag) (I : Hp) (v : V) (ns : Rides) : Prop := ∃ a dx t, v = .ref a ∧ I a = some (.ins (He.ga K "Link") dx [("own_rides", t)]) ∧ isU I t ns
theorem isU.up {α : Type} [Rep α] {I I' : Hp} {v : V} {xs : List α} (h : isU I v xs) (e : Same I I') : isU I' v xs :=
  let ⟨a, vs, h1, h2, h3⟩ := h
  ⟨a, vs, h1, e _ _ h2, Paired.mono' (fun _ _ z => Rep.mono e z) h3⟩
theorem isL.up {α : Type} [Rep α] {I I' : Hp} {v : V} {xs : List α} (h : isL I v xs) (e : Same I I') : isL I' v xs :=
  let ⟨a, vs, h1, h2, h3⟩ := h
  ⟨a, vs, h1, e _ _ h2, Paired.mono' (fun _ _ z => Rep.mono e z) h3⟩
theorem isLink.up {K : PySem.W.Frag} {I I' : Hp} {v : V} {ns : Rides} (h : isLink K I v ns) (e : Same I I') : isLink K I' v ns :=
  let ⟨a, dx, t, h1, h2, h3⟩ := h
  ⟨a, dx, t, h1, e _ _ h2, h3.up e⟩
def kvS (p : Nat × V) : Key × V := (.inr (sg p.1), p.2)
def linksP (K : PySem.W.Frag) (I : Hp) (kvs : List (Nat × V)) (tb : List (Nat × Rides)) : Prop := Paired (fun (p : Nat × V) (q : Nat × Rides) => p.1 = q.1 ∧ isLink K I p.2 q.2) kvs tb
theorem linksP.up {K : PySem.W.Frag} {I I' : Hp} {kvs : List (Nat × V)} {tb : List (Nat × Rides)} (h : linksP K I kvs tb) (e : Same I I') : linksP K I' kvs tb := Paired.mono' (fun _ _ z => ⟨z.1, z.2.up e⟩) h
def isTable (K : PySem.W.Frag) (I : Hp) (v : V) (tb : List (Nat × Rides)) : Prop :=
  ∃ a dx d kvs, v = .ref a ∧ I a = some (.ins (He.ga K "Timetable") dx [("own_links", .ref d)]) ∧ I d = some (.dK (kvs.map kvS)) ∧ linksP K I kvs tb
theorem isTable.up {K : PySem.W.Frag} {I I' : Hp} {v : V} {tb : List (Nat × Rides)} (h : isTable K I v tb) (e : Same I I') : isTable K I' v tb :=
  let ⟨a, dx, d, kvs, h1, h2, h3, h4⟩ := h
  ⟨a, dx, d, kvs, h1, e _ _ h2, e _ _ h3, h4.up e⟩
def lookT {α : Type} (tb : List (Nat × α)) (c : Nat) : Option α := (tb.find? fun p => decide (p.1 = c)).map (·.2)
theorem valV_S (c : Nat) : ∀ kvs : List (Nat × V), valV (kvs.map kvS) (.inr (sg c)) = lookT kvs c
  | [] => rfl
  | p :: r => by
    by_cases h : p.1 = c
    · have e1 : lookT (p :: r) c = some p.2 := by simp [lookT, h]
      rw [e1, List.map_cons]
      exact valV_pos (by show (Sum.inr (sg p.1) : Key) = Sum.inr (sg c); rw [h])
    · have e1 : lookT (p :: r) c = lookT r c := by simp [lookT, h]
      rw [e1, List.map_cons, ← valV_S c r]
      exact valV_neg (fun z => h (mk_inj (a := [p.1]) (b := [c]) (Sum.inr.inj z) |> List.cons.inj |>.1))
theorem look_link {K : PySem.W.Frag} {I : Hp} {c : Nat} : ∀ {kvs : List (Nat × V)} {tb : List (Nat × Rides)}, linksP K I kvs tb → (lookT kvs c = none ∧ lookT tb c = none) ∨ ∃ v ns, lookT kvs c = some v ∧ lookT tb c = some ns ∧ isLink K I v ns
  | _, _, .nil => .inl ⟨rfl, rfl⟩
  | p :: r, q :: t, .cons h hp => by
    by_cases e : q.1 = c
    · exact .inr ⟨p.2, q.2, by simp [lookT, h.1, e], by simp [lookT, e], h.2⟩
    · have e1 : lookT (p :: r) c = lookT r c := by simp [lookT, h.1, e]
      have e2 : lookT (q :: t) c = lookT t c := by simp [lookT, e]
      rw [e1, e2]
      exact look_link hp
/-- a step by a link -/
def stepL (tb : List (Nat × Rides)) (m : Mom) (c : Nat) : Mom := if low c then endedL ((lookT tb c).getD []) m else begunL ((lookT tb (c + 32)).getD []) m
def ledL (tb : List (Nat × Rides)) (l : List Nat) (m : Mom) : Mom := l.foldl (stepL tb) m
def lowC (c : Nat) : Nat := if low c then c else c + 32
theorem lower_step {c : Nat} (h : isStep c = true) : Txt.lower (sg c) = sg (lowC c) := by
  rcases step_cases h with rfl | rfl | rfl | rfl | rfl | rfl | rfl | rfl <;> (rw [lower_sg (by decide)]; rfl)
theorem stepL_low {tb : List (Nat × Rides)} {m : Mom} {c : Nat} (h : isStep c = true) : stepL tb m c = if low c then endedL ((lookT tb (lowC c)).getD []) m else begunL ((lookT tb (lowC c)).getD []) m := by
  unfold stepL lowC
  split
  · rfl
  · rfl
def hasLinks (tb : List (Nat × Rides)) (l : List Nat) : Prop := ∀ c ∈ l, isStep c = true ∧ (lookT tb (lowC c)).isSome = true
def small (tb : List (Nat × Rides)) : Prop := ∀ p ∈ tb, p.2.length ≤ 100000
theorem small_look {tb : List (Nat × Rides)} (h : small tb) {c : Nat} {ns : Rides} (e : lookT tb c = some ns) : ns.length ≤ 100000 := by
  unfold lookT at e
  rw [Option.map_eq_some_iff] at e
  obtain ⟨p, h1, h2⟩ := e
  rw [← h2]
  exact h p (List.mem_of_find?_eq_some h1)
/-- an object that is being made -/
def TX (x : Addr) : Addr → Prop := fun b => b = x
def sp_Link__init (K : PySem.W.Frag) : Sp := fun vs H Q _ => ∃ (I : Hp) (t : Bool) (x dx : Addr) (v : V) (rs : Rides), vs = [.ref x, v] ∧ H x = some (.ins (He.ga K "Link") dx []) ∧ I x = none ∧ isS t I v rs ∧ rs.length ≤ 60 ∧ (∀ r ∈ rs, r.1 ≤ r.2) ∧ Same I H ∧
  ∀ ns t I' H', Grow (TX x) I H I' H' → H' x = some (.ins (He.ga K "Link") dx [("own_rides", t)]) → isU I' t ns → IsNeeded rs ns → Q .non H'
def sp_Timetable_need_links (K : PySem.W.Frag) : Sp := fun vs H Q _ => ∃ (I : Hp) (v : V) (tb : List (Nat × Rides)) (l : List Nat), vs = [v, .str (mk l)] ∧ isTable K I v tb ∧ hasLinks tb l ∧ l.length ≤ 60 ∧ Same I H ∧ Q .non H
def sp_Timetable_led (K : PySem.W.Frag) : Sp := fun vs H Q _ => ∃ (I : Hp) (v : V) (tb : List (Nat × Rides)) (l : List Nat) (m : Mom), vs = [v, .str (mk l), m.v] ∧ isTable K I v tb ∧ small tb ∧ hasLinks tb l ∧ l.length ≤ 60 ∧ Same I H ∧ ∀ I' H', Grow No I H I' H' → Q (ledL tb l m).v H'
def sp_Timetable_go (K : PySem.W.Frag) : Sp := sp_Timetable_led K
section
variable {P : Program} {w : World} {K : PySem.W.Frag} {mg : Str → Option Value} {base : Heap}
theorem ok_Link__init (T : Txt K mg) (F : FnAt K "__init__" "Link.__init__" s_Link__init (He.ma K (He.ga K "Link") "__init__")) (G_is_ride : Ok P w K mg base CX0 2 (He.ga K "is_ride") ["thing"] (sp_is_ride K)) (G_needed : Ok P w K mg base CX0 1 (He.ga K "needed") ["rides"] (sp_needed K)) : Ok P w K mg base CX0 3 (He.ma K (He.ga K "Link") "__init__") ["self", "rides"] (sp_Link__init K) := by
  refine ok_of F sc_Link__init (fun _ _ _ _ _ _ us hl => match us, hl with | [_, _], _ => rfl) (fun vs H Q E h => ?_) (fun cdv A outer s H vs Q E hr h => ?_)
  · obtain ⟨_, _, _, _, _, _, rfl, _⟩ := h
    rfl
  · obtain ⟨I, tt, x, dx, v, rs, rfl, hx, ix, ⟨a, vs, rfl, ha, hp⟩, hl, hv, sb, k⟩ := h
    refine ⟨_, (pss_cons (ps_if (pt_not (pt_val (pe_callB call_isiT (by rfl) T.b_isinstance (by decide +kernel) (pa_cons (pv 1) (pa_cons (pe_tup (pa_cons (pe_bltn (v := .ty "list") rfl T.b_list (by decide +kernel) rfl) (pa_cons (pe_bltn (v := .ty "tuple") rfl T.b_tuple (by decide +kernel) rfl) pa_nil))) pa_nil))))) (pss_one ps_never) pss_nil)
      (pss_cons (ps_for PassesOwn.never rfl (pi_enumS (by rfl) T.b_enumerate (pa_cons (pv 1) pa_nil)) (pg_tup (by rfl) (pgs_cons (pg_name (i := 2) sc_Link__init.nd rfl (Or.inl rfl)) (pgs_cons (pg_name (i := 3) sc_Link__init.nd rfl (Or.inl rfl)) pgs_nil))) (pss_one (ps_if (PW.pt (pw_or (pt_cmpR op_eq (pv 2) (pe_gint T.c_MOST_RIDES) (nomark _)) (pw_or1 (pt_not (pt_val (pe_callC G_is_ride (hr.mono (by decide)) T.g_is_ride (pa_cons (pv 3) pa_nil))))))) (pss_one ps_never) pss_nil)))
      (pss_one (ps_fld (pv 0) (pe_callC G_needed (hr.mono (by decide)) T.g_needed (pa_cons (pv 1) pa_nil)) rfl)))), ?_⟩
    have hlen := Nw.Paired.len hp
    refine ⟨_, rfl, by decide, fun p hp1 => ?_⟩
    obtain ⟨nty, hty, hkit⟩ := ty_seq (K := K) (t := tt) (H := upd H p (.tup [V.ty "list", V.ty "tuple"])) (a := a) (vs := vs) (by rw [upd_ne (ne_of_none (sb _ _ ha) hp1)]; exact sb _ _ ha)
    refine ⟨.ref a, p, _, _, _, true, rfl, upd_same, .cons (.ty _) (.cons (.ty _) .nil), hty, hkit, true, rfl, iteF ?_⟩
    have g1 : Grow (TX x) I H _ (upd H p (.tup [V.ty "list", V.ty "tuple"])) := Grow.new sb hp1
    have hx1 : upd H p (.tup [V.ty "list", V.ty "tuple"]) x = some (.ins (He.ga K "Link") dx []) := by rw [upd_ne (ne_of_none hx hp1)]; exact hx
    refine ⟨_, rfl, a, tt, vs, rfl, SqB.of (g1.sub _ _ (g1.view _ _ ha)), ?_⟩
    refine for_it walk_enumS (fun i σ H' => ∃ (I' : Hp) (v2 v3 : Option V), σ = [some (.ref x), some (.ref a), v2, v3] ∧ Grow No _ (upd H p (.tup [V.ty "list", V.ty "tuple"])) I' H') ⟨_, none, none, rfl, Grow.refl g1.sub⟩ (fun i σ H' _ ⟨I', _, _, _, g⟩ => SqB.of (g.same _ _ (g1.sub _ _ (g1.view _ _ ha)))) ?_ ?_
    · rintro i y σ H2 H3 hi ⟨I', v2, v3, rfl, g⟩ ⟨t, y1, y2, rfl, ht, rfl, e1, hy⟩
      cases e1
      obtain ⟨r, hr, hrep⟩ := Nw.Paired.at' hp hy
      have g2 := g.trans (Grow.new (T := No) (o := .tup [.int (i : Nat), y2]) g.sub ht)
      refine ⟨t, _, rfl, SqT.of upd_same, rfl, _, _, rfl, _, _, rfl, rfl, ?_⟩
      refine ⟨_, rfl, rfl, _, rfl, ?_⟩
      have hne : ¬ (V.int ((i : Nat) : Int) = V.int 60) := fun z => by
        have := V.int.inj z
        omega
      rw [decide_eq_false hne]
      refine iteF ?_
      refine ⟨_, rfl, _, y2, r, rfl, Rep.mono (g1.view.trans g2.view) hrep, g2.sub, true, by rw [decide_eq_true (hv r (List.mem_of_getElem? hr))], iteF ?_⟩
      exact ⟨_, _, _, rfl, g2⟩
    · rintro σ H2 ⟨I', v2, v3, rfl, g⟩
      have gx := g1.trans g.no
      refine ⟨_, rfl, I', tt, .ref a, rs, rfl, ⟨a, vs, rfl, gx.view _ _ ha, Paired.mono' (fun _ _ z => Rep.mono gx.view z) hp⟩, by omega, g.sub, fun ns t I3 H3 g3 hu hn => ?_⟩
      have g4 := gx.trans g3.no
      have hx3 : H3 x = some (.ins (He.ga K "Link") dx []) := g3.same _ _ (g.same _ _ hx1)
      have ix3 : I3 x = none := g4.fresh x ix (by rw [hx]; exact fun z => nomatch z)
      refine ⟨_, rfl, x, _, dx, _, rfl, hx3, T.cl_Link, T.na_Link_own_rides, (by show 0 < 1000; decide), ?_⟩
      refine k ns t I3 _ ⟨g4.view, fun b o e => ?_, fun b o n e => ?_, fun b e => upd_live (g4.live b e), g4.fresh, g4.tbl⟩ upd_same hu hn
      · rw [upd_ne (ne_of_none e ix3)]
        exact g4.sub b o e
      · rw [upd_ne n]
        exact g4.keep b o n e
end
end Nw

namespace Nw
open PySem PySem.Spec PyProof.Rows L2
def linksL : List Nat := [97, 98, 99, 100]
def orderT {α : Type} (tb : List (Nat × α)) : List (Nat × α) := linksL.filterMap fun c => (lookT tb c).map fun r => (c, r)
def T2 (x p : Addr) : Addr → Prop := fun b => b = x ∨ b = p
theorem linksP.keys {K : PySem.W.Frag} {I : Hp} : ∀ {kvs : List (Nat × V)} {tb : List (Nat × Rides)}, linksP K I kvs tb → kvs.map (·.1) = tb.map (·.1)
  | _, _, .nil => rfl
  | _, _, .cons h t => by rw [List.map_cons, List.map_cons, h.1, linksP.keys t]
def sp_Timetable__init (K : PySem.W.Frag) : Sp := fun vs H Q _ => ∃ (I : Hp) (x dx p : Addr) (kvs : List (Nat × V)) (tb : List (Nat × Rides)), vs = [.ref x, .ref p] ∧ H x = some (.ins (He.ga K "Timetable") dx []) ∧ H p = some (.dK (kvs.map kvS)) ∧ I x = none ∧ I p = none ∧ linksP K I kvs tb ∧ kvs ≠ [] ∧ kvs.length ≤ 4 ∧ (∀ q ∈ kvs, q.1 ∈ linksL) ∧ Same I H ∧
  ∀ d kvs' I' H', Grow (T2 x p) I H I' H' → H' x = some (.ins (He.ga K "Timetable") dx [("own_links", .ref d)]) → I' d = some (.dK (kvs'.map kvS)) → linksP K I' kvs' (orderT tb) → Q .non H'
section
variable {P : Program} {w : World} {K : PySem.W.Frag} {mg : Str → Option Value} {base : Heap}
theorem mem_keys {kvs : List (Nat × V)} {i : Nat} {kk : Key} {vv : V} (h : (kvs.map kvS)[i]? = some (kk, vv)) : ∃ q, q ∈ kvs ∧ kvs[i]? = some q ∧ kk = .inr (sg q.1) ∧ vv = q.2 := by
  rw [List.getElem?_map] at h
  cases e : kvs[i]? with
  | none => rw [e] at h; cases h
  | some q =>
    rw [e] at h
    cases h
    exact ⟨q, List.mem_of_getElem? e, rfl, rfl, rfl⟩
theorem look_mem {α : Type} {tb : List (Nat × α)} {q : Nat × α} (h : q ∈ tb) : ∃ r, lookT tb q.1 = some r := by
  unfold lookT
  cases e : tb.find? fun p => decide (p.1 = q.1) with
  | none =>
    rw [List.find?_eq_none] at e
    exact absurd (decide_eq_true rfl) (e q h)
  | some r => exact ⟨r.2, rfl⟩
end
end Nw

namespace Nw
open PySem PySem.Spec PyProof.Rows L2
/-! ### draws of the law -/
abbrev sp_l_next (K : PySem.W.Frag) : Sp := spNext
abbrev sp_l_begun (K : PySem.W.Frag) : Sp := spBegun K
def sp_l_pick (K : PySem.W.Frag) : Sp := fun vs H Q _ => ∃ (I : Hp) (D : DA) (n : Nat) (v : V), vs = [.ref D.d, v] ∧ Drw D n I H ∧ n < lim ∧
  ((∃ p xs, v = .ref p ∧ ¬ TD D p ∧ H p = some (.lst xs) ∧ xs ≠ [] ∧ xs.length ≤ 1000000 ∧ ∀ (j : Nat) x H', xs[j]? = some x → Grow (TD D) I H I H' → Drw D (n + 1) I H' → Q x H') ∨
   (∃ l, v = .str (mk l) ∧ l ≠ [] ∧ l.length ≤ 1000000 ∧ ∀ (j : Nat) c H', l[j]? = some c → Grow (TD D) I H I H' → Drw D (n + 1) I H' → Q (.str (sg c)) H'))
def sp_l_other (K : PySem.W.Frag) : Sp := fun vs H Q _ => ∃ c : Nat, vs = [.str (sg c)] ∧ isStep c = true ∧ Q (.str (sg (cp c))) H
def sp_l_row (K : PySem.W.Frag) : Sp := fun vs H Q _ => ∃ (I : Hp) (D : DA) (n : Nat) (l : List Nat) (many : Nat), vs = [.ref D.d, .str (mk l), .int many] ∧ Drw D n I H ∧ n + 70 < lim ∧ l ≠ [] ∧ l.length ≤ 4 ∧ (∀ c ∈ l, 97 ≤ c ∧ c ≤ 100) ∧ 1 ≤ many ∧ many ≤ 20 ∧
  ∀ (r : List Nat) H', r.length < many → (∀ c ∈ r, isStep c = true ∧ lowC c ∈ l) → Grow (TD D) I H I H' → Drw D (n + 70) I H' → Q (.str (mk r)) H'
def sp_l_rides (K : PySem.W.Frag) : Sp := fun vs H Q _ => ∃ (I : Hp) (D : DA) (n many wide : Nat), vs = [.ref D.d, .int many, .int wide] ∧ Drw D n I H ∧ n + 4 * many + 4 < lim ∧ many ≤ 1000 ∧ 1 ≤ wide ∧ wide ≤ 1000000 ∧
  ∀ (rs : Rides) v I' H', rs.length ≤ many → (∀ r ∈ rs, r.1 ≤ r.2 ∧ r.1.natAbs < 5000000 ∧ r.2.natAbs < 5000000) → Grow (TD D) I H I' H' → isL I' v rs → Drw D (n + 4 * many + 4) I' H' → Q v H'
def placeM : Mom → Int
  | .first => 0 - 10 ^ 50
  | .last => 10 ^ 50
  | .num t => t
def sp_l_place (K : PySem.W.Frag) : Sp := fun vs H Q _ => ∃ m : Mom, vs = [m.v] ∧ Q (.int (placeM m)) H
def smallM : Mom → Prop
  | .num t => t.natAbs < 10000000
  | _ => True
def sp_l_moment (K : PySem.W.Frag) : Sp := fun vs H Q _ => ∃ (I : Hp) (D : DA) (n wide : Nat), vs = [.ref D.d, .int wide] ∧ Drw D n I H ∧ n + 6 < lim ∧ 1 ≤ wide ∧ wide ≤ 1000000 ∧
  ∀ (m : Mom) I' H', smallM m → Grow (TD D) I H I' H' → Drw D (n + 6) I' H' → Q m.v H'
theorem atI_of {α : Type} {xs : List α} {r : Int} (h0 : 0 ≤ r) (h1 : r < xs.length) : ∃ x, xs[r.toNat]? = some x ∧ atI xs r = some x := by
  have hlt : r.toNat < xs.length := by omega
  refine ⟨xs[r.toNat], List.getElem?_eq_getElem hlt, ?_⟩
  rw [atI_nat' (j := r.toNat) (by omega)]
  exact List.getElem?_eq_getElem hlt
section
variable {P : Program} {w : World} {K : PySem.W.Frag} {mg : Str → Option Value} {base : Heap}
theorem ok_l_pick (T : Txt K mg) (F : FnAt K "_law_pick" "_law_pick" s_l_pick (He.ga K "_law_pick")) (G_l_next : Ok P w K mg base CX0 1 (He.ga K "_law_next") ["_law_draw", "_law_many"] (sp_l_next K)) : Ok P w K mg base CX0 2 (He.ga K "_law_pick") ["_law_draw", "_law_some"] (sp_l_pick K) := by
  refine ok_of F sc_l_pick (fun _ _ _ _ _ _ us hl => match us, hl with | [_, _], _ => rfl) (fun vs H Q E h => ?_) (fun cdv A outer s H vs Q E hr h => ?_)
  · obtain ⟨_, _, _, _, rfl, _⟩ := h
    rfl
  · obtain ⟨I, D, n, v, rfl, dr, hn, k⟩ := h
    refine ⟨_, (pss_one (ps_ret (pe_ix ix_seq (pv 1) (pe_callC G_l_next (hr.mono (by decide)) T.g__law_next (pa_cons (pv 0) (pa_cons (pe_callB call_len (by rfl) T.b_len (by decide +kernel) (pa_cons (pv 1) pa_nil)) pa_nil))) (fun _ _ => rfl)))), ?_⟩
    rcases k with ⟨p, xs, rfl, ht, hp, hne, hz, k⟩ | ⟨l, rfl, hne, hz, k⟩
    · have hpos : 0 < xs.length := List.length_pos_iff.mpr hne
      refine ⟨_, rfl, _, rfl, _, rfl, _, _, rfl, .inl ⟨xs, SqL.of hp, rfl⟩, I, D, n, _, rfl, dr, by omega, by omega, hn, fun r H' h0 h1 g d => ?_⟩
      obtain ⟨x, e1, e2⟩ := atI_of h0 h1
      exact .inl ⟨p, xs, r, x, rfl, rfl, SqL.of (g.keep p _ ht hp), e2, k _ x H' e1 g d⟩
    · have hpos : 0 < l.length := List.length_pos_iff.mpr hne
      refine ⟨_, rfl, _, rfl, _, rfl, _, _, rfl, ⟨by rw [mk_len, sizeLine_eq]; omega, (mk_len l).symm⟩, I, D, n, _, rfl, dr, by omega, by omega, hn, fun r H' h0 h1 g d => ?_⟩
      obtain ⟨x, e1, e2⟩ := atI_of h0 h1
      exact .inr (.inr ⟨mk l, r, x, rfl, rfl, by rw [mk_len, sizeLine_eq]; omega, by rw [mk_cps]; exact e2, k _ x H' e1 g d⟩)
theorem ok_l_place (T : Txt K mg) (F : FnAt K "_law_place" "_law_place" s_l_place (He.ga K "_law_place"))  : Ok P w K mg base CX0 1 (He.ga K "_law_place") ["_law_moment_here"] (sp_l_place K) := by
  refine ok_of F sc_l_place (fun _ _ _ _ _ _ us hl => match us, hl with | [_], _ => rfl) (fun vs H Q E h => ?_) (fun cdv A outer s H vs Q E hr h => ?_)
  · obtain ⟨_, rfl, _⟩ := h
    rfl
  · obtain ⟨m, rfl, k⟩ := h
    refine ⟨_, (pss_cons (ps_if (pt_cmpR op_eq (pv 0) pe_str (nomark _)) (pss_one (ps_ret (pe_op op_sub pe_int (pe_op op_pow pe_int pe_int)))) pss_nil)
      (pss_one (ps_ret (pe_ifExp (pt_cmpR op_eq (pv 0) pe_str (nomark _)) (pe_op op_pow pe_int pe_int) (pv 0))))), ?_⟩
    refine ⟨_, rfl, m.scal .first, _, rfl, ?_⟩
    have e1 : decide (m.v = .str "first") = decide (m = .first) := m.eqv .first
    rw [e1]
    by_cases h1 : m = .first
    · subst h1
      rw [decide_eq_true rfl]
      exact iteT ⟨_, _, rfl, rfl, ⟨by decide, by decide, by decide⟩, _, _, rfl, rfl, k⟩
    rw [decide_eq_false h1]
    refine iteF ⟨_, rfl, m.scal .last, _, rfl, ?_⟩
    have e2 : decide (m.v = .str "last") = decide (m = .last) := m.eqv .last
    rw [e2]
    by_cases h2 : m = .last
    · subst h2
      rw [decide_eq_true rfl]
      exact iteT ⟨_, _, rfl, rfl, ⟨by decide, by decide, by decide⟩, k⟩
    rw [decide_eq_false h2]
    match m, h1, h2, k with
    | .num t, _, _, k => exact iteF ⟨_, rfl, k⟩
    | .first, h1, _, _ => exact absurd rfl h1
    | .last, _, h2, _ => exact absurd rfl h2
theorem ok_l_rides (T : Txt K mg) (F : FnAt K "_law_rides" "_law_rides" s_l_rides (He.ga K "_law_rides")) (G_l_next : Ok P w K mg base CX0 1 (He.ga K "_law_next") ["_law_draw", "_law_many"] (sp_l_next K)) : Ok P w K mg base CX0 2 (He.ga K "_law_rides") ["_law_draw", "_law_many", "_law_wide_here"] (sp_l_rides K) := by
  refine ok_of F sc_l_rides (fun _ _ _ _ _ _ us hl => match us, hl with | [_, _, _], _ => rfl) (fun vs H Q E h => ?_) (fun cdv A outer s H vs Q E hr h => ?_)
  · obtain ⟨_, _, _, _, _, rfl, _⟩ := h
    rfl
  · obtain ⟨I, D, n, many, wide, rfl, dr, hn, hm, hw0, hw1, k⟩ := h
    refine ⟨_, (pss_cons (ps_set (i := 3) sc_l_rides.nd rfl (Or.inl rfl) (pe_lst pa_nil))
      (pss_cons (ps_for PassesOwn.never rfl (pi_range1 rfl T.b_range (pa_cons (pe_callC G_l_next (hr.mono (by decide)) T.g__law_next (pa_cons (pv 0) (pa_cons (pe_op op_add (pv 1) pe_int) pa_nil))) pa_nil)) (pg_name (i := 4) sc_l_rides.nd rfl (Or.inl rfl)) (pss_cons (ps_set (i := 5) sc_l_rides.nd rfl (Or.inl rfl) (pe_op op_sub (pe_callC G_l_next (hr.mono (by decide)) T.g__law_next (pa_cons (pv 0) (pa_cons (pe_op op_mul pe_int (pv 2)) pa_nil))) (pv 2)))
      (pss_one (ps_expr (pe_bm PySem.F.plainAttrs_list PySem.F.slot_list_append PySem.F.type_list_append mt_append (pv 3) (pa_cons (pe_tup (pa_cons (pv 5) (pa_cons (pe_op op_add (pv 5) (pe_op op_mul (pe_callC G_l_next (hr.mono (by decide)) T.g__law_next (pa_cons (pv 0) (pa_cons (pv 2) pa_nil))) (pe_callTy call_int1 (by rfl) T.b_int (by decide +kernel) (pa_cons (pe_cmpR op_gt (pe_callC G_l_next (hr.mono (by decide)) T.g__law_next (pa_cons (pv 0) (pa_cons pe_int pa_nil))) pe_int (nomark _)) pa_nil)))) pa_nil))) pa_nil))))))
      (pss_one (ps_ret (pv 3))))), ?_⟩
    refine ⟨Nat.zero_le _, fun L hL => ?_⟩
    have nt : ¬ TD D L := fun t => dr.live L t hL
    have g0 : Grow (TD D) I H I (upd H L (.lst [])) := Grow.mine dr.sub hL
    have ow0 : Own (TD D) H L (.lst []) I (upd H L (.lst [])) := Own.new dr.sub (.inl (Same.refl H)) dr.live hL
    refine ⟨_, rfl, _, rfl, _, _, rfl, rfl, I, D, n, _, rfl, dr.grow (Grow.mine dr.sub hL), by omega, by omega, by omega, fun r H1 h0 h1 g1 d1 => ?_⟩
    have gg := g0.trans g1
    have ow1 := ow0.grow g1
    refine ⟨r, rfl, by omega, by omega, ?_⟩
    refine for_it (walk_range (lo := 0) (n := r.toNat)) (fun i σ H' => ∃ (I' : Hp) (rs : Rides) (ws : List V) (v4 v5 : Option V), σ = [some (.ref D.d), some (.int many), some (.int wide), some (.ref L), v4, v5] ∧ Grow (TD D) I H I' H' ∧ Own (TD D) H L (.lst ws) I' H' ∧ Drw D (n + 1 + 3 * i) I' H' ∧ Paired (Rep.is I') ws rs ∧ rs.length = i ∧ (∀ r ∈ rs, r.1 ≤ r.2 ∧ r.1.natAbs < 5000000 ∧ r.2.natAbs < 5000000))
      ⟨I, [], [], none, none, rfl, gg, ow1, d1, .nil, rfl, fun _ z => nomatch z⟩ (fun _ _ _ _ _ => trivial) ?_ ?_
    · rintro i x σ H2 H3 hi ⟨I2, rs, ws, v4, v5, rfl, g2, ow2, d2, hp, hl, hr2⟩ ⟨rfl, rfl⟩
      have hir : (i : Int) < r := by omega
      have him : i ≤ many := by omega
      refine ⟨_, rfl, _, rfl, _, _, rfl, rfl, .inl ⟨by decide, by decide⟩, I2, D, n + 1 + 3 * i, 2 * (wide : Int), rfl, d2, by omega, by omega, by omega, fun b H4 hb0 hb1 g4 d4 => ?_⟩
      refine ⟨_, rfl, _, _, rfl, rfl, ?_⟩
      have ow4 := ow2.grow g4
      refine ⟨_, rfl, .inl ⟨rfl, _, SqL.of ow4.at_⟩, _, rfl, _, rfl, _, rfl, _, rfl, I2, D, n + 1 + 3 * i + 1, (wide : Int), rfl, d4, by omega, by omega, by omega, fun e H5 he0 he1 g5 d5 => ?_⟩
      refine ⟨_, rfl, I2, D, n + 1 + 3 * i + 1 + 1, 4, rfl, d5, by decide, by decide, by omega, fun z H6 hz0 hz1 g6 d6 => ?_⟩
      refine ⟨_, _, rfl, rfl, .inr ⟨_, rfl, _, _, rfl, rfl, .inl ⟨by omega, by omega⟩, _, _, rfl, rfl, (by show 2 ≤ sizeLine; decide), fun t ht => ?_⟩⟩
      have ow6 := (ow4.grow g5).grow g6
      have gt : Grow (TD D) I2 H6 _ (upd H6 t (.tup [.int (b - wide), .int (b - wide + e * (if decide (0 < z) = true then 1 else 0))])) := Grow.new g6.sub ht
      have ow7 := ow6.grow gt
      have hf : (if decide (0 < z) = true then (1 : Int) else 0) = 1 ∨ (if decide (0 < z) = true then (1 : Int) else 0) = 0 := by split <;> simp
      have hval : b - wide ≤ b - wide + e * (if decide (0 < z) = true then 1 else 0) ∧ (b - wide).natAbs < 5000000 ∧ (b - wide + e * (if decide (0 < z) = true then 1 else 0)).natAbs < 5000000 := by
        rcases hf with q | q <;> rw [q] <;> omega
      have hlw : ws.length = i := by rw [Nw.Paired.len hp, hl]
      refine ⟨L, ws, _, rfl, rfl, ow7.at_, by rw [sizeLine_eq]; omega, _, rs ++ [(b - wide, b - wide + e * (if decide (0 < z) = true then 1 else 0))], ws ++ [.ref t], _, _, rfl, (((g2.trans g4).trans (g5.trans g6)).trans gt).put ow7, ow7.put, ((d6.grow (Grow.new g6.sub ht)).put ow7).mono (by omega), ?_, by simp [hl], fun r hr => ?_⟩
      · exact Paired.snoc (Paired.mono' (fun _ _ z => Rep.mono gt.view z) hp) ⟨t, _, _, rfl, upd_same, rfl, rfl⟩
      · rcases List.mem_append.mp hr with hr | hr
        · exact hr2 r hr
        · rw [List.mem_singleton] at hr
          subst hr
          exact hval
    · rintro σ H2 ⟨I2, rs, ws, v4, v5, rfl, g2, ow2, d2, hp, hl, hr2⟩
      refine ⟨_, rfl, k rs _ _ _ (by omega) hr2 (g2.give ow2) ⟨L, ws, rfl, upd_same, Paired.mono' (fun _ _ z => Rep.mono (Same.up ow2.ni) z) hp⟩ ((d2.give ow2).mono (by omega))⟩
theorem ok_l_moment (T : Txt K mg) (F : FnAt K "_law_moment" "_law_moment" s_l_moment (He.ga K "_law_moment")) (G_l_next : Ok P w K mg base CX0 1 (He.ga K "_law_next") ["_law_draw", "_law_many"] (sp_l_next K)) (G_l_pick : Ok P w K mg base CX0 2 (He.ga K "_law_pick") ["_law_draw", "_law_some"] (sp_l_pick K)) : Ok P w K mg base CX0 3 (He.ga K "_law_moment") ["_law_draw", "_law_wide_here"] (sp_l_moment K) := by
  refine ok_of F sc_l_moment (fun _ _ _ _ _ _ us hl => match us, hl with | [_, _], _ => rfl) (fun vs H Q E h => ?_) (fun cdv A outer s H vs Q E hr h => ?_)
  · obtain ⟨_, _, _, _, rfl, _⟩ := h
    rfl
  · obtain ⟨I, D, n, wide, rfl, dr, hn, hw0, hw1, k⟩ := h
    refine ⟨_, (pss_cons (ps_setLc (i := 2) (own := [("_law_turn", 3)]) (g := (gName 3)) rfl sc_l_moment.nd rfl rfl (sw_true rfl rfl rfl (by decide +kernel)) (pi_range1 rfl T.b_range (pa_cons pe_int pa_nil)) (blkOk_by (own := [("_law_turn", 3)]) (N := n_l_moment) (sc := defScope s_l_moment) (by decide +kernel)) (fun _ _ _ _ _ => (pg_name (i := 3) sc_l_moment.nd rfl (Or.inl rfl))) (fun _ _ _ _ _ => pts_nil) (fun _ _ _ _ _ => (pe_op op_sub (pe_op op_sub (pe_callC G_l_next (hr.mono (by decide)) T.g__law_next (pa_cons (pv 0) (pa_cons (pe_op op_mul pe_int (pv 1)) pa_nil))) (pv 1)) (pe_op op_fdiv (pv 1) pe_int))))
      (pss_one (ps_ret (pe_callC G_l_pick (hr.mono (by decide)) T.g__law_pick (pa_cons (pv 0) (pa_cons (pe_op op_cat (pv 2) (pe_lst (pa_cons pe_str (pa_cons pe_str pa_nil)))) pa_nil)))))), ?_⟩
    have hw : 0 ≤ (wide : Int) / 2 ∧ (wide : Int) / 2 ≤ wide := by omega
    refine ⟨4, rfl, by decide, by decide, fun L hL => ?_⟩
    refine lc_gen (T := TD D) (I := I) (β := Int) (walk_range (lo := 0) (n := 4)) (fun i => Drw D (n + i)) (fun _ => Stable.drw) dr.sub dr.live hL dr (by decide) (fun _ _ _ _ _ => trivial) (fun _ o => ∀ t, o = some t → t.natAbs < 10000000) ?_ ?_
    · rintro i x I1 H1 H2 hi g1 d1 ⟨rfl, rfl⟩ Kn Ky kn ky
      refine ⟨rfl, lc_yes ?_⟩
      refine ⟨_, rfl, _, rfl, _, _, rfl, rfl, .inl ⟨by decide, by decide⟩, I1, D, n + i, 3 * (wide : Int), rfl, d1, by omega, by omega, by omega, fun r H3 h0 h1 g2 d2 => ?_⟩
      refine ⟨_, rfl, _, _, rfl, rfl, _, rfl, _, _, rfl, rfl, ⟨by decide, by decide⟩, _, _, rfl, rfl, ?_⟩
      exact ky _ (fun t e => by cases e; omega) _ I1 H3 g2 d2 rfl
    · intro os I1 H1 vs' hlen hP g1 d1 ow hp
      have e1 := Paired.ints hp
      subst e1
      have hl4 : (os.filterMap id).length ≤ 4 := by rw [← hlen]; exact List.length_filterMap_le _ _
      refine ⟨_, rfl, _, rfl, by decide, fun p hp1 => ?_⟩
      have gp : Grow (TD D) I1 H1 I1 (upd H1 p (.lst [V.str "first", V.str "last"])) := Grow.mine g1.sub hp1
      have ow1 := ow.grow gp
      refine ⟨L, p, _, _, rfl, rfl, ow1.at_, upd_same, by simp [sizeLine_eq]; omega, fun q hq => ?_⟩
      have gq : Grow (TD D) I1 (upd H1 p (.lst [V.str "first", V.str "last"])) I1 (upd (upd H1 p (.lst [V.str "first", V.str "last"])) q (.lst ((os.filterMap id).map V.int ++ [V.str "first", V.str "last"]))) := Grow.mine gp.sub hq
      have d2 := (d1.grow (Grow.mine g1.sub hp1)).grow (Grow.mine (o := .lst ((os.filterMap id).map V.int ++ [V.str "first", V.str "last"])) gp.sub hq)
      refine ⟨I1, D, n + 4, _, rfl, d2, by omega, .inl ⟨q, _, rfl, fun t => (d1.grow (Grow.mine g1.sub hp1)).live q t hq, upd_same, by simp, by simp; omega, fun j x H' hx g3 d3 => ?_⟩⟩
      have hm : ∃ m : Mom, x = m.v ∧ smallM m := by
        rcases List.mem_append.mp (List.mem_of_getElem? hx) with z | z
        · obtain ⟨t, ht, rfl⟩ := List.mem_map.mp z
          obtain ⟨o, ho, he⟩ := List.mem_filterMap.mp ht
          obtain ⟨i, hi⟩ := List.getElem?_of_mem ho
          exact ⟨.num t, rfl, hP i o hi t he⟩
        · rcases List.mem_cons.mp z with rfl | z
          · exact ⟨.first, rfl, trivial⟩
          · rw [List.mem_singleton] at z
            exact ⟨.last, z, trivial⟩
      obtain ⟨m, rfl, hs⟩ := hm
      exact k m _ _ hs (((g1.trans gp).trans gq).trans g3) (d3.mono (by omega))
end
end Nw

namespace Nw
open PySem PySem.Spec PyProof.Rows L2
/-! ### moments in order; steps and their counterparts -/
def Mom.le : Mom → Mom → Prop
  | .first, _ => True
  | _, .last => True
  | .num s, .num t => s ≤ t
  | _, _ => False
theorem Mom.le_refl (a : Mom) : a.le a := by cases a <;> simp [Mom.le]
theorem Mom.le_trans {a b c : Mom} (h : a.le b) (k : b.le c) : a.le c := by
  cases a <;> cases b <;> cases c <;> simp_all [Mom.le]
  omega
theorem Mom.le_anti {a b : Mom} (h : a.le b) (k : b.le a) : a = b := by
  cases a <;> cases b <;> simp_all [Mom.le]
  omega
def Gal (f g : Mom → Mom) : Prop := ∀ t s, (f t).le s ↔ t.le (g s)
theorem Gal.fgf {f g : Mom → Mom} (h : Gal f g) (t : Mom) : f (g (f t)) = f t := by
  have h1 : t.le (g (f t)) := (h t (f t)).mp (Mom.le_refl _)
  have h2 : (g (f t)).le (g (f (g (f t)))) := (h _ _).mp (Mom.le_refl _)
  exact Mom.le_anti ((h _ _).mpr (Mom.le_refl _)) ((h _ _).mpr (Mom.le_trans h1 h2))
theorem Gal.gfg {f g : Mom → Mom} (h : Gal f g) (t : Mom) : g (f (g t)) = g t := by
  have h1 : (f (g t)).le t := (h _ _).mpr (Mom.le_refl _)
  have h2 : (f (g (f (g t)))).le (f (g t)) := (h _ _).mpr (Mom.le_refl _)
  exact Mom.le_anti ((h _ _).mp (Mom.le_trans h2 h1)) ((h _ _).mp (Mom.le_refl _))
def ascR (ns : Rides) : Prop := ns.Pairwise fun a b => a.1 < b.1 ∧ a.2 < b.2
def hdE : List Int → Mom
  | [] => .last
  | e :: _ => .num e
def hdB : List Int → Mom
  | [] => .first
  | e :: _ => .num e
theorem endedL_num (ns : Rides) (t : Int) : endedL ns (.num t) = hdE (ns.filterMap fun r => if r.1 ≥ t then some r.2 else none) := by
  dsimp only [endedL]
  generalize (ns.filterMap fun r => if r.1 ≥ t then some r.2 else none) = l
  cases l <;> rfl
theorem begunL_num (ns : Rides) (t : Int) : begunL ns (.num t) = hdB (ns.reverse.filterMap fun r => if r.2 ≤ t then some r.1 else none) := by
  rw [List.filterMap_reverse]
  dsimp only [begunL]
  generalize (ns.filterMap fun r => if r.2 ≤ t then some r.1 else none).reverse = l
  cases l <;> rfl
theorem hdE_le (s t : Int) : ∀ ns : Rides, ascR ns → ((hdE (ns.filterMap fun r => if r.1 ≥ t then some r.2 else none)).le (.num s) ↔ ∃ r ∈ ns, t ≤ r.1 ∧ r.2 ≤ s)
  | [], _ => by simp [hdE, Mom.le]
  | r :: ns, h => by
    have h' := List.pairwise_cons.mp h
    rw [List.filterMap_cons]
    by_cases c : r.1 ≥ t
    · rw [if_pos c]
      show r.2 ≤ s ↔ _
      refine ⟨fun z => ⟨r, List.mem_cons_self .., c, z⟩, fun ⟨q, hq, h1, h2⟩ => ?_⟩
      rcases List.mem_cons.mp hq with rfl | hq
      · exact h2
      · have := h'.1 q hq
        omega
    · rw [if_neg c]
      show (hdE (ns.filterMap _)).le _ ↔ _
      rw [hdE_le s t ns h'.2]
      refine ⟨fun ⟨q, hq, z⟩ => ⟨q, List.mem_cons_of_mem _ hq, z⟩, fun ⟨q, hq, h1, h2⟩ => ?_⟩
      rcases List.mem_cons.mp hq with rfl | hq
      · exact absurd h1 c
      · exact ⟨q, hq, h1, h2⟩
theorem hdB_le (s t : Int) : ∀ ns : Rides, (ns.Pairwise fun a b => b.1 < a.1 ∧ b.2 < a.2) → ((Mom.num t).le (hdB (ns.filterMap fun r => if r.2 ≤ s then some r.1 else none)) ↔ ∃ r ∈ ns, t ≤ r.1 ∧ r.2 ≤ s)
  | [], _ => by simp [hdB, Mom.le]
  | r :: ns, h => by
    have h' := List.pairwise_cons.mp h
    rw [List.filterMap_cons]
    by_cases c : r.2 ≤ s
    · rw [if_pos c]
      show t ≤ r.1 ↔ _
      refine ⟨fun z => ⟨r, List.mem_cons_self .., z, c⟩, fun ⟨q, hq, h1, h2⟩ => ?_⟩
      rcases List.mem_cons.mp hq with rfl | hq
      · exact h1
      · have := h'.1 q hq
        omega
    · rw [if_neg c]
      show (Mom.num t).le (hdB (ns.filterMap _)) ↔ _
      rw [hdB_le s t ns h'.2]
      refine ⟨fun ⟨q, hq, z⟩ => ⟨q, List.mem_cons_of_mem _ hq, z⟩, fun ⟨q, hq, h1, h2⟩ => ?_⟩
      rcases List.mem_cons.mp hq with rfl | hq
      · exact absurd h2 c
      · exact ⟨q, hq, h1, h2⟩
theorem hdE_cases (l : List Int) : hdE l = .last ∨ ∃ e, e ∈ l ∧ hdE l = .num e := by
  cases l with
  | nil => exact .inl rfl
  | cons e r => exact .inr ⟨e, List.mem_cons_self .., rfl⟩
theorem hdB_cases (l : List Int) : hdB l = .first ∨ ∃ e, e ∈ l ∧ hdB l = .num e := by
  cases l with
  | nil => exact .inl rfl
  | cons e r => exact .inr ⟨e, List.mem_cons_self .., rfl⟩
theorem gal_rides {ns : Rides} (h : ascR ns) : Gal (endedL ns) (begunL ns) := by
  intro t s
  match t, s with
  | .first, s => exact ⟨fun _ => trivial, fun _ => trivial⟩
  | .last, .last => exact ⟨fun _ => trivial, fun _ => trivial⟩
  | .last, .first => exact ⟨fun z => z.elim, fun z => z.elim⟩
  | .last, .num s =>
    rw [begunL_num]
    refine ⟨fun z => z.elim, fun z => ?_⟩
    rcases hdB_cases (ns.reverse.filterMap fun r => if r.2 ≤ s then some r.1 else none) with e | ⟨_, _, e⟩ <;> (rw [e] at z; exact z.elim)
  | .num t, .last =>
    refine ⟨fun _ => trivial, fun _ => ?_⟩
    cases endedL ns (.num t) <;> trivial
  | .num t, .first =>
    rw [endedL_num]
    refine ⟨fun z => ?_, fun z => z.elim⟩
    rcases hdE_cases (ns.filterMap fun r => if r.1 ≥ t then some r.2 else none) with e | ⟨_, _, e⟩ <;> (rw [e] at z; exact z.elim)
  | .num t, .num s =>
    rw [endedL_num, begunL_num, hdE_le s t ns h, hdB_le s t ns.reverse (List.pairwise_reverse.mpr h)]
    simp only [List.mem_reverse]
def ascT (tb : List (Nat × Rides)) : Prop := ∀ p ∈ tb, ascR p.2
theorem ascT.look {tb : List (Nat × Rides)} (h : ascT tb) (c : Nat) : ascR ((lookT tb c).getD []) := by
  unfold lookT
  cases e : tb.find? fun p => decide (p.1 = c) with
  | none => exact .nil
  | some p => exact h p (List.mem_of_find?_eq_some e)
theorem gal_step {tb : List (Nat × Rides)} (h : ascT tb) {c : Nat} (hc : isStep c = true) (hl : low c = true) : Gal (fun m => stepL tb m c) (fun m => stepL tb m (cp c)) := by
  have e : low (cp c) = false ∧ cp c + 32 = c := by
    rcases step_cases hc with rfl | rfl | rfl | rfl | rfl | rfl | rfl | rfl <;> first | exact absurd hl (by decide) | exact ⟨rfl, rfl⟩
  intro t s
  show (stepL tb t c).le s ↔ t.le (stepL tb s (cp c))
  unfold stepL
  rw [hl, e.1, e.2, if_pos rfl, if_neg Bool.false_ne_true]
  exact gal_rides (h.look c) t s
theorem ledL_app (tb : List (Nat × Rides)) (a b : List Nat) (m : Mom) : ledL tb (a ++ b) m = ledL tb b (ledL tb a m) := List.foldl_append
theorem ledL_one (tb : List (Nat × Rides)) (c : Nat) (m : Mom) : ledL tb [c] m = stepL tb m c := rfl
theorem gal_row {tb : List (Nat × Rides)} (h : ascT tb) : ∀ l : List Nat, (∀ c ∈ l, isStep c = true ∧ low c = true) → Gal (ledL tb l) (ledL tb (turnedL l))
  | [], _ => fun t s => Iff.rfl
  | c :: l, hl => fun t s => by
    have e : turnedL (c :: l) = turnedL l ++ [cp c] := by simp [turnedL]
    have hc := hl c (List.mem_cons_self ..)
    rw [e, ledL_app, ledL_one]
    show (ledL tb l (stepL tb t c)).le s ↔ _
    rw [gal_row h l (fun x hx => hl x (List.mem_cons_of_mem _ hx)) (stepL tb t c) s]
    exact gal_step h hc.1 hc.2 t _
theorem step_thrice {tb : List (Nat × Rides)} (h : ascT tb) {c : Nat} (hc : isStep c = true) (m : Mom) : stepL tb (stepL tb (stepL tb m c) (cp c)) c = stepL tb m c := by
  by_cases hl : low c = true
  · exact (gal_step h hc hl).fgf m
  · have e : low (cp c) = true := by
      rcases step_cases hc with rfl | rfl | rfl | rfl | rfl | rfl | rfl | rfl <;> first | exact absurd rfl hl | rfl
    have z := (gal_step h (cp_step hc) e).gfg m
    rw [cp_cp hc] at z
    exact z
theorem led_collapse {tb : List (Nat × Rides)} (h : ascT tb) (m : Mom) : ∀ l : List Nat, (∀ c ∈ l, isStep c = true) → ledL tb (collapse l).reverse m = ledL tb l.reverse m
  | x :: y :: z :: r, hs => by
    unfold collapse
    split
    · rename_i hc
      obtain ⟨rfl, rfl⟩ := hc
      rw [led_collapse h m (x :: r) (fun c hc => hs c (List.mem_cons_of_mem _ (List.mem_cons_of_mem _ hc)))]
      simp only [List.reverse_cons]
      rw [ledL_app, ledL_app, ledL_app, ledL_app]
      simp only [ledL_one]
      exact (step_thrice h (hs x (List.mem_cons_self ..)) _).symm
    · rfl
  | [], _ => rfl
  | [x], _ => rfl
  | [x, y], _ => rfl
theorem led_push {tb : List (Nat × Rides)} (h : ascT tb) (m : Mom) : ∀ (l st : List Nat), (∀ c ∈ l, isStep c = true) → (∀ c ∈ st, isStep c = true) → ledL tb (l.foldl pushC st).reverse m = ledL tb (st.reverse ++ l) m
  | [], st, _, _ => by rw [List.append_nil]; rfl
  | c :: l, st, hl, hs => by
    have hs1 : ∀ d ∈ c :: st, isStep d = true := fun d hd => by
      rcases List.mem_cons.mp hd with rfl | q
      · exact hl d (List.mem_cons_self ..)
      · exact hs d q
    have e := led_push h m l (pushC st c) (fun d hd => hl d (List.mem_cons_of_mem _ hd)) (fun d hd => hs1 d (collapse_sub _ d hd))
    show ledL tb (l.foldl pushC (pushC st c)).reverse m = _
    rw [e, ledL_app]
    show ledL tb l (ledL tb (collapse (c :: st)).reverse m) = _
    rw [led_collapse h m (c :: st) hs1, List.reverse_cons, ← ledL_app, List.append_assoc] <;> rfl
theorem led_reduced {tb : List (Nat × Rides)} (h : ascT tb) (m : Mom) (l : List Nat) (hl : ∀ c ∈ l, isStep c = true) : ledL tb (reducedL l) m = ledL tb l m := led_push h m l [] hl (fun _ z => nomatch z)
/-! sizes, places -/
def smallR (ns : Rides) : Prop := ∀ r ∈ ns, r.1.natAbs < 10000000 ∧ r.2.natAbs < 10000000
def smallT (tb : List (Nat × Rides)) : Prop := ∀ p ∈ tb, smallR p.2
theorem smallT.look {tb : List (Nat × Rides)} (h : smallT tb) (c : Nat) : smallR ((lookT tb c).getD []) := by
  unfold lookT
  cases e : tb.find? fun p => decide (p.1 = c) with
  | none => exact fun _ z => nomatch z
  | some p => exact h p (List.mem_of_find?_eq_some e)
theorem small_ended {ns : Rides} (h : smallR ns) : ∀ m : Mom, smallM m → smallM (endedL ns m)
  | .first, _ => trivial
  | .last, _ => trivial
  | .num t, _ => by
    rw [endedL_num]
    rcases hdE_cases (ns.filterMap fun r => if r.1 ≥ t then some r.2 else none) with e | ⟨x, hx, e⟩
    · rw [e]; trivial
    · rw [e]
      obtain ⟨r, hr, z⟩ := List.mem_filterMap.mp hx
      split at z
      · cases z; exact (h r hr).2
      · cases z
theorem small_begun {ns : Rides} (h : smallR ns) : ∀ m : Mom, smallM m → smallM (begunL ns m)
  | .first, _ => trivial
  | .last, _ => trivial
  | .num t, _ => by
    rw [begunL_num]
    rcases hdB_cases (ns.reverse.filterMap fun r => if r.2 ≤ t then some r.1 else none) with e | ⟨x, hx, e⟩
    · rw [e]; trivial
    · rw [e]
      obtain ⟨r, hr, z⟩ := List.mem_filterMap.mp hx
      split at z
      · cases z; exact (h r (List.mem_reverse.mp hr)).1
      · cases z
theorem small_led {tb : List (Nat × Rides)} (h : smallT tb) : ∀ (l : List Nat) (m : Mom), smallM m → smallM (ledL tb l m)
  | [], m, hm => hm
  | c :: l, m, hm => by
    refine small_led h l (stepL tb m c) ?_
    unfold stepL
    split
    · exact small_ended (h.look _) m hm
    · exact small_begun (h.look _) m hm
theorem pl_big : (20000000 : Int) < 10 ^ 50 := by decide +kernel
theorem place_le : ∀ {a b : Mom}, smallM a → smallM b → (placeM a ≤ placeM b ↔ a.le b)
  | .first, .first, _, _ => by simp [placeM, Mom.le]
  | .first, .last, _, _ => by simp only [placeM, Mom.le, iff_true, iff_false]; have := pl_big; generalize (10 : Int) ^ 50 = B at *; omega
  | .last, .first, _, _ => by simp only [placeM, Mom.le, iff_true, iff_false]; have := pl_big; generalize (10 : Int) ^ 50 = B at *; omega
  | .last, .last, _, _ => by simp [placeM, Mom.le]
  | .first, .num t, _, h => by simp only [smallM] at h; simp only [placeM, Mom.le, iff_true, iff_false]; have := pl_big; generalize (10 : Int) ^ 50 = B at *; omega
  | .num t, .first, h, _ => by simp only [smallM] at h; simp only [placeM, Mom.le, iff_true, iff_false]; have := pl_big; generalize (10 : Int) ^ 50 = B at *; omega
  | .last, .num t, _, h => by simp only [smallM] at h; simp only [placeM, Mom.le, iff_true, iff_false]; have := pl_big; generalize (10 : Int) ^ 50 = B at *; omega
  | .num t, .last, h, _ => by simp only [smallM] at h; simp only [placeM, Mom.le, iff_true, iff_false]; have := pl_big; generalize (10 : Int) ^ 50 = B at *; omega
  | .num s, .num t, _, _ => Iff.rfl
theorem place_gal {tb : List (Nat × Rides)} (h : ascT tb) (hs : smallT tb) {l : List Nat} (hl : ∀ c ∈ l, isStep c = true ∧ low c = true) {t s : Mom} (ht : smallM t) (hss : smallM s) :
    decide (placeM (ledL tb l t) ≤ placeM s) = decide (placeM t ≤ placeM (ledL tb (turnedL l) s)) := by
  refine decide_eq_decide.mpr ?_
  rw [place_le (small_led hs l t ht) hss, place_le ht (small_led hs _ s hss)]
  exact gal_row h l hl t s
end Nw

namespace Nw
open PySem PySem.Spec PyProof.Rows L2
/-! ### links put together -/
def momR (b : Int) : Mom → Option (Int × Int)
  | .num e => some (b, e)
  | _ => none
def momB (e : Int) : Mom → Option (Int × Int)
  | .num b => some (b, e)
  | _ => none
def soonerM (a b : Mom) : Mom := if a.lt b then a else b
def mulL (na nb : Rides) : Rides := na.filterMap fun r => momR r.1 (endedL nb (.num r.2))
def andL (na nb : Rides) : Rides := ((na ++ nb).map (·.2)).filterMap fun e => momB e (soonerM (begunL na (.num e)) (begunL nb (.num e)))
def invL (na : Rides) : Rides := na.map fun r => (-r.2, -r.1)
def validR (rs : Rides) : Prop := ∀ r ∈ rs, r.1 ≤ r.2
def sp_sooner_of (K : PySem.W.Frag) : Sp := fun vs H Q _ => ∃ a b : Mom, vs = [a.v, b.v] ∧ Q (soonerM a b).v H
def sp_link_by (K : PySem.W.Frag) : Sp := fun vs H Q _ => ∃ (I : Hp) (v : V) (rs : Rides), vs = [v] ∧ isL I v rs ∧ rs.length ≤ 60 ∧ validR rs ∧ Same I H ∧ ∀ ns p I' H', Grow No I H I' H' → isLink K I' (.ref p) ns → IsNeeded rs ns → Q (.ref p) H'
def sp_Link_end (K : PySem.W.Frag) : Sp := fun vs H Q _ => ∃ (I : Hp) (v : V) (ns : Rides) (m : Mom), vs = [v, m.v] ∧ isLink K I v ns ∧ ns.length ≤ 100000 ∧ Same I H ∧ ∀ I' H', Grow No I H I' H' → Q (endedL ns m).v H'
def sp_Link_begin (K : PySem.W.Frag) : Sp := fun vs H Q _ => ∃ (I : Hp) (v : V) (ns : Rides) (m : Mom), vs = [v, m.v] ∧ isLink K I v ns ∧ ns.length ≤ 100000 ∧ Same I H ∧ ∀ I' H', Grow No I H I' H' → Q (begunL ns m).v H'
def sp_Link__mul (K : PySem.W.Frag) : Sp := fun vs H Q _ => ∃ (I : Hp) (v1 v2 : V) (na nb : Rides), vs = [v1, v2] ∧ isLink K I v1 na ∧ isLink K I v2 nb ∧ na.length ≤ 60 ∧ nb.length ≤ 60 ∧ validR (mulL na nb) ∧ Same I H ∧ ∀ ns p I' H', Grow No I H I' H' → isLink K I' (.ref p) ns → IsNeeded (mulL na nb) ns → Q (.ref p) H'
def sp_Link__or (K : PySem.W.Frag) : Sp := fun vs H Q _ => ∃ (I : Hp) (v1 v2 : V) (na nb : Rides), vs = [v1, v2] ∧ isLink K I v1 na ∧ isLink K I v2 nb ∧ na.length + nb.length ≤ 60 ∧ validR (na ++ nb) ∧ Same I H ∧ ∀ ns p I' H', Grow No I H I' H' → isLink K I' (.ref p) ns → IsNeeded (na ++ nb) ns → Q (.ref p) H'
def sp_Link__and (K : PySem.W.Frag) : Sp := fun vs H Q _ => ∃ (I : Hp) (v1 v2 : V) (na nb : Rides), vs = [v1, v2] ∧ isLink K I v1 na ∧ isLink K I v2 nb ∧ na.length + nb.length ≤ 60 ∧ validR (andL na nb) ∧ Same I H ∧ ∀ ns p I' H', Grow No I H I' H' → isLink K I' (.ref p) ns → IsNeeded (andL na nb) ns → Q (.ref p) H'
def sp_Link__invert (K : PySem.W.Frag) : Sp := fun vs H Q _ => ∃ (I : Hp) (v1 : V) (na : Rides), vs = [v1] ∧ isLink K I v1 na ∧ na.length ≤ 60 ∧ validR (invL na) ∧ Same I H ∧ ∀ ns p I' H', Grow No I H I' H' → isLink K I' (.ref p) ns → IsNeeded (invL na) ns → Q (.ref p) H'
theorem Paired.app {α β : Type} {F : α → β → Prop} : ∀ {xs : List α} {ys : List β} {us : List α} {ws : List β}, Paired F xs ys → Paired F us ws → Paired F (xs ++ us) (ys ++ ws)
  | _, _, _, _, .nil, h => h
  | _, _, _, _, .cons a b, h => .cons a (Paired.app b h)
theorem asc_few {l : Rides} (h : ascR l) {rs : Rides} (hs : ∀ r ∈ l, r ∈ rs) : l.length ≤ rs.length := by
  have nd : l.Nodup := h.imp fun {a b} hab e => by rw [e] at hab; omega
  exact (List.Nodup.length_le_of_subset nd hs)
theorem IsNeeded.few {rs ns : Rides} (h : IsNeeded rs ns) : ns.length ≤ rs.length := asc_few h.asc h.sub
/-- needed of what is needed already -/
theorem IsNeeded.twice {rs ns ms : Rides} (h : IsNeeded rs ns) (k : IsNeeded ns ms) : IsNeeded rs ms :=
  ⟨k.asc, fun n hn => h.sub n (k.sub n hn), fun r hr => by
    obtain ⟨n, hn, h1, h2⟩ := h.cov r hr
    obtain ⟨m, hm, h3, h4⟩ := k.cov n hn
    exact ⟨m, hm, by omega, by omega⟩⟩
section
variable {P : Program} {w : World} {K : PySem.W.Frag} {mg : Str → Option Value} {base : Heap}
theorem ok_sooner_of (T : Txt K mg) (F : FnAt K "sooner_of" "sooner_of" s_sooner_of (He.ga K "sooner_of")) (G_is_earlier : Ok P w K mg base CX0 1 (He.ga K "is_earlier") ["one", "other"] (sp_is_earlier K)) : Ok P w K mg base CX0 2 (He.ga K "sooner_of") ["one", "other"] (sp_sooner_of K) := by
  refine ok_of F sc_sooner_of (fun _ _ _ _ _ _ us hl => match us, hl with | [_, _], _ => rfl) (fun vs H Q E h => ?_) (fun cdv A outer s H vs Q E hr h => ?_)
  · obtain ⟨_, _, rfl, _⟩ := h
    rfl
  · obtain ⟨a, b, rfl, k⟩ := h
    refine ⟨_, (pss_one (ps_ret (pe_ifExp (pt_val (pe_callC G_is_earlier (hr.mono (by decide)) T.g_is_earlier (pa_cons (pv 0) (pa_cons (pv 1) pa_nil)))) (pv 0) (pv 1)))), ?_⟩
    refine ⟨_, rfl, _, rfl, a, b, rfl, a.lt b, rfl, ?_⟩
    unfold soonerM at k
    cases hc : a.lt b
    · rw [hc] at k
      exact iteF ⟨_, rfl, k⟩
    · rw [hc] at k
      exact iteT ⟨_, rfl, k⟩
theorem ok_link_by (T : Txt K mg) (F : FnAt K "link_by" "link_by" s_link_by (He.ga K "link_by")) (G_needed : Ok P w K mg base CX0 1 (He.ga K "needed") ["rides"] (sp_needed K)) (G_Link__init : Ok P w K mg base CX0 3 (He.ma K (He.ga K "Link") "__init__") ["self", "rides"] (sp_Link__init K)) : Ok P w K mg base CX0 5 (He.ga K "link_by") ["rides"] (sp_link_by K) := by
  refine ok_of F sc_link_by (fun _ _ _ _ _ _ us hl => match us, hl with | [_], _ => rfl) (fun vs H Q E h => ?_) (fun cdv A outer s H vs Q E hr h => ?_)
  · obtain ⟨_, _, _, rfl, _⟩ := h
    rfl
  · obtain ⟨I, v, rs, rfl, hL, hz, hv, sb, k⟩ := h
    refine ⟨_, (pss_cons (ps_set (i := 1) sc_link_by.nd rfl (Or.inl rfl) (pe_callC G_needed (hr.mono (by decide)) T.g_needed (pa_cons (pv 0) pa_nil)))
      (pss_cons (ps_if (pt_cmpR op_gt (pe_callB call_len_seq (by rfl) T.b_len (by decide +kernel) (pa_cons (pv 1) pa_nil)) (pe_gint T.c_MOST_RIDES) (nomark _)) (pss_one ps_never) pss_nil)
      (pss_one (ps_ret (pe_makeC T.mk_Link G_Link__init (hr.mono (by decide)) T.g_Link (pa_cons (pv 1) pa_nil)))))), ?_⟩
    refine ⟨_, rfl, I, false, v, rs, rfl, hL.s, by omega, sb, fun ns v' I1 H1 g1 hu hn => ?_⟩
    obtain ⟨a, vs, rfl, ha, hp⟩ := id hu
    have hlen := Nw.Paired.len hp
    have hfew := hn.few
    refine ⟨_, rfl, a, vs, rfl, .inr (SqT.of (g1.sub _ _ ha)), _, _, rfl, rfl, false, (by show V.bl (decide ((60 : Int) < (vs.length : Nat))) = V.bl false; rw [decide_eq_false (by omega)]), iteF ?_⟩
    refine ⟨_, rfl, fun x dx hx hdx ne => ?_⟩
    refine ⟨I1, true, x, dx, _, ns, rfl, upd_same, g1.sub.free hx, hu.s, by omega, fun r hr => hv r (hn.sub r hr), (grow_made (T := No) g1.sub hx hdx ne).sub, fun ms t I2 H2 g2 h2 hu2 hn2 => ⟨rfl, ?_⟩⟩
    obtain ⟨gm, n3⟩ := Grow.make (T := No) g1 hx hdx ne g2 (fun b z => .inr (by rw [z]; exact live_none g1 hx)) h2
    exact k ms x _ _ gm ⟨x, dx, t, rfl, upd_same, hu2.up (Same.up n3)⟩ (hn.twice hn2)
theorem ok_Link_end (T : Txt K mg) (F : FnAt K "end" "Link.end" s_Link_end (He.ma K (He.ga K "Link") "end")) (G_need_moment : Ok P w K mg base CX0 3 (He.ga K "need_moment") ["moment"] (sp_need_moment K)) (G_ended : Ok P w K mg base CX0 1 (He.ga K "ended") ["rides", "moment"] (sp_ended K)) : Ok P w K mg base CX0 4 (He.ma K (He.ga K "Link") "end") ["self", "moment"] (sp_Link_end K) := by
  refine ok_of F sc_Link_end (fun _ _ _ _ _ _ us hl => match us, hl with | [_, _], _ => rfl) (fun vs H Q E h => ?_) (fun cdv A outer s H vs Q E hr h => ?_)
  · obtain ⟨_, _, _, _, rfl, _⟩ := h
    rfl
  · obtain ⟨I, v, ns, m, rfl, ⟨a, dx, t, rfl, ha, hu⟩, hz, sb, k⟩ := h
    refine ⟨_, (pss_cons (ps_expr (pe_callC G_need_moment (hr.mono (by decide)) T.g_need_moment (pa_cons (pv 1) pa_nil)))
      (pss_one (ps_ret (pe_callC G_ended (hr.mono (by decide)) T.g_ended (pa_cons (pe_fld (pv 0) rfl) (pa_cons (pv 1) pa_nil)))))), ?_⟩
    refine ⟨_, rfl, I, m, rfl, sb, fun I1 H1 g1 => ?_⟩
    refine ⟨_, rfl, a, _, dx, _, _, rfl, g1.sub _ _ (g1.view _ _ ha), T.cl_Link, T.na_Link_own_rides, rfl, _, rfl, I1, t, ns, m, rfl, hu.up g1.view, hz, g1.sub, fun I2 H2 g2 => k I2 H2 (g1.trans g2)⟩
theorem ok_Link_begin (T : Txt K mg) (F : FnAt K "begin" "Link.begin" s_Link_begin (He.ma K (He.ga K "Link") "begin")) (G_need_moment : Ok P w K mg base CX0 3 (He.ga K "need_moment") ["moment"] (sp_need_moment K)) (G_begun : Ok P w K mg base CX0 1 (He.ga K "begun") ["rides", "moment"] (sp_begun K)) : Ok P w K mg base CX0 4 (He.ma K (He.ga K "Link") "begin") ["self", "moment"] (sp_Link_begin K) := by
  refine ok_of F sc_Link_begin (fun _ _ _ _ _ _ us hl => match us, hl with | [_, _], _ => rfl) (fun vs H Q E h => ?_) (fun cdv A outer s H vs Q E hr h => ?_)
  · obtain ⟨_, _, _, _, rfl, _⟩ := h
    rfl
  · obtain ⟨I, v, ns, m, rfl, ⟨a, dx, t, rfl, ha, hu⟩, hz, sb, k⟩ := h
    refine ⟨_, (pss_cons (ps_expr (pe_callC G_need_moment (hr.mono (by decide)) T.g_need_moment (pa_cons (pv 1) pa_nil)))
      (pss_one (ps_ret (pe_callC G_begun (hr.mono (by decide)) T.g_begun (pa_cons (pe_fld (pv 0) rfl) (pa_cons (pv 1) pa_nil)))))), ?_⟩
    refine ⟨_, rfl, I, m, rfl, sb, fun I1 H1 g1 => ?_⟩
    refine ⟨_, rfl, a, _, dx, _, _, rfl, g1.sub _ _ (g1.view _ _ ha), T.cl_Link, T.na_Link_own_rides, rfl, _, rfl, I1, t, ns, m, rfl, hu.up g1.view, hz, g1.sub, fun I2 H2 g2 => k I2 H2 (g1.trans g2)⟩
theorem ok_Link__or (T : Txt K mg) (F : FnAt K "__or__" "Link.__or__" s_Link__or (He.ma K (He.ga K "Link") "__or__")) (G_link_by : Ok P w K mg base CX0 5 (He.ga K "link_by") ["rides"] (sp_link_by K)) : Ok P w K mg base CX0 6 (He.ma K (He.ga K "Link") "__or__") ["self", "other"] (sp_Link__or K) := by
  refine ok_of F sc_Link__or (fun _ _ _ _ _ _ us hl => match us, hl with | [_, _], _ => rfl) (fun vs H Q E h => ?_) (fun cdv A outer s H vs Q E hr h => ?_)
  · obtain ⟨_, _, _, _, _, rfl, _⟩ := h
    rfl
  · obtain ⟨I, v1, v2, na, nb, rfl, ⟨a, dx, t, rfl, ha, hu⟩, ⟨b, dy, t2, rfl, hb, hu2⟩, hz, hv, sb, k⟩ := h
    refine ⟨_, (pss_one (ps_ret (pe_callC G_link_by (hr.mono (by decide)) T.g_link_by (pa_cons (pe_op op_cat (pe_callTy call_list_of (by rfl) T.b_list (by decide +kernel) (pa_cons (pe_fld (pv 0) rfl) pa_nil)) (pe_callTy call_list_of (by rfl) T.b_list (by decide +kernel) (pa_cons (pe_fld (pv 1) rfl) pa_nil))) pa_nil)))), ?_⟩
    obtain ⟨p, vs, rfl, hp, hpp⟩ := hu
    obtain ⟨q, ws, rfl, hq, hqq⟩ := hu2
    have l1 := Nw.Paired.len hpp
    have l2 := Nw.Paired.len hqq
    refine ⟨_, rfl, a, _, dx, _, _, rfl, sb _ _ ha, T.cl_Link, T.na_Link_own_rides, rfl, p, vs, rfl, .inr (SqT.of (sb _ _ hp)), fun x hx => ?_⟩
    have g1 : Grow No I H I (upd H x (.lst vs)) := Grow.mine sb hx
    refine ⟨_, rfl, b, _, dy, _, _, rfl, g1.sub _ _ hb, T.cl_Link, T.na_Link_own_rides, rfl, q, ws, rfl, .inr (SqT.of (g1.sub _ _ hq)), fun y hy => ?_⟩
    have g2 : Grow No I (upd H x (.lst vs)) I (upd (upd H x (.lst vs)) y (.lst ws)) := Grow.mine g1.sub hy
    refine ⟨x, y, vs, ws, rfl, rfl, by rw [upd_ne (ne_of_none upd_same hy)]; exact upd_same, upd_same, by rw [sizeLine_eq]; omega, fun z hz2 => ?_⟩
    have g3 := (g1.trans g2).trans (Grow.new (T := No) (o := .lst (vs ++ ws)) g2.sub hz2)
    refine ⟨_, _, na ++ nb, rfl, ⟨z, vs ++ ws, rfl, upd_same, ?_⟩, by simp; omega, hv, g3.sub, fun ns p I' H' g hl hn => k ns p I' H' (g3.trans g) hl hn⟩
    exact Nw.Paired.app (Paired.mono' (fun _ _ z => Rep.mono (Same.up (g2.sub.free hz2)) z) hpp) (Paired.mono' (fun _ _ z => Rep.mono (Same.up (g2.sub.free hz2)) z) hqq)
theorem ok_Link__mul (T : Txt K mg) (F : FnAt K "__mul__" "Link.__mul__" s_Link__mul (He.ma K (He.ga K "Link") "__mul__")) (G_ended : Ok P w K mg base CX0 1 (He.ga K "ended") ["rides", "moment"] (sp_ended K)) (G_link_by : Ok P w K mg base CX0 5 (He.ga K "link_by") ["rides"] (sp_link_by K)) : Ok P w K mg base CX0 6 (He.ma K (He.ga K "Link") "__mul__") ["self", "other"] (sp_Link__mul K) := by
  refine ok_of F sc_Link__mul (fun _ _ _ _ _ _ us hl => match us, hl with | [_, _], _ => rfl) (fun vs H Q E h => ?_) (fun cdv A outer s H vs Q E hr h => ?_)
  · obtain ⟨_, _, _, _, _, rfl, _⟩ := h
    rfl
  · obtain ⟨I, v1, v2, na, nb, rfl, ⟨a, dx, t, rfl, ha, hu⟩, ⟨b, dy, t2, rfl, hb, hu2⟩, hza, hzb, hv, sb, k⟩ := h
    refine ⟨_, (pss_cons (ps_setLc (i := 2) (own := [("begin", 3), ("end", 4)]) (g := (gTup K 2 (gCons (gName 3) (gCons (gName 4) gNil)))) rfl sc_Link__mul.nd rfl rfl (sw_true rfl rfl rfl (by decide +kernel)) (pi_tup (pe_fld (pv 0) rfl)) (blkOk_by (own := [("begin", 3), ("end", 4)]) (N := n_Link__mul) (sc := defScope s_Link__mul) (by decide +kernel)) (fun _ _ _ _ _ => (pg_tup (by rfl) (pgs_cons (pg_name (i := 3) sc_Link__mul.nd rfl (Or.inl rfl)) (pgs_cons (pg_name (i := 4) sc_Link__mul.nd rfl (Or.inl rfl)) pgs_nil)))) (fun _ _ _ _ _ => pts_nil) (fun _ _ _ _ _ => (pe_tup (pa_cons (pv 3) (pa_cons (pe_callC G_ended (hr.mono (by decide)) T.g_ended (pa_cons (pe_fldK (K := K) rfl (pv 1) rfl) (pa_cons (pv 4) pa_nil))) pa_nil)))))
      (pss_one (ps_ret (pe_callC G_link_by (hr.mono (by decide)) T.g_link_by (pa_cons (pe_lc (own := [("begin", 3), ("end", 4)]) (g := (gTup K 2 (gCons (gName 3) (gCons (gName 4) gNil)))) rfl sc_Link__mul.nd (pi_list (pv 2)) (blkOk_by (own := [("begin", 3), ("end", 4)]) (N := n_Link__mul) (sc := defScope s_Link__mul) (by decide +kernel)) (fun _ _ _ _ _ => (pg_tup (by rfl) (pgs_cons (pg_name (i := 3) sc_Link__mul.nd rfl (Or.inl rfl)) (pgs_cons (pg_name (i := 4) sc_Link__mul.nd rfl (Or.inl rfl)) pgs_nil)))) (fun _ _ _ _ _ => (pts_one (pt_cmpR op_ne (pv 4) (pe_gstr T.c_LAST) (nomark _)))) (fun _ _ _ _ _ => (pe_tup (pa_cons (pv 3) (pa_cons (pv 4) pa_nil))))) pa_nil))))), ?_⟩
    obtain ⟨p, vs, rfl, hp, hpp⟩ := hu
    have l1 := Nw.Paired.len hpp
    refine ⟨_, rfl, a, _, dx, _, _, rfl, sb _ _ ha, T.cl_Link, T.na_Link_own_rides, rfl, p, rfl, ⟨_, SqT.of (sb _ _ hp)⟩, fun L hL => ?_⟩
    refine lc_pure (β := Int × Mom) walk_tup na (fun r => some (r.1, endedL nb (.num r.2))) l1.symm sb hL (by rw [l1]; omega) (fun I' H' g => SqT.of (g.sub _ _ (g.view _ _ hp))) ?_ ?_
    · rintro i r x I' H' H'' hr g ⟨rfl, hx⟩ Kn Ky kn ky
      obtain ⟨x', hx', c, w1, w2, rfl, hc, h1, h2⟩ := Nw.Paired.at hpp hr
      rw [hx] at hx'
      cases hx'
      cases h1
      cases h2
      refine ⟨c, _, rfl, SqT.of (g.sub _ _ (g.view _ _ hc)), rfl, _, _, rfl, _, _, rfl, rfl, rfl, lc_yes ?_⟩
      refine ⟨_, rfl, _, rfl, b, _, dy, _, _, rfl, g.sub _ _ (g.view _ _ hb), T.cl_Link, T.na_Link_own_rides, rfl, _, rfl, I', t2, nb, .num r.2, rfl, hu2.up g.view, by omega, g.sub, fun I2 H2 g2 => ?_⟩
      refine ⟨(by show 2 ≤ sizeLine; decide), fun q hq => ?_⟩
      exact ky _ rfl _ _ _ (g2.trans (Grow.new g2.sub hq)) ⟨q, _, _, rfl, upd_same, rfl, rfl⟩
    · intro I1 H1 vs1 g1 ow hp1
      rw [fm_some] at hp1
      have l2 := Nw.Paired.len hp1
      refine ⟨_, rfl, L, rfl, ⟨_, SqL.of ow.at_⟩, fun L2 hL2 => ?_⟩
      refine lc_pure (β := Int × Int) walk_list (na.map fun r => (r.1, endedL nb (.num r.2))) (fun x => momR x.1 x.2) l2.symm g1.sub hL2 (by rw [l2, List.length_map]; omega) (fun I' H' g => SqL.of (g.same _ _ ow.at_)) ?_ ?_
      · rintro i r x I' H' H'' hr g ⟨rfl, hx⟩ Kn Ky kn ky
        obtain ⟨x', hx', c, w1, w2, rfl, hc, h1, h2⟩ := Nw.Paired.at hp1 hr
        rw [hx] at hx'
        cases hx'
        cases h1
        cases h2
        refine ⟨c, _, rfl, SqT.of (g.sub _ _ (g.view _ _ hc)), rfl, _, _, rfl, _, _, rfl, rfl, rfl, ?_⟩
        refine ⟨_, rfl, Mom.scal r.2 .last, _, rfl, ?_⟩
        have e1 : decide (r.2.v = .str "last") = decide (r.2 = .last) := r.2.eqv .last
        rw [e1]
        obtain ⟨r1, m⟩ := r
        have hem : ∀ r ∈ na.map (fun r => (r.1, endedL nb (.num r.2))), r.2 ≠ .first := fun r hr => by
          obtain ⟨q, _, rfl⟩ := List.mem_map.mp hr
          show endedL nb (.num q.2) ≠ .first
          rw [endedL_num]
          rcases hdE_cases (nb.filterMap fun r => if r.1 ≥ q.2 then some r.2 else none) with e | ⟨_, _, e⟩ <;> rw [e] <;> exact fun z => nomatch z
        match m, hr, ky, kn with
        | .last, _, ky, kn => exact kn rfl I' H'' (Grow.refl g.sub)
        | .first, hr, ky, kn => exact absurd rfl (hem _ (List.mem_of_getElem? hr))
        | .num e, _, ky, kn => exact ⟨_, rfl, _, rfl, (by show 2 ≤ sizeLine; decide), fun q hq => ky (r1, e) rfl _ _ _ (Grow.new g.sub hq) ⟨q, _, _, rfl, upd_same, rfl, rfl⟩⟩
      · intro I2 H2 vs2 g2 ow2 hp2
        have em : (na.map fun r => (r.1, endedL nb (.num r.2))).filterMap (fun x => momR x.1 x.2) = mulL na nb := by
          rw [List.filterMap_map]; rfl
        rw [em] at hp2
        have hfew : (mulL na nb).length ≤ na.length := List.length_filterMap_le _ _
        have g12 := (g1.trans g2)
        exact ⟨_, _, mulL na nb, rfl, ⟨L2, vs2, rfl, upd_same, Paired.mono' (fun _ _ z => Rep.mono (Same.up ow2.ni) z) hp2⟩, by omega, hv, (g12.give' (live_none g1 hL2) ow2.ni ow2.at_).sub, fun ns p I' H' g hl hn => k ns p I' H' ((g12.give' (live_none g1 hL2) ow2.ni ow2.at_).trans g) hl hn⟩
theorem ok_Link__invert (T : Txt K mg) (F : FnAt K "__invert__" "Link.__invert__" s_Link__invert (He.ma K (He.ga K "Link") "__invert__")) (G_link_by : Ok P w K mg base CX0 5 (He.ga K "link_by") ["rides"] (sp_link_by K)) : Ok P w K mg base CX0 6 (He.ma K (He.ga K "Link") "__invert__") ["self"] (sp_Link__invert K) := by
  refine ok_of F sc_Link__invert (fun _ _ _ _ _ _ us hl => match us, hl with | [_], _ => rfl) (fun vs H Q E h => ?_) (fun cdv A outer s H vs Q E hr h => ?_)
  · obtain ⟨_, _, _, rfl, _⟩ := h
    rfl
  · obtain ⟨I, v1, na, rfl, ⟨a, dx, t, rfl, ha, hu⟩, hza, hv, sb, k⟩ := h
    refine ⟨_, (pss_one (ps_ret (pe_callC G_link_by (hr.mono (by decide)) T.g_link_by (pa_cons (pe_lc (own := [("begin", 1), ("end", 2)]) (g := (gTup K 2 (gCons (gName 1) (gCons (gName 2) gNil)))) rfl sc_Link__invert.nd (pi_tup (pe_fld (pv 0) rfl)) (blkOk_by (own := [("begin", 1), ("end", 2)]) (N := n_Link__invert) (sc := defScope s_Link__invert) (by decide +kernel)) (fun _ _ _ _ _ => (pg_tup (by rfl) (pgs_cons (pg_name (i := 1) sc_Link__invert.nd rfl (Or.inl rfl)) (pgs_cons (pg_name (i := 2) sc_Link__invert.nd rfl (Or.inl rfl)) pgs_nil)))) (fun _ _ _ _ _ => pts_nil) (fun _ _ _ _ _ => (pe_tup (pa_cons (pe_un un_neg (pv 2)) (pa_cons (pe_un un_neg (pv 1)) pa_nil))))) pa_nil)))), ?_⟩
    obtain ⟨p, vs, rfl, hp, hpp⟩ := hu
    have l1 := Nw.Paired.len hpp
    refine ⟨_, rfl, a, _, dx, _, _, rfl, sb _ _ ha, T.cl_Link, T.na_Link_own_rides, rfl, p, rfl, ⟨_, SqT.of (sb _ _ hp)⟩, fun L hL => ?_⟩
    refine lc_pure (β := Int × Int) walk_tup na (fun r => some (-r.2, -r.1)) l1.symm sb hL (by rw [l1]; omega) (fun I' H' g => SqT.of (g.sub _ _ (g.view _ _ hp))) ?_ ?_
    · rintro i r x I' H' H'' hr g ⟨rfl, hx⟩ Kn Ky kn ky
      obtain ⟨x', hx', c, w1, w2, rfl, hc, h1, h2⟩ := Nw.Paired.at hpp hr
      rw [hx] at hx'
      cases hx'
      cases h1
      cases h2
      refine ⟨c, _, rfl, SqT.of (g.sub _ _ (g.view _ _ hc)), rfl, _, _, rfl, _, _, rfl, rfl, rfl, lc_yes ?_⟩
      refine ⟨_, rfl, _, rfl, _, rfl, _, rfl, (by show 2 ≤ sizeLine; decide), fun q hq => ?_⟩
      exact ky _ rfl _ _ _ (Grow.new g.sub hq) ⟨q, _, _, rfl, upd_same, rfl, rfl⟩
    · intro I1 H1 vs1 g1 ow hp1
      rw [fm_some] at hp1
      exact ⟨_, _, invL na, rfl, ⟨L, vs1, rfl, upd_same, Paired.mono' (fun _ _ z => Rep.mono (Same.up ow.ni) z) hp1⟩, by simp [invL]; omega, hv, (g1.give ow).sub, fun ns p I' H' g hl hn => k ns p I' H' ((g1.give ow).trans g) hl hn⟩
theorem ok_Link__and (T : Txt K mg) (F : FnAt K "__and__" "Link.__and__" s_Link__and (He.ma K (He.ga K "Link") "__and__")) (G_begun : Ok P w K mg base CX0 1 (He.ga K "begun") ["rides", "moment"] (sp_begun K)) (G_sooner_of : Ok P w K mg base CX0 2 (He.ga K "sooner_of") ["one", "other"] (sp_sooner_of K)) (G_link_by : Ok P w K mg base CX0 5 (He.ga K "link_by") ["rides"] (sp_link_by K)) : Ok P w K mg base CX0 6 (He.ma K (He.ga K "Link") "__and__") ["self", "other"] (sp_Link__and K) := by
  refine ok_of F sc_Link__and (fun _ _ _ _ _ _ us hl => match us, hl with | [_, _], _ => rfl) (fun vs H Q E h => ?_) (fun cdv A outer s H vs Q E hr h => ?_)
  · obtain ⟨_, _, _, _, _, rfl, _⟩ := h
    rfl
  · obtain ⟨I, v1, v2, na, nb, rfl, ⟨a, dx, t, rfl, ha, hu⟩, ⟨b, dy, t2, rfl, hb, hu2⟩, hz, hv, sb, k⟩ := h
    refine ⟨_, (pss_cons (ps_setLc (i := 2) (own := [("begin", 4), ("end", 5)]) (g := (gTup K 2 (gCons (gName 4) (gCons (gName 5) gNil)))) rfl sc_Link__and.nd rfl rfl (sw_true rfl rfl rfl (by decide +kernel)) (pi_list (pe_op op_cat (pe_callTy call_list_of (by rfl) T.b_list (by decide +kernel) (pa_cons (pe_fld (pv 0) rfl) pa_nil)) (pe_callTy call_list_of (by rfl) T.b_list (by decide +kernel) (pa_cons (pe_fld (pv 1) rfl) pa_nil)))) (blkOk_by (own := [("begin", 4), ("end", 5)]) (N := n_Link__and) (sc := defScope s_Link__and) (by decide +kernel)) (fun _ _ _ _ _ => (pg_tup (by rfl) (pgs_cons (pg_name (i := 4) sc_Link__and.nd rfl (Or.inl rfl)) (pgs_cons (pg_name (i := 5) sc_Link__and.nd rfl (Or.inl rfl)) pgs_nil)))) (fun _ _ _ _ _ => pts_nil) (fun _ _ _ _ _ => (pv 5)))
      (pss_cons (ps_setLc (i := 3) (own := [("end", 5)]) (g := (gName 5)) rfl sc_Link__and.nd rfl rfl (sw_true rfl rfl rfl (by decide +kernel)) (pi_list (pv 2)) (blkOk_by (own := [("end", 5)]) (N := n_Link__and) (sc := defScope s_Link__and) (by decide +kernel)) (fun _ _ _ _ _ => (pg_name (i := 5) sc_Link__and.nd rfl (Or.inl rfl))) (fun _ _ _ _ _ => pts_nil) (fun _ _ _ _ _ => (pe_tup (pa_cons (pe_callC G_sooner_of (hr.mono (by decide)) T.g_sooner_of (pa_cons (pe_callC G_begun (hr.mono (by decide)) T.g_begun (pa_cons (pe_fldK (K := K) rfl (pv 0) rfl) (pa_cons (pv 5) pa_nil))) (pa_cons (pe_callC G_begun (hr.mono (by decide)) T.g_begun (pa_cons (pe_fldK (K := K) rfl (pv 1) rfl) (pa_cons (pv 5) pa_nil))) pa_nil))) (pa_cons (pv 5) pa_nil)))))
      (pss_one (ps_ret (pe_callC G_link_by (hr.mono (by decide)) T.g_link_by (pa_cons (pe_lc (own := [("begin", 4), ("end", 5)]) (g := (gTup K 2 (gCons (gName 4) (gCons (gName 5) gNil)))) rfl sc_Link__and.nd (pi_list (pv 3)) (blkOk_by (own := [("begin", 4), ("end", 5)]) (N := n_Link__and) (sc := defScope s_Link__and) (by decide +kernel)) (fun _ _ _ _ _ => (pg_tup (by rfl) (pgs_cons (pg_name (i := 4) sc_Link__and.nd rfl (Or.inl rfl)) (pgs_cons (pg_name (i := 5) sc_Link__and.nd rfl (Or.inl rfl)) pgs_nil)))) (fun _ _ _ _ _ => (pts_one (pt_cmpR op_ne (pv 4) (pe_gstr T.c_FIRST) (nomark _)))) (fun _ _ _ _ _ => (pe_tup (pa_cons (pv 4) (pa_cons (pv 5) pa_nil))))) pa_nil)))))), ?_⟩
    have hu0 := hu
    have hu20 := hu2
    obtain ⟨p, vs, rfl, hp, hpp⟩ := hu
    obtain ⟨q, ws, rfl, hq, hqq⟩ := hu2
    have l1 := Nw.Paired.len hpp
    have l2 := Nw.Paired.len hqq
    refine ⟨_, rfl, a, _, dx, _, _, rfl, sb _ _ ha, T.cl_Link, T.na_Link_own_rides, rfl, p, vs, rfl, .inr (SqT.of (sb _ _ hp)), fun x hx => ?_⟩
    have g1 : Grow No I H I (upd H x (.lst vs)) := Grow.mine sb hx
    refine ⟨_, rfl, b, _, dy, _, _, rfl, g1.sub _ _ hb, T.cl_Link, T.na_Link_own_rides, rfl, q, ws, rfl, .inr (SqT.of (g1.sub _ _ hq)), fun y hy => ?_⟩
    have g2 : Grow No I (upd H x (.lst vs)) I (upd (upd H x (.lst vs)) y (.lst ws)) := Grow.mine g1.sub hy
    refine ⟨x, y, vs, ws, rfl, rfl, by rw [upd_ne (ne_of_none upd_same hy)]; exact upd_same, upd_same, by rw [sizeLine_eq]; omega, fun z hz2 => ?_⟩
    have gz : Grow No I (upd (upd H x (.lst vs)) y (.lst ws)) I _ := Grow.mine (o := .lst (vs ++ ws)) g2.sub hz2
    have g3 := (g1.trans g2).trans gz
    refine ⟨z, rfl, ⟨_, SqL.of upd_same⟩, fun L hL => ?_⟩
    have hab := Nw.Paired.app hpp hqq
    have lab := Nw.Paired.len hab
    refine lc_pure (β := Int) walk_list (na ++ nb) (fun r => some r.2) lab.symm g3.sub hL (by rw [lab]; simp; omega) (fun I' H' g => SqL.of (g.same _ _ upd_same)) ?_ ?_
    · rintro i r x I' H' H'' hr g ⟨rfl, hx⟩ Kn Ky kn ky
      obtain ⟨x', hx', c, w1, w2, rfl, hc, h1, h2⟩ := Nw.Paired.at hab hr
      rw [hx] at hx'
      cases hx'
      cases h1
      cases h2
      refine ⟨c, _, rfl, SqT.of (g.sub _ _ (g.view _ _ hc)), rfl, _, _, rfl, _, _, rfl, rfl, rfl, lc_yes ?_⟩
      exact ⟨_, rfl, ky _ rfl _ I' H'' (Grow.refl g.sub) rfl⟩
    · intro I1 H1 es g4 ow hp1
      rw [fm_some] at hp1
      have e1 := Paired.ints hp1
      subst e1
      have g4' := g3.trans g4
      refine ⟨_, rfl, L, rfl, ⟨_, SqL.of ow.at_⟩, fun L2 hL2 => ?_⟩
      refine lc_pure (β := Mom × Int) walk_list ((na ++ nb).map (·.2)) (fun e => some (soonerM (begunL na (.num e)) (begunL nb (.num e)), e)) (by simp) g4.sub hL2 (by simp; omega) (fun I' H' g => SqL.of (g.same _ _ ow.at_)) ?_ ?_
      · rintro i r x I' H' H'' hr g ⟨rfl, hx⟩ Kn Ky kn ky
        obtain ⟨r', hr', rfl⟩ := getI hx
        rw [hr] at hr'
        cases hr'
        refine ⟨rfl, lc_yes ?_⟩
        have gI := g4'.view.trans g.view
        refine ⟨_, rfl, a, _, dx, _, _, rfl, g.sub _ _ (gI _ _ ha), T.cl_Link, T.na_Link_own_rides, rfl, _, rfl, I', _, na, .num r, rfl, hu0.up gI, by omega, g.sub, fun I2 H2 g5 => ?_⟩
        have gI2 := gI.trans g5.view
        refine ⟨_, rfl, b, _, dy, _, _, rfl, g5.sub _ _ (gI2 _ _ hb), T.cl_Link, T.na_Link_own_rides, rfl, _, rfl, I2, _, nb, .num r, rfl, hu20.up gI2, by omega, g5.sub, fun I3 H3 g6 => ?_⟩
        refine ⟨_, _, rfl, _, rfl, (by show 2 ≤ sizeLine; decide), fun q hq => ?_⟩
        exact ky _ rfl _ _ _ ((g5.trans g6).trans (Grow.new g6.sub hq)) ⟨q, _, _, rfl, upd_same, rfl, rfl⟩
      · intro I2 H2 ms g5 ow2 hp2
        rw [fm_some] at hp2
        have l3 := Nw.Paired.len hp2
        have g5' := g4'.trans g5
        refine ⟨_, rfl, L2, rfl, ⟨_, SqL.of ow2.at_⟩, fun L3 hL3 => ?_⟩
        refine lc_pure (β := Int × Int) walk_list (((na ++ nb).map (·.2)).map fun e => (soonerM (begunL na (.num e)) (begunL nb (.num e)), e)) (fun x => momB x.2 x.1) l3.symm g5.sub hL3 (by rw [l3]; simp; omega) (fun I' H' g => SqL.of (g.same _ _ ow2.at_)) ?_ ?_
        · rintro i r x I' H' H'' hr g ⟨rfl, hx⟩ Kn Ky kn ky
          obtain ⟨x', hx', c, w1, w2, rfl, hc, h1, h2⟩ := Nw.Paired.at hp2 hr
          rw [hx] at hx'
          cases hx'
          cases h1
          cases h2
          refine ⟨c, _, rfl, SqT.of (g.sub _ _ (g.view _ _ hc)), rfl, _, _, rfl, _, _, rfl, rfl, rfl, ?_⟩
          refine ⟨_, rfl, Mom.scal r.1 .first, _, rfl, ?_⟩
          have e1 : decide (r.1.v = .str "first") = decide (r.1 = .first) := r.1.eqv .first
          rw [e1]
          obtain ⟨m, r1⟩ := r
          have hem : ∀ r ∈ (((na ++ nb).map (·.2)).map fun e => (soonerM (begunL na (.num e)) (begunL nb (.num e)), e)), r.1 ≠ .last := fun r hr => by
            obtain ⟨q, _, rfl⟩ := List.mem_map.mp hr
            have hb1 : ∀ ns : Rides, begunL ns (.num q) ≠ .last := fun ns => by
              rw [begunL_num]
              rcases hdB_cases (ns.reverse.filterMap fun r => if r.2 ≤ q then some r.1 else none) with e | ⟨_, _, e⟩ <;> rw [e] <;> exact fun z => nomatch z
            show soonerM _ _ ≠ .last
            unfold soonerM
            split
            · exact hb1 _
            · exact hb1 _
          match m, hr, ky, kn with
          | .first, _, ky, kn => exact kn rfl I' H'' (Grow.refl g.sub)
          | .last, hr, ky, kn => exact absurd rfl (hem _ (List.mem_of_getElem? hr))
          | .num e, _, ky, kn => exact ⟨_, rfl, _, rfl, (by show 2 ≤ sizeLine; decide), fun q hq => ky (e, r1) rfl _ _ _ (Grow.new g.sub hq) ⟨q, _, _, rfl, upd_same, rfl, rfl⟩⟩
        · intro I3 H3 vs3 g6 ow3 hp3
          have em : (((na ++ nb).map (·.2)).map fun e => (soonerM (begunL na (.num e)) (begunL nb (.num e)), e)).filterMap (fun x => momB x.2 x.1) = andL na nb := by
            rw [List.filterMap_map]; rfl
          rw [em] at hp3
          have hfew : (andL na nb).length ≤ na.length + nb.length := by
            have z : (andL na nb).length ≤ ((na ++ nb).map (·.2)).length := List.length_filterMap_le _ _
            simpa using z
          have g36 := g5'.trans g6
          have gf := g36.give' (live_none g5' hL3) ow3.ni ow3.at_
          exact ⟨_, _, andL na nb, rfl, ⟨L3, vs3, rfl, upd_same, Paired.mono' (fun _ _ z => Rep.mono (Same.up ow3.ni) z) hp3⟩, by omega, hv, gf.sub, fun ns p I' H' g hl hn => k ns p I' H' (gf.trans g) hl hn⟩
end
end Nw

namespace Nw
open PySem PySem.Spec PyProof.Rows L2
/-! ### links compared -/
def dP (r : Int × Int) : PyData := .tuple [.int r.1, .int r.2]
def dR (ns : Rides) : PyData := .tuple (ns.map dP)
theorem dp_all {K : PySem.W.Frag} {I H : Hp} (sb : Same I H) : ∀ {vs : List V} {ns : Rides}, Paired (Rep.is I) vs ns → DpAll K H vs (ns.map dP)
  | _, _, .nil => .nil
  | _, _, .cons ⟨a, v1, v2, e, ha, h1, h2⟩ t => by
    cases e
    cases h1
    cases h2
    exact .cons (.tup (SqT.of (sb _ _ ha)) (.cons (.int _) (.cons (.int _) .nil))) (dp_all sb t)
theorem dp_rides {K : PySem.W.Frag} {I H : Hp} {v : V} {ns : Rides} (h : isU I v ns) (sb : Same I H) : Dp K H v (dR ns) := by
  obtain ⟨a, vs, rfl, ha, hp⟩ := h
  exact .tup (SqT.of (sb _ _ ha)) (dp_all sb hp)
theorem lay_rides : ∀ ns : Rides, PyData.canLayAll0 (ns.map dP) = true ∧ PyData.depthAll (ns.map dP) ≤ 1
  | [] => ⟨rfl, Nat.zero_le _⟩
  | r :: ns => by
    obtain ⟨h1, h2⟩ := lay_rides ns
    refine ⟨?_, ?_⟩
    · show (PyData.canLay0 (dP r) && PyData.canLayAll0 (ns.map dP)) = true
      rw [h1]
      rfl
    · show max (PyData.depth (dP r)) (PyData.depthAll (ns.map dP)) ≤ 1
      exact Nat.max_le.mpr ⟨Nat.le_refl 1, h2⟩
theorem shaped_rides (ns : Rides) : SeqAt.shaped (dR ns) = true := by
  obtain ⟨h1, h2⟩ := lay_rides ns
  show (PyData.canLayAll0 (ns.map dP) && decide (PyData.depthAll (ns.map dP) + 1 ≤ 64)) = true
  rw [h1, decide_eq_true (by omega)]
  rfl
theorem eqv_all : ∀ ns ms : Rides, PyData.eqvAll (ns.map dP) (ms.map dP) = decide (ns = ms)
  | [], [] => rfl
  | [], _ :: _ => rfl
  | _ :: _, [] => rfl
  | a :: ns, b :: ms => by
    show (PyData.eqvAll [.int a.1, .int a.2] [.int b.1, .int b.2] && PyData.eqvAll (ns.map dP) (ms.map dP)) = _
    rw [eqv_all ns ms]
    show (((a.1 == b.1) && ((a.2 == b.2) && true)) && decide (ns = ms)) = _
    rw [Bool.eq_iff_iff]
    simp only [Bool.and_eq_true, beq_iff_eq, decide_eq_true_eq, Bool.and_true, List.cons.injEq]
    constructor
    · rintro ⟨⟨h1, h2⟩, h3⟩
      exact ⟨Prod.ext h1 h2, h3⟩
    · rintro ⟨rfl, h3⟩
      exact ⟨⟨rfl, rfl⟩, h3⟩
theorem eqv_rides (ns ms : Rides) : PyData.eqv (dR ns) (dR ms) = decide (ns = ms) := eqv_all ns ms
def sp_Link__eq (K : PySem.W.Frag) : Sp := fun vs H Q _ => ∃ (I : Hp) (v1 v2 : V) (na nb : Rides), vs = [v1, v2] ∧ isLink K I v1 na ∧ isLink K I v2 nb ∧ Same I H ∧ Q (.bl (decide (na = nb))) H
def leB (na nb : Rides) : Bool := nb.all fun r => !(Mom.num r.2).lt (endedL na (.num r.1))
def sp_Link__le (K : PySem.W.Frag) : Sp := fun vs H Q _ => ∃ (I : Hp) (v1 v2 : V) (na nb : Rides), vs = [v1, v2] ∧ isLink K I v1 na ∧ isLink K I v2 nb ∧ na.length ≤ 60 ∧ nb.length ≤ 60 ∧ Same I H ∧ ∀ I' H', Grow No I H I' H' → Q (.bl (leB na nb)) H'
section
variable {P : Program} {w : World} {K : PySem.W.Frag} {mg : Str → Option Value} {base : Heap}
theorem ok_Link__eq (T : Txt K mg) (F : FnAt K "__eq__" "Link.__eq__" s_Link__eq (He.ma K (He.ga K "Link") "__eq__"))  : Ok P w K mg base CX0 1 (He.ma K (He.ga K "Link") "__eq__") ["self", "other"] (sp_Link__eq K) := by
  refine ok_of F sc_Link__eq (fun _ _ _ _ _ _ us hl => match us, hl with | [_, _], _ => rfl) (fun vs H Q E h => ?_) (fun cdv A outer s H vs Q E hr h => ?_)
  · obtain ⟨_, _, _, _, _, rfl, _⟩ := h
    rfl
  · obtain ⟨I, v1, v2, na, nb, rfl, ⟨a, dx, t, rfl, ha, hu⟩, ⟨b, dy, t2, rfl, hb, hu2⟩, sb, k⟩ := h
    refine ⟨_, (pss_one (ps_ret (pe_and (pe_callB call_isi (by rfl) T.b_isinstance (by decide +kernel) (pa_cons (pv 1) (pa_cons (pe_gref T.g_Link) pa_nil))) (pe_one (pe_cmpR (op_eqD hr.units) (pe_fld (pv 0) rfl) (pe_fld (pv 1) rfl) (nomark _)))))), ?_⟩
    refine ⟨_, rfl, .ref b, .ref (He.ga K "Link"), _, _, true, rfl, .own _, T.is_Link.ty T.cl_Link (sb _ _ hb), kit_self, true, rfl, ?_⟩
    refine iteT ⟨_, rfl, a, _, dx, _, _, rfl, sb _ _ ha, T.cl_Link, T.na_Link_own_rides, rfl, _, rfl, b, _, dy, _, _, rfl, sb _ _ hb, T.cl_Link, T.na_Link_own_rides, rfl, dR na, dR nb, dp_rides hu sb, dp_rides hu2 sb, shaped_rides na, shaped_rides nb, ?_⟩
    rw [eqv_rides]
    exact k
theorem ok_Link__le (T : Txt K mg) (F : FnAt K "__le__" "Link.__le__" s_Link__le (He.ma K (He.ga K "Link") "__le__")) (G_is_earlier : Ok P w K mg base CX0 1 (He.ga K "is_earlier") ["one", "other"] (sp_is_earlier K)) (G_ended : Ok P w K mg base CX0 1 (He.ga K "ended") ["rides", "moment"] (sp_ended K)) : Ok P w K mg base CX0 3 (He.ma K (He.ga K "Link") "__le__") ["self", "other"] (sp_Link__le K) := by
  refine ok_of F sc_Link__le (fun _ _ _ _ _ _ us hl => match us, hl with | [_, _], _ => rfl) (fun vs H Q E h => ?_) (fun cdv A outer s H vs Q E hr h => ?_)
  · obtain ⟨_, _, _, _, _, rfl, _⟩ := h
    rfl
  · obtain ⟨I, v1, v2, na, nb, rfl, ⟨a, dx, t, rfl, ha, hu⟩, ⟨b, dy, t2, rfl, hb, hu2⟩, hza, hzb, sb, k⟩ := h
    refine ⟨_, (pss_one (ps_ret (pe_callB (cr_all rfl) (by rfl) T.b_all (by decide +kernel) (pa_cons (pe_lc (own := [("begin", 2), ("end", 3)]) (g := (gTup K 2 (gCons (gName 2) (gCons (gName 3) gNil)))) rfl sc_Link__le.nd (pi_tup (pe_fld (pv 1) rfl)) (blkOk_by (own := [("begin", 2), ("end", 3)]) (N := n_Link__le) (sc := defScope s_Link__le) (by decide +kernel)) (fun _ _ _ _ _ => (pg_tup (by rfl) (pgs_cons (pg_name (i := 2) sc_Link__le.nd rfl (Or.inl rfl)) (pgs_cons (pg_name (i := 3) sc_Link__le.nd rfl (Or.inl rfl)) pgs_nil)))) (fun _ _ _ _ _ => pts_nil) (fun _ _ _ _ _ => (pe_not (pe_callC G_is_earlier (hr.mono (by decide)) T.g_is_earlier (pa_cons (pv 3) (pa_cons (pe_callC G_ended (hr.mono (by decide)) T.g_ended (pa_cons (pe_fldK (K := K) rfl (pv 0) rfl) (pa_cons (pv 2) pa_nil))) pa_nil)))))) pa_nil)))), ?_⟩
    obtain ⟨q, ws, rfl, hq, hqq⟩ := hu2
    have l2 := Nw.Paired.len hqq
    refine ⟨_, rfl, b, _, dy, _, _, rfl, sb _ _ hb, T.cl_Link, T.na_Link_own_rides, rfl, q, rfl, ⟨_, SqT.of (sb _ _ hq)⟩, fun L hL => ?_⟩
    refine lc_pure (β := Bool) walk_tup nb (fun r => some (!(Mom.num r.2).lt (endedL na (.num r.1)))) l2.symm sb hL (by rw [l2]; omega) (fun I' H' g => SqT.of (g.sub _ _ (g.view _ _ hq))) ?_ ?_
    · rintro i r x I' H' H'' hr g ⟨rfl, hx⟩ Kn Ky kn ky
      obtain ⟨x', hx', c, w1, w2, rfl, hc, h1, h2⟩ := Nw.Paired.at hqq hr
      rw [hx] at hx'
      cases hx'
      cases h1
      cases h2
      refine ⟨c, _, rfl, SqT.of (g.sub _ _ (g.view _ _ hc)), rfl, _, _, rfl, _, _, rfl, rfl, rfl, lc_yes ?_⟩
      refine ⟨_, rfl, _, rfl, a, _, dx, _, _, rfl, g.sub _ _ (g.view _ _ ha), T.cl_Link, T.na_Link_own_rides, rfl, _, rfl, I', t, na, .num r.1, rfl, hu.up g.view, by omega, g.sub, fun I2 H2 g2 => ?_⟩
      refine ⟨.num r.2, endedL na (.num r.1), rfl, _, rfl, ?_⟩
      exact ky _ rfl _ _ _ g2 rfl
    · intro I1 H1 vs1 g1 ow hp1
      have e2 := Paired.bls hp1
      rw [fm_some] at e2
      subst e2
      refine ⟨L, _, rfl, SqL.of ow.at_, ?_⟩
      have e3 : (nb.map fun r => !(Mom.num r.2).lt (endedL na (.num r.1))).all id = leB na nb := by
        rw [List.all_map]; rfl
      rw [e3]
      exact k I1 H1 g1
end
end Nw

namespace Nw
open PySem PySem.Spec PyProof.Rows L2
/-! ### the law's own looks at moments -/
def laterV (a b : Mom) : Mom := if placeM b < placeM a then a else b
def soonerV (a b : Mom) : Mom := if placeM b < placeM a then b else a
def turnedM : Mom → Mom
  | .first => .last
  | .last => .first
  | .num t => .num (0 - t)
def sp_l_later (K : PySem.W.Frag) : Sp := fun vs H Q _ => ∃ a b : Mom, vs = [a.v, b.v] ∧ Q (laterV a b).v H
def sp_l_sooner (K : PySem.W.Frag) : Sp := fun vs H Q _ => ∃ a b : Mom, vs = [a.v, b.v] ∧ Q (soonerV a b).v H
def sp_l_turned (K : PySem.W.Frag) : Sp := fun vs H Q _ => ∃ (I : Hp) (m : Mom), vs = [m.v] ∧ Same I H ∧ ∀ I' H', Grow No I H I' H' → Q (turnedM m).v H'
def IsEnd (rs : Rides) (m x : Mom) : Prop := match m with
  | .num t => (x = .last ∧ ∀ q ∈ rs, ¬ t ≤ q.1) ∨ ∃ e, x = .num e ∧ (∃ r ∈ rs, t ≤ r.1 ∧ r.2 = e) ∧ ∀ q ∈ rs, t ≤ q.1 → e ≤ q.2
  | .first => x = .first
  | .last => x = .last
def sp_l_end (K : PySem.W.Frag) : Sp := fun vs H Q _ => ∃ (I : Hp) (v : V) (rs : Rides) (m : Mom), vs = [v, m.v] ∧ isL I v rs ∧ rs.length ≤ 100000 ∧ Same I H ∧ ∀ x I' H', Grow No I H I' H' → IsEnd rs m x → Q x.v H'
def IsBegin (rs : Rides) (m x : Mom) : Prop := match m with
  | .num t => (x = .first ∧ ∀ q ∈ rs, ¬ q.2 ≤ t) ∨ ∃ e, x = .num e ∧ (∃ r ∈ rs, r.2 ≤ t ∧ r.1 = e) ∧ ∀ q ∈ rs, q.2 ≤ t → q.1 ≤ e
  | .first => x = .first
  | .last => x = .last
def sp_l_begin (K : PySem.W.Frag) : Sp := fun vs H Q _ => ∃ (I : Hp) (v : V) (rs : Rides) (m : Mom), vs = [v, m.v] ∧ isL I v rs ∧ rs.length ≤ 100000 ∧ Same I H ∧ ∀ x I' H', Grow No I H I' H' → IsBegin rs m x → Q x.v H'
section
variable {P : Program} {w : World} {K : PySem.W.Frag} {mg : Str → Option Value} {base : Heap}
theorem ok_l_later (T : Txt K mg) (F : FnAt K "_law_later" "_law_later" s_l_later (He.ga K "_law_later")) (G_l_place : Ok P w K mg base CX0 1 (He.ga K "_law_place") ["_law_moment_here"] (sp_l_place K)) : Ok P w K mg base CX0 2 (He.ga K "_law_later") ["_law_one", "_law_two"] (sp_l_later K) := by
  refine ok_of F sc_l_later (fun _ _ _ _ _ _ us hl => match us, hl with | [_, _], _ => rfl) (fun vs H Q E h => ?_) (fun cdv A outer s H vs Q E hr h => ?_)
  · obtain ⟨_, _, rfl, _⟩ := h
    rfl
  · obtain ⟨a, b, rfl, k⟩ := h
    refine ⟨_, (pss_one (ps_ret (pe_ifExp (pt_cmpR op_gt (pe_callC G_l_place (hr.mono (by decide)) T.g__law_place (pa_cons (pv 0) pa_nil)) (pe_callC G_l_place (hr.mono (by decide)) T.g__law_place (pa_cons (pv 1) pa_nil)) (nomark _)) (pv 0) (pv 1)))), ?_⟩
    refine ⟨_, rfl, a, rfl, _, rfl, b, rfl, _, _, rfl, rfl, _, rfl, ?_⟩
    unfold laterV at k
    refine ite2 (fun c => ?_) (fun c => ?_)
    · rw [if_pos (of_decide_eq_true c)] at k
      exact ⟨_, rfl, k⟩
    · rw [if_neg (fun z => c (decide_eq_true z))] at k
      exact ⟨_, rfl, k⟩
theorem ok_l_sooner (T : Txt K mg) (F : FnAt K "_law_sooner" "_law_sooner" s_l_sooner (He.ga K "_law_sooner")) (G_l_place : Ok P w K mg base CX0 1 (He.ga K "_law_place") ["_law_moment_here"] (sp_l_place K)) : Ok P w K mg base CX0 2 (He.ga K "_law_sooner") ["_law_one", "_law_two"] (sp_l_sooner K) := by
  refine ok_of F sc_l_sooner (fun _ _ _ _ _ _ us hl => match us, hl with | [_, _], _ => rfl) (fun vs H Q E h => ?_) (fun cdv A outer s H vs Q E hr h => ?_)
  · obtain ⟨_, _, rfl, _⟩ := h
    rfl
  · obtain ⟨a, b, rfl, k⟩ := h
    refine ⟨_, (pss_one (ps_ret (pe_ifExp (pt_cmpR op_gt (pe_callC G_l_place (hr.mono (by decide)) T.g__law_place (pa_cons (pv 0) pa_nil)) (pe_callC G_l_place (hr.mono (by decide)) T.g__law_place (pa_cons (pv 1) pa_nil)) (nomark _)) (pv 1) (pv 0)))), ?_⟩
    refine ⟨_, rfl, a, rfl, _, rfl, b, rfl, _, _, rfl, rfl, _, rfl, ?_⟩
    unfold soonerV at k
    refine ite2 (fun c => ?_) (fun c => ?_)
    · rw [if_pos (of_decide_eq_true c)] at k
      exact ⟨_, rfl, k⟩
    · rw [if_neg (fun z => c (decide_eq_true z))] at k
      exact ⟨_, rfl, k⟩
theorem ok_l_turned (T : Txt K mg) (F : FnAt K "_law_turned" "_law_turned" s_l_turned (He.ga K "_law_turned"))  : Ok P w K mg base CX0 1 (He.ga K "_law_turned") ["_law_moment_here"] (sp_l_turned K) := by
  refine ok_of F sc_l_turned (fun _ _ _ _ _ _ us hl => match us, hl with | [_], _ => rfl) (fun vs H Q E h => ?_) (fun cdv A outer s H vs Q E hr h => ?_)
  · obtain ⟨_, _, rfl, _⟩ := h
    rfl
  · obtain ⟨I, m, rfl, sb, k⟩ := h
    refine ⟨_, (pss_cons (ps_if (pt_cmpR op_in_seq (pv 0) (pe_tup (pa_cons pe_str (pa_cons pe_str pa_nil))) (by with_unfolding_all rfl)) (pss_one (ps_ret (pe_ifExp (pt_cmpR op_eq (pv 0) pe_str (nomark _)) pe_str pe_str))) pss_nil)
      (pss_one (ps_ret (pe_op op_sub pe_int (pv 0))))), ?_⟩
    refine ⟨_, rfl, by decide, fun p hp1 => ⟨p, _, rfl, .inr (SqT.of upd_same), m.flat, rfl, _, rfl, ?_⟩⟩
    have g1 : Grow No I H _ (upd H p (.tup [V.str "first", V.str "last"])) := Grow.new sb hp1
    match m, k with
    | .first, k => exact iteT ⟨_, rfl, rfl, _, rfl, iteT (k _ _ g1)⟩
    | .last, k => exact iteT ⟨_, rfl, rfl, _, rfl, iteF (k _ _ g1)⟩
    | .num t, k => exact iteF ⟨_, rfl, _, _, rfl, rfl, k _ _ g1⟩
theorem ok_l_end (T : Txt K mg) (F : FnAt K "_law_end" "_law_end" s_l_end (He.ga K "_law_end"))  : Ok P w K mg base CX0 1 (He.ga K "_law_end") ["_law_rides_here", "_law_moment_here"] (sp_l_end K) := by
  refine ok_of F sc_l_end (fun _ _ _ _ _ _ us hl => match us, hl with | [_, _], _ => rfl) (fun vs H Q E h => ?_) (fun cdv A outer s H vs Q E hr h => ?_)
  · obtain ⟨_, _, _, _, rfl, _⟩ := h
    rfl
  · obtain ⟨I, v, rs, m, rfl, ⟨a, vs, rfl, ha, hp⟩, hz, sb, k⟩ := h
    refine ⟨_, (pss_cons (ps_if (pt_cmpR op_in_seq (pv 1) (pe_tup (pa_cons pe_str (pa_cons pe_str pa_nil))) (by with_unfolding_all rfl)) (pss_one (ps_ret (pv 1))) pss_nil)
      (pss_cons (ps_setLc (i := 2) (own := [("_law_begin_here", 3), ("_law_end_here", 4)]) (g := (gTup K 2 (gCons (gName 3) (gCons (gName 4) gNil)))) rfl sc_l_end.nd rfl rfl (sw_true rfl rfl rfl (by decide +kernel)) (pi_list (pv 0)) (blkOk_by (own := [("_law_begin_here", 3), ("_law_end_here", 4)]) (N := n_l_end) (sc := defScope s_l_end) (by decide +kernel)) (fun _ _ _ _ _ => (pg_tup (by rfl) (pgs_cons (pg_name (i := 3) sc_l_end.nd rfl (Or.inl rfl)) (pgs_cons (pg_name (i := 4) sc_l_end.nd rfl (Or.inl rfl)) pgs_nil)))) (fun _ _ _ _ _ => (pts_one (pt_cmpR op_ge (pv 3) (pv 1) (nomark _)))) (fun _ _ _ _ _ => (pv 4)))
      (pss_one (ps_ret (pe_ifExp (pt_cmpR (op_neNil hr.units) (pv 2) (pe_lst pa_nil) (nomark _)) (pe_ix ix_list (pe_callB cr_sortedI (by rfl) T.b_sorted (by decide +kernel) (pa_cons (pe_lc (own := [("_law_end_here", 4)]) (g := (gName 4)) rfl sc_l_end.nd (pi_list (pv 2)) (blkOk_by (own := [("_law_end_here", 4)]) (N := n_l_end) (sc := defScope s_l_end) (by decide +kernel)) (fun _ _ _ _ _ => (pg_name (i := 4) sc_l_end.nd rfl (Or.inl rfl))) (fun _ _ _ _ _ => pts_nil) (fun _ _ _ _ _ => (pe_callTy call_int1 (by rfl) T.b_int (by decide +kernel) (pa_cons (pv 4) pa_nil)))) pa_nil)) pe_int (fun _ _ => rfl)) pe_str))))), ?_⟩
    refine ⟨_, rfl, by decide, fun p hp1 => ⟨p, _, rfl, .inr (SqT.of upd_same), m.flat, rfl, _, rfl, ?_⟩⟩
    have g1 : Grow No I H _ (upd H p (.tup [V.str "first", V.str "last"])) := Grow.new sb hp1
    match m, k with
    | .first, k => exact iteT ⟨_, rfl, k .first _ _ g1 rfl⟩
    | .last, k => exact iteT ⟨_, rfl, k .last _ _ g1 rfl⟩
    | .num t, k =>
      refine iteF ⟨_, rfl, a, rfl, ⟨_, SqL.of (g1.sub _ _ (g1.view _ _ ha))⟩, fun L hL => ?_⟩
      refine lc_pure (β := Int) walk_list rs (fun r => if r.1 ≥ t then some r.2 else none) (Nw.Paired.len hp).symm g1.sub hL (by rw [Nw.Paired.len hp]; omega) (fun I' H' g => SqL.of (g.sub _ _ (g.view _ _ (g1.view _ _ ha)))) ?_ ?_
      · rintro i r x I' H' H'' hr g ⟨rfl, hx⟩ Kn Ky kn ky
        obtain ⟨x', hx', b, v1, v2, rfl, hb, h1, h2⟩ := Nw.Paired.at hp hr
        rw [hx] at hx'
        cases hx'
        cases h1
        cases h2
        refine ⟨b, _, rfl, SqT.of (g.sub _ _ (g.view _ _ (g1.view _ _ hb))), rfl, _, _, rfl, _, _, rfl, rfl, rfl, ?_⟩
        refine ⟨_, rfl, _, rfl, _, _, rfl, rfl, _, rfl, ?_⟩
        refine ite2 (fun c => ?_) (fun c => ?_)
        · exact ⟨_, rfl, ky _ (if_pos (of_decide_eq_true c)) _ I' H'' (Grow.refl g.sub) rfl⟩
        · exact kn (if_neg (fun z => c (decide_eq_true z))) I' H'' (Grow.refl g.sub)
      · intro I2 H2 vs2 g2 ow hp2
        have e := Paired.ints hp2
        subst e
        have hmem : ∀ e, e ∈ rs.filterMap (fun r => if r.1 ≥ t then some r.2 else none) ↔ ∃ r ∈ rs, t ≤ r.1 ∧ r.2 = e := fun e => by
          rw [List.mem_filterMap]
          constructor
          · rintro ⟨r, hr, h⟩
            split at h
            · cases h
              exact ⟨r, hr, by assumption, rfl⟩
            · cases h
          · rintro ⟨r, hr, h, rfl⟩
            exact ⟨r, hr, if_pos h⟩
        have hle : (rs.filterMap (fun r => if r.1 ≥ t then some r.2 else none)).length ≤ rs.length := List.length_filterMap_le _ _
        revert hmem hle ow hp2
        generalize rs.filterMap (fun r => if r.1 ≥ t then some r.2 else none) = es
        intro ow hp2 hmem hle
        refine ⟨_, rfl, by decide, fun q hq => ⟨L, q, _, rfl, rfl, SqL.of (by rw [upd_ne (ne_of_none ow.at_ hq)]; exact ow.at_), SqL.of upd_same, _, rfl, ?_⟩⟩
        have gq := Grow.mine (T := No) (o := .lst []) g2.sub hq
        have g3 := (g1.trans g2).trans gq
        have ow3 := ow.grow gq
        cases es with
        | nil => exact iteF (k .last _ _ g3 (.inl ⟨rfl, fun q hq hz => nomatch (hmem q.2).mpr ⟨q, hq, hz, rfl⟩⟩))
        | cons e r =>
          refine iteT ⟨_, rfl, L, rfl, ⟨_, SqL.of ow3.at_⟩, fun M hM => ?_⟩
          refine lc_pure (β := Int) walk_list (e :: r) (fun e => some e) (by rw [List.length_map]) g3.sub hM (by rw [List.length_map]; omega) (fun I' H' g => SqL.of (g.same _ _ ow3.at_)) ?_ ?_
          · rintro i r x I' H' H'' hr g ⟨rfl, hx⟩ Kn Ky kn ky
            obtain ⟨r', hr', rfl⟩ := getI hx
            rw [hr] at hr'
            cases hr'
            exact ⟨rfl, lc_yes ⟨_, rfl, .inl ⟨_, rfl, ky _ rfl _ I' H'' (Grow.refl g.sub) rfl⟩⟩⟩
          · intro I4 H4 vs4 g4 ow4 hp4
            have e4 := Paired.ints hp4
            rw [fm_some, List.map_id'] at e4
            subst e4
            refine ⟨M, _, rfl, SqL.of ow4.at_, fun ks p perm rising hpn => ?_⟩
            have g5 := (g3.trans g4).trans (Grow.mine (T := No) (o := .lst (ks.map V.int)) g4.sub hpn)
            cases ks with
            | nil => exact nomatch perm.length_eq
            | cons y ys =>
              have hy : y ∈ e :: r := perm.mem_iff.mp (List.mem_cons_self ..)
              have hmin : ∀ z ∈ e :: r, y ≤ z := fun z hz => by
                rcases List.mem_cons.mp (perm.mem_iff.mpr hz) with rfl | h
                · exact Int.le_refl _
                · exact (List.pairwise_cons.mp rising).1 z h
              exact ⟨p, _, 0, .int y, rfl, rfl, SqL.of upd_same, (by rw [atI_nat' (j := 0) (by decide)]; rfl), k (.num y) _ _ g5 (.inr ⟨y, rfl, (hmem y).mp hy, fun q hq hz => hmin q.2 ((hmem q.2).mpr ⟨q, hq, hz, rfl⟩)⟩)⟩
theorem ok_l_begin (T : Txt K mg) (F : FnAt K "_law_begin" "_law_begin" s_l_begin (He.ga K "_law_begin"))  : Ok P w K mg base CX0 1 (He.ga K "_law_begin") ["_law_rides_here", "_law_moment_here"] (sp_l_begin K) := by
  refine ok_of F sc_l_begin (fun _ _ _ _ _ _ us hl => match us, hl with | [_, _], _ => rfl) (fun vs H Q E h => ?_) (fun cdv A outer s H vs Q E hr h => ?_)
  · obtain ⟨_, _, _, _, rfl, _⟩ := h
    rfl
  · obtain ⟨I, v, rs, m, rfl, ⟨a, vs, rfl, ha, hp⟩, hz, sb, k⟩ := h
    refine ⟨_, (pss_cons (ps_if (pt_cmpR op_in_seq (pv 1) (pe_tup (pa_cons pe_str (pa_cons pe_str pa_nil))) (by with_unfolding_all rfl)) (pss_one (ps_ret (pv 1))) pss_nil)
      (pss_cons (ps_setLc (i := 2) (own := [("_law_begin_here", 3), ("_law_end_here", 4)]) (g := (gTup K 2 (gCons (gName 3) (gCons (gName 4) gNil)))) rfl sc_l_begin.nd rfl rfl (sw_true rfl rfl rfl (by decide +kernel)) (pi_list (pv 0)) (blkOk_by (own := [("_law_begin_here", 3), ("_law_end_here", 4)]) (N := n_l_begin) (sc := defScope s_l_begin) (by decide +kernel)) (fun _ _ _ _ _ => (pg_tup (by rfl) (pgs_cons (pg_name (i := 3) sc_l_begin.nd rfl (Or.inl rfl)) (pgs_cons (pg_name (i := 4) sc_l_begin.nd rfl (Or.inl rfl)) pgs_nil)))) (fun _ _ _ _ _ => (pts_one (pt_cmpR op_le (pv 4) (pv 1) (nomark _)))) (fun _ _ _ _ _ => (pv 3)))
      (pss_one (ps_ret (pe_ifExp (pt_cmpR (op_neNil hr.units) (pv 2) (pe_lst pa_nil) (nomark _)) (pe_ix ix_list (pe_callB cr_sortedI (by rfl) T.b_sorted (by decide +kernel) (pa_cons (pe_lc (own := [("_law_begin_here", 3)]) (g := (gName 3)) rfl sc_l_begin.nd (pi_list (pv 2)) (blkOk_by (own := [("_law_begin_here", 3)]) (N := n_l_begin) (sc := defScope s_l_begin) (by decide +kernel)) (fun _ _ _ _ _ => (pg_name (i := 3) sc_l_begin.nd rfl (Or.inl rfl))) (fun _ _ _ _ _ => pts_nil) (fun _ _ _ _ _ => (pe_callTy call_int1 (by rfl) T.b_int (by decide +kernel) (pa_cons (pv 3) pa_nil)))) pa_nil)) (pe_un un_neg pe_int) (fun _ _ => rfl)) pe_str))))), ?_⟩
    refine ⟨_, rfl, by decide, fun p hp1 => ⟨p, _, rfl, .inr (SqT.of upd_same), m.flat, rfl, _, rfl, ?_⟩⟩
    have g1 : Grow No I H _ (upd H p (.tup [V.str "first", V.str "last"])) := Grow.new sb hp1
    match m, k with
    | .first, k => exact iteT ⟨_, rfl, k .first _ _ g1 rfl⟩
    | .last, k => exact iteT ⟨_, rfl, k .last _ _ g1 rfl⟩
    | .num t, k =>
      refine iteF ⟨_, rfl, a, rfl, ⟨_, SqL.of (g1.sub _ _ (g1.view _ _ ha))⟩, fun L hL => ?_⟩
      refine lc_pure (β := Int) walk_list rs (fun r => if r.2 ≤ t then some r.1 else none) (Nw.Paired.len hp).symm g1.sub hL (by rw [Nw.Paired.len hp]; omega) (fun I' H' g => SqL.of (g.sub _ _ (g.view _ _ (g1.view _ _ ha)))) ?_ ?_
      · rintro i r x I' H' H'' hr g ⟨rfl, hx⟩ Kn Ky kn ky
        obtain ⟨x', hx', b, v1, v2, rfl, hb, h1, h2⟩ := Nw.Paired.at hp hr
        rw [hx] at hx'
        cases hx'
        cases h1
        cases h2
        refine ⟨b, _, rfl, SqT.of (g.sub _ _ (g.view _ _ (g1.view _ _ hb))), rfl, _, _, rfl, _, _, rfl, rfl, rfl, ?_⟩
        refine ⟨_, rfl, _, rfl, _, _, rfl, rfl, _, rfl, ?_⟩
        refine ite2 (fun c => ?_) (fun c => ?_)
        · exact ⟨_, rfl, ky _ (if_pos (of_decide_eq_true c)) _ I' H'' (Grow.refl g.sub) rfl⟩
        · exact kn (if_neg (fun z => c (decide_eq_true z))) I' H'' (Grow.refl g.sub)
      · intro I2 H2 vs2 g2 ow hp2
        have e := Paired.ints hp2
        subst e
        have hmem : ∀ e, e ∈ rs.filterMap (fun r => if r.2 ≤ t then some r.1 else none) ↔ ∃ r ∈ rs, r.2 ≤ t ∧ r.1 = e := fun e => by
          rw [List.mem_filterMap]
          constructor
          · rintro ⟨r, hr, h⟩
            split at h
            · cases h
              exact ⟨r, hr, by assumption, rfl⟩
            · cases h
          · rintro ⟨r, hr, h, rfl⟩
            exact ⟨r, hr, if_pos h⟩
        have hle : (rs.filterMap (fun r => if r.2 ≤ t then some r.1 else none)).length ≤ rs.length := List.length_filterMap_le _ _
        revert hmem hle ow hp2
        generalize rs.filterMap (fun r => if r.2 ≤ t then some r.1 else none) = es
        intro ow hp2 hmem hle
        refine ⟨_, rfl, by decide, fun q hq => ⟨L, q, _, rfl, rfl, SqL.of (by rw [upd_ne (ne_of_none ow.at_ hq)]; exact ow.at_), SqL.of upd_same, _, rfl, ?_⟩⟩
        have gq := Grow.mine (T := No) (o := .lst []) g2.sub hq
        have g3 := (g1.trans g2).trans gq
        have ow3 := ow.grow gq
        cases es with
        | nil => exact iteF (k .first _ _ g3 (.inl ⟨rfl, fun q hq hz => nomatch (hmem q.1).mpr ⟨q, hq, hz, rfl⟩⟩))
        | cons e r =>
          refine iteT ⟨_, rfl, L, rfl, ⟨_, SqL.of ow3.at_⟩, fun M hM => ?_⟩
          refine lc_pure (β := Int) walk_list (e :: r) (fun e => some e) (by rw [List.length_map]) g3.sub hM (by rw [List.length_map]; omega) (fun I' H' g => SqL.of (g.same _ _ ow3.at_)) ?_ ?_
          · rintro i r x I' H' H'' hr g ⟨rfl, hx⟩ Kn Ky kn ky
            obtain ⟨r', hr', rfl⟩ := getI hx
            rw [hr] at hr'
            cases hr'
            exact ⟨rfl, lc_yes ⟨_, rfl, .inl ⟨_, rfl, ky _ rfl _ I' H'' (Grow.refl g.sub) rfl⟩⟩⟩
          · intro I4 H4 vs4 g4 ow4 hp4
            have e4 := Paired.ints hp4
            rw [fm_some, List.map_id'] at e4
            subst e4
            refine ⟨M, _, rfl, SqL.of ow4.at_, fun ks p perm rising hpn => ?_⟩
            have g5 := (g3.trans g4).trans (Grow.mine (T := No) (o := .lst (ks.map V.int)) g4.sub hpn)
            rcases List.eq_nil_or_concat ks with rfl | ⟨ys, y, rfl⟩
            · exact nomatch perm.length_eq
            · rw [List.concat_eq_append] at perm rising g5 ⊢
              have hy : y ∈ e :: r := perm.mem_iff.mp (List.mem_append_right _ (List.mem_singleton.mpr rfl))
              have hmax : ∀ z ∈ e :: r, z ≤ y := fun z hz => by
                rcases List.mem_append.mp (perm.mem_iff.mpr hz) with h | h
                · exact (List.pairwise_append.mp rising).2.2 z h y (List.mem_singleton.mpr rfl)
                · rw [List.mem_singleton] at h; rw [h]; exact Int.le_refl _
              exact ⟨_, rfl, p, _, -1, .int y, rfl, rfl, SqL.of upd_same, (by rw [List.map_append]; exact atI_last _ _), k (.num y) _ _ g5 (.inr ⟨y, rfl, (hmem y).mp hy, fun q hq hz => hmax q.1 ((hmem q.1).mpr ⟨q, hq, hz, rfl⟩)⟩)⟩
end
end Nw

namespace Nw
open PySem PySem.Spec PyProof.Rows L2
/-! ### links by what they cover -/
def covers (ns : Rides) (t s : Int) : Prop := ∃ r ∈ ns, t ≤ r.1 ∧ r.2 ≤ s
theorem covers_end {ns : Rides} (h : ascR ns) (t s : Int) : (endedL ns (.num t)).le (.num s) ↔ covers ns t s := by
  rw [endedL_num]
  exact hdE_le s t ns h
theorem covers_begin {ns : Rides} (h : ascR ns) (t s : Int) : (Mom.num t).le (begunL ns (.num s)) ↔ covers ns t s := by
  rw [begunL_num, hdB_le s t ns.reverse (List.pairwise_reverse.mpr h)]
  simp only [List.mem_reverse, covers]
theorem IsNeeded.covers {rs ns : Rides} (h : IsNeeded rs ns) (t s : Int) : Nw.covers ns t s ↔ Nw.covers rs t s := by
  constructor
  · rintro ⟨r, hr, z⟩
    exact ⟨r, h.sub r hr, z⟩
  · rintro ⟨r, hr, h1, h2⟩
    obtain ⟨n, hn, h3, h4⟩ := h.cov r hr
    exact ⟨n, hn, by omega, by omega⟩
theorem asc_eq {ns : Rides} (h : ascR ns) {a b : Int × Int} (ha : a ∈ ns) (hb : b ∈ ns) (h1 : a.1 ≤ b.1) (h2 : b.2 ≤ a.2) : a = b := by
  induction ns with
  | nil => exact nomatch ha
  | cons r ns ih =>
    obtain ⟨p1, p2⟩ := List.pairwise_cons.mp h
    rcases List.mem_cons.mp ha with e1 | ha'
    · rcases List.mem_cons.mp hb with e2 | hb'
      · rw [e1, e2]
      · have := p1 b hb'
        rw [← e1] at this
        omega
    · rcases List.mem_cons.mp hb with e2 | hb'
      · have := p1 a ha'
        rw [← e2] at this
        omega
      · exact ih p2 ha' hb'
theorem covers_mem {ns ms : Rides} (hn : ascR ns) (h : ∀ t s, covers ns t s ↔ covers ms t s) {a : Int × Int} (ha : a ∈ ns) : a ∈ ms := by
  obtain ⟨m, hm, h1, h2⟩ := (h a.1 a.2).mp ⟨a, ha, Int.le_refl _, Int.le_refl _⟩
  obtain ⟨n, hn', h3, h4⟩ := (h m.1 m.2).mpr ⟨m, hm, Int.le_refl _, Int.le_refl _⟩
  have e := asc_eq hn ha hn' (by omega) (by omega)
  subst e
  have e1 : a = m := Prod.ext (by omega) (by omega)
  rw [e1]
  exact hm
theorem asc_same : ∀ {ns ms : Rides}, ascR ns → ascR ms → (∀ a, a ∈ ns ↔ a ∈ ms) → ns = ms
  | [], [], _, _, _ => rfl
  | [], m :: ms, _, _, h => nomatch (h m).mpr (List.mem_cons_self ..)
  | n :: ns, [], _, _, h => nomatch (h n).mp (List.mem_cons_self ..)
  | n :: ns, m :: ms, hn, hm, h => by
    obtain ⟨p1, p2⟩ := List.pairwise_cons.mp hn
    obtain ⟨q1, q2⟩ := List.pairwise_cons.mp hm
    have e : n = m := by
      rcases List.mem_cons.mp ((h n).mp (List.mem_cons_self ..)) with z | z
      · exact z
      · rcases List.mem_cons.mp ((h m).mpr (List.mem_cons_self ..)) with y | y
        · exact y.symm
        · have a1 := q1 n z
          have a2 := p1 m y
          omega
    subst e
    have t : ns = ms := asc_same p2 q2 fun a => by
      constructor
      · intro ha
        rcases List.mem_cons.mp ((h a).mp (List.mem_cons_of_mem _ ha)) with z | z
        · have := p1 a ha
          rw [z] at this
          omega
        · exact z
      · intro ha
        rcases List.mem_cons.mp ((h a).mpr (List.mem_cons_of_mem _ ha)) with z | z
        · have := q1 a ha
          rw [z] at this
          omega
        · exact z
    rw [t]
/-- a link is told by what it covers -/
theorem covers_inj {ns ms : Rides} (hn : ascR ns) (hm : ascR ms) (h : ∀ t s, covers ns t s ↔ covers ms t s) : ns = ms :=
  asc_same hn hm fun a => ⟨covers_mem hn h, covers_mem hm fun t s => (h t s).symm⟩
theorem Mom.eq_of_le {a b : Mom} (h : ∀ s : Int, a.le (.num s) ↔ b.le (.num s)) (ha : a ≠ .first) (hb : b ≠ .first) : a = b := by
  match a, b with
  | .first, _ => exact absurd rfl ha
  | _, .first => exact absurd rfl hb
  | .last, .last => rfl
  | .last, .num x => exact ((h x).mpr (Int.le_refl x)).elim
  | .num x, .last => exact ((h x).mp (Int.le_refl x)).elim
  | .num x, .num y => exact Mom.le_anti ((h y).mpr (Int.le_refl y)) ((h x).mp (Int.le_refl x))
theorem Mom.eq_of_ge {a b : Mom} (h : ∀ s : Int, (Mom.num s).le a ↔ (Mom.num s).le b) (ha : a ≠ .last) (hb : b ≠ .last) : a = b := by
  match a, b with
  | .last, _ => exact absurd rfl ha
  | _, .last => exact absurd rfl hb
  | .first, .first => rfl
  | .first, .num x => exact ((h x).mpr (Int.le_refl x)).elim
  | .num x, .first => exact ((h x).mp (Int.le_refl x)).elim
  | .num x, .num y => exact Mom.le_anti ((h x).mp (Int.le_refl x)) ((h y).mpr (Int.le_refl y))
theorem ended_ne (ns : Rides) (t : Int) : endedL ns (.num t) ≠ .first := by
  rw [endedL_num]
  rcases hdE_cases (ns.filterMap fun r => if r.1 ≥ t then some r.2 else none) with e | ⟨_, _, e⟩ <;> rw [e] <;> exact fun z => nomatch z
theorem begun_ne (ns : Rides) (t : Int) : begunL ns (.num t) ≠ .last := by
  rw [begunL_num]
  rcases hdB_cases (ns.reverse.filterMap fun r => if r.2 ≤ t then some r.1 else none) with e | ⟨_, _, e⟩ <;> rw [e] <;> exact fun z => nomatch z
/-- chained -/
theorem covers_mul {na nb : Rides} (hb : ascR nb) (t s : Int) : covers (mulL na nb) t s ↔ ∃ u, covers na t u ∧ covers nb u s := by
  constructor
  · rintro ⟨x, hx, h1, h2⟩
    obtain ⟨r, hr, hz⟩ := List.mem_filterMap.mp hx
    cases e : endedL nb (.num r.2) with
    | first => rw [e] at hz; cases hz
    | last => rw [e] at hz; cases hz
    | num y =>
      rw [e] at hz
      cases hz
      refine ⟨r.2, ⟨r, hr, h1, Int.le_refl _⟩, (covers_end hb r.2 s).mp ?_⟩
      rw [e]
      exact h2
  · rintro ⟨u, ⟨r, hr, h1, h2⟩, q, hq, h3, h4⟩
    have z : (endedL nb (.num r.2)).le (.num s) := (covers_end hb r.2 s).mpr ⟨q, hq, by omega, h4⟩
    cases e : endedL nb (.num r.2) with
    | first => exact absurd e (ended_ne nb r.2)
    | last => rw [e] at z; exact z.elim
    | num y =>
      rw [e] at z
      exact ⟨(r.1, y), List.mem_filterMap.mpr ⟨r, hr, by rw [e]; rfl⟩, h1, z⟩
/-- the quicker one of two -/
theorem covers_or {na nb : Rides} (t s : Int) : covers (na ++ nb) t s ↔ covers na t s ∨ covers nb t s := by
  constructor
  · rintro ⟨x, hx, z⟩
    rcases List.mem_append.mp hx with h | h
    · exact .inl ⟨x, h, z⟩
    · exact .inr ⟨x, h, z⟩
  · rintro (⟨x, hx, z⟩ | ⟨x, hx, z⟩)
    · exact ⟨x, List.mem_append_left _ hx, z⟩
    · exact ⟨x, List.mem_append_right _ hx, z⟩
/-- turned about -/
theorem covers_inv {na : Rides} (t s : Int) : covers (invL na) t s ↔ covers na (-s) (-t) := by
  constructor
  · rintro ⟨x, hx, h1, h2⟩
    obtain ⟨r, hr, rfl⟩ := List.mem_map.mp hx
    refine ⟨r, hr, ?_, ?_⟩
    · have : -r.1 ≤ s := h2
      omega
    · have : t ≤ -r.2 := h1
      omega
  · rintro ⟨r, hr, h1, h2⟩
    refine ⟨_, List.mem_map.mpr ⟨r, hr, rfl⟩, ?_, ?_⟩
    · show t ≤ -r.2
      omega
    · show -r.1 ≤ s
      omega
theorem sooner_le (t : Int) : ∀ {x y : Mom}, x ≠ .last → y ≠ .last → ((Mom.num t).le (soonerM x y) ↔ (Mom.num t).le x ∧ (Mom.num t).le y)
  | .last, _, h, _ => absurd rfl h
  | .first, .last, _, h => absurd rfl h
  | .num _, .last, _, h => absurd rfl h
  | .first, .first, _, _ => ⟨fun z => z.elim, fun z => z.1.elim⟩
  | .first, .num b, _, _ => ⟨fun z => z.elim, fun z => z.1.elim⟩
  | .num a, .first, _, _ => ⟨fun z => z.elim, fun z => z.2.elim⟩
  | .num a, .num b, _, _ => by
    have e : soonerM (.num a) (.num b) = if a < b then .num a else .num b := by simp [soonerM, Mom.lt]
    rw [e]
    by_cases c : a < b
    · rw [if_pos c]
      show t ≤ a ↔ t ≤ a ∧ t ≤ b
      omega
    · rw [if_neg c]
      show t ≤ b ↔ t ≤ a ∧ t ≤ b
      omega
/-- the slower one of two -/
theorem covers_and {na nb : Rides} (ha : ascR na) (hb : ascR nb) (t s : Int) : covers (andL na nb) t s ↔ covers na t s ∧ covers nb t s := by
  have key : ∀ e : Int, (Mom.num t).le (soonerM (begunL na (.num e)) (begunL nb (.num e))) ↔ covers na t e ∧ covers nb t e := fun e => by
    rw [← covers_begin ha, ← covers_begin hb]
    exact sooner_le t (begun_ne na e) (begun_ne nb e)
  constructor
  · rintro ⟨x, hx, h1, h2⟩
    obtain ⟨e, he, hz⟩ := List.mem_filterMap.mp hx
    cases q : soonerM (begunL na (.num e)) (begunL nb (.num e)) with
    | first => rw [q] at hz; cases hz
    | last => rw [q] at hz; cases hz
    | num y =>
      rw [q] at hz
      cases hz
      have z := (key e).mp (by rw [q]; exact h1)
      obtain ⟨⟨r1, a1, a2, a3⟩, r2, b1, b2, b3⟩ := z
      have h2' : e ≤ s := h2
      exact ⟨⟨r1, a1, a2, by omega⟩, r2, b1, b2, by omega⟩
  · rintro ⟨⟨r1, a1, a2, a3⟩, r2, b1, b2, b3⟩
    have hmax : ∃ e ∈ (na ++ nb).map (·.2), r1.2 ≤ e ∧ r2.2 ≤ e ∧ e ≤ s := by
      by_cases c : r1.2 ≤ r2.2
      · exact ⟨r2.2, List.mem_map.mpr ⟨r2, List.mem_append_right _ b1, rfl⟩, c, Int.le_refl _, b3⟩
      · exact ⟨r1.2, List.mem_map.mpr ⟨r1, List.mem_append_left _ a1, rfl⟩, Int.le_refl _, by omega, a3⟩
    obtain ⟨e, he, c1, c2, c3⟩ := hmax
    have z := (key e).mpr ⟨⟨r1, a1, a2, c1⟩, r2, b1, b2, c2⟩
    cases q : soonerM (begunL na (.num e)) (begunL nb (.num e)) with
    | first => rw [q] at z; exact z.elim
    | last =>
      unfold soonerM at q
      split at q
      · exact absurd q (begun_ne na e)
      · exact absurd q (begun_ne nb e)
    | num y =>
      rw [q] at z
      exact ⟨(y, e), List.mem_filterMap.mpr ⟨e, he, by rw [q]; rfl⟩, z, c3⟩
end Nw

namespace Nw
open PySem PySem.Spec PyProof.Rows L2
/-! ### links that are in order -/
structure LinkOK (ns : Rides) (n : Nat) : Prop where
  asc : ascR ns
  valid : validR ns
  small : smallR ns
  few : ns.length ≤ n
theorem LinkOK.mono {ns : Rides} {n m : Nat} (h : LinkOK ns n) (k : n ≤ m) : LinkOK ns m := ⟨h.asc, h.valid, h.small, Nat.le_trans h.few k⟩
theorem linkOK_of {rs ns : Rides} {n : Nat} (h : IsNeeded rs ns) (hv : validR rs) (hs : smallR rs) (hl : rs.length ≤ n) : LinkOK ns n :=
  ⟨h.asc, fun r hr => hv r (h.sub r hr), fun r hr => hs r (h.sub r hr), Nat.le_trans h.few hl⟩
theorem ended_in {ns : Rides} {t e : Int} (h : endedL ns (.num t) = .num e) : ∃ q ∈ ns, t ≤ q.1 ∧ e = q.2 := by
  rw [endedL_num] at h
  rcases hdE_cases (ns.filterMap fun r => if r.1 ≥ t then some r.2 else none) with z | ⟨x, hx, z⟩
  · rw [z] at h; cases h
  · rw [z] at h
    cases h
    obtain ⟨q, hq, hz⟩ := List.mem_filterMap.mp hx
    split at hz
    · rename_i c
      cases hz
      exact ⟨q, hq, c, rfl⟩
    · cases hz
theorem begun_in {ns : Rides} {t b : Int} (h : begunL ns (.num t) = .num b) : ∃ q ∈ ns, q.2 ≤ t ∧ b = q.1 := by
  rw [begunL_num] at h
  rcases hdB_cases (ns.reverse.filterMap fun r => if r.2 ≤ t then some r.1 else none) with z | ⟨x, hx, z⟩
  · rw [z] at h; cases h
  · rw [z] at h
    cases h
    obtain ⟨q, hq, hz⟩ := List.mem_filterMap.mp hx
    split at hz
    · rename_i c
      cases hz
      exact ⟨q, List.mem_reverse.mp hq, c, rfl⟩
    · cases hz
theorem mem_mul {na nb : Rides} {x : Int × Int} (h : x ∈ mulL na nb) : ∃ r ∈ na, ∃ q ∈ nb, r.2 ≤ q.1 ∧ x = (r.1, q.2) := by
  obtain ⟨r, hr, hz⟩ := List.mem_filterMap.mp h
  cases e : endedL nb (.num r.2) with
  | first => rw [e] at hz; cases hz
  | last => rw [e] at hz; cases hz
  | num y =>
    rw [e] at hz
    cases hz
    obtain ⟨q, hq, h1, rfl⟩ := ended_in e
    exact ⟨r, hr, q, hq, h1, rfl⟩
theorem mem_and {na nb : Rides} {x : Int × Int} (h : x ∈ andL na nb) : ∃ r ∈ na ++ nb, ∃ q ∈ na ++ nb, q.2 ≤ r.2 ∧ x = (q.1, r.2) := by
  obtain ⟨e, he, hz⟩ := List.mem_filterMap.mp h
  obtain ⟨r, hr, rfl⟩ := List.mem_map.mp he
  cases e : soonerM (begunL na (.num r.2)) (begunL nb (.num r.2)) with
  | first => rw [e] at hz; cases hz
  | last => rw [e] at hz; cases hz
  | num y =>
    rw [e] at hz
    cases hz
    unfold soonerM at e
    split at e
    · obtain ⟨q, hq, h1, rfl⟩ := begun_in e
      exact ⟨r, hr, q, List.mem_append_left _ hq, h1, rfl⟩
    · obtain ⟨q, hq, h1, rfl⟩ := begun_in e
      exact ⟨r, hr, q, List.mem_append_right _ hq, h1, rfl⟩
section
variable {na nb : Rides} {n m : Nat}
theorem mul_ok (ha : LinkOK na n) (hb : LinkOK nb m) : validR (mulL na nb) ∧ smallR (mulL na nb) ∧ (mulL na nb).length ≤ n := by
  refine ⟨fun x hx => ?_, fun x hx => ?_, Nat.le_trans (List.length_filterMap_le _ _) ha.few⟩
  · obtain ⟨r, hr, q, hq, h1, rfl⟩ := mem_mul hx
    have z1 := ha.valid r hr
    have z2 := hb.valid q hq
    show r.1 ≤ q.2
    omega
  · obtain ⟨r, hr, q, hq, h1, rfl⟩ := mem_mul hx
    exact ⟨(ha.small r hr).1, (hb.small q hq).2⟩
theorem or_ok (ha : LinkOK na n) (hb : LinkOK nb m) : validR (na ++ nb) ∧ smallR (na ++ nb) ∧ (na ++ nb).length ≤ n + m := by
  refine ⟨fun x hx => ?_, fun x hx => ?_, by rw [List.length_append]; exact Nat.add_le_add ha.few hb.few⟩
  · rcases List.mem_append.mp hx with h | h
    · exact ha.valid x h
    · exact hb.valid x h
  · rcases List.mem_append.mp hx with h | h
    · exact ha.small x h
    · exact hb.small x h
theorem and_ok (ha : LinkOK na n) (hb : LinkOK nb m) : validR (andL na nb) ∧ smallR (andL na nb) ∧ (andL na nb).length ≤ n + m := by
  have o := or_ok ha hb
  refine ⟨fun x hx => ?_, fun x hx => ?_, ?_⟩
  · obtain ⟨r, hr, q, hq, h1, rfl⟩ := mem_and hx
    have z1 := o.1 q hq
    show q.1 ≤ r.2
    omega
  · obtain ⟨r, hr, q, hq, h1, rfl⟩ := mem_and hx
    exact ⟨(o.2.1 q hq).1, (o.2.1 r hr).2⟩
  · have z : (andL na nb).length ≤ ((na ++ nb).map (·.2)).length := List.length_filterMap_le _ _
    rw [List.length_map] at z
    exact Nat.le_trans z o.2.2
theorem inv_ok (ha : LinkOK na n) : validR (invL na) ∧ smallR (invL na) ∧ (invL na).length ≤ n := by
  refine ⟨fun x hx => ?_, fun x hx => ?_, by rw [invL, List.length_map]; exact ha.few⟩
  · obtain ⟨r, hr, rfl⟩ := List.mem_map.mp hx
    have := ha.valid r hr
    show -r.2 ≤ -r.1
    omega
  · obtain ⟨r, hr, rfl⟩ := List.mem_map.mp hx
    have := ha.small r hr
    show (-r.2).natAbs < _ ∧ (-r.1).natAbs < _
    omega
end
theorem le_end {ns : Rides} (h : validR ns) : ∀ t : Mom, t.le (endedL ns t)
  | .first => trivial
  | .last => trivial
  | .num t => by
    cases e : endedL ns (.num t) with
    | first =>
      rw [endedL_num] at e
      rcases hdE_cases (ns.filterMap fun r => if r.1 ≥ t then some r.2 else none) with z | ⟨x, hx, z⟩ <;> (rw [z] at e; cases e)
    | last => trivial
    | num x =>
      obtain ⟨q, hq, h1, rfl⟩ := ended_in e
      have := h q hq
      show t ≤ q.2
      omega
theorem begin_le {ns : Rides} (h : validR ns) : ∀ t : Mom, (begunL ns t).le t
  | .first => trivial
  | .last => trivial
  | .num t => by
    cases e : begunL ns (.num t) with
    | first => trivial
    | last =>
      rw [begunL_num] at e
      rcases hdB_cases (ns.reverse.filterMap fun r => if r.2 ≤ t then some r.1 else none) with z | ⟨x, hx, z⟩ <;> (rw [z] at e; cases e)
    | num x =>
      obtain ⟨q, hq, h1, rfl⟩ := begun_in e
      have := h q hq
      show q.1 ≤ t
      omega
theorem Gal.mono_f {f g : Mom → Mom} (h : Gal f g) {a b : Mom} (k : a.le b) : (f a).le (f b) := (h _ _).mpr (Mom.le_trans k ((h b (f b)).mp (Mom.le_refl _)))
theorem Gal.mono_g {f g : Mom → Mom} (h : Gal f g) {a b : Mom} (k : a.le b) : (g a).le (g b) := (h _ _).mp (Mom.le_trans ((h (g a) a).mpr (Mom.le_refl _)) k)
theorem Mom.total {a b : Mom} (h : ¬ a.le b) : b.le a := by
  cases a <;> cases b <;> simp_all [Mom.le]
  omega
theorem step_mono {tb : List (Nat × Rides)} (h : ascT tb) (c : Nat) {a b : Mom} (k : a.le b) : (stepL tb a c).le (stepL tb b c) := by
  unfold stepL
  split
  · exact (gal_rides (h.look c)).mono_f k
  · exact (gal_rides (h.look (c + 32))).mono_g k
theorem led_mono {tb : List (Nat × Rides)} (h : ascT tb) : ∀ (l : List Nat) {a b : Mom}, a.le b → (ledL tb l a).le (ledL tb l b)
  | [], _, _, k => k
  | c :: l, _, _, k => led_mono h l (step_mono h c k)
theorem link_made {K : PySem.W.Frag} {D : DA} {n : Nat} {I H I3 H3 : Hp} {x dx : Addr} {t : V} {ns : Rides} (w : Drw D n I H) (hx : H x = none) (hdx : H dx = none) (ne : dx ≠ x) (g3 : Grow (TX x) I (upd (upd H dx (.own x)) x (.ins (He.ga K "Link") dx [])) I3 H3)
    (h : H3 x = some (.ins (He.ga K "Link") dx [("own_rides", t)])) (hu : isU I3 t ns) : ∃ J, Grow (TD D) I H J H3 ∧ isLink K J (.ref x) ns ∧ Drw D n J H3 := by
  obtain ⟨g, n3⟩ := Grow.make (Grow.refl (T := TD D) w.sub) hx hdx ne g3 (fun b z => .inr (by rw [z]; exact hx)) h
  exact ⟨_, g, ⟨x, dx, t, rfl, upd_same, hu.up (Same.up n3)⟩, w.make hx hdx ne g3 (fun b z e => by rw [e] at z; exact w.live x z hx) h⟩
/-! ### answers to operators of links -/
theorem isLink.at_ {K : PySem.W.Frag} {I : Hp} {p : Addr} {ns : Rides} (l : isLink K I (.ref p) ns) : ∃ dx t, I p = some (.ins (He.ga K "Link") dx [("own_rides", t)]) := by
  obtain ⟨a, dx, t, e, h, _⟩ := l
  cases e
  exact ⟨dx, t, h⟩
section
variable {K : PySem.W.Frag} {I H : Hp} {v1 v2 : V} {na nb : Rides} {n m : Nat} {Q : VK} (lA : isLink K I v1 na) (lB : isLink K I v2 nb) (sb : Same I H)
include lA lB sb
theorem own_ans {sp : Sp} (k : sp [v1, v2] H (fun v H' => ∃ p, v = .ref p ∧ Q v H') E0) : rOwn (He.ga K "Link") sp v1 v2 H Q := by
  obtain ⟨a, dx, t, rfl, ha, _⟩ := lA
  obtain ⟨b, dy, u, rfl, hb, _⟩ := lB
  exact ⟨a, b, dx, dy, _, _, rfl, rfl, sb _ _ ha, sb _ _ hb, k⟩
theorem ownB_ans {sp : Sp} {g : Bool → Bool} (k : sp [v1, v2] H (fun v H' => ∃ t, v = .bl t ∧ Q (.bl (g t)) H') E0) : rOwnB (He.ga K "Link") sp g v1 v2 H Q := by
  obtain ⟨a, dx, t, rfl, ha, _⟩ := lA
  obtain ⟨b, dy, u, rfl, hb, _⟩ := lB
  exact ⟨a, b, dx, dy, _, _, rfl, rfl, sb _ _ ha, sb _ _ hb, k⟩
theorem mulA (okA : LinkOK na n) (okB : LinkOK nb m) (hn : n ≤ 60) (hm : m ≤ 60) (k : ∀ ns p I' H', Grow No I H I' H' → isLink K I' (.ref p) ns → IsNeeded (mulL na nb) ns → LinkOK ns n → Q (.ref p) H') : rOwn (He.ga K "Link") (sp_Link__mul K) v1 v2 H Q := by
  obtain ⟨mv, ms, ml⟩ := mul_ok okA okB
  exact own_ans lA lB sb ⟨I, _, _, na, nb, rfl, lA, lB, Nat.le_trans okA.few hn, Nat.le_trans okB.few hm, mv, sb, fun ns p I' H' g l hn' => ⟨p, rfl, k ns p I' H' g l hn' (linkOK_of hn' mv ms ml)⟩⟩
theorem orA (okA : LinkOK na n) (okB : LinkOK nb m) (hn : n + m ≤ 60) (k : ∀ ns p I' H', Grow No I H I' H' → isLink K I' (.ref p) ns → IsNeeded (na ++ nb) ns → LinkOK ns (n + m) → Q (.ref p) H') : rOwn (He.ga K "Link") (sp_Link__or K) v1 v2 H Q := by
  obtain ⟨mv, ms, ml⟩ := or_ok okA okB
  have fa := okA.few
  have fb := okB.few
  exact own_ans lA lB sb ⟨I, _, _, na, nb, rfl, lA, lB, by omega, mv, sb, fun ns p I' H' g l hn' => ⟨p, rfl, k ns p I' H' g l hn' (linkOK_of hn' mv ms ml)⟩⟩
theorem andA (okA : LinkOK na n) (okB : LinkOK nb m) (hn : n + m ≤ 60) (k : ∀ ns p I' H', Grow No I H I' H' → isLink K I' (.ref p) ns → IsNeeded (andL na nb) ns → LinkOK ns (n + m) → Q (.ref p) H') : rOwn (He.ga K "Link") (sp_Link__and K) v1 v2 H Q := by
  obtain ⟨mv, ms, ml⟩ := and_ok okA okB
  have fa := okA.few
  have fb := okB.few
  exact own_ans lA lB sb ⟨I, _, _, na, nb, rfl, lA, lB, by omega, mv, sb, fun ns p I' H' g l hn' => ⟨p, rfl, k ns p I' H' g l hn' (linkOK_of hn' mv ms ml)⟩⟩
end
theorem invA {K : PySem.W.Frag} {I H : Hp} {v1 : V} {na : Rides} {n : Nat} {Q : VK} (lA : isLink K I v1 na) (sb : Same I H) (okA : LinkOK na n) (hn : n ≤ 60) (k : ∀ ns p I' H', Grow No I H I' H' → isLink K I' (.ref p) ns → IsNeeded (invL na) ns → LinkOK ns n → Q (.ref p) H') : rOwn1 (He.ga K "Link") (sp_Link__invert K) v1 H Q := by
  obtain ⟨mv, ms, ml⟩ := inv_ok okA
  obtain ⟨a, dx, t, rfl, ha, hu⟩ := id lA
  exact ⟨a, dx, _, rfl, sb _ _ ha, I, _, na, rfl, lA, Nat.le_trans okA.few hn, mv, sb, fun ns p I' H' g l hn' => k ns p I' H' g l hn' (linkOK_of hn' mv ms ml)⟩
end Nw

namespace Nw
open PySem PySem.Spec PyProof.Rows L2
/-! ### ends and begins of links put together -/
theorem Mom.total' {a b : Mom} (h : ¬ a.le b) : b.le a := by
  cases a <;> cases b <;> simp_all [Mom.le]
  omega
theorem isEnd_eq {rs ns : Rides} (hn : IsNeeded rs ns) : ∀ {m x : Mom}, IsEnd rs m x → x = endedL ns m
  | .first, x, h => h
  | .last, x, h => h
  | .num t, x, h => by
    rcases h with ⟨rfl, h⟩ | ⟨e, rfl, ⟨r, hr, h1, rfl⟩, h2⟩
    · refine Mom.eq_of_le (fun s => ?_) (fun z => nomatch z) (ended_ne ns t)
      rw [covers_end hn.asc, hn.covers]
      exact ⟨fun z => z.elim, fun ⟨q, hq, z, _⟩ => absurd z (h q hq)⟩
    · refine Mom.eq_of_le (fun s => ?_) (fun z => nomatch z) (ended_ne ns t)
      rw [covers_end hn.asc, hn.covers]
      refine ⟨fun z => ⟨r, hr, h1, z⟩, fun ⟨q, hq, z1, z2⟩ => ?_⟩
      have := h2 q hq z1
      show r.2 ≤ s
      omega
theorem isBegin_eq {rs ns : Rides} (hn : IsNeeded rs ns) : ∀ {m x : Mom}, IsBegin rs m x → x = begunL ns m
  | .first, x, h => h
  | .last, x, h => h
  | .num t, x, h => by
    rcases h with ⟨rfl, h⟩ | ⟨e, rfl, ⟨r, hr, h1, rfl⟩, h2⟩
    · refine Mom.eq_of_ge (fun s => ?_) (fun z => nomatch z) (begun_ne ns t)
      rw [covers_begin hn.asc, hn.covers]
      exact ⟨fun z => z.elim, fun ⟨q, hq, _, z⟩ => absurd z (h q hq)⟩
    · refine Mom.eq_of_ge (fun s => ?_) (fun z => nomatch z) (begun_ne ns t)
      rw [covers_begin hn.asc, hn.covers]
      refine ⟨fun z => ⟨r, hr, z, h1⟩, fun ⟨q, hq, z1, z2⟩ => ?_⟩
      have := h2 q hq z2
      show s ≤ r.1
      omega
theorem covers_up {ns : Rides} {t u s v : Int} (h : covers ns t s) (h1 : u ≤ t) (h2 : s ≤ v) : covers ns u v :=
  let ⟨r, hr, a, b⟩ := h
  ⟨r, hr, by omega, by omega⟩
section
variable {na nb nc : Rides} (ha : ascR na) (hb : ascR nb)
include ha hb
theorem end_mul (hc : IsNeeded (mulL na nb) nc) : ∀ m : Mom, endedL nc m = endedL nb (endedL na m)
  | .first => rfl
  | .last => rfl
  | .num t => by
    have ne : endedL nb (endedL na (.num t)) ≠ .first := by
      cases e : endedL na (.num t) with
      | first => exact absurd e (ended_ne na t)
      | last => exact fun z => nomatch z
      | num y => exact ended_ne nb y
    refine Mom.eq_of_le (fun s => ?_) (ended_ne nc t) ne
    rw [covers_end hc.asc, hc.covers, covers_mul hb]
    cases e : endedL na (.num t) with
    | first => exact absurd e (ended_ne na t)
    | last =>
      refine ⟨fun ⟨u, h1, _⟩ => ?_, fun z => z.elim⟩
      have z := (covers_end ha t u).mpr h1
      rw [e] at z
      exact z.elim
    | num y =>
      rw [covers_end hb]
      refine ⟨fun ⟨u, h1, h2⟩ => ?_, fun z => ⟨y, (covers_end ha t y).mp (by rw [e]; exact Mom.le_refl _), z⟩⟩
      have z := (covers_end ha t u).mpr h1
      rw [e] at z
      exact covers_up h2 z (Int.le_refl _)
theorem begin_mul (hc : IsNeeded (mulL na nb) nc) : ∀ m : Mom, begunL nc m = begunL na (begunL nb m)
  | .first => rfl
  | .last => rfl
  | .num s => by
    have ne : begunL na (begunL nb (.num s)) ≠ .last := by
      cases e : begunL nb (.num s) with
      | last => exact absurd e (begun_ne nb s)
      | first => exact fun z => nomatch z
      | num y => exact begun_ne na y
    refine Mom.eq_of_ge (fun t => ?_) (begun_ne nc s) ne
    rw [covers_begin hc.asc, hc.covers, covers_mul hb]
    cases e : begunL nb (.num s) with
    | last => exact absurd e (begun_ne nb s)
    | first =>
      refine ⟨fun ⟨u, _, h1⟩ => ?_, fun z => z.elim⟩
      have z := (covers_begin hb u s).mpr h1
      rw [e] at z
      exact z.elim
    | num y =>
      rw [covers_begin ha]
      refine ⟨fun ⟨u, h1, h2⟩ => ?_, fun z => ⟨y, z, (covers_begin hb y s).mp (by rw [e]; exact Mom.le_refl _)⟩⟩
      have z := (covers_begin hb u s).mpr h2
      rw [e] at z
      exact covers_up h1 (Int.le_refl _) z
end
theorem soonerV_le {a b : Mom} (ha : smallM a) (hb : smallM b) (c : Mom) : (soonerV a b).le c ↔ a.le c ∨ b.le c := by
  unfold soonerV
  by_cases h : a.le b
  · rw [if_neg (fun z => absurd ((place_le ha hb).mpr h) (by omega))]
    exact ⟨.inl, fun z => z.elim id fun z => Mom.le_trans h z⟩
  · have h' := Mom.total' h
    rw [if_pos (Int.not_le.mp fun z => h ((place_le ha hb).mp z))]
    exact ⟨.inr, fun z => z.elim (fun z => Mom.le_trans h' z) id⟩
theorem laterV_le {a b : Mom} (ha : smallM a) (hb : smallM b) (c : Mom) : (laterV a b).le c ↔ a.le c ∧ b.le c := by
  unfold laterV
  by_cases h : a.le b
  · rw [if_neg (fun z => absurd ((place_le ha hb).mpr h) (by omega))]
    exact ⟨fun z => ⟨Mom.le_trans h z, z⟩, fun z => z.2⟩
  · have h' := Mom.total' h
    rw [if_pos (Int.not_le.mp fun z => h ((place_le ha hb).mp z))]
    exact ⟨fun z => ⟨z, Mom.le_trans h' z⟩, fun z => z.1⟩
theorem le_laterV {a b : Mom} (ha : smallM a) (hb : smallM b) (c : Mom) : c.le (laterV a b) ↔ c.le a ∨ c.le b := by
  unfold laterV
  by_cases h : a.le b
  · rw [if_neg (fun z => absurd ((place_le ha hb).mpr h) (by omega))]
    exact ⟨.inr, fun z => z.elim (fun z => Mom.le_trans z h) id⟩
  · have h' := Mom.total' h
    rw [if_pos (Int.not_le.mp fun z => h ((place_le ha hb).mp z))]
    exact ⟨.inl, fun z => z.elim id fun z => Mom.le_trans z h'⟩
theorem le_soonerV {a b : Mom} (ha : smallM a) (hb : smallM b) (c : Mom) : c.le (soonerV a b) ↔ c.le a ∧ c.le b := by
  unfold soonerV
  by_cases h : a.le b
  · rw [if_neg (fun z => absurd ((place_le ha hb).mpr h) (by omega))]
    exact ⟨fun z => ⟨z, Mom.le_trans z h⟩, fun z => z.1⟩
  · have h' := Mom.total' h
    rw [if_pos (Int.not_le.mp fun z => h ((place_le ha hb).mp z))]
    exact ⟨fun z => ⟨Mom.le_trans z h', z⟩, fun z => z.2⟩
theorem soonerV_ne {a b c : Mom} (ha : a ≠ c) (hb : b ≠ c) : soonerV a b ≠ c := by
  unfold soonerV
  split <;> assumption
theorem laterV_ne {a b c : Mom} (ha : a ≠ c) (hb : b ≠ c) : laterV a b ≠ c := by
  unfold laterV
  split <;> assumption
theorem soonerV_self (a : Mom) : soonerV a a = a := by unfold soonerV; split <;> rfl
theorem laterV_self (a : Mom) : laterV a a = a := by unfold laterV; split <;> rfl
section
variable {na nb nc : Rides} (ha : ascR na) (hb : ascR nb) (sa : smallR na) (sb : smallR nb)
include ha hb sa sb
theorem end_or (hc : IsNeeded (na ++ nb) nc) : ∀ {m : Mom}, smallM m → endedL nc m = soonerV (endedL na m) (endedL nb m)
  | .first, _ => (soonerV_self _).symm
  | .last, _ => (soonerV_self _).symm
  | .num t, h => by
    refine Mom.eq_of_le (fun s => ?_) (ended_ne nc t) (soonerV_ne (ended_ne na t) (ended_ne nb t))
    rw [covers_end hc.asc, hc.covers, covers_or, soonerV_le (small_ended sa _ h) (small_ended sb _ h), covers_end ha, covers_end hb]
theorem begin_or (hc : IsNeeded (na ++ nb) nc) : ∀ {m : Mom}, smallM m → begunL nc m = laterV (begunL na m) (begunL nb m)
  | .first, _ => (laterV_self _).symm
  | .last, _ => (laterV_self _).symm
  | .num t, h => by
    refine Mom.eq_of_ge (fun s => ?_) (begun_ne nc t) (laterV_ne (begun_ne na t) (begun_ne nb t))
    rw [covers_begin hc.asc, hc.covers, covers_or, le_laterV (small_begun sa _ h) (small_begun sb _ h), covers_begin ha, covers_begin hb]
theorem end_and (hc : IsNeeded (andL na nb) nc) : ∀ {m : Mom}, smallM m → endedL nc m = laterV (endedL na m) (endedL nb m)
  | .first, _ => (laterV_self _).symm
  | .last, _ => (laterV_self _).symm
  | .num t, h => by
    refine Mom.eq_of_le (fun s => ?_) (ended_ne nc t) (laterV_ne (ended_ne na t) (ended_ne nb t))
    rw [covers_end hc.asc, hc.covers, covers_and ha hb, laterV_le (small_ended sa _ h) (small_ended sb _ h), covers_end ha, covers_end hb]
theorem begin_and (hc : IsNeeded (andL na nb) nc) : ∀ {m : Mom}, smallM m → begunL nc m = soonerV (begunL na m) (begunL nb m)
  | .first, _ => (soonerV_self _).symm
  | .last, _ => (soonerV_self _).symm
  | .num t, h => by
    refine Mom.eq_of_ge (fun s => ?_) (begun_ne nc t) (soonerV_ne (begun_ne na t) (begun_ne nb t))
    rw [covers_begin hc.asc, hc.covers, covers_and ha hb, le_soonerV (small_begun sa _ h) (small_begun sb _ h), covers_begin ha, covers_begin hb]
end
theorem turned_le (s : Int) : ∀ x : Mom, (turnedM x).le (.num s) ↔ (Mom.num (-s)).le x
  | .first => ⟨fun z => z.elim, fun z => z.elim⟩
  | .last => ⟨fun _ => trivial, fun _ => trivial⟩
  | .num t => by
    show 0 - t ≤ s ↔ -s ≤ t
    omega
theorem le_turned (s : Int) : ∀ x : Mom, (Mom.num s).le (turnedM x) ↔ x.le (.num (-s))
  | .first => ⟨fun _ => trivial, fun _ => trivial⟩
  | .last => ⟨fun z => z.elim, fun z => z.elim⟩
  | .num t => by
    show s ≤ 0 - t ↔ t ≤ -s
    omega
theorem turned_ne_first {x : Mom} (h : x ≠ .last) : turnedM x ≠ .first := by cases x <;> simp_all [turnedM]
theorem turned_ne_last {x : Mom} (h : x ≠ .first) : turnedM x ≠ .last := by cases x <;> simp_all [turnedM]
theorem small_turned : ∀ {m : Mom}, smallM m → smallM (turnedM m)
  | .first, _ => trivial
  | .last, _ => trivial
  | .num t, h => by
    simp only [smallM, turnedM] at h ⊢
    omega
section
variable {na nc : Rides} (ha : ascR na)
include ha
theorem end_inv (hc : IsNeeded (invL na) nc) : ∀ m : Mom, endedL nc m = turnedM (begunL na (turnedM m))
  | .first => rfl
  | .last => rfl
  | .num t => by
    refine Mom.eq_of_le (fun s => ?_) (ended_ne nc t) (turned_ne_first (begun_ne na _))
    rw [covers_end hc.asc, hc.covers, covers_inv, turned_le]
    show _ ↔ (Mom.num (-s)).le (begunL na (.num (0 - t)))
    rw [covers_begin ha, Int.zero_sub]
theorem begin_inv (hc : IsNeeded (invL na) nc) : ∀ m : Mom, begunL nc m = turnedM (endedL na (turnedM m))
  | .first => rfl
  | .last => rfl
  | .num t => by
    refine Mom.eq_of_ge (fun s => ?_) (begun_ne nc t) (turned_ne_last (ended_ne na _))
    rw [covers_begin hc.asc, hc.covers, covers_inv, le_turned]
    show _ ↔ (endedL na (.num (0 - t))).le (Mom.num (-s))
    rw [covers_end ha, Int.zero_sub]
theorem inv_twice (hc : IsNeeded (invL na) nc) {nd : Rides} (hd : IsNeeded (invL nc) nd) : nd = na :=
  covers_inj hd.asc ha fun t s => by
    rw [hd.covers, covers_inv, hc.covers, covers_inv, Int.neg_neg, Int.neg_neg]
end
theorem needed_uniq {rs na nb : Rides} (ha : IsNeeded rs na) (hb : IsNeeded rs nb) : na = nb :=
  covers_inj ha.asc hb.asc fun t s => by rw [ha.covers, hb.covers]
/-- never slower, by a look at all begins -/
theorem leB_iff {rs na nb : Rides} (ha : ascR na) (hb : IsNeeded rs nb) : leB na nb = true ↔ ∀ q ∈ rs, (endedL na (.num q.1)).le (endedL nb (.num q.1)) := by
  have e1 : leB na nb = true ↔ ∀ r ∈ nb, (endedL na (.num r.1)).le (.num r.2) := by
    unfold leB
    rw [List.all_eq_true]
    refine forall_congr' fun r => forall_congr' fun hr => ?_
    cases e : endedL na (.num r.1) with
    | first => exact absurd e (ended_ne na _)
    | last => simp [Mom.lt, Mom.le]
    | num y => simp [Mom.lt, Mom.le]
  rw [e1]
  constructor
  · intro h q hq
    cases e : endedL nb (.num q.1) with
    | first => exact absurd e (ended_ne nb _)
    | last => cases endedL na (.num q.1) <;> trivial
    | num y =>
      obtain ⟨r, hr, h1, h2⟩ := (covers_end hb.asc q.1 y).mp (by rw [e]; exact Mom.le_refl _)
      have z := (covers_end ha r.1 r.2).mp (h r hr)
      exact (covers_end ha q.1 y).mpr (covers_up z h1 h2)
  · intro h r hr
    have z := h r (hb.sub r hr)
    exact Mom.le_trans z ((covers_end hb.asc r.1 r.2).mpr ⟨r, hr, Int.le_refl _, Int.le_refl _⟩)
/-! products are associative, and the like -/
section
variable {na nb nc nd ne nf ng : Rides} (ha : ascR na) (hb : ascR nb) (hc : ascR nc)
include ha hb hc
theorem mul_assoc' (hd : IsNeeded (mulL na nb) nd) (he : IsNeeded (mulL nd nc) ne) (hf : IsNeeded (mulL nb nc) nf) (hg : IsNeeded (mulL na nf) ng) : ne = ng :=
  covers_inj he.asc hg.asc fun t s => by
    rw [he.covers, hg.covers, covers_mul hc, covers_mul hf.asc]
    constructor
    · rintro ⟨u, h1, h2⟩
      rw [hd.covers, covers_mul hb] at h1
      obtain ⟨v, h3, h4⟩ := h1
      exact ⟨v, h3, (hf.covers v s).mpr ((covers_mul hc v s).mpr ⟨u, h4, h2⟩)⟩
    · rintro ⟨v, h3, h1⟩
      rw [hf.covers, covers_mul hc] at h1
      obtain ⟨u, h4, h2⟩ := h1
      exact ⟨u, (hd.covers t u).mpr ((covers_mul hb t u).mpr ⟨v, h3, h4⟩), h2⟩
theorem and_assoc' (hd : IsNeeded (andL na nb) nd) (he : IsNeeded (andL nd nc) ne) (hf : IsNeeded (andL nb nc) nf) (hg : IsNeeded (andL na nf) ng) : ne = ng :=
  covers_inj he.asc hg.asc fun t s => by
    rw [he.covers, hg.covers, covers_and hd.asc hc, covers_and ha hf.asc, hd.covers, hf.covers, covers_and ha hb, covers_and hb hc, and_assoc]
theorem or_assoc' (hd : IsNeeded (na ++ nb) nd) (he : IsNeeded (nd ++ nc) ne) (hf : IsNeeded (nb ++ nc) nf) (hg : IsNeeded (na ++ nf) ng) : ne = ng :=
  covers_inj he.asc hg.asc fun t s => by
    rw [he.covers, hg.covers, covers_or, covers_or, hd.covers, hf.covers, covers_or, covers_or, or_assoc]
end
theorem or_comm' {na nb nd ne : Rides} (hd : IsNeeded (na ++ nb) nd) (he : IsNeeded (nb ++ na) ne) : nd = ne :=
  covers_inj hd.asc he.asc fun t s => by rw [hd.covers, he.covers, covers_or, covers_or, or_comm]
theorem inv_mul' {na nb nd ne nf ng nh : Rides} (ha : ascR na) (hb : ascR nb) (hd : IsNeeded (mulL na nb) nd) (he : IsNeeded (invL nd) ne) (hf : IsNeeded (invL nb) nf) (hg : IsNeeded (invL na) ng) (hh : IsNeeded (mulL nf ng) nh) : ne = nh :=
  covers_inj he.asc hh.asc fun t s => by
    rw [he.covers, hh.covers, covers_inv, hd.covers, covers_mul hb, covers_mul hg.asc]
    constructor
    · rintro ⟨u, h1, h2⟩
      refine ⟨-u, ?_, ?_⟩
      · rw [hf.covers, covers_inv, Int.neg_neg]; exact h2
      · rw [hg.covers, covers_inv, Int.neg_neg]; exact h1
    · rintro ⟨u, h1, h2⟩
      rw [hf.covers, covers_inv] at h1
      rw [hg.covers, covers_inv] at h2
      exact ⟨-u, h2, h1⟩
theorem or_le' {na nb nd : Rides} (ha : ascR na) (hd : IsNeeded (na ++ nb) nd) : leB nd na = true := by
  refine (leB_iff (rs := na) hd.asc ⟨ha, fun _ h => h, fun r hr => ⟨r, hr, Int.le_refl _, Int.le_refl _⟩⟩).mpr fun q hq => ?_
  cases e : endedL na (.num q.1) with
  | first => exact absurd e (ended_ne na _)
  | last => cases endedL nd (.num q.1) <;> trivial
  | num y =>
    refine (covers_end hd.asc q.1 y).mpr ((hd.covers _ _).mpr ((covers_or _ _).mpr (.inl ((covers_end ha q.1 y).mp ?_))))
    rw [e]; exact Mom.le_refl _
theorem le_and' {na nb nd : Rides} (ha : ascR na) (hb : ascR nb) (hd : IsNeeded (andL na nb) nd) : leB na nd = true := by
  refine (leB_iff (rs := nd) ha ⟨hd.asc, fun _ h => h, fun r hr => ⟨r, hr, Int.le_refl _, Int.le_refl _⟩⟩).mpr fun q hq => ?_
  cases e : endedL nd (.num q.1) with
  | first => exact absurd e (ended_ne nd _)
  | last => cases endedL na (.num q.1) <;> trivial
  | num y =>
    have z := (hd.covers _ _).mp ((covers_end hd.asc q.1 y).mp (by rw [e]; exact Mom.le_refl _))
    exact (covers_end ha q.1 y).mpr ((covers_and ha hb _ _).mp z).1
/-! ### how many are needed -/
/-- each ride is covered by itself alone -/
def anti (rs : Rides) : Prop := ∀ q ∈ rs, ∀ r ∈ rs, r.1 ≤ q.1 → q.2 ≤ r.2 → q = r
theorem needed_len {rs ns ls : Rides} (hn : IsNeeded rs ns) (ha : anti rs) (nd : ls.Nodup) (hm : ∀ x, x ∈ ls ↔ x ∈ rs) : ns.length = ls.length := by
  have nn : ns.Nodup := hn.asc.imp fun {a b} hab e => by rw [e] at hab; omega
  refine ((List.perm_ext_iff_of_nodup nn nd).mpr fun x => ⟨fun h => (hm x).mpr (hn.sub x h), fun h => ?_⟩).length_eq
  have hx := (hm x).mp h
  obtain ⟨n, hnn, h1, h2⟩ := hn.cov x hx
  have e := ha n (hn.sub n hnn) x hx h1 h2
  rw [← e]
  exact hnn
/-- rides from k to k at every second number -/
def pts (s : Int) (m : Nat) : Rides := (List.range m).map fun (k : Nat) => (2 * (k : Int) + s, 2 * (k : Int) + s)
theorem mem_pts {s : Int} {m : Nat} {x : Int × Int} : x ∈ pts s m ↔ ∃ k : Nat, k < m ∧ x = (2 * (k : Int) + s, 2 * (k : Int) + s) := by
  unfold pts
  rw [List.mem_map]
  constructor
  · rintro ⟨k, hk, rfl⟩
    exact ⟨k, List.mem_range.mp hk, rfl⟩
  · rintro ⟨k, hk, rfl⟩
    exact ⟨k, List.mem_range.mpr hk, rfl⟩
theorem nodup_map {α β : Type} {f : α → β} (hf : ∀ a b, f a = f b → a = b) : ∀ {l : List α}, l.Nodup → (l.map f).Nodup
  | [], _ => List.Pairwise.nil
  | a :: l, h => by
    obtain ⟨h1, h2⟩ := List.nodup_cons.mp h
    refine List.nodup_cons.mpr ⟨fun z => ?_, nodup_map hf h2⟩
    obtain ⟨b, hb, e⟩ := List.mem_map.mp z
    rw [hf _ _ e] at hb
    exact h1 hb
theorem pts_nodup (s : Int) (m : Nat) : (pts s m).Nodup := nodup_map (fun a b e => by have := (Prod.mk.inj e).1; omega) List.nodup_range
theorem pts_len (s : Int) (m : Nat) : (pts s m).length = m := by unfold pts; rw [List.length_map, List.length_range]
theorem pts_valid (s : Int) (m : Nat) : validR (pts s m) := fun r hr => by
  obtain ⟨k, _, rfl⟩ := mem_pts.mp hr
  exact Int.le_refl _
theorem anti_pts {rs : Rides} (h : ∀ r ∈ rs, r.1 = r.2) : anti rs := fun q hq r hr h1 h2 => by
  have e1 := h q hq
  have e2 := h r hr
  exact Prod.ext (by omega) (by omega)
theorem pts_needed {s : Int} {m : Nat} {ns : Rides} (h : IsNeeded (pts s m) ns) : ∀ x, x ∈ ns ↔ x ∈ pts s m := fun x =>
  ⟨h.sub x, fun hx => by
    obtain ⟨n, hn, h1, h2⟩ := h.cov x hx
    have e := anti_pts (rs := pts s m) (fun r hr => by obtain ⟨k, _, rfl⟩ := mem_pts.mp hr; rfl) n (h.sub n hn) x hx h1 h2
    rw [← e]
    exact hn⟩
theorem wide_len {m p : Nat} {s : Int} {na nb nc : Rides} (ha : IsNeeded (pts 0 m) na) (hb : IsNeeded (pts s p) nb) (hc : IsNeeded (na ++ nb) nc) :
    (s = 1 → nc.length = m + p) ∧ (s = 0 → p ≤ m → nc.length = m) := by
  have mem : ∀ x, x ∈ na ++ nb ↔ x ∈ pts 0 m ∨ x ∈ pts s p := fun x => by rw [List.mem_append, pts_needed ha, pts_needed hb]
  have an : anti (na ++ nb) := anti_pts fun r hr => by
    rcases (mem r).mp hr with h | h <;> (obtain ⟨k, _, rfl⟩ := mem_pts.mp h; rfl)
  constructor
  · intro hs
    subst hs
    rw [needed_len hc an (ls := pts 0 m ++ pts 1 p) ?_ fun x => by rw [List.mem_append, mem], List.length_append, pts_len, pts_len]
    refine List.nodup_append.mpr ⟨pts_nodup _ _, pts_nodup _ _, fun a ha b hb e => ?_⟩
    obtain ⟨k, _, rfl⟩ := mem_pts.mp ha
    obtain ⟨l, _, rfl⟩ := mem_pts.mp hb
    have := (Prod.mk.inj e).1
    omega
  · intro hs hp
    subst hs
    rw [needed_len hc an (ls := pts 0 m) (pts_nodup _ _) fun x => ?_, pts_len]
    rw [mem]
    refine ⟨.inl, fun z => z.elim id fun z => ?_⟩
    obtain ⟨k, hk, rfl⟩ := mem_pts.mp z
    exact mem_pts.mpr ⟨k, by omega, rfl⟩
theorem begun_pts {s : Int} {m : Nat} {na : Rides} (ha : IsNeeded (pts s m) na) {e : Int} {k : Nat} (hk : k < m) (h1 : 2 * (k : Int) + s ≤ e) (h2 : k + 1 < m → e < 2 * (k : Int) + 2 + s) : begunL na (.num e) = .num (2 * (k : Int) + s) := by
  refine (isBegin_eq ha (m := .num e) (x := .num (2 * (k : Int) + s)) (.inr ⟨_, rfl, ⟨_, mem_pts.mpr ⟨k, hk, rfl⟩, h1, rfl⟩, fun q hq z => ?_⟩)).symm
  obtain ⟨l, hl, rfl⟩ := mem_pts.mp hq
  have z' : 2 * (l : Int) + s ≤ e := z
  show 2 * (l : Int) + s ≤ 2 * (k : Int) + s
  by_cases c : k + 1 < m
  · have := h2 c
    omega
  · omega
theorem begun_pts0 {s : Int} {m : Nat} {na : Rides} (ha : IsNeeded (pts s m) na) {e : Int} (h1 : e < s) : begunL na (.num e) = .first := by
  refine (isBegin_eq ha (m := .num e) (x := .first) (.inl ⟨rfl, fun q hq z => ?_⟩)).symm
  obtain ⟨l, hl, rfl⟩ := mem_pts.mp hq
  have z' : 2 * (l : Int) + s ≤ e := z
  omega
theorem slow_len {m p : Nat} (hmp : m = p ∨ m = p + 1) (hp : 0 < p) {na nb nc : Rides} (ha : IsNeeded (pts 0 m) na) (hb : IsNeeded (pts 1 p) nb) (hc : IsNeeded (andL na nb) nc) : nc.length = m + p - 1 := by
  have mem : ∀ x, x ∈ andL na nb ↔ ∃ e : Nat, e < m + p - 1 ∧ x = ((e : Int), (e : Int) + 1) := fun x => by
    unfold andL
    rw [List.mem_filterMap]
    have sm : ∀ a b : Int, soonerM (.num a) (.num b) = if a < b then .num a else .num b := fun a b => by simp [soonerM, Mom.lt]
    constructor
    · rintro ⟨e, he, hz⟩
      obtain ⟨r, hr, rfl⟩ := List.mem_map.mp he
      rcases List.mem_append.mp hr with h | h
      · obtain ⟨k, hk, rfl⟩ := mem_pts.mp ((pts_needed ha _).mp h)
        have e1 : begunL na (.num (2 * (k : Int) + 0)) = .num (2 * (k : Int) + 0) := begun_pts ha hk (Int.le_refl _) fun _ => by omega
        rw [e1] at hz
        cases k with
        | zero =>
          rw [begun_pts0 hb (by omega)] at hz
          cases hz
        | succ j =>
          have e2 : begunL nb (.num (2 * ((j + 1 : Nat) : Int) + 0)) = .num (2 * (j : Int) + 1) := begun_pts hb (by omega) (by omega) fun _ => by omega
          rw [e2, sm, if_neg (by omega)] at hz
          cases hz
          exact ⟨2 * j + 1, by omega, Prod.ext (by show 2 * (j : Int) + 1 = _; omega) (by show 2 * ((j + 1 : Nat) : Int) + 0 = _; omega)⟩
      · obtain ⟨k, hk, rfl⟩ := mem_pts.mp ((pts_needed hb _).mp h)
        have e1 : begunL nb (.num (2 * (k : Int) + 1)) = .num (2 * (k : Int) + 1) := begun_pts hb hk (Int.le_refl _) fun _ => by omega
        have e2 : begunL na (.num (2 * (k : Int) + 1)) = .num (2 * (k : Int) + 0) := begun_pts ha (by omega) (by omega) fun _ => by omega
        rw [e1, e2, sm, if_pos (by omega)] at hz
        cases hz
        exact ⟨2 * k, by omega, Prod.ext (by show 2 * (k : Int) + 0 = _; omega) (by show 2 * (k : Int) + 1 = _; omega)⟩
    · rintro ⟨e, he, rfl⟩
      obtain ⟨j, hj⟩ : ∃ j, e = 2 * j ∨ e = 2 * j + 1 := ⟨e / 2, by omega⟩
      rcases hj with rfl | rfl
      · refine ⟨2 * (j : Int) + 1, List.mem_map.mpr ⟨(2 * (j : Int) + 1, 2 * (j : Int) + 1), List.mem_append_right _ ((pts_needed hb _).mpr (mem_pts.mpr ⟨j, by omega, rfl⟩)), rfl⟩, ?_⟩
        have e1 : begunL nb (.num (2 * (j : Int) + 1)) = .num (2 * (j : Int) + 1) := begun_pts hb (by omega) (Int.le_refl _) fun _ => by omega
        have e2 : begunL na (.num (2 * (j : Int) + 1)) = .num (2 * (j : Int) + 0) := begun_pts ha (by omega) (by omega) fun _ => by omega
        rw [e1, e2, sm, if_pos (by omega)]
        exact congrArg some (Prod.ext (by show 2 * (j : Int) + 0 = ((2 * j : Nat) : Int); omega) (by show 2 * (j : Int) + 1 = ((2 * j : Nat) : Int) + 1; omega))
      · refine ⟨2 * ((j + 1 : Nat) : Int) + 0, List.mem_map.mpr ⟨(2 * ((j + 1 : Nat) : Int) + 0, 2 * ((j + 1 : Nat) : Int) + 0), List.mem_append_left _ ((pts_needed ha _).mpr (mem_pts.mpr ⟨j + 1, by omega, rfl⟩)), rfl⟩, ?_⟩
        have e1 : begunL na (.num (2 * ((j + 1 : Nat) : Int) + 0)) = .num (2 * ((j + 1 : Nat) : Int) + 0) := begun_pts ha (by omega) (Int.le_refl _) fun _ => by omega
        have e2 : begunL nb (.num (2 * ((j + 1 : Nat) : Int) + 0)) = .num (2 * (j : Int) + 1) := begun_pts hb (by omega) (by omega) fun _ => by omega
        rw [e1, e2, sm, if_neg (by omega)]
        exact congrArg some (Prod.ext (by show 2 * (j : Int) + 1 = ((2 * j + 1 : Nat) : Int); omega) (by show 2 * ((j + 1 : Nat) : Int) + 0 = ((2 * j + 1 : Nat) : Int) + 1; omega))
  have an : anti (andL na nb) := fun q hq r hr h1 h2 => by
    obtain ⟨e, _, rfl⟩ := (mem q).mp hq
    obtain ⟨d, _, rfl⟩ := (mem r).mp hr
    have h1' : (d : Int) ≤ e := h1
    have h2' : (e : Int) + 1 ≤ d + 1 := h2
    exact Prod.ext (by show (e : Int) = d; omega) (by show (e : Int) + 1 = d + 1; omega)
  rw [needed_len hc an (ls := (List.range (m + p - 1)).map fun (e : Nat) => ((e : Int), (e : Int) + 1)) (nodup_map (fun a b e => by have := (Prod.mk.inj e).1; omega) List.nodup_range) fun x => ?_, List.length_map, List.length_range]
  rw [mem, List.mem_map]
  constructor
  · rintro ⟨e, he, rfl⟩
    exact ⟨e, List.mem_range.mp he, rfl⟩
  · rintro ⟨e, he, rfl⟩
    exact ⟨e, List.mem_range.mpr he, rfl⟩
end Nw

namespace Nw
open PySem PySem.Spec PyProof.Rows L2
/-! ### the errors with fields -/
section
variable {P : Program} {w : World} {K : PySem.W.Frag} {mg : Str → Option Value} {base : Heap}
abbrev sp_NoRides__init (K : PySem.W.Frag) : Sp := spX1 K (He.ga K "NoRides") "at"
theorem ok_NoRides__init (T : Txt K mg) (F : FnAt K "__init__" "NoRides.__init__" s_NoRides__init (He.ma K (He.ga K "NoRides") "__init__")) : Ok P w K mg base CX0 1 (He.ma K (He.ga K "NoRides") "__init__") ["self", "at"] (spX1 K (He.ga K "NoRides") "at") := by
  refine ok_of F sc_NoRides__init (fun _ _ _ _ _ _ us hl => match us, hl with | [_, _], _ => rfl) (fun vs H Q E h => ?_) (fun cdv A outer s H vs Q E hr h => ?_)
  · obtain ⟨_, _, rfl, _⟩ := h
    rfl
  · obtain ⟨a, v, rfl, ha, k⟩ := h
    exact ⟨_, (pss_cons (ps_expr (pe_oeinit T.oe T.g_OrderError (pa_cons (pv 0) (pa_cons pe_str pa_nil))))
      (pss_one (ps_ost (pv 0) (pv 1)))), _, rfl, a, _, _, rfl, by simp, T.xo_NoRides, ha, _, rfl, _, rfl, a, _, rfl, T.xo_NoRides, T.na_NoRides_at, .inl ⟨ha, k⟩⟩
abbrev sp_TooMany__init (K : PySem.W.Frag) : Sp := spX1 K (He.ga K "TooMany") "most"
theorem ok_TooMany__init (T : Txt K mg) (F : FnAt K "__init__" "TooMany.__init__" s_TooMany__init (He.ma K (He.ga K "TooMany") "__init__")) : Ok P w K mg base CX0 1 (He.ma K (He.ga K "TooMany") "__init__") ["self", "most"] (spX1 K (He.ga K "TooMany") "most") := by
  refine ok_of F sc_TooMany__init (fun _ _ _ _ _ _ us hl => match us, hl with | [_, _], _ => rfl) (fun vs H Q E h => ?_) (fun cdv A outer s H vs Q E hr h => ?_)
  · obtain ⟨_, _, rfl, _⟩ := h
    rfl
  · obtain ⟨a, v, rfl, ha, k⟩ := h
    exact ⟨_, (pss_cons (ps_expr (pe_oeinit T.oe T.g_OrderError (pa_cons (pv 0) (pa_cons pe_str pa_nil))))
      (pss_one (ps_ost (pv 0) (pv 1)))), _, rfl, a, _, _, rfl, by simp, T.xo_TooMany, ha, _, rfl, _, rfl, a, _, rfl, T.xo_TooMany, T.na_TooMany_most, .inl ⟨ha, k⟩⟩
end
end Nw

namespace Nw
open PySem PySem.Spec PyProof.Rows L2
/-! ### links put together: too many rides -/
/-- one error with one field goes out -/
def out1 (C : Addr) (f : Str) (v : V) (E : XK) (I H : Hp) : Prop := ∀ I' H' dx, Grow No I H I' H' → H' dx = some (.xd [(f, v)]) → E (.ref C) (some dx) H'
theorem out1.grow {C : Addr} {f : Str} {v : V} {E : XK} {I H I' H' : Hp} (k : out1 C f v E I H) (g : Grow No I H I' H') : out1 C f v E I' H' := fun I2 H2 dx g2 h => k I2 H2 dx (g.trans g2) h
def linkOut (K : PySem.W.Frag) (I H : Hp) (rs ns : Rides) (Q : VK) (E : XK) : Prop :=
  (ns.length ≤ 60 ∧ validR rs ∧ ∀ p I' H', Grow No I H I' H' → isLink K I' (.ref p) ns → Q (.ref p) H') ∨ (60 < ns.length ∧ out1 (He.ga K "TooMany") "most" (.int 60) E I H)
theorem linkOut.grow {K : PySem.W.Frag} {I H I1 H1 : Hp} {rs ns : Rides} {Q : VK} {E : XK} (k : linkOut K I H rs ns Q E) (g : Grow No I H I1 H1) : linkOut K I1 H1 rs ns Q E := by
  rcases k with ⟨a, b, k⟩ | ⟨a, k⟩
  · exact .inl ⟨a, b, fun p I' H' g' l => k p I' H' (g.trans g') l⟩
  · exact .inr ⟨a, k.grow g⟩
def spb_link_by (K : PySem.W.Frag) : Sp := fun vs H Q E => ∃ (I : Hp) (v : V) (rs : Rides), vs = [v] ∧ isL I v rs ∧ rs.length ≤ 100000 ∧ Same I H ∧ ∀ ns, IsNeeded rs ns → linkOut K I H rs ns Q E
def spb_Link__or (K : PySem.W.Frag) : Sp := fun vs H Q E => ∃ (I : Hp) (v1 v2 : V) (na nb : Rides), vs = [v1, v2] ∧ isLink K I v1 na ∧ isLink K I v2 nb ∧ na.length + nb.length ≤ 1000 ∧ Same I H ∧ ∀ ns, IsNeeded (na ++ nb) ns → linkOut K I H (na ++ nb) ns Q E
def spb_Link__and (K : PySem.W.Frag) : Sp := fun vs H Q E => ∃ (I : Hp) (v1 v2 : V) (na nb : Rides), vs = [v1, v2] ∧ isLink K I v1 na ∧ isLink K I v2 nb ∧ na.length + nb.length ≤ 1000 ∧ Same I H ∧ ∀ ns, IsNeeded (andL na nb) ns → linkOut K I H (andL na nb) ns Q E
def sp_Link_rides (K : PySem.W.Frag) : Sp := fun vs H Q _ => ∃ (a dx : Addr) (t : V), vs = [.ref a] ∧ H a = some (.ins (He.ga K "Link") dx [("own_rides", t)]) ∧ Q t H
section
variable {P : Program} {w : World} {K : PySem.W.Frag} {mg : Str → Option Value} {base : Heap}
theorem ok_Link_rides (T : Txt K mg) (F : FnAt K "rides" "Link.rides" s_Link_rides (propGet K (He.ga K "Link") "rides"))  : Ok P w K mg base CX0 1 (propGet K (He.ga K "Link") "rides") ["self"] (sp_Link_rides K) := by
  refine ok_of F sc_Link_rides (fun _ _ _ _ _ _ us hl => match us, hl with | [_], _ => rfl) (fun vs H Q E h => ?_) (fun cdv A outer s H vs Q E hr h => ?_)
  · obtain ⟨_, _, _, rfl, _⟩ := h
    rfl
  · obtain ⟨a, dx, t, rfl, ha, k⟩ := h
    exact ⟨_, (pss_one (ps_ret (pe_fld (pv 0) rfl))), _, rfl, a, _, dx, _, _, rfl, ha, T.cl_Link, T.na_Link_own_rides, rfl, k⟩
theorem okb_link_by (T : Txt K mg) (F : FnAt K "link_by" "link_by" s_link_by (He.ga K "link_by")) (G_needed : Ok P w K mg base CX0 1 (He.ga K "needed") ["rides"] (sp_needed K)) (G_Link__init : Ok P w K mg base CX0 3 (He.ma K (He.ga K "Link") "__init__") ["self", "rides"] (sp_Link__init K)) (G_TooMany__init : Ok P w K mg base CX0 1 (He.ma K (He.ga K "TooMany") "__init__") ["self", "most"] (sp_TooMany__init K)) : Ok P w K mg base (L2.CX P w) 5 (He.ga K "link_by") ["rides"] (spb_link_by K) := by
  refine ok_ofX F sc_link_by (fun _ _ _ _ _ _ us hl => match us, hl with | [_], _ => rfl) (fun vs H Q E h => ?_) (fun cdv A outer s H vs Q E hr h => ?_)
  · obtain ⟨_, _, _, rfl, _⟩ := h
    rfl
  · obtain ⟨I, v, rs, rfl, hL, hz, sb, k0⟩ := h
    refine ⟨_, (pss_cons (ps_set (i := 1) sc_link_by.nd rfl (Or.inl rfl) (pe_callC G_needed (hr.mono (by decide)) T.g_needed (pa_cons (pv 0) pa_nil)))
      (pss_cons (ps_if (pt_cmpR op_gt (pe_callB call_len_seq (by rfl) T.b_len (by decide +kernel) (pa_cons (pv 1) pa_nil)) (pe_gint T.c_MOST_RIDES) (nomark _)) (pss_one (ps_raise rfl (takes_of rfl rfl rfl rfl) (pmk_oexC T.xo_TooMany T.m_TooMany___init__ G_TooMany__init (hr.mono (by decide)) T.g_TooMany (pa_cons (pe_gint T.c_MOST_RIDES) pa_nil)))) pss_nil)
      (pss_one (ps_ret (pe_makeC T.mk_Link G_Link__init (hr.mono (by decide)) T.g_Link (pa_cons (pv 1) pa_nil)))))), ?_⟩
    refine ⟨_, rfl, I, false, v, rs, rfl, hL.s, hz, sb, fun ns v' I1 H1 g1 hu hn => ?_⟩
    have hn0 := hn
    have k := k0 ns hn
    obtain ⟨a, vs, rfl, ha, hp⟩ := id hu
    have hlen := Nw.Paired.len hp
    rcases k with ⟨h60, hv, k⟩ | ⟨h60, k⟩
    · refine ⟨_, rfl, a, vs, rfl, .inr (SqT.of (g1.sub _ _ ha)), _, _, rfl, rfl, false, (by show V.bl (decide ((60 : Int) < (vs.length : Nat))) = V.bl false; rw [decide_eq_false (by omega)]), iteF ?_⟩
      refine ⟨_, rfl, fun x dx hx hdx ne => ?_⟩
      refine ⟨I1, true, x, dx, _, ns, rfl, upd_same, g1.sub.free hx, hu.s, h60, fun r hr => hv r (hn.sub r hr), (grow_made (T := No) g1.sub hx hdx ne).sub, fun ms t I2 H2 g2 h2 hu2 hn2 => ⟨rfl, ?_⟩⟩
      obtain ⟨gm, n3⟩ := Grow.make (T := No) g1 hx hdx ne g2 (fun b z => .inr (by rw [z]; exact live_none g1 hx)) h2
      have e2 := needed_uniq hn0 (hn.twice hn2)
      subst e2
      exact k x _ _ gm ⟨x, dx, t, rfl, upd_same, hu2.up (Same.up n3)⟩
    · refine ⟨_, rfl, a, vs, rfl, .inr (SqT.of (g1.sub _ _ ha)), _, _, rfl, rfl, true, (by show V.bl (decide ((60 : Int) < (vs.length : Nat))) = V.bl true; rw [decide_eq_true (by omega)]), iteT ?_⟩
      exact mk1 fun dx hdx => k _ _ dx (g1.trans (Grow.mine g1.sub hdx)) upd_same
theorem okb_Link__or (T : Txt K mg) (F : FnAt K "__or__" "Link.__or__" s_Link__or (He.ma K (He.ga K "Link") "__or__")) (GX_link_by : Ok P w K mg base (L2.CX P w) 5 (He.ga K "link_by") ["rides"] (fun vs H Q E => sp_link_by K vs H Q E ∨ spb_link_by K vs H Q E)) : Ok P w K mg base (L2.CX P w) 6 (He.ma K (He.ga K "Link") "__or__") ["self", "other"] (spb_Link__or K) := by
  refine ok_ofX F sc_Link__or (fun _ _ _ _ _ _ us hl => match us, hl with | [_, _], _ => rfl) (fun vs H Q E h => ?_) (fun cdv A outer s H vs Q E hr h => ?_)
  · obtain ⟨_, _, _, _, _, rfl, _⟩ := h
    rfl
  · obtain ⟨I, v1, v2, na, nb, rfl, ⟨a, dx, t, rfl, ha, hu⟩, ⟨b, dy, t2, rfl, hb, hu2⟩, hz, sb, k⟩ := h
    refine ⟨_, (pss_one (ps_ret (pe_callX GX_link_by (hr.mono (by decide)) T.g_link_by passE (pa_cons (pe_op op_cat (pe_callTy call_list_of (by rfl) T.b_list (by decide +kernel) (pa_cons (pe_fld (pv 0) rfl) pa_nil)) (pe_callTy call_list_of (by rfl) T.b_list (by decide +kernel) (pa_cons (pe_fld (pv 1) rfl) pa_nil))) pa_nil)))), ?_⟩
    obtain ⟨p, vs, rfl, hp, hpp⟩ := hu
    obtain ⟨q, ws, rfl, hq, hqq⟩ := hu2
    have l1 := Nw.Paired.len hpp
    have l2 := Nw.Paired.len hqq
    refine ⟨_, rfl, a, _, dx, _, _, rfl, sb _ _ ha, T.cl_Link, T.na_Link_own_rides, rfl, p, vs, rfl, .inr (SqT.of (sb _ _ hp)), fun x hx => ?_⟩
    have g1 : Grow No I H I (upd H x (.lst vs)) := Grow.mine sb hx
    refine ⟨_, rfl, b, _, dy, _, _, rfl, g1.sub _ _ hb, T.cl_Link, T.na_Link_own_rides, rfl, q, ws, rfl, .inr (SqT.of (g1.sub _ _ hq)), fun y hy => ?_⟩
    have g2 : Grow No I (upd H x (.lst vs)) I (upd (upd H x (.lst vs)) y (.lst ws)) := Grow.mine g1.sub hy
    refine ⟨x, y, vs, ws, rfl, rfl, by rw [upd_ne (ne_of_none upd_same hy)]; exact upd_same, upd_same, by rw [sizeLine_eq]; omega, fun z hz2 => ?_⟩
    have g3 := (g1.trans g2).trans (Grow.new (T := No) (o := .lst (vs ++ ws)) g2.sub hz2)
    refine .inr ⟨_, _, na ++ nb, rfl, ⟨z, vs ++ ws, rfl, upd_same, ?_⟩, by simp; omega, g3.sub, fun ns hn => (k ns hn).grow g3⟩
    exact Nw.Paired.app (Paired.mono' (fun _ _ z => Rep.mono (Same.up (g2.sub.free hz2)) z) hpp) (Paired.mono' (fun _ _ z => Rep.mono (Same.up (g2.sub.free hz2)) z) hqq)
theorem okb_Link__and (T : Txt K mg) (F : FnAt K "__and__" "Link.__and__" s_Link__and (He.ma K (He.ga K "Link") "__and__")) (G_begun : Ok P w K mg base CX0 1 (He.ga K "begun") ["rides", "moment"] (sp_begun K)) (G_sooner_of : Ok P w K mg base CX0 2 (He.ga K "sooner_of") ["one", "other"] (sp_sooner_of K)) (GX_link_by : Ok P w K mg base (L2.CX P w) 5 (He.ga K "link_by") ["rides"] (fun vs H Q E => sp_link_by K vs H Q E ∨ spb_link_by K vs H Q E)) : Ok P w K mg base (L2.CX P w) 6 (He.ma K (He.ga K "Link") "__and__") ["self", "other"] (spb_Link__and K) := by
  refine ok_ofX F sc_Link__and (fun _ _ _ _ _ _ us hl => match us, hl with | [_, _], _ => rfl) (fun vs H Q E h => ?_) (fun cdv A outer s H vs Q E hr h => ?_)
  · obtain ⟨_, _, _, _, _, rfl, _⟩ := h
    rfl
  · obtain ⟨I, v1, v2, na, nb, rfl, ⟨a, dx, t, rfl, ha, hu⟩, ⟨b, dy, t2, rfl, hb, hu2⟩, hz, sb, k⟩ := h
    refine ⟨_, (pss_cons (ps_setLc (i := 2) (own := [("begin", 4), ("end", 5)]) (g := (gTup K 2 (gCons (gName 4) (gCons (gName 5) gNil)))) rfl sc_Link__and.nd rfl rfl (sw_true rfl rfl rfl (by decide +kernel)) (pi_list (pe_op op_cat (pe_callTy call_list_of (by rfl) T.b_list (by decide +kernel) (pa_cons (pe_fld (pv 0) rfl) pa_nil)) (pe_callTy call_list_of (by rfl) T.b_list (by decide +kernel) (pa_cons (pe_fld (pv 1) rfl) pa_nil)))) (blkOk_by (own := [("begin", 4), ("end", 5)]) (N := n_Link__and) (sc := defScope s_Link__and) (by decide +kernel)) (fun _ _ _ _ _ => (pg_tup (by rfl) (pgs_cons (pg_name (i := 4) sc_Link__and.nd rfl (Or.inl rfl)) (pgs_cons (pg_name (i := 5) sc_Link__and.nd rfl (Or.inl rfl)) pgs_nil)))) (fun _ _ _ _ _ => pts_nil) (fun _ _ _ _ _ => (pv 5)))
      (pss_cons (ps_setLc (i := 3) (own := [("end", 5)]) (g := (gName 5)) rfl sc_Link__and.nd rfl rfl (sw_true rfl rfl rfl (by decide +kernel)) (pi_list (pv 2)) (blkOk_by (own := [("end", 5)]) (N := n_Link__and) (sc := defScope s_Link__and) (by decide +kernel)) (fun _ _ _ _ _ => (pg_name (i := 5) sc_Link__and.nd rfl (Or.inl rfl))) (fun _ _ _ _ _ => pts_nil) (fun _ _ _ _ _ => (pe_tup (pa_cons (pe_callC G_sooner_of (hr.mono (by decide)) T.g_sooner_of (pa_cons (pe_callC G_begun (hr.mono (by decide)) T.g_begun (pa_cons (pe_fldK (K := K) rfl (pv 0) rfl) (pa_cons (pv 5) pa_nil))) (pa_cons (pe_callC G_begun (hr.mono (by decide)) T.g_begun (pa_cons (pe_fldK (K := K) rfl (pv 1) rfl) (pa_cons (pv 5) pa_nil))) pa_nil))) (pa_cons (pv 5) pa_nil)))))
      (pss_one (ps_ret (pe_callX GX_link_by (hr.mono (by decide)) T.g_link_by passE (pa_cons (pe_lc (own := [("begin", 4), ("end", 5)]) (g := (gTup K 2 (gCons (gName 4) (gCons (gName 5) gNil)))) rfl sc_Link__and.nd (pi_list (pv 3)) (blkOk_by (own := [("begin", 4), ("end", 5)]) (N := n_Link__and) (sc := defScope s_Link__and) (by decide +kernel)) (fun _ _ _ _ _ => (pg_tup (by rfl) (pgs_cons (pg_name (i := 4) sc_Link__and.nd rfl (Or.inl rfl)) (pgs_cons (pg_name (i := 5) sc_Link__and.nd rfl (Or.inl rfl)) pgs_nil)))) (fun _ _ _ _ _ => (pts_one (pt_cmpR op_ne (pv 4) (pe_gstr T.c_FIRST) (nomark _)))) (fun _ _ _ _ _ => (pe_tup (pa_cons (pv 4) (pa_cons (pv 5) pa_nil))))) pa_nil)))))), ?_⟩
    have hu0 := hu
    have hu20 := hu2
    obtain ⟨p, vs, rfl, hp, hpp⟩ := hu
    obtain ⟨q, ws, rfl, hq, hqq⟩ := hu2
    have l1 := Nw.Paired.len hpp
    have l2 := Nw.Paired.len hqq
    refine ⟨_, rfl, a, _, dx, _, _, rfl, sb _ _ ha, T.cl_Link, T.na_Link_own_rides, rfl, p, vs, rfl, .inr (SqT.of (sb _ _ hp)), fun x hx => ?_⟩
    have g1 : Grow No I H I (upd H x (.lst vs)) := Grow.mine sb hx
    refine ⟨_, rfl, b, _, dy, _, _, rfl, g1.sub _ _ hb, T.cl_Link, T.na_Link_own_rides, rfl, q, ws, rfl, .inr (SqT.of (g1.sub _ _ hq)), fun y hy => ?_⟩
    have g2 : Grow No I (upd H x (.lst vs)) I (upd (upd H x (.lst vs)) y (.lst ws)) := Grow.mine g1.sub hy
    refine ⟨x, y, vs, ws, rfl, rfl, by rw [upd_ne (ne_of_none upd_same hy)]; exact upd_same, upd_same, by rw [sizeLine_eq]; omega, fun z hz2 => ?_⟩
    have gz : Grow No I (upd (upd H x (.lst vs)) y (.lst ws)) I _ := Grow.mine (o := .lst (vs ++ ws)) g2.sub hz2
    have g3 := (g1.trans g2).trans gz
    refine ⟨z, rfl, ⟨_, SqL.of upd_same⟩, fun L hL => ?_⟩
    have hab := Nw.Paired.app hpp hqq
    have lab := Nw.Paired.len hab
    refine lc_pure (β := Int) walk_list (na ++ nb) (fun r => some r.2) lab.symm g3.sub hL (by rw [lab]; simp; omega) (fun I' H' g => SqL.of (g.same _ _ upd_same)) ?_ ?_
    · rintro i r x I' H' H'' hr g ⟨rfl, hx⟩ Kn Ky kn ky
      obtain ⟨x', hx', c, w1, w2, rfl, hc, h1, h2⟩ := Nw.Paired.at hab hr
      rw [hx] at hx'
      cases hx'
      cases h1
      cases h2
      refine ⟨c, _, rfl, SqT.of (g.sub _ _ (g.view _ _ hc)), rfl, _, _, rfl, _, _, rfl, rfl, rfl, lc_yes ?_⟩
      exact ⟨_, rfl, ky _ rfl _ I' H'' (Grow.refl g.sub) rfl⟩
    · intro I1 H1 es g4 ow hp1
      rw [fm_some] at hp1
      have e1 := Paired.ints hp1
      subst e1
      have g4' := g3.trans g4
      refine ⟨_, rfl, L, rfl, ⟨_, SqL.of ow.at_⟩, fun L2 hL2 => ?_⟩
      refine lc_pure (β := Mom × Int) walk_list ((na ++ nb).map (·.2)) (fun e => some (soonerM (begunL na (.num e)) (begunL nb (.num e)), e)) (by simp) g4.sub hL2 (by simp; omega) (fun I' H' g => SqL.of (g.same _ _ ow.at_)) ?_ ?_
      · rintro i r x I' H' H'' hr g ⟨rfl, hx⟩ Kn Ky kn ky
        obtain ⟨r', hr', rfl⟩ := getI hx
        rw [hr] at hr'
        cases hr'
        refine ⟨rfl, lc_yes ?_⟩
        have gI := g4'.view.trans g.view
        refine ⟨_, rfl, a, _, dx, _, _, rfl, g.sub _ _ (gI _ _ ha), T.cl_Link, T.na_Link_own_rides, rfl, _, rfl, I', _, na, .num r, rfl, hu0.up gI, by omega, g.sub, fun I2 H2 g5 => ?_⟩
        have gI2 := gI.trans g5.view
        refine ⟨_, rfl, b, _, dy, _, _, rfl, g5.sub _ _ (gI2 _ _ hb), T.cl_Link, T.na_Link_own_rides, rfl, _, rfl, I2, _, nb, .num r, rfl, hu20.up gI2, by omega, g5.sub, fun I3 H3 g6 => ?_⟩
        refine ⟨_, _, rfl, _, rfl, (by show 2 ≤ sizeLine; decide), fun q hq => ?_⟩
        exact ky _ rfl _ _ _ ((g5.trans g6).trans (Grow.new g6.sub hq)) ⟨q, _, _, rfl, upd_same, rfl, rfl⟩
      · intro I2 H2 ms g5 ow2 hp2
        rw [fm_some] at hp2
        have l3 := Nw.Paired.len hp2
        have g5' := g4'.trans g5
        refine ⟨_, rfl, L2, rfl, ⟨_, SqL.of ow2.at_⟩, fun L3 hL3 => ?_⟩
        refine lc_pure (β := Int × Int) walk_list (((na ++ nb).map (·.2)).map fun e => (soonerM (begunL na (.num e)) (begunL nb (.num e)), e)) (fun x => momB x.2 x.1) l3.symm g5.sub hL3 (by rw [l3]; simp; omega) (fun I' H' g => SqL.of (g.same _ _ ow2.at_)) ?_ ?_
        · rintro i r x I' H' H'' hr g ⟨rfl, hx⟩ Kn Ky kn ky
          obtain ⟨x', hx', c, w1, w2, rfl, hc, h1, h2⟩ := Nw.Paired.at hp2 hr
          rw [hx] at hx'
          cases hx'
          cases h1
          cases h2
          refine ⟨c, _, rfl, SqT.of (g.sub _ _ (g.view _ _ hc)), rfl, _, _, rfl, _, _, rfl, rfl, rfl, ?_⟩
          refine ⟨_, rfl, Mom.scal r.1 .first, _, rfl, ?_⟩
          have e1 : decide (r.1.v = .str "first") = decide (r.1 = .first) := r.1.eqv .first
          rw [e1]
          obtain ⟨m, r1⟩ := r
          have hem : ∀ r ∈ (((na ++ nb).map (·.2)).map fun e => (soonerM (begunL na (.num e)) (begunL nb (.num e)), e)), r.1 ≠ .last := fun r hr => by
            obtain ⟨q, _, rfl⟩ := List.mem_map.mp hr
            have hb1 : ∀ ns : Rides, begunL ns (.num q) ≠ .last := fun ns => by
              rw [begunL_num]
              rcases hdB_cases (ns.reverse.filterMap fun r => if r.2 ≤ q then some r.1 else none) with e | ⟨_, _, e⟩ <;> rw [e] <;> exact fun z => nomatch z
            show soonerM _ _ ≠ .last
            unfold soonerM
            split
            · exact hb1 _
            · exact hb1 _
          match m, hr, ky, kn with
          | .first, _, ky, kn => exact kn rfl I' H'' (Grow.refl g.sub)
          | .last, hr, ky, kn => exact absurd rfl (hem _ (List.mem_of_getElem? hr))
          | .num e, _, ky, kn => exact ⟨_, rfl, _, rfl, (by show 2 ≤ sizeLine; decide), fun q hq => ky (e, r1) rfl _ _ _ (Grow.new g.sub hq) ⟨q, _, _, rfl, upd_same, rfl, rfl⟩⟩
        · intro I3 H3 vs3 g6 ow3 hp3
          have em : (((na ++ nb).map (·.2)).map fun e => (soonerM (begunL na (.num e)) (begunL nb (.num e)), e)).filterMap (fun x => momB x.2 x.1) = andL na nb := by
            rw [List.filterMap_map]; rfl
          rw [em] at hp3
          have hfew : (andL na nb).length ≤ na.length + nb.length := by
            have z : (andL na nb).length ≤ ((na ++ nb).map (·.2)).length := List.length_filterMap_le _ _
            simpa using z
          have g36 := g5'.trans g6
          have gf := g36.give' (live_none g5' hL3) ow3.ni ow3.at_
          exact .inr ⟨_, _, andL na nb, rfl, ⟨L3, vs3, rfl, upd_same, Paired.mono' (fun _ _ z => Rep.mono (Same.up ow3.ni) z) hp3⟩, by omega, gf.sub, fun ns hn => (k ns hn).grow gf⟩
end
end Nw

namespace Nw
open PySem PySem.Spec PyProof.Rows L2
/-! ### just so many rides, and more -/
def wideR (m p : Nat) (s : Int) : Int := if (if s = 1 then m + p else m) ≤ 60 then (if s = 1 then m + p else m : Nat) else -1
def slowR (m p : Nat) : Int := if m + p - 1 ≤ 60 then (m + p - 1 : Nat) else -1
def sp_l_wide (K : PySem.W.Frag) : Sp := fun vs H Q _ => ∃ (I : Hp) (m p : Nat) (s : Int), vs = [.int m, .int p, .int s] ∧ m ≤ 60 ∧ p ≤ 60 ∧ (s = 1 ∨ s = 0 ∧ p ≤ m) ∧ Same I H ∧ ∀ I' H', Grow No I H I' H' → Q (.int (wideR m p s)) H'
def sp_l_slow (K : PySem.W.Frag) : Sp := fun vs H Q _ => ∃ (I : Hp) (m p : Nat), vs = [.int m, .int p] ∧ m ≤ 60 ∧ p ≤ 60 ∧ (m = p ∨ m = p + 1) ∧ 0 < p ∧ Same I H ∧ ∀ I' H', Grow No I H I' H' → Q (.int (slowR m p)) H'
theorem range_at {m i x : Nat} (h : (List.range m)[i]? = some x) : x = i := by
  obtain ⟨hi, e⟩ := List.getElem?_eq_some_iff.mp h
  rw [← e, List.getElem_range]
theorem pts_map (s : Int) (m : Nat) (f : Nat → Int × Int) (h : ∀ k : Nat, f k = (2 * (k : Int) + s, 2 * (k : Int) + s)) : (List.range m).map f = pts s m := by
  unfold pts
  exact List.map_congr_left fun k _ => h k
theorem made_link {K : PySem.W.Frag} {I H I3 H3 : Hp} {x dx : Addr} {t : V} {ns : Rides} (sb : Same I H) (hx : H x = none) (hdx : H dx = none) (ne : dx ≠ x) (g3 : Grow (TX x) I (upd (upd H dx (.own x)) x (.ins (He.ga K "Link") dx [])) I3 H3)
    (h : H3 x = some (.ins (He.ga K "Link") dx [("own_rides", t)])) (hu : isU I3 t ns) : ∃ J, Grow No I H J H3 ∧ isLink K J (.ref x) ns := by
  obtain ⟨g, n3⟩ := Grow.make (Grow.refl (T := No) sb) hx hdx ne g3 (fun b z => .inr (by rw [z]; exact hx)) h
  exact ⟨_, g, ⟨x, dx, t, rfl, upd_same, hu.up (Same.up n3)⟩⟩
theorem and_valid {na nb : Rides} {s : Int} {m p : Nat} (ha : IsNeeded (pts 0 m) na) (hb : IsNeeded (pts s p) nb) : validR (andL na nb) := fun x hx => by
  obtain ⟨r, hr, q, hq, h1, rfl⟩ := mem_and hx
  have e : q.1 ≤ q.2 := by
    rcases List.mem_append.mp hq with z | z
    · exact pts_valid _ _ q (ha.sub q z)
    · exact pts_valid _ _ q (hb.sub q z)
  show q.1 ≤ r.2
  omega
theorem or_valid {na nb : Rides} {s : Int} {m p : Nat} (ha : IsNeeded (pts 0 m) na) (hb : IsNeeded (pts s p) nb) : validR (na ++ nb) := fun x hx => by
  rcases List.mem_append.mp hx with z | z
  · exact pts_valid _ _ x (ha.sub x z)
  · exact pts_valid _ _ x (hb.sub x z)
theorem str60 : V.str (toString (60 : Int) : String) = V.str "60" := by rfl
section
variable {P : Program} {w : World} {K : PySem.W.Frag} {mg : Str → Option Value} {base : Heap}
theorem ok_l_wide (T : Txt K mg) (F : FnAt K "_law_wide" "_law_wide" s_l_wide (He.ga K "_law_wide")) (G_Link__init : Ok P w K mg base CX0 3 (He.ma K (He.ga K "Link") "__init__") ["self", "rides"] (sp_Link__init K)) (GX_Link__or : Ok P w K mg base (L2.CX P w) 6 (He.ma K (He.ga K "Link") "__or__") ["self", "other"] (fun vs H Q E => sp_Link__or K vs H Q E ∨ spb_Link__or K vs H Q E)) (G_Link_rides : Ok P w K mg base CX0 1 (propGet K (He.ga K "Link") "rides") ["self"] (sp_Link_rides K)) : Ok P w K mg base CX0 7 (He.ga K "_law_wide") ["_law_many", "_law_more", "_law_shift"] (sp_l_wide K) := by
  obtain ⟨fdX_Link__or, FX_Link__or, bX_Link__or, _⟩ := GX_Link__or.ok
  obtain ⟨fd_Link_rides, F_Link_rides, b_Link_rides, _⟩ := G_Link_rides.ok
  refine ok_of F sc_l_wide (fun _ _ _ _ _ _ us hl => match us, hl with | [_, _, _], _ => rfl) (fun vs H Q E h => ?_) (fun cdv A outer s H vs Q E hr h => ?_)
  · obtain ⟨_, _, _, _, rfl, _⟩ := h
    rfl
  · obtain ⟨I, m, p, s0, rfl, hm, hp, hs, sb, k⟩ := h
    refine ⟨_, (pss_cons (ps_par (i := 3) (j := 4) (by rfl) sc_l_wide.nd rfl rfl (by decide) rfl rfl (pa_cons (pe_makeC T.mk_Link G_Link__init (hr.mono (by decide)) T.g_Link (pa_cons (pe_lc (own := [("_law_k", 7)]) (g := (gName 7)) rfl sc_l_wide.nd (pi_range1 rfl T.b_range (pa_cons (pv 0) pa_nil)) (blkOk_by (own := [("_law_k", 7)]) (N := n_l_wide) (sc := defScope s_l_wide) (by decide +kernel)) (fun _ _ _ _ _ => (pg_name (i := 7) sc_l_wide.nd rfl (Or.inl rfl))) (fun _ _ _ _ _ => pts_nil) (fun _ _ _ _ _ => (pe_tup (pa_cons (pe_op op_mul pe_int (pv 7)) (pa_cons (pe_op op_mul pe_int (pv 7)) pa_nil))))) pa_nil)) (pa_cons (pe_makeC T.mk_Link G_Link__init (hr.mono (by decide)) T.g_Link (pa_cons (pe_lc (own := [("_law_k", 7)]) (g := (gName 7)) rfl sc_l_wide.nd (pi_range1 rfl T.b_range (pa_cons (pv 1) pa_nil)) (blkOk_by (own := [("_law_k", 7)]) (N := n_l_wide) (sc := defScope s_l_wide) (by decide +kernel)) (fun _ _ _ _ _ => (pg_name (i := 7) sc_l_wide.nd rfl (Or.inl rfl))) (fun _ _ _ _ _ => pts_nil) (fun _ _ _ _ _ => (pe_tup (pa_cons (pe_op op_add (pe_op op_mul pe_int (pv 7)) (pv 2)) (pa_cons (pe_op op_add (pe_op op_mul pe_int (pv 7)) (pv 2)) pa_nil))))) pa_nil)) pa_nil)) (by rfl))
      (pss_cons (ps_set (i := 5) sc_l_wide.nd rfl (Or.inl rfl) (pe_un un_neg pe_int))
      (pss_cons (ps_try_as (i := 6) rfl rfl sc_l_wide.nd rfl rfl ⟨rfl, by decide, .inl T.g_TooMany⟩ takes0
      (fun W pn xe tk _ => (pss_one (ps_set (i := 5) sc_l_wide.nd rfl (Or.inl rfl) (pe_callB (call_len_seqK (K := K) rfl) (by rfl) T.b_len (by decide +kernel) (pa_cons (pe_propC T.cl_Link T.p_Link_rides G_Link_rides (hr.mono (by decide)) (pe_op (op_ownX T.m_Link___or__ (by decide +kernel) T.sf_Link GX_Link__or (hr.mono (by decide)) (passW 8 tk)) (pv 3) (pv 4))) pa_nil)))))
      (fun a oe cls d pn hz hf => (pss_one (ps_set (i := 5) sc_l_wide.nd rfl (Or.inl rfl) (pe_ifExp (pt_cmpR op_eq (pe_callB SkE.call_repr_int (by rfl) T.b_repr (by decide +kernel) (pa_cons (pe_xf (C := He.ga K "TooMany") (xfc T.xf_TooMany) T.na_TooMany_most hz hf (pv 6)) pa_nil)) pe_str (nomark _)) (pe_un un_neg pe_int) (pe_un un_neg pe_int))))))
      (pss_one (ps_ret (pv 5)))))), ?_⟩
    refine ⟨_, rfl, _, rfl, by omega, by omega, fun L hL => ?_⟩
    refine lc_pure (β := Int × Int) (walk_range (lo := 0) (n := m)) (List.range m) (fun k => some (2 * (0 + (k : Int)), 2 * (0 + (k : Int)))) List.length_range sb hL (by omega) (fun _ _ _ => trivial) ?_ ?_
    · rintro i r x I' H' H'' hr g ⟨rfl, rfl⟩ Kn Ky kn ky
      obtain rfl := range_at hr
      refine ⟨rfl, lc_yes ?_⟩
      refine ⟨_, rfl, _, _, rfl, rfl, .inl ⟨by decide, by decide⟩, _, rfl, _, _, rfl, rfl, .inl ⟨by decide, by decide⟩, (by show 2 ≤ sizeLine; decide), fun q hq => ?_⟩
      exact ky _ rfl _ _ _ (Grow.new g.sub hq) ⟨q, _, _, rfl, upd_same, rfl, rfl⟩
    · intro I1 H1 vs1 g1 ow hp1
      rw [fm_some, pts_map 0 m _ (fun k => by rw [Int.zero_add, Int.add_zero])] at hp1
      have gA := g1.give ow
      intro xa dxa hxa hdxa nea
      refine ⟨_, false, xa, dxa, _, pts 0 m, rfl, upd_same, gA.sub.free hxa, ⟨L, vs1, rfl, upd_same, Paired.mono' (fun _ _ z => Rep.mono (Same.up ow.ni) z) hp1⟩, by rw [pts_len]; omega, pts_valid _ _, (grow_made (T := No) gA.sub hxa hdxa nea).sub, fun na ta IA HA gA2 hA hua hna => ⟨rfl, ?_⟩⟩
      obtain ⟨JA, gJ, lA⟩ := made_link gA.sub hxa hdxa nea gA2 hA hua
      have gJA := gA.trans gJ
      refine ⟨_, rfl, _, rfl, by omega, by omega, fun L2 hL2 => ?_⟩
      refine lc_pure (β := Int × Int) (walk_range (lo := 0) (n := p)) (List.range p) (fun k => some (2 * (0 + (k : Int)) + s0, 2 * (0 + (k : Int)) + s0)) List.length_range gJA.sub hL2 (by omega) (fun _ _ _ => trivial) ?_ ?_
      · rintro i r x I' H' H'' hr g ⟨rfl, rfl⟩ Kn Ky kn ky
        obtain rfl := range_at hr
        refine ⟨rfl, lc_yes ?_⟩
        refine ⟨_, rfl, _, _, rfl, rfl, .inl ⟨by decide, by decide⟩, _, rfl, _, _, rfl, rfl, _, rfl, _, _, rfl, rfl, .inl ⟨by decide, by decide⟩, _, rfl, _, _, rfl, rfl, (by show 2 ≤ sizeLine; decide), fun q hq => ?_⟩
        exact ky _ rfl _ _ _ (Grow.new g.sub hq) ⟨q, _, _, rfl, upd_same, rfl, rfl⟩
      · intro I2 H2 vs2 g2 ow2 hp2
        rw [fm_some, pts_map s0 p _ (fun k => by rw [Int.zero_add])] at hp2
        have gB' := g2.give ow2
        have gB := gJA.trans gB'
        intro xb dxb hxb hdxb neb
        refine ⟨_, false, xb, dxb, _, pts s0 p, rfl, upd_same, gB.sub.free hxb, ⟨L2, vs2, rfl, upd_same, Paired.mono' (fun _ _ z => Rep.mono (Same.up ow2.ni) z) hp2⟩, by rw [pts_len]; omega, pts_valid _ _, (grow_made (T := No) gB.sub hxb hdxb neb).sub, fun nb tb IB HB gB2 hB hub hnb => ⟨rfl, ?_⟩⟩
        obtain ⟨JB, gK, lB⟩ := made_link gB.sub hxb hdxb neb gB2 hB hub
        have gJB := gB.trans gK
        have lA2 := lA.up (gB'.trans gK).view
        have l1 : na.length ≤ 60 := Nat.le_trans hna.few (by rw [pts_len]; exact hm)
        have l2 : nb.length ≤ 60 := Nat.le_trans hnb.few (by rw [pts_len]; exact hp)
        obtain ⟨a, dx, t, ea, ha, hua⟩ := id lA2
        cases ea
        obtain ⟨b, dy, t2, eb, hb, hub⟩ := id lB
        cases eb
        refine ⟨_, _, rfl, ?_⟩
        refine ⟨_, rfl, ?_⟩
        refine ⟨_, rfl, _, rfl, xa, xb, _, _, _, _, rfl, rfl, gJB.sub _ _ ha, gJB.sub _ _ hb, .inr ⟨JB, _, _, na, nb, rfl, lA2, lB, by omega, gJB.sub, fun ns hn => ?_⟩⟩
        have hlen := wide_len hna hnb hn
        have hl : ns.length = if s0 = 1 then m + p else m := by
          rcases hs with e | ⟨e, e2⟩
          · rw [if_pos e]; exact hlen.1 e
          · rw [if_neg (by omega)]; exact hlen.2 e e2
        by_cases h60 : (if s0 = 1 then m + p else m) ≤ 60
        · refine .inl ⟨by omega, or_valid hna hnb, fun q I3 H3 g3 l3 => ⟨q, rfl, ?_⟩⟩
          obtain ⟨c, dc, tc, ec, hc, hu3⟩ := l3
          cases ec
          obtain ⟨u, us, rfl, hu, hpu⟩ := hu3
          refine ⟨q, dc, _, rfl, g3.sub _ _ hc, q, dc, _, rfl, g3.sub _ _ hc, u, us, rfl, .inr (SqT.of (g3.sub _ _ hu)), ?_⟩
          refine ⟨_, rfl, ?_⟩
          have e : wideR m p s0 = (us.length : Nat) := by
            unfold wideR
            rw [if_pos h60, Nw.Paired.len hpu, hl]
          have z := k _ _ (gJB.trans g3)
          rw [e] at z
          exact z
        · refine .inr ⟨by omega, fun I3 H3 dd g3 hdd σ hσ => ?_⟩
          match σ, hσ with
          | [s1, s2, s3, s4, s5, s6, s7, s8], _ =>
            refine ⟨true, T.em_TooMany_TooMany, fun _ a ha => ?_, fun q => nomatch q⟩
            refine ⟨_, rfl, rfl, rfl, dd, _, _, rfl, hdd, rfl, 60, rfl, by decide, rfl, _, rfl, ?_⟩
            rw [str60, decide_eq_true rfl]
            refine iteT ⟨_, rfl, _, rfl, ?_⟩
            have e : wideR m p s0 = -1 := by
              unfold wideR
              rw [if_neg h60]
            have z := k _ _ (gJB.trans g3)
            rw [e] at z
            exact z
theorem ok_l_slow (T : Txt K mg) (F : FnAt K "_law_slow" "_law_slow" s_l_slow (He.ga K "_law_slow")) (G_Link__init : Ok P w K mg base CX0 3 (He.ma K (He.ga K "Link") "__init__") ["self", "rides"] (sp_Link__init K)) (GX_Link__and : Ok P w K mg base (L2.CX P w) 6 (He.ma K (He.ga K "Link") "__and__") ["self", "other"] (fun vs H Q E => sp_Link__and K vs H Q E ∨ spb_Link__and K vs H Q E)) (G_Link_rides : Ok P w K mg base CX0 1 (propGet K (He.ga K "Link") "rides") ["self"] (sp_Link_rides K)) : Ok P w K mg base CX0 7 (He.ga K "_law_slow") ["_law_many", "_law_more"] (sp_l_slow K) := by
  obtain ⟨fdX_Link__and, FX_Link__and, bX_Link__and, _⟩ := GX_Link__and.ok
  obtain ⟨fd_Link_rides, F_Link_rides, b_Link_rides, _⟩ := G_Link_rides.ok
  refine ok_of F sc_l_slow (fun _ _ _ _ _ _ us hl => match us, hl with | [_, _], _ => rfl) (fun vs H Q E h => ?_) (fun cdv A outer s H vs Q E hr h => ?_)
  · obtain ⟨_, _, _, rfl, _⟩ := h
    rfl
  · obtain ⟨I, m, p, rfl, hm, hp, hmp, hp0, sb, k⟩ := h
    refine ⟨_, (pss_cons (ps_par (i := 2) (j := 3) (by rfl) sc_l_slow.nd rfl rfl (by decide) rfl rfl (pa_cons (pe_makeC T.mk_Link G_Link__init (hr.mono (by decide)) T.g_Link (pa_cons (pe_lc (own := [("_law_k", 6)]) (g := (gName 6)) rfl sc_l_slow.nd (pi_range1 rfl T.b_range (pa_cons (pv 0) pa_nil)) (blkOk_by (own := [("_law_k", 6)]) (N := n_l_slow) (sc := defScope s_l_slow) (by decide +kernel)) (fun _ _ _ _ _ => (pg_name (i := 6) sc_l_slow.nd rfl (Or.inl rfl))) (fun _ _ _ _ _ => pts_nil) (fun _ _ _ _ _ => (pe_tup (pa_cons (pe_op op_mul pe_int (pv 6)) (pa_cons (pe_op op_mul pe_int (pv 6)) pa_nil))))) pa_nil)) (pa_cons (pe_makeC T.mk_Link G_Link__init (hr.mono (by decide)) T.g_Link (pa_cons (pe_lc (own := [("_law_k", 6)]) (g := (gName 6)) rfl sc_l_slow.nd (pi_range1 rfl T.b_range (pa_cons (pv 1) pa_nil)) (blkOk_by (own := [("_law_k", 6)]) (N := n_l_slow) (sc := defScope s_l_slow) (by decide +kernel)) (fun _ _ _ _ _ => (pg_name (i := 6) sc_l_slow.nd rfl (Or.inl rfl))) (fun _ _ _ _ _ => pts_nil) (fun _ _ _ _ _ => (pe_tup (pa_cons (pe_op op_add (pe_op op_mul pe_int (pv 6)) pe_int) (pa_cons (pe_op op_add (pe_op op_mul pe_int (pv 6)) pe_int) pa_nil))))) pa_nil)) pa_nil)) (by rfl))
      (pss_cons (ps_set (i := 4) sc_l_slow.nd rfl (Or.inl rfl) (pe_un un_neg pe_int))
      (pss_cons (ps_try_as (i := 5) rfl rfl sc_l_slow.nd rfl rfl ⟨rfl, by decide, .inl T.g_TooMany⟩ takes0
      (fun W pn xe tk _ => (pss_one (ps_set (i := 4) sc_l_slow.nd rfl (Or.inl rfl) (pe_callB (call_len_seqK (K := K) rfl) (by rfl) T.b_len (by decide +kernel) (pa_cons (pe_propC T.cl_Link T.p_Link_rides G_Link_rides (hr.mono (by decide)) (pe_op (op_ownX T.m_Link___and__ (by decide +kernel) T.sf_Link GX_Link__and (hr.mono (by decide)) (passW 7 tk)) (pv 2) (pv 3))) pa_nil)))))
      (fun a oe cls d pn hz hf => (pss_one (ps_set (i := 4) sc_l_slow.nd rfl (Or.inl rfl) (pe_ifExp (pt_cmpR op_eq (pe_callB SkE.call_repr_int (by rfl) T.b_repr (by decide +kernel) (pa_cons (pe_xf (C := He.ga K "TooMany") (xfc T.xf_TooMany) T.na_TooMany_most hz hf (pv 5)) pa_nil)) pe_str (nomark _)) (pe_un un_neg pe_int) (pe_un un_neg pe_int))))))
      (pss_one (ps_ret (pv 4)))))), ?_⟩
    refine ⟨_, rfl, _, rfl, by omega, by omega, fun L hL => ?_⟩
    refine lc_pure (β := Int × Int) (walk_range (lo := 0) (n := m)) (List.range m) (fun k => some (2 * (0 + (k : Int)), 2 * (0 + (k : Int)))) List.length_range sb hL (by omega) (fun _ _ _ => trivial) ?_ ?_
    · rintro i r x I' H' H'' hr g ⟨rfl, rfl⟩ Kn Ky kn ky
      obtain rfl := range_at hr
      refine ⟨rfl, lc_yes ?_⟩
      refine ⟨_, rfl, _, _, rfl, rfl, .inl ⟨by decide, by decide⟩, _, rfl, _, _, rfl, rfl, .inl ⟨by decide, by decide⟩, (by show 2 ≤ sizeLine; decide), fun q hq => ?_⟩
      exact ky _ rfl _ _ _ (Grow.new g.sub hq) ⟨q, _, _, rfl, upd_same, rfl, rfl⟩
    · intro I1 H1 vs1 g1 ow hp1
      rw [fm_some, pts_map 0 m _ (fun k => by rw [Int.zero_add, Int.add_zero])] at hp1
      have gA := g1.give ow
      intro xa dxa hxa hdxa nea
      refine ⟨_, false, xa, dxa, _, pts 0 m, rfl, upd_same, gA.sub.free hxa, ⟨L, vs1, rfl, upd_same, Paired.mono' (fun _ _ z => Rep.mono (Same.up ow.ni) z) hp1⟩, by rw [pts_len]; omega, pts_valid _ _, (grow_made (T := No) gA.sub hxa hdxa nea).sub, fun na ta IA HA gA2 hA hua hna => ⟨rfl, ?_⟩⟩
      obtain ⟨JA, gJ, lA⟩ := made_link gA.sub hxa hdxa nea gA2 hA hua
      have gJA := gA.trans gJ
      refine ⟨_, rfl, _, rfl, by omega, by omega, fun L2 hL2 => ?_⟩
      refine lc_pure (β := Int × Int) (walk_range (lo := 0) (n := p)) (List.range p) (fun k => some (2 * (0 + (k : Int)) + 1, 2 * (0 + (k : Int)) + 1)) List.length_range gJA.sub hL2 (by omega) (fun _ _ _ => trivial) ?_ ?_
      · rintro i r x I' H' H'' hr g ⟨rfl, rfl⟩ Kn Ky kn ky
        obtain rfl := range_at hr
        refine ⟨rfl, lc_yes ?_⟩
        refine ⟨_, rfl, _, _, rfl, rfl, .inl ⟨by decide, by decide⟩, _, _, rfl, rfl, _, rfl, _, _, rfl, rfl, .inl ⟨by decide, by decide⟩, _, _, rfl, rfl, (by show 2 ≤ sizeLine; decide), fun q hq => ?_⟩
        exact ky _ rfl _ _ _ (Grow.new g.sub hq) ⟨q, _, _, rfl, upd_same, rfl, rfl⟩
      · intro I2 H2 vs2 g2 ow2 hp2
        rw [fm_some, pts_map 1 p _ (fun k => by rw [Int.zero_add])] at hp2
        have gB' := g2.give ow2
        have gB := gJA.trans gB'
        intro xb dxb hxb hdxb neb
        refine ⟨_, false, xb, dxb, _, pts 1 p, rfl, upd_same, gB.sub.free hxb, ⟨L2, vs2, rfl, upd_same, Paired.mono' (fun _ _ z => Rep.mono (Same.up ow2.ni) z) hp2⟩, by rw [pts_len]; omega, pts_valid _ _, (grow_made (T := No) gB.sub hxb hdxb neb).sub, fun nb tb IB HB gB2 hB hub hnb => ⟨rfl, ?_⟩⟩
        obtain ⟨JB, gK, lB⟩ := made_link gB.sub hxb hdxb neb gB2 hB hub
        have gJB := gB.trans gK
        have lA2 := lA.up (gB'.trans gK).view
        have l1 : na.length ≤ 60 := Nat.le_trans hna.few (by rw [pts_len]; exact hm)
        have l2 : nb.length ≤ 60 := Nat.le_trans hnb.few (by rw [pts_len]; exact hp)
        obtain ⟨a, dx, t, ea, ha, hua⟩ := id lA2
        cases ea
        obtain ⟨b, dy, t2, eb, hb, hub⟩ := id lB
        cases eb
        refine ⟨_, _, rfl, ?_⟩
        refine ⟨_, rfl, ?_⟩
        refine ⟨_, rfl, _, rfl, xa, xb, _, _, _, _, rfl, rfl, gJB.sub _ _ ha, gJB.sub _ _ hb, .inr ⟨JB, _, _, na, nb, rfl, lA2, lB, by omega, gJB.sub, fun ns hn => ?_⟩⟩
        have hl := slow_len hmp hp0 hna hnb hn
        by_cases h60 : m + p - 1 ≤ 60
        · refine .inl ⟨by omega, and_valid hna hnb, fun q I3 H3 g3 l3 => ⟨q, rfl, ?_⟩⟩
          obtain ⟨c, dc, tc, ec, hc, hu3⟩ := l3
          cases ec
          obtain ⟨u, us, rfl, hu, hpu⟩ := hu3
          refine ⟨q, dc, _, rfl, g3.sub _ _ hc, q, dc, _, rfl, g3.sub _ _ hc, u, us, rfl, .inr (SqT.of (g3.sub _ _ hu)), ?_⟩
          refine ⟨_, rfl, ?_⟩
          have e : slowR m p = (us.length : Nat) := by
            unfold slowR
            rw [if_pos h60, Nw.Paired.len hpu, hl]
          have z := k _ _ (gJB.trans g3)
          rw [e] at z
          exact z
        · refine .inr ⟨by omega, fun I3 H3 dd g3 hdd σ hσ => ?_⟩
          match σ, hσ with
          | [s1, s2, s3, s4, s5, s6, s7], _ =>
            refine ⟨true, T.em_TooMany_TooMany, fun _ a ha => ?_, fun q => nomatch q⟩
            refine ⟨_, rfl, rfl, rfl, dd, _, _, rfl, hdd, rfl, 60, rfl, by decide, rfl, _, rfl, ?_⟩
            rw [str60, decide_eq_true rfl]
            refine iteT ⟨_, rfl, _, rfl, ?_⟩
            have e : slowR m p = -1 := by
              unfold slowR
              rw [if_neg h60]
            have z := k _ _ (gJB.trans g3)
            rw [e] at z
            exact z
end
end Nw

namespace Nw
open PySem PySem.Spec PyProof.Rows L2
/-! ### k04: links put together -/
def okR (rs : Rides) : Prop := validR rs ∧ smallR rs
def sp_l_right (K : PySem.W.Frag) : Sp := fun vs H Q _ => ∃ (I : Hp) (D : DA) (n : Nat) (v1 v2 : V) (rs os : Rides), vs = [.ref D.d, v1, v2] ∧ Drw D n I H ∧ n + 100 < lim ∧ isL I v1 rs ∧ isL I v2 os ∧ rs.length ≤ 20 ∧ os.length ≤ 20 ∧ okR rs ∧ okR os ∧ Same I H ∧
  ∀ I' H', Grow (TD D) I H I' H' → Drw D (n + 36) I' H' → Q (.bl true) H'
def sp_law (K : PySem.W.Frag) : Sp := fun vs H Q _ => ∃ (I : Hp) (a : Addr) (ns : List Int), vs = [.ref a] ∧ Same I H ∧ SqL K I a (ns.map V.int) ∧ ns.length ≤ 63 ∧ ∀ H', Q (.bl true) H'
theorem TX_not {D : DA} {n : Nat} {I H : Hp} {x : Addr} (d : Drw D n I H) (h : H x = none) : ∀ b, TD D b → ¬ TX x b := fun b z e => by
  rw [e] at z
  exact d.live x z h
section
variable {P : Program} {w : World} {K : PySem.W.Frag} {mg : Str → Option Value} {base : Heap}
theorem ok_l_right (T : Txt K mg) (F : FnAt K "_law_right" "_law_right" s_l_right (He.ga K "_law_right")) (G_l_moment : Ok P w K mg base CX0 3 (He.ga K "_law_moment") ["_law_draw", "_law_wide_here"] (sp_l_moment K)) (G_l_end : Ok P w K mg base CX0 1 (He.ga K "_law_end") ["_law_rides_here", "_law_moment_here"] (sp_l_end K)) (G_l_begin : Ok P w K mg base CX0 1 (He.ga K "_law_begin") ["_law_rides_here", "_law_moment_here"] (sp_l_begin K)) (G_l_sooner : Ok P w K mg base CX0 2 (He.ga K "_law_sooner") ["_law_one", "_law_two"] (sp_l_sooner K)) (G_l_later : Ok P w K mg base CX0 2 (He.ga K "_law_later") ["_law_one", "_law_two"] (sp_l_later K)) (G_l_turned : Ok P w K mg base CX0 1 (He.ga K "_law_turned") ["_law_moment_here"] (sp_l_turned K)) (G_l_place : Ok P w K mg base CX0 1 (He.ga K "_law_place") ["_law_moment_here"] (sp_l_place K)) (G_Link__init : Ok P w K mg base CX0 3 (He.ma K (He.ga K "Link") "__init__") ["self", "rides"] (sp_Link__init K)) (G_Link_end : Ok P w K mg base CX0 4 (He.ma K (He.ga K "Link") "end") ["self", "moment"] (sp_Link_end K)) (G_Link_begin : Ok P w K mg base CX0 4 (He.ma K (He.ga K "Link") "begin") ["self", "moment"] (sp_Link_begin K)) (G_Link__mul : Ok P w K mg base CX0 6 (He.ma K (He.ga K "Link") "__mul__") ["self", "other"] (sp_Link__mul K)) (G_Link__or : Ok P w K mg base CX0 6 (He.ma K (He.ga K "Link") "__or__") ["self", "other"] (sp_Link__or K)) (G_Link__and : Ok P w K mg base CX0 6 (He.ma K (He.ga K "Link") "__and__") ["self", "other"] (sp_Link__and K)) (G_Link__invert : Ok P w K mg base CX0 6 (He.ma K (He.ga K "Link") "__invert__") ["self"] (sp_Link__invert K)) (G_Link__eq : Ok P w K mg base CX0 1 (He.ma K (He.ga K "Link") "__eq__") ["self", "other"] (sp_Link__eq K)) (G_Link__le : Ok P w K mg base CX0 3 (He.ma K (He.ga K "Link") "__le__") ["self", "other"] (sp_Link__le K)) : Ok P w K mg base CX0 8 (He.ga K "_law_right") ["_law_draw", "_law_rides_here", "_law_others"] (sp_l_right K) := by
  obtain ⟨fd_Link_end, F_Link_end, b_Link_end, _⟩ := G_Link_end.ok
  obtain ⟨fd_Link_begin, F_Link_begin, b_Link_begin, _⟩ := G_Link_begin.ok
  obtain ⟨fd_Link__mul, F_Link__mul, b_Link__mul, _⟩ := G_Link__mul.ok
  obtain ⟨fd_Link__or, F_Link__or, b_Link__or, _⟩ := G_Link__or.ok
  obtain ⟨fd_Link__and, F_Link__and, b_Link__and, _⟩ := G_Link__and.ok
  obtain ⟨fd_Link__invert, F_Link__invert, b_Link__invert, _⟩ := G_Link__invert.ok
  obtain ⟨fd_Link__eq, F_Link__eq, b_Link__eq, _⟩ := G_Link__eq.ok
  obtain ⟨fd_Link__le, F_Link__le, b_Link__le, _⟩ := G_Link__le.ok
  refine ok_of F sc_l_right (fun _ _ _ _ _ _ us hl => match us, hl with | [_, _, _], _ => rfl) (fun vs H Q E h => ?_) (fun cdv A outer s H vs Q E hr h => ?_)
  · obtain ⟨_, _, _, _, _, _, _, rfl, _⟩ := h
    rfl
  · obtain ⟨I, D, n, v1, v2, rs, os, rfl, dr, hn, hL1, hL2, l1, l2, ⟨vr, sr⟩, ⟨vo, so⟩, sb0, k⟩ := h
    have hlim : lim = 1099511627776 := rfl
    refine ⟨_, (pss_cons (ps_par (i := 3) (j := 4) (by rfl) sc_l_right.nd rfl rfl (by decide) rfl rfl (pa_cons (pe_makeC T.mk_Link G_Link__init (hr.mono (by decide)) T.g_Link (pa_cons (pv 1) pa_nil)) (pa_cons (pe_makeC T.mk_Link G_Link__init (hr.mono (by decide)) T.g_Link (pa_cons (pv 2) pa_nil)) pa_nil)) (by rfl))
      (pss_cons (ps_par (i := 5) (j := 6) (by rfl) sc_l_right.nd rfl rfl (by decide) rfl rfl (pa_cons (pe_op (op_own T.m_Link___mul__ (by decide +kernel) T.sf_Link F_Link__mul (hr.mono (by decide)) b_Link__mul) (pv 3) (pv 4)) (pa_cons (pe_op (op_own T.m_Link___or__ (by decide +kernel) T.sf_Link F_Link__or (hr.mono (by decide)) b_Link__or) (pv 3) (pv 4)) pa_nil)) (by rfl))
      (pss_cons (ps_par (i := 7) (j := 8) (by rfl) sc_l_right.nd rfl rfl (by decide) rfl rfl (pa_cons (pe_op (op_own T.m_Link___and__ (by decide +kernel) T.sf_Link F_Link__and (hr.mono (by decide)) b_Link__and) (pv 3) (pv 4)) (pa_cons (pe_un (un_own_inv T.m_Link___invert__ F_Link__invert (hr.mono (by decide)) b_Link__invert) (pv 3)) pa_nil)) (by rfl))
      (pss_cons (ps_for PassesOwn.never rfl (pi_range1 rfl T.b_range (pa_cons pe_int pa_nil)) (pg_name (i := 9) sc_l_right.nd rfl (Or.inl rfl)) (pss_cons (ps_set (i := 10) sc_l_right.nd rfl (Or.inl rfl) (pe_callC G_l_moment (hr.mono (by decide)) T.g__law_moment (pa_cons (pv 0) (pa_cons pe_int pa_nil))))
      (pss_cons (ps_set (i := 11) sc_l_right.nd rfl (Or.inl rfl) (pe_tup (pa_cons (pe_callC G_l_end (hr.mono (by decide)) T.g__law_end (pa_cons (pv 1) (pa_cons (pv 10) pa_nil))) (pa_cons (pe_callC G_l_end (hr.mono (by decide)) T.g__law_end (pa_cons (pv 2) (pa_cons (pv 10) pa_nil))) pa_nil))))
      (pss_cons (ps_set (i := 12) sc_l_right.nd rfl (Or.inl rfl) (pe_tup (pa_cons (pe_callC G_l_begin (hr.mono (by decide)) T.g__law_begin (pa_cons (pv 1) (pa_cons (pv 10) pa_nil))) (pa_cons (pe_callC G_l_begin (hr.mono (by decide)) T.g__law_begin (pa_cons (pv 2) (pa_cons (pv 10) pa_nil))) pa_nil))))
      (pss_cons (ps_if (pt_cmpR op_ne (pe_meth (pv 5) T.cl_Link T.m_Link_end F_Link_end (hr.mono (by decide)) b_Link_end .nil pass0 (pa_cons (pv 10) pa_nil)) (pe_callC G_l_end (hr.mono (by decide)) T.g__law_end (pa_cons (pv 2) (pa_cons (pe_ix ix_tup (pv 11) pe_int (fun _ _ => rfl)) pa_nil))) (nomark _)) (pss_one (ps_ret pe_bl)) pss_nil)
      (pss_cons (ps_if (pt_cmpR op_ne (pe_meth (pv 5) T.cl_Link T.m_Link_begin F_Link_begin (hr.mono (by decide)) b_Link_begin .nil pass0 (pa_cons (pv 10) pa_nil)) (pe_callC G_l_begin (hr.mono (by decide)) T.g__law_begin (pa_cons (pv 1) (pa_cons (pe_ix ix_tup (pv 12) pe_int (fun _ _ => rfl)) pa_nil))) (nomark _)) (pss_one (ps_ret pe_bl)) pss_nil)
      (pss_cons (ps_par (i := 13) (j := 14) (by rfl) sc_l_right.nd rfl rfl (by decide) rfl rfl (pa_cons (pe_callC G_l_sooner (hr.mono (by decide)) T.g__law_sooner (pa_cons (pe_ix ix_tup (pv 11) pe_int (fun _ _ => rfl)) (pa_cons (pe_ix ix_tup (pv 11) pe_int (fun _ _ => rfl)) pa_nil))) (pa_cons (pe_callC G_l_later (hr.mono (by decide)) T.g__law_later (pa_cons (pe_ix ix_tup (pv 11) pe_int (fun _ _ => rfl)) (pa_cons (pe_ix ix_tup (pv 11) pe_int (fun _ _ => rfl)) pa_nil))) pa_nil)) (by rfl))
      (pss_cons (ps_if (PW.pt (pw_or (pt_cmpR op_ne (pe_meth (pv 6) T.cl_Link T.m_Link_end F_Link_end (hr.mono (by decide)) b_Link_end .nil pass0 (pa_cons (pv 10) pa_nil)) (pv 13) (nomark _)) (pw_or1 (pt_cmpR op_ne (pe_meth (pv 7) T.cl_Link T.m_Link_end F_Link_end (hr.mono (by decide)) b_Link_end .nil pass0 (pa_cons (pv 10) pa_nil)) (pv 14) (nomark _))))) (pss_one (ps_ret pe_bl)) pss_nil)
      (pss_cons (ps_par (i := 13) (j := 14) (by rfl) sc_l_right.nd rfl rfl (by decide) rfl rfl (pa_cons (pe_callC G_l_sooner (hr.mono (by decide)) T.g__law_sooner (pa_cons (pe_ix ix_tup (pv 12) pe_int (fun _ _ => rfl)) (pa_cons (pe_ix ix_tup (pv 12) pe_int (fun _ _ => rfl)) pa_nil))) (pa_cons (pe_callC G_l_later (hr.mono (by decide)) T.g__law_later (pa_cons (pe_ix ix_tup (pv 12) pe_int (fun _ _ => rfl)) (pa_cons (pe_ix ix_tup (pv 12) pe_int (fun _ _ => rfl)) pa_nil))) pa_nil)) (by rfl))
      (pss_cons (ps_if (PW.pt (pw_or (pt_cmpR op_ne (pe_meth (pv 6) T.cl_Link T.m_Link_begin F_Link_begin (hr.mono (by decide)) b_Link_begin .nil pass0 (pa_cons (pv 10) pa_nil)) (pv 14) (nomark _)) (pw_or1 (pt_cmpR op_ne (pe_meth (pv 7) T.cl_Link T.m_Link_begin F_Link_begin (hr.mono (by decide)) b_Link_begin .nil pass0 (pa_cons (pv 10) pa_nil)) (pv 13) (nomark _))))) (pss_one (ps_ret pe_bl)) pss_nil)
      (pss_cons (ps_set (i := 15) sc_l_right.nd rfl (Or.inl rfl) (pe_callC G_l_turned (hr.mono (by decide)) T.g__law_turned (pa_cons (pv 10) pa_nil)))
      (pss_cons (ps_if (pt_cmpR op_ne (pe_meth (pv 8) T.cl_Link T.m_Link_end F_Link_end (hr.mono (by decide)) b_Link_end .nil pass0 (pa_cons (pv 10) pa_nil)) (pe_callC G_l_turned (hr.mono (by decide)) T.g__law_turned (pa_cons (pe_callC G_l_begin (hr.mono (by decide)) T.g__law_begin (pa_cons (pv 1) (pa_cons (pv 15) pa_nil))) pa_nil)) (nomark _)) (pss_one (ps_ret pe_bl)) pss_nil)
      (pss_one (ps_if (pt_cmpR op_ne (pe_meth (pv 8) T.cl_Link T.m_Link_begin F_Link_begin (hr.mono (by decide)) b_Link_begin .nil pass0 (pa_cons (pv 10) pa_nil)) (pe_callC G_l_turned (hr.mono (by decide)) T.g__law_turned (pa_cons (pe_callC G_l_end (hr.mono (by decide)) T.g__law_end (pa_cons (pv 1) (pa_cons (pv 15) pa_nil))) pa_nil)) (nomark _)) (pss_one (ps_ret pe_bl)) pss_nil))))))))))))))
      (pss_cons (ps_set (i := 14) sc_l_right.nd rfl (Or.inl rfl) (pe_lst pa_nil))
      (pss_cons (ps_for PassesOwn.never rfl (pi_list (pv 2)) (pg_tup (by rfl) (pgs_cons (pg_name (i := 16) sc_l_right.nd rfl (Or.inl rfl)) (pgs_cons (pg_name (i := 17) sc_l_right.nd rfl (Or.inl rfl)) pgs_nil))) (pss_one (ps_if (pt_cmpR op_gt (pe_callC G_l_place (hr.mono (by decide)) T.g__law_place (pa_cons (pe_callC G_l_end (hr.mono (by decide)) T.g__law_end (pa_cons (pv 1) (pa_cons (pv 16) pa_nil))) pa_nil)) (pe_callC G_l_place (hr.mono (by decide)) T.g__law_place (pa_cons (pe_callC G_l_end (hr.mono (by decide)) T.g__law_end (pa_cons (pv 2) (pa_cons (pv 16) pa_nil))) pa_nil)) (nomark _)) (pss_one (ps_expr (pe_bm PySem.F.plainAttrs_list PySem.F.slot_list_append PySem.F.type_list_append mt_append (pv 14) (pa_cons (pv 16) pa_nil)))) pss_nil)))
      (pss_one (ps_ret (pe_and (pe_cmpR op_eq (pe_cmpR (op_own_le T.m_Link___le__ F_Link__le (hr.mono (by decide)) b_Link__le) (pv 3) (pv 4) (nomark _)) (pe_cmpR (op_eqNil hr.units) (pv 14) (pe_lst pa_nil) (nomark _)) (nomark _)) (pe_and (pe_cmpR (op_own_eq T.m_Link___eq__ F_Link__eq (hr.mono (by decide)) b_Link__eq) (pe_un (un_own_inv T.m_Link___invert__ F_Link__invert (hr.mono (by decide)) b_Link__invert) (pv 8)) (pv 3) (nomark _)) (pe_and (pe_cmpR (op_own_eq T.m_Link___eq__ F_Link__eq (hr.mono (by decide)) b_Link__eq) (pv 3) (pe_makeC T.mk_Link G_Link__init (hr.mono (by decide)) T.g_Link (pa_cons (pv 1) pa_nil)) (nomark _)) (pe_one (pe_cmpR (op_own_eq T.m_Link___eq__ F_Link__eq (hr.mono (by decide)) b_Link__eq) (pv 4) (pe_makeC T.mk_Link G_Link__init (hr.mono (by decide)) T.g_Link (pa_cons (pv 2) pa_nil)) (nomark _)))))))))))))), ?_⟩
    refine ⟨_, rfl, ?_⟩
    intro xa dxa hxa hdxa nea
    refine ⟨I, false, xa, dxa, v1, rs, rfl, upd_same, dr.sub.free hxa, hL1, by omega, vr, (grow_made (T := No) dr.sub hxa hdxa nea).sub, fun na ta IA HA gA hA hua hna => ⟨rfl, ?_⟩⟩
    obtain ⟨JA, g1, lA, d1⟩ := link_made dr hxa hdxa nea gA hA hua
    refine ⟨_, rfl, ?_⟩
    intro xb dxb hxb hdxb neb
    refine ⟨JA, false, xb, dxb, v2, os, rfl, upd_same, d1.sub.free hxb, hL2.up g1.view, by omega, vo, (grow_made (T := No) d1.sub hxb hdxb neb).sub, fun nb tb IB HB gB hB hub hnb => ⟨rfl, ?_⟩⟩
    obtain ⟨JB, g2, lB, d2⟩ := link_made d1 hxb hdxb neb gB hB hub
    have g12 := g1.trans g2
    replace lA := lA.up g2.view
    have okA : LinkOK na 20 := linkOK_of hna vr sr l1
    have okB : LinkOK nb 20 := linkOK_of hnb vo so l2
    refine ⟨_, _, rfl, ?_⟩
    refine ⟨_, rfl, _, rfl, mulA lA lB d2.sub okA okB (by decide) (by decide) fun nc pc I3 H3 g3 lC hnc okC => ?_⟩
    have d3 := d2.grow g3
    refine ⟨_, rfl, _, rfl, orA (lA.up g3.view) (lB.up g3.view) d3.sub okA okB (by decide) fun nq pq I4 H4 g4 lQ hnq okQ => ?_⟩
    have d4 := d3.grow g4
    have g34 := g3.trans g4
    refine ⟨_, _, rfl, ?_⟩
    refine ⟨_, rfl, _, rfl, andA (lA.up g34.view) (lB.up g34.view) d4.sub okA okB (by decide) fun nw pw I5 H5 g5 lW hnw okW => ?_⟩
    have d5 := d4.grow g5
    have g35 := g34.trans g5
    refine ⟨_, rfl, invA (lA.up g35.view) d5.sub okA (by decide) fun ni pi I6 H6 g6 lI hni okI => ?_⟩
    have d6 := d5.grow g6
    have g36 := g35.trans g6
    refine ⟨_, _, rfl, ?_⟩
    replace lA := lA.up g36.view
    replace lB := lB.up g36.view
    replace lC := lC.up ((g4.trans g5).trans g6).view
    replace lQ := lQ.up (g5.trans g6).view
    replace lW := lW.up g6.view
    have gg := g12.trans g36.no
    have hL1' := hL1.up gg.view
    have hL2' := hL2.up gg.view
    obtain ⟨da, ta', hAa⟩ := lA.at_
    obtain ⟨db, tb', hBb⟩ := lB.at_
    obtain ⟨dc, tc, hCc⟩ := lC.at_
    obtain ⟨dq, tq, hQq⟩ := lQ.at_
    obtain ⟨dw, tw, hWw⟩ := lW.at_
    obtain ⟨di, ti, hIi⟩ := lI.at_
    have fA := okA.few
    have fB := okB.few
    have fC := okC.few
    have fQ := okQ.few
    have fW := okW.few
    have fI := okI.few
    refine ⟨6, rfl, by decide, by decide, ?_⟩
    refine for_it (walk_range (lo := 0) (n := 6)) (fun i σ H' => ∃ (I' : Hp) (u9 u10 u11 u12 u13 u14 u15 u16 u17 : Option V), σ = [some (.ref D.d), some v1, some v2, some (.ref xa), some (.ref xb), some (.ref pc), some (.ref pq), some (.ref pw), some (.ref pi), u9, u10, u11, u12, u13, u14, u15, u16, u17] ∧ Grow (TD D) I6 H6 I' H' ∧ Drw D (n + 6 * i) I' H')
      ⟨I6, none, none, none, none, none, none, none, none, none, rfl, Grow.refl d6.sub, d6⟩ (fun _ _ _ _ _ => trivial) ?_ ?_
    · rintro i x σ H7 H7' hi ⟨I7, u9, u10, u11, u12, u13, u14, u15, u16, u17, rfl, g7, d7⟩ ⟨rfl, rfl⟩
      refine ⟨_, rfl, I7, D, n + 6 * i, 30, rfl, d7, by omega, by decide, by decide, fun m I8 H8 hm g8 d8 => ?_⟩
      have v8 := g7.view.trans g8.view
      -- the ends
      refine ⟨_, rfl, _, rfl, I8, v1, rs, m, rfl, hL1'.up v8, by omega, d8.sub, fun x1 I9 H9 g9 hx1 => ?_⟩
      obtain rfl := isEnd_eq hna hx1
      have d9 := d8.grow g9
      have v9 := v8.trans g9.view
      refine ⟨_, rfl, _, rfl, I9, v2, os, m, rfl, hL2'.up v9, by omega, d9.sub, fun x2 I10 H10 g10 hx2 => ?_⟩
      obtain rfl := isEnd_eq hnb hx2
      have d10 := d9.grow g10
      have v10 := v9.trans g10.view
      refine ⟨(by show 2 ≤ sizeLine; decide), fun pe hpe => ?_⟩
      have g11 : Grow No I10 H10 _ (upd H10 pe (.tup [(endedL na m).v, (endedL nb m).v])) := Grow.new d10.sub hpe
      have d11 := d10.grow g11
      have v11 := v10.trans g11.view
      have tE : upd I10 pe (.tup [(endedL na m).v, (endedL nb m).v]) pe = some (.tup [(endedL na m).v, (endedL nb m).v]) := upd_same
      revert g11 d11 v11 tE
      generalize upd I10 pe (.tup [(endedL na m).v, (endedL nb m).v]) = I11
      generalize upd H10 pe (.tup [(endedL na m).v, (endedL nb m).v]) = H11
      intro g11 d11 v11 tE
      -- the begins
      refine ⟨_, rfl, _, rfl, I11, v1, rs, m, rfl, hL1'.up v11, by omega, d11.sub, fun x1 I12 H12 g12 hx1 => ?_⟩
      obtain rfl := isBegin_eq hna hx1
      have d12 := d11.grow g12
      have v12 := v11.trans g12.view
      refine ⟨_, rfl, _, rfl, I12, v2, os, m, rfl, hL2'.up v12, by omega, d12.sub, fun x2 I13 H13 g13 hx2 => ?_⟩
      obtain rfl := isBegin_eq hnb hx2
      have d13 := d12.grow g13
      have v13 := v12.trans g13.view
      refine ⟨(by show 2 ≤ sizeLine; decide), fun pb hpb => ?_⟩
      have g14 : Grow No I13 H13 _ (upd H13 pb (.tup [(begunL na m).v, (begunL nb m).v])) := Grow.new d13.sub hpb
      have d14 := d13.grow g14
      have v14 := v13.trans g14.view
      have tB : upd I13 pb (.tup [(begunL na m).v, (begunL nb m).v]) pb = some (.tup [(begunL na m).v, (begunL nb m).v]) := upd_same
      replace tE := (g12.trans (g13.trans g14)).view _ _ tE
      have g714 := (g7.trans g8).trans ((g9.trans (g10.trans (g11.trans (g12.trans (g13.trans g14))))).no)
      revert g14 d14 v14 tB tE g714
      generalize upd I13 pb (.tup [(begunL na m).v, (begunL nb m).v]) = I14
      generalize upd H13 pb (.tup [(begunL na m).v, (begunL nb m).v]) = H14
      intro g14 d14 v14 tB tE g714
      have sma := small_ended okA.small m hm
      have smb := small_ended okB.small m hm
      have sba := small_begun okA.small m hm
      have sbb := small_begun okB.small m hm
      -- chained
      refine ⟨_, rfl, pc, dc, _, rfl, d14.sub _ _ (v14 _ _ hCc), rfl, _, rfl, I14, _, nc, m, rfl, lC.up v14, by omega, d14.sub, fun I15 H15 g15 => ?_⟩
      have d15 := d14.grow g15
      have v15 := v14.trans g15.view
      refine ⟨_, rfl, _, rfl, pe, _, 0, (endedL na m).v, rfl, rfl, SqT.of (d15.sub _ _ (g15.view _ _ tE)), (by rw [atI_nat' (j := 0) (by decide)]; rfl), I15, v2, os, endedL na m, rfl, hL2'.up v15, by omega, d15.sub, fun x I16 H16 g16 hx => ?_⟩
      obtain rfl := isEnd_eq hnb hx
      refine ⟨Mom.scal _ _, false, by rw [end_mul okA.asc okB.asc hnc, decide_eq_true rfl] <;> rfl, iteF ?_⟩
      have d16 := d15.grow g16
      have v16 := v15.trans g16.view
      refine ⟨_, rfl, pc, dc, _, rfl, d16.sub _ _ (v16 _ _ hCc), rfl, _, rfl, I16, _, nc, m, rfl, lC.up v16, by omega, d16.sub, fun I17 H17 g17 => ?_⟩
      have d17 := d16.grow g17
      have v17 := v16.trans g17.view
      have g1417 := g15.trans (g16.trans g17)
      replace tE := g1417.view _ _ tE
      replace tB := g1417.view _ _ tB
      refine ⟨_, rfl, _, rfl, pb, _, 1, (begunL nb m).v, rfl, rfl, SqT.of (d17.sub _ _ tB), (by rw [atI_nat' (j := 1) (by decide)]; rfl), I17, v1, rs, begunL nb m, rfl, hL1'.up v17, by omega, d17.sub, fun x I18 H18 g18 hx => ?_⟩
      obtain rfl := isBegin_eq hna hx
      refine ⟨Mom.scal _ _, false, by rw [begin_mul okA.asc okB.asc hnc, decide_eq_true rfl] <;> rfl, iteF ?_⟩
      have d18 := d17.grow g18
      have v18 := v17.trans g18.view
      replace tE := g18.view _ _ tE
      replace tB := g18.view _ _ tB
      -- the quicker, the slower one: ends
      refine ⟨_, rfl, pe, _, 0, (endedL na m).v, rfl, rfl, SqT.of (d18.sub _ _ tE), (by rw [atI_nat' (j := 0) (by decide)]; rfl), _, rfl, pe, _, 1, (endedL nb m).v, rfl, rfl, SqT.of (d18.sub _ _ tE), (by rw [atI_nat' (j := 1) (by decide)]; rfl), endedL na m, endedL nb m, rfl, ?_⟩
      refine ⟨_, rfl, pe, _, 0, (endedL na m).v, rfl, rfl, SqT.of (d18.sub _ _ tE), (by rw [atI_nat' (j := 0) (by decide)]; rfl), _, rfl, pe, _, 1, (endedL nb m).v, rfl, rfl, SqT.of (d18.sub _ _ tE), (by rw [atI_nat' (j := 1) (by decide)]; rfl), endedL na m, endedL nb m, rfl, ?_⟩
      refine ⟨_, _, rfl, ?_⟩
      refine ⟨_, rfl, pq, dq, _, rfl, d18.sub _ _ (v18 _ _ hQq), rfl, _, rfl, I18, _, nq, m, rfl, lQ.up v18, by omega, d18.sub, fun I19 H19 g19 => ?_⟩
      have d19 := d18.grow g19
      have v19 := v18.trans g19.view
      refine ⟨_, rfl, Mom.scal _ _, false, by rw [end_or okA.asc okB.asc okA.small okB.small hnq hm, decide_eq_true rfl] <;> rfl, iteF ?_⟩
      refine ⟨_, rfl, pw, dw, _, rfl, d19.sub _ _ (v19 _ _ hWw), rfl, _, rfl, I19, _, nw, m, rfl, lW.up v19, by omega, d19.sub, fun I20 H20 g20 => ?_⟩
      have d20 := d19.grow g20
      have v20 := v19.trans g20.view
      refine ⟨_, rfl, Mom.scal _ _, false, by rw [end_and okA.asc okB.asc okA.small okB.small hnw hm, decide_eq_true rfl] <;> rfl, iteF ?_⟩
      replace tB := (g19.trans g20).view _ _ tB
      -- their begins
      refine ⟨_, rfl, pb, _, 0, (begunL na m).v, rfl, rfl, SqT.of (d20.sub _ _ tB), (by rw [atI_nat' (j := 0) (by decide)]; rfl), _, rfl, pb, _, 1, (begunL nb m).v, rfl, rfl, SqT.of (d20.sub _ _ tB), (by rw [atI_nat' (j := 1) (by decide)]; rfl), begunL na m, begunL nb m, rfl, ?_⟩
      refine ⟨_, rfl, pb, _, 0, (begunL na m).v, rfl, rfl, SqT.of (d20.sub _ _ tB), (by rw [atI_nat' (j := 0) (by decide)]; rfl), _, rfl, pb, _, 1, (begunL nb m).v, rfl, rfl, SqT.of (d20.sub _ _ tB), (by rw [atI_nat' (j := 1) (by decide)]; rfl), begunL na m, begunL nb m, rfl, ?_⟩
      refine ⟨_, _, rfl, ?_⟩
      refine ⟨_, rfl, pq, dq, _, rfl, d20.sub _ _ (v20 _ _ hQq), rfl, _, rfl, I20, _, nq, m, rfl, lQ.up v20, by omega, d20.sub, fun I21 H21 g21 => ?_⟩
      have d21 := d20.grow g21
      have v21 := v20.trans g21.view
      refine ⟨_, rfl, Mom.scal _ _, false, by rw [begin_or okA.asc okB.asc okA.small okB.small hnq hm, decide_eq_true rfl] <;> rfl, iteF ?_⟩
      refine ⟨_, rfl, pw, dw, _, rfl, d21.sub _ _ (v21 _ _ hWw), rfl, _, rfl, I21, _, nw, m, rfl, lW.up v21, by omega, d21.sub, fun I22 H22 g22 => ?_⟩
      have d22 := d21.grow g22
      have v22 := v21.trans g22.view
      refine ⟨_, rfl, Mom.scal _ _, false, by rw [begin_and okA.asc okB.asc okA.small okB.small hnw hm, decide_eq_true rfl] <;> rfl, iteF ?_⟩
      -- turned about
      refine ⟨_, rfl, I22, m, rfl, d22.sub, fun I23 H23 g23 => ?_⟩
      have d23 := d22.grow g23
      have v23 := v22.trans g23.view
      refine ⟨_, rfl, pi, di, _, rfl, d23.sub _ _ (v23 _ _ hIi), rfl, _, rfl, I23, _, ni, m, rfl, lI.up v23, by omega, d23.sub, fun I24 H24 g24 => ?_⟩
      have d24 := d23.grow g24
      have v24 := v23.trans g24.view
      refine ⟨_, rfl, _, rfl, I24, v1, rs, turnedM m, rfl, hL1'.up v24, by omega, d24.sub, fun x I25 H25 g25 hx => ?_⟩
      obtain rfl := isBegin_eq hna hx
      have d25 := d24.grow g25
      refine ⟨I25, _, rfl, d25.sub, fun I26 H26 g26 => ?_⟩
      have d26 := d25.grow g26
      have v26 := v24.trans (g25.view.trans g26.view)
      refine ⟨Mom.scal _ _, false, by rw [end_inv okA.asc hni, decide_eq_true rfl] <;> rfl, iteF ?_⟩
      refine ⟨_, rfl, pi, di, _, rfl, d26.sub _ _ (v26 _ _ hIi), rfl, _, rfl, I26, _, ni, m, rfl, lI.up v26, by omega, d26.sub, fun I27 H27 g27 => ?_⟩
      have d27 := d26.grow g27
      have v27 := v26.trans g27.view
      refine ⟨_, rfl, _, rfl, I27, v1, rs, turnedM m, rfl, hL1'.up v27, by omega, d27.sub, fun x I28 H28 g28 hx => ?_⟩
      obtain rfl := isEnd_eq hna hx
      have d28 := d27.grow g28
      refine ⟨I28, _, rfl, d28.sub, fun I29 H29 g29 => ?_⟩
      have d29 := d28.grow g29
      refine ⟨Mom.scal _ _, false, by rw [begin_inv okA.asc hni, decide_eq_true rfl] <;> rfl, iteF ?_⟩
      have gT := g714.trans ((g1417.trans (g18.trans (g19.trans (g20.trans (g21.trans (g22.trans (g23.trans (g24.trans (g25.trans (g26.trans (g27.trans (g28.trans g29))))))))))))).no
      exact ⟨I29, _, _, _, _, _, _, _, _, _, rfl, gT, d29.mono (by omega)⟩
    · rintro σ H7 ⟨I7, u9, u10, u11, u12, u13, u14, u15, u16, u17, rfl, g7, d7⟩
      -- never slower, by a look
      refine ⟨Nat.zero_le _, fun L hL => ?_⟩
      obtain ⟨a2, vs2, rfl, ha2, hp2⟩ := id hL2'
      have len2 := Nw.Paired.len hp2
      let bad : (Int × Int) → Bool := fun r => decide (placeM (endedL nb (.num r.1)) < placeM (endedL na (.num r.1)))
      have gM : Grow No I7 H7 I7 (upd H7 L (.lst [])) := Grow.mine d7.sub hL
      refine ⟨_, rfl, a2, rfl, ⟨_, SqL.of (gM.sub _ _ (g7.view _ _ ha2))⟩, ?_⟩
      refine for_it walk_list (fun i σ H' => ∃ (I' : Hp) (u9 u10 u11 u12 u13 u15 u16 u17 : Option V) (ws : List V), σ = [some (.ref D.d), some v1, some (.ref a2), some (.ref xa), some (.ref xb), some (.ref pc), some (.ref pq), some (.ref pw), some (.ref pi), u9, u10, u11, u12, u13, some (.ref L), u15, u16, u17] ∧ Grow No I7 H7 I' H' ∧ Own No H7 L (.lst ws) I' H' ∧ ws.length ≤ i ∧ (ws = [] ↔ ∀ r ∈ os.take i, bad r = false))
        ⟨I7, u9, u10, u11, u12, u13, u15, u16, u17, [], rfl, gM, Own.new d7.sub (.inl (Same.refl H7)) (fun _ z => z.elim) hL, Nat.le_refl _, by simp⟩ (fun i σ H' _ ⟨I', _, _, _, _, _, _, _, _, _, _, g, _⟩ => SqL.of (g.sub _ _ (g.view _ _ (g7.view _ _ ha2)))) ?_ ?_
      · rintro i y σ H8 H8' hi ⟨I8, u9, u10, u11, u12, u13, u15, u16, u17, ws, rfl, g8, ow, hlw, hbad⟩ ⟨rfl, hy⟩
        obtain ⟨r, hr, c, w1, w2, rfl, hc, h1, h2⟩ := Nw.Paired.at' hp2 hy
        cases h1
        cases h2
        have v8 := g7.view.trans g8.view
        refine ⟨c, _, rfl, SqT.of (g8.sub _ _ (v8 _ _ hc)), rfl, _, _, rfl, _, _, rfl, rfl, ?_⟩
        refine ⟨_, rfl, _, rfl, I8, v1, rs, .num r.1, rfl, hL1'.up v8, by omega, g8.sub, fun x1 I9 H9 g9 hx1 => ?_⟩
        obtain rfl := isEnd_eq hna hx1
        have v9 := v8.trans g9.view
        refine ⟨_, rfl, _, rfl, _, rfl, I9, .ref a2, os, .num r.1, rfl, hL2'.up v9, by omega, g9.sub, fun x2 I10 H10 g10 hx2 => ?_⟩
        obtain rfl := isEnd_eq hnb hx2
        refine ⟨_, rfl, _, _, rfl, rfl, _, rfl, ?_⟩
        have ow2 := ow.grow (g9.trans g10)
        have gx := g8.trans (g9.trans g10)
        refine ite2 (fun c => ?_) (fun c => ?_)
        · refine ⟨_, rfl, .inl ⟨rfl, _, SqL.of ow2.at_⟩, _, rfl, L, ws, _, rfl, rfl, ow2.at_, by rw [sizeLine_eq]; omega, ?_⟩
          refine ⟨I10, _, _, _, _, _, _, _, _, ws ++ [.int r.1], rfl, gx.put ow2, ow2.put, by simp; omega, ?_⟩
          refine ⟨fun z => absurd z (by simp), fun z => ?_⟩
          have := z r ((mem_take hr).mpr (.inr rfl))
          exact absurd c (by rw [show decide _ = bad r from rfl, this]; decide)
        · refine ⟨I10, _, _, _, _, _, _, _, _, ws, rfl, gx, ow2, by omega, ?_⟩
          rw [hbad]
          refine ⟨fun z q hq => ?_, fun z q hq => z q ((mem_take hr).mpr (.inl hq))⟩
          rcases (mem_take hr).mp hq with hq | rfl
          · exact z q hq
          · exact Bool.eq_false_iff.mpr c
      · rintro σ H8 ⟨I8, u9, u10, u11, u12, u13, u15, u16, u17, ws, rfl, g8, ow, hlw, hbad⟩
        have v8 := g7.view.trans g8.view
        have d8 := d7.grow g8
        rw [show os.take vs2.length = os from by rw [len2, List.take_length]] at hbad
        -- one <= two
        obtain ⟨dxa, txa, hXA⟩ := (lA.up v8).at_
        refine ⟨_, rfl, _, rfl, xa, xb, _, _, _, _, rfl, rfl, d8.sub _ _ (v8 _ _ hAa), d8.sub _ _ (v8 _ _ hBb), I8, _, _, na, nb, rfl, lA.up v8, lB.up v8, by omega, by omega, d8.sub, fun I9 H9 g9 => ⟨_, rfl, ?_⟩⟩
        have ow9 := ow.grow g9
        refine ⟨_, rfl, by decide, fun q hq => ⟨L, q, _, rfl, rfl, SqL.of (by rw [upd_ne (ne_of_none ow9.at_ hq)]; exact ow9.at_), SqL.of upd_same, ?_⟩⟩
        have gq : Grow No I9 H9 I9 (upd H9 q (.lst [])) := Grow.mine (d8.grow g9).sub hq
        have d10 := (d8.grow g9).grow gq
        have v9 := v8.trans g9.view
        have e1 : decide (V.bl (leB na nb) = V.bl ws.isEmpty) = true := by
          have z : leB na nb = ws.isEmpty := by
            rw [Bool.eq_iff_iff, leB_iff okA.asc hnb, List.isEmpty_iff, hbad]
            refine forall_congr' fun r => forall_congr' fun hr => ?_
            have s1 := small_ended okA.small (.num r.1) (by have := (so r hr).1; simp only [smallM]; omega)
            have s2 := small_ended okB.small (.num r.1) (by have := (so r hr).1; simp only [smallM]; omega)
            rw [← place_le s1 s2]
            show _ ↔ decide _ = false
            rw [decide_eq_false_iff_not, Int.not_lt]
          rw [z, decide_eq_true rfl]
        refine ⟨rfl, ?_⟩
        rw [e1]
        refine ⟨true, rfl, iteT ?_⟩
        -- turned about twice
        refine ⟨_, rfl, invA (lI.up v9) d10.sub okI (by decide) fun n2 p2 I11 H11 g11 l11 hn11 ok11 => ?_⟩
        have e2 := inv_twice okA.asc hni hn11
        subst e2
        have d11 := d10.grow g11
        have v11 := v9.trans g11.view
        refine ⟨_, rfl, ownB_ans l11 (lA.up v11) d11.sub ⟨I11, _, _, n2, n2, rfl, l11, lA.up v11, d11.sub, _, rfl, ?_⟩⟩
        rw [decide_eq_true rfl]
        refine ⟨true, rfl, iteT ?_⟩
        -- the links are as they were
        refine ⟨_, rfl, _, rfl, ?_⟩
        intro xc dxc hxc hdxc nec
        refine ⟨I11, false, xc, dxc, v1, rs, rfl, upd_same, d11.sub.free hxc, hL1'.up v11, by omega, vr, (grow_made (T := No) d11.sub hxc hdxc nec).sub, fun n4 t4 I12 H12 g12' h12 hu12 hn12 => ⟨rfl, ?_⟩⟩
        obtain ⟨J12, g12b, l12, d12⟩ := link_made d11 hxc hdxc nec g12' h12 hu12
        obtain rfl := needed_uniq hna hn12
        have v12 := v11.trans g12b.view
        refine ownB_ans (lA.up v12) l12 d12.sub ⟨J12, _, _, n2, n2, rfl, lA.up v12, l12, d12.sub, _, rfl, ?_⟩
        rw [decide_eq_true rfl]
        refine ⟨true, rfl, iteT ?_⟩
        refine ⟨_, rfl, _, rfl, ?_⟩
        intro xd dxd hxd hdxd ned
        refine ⟨J12, false, xd, dxd, .ref a2, os, rfl, upd_same, d12.sub.free hxd, hL2'.up v12, by omega, vo, (grow_made (T := No) d12.sub hxd hdxd ned).sub, fun n5 t5 I13 H13 g13' h13 hu13 hn13 => ⟨rfl, ?_⟩⟩
        obtain ⟨J13, g13b, l13, d13⟩ := link_made d12 hxd hdxd ned g13' h13 hu13
        obtain rfl := needed_uniq hnb hn13
        have v13 := v12.trans g13b.view
        refine ownB_ans (lB.up v13) l13 d13.sub ⟨J13, _, _, nb, nb, rfl, lB.up v13, l13, d13.sub, _, rfl, ?_⟩
        rw [decide_eq_true rfl]
        exact k J13 _ (gg.trans (g7.trans ((g8.trans (g9.trans (gq.trans g11))).no.trans (g12b.trans g13b)))) (d13.mono (by omega))
theorem okR_of {rs : Rides} (h : ∀ r ∈ rs, r.1 ≤ r.2 ∧ r.1.natAbs < 5000000 ∧ r.2.natAbs < 5000000) : okR rs := ⟨fun r hr => (h r hr).1, fun r hr => by have := h r hr; omega⟩
theorem ok_law (T : Txt K mg) {fd : FuncData} (F : FunD K "law" "law" (defArgs s_law) (defBody s_law) (defScope s_law) [] [] (He.ga K "law") fd) (G_l_begun : Ok P w K mg base CX0 1 (He.ga K "_law_begun") ["_law_script"] (sp_l_begun K)) (G_l_next : Ok P w K mg base CX0 1 (He.ga K "_law_next") ["_law_draw", "_law_many"] (sp_l_next K)) (G_l_rides : Ok P w K mg base CX0 2 (He.ga K "_law_rides") ["_law_draw", "_law_many", "_law_wide_here"] (sp_l_rides K)) (G_l_pick : Ok P w K mg base CX0 2 (He.ga K "_law_pick") ["_law_draw", "_law_some"] (sp_l_pick K)) (G_l_right : Ok P w K mg base CX0 8 (He.ga K "_law_right") ["_law_draw", "_law_rides_here", "_law_others"] (sp_l_right K)) (G_l_wide : Ok P w K mg base CX0 7 (He.ga K "_law_wide") ["_law_many", "_law_more", "_law_shift"] (sp_l_wide K)) (G_l_slow : Ok P w K mg base CX0 7 (He.ga K "_law_slow") ["_law_many", "_law_more"] (sp_l_slow K)) (G_Link__init : Ok P w K mg base CX0 3 (He.ma K (He.ga K "Link") "__init__") ["self", "rides"] (sp_Link__init K)) (G_Link__eq : Ok P w K mg base CX0 1 (He.ma K (He.ga K "Link") "__eq__") ["self", "other"] (sp_Link__eq K)) (G_Link__le : Ok P w K mg base CX0 3 (He.ma K (He.ga K "Link") "__le__") ["self", "other"] (sp_Link__le K)) (G_Link__mul : Ok P w K mg base CX0 6 (He.ma K (He.ga K "Link") "__mul__") ["self", "other"] (sp_Link__mul K)) (G_Link__or : Ok P w K mg base CX0 6 (He.ma K (He.ga K "Link") "__or__") ["self", "other"] (sp_Link__or K)) (G_Link__and : Ok P w K mg base CX0 6 (He.ma K (He.ga K "Link") "__and__") ["self", "other"] (sp_Link__and K)) (G_Link__invert : Ok P w K mg base CX0 6 (He.ma K (He.ga K "Link") "__invert__") ["self"] (sp_Link__invert K)) : FnOk P w K mg base CX0 9 (He.ga K "law") fd ["_law_script"] (sp_law K) := by
  obtain ⟨fd_Link__eq, F_Link__eq, b_Link__eq, _⟩ := G_Link__eq.ok
  obtain ⟨fd_Link__le, F_Link__le, b_Link__le, _⟩ := G_Link__le.ok
  obtain ⟨fd_Link__mul, F_Link__mul, b_Link__mul, _⟩ := G_Link__mul.ok
  obtain ⟨fd_Link__or, F_Link__or, b_Link__or, _⟩ := G_Link__or.ok
  obtain ⟨fd_Link__and, F_Link__and, b_Link__and, _⟩ := G_Link__and.ok
  obtain ⟨fd_Link__invert, F_Link__invert, b_Link__invert, _⟩ := G_Link__invert.ok
  refine okd_of F sc_law (fun vs H Q E h => ?_) (fun cdv A outer s H vs Q E hr h => ?_)
  · obtain ⟨_, _, _, rfl, _⟩ := h
    rfl
  · obtain ⟨I, a, ns, rfl, sb, hS, hl, k⟩ := h
    refine ⟨_, (pss_cons (ps_set (i := 1) sc_law.nd rfl (Or.inr rfl) (pe_callC G_l_begun (hr.mono (by decide)) T.g__law_begun (pa_cons (pv 0) pa_nil)))
      (pss_cons (ps_for PassesOwn.never rfl (pi_range1 rfl T.b_range (pa_cons pe_int pa_nil)) (pg_name (i := 2) sc_law.nd rfl (Or.inl rfl)) (pss_cons (ps_par3 (i := 3) (j := 4) (l := 5) (by rfl) sc_law.nd rfl rfl rfl (by decide) (by decide) (by decide) rfl rfl rfl (pa_cons (pe_callC G_l_rides (hr.mono (by decide)) T.g__law_rides (pa_cons (pv 1) (pa_cons pe_int (pa_cons pe_int pa_nil)))) (pa_cons (pe_callC G_l_rides (hr.mono (by decide)) T.g__law_rides (pa_cons (pv 1) (pa_cons pe_int (pa_cons pe_int pa_nil)))) (pa_cons (pe_callC G_l_rides (hr.mono (by decide)) T.g__law_rides (pa_cons (pv 1) (pa_cons pe_int (pa_cons pe_int pa_nil)))) pa_nil))) (by rfl))
      (pss_cons (ps_setLc (i := 6) (own := [("_law_begin_here", 12), ("_law_end_here", 13)]) (g := (gTup K 2 (gCons (gName 12) (gCons (gName 13) gNil)))) rfl sc_law.nd rfl rfl (sw_true rfl rfl rfl (by decide +kernel)) (pi_list (pv 3)) (blkOk_by (own := [("_law_begin_here", 12), ("_law_end_here", 13)]) (N := n_law) (sc := defScope s_law) (by decide +kernel)) (fun _ _ _ _ _ => (pg_tup (by rfl) (pgs_cons (pg_name (i := 12) sc_law.nd rfl (Or.inl rfl)) (pgs_cons (pg_name (i := 13) sc_law.nd rfl (Or.inl rfl)) pgs_nil)))) (fun _ _ _ _ _ => pts_nil) (fun _ _ _ _ _ => (pe_tup (pa_cons (pv 12) (pa_cons (pe_op op_add (pv 13) (pe_callC G_l_next (hr.mono (by decide)) T.g__law_next (pa_cons (pv 1) (pa_cons pe_int pa_nil)))) pa_nil)))))
      (pss_cons (ps_set (i := 7) sc_law.nd rfl (Or.inl rfl) (pe_callC G_l_pick (hr.mono (by decide)) T.g__law_pick (pa_cons (pv 1) (pa_cons (pe_lst (pa_cons (pv 4) (pa_cons (pe_op op_cat (pv 3) (pv 4)) (pa_cons (pv 6) pa_nil)))) pa_nil))))
      (pss_cons (ps_if (PW.pt (pw_or (pt_not (pt_val (pe_callC G_l_right (hr.mono (by decide)) T.g__law_right (pa_cons (pv 1) (pa_cons (pv 3) (pa_cons (pv 7) pa_nil)))))) (pw_or1 (pt_not (pt_val (pe_callC G_l_right (hr.mono (by decide)) T.g__law_right (pa_cons (pv 1) (pa_cons (pv 7) (pa_cons (pv 3) pa_nil))))))))) (pss_one (ps_ret pe_bl)) pss_nil)
      (pss_cons (ps_par3 (i := 8) (j := 9) (l := 10) (by rfl) sc_law.nd rfl rfl rfl (by decide) (by decide) (by decide) rfl rfl rfl (pa_cons (pe_makeC T.mk_Link G_Link__init (hr.mono (by decide)) T.g_Link (pa_cons (pv 3) pa_nil)) (pa_cons (pe_makeC T.mk_Link G_Link__init (hr.mono (by decide)) T.g_Link (pa_cons (pv 4) pa_nil)) (pa_cons (pe_makeC T.mk_Link G_Link__init (hr.mono (by decide)) T.g_Link (pa_cons (pv 5) pa_nil)) pa_nil))) (by rfl))
      (pss_cons (ps_if (PW.pt (pw_or (pt_cmpR (op_own_ne T.m_Link___eq__ T.ne_Link T.ob_Link F_Link__eq (hr.mono (by decide)) b_Link__eq) (pe_op (op_own T.m_Link___mul__ (by decide +kernel) T.sf_Link F_Link__mul (hr.mono (by decide)) b_Link__mul) (pe_op (op_own T.m_Link___mul__ (by decide +kernel) T.sf_Link F_Link__mul (hr.mono (by decide)) b_Link__mul) (pv 8) (pv 9)) (pv 10)) (pe_op (op_own T.m_Link___mul__ (by decide +kernel) T.sf_Link F_Link__mul (hr.mono (by decide)) b_Link__mul) (pv 8) (pe_op (op_own T.m_Link___mul__ (by decide +kernel) T.sf_Link F_Link__mul (hr.mono (by decide)) b_Link__mul) (pv 9) (pv 10))) (nomark _)) (pw_or1 (pt_cmpR (op_own_ne T.m_Link___eq__ T.ne_Link T.ob_Link F_Link__eq (hr.mono (by decide)) b_Link__eq) (pe_op (op_own T.m_Link___or__ (by decide +kernel) T.sf_Link F_Link__or (hr.mono (by decide)) b_Link__or) (pv 8) (pv 9)) (pe_op (op_own T.m_Link___or__ (by decide +kernel) T.sf_Link F_Link__or (hr.mono (by decide)) b_Link__or) (pv 9) (pv 8)) (nomark _))))) (pss_one (ps_ret pe_bl)) pss_nil)
      (pss_cons (ps_if (pt_cmpR (op_own_ne T.m_Link___eq__ T.ne_Link T.ob_Link F_Link__eq (hr.mono (by decide)) b_Link__eq) (pe_op (op_own T.m_Link___and__ (by decide +kernel) T.sf_Link F_Link__and (hr.mono (by decide)) b_Link__and) (pe_op (op_own T.m_Link___and__ (by decide +kernel) T.sf_Link F_Link__and (hr.mono (by decide)) b_Link__and) (pv 8) (pv 9)) (pv 10)) (pe_op (op_own T.m_Link___and__ (by decide +kernel) T.sf_Link F_Link__and (hr.mono (by decide)) b_Link__and) (pv 8) (pe_op (op_own T.m_Link___and__ (by decide +kernel) T.sf_Link F_Link__and (hr.mono (by decide)) b_Link__and) (pv 9) (pv 10))) (nomark _)) (pss_one (ps_ret pe_bl)) pss_nil)
      (pss_cons (ps_if (pt_cmpR (op_own_ne T.m_Link___eq__ T.ne_Link T.ob_Link F_Link__eq (hr.mono (by decide)) b_Link__eq) (pe_op (op_own T.m_Link___or__ (by decide +kernel) T.sf_Link F_Link__or (hr.mono (by decide)) b_Link__or) (pe_op (op_own T.m_Link___or__ (by decide +kernel) T.sf_Link F_Link__or (hr.mono (by decide)) b_Link__or) (pv 8) (pv 9)) (pv 10)) (pe_op (op_own T.m_Link___or__ (by decide +kernel) T.sf_Link F_Link__or (hr.mono (by decide)) b_Link__or) (pv 8) (pe_op (op_own T.m_Link___or__ (by decide +kernel) T.sf_Link F_Link__or (hr.mono (by decide)) b_Link__or) (pv 9) (pv 10))) (nomark _)) (pss_one (ps_ret pe_bl)) pss_nil)
      (pss_one (ps_if (PW.pt (pw_or (pt_cmpR (op_own_ne T.m_Link___eq__ T.ne_Link T.ob_Link F_Link__eq (hr.mono (by decide)) b_Link__eq) (pe_un (un_own_inv T.m_Link___invert__ F_Link__invert (hr.mono (by decide)) b_Link__invert) (pe_op (op_own T.m_Link___mul__ (by decide +kernel) T.sf_Link F_Link__mul (hr.mono (by decide)) b_Link__mul) (pv 8) (pv 9))) (pe_op (op_own T.m_Link___mul__ (by decide +kernel) T.sf_Link F_Link__mul (hr.mono (by decide)) b_Link__mul) (pe_un (un_own_inv T.m_Link___invert__ F_Link__invert (hr.mono (by decide)) b_Link__invert) (pv 9)) (pe_un (un_own_inv T.m_Link___invert__ F_Link__invert (hr.mono (by decide)) b_Link__invert) (pv 8))) (nomark _)) (pw_or (pt_not (pt_cmpR (op_own_le T.m_Link___le__ F_Link__le (hr.mono (by decide)) b_Link__le) (pe_op (op_own T.m_Link___or__ (by decide +kernel) T.sf_Link F_Link__or (hr.mono (by decide)) b_Link__or) (pv 8) (pv 9)) (pv 8) (nomark _))) (pw_or1 (pt_not (pt_cmpR (op_own_le T.m_Link___le__ F_Link__le (hr.mono (by decide)) b_Link__le) (pv 8) (pe_op (op_own T.m_Link___and__ (by decide +kernel) T.sf_Link F_Link__and (hr.mono (by decide)) b_Link__and) (pv 8) (pv 9)) (nomark _))))))) (pss_one (ps_ret pe_bl)) pss_nil)))))))))))
      (pss_cons (ps_set (i := 11) sc_law.nd rfl (Or.inl rfl) (pe_op op_add (pe_callC G_l_next (hr.mono (by decide)) T.g__law_next (pa_cons (pv 1) (pa_cons pe_int pa_nil))) pe_int))
      (pss_cons (ps_if (PW.pt (pw_or (pt_cmpR op_ne (pe_callC G_l_slow (hr.mono (by decide)) T.g__law_slow (pa_cons (pv 11) (pa_cons (pv 11) pa_nil))) (pe_op op_sub (pe_op op_mul pe_int (pv 11)) pe_int) (nomark _)) (pw_or1 (pt_cmpR op_ne (pe_callC G_l_slow (hr.mono (by decide)) T.g__law_slow (pa_cons (pe_op op_add (pv 11) pe_int) (pa_cons (pv 11) pa_nil))) (pe_op op_mul pe_int (pv 11)) (nomark _))))) (pss_one (ps_ret pe_bl)) pss_nil)
      (pss_cons (ps_if (PW.pt (pw_or (pt_cmpR op_ne (pe_callC G_l_slow (hr.mono (by decide)) T.g__law_slow (pa_cons (pe_op op_add (pv 11) pe_int) (pa_cons (pe_op op_add (pv 11) pe_int) pa_nil))) (pe_un un_neg pe_int) (nomark _)) (pw_or1 (pt_cmpR op_ne (pe_callC G_l_slow (hr.mono (by decide)) T.g__law_slow (pa_cons pe_int (pa_cons pe_int pa_nil))) pe_int (nomark _))))) (pss_one (ps_ret pe_bl)) pss_nil)
      (pss_cons (ps_set (i := 11) sc_law.nd rfl (Or.inl rfl) (pe_op op_add (pe_callC G_l_next (hr.mono (by decide)) T.g__law_next (pa_cons (pv 1) (pa_cons pe_int pa_nil))) pe_int))
      (pss_cons (ps_if (PW.pt (pw_or (pt_cmpR op_ne (pe_callC G_l_wide (hr.mono (by decide)) T.g__law_wide (pa_cons (pv 11) (pa_cons (pe_op op_sub pe_int (pv 11)) (pa_cons pe_int pa_nil)))) pe_int (nomark _)) (pw_or1 (pt_cmpR op_ne (pe_callC G_l_wide (hr.mono (by decide)) T.g__law_wide (pa_cons (pv 11) (pa_cons (pe_op op_sub pe_int (pv 11)) (pa_cons pe_int pa_nil)))) (pe_un un_neg pe_int) (nomark _))))) (pss_one (ps_ret pe_bl)) pss_nil)
      (pss_one (ps_ret (pe_and (pe_cmpR op_eq (pe_callC G_l_wide (hr.mono (by decide)) T.g__law_wide (pa_cons pe_int (pa_cons (pv 11) (pa_cons pe_int pa_nil)))) pe_int (nomark _)) (pe_one (pe_cmpR op_eq (pe_callC G_l_wide (hr.mono (by decide)) T.g__law_wide (pa_cons pe_int (pa_cons pe_int (pa_cons pe_int pa_nil)))) (pe_un un_neg pe_int) (nomark _))))))))))))), ?_⟩
    have hlim : lim = 1099511627776 := rfl
    refine ⟨_, rfl, I, a, ns, rfl, sb, hS, hl, fun D I1 H1 g1 d1 => ?_⟩
    refine ⟨3, rfl, by decide, by decide, ?_⟩
    refine for_it (walk_range (lo := 0) (n := 3)) (fun i σ H' => ∃ (I' : Hp) (v2 v3 v4 v5 v6 v7 v8 v9 v10 v11 v12 v13 : Option V), σ = [some (.ref a), some (.ref D.d), v2, v3, v4, v5, v6, v7, v8, v9, v10, v11, v12, v13] ∧ Drw D (300 * i) I' H')
      ⟨I1, none, none, none, none, none, none, none, none, none, none, none, none, rfl, d1⟩ (fun _ _ _ _ _ => trivial) ?_ ?_
    · rintro i x σ H2 H3 hi ⟨I2, v2, v3, v4, v5, v6, v7, v8, v9, v10, v11, v12, v13, rfl, d2⟩ ⟨rfl, rfl⟩
      refine ⟨_, rfl, I2, D, 300 * i, 10, 20, rfl, d2, by omega, by decide, by decide, by decide, fun ra va IA HA hra hra2 ga ila da => ?_⟩
      refine ⟨_, rfl, IA, D, _, 10, 20, rfl, da, by omega, by decide, by decide, by decide, fun rb vb IB HB hrb hrb2 gb ilb db => ?_⟩
      refine ⟨_, rfl, IB, D, _, 10, 20, rfl, db, by omega, by decide, by decide, by decide, fun rc vc IC HC hrc hrc2 gc ilc dc => ?_⟩
      refine ⟨_, _, _, rfl, ?_⟩
      have ka := okR_of hra2
      have kb := okR_of hrb2
      have kc := okR_of hrc2
      replace ila := ila.up (gb.trans gc).view
      replace ilb := ilb.up gc.view
      -- slower rides
      obtain ⟨a3, vs3, rfl, ha3, hp3⟩ := id ila
      have len3 := Nw.Paired.len hp3
      refine ⟨_, rfl, a3, rfl, ⟨_, SqL.of (dc.sub _ _ ha3)⟩, fun L hL => ?_⟩
      refine lc_gen (T := TD D) (I := IC) (β := Int × Int) walk_list (fun j => Drw D (300 * i + 132 + j)) (fun _ => Stable.drw) dc.sub dc.live hL (dc.mono (by omega)) (by omega) (fun j I' H' g r => SqL.of (r.sub _ _ (g.view _ _ ha3))) (fun _ o => ∀ q, o = some q → q.1 ≤ q.2 ∧ q.1.natAbs < 10000000 ∧ q.2.natAbs < 10000000) ?_ ?_
      · rintro j y I4 H4 H4' hj g4 d4 ⟨rfl, hy⟩ Kn Ky kn ky
        obtain ⟨r, hr, c, w1, w2, rfl, hc, h1, h2⟩ := Nw.Paired.at' hp3 hy
        cases h1
        cases h2
        have hr2 := hra2 r (List.mem_of_getElem? hr)
        refine ⟨c, _, rfl, SqT.of (d4.sub _ _ (g4.view _ _ hc)), rfl, _, _, rfl, _, _, rfl, rfl, rfl, lc_yes ?_⟩
        refine ⟨_, rfl, _, rfl, _, rfl, I4, D, _, 3, rfl, d4, by decide, by decide, by omega, fun z H5 hz0 hz1 g5 d5 => ⟨_, _, rfl, rfl, (by show 2 ≤ sizeLine; decide), fun q hq => ?_⟩⟩
        exact ky (r.1, r.2 + z) (fun q e => by cases e; dsimp only; omega) _ _ _ (g5.trans (Grow.new d5.sub hq)) (d5.grow (Grow.new d5.sub hq)) ⟨q, _, _, rfl, upd_same, rfl, rfl⟩
      · intro os I4 H4 vs4 hlen hP g4 d4 ow hp4
        have hos : (os.filterMap id).length ≤ 10 := by
          have : (os.filterMap id).length ≤ os.length := List.length_filterMap_le _ _
          omega
        have kd : okR (os.filterMap id) := by
          have z : ∀ q ∈ os.filterMap id, q.1 ≤ q.2 ∧ q.1.natAbs < 10000000 ∧ q.2.natAbs < 10000000 := fun q hq => by
            obtain ⟨o, ho, e⟩ := List.mem_filterMap.mp hq
            obtain ⟨j, hj⟩ := List.getElem?_of_mem ho
            exact hP j o hj q e
          exact ⟨fun q hq => (z q hq).1, fun q hq => (z q hq).2⟩
        have g4' := g4.give ow
        have d4' := d4.give ow
        have ild : isL (upd I4 L (.lst vs4)) (.ref L) (os.filterMap id) := ⟨L, vs4, rfl, upd_same, Paired.mono' (fun _ _ z => Rep.mono (Same.up ow.ni) z) hp4⟩
        replace ila := ila.up g4'.view
        replace ilb := ilb.up g4'.view
        replace ilc := ilc.up (g4'.view)
        revert g4' d4' ild ila ilb ilc kd hos
        generalize upd I4 L (.lst vs4) = J
        generalize os.filterMap id = rd
        intro hos kd g4' d4' ild ila ilb ilc
        -- one of three
        obtain ⟨b3, vs5, rfl, hb3, hp5⟩ := id ilb
        obtain ⟨a3', vs3', ea, ha3', hp3'⟩ := id ila
        cases ea
        have len5 := Nw.Paired.len hp5
        have len3' := Nw.Paired.len hp3'
        refine ⟨_, rfl, _, rfl, _, rfl, _, rfl, a3, b3, _, _, rfl, rfl, d4'.sub _ _ ha3', d4'.sub _ _ hb3, by rw [sizeLine_eq]; omega, fun p hp => ?_⟩
        have gp : Grow No J H4 _ (upd H4 p (.lst (vs3' ++ vs5))) := Grow.new d4'.sub hp
        have d5 := d4'.grow gp
        have ile : isL (upd J p (.lst (vs3' ++ vs5))) (.ref p) (ra ++ rb) := ⟨p, _, rfl, upd_same, Nw.Paired.app (Paired.mono' (fun _ _ z => Rep.mono gp.view z) hp3') (Paired.mono' (fun _ _ z => Rep.mono gp.view z) hp5)⟩
        replace ila := ila.up gp.view
        replace ilb := ilb.up gp.view
        replace ilc := ilc.up gp.view
        replace ild := ild.up gp.view
        revert gp d5 ile ila ilb ilc ild
        generalize upd J p (.lst (vs3' ++ vs5)) = J5
        generalize upd H4 p (.lst (vs3' ++ vs5)) = H5
        intro gp d5 ile ila ilb ilc ild
        refine ⟨_, rfl, by show 3 ≤ sizeLine; decide, fun q hq => ?_⟩
        have gq : Grow No J5 H5 J5 (upd H5 q (.lst [.ref b3, .ref p, .ref L])) := Grow.mine d5.sub hq
        have d6 := d5.grow gq
        refine ⟨J5, D, _, _, rfl, d6, by omega, .inl ⟨q, _, rfl, fun t => d5.live q t hq, upd_same, by simp, by simp, fun j x H7 hx g7 d7 => ?_⟩⟩
        have hx2 : ∃ rm, isL J5 x rm ∧ rm.length ≤ 20 ∧ okR rm := by
          rcases List.mem_cons.mp (List.mem_of_getElem? hx) with rfl | z
          · exact ⟨rb, ilb, by omega, kb⟩
          rcases List.mem_cons.mp z with rfl | z
          · refine ⟨ra ++ rb, ile, by simp; omega, ?_, ?_⟩
            · intro r hr
              rcases List.mem_append.mp hr with h | h
              · exact ka.1 r h
              · exact kb.1 r h
            · intro r hr
              rcases List.mem_append.mp hr with h | h
              · exact ka.2 r h
              · exact kb.2 r h
          · rw [List.mem_singleton] at z
            subst z
            exact ⟨rd, ild, by omega, kd⟩
        obtain ⟨rm, ilm, hm, km⟩ := hx2
        refine ⟨_, rfl, _, rfl, _, rfl, J5, D, _, _, x, ra, rm, rfl, d7, by omega, ila, ilm, by omega, hm, ka, km, d7.sub, fun I8 H8 g8 d8 => ⟨true, rfl, iteF ?_⟩⟩
        refine ⟨_, rfl, _, rfl, _, rfl, I8, D, _, x, _, rm, ra, rfl, d8, by omega, ilm.up g8.view, ila.up g8.view, hm, by omega, km, ka, d8.sub, fun I9 H9 g9 d9 => ⟨true, rfl, iteF ?_⟩⟩
        have v9 := g8.view.trans g9.view
        replace ila := ila.up v9
        replace ilb := ilb.up v9
        replace ilc := ilc.up v9
        -- three links
        refine ⟨_, rfl, ?_⟩
        intro xa dxa hxa hdxa nea
        refine ⟨I9, false, xa, dxa, _, ra, rfl, upd_same, d9.sub.free hxa, ila, by omega, ka.1, (grow_made (T := No) d9.sub hxa hdxa nea).sub, fun na ta IA2 HA2 gA hA hua hna => ⟨rfl, ?_⟩⟩
        obtain ⟨JA, ga2, lA, dA⟩ := link_made d9 hxa hdxa nea gA hA hua
        refine ⟨_, rfl, ?_⟩
        intro xb dxb hxb hdxb neb
        refine ⟨JA, false, xb, dxb, _, rb, rfl, upd_same, dA.sub.free hxb, ilb.up ga2.view, by omega, kb.1, (grow_made (T := No) dA.sub hxb hdxb neb).sub, fun nb tb IB2 HB2 gB hB hub hnb => ⟨rfl, ?_⟩⟩
        obtain ⟨JB, gb2, lB, dB⟩ := link_made dA hxb hdxb neb gB hB hub
        refine ⟨_, rfl, ?_⟩
        intro xc dxc hxc hdxc nec
        refine ⟨JB, false, xc, dxc, _, rc, rfl, upd_same, dB.sub.free hxc, ilc.up (ga2.trans gb2).view, by omega, kc.1, (grow_made (T := No) dB.sub hxc hdxc nec).sub, fun nc tc IC2 HC2 gC hC huc hnc => ⟨rfl, ?_⟩⟩
        obtain ⟨J, gc2, lC, d10⟩ := link_made dB hxc hdxc nec gC hC huc
        refine ⟨_, _, _, rfl, ?_⟩
        replace lA := lA.up (gb2.trans gc2).view
        replace lB := lB.up gc2.view
        have okA : LinkOK na 10 := linkOK_of hna ka.1 ka.2 hra
        have okB : LinkOK nb 10 := linkOK_of hnb kb.1 kb.2 hrb
        have okC : LinkOK nc 10 := linkOK_of hnc kc.1 kc.2 hrc
        -- products are associative
        refine ⟨_, rfl, _, rfl, mulA lA lB d10.sub okA okB (by decide) (by decide) fun n1 p1 J1 K1 h1 l1 e1 o1 => ?_⟩
        refine ⟨_, rfl, mulA l1 (lC.up h1.view) h1.sub o1 okC (by decide) (by decide) fun n2 p2 J2 K2 h2 l2 e2 o2 => ?_⟩
        have h12 := h1.trans h2
        refine ⟨_, rfl, _, rfl, _, rfl, mulA (lB.up h12.view) (lC.up h12.view) h2.sub okB okC (by decide) (by decide) fun n3 p3 J3 K3 h3 l3 e3 o3 => ?_⟩
        have h13 := h12.trans h3
        refine mulA (lA.up h13.view) l3 h3.sub okA o3 (by decide) (by decide) fun n4 p4 J4 K4 h4 l4 e4 o4 => ?_
        have h14 := h13.trans h4
        have q1 := mul_assoc' okA.asc okB.asc okC.asc e1 e2 e3 e4
        refine ownB_ans (l2.up (h3.trans h4).view) l4 h4.sub ⟨J4, _, _, n2, n4, rfl, l2.up (h3.trans h4).view, l4, h4.sub, _, rfl, false, by rw [q1, decide_eq_true rfl] <;> rfl, iteF ?_⟩
        -- the quicker one either way
        refine ⟨_, rfl, _, rfl, orA (lA.up h14.view) (lB.up h14.view) h4.sub okA okB (by decide) fun n5 p5 J5' K5 h5 l5 e5 o5 => ?_⟩
        have h15 := h14.trans h5
        refine ⟨_, rfl, _, rfl, orA (lB.up h15.view) (lA.up h15.view) h5.sub okB okA (by decide) fun n6 p6 J6 K6 h6 l6 e6 o6 => ?_⟩
        have h16 := h15.trans h6
        refine ownB_ans (l5.up h6.view) l6 h6.sub ⟨J6, _, _, n5, n6, rfl, l5.up h6.view, l6, h6.sub, _, rfl, false, by rw [or_comm' e5 e6, decide_eq_true rfl] <;> rfl, iteF ?_⟩
        -- slower ones
        refine ⟨_, rfl, _, rfl, andA (lA.up h16.view) (lB.up h16.view) h6.sub okA okB (by decide) fun n7 p7 J7 K7 h7 l7 e7 o7 => ?_⟩
        have h17 := h16.trans h7
        refine ⟨_, rfl, andA l7 (lC.up h17.view) h7.sub o7 okC (by decide) fun n8 p8 J8 K8 h8 l8 e8 o8 => ?_⟩
        have h18 := h17.trans h8
        refine ⟨_, rfl, _, rfl, _, rfl, andA (lB.up h18.view) (lC.up h18.view) h8.sub okB okC (by decide) fun n9 p9 J9 K9 h9 l9 e9 o9 => ?_⟩
        have h19 := h18.trans h9
        refine andA (lA.up h19.view) l9 h9.sub okA o9 (by decide) fun n10 p10 J10 K10 h10 l10 e10 o10 => ?_
        have h110 := h19.trans h10
        refine ownB_ans (l8.up (h9.trans h10).view) l10 h10.sub ⟨J10, _, _, n8, n10, rfl, l8.up (h9.trans h10).view, l10, h10.sub, _, rfl, false, by rw [and_assoc' okA.asc okB.asc okC.asc e7 e8 e9 e10, decide_eq_true rfl] <;> rfl, iteF ?_⟩
        -- quicker ones
        refine ⟨_, rfl, _, rfl, orA (lA.up h110.view) (lB.up h110.view) h10.sub okA okB (by decide) fun n11 p11 J11 K11 h11 l11 e11 o11 => ?_⟩
        have h111 := h110.trans h11
        refine ⟨_, rfl, orA l11 (lC.up h111.view) h11.sub o11 okC (by decide) fun n12 p12 J12 K12 h12' l12 e12 o12 => ?_⟩
        have h112 := h111.trans h12'
        refine ⟨_, rfl, _, rfl, _, rfl, orA (lB.up h112.view) (lC.up h112.view) h12'.sub okB okC (by decide) fun n13 p13 J13 K13 h13' l13 e13 o13 => ?_⟩
        have h113 := h112.trans h13'
        refine orA (lA.up h113.view) l13 h13'.sub okA o13 (by decide) fun n14 p14 J14 K14 h14' l14 e14 o14 => ?_
        have h114 := h113.trans h14'
        refine ownB_ans (l12.up (h13'.trans h14').view) l14 h14'.sub ⟨J14, _, _, n12, n14, rfl, l12.up (h13'.trans h14').view, l14, h14'.sub, _, rfl, false, by rw [or_assoc' okA.asc okB.asc okC.asc e11 e12 e13 e14, decide_eq_true rfl] <;> rfl, iteF ?_⟩
        -- turned about
        refine ⟨_, rfl, _, rfl, mulA (lA.up h114.view) (lB.up h114.view) h14'.sub okA okB (by decide) (by decide) fun n15 p15 J15 K15 h15' l15 e15 o15 => ?_⟩
        refine invA l15 h15'.sub o15 (by decide) fun n16 p16 J16 K16 h16' l16 e16 o16 => ?_
        have h116 := h114.trans (h15'.trans h16')
        refine ⟨_, rfl, invA (lB.up h116.view) h16'.sub okB (by decide) fun n17 p17 J17 K17 h17' l17 e17 o17 => ?_⟩
        have h117 := h116.trans h17'
        refine ⟨_, rfl, invA (lA.up h117.view) h17'.sub okA (by decide) fun n18 p18 J18 K18 h18' l18 e18 o18 => ?_⟩
        refine mulA (l17.up h18'.view) l18 h18'.sub o17 o18 (by decide) (by decide) fun n19 p19 J19 K19 h19' l19 e19 o19 => ?_
        have h119 := h117.trans (h18'.trans h19')
        refine ownB_ans (l16.up (h17'.trans (h18'.trans h19')).view) l19 h19'.sub ⟨J19, _, _, n16, n19, rfl, l16.up (h17'.trans (h18'.trans h19')).view, l19, h19'.sub, _, rfl, false, by rw [inv_mul' okA.asc okB.asc e15 e16 e17 e18 e19, decide_eq_true rfl] <;> rfl, iteF ?_⟩
        -- never slower
        obtain ⟨dxA, tA, hXA⟩ := lA.at_
        refine ⟨_, rfl, _, rfl, orA (lA.up h119.view) (lB.up h119.view) h19'.sub okA okB (by decide) fun n20 p20 J20 K20 h20 l20 e20 o20 => ?_⟩
        have h120 := h119.trans h20
        obtain ⟨dx20, t20, hX20⟩ := l20.at_
        have fA := okA.few
        have f20 := o20.few
        refine ⟨_, rfl, p20, xa, _, _, _, _, rfl, rfl, h20.sub _ _ hX20, h20.sub _ _ (h120.view _ _ hXA), J20, _, _, n20, na, rfl, l20, lA.up h120.view, by omega, by omega, h20.sub, fun J21 K21 h21 => ⟨_, rfl, true, by rw [or_le' okA.asc e20], iteF ?_⟩⟩
        have h121 := h120.trans h21
        refine ⟨_, rfl, _, rfl, _, rfl, andA (lA.up h121.view) (lB.up h121.view) h21.sub okA okB (by decide) fun n22 p22 J22 K22 h22 l22 e22 o22 => ?_⟩
        have h122 := h121.trans h22
        obtain ⟨dx22, t22, hX22⟩ := l22.at_
        have f22 := o22.few
        refine ⟨xa, p22, _, _, _, _, rfl, rfl, h22.sub _ _ (h122.view _ _ hXA), h22.sub _ _ hX22, J22, _, _, na, n22, rfl, lA.up h122.view, l22, by omega, by omega, h22.sub, fun J23 K23 h23 => ⟨_, rfl, true, by rw [le_and' okA.asc okB.asc e22], iteF ?_⟩⟩
        exact ⟨J23, _, _, _, _, _, _, _, _, _, _, _, _, rfl, (d10.grow (h122.trans h23)).mono (by omega)⟩
    · rintro σ H2 ⟨I2, v2, v3, v4, v5, v6, v7, v8, v9, v10, v11, v12, v13, rfl, d2⟩
      refine ⟨_, rfl, I2, D, _, 30, rfl, d2, by decide, by decide, by omega, fun r H3 h0 h1 g3 d3 => ⟨_, _, rfl, rfl, ?_⟩⟩
      obtain ⟨m, hm⟩ : ∃ m : Nat, r + 1 = m := ⟨(r + 1).toNat, by omega⟩
      change gName 11 (V.int (r + 1)) _ _ _
      rw [hm]
      refine ⟨_, rfl, _, rfl, I2, m, m, rfl, by omega, by omega, .inl rfl, by omega, d3.sub, fun I4 H4 g4 => ?_⟩
      have d4 := d3.grow g4
      refine ⟨_, rfl, _, _, rfl, rfl, .inl ⟨by decide, by decide⟩, _, _, rfl, rfl, rfl, false, ?_, iteF ?_⟩
      · have e : slowR m m = 2 * (m : Int) - 1 := by
          unfold slowR
          rw [if_pos (by omega)]
          omega
        rw [e, decide_eq_true rfl] <;> rfl
      refine ⟨_, rfl, _, _, rfl, rfl, _, rfl, I4, m + 1, m, rfl, by omega, by omega, .inr rfl, by omega, d4.sub, fun I5 H5 g5 => ?_⟩
      have d5 := d4.grow g5
      refine ⟨_, rfl, _, _, rfl, rfl, .inl ⟨by decide, by decide⟩, rfl, false, ?_, iteF ?_⟩
      · have e : slowR (m + 1) m = 2 * (m : Int) := by
          unfold slowR
          rw [if_pos (by omega)]
          omega
        rw [e, decide_eq_true rfl] <;> rfl
      refine ⟨_, rfl, _, _, rfl, rfl, _, rfl, _, _, rfl, rfl, I5, m + 30, m + 30, rfl, by omega, by omega, .inl rfl, by omega, d5.sub, fun I6 H6 g6 => ?_⟩
      have d6 := d5.grow g6
      refine ⟨_, rfl, rfl, false, ?_, iteF ?_⟩
      · have e : slowR (m + 30) (m + 30) = -1 := by
          unfold slowR
          rw [if_neg (by omega)]
        rw [e, decide_eq_true rfl] <;> rfl
      refine ⟨I6, 31, 30, rfl, by decide, by decide, .inr rfl, by decide, d6.sub, fun I7 H7 g7 => ?_⟩
      have d7 := d6.grow g7
      refine ⟨rfl, false, ?_, iteF ?_⟩
      · have e : slowR 31 30 = 60 := by decide
        rw [e, decide_eq_true rfl] <;> rfl
      refine ⟨_, rfl, I7, D, _, 60, rfl, d7, by decide, by decide, by omega, fun r2 H8 h02 h12 g8 d8 => ⟨_, _, rfl, rfl, ?_⟩⟩
      obtain ⟨m2, hm2⟩ : ∃ m : Nat, r2 + 1 = m := ⟨(r2 + 1).toNat, by omega⟩
      change gName 11 (V.int (r2 + 1)) _ _ _
      rw [hm2]
      have z1 : (60 : Int) - (m2 : Int) = ((60 - m2 : Nat) : Int) := by omega
      have z2 : (61 : Int) - (m2 : Int) = ((61 - m2 : Nat) : Int) := by omega
      refine ⟨_, rfl, _, rfl, _, _, rfl, rfl, I7, m2, 60 - m2, 1, congrArg (fun z : Int => [V.int (m2 : Int), V.int z, V.int 1]) z1, by omega, by omega, .inl rfl, d8.sub, fun I9 H9 g9 => ?_⟩
      have d9 := d8.grow g9
      refine ⟨rfl, false, ?_, iteF ?_⟩
      · have e : wideR m2 (60 - m2) 1 = 60 := by
          unfold wideR
          rw [if_pos (by rw [if_pos rfl]; omega), if_pos rfl]
          omega
        rw [e, decide_eq_true rfl] <;> rfl
      refine ⟨_, rfl, _, rfl, _, _, rfl, rfl, I9, m2, 61 - m2, 1, congrArg (fun z : Int => [V.int (m2 : Int), V.int z, V.int 1]) z2, by omega, by omega, .inl rfl, d9.sub, fun I10 H10 g10 => ?_⟩
      have d10 := d9.grow g10
      refine ⟨_, rfl, rfl, false, ?_, iteF ?_⟩
      · have e : wideR m2 (61 - m2) 1 = -1 := by
          unfold wideR
          rw [if_neg (by rw [if_pos rfl]; omega)]
        rw [e, decide_eq_true rfl] <;> rfl
      refine ⟨_, rfl, I10, 60, m2, 0, rfl, by decide, by omega, .inr ⟨rfl, by omega⟩, d10.sub, fun I11 H11 g11 => ?_⟩
      have d11 := d10.grow g11
      have e5 : wideR 60 m2 0 = 60 := by simp [wideR]
      refine ⟨rfl, ?_⟩
      rw [e5, decide_eq_true rfl]
      refine ⟨true, rfl, iteT ?_⟩
      refine ⟨I11, 60, 1, 1, rfl, by decide, by decide, .inl rfl, d11.sub, fun I12 H12 g12 => ?_⟩
      have e6 : wideR 60 1 1 = -1 := by decide
      refine ⟨_, rfl, rfl, ?_⟩
      rw [e6, decide_eq_true rfl]
      exact k H12
end
end Nw
namespace Nw
open PySem PySem.Spec PyProof.Rows L2
def d_l_next : He.DefD := ⟨("_law_next", none), "_law_next", "_law_next", defArgs s_l_next, defBody s_l_next, defScope s_l_next, [], []⟩
def d_l_begun : He.DefD := ⟨("_law_begun", none), "_law_begun", "_law_begun", defArgs s_l_begun, defBody s_l_begun, defScope s_l_begun, [], []⟩
def d_is_number : He.DefD := ⟨("is_number", none), "is_number", "is_number", defArgs s_is_number, defBody s_is_number, defScope s_is_number, [], []⟩
def d_is_moment : He.DefD := ⟨("is_moment", none), "is_moment", "is_moment", defArgs s_is_moment, defBody s_is_moment, defScope s_is_moment, [], []⟩
def d_need_moment : He.DefD := ⟨("need_moment", none), "need_moment", "need_moment", defArgs s_need_moment, defBody s_need_moment, defScope s_need_moment, [], []⟩
def d_is_earlier : He.DefD := ⟨("is_earlier", none), "is_earlier", "is_earlier", defArgs s_is_earlier, defBody s_is_earlier, defScope s_is_earlier, [], []⟩
def d_is_ride : He.DefD := ⟨("is_ride", none), "is_ride", "is_ride", defArgs s_is_ride, defBody s_is_ride, defScope s_is_ride, [], []⟩
def d_ended : He.DefD := ⟨("ended", none), "ended", "ended", defArgs s_ended, defBody s_ended, defScope s_ended, [], []⟩
def d_begun : He.DefD := ⟨("begun", none), "begun", "begun", defArgs s_begun, defBody s_begun, defScope s_begun, [], []⟩
def d_needed : He.DefD := ⟨("needed", none), "needed", "needed", defArgs s_needed, defBody s_needed, defScope s_needed, [], []⟩
def d_Link__init : He.DefD := ⟨("Link", some "__init__"), "__init__", "Link.__init__", defArgs s_Link__init, defBody s_Link__init, defScope s_Link__init, [], []⟩
def d_l_pick : He.DefD := ⟨("_law_pick", none), "_law_pick", "_law_pick", defArgs s_l_pick, defBody s_l_pick, defScope s_l_pick, [], []⟩
def d_l_place : He.DefD := ⟨("_law_place", none), "_law_place", "_law_place", defArgs s_l_place, defBody s_l_place, defScope s_l_place, [], []⟩
def d_l_rides : He.DefD := ⟨("_law_rides", none), "_law_rides", "_law_rides", defArgs s_l_rides, defBody s_l_rides, defScope s_l_rides, [], []⟩
def d_l_moment : He.DefD := ⟨("_law_moment", none), "_law_moment", "_law_moment", defArgs s_l_moment, defBody s_l_moment, defScope s_l_moment, [], []⟩
def d_sooner_of : He.DefD := ⟨("sooner_of", none), "sooner_of", "sooner_of", defArgs s_sooner_of, defBody s_sooner_of, defScope s_sooner_of, [], []⟩
def d_link_by : He.DefD := ⟨("link_by", none), "link_by", "link_by", defArgs s_link_by, defBody s_link_by, defScope s_link_by, [], []⟩
def d_Link_end : He.DefD := ⟨("Link", some "end"), "end", "Link.end", defArgs s_Link_end, defBody s_Link_end, defScope s_Link_end, [], []⟩
def d_Link_begin : He.DefD := ⟨("Link", some "begin"), "begin", "Link.begin", defArgs s_Link_begin, defBody s_Link_begin, defScope s_Link_begin, [], []⟩
def d_Link__or : He.DefD := ⟨("Link", some "__or__"), "__or__", "Link.__or__", defArgs s_Link__or, defBody s_Link__or, defScope s_Link__or, [], []⟩
def d_Link__mul : He.DefD := ⟨("Link", some "__mul__"), "__mul__", "Link.__mul__", defArgs s_Link__mul, defBody s_Link__mul, defScope s_Link__mul, [], []⟩
def d_Link__invert : He.DefD := ⟨("Link", some "__invert__"), "__invert__", "Link.__invert__", defArgs s_Link__invert, defBody s_Link__invert, defScope s_Link__invert, [], []⟩
def d_Link__and : He.DefD := ⟨("Link", some "__and__"), "__and__", "Link.__and__", defArgs s_Link__and, defBody s_Link__and, defScope s_Link__and, [], []⟩
def d_Link__eq : He.DefD := ⟨("Link", some "__eq__"), "__eq__", "Link.__eq__", defArgs s_Link__eq, defBody s_Link__eq, defScope s_Link__eq, [], []⟩
def d_Link__le : He.DefD := ⟨("Link", some "__le__"), "__le__", "Link.__le__", defArgs s_Link__le, defBody s_Link__le, defScope s_Link__le, [], []⟩
def d_l_later : He.DefD := ⟨("_law_later", none), "_law_later", "_law_later", defArgs s_l_later, defBody s_l_later, defScope s_l_later, [], []⟩
def d_l_sooner : He.DefD := ⟨("_law_sooner", none), "_law_sooner", "_law_sooner", defArgs s_l_sooner, defBody s_l_sooner, defScope s_l_sooner, [], []⟩
def d_l_turned : He.DefD := ⟨("_law_turned", none), "_law_turned", "_law_turned", defArgs s_l_turned, defBody s_l_turned, defScope s_l_turned, [], []⟩
def d_l_end : He.DefD := ⟨("_law_end", none), "_law_end", "_law_end", defArgs s_l_end, defBody s_l_end, defScope s_l_end, [], []⟩
def d_l_begin : He.DefD := ⟨("_law_begin", none), "_law_begin", "_law_begin", defArgs s_l_begin, defBody s_l_begin, defScope s_l_begin, [], []⟩
def d_NoRides__init : He.DefD := ⟨("NoRides", some "__init__"), "__init__", "NoRides.__init__", defArgs s_NoRides__init, defBody s_NoRides__init, defScope s_NoRides__init, [], []⟩
def d_TooMany__init : He.DefD := ⟨("TooMany", some "__init__"), "__init__", "TooMany.__init__", defArgs s_TooMany__init, defBody s_TooMany__init, defScope s_TooMany__init, [], []⟩
def d_Link_rides : He.DefD := ⟨("Link", some "rides"), "rides", "Link.rides", defArgs s_Link_rides, defBody s_Link_rides, defScope s_Link_rides, [], []⟩
def d_l_wide : He.DefD := ⟨("_law_wide", none), "_law_wide", "_law_wide", defArgs s_l_wide, defBody s_l_wide, defScope s_l_wide, [], []⟩
def d_l_slow : He.DefD := ⟨("_law_slow", none), "_law_slow", "_law_slow", defArgs s_l_slow, defBody s_l_slow, defScope s_l_slow, [], []⟩
def d_l_right : He.DefD := ⟨("_law_right", none), "_law_right", "_law_right", defArgs s_l_right, defBody s_l_right, defScope s_l_right, [], []⟩
def d_law : He.DefD := ⟨("law", none), "law", "law", defArgs s_law, defBody s_law, defScope s_law, [], []⟩
def fn : List He.DefD := [d_l_next, d_l_begun, d_is_number, d_is_moment, d_need_moment, d_is_earlier, d_is_ride, d_ended, d_begun, d_needed, d_Link__init, d_l_pick, d_l_place, d_l_rides, d_l_moment, d_sooner_of, d_link_by, d_Link_end, d_Link_begin, d_Link__or, d_Link__mul, d_Link__invert, d_Link__and, d_Link__eq, d_Link__le, d_l_later, d_l_sooner, d_l_turned, d_l_end, d_l_begin, d_NoRides__init, d_TooMany__init, d_l_wide, d_l_slow, d_l_right, d_law]
def gs : List GetD := [(("Link", "rides"), d_Link_rides)]
def tf : List He.Defn := []
def fa : List He.Fa := [.free "abs", .free "all", .free "bool", .free "enumerate", .free "int", .free "isinstance", .free "len", .free "list", .free "property", .free "range", .free "repr", .free "sorted", .free "str", .free "tuple", .glo "is_number", .glo "is_moment", .glo "need_moment", .glo "is_earlier", .glo "sooner_of", .glo "is_ride", .glo "ended", .glo "begun", .glo "needed", .glo "link_by", .glo "_law_begun", .glo "_law_next", .glo "_law_pick", .glo "_law_rides", .glo "_law_place", .glo "_law_moment", .glo "_law_end", .glo "_law_begin", .glo "_law_later", .glo "_law_sooner", .glo "_law_turned", .glo "_law_right", .glo "_law_wide", .glo "_law_slow", .glo "law", .glo "OrderError", .exc "OrderError", .glo "NoMoment", .exc "NoMoment", .glo "NoRides", .meth "NoRides" "__init__", .noat "NoRides" "at", .glo "TooMany", .meth "TooMany" "__init__", .noat "TooMany" "most", .glo "Link", .cls "Link", .mkr "Link", .meth "Link" "end", .meth "Link" "begin", .meth "Link" "__eq__", .meth "Link" "__mul__", .meth "Link" "__or__", .meth "Link" "__and__", .meth "Link" "__invert__", .meth "Link" "__le__", .noat "Link" "own_rides", .str "FIRST" "first", .str "LAST" "last", .int "MOST_RIDES" 60, .exm "TooMany" "TooMany" true]
def loose : List Str := (["OrderError", "NoMoment", "NoRides", "TooMany", "FIRST", "LAST", "MOST_RIDES", "is_number", "is_moment", "need_moment", "is_earlier", "sooner_of", "is_ride", "ended", "begun", "needed", "link_by", "Link", "_law_begun", "_law_next", "_law_pick", "_law_rides", "_law_place", "_law_moment", "_law_end", "_law_begin", "_law_later", "_law_sooner", "_law_turned", "_law_right"] : List Str) ++ (["_law_wide", "_law_slow"] : List Str)
def ex (K : PySem.W.Frag) : Bool := (insB K (He.ga K "Link") && (PySem.W.selfFirst K (He.ga K "Link") && (decide (PySem.W.findIn K (.ref (He.ga K "Link")) "__ne__" = some (some (.builtin "object.__ne__"))) && (decide (PySem.W.subIn K (.ref (He.ga K "Link")) (.type "object") = some true) && (exfB K (He.ga K "NoMoment") && (exfB K (He.ga K "NoRides") && (exfB K (He.ga K "TooMany") && (exfB K (He.ga K "OrderError") && (oexB K (He.ga K "NoRides") && (oexB K (He.ga K "TooMany") && (oeiB K (He.ga K "OrderError") && propB K (He.ga K "Link") "rides")))))))))))
abbrev R : PySem.W.OpenRow := PySem.W.OpenLaw.row PySem.Challenge.rw_newsinorder_k04_links_put_together
abbrev hk : PySem.W.Hook := hookP 5 fa fn tf ex gs
def ob (s : PySem.W.SharedT) : AlP := obsP 5 fa fn tf ex gs (HandSHeadRun.getT s)
theorem ob_eq (s : PySem.W.SharedT) : ob s = hk.obs s.abs := obsP_eq (HandSHeadRun.getT_eq s)
theorem run (w : World) : HandSHeadRun.RunEq R (PySem.W.view R.prog [35]) hk ob 20000 loose w := by
  intro os
  kernel_rfl
theorem facts {P : Program} {w : World} {K : PySem.W.Frag} {h : Heap} {mg : Str → Option Value} {f : Addr} (X : K.In h) (G : h.Ns mainGlobals mg) (hfa : mg ("law" : Str) = some (.ref f)) (c : SaysP fa fn tf ex gs h K) :
    ∃ fd : FuncData, (∀ (s : Shared) (v : Value), BindsTo s fd ⟨[v], []⟩ [("_law_script", v)]) ∧ ∀ base : Heap, K.In base → base.Ns mainGlobals mg → FnOk P w K mg base CX0 9 f fd ["_law_script"] (sp_law K) := by
  have cm := c.more
  unfold ex at cm
  rw [Bool.and_eq_true, Bool.and_eq_true, Bool.and_eq_true, Bool.and_eq_true, Bool.and_eq_true, Bool.and_eq_true, Bool.and_eq_true, Bool.and_eq_true, Bool.and_eq_true, Bool.and_eq_true, Bool.and_eq_true] at cm
  obtain ⟨i_0, i_1, i_2, i_3, i_4, i_5, i_6, i_7, i_8, i_9, i_10, i_11⟩ := cm
  have x_0 : mg "abs" = none := He.free_ok X G (c.d.fact 0 (f := .free "abs") rfl)
  have x_1 : mg "all" = none := He.free_ok X G (c.d.fact 1 (f := .free "all") rfl)
  have x_2 : mg "bool" = none := He.free_ok X G (c.d.fact 2 (f := .free "bool") rfl)
  have x_3 : mg "enumerate" = none := He.free_ok X G (c.d.fact 3 (f := .free "enumerate") rfl)
  have x_4 : mg "int" = none := He.free_ok X G (c.d.fact 4 (f := .free "int") rfl)
  have x_5 : mg "isinstance" = none := He.free_ok X G (c.d.fact 5 (f := .free "isinstance") rfl)
  have x_6 : mg "len" = none := He.free_ok X G (c.d.fact 6 (f := .free "len") rfl)
  have x_7 : mg "list" = none := He.free_ok X G (c.d.fact 7 (f := .free "list") rfl)
  have x_8 : mg "property" = none := He.free_ok X G (c.d.fact 8 (f := .free "property") rfl)
  have x_9 : mg "range" = none := He.free_ok X G (c.d.fact 9 (f := .free "range") rfl)
  have x_10 : mg "repr" = none := He.free_ok X G (c.d.fact 10 (f := .free "repr") rfl)
  have x_11 : mg "sorted" = none := He.free_ok X G (c.d.fact 11 (f := .free "sorted") rfl)
  have x_12 : mg "str" = none := He.free_ok X G (c.d.fact 12 (f := .free "str") rfl)
  have x_13 : mg "tuple" = none := He.free_ok X G (c.d.fact 13 (f := .free "tuple") rfl)
  have x_14 : mg "is_number" = some (.ref (He.ga K "is_number")) := He.glo_ok X G (c.d.fact 14 (f := .glo "is_number") rfl)
  have x_15 : mg "is_moment" = some (.ref (He.ga K "is_moment")) := He.glo_ok X G (c.d.fact 15 (f := .glo "is_moment") rfl)
  have x_16 : mg "need_moment" = some (.ref (He.ga K "need_moment")) := He.glo_ok X G (c.d.fact 16 (f := .glo "need_moment") rfl)
  have x_17 : mg "is_earlier" = some (.ref (He.ga K "is_earlier")) := He.glo_ok X G (c.d.fact 17 (f := .glo "is_earlier") rfl)
  have x_18 : mg "sooner_of" = some (.ref (He.ga K "sooner_of")) := He.glo_ok X G (c.d.fact 18 (f := .glo "sooner_of") rfl)
  have x_19 : mg "is_ride" = some (.ref (He.ga K "is_ride")) := He.glo_ok X G (c.d.fact 19 (f := .glo "is_ride") rfl)
  have x_20 : mg "ended" = some (.ref (He.ga K "ended")) := He.glo_ok X G (c.d.fact 20 (f := .glo "ended") rfl)
  have x_21 : mg "begun" = some (.ref (He.ga K "begun")) := He.glo_ok X G (c.d.fact 21 (f := .glo "begun") rfl)
  have x_22 : mg "needed" = some (.ref (He.ga K "needed")) := He.glo_ok X G (c.d.fact 22 (f := .glo "needed") rfl)
  have x_23 : mg "link_by" = some (.ref (He.ga K "link_by")) := He.glo_ok X G (c.d.fact 23 (f := .glo "link_by") rfl)
  have x_24 : mg "_law_begun" = some (.ref (He.ga K "_law_begun")) := He.glo_ok X G (c.d.fact 24 (f := .glo "_law_begun") rfl)
  have x_25 : mg "_law_next" = some (.ref (He.ga K "_law_next")) := He.glo_ok X G (c.d.fact 25 (f := .glo "_law_next") rfl)
  have x_26 : mg "_law_pick" = some (.ref (He.ga K "_law_pick")) := He.glo_ok X G (c.d.fact 26 (f := .glo "_law_pick") rfl)
  have x_27 : mg "_law_rides" = some (.ref (He.ga K "_law_rides")) := He.glo_ok X G (c.d.fact 27 (f := .glo "_law_rides") rfl)
  have x_28 : mg "_law_place" = some (.ref (He.ga K "_law_place")) := He.glo_ok X G (c.d.fact 28 (f := .glo "_law_place") rfl)
  have x_29 : mg "_law_moment" = some (.ref (He.ga K "_law_moment")) := He.glo_ok X G (c.d.fact 29 (f := .glo "_law_moment") rfl)
  have x_30 : mg "_law_end" = some (.ref (He.ga K "_law_end")) := He.glo_ok X G (c.d.fact 30 (f := .glo "_law_end") rfl)
  have x_31 : mg "_law_begin" = some (.ref (He.ga K "_law_begin")) := He.glo_ok X G (c.d.fact 31 (f := .glo "_law_begin") rfl)
  have x_32 : mg "_law_later" = some (.ref (He.ga K "_law_later")) := He.glo_ok X G (c.d.fact 32 (f := .glo "_law_later") rfl)
  have x_33 : mg "_law_sooner" = some (.ref (He.ga K "_law_sooner")) := He.glo_ok X G (c.d.fact 33 (f := .glo "_law_sooner") rfl)
  have x_34 : mg "_law_turned" = some (.ref (He.ga K "_law_turned")) := He.glo_ok X G (c.d.fact 34 (f := .glo "_law_turned") rfl)
  have x_35 : mg "_law_right" = some (.ref (He.ga K "_law_right")) := He.glo_ok X G (c.d.fact 35 (f := .glo "_law_right") rfl)
  have x_36 : mg "_law_wide" = some (.ref (He.ga K "_law_wide")) := He.glo_ok X G (c.d.fact 36 (f := .glo "_law_wide") rfl)
  have x_37 : mg "_law_slow" = some (.ref (He.ga K "_law_slow")) := He.glo_ok X G (c.d.fact 37 (f := .glo "_law_slow") rfl)
  have x_38 : mg "law" = some (.ref (He.ga K "law")) := He.glo_ok X G (c.d.fact 38 (f := .glo "law") rfl)
  have x_39 : mg "OrderError" = some (.ref (He.ga K "OrderError")) := He.glo_ok X G (c.d.fact 39 (f := .glo "OrderError") rfl)
  have x_40 : PySem.W.excIn K (He.ga K "OrderError") He.veBase "ValueError.__new__" = true ∧ PySem.W.keepIn K (.ref (He.ga K "OrderError")) = true ∧ PySem.W.subIn K (.ref (He.ga K "OrderError")) (.type "BaseException") = some true ∧ PySem.W.typeIn K (.ref (He.ga K "OrderError")) = some (.type "type") := He.exc_ok (c.d.fact 40 (f := .exc "OrderError") rfl)
  have x_41 : mg "NoMoment" = some (.ref (He.ga K "NoMoment")) := He.glo_ok X G (c.d.fact 41 (f := .glo "NoMoment") rfl)
  have x_42 : PySem.W.excIn K (He.ga K "NoMoment") He.veBase "ValueError.__new__" = true ∧ PySem.W.keepIn K (.ref (He.ga K "NoMoment")) = true ∧ PySem.W.subIn K (.ref (He.ga K "NoMoment")) (.type "BaseException") = some true ∧ PySem.W.typeIn K (.ref (He.ga K "NoMoment")) = some (.type "type") := He.exc_ok (c.d.fact 42 (f := .exc "NoMoment") rfl)
  have x_43 : mg "NoRides" = some (.ref (He.ga K "NoRides")) := He.glo_ok X G (c.d.fact 43 (f := .glo "NoRides") rfl)
  have x_44 : Meth K (He.ga K "NoRides") "__init__" (He.ma K (He.ga K "NoRides") "__init__") := He.meth_ok (c.d.fact 44 (f := .meth "NoRides" "__init__") rfl)
  have x_45 : NoAttr K (He.ga K "NoRides") "at" := He.noat_ok (c.d.fact 45 (f := .noat "NoRides" "at") rfl)
  have x_46 : mg "TooMany" = some (.ref (He.ga K "TooMany")) := He.glo_ok X G (c.d.fact 46 (f := .glo "TooMany") rfl)
  have x_47 : Meth K (He.ga K "TooMany") "__init__" (He.ma K (He.ga K "TooMany") "__init__") := He.meth_ok (c.d.fact 47 (f := .meth "TooMany" "__init__") rfl)
  have x_48 : NoAttr K (He.ga K "TooMany") "most" := He.noat_ok (c.d.fact 48 (f := .noat "TooMany" "most") rfl)
  have x_49 : mg "Link" = some (.ref (He.ga K "Link")) := He.glo_ok X G (c.d.fact 49 (f := .glo "Link") rfl)
  have x_50 : Cls K (He.ga K "Link") := He.cls_ok (c.d.fact 50 (f := .cls "Link") rfl)
  have x_51 : Mk K (He.ga K "Link") (He.ma K (He.ga K "Link") "__init__") := He.mkr_ok (c.d.fact 51 (f := .mkr "Link") rfl)
  have x_52 : Meth K (He.ga K "Link") "end" (He.ma K (He.ga K "Link") "end") := He.meth_ok (c.d.fact 52 (f := .meth "Link" "end") rfl)
  have x_53 : Meth K (He.ga K "Link") "begin" (He.ma K (He.ga K "Link") "begin") := He.meth_ok (c.d.fact 53 (f := .meth "Link" "begin") rfl)
  have x_54 : Meth K (He.ga K "Link") "__eq__" (He.ma K (He.ga K "Link") "__eq__") := He.meth_ok (c.d.fact 54 (f := .meth "Link" "__eq__") rfl)
  have x_55 : Meth K (He.ga K "Link") "__mul__" (He.ma K (He.ga K "Link") "__mul__") := He.meth_ok (c.d.fact 55 (f := .meth "Link" "__mul__") rfl)
  have x_56 : Meth K (He.ga K "Link") "__or__" (He.ma K (He.ga K "Link") "__or__") := He.meth_ok (c.d.fact 56 (f := .meth "Link" "__or__") rfl)
  have x_57 : Meth K (He.ga K "Link") "__and__" (He.ma K (He.ga K "Link") "__and__") := He.meth_ok (c.d.fact 57 (f := .meth "Link" "__and__") rfl)
  have x_58 : Meth K (He.ga K "Link") "__invert__" (He.ma K (He.ga K "Link") "__invert__") := He.meth_ok (c.d.fact 58 (f := .meth "Link" "__invert__") rfl)
  have x_59 : Meth K (He.ga K "Link") "__le__" (He.ma K (He.ga K "Link") "__le__") := He.meth_ok (c.d.fact 59 (f := .meth "Link" "__le__") rfl)
  have x_60 : NoAttr K (He.ga K "Link") "own_rides" := He.noat_ok (c.d.fact 60 (f := .noat "Link" "own_rides") rfl)
  have x_61 : ∃ t, mg "FIRST" = some (.str "first" t) := He.str_ok X G (c.d.fact 61 (f := .str "FIRST" "first") rfl)
  have x_62 : ∃ t, mg "LAST" = some (.str "last" t) := He.str_ok X G (c.d.fact 62 (f := .str "LAST" "last") rfl)
  have x_63 : ∃ t, mg "MOST_RIDES" = some (.int 60 t) := He.int_ok X G (c.d.fact 63 (f := .int "MOST_RIDES" 60) rfl)
  have x_64 : PySem.W.exmOne K (.ref (He.ga K "TooMany")) (.ref (He.ga K "TooMany")) = some true := He.exm_ok (c.d.fact 64 (f := .exm "TooMany" "TooMany" true) rfl)
  have x_65 : InsF K (He.ga K "Link") := insB_ok i_0
  have x_66 : PySem.W.selfFirst K (He.ga K "Link") = true :=  i_1
  have x_67 : PySem.W.findIn K (.ref (He.ga K "Link")) "__ne__" = some (some (.builtin "object.__ne__")) := of_decide_eq_true i_2
  have x_68 : PySem.W.subIn K (.ref (He.ga K "Link")) (.type "object") = some true := of_decide_eq_true i_3
  have x_69 : ExF K (He.ga K "NoMoment") := exfB_ok i_4
  have x_70 : ExF K (He.ga K "NoRides") := exfB_ok i_5
  have x_71 : ExF K (He.ga K "TooMany") := exfB_ok i_6
  have x_72 : ExF K (He.ga K "OrderError") := exfB_ok i_7
  have x_73 : OexC K (He.ga K "NoRides") := oexB_ok i_8
  have x_74 : OexC K (He.ga K "TooMany") := oexB_ok i_9
  have x_75 : OeI K (He.ga K "OrderError") := oeiB_ok i_10
  have x_76 : PropOf K (He.ga K "Link") "rides" (propAt K (He.ga K "Link") "rides") (propGet K (He.ga K "Link") "rides") := propB_ok i_11
  have T : Txt K mg := ⟨x_0, x_1, x_2, x_3, x_4, x_5, x_6, x_7, x_8, x_9, x_10, x_11, x_12, x_13, x_14, x_15, x_16, x_17, x_18, x_19, x_20, x_21, x_22, x_23, x_24, x_25, x_26, x_27, x_28, x_29, x_30, x_31, x_32, x_33, x_34, x_35, x_36, x_37, x_38, x_39, x_40, x_41, x_42, x_43, x_44, x_45, x_46, x_47, x_48, x_49, x_50, x_51, x_52, x_53, x_54, x_55, x_56, x_57, x_58, x_59, x_60, x_61, x_62, x_63, x_64, x_65, x_66, x_67, x_68, x_69, x_70, x_71, x_72, x_73, x_74, x_75, x_76⟩
  have F_Link_rides : FnAt K "rides" "Link.rides" s_Link_rides (propGet K (He.ga K "Link") "rides") := c.get 0 (d := (("Link", "rides"), d_Link_rides)) rfl
  have F_l_next : FnAt K "_law_next" "_law_next" s_l_next (He.ga K "_law_next") := c.d.def_ 0 (d := d_l_next) rfl
  have F_l_begun : FnAt K "_law_begun" "_law_begun" s_l_begun (He.ga K "_law_begun") := c.d.def_ 1 (d := d_l_begun) rfl
  have F_is_number : FnAt K "is_number" "is_number" s_is_number (He.ga K "is_number") := c.d.def_ 2 (d := d_is_number) rfl
  have F_is_moment : FnAt K "is_moment" "is_moment" s_is_moment (He.ga K "is_moment") := c.d.def_ 3 (d := d_is_moment) rfl
  have F_need_moment : FnAt K "need_moment" "need_moment" s_need_moment (He.ga K "need_moment") := c.d.def_ 4 (d := d_need_moment) rfl
  have F_is_earlier : FnAt K "is_earlier" "is_earlier" s_is_earlier (He.ga K "is_earlier") := c.d.def_ 5 (d := d_is_earlier) rfl
  have F_is_ride : FnAt K "is_ride" "is_ride" s_is_ride (He.ga K "is_ride") := c.d.def_ 6 (d := d_is_ride) rfl
  have F_ended : FnAt K "ended" "ended" s_ended (He.ga K "ended") := c.d.def_ 7 (d := d_ended) rfl
  have F_begun : FnAt K "begun" "begun" s_begun (He.ga K "begun") := c.d.def_ 8 (d := d_begun) rfl
  have F_needed : FnAt K "needed" "needed" s_needed (He.ga K "needed") := c.d.def_ 9 (d := d_needed) rfl
  have F_Link__init : FnAt K "__init__" "Link.__init__" s_Link__init (He.ma K (He.ga K "Link") "__init__") := c.d.def_ 10 (d := d_Link__init) rfl
  have F_l_pick : FnAt K "_law_pick" "_law_pick" s_l_pick (He.ga K "_law_pick") := c.d.def_ 11 (d := d_l_pick) rfl
  have F_l_place : FnAt K "_law_place" "_law_place" s_l_place (He.ga K "_law_place") := c.d.def_ 12 (d := d_l_place) rfl
  have F_l_rides : FnAt K "_law_rides" "_law_rides" s_l_rides (He.ga K "_law_rides") := c.d.def_ 13 (d := d_l_rides) rfl
  have F_l_moment : FnAt K "_law_moment" "_law_moment" s_l_moment (He.ga K "_law_moment") := c.d.def_ 14 (d := d_l_moment) rfl
  have F_sooner_of : FnAt K "sooner_of" "sooner_of" s_sooner_of (He.ga K "sooner_of") := c.d.def_ 15 (d := d_sooner_of) rfl
  have F_link_by : FnAt K "link_by" "link_by" s_link_by (He.ga K "link_by") := c.d.def_ 16 (d := d_link_by) rfl
  have F_Link_end : FnAt K "end" "Link.end" s_Link_end (He.ma K (He.ga K "Link") "end") := c.d.def_ 17 (d := d_Link_end) rfl
  have F_Link_begin : FnAt K "begin" "Link.begin" s_Link_begin (He.ma K (He.ga K "Link") "begin") := c.d.def_ 18 (d := d_Link_begin) rfl
  have F_Link__or : FnAt K "__or__" "Link.__or__" s_Link__or (He.ma K (He.ga K "Link") "__or__") := c.d.def_ 19 (d := d_Link__or) rfl
  have F_Link__mul : FnAt K "__mul__" "Link.__mul__" s_Link__mul (He.ma K (He.ga K "Link") "__mul__") := c.d.def_ 20 (d := d_Link__mul) rfl
  have F_Link__invert : FnAt K "__invert__" "Link.__invert__" s_Link__invert (He.ma K (He.ga K "Link") "__invert__") := c.d.def_ 21 (d := d_Link__invert) rfl
  have F_Link__and : FnAt K "__and__" "Link.__and__" s_Link__and (He.ma K (He.ga K "Link") "__and__") := c.d.def_ 22 (d := d_Link__and) rfl
  have F_Link__eq : FnAt K "__eq__" "Link.__eq__" s_Link__eq (He.ma K (He.ga K "Link") "__eq__") := c.d.def_ 23 (d := d_Link__eq) rfl
  have F_Link__le : FnAt K "__le__" "Link.__le__" s_Link__le (He.ma K (He.ga K "Link") "__le__") := c.d.def_ 24 (d := d_Link__le) rfl
  have F_l_later : FnAt K "_law_later" "_law_later" s_l_later (He.ga K "_law_later") := c.d.def_ 25 (d := d_l_later) rfl
  have F_l_sooner : FnAt K "_law_sooner" "_law_sooner" s_l_sooner (He.ga K "_law_sooner") := c.d.def_ 26 (d := d_l_sooner) rfl
  have F_l_turned : FnAt K "_law_turned" "_law_turned" s_l_turned (He.ga K "_law_turned") := c.d.def_ 27 (d := d_l_turned) rfl
  have F_l_end : FnAt K "_law_end" "_law_end" s_l_end (He.ga K "_law_end") := c.d.def_ 28 (d := d_l_end) rfl
  have F_l_begin : FnAt K "_law_begin" "_law_begin" s_l_begin (He.ga K "_law_begin") := c.d.def_ 29 (d := d_l_begin) rfl
  have F_NoRides__init : FnAt K "__init__" "NoRides.__init__" s_NoRides__init (He.ma K (He.ga K "NoRides") "__init__") := c.d.def_ 30 (d := d_NoRides__init) rfl
  have F_TooMany__init : FnAt K "__init__" "TooMany.__init__" s_TooMany__init (He.ma K (He.ga K "TooMany") "__init__") := c.d.def_ 31 (d := d_TooMany__init) rfl
  have F_l_wide : FnAt K "_law_wide" "_law_wide" s_l_wide (He.ga K "_law_wide") := c.d.def_ 32 (d := d_l_wide) rfl
  have F_l_slow : FnAt K "_law_slow" "_law_slow" s_l_slow (He.ga K "_law_slow") := c.d.def_ 33 (d := d_l_slow) rfl
  have F_l_right : FnAt K "_law_right" "_law_right" s_l_right (He.ga K "_law_right") := c.d.def_ 34 (d := d_l_right) rfl
  obtain ⟨fd, F⟩ := c.d.def_ 35 (d := d_law) rfl
  have e := hfa.symm.trans T.g_law
  cases e
  have b := FunD.bindsA (ps := ["_law_script"]) F fun _ _ _ _ _ _ us hl => match us, hl with | [_], _ => rfl
  refine ⟨fd, fun s v => b s [v] rfl, fun base _ _ => ?_⟩
  have O_l_next := ok_l_next (P := P) (w := w) (base := base) T F_l_next 
  have O_l_begun := ok_l_begun (P := P) (w := w) (base := base) T F_l_begun 
  have O_is_number := ok_is_number (P := P) (w := w) (base := base) T F_is_number 
  have O_is_moment := ok_is_moment (P := P) (w := w) (base := base) T F_is_moment O_is_number
  have O_need_moment := ok_need_moment (P := P) (w := w) (base := base) T F_need_moment O_is_moment
  have O_is_earlier := ok_is_earlier (P := P) (w := w) (base := base) T F_is_earlier 
  have O_is_ride := ok_is_ride (P := P) (w := w) (base := base) T F_is_ride O_is_number
  have O_ended := ok_ended (P := P) (w := w) (base := base) T F_ended 
  have O_begun := ok_begun (P := P) (w := w) (base := base) T F_begun 
  have O_needed := ok_needed (P := P) (w := w) (base := base) T F_needed 
  have O_Link__init := ok_Link__init (P := P) (w := w) (base := base) T F_Link__init O_is_ride O_needed
  have O_l_pick := ok_l_pick (P := P) (w := w) (base := base) T F_l_pick O_l_next
  have O_l_place := ok_l_place (P := P) (w := w) (base := base) T F_l_place 
  have O_l_rides := ok_l_rides (P := P) (w := w) (base := base) T F_l_rides O_l_next
  have O_l_moment := ok_l_moment (P := P) (w := w) (base := base) T F_l_moment O_l_next O_l_pick
  have O_sooner_of := ok_sooner_of (P := P) (w := w) (base := base) T F_sooner_of O_is_earlier
  have O_link_by := ok_link_by (P := P) (w := w) (base := base) T F_link_by O_needed O_Link__init
  have O_Link_end := ok_Link_end (P := P) (w := w) (base := base) T F_Link_end O_need_moment O_ended
  have O_Link_begin := ok_Link_begin (P := P) (w := w) (base := base) T F_Link_begin O_need_moment O_begun
  have O_Link__or := ok_Link__or (P := P) (w := w) (base := base) T F_Link__or O_link_by
  have O_Link__mul := ok_Link__mul (P := P) (w := w) (base := base) T F_Link__mul O_ended O_link_by
  have O_Link__invert := ok_Link__invert (P := P) (w := w) (base := base) T F_Link__invert O_link_by
  have O_Link__and := ok_Link__and (P := P) (w := w) (base := base) T F_Link__and O_begun O_sooner_of O_link_by
  have O_Link__eq := ok_Link__eq (P := P) (w := w) (base := base) T F_Link__eq 
  have O_Link__le := ok_Link__le (P := P) (w := w) (base := base) T F_Link__le O_is_earlier O_ended
  have O_l_later := ok_l_later (P := P) (w := w) (base := base) T F_l_later O_l_place
  have O_l_sooner := ok_l_sooner (P := P) (w := w) (base := base) T F_l_sooner O_l_place
  have O_l_turned := ok_l_turned (P := P) (w := w) (base := base) T F_l_turned 
  have O_l_end := ok_l_end (P := P) (w := w) (base := base) T F_l_end 
  have O_l_begin := ok_l_begin (P := P) (w := w) (base := base) T F_l_begin 
  have O_NoRides__init := ok_NoRides__init (P := P) (w := w) (base := base) T F_NoRides__init 
  have O_TooMany__init := ok_TooMany__init (P := P) (w := w) (base := base) T F_TooMany__init 
  have O_Link_rides := ok_Link_rides (P := P) (w := w) (base := base) T F_Link_rides 
  have OB_link_by := okb_link_by (P := P) (w := w) (base := base) T F_link_by O_needed O_Link__init O_TooMany__init
  have OX_link_by := (O_link_by.toX (CX' := L2.CX P w)).or OB_link_by
  have OB_Link__or := okb_Link__or (P := P) (w := w) (base := base) T F_Link__or OX_link_by
  have OX_Link__or := (O_Link__or.toX (CX' := L2.CX P w)).or OB_Link__or
  have OB_Link__and := okb_Link__and (P := P) (w := w) (base := base) T F_Link__and O_begun O_sooner_of OX_link_by
  have OX_Link__and := (O_Link__and.toX (CX' := L2.CX P w)).or OB_Link__and
  have O_l_wide := ok_l_wide (P := P) (w := w) (base := base) T F_l_wide O_Link__init OX_Link__or O_Link_rides
  have O_l_slow := ok_l_slow (P := P) (w := w) (base := base) T F_l_slow O_Link__init OX_Link__and O_Link_rides
  have O_l_right := ok_l_right (P := P) (w := w) (base := base) T F_l_right O_l_moment O_l_end O_l_begin O_l_sooner O_l_later O_l_turned O_l_place O_Link__init O_Link_end O_Link_begin O_Link__mul O_Link__or O_Link__and O_Link__invert O_Link__eq O_Link__le
  exact ok_law T F O_l_begun O_l_next O_l_rides O_l_pick O_l_right O_l_wide O_l_slow O_Link__init O_Link__eq O_Link__le O_Link__mul O_Link__or O_Link__and O_Link__invert
end Nw
open PySem PySem.W PySem.Calls PyProof.Rows
theorem PySem.Challenge.cw_newsinorder_k04_links_put_together_holds : PySem.Challenge.rw_newsinorder_k04_links_put_together.Holds := by
  w_on; o_law
  refine HandSHeadRun.head_any (r := OpenLaw.row PySem.Challenge.rw_newsinorder_k04_links_put_together) (q := view (OpenLaw.row PySem.Challenge.rw_newsinorder_k04_links_put_together).prog [35]) (H := Nw.hk) (ob := Nw.ob) (M := 20000) (loose := Nw.loose) (d := HandSHeadRun.topDef (OpenLaw.row PySem.Challenge.rw_newsinorder_k04_links_put_together).prog 35) (kwd := []) Nw.ob_eq
    (by kernel_rfl) (fun s => by kernel_rfl) Nw.run (by kernel_rfl) (by kernel_rfl) (by kernel_rfl) (by rfl) (by first | assumption | decide +kernel) (by decide +kernel) ⟨rfl, rfl, rfl, rfl, rfl, by decide +kernel⟩ ?hw ?hc
  case hw => w_witness2
  case hc =>
    refine L2.walk_ofE (l := PySem.Challenge.rw_newsinorder_k04_links_put_together) (n := 63) (k := 9) (x := "_law_script") (CX := L2.CX0) rfl (by decide) (by kernel_rfl) ⟨rfl, by decide, by decide⟩ ?F (fun _ _ _ _ z => z)
    intro w mg fa h Y G hmg0
    obtain ⟨K, KX, c⟩ := Y
    have hmg : mg ("law" : PySem.Str) = some (.ref fa) := by
      have e : (HandSHeadRun.topDef (OpenLaw.row PySem.Challenge.rw_newsinorder_k04_links_put_together).prog 35).name = ("law" : PySem.Str) := by kernel_rfl
      rw [← e]
      exact hmg0
    obtain ⟨fd, hb, hF⟩ := Nw.facts (P := (PySem.Challenge.rw_newsinorder_k04_links_put_together).prog) (w := w) KX G hmg c
    exact ⟨K, fd, Nw.sp_law K, KX, hb, fun H a ns hl _ hS => ⟨H, a, ns, rfl, L2.Same.refl H, hS, hl, fun _ => rfl⟩, hF⟩
