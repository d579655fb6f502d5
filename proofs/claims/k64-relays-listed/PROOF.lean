import PyProof.Rows.All
import Wide.All
import OpenK.AllK
import Wide.FinOn
import HandS.ForMost
import HandS.ForExc
import HandS.Defaults
import HandS.Style
import HandS.IsInst
import HandS.HeadHook1
import HandS.HeadHook2
import HandS.Property
import HandS.Wide
import HandS.Walk
import HandS.SortInts
import HandS.DictComp
import PyProof.ListStr
import HandS.Conv
import PyProof.EnumMake
import PyProof.Draws
import KE.GoesMore
import PyProof.InstEq
import HandS.Exc
import HandS.ExcInit
import HandS.ExcOwn
import HandS.ExcValue
import HandS.ExcField
import HandS.TryOnly
import HandS.WordsExc
import HandS.RaiseMore
import KE.KExcIs
import HandS.HeadHook3
import HandS.HeadHook4
import HandS.Lambda
import HandS.EndTab
import HandS.HeadWalk
import HandS.More
import PyProof.ReprRoads
import HandS.HeadEnd
import PyProof.StrLawsRepr
import PyProof.Rows.RegStrFacts
import HandS.DeepEq
import HandS.Flow
import PyProof.NeKinds
import PyProof.LongRange
import PyProof.ListRange
import PyProof.JoinWalk
import PyProof.DictWalks
import PyProof.CollectIter
import HandS.MapObj
import HandS.Deep
import HandS.Keys
import HandS.DictEq
import HandS.Strs
import PyProof.Rows.SortShellAny
import PySem.Challenge.RW_newsinorder_k64_relays_listed
import KE.KStateDown
import Lean
import HandS.Head0
import HandS.Head1
import HandS.Head2
set_option Elab.async false
set_option linter.all false
set_option maxRecDepth 100000
set_option maxHeartbeats 0
namespace Nw
open PySem PySem.Spec PyProof.Rows L2

/-! ### heaps: what a part of a run does to the view I (what stands for good) and the heap H -/
structure Grow (T : Addr → Prop) (I H I' H' : Hp) : Prop where
  view : Same I I'
  sub : Same I' H'
  keep : ∀ b o, ¬ T b → H b = some o → H' b = some o
  live : ∀ b, H b ≠ none → H' b ≠ none
  fresh : ∀ b, I b = none → H b ≠ none → I' b = none
  tbl : ∀ b ps, I' b = some (.tbl ps) → I b = some (.tbl ps)
/-- no table of code objects -/
abbrev NTb (o : HO) : Prop := ∀ ps, o ≠ .tbl ps
abbrev No : Addr → Prop := fun _ => False
variable {T : Addr → Prop} {I H I' H' I0 H0 I1 H1 I2 H2 J : Hp} {p l m : Addr} {o o' : HO}
theorem Same.up (h : H p = none) : Same H (upd H p o) := fun b u e => by
  rw [upd_ne (ne_of_none e h)]
  exact e
theorem Grow.refl (h : Same I H) : Grow T I H I H := ⟨Same.refl I, h, fun _ _ _ e => e, fun _ e => e, fun _ e _ => e, fun _ _ e => e⟩
theorem Grow.trans (a : Grow T I H I1 H1) (b : Grow T I1 H1 I2 H2) : Grow T I H I2 H2 :=
  ⟨a.view.trans b.view, b.sub, fun x o n e => b.keep x o n (a.keep x o n e), fun x e => b.live x (a.live x e), fun x e n => b.fresh x (a.fresh x e n) (a.live x n), fun x ps e => a.tbl x ps (b.tbl x ps e)⟩
theorem Grow.to {T' : Addr → Prop} (h : ∀ x, T x → T' x) (g : Grow T I H I' H') : Grow T' I H I' H' :=
  ⟨g.view, g.sub, fun x o n e => g.keep x o (fun t => n (h x t)) e, g.live, g.fresh, g.tbl⟩
theorem Grow.no (g : Grow No I H I' H') : Grow T I H I' H' := g.to fun _ z => z.elim
theorem Grow.same (g : Grow No I H I' H') : Same H H' := fun b o e => g.keep b o (fun z => z) e
theorem upd_tbl {b : Addr} {ps : Array Value} (n : NTb o) (e : upd H p o b = some (.tbl ps)) : H b = some (.tbl ps) := by
  unfold upd at e
  split at e
  · exact absurd (Option.some.inj e) (n ps)
  · exact e
theorem upd_live {b : Addr} (h : H b ≠ none) : upd H p o b ≠ none := by
  unfold upd
  split
  · exact fun z => nomatch z
  · exact h
/-- a new object, for good -/
theorem Grow.new (h : Same I H) (hp : H p = none) (nt : NTb o := by intro _ z; cases z) : Grow T I H (upd I p o) (upd H p o) where
  view := Same.up (h.free hp)
  sub := fun b u e => by
    by_cases q : b = p
    · subst q; rw [upd_same] at e ⊢; exact e
    · rw [upd_ne q] at e ⊢; exact h b u e
  keep := fun b u _ e => Same.up hp b u e
  live := fun b e => upd_live e
  fresh := fun b e n => by
    rw [upd_ne (fun z => n (by rw [z]; exact hp))]
    exact e
  tbl := fun b ps e => upd_tbl nt e
/-- a new object of one's own, that may change yet -/
theorem Grow.mine (h : Same I H) (hp : H p = none) : Grow T I H I (upd H p o) where
  view := Same.refl I
  sub := h.trans (Same.up hp)
  keep := fun b u _ e => Same.up hp b u e
  live := fun b e => upd_live e
  fresh := fun b e _ => e
  tbl := fun _ _ e => e
/-- an object of one's own -/
structure Own (T : Addr → Prop) (H0 : Hp) (l : Addr) (o : HO) (I H : Hp) : Prop where
  nt : ¬ T l
  n0 : H0 l = none
  ni : I l = none
  at_ : H l = some o
theorem Own.new (hs : Same I H) (h : Same H0 H ∨ (∀ b, H0 b ≠ none → H b ≠ none)) (ht : ∀ b, T b → H b ≠ none) (hp : H p = none) : Own T H0 p o I (upd H p o) := by
  refine ⟨fun t => ht p t hp, ?_, hs.free hp, upd_same⟩
  cases q : H0 p with
  | none => rfl
  | some u =>
    rcases h with h | h
    · have z := h p u q
      rw [hp] at z; cases z
    · exact absurd hp (h p (by rw [q]; exact fun z => nomatch z))
theorem Own.grow (w : Own T H0 l o I H) (g : Grow T I H I' H') : Own T H0 l o I' H' :=
  ⟨w.nt, w.n0, g.fresh l w.ni (by rw [w.at_]; exact fun z => nomatch z), g.keep l o w.nt w.at_⟩
theorem Own.put (w : Own T H0 l o I H) : Own T H0 l o' I (upd H l o') := ⟨w.nt, w.n0, w.ni, upd_same⟩
theorem Own.other (w : Own T H0 l o I H) (ne : l ≠ m) : Own T H0 l o I (upd H m o') := ⟨w.nt, w.n0, w.ni, by rw [upd_ne ne]; exact w.at_⟩
theorem Grow.put (g : Grow T I0 H0 I H) (w : Own T H0 l o I H) : Grow T I0 H0 I (upd H l o') where
  view := g.view
  sub := fun b u e => by
    rw [upd_ne (ne_of_none e w.ni)]
    exact g.sub b u e
  keep := fun b u n e => by
    rw [upd_ne (ne_of_none e w.n0)]
    exact g.keep b u n e
  live := fun b e => upd_live (g.live b e)
  fresh := g.fresh
  tbl := g.tbl
/-- it is given out: it will not change any more -/
theorem Grow.give (g : Grow T I0 H0 I H) (w : Own T H0 l o I H) (nt : NTb o := by intro _ z; cases z) : Grow T I0 H0 (upd I l o) H where
  view := g.view.trans (Same.up w.ni)
  sub := fun b u e => by
    by_cases q : b = l
    · subst q; rw [upd_same] at e; rw [w.at_]; exact e
    · rw [upd_ne q] at e; exact g.sub b u e
  keep := g.keep
  live := g.live
  fresh := fun b e n => by
    rw [upd_ne (fun z => n (by rw [z]; exact w.n0))]
    exact g.fresh b e n
  tbl := fun b ps e => g.tbl b ps (upd_tbl nt e)

/-- what was changed is younger than where one looks from -/
theorem Grow.drop (g0 : Grow T I0 H0 I H) {T' : Addr → Prop} (g : Grow T' I H I' H') (hT : ∀ b, T' b → T b ∨ H0 b = none) : Grow T I0 H0 I' H' where
  view := g0.view.trans g.view
  sub := g.sub
  keep := fun b u n e => g.keep b u (fun t => by
    rcases hT b t with z | z
    · exact n z
    · rw [z] at e; cases e) (g0.keep b u n e)
  live := fun b e => g.live b (g0.live b e)
  fresh := fun b e n => g.fresh b (g0.fresh b e n) (g0.live b n)
  tbl := fun b ps e => g0.tbl b ps (g.tbl b ps e)
/-- x is given out, with what it holds now -/
theorem Grow.give' (g : Grow T I0 H0 I H) (n0 : H0 l = none) (ni : I l = none) (h : H l = some o) (nt : NTb o := by intro _ z; cases z) : Grow T I0 H0 (upd I l o) H where
  view := g.view.trans (Same.up ni)
  sub := fun b u e => by
    by_cases q : b = l
    · subst q; rw [upd_same] at e; rw [h]; exact e
    · rw [upd_ne q] at e; exact g.sub b u e
  keep := g.keep
  live := g.live
  fresh := fun b e n => by
    rw [upd_ne (fun z => n (by rw [z]; exact n0))]
    exact g.fresh b e n
  tbl := fun b ps e => g.tbl b ps (upd_tbl nt e)

/-- an object that T names is changed -/
theorem Grow.chg (g : Grow T I0 H0 I H) (t : T p) (ni : I p = none) : Grow T I0 H0 I (upd H p o') where
  view := g.view
  sub := fun b u e => by
    rw [upd_ne (ne_of_none e ni)]
    exact g.sub b u e
  keep := fun b u n e => by
    rw [upd_ne (fun z => n (by rw [z]; exact t))]
    exact g.keep b u n e
  live := fun b e => upd_live (g.live b e)
  fresh := g.fresh
  tbl := g.tbl

/-! ### data and what stands for it -/
class Rep (α : Type) where
  is : Hp → V → α → Prop
  mono : ∀ {H H' : Hp} {v : V} {x : α}, Same H H' → is H v x → is H' v x
instance : Rep V := ⟨fun _ v x => v = x, fun _ h => h⟩
instance : Rep Int := ⟨fun _ v x => v = .int x, fun _ h => h⟩
instance : Rep Bool := ⟨fun _ v x => v = .bl x, fun _ h => h⟩
instance : Rep Str := ⟨fun _ v x => v = .str x, fun _ h => h⟩
instance : Rep Unit := ⟨fun _ v _ => v = .non, fun _ h => h⟩
theorem Paired.mono' {α β : Type} {F G : α → β → Prop} (h : ∀ a b, F a b → G a b) : ∀ {xs : List α} {ys : List β}, Paired F xs ys → Paired G xs ys
  | _, _, .nil => .nil
  | _, _, .cons a t => .cons (h _ _ a) (Paired.mono' h t)
/-- a list -/
def isL {α : Type} [Rep α] (I : Hp) (v : V) (xs : List α) : Prop := ∃ a vs, v = .ref a ∧ I a = some (.lst vs) ∧ Paired (Rep.is I) vs xs
/-- a tuple of any length, of things of one kind -/
structure Tup (α : Type) where
  l : List α
def isU {α : Type} [Rep α] (I : Hp) (v : V) (xs : List α) : Prop := ∃ a vs, v = .ref a ∧ I a = some (.tup vs) ∧ Paired (Rep.is I) vs xs
instance {α : Type} [Rep α] : Rep (List α) := ⟨isL, fun e ⟨a, vs, h1, h2, h3⟩ => ⟨a, vs, h1, e _ _ h2, Paired.mono' (fun _ _ z => Rep.mono e z) h3⟩⟩
instance {α : Type} [Rep α] : Rep (Tup α) := ⟨fun I v x => isU I v x.l, fun e ⟨a, vs, h1, h2, h3⟩ => ⟨a, vs, h1, e _ _ h2, Paired.mono' (fun _ _ z => Rep.mono e z) h3⟩⟩
/-- a pair -/
def isP {α β : Type} [Rep α] [Rep β] (I : Hp) (v : V) (x : α × β) : Prop := ∃ a v1 v2, v = .ref a ∧ I a = some (.tup [v1, v2]) ∧ Rep.is I v1 x.1 ∧ Rep.is I v2 x.2
instance {α β : Type} [Rep α] [Rep β] : Rep (α × β) := ⟨isP, fun e ⟨a, v1, v2, h1, h2, h3, h4⟩ => ⟨a, v1, v2, h1, e _ _ h2, Rep.mono e h3, Rep.mono e h4⟩⟩

/-! ### what an expression gives -/
def EvR {α : Type} [Rep α] (te : TE) (σ : L2.St) (I : Hp) (x : α) : Prop := ∀ H, Same I H → ∀ Q : VK, (∀ v I' H', Grow No I H I' H' → Rep.is I' v x → Q v H') → te σ H Q
def EvT (tt : TT) (σ : L2.St) (I : Hp) (b : Bool) : Prop := ∀ H, Same I H → ∀ Q : Bool → Hp → Prop, (∀ I' H', Grow No I H I' H' → Q b H') → tt σ H Q
def un (J I : Hp) : Hp := fun b => match J b with
  | some o => some o
  | none => I b
theorem un_l : Same J (un J I) := fun b o e => by
  unfold un
  rw [e]
theorem un_none {b : Addr} (h : J b = none) : un J I b = I b := by
  unfold un
  rw [h]
theorem Grow.join {e : Same I J} {s : Same J H} (g : Grow No I H I' H') : Grow No J H (un J I') H' ∧ Same I' (un J I') := by
  have k : Same J H' := fun b o q => g.keep b o (fun z => z) (s b o q)
  refine ⟨⟨un_l, fun b o q => ?_, g.keep, g.live, fun b n q => ?_, fun b ps q => ?_⟩, fun b o q => ?_⟩
  · cases h : J b with
    | none => rw [un_none h] at q; exact g.sub b o q
    | some u =>
      have z : un J I' b = some u := un_l b u h
      rw [z] at q; cases q
      exact k b o h
  · rw [un_none n]
    exact g.fresh b (e.free n) q
  · cases h : J b with
    | none =>
      rw [un_none h] at q
      have z := e b _ (g.tbl b ps q)
      rw [h] at z; cases z
    | some u =>
      have z : un J I' b = some u := un_l b u h
      rw [z] at q
      exact q
  · cases h : J b with
    | none => rw [un_none h]; exact q
    | some u =>
      have z : un J I' b = some u := un_l b u h
      have h1 := k b u h
      rw [g.sub b o q] at h1
      rw [z, h1]
section
variable {α β γ : Type} [Rep α] [Rep β] [Rep γ] {te ta tb tc : TE} {tt t u : TT} {σ : L2.St} {x : α} {y : β} {z : γ} {v w : V} {K : PySem.W.Frag}
theorem EvR.mono (h : EvR te σ I x) (e : Same I J) : EvR te σ J x := fun H s Q k => h H (e.trans s) Q fun v I' H' g r =>
  let ⟨g', e'⟩ := g.join (e := e) (s := s)
  k v _ H' g' (Rep.mono e' r)
theorem EvT.mono {b : Bool} (h : EvT tt σ I b) (e : Same I J) : EvT tt σ J b := fun H s Q k => h H (e.trans s) Q fun I' H' g =>
  let ⟨g', _⟩ := g.join (e := e) (s := s)
  k _ H' g'
/-- the rest of an evaluation: from the view and the heap as they stand -/
theorem EvR.go (h : EvR te σ I x) (s : Same I H) {Q : VK} (k : ∀ v I' H', Grow No I H I' H' → Rep.is I' v x → Q v H') : te σ H Q := h H s Q k
theorem evr_var {i : Nat} (h : σ[i]? = some (some v)) (r : Rep.is I v x) : EvR (tVar i) σ I x := fun H s Q k => ⟨v, h, k v I H (Grow.refl s) r⟩
theorem evr_c (r : Rep.is I v x) : EvR (tC v) σ I x := fun H s Q k => k v I H (Grow.refl s) r
theorem evr_int {i : Int} : EvR (tC (.int i)) σ I i := evr_c rfl
theorem evr_str {s : Str} : EvR (tC (.str s)) σ I s := evr_c rfl
theorem evr_bl {b : Bool} : EvR (tC (.bl b)) σ I b := evr_c rfl
theorem evr_non : EvR (tC .non) σ I () := evr_c rfl
/-- what an operator makes of two values -/
def RvR (r : R2) (I : Hp) (v w : V) (z : γ) : Prop := ∀ H, Same I H → ∀ Q : VK, (∀ u I' H', Grow No I H I' H' → Rep.is I' u z → Q u H') → r v w H Q
theorem evr_op {r : R2} (ha : EvR ta σ I x) (hb : EvR tb σ I y) (hr : ∀ J v w, Same I J → Rep.is J v x → Rep.is J w y → RvR r J v w z) : EvR (tOp r ta tb) σ I z := fun H s Q k =>
  ha H s _ fun v I1 H1 g1 r1 => (hb.mono g1.view) H1 g1.sub _ fun w I2 H2 g2 r2 => hr I2 v w (g1.view.trans g2.view) (Rep.mono g2.view r1) r2 H2 g2.sub Q fun u I3 H3 g3 r3 => k u I3 H3 ((g1.trans g2).trans g3) r3
theorem evr_opI {r : R2} {i j : Int} {z : γ} (ha : EvR ta σ I i) (hb : EvR tb σ I j) (hr : ∀ J, RvR r J (.int i) (.int j) z) : EvR (tOp r ta tb) σ I z :=
  evr_op ha hb fun J v w _ h1 h2 => by
    cases h1; cases h2
    exact hr J
theorem rvr_I0 {g : Int → Int → V} {i j : Int} (h : ∀ J, Rep.is J (g i j) z) : RvR (rI0 g) I (.int i) (.int j) z := fun H s Q k => ⟨i, j, rfl, rfl, k _ I H (Grow.refl s) (h I)⟩
theorem rvr_I {C : Int → Int → Prop} {g : Int → Int → V} {i j : Int} (hc : C i j) (h : ∀ J, Rep.is J (g i j) z) : RvR (rI C g) I (.int i) (.int j) z := fun H s Q k => ⟨i, j, rfl, rfl, hc, k _ I H (Grow.refl s) (h I)⟩
end
end Nw

namespace Nw
open PySem PySem.Spec PyProof.Rows L2

/-! ### a def and its promise, by the def's address -/
structure Ok (P : Program) (w : World) (K : PySem.W.Frag) (mg : Str → Option Value) (base : Heap) (CX : CXT) (k : Nat) (f : Addr) (ps : List Str) (sp : Sp) : Prop where
  ok : ∃ fd, FnOk P w K mg base CX k f fd ps sp ∧ Binds K fd ps [] ∧ PySem.W.keepIn K (.ref f) = true ∧ ∃ oc od osl, K.lookup f = some ⟨oc, od, .func fd, osl⟩
abbrev FnAt (K : PySem.W.Frag) (x qual : Str) (st : Stmt) (f : Addr) : Prop := ∃ fd, FunD K x qual (defArgs st) (defBody st) (defScope st) [] [] f fd
section
variable {P : Program} {w : World} {K : PySem.W.Frag} {mg : Str → Option Value} {base : Heap} {X : Cx} {CX : CXT} {k : Nat} {f C p g : Addr} {ps : List Str} {sp : Sp} {E : XK} {x m : Str} {pos ppos apos : Pos} {e o : Expr} {es : List Expr} {ta : TE} {t : TA}
theorem Ok.imp {sp' : Sp} (G : Ok P w K mg base CX k f ps sp) (h : ∀ vs H Q E, sp' vs H Q E → sp vs H Q E) : Ok P w K mg base CX k f ps sp' := by
  obtain ⟨fd, F, b, kp⟩ := G.ok
  exact ⟨fd, F.imp h, b, kp⟩
theorem Ok.up {j : Nat} (G : Ok P w K mg base CX k f ps sp) (h : k ≤ j) : Ok P w K mg base CX j f ps sp := by
  obtain ⟨fd, F, b, kp⟩ := G.ok
  exact ⟨fd, F.mono h, b, kp⟩
/-- a def that lets no exception out keeps its promise -/
theorem ok_of {qual : Str} {st : Stmt} {N : List Str} (F : FnAt K x qual st f) (S : FnScope N ps (defScope st))
    (hb : ∀ (kV doc pm : Value) (an : Option Addr) (cdv ct : Value) (us : List Value), us.length = ps.length → bindArgs (PySem.W.fnOf x qual (defArgs st) (defBody st) (defScope st) .none kV doc pm an cdv ct) ⟨us, []⟩ = pure (ps.zip us))
    (len : ∀ vs H Q E, sp vs H Q E → vs.length = ps.length)
    (hbody : ∀ (cdv : Value) (A : Around) (outer : List Env) (s : Shared) (H : Hp) (vs : List V) (Q : VK) (E : XK), Room k (A.deeper (envOfC qual (defScope st) s.heap.objs.size f cdv)) → sp vs H Q E →
      ∃ t, PSs (cxOf CX0 P w K mg base N qual (defScope st) f cdv A outer s H E).nox (defBody st) t ∧ t { nx := fun _ H' => Q .non H', rt := Q } (start N vs) H) : Ok P w K mg base CX0 (k + 1) f ps sp := by
  obtain ⟨fd, F⟩ := F
  refine ⟨fd, F.ok S len fun cdv A outer s H vs Q E hr h => ?_, F.bindsN hb, F.kp, let ⟨oc, od, _, _, _, _, _, _, _, osl, _, lk, _⟩ := F.ex; ⟨oc, od, osl, lk⟩⟩
  obtain ⟨t, h1, h2⟩ := hbody cdv A outer s H vs Q E hr h
  exact ⟨t, h1.nox, h2⟩
/-- a def that lets none out, where some may be let out -/
theorem Ok.toX {CX' : CXT} (G : Ok P w K mg base CX0 k f ps sp) : Ok P w K mg base CX' k f ps sp := by
  obtain ⟨fd, F, r⟩ := G.ok
  refine ⟨fd, ⟨F.len, fun A outer s H args us vs Q E hr e0 hb rv h => codeAny_mono (F.run A outer s H args us vs Q E hr e0 hb rv h) fun r s' hq => ?_⟩, r⟩
  cases r with
  | error e => exact (show False from hq).elim
  | ok fl => cases fl <;> exact hq
/-- both of two promises -/
theorem Ok.or {sp' : Sp} (G : Ok P w K mg base CX k f ps sp) (G' : Ok P w K mg base CX k f ps sp') : Ok P w K mg base CX k f ps (fun vs H Q E => sp vs H Q E ∨ sp' vs H Q E) := by
  obtain ⟨fd, F, b, kp, oc, od, osl, lk⟩ := G.ok
  obtain ⟨fd', F', _, _, oc', od', osl', lk'⟩ := G'.ok
  rw [lk] at lk'
  cases lk'
  refine ⟨fd, ⟨fun vs H Q E h => h.elim (F.len vs H Q E) (F'.len vs H Q E), fun A outer s H args us vs Q E hr e0 hb rv h => ?_⟩, b, kp, oc, od, osl, lk⟩
  rcases h with h | h
  · exact F.run A outer s H args us vs Q E hr e0 hb rv h
  · exact F'.run A outer s H args us vs Q E hr e0 hb rv h
theorem pe_callC (G : Ok X.prog X.w X.K X.mg X.base CX0 k f ps sp) (hr : Room k X.A) (hm : X.mg x = some (.ref f)) (ha : PA X (e :: es) t) (hg : Gl X x := by rfl) (hdb : (x == ("__debug__" : Str)) = false := by decide)
    (he : starEach (e :: es) X.env = (false, eval e X.env) :: starEach es X.env := by rfl) (hpl : (backTo pos (starEach es X.env)).any (·.1) = false := by rfl) : PE X (.Call (.Name x ppos) (e :: es) [] pos) (tCall sp [] E0 t) := by
  obtain ⟨fd, F, b, kp, _⟩ := G.ok
  exact pe_call F hr hg hm kp b .nil pass0 ha hdb he hpl
theorem pe_makeC (M : Mk X.K C f) (G : Ok X.prog X.w X.K X.mg X.base CX0 k f ps sp) (hr : Room (k + 1) X.A) (hm : X.mg x = some (.ref C)) (ha : PA X (e :: es) t) (hg : Gl X x := by rfl) (hdb : (x == ("__debug__" : Str)) = false := by decide)
    (he : starEach (e :: es) X.env = (false, eval e X.env) :: starEach es X.env := by rfl) (hpl : (backTo pos (starEach es X.env)).any (·.1) = false := by rfl) : PE X (.Call (.Name x ppos) (e :: es) [] pos) (tMake C sp [] E0 t) := by
  obtain ⟨fd, F, b, kp, _⟩ := G.ok
  exact pe_make M F hr hg hm b .nil pass0 ha hdb he hpl
theorem pe_gint {i : Int} (h : ∃ t, X.mg x = some (.int i t)) (hg : Gl X x := by rfl) (hd : (x == ("__debug__" : Str)) = false := by decide) : PE X (.Name x pos) (tC (.int i)) := by
  obtain ⟨t, h⟩ := h
  exact pe_glob hg h ⟨t, rfl⟩ hd
theorem pe_gstr {i : Str} (h : ∃ t, X.mg x = some (.str i t)) (hg : Gl X x := by rfl) (hd : (x == ("__debug__" : Str)) = false := by decide) : PE X (.Name x pos) (tC (.str i)) := by
  obtain ⟨t, h⟩ := h
  exact pe_glob hg h ⟨t, rfl⟩ hd
/-- a statement, then the others, by what holds between them -/
def tMid (t u : TS) : TS := fun D σ H => ∃ M : L2.St → Hp → Prop, t { D with nx := M } σ H ∧ ∀ σ1 H1, M σ1 H1 → u D σ1 H1
theorem pss_mid {st : Stmt} {sts : List Stmt} {t u : TS} (a : PS X st t) (b : PSs X sts u) : PSs X (st :: sts) (tMid t u) :=
  ⟨fun pins s σ H D I ⟨M, h1, h2⟩ => wpAny_execs_cons (wpAny_mono (a.run pins s σ H { D with nx := M } I h1) (fun f s1 q => by
    cases f with
    | next => exact let ⟨σ1, H1, I1, q1⟩ := q; b.run pins s1 σ1 H1 D I1 (h2 σ1 H1 q1)
    | ret v => exact q
    | brk => exact q
    | cont => exact q) fun _ _ z => z)⟩
/-- what isinstance leans on, of an own class -/
structure InsF (K : PySem.W.Frag) (C : Addr) : Prop where
  ha : PySem.W.findIn K (.ref C) "__class__" = some (some (.builtin "object.__class__"))
  hn : PySem.W.specialIn K (.builtin "object.__class__") "__get__" = some (some (.builtin "getset_descriptor.__get__"))
  htk : PySem.W.takesIn K (.builtin "object.__class__") = some true
  hm : PySem.W.mroIn K C (.type "object") = some true
def insB (K : PySem.W.Frag) (C : Addr) : Bool := decide (PySem.W.findIn K (.ref C) "__class__" = some (some (.builtin "object.__class__"))) && (decide (PySem.W.specialIn K (.builtin "object.__class__") "__get__" = some (some (.builtin "getset_descriptor.__get__"))) && (decide (PySem.W.takesIn K (.builtin "object.__class__") = some true) && decide (PySem.W.mroIn K C (.type "object") = some true)))
theorem insB_ok {K : PySem.W.Frag} {C : Addr} (h : insB K C = true) : InsF K C := by
  unfold insB at h
  simp only [Bool.and_eq_true, decide_eq_true_eq] at h
  exact ⟨h.1, h.2.1, h.2.2.1, h.2.2.2⟩
theorem InsF.ty {K : PySem.W.Frag} {H : Hp} {a C dx : Addr} {fs : List (Str × V)} (F : InsF K C) (c : Cls K C) (h : H a = some (.ins C dx fs)) : TyX K H (.ref a) (.ref C) := .base (.ins h c F.ha F.hn F.htk F.hm)
theorem kit_self {K : PySem.W.Frag} {C : Addr} : PySem.W.kitOne K (.ref C) (.ref C) = some true := by
  unfold PySem.W.kitOne
  rw [if_pos (by simp)]
theorem kit_refl {K : PySem.W.Frag} {t : Value} (h : (t == t) = true := by rfl) : PySem.W.kitOne K t t = some true := by
  unfold PySem.W.kitOne
  rw [if_pos h]
theorem kit_any_hd {K : PySem.W.Frag} {t : Value} {r : List Value} (h : (t == t) = true := by rfl) : PySem.W.kitAny K t (t :: r) = some true := by
  unfold PySem.W.kitAny
  rw [kit_refl h]
/-- xs == [] and xs != [], whatever stands in xs -/
def rNilE (K : PySem.W.Frag) : R2 := fun x y H Q => ∃ a b xs, x = .ref a ∧ y = .ref b ∧ SqL K H a xs ∧ SqL K H b [] ∧ Q (.bl xs.isEmpty) H
def rNilN (K : PySem.W.Frag) : R2 := fun x y H Q => ∃ a b xs, x = .ref a ∧ y = .ref b ∧ SqL K H a xs ∧ SqL K H b [] ∧ Q (.bl (!xs.isEmpty)) H
theorem op_eqNil (hu : X.A.units + 64 < cLine) : OpR X (compareOp .Eq) (rNilE X.K) := by
  intro pins s σ H x y v u Q I rx ry h
  obtain ⟨a, b, xs, rfl, rfl, ha, hb, q⟩ := h
  cases rx
  cases ry
  obtain ⟨its, r1, t1, z1⟩ := I.list ha
  obtain ⟨its2, r2, t2, z2⟩ := I.list hb
  cases r2
  have hu' : X.A.units < cLine := Nat.lt_of_le_of_lt (Nat.le_add_right _ _) hu
  cases r1 with
  | nil =>
    refine SeqAt.eq_listAt (e := fun _ => true) t1.isList t2.isList rfl hu' (fun j h1 => ?_) ⟨.bl true, H, I, rfl, q⟩
    exact absurd h1 (by simp)
  | cons p r => exact SeqAt.eq_list_lengthsAt t1.isList t2.isList (by simp) hu' ⟨.bl false, H, I, rfl, q⟩
theorem op_neNil (hu : X.A.units + 64 < cLine) : OpR X (compareOp .NotEq) (rNilN X.K) := by
  intro pins s σ H x y v u Q I rx ry h
  obtain ⟨a, b, xs, rfl, rfl, ha, hb, q⟩ := h
  cases rx
  cases ry
  obtain ⟨its, r1, t1, z1⟩ := I.list ha
  obtain ⟨its2, r2, t2, z2⟩ := I.list hb
  cases r2
  have hu' : X.A.units < cLine := Nat.lt_of_le_of_lt (Nat.le_add_right _ _) hu
  cases r1 with
  | nil =>
    refine SeqAt.RcNeAt.lists (e := fun _ => true) t1.isList t2.isList rfl hu' (fun j h1 => ?_) _ _ _ _ ⟨.bl false, H, I, rfl, q⟩
    exact absurd h1 (by simp)
  | cons p r => exact SeqAt.RcNeAt.lists_lengths t1.isList t2.isList (by simp) hu' _ _ _ _ ⟨.bl true, H, I, rfl, q⟩
end
end Nw

namespace Nw
open PySem PySem.Spec PyProof.Rows L2
/-! ### the source of draws: a dict, two lists -/
structure DA where
  d : Addr
  g : Addr
  l : Addr
def TD (D : DA) : Addr → Prop := fun b => b = D.d ∨ b = D.g ∨ b = D.l
abbrev drK (D : DA) (dig tn : Int) : List (Key × V) := [(.inr "digits", .int dig), (.inr "great", .ref D.g), (.inr "lumps", .ref D.l), (.inr "turn", .int tn)]
structure DrS (D : DA) (dig tn : Int) (gs ls : List Int) (I H : Hp) : Prop where
  sub : Same I H
  vd : I D.d = none
  vg : I D.g = none
  vl : I D.l = none
  dg : D.d ≠ D.g
  dl : D.d ≠ D.l
  gl : D.g ≠ D.l
  hd : H D.d = some (.dK (drK D dig tn))
  hg : H D.g = some (.lst (gs.map V.int))
  hl : H D.l = some (.lst (ls.map V.int))
structure Drw (D : DA) (n : Nat) (I H : Hp) : Prop where
  ex : ∃ (dig tn : Int) (gs ls : List Int), DrS D dig tn gs ls I H ∧ 0 ≤ dig ∧ 0 ≤ tn ∧ tn ≤ n ∧ (∀ g ∈ gs, 0 ≤ g) ∧ (∀ l ∈ ls, 0 ≤ l)
section
variable {D : DA} {dig tn : Int} {gs ls : List Int} {n : Nat} {T : Addr → Prop} {I H I' H' I0 H0 : Hp} {p l m : Addr} {o o' : HO}
theorem DrS.live (s : DrS D dig tn gs ls I H) : ∀ b, TD D b → H b ≠ none := fun b t => by
  rcases t with rfl | rfl | rfl
  · rw [s.hd]; exact fun z => nomatch z
  · rw [s.hg]; exact fun z => nomatch z
  · rw [s.hl]; exact fun z => nomatch z
theorem Drw.live (w : Drw D n I H) : ∀ b, TD D b → H b ≠ none := let ⟨_, _, _, _, s, _⟩ := w.ex; s.live
theorem Drw.sub (w : Drw D n I H) : Same I H := let ⟨_, _, _, _, s, _⟩ := w.ex; s.sub
theorem DrS.grow (s : DrS D dig tn gs ls I H) (g : Grow No I H I' H') : DrS D dig tn gs ls I' H' :=
  ⟨g.sub, g.fresh _ s.vd (s.live _ (.inl rfl)), g.fresh _ s.vg (s.live _ (.inr (.inl rfl))), g.fresh _ s.vl (s.live _ (.inr (.inr rfl))), s.dg, s.dl, s.gl, g.keep _ _ (fun z => z) s.hd, g.keep _ _ (fun z => z) s.hg, g.keep _ _ (fun z => z) s.hl⟩
theorem Drw.grow (w : Drw D n I H) (g : Grow No I H I' H') : Drw D n I' H' := let ⟨a, b, c, d, s, r⟩ := w.ex; ⟨a, b, c, d, s.grow g, r⟩
theorem DrS.put (s : DrS D dig tn gs ls I H) (nt : ¬ TD D m) (ni : I m = none) : DrS D dig tn gs ls I (upd H m o) :=
  ⟨fun b u e => by rw [upd_ne (ne_of_none e ni)]; exact s.sub b u e, s.vd, s.vg, s.vl, s.dg, s.dl, s.gl, by rw [upd_ne fun z => nt (.inl z.symm)]; exact s.hd, by rw [upd_ne fun z => nt (.inr (.inl z.symm))]; exact s.hg, by rw [upd_ne fun z => nt (.inr (.inr z.symm))]; exact s.hl⟩
theorem Drw.put (w : Drw D n I H) (x : Own (TD D) H0 m o I H) : Drw D n I (upd H m o') := let ⟨a, b, c, d, s, r⟩ := w.ex; ⟨a, b, c, d, s.put x.nt x.ni, r⟩
theorem Drw.give (w : Drw D n I H) (x : Own (TD D) H0 m o I H) : Drw D n (upd I m o) H := by
  obtain ⟨a, b, c, d, s, r⟩ := w.ex
  refine ⟨a, b, c, d, ⟨fun q u e => ?_, ?_, ?_, ?_, s.dg, s.dl, s.gl, s.hd, s.hg, s.hl⟩, r⟩
  · by_cases z : q = m
    · subst z; rw [upd_same] at e; rw [x.at_]; exact e
    · rw [upd_ne z] at e; exact s.sub q u e
  · rw [upd_ne fun z => x.nt (.inl z.symm)]; exact s.vd
  · rw [upd_ne fun z => x.nt (.inr (.inl z.symm))]; exact s.vg
  · rw [upd_ne fun z => x.nt (.inr (.inr z.symm))]; exact s.vl
theorem Drw.mono {m : Nat} (w : Drw D n I H) (h : n ≤ m) : Drw D m I H := by
  obtain ⟨a, b, c, d, s, h1, h2, h3, h4⟩ := w.ex
  exact ⟨a, b, c, d, s, h1, h2, by omega, h4⟩
theorem DrS.up (s : DrS D dig tn gs ls I H) {d2 t2 : Int} (hH : Same I H') (h1 : H' D.d = some (.dK (drK D d2 t2))) {gs2 : List Int} (h2 : H' D.g = some (.lst (gs2.map V.int))) (h3 : H' D.l = some (.lst (ls.map V.int))) : DrS D d2 t2 gs2 ls I H' :=
  ⟨hH, s.vd, s.vg, s.vl, s.dg, s.dl, s.gl, h1, h2, h3⟩
/-- only the source's own objects change -/
theorem DrS.gd (s : DrS D dig tn gs ls I H) (g : Grow (TD D) I0 H0 I H) : Grow (TD D) I0 H0 I (upd H D.d o) where
  view := g.view
  sub := fun b u e => by rw [upd_ne (ne_of_none e s.vd)]; exact g.sub b u e
  keep := fun b u n e => by rw [upd_ne fun z => n (.inl z)]; exact g.keep b u n e
  live := fun b e => upd_live (g.live b e)
  fresh := g.fresh
  tbl := g.tbl
theorem DrS.gg (s : DrS D dig tn gs ls I H) (g : Grow (TD D) I0 H0 I H) : Grow (TD D) I0 H0 I (upd H D.g o) where
  view := g.view
  sub := fun b u e => by rw [upd_ne (ne_of_none e s.vg)]; exact g.sub b u e
  keep := fun b u n e => by rw [upd_ne fun z => n (.inr (.inl z))]; exact g.keep b u n e
  live := fun b e => upd_live (g.live b e)
  fresh := g.fresh
  tbl := g.tbl
end
theorem putK_new {κ : Type} [DecidableEq κ] {kvs : List (κ × V)} {k : κ} {v : V} (h : k ∉ kvs.map (·.1)) : putK kvs k v = kvs ++ [(k, v)] := by
  unfold putK
  have e : (kvs.any fun kv => decide (kv.1 = k)) = false := by
    rw [List.any_eq_false]
    intro kv hkv z
    exact h (List.mem_map.mpr ⟨kv, hkv, of_decide_eq_true z⟩)
  rw [e, if_neg Bool.false_ne_true]
theorem merge_app : ∀ {more acc : List (Key × V)}, (∀ k ∈ more.map (·.1), k ∉ acc.map (·.1)) → (more.map (·.1)).Nodup → mergeK acc more = acc ++ more
  | [], acc, _, _ => (List.append_nil acc).symm
  | q :: r, acc, h, nd => by
    have h1 : putK acc q.1 q.2 = acc ++ [q] := putK_new (h q.1 (List.mem_cons_self ..))
    have nd' := List.nodup_cons.mp nd
    have ih := merge_app (more := r) (acc := acc ++ [q]) (fun k hk => by
      rw [List.map_append, List.mem_append]
      rintro (z | z)
      · exact h k (List.mem_cons_of_mem _ hk) z
      · simp at z; subst z; exact nd'.1 hk) nd'.2
    show mergeK (putK acc q.1 q.2) r = acc ++ q :: r
    rw [h1, ih, List.append_assoc] <;> rfl
theorem merge_nodup {kvs : List (Key × V)} (h : (kvs.map (·.1)).Nodup) : mergeK [] kvs = kvs := merge_app (fun _ _ z => by cases z) h
theorem k12 : ¬ ((Sum.inr "digits" : Key) = (Sum.inr "great" : Key)) := by decide +kernel
theorem k13 : ¬ ((Sum.inr "digits" : Key) = (Sum.inr "lumps" : Key)) := by decide +kernel
theorem k14 : ¬ ((Sum.inr "digits" : Key) = (Sum.inr "turn" : Key)) := by decide +kernel
theorem k23 : ¬ ((Sum.inr "great" : Key) = (Sum.inr "lumps" : Key)) := by decide +kernel
theorem k24 : ¬ ((Sum.inr "great" : Key) = (Sum.inr "turn" : Key)) := by decide +kernel
theorem k34 : ¬ ((Sum.inr "lumps" : Key) = (Sum.inr "turn" : Key)) := by decide +kernel
variable {D : DA} {dig tn i : Int}
theorem val_dig : valV (drK D dig tn) (Sum.inr "digits") = some (.int dig) := valV_pos rfl
theorem val_great : valV (drK D dig tn) (Sum.inr "great") = some (.ref D.g) := (valV_neg k12).trans (valV_pos rfl)
theorem val_lumps : valV (drK D dig tn) (Sum.inr "lumps") = some (.ref D.l) := (valV_neg k13).trans ((valV_neg k23).trans (valV_pos rfl))
theorem val_turn : valV (drK D dig tn) (Sum.inr "turn") = some (.int tn) := (valV_neg k14).trans ((valV_neg k24).trans ((valV_neg k34).trans (valV_pos rfl)))
theorem put_dig : putK (drK D dig tn) (Sum.inr "digits") (.int i) = drK D i tn := by
  unfold putK
  rw [valV_any, val_dig]
  show (if true = true then _ else _) = _
  rw [if_pos rfl]
  simp only [List.map_cons, List.map_nil]
  rw [if_pos trivial, if_neg (Ne.symm k12), if_neg (Ne.symm k13), if_neg (Ne.symm k14)]
theorem put_turn : putK (drK D dig tn) (Sum.inr "turn") (.int i) = drK D dig i := by
  unfold putK
  rw [valV_any, val_turn]
  show (if true = true then _ else _) = _
  rw [if_pos rfl]
  simp only [List.map_cons, List.map_nil]
  rw [if_neg k14, if_neg k24, if_neg k34, if_pos trivial]
def lim : Nat := 1099511627776
/-- a number below many -/
def spNext : Sp := fun vs H Q _ => ∃ (I : Hp) (D : DA) (n : Nat) (many : Int), vs = [.ref D.d, .int many] ∧ Drw D n I H ∧ 0 < many ∧ many < 1073741824 ∧ n < lim ∧
  ∀ (r : Int) (H' : Hp), 0 ≤ r → r < many → Grow (TD D) I H I H' → Drw D (n + 1) I H' → Q (.int r) H'
theorem DrS.get_dig {gs ls : List Int} {I H : Hp} (s : DrS D dig tn gs ls I H) : DGet H D.d (.str "digits") (some (.int dig)) := by
  have z := DGet.k (k := .inr "digits") s.hd
  rw [val_dig] at z
  exact z
theorem DrS.get_great {gs ls : List Int} {I H : Hp} (s : DrS D dig tn gs ls I H) : DGet H D.d (.str "great") (some (.ref D.g)) := by
  have z := DGet.k (k := .inr "great") s.hd
  rw [val_great] at z
  exact z
theorem DrS.get_lumps {gs ls : List Int} {I H : Hp} (s : DrS D dig tn gs ls I H) : DGet H D.d (.str "lumps") (some (.ref D.l)) := by
  have z := DGet.k (k := .inr "lumps") s.hd
  rw [val_lumps] at z
  exact z
theorem DrS.get_turn {gs ls : List Int} {I H : Hp} (s : DrS D dig tn gs ls I H) : DGet H D.d (.str "turn") (some (.int tn)) := by
  have z := DGet.k (k := .inr "turn") s.hd
  rw [val_turn] at z
  exact z
theorem DrS.put_dig {gs ls : List Int} {I H : Hp} (s : DrS D dig tn gs ls I H) : DPut H D.d (.str "digits") (.int i) (upd H D.d (.dK (drK D i tn))) := by
  have z := DPut.k (k := .inr "digits") (v := .int i) s.hd (by show 4 < sizeLine; decide)
  rw [Nw.put_dig] at z
  exact z
theorem DrS.put_turn {gs ls : List Int} {I H : Hp} (s : DrS D dig tn gs ls I H) : DPut H D.d (.str "turn") (.int i) (upd H D.d (.dK (drK D dig i))) := by
  have z := DPut.k (k := .inr "turn") (v := .int i) s.hd (by show 4 < sizeLine; decide)
  rw [Nw.put_turn] at z
  exact z
end Nw

namespace Nw
open PySem PySem.Spec PyProof.Rows L2
/-- what is said of the heap stands through the making and changing of other things -/
structure Stable (T : Addr → Prop) (R : Hp → Hp → Prop) : Prop where
  grow : ∀ {I H I' H' : Hp}, R I H → Grow No I H I' H' → R I' H'
  put : ∀ {H0 : Hp} {m : Addr} {o o' : HO} {I H : Hp}, R I H → Own T H0 m o I H → R I (upd H m o')
  give : ∀ {H0 : Hp} {m : Addr} {o : HO} {I H : Hp}, R I H → Own T H0 m o I H → R (upd I m o) H
theorem Stable.triv {T : Addr → Prop} : Stable T fun _ _ => True := ⟨fun _ _ => trivial, fun _ _ => trivial, fun _ _ => trivial⟩
theorem Stable.drw {D : DA} {n : Nat} : Stable (TD D) (Drw D n) := ⟨fun w g => w.grow g, fun w x => w.put x, fun w x => w.give x⟩
theorem Paired.snoc {α β : Type} {F : α → β → Prop} : ∀ {xs : List α} {ys : List β} {x : α} {y : β}, Paired F xs ys → F x y → Paired F (xs ++ [x]) (ys ++ [y])
  | _, _, _, _, .nil, h => .cons h .nil
  | _, _, _, _, .cons a t, h => .cons a (Paired.snoc t h)
theorem Paired.at {α β : Type} {F : α → β → Prop} : ∀ {xs : List α} {ys : List β} {i : Nat} {y : β}, Paired F xs ys → ys[i]? = some y → ∃ x, xs[i]? = some x ∧ F x y
  | _, _, _, _, .nil, h => by simp at h
  | _, _, 0, _, .cons a t, h => by simp at h; subst h; exact ⟨_, rfl, a⟩
  | _, _, i + 1, _, .cons a t, h => by
    obtain ⟨x, h1, h2⟩ := Paired.at (i := i) t (by simpa using h)
    exact ⟨x, by simpa using h1, h2⟩
theorem Paired.at' {α β : Type} {F : α → β → Prop} : ∀ {xs : List α} {ys : List β} {i : Nat} {x : α}, Paired F xs ys → xs[i]? = some x → ∃ y, ys[i]? = some y ∧ F x y
  | _, _, _, _, .nil, h => by simp at h
  | _, _, 0, _, .cons a t, h => by simp at h; subst h; exact ⟨_, rfl, a⟩
  | _, _, i + 1, _, .cons a t, h => by
    obtain ⟨x, h1, h2⟩ := Paired.at' (i := i) t (by simpa using h)
    exact ⟨x, by simpa using h1, h2⟩
theorem Paired.len {α β : Type} {F : α → β → Prop} : ∀ {xs : List α} {ys : List β}, Paired F xs ys → xs.length = ys.length
  | _, _, .nil => rfl
  | _, _, .cons a t => congrArg (· + 1) (Paired.len t)
theorem lc_yes {te : TE} {σ : L2.St} {H : Hp} {Ky : VK} {Kn : Hp → Prop} (h : te σ H Ky) : tYes σ H (fun b H3 => if b = true then te σ H3 Ky else Kn H3) := by
  show (if true = true then te σ H Ky else Kn H)
  rw [if_pos rfl]
  exact h
section
variable {β : Type} [Rep β] {J : It} {n : Nat} {G : Hp → Prop} {Y : Nat → Hp → V → Hp → Prop} {T : Addr → Prop} {I H1 : Hp} {L : Addr} {g : TG} {tt : TT} {te : TE} {vs : List Nat} {σ : L2.St} {Qd : Hp → Prop}
/-- a comprehension over anything that is walked -/
theorem lc_gen (w : Walk J n G Y) (R : Nat → Hp → Hp → Prop) (hR : ∀ i, Stable T (R i)) (sub : Same I H1) (hT : ∀ b, T b → H1 b ≠ none) (hL : H1 L = none) (r0 : R 0 I H1) (hn : n ≤ 16777216)
    (hG : ∀ i I' H', Grow T I H1 I' H' → R i I' H' → G H') (P : Nat → Option β → Prop)
    (step : ∀ i x I' H' H'', i < n → Grow T I H1 I' H' → R i I' H' → Y i H' x H'' → ∀ (Kn : Hp → Prop) (Ky : V → Hp → Prop), (P i none → ∀ I2 H2, Grow T I' H' I2 H2 → R (i + 1) I2 H2 → Kn H2) →
      (∀ y, P i (some y) → ∀ v I2 H2, Grow T I' H' I2 H2 → R (i + 1) I2 H2 → Rep.is I2 v y → Ky v H2) →
      g x (wipe σ vs) H'' fun σ2 H2 => wipe σ2 vs = wipe σ vs ∧ tt σ2 H2 fun b H3 => if b = true then te σ2 H3 Ky else Kn H3)
    (done : ∀ (os : List (Option β)) I' H' vs', os.length = n → (∀ i o, os[i]? = some o → P i o) → Grow T I H1 I' H' → R n I' H' → Own T H1 L (.lst vs') I' H' → Paired (Rep.is I') vs' (os.filterMap id) → Qd H') :
    ∃ W : Nat → Nat → Hp → Prop, (∃ m, W 0 m (upd H1 L (.lst []))) ∧ ∀ i m H, W i m H →
      (J.stop i H ∧ Qd H) ∨ (J.go i H ∧ ∃ Nx : Hp → Prop, (∀ H', Nx H' → ∃ m', m' < m ∧ W (i + 1) m' H') ∧ ∀ x H', J.yld i H x H' → g x (wipe σ vs) H' fun σ2 H2 => wipe σ2 vs = wipe σ vs ∧ tt σ2 H2 fun b H3 =>
        if b = true then te σ2 H3 fun y H4 => ∃ acc, H4 L = some (.lst acc) ∧ acc.length < sizeLine ∧ Nx (upd H4 L (.lst (acc ++ [y]))) else Nx H3) := by
  refine lc_it w (fun i H => i ≤ n ∧ ∃ I' acc, ∃ os : List (Option β), Grow T I H1 I' H ∧ R i I' H ∧ Own T H1 L (.lst acc) I' H ∧ os.length = i ∧ acc.length ≤ i ∧ (∀ j o, os[j]? = some o → P j o) ∧ Paired (Rep.is I') acc (os.filterMap id))
    ⟨Nat.zero_le _, I, [], [], Grow.mine sub hL, (hR 0).grow r0 (Grow.mine sub hL), Own.new sub (.inl (Same.refl H1)) hT hL, rfl, Nat.le_refl _, fun j o e => by simp at e, .nil⟩ (fun i H _ ⟨_, I', _, _, g1, r1, _⟩ => hG i I' H g1 r1) ?_ ?_
  · rintro i x H H' hi ⟨_, I', acc, os, g1, r1, ow, hl, ha, hP, hp⟩ y
    have hz : acc.length < sizeLine := by rw [sizeLine_eq]; omega
    refine step i x I' H H' hi g1 r1 y (fun H3 => i + 1 ≤ n ∧ ∃ I' acc, ∃ os : List (Option β), Grow T I H1 I' H3 ∧ R (i + 1) I' H3 ∧ Own T H1 L (.lst acc) I' H3 ∧ os.length = i + 1 ∧ acc.length ≤ i + 1 ∧ (∀ j o, os[j]? = some o → P j o) ∧ Paired (Rep.is I') acc (os.filterMap id)) _ (fun h0 I2 H2 g2 r2 => ?_) (fun z hz2 v I2 H2 g2 r2 hv => ?_)
    · refine ⟨hi, I2, acc, os ++ [none], g1.trans g2, r2, ow.grow g2, by simp [hl], by omega, fun j o e => ?_, ?_⟩
      · rw [List.getElem?_append] at e
        split at e
        · exact hP j o e
        · rename_i hj
          cases q : j - os.length with
          | zero =>
            rw [q] at e
            simp at e; subst e
            have : j = i := by omega
            rw [this]; exact h0
          | succ k => rw [q] at e; simp at e
      · rw [List.filterMap_append]
        simp only [List.filterMap_cons, List.filterMap_nil, id, List.append_nil]
        exact Paired.mono' (fun _ _ z => Rep.mono g2.view z) hp
    · have ow2 := ow.grow g2
      refine ⟨acc, ow2.at_, hz, hi, I2, acc ++ [v], os ++ [some z], (g1.trans g2).put ow2, (hR _).put r2 ow2, ow2.put, by simp [hl], by simp; omega, fun j o e => ?_, ?_⟩
      · rw [List.getElem?_append] at e
        split at e
        · exact hP j o e
        · rename_i hj
          cases q : j - os.length with
          | zero =>
            rw [q] at e
            simp at e; subst e
            have : j = i := by omega
            rw [this]; exact hz2
          | succ k => rw [q] at e; simp at e
      · rw [List.filterMap_append]
        exact Paired.snoc (Paired.mono' (fun _ _ z => Rep.mono g2.view z) hp) hv
  · rintro H ⟨_, I', acc, os, g1, r1, ow, hl, ha, hP, hp⟩
    exact done os I' H acc hl hP g1 r1 ow hp
end
theorem os_eq {α β : Type} {f : α → β} : ∀ {xs : List α} {os : List β}, os.length = xs.length → (∀ (i : Nat) (o : β), os[i]? = some o → ∃ x, xs[i]? = some x ∧ o = f x) → os = xs.map f
  | [], [], _, _ => rfl
  | [], _ :: _, h, _ => by simp at h
  | _ :: _, [], h, _ => by simp at h
  | x :: xs, o :: os, h, hP => by
    obtain ⟨z, h1, h2⟩ := hP 0 o rfl
    simp at h1
    subst h1
    rw [List.map_cons, h2, os_eq (f := f) (xs := xs) (os := os) (by simpa using h) fun i o' e => hP (i + 1) o' (by simpa using e)]
theorem fm_id {α β : Type} {f : α → Option β} (xs : List α) : (xs.map f).filterMap id = xs.filterMap f := by
  rw [List.filterMap_map]
  rfl
theorem Paired.ints {I : Hp} : ∀ {vs : List V} {ns : List Int}, Paired (Rep.is I) vs ns → vs = ns.map V.int
  | _, _, .nil => rfl
  | _, _, .cons h t => by
    have e : _ = V.int _ := h
    rw [List.map_cons, e, Paired.ints t]
theorem Paired.bls {I : Hp} : ∀ {vs : List V} {ns : List Bool}, Paired (Rep.is I) vs ns → vs = ns.map V.bl
  | _, _, .nil => rfl
  | _, _, .cons h t => by
    have e : _ = V.bl _ := h
    rw [List.map_cons, e, Paired.bls t]
theorem Paired.strs {I : Hp} : ∀ {vs : List V} {ns : List Str}, Paired (Rep.is I) vs ns → vs = ns.map V.str
  | _, _, .nil => rfl
  | _, _, .cons h t => by
    have e : _ = V.str _ := h
    rw [List.map_cons, e, Paired.strs t]
section
variable {α β : Type} [Rep β] {J : It} {n : Nat} {G : Hp → Prop} {Y : Nat → Hp → V → Hp → Prop} {I H1 : Hp} {L : Addr} {g : TG} {tt : TT} {te : TE} {vs : List Nat} {σ : L2.St} {Qd : Hp → Prop}
/-- a comprehension that only makes: its list is xs.filterMap f -/
theorem lc_pure (w : Walk J n G Y) (xs : List α) (f : α → Option β) (hx : xs.length = n) (sub : Same I H1) (hL : H1 L = none) (hn : n ≤ 16777216) (hG : ∀ I' H', Grow No I H1 I' H' → G H')
    (step : ∀ i x v I' H' H'', xs[i]? = some x → Grow No I H1 I' H' → Y i H' v H'' → ∀ (Kn : Hp → Prop) (Ky : V → Hp → Prop), (f x = none → ∀ I2 H2, Grow No I' H' I2 H2 → Kn H2) →
      (∀ y, f x = some y → ∀ v I2 H2, Grow No I' H' I2 H2 → Rep.is I2 v y → Ky v H2) →
      g v (wipe σ vs) H'' fun σ2 H2 => wipe σ2 vs = wipe σ vs ∧ tt σ2 H2 fun b H3 => if b = true then te σ2 H3 Ky else Kn H3)
    (done : ∀ I' H' vs', Grow No I H1 I' H' → Own No H1 L (.lst vs') I' H' → Paired (Rep.is I') vs' (xs.filterMap f) → Qd H') :
    ∃ W : Nat → Nat → Hp → Prop, (∃ m, W 0 m (upd H1 L (.lst []))) ∧ ∀ i m H, W i m H →
      (J.stop i H ∧ Qd H) ∨ (J.go i H ∧ ∃ Nx : Hp → Prop, (∀ H', Nx H' → ∃ m', m' < m ∧ W (i + 1) m' H') ∧ ∀ x H', J.yld i H x H' → g x (wipe σ vs) H' fun σ2 H2 => wipe σ2 vs = wipe σ vs ∧ tt σ2 H2 fun b H3 =>
        if b = true then te σ2 H3 fun y H4 => ∃ acc, H4 L = some (.lst acc) ∧ acc.length < sizeLine ∧ Nx (upd H4 L (.lst (acc ++ [y]))) else Nx H3) := by
  refine lc_gen (T := No) w (fun _ _ _ => True) (fun _ => Stable.triv) sub (fun _ z => z.elim) hL trivial hn (fun _ I' H' g _ => hG I' H' g) (fun i o => ∃ x, xs[i]? = some x ∧ o = f x) ?_ ?_
  · intro i v I' H' H'' hi g1 _ y Kn Ky kn ky
    have hi' : i < xs.length := by omega
    have hx' : xs[i]? = some xs[i] := List.getElem?_eq_getElem hi'
    exact step i _ v I' H' H'' hx' g1 y Kn Ky (fun e I2 H2 g2 => kn ⟨_, hx', e.symm⟩ I2 H2 g2 trivial) fun z e v I2 H2 g2 r => ky z ⟨_, hx', e.symm⟩ v I2 H2 g2 trivial r
  · intro os I' H' vs' hl hP g1 _ ow hp
    have e : os.filterMap id = xs.filterMap f := by
      rw [os_eq (f := f) (by omega) hP, fm_id]
    rw [e] at hp
    exact done I' H' vs' g1 ow hp
end
theorem sum_ones {α : Type} : ∀ l : List α, (l.map (fun _ => 1)).sum = l.length
  | [] => rfl
  | x :: r => by
    rw [List.map_cons, List.sum_cons, sum_ones r, List.length_cons]
    omega
theorem fm_some {α β : Type} {f : α → β} (xs : List α) : xs.filterMap (fun x => some (f x)) = xs.map f := by
  induction xs with
  | nil => rfl
  | cons x r ih => rw [List.filterMap_cons, List.map_cons, ih]
theorem take_fold {α β : Type} {f : β → α → β} {b : β} {l : List α} {i : Nat} {x : α} (h : l[i]? = some x) : (l.take (i + 1)).foldl f b = f ((l.take i).foldl f b) x := by
  rw [List.take_add_one, h, List.foldl_append]
  rfl
theorem mem_take {α : Type} {l : List α} {i : Nat} {r : α} (h : l[i]? = some r) {x : α} : x ∈ l.take (i + 1) ↔ x ∈ l.take i ∨ x = r := by
  rw [List.take_add_one, h, List.mem_append]
  simp
end Nw

namespace Nw
open PySem PySem.Spec PyProof.Rows L2
/-! ### texts as lists of signs -/
def mk (l : List Nat) : Str := ⟨l.toArray⟩
abbrev sg (c : Nat) : Str := ⟨#[c]⟩
theorem mk_sg (c : Nat) : mk [c] = sg c := rfl
theorem mk_list (s : Str) : mk s.cps.toList = s := rfl
theorem mk_app (a b : List Nat) : mk a ++ mk b = mk (a ++ b) := by
  show (⟨a.toArray ++ b.toArray⟩ : Str) = ⟨(a ++ b).toArray⟩
  simp
theorem mk_inj {a b : List Nat} (h : mk a = mk b) : a = b := by
  have z := congrArg (fun s : Str => s.cps.toList) h
  simpa [mk] using z
theorem mk_len (a : List Nat) : (mk a).length = a.length := by simp [mk, Str.length]
theorem mk_cps (a : List Nat) : (mk a).cps.toList = a := by simp [mk]
theorem mk_nil : mk [] = ("" : Str) := rfl
theorem join_signs : ∀ cs : List Nat, Txt.join ("" : Str) (cs.map sg) = mk cs := by
  intro cs
  unfold Txt.join
  rw [StrLaws.glued_eq_join]
  induction cs with
  | nil => rfl
  | cons c r ih =>
    cases r with
    | nil => rfl
    | cons d t =>
      show sg c ++ ("" : Str) ++ Str.join ("" : Str) ((d :: t).map sg) = mk (c :: d :: t)
      rw [ih]
      rw [← mk_nil, ← mk_sg, mk_app, mk_app] <;> rfl
theorem upper_sg {c : Nat} (h : c < 128) : Txt.upper (sg c) = sg (up1 c) := by
  rw [upper_ascii (by intro d hd; simp at hd; omega)]
  simp [sg]
theorem lower_sg {c : Nat} (h : c < 128) : Txt.lower (sg c) = sg (lo1 c) := by
  rw [lower_ascii (by intro d hd; simp at hd; omega)]
  simp [sg]
theorem upper_mk {l : List Nat} (h : ∀ c ∈ l, c < 128) : Txt.upper (mk l) = mk (l.map up1) := by
  rw [upper_ascii (by rw [mk_cps]; exact h)]
  simp [mk]
/-! ### z[::-1] -/
def tRevS (te : TE) : TE := fun σ H Q => te σ H fun x H1 => ∃ l : List Nat, x = .str (mk l) ∧ l.length ≤ 16777216 ∧ Q (.str (mk l.reverse)) H1
theorem rev_pick (z : Str) : (Builtin.Str.strSliceIndices none none (-1) z.length).filterMap (z.cps[·]?) = z.cps.toList.reverse := by
  have e : Builtin.Str.strSliceIndices none none (-1) z.length = (List.range z.cps.size).reverse := by
    unfold Builtin.Str.strSliceIndices
    show sliceRange ((z.cps.size : Int) - 1) (-1) (-1) = _
    rw [PySem.W.krv_sliceRange, PySem.W.krv_range]
  rw [e, List.filterMap_reverse, PySem.W.krv_all]
theorem pe_revS {X : Cx} {e : Expr} {te : TE} {k : Nat} {p1 p2 p3 pos : Pos} (he : PE X e te) : PE X (.Subscript e (.Slice none none (some (.UnaryOp .USub (.Constant (.int 1) k p1) p2)) p3) pos) (tRevS te) := by
  refine ⟨fun pins s σ H Q I h => Subscript_ (wpAny_mono (he.run pins s σ H _ I h) (fun v s1 hv => ?_) fun _ _ z => z)⟩
  obtain ⟨x, H1, I1, r1, l, ex, hz, q⟩ := hv
  subst ex
  obtain ⟨t, rfl⟩ := r1
  have hst : PO X (some (.UnaryOp .USub (.Constant (.int 1) k p1) p2)) (tPart (tUn (rU fun i => .int (-i)) (tC (.int 1)))) := po_some (pe_un un_neg pe_int)
  refine wpAny_Slice (wpAny_mono (po_none.run pins s1 σ H1 (fun o H2 => o = none ∧ H2 = H1) I1 ⟨rfl, rfl⟩) (fun vl s2 h2 => ?_) fun _ _ z => z)
  obtain ⟨lo, H2, I2, pl, el, e2⟩ := h2
  subst el e2
  refine wpAny_mono (po_none.run pins s2 σ H2 (fun o H3 => o = none ∧ H3 = H2) I2 ⟨rfl, rfl⟩) (fun vu s3 h3 => ?_) fun _ _ z => z
  obtain ⟨hi, H3, I3, pu, eu, e3⟩ := h3
  subst eu e3
  refine wpAny_mono (hst.run pins s3 σ H3 (fun o H4 => o = some (-1) ∧ H4 = H3) I3 ⟨1, rfl, -1, rfl, rfl, rfl⟩) (fun vs s4 h4 => ?_) fun _ _ z => z
  obtain ⟨o, H4, I4, ps, eo, e4⟩ := h4
  subst eo e4
  obtain ⟨l1, rfl, e1⟩ := IsPart.raw pl
  obtain ⟨u1, rfl, e2⟩ := IsPart.raw pu
  obtain ⟨t1, rfl, e3⟩ := IsPart.raw ps
  have I5 : Inv X pins σ H4 { s4 with heap := s4.heap.push { cls := .type "slice", data := .fields #[partValue l1, partValue u1, partValue t1] } } := I4.kept (t' := s4.toks) fun b ob q => Heap.get?_push_of_some _ q
  refine tail_any (ops := [.ref s4.heap.objs.size, .str (mk l) t]) (typeIs_str _ _ _) PySem.F.slot_str_getitem.lookup ?_ (by with_unfolding_all rfl)
  refine wpAny_getItem_str_slice (l := l1) (u := u1) (st := t1) ⟨_, Heap.get?_push_size _ rfl, rfl, rfl⟩ (by rw [e3]; rfl) ?_
  unfold sliceMade slicePicked
  rw [e3, e1, e2]
  rw [if_neg (by intro z; exact Bool.noConfusion z)]
  show Made.post (Made.str ⟨((Builtin.Str.strSliceIndices none none (-1) (mk l).length).filterMap ((mk l).cps[·]?)).toArray⟩) (EP X pins σ Q) _
  rw [rev_pick, mk_cps]
  refine ⟨?_, .str (mk l.reverse), H4, I5.tok _, ⟨_, rfl⟩, q⟩
  show (mk l.reverse).length ≤ sizeLine
  rw [mk_len, List.length_reverse, sizeLine_eq]
  exact hz
end Nw

namespace Nw
open PySem PySem.Spec PyProof.Rows L2
theorem atI_rev {α : Type} (st : List α) (j : Nat) (i : Int) (hi : i = -(j : Int) - 1) : atI st.reverse i = st[j]? := by
  subst hi
  unfold atI ixN
  rw [if_neg (by omega), List.length_reverse]
  by_cases h : j < st.length
  · rw [if_pos (by omega)]
    have e : (-(j : Int) - 1 + (st.length : Int)).toNat = st.length - 1 - j := by omega
    rw [e]
    show st.reverse[st.length - 1 - j]? = st[j]?
    rw [List.getElem?_reverse (by omega)]
    congr 1
    omega
  · rw [if_neg (by omega), List.getElem?_eq_none (by omega)]
    rfl
theorem atI_nat' {α : Type} {xs : List α} {j : Nat} {i : Int} (hi : i = (j : Int)) : atI xs i = xs[j]? := by
  subst hi
  unfold atI ixN
  rw [if_pos (by omega)]
  by_cases h : j < xs.length
  · rw [if_pos (by omega)]
    rfl
  · rw [if_neg (by omega), List.getElem?_eq_none (by omega)]
    rfl
theorem cut_rev2 (st : List V) (h : 2 ≤ st.length) : cutV st.reverse none (some (-2)) = (st.drop 2).reverse := by
  unfold cutV
  have e1 : HT.sIx st.reverse.length st.reverse.length (some (-2)) = ((-2 : Int) + (st.reverse.length : Int)).toNat := by
    show (if (-2 : Int) < 0 then ((-2 : Int) + (st.reverse.length : Int)).toNat else min (-2 : Int).toNat st.reverse.length) = _
    rw [if_pos (by decide)]
  have e2 : HT.sIx st.reverse.length 0 none = 0 := rfl
  rw [e1, e2, List.drop_zero, List.length_reverse, Nat.sub_zero]
  have e : ((-2 : Int) + (st.length : Int)).toNat = st.length - 2 := by omega
  rw [e, List.take_reverse]
  congr 1
  congr 1
  omega
/-- a dict comprehension over anything that is walked -/
theorem dc_it {J : It} {n : Nat} {G : Hp → Prop} {Y : Nat → Hp → V → Hp → Prop} (w : Walk J n G Y) {g : TG} {tt : TT} {tk tv : TE} {vs : List Nat} {σ : L2.St} {H1 : Hp} {D : Addr} {Qd : Hp → Prop} (Pv : Nat → Hp → Prop) (h0 : Pv 0 (upd H1 D (.dK []))) (hG : ∀ i H, i ≤ n → Pv i H → G H)
    (hs : ∀ i x H H', i < n → Pv i H → Y i H x H' → g x (wipe σ vs) H' fun σ2 H2 => wipe σ2 vs = wipe σ vs ∧ tt σ2 H2 fun b H3 =>
      if b = true then tk σ2 H3 fun y H4 => tv σ2 H4 fun z H5 => ∃ kvs k, y = kV k ∧ H5 D = some (.dK kvs) ∧ kvs.length < sizeLine ∧ Pv (i + 1) (upd H5 D (.dK (putK kvs k z))) else Pv (i + 1) H3) (hd : ∀ H, Pv n H → Qd H) :
    ∃ W : Nat → Nat → Hp → Prop, (∃ m, W 0 m (upd H1 D (.dK []))) ∧ ∀ i m H, W i m H →
      (J.stop i H ∧ Qd H) ∨ (J.go i H ∧ ∃ Nx : Hp → Prop, (∀ H', Nx H' → ∃ m', m' < m ∧ W (i + 1) m' H') ∧ ∀ x H', J.yld i H x H' → g x (wipe σ vs) H' fun σ2 H2 => wipe σ2 vs = wipe σ vs ∧ tt σ2 H2 fun b H3 =>
        if b = true then tk σ2 H3 fun y H4 => tv σ2 H4 fun z H5 => ∃ kvs k, y = kV k ∧ H5 D = some (.dK kvs) ∧ kvs.length < sizeLine ∧ Nx (upd H5 D (.dK (putK kvs k z))) else Nx H3) := by
  refine ⟨fun i m H => m = n - i ∧ i ≤ n ∧ Pv i H, ⟨n, (Nat.sub_zero n).symm, Nat.zero_le n, h0⟩, ?_⟩
  rintro i m H ⟨em, hi, p⟩
  have q := hG i H hi p
  rcases Nat.lt_or_ge i n with hlt | hge
  · refine .inr ⟨w.goes i H hlt q, Pv (i + 1), fun H' p' => ⟨n - (i + 1), by omega, rfl, hlt, p'⟩, fun x H' y => ?_⟩
    exact hs i x H H' hlt p (w.yields i H x H' hlt q y)
  · have e : i = n := by omega
    subst e
    exact .inl ⟨w.stops H q, hd H p⟩
/-- d == {} -/
def rDNilE : R2 := fun x y H Q => ∃ a b ks, x = .ref a ∧ y = .ref b ∧ H a = some (.dK ks) ∧ H b = some (.dK []) ∧ Q (.bl ks.isEmpty) H
theorem op_eqDNil {X : Cx} (hu : X.A.units + 64 < cLine) : OpR X (compareOp .Eq) rDNilE := by
  intro pins s σ H x y v u Q I rx ry h
  obtain ⟨a, b, ks, rfl, rfl, ea, eb, q⟩ := h
  obtain rfl : v = Value.ref a := rx
  obtain rfl : u = Value.ref b := ry
  obtain ⟨_, ya, va, ra, da⟩ := (show ObjOk X.prog X.w H s.heap a (.dK ks) from I.hok a _ ea)
  obtain ⟨_, yb, vb, rb, db⟩ := (show ObjOk X.prog X.w H s.heap b (.dK []) from I.hok b _ eb)
  cases rb
  have hu' : X.A.units < cLine := Nat.lt_of_le_of_lt (Nat.le_add_right _ _) hu
  refine PySem.W.keq_eq (knd := mixKind X.prog X.w) (r := true) ya yb da db hu' (fun e => ?_) (fin_bl I q ?_)
  · cases ra with
    | nil => exact .nil
    | cons p t => cases e
  · cases ra with
    | nil => rfl
    | cons p t => rfl
end Nw

namespace Nw
open PySem PySem.Spec PyProof.Rows L2
variable {X : Cx}
theorem pe_gref {x : Str} {pos : Pos} {f : Addr} (h : X.mg x = some (.ref f)) (hg : Gl X x := by rfl) (hd : (x == ("__debug__" : Str)) = false := by decide) : PE X (.Name x pos) (tC (.ref f)) := pe_glob hg h rfl hd
/-! the rules that name the written part, for a comprehension's block -/
section
variable {K : PySem.W.Frag} (h : X.K = K)
include h
theorem call_isiK : CallR X (.builtin "isinstance") (rIsi K) := h ▸ call_isi
theorem ix_listK : IxR X (rIxL K) := h ▸ ix_list
theorem ix_tupK : IxR X (rIxT K) := h ▸ ix_tup
theorem op_in_seqK : OpR X (compareOp .In) (rIn K false) := h ▸ op_in_seq
theorem op_notIn_seqK : OpR X (compareOp .NotIn) (rIn K true) := h ▸ op_notIn_seq
theorem cr_allK (hc : X.calm = true) : CallR X (.builtin "all") (rAll K) := h ▸ cr_all hc
theorem cr_anyK (hc : X.calm = true) : CallR X (.builtin "any") (rAny K) := h ▸ cr_any hc
theorem call_len_seqK : CallR X (.builtin "len") (fun xs H Q => ∃ p ys, xs = [.ref p] ∧ (SqL K H p ys ∨ SqT K H p ys) ∧ Q (.int ys.length) H) := h ▸ call_len_seq
theorem pe_fldK {e : Expr} {f : Str} {pos : Pos} {ta : TE} (he : PE X e ta) (hb : attributeBase e f X.env (eval e X.env) = eval e X.env) : PE X (.Attribute e f pos) (tFld K ta f) := h ▸ pe_fld he hb
end
/-- list(text): its signs -/
theorem call_list_sg (hc : X.calm = true) : CallR X (.type "list") (fun xs H Q => ∃ l : List Nat, xs = [.str (mk l)] ∧ l.length ≤ 16777216 ∧ ∀ p, H p = none → Q (.ref p) (upd H p (.lst (l.map fun c => V.str (sg c))))) := by
  intro pins s σ H xs us Q I r h
  obtain ⟨l, rfl, hz, q⟩ := h
  obtain ⟨u, rfl, t, rfl⟩ := vals1 r
  have hsz : (mk l).cps.size = l.length := by simp [mk]
  refine PySem.call_list_str (I.ok.hd hc) (mk l) t (fun h' tk acc' c' hkeep hS hacc => ?_) (by rw [hsz, sizeLine_eq]; exact hz)
  refine ⟨.ref s.heap.objs.size, upd H s.heap.objs.size (.lst (l.map fun c => V.str (sg c))), I.laid hkeep (Nat.le_refl _) ⟨?_, acc'.toList, c', ?_, ?_⟩, rfl, q _ (I.hok.fresh (Nat.le_refl _))⟩
  · rw [List.length_map, sizeLine_eq]; exact hz
  · have h0 : acc'.size = l.length := hacc.1.trans hsz
    refine vals_of_at (by rw [List.length_map]; exact h0.symm.trans (Array.length_toList (xs := acc')).symm) fun j x w h1 h2 => ?_
    have h3 := hacc.2 j w (by rw [← Array.getElem?_toList]; exact h2)
    obtain ⟨c, t', e1, rfl⟩ := h3
    have e2 : l[j]? = some c := by simpa [mk] using e1
    have e3 : x = .str (sg c) := by
      have z : (l.map fun c => V.str (sg c))[j]? = some (.str (sg c)) := by rw [List.getElem?_map, e2]; rfl
      rw [z] at h1
      cases h1
      rfl
    rw [e3]
    exact ⟨t', rfl⟩
  · simpa using hS
end Nw

namespace Nw
open PySem PySem.Spec PyProof.Rows L2
/-! ### an object that is made, then given out -/
section
variable {D : DA} {n : Nat} {T T' : Addr → Prop} {I H I' H' I0 H0 I3 H3 : Hp} {x dx : Addr} {o o1 o2 : HO}
theorem DrS.growT {dig tn : Int} {gs ls : List Int} (s : DrS D dig tn gs ls I H) (g : Grow T I H I' H') (h : ∀ b, TD D b → ¬ T b) : DrS D dig tn gs ls I' H' :=
  ⟨g.sub, g.fresh _ s.vd (s.live _ (.inl rfl)), g.fresh _ s.vg (s.live _ (.inr (.inl rfl))), g.fresh _ s.vl (s.live _ (.inr (.inr rfl))), s.dg, s.dl, s.gl, g.keep _ _ (h _ (.inl rfl)) s.hd, g.keep _ _ (h _ (.inr (.inl rfl))) s.hg, g.keep _ _ (h _ (.inr (.inr rfl))) s.hl⟩
theorem Drw.growT (w : Drw D n I H) (g : Grow T I H I' H') (h : ∀ b, TD D b → ¬ T b) : Drw D n I' H' := let ⟨a, b, c, d, s, r⟩ := w.ex; ⟨a, b, c, d, s.growT g h, r⟩
theorem Drw.view (w : Drw D n I H) (nt : ¬ TD D x) (h : H x = some o) : Drw D n (upd I x o) H := by
  obtain ⟨a, b, c, d, s, r⟩ := w.ex
  refine ⟨a, b, c, d, ⟨fun q u e => ?_, ?_, ?_, ?_, s.dg, s.dl, s.gl, s.hd, s.hg, s.hl⟩, r⟩
  · by_cases z : q = x
    · subst z; rw [upd_same] at e; rw [h]; exact e
    · rw [upd_ne z] at e; exact s.sub q u e
  · rw [upd_ne fun z => nt (.inl z.symm)]; exact s.vd
  · rw [upd_ne fun z => nt (.inr (.inl z.symm))]; exact s.vg
  · rw [upd_ne fun z => nt (.inr (.inr z.symm))]; exact s.vl
theorem Drw.chg (w : Drw D n I H) (nt : ¬ TD D x) (ni : I x = none) : Drw D n I (upd H x o) := let ⟨a, b, c, d, s, r⟩ := w.ex; ⟨a, b, c, d, s.put nt ni, r⟩
theorem Drw.mine (w : Drw D n I H) (h : H x = none) : Drw D n I (upd H x o) := w.grow (Grow.mine w.sub h)
theorem Drw.not (w : Drw D n I H) (h : H x = none) : ¬ TD D x := fun t => w.live x t h
theorem grow_made (sb : Same I H) (hx : H x = none) (hdx : H dx = none) (ne : dx ≠ x) : Grow T I H I (upd (upd H dx o1) x o2) :=
  (Grow.mine sb hdx).trans (Grow.mine (Grow.mine (T := T) (o := o1) sb hdx).sub (by rw [upd_ne ne.symm]; exact hx))
theorem live_none {T : Addr → Prop} (g : Grow T I0 H0 I H) (h : H x = none) : H0 x = none := by
  cases e : H0 x with
  | none => rfl
  | some u => exact absurd h (g.live x (by rw [e]; exact fun z => nomatch z))
/-- what C(..) does, seen from H0 -/
theorem Grow.make (g : Grow T I0 H0 I H) (hx : H x = none) (hdx : H dx = none) (ne : dx ≠ x) (g3 : Grow T' I (upd (upd H dx o1) x o2) I3 H3) (hT : ∀ b, T' b → T b ∨ H0 b = none) (h : H3 x = some o) (nt : NTb o := by intro _ z; cases z) : Grow T I0 H0 (upd I3 x o) H3 ∧ I3 x = none := by
  have gm : Grow T I0 H0 I (upd (upd H dx o1) x o2) := g.trans (grow_made g.sub hx hdx ne)
  have gd := gm.drop g3 hT
  have n3 : I3 x = none := g3.fresh x (g.sub.free hx) (by rw [upd_same]; exact fun z => nomatch z)
  exact ⟨gd.give' (live_none g hx) n3 h nt, n3⟩
theorem Drw.make (w : Drw D n I H) (hx : H x = none) (hdx : H dx = none) (ne : dx ≠ x) (g3 : Grow T' I (upd (upd H dx o1) x o2) I3 H3) (hT : ∀ b, TD D b → ¬ T' b) (h : H3 x = some o) : Drw D n (upd I3 x o) H3 :=
  (((w.mine hdx).mine (by rw [upd_ne ne.symm]; exact hx)).growT g3 hT).view (w.not hx) h
end
/-- a def that is asked by its own data -/
theorem okd_of {P : Program} {w : World} {K : PySem.W.Frag} {mg : Str → Option Value} {base : Heap} {k : Nat} {f : Addr} {fd : FuncData} {ps : List Str} {sp : Sp} {x qual : Str} {st : Stmt} {N : List Str}
    (F : FunD K x qual (defArgs st) (defBody st) (defScope st) [] [] f fd) (S : FnScope N ps (defScope st)) (len : ∀ vs H Q E, sp vs H Q E → vs.length = ps.length)
    (hbody : ∀ (cdv : Value) (A : Around) (outer : List Env) (s : Shared) (H : Hp) (vs : List V) (Q : VK) (E : XK), Room k (A.deeper (envOfC qual (defScope st) s.heap.objs.size f cdv)) → sp vs H Q E →
      ∃ t, PSs (cxOf CX0 P w K mg base N qual (defScope st) f cdv A outer s H E).nox (defBody st) t ∧ t { nx := fun _ H' => Q .non H', rt := Q } (start N vs) H) : FnOk P w K mg base CX0 (k + 1) f fd ps sp :=
  F.ok S len fun cdv A outer s H vs Q E hr h => by
    obtain ⟨t, h1, h2⟩ := hbody cdv A outer s H vs Q E hr h
    exact ⟨t, h1.nox, h2⟩
end Nw

namespace Nw
open PySem PySem.Spec PyProof.Rows L2
/-! ### operators that a class of the text has itself -/
section
variable {X : Cx} {k : Nat} {f C : Addr} {fd : FuncData} {ps : List Str} {sp : Sp}
/-- two instances of one class -/
def rOwn (C : Addr) (sp : Sp) : R2 := fun x y H Q => ∃ a b dx dy fs gs, x = .ref a ∧ y = .ref b ∧ H a = some (.ins C dx fs) ∧ H b = some (.ins C dy gs) ∧ sp [.ref a, .ref b] H (fun v H' => ∃ p, v = .ref p ∧ Q v H') E0
theorem op_own {op : Operator} {nm : Str} (M : Meth X.K C nm f) (he : PySem.dunder op.info.2 = nm) (hc : PySem.W.selfFirst X.K C = true) (F : FnOk X.prog X.w X.K X.mg X.base CX0 k f fd ps sp) (hr : Room k X.A) (hb : Binds X.K fd ps []) : OpR X (binaryOp op) (rOwn C sp) := by
  intro pins s σ H x y v u Q I rx ry h
  obtain ⟨a, b, dx, dy, fs, gs, rfl, rfl, ha, hb', q⟩ := h
  cases rx
  cases ry
  obtain ⟨mA, J, _⟩ := ins_get I.hok ha
  obtain ⟨mB, J', _⟩ := ins_get I.hok hb'
  obtain ⟨od, J, _⟩ := J.look
  obtain ⟨od', J', _⟩ := J'.look
  obtain ⟨m, hF⟩ := I.fr
  refine PySem.W.binop_K hF I.ok.mod.kin J J'.type hc (by rw [he]; exact M.at_) M.fn ?_
  have r2 : Vals [V.ref a, V.ref b] [Value.ref a, Value.ref b] := .cons rfl (.cons rfl .nil)
  refine wpAny_mono (run_fn (dvs := []) (ds := []) (E := E0) F hr hb .nil pass0 I r2 q) (fun v s' hq => ?_) fun _ _ e => e
  obtain ⟨z, H', I', rz, p, rfl, q⟩ := hq
  cases rz
  exact ⟨.ref p, _, I', rfl, q⟩
def rOwn1 (C : Addr) (sp : Sp) : V → Hp → VK → Prop := fun x H Q => ∃ a dx fs, x = .ref a ∧ H a = some (.ins C dx fs) ∧ sp [.ref a] H Q E0
theorem un_own_inv (M : Meth X.K C "__invert__" f) (F : FnOk X.prog X.w X.K X.mg X.base CX0 k f fd ps sp) (hr : Room k X.A) (hb : Binds X.K fd ps []) : UnR X (unaryOp .Invert) (rOwn1 C sp) := by
  intro pins s σ H x v Q I rx h
  obtain ⟨a, dx, fs, rfl, ha, q⟩ := h
  cases rx
  obtain ⟨mA, J, _⟩ := ins_get I.hok ha
  obtain ⟨od, J, _⟩ := J.look
  obtain ⟨m, hF⟩ := I.fr
  refine PySem.W.ksp_inv hF I.ok.mod.kin J M.at_ M.fn ?_
  have r2 : Vals [V.ref a] [Value.ref a] := .cons rfl .nil
  exact run_fn (dvs := []) (ds := []) (E := E0) F hr hb .nil pass0 I r2 q
/-- a comparison that the class has itself: a truth -/
theorem op_own_le (M : Meth X.K C "__le__" f) (F : FnOk X.prog X.w X.K X.mg X.base CX0 k f fd ps sp) (hr : Room k X.A) (hb : Binds X.K fd ps []) :
    OpR X (compareOp .LtE) (fun x y H Q => ∃ a b dx dy fs gs, x = .ref a ∧ y = .ref b ∧ H a = some (.ins C dx fs) ∧ H b = some (.ins C dy gs) ∧ sp [.ref a, .ref b] H (fun v H' => ∃ t, v = .bl t ∧ Q v H') E0) := by
  intro pins s σ H x y v u Q I rx ry h
  obtain ⟨a, b, dx, dy, fs, gs, rfl, rfl, ha, hb', q⟩ := h
  cases rx
  cases ry
  obtain ⟨mA, J, _⟩ := ins_get I.hok ha
  obtain ⟨mB, J', _⟩ := ins_get I.hok hb'
  obtain ⟨od, J, _⟩ := J.look
  obtain ⟨od', J', _⟩ := J'.look
  obtain ⟨m, hF⟩ := I.fr
  show wpAny (model X.prog X.w) X.A (richCompare .LtE (.ref a) (.ref b)) (EP X pins σ Q) X.xe s
  refine PySem.W.cmp_K (op := .LtE) (tb := .ref C) hr.units0 hF I.ok.mod.kin J J'.type (by simp [PySem.W.notFirst]) M.at_ M.fn ?_
  have r2 : Vals [V.ref a, V.ref b] [Value.ref a, Value.ref b] := .cons rfl (.cons rfl .nil)
  refine wpAny_mono (run_fn (dvs := []) (ds := []) (E := E0) F hr hb .nil pass0 I r2 q) (fun v s' hq => ?_) fun _ _ e => e
  obtain ⟨z, H', I', rz, p, rfl, q⟩ := hq
  cases rz
  exact ⟨.bl p, _, I', rfl, q⟩
end
end Nw

namespace Nw
open PySem PySem.Spec PyProof.Rows L2
open AutoSeq1 (wpAny_loadPart')
/-! ### enumerate(tuple) -/
theorem meets_enumT (l : Addr) (items : Array Value) (n : Nat) (dct : Option Addr) (sl : Array (Option Value)) :
    Meets (Builtin.«enumerate.__new__» ⟨[.type "enumerate", .ref l], []⟩) (fun _ R s => s.heap.get? l = some { cls := .type "tuple", dict := dct, data := .seq items n, slots := sl } ∧
      R (.ok (.ret (.ref (s.heap.push { cls := .type "tuple_iterator", data := .fields #[.ref l, .int 0 0] }).objs.size)))
        { s with heap := (s.heap.push { cls := .type "tuple_iterator", data := .fields #[.ref l, .int 0 0] }).push { cls := .type "enumerate", data := .fields #[.none, .bool false, .ref s.heap.objs.size, rawInt 0, .none, .none] } }) :=
  .of_wp fun prog w A R s h => by
    obtain ⟨hp, g, d, tk, os⟩ := s; obtain ⟨hl, h⟩ := h
    have hsub := sub_enumerate
    have hL : Heap.IsTuple (Shared.heap ⟨hp, g, d, tk, os⟩) l items := ⟨_, hl, rfl, n, rfl⟩
    wp_walk using wpAny_loadPart' hl
    refine wpAny_stack_any fun st => wpAny_pure ?_
    split
    · rename_i c _ _ _ _ _
      cases (c == Value.type "enumerate")
      · wp_walk using wpAny_loadPart' hl, wpAny_pyIter_tuple hL
        exact ⟨_, rfl, h⟩
      · wp_walk using wpAny_loadPart' hl, wpAny_pyIter_tuple hL
        exact ⟨_, rfl, h⟩
    · wp_walk using wpAny_loadPart' hl, wpAny_pyIter_tuple hL
      exact ⟨_, rfl, h⟩
section
variable {prog : Program} {w : World} {A : Around} {E : Value → Shared → Prop} {s : Shared}
theorem call_enumT {l : Addr} {items : Array Value} {Q : Value → Shared → Prop} (hL : s.heap.IsTuple l items)
    (h : ∀ h', IsEnum h' (s.heap.objs.size + 1) s.heap.objs.size 0 .none → h'.IsTupleIter s.heap.objs.size l 0 → h'.objs.size = s.heap.objs.size + 2 →
      (∀ b o, s.heap.get? b = some o → h'.get? b = some o) → Q (.ref (s.heap.objs.size + 1)) { s with heap := h' }) :
    wpAny (model prog w) A (call (.type "enumerate") [.ref l]) Q E s := by
  obtain ⟨⟨c, dct, dt, sl⟩, hl, hc, n, hd⟩ := hL
  replace hc : c = .type "tuple" := hc
  replace hd : dt = .seq items n := hd
  subst hc hd
  refine callType_new F.called_enumerate (by decide) (F.typeCall_enumerate_1 _) (F.newCall_enumerate_1 _) (fun obj => F.args_object_init_2 obj _) F.entry_enumerate_new
    (meets_enumT l items n dct sl) ⟨hl, ?_⟩
  have hz : (s.heap.push { cls := .type "tuple_iterator", data := .fields #[.ref l, .int 0 0] }).objs.size = s.heap.objs.size + 1 := Heap.size_push ..
  show _ ∧ _
  rw [hz]
  have he : IsEnum ((s.heap.push { cls := .type "tuple_iterator", data := .fields #[.ref l, .int 0 0] }).push
      { cls := .type "enumerate", data := .fields #[.none, .bool false, .ref s.heap.objs.size, rawInt 0, .none, .none] }) (s.heap.objs.size + 1) s.heap.objs.size 0 .none := by
    have := Heap.get?_push_size (s.heap.push { cls := .type "tuple_iterator", data := .fields #[.ref l, .int 0 0] })
      (o := { cls := .type "enumerate", data := .fields #[.none, .bool false, .ref s.heap.objs.size, rawInt 0, .none, .none] }) rfl
    rw [hz] at this; exact this
  refine ⟨⟨_, he, rfl⟩, h _ he ⟨_, Heap.get?_push_of_some _ (Heap.get?_push_size _ rfl), rfl, rfl⟩ (by rw [Heap.size_push, hz]) fun b o x => Heap.get?_push_of_some _ (Heap.get?_push_of_some _ x)⟩
theorem draws_tup (hh : A.handled = none) {it t : Addr} (hne : t ≠ it) (items : Array Value) : Draws prog w A it [it, t] items.size (fun i v => items[i]? = some v) (fun i h => h.IsTupleIter it t i ∧ h.IsTuple t items) where
  live := fun i h st => let ⟨⟨o, e, _⟩, _⟩ := st; ⟨o, e⟩
  frame := fun i h h' st k => ⟨st.1.at fun o e => k it (by simp) o e, let ⟨o, e, z⟩ := st.2; ⟨o, k t (by simp) o e, z⟩⟩
  item := fun i s Q E hi st hQ => by
    refine wpAny_nextOf_tuple_item st.1 st.2 (x := items[i]) (by simp [hi]) fun h' st' sb => ?_
    refine hQ _ h' s.toks (by simp [hi]) ⟨st', ?_⟩ sb
    obtain ⟨o, e, z⟩ := st.2
    exact ⟨o, (sb.2 t hne).trans e, z⟩
  done := fun s Q E st hE => wpAny_nextOf_tuple_end hh st.1 st.2 (by simp) hE
end
def IteT (K : PySem.W.Frag) (a : Addr) : It :=
  ⟨fun i H => ∃ (xs : List V) (x : V), SqT K H a xs ∧ xs[i]? = some x, fun i H v H' => ∃ T x, v = .ref T ∧ H T = none ∧ H' = upd H T (.tup [.int (i : Nat), x]) ∧ ∀ xs, SqT K H a xs → xs[i]? = some x, fun i H => ∃ xs : List V, SqT K H a xs ∧ xs.length ≤ i⟩
theorem turn_enumT {P : Program} {w : World} {K : PySem.W.Frag} {elts : List Expr} {kk : Nat} {tpos : Pos} (a e it : Addr) :
    Turn P w K (.Tuple elts kk tpos) (IteT K a) [e, it] e (fun i h => (∃ old, IsEnum h e it ((i : Nat) : Int) old) ∧ h.IsTupleIter it a i ∧ e ≠ it) where
  mem := by simp
  obj := fun i h st b hb => by
    obtain ⟨⟨old, he⟩, ⟨o, ho, hc, hd⟩, _⟩ := st
    have e' : b = e ∨ b = it := by simpa using hb
    rcases e' with z | z
    · rw [z]; exact ⟨_, he, fun v q => nomatch q⟩
    · rw [z]; exact ⟨o, ho, fun v q => by rw [hd] at q; cases q⟩
  keep := fun i h h' st k => let ⟨⟨old, he⟩, hi, hne⟩ := st; ⟨⟨old, k e (by simp) _ he⟩, hi.at fun o q => k it (by simp) o q, hne⟩
  item := by
    intro X hP hw hK hc i pins s σ H E I hf st hg
    subst hP hw hK
    obtain ⟨⟨old, he⟩, hit, hne⟩ := st
    obtain ⟨xs, x, hq, hx⟩ := hg
    obtain ⟨its, rv, p, hz⟩ := I.tuple hq
    have p' : s.heap.IsTuple a its.toArray := p
    obtain ⟨u, hu, ru⟩ := rv.get hx
    have hel : e < s.heap.objs.size := Heap.lt_size he
    have hil : it < s.heap.objs.size := by obtain ⟨_, q, _⟩ := hit; exact Heap.lt_size q
    have nea : a ≠ it := by
      rintro rfl
      obtain ⟨o1, e1, c1, _⟩ := hit
      obtain ⟨o2, e2, c2, _⟩ := p'
      rw [e1] at e2
      cases e2
      rw [c1] at c2
      exact absurd c2 (by decide)
    have nee : a ≠ e := by
      rintro rfl
      obtain ⟨o2, e2, c2, _⟩ := p'
      rw [he] at e2
      cases e2
      exact absurd (show Value.type "enumerate" = Value.type "tuple" from c2) (by decide)
    have hlt : i < its.toArray.size := by
      rcases Nat.lt_or_ge i its.length with z | z
      · simpa using z
      · rw [List.getElem?_eq_none z] at hu; cases hu
    refine wpAny_pyNext_enum_itemD (draws_tup (by simpa using I.ok.hd hc) nea its.toArray) he ⟨hit, p'⟩ hlt hne (by simp [hne, Ne.symm nee]) fun y h' tk hy ho hst' hT hsz hk => ?_
    obtain ⟨hit', _⟩ := hst'
    have ey : y = u := by
      have z : its[i]? = some y := by simpa using hy
      rw [hu] at z
      exact (Option.some.inj z).symm
    subst ey
    refine ⟨_, rfl, wpAny_letOwnedTupleGo_enum (s := { s with heap := h', toks := tk + 1 }) ho fun h'' he' sb => ?_⟩
    have hT2 : h''.get? s.heap.objs.size = some { cls := .type "tuple", data := .seq #[.int i tk, y] } := (sb.2 _ (Nat.ne_of_gt hel)).trans hT
    have new : ObjOk X.prog X.w (upd H s.heap.objs.size (.tup [.int (i : Nat), x])) h'' s.heap.objs.size (.tup [.int (i : Nat), x]) :=
      ⟨by show 2 ≤ sizeLine; decide, [.int i tk, y], .cons ⟨_, rfl⟩ (.cons ru .nil), ⟨_, hT2, rfl, _, rfl⟩⟩
    have I1 : Inv X pins σ (upd H s.heap.objs.size (.tup [.int (i : Nat), x])) { s with heap := h'', toks := tk + 1 } :=
      I.turnedNew (ch := [e, it]) (fun b ob hb q => (sb.2 b (fun z => hb (by simp [z]))).trans (hk b ob (fun z => hb (by simp [z])) (fun z => hb (by simp [z])) q)) hf (Nat.le_refl _) new
    refine ⟨.ref s.heap.objs.size, _, I1, rfl, ⟨_, x, rfl, I.hok.fresh (Nat.le_refl _), rfl, fun ys hy => by rw [I.tuple_inj hy hq]; exact hx⟩, ⟨⟨y, ?_⟩, hit'.at fun o q => (sb.2 it (Ne.symm hne)).trans q, hne⟩, fun b hb => ?_⟩
    · have e1 : ((i + 1 : Nat) : Int) = (i : Int) + 1 := by omega
      rw [e1]; exact he'
    · have hb' : b < s.heap.objs.size := by
        have e' : b = e ∨ b = it := by simpa using hb
        rcases e' with z | z
        · rw [z]; exact hel
        · rw [z]; exact hil
      rw [upd_ne (Nat.ne_of_lt hb')]
      exact (hf b hb).1
  done := by
    intro X hP hw hK hc i pins s σ H E I hf st hg
    subst hP hw hK
    obtain ⟨⟨old, he⟩, hit, hne⟩ := st
    obtain ⟨xs, hq, hx⟩ := hg
    obtain ⟨its, rv, p, hz⟩ := I.tuple hq
    have p' : s.heap.IsTuple a its.toArray := p
    obtain ⟨f0, f1, f2, f3, f4, f5⟩ := hf it (by simp)
    have hl := rv.length
    have hT : s.TypeIs (.ref e) "enumerate" := ⟨_, he, rfl⟩
    unfold pyNext
    refine wpAny_bind (wpAny_attempt (wpAny_callSpecial?_slot (name := Str.ofString "__next__") hT F.slot_enumerate_next
      (wpAny_call_entry F.slot_enumerate_next hT F.entry_enumerate_next ?_ (F.args_enumerate_next_1 _))))
    show wpAny _ _ (field (.ref e) 2 >>= _) _ _ _
    refine wpAny_bind (wpAny_field he rfl (x := .ref it) rfl ?_)
    refine wpAny_bind (wpAny_nextOf_tuple_end (by simpa using I.ok.hd hc) hit p' (by simp; omega) fun h' x he' hx' => ?_)
    obtain ⟨o, ho, hc'⟩ := hx'
    refine wpAny_bind (wpAny_isInstance (T := "StopIteration") (b := true) ⟨o, ho, hc'⟩ isSubtype_stop ?_)
    exact wpAny_pure ⟨rfl, I.turned (t' := s.toks) (fun b o hb q => he' b o hb q) f0 f1 f3 f4 f5⟩
  self := fun A i s Q E st h => let ⟨⟨_, he⟩, _⟩ := st; wpAny_pyIter_enum he h
def iEnumT (K : PySem.W.Frag) (ta : TA) : TI := fun σ H R => ta σ H fun vs H1 => ∃ a xs, vs = [.ref a] ∧ SqT K H1 a xs ∧ R (IteT K a) H1
theorem pi_enumT {X : Cx} {e : Expr} {ta : TA} {p pos tpos : Pos} {elts : List Expr} {kk : Nat} (hg : Gl X "enumerate") (hm : X.mg "enumerate" = none) (ha : PA X [e] ta) (hs : starEach [e] X.env = [(false, eval e X.env)] := by rfl) :
    PI X (.Tuple elts kk tpos) (.Call (.Name "enumerate" p) [e] [] pos) (iEnumT X.K ta) := by
  refine ⟨fun pins s σ H R I h => ?_⟩
  refine Call_ (ld_blt I hg hm boot_enumerate (PyProof.Rows.callWith_type1 (thn (ha.run pos pins s σ H _ I h) fun us s1 ⟨vs, H1, I1, r1, q1⟩ => ?_) hs rfl))
  obtain ⟨a, xs, ex, hq, q⟩ := q1
  subst ex
  cases r1 with
  | cons r rr =>
    cases rr
    cases r
    obtain ⟨its, rv, p', hz⟩ := I1.tuple hq
    refine call_enumT (show s1.heap.IsTuple a its.toArray from p') fun h' he hit hsz hk => wpAny_pyIter_enum he ?_
    have I2 : Inv X pins σ H1 { s1 with heap := h' } := I1.kept (t' := s1.toks) hk
    refine ⟨s1.heap.objs.size + 1, [s1.heap.objs.size + 1, s1.heap.objs.size], _, _, H1, rfl, I2, turn_enumT a (s1.heap.objs.size + 1) s1.heap.objs.size, ⟨⟨.none, he⟩, hit, Nat.succ_ne_self _⟩, fun b hb => ?_, q⟩
    have e' : b = s1.heap.objs.size + 1 ∨ b = s1.heap.objs.size := by simpa using hb
    have hle : s1.heap.objs.size ≤ b := by
      rcases e' with z | z
      · rw [z]; exact Nat.le_add_right _ _
      · rw [z]; exact Nat.le_refl _
    exact I1.fpOk hle (I1.hok.fresh hle)
theorem walk_enumT {K : PySem.W.Frag} {a : Addr} {xs : List V} : Walk (IteT K a) xs.length (fun H => SqT K H a xs) (YPair (fun i => some (.int (i : Nat))) (fun i => xs[i]?)) := by
  refine ⟨fun i _ hi q => ⟨xs, xs[i], q, by simp [hi]⟩, fun _ q => ⟨xs, q, Nat.le_refl _⟩, fun i H v H' _ q y => ?_⟩
  obtain ⟨T, x, h1, h2, h3, h4⟩ := y
  exact ⟨T, .int (i : Nat), x, h1, h2, h3, rfl, h4 xs q⟩
end Nw

namespace Nw
open PySem PySem.Spec PyProof.Rows L2
/-! ### what may be a list or a tuple: t tells which -/
def ho (t : Bool) (vs : List V) : HO := match t with
  | false => .lst vs
  | true => .tup vs
def SqB (K : PySem.W.Frag) (t : Bool) (H : Hp) (a : Addr) (xs : List V) : Prop := match t with
  | false => SqL K H a xs
  | true => SqT K H a xs
theorem SqB.of {K : PySem.W.Frag} {t : Bool} {H : Hp} {a : Addr} {xs : List V} (h : H a = some (ho t xs)) : SqB K t H a xs := by
  cases t
  · exact SqL.of h
  · exact SqT.of h
def isS {α : Type} [Rep α] (t : Bool) (I : Hp) (v : V) (xs : List α) : Prop := ∃ a vs, v = .ref a ∧ I a = some (ho t vs) ∧ Paired (Rep.is I) vs xs
theorem isL.s {α : Type} [Rep α] {I : Hp} {v : V} {xs : List α} (h : isL I v xs) : isS false I v xs := h
theorem isU.s {α : Type} [Rep α] {I : Hp} {v : V} {xs : List α} (h : isU I v xs) : isS true I v xs := h
theorem isS.up {α : Type} [Rep α] {t : Bool} {I I' : Hp} {v : V} {xs : List α} (h : isS t I v xs) (e : Same I I') : isS t I' v xs :=
  let ⟨a, vs, h1, h2, h3⟩ := h
  ⟨a, vs, h1, e _ _ h2, Paired.mono' (fun _ _ z => Rep.mono e z) h3⟩
def Itq (K : PySem.W.Frag) (t : Bool) (a : Addr) : It := match t with
  | false => Itl K a
  | true => Itt K a
def iSeq (K : PySem.W.Frag) (tl : TE) : TI := fun σ H R => tl σ H fun x H1 => ∃ a t, x = .ref a ∧ (∃ xs, SqB K t H1 a xs) ∧ R (Itq K t a) H1
theorem pi_seq {X : Cx} {tg l : Expr} {tl : TE} (hl : PE X l tl) : PI X tg l (iSeq X.K tl) := by
  refine ⟨fun pins s σ H R I h => ?_⟩
  refine thn (hl.run pins s σ H _ I h) fun v s1 ⟨x, H1, I1, r1, q1⟩ => ?_
  obtain ⟨a, t, e, ⟨xs, hq⟩, q⟩ := q1
  subst e
  cases r1
  cases t
  · obtain ⟨its, rv, p, hz⟩ := I1.list hq
    refine wpAny_pyIter_list p.isList ?_
    refine ⟨s1.heap.objs.size, [s1.heap.objs.size], _, _, H1, rfl, I1.kept (t' := s1.toks) fun b o e => Heap.get?_push_of_some _ e, turn_list a _, ⟨_, Heap.get?_push_size _ rfl, rfl, rfl⟩, fun b hb => ?_, q⟩
    have e : b = s1.heap.objs.size := by simpa using hb
    subst e
    exact I1.fpOk (Nat.le_refl _) (I1.hok.fresh (Nat.le_refl _))
  · obtain ⟨its, rv, p, hz⟩ := I1.tuple hq
    refine wpAny_pyIter_tuple (show s1.heap.IsTuple a its.toArray from p) ?_
    refine ⟨s1.heap.objs.size, [s1.heap.objs.size], _, _, H1, rfl, I1.kept (t' := s1.toks) fun b o e => Heap.get?_push_of_some _ e, turn_tuple a _, ⟨_, Heap.get?_push_size _ rfl, rfl, rfl⟩, fun b hb => ?_, q⟩
    have e : b = s1.heap.objs.size := by simpa using hb
    subst e
    exact I1.fpOk (Nat.le_refl _) (I1.hok.fresh (Nat.le_refl _))
theorem walk_seq {K : PySem.W.Frag} {t : Bool} {a : Addr} {xs : List V} : Walk (Itq K t a) xs.length (fun H => SqB K t H a xs) (YAt xs) := by
  cases t
  · exact walk_list
  · exact walk_tup
def IteB (K : PySem.W.Frag) (t : Bool) (a : Addr) : It := match t with
  | false => Ite K a
  | true => IteT K a
def iEnumS (K : PySem.W.Frag) (ta : TA) : TI := fun σ H R => ta σ H fun vs H1 => ∃ a t xs, vs = [.ref a] ∧ SqB K t H1 a xs ∧ R (IteB K t a) H1
theorem pi_enumS {X : Cx} {e : Expr} {ta : TA} {p pos tpos : Pos} {elts : List Expr} {kk : Nat} (hg : Gl X "enumerate") (hm : X.mg "enumerate" = none) (ha : PA X [e] ta) (hs : starEach [e] X.env = [(false, eval e X.env)] := by rfl) :
    PI X (.Tuple elts kk tpos) (.Call (.Name "enumerate" p) [e] [] pos) (iEnumS X.K ta) := by
  refine ⟨fun pins s σ H R I h => ?_⟩
  refine Call_ (ld_blt I hg hm boot_enumerate (PyProof.Rows.callWith_type1 (thn (ha.run pos pins s σ H _ I h) fun us s1 ⟨vs, H1, I1, r1, q1⟩ => ?_) hs rfl))
  obtain ⟨a, t, xs, ex, hq, q⟩ := q1
  subst ex
  cases r1 with
  | cons r rr =>
    cases rr
    cases r
    have fin : ∀ b : Addr, b ∈ [s1.heap.objs.size + 1, s1.heap.objs.size] → s1.heap.objs.size ≤ b := fun b hb => by
      have e' : b = s1.heap.objs.size + 1 ∨ b = s1.heap.objs.size := by simpa using hb
      rcases e' with z | z
      · rw [z]; exact Nat.le_add_right _ _
      · rw [z]; exact Nat.le_refl _
    cases t
    · obtain ⟨its, rv, p', hz⟩ := I1.list hq
      refine call_enumerate_list p'.isList fun h' he hit hsz hk => wpAny_pyIter_enum he ?_
      have I2 : Inv X pins σ H1 { s1 with heap := h' } := I1.kept (t' := s1.toks) hk
      exact ⟨s1.heap.objs.size + 1, [s1.heap.objs.size + 1, s1.heap.objs.size], _, _, H1, rfl, I2, turn_enum a (s1.heap.objs.size + 1) s1.heap.objs.size, ⟨⟨.none, he⟩, hit, Nat.succ_ne_self _⟩, fun b hb => I1.fpOk (fin b hb) (I1.hok.fresh (fin b hb)), q⟩
    · obtain ⟨its, rv, p', hz⟩ := I1.tuple hq
      refine call_enumT (show s1.heap.IsTuple a its.toArray from p') fun h' he hit hsz hk => wpAny_pyIter_enum he ?_
      have I2 : Inv X pins σ H1 { s1 with heap := h' } := I1.kept (t' := s1.toks) hk
      exact ⟨s1.heap.objs.size + 1, [s1.heap.objs.size + 1, s1.heap.objs.size], _, _, H1, rfl, I2, turn_enumT a (s1.heap.objs.size + 1) s1.heap.objs.size, ⟨⟨.none, he⟩, hit, Nat.succ_ne_self _⟩, fun b hb => I1.fpOk (fin b hb) (I1.hok.fresh (fin b hb)), q⟩
theorem walk_enumS {K : PySem.W.Frag} {t : Bool} {a : Addr} {xs : List V} : Walk (IteB K t a) xs.length (fun H => SqB K t H a xs) (YPair (fun i => some (.int (i : Nat))) (fun i => xs[i]?)) := by
  cases t
  · exact walk_enum
  · exact walk_enumT
/-- its type, and what isinstance of (list, tuple) tells -/
theorem ty_seq {K : PySem.W.Frag} {t : Bool} {H : Hp} {a : Addr} {vs : List V} (h : H a = some (ho t vs)) : ∃ n, TyX K H (.ref a) (.type n) ∧ PySem.W.kitAny K (.type n) [.type "list", .type "tuple"] = some true := by
  cases t
  · exact ⟨_, .base (.lst h), kit_any_hd⟩
  · exact ⟨_, .base (.tup h), kitAny_cons (b := false) (kit_ty (by decide +kernel)) (fun _ => kit_any_hd) (fun z => nomatch z)⟩
end Nw

namespace Nw
open PySem PySem.Spec PyProof.Rows L2
section
variable {X : Cx} {k : Nat} {f C : Addr} {fd : FuncData} {ps : List Str} {sp : Sp}
def rOwnB (C : Addr) (sp : Sp) (g : Bool → Bool) : R2 := fun x y H Q => ∃ a b dx dy fs gs, x = .ref a ∧ y = .ref b ∧ H a = some (.ins C dx fs) ∧ H b = some (.ins C dy gs) ∧ sp [.ref a, .ref b] H (fun v H' => ∃ t, v = .bl t ∧ Q (.bl (g t)) H') E0
/-- == that the class has itself -/
theorem op_own_eq (M : Meth X.K C "__eq__" f) (F : FnOk X.prog X.w X.K X.mg X.base CX0 k f fd ps sp) (hr : Room k X.A) (hb : Binds X.K fd ps []) : OpR X (compareOp .Eq) (rOwnB C sp id) := by
  intro pins s σ H x y v u Q I rx ry h
  obtain ⟨a, b, dx, dy, fs, gs, rfl, rfl, ha, hb', q⟩ := h
  cases rx
  cases ry
  obtain ⟨mA, J, _⟩ := ins_get I.hok ha
  obtain ⟨mB, J', _⟩ := ins_get I.hok hb'
  obtain ⟨od, J, _⟩ := J.look
  obtain ⟨od', J', _⟩ := J'.look
  obtain ⟨m, hF⟩ := I.fr
  show wpAny (model X.prog X.w) X.A (richCompare .Eq (.ref a) (.ref b)) (EP X pins σ Q) X.xe s
  refine PySem.W.cmp_K (op := .Eq) (tb := .ref C) hr.units0 hF I.ok.mod.kin J J'.type (by simp [PySem.W.notFirst]) M.at_ M.fn ?_
  have r2 : Vals [V.ref a, V.ref b] [Value.ref a, Value.ref b] := .cons rfl (.cons rfl .nil)
  refine wpAny_mono (run_fn (dvs := []) (ds := []) (E := E0) F hr hb .nil pass0 I r2 q) (fun v s' hq => ?_) fun _ _ e => e
  obtain ⟨z, H', I', rz, p, rfl, q⟩ := hq
  cases rz
  exact ⟨.bl p, _, I', rfl, q⟩
theorem slot_ne : Slot "object" "__ne__" "object.__ne__" := F.cmp_object.ne
/-- a builtin's slot of an instance, found by the class's part -/
theorem ifBoundB_K {M : Model} {A : Around} {E : Value → Shared → Prop} {s : Shared} {K : PySem.W.Frag} {x C : Addr} {ox : Obj} {od : Option Obj} {name : Str} {T id : String} {args : List Value} {Q : Option Value → Shared → Prop} (Xk : K.In s.heap) (I : PySem.W.InstAt s.heap x ox C od)
    (hs : PySem.W.findIn K (.ref C) name = some (some (.builtin id))) (S : Slot T name id)
    (h : wpAny M A (call (.builtin id) (.ref x :: args)) (fun v => Q (some v)) E s) : wpAny M A (callSpecialIfBound? (.ref x) name args) Q E s := by
  simp only [callSpecialIfBound?, bindSpecialIfBound?]
  refine wpAny_holding (wpAny_bind (wpAny_bind (wpAny_bind (I.type.here ((PySem.W.looks_findIn Xk hs).here ?_)))))
  simp only [S.bind]
  refine wpAny_bind (wpAny_askSetting (wpAny_ite ?_))
  have fin : wpAny M A (call (.builtin id) ([.ref x] ++ args) >>= fun v => pure (some v)) Q E s := wpAny_bind (wpAny_mono h (fun v s' h' => wpAny_pure h') fun _ _ h' => h')
  split
  · exact wpAny_bind (wpAny_pure (wpAny_pure fin))
  · exact wpAny_tryCatch (wpAny_bind (wpAny_pure (wpAny_pure fin)))
theorem check_slotK {M : Model} {A : Around} {E : Value → Shared → Prop} {s : Shared} {K : PySem.W.Frag} {x C : Addr} {ox : Obj} {od : Option Obj} {id owner n : String} {rest : List Value} {Q : Unit → Shared → Prop} (Xk : K.In s.heap) (I : PySem.W.InstAt s.heap x ox C od) (hk : builtinKind id = some .slot) (hs : splitId id = some (owner, n))
    (ha : argsOk id ⟨.ref x :: rest, []⟩) (hsub : PySem.W.subIn K (.ref C) (.type owner) = some true) (hq : Q () s) : wpAny M A (checkBuiltinCall id ⟨.ref x :: rest, []⟩) Q E s := by
  simp only [checkBuiltinCall, hk, hs]
  refine wpAny_bind ?_
  unfold isInstance
  refine wpAny_bind (I.type.here ?_)
  refine (PySem.W.looks_subIn Xk hsub).here ?_
  cases hsig : Manifest.signature? id with
  | none => exact wpAny_pure hq
  | some sig =>
    simp only [argsOk, hsig] at ha
    have h2 : Bind.checkArgs id sig ⟨.ref x :: rest, []⟩ = pure () := ha
    show wpAny M A (Bind.checkArgs id sig ⟨.ref x :: rest, []⟩) Q E _
    rw [h2]; exact wpAny_pure hq
/-- != of a class with its own ==, that leaves __ne__ to object -/
theorem op_own_ne (M : Meth X.K C "__eq__" f) (hne : PySem.W.findIn X.K (.ref C) "__ne__" = some (some (.builtin "object.__ne__"))) (hob : PySem.W.subIn X.K (.ref C) (.type "object") = some true)
    (F : FnOk X.prog X.w X.K X.mg X.base CX0 k f fd ps sp) (hr : Room (k + 1) X.A) (hb : Binds X.K fd ps []) : OpR X (compareOp .NotEq) (rOwnB C sp not) := by
  intro pins s σ H x y v u Q I rx ry h
  obtain ⟨a, b, dx, dy, fs, gs, rfl, rfl, ha, hb', q⟩ := h
  cases rx
  cases ry
  obtain ⟨mA, J, _⟩ := ins_get I.hok ha
  obtain ⟨mB, J', _⟩ := ins_get I.hok hb'
  obtain ⟨od, J, _⟩ := J.look
  obtain ⟨od', J', _⟩ := J'.look
  obtain ⟨m, hF⟩ := I.fr
  have Xk := I.kIn
  show wpAny (model X.prog X.w) X.A (richCompare .NotEq (.ref a) (.ref b)) (EP X pins σ Q) X.xe s
  have r2 : Vals [V.ref a, V.ref b] [Value.ref a, Value.ref b] := .cons rfl (.cons rfl .nil)
  have e0 : Env0 X.prog X.w X.K X.mg X.base X.A.in1 X.stack s H := I.env0.in1
  have hl : (([.ref a, .ref b] : List Value) ++ []).length = ps.length := by
    have := F.len _ _ _ _ q
    simpa using this
  -- the own ==, one deeper
  have own : wpAny (model X.prog X.w) X.A.in1 (call (.ref f) [.ref a, .ref b]) (EP X pins σ (fun v H' => ∃ t, v = .bl t ∧ Q (.bl (!t)) H')) X.xe s := by
    refine wpAny_call (codeAny_mono (F.run X.A.in1 X.stack s H ⟨[.ref a, .ref b], []⟩ [.ref a, .ref b] [.ref a, .ref b] _ E0 hr.in1 e0 (by
      have := hb s [.ref a, .ref b] I.kIn hl
      simpa using this) r2 q) fun r s' hq => ?_)
    cases r with
    | error e => exact pass0 pins σ H s e s' I hq
    | ok fl =>
      cases fl with
      | ret w => exact I.after hq
      | next => exact False.elim hq
      | brk => exact False.elim hq
      | cont => exact False.elim hq
  have neq : wpAny (model X.prog X.w) X.A.in1 (Builtin.«object.__ne__» ⟨[.ref a, .ref b], []⟩) (fun fin s' => ∃ t, fin = .done (.ret (.bool t)) ∧ EP X pins σ Q (.bool t) s') X.xe s := by
    unfold Builtin.«object.__ne__»
    refine wpAny_bind (m := slotArgs "__ne__" 1 ⟨[.ref a, .ref b], []⟩) ?_
    refine (show wpAny _ _ (pure (Value.ref a, [Value.ref b])) _ _ _ from wpAny_pure ?_)
    refine wpAny_bind (wpAny_cRoomFor hr.in1.units0 ?_)
    refine wpAny_bind (PySem.W.ifBound_K Xk J M.at_ M.fn (wpAny_mono own (fun v s' hv => ?_) fun _ _ e => e))
    obtain ⟨z, H', I', rz, t, rfl, q'⟩ := hv
    cases rz
    refine wpAny_bind (wpAny_truthy_bool ?_)
    exact wpAny_pure ⟨!t, rfl, .bl (!t), H', I', rfl, q'⟩
  have one : wpAny (model X.prog X.w) X.A (tryCompare (.ref a) "__ne__" (.ref b)) (fun r s' => ∃ v, r = some v ∧ EP X pins σ Q v s') X.xe s := by
    unfold tryCompare
    refine wpAny_bind (ifBoundB_K Xk J hne slot_ne (wpAny_call (codeAny_call_builtin slot_ne.plain PySem.F.cmpEntry_ne (check_slotK Xk J PySem.F.cmpKind_ne PySem.F.cmpSplit_ne (PySem.F.cmpArgs_ne _ _) hob ?_))))
    refine wpAny_mono neq (fun fin s' hv => ?_) fun e s' z => z
    obtain ⟨t, rfl, q'⟩ := hv
    exact wpAny_pure ⟨_, rfl, q'⟩
  unfold richCompare
  simp only [oneThing_ref]
  refine wpAny_holding (wpAny_bind (wpAny_cRoomFor hr.units0 ?_))
  refine wpAny_bind (J.type.here (wpAny_bind (J'.type.here ?_)))
  simp only [bne_self_eq_false, Bool.false_eq_true, if_false]
  refine wpAny_bind (wpAny_pure ?_)
  simp only [Bool.false_eq_true, if_false]
  refine wpAny_bind (wpAny_mono one (fun r s' z => ?_) fun _ _ e => e)
  obtain ⟨v, rfl, hq⟩ := z
  exact wpAny_pure hq
end
end Nw

namespace Nw
open PySem PySem.Spec PyProof.Rows L2
/-! ### an exception that was caught and is held as a value -/
def ExV (cls : Value) (d : Option Addr) (a : Addr) : HO := .ext fun h => ∃ (oe : Obj) (vs : Array Value), h.get? a = some oe ∧ Zc cls d oe ∧ oe.data = .fields vs
theorem exv_at {P : Program} {w : World} {H : Hp} {h : Heap} {cls : Value} {d : Option Addr} {a : Addr} (hok : HOk P w H h) (e : H a = some (ExV cls d a)) : ∃ (oe : Obj) (vs : Array Value), h.get? a = some oe ∧ Zc cls d oe ∧ oe.data = .fields vs := by
  have z : ObjOk P w H h a (ExV cls d a) := hok a _ e
  exact z.1
section
variable {X : Cx} {pins : List (Addr × Obj)} {σ : L2.St} {H : Hp} {s : Shared}
theorem inv_held {a : Addr} {oe : Obj} {vs : Array Value} {cls : Value} {d : Option Addr} (I : Inv X pins σ H s) (at_ : s.heap.get? a = some oe) (z : Zc cls d oe) (fl : oe.data = .fields vs) (fr : H a = none) (young : X.s_0.heap.get? a = none)
    (nl : a ≠ X.env.locals) (np : ∀ p ∈ X.pn ++ pins, p.1 ≠ a) : Inv X pins σ (upd H a (ExV cls d a)) s := by
  have nc : ∀ x c, X.env.cells.lookup x = some c → c ≠ a := fun x c e q => by
    obtain ⟨v, o, ho, hd⟩ := I.cell x c e
    rw [q, at_] at ho
    cases ho
    rw [fl] at hd
    cases hd
  refine ⟨I.ok, I.os, I.bare, { I.base with free := fun b o e n hx => ?_, tups := fun b xs e => ?_, frzs := fun b o u e => ?_, tbls := fun b ps e => ?_ }, I.loc, I.cell, ?_, fun x c e => ?_, fun p hp => ?_, ?_, I.len⟩
  · rw [upd_ne fun q => by rw [q, young] at e; cases e]
    exact I.base.free b o e n hx
  · have q := I.base.tups b xs e
    rw [upd_ne (ne_of_none q fr)]
    exact q
  · have q := I.base.frzs b o u e
    rw [upd_ne (ne_of_none q fr)]
    exact q
  · obtain ⟨more, q⟩ := I.base.tbls b ps e
    exact ⟨more, by rw [upd_ne (ne_of_none q fr)]; exact q⟩
  · rw [upd_ne nl.symm]
    exact I.free
  · rw [upd_ne (nc x c e)]
    exact I.freeC x c e
  · obtain ⟨p1, p2, p3⟩ := I.pin p hp
    exact ⟨p1, by rw [upd_ne (np p hp)]; exact p2, p3⟩
  · exact I.hok.laidN (fun _ _ q => q) fr ⟨⟨oe, vs, at_, z, fl⟩, ⟨oe, at_⟩, fun _ _ ⟨o, v, q, r⟩ k => ⟨o, v, k o q, r⟩⟩
end
/-- behind the suite the caught one stands as a value -/
def keepD (i : Nat) (a : Addr) (cls : Value) (d : Option Addr) (D : Ends) : Ends where
  nx := fun σ H => D.nx (σ.set i none) (upd H a (ExV cls d a))
  rt := fun v H => D.rt v (upd H a (ExV cls d a))
  bk := fun σ H => D.bk (σ.set i none) (upd H a (ExV cls d a))
  ct := fun σ H => D.ct (σ.set i none) (upd H a (ExV cls d a))
/-- what 'except c as n: suite' wishes, the exception being kept; one of another class isn't raised there -/
def wKeep (K : PySem.W.Frag) (c : Value) (i : Nat) (ts : Addr → Value → Option Addr → TS) (D : Ends) : WX := fun cls d σ H =>
  PySem.W.exmOne K cls c = some true ∧ ∀ a, H a = none → ts a cls d (keepD i a cls d D) (σ.set i (some (.ref a))) H
section
variable {X : Cx} {x n : Str} {c : Value} {i : Nat} {body suite : List Stmt} {b₀ : Stmt} {np pos pos' : Pos} {tb : WX → TS} {ts : Addr → Value → Option Addr → TS}
/-- an object in the air is none that stood at the call, no frame, no pinned one -/
structure Apart (X : Cx) (pins : List (Addr × Obj)) (a : Addr) : Prop where
  young : X.s_0.heap.get? a = none
  nl : a ≠ X.env.locals
  nf : a ∉ X.fs
  np : ∀ p ∈ X.pn ++ pins, p.1 ≠ a
theorem apart_of {pins : List (Addr × Obj)} {σ : L2.St} {H : Hp} {sI : Shared} {B h : Heap} {a : Addr} {Z : Obj → Prop} (hst : X.stack = X.env :: X.outer) (hfm : X.env.frame = some X.env.locals) (hex : X.ex = []) (I : Inv X pins σ H sI)
    (nb : ∀ b o, sI.heap.get? b = some o → b ∉ frs X.stack → B.get? b = some o) (fl : HandSPX.FlyingZ B (X.env :: X.outer) a Z h) : Apart X pins a := by
  obtain ⟨oe, vs, e1, e2, e3⟩ := fl.there
  have nB : B.get? a = none := fl.2.1
  have off : a ∉ frs (X.env :: X.outer) := fun hm => by
    obtain ⟨_, o', e', nofld⟩ := fl.2.2.1.mem hm
    rw [e1] at e'
    cases e'
    exact nofld _ e3
  have gone : ∀ o, sI.heap.get? a ≠ some o := fun o e => by
    have z := nb a o e (by rw [hst]; exact off)
    rw [nB] at z
    cases z
  refine ⟨?_, fun q => off (List.mem_filterMap.mpr ⟨X.env, List.mem_cons_self, by rw [hfm, q]⟩), fun hm => ?_, fun p hp q => ?_⟩
  · cases e : X.s_0.heap.get? a with
    | none => rfl
    | some o =>
      obtain ⟨o', z⟩ := I.base.there a o e (by rw [hex]; exact fun q => nomatch q)
      exact absurd z (gone o')
  · obtain ⟨ev, he, q⟩ := List.mem_filterMap.mp hm
    exact off (List.mem_filterMap.mpr ⟨ev, List.mem_cons_of_mem _ he, q⟩)
  · have z := (I.pin p hp).1
    rw [q] at z
    exact gone _ z
/-- try: body / except x as n: suite; the exception is kept behind it -/
theorem ps_try_keep (hst : X.stack = X.env :: X.outer) (hfm : X.env.frame = some X.env.locals) (hex : X.ex = []) (hN : X.N.Nodup) (hi : X.N[i]? = some n) (hln : X.env.kindOf n = some .local) (hc : Names X x c)
    (hb : ∀ (W : WX) (pn : List (Addr × Obj)) (xe : Value → Shared → Prop), Takes (X.tr pn xe) W → PSs (X.tr pn xe) body (tb W))
    (hsu : ∀ (a : Addr) (oe : Obj) (cls : Value) (d : Option Addr) (pn : List (Addr × Obj)), Zc cls d oe → (∃ vs, oe.data = .fields vs) → PSs (X.suite a ((a, oe) :: pn)) (b₀ :: suite) (ts a cls d)) :
    PS X (.Try body [.ExceptHandler (some (.Name x np)) (some n) (b₀ :: suite) pos'] [] [] pos) (fun D σ H => tb (wKeep X.K c i ts D) D σ H) := by
  refine ⟨fun pins s σ H D I wish => ?_⟩
  have hA : X.A.frames = some (X.env :: X.outer) := by rw [I.ok.frames, hst]
  -- what is raised in the body comes here
  have land : Takes (X.tr (X.pn ++ pins) fun e s1 => wpAny (model X.prog X.w) X.A (noteFrame e X.env) (fun _ s2 => wpAny (model X.prog X.w) X.A (setFlight e none) (fun _ s3 =>
      wpAny (model X.prog X.w) X.A (handleBy e X.env [.ExceptHandler (some (.Name x np)) (some n) (b₀ :: suite) pos']) (SP X pins D) X.xe s3) X.xe s2) X.xe s1) (wKeep X.K c i ts D) := by
    rintro u sx ⟨a, B, sI, pins', σx, Hx, cls, d, rfl, Ix, nb, up, sky, na, os, ag, hm, hyes⟩
    have J : Inv X pins σx Hx sI := Ix.ofTry I.ok
    show wpAny (model X.prog X.w) X.A (noteFrame (.ref a) X.env) _ _ _
    have sky2 : Sky B (X.env :: X.outer) a (Zc cls d) X.env.locals sx.heap := hst ▸ sky
    refine Sky.land Zc.steady hA hfm sky2 fun hA1 fl1 up1 => ?_
    have ap := apart_of hst hfm hex J nb fl1
    have J1 : Inv X pins σx Hx { sx with heap := hA1 } := J.landed nb fl1.1 (up.trans up1) os ag
    obtain ⟨o1, f1, g1, z1, d1⟩ := fl1.there
    have S1 := J1.suite g1 d1 na ap.nl ap.nf
    refine wpAny_handleBy_cons (codeAny_handlers_test ?_) (fun q => nomatch q)
    have LC : PySem.W.Looks (model X.prog X.w) hA1 (typeOf (.ref a)) cls := fun A1 Q1 E1 sh kk q => wpAny_typeOf_ref (kk _ _ g1) (by rw [z1.1]; exact q)
    have LM := PySem.W.exm_one (M := model X.prog X.w) (J1.kIn) LC hm
    have clause : ∀ {Q1 : Value → Shared → Prop} {E1 : Value → Shared → Prop}, Q1 c { sx with heap := hA1 } → wpAny (model X.prog X.w) (X.A.mark (some (.ref a))) (eval (.Name x np) X.env) Q1 E1 { sx with heap := hA1 } := fun {Q1 E1} q => by
      obtain ⟨hg, hdb, hm | ⟨hm, hv, hnn⟩⟩ := hc
      · exact ld_glob (X := X.suite a ((a, o1) :: (X.pn ++ pins))) S1 hg hm q hdb
      · exact ld_blt (X := X.suite a ((a, o1) :: (X.pn ++ pins))) S1 hg hm hv q hnn hdb
    refine clause (LM.here (codeAny_handlers_suite_as (HandSPX.lands_againZ fl1 fun hA2 fl2 up2 => ?_)))
    have J2 : Inv X pins σx Hx { sx with heap := hA2 } := J.landed nb fl2.1 ((up.trans up1).trans up2) os ag
    obtain ⟨o2, f2, g2, z2, d2⟩ := fl2.there
    refine store_ok (X := X.suite a ((a, o2) :: (X.pn ++ pins))) (v := .ref a) (J2.suite g2 d2 na ap.nl ap.nf) hN hi (.inl hln) rfl (fun s5 S5 => ?_) (.inr hln)
    refine wpAny_mono ((hsu a o2 cls d (X.pn ++ pins) z2 ⟨_, d2⟩).run [] s5 _ Hx _ S5 (hyes a na)) (fun f s6 hsp => ?_) (fun _ _ z => False.elim z)
    have out : ∀ {σ6 : L2.St} {H6 : Hp} {Q1 : Shared → Prop}, Inv (X.suite a ((a, o2) :: (X.pn ++ pins))) [] σ6 H6 s6 → (∀ s7, Inv X pins (σ6.set i none) (upd H6 a (ExV cls d a)) s7 → Q1 s7) →
        wpAny (model X.prog X.w) X.A (do bindName X.env n .none; unbindBehindTheSuite X.env n pos') (fun _ s7 => Q1 s7) X.xe s6 := fun {σ6 H6 Q1} S6 hq => by
      obtain ⟨p1, p2, _⟩ := S6.pin (a, o2) (List.mem_append_left _ List.mem_cons_self)
      exact gone_ok (inv_held (S6.unsuite I.ok) p1 z2 d2 p2 ap.young ap.nl ap.np) hN hi hln hq
    cases f with
    | next => exact let ⟨_, _, S6, q6⟩ := hsp; out S6 fun s7 J7 => ⟨_, _, J7, q6⟩
    | brk => exact let ⟨_, _, S6, q6⟩ := hsp; out S6 fun s7 J7 => ⟨_, _, J7, q6⟩
    | cont => exact let ⟨_, _, S6, q6⟩ := hsp; out S6 fun s7 J7 => ⟨_, _, J7, q6⟩
    | ret u => exact let ⟨_, _, _, S6, r6, q6⟩ := hsp; out S6 fun s7 J7 => ⟨_, _, _, J7, r6, q6⟩
  refine wpAny_Try_except (wpAny_mono ((hb (wKeep X.K c i ts D) _ _ land).run [] s σ H D (I.toTry _) wish) (fun f s1 hsp => ?_) (fun e s1 he => he))
  cases f with
  | next => exact let ⟨σ1, H1, J1, q⟩ := hsp; wpAny_execs_nil ⟨σ1, H1, J1.ofTry I.ok, q⟩
  | brk => exact let ⟨σ1, H1, J1, q⟩ := hsp; ⟨σ1, H1, J1.ofTry I.ok, q⟩
  | cont => exact let ⟨σ1, H1, J1, q⟩ := hsp; ⟨σ1, H1, J1.ofTry I.ok, q⟩
  | ret u => exact let ⟨v, σ1, H1, J1, r, q⟩ := hsp; ⟨v, σ1, H1, J1.ofTry I.ok, r, q⟩
end
/-! ### isinstance of such a value, its fields -/
/-- what isinstance and fields lean on, of an own exception class -/
structure ExF (K : PySem.W.Frag) (C : Addr) : Prop where
  ga : PySem.W.findIn K (.ref C) "__getattribute__" = some (some (.builtin "BaseException.__getattribute__"))
  gt : PySem.W.findIn K (.ref C) "__getattr__" = some none
  sb : PySem.W.subIn K (.ref C) (.type "BaseException") = some true
  hd : PySem.W.hasDictIn K C = true
  cl : PySem.W.findIn K (.ref C) "__class__" = some (some (.builtin "object.__class__"))
  sp : PySem.W.specialIn K (.builtin "object.__class__") "__get__" = some (some (.builtin "getset_descriptor.__get__"))
  tk : PySem.W.takesIn K (.builtin "object.__class__") = some true
  mr : PySem.W.mroIn K C (.type "object") = some true
def exfB (K : PySem.W.Frag) (C : Addr) : Bool :=
  decide (PySem.W.findIn K (.ref C) "__getattribute__" = some (some (.builtin "BaseException.__getattribute__"))) && (decide (PySem.W.findIn K (.ref C) "__getattr__" = some none) && (decide (PySem.W.subIn K (.ref C) (.type "BaseException") = some true) &&
  (PySem.W.hasDictIn K C && (decide (PySem.W.findIn K (.ref C) "__class__" = some (some (.builtin "object.__class__"))) && (decide (PySem.W.specialIn K (.builtin "object.__class__") "__get__" = some (some (.builtin "getset_descriptor.__get__"))) &&
  (decide (PySem.W.takesIn K (.builtin "object.__class__") = some true) && decide (PySem.W.mroIn K C (.type "object") = some true)))))))
theorem exfB_ok {K : PySem.W.Frag} {C : Addr} (h : exfB K C = true) : ExF K C := by
  unfold exfB at h
  simp only [Bool.and_eq_true, decide_eq_true_eq] at h
  obtain ⟨a, b, c, d, e, f, g, i⟩ := h
  exact ⟨a, b, c, d, e, f, g, i⟩
theorem clsIn_of {K : PySem.W.Frag} {C : Addr} (h : PySem.W.hasDictIn K C = true) : (PySem.W.clsIn K C).isSome = true := by
  obtain ⟨cd, hc, _⟩ := PySem.W.any_some h
  rw [hc]
  rfl
/-- the object at a of the class at C, as the library tells of instances -/
theorem exv_inst {X : Cx} {pins : List (Addr × Obj)} {σ : L2.St} {H : Hp} {s : Shared} {a C : Addr} {d : Option Addr} (I : Inv X pins σ H s) (e : H a = some (ExV (.ref C) d a)) (hd : ∀ dx, d = some dx → ∃ fs, H dx = some (.xd fs)) :
    ∃ ox od, PySem.W.InstAt s.heap a ox C od ∧ (∀ dx fs, d = some dx → H dx = some (.xd fs) → ∃ o, od = some o ∧ ∀ f, ∃ u, PySem.W.lookIn f o = some u ∧ RelO (fs.lookup f) u) := by
  obtain ⟨oe, vs, g, z, fl⟩ := exv_at I.hok e
  have nc : PySem.W.notCls oe = true := by
    unfold PySem.W.notCls
    rw [fl] <;> rfl
  cases d with
  | none => exact ⟨oe, none, ⟨g, z.1, nc, by rw [z.2]; trivial⟩, fun dx fs q => nomatch q⟩
  | some dx =>
    obtain ⟨fs, hfs⟩ := hd dx rfl
    have hx : ObjOk X.prog X.w H s.heap dx (.xd fs) := I.hok dx _ hfs
    obtain ⟨mA, hns, hr⟩ := hx
    obtain ⟨o, ho, look⟩ := lookIn_ns hns
    refine ⟨oe, some o, ⟨g, z.1, nc, by rw [z.2]; exact ho⟩, fun dx' fs' q q' => ?_⟩
    cases q
    rw [hfs] at q'
    cases q'
    exact ⟨o, rfl, fun f => ⟨mA f, look f, hr f⟩⟩
def rIsV (K : PySem.W.Frag) : List V → Hp → VK → Prop := fun xs H Q => ∃ (a C : Addr) (d : Option Addr) (c : V) (u : Value) (b : Bool), xs = [.ref a, c] ∧ H a = some (ExV (.ref C) d a) ∧ (∀ dx, d = some dx → ∃ fs, H dx = some (.xd fs)) ∧ ExF K C ∧ ClsV c u ∧ PySem.W.kitOne K (.ref C) u = some b ∧ Q (.bl b) H
theorem call_isV {X : Cx} : CallR X (.builtin "isinstance") (rIsV X.K) := by
  intro pins s σ H xs us Q I r h
  obtain ⟨a, C, d, c, u, b, rfl, e, hd, F, k, kit, q⟩ := h
  obtain ⟨u1, u2, rfl, r1, r2⟩ := vals2 r
  have e2 := k.eq r2
  subst e2
  cases r1
  obtain ⟨ox, od, J, _⟩ := exv_inst I e hd
  exact PySem.W.kia_one (PySem.W.kitx_exc (clsIn_of F.hd) F.ga F.gt F.sb F.cl F.sp F.tk F.mr) I.kIn J kit (fun z => nomatch z) fun tk => ⟨.bl b, H, I.tok tk, rfl, q⟩
/-- what may be anything: a plain value or such a one -/
def rIsA (K : PySem.W.Frag) : List V → Hp → VK → Prop := fun xs H Q => rIsi K xs H Q ∨ rIsV K xs H Q
theorem call_isA {X : Cx} : CallR X (.builtin "isinstance") (rIsA X.K) := by
  intro pins s σ H xs us Q I r h
  rcases h with h | h
  · exact call_isi pins s σ H xs us Q I r h
  · exact call_isV pins s σ H xs us Q I r h
/-- e.f of such a value -/
def tExF (K : PySem.W.Frag) (f : Str) (te : TE) : TE := fun σ H Q => te σ H fun x H1 => ∃ (a C dx : Addr) (fs : List (Str × V)) (v : V), x = .ref a ∧ H1 a = some (ExV (.ref C) (some dx) a) ∧ H1 dx = some (.xd fs) ∧ ExF K C ∧ PySem.W.findIn K (.ref C) f = some none ∧ fs.lookup f = some v ∧ Q v H1
theorem pe_exf {X : Cx} {e : Expr} {te : TE} {pos : Pos} {f : Str} (he : PE X e te) (hb : attributeBase e f X.env (eval e X.env) = eval e X.env := by rfl) : PE X (.Attribute e f pos) (tExF X.K f te) := by
  refine ⟨fun pins s σ H Q I h => ?_⟩
  refine attr_of hb (thn (he.run pins s σ H _ I h) fun u s1 ⟨x, H1, I1, rx, a, C, dx, fs, v, ex, ea, ed, F, hno, l, q⟩ => ?_)
  subst ex
  cases rx
  obtain ⟨ox, od, J, hl⟩ := exv_inst I1 ea fun dx' z => by cases z; exact ⟨fs, ed⟩
  obtain ⟨o, rfl, look⟩ := hl dx fs rfl ed
  obtain ⟨m, h1, h2⟩ := look f
  rw [l] at h2
  obtain ⟨u, hu, ru⟩ := RelO.some_of (v := v) (o := m) h2
  exact HandSPX.exc_get I1.kIn J F.ga F.gt F.sb (PySem.W.findObj_own F.hd hno rfl (by rw [h1, hu])) (handed_of ru) ⟨v, H1, I1.tok _, ru, q⟩
end Nw

namespace Nw
open PySem PySem.Spec PyProof.Rows L2
/-! ### own exception classes with fields: what the head tells of them -/
def oexC (C : Addr) (mro : List Value) (sl : List (Option Value)) : Bool := match mro, sl with
  | .ref c :: bm, [_, _, _, _, some (.builtin n), _] => decide (c = C) && (decide (n = "ValueError.__new__") && PySem.HandSPX.refsVE bm)
  | _, _ => false
def oexO (K : PySem.W.Frag) (C : Addr) : Bool := match K.lookup C with
  | some ⟨.type t, _, .cls cd, sl⟩ => decide (t = "type") && (cd.hasDict && (!cd.hasDel && oexC C cd.mro sl.toList))
  | _ => false
def oexB (K : PySem.W.Frag) (C : Addr) : Bool := oexO K C && (decide (PySem.W.findIn K (.ref C) "__setattr__" = some (some (.builtin "object.__setattr__"))) &&
  (decide (PySem.W.subIn K (.ref C) (.type "BaseException") = some true) && (decide (PySem.W.typeIn K (.ref C) = some (.type "type")) && PySem.W.keepIn K (.ref C))))
theorem oexB_ok {K : PySem.W.Frag} {C : Addr} (h : oexB K C = true) : OexC K C := by
  unfold oexB at h
  simp only [Bool.and_eq_true, decide_eq_true_eq] at h
  obtain ⟨h0, h1, h2, h3, h4⟩ := h
  refine ⟨?_, h1, h2, h3, h4⟩
  unfold oexO at h0
  split at h0
  · rename_i t dd cd sl hl
    simp only [Bool.and_eq_true, decide_eq_true_eq, Bool.not_eq_true'] at h0
    obtain ⟨rfl, hd, hdel, hc⟩ := h0
    unfold oexC at hc
    split at hc
    · rename_i c bm k0 k1 k2 k3 n k5 hm hs
      simp only [Bool.and_eq_true, decide_eq_true_eq] at hc
      obtain ⟨rfl, rfl, hb⟩ := hc
      obtain ⟨nm, bs, mro, ns, qn, hdd, sn, sub, ab, col, del⟩ := cd
      dsimp only at hm hd hdel
      subst hm hd hdel
      obtain ⟨ls⟩ := sl
      dsimp only at hs
      subst hs
      exact ⟨nm, qn, ns, bs, bm, sn, sub, ab, col, dd, k0, k1, k2, k3, k5, hl, hb⟩
    · cases hc
  · cases h0
/-- the class above them: its own __init__ is ValueError's -/
structure OeI (K : PySem.W.Frag) (C : Addr) : Prop where
  sp : PySem.W.specialIn K (.ref C) "__getattribute__" = some (some (.builtin "type.__getattribute__"))
  rd : PySem.W.readsIn K C (.type "type") = true
  at_ : PySem.W.findCls K (.ref C) (.type "type") "__init__" = some (.val (.builtin "ValueError.__init__"))
def veiB : Option PySem.W.CFound → Bool
  | some (.val (.builtin n)) => decide (n = "ValueError.__init__")
  | _ => false
theorem veiB_ok {o : Option PySem.W.CFound} (h : veiB o = true) : o = some (.val (.builtin "ValueError.__init__")) := by
  unfold veiB at h
  split at h
  · rw [of_decide_eq_true h]
  · cases h
def oeiB (K : PySem.W.Frag) (C : Addr) : Bool := decide (PySem.W.specialIn K (.ref C) "__getattribute__" = some (some (.builtin "type.__getattribute__"))) && (PySem.W.readsIn K C (.type "type") &&
  veiB (PySem.W.findCls K (.ref C) (.type "type") "__init__"))
theorem oeiB_ok {K : PySem.W.Frag} {C : Addr} (h : oeiB K C = true) : OeI K C := by
  unfold oeiB at h
  simp only [Bool.and_eq_true, decide_eq_true_eq] at h
  exact ⟨h.1, h.2.1, veiB_ok h.2.2⟩
/-- C0.__init__(self, ..) -/
theorem pe_oeinit {X : Cx} {c : Str} {C0 : Addr} {e : Expr} {es : List Expr} {ta : TA} {p1 p2 pos : Pos} {pl : Sem Bool} (F : OeI X.K C0) (hm : X.mg c = some (.ref C0)) (ha : PA X (e :: es) ta) (hg : Gl X c := by rfl) (hdb : (c == ("__debug__" : Str)) = false := by decide)
    (hc : eval (.Call (.Attribute (.Name c p1) "__init__" p2) (e :: es) [] pos) X.env = (do
      let cv ← eval (.Name c p1) X.env
      standAt p2.atName
      let (g, fst) ← holding [cv] (getMethod cv "__init__" pl)
      callWith pos g fst (backTo pos (starEach (e :: es) X.env)) (backToKw pos (keywordEach [] X.env))) := by rfl)
    (hst : starEach (e :: es) X.env = (false, eval e X.env) :: starEach es X.env := by rfl) (hpl : (backTo pos (starEach es X.env)).any (·.1) = false := by rfl) :
    PE X (.Call (.Attribute (.Name c p1) "__init__" p2) (e :: es) [] pos) (tVeI X.K ta) := by
  refine ⟨fun pins s σ H Q I h => PySem.W.methodCall_KW (ld_glob I hg hm ?_ hdb) hc⟩
  refine PySem.W.method_cls I.kIn F.sp (PySem.W.cls_value I.kIn F.rd F.at_ (by first | rfl | decide +kernel) ?_)
  have I0 := I.tok (s.toks + 1)
  refine PyProof.Rows.callWith_method1 (thn (ha.run pos pins _ σ H _ I0 h) fun us s1 ⟨vs, H1, I1, rv, a, C, ws, ev, hl, T, ea, q⟩ => ?_) hst hpl
  subst ev
  cases rv with
  | @cons _ u0 _ ur ra rw' =>
    obtain rfl : u0 = Value.ref a := ra
    refine oinit_ok T I1 ea ?_ fun s' J => ⟨.non, H1, J, rfl, q⟩
    rw [← Paired.length rw', sizeLine_eq]
    omega
/-! ### an __init__ with one field, with two -/
def spX1 (K : PySem.W.Frag) (C : Addr) (f : Str) : Sp := fun vs H Q _ => ∃ (a : Addr) (v : V), vs = [.ref a, v] ∧ H a = some (exo a C none) ∧ ∀ dx, H dx = none → dx ≠ a → Q .non (upd (upd H dx (exd dx [(f, v)])) a (exo a C (some dx)))
def spX2 (K : PySem.W.Frag) (C : Addr) (f g : Str) : Sp := fun vs H Q _ => ∃ (a : Addr) (v w : V), vs = [.ref a, v, w] ∧ H a = some (exo a C none) ∧ ∀ dx, H dx = none → dx ≠ a → Q .non (upd (upd H dx (exd dx [(g, w), (f, v)])) a (exo a C (some dx)))
theorem upd_upd {H : Hp} {a : Addr} {o o' : HO} : upd (upd H a o) a o' = upd H a o' := by
  funext b
  by_cases h : b = a
  · rw [h, upd_same, upd_same]
  · rw [upd_ne h, upd_ne h, upd_ne h]
theorem upd_comm {H : Hp} {a b : Addr} {o u : HO} (h : a ≠ b) : upd (upd H a o) b u = upd (upd H b u) a o := by
  funext c
  by_cases h1 : c = a
  · rw [h1, upd_ne h, upd_same, upd_same]
  · by_cases h2 : c = b
    · rw [h2, upd_same, upd_ne h.symm, upd_same]
    · rw [upd_ne h2, upd_ne h1, upd_ne h1, upd_ne h2]
theorem made_heap {H1 : Hp} {a dx C : Addr} {fs : List (Str × V)} (na : H1 a = none) (ne : dx ≠ a) :
    upd (del (upd (upd (upd H1 a (exo a C none)) dx (exd dx fs)) a (exo a C (some dx))) a) dx (.xd fs) = upd H1 dx (.xd fs) := by
  funext b
  by_cases h : b = dx
  · rw [h, upd_same, upd_same]
  · rw [upd_ne h, upd_ne h]
    by_cases h2 : b = a
    · rw [h2, del_same, na]
    · rw [del_ne h2, upd_ne h2, upd_ne h, upd_ne h2]
/-- what X(e) asks behind its argument -/
theorem mk1 {K : PySem.W.Frag} {C : Addr} {f : Str} {v : V} {H1 : Hp} {Q : XK} (k : ∀ dx, H1 dx = none → Q (.ref C) (some dx) (upd H1 dx (.xd [(f, v)]))) :
    [v].length ≤ 1000 ∧ ∀ a, H1 a = none → spX1 K C f (.ref a :: ([v] ++ [])) (upd H1 a (exo a C none))
      (fun w H2 => w = .non ∧ ∃ (d : Addr) (fs : List (Str × V)), H2 a = some (exo a C (some d)) ∧ H2 d = some (exd d fs) ∧ H1 d = none ∧ Q (.ref C) (some d) (upd (del H2 a) d (.xd fs))) (fun _ _ _ => False) := by
  refine ⟨by simp, fun a na => ⟨a, v, rfl, upd_same, fun dx hdx ne => ⟨rfl, dx, _, upd_same, by rw [upd_ne ne]; exact upd_same, ?_, ?_⟩⟩⟩
  · rw [upd_ne ne] at hdx
    exact hdx
  · rw [made_heap na ne]
    refine k dx ?_
    rw [upd_ne ne] at hdx
    exact hdx
theorem mk2 {K : PySem.W.Frag} {C : Addr} {f g : Str} {v w : V} {H1 : Hp} {Q : XK} (k : ∀ dx, H1 dx = none → Q (.ref C) (some dx) (upd H1 dx (.xd [(g, w), (f, v)]))) :
    [v, w].length ≤ 1000 ∧ ∀ a, H1 a = none → spX2 K C f g (.ref a :: ([v, w] ++ [])) (upd H1 a (exo a C none))
      (fun w H2 => w = .non ∧ ∃ (d : Addr) (fs : List (Str × V)), H2 a = some (exo a C (some d)) ∧ H2 d = some (exd d fs) ∧ H1 d = none ∧ Q (.ref C) (some d) (upd (del H2 a) d (.xd fs))) (fun _ _ _ => False) := by
  refine ⟨by simp, fun a na => ⟨a, v, w, rfl, upd_same, fun dx hdx ne => ⟨rfl, dx, _, upd_same, by rw [upd_ne ne]; exact upd_same, ?_, ?_⟩⟩⟩
  · rw [upd_ne ne] at hdx
    exact hdx
  · rw [made_heap na ne]
    refine k dx ?_
    rw [upd_ne ne] at hdx
    exact hdx
section
variable {X : Cx} {P : Program} {w : World} {K : PySem.W.Frag} {mg : Str → Option Value} {base : Heap} {k : Nat} {f C : Addr} {ps : List Str} {sp : Sp} {E : XK} {x m : Str} {pos ppos apos : Pos} {e o : Expr} {es : List Expr} {ta : TE} {t : TA}
/-- X(e, ..), X an own class with its own __init__ -/
theorem pmk_oexC (O : OexC X.K C) (M : Meth X.K C "__init__" f) (G : Ok X.prog X.w X.K X.mg X.base CX0 k f ps sp) (hr : Room (k + 1) X.A) (hm : X.mg x = some (.ref C)) (ha : PA X (e :: es) t) (hg : Gl X x := by rfl) (hdb : (x == ("__debug__" : Str)) = false := by decide)
    (hst : starEach (e :: es) X.env = (false, eval e X.env) :: starEach es X.env := by rfl) (hpl : (backTo pos (starEach es X.env)).any (·.1) = false := by rfl) : PMk X (.Call (.Name x ppos) (e :: es) [] pos) (tMkO C sp [] t) := by
  obtain ⟨fd, F, b, kp, _⟩ := G.ok
  exact pmk_oex O M.at_ (beq_iff_eq.mp M.fn) F hr b .nil pass0 hg hm ha hdb hst hpl
/-- a def that may let exceptions out -/
theorem ok_ofX {qual : Str} {st : Stmt} {N : List Str} (F : FnAt K x qual st f) (S : FnScope N ps (defScope st))
    (hb : ∀ (kV doc pm : Value) (an : Option Addr) (cdv ct : Value) (us : List Value), us.length = ps.length → bindArgs (PySem.W.fnOf x qual (defArgs st) (defBody st) (defScope st) .none kV doc pm an cdv ct) ⟨us, []⟩ = pure (ps.zip us))
    (len : ∀ vs H Q E, sp vs H Q E → vs.length = ps.length)
    (hbody : ∀ (cdv : Value) (A : Around) (outer : List Env) (s : Shared) (H : Hp) (vs : List V) (Q : VK) (E : XK), Room k (A.deeper (envOfC qual (defScope st) s.heap.objs.size f cdv)) → sp vs H Q E →
      ∃ t, PSs (cxOf (L2.CX P w) P w K mg base N qual (defScope st) f cdv A outer s H E) (defBody st) t ∧ t { nx := fun _ H' => Q .non H', rt := Q } (start N vs) H) : Ok P w K mg base (L2.CX P w) (k + 1) f ps sp := by
  obtain ⟨fd, F⟩ := F
  exact ⟨fd, F.ok S len hbody, F.bindsN hb, F.kp, let ⟨oc, od, _, _, _, _, _, _, _, osl, _, lk, _⟩ := F.ex; ⟨oc, od, osl, lk⟩⟩
/-- where no exception is let out, though a callee may raise at other arguments -/
theorem passN : Passes (L2.CX X.prog X.w) X E0 := passL
/-- in a def's body: what a callee lets out goes out -/
theorem passE {E1 : Value → Shared → Prop} (hs : X.stack = X.env :: X.outer := by rfl) (hf : X.env.frame = some X.env.locals := by rfl) (hex : X.ex = [] := by rfl)
    (hx : X.xe = fun e s' => wpAny (model X.prog X.w) X.A (leaving X.env e) (fun _ s'' => L2.CX X.prog X.w X.outer X.H_0 X.s_0 E e s'') E1 s' := by rfl) : Passes (L2.CX X.prog X.w) X E := passes_call (takes_of hs hf hex hx) fun _ _ _ _ z => z
/-- in a try's body: the wish, for all slots of the right number -/
def EW (n : Nat) (W : WX) : XK := fun cls d H => ∀ σ : L2.St, σ.length = n → W cls d σ H
theorem Takes.len {W : WX} (t : Takes X W) : Takes X (fun cls d σ H => σ.length = X.N.length → W cls d σ H) := fun u s' ⟨a, B, sI, pins, σ, H, cls, d, e, I, nb, up, sky, na, os, ag, h⟩ =>
  t u s' ⟨a, B, sI, pins, σ, H, cls, d, e, I, nb, up, sky, na, os, ag, h I.len⟩
theorem passW {W : WX} (n : Nat) (t : Takes X W) (hn : X.N.length = n := by rfl) : Passes (L2.CX X.prog X.w) X (EW n W) := passes_call (Nw.Takes.len t) fun _ _ σ _ z hl => z σ (hl.trans hn)
theorem pe_callX (G : Ok X.prog X.w X.K X.mg X.base (L2.CX X.prog X.w) k f ps sp) (hr : Room k X.A) (hm : X.mg x = some (.ref f)) (hx : Passes (L2.CX X.prog X.w) X E) (ha : PA X (e :: es) t) (hg : Gl X x := by rfl) (hdb : (x == ("__debug__" : Str)) = false := by decide)
    (hst : starEach (e :: es) X.env = (false, eval e X.env) :: starEach es X.env := by rfl) (hpl : (backTo pos (starEach es X.env)).any (·.1) = false := by rfl) : PE X (.Call (.Name x ppos) (e :: es) [] pos) (tCall sp [] E t) := by
  obtain ⟨fd, F, b, kp, _⟩ := G.ok
  exact pe_call F hr hg hm kp b .nil hx ha hdb hst hpl
theorem pe_makeX (M : Mk X.K C f) (G : Ok X.prog X.w X.K X.mg X.base (L2.CX X.prog X.w) k f ps sp) (hr : Room (k + 1) X.A) (hm : X.mg x = some (.ref C)) (hx : Passes (L2.CX X.prog X.w) X E) (ha : PA X (e :: es) t) (hg : Gl X x := by rfl) (hdb : (x == ("__debug__" : Str)) = false := by decide)
    (hst : starEach (e :: es) X.env = (false, eval e X.env) :: starEach es X.env := by rfl) (hpl : (backTo pos (starEach es X.env)).any (·.1) = false := by rfl) : PE X (.Call (.Name x ppos) (e :: es) [] pos) (tMake C sp [] E t) := by
  obtain ⟨fd, F, b, kp, _⟩ := G.ok
  exact pe_make M F hr hg hm b .nil hx ha hdb hst hpl
/-- a op b by the class's own method, which may raise -/
def rOwnX (C : Addr) (sp : Sp) (E : XK) : R2 := fun x y H Q => ∃ a b dx dy fs gs, x = .ref a ∧ y = .ref b ∧ H a = some (.ins C dx fs) ∧ H b = some (.ins C dy gs) ∧ sp [.ref a, .ref b] H (fun v H' => ∃ p, v = .ref p ∧ Q v H') E
theorem op_ownX {op : Operator} {nm : Str} (M : Meth X.K C nm f) (he : PySem.dunder op.info.2 = nm) (hc : PySem.W.selfFirst X.K C = true) (G : Ok X.prog X.w X.K X.mg X.base (L2.CX X.prog X.w) k f ps sp) (hr : Room k X.A) (hx : Passes (L2.CX X.prog X.w) X E) : OpR X (binaryOp op) (rOwnX C sp E) := by
  intro pins s σ H x y v u Q I rx ry h
  obtain ⟨fd, F, b, kp, _⟩ := G.ok
  obtain ⟨p, q, dx, dy, fs, gs, rfl, rfl, hp, hq, h⟩ := h
  cases rx
  cases ry
  obtain ⟨_, Jp, _⟩ := ins_get I.hok hp
  obtain ⟨_, Jq, _⟩ := ins_get I.hok hq
  obtain ⟨od, Jp, _⟩ := Jp.look
  obtain ⟨od', Jq, _⟩ := Jq.look
  obtain ⟨m, fr⟩ := I.fr
  refine PySem.W.binop_K fr I.ok.mod.kin Jp Jq.type hc (by rw [he]; exact M.at_) M.fn ?_
  refine wpAny_mono (run_fn (vs := [.ref p, .ref q]) (dvs := []) (ds := []) (E := E) F hr b .nil hx I (.cons rfl (.cons rfl .nil)) h) (fun v s' ⟨z, H', I', rz, r, e, k⟩ => ?_) fun _ _ z => z
  subst e
  cases rz
  exact ⟨.ref r, _, I', rfl, k⟩
end
end Nw

namespace Nw
open PySem PySem.Spec PyProof.Rows L2
/-! ### properties: the getter found through its class -/
def propAt (K : PySem.W.Frag) (C : Addr) (m : Str) : Addr := match PySem.W.findIn K (.ref C) m with
  | some (some (.ref p)) => p
  | _ => 0
def propGet (K : PySem.W.Frag) (C : Addr) (m : Str) : Addr := match PySem.W.recIn K (propAt K C m) "property" with
  | some (.ref g :: _) => g
  | _ => 0
def recB (K : PySem.W.Frag) (p g : Addr) : Bool := match PySem.W.recIn K p "property" with
  | some (.ref h :: _) => decide (h = g)
  | _ => false
def propB (K : PySem.W.Frag) (C : Addr) (m : Str) : Bool := decide (PySem.W.findIn K (.ref C) m = some (some (.ref (propAt K C m)))) && (decide (PySem.W.specialIn K (.ref (propAt K C m)) "__get__" = some (some (.builtin "property.__get__"))) &&
  (decide (PySem.W.takesIn K (.ref (propAt K C m)) = some true) && recB K (propAt K C m) (propGet K C m)))
theorem propB_ok {K : PySem.W.Frag} {C : Addr} {m : Str} (h : propB K C m = true) : PropOf K C m (propAt K C m) (propGet K C m) := by
  unfold propB at h
  simp only [Bool.and_eq_true, decide_eq_true_eq] at h
  obtain ⟨h1, h2, h3, h4⟩ := h
  refine ⟨h1, h2, h3, ?_⟩
  unfold recB at h4
  split at h4
  · rename_i g r e
    rw [← of_decide_eq_true h4]
    exact ⟨r, e⟩
  · cases h4
/-- a function by its address -/
def fnAtA (K : PySem.W.Frag) (f : Addr) : He.FnW := match K.lookup f with
  | some ⟨_, _, .func fd, _⟩ => some (fd.name, fd.qualname, fd.params, fd.body, fd.scope, fd.globals, fd.closure, fd.builtins)
  | _ => none
def fnOkA (K : PySem.W.Frag) (f : Addr) (q : Str) : Bool := PySem.W.keepIn K (.ref f) && (match K.lookup f with
  | some ⟨_, _, .func fd, _⟩ => PySem.W.codeIn K fd.code q && (He.dflB K fd.defaults [] && He.kwdB K fd.kwdefaults [])
  | _ => false)
theorem funD_at {K : PySem.W.Frag} {f : Addr} {d : He.DefD} (e : fnAtA K f = d.val) (c : fnOkA K f d.qual = true) : ∃ fd, FunD K d.name d.qual d.params d.body d.scope [] [] f fd := by
  unfold fnOkA at c
  rw [Bool.and_eq_true] at c
  obtain ⟨kp, c⟩ := c
  unfold fnAtA at e
  split at e
  · rename_i oc od fd osl lk
    rw [lk] at c
    obtain ⟨a1, a2, a3, a4, a5, a6, a7, a8, a9, a10, a11, a12, a13, a14, a15⟩ := fd
    unfold He.DefD.val at e
    simp only [Option.some.injEq, Prod.mk.injEq] at e
    obtain ⟨e1, e2, e3, e4, e5, e6, e7, e8⟩ := e
    subst e1 e2 e3 e4 e5 e6 e7 e8
    simp only [Bool.and_eq_true] at c
    exact ⟨_, ⟨oc, od, a8, a9, a10, a11, a12, a13, a14, osl, rfl, lk, c.1, He.dflB_ok c.2.1, He.kwdB_ok c.2.2⟩, kp⟩
  · cases e
/-- the head's look, with the getters and the model's own statics -/
abbrev GetD : Type := (Str × Str) × He.DefD
def getAd (K : PySem.W.Frag) (g : GetD) : Addr := propGet K (He.ga K g.1.1) g.1.2
abbrev AlP : Type := (He.AlD × Bool) × (List He.FnW × Bool)
def frP (n : Nat) (g : Addr → Option Obj) : PySem.W.Frag := He.frT g (cStatics :: He.asD g n)
def obsK (fa : List He.Fa) (fn : List He.DefD) (tf : List He.Defn) (ex : PySem.W.Frag → Bool) (gs : List GetD) (g : Addr → Option Obj) (K : PySem.W.Frag) : AlP :=
  ((He.obsD fa fn K, ex K && He.tabsB g tf K), (gs.map fun d => fnAtA K (getAd K d), gs.all fun d => fnOkA K (getAd K d) d.2.qual))
def obsP (n : Nat) (fa : List He.Fa) (fn : List He.DefD) (tf : List He.Defn) (ex : PySem.W.Frag → Bool) (gs : List GetD) (g : Addr → Option Obj) : AlP := obsK fa fn tf ex gs g (frP n g)
def valP (fn : List He.DefD) (gs : List GetD) : AlP := ((He.valD fn, true), (gs.map fun d => d.2.val, true))
structure SaysP (fa : List He.Fa) (fn : List He.DefD) (tf : List He.Defn) (ex : PySem.W.Frag → Bool) (gs : List GetD) (h : Heap) (K : PySem.W.Frag) : Prop where
  d : He.SaysD fa fn K
  more : ex K = true
  hd : ∀ p ∈ tf, PySem.W.codeHdIn K (He.cT K p).1 (He.cT K p).2 = true
  out : ∀ p ∈ tf, K.lookup (He.cT K p).2 = none
  empty : ∀ p ∈ tf, h.get? (He.cT K p).2 = some { cls := .none, data := .fields #[] }
  fns : (gs.map fun d => fnAtA K (getAd K d)) = gs.map fun d => d.2.val
  oks : (gs.all fun d => fnOkA K (getAd K d) d.2.qual) = true
theorem tab_at {h : Heap} {tf : List He.Defn} {K : PySem.W.Frag} (e : He.tabsB h.get? tf K = true) : ∀ p ∈ tf, PySem.W.codeHdIn K (He.cT K p).1 (He.cT K p).2 = true ∧ ∃ o, h.get? (He.cT K p).2 = some o ∧ He.emptyTab o = true := fun p hp => by
  have z := List.all_eq_true.mp e p hp
  rw [Bool.and_eq_true] at z
  refine ⟨z.1, ?_⟩
  have z2 := z.2
  split at z2
  · rename_i o q
    exact ⟨o, q, z2⟩
  · cases z2
theorem saysP_of {n : Nat} {fa : List He.Fa} {fn : List He.DefD} {tf : List He.Defn} {ex : PySem.W.Frag → Bool} {gs : List GetD} {h : Heap} (e : obsP n fa fn tf ex gs h.get? = valP fn gs) : SaysP fa fn tf ex gs h (frP n h.get?) := by
  have e2 : (ex (frP n h.get?) && He.tabsB h.get? tf (frP n h.get?)) = true := congrArg (fun z : AlP => z.1.2) e
  rw [Bool.and_eq_true] at e2
  have tb := tab_at e2.2
  refine ⟨congrArg (fun z : AlP => z.1.1) e, e2.1, fun p hp => (tb p hp).1, fun p hp => ?_, fun p hp => ?_, congrArg (fun z : AlP => z.2.1) e, congrArg (fun z : AlP => z.2.2) e⟩
  · obtain ⟨_, o, q, z⟩ := tb p hp
    exact He.frT_none q z
  · obtain ⟨_, o, q, z⟩ := tb p hp
    rw [q, He.emptyTab_eq z]
def hookP (n : Nat) (fa : List He.Fa) (fn : List He.DefD) (tf : List He.Defn) (ex : PySem.W.Frag → Bool) (gs : List GetD) : PySem.W.Hook where
  α := AlP
  obs := fun s => obsP n fa fn tf ex gs s.heap.get?
  val := fun _ => valP fn gs
  says := fun _ h => ∃ K : PySem.W.Frag, K.In h ∧ SaysP fa fn tf ex gs h K
  of := fun _ _ e => ⟨_, He.frT_in, saysP_of e⟩
  keeps := fun _ _ _ ⟨K, hK, c⟩ k => ⟨K, PySem.W.Frag.In.keeps hK k, ⟨c.d, c.more, c.hd, c.out, fun p hp => k _ _ (c.empty p hp), c.fns, c.oks⟩⟩
theorem obsP_eq {n : Nat} {fa : List He.Fa} {fn : List He.DefD} {tf : List He.Defn} {ex : PySem.W.Frag → Bool} {gs : List GetD} {g : Addr → Option Obj} {s : Shared} (h : ∀ a, g a = s.heap.get? a) : obsP n fa fn tf ex gs g = (hookP n fa fn tf ex gs).obs s := by
  obtain rfl : g = s.heap.get? := funext h
  rfl
theorem SaysP.get {fa : List He.Fa} {fn : List He.DefD} {tf : List He.Defn} {ex : PySem.W.Frag → Bool} {gs : List GetD} {h : Heap} {K : PySem.W.Frag} (c : SaysP fa fn tf ex gs h K) (i : Nat) {d : GetD} (e : gs[i]? = some d := by rfl) :
    ∃ fd, FunD K d.2.name d.2.qual d.2.params d.2.body d.2.scope [] [] (getAd K d) fd := by
  have e2 : (gs.map fun d => fnAtA K (getAd K d))[i]? = (gs.map fun d => d.2.val)[i]? := by rw [c.fns]
  rw [List.getElem?_map, List.getElem?_map, e] at e2
  exact funD_at (Option.some.inj e2) (List.all_eq_true.mp c.oks d (List.mem_of_getElem? e))
theorem pe_propC {X : Cx} {k : Nat} {C p g : Addr} {f : Str} {ps : List Str} {sp : Sp} {e : Expr} {pos : Pos} {ta : TE} (c : Cls X.K C) (hp : PropOf X.K C f p g) (G : Ok X.prog X.w X.K X.mg X.base CX0 k g ps sp) (hr : Room (k + 1) X.A) (he : PE X e ta)
    (hab : attributeBase e f X.env (eval e X.env) = eval e X.env := by rfl) : PE X (.Attribute e f pos) (tProp C sp [] E0 ta) := by
  obtain ⟨fd, F, b, _⟩ := G.ok
  exact pe_prop he c hp F hr b .nil pass0 hab
theorem xfc {K : PySem.W.Frag} {C : Addr} (F : ExF K C) : XfC K C := ⟨F.ga, F.gt, F.sb, F.hd⟩
end Nw

namespace Nw
open PySem PySem.Spec PyProof.Rows L2
/-! ### tables of code objects beside the view -/
def noTb (I : Hp) : Prop := ∀ b ps, I b ≠ some (.tbl ps)
section
variable {T : Addr → Prop} {I H I' H' H1 : Hp} {Tb : List (Addr × Str)} {D : DA} {n m : Nat}
theorem Grow.noTb (g : Grow T I H I' H') (h : noTb I) : Nw.noTb I' := fun b ps e => h b ps (g.tbl b ps e)
theorem ext_sub (sb : Same I H) (h : noTb I) (e : LamX.ExtN H H1) : Same I H1 := fun b o q => e b o (sb b o q) fun ps z => h b ps (by rw [← z]; exact q)
theorem tabs_keep (t : LamX.Tabs Tb H) (g : Grow T I H I' H') (h : ∀ b o, H b = some o → ((∃ ps, o = .tbl ps) ∨ ∃ φ, o = .ext φ) → ¬ T b) : LamX.Tabs Tb H' := fun p hp => by
  obtain ⟨ps, h1, h2, h3⟩ := t p hp
  refine ⟨ps, g.keep _ _ (h _ _ h1 (.inl ⟨_, rfl⟩)) h1, h2, fun pos cv hc => ?_⟩
  obtain ⟨c, e1, e2⟩ := h3 pos cv hc
  exact ⟨c, e1, g.keep _ _ (h _ _ e2 (.inr ⟨_, rfl⟩)) e2⟩
/-- a state of a law that makes lambdas: its draws, its tables -/
structure LSt (Tb : List (Addr × Str)) (D : DA) (n : Nat) (I H : Hp) : Prop where
  drw : Drw D n I H
  nt : noTb I
  tabs : LamX.Tabs Tb H
theorem LSt.sub (s : LSt Tb D n I H) : Same I H := s.drw.sub
theorem LSt.grow (s : LSt Tb D n I H) (g : Grow No I H I' H') : LSt Tb D n I' H' := ⟨s.drw.grow g, g.noTb s.nt, tabs_keep s.tabs g fun _ _ _ _ z => z⟩
theorem LSt.draw (s : LSt Tb D n I H) (g : Grow (TD D) I H I' H') (d : Drw D m I' H') : LSt Tb D m I' H' := by
  obtain ⟨_, _, _, _, r, _⟩ := s.drw.ex
  refine ⟨d, g.noTb s.nt, tabs_keep s.tabs g fun b o e k t => ?_⟩
  rcases t with rfl | rfl | rfl
  · rw [r.hd] at e; cases e; rcases k with ⟨_, z⟩ | ⟨_, z⟩ <;> cases z
  · rw [r.hg] at e; cases e; rcases k with ⟨_, z⟩ | ⟨_, z⟩ <;> cases z
  · rw [r.hl] at e; cases e; rcases k with ⟨_, z⟩ | ⟨_, z⟩ <;> cases z
theorem LSt.mono (s : LSt Tb D n I H) (h : n ≤ m) : LSt Tb D m I H := ⟨s.drw.mono h, s.nt, s.tabs⟩
theorem Drw.ext (d : Drw D n I H) (h : noTb I) (e : LamX.ExtN H H1) : Drw D n I H1 := by
  obtain ⟨a, b, c, f, s, r⟩ := d.ex
  exact ⟨a, b, c, f, ⟨ext_sub s.sub h e, s.vd, s.vg, s.vl, s.dg, s.dl, s.gl, e _ _ s.hd (fun _ z => nomatch z), e _ _ s.hg (fun _ z => nomatch z), e _ _ s.hl (fun _ z => nomatch z)⟩, r⟩
theorem LSt.ext (s : LSt Tb D n I H) (e : LamX.ExtN H H1) (t : LamX.Tabs Tb H1) : LSt Tb D n I H1 := ⟨s.drw.ext s.nt e, s.nt, t⟩
end
/-! ### a def that calls what it got and tells the error -/
def EO (K : PySem.W.Frag) (CO : Addr) (Q : VK) : XK := fun cls d H => PySem.W.exmOne K cls (.ref CO) = some true ∧ ∀ a, H a = none → Q (.ref a) (upd H a (ExV cls d a))
def TTo (K : PySem.W.Frag) (CO : Addr) : (XK → Hp → VK → Prop) → Hp → VK → Prop := fun tl H Q => tl (EO K CO Q) H fun _ H2 => Q .non H2
section
variable {P : Program} {w : World} {K : PySem.W.Frag} {mg : Str → Option Value} {base : Heap} {k : Nat} {ps : List Str} {sp : Sp} {N : List Str}
/-- the law's def, its own code object told -/
theorem okd_ofL {t qual : Str} {st : Stmt} {fd : FuncData} (F : FunD K t qual (defArgs st) (defBody st) (defScope st) [] [] (He.ga K t) fd) (S : FnScope N ps (defScope st)) (len : ∀ vs H Q E, sp vs H Q E → vs.length = ps.length)
    (hbody : ∀ (cdv : Value) (A : Around) (outer : List Env) (s : Shared) (H : Hp) (vs : List V) (Q : VK) (E : XK), cdv = .ref (He.codeOf K (t, none)) → Room k (A.deeper (envOfC qual (defScope st) s.heap.objs.size (He.ga K t) cdv)) → sp vs H Q E →
      ∃ u, PSs (cxOf CX0 P w K mg base N qual (defScope st) (He.ga K t) cdv A outer s H E).nox (defBody st) u ∧ u { nx := fun _ H' => Q .non H', rt := Q } (start N vs) H) : FnOk P w K mg base CX0 (k + 1) (He.ga K t) fd ps sp := by
  obtain ⟨oc, od, dV, kV, doc, pm, an, cdv, ct, osl, e, lk, hcd, _⟩ := F.ex
  obtain ⟨c, rfl⟩ := He.codeIn_ref hcd
  have hc : He.codeOf K (t, none) = c := He.codeOf_eq (p := (t, none)) lk (by rw [e])
  rw [e] at lk ⊢
  refine fn_of lk hcd S len fun A outer s H vs Q E hr h => ?_
  obtain ⟨u, h1, h2⟩ := hbody (.ref c) A outer s H vs Q E (by rw [hc]) hr h
  exact ⟨u, h1.nox, h2⟩
theorem ok_ofL {t qual : Str} {st : Stmt} (F : FnAt K t qual st (He.ga K t)) (S : FnScope N ps (defScope st))
    (hb : ∀ (kV doc pm : Value) (an : Option Addr) (cdv ct : Value) (us : List Value), us.length = ps.length → bindArgs (PySem.W.fnOf t qual (defArgs st) (defBody st) (defScope st) .none kV doc pm an cdv ct) ⟨us, []⟩ = pure (ps.zip us))
    (len : ∀ vs H Q E, sp vs H Q E → vs.length = ps.length)
    (hbody : ∀ (cdv : Value) (A : Around) (outer : List Env) (s : Shared) (H : Hp) (vs : List V) (Q : VK) (E : XK), cdv = .ref (He.codeOf K (t, none)) → Room k (A.deeper (envOfC qual (defScope st) s.heap.objs.size (He.ga K t) cdv)) → sp vs H Q E →
      ∃ u, PSs (cxOf CX0 P w K mg base N qual (defScope st) (He.ga K t) cdv A outer s H E).nox (defBody st) u ∧ u { nx := fun _ H' => Q .non H', rt := Q } (start N vs) H) : Ok P w K mg base CX0 (k + 1) (He.ga K t) ps sp := by
  obtain ⟨fd, F⟩ := F
  exact ⟨fd, okd_ofL F S len hbody, F.bindsN hb, F.kp, let ⟨oc, od, _, _, _, _, _, _, _, osl, _, lk, _⟩ := F.ex; ⟨oc, od, osl, lk⟩⟩
end
/-- x(lambda: body) -/
theorem pe_told {X : Cx} {Tb : List (Addr × Str)} {TT : (XK → Hp → VK → Prop) → Hp → VK → Prop} {x a : Str} {g c P : Addr} {k : Nat} {st : Stmt} {Ng : List Str} {params : Arguments} {body : Expr} {scope : Scope} {t : XK → TE} {p lpos pos : Pos}
    (F : FnAt X.K x x st g) (S : FnScope Ng [a] (defScope st)) (hm : X.mg x = some (.ref g)) (hG : ∀ cdv, LamX.GivesTo X Ng x (defScope st) g cdv (defBody st) a (X.env.qual ++ "<lambda>") TT)
    (TB : LamX.TabB X.base X.mg c P) (hcode : X.env.code = .ref c) (hT : Tb = [(P, X.env.qual ++ "<lambda>")]) (hr : Room (k + 2) X.A) (L : LamX.LamS X.env.scope scope)
    (hbody : ∀ (A : Around) (outer : List Env) (s : Shared) (H : Hp) (E : XK) (f c' : Addr), Room k (A.deeper (LamX.lamEnv X scope s.heap.objs.size f c')) → PE (LamX.lamCx X A outer s H E scope f c') body (t E))
    (hdef : defaultsOf params X.env = ([], []) := by rfl)
    (hbind : ∀ (q : Str) (cl : List (Str × Addr)) (pm cv ctv : Value), bindArgs (PySem.W.kla_fn "<lambda>" q params body scope cl pm cv ctv) ⟨[], []⟩ = pure [] := by intro _ _ _ _ _; rfl)
    (hb : ∀ (kV doc pm : Value) (an : Option Addr) (cdv ct : Value) (us : List Value), us.length = 1 → bindArgs (PySem.W.fnOf x x (defArgs st) (defBody st) (defScope st) .none kV doc pm an cdv ct) ⟨us, []⟩ = pure ([a].zip us) := by intro _ _ _ _ _ _ us hl; match us, hl with | [_], _ => rfl)
    (hg : Gl X x := by rfl) (hNg : Ng[0]? = some a := by rfl) (hva : Vis (defScope st) a := by first | exact Or.inl rfl | exact Or.inr (Or.inl rfl)) (hdb : (x == ("__debug__" : Str)) = false := by decide) (hd : (a == ("__debug__" : Str)) = false := by decide) (hcd : (a == ("__classdict__" : Str)) = false := by decide) :
    PE X (.Call (.Name x p) [.Lambda params body scope lpos] [] pos) (LamX.tLam Tb TT t) := by
  obtain ⟨fd, F⟩ := F
  have B := F.bindsN (ps := [a]) hb
  obtain ⟨oc, od, dV, kV, doc, pm, an, cdv, ct, osl, e, lk, hcd', _⟩ := F.ex
  subst e
  exact LamX.pe_lamcall hg hm F.kp lk hcd' B S hNg hva (hG cdv) TB hcode (by rw [hT]; exact List.mem_singleton.mpr rfl) (fun q hq _ => by rw [hT] at hq; rw [List.mem_singleton.mp hq]) hr L hdef hbind hbody hdb hd hcd
/-- where one asks within the law's text, by places -/
theorem call_isVK {X : Cx} {K : PySem.W.Frag} (h : X.K = K) : CallR X (.builtin "isinstance") (rIsV K) := h ▸ call_isV
theorem call_isAK {X : Cx} {K : PySem.W.Frag} (h : X.K = K) : CallR X (.builtin "isinstance") (rIsA K) := h ▸ call_isA
/-! ### the end -/
def noT (H : Hp) : Hp := fun b => match H b with
  | some (.tbl _) => none
  | o => o
theorem noT_sub {H : Hp} : Same (noT H) H := fun b o e => by
  unfold noT at e
  split at e
  · cases e
  · exact e
theorem noT_tb {H : Hp} : noTb (noT H) := fun b ps e => by
  unfold noT at e
  split at e
  · cases e
  · rename_i h
    exact h ps e
theorem noT_at {H : Hp} {b : Addr} {o : HO} (e : H b = some o) (n : NTb o) : noT H b = some o := by
  unfold noT
  rw [e]
  cases o <;> first | rfl | exact absurd rfl (n _)
theorem noT_seq {K : PySem.W.Frag} {H : Hp} {a : Addr} {xs : List V} (h : SqL K H a xs) : SqL K (noT H) a xs := by
  rcases h with h | h
  · refine .inl ?_
    rcases h with h | ⟨o, h⟩
    · exact .inl (noT_at h fun _ z => nomatch z)
    · exact .inr ⟨o, noT_at h fun _ z => nomatch z⟩
  · exact .inr h
end Nw

namespace Nw
open PySem PySem.Spec PyProof.Rows L2
/-! ### any value -/
inductive Dat where
  | non | bl (b : Bool) | int (i : Int) | str (l : List Nat) | tup (xs : List Dat) | lst | dic | obj
inductive isD (K : PySem.W.Frag) (I : Hp) : V → Dat → Prop where
  | non : isD K I .non .non
  | bl (b : Bool) : isD K I (.bl b) (.bl b)
  | int (i : Int) : isD K I (.int i) (.int i)
  | str (l : List Nat) (h : l.length ≤ 100000) : isD K I (.str (mk l)) (.str l)
  | tup {a : Addr} {vs : List V} {xs : List Dat} (h : I a = some (.tup vs)) (hl : vs.length = xs.length) (hd : ∀ (i : Nat) (v : V) (x : Dat), vs[i]? = some v → xs[i]? = some x → isD K I v x) : isD K I (.ref a) (.tup xs)
  | lst {a : Addr} {vs : List V} (h : I a = some (.lst vs)) : isD K I (.ref a) .lst
  | dic {a : Addr} {kvs : List (Key × V)} (h : I a = some (.dK kvs)) : isD K I (.ref a) .dic
  | obj {a C dx : Addr} {fs : List (Str × V)} (h : I a = some (.ins C dx fs)) (F : InsF K C) (c : Cls K C) (k1 : PySem.W.kitOne K (.ref C) (.type "str") = some false) (k2 : PySem.W.kitOne K (.ref C) (.type "tuple") = some false) : isD K I (.ref a) .obj
theorem isD.up {K : PySem.W.Frag} {I I' : Hp} {v : V} {x : Dat} (h : isD K I v x) (e : Same I I') : isD K I' v x := by
  induction h with
  | non => exact .non
  | bl b => exact .bl b
  | int i => exact .int i
  | str l h => exact .str l h
  | tup h hl hd ih => exact .tup (e _ _ h) hl ih
  | lst h => exact .lst (e _ _ h)
  | dic h => exact .dic (e _ _ h)
  | obj h F c k1 k2 => exact .obj (e _ _ h) F c k1 k2
def Dat.isStr : Dat → Bool
  | .str _ => true
  | _ => false
def Dat.isTup : Dat → Bool
  | .tup _ => true
  | _ => false
theorem isD.ty {K : PySem.W.Frag} {I H : Hp} {v : V} {x : Dat} (h : isD K I v x) (sb : Same I H) : ∃ t, TyX K H v t ∧ PySem.W.kitOne K t (.type "str") = some x.isStr ∧ PySem.W.kitOne K t (.type "tuple") = some x.isTup := by
  cases h with
  | non => exact ⟨_, .base .non, (show _ = some false from kit_ty (by decide +kernel)), (show _ = some false from kit_ty (by decide +kernel))⟩
  | bl b => exact ⟨_, .base (.bl b), (show _ = some false from kit_ty (by decide +kernel)), (show _ = some false from kit_ty (by decide +kernel))⟩
  | int i => exact ⟨_, .base (.int i), (show _ = some false from kit_ty (by decide +kernel)), (show _ = some false from kit_ty (by decide +kernel))⟩
  | str l h => exact ⟨_, .base (.str _), (show _ = some true from kit_ty (by decide +kernel)), (show _ = some false from kit_ty (by decide +kernel))⟩
  | tup h hl hd => exact ⟨_, .base (.tup (sb _ _ h)), (show _ = some false from kit_ty (by decide +kernel)), (show _ = some true from kit_ty (by decide +kernel))⟩
  | lst h => exact ⟨_, .base (.lst (sb _ _ h)), (show _ = some false from kit_ty (by decide +kernel)), (show _ = some false from kit_ty (by decide +kernel))⟩
  | dic h => exact ⟨_, .base (.dK (sb _ _ h)), (show _ = some false from kit_ty (by decide +kernel)), (show _ = some false from kit_ty (by decide +kernel))⟩
  | obj h F c k1 k2 => exact ⟨_, F.ty c (sb _ _ h), k1, k2⟩
theorem isD.tup3 {K : PySem.W.Frag} {I : Hp} {v : V} {x y z : Dat} (h : isD K I v (.tup [x, y, z])) : ∃ a v1 v2 v3, v = .ref a ∧ I a = some (.tup [v1, v2, v3]) ∧ isD K I v1 x ∧ isD K I v2 y ∧ isD K I v3 z := by
  cases h with
  | @tup a vs xs h hl hd =>
    match vs, hl with
    | [v1, v2, v3], _ => exact ⟨a, v1, v2, v3, rfl, h, hd 0 _ _ rfl rfl, hd 1 _ _ rfl rfl, hd 2 _ _ rfl rfl⟩
theorem isD.mk3 {K : PySem.W.Frag} {I : Hp} {a : Addr} {v1 v2 v3 : V} {x y z : Dat} (h : I a = some (.tup [v1, v2, v3])) (h1 : isD K I v1 x) (h2 : isD K I v2 y) (h3 : isD K I v3 z) : isD K I (.ref a) (.tup [x, y, z]) :=
  .tup h rfl fun i v d e1 e2 => by
    match i, e1, e2 with
    | 0, e1, e2 => cases e1; cases e2; exact h1
    | 1, e1, e2 => cases e1; cases e2; exact h2
    | 2, e1, e2 => cases e1; cases e2; exact h3
/-! ### the head's look, with dicts of texts -/
abbrev TabD : Type := Str × List Str
abbrev AlQ : Type := AlP × List (Option (List (Option (Str × Int))))
def obsQ (n : Nat) (fa : List He.Fa) (fn : List He.DefD) (tf : List He.Defn) (ex : PySem.W.Frag → Bool) (gs : List GetD) (ts : List TabD) (g : Addr → Option Obj) : AlQ := (obsP n fa fn tf ex gs g, ts.map fun t => He.dicW (frP n g) (He.ga (frP n g) t.1))
structure SaysQ (fa : List He.Fa) (fn : List He.DefD) (tf : List He.Defn) (ex : PySem.W.Frag → Bool) (gs : List GetD) (ts : List TabD) (w : World) (h : Heap) (K : PySem.W.Frag) : Prop extends SaysP fa fn tf ex gs h K where
  dics : (ts.map fun t => He.dicW K (He.ga K t.1)) = ts.map fun t => some (He.keysIn w.params t.2)
def hookQ (n : Nat) (fa : List He.Fa) (fn : List He.DefD) (tf : List He.Defn) (ex : PySem.W.Frag → Bool) (gs : List GetD) (ts : List TabD) : PySem.W.Hook where
  α := AlQ
  obs := fun s => obsQ n fa fn tf ex gs ts s.heap.get?
  val := fun w => (valP fn gs, ts.map fun t => some (He.keysIn w.params t.2))
  says := fun w h => ∃ K : PySem.W.Frag, K.In h ∧ SaysQ fa fn tf ex gs ts w h K
  of := fun w s e => by
    have z1 : obsP n fa fn tf ex gs s.heap.get? = valP fn gs := congrArg (fun z : AlQ => z.1) e
    have z2 : (ts.map fun t => He.dicW (frP n s.heap.get?) (He.ga (frP n s.heap.get?) t.1)) = ts.map fun t => some (He.keysIn w.params t.2) := congrArg (fun z : AlQ => z.2) e
    exact ⟨_, He.frT_in, saysP_of z1, z2⟩
  keeps := fun _ _ _ ⟨K, hK, c⟩ k => ⟨K, PySem.W.Frag.In.keeps hK k, ⟨c.d, c.more, c.hd, c.out, fun p hp => k _ _ (c.empty p hp), c.fns, c.oks⟩, c.dics⟩
theorem obsQ_eq {n : Nat} {fa : List He.Fa} {fn : List He.DefD} {tf : List He.Defn} {ex : PySem.W.Frag → Bool} {gs : List GetD} {ts : List TabD} {g : Addr → Option Obj} {s : Shared} (h : ∀ a, g a = s.heap.get? a) : obsQ n fa fn tf ex gs ts g = (hookQ n fa fn tf ex gs ts).obs s := by
  obtain rfl : g = s.heap.get? := funext h
  rfl
theorem SaysQ.tab {fa : List He.Fa} {fn : List He.DefD} {tf : List He.Defn} {ex : PySem.W.Frag → Bool} {gs : List GetD} {ts : List TabD} {w : World} {h : Heap} {K : PySem.W.Frag} (c : SaysQ fa fn tf ex gs ts w h K) (i : Nat) {t : TabD} (e : ts[i]? = some t := by rfl) :
    ∃ es n, KDict K w (He.ga K t.1) es n := by
  have e2 : (ts.map fun t => He.dicW K (He.ga K t.1))[i]? = (ts.map fun t => some (He.keysIn w.params t.2))[i]? := by rw [c.dics]
  rw [List.getElem?_map, List.getElem?_map, e] at e2
  exact He.dicW_ok (Option.some.inj e2)
/-- what a written dict holds -/
theorem kdct_of {K : PySem.W.Frag} {w : World} {a : Addr} {es : Array DictEntry} {n : Nat} {kvs : List (Str × He.Dv)} (D : KDict K w a es n) (h : He.valsB K a kvs = true) {q : Str × He.Dv} (hq : q ∈ kvs) : KDct K w a q.1 (q.2.v K) := by
  obtain ⟨u, h1, h2⟩ := He.valsB_ok h hq
  exact ⟨es, n, u, D.1, D.2, h1, h2⟩
end Nw

namespace Nw
open PySem PySem.Spec PyProof.Rows L2
/-! ### texts cut and doubled -/
theorem foldl_reps : ∀ (k : Nat) (l acc : List Nat), (List.replicate k l.toArray).foldl (fun x y => x ++ y) acc.toArray = (acc ++ (List.replicate k l).flatten).toArray
  | 0, _, acc => by simp
  | k + 1, l, acc => by
    rw [List.replicate_succ, List.foldl_cons, show acc.toArray ++ l.toArray = (acc ++ l).toArray by simp, foldl_reps k l (acc ++ l), List.replicate_succ, List.flatten_cons, List.append_assoc]
/-- a text times a number -/
theorem op_mulS {X : Cx} : OpR X (binaryOp .Mult) (fun x y H Q => ∃ (l : List Nat) (k : Nat), x = .str (mk l) ∧ y = .int k ∧ 2 ≤ k ∧ k ≤ 1000 ∧ l ≠ [] ∧ l.length ≤ 1000 ∧ Q (.str (mk (List.replicate k l).flatten)) H) := by
  intro pins s σ H x y v u Q I rx ry h
  obtain ⟨l, k, rfl, rfl, h1, h2, h3, h4, q⟩ := h
  obtain ⟨t, rfl⟩ := rx
  obtain ⟨t', rfl⟩ := ry
  have hlen : (mk l).length = l.length := by simp [mk, Str.length]
  have hpos : 0 < l.length := List.length_pos_iff.mpr h3
  have hn : ¬ ((k : Int) < 1) := by omega
  have hm : l.length * k ≤ 1000 * 1000 := Nat.mul_le_mul h4 h2
  have hfl : ((List.replicate k l).flatten).length = k * l.length := by simp
  have hlt : Builtin.Str.tooLong (l.length * k) = false := by
    unfold Builtin.Str.tooLong
    exact decide_eq_false (by rw [sizeLine_eq]; omega)
  refine PySem.P.mul_str (by rw [decide_eq_false (by omega), decide_eq_false (by omega)] <;> rfl) (fun _ _ => ?_) (fun _ _ => ?_) ?_
  · rw [hlen]
    have z : (1000 : Int) ≤ (2 ^ 63 - 1) / (k : Int) := Int.le_ediv_of_mul_le (by omega) (by omega)
    omega
  · rw [hlen, Int.toNat_natCast]
    exact hlt
  · rw [if_neg hn]
    have hc : ((k : Int) == 1 || (mk l).length == 0) = false := by
      rw [hlen, Bool.or_eq_false_iff]
      exact ⟨by simp; omega, by simp; exact h3⟩
    rw [hc, if_neg Bool.false_ne_true]
    have e : (⟨(List.replicate (k : Int).toNat (mk l).cps).foldl (· ++ ·) #[]⟩ : Str) = mk (List.replicate k l).flatten := by
      rw [Int.toNat_natCast]
      have z := foldl_reps k l []
      simp only [List.nil_append] at z
      show (⟨_⟩ : Str) = ⟨_⟩
      exact congrArg Str.mk z
    rw [e]
    refine ⟨?_, ⟨.str (mk (List.replicate k l).flatten), H, I.tok _, ⟨_, rfl⟩, q⟩⟩
    show (mk (List.replicate k l).flatten).length ≤ sizeLine
    have z : (mk (List.replicate k l).flatten).length = (List.replicate k l).flatten.length := by simp [mk, Str.length]
    rw [z, hfl, sizeLine_eq, Nat.mul_comm]
    omega
theorem cutS_take (l : List Nat) (k : Nat) : cutS (mk l) none (some (k : Int)) = mk (l.take k) := by
  unfold cutS HT.sIx
  have hlen : (mk l).length = l.length := by simp [mk, Str.length]
  simp only [List.drop_zero, Nat.sub_zero, hlen]
  show Str.mk _ = Str.mk _
  congr 2
  have e : (mk l).cps.toList = l := by simp [mk]
  rw [e]
  by_cases h : k ≤ l.length
  · congr 1
    rw [if_neg (by omega)]
    omega
  · rw [List.take_of_length_le (by omega : l.length ≤ k)]
    apply List.take_of_length_le
    rw [if_neg (by omega)]
    omega
theorem cutS_drop (l : List Nat) (k : Nat) : cutS (mk l) (some (k : Int)) none = mk (l.drop k) := by
  unfold cutS HT.sIx
  have hlen : (mk l).length = l.length := by simp [mk, Str.length]
  simp only [hlen]
  show Str.mk _ = Str.mk _
  congr 2
  have e : (mk l).cps.toList = l := by simp [mk]
  rw [e]
  rw [if_neg (by omega), Int.toNat_natCast]
  by_cases h : k ≤ l.length
  · rw [Nat.min_eq_left h]
    apply List.take_of_length_le
    rw [List.length_drop]
    omega
  · rw [Nat.min_eq_right (by omega), List.drop_of_length_le (Nat.le_refl _), List.drop_of_length_le (by omega)]
    simp
end Nw

namespace Nw
open PySem PySem.Spec PyProof.Rows L2
/-! ### promises of calls that stand under no guard, so that containers can be shown -/
structure FnG (P : Program) (w : World) (K : PySem.W.Frag) (mg : Str → Option Value) (base : Heap) (CX : CXT) (k : Nat) (f : Addr) (fd : FuncData) (ps : List Str) (sp : Sp) : Prop where
  len : ∀ vs H Q E, sp vs H Q E → vs.length = ps.length
  run : ∀ (A : Around) (outer : List Env) (s : Shared) (H : Hp) (args : Args) (us : List Value) (vs : List V) (Q : VK) (E : XK), Room k A → A.guards = some [] → Env0 P w K mg base A outer s H → BindsTo s fd args (ps.zip us) → Vals vs us → sp vs H Q E →
    codeAny (model P w) A (.call (.ref f) args) (CR CX outer P w H s Q E) s
structure OkG (P : Program) (w : World) (K : PySem.W.Frag) (mg : Str → Option Value) (base : Heap) (CX : CXT) (k : Nat) (f : Addr) (ps : List Str) (sp : Sp) : Prop where
  ok : ∃ fd, FnG P w K mg base CX k f fd ps sp ∧ Binds K fd ps [] ∧ PySem.W.keepIn K (.ref f) = true
section
variable {P : Program} {w : World} {K : PySem.W.Frag} {mg : Str → Option Value} {base : Heap} {X : Cx} {CX : CXT} {k : Nat} {f : Addr} {fd : FuncData} {ps N : List Str} {sp : Sp} {x qual : Str} {st : Stmt} {pos ppos : Pos} {e : Expr} {es : List Expr} {t : TA}
theorem FnG.of (F : FnOk P w K mg base CX k f fd ps sp) : FnG P w K mg base CX k f fd ps sp := ⟨F.len, fun A outer s H args us vs Q E hr _ => F.run A outer s H args us vs Q E hr⟩
theorem Ok.toG (G : Ok P w K mg base CX k f ps sp) : OkG P w K mg base CX k f ps sp := by
  obtain ⟨fd, F, b, kp, _⟩ := G.ok
  exact ⟨fd, .of F, b, kp⟩
/-- a def's body, its own code object told -/
theorem fng_of (F : FunD K x qual (defArgs st) (defBody st) (defScope st) [] [] f fd) (S : FnScope N ps (defScope st)) (len : ∀ vs H Q E, sp vs H Q E → vs.length = ps.length)
    (hbody : ∀ (cdv : Value) (A : Around) (outer : List Env) (s : Shared) (H : Hp) (vs : List V) (Q : VK) (E : XK), Room k (A.deeper (envOfC qual (defScope st) s.heap.objs.size f cdv)) → A.guards = some [] → sp vs H Q E →
      ∃ u, PSs (cxOf CX0 P w K mg base N qual (defScope st) f cdv A outer s H E).nox (defBody st) u ∧ u { nx := fun _ H' => Q .non H', rt := Q } (start N vs) H) : FnG P w K mg base CX0 (k + 1) f fd ps sp := by
  obtain ⟨oc, od, dV, kV, doc, pm, an, cdv, ct, osl, e, lk, hcd, _⟩ := F.ex
  subst e
  refine ⟨len, fun A outer s H args us vs Q E hr hg e0 hb r hsp => ?_⟩
  refine LamX.run_ofS (N := N) (ps := ps) lk hcd S hr e0 hb r (len _ _ _ _ hsp) fun hr' => ?_
  obtain ⟨u, h1, h2⟩ := hbody cdv A outer s H vs Q E hr' hg hsp
  exact ⟨u, h1.nox, h2⟩
/-- the law's own, its code object told -/
theorem fngL_of {y : Str} (F : FunD K y qual (defArgs st) (defBody st) (defScope st) [] [] (He.ga K y) fd) (S : FnScope N ps (defScope st)) (len : ∀ vs H Q E, sp vs H Q E → vs.length = ps.length)
    (hbody : ∀ (cdv : Value) (A : Around) (outer : List Env) (s : Shared) (H : Hp) (vs : List V) (Q : VK) (E : XK), cdv = .ref (He.codeOf K (y, none)) → Room k (A.deeper (envOfC qual (defScope st) s.heap.objs.size (He.ga K y) cdv)) → A.guards = some [] → sp vs H Q E →
      ∃ u, PSs (cxOf CX0 P w K mg base N qual (defScope st) (He.ga K y) cdv A outer s H E).nox (defBody st) u ∧ u { nx := fun _ H' => Q .non H', rt := Q } (start N vs) H) : FnG P w K mg base CX0 (k + 1) (He.ga K y) fd ps sp := by
  obtain ⟨oc, od, dV, kV, doc, pm, an, cdv, ct, osl, e, lk, hcd, _⟩ := F.ex
  obtain ⟨c, rfl⟩ := He.codeIn_ref hcd
  have hc : He.codeOf K (y, none) = c := He.codeOf_eq (p := (y, none)) lk (by rw [e])
  subst e
  refine ⟨len, fun A outer s H args us vs Q E hr hg e0 hb r hsp => ?_⟩
  refine LamX.run_ofS (N := N) (ps := ps) lk hcd S hr e0 hb r (len _ _ _ _ hsp) fun hr' => ?_
  obtain ⟨u, h1, h2⟩ := hbody (.ref c) A outer s H vs Q E (by rw [hc]) hr' hg hsp
  exact ⟨u, h1.nox, h2⟩
theorem okg_of (F : FnAt K x qual st f) (S : FnScope N ps (defScope st))
    (hb : ∀ (kV doc pm : Value) (an : Option Addr) (cdv ct : Value) (us : List Value), us.length = ps.length → bindArgs (PySem.W.fnOf x qual (defArgs st) (defBody st) (defScope st) .none kV doc pm an cdv ct) ⟨us, []⟩ = pure (ps.zip us))
    (len : ∀ vs H Q E, sp vs H Q E → vs.length = ps.length)
    (hbody : ∀ (cdv : Value) (A : Around) (outer : List Env) (s : Shared) (H : Hp) (vs : List V) (Q : VK) (E : XK), Room k (A.deeper (envOfC qual (defScope st) s.heap.objs.size f cdv)) → A.guards = some [] → sp vs H Q E →
      ∃ u, PSs (cxOf CX0 P w K mg base N qual (defScope st) f cdv A outer s H E).nox (defBody st) u ∧ u { nx := fun _ H' => Q .non H', rt := Q } (start N vs) H) : OkG P w K mg base CX0 (k + 1) f ps sp := by
  obtain ⟨fd, F⟩ := F
  exact ⟨fd, fng_of F S len hbody, F.bindsN hb, F.kp⟩
/-- f(e, ..) where no guard stands -/
theorem pe_callG (hgd : X.A.guards = some []) (G : OkG X.prog X.w X.K X.mg X.base CX0 k f ps sp) (hr : Room k X.A) (hm : X.mg x = some (.ref f)) (ha : PA X (e :: es) t) (hg : Gl X x := by rfl) (hdb : (x == ("__debug__" : Str)) = false := by decide)
    (he : starEach (e :: es) X.env = (false, eval e X.env) :: starEach es X.env := by rfl) (hpl : (backTo pos (starEach es X.env)).any (·.1) = false := by rfl) : PE X (.Call (.Name x ppos) (e :: es) [] pos) (tCall sp [] E0 t) := by
  obtain ⟨fd, F, b, kp⟩ := G.ok
  refine ⟨fun pins s σ H Q I h => wpAny_Call_Name_kw (ld_glob I hg hm (PySem.W.callWith_K (h₀ := X.base) I.ok.mod.kin kp (thn (ha.run pos pins s σ H _ I h) fun us s1 ⟨vs, H1, I1, r, q⟩ => ⟨I1.kIn, ?_⟩) he hpl) hdb)⟩
  have q0 : sp (vs ++ []) H1 Q E0 := q
  have q' : sp vs H1 Q E0 := by rw [List.append_nil] at q0; exact q0
  have hl : us.length = ps.length := by rw [← r.length]; exact F.len _ _ _ _ q'
  have bt := b s1 us I1.kIn (by rw [List.append_nil]; exact hl)
  rw [List.append_nil] at bt
  refine wpAny_call (codeAny_mono (F.run X.A X.stack s1 H1 ⟨us, []⟩ us vs Q E0 hr hgd I1.env0 bt r q') fun r' s' hq => ?_)
  cases r' with
  | error e => exact (show False from hq).elim
  | ok fl =>
    cases fl with
    | ret u => exact I1.after hq
    | next => exact (show False from hq).elim
    | brk => exact (show False from hq).elim
    | cont => exact (show False from hq).elim
theorem un70 {k : Nat} {A : Around} (r : Room k A) : A.units + 70 < cLine := by have := r.un; omega
/-- repr of data at any depth -/
theorem call_reprD (hgd : X.A.guards = some []) (hu : X.A.units + 70 < cLine) : CallR X (.builtin "repr") (fun xs H Q => ∃ v d, xs = [v] ∧ Dp X.K H v d ∧ d.showable = true ∧ d.hasDict = false ∧ d.depth ≤ 64 ∧ d.shown.length ≤ sizeLine ∧ Q (.str d.shown) H) := by
  intro pins s σ H xs us Q I r h
  obtain ⟨v, d, rfl, hd, h1, h2, h3, h4, q⟩ := h
  obtain ⟨u, rfl, ru⟩ := vals1 r
  cases hd with
  | non =>
    cases ru
    exact PySem.P.repr_of_none ⟨.str _, H, I.tok _, ⟨_, rfl⟩, q⟩
  | bl b =>
    cases ru
    exact PySem.P.repr_of_bool ⟨.str _, H, I.tok _, ⟨_, rfl⟩, q⟩
  | int i =>
    obtain ⟨t, rfl⟩ := ru
    exact PySem.P.repr_of_int (of_decide_eq_true h1) ⟨.str _, H, I.tok _, ⟨_, rfl⟩, q⟩
  | str z =>
    obtain ⟨t, rfl⟩ := ru
    exact PySem.P.repr_of_str ⟨.str _, H, I.tok _, ⟨_, rfl⟩, q⟩ h4
  | @lst a xs ds hs ha =>
    have hd' : Dp X.K H (.ref a) (.list ds) := .lst hs ha
    obtain ⟨as, rd⟩ := Dp.reads I _ _ _ hd' ru
    cases ru
    exact repr_of_reads' rd h1 (fun z => by rw [h2] at z; cases z) hgd (by omega) (fun _ _ z => z) (fun h' u tk hk => ⟨.str _, H, I.kept (t' := tk) hk, ⟨_, rfl⟩, q⟩) h4
  | @tup a xs ds hs ha =>
    have hd' : Dp X.K H (.ref a) (.tuple ds) := .tup hs ha
    obtain ⟨as, rd⟩ := Dp.reads I _ _ _ hd' ru
    cases ru
    exact repr_of_reads' rd h1 (fun z => by rw [h2] at z; cases z) hgd (by omega) (fun _ _ z => z) (fun h' u tk hk => ⟨.str _, H, I.kept (t' := tk) hk, ⟨_, rfl⟩, q⟩) h4
end
end Nw

namespace Nw
open PySem PySem.Spec PyProof.Rows L2
/-! ### the end, for a law that shows containers -/
section
variable {P : Program} {w : World} {K : PySem.W.Frag} {mg mb : Str → Option Value} {k : Nat} {fa a : Addr} {fd : FuncData} {x : Str} {sp : Sp} {s₁ : Shared} {vs : List Value} {ns : List Int}
/-- what is tracked at the law's call: the script, if the module's part does not tell it -/
def scr (K : PySem.W.Frag) (a : Addr) (vs : List Value) (ns : List Int) : Hp := fun b => if b = a ∧ K.lookup a = none then some (.frz { cls := .type "list", data := .seq vs.toArray } (.lst (ns.map V.int))) else none
theorem scr_at {b : Addr} {u : HO} (h : scr K a vs ns b = some u) : b = a ∧ K.lookup a = none ∧ u = .frz { cls := .type "list", data := .seq vs.toArray } (.lst (ns.map V.int)) := by
  unfold scr at h
  split at h
  · rename_i c
    exact ⟨c.1, c.2, (Option.some.inj h).symm⟩
  · cases h
theorem scr_no {b : Addr} (h : ¬ (b = a ∧ K.lookup a = none)) : scr K a vs ns b = none := if_neg h
theorem law_callG (KX : K.In s₁.heap) (hns : s₁.heap.Ns mainGlobals mg) (hb : s₁.heap.Ns builtinsNs mb) (hbb : ∀ x : Str, x ≠ "__name__" → mb x = bootBuiltins x) (hlim : s₁.heap.NoLimit) (hg : s₁.gens = #[])
    (ha : s₁.heap.get? a = some { cls := .type "list", data := .seq vs.toArray }) (hi : IntsAre vs ns) (hl : ns.length ≤ sizeLine) (hr : Room k callerA)
    (F : ∀ base : Heap, K.In base → base.Ns mainGlobals mg → FnG P w K mg base CX0 k fa fd [x] sp) (hbind : ∀ (s : Shared) (u : Value), BindsTo s fd ⟨[u], []⟩ [(x, u)])
    (hsp : ∀ H : Hp, SqL K H a (ns.map V.int) → sp [.ref a] H (fun v _ => v = .bl true) fun _ _ _ => False) :
    codeAny (model P w) callerA (.call (.ref fa) ⟨[.ref a], []⟩) (fun r s' => r = .ok (.ret (.bool true)) ∧ OldK s₁.heap s'.heap ∧ s'.os = s₁.os ∧ AllBare s'.gens) s₁ := by
  have rv := vals_ints hi
  have lenV := hi.length
  have hS : SqL K (scr K a vs ns) a (ns.map V.int) := by
    cases hk : K.lookup a with
    | some o =>
      have e := KX a o hk
      rw [ha] at e
      cases e
      exact .inr ⟨_, vs.toArray, _, hk, rfl, rfl, rfl, by rw [List.size_toArray, lenV]; exact hl, by simpa using rv⟩
    | none => exact .inl (.inr ⟨{ cls := .type "list", data := .seq vs.toArray }, if_pos ⟨rfl, hk⟩⟩)
  have hok : HOk P w (scr K a vs ns) s₁.heap := fun b u z => by
    obtain ⟨rfl, _, rfl⟩ := scr_at z
    exact ⟨ha, by rw [List.length_map]; exact hl, vs, _, rv, ha⟩
  -- a namespace is no script
  have untr : ∀ {b : Addr} {o : Obj} {es : Array DictEntry} {ep : Nat}, s₁.heap.get? b = some o → o.data = .dict es ep → scr K a vs ns b = none := fun {b o es ep} e d => by
    refine scr_no fun c => ?_
    rw [c.1, ha] at e
    cases e
    have d' : Data.seq vs.toArray _ = Data.dict es ep := d
    cases d'
  have nsK : ∀ {b : Addr} {m : Str → Option Value}, s₁.heap.Ns b m → (hidT s₁.heap (scr K a vs ns)).Ns b m := fun {b m} ⟨o, es, ep, e, d, r⟩ => ⟨o, es, ep, hidT_get e (untr e d), d, r⟩
  have hKb : K.In (hidT s₁.heap (scr K a vs ns)) := fun b o e => hidT_get (KX b o e) (scr_no fun c => by rw [c.1, c.2] at e; cases e)
  have hM : Mod K mg (hidT s₁.heap (scr K a vs ns)) := ⟨hKb, nsK hns, ⟨mb, nsK hb, hbb⟩, let ⟨mc, h1, h2⟩ := hlim; ⟨mc, nsK h1, h2⟩⟩
  have e0 : Env0 P w K mg (hidT s₁.heap (scr K a vs ns)) callerA [] s₁ (scr K a vs ns) := ⟨rfl, hM, fun b o e => of_hidT e, Nat.le_of_eq (hidT_size _ _), trivial, (fun b hb => absurd (show b ∈ ([] : List Addr) from hb) (by simp)), hok, .of_eq hg⟩
  refine codeAny_mono ((F _ hKb (nsK hns)).run callerA [] s₁ _ ⟨[.ref a], []⟩ [.ref a] [.ref a] _ _ hr rfl e0 (hbind s₁ (.ref a)) (.cons rfl .nil) (hsp _ hS)) fun r s' h => ?_
  cases r with
  | error e => exact (show False from h).elim
  | ok fl =>
    cases fl with
    | next => exact (show False from h).elim
    | brk => exact (show False from h).elim
    | cont => exact (show False from h).elim
    | ret u =>
      obtain ⟨v, H', os, bare, un, hok', r', q⟩ := h
      obtain rfl : v = .bl true := q
      obtain rfl : u = Value.bool true := r'
      refine ⟨rfl, OldK.of_keep fun b o e => ?_, os, bare⟩
      cases q : scr K a vs ns b with
      | none => exact un.keep b o e q (fun z => absurd (show b ∈ ([] : List Addr) from z) (by simp)) (by simp)
      | some u =>
        obtain ⟨rfl, hk, rfl⟩ := scr_at q
        have z2 := un.frzs b _ _ q
        obtain ⟨e2, _⟩ := hok' b _ z2
        rw [ha] at e
        cases e
        exact e2
end
theorem walk_ofG {l : PySem.W.OpenLaw} {n k : Nat} {q : Program} {loose : List Str} {XP : (Str → Option Value) → Heap → Prop} {YP : World → Heap → Prop} {d : DefRec} {x : Str}
    (hn : l.most = some n) (hn2 : n ≤ sizeLine) (hdf : d.params.defaults = []) (hr : Room k callerA)
    (F : ∀ (w : World) (mg : Str → Option Value) (fa : Addr) (h : Heap), YP w h → h.Ns mainGlobals mg → mg d.name = some (.ref fa) →
      ∃ (K : PySem.W.Frag) (fd : FuncData) (sp : Sp), K.In h ∧ (∀ (s : Shared) (u : Value), BindsTo s fd ⟨[u], []⟩ [(x, u)]) ∧
        (∀ (H : Hp) (a : Addr) (ns : List Int), ns.length ≤ n → SqL K H a (ns.map V.int) → sp [.ref a] H (fun v _ => v = .bl true) fun _ _ _ => False) ∧
        ∀ base : Heap, K.In base → base.Ns mainGlobals mg → FnG l.prog w K mg base CX0 k fa fd [x] sp) :
    PySem.W.WalkO q loose XP YP l.row.toRowW d [] (fun f vs => PySem.call f vs) := by
  refine Att.attach_call hn hdf fun w s₀ s₁ mg mb fa o pm cd doc a vs ns G Y ho hd hcd hmg hobj hints hlen hg => ?_
  obtain ⟨K, fd, sp, KX, hb, hsp, hF⟩ := F w mg fa _ Y G.T.g hmg
  exact law_callG KX G.T.g G.T.b G.T.builtins G.T.nolimit hg hobj hints (Nat.le_trans hlen hn2) hr hF hb fun H hS => hsp H a ns hlen hS
end Nw

namespace Nw
open PySem PySem.Spec PyProof.Rows L2
/-! ### the same for a law that makes lambdas, too -/
section
variable {P : Program} {w : World} {K : PySem.W.Frag} {mg mb : Str → Option Value} {k : Nat} {fa a : Addr} {fd : FuncData} {x : Str} {sp : Sp} {s₁ : Shared} {vs : List Value} {ns : List Int} {cs : List (Addr × Addr)}
/-- what is tracked: the script, if the module's part does not tell it, and the tables -/
def trt (K : PySem.W.Frag) (a : Addr) (vs : List Value) (ns : List Int) (cs : List (Addr × Addr)) : Hp := fun b => if b ∈ cs.map (·.2) then some (.tbl #[]) else scr K a vs ns b
theorem trt_at {b : Addr} {u : HO} (h : trt K a vs ns cs b = some u) : (b ∈ cs.map (·.2) ∧ u = .tbl #[]) ∨ (b ∉ cs.map (·.2) ∧ scr K a vs ns b = some u) := by
  unfold trt at h
  split at h
  · rename_i c
    exact .inl ⟨c, (Option.some.inj h).symm⟩
  · rename_i c
    exact .inr ⟨c, h⟩
theorem trt_no {b : Addr} (h1 : b ∉ cs.map (·.2)) (h2 : ¬ (b = a ∧ K.lookup a = none)) : trt K a vs ns cs b = none := (if_neg h1).trans (scr_no h2)
theorem law_callGT (KX : K.In s₁.heap) (hns : s₁.heap.Ns mainGlobals mg) (hb : s₁.heap.Ns builtinsNs mb) (hbb : ∀ x : Str, x ≠ "__name__" → mb x = bootBuiltins x) (hlim : s₁.heap.NoLimit) (hg : s₁.gens = #[])
    (hT : ∀ p ∈ cs, s₁.heap.get? p.2 = some { cls := .none, data := .fields #[] }) (nT : ∀ p ∈ cs, K.lookup p.2 = none) (hh : ∀ p ∈ cs, PySem.W.codeHdIn K p.1 p.2 = true)
    (hbm : ∃ (bm : Addr) (ob : Obj), mg "__builtins__" = some (.ref bm) ∧ bm ≠ builtinsNs ∧ s₁.heap.get? bm = some ob ∧ ob.cls = .type "module" ∧ ob.dict = some builtinsNs ∧ ob.data = .plain)
    (ha : s₁.heap.get? a = some { cls := .type "list", data := .seq vs.toArray }) (hi : IntsAre vs ns) (hl : ns.length ≤ sizeLine) (hr : Room k callerA)
    (F : ∀ base : Heap, K.In base → base.Ns mainGlobals mg → (∀ p ∈ cs, LamX.TabB base mg p.1 p.2) → FnG P w K mg base CX0 k fa fd [x] sp) (hbind : ∀ (s : Shared) (u : Value), BindsTo s fd ⟨[u], []⟩ [(x, u)])
    (hsp : ∀ H : Hp, (∀ p ∈ cs, H p.2 = some (.tbl #[])) → SqL K H a (ns.map V.int) → sp [.ref a] H (fun v _ => v = .bl true) fun _ _ _ => False) :
    codeAny (model P w) callerA (.call (.ref fa) ⟨[.ref a], []⟩) (fun r s' => r = .ok (.ret (.bool true)) ∧ OldK s₁.heap s'.heap ∧ s'.os = s₁.os ∧ AllBare s'.gens) s₁ := by
  have rv := vals_ints hi
  have lenV := hi.length
  have isT : ∀ b : Addr, b ∈ cs.map (·.2) → s₁.heap.get? b = some { cls := .none, data := .fields #[] } := fun b hb => by
    obtain ⟨p, hp, e⟩ := List.mem_map.mp hb
    rw [← e]
    exact hT p hp
  have aT : a ∉ cs.map (·.2) := fun z => by
    have q := isT a z
    rw [ha] at q
    have z' : Data.seq vs.toArray _ = Data.fields #[] := congrArg Obj.data (Option.some.inj q)
    cases z'
  have hTr : ∀ p ∈ cs, trt K a vs ns cs p.2 = some (.tbl #[]) := fun p hp => if_pos (List.mem_map.mpr ⟨p, hp, rfl⟩)
  have hS : SqL K (trt K a vs ns cs) a (ns.map V.int) := by
    cases hk : K.lookup a with
    | some o =>
      have e := KX a o hk
      rw [ha] at e
      cases e
      exact .inr ⟨_, vs.toArray, _, hk, rfl, rfl, rfl, by rw [List.size_toArray, lenV]; exact hl, by simpa using rv⟩
    | none => exact .inl (.inr ⟨{ cls := .type "list", data := .seq vs.toArray }, (if_neg aT).trans (if_pos ⟨rfl, hk⟩)⟩)
  have hok : HOk P w (trt K a vs ns cs) s₁.heap := fun b u z => by
    rcases trt_at z with ⟨hm, rfl⟩ | ⟨_, z⟩
    · exact isT b hm
    · obtain ⟨rfl, _, rfl⟩ := scr_at z
      exact ⟨ha, by rw [List.length_map]; exact hl, vs, _, rv, ha⟩
  -- neither the script nor a table
  have untr : ∀ {b : Addr} {o : Obj}, s₁.heap.get? b = some o → (∀ us n, o.data ≠ .seq us n) → o.data ≠ .fields #[] → trt K a vs ns cs b = none := fun {b o} e h1 h2 =>
    trt_no (fun m => by rw [isT b m] at e; cases e; exact h2 rfl) (fun c => by rw [c.1, ha] at e; cases e; exact h1 _ _ rfl)
  have nsK : ∀ {b : Addr} {m : Str → Option Value}, s₁.heap.Ns b m → (hidT s₁.heap (trt K a vs ns cs)).Ns b m := fun {b m} ⟨o, es, ep, e, d, r⟩ => ⟨o, es, ep, hidT_get e (untr e (fun _ _ z => by rw [d] at z; cases z) fun z => by rw [d] at z; cases z), d, r⟩
  have hKb : K.In (hidT s₁.heap (trt K a vs ns cs)) := fun b o e => hidT_get (KX b o e) (trt_no (fun m => by
    obtain ⟨p, hp, ep⟩ := List.mem_map.mp m
    rw [← ep, nT p hp] at e
    cases e) fun c => by rw [c.1, c.2] at e; cases e)
  have hM : Mod K mg (hidT s₁.heap (trt K a vs ns cs)) := ⟨hKb, nsK hns, ⟨mb, nsK hb, hbb⟩, let ⟨mc, h1, h2⟩ := hlim; ⟨mc, nsK h1, h2⟩⟩
  have gNs : ∃ o es ep, s₁.heap.get? mainGlobals = some o ∧ o.data = .dict es ep := let ⟨o, es, ep, e, d, _⟩ := hns; ⟨o, es, ep, e, d⟩
  obtain ⟨og, eg, pg, g1, g2⟩ := gNs
  have TB : ∀ p ∈ cs, LamX.TabB (hidT s₁.heap (trt K a vs ns cs)) mg p.1 p.2 := fun p hp => by
    obtain ⟨bm, ob, b1, b2, b3, b4, b5, b6⟩ := hbm
    refine ⟨PySem.W.codeHd_of_K hKb (hh p hp), ⟨bm, ob, b1, b2, fun q => ?_, fun q => ?_, hidT_get b3 (untr b3 (fun _ _ z => by rw [b6] at z; cases z) fun z => by rw [b6] at z; cases z), b4, b5, b6⟩, fun q => ?_⟩
    · rw [q, g1] at b3
      cases b3
      rw [g2] at b6
      cases b6
    · rw [q, hT p hp] at b3
      cases b3
      cases b6
    · rw [q, hT p hp] at g1
      cases g1
      cases g2
  have e0 : Env0 P w K mg (hidT s₁.heap (trt K a vs ns cs)) callerA [] s₁ (trt K a vs ns cs) := ⟨rfl, hM, fun b o e => of_hidT e, Nat.le_of_eq (hidT_size _ _), trivial, (fun b hb => absurd (show b ∈ ([] : List Addr) from hb) (by simp)), hok, .of_eq hg⟩
  refine codeAny_mono ((F _ hKb (nsK hns) TB).run callerA [] s₁ _ ⟨[.ref a], []⟩ [.ref a] [.ref a] _ _ hr rfl e0 (hbind s₁ (.ref a)) (.cons rfl .nil) (hsp _ hTr hS)) fun r s' h => ?_
  cases r with
  | error e => exact (show False from h).elim
  | ok fl =>
    cases fl with
    | next => exact (show False from h).elim
    | brk => exact (show False from h).elim
    | cont => exact (show False from h).elim
    | ret u =>
      obtain ⟨v, H', os, bare, un, hok', r', q⟩ := h
      obtain rfl : v = .bl true := q
      obtain rfl : u = Value.bool true := r'
      have same : ∀ b o, b ∉ cs.map (·.2) → s₁.heap.get? b = some o → s'.heap.get? b = some o := fun b o nb e => by
        cases q : trt K a vs ns cs b with
        | none => exact un.keep b o e q (fun z => absurd (show b ∈ ([] : List Addr) from z) (by simp)) (by simp)
        | some u =>
          rcases trt_at q with ⟨m, _⟩ | ⟨_, z⟩
          · exact absurd m nb
          · obtain ⟨rfl, hk, rfl⟩ := scr_at z
            obtain ⟨e2, _⟩ := hok' b _ (un.frzs b _ _ q)
            rw [ha] at e
            cases e
            exact e2
      have grown : ∀ b, b ∈ cs.map (·.2) → ∃ more : Array Value, s'.heap.get? b = some { cls := .none, data := .fields more } ∧ ∃ p ∈ cs, p.2 = b := fun b m => by
        obtain ⟨p, hp, rfl⟩ := List.mem_map.mp m
        obtain ⟨more, z⟩ := un.tbls p.2 #[] (hTr p hp)
        exact ⟨_, hok' p.2 _ z, p, hp, rfl⟩
      refine ⟨rfl, ⟨fun b o e => ?_, fun b o e => ?_⟩, os, bare⟩
      · by_cases m : b ∈ cs.map (·.2)
        · obtain ⟨more, hm, p, hp, rfl⟩ := grown b m
          rw [hT p hp] at e
          cases e
          exact .inr (.inl ⟨((PySem.W.codeHd_of_K KX (hh p hp)).tab (hT p hp)).isCodeTable, rfl, #[], more, rfl, by rw [Array.empty_append]; exact hm⟩)
        · exact .inl (same b o m e)
      · by_cases m : b ∈ cs.map (·.2)
        · obtain ⟨more, hm, _⟩ := grown b m
          exact ⟨_, hm⟩
        · exact ⟨o, same b o m e⟩
end
theorem walk_ofGT {l : PySem.W.OpenLaw} {n k : Nat} {q : Program} {loose : List Str} {XP : (Str → Option Value) → Heap → Prop} {YP : World → Heap → Prop} {d : DefRec} {x : Str}
    (hn : l.most = some n) (hn2 : n ≤ sizeLine) (hdf : d.params.defaults = []) (hr : Room k callerA)
    (F : ∀ (w : World) (mg : Str → Option Value) (fa : Addr) (h : Heap), YP w h → h.Ns mainGlobals mg → mg d.name = some (.ref fa) →
      ∃ (K : PySem.W.Frag) (fd : FuncData) (cs : List (Addr × Addr)) (sp : Sp), K.In h ∧ (∀ p ∈ cs, h.get? p.2 = some { cls := .none, data := .fields #[] }) ∧ (∀ p ∈ cs, K.lookup p.2 = none) ∧ (∀ p ∈ cs, PySem.W.codeHdIn K p.1 p.2 = true) ∧ (∀ (s : Shared) (u : Value), BindsTo s fd ⟨[u], []⟩ [(x, u)]) ∧
        (∀ (H : Hp) (a : Addr) (ns : List Int), ns.length ≤ n → (∀ p ∈ cs, H p.2 = some (.tbl #[])) → SqL K H a (ns.map V.int) → sp [.ref a] H (fun v _ => v = .bl true) fun _ _ _ => False) ∧
        ∀ base : Heap, K.In base → base.Ns mainGlobals mg → (∀ p ∈ cs, LamX.TabB base mg p.1 p.2) → FnG l.prog w K mg base CX0 k fa fd [x] sp) :
    PySem.W.WalkO q loose XP YP l.row.toRowW d [] (fun f vs => PySem.call f vs) := by
  refine Att.attach_call hn hdf fun w s₀ s₁ mg mb fa o pm cd doc a vs ns G Y ho hd hcd hmg hobj hints hlen hg => ?_
  obtain ⟨K, fd, cs, sp, KX, hT, nT, hh, hb, hsp, hF⟩ := F w mg fa _ Y G.T.g hmg
  exact law_callGT KX G.T.g G.T.b G.T.builtins G.T.nolimit hg hT nT hh G.T.bmain hobj hints (Nat.le_trans hlen hn2) hr hF hb fun H hH hS => hsp H a ns hlen hH hS
end Nw

namespace Nw
open PySem PySem.Spec PyProof.Rows L2
theorem len_app (a b : Str) : (a ++ b).length = a.length + b.length := by
  show (a.cps ++ b.cps).size = _
  simp [Str.length]
theorem textFrom_le : ∀ (ts : List Str) (k : Nat) (acc : Str), (textFrom k acc ts).length ≤ acc.length + piled ts
  | [], k, acc => by show acc.length ≤ _; omega
  | t :: r, k, acc => by
    have h := textFrom_le r (k + 1) (acc ++ (if k > 0 then ", " else "" : String) ++ t)
    have e : (acc ++ (if k > 0 then ", " else "" : String) ++ t : Str).length ≤ acc.length + 2 + t.length := by
      rw [len_app, len_app]
      have z : ((if k > 0 then ", " else "" : String) : Str).length ≤ 2 := by split <;> decide
      omega
    show (textFrom (k + 1) _ r).length ≤ acc.length + piled (t :: r)
    have p : piled (t :: r) = t.length + 2 + piled r := rfl
    omega
theorem listText_le (ts : List Str) : (listText ts).length ≤ piled ts + 2 := by
  unfold listText
  rw [len_app]
  have h := textFrom_le ts 0 "["
  have e1 : ("[" : Str).length = 1 := by decide
  have e2 : ("]" : Str).length = 1 := by decide
  omega
theorem tupleText_le (ts : List Str) : (tupleText ts).length ≤ piled ts + 3 := by
  unfold tupleText
  rw [len_app, len_app]
  have e1 : ("(" : Str).length = 1 := by decide
  have e2 : ((if ts.length == 1 then ",)" else ")" : String) : Str).length ≤ 2 := by split <;> decide
  cases ts with
  | nil =>
    have e3 : (Str.join ", " ([] : List Str)).length = 0 := rfl
    omega
  | cons t r =>
    have h := join_length_add (t :: r) (by simp)
    omega
theorem nat_shown : ∀ i : Fin 1001, ((toString ((i.val : Nat) : Int) : String) : Str).length ≤ 4 := by decide +kernel
end Nw

namespace Nw
open PySem PySem.Spec PyProof.Rows L2
/-! ### what repr shows of data fits a line: a measure that is easily computed -/
mutual
def rm : PyData → Nat
  | .none => 4
  | .bool _ => 5
  | .int _ => 1921
  | .str x => 10 * x.length + 2
  | .list xs => rmAll xs + 2
  | .tuple xs => rmAll xs + 3
  | .dict _ => 0
def rmAll : List PyData → Nat
  | [] => 0
  | x :: xs => (rm x + 2) + rmAll xs
end
theorem strOk_lt {x : Str} (h : PyData.strOk x = true) : ∀ c ∈ x.cps.toList, c < 16 ^ 8 := fun c hc => by
  unfold PyData.strOk at h
  rw [Array.all_eq_true'] at h
  have z := of_decide_eq_true (h c (Array.mem_toList_iff.mp hc))
  omega
mutual
theorem shown_le : ∀ d : PyData, d.canLay0 = true → d.showable = true → d.shown.length ≤ rm d
  | .none, _, _ => by simp only [PyData.shown, rm]; decide
  | .bool b, _, _ => by cases b <;> simp only [PyData.shown, rm] <;> decide
  | .int i, _, h => by
    simp only [PyData.showable, decide_eq_true_eq] at h
    simp only [PyData.shown, rm]
    exact int_text_len_1921 h
  | .str x, h, _ => by
    simp only [PyData.canLay0] at h
    simp only [PyData.shown, rm]
    exact PySem.StrLaws.reprText_len x (strOk_lt h)
  | .list xs, h, k => by
    simp only [PyData.canLay0] at h
    simp only [PyData.showable] at k
    simp only [PyData.shown, rm]
    have z := shownAll_le xs h k
    have y := listText_le (PyData.shownAll xs)
    omega
  | .tuple xs, h, k => by
    simp only [PyData.canLay0] at h
    simp only [PyData.showable] at k
    simp only [PyData.shown, rm]
    have z := shownAll_le xs h k
    have y := tupleText_le (PyData.shownAll xs)
    omega
  | .dict _, h, _ => by simp [PyData.canLay0] at h
theorem shownAll_le : ∀ xs : List PyData, PyData.canLayAll0 xs = true → PyData.showableAll xs = true → piled (PyData.shownAll xs) ≤ rmAll xs
  | [], _, _ => by simp only [PyData.shownAll, rmAll]; exact Nat.le_refl _
  | x :: xs, h, k => by
    simp only [PyData.canLayAll0, Bool.and_eq_true] at h
    simp only [PyData.showableAll, Bool.and_eq_true] at k
    simp only [PyData.shownAll, rmAll, piled_cons]
    have z := shown_le x h.1 k.1
    have y := shownAll_le xs h.2 k.2
    omega
end
/-- repr shows it -/
structure Shows (d : PyData) : Prop where
  lay : d.canLay0 = true
  sh : d.showable = true
  deep : d.depth ≤ 64
  few : rm d ≤ sizeLine
theorem Shows.len {d : PyData} (s : Shows d) : d.shown.length ≤ sizeLine := Nat.le_trans (shown_le d s.lay s.sh) s.few
theorem Shows.nd {d : PyData} (s : Shows d) : d.hasDict = false := PyData.hasDict_of_canLay d s.lay
theorem rmAll_le {n : Nat} : ∀ xs : List PyData, (∀ x ∈ xs, rm x ≤ n) → rmAll xs ≤ xs.length * (n + 2)
  | [], _ => by simp [rmAll]
  | x :: xs, h => by
    have z := rmAll_le xs fun y hy => h y (List.mem_cons_of_mem _ hy)
    have y := h x (List.mem_cons_self ..)
    simp only [rmAll, List.length_cons]
    rw [Nat.add_mul]
    omega
theorem lay_all : ∀ xs : List PyData, (∀ x ∈ xs, x.canLay0 = true) → PyData.canLayAll0 xs = true
  | [], _ => rfl
  | x :: xs, h => by
    simp only [PyData.canLayAll0, Bool.and_eq_true]
    exact ⟨h x (List.mem_cons_self ..), lay_all xs fun y hy => h y (List.mem_cons_of_mem _ hy)⟩
theorem showable_all : ∀ xs : List PyData, (∀ x ∈ xs, x.showable = true) → PyData.showableAll xs = true
  | [], _ => rfl
  | x :: xs, h => by
    simp only [PyData.showableAll, Bool.and_eq_true]
    exact ⟨h x (List.mem_cons_self ..), showable_all xs fun y hy => h y (List.mem_cons_of_mem _ hy)⟩
theorem depth_all {n : Nat} : ∀ xs : List PyData, (∀ x ∈ xs, x.depth ≤ n) → PyData.depthAll xs ≤ n
  | [], _ => by simp [PyData.depthAll]
  | x :: xs, h => by
    have z := depth_all xs fun y hy => h y (List.mem_cons_of_mem _ hy)
    have y := h x (List.mem_cons_self ..)
    simp only [PyData.depthAll]
    omega
theorem showable_int {i : Int} {k : Nat} (h : i.natAbs < 2 ^ 1920) : (PyData.int i).showable = true := by
  simp only [PyData.showable, decide_eq_true_eq]
  by_cases z : i.natAbs = 0
  · rw [z]; decide
  · exact (Nat.log2_lt z).mpr h
theorem showable_nat {i : Nat} (h : i < 100000) : (PyData.int (i : Nat)).showable = true := by
  simp only [PyData.showable, decide_eq_true_eq]
  show (i : Int).natAbs.log2 < 1920
  rw [Int.natAbs_natCast]
  by_cases z : i = 0
  · rw [z]; decide
  · refine Nat.lt_of_lt_of_le ((Nat.log2_lt z).mpr (show i < 2 ^ 17 by omega)) (by decide)
section
variable {K : PySem.W.Frag} {H H' : Hp}
theorem sqL_up {a : Addr} {xs : List V} (h : SqL K H a xs) (e : Same H H') : SqL K H' a xs := h.elim (fun z => .inl (z.elim (fun q => .inl (e _ _ q)) fun ⟨o, q⟩ => .inr ⟨o, e _ _ q⟩)) .inr
theorem sqT_up {a : Addr} {xs : List V} (h : SqT K H a xs) (e : Same H H') : SqT K H' a xs := h.elim (fun z => .inl (z.elim (fun q => .inl (e _ _ q)) fun ⟨o, q⟩ => .inr ⟨o, e _ _ q⟩)) .inr
mutual
theorem dp_up (e : Same H H') : ∀ (d : PyData) (v : V), Dp K H v d → Dp K H' v d
  | .none, _, .non => .non
  | .bool b, _, .bl _ => .bl b
  | .int i, _, .int _ => .int i
  | .str x, _, .str _ => .str x
  | .list ds, _, .lst h t => .lst (sqL_up h e) (dp_upAll e ds _ t)
  | .tuple ds, _, .tup h t => .tup (sqT_up h e) (dp_upAll e ds _ t)
theorem dp_upAll (e : Same H H') : ∀ (ds : List PyData) (vs : List V), DpAll K H vs ds → DpAll K H' vs ds
  | [], _, .nil => .nil
  | d :: ds, _, .cons h t => .cons (dp_up e d _ h) (dp_upAll e ds _ t)
end
theorem Dp.up {v : V} {d : PyData} (h : Dp K H v d) (e : Same H H') : Dp K H' v d := dp_up e d v h
end
end Nw

namespace Nw
open PySem PySem.Spec PyProof.Rows L2
/-! ### any value, with what stands in lists, too; bools and ints are told apart -/
inductive Dt where
  | non | bl (b : Bool) | int (i : Int) | str (l : List Nat) | sq (t : Bool) (xs : List Dt) | dic | obj
/-- an own class that is none of these kinds -/
structure NoKit (K : PySem.W.Frag) (C : Addr) : Prop where
  str : PySem.W.kitOne K (.ref C) (.type "str") = some false
  tup : PySem.W.kitOne K (.ref C) (.type "tuple") = some false
  lst : PySem.W.kitOne K (.ref C) (.type "list") = some false
  int : PySem.W.kitOne K (.ref C) (.type "int") = some false
  bool : PySem.W.kitOne K (.ref C) (.type "bool") = some false
inductive isE (K : PySem.W.Frag) (I : Hp) : V → Dt → Prop where
  | non : isE K I .non .non
  | bl (b : Bool) : isE K I (.bl b) (.bl b)
  | int (i : Int) : isE K I (.int i) (.int i)
  | str (l : List Nat) (h : l.length ≤ 100000) : isE K I (.str (mk l)) (.str l)
  | sq {t : Bool} {a : Addr} {vs : List V} {xs : List Dt} (h : I a = some (ho t vs)) (hl : vs.length = xs.length) (hd : ∀ (i : Nat) (v : V) (x : Dt), vs[i]? = some v → xs[i]? = some x → isE K I v x) : isE K I (.ref a) (.sq t xs)
  | dic {a : Addr} {kvs : List (Key × V)} (h : I a = some (.dK kvs)) : isE K I (.ref a) .dic
  | obj {a C dx : Addr} {fs : List (Str × V)} (h : I a = some (.ins C dx fs)) (F : InsF K C) (c : Cls K C) (k : NoKit K C) : isE K I (.ref a) .obj
/-- what stands in a list or a tuple -/
structure Es (K : PySem.W.Frag) (I : Hp) (vs : List V) (xs : List Dt) : Prop where
  len : vs.length = xs.length
  at_ : ∀ (i : Nat) (v : V) (x : Dt), vs[i]? = some v → xs[i]? = some x → isE K I v x
section
variable {K : PySem.W.Frag} {I I' H : Hp} {v : V} {x : Dt}
theorem isE.up (h : isE K I v x) (e : Same I I') : isE K I' v x := by
  induction h with
  | non => exact .non
  | bl b => exact .bl b
  | int i => exact .int i
  | str l h => exact .str l h
  | sq h hl hd ih => exact .sq (e _ _ h) hl ih
  | dic h => exact .dic (e _ _ h)
  | obj h F c k => exact .obj (e _ _ h) F c k
theorem Es.up {vs : List V} {xs : List Dt} (h : Es K I vs xs) (e : Same I I') : Es K I' vs xs := ⟨h.len, fun i v x h1 h2 => (h.at_ i v x h1 h2).up e⟩
theorem Es.nil : Es K I [] [] := ⟨rfl, fun i v x h _ => by simp at h⟩
theorem Es.cons {vs : List V} {xs : List Dt} (h : isE K I v x) (t : Es K I vs xs) : Es K I (v :: vs) (x :: xs) := ⟨congrArg (· + 1) t.len, fun i u y h1 h2 => by
  match i, h1, h2 with
  | 0, h1, h2 => cases h1; cases h2; exact h
  | i + 1, h1, h2 => exact t.at_ i u y h1 h2⟩
theorem Es.app {vs ws : List V} {xs ys : List Dt} (h : Es K I vs xs) (t : Es K I ws ys) : Es K I (vs ++ ws) (xs ++ ys) := by
  induction xs generalizing vs with
  | nil =>
    cases vs with
    | nil => exact t
    | cons v vs => exact absurd h.len (by simp)
  | cons x xs ih =>
    cases vs with
    | nil => exact absurd h.len (by simp)
    | cons v vs => exact .cons (h.at_ 0 v x rfl rfl) (ih ⟨Nat.succ.inj h.len, fun i u y h1 h2 => h.at_ (i + 1) u y h1 h2⟩)
theorem Es.mem {vs : List V} {xs : List Dt} (h : Es K I vs xs) {j : Nat} (e : vs[j]? = some v) : ∃ x, xs[j]? = some x ∧ isE K I v x := by
  have hj : j < vs.length := (List.getElem?_eq_some_iff.mp e).1
  have hk : j < xs.length := by rw [← h.len]; exact hj
  exact ⟨xs[j], List.getElem?_eq_getElem hk, h.at_ j v _ e (List.getElem?_eq_getElem hk)⟩
theorem Es.get {vs : List V} {xs : List Dt} (h : Es K I vs xs) {j : Nat} (e : xs[j]? = some x) : ∃ v, vs[j]? = some v ∧ isE K I v x := by
  have hj : j < xs.length := (List.getElem?_eq_some_iff.mp e).1
  have hk : j < vs.length := by rw [h.len]; exact hj
  exact ⟨vs[j], List.getElem?_eq_getElem hk, h.at_ j _ x (List.getElem?_eq_getElem hk) e⟩
theorem Es.take {vs : List V} {xs : List Dt} (h : Es K I vs xs) (n : Nat) : Es K I (vs.take n) (xs.take n) := ⟨by rw [List.length_take, List.length_take, h.len], fun i v x h1 h2 => by
  rw [List.getElem?_take] at h1 h2
  split at h1
  · rename_i c
    rw [if_pos c] at h2
    exact h.at_ i v x h1 h2
  · cases h1⟩
theorem Es.drop {vs : List V} {xs : List Dt} (h : Es K I vs xs) (n : Nat) : Es K I (vs.drop n) (xs.drop n) := ⟨by rw [List.length_drop, List.length_drop, h.len], fun i v x h1 h2 => by
  rw [List.getElem?_drop] at h1 h2
  exact h.at_ _ v x h1 h2⟩
theorem isE.of {t : Bool} {a : Addr} {vs : List V} {xs : List Dt} (h : I a = some (ho t vs)) (e : Es K I vs xs) : isE K I (.ref a) (.sq t xs) := .sq h e.len e.at_
theorem isE.inv {t : Bool} {xs : List Dt} (h : isE K I v (.sq t xs)) : ∃ a vs, v = .ref a ∧ I a = some (ho t vs) ∧ Es K I vs xs := by
  cases h with
  | sq h hl hd => exact ⟨_, _, rfl, h, hl, hd⟩
def Dt.isStr : Dt → Bool
  | .str _ => true
  | _ => false
def Dt.isTup : Dt → Bool
  | .sq t _ => t
  | _ => false
def Dt.isLst : Dt → Bool
  | .sq t _ => !t
  | _ => false
def Dt.isInt : Dt → Bool
  | .int _ => true
  | .bl _ => true
  | _ => false
def Dt.isBool : Dt → Bool
  | .bl _ => true
  | _ => false
def Dt.isNum : Dt → Bool
  | .int _ => true
  | _ => false
structure Kits (K : PySem.W.Frag) (t : Value) (x : Dt) : Prop where
  str : PySem.W.kitOne K t (.type "str") = some x.isStr
  tup : PySem.W.kitOne K t (.type "tuple") = some x.isTup
  lst : PySem.W.kitOne K t (.type "list") = some x.isLst
  int : PySem.W.kitOne K t (.type "int") = some x.isInt
  bool : PySem.W.kitOne K t (.type "bool") = some x.isBool
theorem isE.ty (h : isE K I v x) (sb : Same I H) : ∃ t, TyX K H v t ∧ Kits K t x := by
  cases h with
  | non => exact ⟨_, .base .non, (show _ = some false from kit_ty (by decide +kernel)), (show _ = some false from kit_ty (by decide +kernel)), (show _ = some false from kit_ty (by decide +kernel)), (show _ = some false from kit_ty (by decide +kernel)), (show _ = some false from kit_ty (by decide +kernel))⟩
  | bl b => exact ⟨_, .base (.bl b), (show _ = some false from kit_ty (by decide +kernel)), (show _ = some false from kit_ty (by decide +kernel)), (show _ = some false from kit_ty (by decide +kernel)), (show _ = some true from kit_ty (by decide +kernel)), (show _ = some true from kit_ty (by decide +kernel))⟩
  | int i => exact ⟨_, .base (.int i), (show _ = some false from kit_ty (by decide +kernel)), (show _ = some false from kit_ty (by decide +kernel)), (show _ = some false from kit_ty (by decide +kernel)), (show _ = some true from kit_ty (by decide +kernel)), (show _ = some false from kit_ty (by decide +kernel))⟩
  | str l h => exact ⟨_, .base (.str _), (show _ = some true from kit_ty (by decide +kernel)), (show _ = some false from kit_ty (by decide +kernel)), (show _ = some false from kit_ty (by decide +kernel)), (show _ = some false from kit_ty (by decide +kernel)), (show _ = some false from kit_ty (by decide +kernel))⟩
  | @sq t a vs xs h hl hd =>
    cases t
    · exact ⟨_, .base (.lst (sb _ _ h)), (show _ = some false from kit_ty (by decide +kernel)), (show _ = some false from kit_ty (by decide +kernel)), (show _ = some true from kit_ty (by decide +kernel)), (show _ = some false from kit_ty (by decide +kernel)), (show _ = some false from kit_ty (by decide +kernel))⟩
    · exact ⟨_, .base (.tup (sb _ _ h)), (show _ = some false from kit_ty (by decide +kernel)), (show _ = some true from kit_ty (by decide +kernel)), (show _ = some false from kit_ty (by decide +kernel)), (show _ = some false from kit_ty (by decide +kernel)), (show _ = some false from kit_ty (by decide +kernel))⟩
  | dic h => exact ⟨_, .base (.dK (sb _ _ h)), (show _ = some false from kit_ty (by decide +kernel)), (show _ = some false from kit_ty (by decide +kernel)), (show _ = some false from kit_ty (by decide +kernel)), (show _ = some false from kit_ty (by decide +kernel)), (show _ = some false from kit_ty (by decide +kernel))⟩
  | obj h F c k => exact ⟨_, F.ty c (sb _ _ h), k.str, k.tup, k.lst, k.int, k.bool⟩
theorem Kits.seq {t : Value} (k : Kits K t x) : PySem.W.kitAny K t [.type "list", .type "tuple"] = some (x.isLst || x.isTup) := by
  cases h : x.isLst with
  | true => exact kitAny_cons (b := true) (by rw [k.lst, h]) (fun z => nomatch z) (fun _ => rfl)
  | false => exact kitAny_cons (b := false) (by rw [k.lst, h]) (fun _ => kitAny_cons (b := x.isTup) k.tup (fun z => by rw [z]; exact kitAny_nil) (fun z => z)) (fun z => nomatch z)
end
/-! ### such values as data that are shown -/
mutual
def Dt.py : Dt → PyData
  | .non => .none
  | .bl b => .bool b
  | .int i => .int i
  | .str l => .str (mk l)
  | .sq false xs => .list (Dt.pys xs)
  | .sq true xs => .tuple (Dt.pys xs)
  | .dic => .none
  | .obj => .none
def Dt.pys : List Dt → List PyData
  | [] => []
  | x :: xs => x.py :: Dt.pys xs
end
mutual
/-- no dict, no object -/
def Dt.plain : Dt → Bool
  | .dic => false
  | .obj => false
  | .sq _ xs => Dt.plains xs
  | _ => true
def Dt.plains : List Dt → Bool
  | [] => true
  | x :: xs => x.plain && Dt.plains xs
end
mutual
theorem dp_isE {K : PySem.W.Frag} {I H : Hp} (sb : Same I H) : ∀ (x : Dt) (v : V), isE K I v x → x.plain = true → Dp K H v x.py
  | .non, _, h, _ => by cases h; exact .non
  | .bl b, _, h, _ => by cases h; exact .bl b
  | .int i, _, h, _ => by cases h; exact .int i
  | .str l, _, h, _ => by cases h; exact .str _
  | .sq t xs, _, h, p => by
    obtain ⟨a, vs, rfl, ha, es⟩ := h.inv
    have z := dp_Es sb xs vs es p
    cases t
    · exact .lst (SqL.of (sb _ _ ha)) z
    · exact .tup (SqT.of (sb _ _ ha)) z
  | .dic, _, _, p => by cases p
  | .obj, _, _, p => by cases p
theorem dp_Es {K : PySem.W.Frag} {I H : Hp} (sb : Same I H) : ∀ (xs : List Dt) (vs : List V), Es K I vs xs → Dt.plains xs = true → DpAll K H vs (Dt.pys xs)
  | [], vs, h, _ => by
    cases vs with
    | nil => exact .nil
    | cons v vs => exact absurd h.len (by simp)
  | x :: xs, vs, h, p => by
    cases vs with
    | nil => exact absurd h.len (by simp)
    | cons v vs =>
      have p' : (x.plain && Dt.plains xs) = true := p
      rw [Bool.and_eq_true] at p'
      exact .cons (dp_isE sb x v (h.at_ 0 v x rfl rfl) p'.1) (dp_Es sb xs vs ⟨Nat.succ.inj h.len, fun i u y h1 h2 => h.at_ (i + 1) u y h1 h2⟩ p'.2)
end
/-! ### a guarded def that makes lambdas, its own code object told -/
theorem okgL_of {P : Program} {w : World} {K : PySem.W.Frag} {mg : Str → Option Value} {base : Heap} {k : Nat} {ps N : List Str} {sp : Sp} {t qual : Str} {st : Stmt} (F : FnAt K t qual st (He.ga K t)) (S : FnScope N ps (defScope st))
    (hb : ∀ (kV doc pm : Value) (an : Option Addr) (cdv ct : Value) (us : List Value), us.length = ps.length → bindArgs (PySem.W.fnOf t qual (defArgs st) (defBody st) (defScope st) .none kV doc pm an cdv ct) ⟨us, []⟩ = pure (ps.zip us))
    (len : ∀ vs H Q E, sp vs H Q E → vs.length = ps.length)
    (hbody : ∀ (cdv : Value) (A : Around) (outer : List Env) (s : Shared) (H : Hp) (vs : List V) (Q : VK) (E : XK), cdv = .ref (He.codeOf K (t, none)) → Room k (A.deeper (envOfC qual (defScope st) s.heap.objs.size (He.ga K t) cdv)) → A.guards = some [] → sp vs H Q E →
      ∃ u, PSs (cxOf CX0 P w K mg base N qual (defScope st) (He.ga K t) cdv A outer s H E).nox (defBody st) u ∧ u { nx := fun _ H' => Q .non H', rt := Q } (start N vs) H) : OkG P w K mg base CX0 (k + 1) (He.ga K t) ps sp := by
  obtain ⟨fd, F⟩ := F
  exact ⟨fd, fngL_of F S len hbody, F.bindsN hb, F.kp⟩
/-- two fields: one error goes out -/
def outF (C : Addr) (fs : List (Str × V)) (E : XK) (I H : Hp) : Prop := ∀ I' H' dx, Grow No I H I' H' → H' dx = some (.xd fs) → E (.ref C) (some dx) H'
theorem outF.grow {C : Addr} {fs : List (Str × V)} {E : XK} {I H I' H' : Hp} (k : outF C fs E I H) (g : Grow No I H I' H') : outF C fs E I' H' := fun I2 H2 dx g2 h => k I2 H2 dx (g.trans g2) h
end Nw

namespace Nw
open PySem PySem.Spec PyProof.Rows L2
/-! ### xs.count(y), flat values -/
def rCntV (K : PySem.W.Frag) : V → List V → Hp → VK → Prop := fun x xs H Q => ∃ (p : Addr) (ys : List V) (y : V), x = .ref p ∧ xs = [y] ∧ SqL K H p ys ∧ flatV y = true ∧ ys.all flatV = true ∧ Q (.int (ys.countP (fun z => eqV z y) : Nat)) H
theorem count_eqU {x : V} : ∀ {xs : List V} {us : List Value}, Vals xs us → xs.all flatV = true → us.countP (eqU x) = xs.countP fun y => eqV y x
  | _, _, .nil, _ => rfl
  | y :: xs, u :: us, .cons r t, f => by
    rw [List.all_cons, Bool.and_eq_true] at f
    rw [List.countP_cons, List.countP_cons, eqU_of r f.1, count_eqU t f.2]
theorem mt_countV {X : Cx} : MtR X "list.count" (rCntV X.K) := by
  intro pins s σ H x xs v us Q I rx rxs h
  obtain ⟨p, ys, y, rfl, rfl, hs, fy, fs, q⟩ := h
  cases rx
  obtain ⟨u, rfl, ru⟩ := rxs.one
  obtain ⟨its, rv, pl, hz⟩ := I.list hs
  obtain ⟨⟨cls, dd, data, sl⟩, n, ho, hc, hdn, hd⟩ := pl
  simp only at hc hd
  subst hc hd
  have at_ : ∀ {A : Around} {s' : Shared}, ∀ w ∈ its.toArray, SeqAt.EqAt A s' w u (eqU y w) := fun w hw => mem_eqAt ru fy rv fs w (by simpa using hw)
  refine call_meets PySem.F.slot_list_count ⟨_, ho, rfl⟩ PySem.F.entry_list_count (PySem.F.args_list_count_2 _ _) (SeqAt.list_countAt p its.toArray n dd sl u (eqU y)) ⟨ho, at_, ?_⟩
  have ec : its.toArray.toList.countP (eqU y) = ys.countP fun z => eqV z y := count_eqU rv fs
  refine ⟨.int (ys.countP (fun z => eqV z y) : Nat), H, I.tok _, ⟨s.toks, ?_⟩, q⟩
  show Value.int ((its.toArray.toList.countP (eqU y) : Nat) : Int) s.toks = _
  rw [ec]
/-! ### == and != of data, within a comprehension -/
theorem op_eqDK {X : Cx} {K : PySem.W.Frag} (h : X.K = K) (hu : X.A.units + 64 < cLine) : OpR X (compareOp .Eq) (rEqD K) := h ▸ op_eqD hu
theorem op_neDK {X : Cx} {K : PySem.W.Frag} (h : X.K = K) (hu : X.A.units + 64 < cLine) : OpR X (compareOp .NotEq) (rNeD K) := h ▸ op_neD hu
end Nw

namespace Nw
open PySem PySem.Spec PyProof.Rows L2
section
variable {X : Cx} {k : Nat} {f C : Addr} {fd : FuncData} {ps : List Str} {sp : Sp}
/-- the same, a tuple at the other side -/
def rOwnBT (C : Addr) (sp : Sp) (g : Bool → Bool) : R2 := fun x y H Q => ∃ a b dx fs xs, x = .ref a ∧ y = .ref b ∧ H a = some (.ins C dx fs) ∧ H b = some (.tup xs) ∧ sp [.ref a, .ref b] H (fun v H' => ∃ t, v = .bl t ∧ Q (.bl (g t)) H') E0
theorem op_own_neT (hsub : PySem.W.subIn X.K (.type "tuple") (.ref C) = some false) (M : Meth X.K C "__eq__" f) (hne : PySem.W.findIn X.K (.ref C) "__ne__" = some (some (.builtin "object.__ne__"))) (hob : PySem.W.subIn X.K (.ref C) (.type "object") = some true)
    (F : FnOk X.prog X.w X.K X.mg X.base CX0 k f fd ps sp) (hr : Room (k + 1) X.A) (hb : Binds X.K fd ps []) : OpR X (compareOp .NotEq) (rOwnBT C sp not) := by
  intro pins s σ H x y v u Q I rx ry h
  obtain ⟨a, b, dx, fs, gs, rfl, rfl, ha, hb', q⟩ := h
  cases rx
  cases ry
  obtain ⟨mA, J, _⟩ := ins_get I.hok ha
  obtain ⟨its, rv, ⟨ob, hob2, hcb, _⟩, _⟩ := I.tuple (SqT.of hb')
  obtain ⟨od, J, _⟩ := J.look
  obtain ⟨m, hF⟩ := I.fr
  have Xk := I.kIn
  show wpAny (model X.prog X.w) X.A (richCompare .NotEq (.ref a) (.ref b)) (EP X pins σ Q) X.xe s
  have r2 : Vals [V.ref a, V.ref b] [Value.ref a, Value.ref b] := .cons rfl (.cons rfl .nil)
  have e0 : Env0 X.prog X.w X.K X.mg X.base X.A.in1 X.stack s H := I.env0.in1
  have hl : (([.ref a, .ref b] : List Value) ++ []).length = ps.length := by
    have := F.len _ _ _ _ q
    simpa using this
  -- the own ==, one deeper
  have own : wpAny (model X.prog X.w) X.A.in1 (call (.ref f) [.ref a, .ref b]) (EP X pins σ (fun v H' => ∃ t, v = .bl t ∧ Q (.bl (!t)) H')) X.xe s := by
    refine wpAny_call (codeAny_mono (F.run X.A.in1 X.stack s H ⟨[.ref a, .ref b], []⟩ [.ref a, .ref b] [.ref a, .ref b] _ E0 hr.in1 e0 (by
      have := hb s [.ref a, .ref b] I.kIn hl
      simpa using this) r2 q) fun r s' hq => ?_)
    cases r with
    | error e => exact pass0 pins σ H s e s' I hq
    | ok fl =>
      cases fl with
      | ret w => exact I.after hq
      | next => exact False.elim hq
      | brk => exact False.elim hq
      | cont => exact False.elim hq
  have neq : wpAny (model X.prog X.w) X.A.in1 (Builtin.«object.__ne__» ⟨[.ref a, .ref b], []⟩) (fun fin s' => ∃ t, fin = .done (.ret (.bool t)) ∧ EP X pins σ Q (.bool t) s') X.xe s := by
    unfold Builtin.«object.__ne__»
    refine wpAny_bind (m := slotArgs "__ne__" 1 ⟨[.ref a, .ref b], []⟩) ?_
    refine (show wpAny _ _ (pure (Value.ref a, [Value.ref b])) _ _ _ from wpAny_pure ?_)
    refine wpAny_bind (wpAny_cRoomFor hr.in1.units0 ?_)
    refine wpAny_bind (PySem.W.ifBound_K Xk J M.at_ M.fn (wpAny_mono own (fun v s' hv => ?_) fun _ _ e => e))
    obtain ⟨z, H', I', rz, t, rfl, q'⟩ := hv
    cases rz
    refine wpAny_bind (wpAny_truthy_bool ?_)
    exact wpAny_pure ⟨!t, rfl, .bl (!t), H', I', rfl, q'⟩
  have one : wpAny (model X.prog X.w) X.A (tryCompare (.ref a) "__ne__" (.ref b)) (fun r s' => ∃ v, r = some v ∧ EP X pins σ Q v s') X.xe s := by
    unfold tryCompare
    refine wpAny_bind (ifBoundB_K Xk J hne slot_ne (wpAny_call (codeAny_call_builtin slot_ne.plain PySem.F.cmpEntry_ne (check_slotK Xk J PySem.F.cmpKind_ne PySem.F.cmpSplit_ne (PySem.F.cmpArgs_ne _ _) hob ?_))))
    refine wpAny_mono neq (fun fin s' hv => ?_) fun e s' z => z
    obtain ⟨t, rfl, q'⟩ := hv
    exact wpAny_pure ⟨_, rfl, q'⟩
  unfold richCompare
  simp only [oneThing_ref]
  refine wpAny_holding (wpAny_bind (wpAny_cRoomFor hr.units0 ?_))
  refine wpAny_bind (J.type.here (wpAny_bind (wpAny_typeOf_ref hob2 ?_)))
  rw [hcb]
  have ne : (Value.ref C != Value.type "tuple") = true := rfl
  simp only [ne, if_true]
  refine wpAny_bind ((PySem.W.looks_subIn Xk hsub).here ?_)
  simp only [Bool.false_eq_true, if_false]
  refine wpAny_bind (wpAny_mono one (fun r s' z => ?_) fun _ _ e => e)
  obtain ⟨v, rfl, hq⟩ := z
  exact wpAny_pure hq
end
end Nw

namespace Nw
open PySem PySem.Spec PyProof.Rows L2
/-! ### repr of an empty dict beside a text; lambdas within comprehensions -/
section
variable {X : Cx}
/-- data as in call_reprD, or a text and an empty dict in a tuple -/
def rReprE (K : PySem.W.Frag) : List V → Hp → VK → Prop := fun xs H Q => (∃ v d, xs = [v] ∧ Dp K H v d ∧ d.showable = true ∧ d.hasDict = false ∧ d.depth ≤ 64 ∧ d.shown.length ≤ sizeLine ∧ Q (.str d.shown) H) ∨
  ∃ (a b : Addr) (z : Str), xs = [.ref a] ∧ SqT K H a [.str z, .ref b] ∧ H b = some (.dK []) ∧ (PyData.tuple [.str z, .dict []]).shown.length ≤ sizeLine ∧ Q (.str (PyData.tuple [.str z, .dict []]).shown) H
theorem call_reprE (hgd : X.A.guards = some []) (hu : X.A.units + 70 < cLine) : CallR X (.builtin "repr") (rReprE X.K) := by
  intro pins s σ H xs us Q I r h
  rcases h with h | ⟨a, b, z, rfl, ha, hb, hl, q⟩
  · exact call_reprD hgd hu pins s σ H xs us Q I r h
  · obtain ⟨u, rfl, ru⟩ := vals1 r
    cases ru
    obtain ⟨its, rv, ⟨o, ho, hc, n, hd⟩, _⟩ := I.tuple ha
    obtain ⟨u1, u2, rfl, r1, r2⟩ := vals2 rv
    cases r2
    obtain ⟨t, rfl⟩ := r1
    obtain ⟨_, hsm, vs, kv, dd⟩ := dk_of I.hok hb
    have rb : ∃ as, Reads s.heap (.ref b) (.dict []) as ∧ sysModules ∉ as := by
      obtain ⟨ob, es, ep, hob, hex, hdb, _, pr, _⟩ := dd
      cases kv
      cases hes : es.toList with
      | cons e l => rw [hes] at pr; cases pr
      | nil =>
        have rd : Reads s.heap (.ref b) (.dict []) (b :: [] ++ []) := Reads.dict hob hex.1 hdb (by rw [hes]; exact .nil) (by rw [hes]; exact .nil)
        exact ⟨_, rd, by simpa using fun z => beq_eq_false_iff_ne.mp hsm z.symm⟩
    obtain ⟨as, rb, hns⟩ := rb
    have ra : Reads s.heap (.ref a) (.tuple [.str z, .dict []]) ([] ++ (as ++ [])) := Reads.tuple ho hc hd (.cons (.str z t) (.cons rb .nil))
    have hdep : (PyData.tuple [.str z, .dict []]).depth = 2 := by simp only [PyData.depth, PyData.depthAll, PyData.depthKv]; rfl
    exact repr_of_reads' ra (by simp only [PyData.showable, PyData.showableAll, PyData.showableKv]; rfl) (fun _ => by simpa using hns) hgd (by rw [hdep]; omega) (fun _ _ z => z) (fun h' u tk hk => ⟨.str _, H, I.kept (t' := tk) hk, ⟨_, rfl⟩, q⟩) hl
end
/-! ### a lambda within a comprehension -/
theorem lookup_rel {env : Env} {x : Str} : ∀ {names : List (Str × NameKind)}, (names.lookup x = some .cell ∨ names.lookup x = some .free) →
    (names.map fun (n, k) => if (k == NameKind.free && env.scope.kind == .function && env.kindOf n == some .cell) then (n, NameKind.cell) else (n, k)).lookup x = some .cell ∨
    (names.map fun (n, k) => if (k == NameKind.free && env.scope.kind == .function && env.kindOf n == some .cell) then (n, NameKind.cell) else (n, k)).lookup x = some .free
  | [], h => by rcases h with h | h <;> cases h
  | (n, k) :: r, h => by
    have ih := @lookup_rel env x r
    show List.lookup x ((if (k == NameKind.free && env.scope.kind == .function && env.kindOf n == some .cell) = true then (n, NameKind.cell) else (n, k)) :: _) = _ ∨ List.lookup x ((if (k == NameKind.free && env.scope.kind == .function && env.kindOf n == some .cell) = true then (n, NameKind.cell) else (n, k)) :: _) = _
    cases hx : x == n with
    | true =>
      simp only [List.lookup_cons, hx] at h
      by_cases hc : (k == NameKind.free && env.scope.kind == .function && env.kindOf n == some .cell) = true
      · rw [if_pos hc]
        simp only [List.lookup_cons, hx]
        exact .inl trivial
      · rw [if_neg hc]
        simp only [List.lookup_cons, hx]
        exact h
    | false =>
      simp only [List.lookup_cons, hx] at h
      by_cases hc : (k == NameKind.free && env.scope.kind == .function && env.kindOf n == some .cell) = true
      · rw [if_pos hc]
        simp only [List.lookup_cons, hx]
        exact ih h
      · rw [if_neg hc]
        simp only [List.lookup_cons, hx]
        exact ih h
theorem lamS_rel {bs scope : Scope} {env : Env} (h : LamX.lamSB bs scope = true) : LamX.LamS (relabel bs env) scope := by
  have L := LamX.lamS_by h
  exact ⟨L.kind, L.co, L.gen, L.own, fun y hy e => lookup_rel (L.free y hy e)⟩
end Nw

namespace Nw
open PySem PySem.Spec PyProof.Rows L2
/-! ### lambdas made in several defs: a list of tables -/
theorem tb_uniq {P : Addr} {u : Str} {q : Addr × Str} : ∀ {Tb : List (Addr × Str)}, (Tb.map Prod.fst).Nodup → (P, u) ∈ Tb → q ∈ Tb → q.1 = P → q.2 = u
  | [], _, h, _, _ => nomatch h
  | y :: l, nd, hm, hq, h1 => by
    obtain ⟨n1, n2⟩ := List.nodup_cons.mp (show (y.1 :: l.map Prod.fst).Nodup from nd)
    rcases List.mem_cons.mp hq with hq | hq
    · rcases List.mem_cons.mp hm with h | h
      · rw [hq, ← h]
      · refine absurd ?_ n1
        rw [← hq, h1]
        exact List.mem_map_of_mem (f := Prod.fst) h
    · rcases List.mem_cons.mp hm with h | h
      · refine absurd ?_ n1
        rw [← h]
        show P ∈ l.map Prod.fst
        rw [← h1]
        exact List.mem_map_of_mem (f := Prod.fst) hq
      · exact tb_uniq n2 h hq h1
theorem pe_told2 {X : Cx} {Tb : List (Addr × Str)} {TT : (XK → Hp → VK → Prop) → Hp → VK → Prop} {x a : Str} {g c P : Addr} {k : Nat} {st : Stmt} {Ng : List Str} {params : Arguments} {body : Expr} {scope : Scope} {t : XK → TE} {p lpos pos : Pos} {e : Addr × Str}
    (F : FnAt X.K x x st g) (S : FnScope Ng [a] (defScope st)) (hm : X.mg x = some (.ref g)) (hG : ∀ cdv, LamX.GivesTo X Ng x (defScope st) g cdv (defBody st) a (X.env.qual ++ "<lambda>") TT)
    (TB : LamX.TabB X.base X.mg c P) (hcode : X.env.code = .ref c) (hT : (P, X.env.qual ++ "<lambda>") = e) (hmT : e ∈ Tb) (nd : (Tb.map Prod.fst).Nodup) (hr : Room (k + 2) X.A) (L : LamX.LamS X.env.scope scope)
    (hbody : ∀ (A : Around) (outer : List Env) (s : Shared) (H : Hp) (E : XK) (f c' : Addr), Room k (A.deeper (LamX.lamEnv X scope s.heap.objs.size f c')) → PE (LamX.lamCx X A outer s H E scope f c') body (t E))
    (hdef : defaultsOf params X.env = ([], []) := by rfl)
    (hbind : ∀ (q : Str) (cl : List (Str × Addr)) (pm cv ctv : Value), bindArgs (PySem.W.kla_fn "<lambda>" q params body scope cl pm cv ctv) ⟨[], []⟩ = pure [] := by intro _ _ _ _ _; rfl)
    (hb : ∀ (kV doc pm : Value) (an : Option Addr) (cdv ct : Value) (us : List Value), us.length = 1 → bindArgs (PySem.W.fnOf x x (defArgs st) (defBody st) (defScope st) .none kV doc pm an cdv ct) ⟨us, []⟩ = pure ([a].zip us) := by intro _ _ _ _ _ _ us hl; match us, hl with | [_], _ => rfl)
    (hg : Gl X x := by rfl) (hNg : Ng[0]? = some a := by rfl) (hva : Vis (defScope st) a := by first | exact Or.inl rfl | exact Or.inr (Or.inl rfl)) (hdb : (x == ("__debug__" : Str)) = false := by decide) (hd : (a == ("__debug__" : Str)) = false := by decide) (hcd : (a == ("__classdict__" : Str)) = false := by decide) :
    PE X (.Call (.Name x p) [.Lambda params body scope lpos] [] pos) (LamX.tLam Tb TT t) := by
  obtain ⟨fd, F⟩ := F
  have B := F.bindsN (ps := [a]) hb
  obtain ⟨oc, od, dV, kV, doc, pm, an, cdv, ct, osl, e', lk, hcd', _⟩ := F.ex
  subst e'
  refine LamX.pe_lamcall hg hm F.kp lk hcd' B S hNg hva (hG cdv) TB hcode (by rw [hT]; exact hmT) (fun q hq h1 => ?_) hr L hdef hbind hbody hdb hd hcd
  exact tb_uniq nd (by rw [hT]; exact hmT) hq h1
end Nw

namespace Nw
open PySem PySem.Spec PyProof.Rows L2
/-! ### a dict is no text -/
theorem dict_ne_str (l : Addr) (es : Array DictEntry) (n : Nat) (dd : Option Addr) (sl : Array (Option Value)) (b : Str) (u : Tok) :
    Meets (Builtin.«dict.__ne__» ⟨[.ref l, .str b u], []⟩) (fun _ R s => s.heap.get? l = some { cls := .type "dict", dict := dd, data := .dict es n, slots := sl } ∧ R (.ok (.ret .notImplemented)) s) :=
  .of_wp fun prog w A R s h => by obtain ⟨hp, g, d, tk, os⟩ := s; obtain ⟨hl, h⟩ := h; have f1 := F.sub_str_dict; wp_walk using wpAny_loadPart' hl; exact ⟨_, rfl, h⟩
theorem str_ne_dict (b : Str) (u : Tok) (l : Addr) (es : Array DictEntry) (n : Nat) (dd : Option Addr) (sl : Array (Option Value)) :
    Meets (Builtin.«str.__ne__» ⟨[.str b u, .ref l], []⟩) (fun _ R s => s.heap.get? l = some { cls := .type "dict", dict := dd, data := .dict es n, slots := sl } ∧ R (.ok (.ret .notImplemented)) s) :=
  .of_wp fun prog w A R s h => by obtain ⟨hp, g, d, tk, os⟩ := s; obtain ⟨hl, h⟩ := h; wp_walk using wpAny_loadPart' hl, wpAny_load hl; exact ⟨_, rfl, h⟩
def rNeS : R2 := fun x y H Q => rNe x y H Q ∨ ∃ a kvs z, x = .ref a ∧ y = .str z ∧ H a = some (.dK kvs) ∧ Q (.bl true) H
theorem op_neS {X : Cx} (hu : X.A.units + 64 < cLine) : OpR X (compareOp .NotEq) rNeS := by
  intro pins s σ H x y v u Q I rx ry h
  rcases h with h | ⟨a, kvs, z, rfl, rfl, ha, q⟩
  · exact op_ne pins s σ H x y v u Q I rx ry h
  · obtain rfl : v = Value.ref a := rx
    obtain ⟨t, rfl⟩ := ry
    obtain ⟨_, hsm, vs, kv, dd⟩ := dk_of I.hok ha
    obtain ⟨⟨cls, dc, data, sl⟩, es, ep, ho, hex, hd, _⟩ := dd
    have hc := hex.1
    simp only at hc hd
    subst hc hd
    exact SeqAt.rc_ne_decline_or (k := false) ⟨_, ho, rfl⟩ (typeIs_str s z t) (by decide) F.sub_str_dict F.slot_dict_ne F.slot_str_ne_refl
      (fun _ hq => call_meets F.slot_dict_ne ⟨_, ho, rfl⟩ F.entry_dict_ne (F.args_dict_ne_2 _ _) (dict_ne_str a es ep dc sl z t) ⟨ho, hq⟩)
      (fun _ hq => call_meets F.slot_str_ne_refl (typeIs_str s z t) F.entry_str_ne (F.args_str_ne_2 _ _) (str_ne_dict z t a es ep dc sl) ⟨ho, hq⟩)
      (fun _ hq => wpAny_of_eq (rfl : isSame (.ref a) (.str z t) = pure false) hq) (.inr (Nat.lt_of_le_of_lt (Nat.le_add_right _ _) hu)) (fin_bl I q rfl)
end Nw

namespace Nw
open PySem PySem.Spec PyProof.Rows L2
/-! ### e[b] by an own __getitem__ -/
def rGetO (C : Addr) (sp : Sp) (E : XK) : R2 := fun x y H Q => ∃ a dx fs, x = .ref a ∧ H a = some (.ins C dx fs) ∧ sp [.ref a, y] H Q E
theorem pe_getO {X : Cx} {k : Nat} {C f : Addr} {CX : CXT} {E : XK} {ps : List Str} {sp : Sp} {e b : Expr} {te tb : TE} {pos : Pos} (M : Meth X.K C "__getitem__" f) (G : Ok X.prog X.w X.K X.mg X.base CX k f ps sp) (hr : Room (k + 1) X.A) (hx : Passes CX X E)
    (he : PE X e te) (hb : PE X b tb) (hsl : ∀ o i, subscripted b true o i = runValue (.builtin "lifetime.subscript" ⟨[o, i], []⟩) := by intro _ _; with_unfolding_all rfl) : PE X (.Subscript e b pos) (tOp (rGetO C sp E) te tb) := by
  obtain ⟨fd, F, bd, _, oc, od, osl, lk⟩ := G.ok
  refine ⟨fun pins s σ H Q I h => ?_⟩
  refine Subscript_ (binT he hb I h fun v u s2 x y H2 I2 rx ry q => ?_)
  obtain ⟨a, dx, fs, rfl, ha, q⟩ := q
  obtain rfl : v = Value.ref a := rx
  obtain ⟨mA, J, _⟩ := ins_get I2.hok ha
  obtain ⟨od, J, _⟩ := J.look
  obtain ⟨m, hF⟩ := I2.fr
  have r2 : Vals [V.ref a, y] [Value.ref a, u] := .cons rfl (.cons ry .nil)
  have e0 : Env0 X.prog X.w X.K X.mg X.base X.A.in1 X.stack s2 H2 := I2.env0.in1
  have hl : (([.ref a, u] : List Value) ++ []).length = ps.length := by
    have := F.len _ _ _ _ q
    simpa using this
  refine PySem.W.sub_K hF I2.ok.mod.kin J M.at_ (by unfold PySem.W.fnIn; rw [lk]) M.fn ?_ (hsl _ _)
  refine wpAny_call (codeAny_mono (F.run X.A.in1 X.stack s2 H2 ⟨[.ref a, u], []⟩ [.ref a, u] [.ref a, y] Q E hr.in1 e0 (by
    have := bd s2 [.ref a, u] I2.kIn hl
    simpa using this) r2 q) fun r s' hq => ?_)
  cases r with
  | error e => exact hx pins σ H2 s2 e s' I2 hq
  | ok fl =>
    cases fl with
    | ret w => exact I2.after hq
    | next => exact False.elim hq
    | brk => exact False.elim hq
    | cont => exact False.elim hq
end Nw

/-! N31: list(range(a, b)) whatever the bounds are -/
namespace PySem
open Sem (wp)
section
variable {prog : Program} {w : World} {A : Around} {E : Value → Shared → Prop} {s : Shared}

theorem long_extend {R : Result → Shared → Prop} {r : Addr} {a b c : Int} {t u v : Tok} {n : Nat} (hh : A.handled = none) (hr : IsRange s.heap r a b c t u v) (hbig : Builtin.Range.small a b c = false)
    (hn : Builtin.Range.rangeSize a b c = n) (hlen : n ≤ 2 ^ 24) (S : Addr) (res : Value) (c₀ : Nat) (hS : s.heap.get? S = some { cls := .type "list", data := .seq #[] c₀ })
    (hR : ∀ h' tk acc' c', (∀ b o, b ≠ S → s.heap.get? b = some o → h'.get? b = some o) → h'.get? S = some { cls := .type "list", dict := none, data := .seq acc' c', slots := #[] } →
      ItemsOf (fun i v => ∃ t, v = .int (a + i * c) t) acc' n → R (.ok (.ret res)) { s with heap := h', toks := tk }) :
    wpAny (model prog w) A.in1 (Builtin.List.listExtendWith (.ref S) (.ref r) res)
      (fun fin s' => match fin with | .done f => R (.ok f) s' | .again c' => c'.quiet = true ∧ codeAny (model prog w) A c' R s') (fun e s' => R (.error e) s') s := by
  have hSr : S ≠ r := fun e => by rw [e, hr] at hS; simp at hS
  have hSlt : S < s.heap.objs.size := Heap.lt_size hS
  have hSI : S ≠ s.heap.objs.size := Nat.ne_of_lt hSlt
  have hSf : S ∉ [s.heap.objs.size] := fun hm => hSI (List.mem_singleton.mp hm)
  have W := (Walks.longrange (prog := prog) (w := w) (A := A.in1) hh s.heap.objs.size a c n).toS
  have key : ∀ (h : Heap) (c₁ tk : Nat), IsLongIter h s.heap.objs.size (a + ((0 : Nat) : Int) * c) ((n : Int) - ((0 : Nat) : Int)) c → (∀ b o, b ≠ S → s.heap.get? b = some o → h.get? b = some o) →
      h.get? S = some { cls := .type "list", data := .seq #[] c₁ } → codeAny (model prog w) A (.builtin "list.extend.loop" ⟨[.ref S, .ref s.heap.objs.size, res], []⟩) R { s with heap := h, toks := tk } := by
    intro h c₁ tk hit hk hS₁
    refine codeAny_extend_loopS W (by rw [sizeLine_eq]; omega) S hSf res n 0 _ #[] c₁ rfl (Nat.zero_le _) hit hS₁ (ItemsOf.nil _) fun s' acc' c' hm hS' hacc => ?_
    rw [Moved.eq_with hm]
    refine hR s'.heap s'.toks acc' c' (fun b o hb e => hm.heap b o (fun hmem => ?_) (hk b o hb e)) hS' hacc
    rcases List.mem_cons.mp hmem with e' | hmem
    · exact hb e'
    · exact absurd (Heap.lt_size e) (by rw [List.mem_singleton.mp hmem]; exact Nat.lt_irrefl _)
  unfold Builtin.List.listExtendWith
  refine wpAny_bind (wpAny_typeOf (T := "range") ⟨_, hr, rfl⟩ ?_)
  have h1 : Builtin.List.listSameRef (.ref S) (.ref r) = false := by simp [Builtin.List.listSameRef, hSr]
  have h2 : (Value.type "range" == Value.type "list") = false := by decide
  have h3 : (Value.type "range" == Value.type "tuple") = false := by decide
  simp only [h1, h2, h3, Bool.or_false, Bool.false_eq_true, if_false]
  refine wpAny_bind (wpAny_pyIter_longrange hr hbig ?_)
  refine wpAny_bind (wpAny_holding (wpAny_hint_range (n := n) (Heap.get?_push_of_some _ hr) hn hlen ?_))
  have hit₁ : IsLongIter (s.heap.push { cls := .type "longrange_iterator", data := .fields #[rawInt a, rawInt (Builtin.Range.rangeSize a b c), rawInt c] }) s.heap.objs.size (a + ((0 : Nat) : Int) * c) ((n : Int) - ((0 : Nat) : Int)) c := by
    show IsLongIter _ _ _ _ _; rw [hn]; simpa using Heap.get?_push_size _ rfl
  have hS₁ := Heap.get?_push_of_some { cls := .type "longrange_iterator", data := .fields #[rawInt a, rawInt (Builtin.Range.rangeSize a b c), rawInt c] } hS
  refine wpAny_ite_split (fun _ => ?_) (fun _ => wpAny_pure ⟨plainId_quiet F.plain_extend_loop _, key _ c₀ _ hit₁ (fun b o _ e => Heap.get?_push_of_some _ e) hS₁⟩)
  refine wpAny_bind (wpAny_rule ?_)
  refine wpAny_bind ?_
  show wpAny _ _ (updateSeq S (·.push .none) >>= fun _ => updateSeq S (·.pop)) _ _ _
  refine wpAny_bind (wpAny_updateSeq hS₁ rfl ?_)
  have hS₂ := Heap.get?_update_self (Obj.mapSeq (·.push Value.none)) hS₁ rfl
  refine wpAny_updateSeq (hz := by seq_fits) hS₂ rfl ?_
  have hS₃ := Heap.get?_update_self (Obj.mapSeq (·.pop)) hS₂ rfl
  refine wpAny_pure ⟨plainId_quiet F.plain_extend_loop _, key _ _ _ ?_ (fun b o hb e => ?_) hS₃⟩
  · exact (Heap.get?_update_other _ _ hSI).trans ((Heap.get?_update_other _ _ hSI).trans hit₁)
  · exact (Heap.get?_update_other _ _ (Ne.symm hb)).trans ((Heap.get?_update_other _ _ (Ne.symm hb)).trans (Heap.get?_push_of_some _ e))

theorem long_init {R : Result → Shared → Prop} {r : Addr} {a b c : Int} {t u v : Tok} {n : Nat} (hh : A.handled = none) (hr : IsRange s.heap r a b c t u v) (hbig : Builtin.Range.small a b c = false)
    (hn : Builtin.Range.rangeSize a b c = n) (hlen : n ≤ 2 ^ 24) (S : Addr) (hS : s.heap.get? S = some { cls := .type "list", data := .seq #[] })
    (hR : ∀ h' tk acc' c', (∀ b o, b ≠ S → s.heap.get? b = some o → h'.get? b = some o) → h'.get? S = some { cls := .type "list", dict := none, data := .seq acc' c', slots := #[] } →
      ItemsOf (fun i v => ∃ t, v = .int (a + i * c) t) acc' n → R (.ok (.ret .none)) { s with heap := h', toks := tk }) :
    wpAny (model prog w) A.in1 (Builtin.«list.__init__» ⟨[.ref S, .ref r], []⟩)
      (fun fin s' => match fin with | .done f => R (.ok f) s' | .again c' => c'.quiet = true ∧ codeAny (model prog w) A c' R s') (fun e s' => R (.error e) s') s := by
  have hSr : S ≠ r := fun e => by rw [e, hr] at hS; simp at hS
  show wpAny _ _ (do let old ← Builtin.List.listItems (.ref S); Builtin.List.listUpdate (.ref S) (fun _ => #[]); letGo old.toList.reverse; Builtin.List.listExtendWith (.ref S) (.ref r) .none) _ _ s
  refine wpAny_bind ?_
  unfold Builtin.List.listItems
  refine wpAny_bind (wpAny_seqItems hS rfl (wpAny_pure ?_))
  show wpAny _ _ (updateSeq S (fun _ => #[]) >>= fun _ => letGo (#[] : Array Value).toList.reverse >>= fun _ => Builtin.List.listExtendWith (.ref S) (.ref r) .none) _ _ s
  refine wpAny_bind (wpAny_updateSeq hS rfl ?_)
  have hS₂ := Heap.get?_update_self (Obj.mapSeq (fun _ => (#[] : Array Value))) hS rfl
  have oth : ∀ b o, b ≠ S → s.heap.get? b = some o → (s.heap.update S (Obj.mapSeq (fun _ => (#[] : Array Value)))).get? b = some o :=
    fun b o hb e => (Heap.get?_update_other _ _ (Ne.symm hb)).trans e
  refine wpAny_bind (wpAny_letGo ?_)
  refine long_extend hh (oth r _ (Ne.symm hSr) hr) hbig hn hlen S .none _ hS₂ fun h' tk acc' c' hk hS' hacc => ?_
  exact hR h' tk acc' c' (fun b o hb e => hk b o hb (oth b o hb e)) hS' hacc

theorem call_list_long {Q : Value → Shared → Prop} {r : Addr} {a b c : Int} {t u v : Tok} {n : Nat} (hh : A.handled = none) (hr : IsRange s.heap r a b c t u v) (hbig : Builtin.Range.small a b c = false)
    (hn : Builtin.Range.rangeSize a b c = n) (hlen : n ≤ 2 ^ 24)
    (hQ : ∀ h' tk acc' c', (∀ b o, s.heap.get? b = some o → h'.get? b = some o) →
      h'.get? s.heap.objs.size = some { cls := .type "list", dict := none, data := .seq acc' c', slots := #[] } → ItemsOf (fun i v => ∃ t, v = .int (a + i * c) t) acc' n → Q (.ref s.heap.objs.size) { s with heap := h', toks := tk }) :
    wpAny (model prog w) A (call (.type "list") [.ref r]) Q E s := by
  refine callType_codes (Q₁ := fun obj s₁ => obj = .ref s.heap.objs.size ∧ s₁ = { s with heap := s.heap.push { cls := .type "list", data := .seq #[] } }) F.called_list (F.typeCall_list_1 _) F.entry_list_init
    (code_list_new _ ⟨rfl, rfl⟩) fun obj s₁ h₁ => ?_
  obtain ⟨rfl, rfl⟩ := h₁
  have hS : (s.heap.push { cls := .type "list", data := .seq #[] }).get? s.heap.objs.size = some { cls := .type "list", data := .seq #[] } := Heap.get?_push_size _ rfl
  refine ⟨⟨_, hS, rfl⟩, F.args_list_init_2 _ _, long_init (A := A.in1) hh (Heap.get?_push_of_some _ hr) hbig hn hlen _ hS fun h' tk acc' c' hk hS' hacc => ?_⟩
  exact ⟨rfl, hQ h' tk acc' c' (fun b o e => hk b o (Nat.ne_of_lt (Heap.lt_size e)) (Heap.get?_push_of_some _ e)) hS' hacc⟩

theorem call_list_any {Q : Value → Shared → Prop} {r : Addr} {a b c : Int} {t u v : Tok} {n : Nat} (hh : A.handled = none) (hr : IsRange s.heap r a b c t u v)
    (hn : Builtin.Range.rangeSize a b c = n) (hlen : n ≤ 2 ^ 24)
    (hQ : ∀ h' tk acc' c', (∀ b o, s.heap.get? b = some o → h'.get? b = some o) →
      h'.get? s.heap.objs.size = some { cls := .type "list", dict := none, data := .seq acc' c', slots := #[] } → ItemsOf (fun i v => ∃ t, v = .int (a + i * c) t) acc' n → Q (.ref s.heap.objs.size) { s with heap := h', toks := tk }) :
    wpAny (model prog w) A (call (.type "list") [.ref r]) Q E s := by
  by_cases h : Builtin.Range.small a b c = true
  · exact call_list_range hh hr h hn hlen hQ
  · exact call_list_long hh hr (by simpa using h) hn hlen hQ
end
end PySem
namespace L2
open PySem PySem.Spec PyProof.Rows
section
variable {X : Cx} {e : Expr} {te : St → Hp → (Int → Int → Hp → Prop) → Prop}
/-- list(range(a, b)), whatever a and b are: not too long -/
def tLstRgB (te : St → Hp → (Int → Int → Hp → Prop) → Prop) : TE := fun σ H Q => te σ H fun a b H1 => (b - a).toNat ≤ 2 ^ 24 ∧ ∀ q, H1 q = none → Q (.ref q) (upd H1 q (.lst (rgV a b)))
theorem pe_listRgB {p pos : Pos} (hc : X.calm = true) (hg : Gl X "list") (hm : X.mg "list" = none) (he : PRg X e te) (na : starEach [e] X.env = (false, eval e X.env) :: starEach [] X.env := by rfl) : PE X (.Call (.Name "list" p) [e] [] pos) (tLstRgB te) := by
  refine ⟨fun pins s σ H Q I h => ?_⟩
  refine Call_ (ld_blt I hg hm boot_list (PyProof.Rows.callWith_type1 (args_cons (thn (he pins s σ H _ I h) fun x s1 ⟨r, a, b, t, u, v, H1, ex, hr, I1, b5, q⟩ => args_nil ?_) na) na))
  subst ex
  refine call_list_any (n := (b - a).toNat) (I1.ok.hd hc) hr (rangeSize_nat a b) b5 fun h' tk acc c' hk e' hi => ?_
  refine ⟨.ref s1.heap.objs.size, upd H1 s1.heap.objs.size (.lst (rgV a b)), I1.laid hk (Nat.le_refl _) (show ObjOk X.prog X.w _ _ _ (.lst (rgV a b)) from ⟨?_, acc.toList, c', vals_rg hi, ?_⟩), rfl, q _ (I1.hok.fresh (Nat.le_refl _))⟩
  · rw [rgV_length, sizeLine_eq]; omega
  · rw [Array.toArray_toList]; exact e'
end
end L2

/-! N32: sep.join(a dict of texts) -/
namespace PySem
open Sem (wp)
open Builtin Builtin.Str Builtin.Int
theorem nolen_kit : typeLookup (.type "dict_keyiterator") "__len__" = pure none := by rw [typeLookup_type, builtinLookup_eq_fast]; kernel_rfl
section
variable {prog : Program} {w : World} {A : Around} {E : Value → Shared → Prop} {s : Shared} {I : Addr} {fp wr : List Addr} {G : Array GenState → Array GenState → Prop} {n : Nat} {P : Nat → Value → Prop} {St : Nat → Shared → Prop}
theorem collect_kit {Q : List Value → Shared → Prop}
    (W : WalksS prog w A.in1 I fp wr G n P St) (hT : ∀ i s, St i s → s.TypeIs (.ref I) "dict_keyiterator") (hst : St 0 s) (hfp : ∀ b ∈ fp, b < s.heap.objs.size) (hI : I ∈ fp)
    (hQ : ∀ s' acc, Moved wr G s s' → ItemsOf P acc n → Q acc.toList s') (hn : n ≤ sizeLine) : wpAny (model prog w) A (collect (.ref I)) Q E s := by
  have hSf : s.heap.objs.size ∉ fp := fun hm => Nat.lt_irrefl _ (hfp _ hm)
  have hSI : s.heap.objs.size ≠ I := fun e => hSf (e ▸ hI)
  unfold collect
  refine wpAny_bind (wpAny_runValue (codeAny_builtin F.entry_proto_collect ?_))
  rw [Around.under_plainId F.plain_proto_collect _]
  show wpAny _ A.in1 (newList [] >>= fun l => again (.builtin "list.__iadd__" ⟨[l, .ref I], []⟩)) _ _ s
  refine wpAny_bind (wpAny_newObj_type ?_)
  refine wpAny_pure ⟨plainId_quiet F.plain_list_iadd _, codeAny_builtin F.entry_list_iadd ?_⟩
  rw [Around.under_plainId F.plain_list_iadd _]
  have hst₁ := W.frame 0 s (s.heap.push { cls := .type "list", data := .seq ([] : List Value).toArray }) s.toks hst (Nat.le_refl _) fun b _ o e => Heap.get?_push_of_some _ e
  have hS₁ : (s.heap.push { cls := .type "list", data := .seq ([] : List Value).toArray }).get? s.heap.objs.size = some { cls := .type "list", data := .seq ([] : List Value).toArray } := Heap.get?_push_size _ rfl
  have h1 : Builtin.List.listSameRef (.ref s.heap.objs.size) (.ref I) = false := by simp [Builtin.List.listSameRef, hSI]
  show wpAny _ A.in1 (Builtin.List.listExtendWith (.ref s.heap.objs.size) (.ref I) (.ref s.heap.objs.size)) _ _ _
  unfold Builtin.List.listExtendWith
  refine wpAny_bind (wpAny_typeOf (hT 0 _ hst₁) ?_)
  rw [if_neg (by rw [h1]; decide)]
  refine wpAny_bind (W.self 0 _ _ _ hst₁ ?_)
  refine wpAny_bind (wpAny_holding ?_)
  unfold Builtin.List.listLengthHint
  refine wpAny_bind (wpAny_specialOf (hT 0 _ hst₁) nolen_kit ?_)
  show wpAny _ A.in1 (specialOf (Value.ref I) (Str.ofString "__length_hint__") >>= _) _ _ _
  refine wpAny_bind (wpAny_specialOf (hT 0 _ hst₁) F.slot_dict_keyiterator_length_hint.lookup ?_)
  (generalize hid : ("dict_keyiterator.__length_hint__" : String) = id0; (fail_if_success (clear hid id0)); wp_delta; rw [show splitId id0 = some ("dict_keyiterator", "__length_hint__") from by subst hid; decide +kernel]; subst hid)
  refine wpAny_bind (wpAny_isInstance (b := true) (hT 0 _ hst₁) (by rw [isSubtype_type]; kernel_rfl) ?_)
  refine wpAny_pure ?_
  rw [if_neg (by decide)]
  refine wpAny_pure ⟨plainId_quiet F.plain_extend_loop _, codeAny_extend_loopS W hn _ hSf _ n 0 _ _ _ rfl (Nat.zero_le _) hst₁ hS₁ (ItemsOf.nil P) fun s' acc' c' hm hS' hacc => ?_⟩
  show wpAny _ A (load s.heap.objs.size >>= _) _ _ s'
  refine wpAny_bind (wpAny_load hS' ?_)
  exact wpAny_pure (hQ s' acc' (Moved.drop_new (o := { cls := .type "list", data := .seq ([] : List Value).toArray }) (tk := s.toks) hm (Nat.le_refl _)) hacc)
end
section
variable {prog : Program} {w : World} {A : Around} {E : Value → Shared → Prop} {s : Shared} {K : Type} [DecidableEq K] {knd : KeyKind prog w K}
theorem call_joinD {x : Str} {t : Tok} {d : Addr} {kvs : List (K × Value)} {ep : Nat} {ys : List Str} {Q : Value → Shared → Prop} (hh : A.handled = none) (lo : (d == sysModules) = false) (hm : s.heap.DictAt knd d kvs ep)
    (hP : ∀ acc : Array Value, ItemsOf (fun i v => ∃ k x, kvs[i]? = some (k, x) ∧ knd.is k v = true) acc kvs.length → PyProof.Rows.StrsAre acc.toList ys) (hok : (ys.map (·.length)).sum + ys.length * x.length ≤ 16777216)
    (hq : ∀ h', (∀ b o, s.heap.get? b = some o → h'.get? b = some o) → ∀ t' k, Q (.str (Txt.join x ys) t') { s with heap := h', toks := k }) (hn : kvs.length ≤ sizeLine) :
    wpAny (model prog w) A (call (.builtin "str.join") [.str x t, .ref d]) Q E s := by
  have hT : s.TypeIs (.ref d) "dict" := hm.dictOf.typeIs
  refine wpAny_call (codeAny_call_builtin F.slot_str_join.plain F.entry_str_join (F.slot_str_join.check _ _ _ _ _ _ _ _ (typeIs_str _ _ _) (F.args_str_join_2 _ _) ?_))
  rw [join_tree_other]
  refine wpAny_bind (wpAny_typeOf hT ?_)
  show wpAny _ A.in1 ((pyIter (.ref d)).tryCatch _ >>= fun it => collect it >>= fun items => joinTail x items) _ _ s
  refine wpAny_bind (wpAny_tryCatch (wpAny_pyIter_dict lo hm ?_))
  have hne : d ≠ s.heap.objs.size := Nat.ne_of_lt hm.lt_size
  have hh1 : A.in1.in1.handled = none := hh
  refine wpAny_bind (collect_kit (I := s.heap.objs.size) (n := kvs.length) (Walks.dictKeys (A := A.in1.in1) hh1 s.heap.objs.size d hne kvs ep).toS (fun i s' st => st.1.typeIs) ⟨⟨_, Heap.get?_push_size _ rfl, rfl, rfl⟩, hm.push _⟩ (fun b hb => ?_) (by simp) (fun s' acc hmv hacc => ?_) hn)
  · simp only [List.mem_cons, List.not_mem_nil, or_false] at hb
    rcases hb with rfl | rfl
    · simp [Heap.push]
    · exact Nat.lt_of_lt_of_le hm.lt_size (by simp [Heap.push])
  obtain ⟨l, hl, ht⟩ := PyProof.Rows.strsAre_values (hP acc hacc)
  subst ht
  rw [hl]
  have hok' := PyProof.Rows.joinOk_of hok
  unfold JoinOk at hok'
  rw [Bool.not_eq_true'] at hok'
  have g : Gives (joinTail x (strValues l)) (joinMade x l) := by
    have g0 := gives_joinTail x l hok'
    cases l with
    | nil => exact g0
    | cons p r => cases r with
      | nil => exact g0
      | cons q r' => exact g0
  refine g prog w A (wants Q E) s' (post_join l ⟨joinFit_length hok', fun t' k => ?_⟩)
  rw [Moved.eq_with hmv]
  exact hq s'.heap (fun b o e => hmv.heap b o (fun hmem => absurd (Heap.lt_size e) (by rw [List.mem_singleton.mp hmem]; exact Nat.lt_irrefl _)) (Heap.get?_push_of_some _ e)) t' k
end
end PySem
namespace L2
open PySem PySem.Spec PyProof.Rows
theorem strs_of_get : ∀ (us : List Value) (ys : List Str), us.length = ys.length → (∀ (i : Nat) (u : Value) (y : Str), us[i]? = some u → ys[i]? = some y → ∃ t, u = .str y t) → StrsAre us ys
  | [], [], _, _ => .nil
  | u :: us, y :: ys, hl, h => by
    obtain ⟨t, rfl⟩ := h 0 u y rfl rfl
    exact .cons y t (strs_of_get us ys (Nat.succ.inj hl) fun i u y h1 h2 => h (i + 1) u y h1 h2)
/-- sep.join(d): the keys of a dict, all of them texts -/
def rJoinD (K : PySem.W.Frag) : V → List V → Hp → VK → Prop := fun x xs H Q => ∃ a p kvs, ∃ ys : List Str, x = .str a ∧ xs = [.ref p] ∧ H p = some (.dK kvs) ∧ kvs.map Prod.fst = ys.map (Sum.inr : Str → Key) ∧
    (ys.map (·.length)).sum + ys.length * a.length ≤ 16777216 ∧ Q (.str (Txt.join a ys)) H
section
variable {X : Cx}
theorem kv_fst {kvs : List (Key × V)} {vs : List (Key × Value)} (h : KV kvs vs) : vs.map Prod.fst = kvs.map Prod.fst := by
  unfold KV at h
  induction h with
  | nil => rfl
  | cons h _ ih => rw [List.map_cons, List.map_cons, ih, h.1]
theorem mt_joinD (hc : X.calm = true) : MtR X "str.join" (rJoinD X.K) := by
  intro pins s σ H x xs v us Q I rx rs h
  obtain ⟨a, p, kvs, ys, rfl, rfl, hp, hk, hz, h⟩ := h
  obtain ⟨t, rfl⟩ := rx
  cases rs with
  | cons r1 rs =>
    cases rs
    cases r1
    obtain ⟨hl, lo, vs, rel, dd⟩ := dk_of I.hok hp
    obtain ⟨o, es, ep, dd⟩ := dd
    have hm : s.heap.DictAt (mixKind X.prog X.w) p vs ep := ⟨o, es, dd⟩
    have hf : vs.map Prod.fst = ys.map (Sum.inr : Str → Key) := (kv_fst rel).trans hk
    have hlen : vs.length = ys.length := by have := congrArg List.length hf; simpa using this
    have hlk : kvs.length = ys.length := by have := congrArg List.length hk; simpa using this
    refine call_joinD (ys := ys) (I.ok.hd hc) lo hm (fun acc hacc => ?_) hz (fun h' hk' t' k => ⟨.str _, H, I.kept (t' := k) hk', ⟨t', rfl⟩, h⟩) (by omega)
    refine strs_of_get _ _ (by rw [Array.length_toList]; exact hacc.1.trans hlen) fun i u y h1 h2 => ?_
    rw [Array.getElem?_toList] at h1
    obtain ⟨k, x, e1, e2⟩ := hacc.2 i u h1
    have e3 : (vs.map Prod.fst)[i]? = some k := by rw [List.getElem?_map, e1]; rfl
    rw [hf, List.getElem?_map, h2] at e3
    cases e3
    rcases keyIs_shape (k := Sum.inr y) (v := u) e2 with ⟨_, _, z, _⟩ | ⟨_, _, z, rfl⟩
    · cases z
    · cases z
      exact ⟨_, rfl⟩
theorem pe_joinD {o e : Expr} {to te : TE} {apos pos : Pos} (hc : X.calm = true) (ho : PE X o to) (he : PE X e te) (hs : starEach [e] X.env = [(false, eval e X.env)] := by rfl) (hbase : attributeBase o "join" X.env (eval o X.env) = eval o X.env := by rfl) (hline : (apos.endLine == pos.line) = true := by rfl) :
    PE X (.Call (.Attribute o "join" apos) [e] [] pos) (tM1 (rJoinD X.K) to te) :=
  pe_m1 F.slot_str_join F.type_str_join (mt_joinD hc) ho he hs hbase hline
end
end L2
namespace Nw
open PySem PySem.Spec PyProof.Rows L2
theorem call_list_ofK {X : Cx} {K : PySem.W.Frag} (h : X.K = K) : CallR X (.type "list") (fun xs H Q => ∃ p ys, xs = [.ref p] ∧ (SqL K H p ys ∨ SqT K H p ys) ∧ ∀ l, H l = none → Q (.ref l) (upd H l (.lst ys))) := h ▸ call_list_of
theorem op_eqNilK {X : Cx} {K : PySem.W.Frag} (h : X.K = K) (hu : X.A.units + 64 < cLine) : OpR X (compareOp .Eq) (rNilE K) := h ▸ op_eqNil hu
theorem op_neNilK {X : Cx} {K : PySem.W.Frag} (h : X.K = K) (hu : X.A.units + 64 < cLine) : OpR X (compareOp .NotEq) (rNilN K) := h ▸ op_neNil hu
end Nw

namespace Nw
open PySem PySem.Spec PyProof.Rows L2
/-! ### a calculus: what stands around a reading (frame, names, own objects), and readings of expressions -/
/-- no table, no object of another kind -/
def NTE (o : HO) : Prop := NTb o ∧ ∀ φ, o ≠ .ext φ
structure StableE (T : Addr → Prop) (R : Hp → Hp → Prop) : Prop where
  grow : ∀ {I H I' H' : Hp}, R I H → Grow No I H I' H' → R I' H'
  put : ∀ {H0 : Hp} {m : Addr} {o o' : HO} {I H : Hp}, NTE o → R I H → Own T H0 m o I H → R I (upd H m o')
  give : ∀ {H0 : Hp} {m : Addr} {o : HO} {I H : Hp}, NTE o → R I H → Own T H0 m o I H → R (upd I m o) H
theorem Stable.toE {T : Addr → Prop} {R : Hp → Hp → Prop} (s : Stable T R) : StableE T R := ⟨s.grow, fun _ => s.put, fun _ => s.give⟩
/-- the frame of a def: what may change (T), what is kept of it (R, by a count), the view and the heap at its begin -/
structure Fr where
  T : Addr → Prop
  R : Nat → Hp → Hp → Prop
  st : ∀ n, StableE T (R n)
  I0 : Hp
  H0 : Hp
  live : ∀ b, T b → H0 b ≠ none
  vt : ∀ b, T b → I0 b = none
/-- an own object, that may be changed -/
structure Cell where
  p : Addr
  φ : Hp → HO → Prop
  up : ∀ {I I' : Hp} {o : HO}, Same I I' → φ I o → φ I' o
  nt : ∀ {I : Hp} {o : HO}, φ I o → NTE o
structure Amb where
  Γ : Hp → Prop
  up : ∀ {I I' : Hp}, Same I I' → Γ I → Γ I'
  Ω : List Cell
def Amb.nil : Amb := ⟨fun _ => True, fun _ h => h, []⟩
def Amb.rep {α : Type} [Rep α] (a : Amb) (v : V) (x : α) : Amb := ⟨fun I => a.Γ I ∧ Rep.is I v x, fun e h => ⟨a.up e h.1, Rep.mono e h.2⟩, a.Ω⟩
def Amb.own (a : Amb) (c : Cell) : Amb := ⟨a.Γ, a.up, c :: a.Ω⟩
def Amb.cells (a : Amb) (Ω : List Cell) : Amb := ⟨a.Γ, a.up, Ω⟩
structure Stn (f : Fr) (a : Amb) (n : Nat) (I H : Hp) : Prop where
  g : Grow f.T f.I0 f.H0 I H
  r : f.R n I H
  γ : a.Γ I
  nd : (a.Ω.map (·.p)).Nodup
  ω : ∀ c ∈ a.Ω, ∃ o, Own f.T f.H0 c.p o I H ∧ c.φ I o
section
variable {f : Fr} {a : Amb} {n n' : Nat} {I H I' H' : Hp}
theorem Stn.sub (s : Stn f a n I H) : Same I H := s.g.sub
theorem Stn.growT (s : Stn f a n I H) (g : Grow f.T I H I' H') (r : f.R n' I' H') : Stn f a n' I' H' :=
  ⟨s.g.trans g, r, a.up g.view s.γ, s.nd, fun c hc => let ⟨o, w, h⟩ := s.ω c hc; ⟨o, w.grow g, c.up g.view h⟩⟩
theorem Stn.grow (s : Stn f a n I H) (g : Grow No I H I' H') : Stn f a n I' H' := s.growT g.no ((f.st n).grow s.r g)
theorem Stn.rep {α : Type} [Rep α] {v : V} {x : α} (s : Stn f a n I H) (h : Rep.is I v x) : Stn f (a.rep v x) n I H := ⟨s.g, s.r, ⟨s.γ, h⟩, s.nd, s.ω⟩
theorem Stn.live (s : Stn f a n I H) {b : Addr} (t : f.T b) : H b ≠ none := s.g.live b (f.live b t)
theorem Stn.vt (s : Stn f a n I H) {b : Addr} (t : f.T b) : I b = none := s.g.fresh b (f.vt b t) (f.live b t)
theorem Stn.not (s : Stn f a n I H) {p : Addr} (h : H p = none) : ¬ f.T p := fun t => s.live t h
theorem Stn.nv (s : Stn f a n I H) {p : Addr} {o : HO} (h : I p = some o) : ¬ f.T p := fun t => by have := s.vt t; rw [h] at this; cases this
/-- a new own object -/
theorem Stn.new (s : Stn f a n I H) {c : Cell} {o : HO} (hp : H c.p = none) (h : c.φ I o) : Stn f (a.own c) n I (upd H c.p o) := by
  have g : Grow No I H I (upd H c.p o) := Grow.mine s.sub hp
  have s1 := s.grow g
  refine ⟨s1.g, s1.r, s1.γ, ?_, fun d hd => ?_⟩
  · show (c.p :: a.Ω.map (·.p)).Nodup
    refine List.nodup_cons.mpr ⟨fun z => ?_, s.nd⟩
    obtain ⟨d, hd, e⟩ := List.mem_map.mp z
    obtain ⟨o', w, _⟩ := s.ω d hd
    have := w.at_
    rw [e, hp] at this
    cases this
  · rcases List.mem_cons.mp hd with rfl | hd
    · refine ⟨o, ⟨s.not hp, ?_, s.sub.free hp, upd_same⟩, h⟩
      cases e : f.H0 d.p with
      | none => rfl
      | some u => exact absurd hp (s.g.live _ (by rw [e]; exact fun z => nomatch z))
    · exact s1.ω d hd
theorem pos_of_nodup {Ω : List Cell} {i j : Nat} {c d : Cell} (nd : (Ω.map (·.p)).Nodup) (hi : Ω[i]? = some c) (hj : Ω[j]? = some d) (e : c.p = d.p) : i = j := by
  have hl := (List.getElem?_eq_some_iff.mp hi).1
  exact (List.getElem?_inj (l := Ω.map (·.p)) (by rw [List.length_map]; exact hl) nd).mp (by rw [List.getElem?_map, List.getElem?_map, hi, hj]; exact congrArg some e)
/-- an own object is changed -/
theorem Stn.put (s : Stn f a n I H) {j : Nat} {c c' : Cell} {o : HO} (hc : a.Ω[j]? = some c) (ep : c'.p = c.p) (h : c'.φ I o) : Stn f (a.cells (a.Ω.set j c')) n I (upd H c.p o) := by
  obtain ⟨o0, w0, h0⟩ := s.ω c (List.mem_of_getElem? hc)
  refine ⟨s.g.put w0, (f.st n).put (c.nt h0) s.r w0, s.γ, ?_, fun d hd => ?_⟩
  · have e : (a.Ω.set j c').map (·.p) = a.Ω.map (·.p) := by
      rw [List.map_set, ep]
      refine List.ext_getElem? fun k => ?_
      rw [List.getElem?_set]
      split
      · rename_i z
        subst z
        split
        · rw [List.getElem?_map, hc] <;> rfl
        · rename_i z
          rw [List.getElem?_eq_none (by omega)]
      · rfl
    show ((a.Ω.set j c').map (·.p)).Nodup
    rw [e]
    exact s.nd
  · obtain ⟨k, hk⟩ := List.getElem?_of_mem hd
    have hk : (a.Ω.set j c')[k]? = some d := hk
    rw [List.getElem?_set] at hk
    by_cases z : j = k
    · subst z
      rw [if_pos rfl] at hk
      by_cases y : j < a.Ω.length
      · rw [if_pos y] at hk
        cases hk
        exact ⟨o, by rw [ep]; exact w0.put, h⟩
      · rw [if_neg y] at hk
        cases hk
    · rw [if_neg z] at hk
      obtain ⟨o', w', h'⟩ := s.ω d (List.mem_of_getElem? hk)
      refine ⟨o', w'.other fun e => z (pos_of_nodup s.nd hc hk e.symm), h'⟩
/-- an own object is given out -/
theorem Stn.give (s : Stn f a n I H) {j : Nat} {c : Cell} (hc : a.Ω[j]? = some c) : ∃ o, c.φ I o ∧ H c.p = some o ∧ I c.p = none ∧ Stn f (a.cells (a.Ω.eraseIdx j)) n (upd I c.p o) H := by
  obtain ⟨o, w, h⟩ := s.ω c (List.mem_of_getElem? hc)
  have e := Same.up (o := o) w.ni
  refine ⟨o, h, w.at_, w.ni, s.g.give w (c.nt h).1, (f.st n).give (c.nt h) s.r w, a.up e s.γ, ?_, fun d hd => ?_⟩
  · show ((a.Ω.eraseIdx j).map (·.p)).Nodup
    exact s.nd.sublist ((List.eraseIdx_sublist ..).map _)
  · have hd : d ∈ a.Ω.eraseIdx j := hd
    obtain ⟨k, hkj, hk⟩ := List.mem_eraseIdx_iff_getElem?.mp hd
    obtain ⟨o', w', h'⟩ := s.ω d (List.mem_of_getElem? hk)
    have ne : d.p ≠ c.p := fun z => hkj (pos_of_nodup s.nd hk hc z)
    exact ⟨o', ⟨w'.nt, w'.n0, by rw [upd_ne ne]; exact w'.ni, w'.at_⟩, d.up e h'⟩
/-- an own list -/
def lcell {α : Type} [Rep α] (p : Addr) (xs : List α) : Cell := ⟨p, fun I o => ∃ vs, o = .lst vs ∧ Paired (Rep.is I) vs xs, fun e ⟨vs, h1, h2⟩ => ⟨vs, h1, Paired.mono' (fun _ _ z => Rep.mono e z) h2⟩, fun ⟨_, h, _⟩ => ⟨fun ps z => (by subst h; cases z), fun ps z => (by subst h; cases z)⟩⟩
end
/-! ### what is read: a value of the view; a list that may be one's own -/
abbrev Rd := Hp → Hp → V → Prop
abbrev RdC (α : Type) := Hp → Hp → V → α → Prop
def rv {α : Type} [Rep α] : RdC α := fun I _ v x => Rep.is I v x
def rl (T : Addr → Prop) {α : Type} [Rep α] : RdC (List α) := fun I H v xs => ∃ p vs, v = .ref p ∧ H p = some (.lst vs) ∧ ¬ T p ∧ Paired (Rep.is I) vs xs
class KpR (T : Addr → Prop) {α : Type} (ρ : RdC α) : Prop where
  kp : ∀ {I H I' H' : Hp} {v : V} {x : α}, ρ I H v x → Grow T I H I' H' → ρ I' H' v x
instance {T : Addr → Prop} {α : Type} [Rep α] : KpR T (rv (α := α)) := ⟨fun h g => Rep.mono g.view h⟩
instance {T : Addr → Prop} {α : Type} [Rep α] : KpR T (rl T (α := α)) := ⟨fun ⟨p, vs, h1, h2, h3, h4⟩ g => ⟨p, vs, h1, g.keep _ _ h3 h2, h3, Paired.mono' (fun _ _ z => Rep.mono g.view z) h4⟩⟩
section
variable {f : Fr} {a : Amb} {α β γ : Type} {σ : L2.St} {te ta tb tc : TE} {tt t u : TT} {x : α} {y : β} {z : γ} {v w : V} {K : PySem.W.Frag}
def EvP (f : Fr) (a : Amb) {α : Type} (ρ : RdC α) (te : TE) (σ : L2.St) (x : α) : Prop := ∀ n I H, Stn f a n I H → ∀ Q : VK, (∀ v I' H', Grow No I H I' H' → ρ I' H' v x → Q v H') → te σ H Q
def EvB (f : Fr) (a : Amb) (tt : TT) (σ : L2.St) (b : Bool) : Prop := ∀ n I H, Stn f a n I H → ∀ Q : Bool → Hp → Prop, (∀ I' H', Grow No I H I' H' → Q b H') → tt σ H Q
theorem EvP.cast {ρ : RdC α} {x' : α} (h : EvP f a ρ te σ x) (e : x = x') : EvP f a ρ te σ x' := e ▸ h
theorem EvB.cast {b b' : Bool} (h : EvB f a tt σ b) (e : b = b') : EvB f a tt σ b' := e ▸ h
theorem ep_var [Rep α] {i : Nat} (h : σ[i]? = some (some v)) (r : ∀ I, a.Γ I → Rep.is I v x) : EvP f a rv (tVar i) σ x := fun n I H s Q k => ⟨v, h, k v I H (Grow.refl s.sub) (r I s.γ)⟩
theorem ep_c [Rep α] (h : ∀ I, Rep.is I v x) : EvP f a rv (tC v) σ x := fun n I H s Q k => k v I H (Grow.refl s.sub) (h I)
theorem ep_own [Rep α] {i j : Nat} {p : Addr} {xs : List α} (h : σ[i]? = some (some (.ref p))) (hc : a.Ω[j]? = some (lcell p xs)) : EvP f a (rl f.T) (tVar i) σ xs := fun n I H s Q k => by
  obtain ⟨o, w, vs, rfl, hp⟩ := s.ω _ (List.mem_of_getElem? hc)
  exact ⟨_, h, k _ I H (Grow.refl s.sub) ⟨p, vs, rfl, w.at_, w.nt, hp⟩⟩
/-- a list of the view may be read as any list -/
theorem EvP.rl [Rep α] {xs : List α} (h : EvP f a rv te σ xs) : EvP f a (rl f.T) te σ xs := fun n I H s Q k => h n I H s Q fun v I' H' g r => by
  obtain ⟨p, vs, rfl, hp, hv⟩ := r
  exact k _ I' H' g ⟨p, vs, rfl, g.sub _ _ hp, (s.grow g).nv hp, hv⟩
/-! operators -/
def OpS (r : R2) (ρ1 : RdC α) (ρ2 : RdC β) (ρ3 : RdC γ) (x : α) (y : β) (z : γ) : Prop := ∀ I H v w, Same I H → ρ1 I H v x → ρ2 I H w y → ∀ Q : VK, (∀ u I' H', Grow No I H I' H' → ρ3 I' H' u z → Q u H') → r v w H Q
theorem ep_op {r : R2} {ρ1 : RdC α} {ρ2 : RdC β} {ρ3 : RdC γ} [KpR f.T ρ1] (hr : OpS r ρ1 ρ2 ρ3 x y z) (ha : EvP f a ρ1 ta σ x) (hb : EvP f a ρ2 tb σ y) : EvP f a ρ3 (tOp r ta tb) σ z := fun n I H s Q k =>
  ha n I H s _ fun v I1 H1 g1 r1 => hb n I1 H1 (s.grow g1) _ fun w I2 H2 g2 r2 => hr I2 H2 v w (s.grow (g1.trans g2)).sub (KpR.kp (T := f.T) r1 g2.no) r2 Q fun u I3 H3 g3 r3 => k u I3 H3 ((g1.trans g2).trans g3) r3
theorem os_I0 [Rep γ] {g : Int → Int → V} {i j : Int} (h : ∀ I, Rep.is I (g i j) z) : OpS (rI0 g) rv rv rv i j z := fun I H v w sb h1 h2 Q k => ⟨i, j, h1, h2, k _ I H (Grow.refl sb) (h I)⟩
theorem os_I [Rep γ] {C : Int → Int → Prop} {g : Int → Int → V} {i j : Int} (hc : C i j) (h : ∀ I, Rep.is I (g i j) z) : OpS (rI C g) rv rv rv i j z := fun I H v w sb h1 h2 Q k => ⟨i, j, h1, h2, hc, k _ I H (Grow.refl sb) (h I)⟩
/-- values that are compared as they stand -/
class Flt (α : Type) extends Rep α where
  v : α → V
  of : ∀ {I : Hp} {w : V} {x : α}, Rep.is I w x → w = v x
  inj : ∀ {x y : α}, v x = v y → x = y
  sc : ∀ x y : α, scal (v x) (v y) = true
  flat : ∀ x : α, flatV (v x) = true
  eqv : ∀ x y : α, eqV (v x) (v y) = true ↔ x = y
instance : Flt Int := ⟨V.int, fun h => h, fun h => V.int.inj h, fun _ _ => rfl, fun _ => rfl, fun x y => by show (x == y) = true ↔ _; exact beq_iff_eq⟩
instance : Flt Bool := ⟨V.bl, fun h => h, fun h => V.bl.inj h, fun _ _ => rfl, fun _ => rfl, fun x y => by show (x == y) = true ↔ _; exact beq_iff_eq⟩
theorem os_eq' [Flt α] [DecidableEq α] {x y : α} : OpS rEq rv rv rv x y (decide (x = y)) := fun I H v w sb h1 h2 Q k => by
  rw [show v = Flt.v x from Flt.of h1, show w = Flt.v y from Flt.of h2]
  refine ⟨Flt.sc x y, ?_⟩
  have e : decide (Flt.v x = Flt.v y) = decide (x = y) := by
    by_cases z : x = y
    · rw [decide_eq_true z, decide_eq_true (by rw [z])]
    · rw [decide_eq_false z, decide_eq_false fun q => z (Flt.inj q)]
  rw [e]
  exact k _ I H (Grow.refl sb) rfl
theorem os_ne' [Flt α] [DecidableEq α] {x y : α} : OpS rNe rv rv rv x y (!decide (x = y)) := fun I H v w sb h1 h2 Q k => by
  rw [show v = Flt.v x from Flt.of h1, show w = Flt.v y from Flt.of h2]
  refine ⟨Flt.sc x y, ?_⟩
  have e : decide (Flt.v x = Flt.v y) = decide (x = y) := by
    by_cases z : x = y
    · rw [decide_eq_true z, decide_eq_true (by rw [z])]
    · rw [decide_eq_false z, decide_eq_false fun q => z (Flt.inj q)]
  rw [e]
  exact k _ I H (Grow.refl sb) rfl
end
end Nw

namespace Nw
open PySem PySem.Spec PyProof.Rows L2
/-! ### kinds of values -/
/-- a text, as its signs; a letter -/
structure Tx where
  l : List Nat
  deriving DecidableEq, Inhabited
structure Sg where
  c : Nat
  deriving DecidableEq, Inhabited
abbrev tx (l : List Nat) : Tx := ⟨l⟩
abbrev sgn (c : Nat) : Sg := ⟨c⟩
abbrev sgL (l : List Nat) : List Sg := l.map Sg.mk
theorem Tx.ext {x y : Tx} (h : x.l = y.l) : x = y := by cases x; cases y; cases h; rfl
theorem Sg.ext {x y : Sg} (h : x.c = y.c) : x = y := by cases x; cases y; cases h; rfl
instance : Rep Tx := ⟨fun _ v x => v = .str (mk x.l) ∧ x.l.length ≤ 100000, fun _ h => h⟩
instance : Rep Sg := ⟨fun _ v x => v = .str (sg x.c), fun _ h => h⟩
instance : Flt Sg := ⟨fun x => V.str (sg x.c), fun h => h, fun h => Sg.ext (List.cons.inj (mk_inj (a := [_]) (b := [_]) (V.str.inj h))).1, fun _ _ => rfl, fun _ => rfl, fun x y => by
  show (sg x.c == sg y.c) = true ↔ x = y
  rw [beq_iff_eq]
  exact ⟨fun h => Sg.ext (List.cons.inj (mk_inj (a := [x.c]) (b := [y.c]) h)).1, fun h => by rw [h]⟩⟩
instance : Flt Tx := ⟨fun x => V.str (mk x.l), fun {I w x} (h : w = V.str (mk x.l) ∧ _) => h.1, fun h => Tx.ext (mk_inj (V.str.inj h)), fun _ _ => rfl, fun _ => rfl, fun x y => by
  show (mk x.l == mk y.l) = true ↔ x = y
  rw [beq_iff_eq]
  exact ⟨fun h => Tx.ext (mk_inj h), fun h => by rw [h]⟩⟩
structure T3 (α β γ : Type) where
  a : α
  b : β
  c : γ
  deriving DecidableEq, Inhabited
structure T4 (α β γ δ : Type) where
  a : α
  b : β
  c : γ
  d : δ
  deriving DecidableEq, Inhabited
instance {α β γ : Type} [Rep α] [Rep β] [Rep γ] : Rep (T3 α β γ) := ⟨fun I v x => ∃ p v1 v2 v3, v = .ref p ∧ I p = some (.tup [v1, v2, v3]) ∧ Rep.is I v1 x.a ∧ Rep.is I v2 x.b ∧ Rep.is I v3 x.c,
  fun e ⟨p, v1, v2, v3, h1, h2, h3, h4, h5⟩ => ⟨p, v1, v2, v3, h1, e _ _ h2, Rep.mono e h3, Rep.mono e h4, Rep.mono e h5⟩⟩
instance {α β γ δ : Type} [Rep α] [Rep β] [Rep γ] [Rep δ] : Rep (T4 α β γ δ) := ⟨fun I v x => ∃ p v1 v2 v3 v4, v = .ref p ∧ I p = some (.tup [v1, v2, v3, v4]) ∧ Rep.is I v1 x.a ∧ Rep.is I v2 x.b ∧ Rep.is I v3 x.c ∧ Rep.is I v4 x.d,
  fun e ⟨p, v1, v2, v3, v4, h1, h2, h3, h4, h5, h6⟩ => ⟨p, v1, v2, v3, v4, h1, e _ _ h2, Rep.mono e h3, Rep.mono e h4, Rep.mono e h5, Rep.mono e h6⟩⟩
/-- None or something -/
instance {α : Type} [Rep α] : Rep (Option α) := ⟨fun I v x => match x with
  | none => v = .non
  | some y => v ≠ .non ∧ Rep.is I v y, fun {H H' v x} e h => by
    cases x with
    | none => exact h
    | some y => exact ⟨h.1, Rep.mono e h.2⟩⟩
section
variable {f : Fr} {a : Amb} {α β γ δ : Type} {σ : L2.St} {te ta tb tc : TE} {tt t u : TT} {x : α} {y : β} {z : γ} {v w : V} {K : PySem.W.Frag}
theorem ep_sg {x : Sg} (h : EvP f a rv te σ x) : EvP f a rv te σ (tx [x.c]) := fun n I H s Q k => h n I H s Q fun v I' H' g r => k v I' H' g ⟨r, by show 1 ≤ 100000; decide⟩
theorem ep_tx {l : List Nat} (h : l.length ≤ 100000) : EvP f a rv (tC (.str (mk l))) σ (tx l) := ep_c fun _ => ⟨rfl, h⟩
theorem ep_txc {s : Str} {l : List Nat} (e : s = mk l) (h : l.length ≤ 100000) : EvP f a rv (tC (.str s)) σ (tx l) := e ▸ ep_tx h
theorem ep_sgc {s : Str} {c : Nat} (e : s = sg c) : EvP f a rv (tC (.str s)) σ (sgn c) := by subst e; exact ep_c fun _ => rfl
theorem ep_int {i : Int} : EvP f a rv (tC (.int i)) σ i := ep_c fun _ => rfl
theorem ep_bl {b : Bool} : EvP f a rv (tC (.bl b)) σ b := ep_c fun _ => rfl
theorem ep_non : EvP f a rv (tC .non) σ () := ep_c fun _ => rfl
theorem ep_some [Rep α] (h : EvP f a rv te σ x) (nn : ∀ (I : Hp) (v : V), Rep.is I v x → v ≠ .non) : EvP f a rv te σ (some x) := fun n I H s Q k => h n I H s Q fun v I' H' g r => k v I' H' g ⟨nn I' v r, r⟩
theorem ep_none [Rep α] : EvP f a rv (tC .non) σ (none : Option α) := ep_c fun _ => rfl
theorem os_isN [Rep α] {x : Option α} : OpS (fun x y H Q => y = .non ∧ Q (.bl (decide (x = .non))) H) rv rv rv x () (x.isNone) := fun I H v w sb h1 h2 Q k => by
  refine ⟨h2, ?_⟩
  cases x with
  | none => rw [show v = .non from h1, decide_eq_true rfl]; exact k _ I H (Grow.refl sb) rfl
  | some y => rw [decide_eq_false h1.1]; exact k _ I H (Grow.refl sb) rfl
theorem os_notN [Rep α] {x : Option α} : OpS (fun x y H Q => y = .non ∧ Q (.bl (!decide (x = .non))) H) rv rv rv x () (x.isSome) := fun I H v w sb h1 h2 Q k => by
  refine ⟨h2, ?_⟩
  cases x with
  | none => rw [show v = .non from h1, decide_eq_true rfl]; exact k _ I H (Grow.refl sb) rfl
  | some y => rw [decide_eq_false h1.1]; exact k _ I H (Grow.refl sb) rfl
theorem os_addT {x y : Tx} (h : x.l.length + y.l.length ≤ 100000) : OpS (fun x y H Q => ∃ i j, x = .str i ∧ y = .str j ∧ i.length + j.length ≤ sizeLine ∧ Q (.str (i ++ j)) H) rv rv rv x y (tx (x.l ++ y.l)) := fun I H v w sb h1 h2 Q k => by
  obtain ⟨rfl, _⟩ := h1
  obtain ⟨rfl, _⟩ := h2
  refine ⟨_, _, rfl, rfl, by rw [mk_len, mk_len, sizeLine_eq]; omega, ?_⟩
  rw [mk_app]
  exact k _ I H (Grow.refl sb) ⟨rfl, by rw [List.length_append]; exact h⟩
theorem os_inS {x : Sg} {y : Tx} : OpS (fun x y H Q => ∃ (c : Nat) (z : Str), x = .str ⟨#[c]⟩ ∧ y = .str z ∧ Q (.bl (decide (c ∈ z.cps.toList))) H) rv rv rv x y (decide (x.c ∈ y.l)) := fun I H v w sb h1 h2 Q k => by
  obtain ⟨rfl, _⟩ := h2
  refine ⟨_, _, h1, rfl, ?_⟩
  rw [mk_cps]
  exact k _ I H (Grow.refl sb) rfl
theorem os_notInS {x : Sg} {y : Tx} : OpS (fun x y H Q => ∃ (c : Nat) (z : Str), x = .str ⟨#[c]⟩ ∧ y = .str z ∧ Q (.bl (!decide (c ∈ z.cps.toList))) H) rv rv rv x y (!decide (x.c ∈ y.l)) := fun I H v w sb h1 h2 Q k => by
  obtain ⟨rfl, _⟩ := h2
  refine ⟨_, _, h1, rfl, ?_⟩
  rw [mk_cps]
  exact k _ I H (Grow.refl sb) rfl
/-! ### lists -/
theorem Paired.app {F : α → β → Prop} : ∀ {xs : List α} {ys : List β} {xs' : List α} {ys' : List β}, Paired F xs ys → Paired F xs' ys' → Paired F (xs ++ xs') (ys ++ ys')
  | _, _, _, _, .nil, h => h
  | _, _, _, _, .cons a t, h => .cons a (Paired.app t h)
theorem Paired.drop {F : α → β → Prop} : ∀ (n : Nat) {xs : List α} {ys : List β}, Paired F xs ys → Paired F (xs.drop n) (ys.drop n)
  | 0, _, _, h => h
  | n + 1, _, _, .nil => by rw [List.drop_nil, List.drop_nil]; exact .nil
  | n + 1, _, _, .cons _ t => Paired.drop n t
theorem Paired.take {F : α → β → Prop} : ∀ (n : Nat) {xs : List α} {ys : List β}, Paired F xs ys → Paired F (xs.take n) (ys.take n)
  | 0, _, _, _ => .nil
  | n + 1, _, _, .nil => by rw [List.take_nil, List.take_nil]; exact .nil
  | n + 1, _, _, .cons a t => .cons a (Paired.take n t)
theorem Paired.rev {F : α → β → Prop} : ∀ {xs : List α} {ys : List β}, Paired F xs ys → Paired F xs.reverse ys.reverse
  | _, _, .nil => .nil
  | _, _, .cons a t => by
    rw [List.reverse_cons, List.reverse_cons]
    exact Paired.snoc (Paired.rev t) a
theorem Paired.inV [Flt α] [DecidableEq α] {I : Hp} {x : α} : ∀ {vs : List V} {xs : List α}, Paired (Rep.is I) vs xs → (vs.all flatV = true ∧ L2.inV (Flt.v x) vs = decide (x ∈ xs))
  | _, _, .nil => ⟨rfl, rfl⟩
  | _, _, .cons (b := y) h t => by
    obtain ⟨h1, h2⟩ := Paired.inV (x := x) t
    rw [show _ = Flt.v y from Flt.of h]
    refine ⟨by rw [List.all_cons, h1, Flt.flat] <;> rfl, ?_⟩
    unfold L2.inV at h2 ⊢
    rw [List.any_cons, h2]
    rw [Bool.eq_iff_iff, Bool.or_eq_true, Flt.eqv, decide_eq_true_iff, decide_eq_true_iff, List.mem_cons]
    exact ⟨fun q => q.imp Eq.symm id, fun q => q.imp Eq.symm id⟩
def cutL (xs : List α) (lo hi : Option Int) : List α := (xs.drop (HT.sIx xs.length 0 lo)).take (HT.sIx xs.length xs.length hi - HT.sIx xs.length 0 lo)
theorem Paired.cut {F : α → β → Prop} {xs : List α} {ys : List β} (h : Paired F xs ys) (lo hi : Option Int) : Paired F (cutL xs lo hi) (cutL ys lo hi) := by
  unfold cutL
  rw [Nw.Paired.len h]
  exact Paired.take _ (Paired.drop _ h)
theorem cutS_mk (l : List Nat) (lo hi : Option Int) : cutS (mk l) lo hi = mk (cutL l lo hi) := by
  unfold cutS cutL
  rw [mk_cps, mk_len]
  rfl
theorem cutL_len (xs : List α) (lo hi : Option Int) : (cutL xs lo hi).length ≤ xs.length := by
  unfold cutL
  rw [List.length_take, List.length_drop]
  omega
theorem mem_cutL {xs : List α} {lo hi : Option Int} {x : α} (h : x ∈ cutL xs lo hi) : x ∈ xs := List.mem_of_mem_drop (List.mem_of_mem_take h)
/-- xs[i], some value where there is none -/
def gt [Inhabited α] (xs : List α) (i : Int) : α := (atI xs i).getD default
def inR (xs : List α) (i : Int) : Prop := -(xs.length : Int) ≤ i ∧ i < xs.length
instance {xs : List α} {i : Int} : Decidable (inR xs i) := inferInstanceAs (Decidable (_ ∧ _))
theorem gt_at [Inhabited α] {xs : List α} {i : Int} (h : inR xs i) : atI xs i = some (gt xs i) := by
  unfold gt
  cases e : atI xs i with
  | some y => rfl
  | none =>
    exfalso
    obtain ⟨h1, h2⟩ := h
    unfold atI ixN at e
    by_cases h0 : 0 ≤ i
    · rw [if_pos h0, if_pos h2] at e
      have : i.toNat < xs.length := by omega
      simp [this] at e
    · rw [if_neg h0, if_pos h1] at e
      have : (i + xs.length).toNat < xs.length := by omega
      simp [this] at e
theorem gt_mem [Inhabited α] {xs : List α} {i : Int} (h : inR xs i) : gt xs i ∈ xs := by
  obtain ⟨j, _, h2, _⟩ := atI_get (gt_at h)
  exact List.mem_of_getElem? h2
theorem Paired.atI {F : α → β → Prop} {xs : List α} {ys : List β} (h : Paired F xs ys) {i : Int} {y : β} (e : L2.atI ys i = some y) : ∃ x, L2.atI xs i = some x ∧ F x y := by
  unfold L2.atI at e ⊢
  rw [Nw.Paired.len h]
  cases q : ixN ys.length i with
  | none => rw [q] at e; cases e
  | some j =>
    rw [q] at e
    exact Nw.Paired.at h (i := j) e
theorem os_ixL {T : Addr → Prop} [Rep α] [Inhabited α] {xs : List α} {i : Int} (h : inR xs i) : OpS (rIxL K) (rl T) rv rv xs i (gt xs i) := fun I H v w sb h1 h2 Q k => by
  obtain ⟨p, vs, rfl, hp, _, hv⟩ := h1
  obtain ⟨u, hu, hr⟩ := Paired.atI hv (gt_at h)
  exact ⟨p, vs, i, u, rfl, h2, SqL.of hp, hu, k u I H (Grow.refl sb) hr⟩
theorem os_ixU [Rep α] [Inhabited α] {xs : Tup α} {i : Int} (h : inR xs.l i) : OpS (rIxT K) rv rv rv xs i (gt xs.l i) := fun I H v w sb h1 h2 Q k => by
  obtain ⟨p, vs, rfl, hp, hv⟩ := h1
  obtain ⟨u, hu, hr⟩ := Paired.atI hv (gt_at h)
  exact ⟨p, vs, i, u, rfl, h2, SqT.of (sb _ _ hp), hu, k u I H (Grow.refl sb) hr⟩
theorem os_ixS {x : Tx} {i : Int} (h : inR x.l i) : OpS rIxS rv rv rv x i (sgn (gt x.l i)) := fun I H v w sb h1 h2 Q k => by
  obtain ⟨rfl, hl⟩ := h1
  exact ⟨_, i, _, rfl, h2, by rw [mk_len, sizeLine_eq]; omega, by rw [mk_cps]; exact gt_at h, k _ I H (Grow.refl sb) rfl⟩
theorem os_ix20 [Rep α] [Rep β] {x : α × β} : OpS (rIxT K) rv rv rv x (0 : Int) x.1 := fun I H v w sb h1 h2 Q k => by
  obtain ⟨p, v1, v2, rfl, hp, h3, h4⟩ := h1
  exact ⟨p, _, 0, v1, rfl, h2, SqT.of (sb _ _ hp), rfl, k _ I H (Grow.refl sb) h3⟩
theorem os_ix21 [Rep α] [Rep β] {x : α × β} : OpS (rIxT K) rv rv rv x (1 : Int) x.2 := fun I H v w sb h1 h2 Q k => by
  obtain ⟨p, v1, v2, rfl, hp, h3, h4⟩ := h1
  exact ⟨p, _, 1, v2, rfl, h2, SqT.of (sb _ _ hp), rfl, k _ I H (Grow.refl sb) h4⟩
theorem os_ix30 [Rep α] [Rep β] [Rep γ] {x : T3 α β γ} : OpS (rIxT K) rv rv rv x (0 : Int) x.a := fun I H v w sb h1 h2 Q k => by
  obtain ⟨p, v1, v2, v3, rfl, hp, h3, h4, h5⟩ := h1
  exact ⟨p, _, 0, v1, rfl, h2, SqT.of (sb _ _ hp), rfl, k _ I H (Grow.refl sb) h3⟩
theorem os_ix31 [Rep α] [Rep β] [Rep γ] {x : T3 α β γ} : OpS (rIxT K) rv rv rv x (1 : Int) x.b := fun I H v w sb h1 h2 Q k => by
  obtain ⟨p, v1, v2, v3, rfl, hp, h3, h4, h5⟩ := h1
  exact ⟨p, _, 1, v2, rfl, h2, SqT.of (sb _ _ hp), rfl, k _ I H (Grow.refl sb) h4⟩
theorem os_ix32 [Rep α] [Rep β] [Rep γ] {x : T3 α β γ} : OpS (rIxT K) rv rv rv x (2 : Int) x.c := fun I H v w sb h1 h2 Q k => by
  obtain ⟨p, v1, v2, v3, rfl, hp, h3, h4, h5⟩ := h1
  exact ⟨p, _, 2, v3, rfl, h2, SqT.of (sb _ _ hp), rfl, k _ I H (Grow.refl sb) h5⟩
theorem os_ix40 [Rep α] [Rep β] [Rep γ] [Rep δ] {x : T4 α β γ δ} : OpS (rIxT K) rv rv rv x (0 : Int) x.a := fun I H v w sb h1 h2 Q k => by
  obtain ⟨p, v1, v2, v3, v4, rfl, hp, h3, h4, h5, h6⟩ := h1
  exact ⟨p, _, 0, v1, rfl, h2, SqT.of (sb _ _ hp), rfl, k _ I H (Grow.refl sb) h3⟩
theorem os_ix41 [Rep α] [Rep β] [Rep γ] [Rep δ] {x : T4 α β γ δ} : OpS (rIxT K) rv rv rv x (1 : Int) x.b := fun I H v w sb h1 h2 Q k => by
  obtain ⟨p, v1, v2, v3, v4, rfl, hp, h3, h4, h5, h6⟩ := h1
  exact ⟨p, _, 1, v2, rfl, h2, SqT.of (sb _ _ hp), rfl, k _ I H (Grow.refl sb) h4⟩
theorem os_ix42 [Rep α] [Rep β] [Rep γ] [Rep δ] {x : T4 α β γ δ} : OpS (rIxT K) rv rv rv x (2 : Int) x.c := fun I H v w sb h1 h2 Q k => by
  obtain ⟨p, v1, v2, v3, v4, rfl, hp, h3, h4, h5, h6⟩ := h1
  exact ⟨p, _, 2, v3, rfl, h2, SqT.of (sb _ _ hp), rfl, k _ I H (Grow.refl sb) h5⟩
theorem os_ix43 [Rep α] [Rep β] [Rep γ] [Rep δ] {x : T4 α β γ δ} : OpS (rIxT K) rv rv rv x (3 : Int) x.d := fun I H v w sb h1 h2 Q k => by
  obtain ⟨p, v1, v2, v3, v4, rfl, hp, h3, h4, h5, h6⟩ := h1
  exact ⟨p, _, 3, v4, rfl, h2, SqT.of (sb _ _ hp), rfl, k _ I H (Grow.refl sb) h6⟩
theorem os_cat {T : Addr → Prop} [Rep α] {xs ys : List α} (h : xs.length + ys.length ≤ 16777216) : OpS rCat (rl T) (rl T) rv xs ys (xs ++ ys) := fun I H v w sb h1 h2 Q k => by
  obtain ⟨p, vs, rfl, hp, _, hv⟩ := h1
  obtain ⟨q, ws, rfl, hq, _, hw⟩ := h2
  refine ⟨p, q, vs, ws, rfl, rfl, hp, hq, by rw [Nw.Paired.len hv, Nw.Paired.len hw, sizeLine_eq]; exact h, fun r hr => ?_⟩
  have g : Grow No I H (upd I r (.lst (vs ++ ws))) (upd H r (.lst (vs ++ ws))) := Grow.new sb hr
  exact k _ _ _ g ⟨r, _, rfl, upd_same, Paired.mono' (fun _ _ z => Rep.mono g.view z) (Paired.app hv hw)⟩
theorem os_inL {T : Addr → Prop} [Flt α] [DecidableEq α] {x : α} {ys : List α} : OpS (rIn K false) rv (rl T) rv x ys (decide (x ∈ ys)) := fun I H v w sb h1 h2 Q k => by
  obtain ⟨q, ws, rfl, hq, _, hw⟩ := h2
  obtain ⟨e1, e2⟩ := Paired.inV (x := x) hw
  rw [show v = Flt.v x from Flt.of h1]
  refine ⟨q, ws, rfl, .inl (SqL.of hq), Flt.flat x, e1, ?_⟩
  show Q (.bl (L2.inV _ _)) H
  rw [e2]
  exact k _ I H (Grow.refl sb) rfl
theorem os_notInL {T : Addr → Prop} [Flt α] [DecidableEq α] {x : α} {ys : List α} : OpS (rIn K true) rv (rl T) rv x ys (!decide (x ∈ ys)) := fun I H v w sb h1 h2 Q k => by
  obtain ⟨q, ws, rfl, hq, _, hw⟩ := h2
  obtain ⟨e1, e2⟩ := Paired.inV (x := x) hw
  rw [show v = Flt.v x from Flt.of h1]
  refine ⟨q, ws, rfl, .inl (SqL.of hq), Flt.flat x, e1, ?_⟩
  show Q (.bl (!L2.inV _ _)) H
  rw [e2]
  exact k _ I H (Grow.refl sb) rfl
theorem os_inU [Flt α] [DecidableEq α] {x : α} {ys : Tup α} : OpS (rIn K false) rv rv rv x ys (decide (x ∈ ys.l)) := fun I H v w sb h1 h2 Q k => by
  obtain ⟨q, ws, rfl, hq, hw⟩ := h2
  obtain ⟨e1, e2⟩ := Paired.inV (x := x) hw
  rw [show v = Flt.v x from Flt.of h1]
  refine ⟨q, ws, rfl, .inr (SqT.of (sb _ _ hq)), Flt.flat x, e1, ?_⟩
  show Q (.bl (L2.inV _ _)) H
  rw [e2]
  exact k _ I H (Grow.refl sb) rfl
theorem os_notInU [Flt α] [DecidableEq α] {x : α} {ys : Tup α} : OpS (rIn K true) rv rv rv x ys (!decide (x ∈ ys.l)) := fun I H v w sb h1 h2 Q k => by
  obtain ⟨q, ws, rfl, hq, hw⟩ := h2
  obtain ⟨e1, e2⟩ := Paired.inV (x := x) hw
  rw [show v = Flt.v x from Flt.of h1]
  refine ⟨q, ws, rfl, .inr (SqT.of (sb _ _ hq)), Flt.flat x, e1, ?_⟩
  show Q (.bl (!L2.inV _ _)) H
  rw [e2]
  exact k _ I H (Grow.refl sb) rfl
theorem pair_empty {F : α → β → Prop} {xs : List α} {ys : List β} (h : Paired F xs ys) : xs.isEmpty = ys.isEmpty := by cases h <;> rfl
/-- xs == [] -/
theorem os_nilE {T : Addr → Prop} [Rep α] {xs : List α} {ys : List α} (e : ys = []) : OpS (rNilE K) (rl T) (rl T) rv xs ys xs.isEmpty := fun I H v w sb h1 h2 Q k => by
  obtain ⟨p, vs, rfl, hp, _, hv⟩ := h1
  obtain ⟨q, ws, rfl, hq, _, hw⟩ := h2
  subst e
  cases hw
  refine ⟨p, q, vs, rfl, rfl, SqL.of hp, SqL.of hq, ?_⟩
  rw [pair_empty hv]
  exact k _ I H (Grow.refl sb) rfl
theorem os_nilN {T : Addr → Prop} [Rep α] {xs : List α} {ys : List α} (e : ys = []) : OpS (rNilN K) (rl T) (rl T) rv xs ys (!xs.isEmpty) := fun I H v w sb h1 h2 Q k => by
  obtain ⟨p, vs, rfl, hp, _, hv⟩ := h1
  obtain ⟨q, ws, rfl, hq, _, hw⟩ := h2
  subst e
  cases hw
  refine ⟨p, q, vs, rfl, rfl, SqL.of hp, SqL.of hq, ?_⟩
  rw [pair_empty hv]
  exact k _ I H (Grow.refl sb) rfl
/-! ### tests, and, or, if -/
theorem eb_test (h : EvP f a rv te σ (b : Bool)) : EvB f a (tTest te) σ b := fun n I H s Q k => h n I H s _ fun v I' H' g r => ⟨b, r, k I' H' g⟩
theorem eb_val (h : EvP f a rv te σ (b : Bool)) : EvB f a (tB te) σ b := fun n I H s Q k => h n I H s _ fun v I' H' g r => ⟨b, r, k I' H' g⟩
theorem eb_yes : EvB f a tYes σ true := fun n I H s Q k => k I H (Grow.refl s.sub)
theorem eb_and {b c : Bool} (h : EvB f a t σ b) (h2 : b = true → EvB f a u σ c) : EvB f a (tAnd t u) σ (b && c) := fun n I H s Q k => h n I H s _ fun I' H' g => by
  cases b with
  | false => rw [if_neg Bool.false_ne_true]; exact k I' H' g
  | true => rw [if_pos rfl]; exact h2 rfl n I' H' (s.grow g) Q fun I2 H2 g2 => k I2 H2 (g.trans g2)
theorem eb_or {b c : Bool} (h : EvB f a t σ b) (h2 : b = false → EvB f a u σ c) : EvB f a (tOr t u) σ (b || c) := fun n I H s Q k => h n I H s _ fun I' H' g => by
  cases b with
  | true => rw [if_pos rfl]; exact k I' H' g
  | false => rw [if_neg Bool.false_ne_true]; exact h2 rfl n I' H' (s.grow g) Q fun I2 H2 g2 => k I2 H2 (g.trans g2)
theorem eb_not {b : Bool} (h : EvB f a t σ b) : EvB f a (tNot t) σ (!b) := fun n I H s Q k => h n I H s _ fun I' H' g => k I' H' g
theorem ep_and {b c : Bool} (h : EvP f a rv ta σ b) (h2 : b = true → EvP f a rv tb σ c) : EvP f a rv (tAndV ta tb) σ (b && c) := fun n I H s Q k => h n I H s _ fun v I' H' g r => by
  refine ⟨b, r, ?_⟩
  cases b with
  | false => rw [if_neg Bool.false_ne_true]; exact k _ I' H' g rfl
  | true => rw [if_pos rfl]; exact h2 rfl n I' H' (s.grow g) Q fun u I2 H2 g2 r2 => k u I2 H2 (g.trans g2) r2
theorem ep_or {b c : Bool} (h : EvP f a rv ta σ b) (h2 : b = false → EvP f a rv tb σ c) : EvP f a rv (tOrV ta tb) σ (b || c) := fun n I H s Q k => h n I H s _ fun v I' H' g r => by
  refine ⟨b, r, ?_⟩
  cases b with
  | true => rw [if_pos rfl]; exact k _ I' H' g rfl
  | false => rw [if_neg Bool.false_ne_true]; exact h2 rfl n I' H' (s.grow g) Q fun u I2 H2 g2 r2 => k u I2 H2 (g.trans g2) r2
theorem ep_not {b : Bool} (h : EvP f a rv ta σ b) : EvP f a rv (tNotV ta) σ (!b) := fun n I H s Q k => h n I H s _ fun v I' H' g r => ⟨b, r, k _ I' H' g rfl⟩
theorem ep_if {ρ : RdC α} {b : Bool} {x y : α} (h : EvB f a t σ b) (ha : b = true → EvP f a ρ ta σ x) (hb : b = false → EvP f a ρ tb σ y) : EvP f a ρ (tIf t ta tb) σ (if b = true then x else y) := fun n I H s Q k => h n I H s _ fun I' H' g => by
  cases b with
  | true => rw [if_pos rfl] at k ⊢; exact ha rfl n I' H' (s.grow g) Q fun u I2 H2 g2 r2 => k u I2 H2 (g.trans g2) r2
  | false => rw [if_neg Bool.false_ne_true] at k ⊢; exact hb rfl n I' H' (s.grow g) Q fun u I2 H2 g2 r2 => k u I2 H2 (g.trans g2) r2
theorem ep_un {r : V → Hp → VK → Prop} {ρ : RdC α} {ρ2 : RdC β} (h : EvP f a ρ te σ x) (hr : ∀ I H v, Same I H → ρ I H v x → ∀ Q : VK, (∀ u I' H', Grow No I H I' H' → ρ2 I' H' u y → Q u H') → r v H Q) : EvP f a ρ2 (tUn r te) σ y := fun n I H s Q k =>
  h n I H s _ fun v I' H' g q => hr I' H' v (s.grow g).sub q Q fun u I2 H2 g2 q2 => k u I2 H2 (g.trans g2) q2
theorem ep_neg {i : Int} (h : EvP f a rv te σ i) : EvP f a rv (tUn (rU fun i => .int (-i)) te) σ (-i) := ep_un h fun I H v sb h1 Q k => ⟨i, h1, k _ I H (Grow.refl sb) rfl⟩
/-- a < b < c -/
theorem ep_chain {r r' : R2} {ρ1 : RdC α} {ρ2 : RdC β} {ρ3 : RdC γ} [KpR f.T ρ1] [KpR f.T ρ2] {b c : Bool} (hr : OpS r ρ1 ρ2 rv x y b) (hr' : OpS r' ρ2 ρ3 rv y z c) (ha : EvP f a ρ1 ta σ x) (hb : EvP f a ρ2 tb σ y) (hc : b = true → EvP f a ρ3 tc σ z) : EvP f a rv (tChain r r' ta tb tc) σ (b && c) := fun n I H s Q k =>
  ha n I H s _ fun v I1 H1 g1 r1 => hb n I1 H1 (s.grow g1) _ fun w I2 H2 g2 r2 => hr I2 H2 v w (s.grow (g1.trans g2)).sub (KpR.kp (T := f.T) r1 g2.no) r2 _ fun u I3 H3 g3 r3 => by
    have G := (g1.trans g2).trans g3
    refine ⟨b, r3, ?_⟩
    cases b with
    | false => rw [if_neg Bool.false_ne_true]; exact k _ I3 H3 G rfl
    | true =>
      rw [if_pos rfl]
      exact hc rfl n I3 H3 (s.grow G) _ fun u4 I4 H4 g4 r4 => hr' I4 H4 w u4 (s.grow (G.trans g4)).sub (KpR.kp (T := f.T) r2 (g3.trans g4).no) r4 Q fun u5 I5 H5 g5 r5 => k u5 I5 H5 ((G.trans g4).trans g5) r5
/-! ### arguments, displays, calls -/
class RepA (α : Type) where
  is : Hp → List V → α → Prop
  mono : ∀ {H H' : Hp} {vs : List V} {x : α}, Same H H' → is H vs x → is H' vs x
instance : RepA Unit := ⟨fun _ vs _ => vs = [], fun _ h => h⟩
instance [Rep α] [RepA β] : RepA (α × β) := ⟨fun I vs x => ∃ v r, vs = v :: r ∧ Rep.is I v x.1 ∧ RepA.is I r x.2, fun e ⟨v, r, h1, h2, h3⟩ => ⟨v, r, h1, Rep.mono e h2, RepA.mono e h3⟩⟩
def EvA [RepA α] (f : Fr) (a : Amb) (ta : TA) (σ : L2.St) (x : α) : Prop := ∀ n I H, Stn f a n I H → ∀ Q : List V → Hp → Prop, (∀ vs I' H', Grow No I H I' H' → RepA.is I' vs x → Q vs H') → ta σ H Q
theorem ea_nil : EvA f a tNil σ () := fun n I H s Q k => k [] I H (Grow.refl s.sub) rfl
theorem ea_cons [Rep α] [RepA β] {ar : TA} (h : EvP f a rv te σ x) (t : EvA f a ar σ y) : EvA f a (tCons te ar) σ (x, y) := fun n I H s Q k =>
  h n I H s _ fun v I1 H1 g1 r1 => t n I1 H1 (s.grow g1) _ fun vs I2 H2 g2 r2 => k (v :: vs) I2 H2 (g1.trans g2) ⟨v, vs, rfl, Rep.mono g2.view r1, r2⟩
theorem ep_tup2 [Rep α] [Rep β] {ar : TA} (h : EvA f a ar σ (x, y, ())) : EvP f a rv (tTup ar) σ (x, y) := fun n I H s Q k => h n I H s _ fun vs I1 H1 g1 r1 => by
  obtain ⟨v1, _, rfl, h1, v2, _, rfl, h2, rfl⟩ := r1
  refine ⟨by show 2 ≤ sizeLine; decide, fun p hp => ?_⟩
  have g : Grow No I1 H1 (upd I1 p (.tup [v1, v2])) (upd H1 p (.tup [v1, v2])) := Grow.new (s.grow g1).sub hp
  exact k _ _ _ (g1.trans g) ⟨p, v1, v2, rfl, upd_same, Rep.mono g.view h1, Rep.mono g.view h2⟩
theorem ep_tup3 [Rep α] [Rep β] [Rep γ] {ar : TA} (h : EvA f a ar σ (x, y, z, ())) : EvP f a rv (tTup ar) σ (⟨x, y, z⟩ : T3 α β γ) := fun n I H s Q k => h n I H s _ fun vs I1 H1 g1 r1 => by
  obtain ⟨v1, _, rfl, h1, v2, _, rfl, h2, v3, _, rfl, h3, rfl⟩ := r1
  refine ⟨by show 3 ≤ sizeLine; decide, fun p hp => ?_⟩
  have g : Grow No I1 H1 (upd I1 p (.tup [v1, v2, v3])) (upd H1 p (.tup [v1, v2, v3])) := Grow.new (s.grow g1).sub hp
  exact k _ _ _ (g1.trans g) ⟨p, v1, v2, v3, rfl, upd_same, Rep.mono g.view h1, Rep.mono g.view h2, Rep.mono g.view h3⟩
theorem ep_tup4 [Rep α] [Rep β] [Rep γ] [Rep δ] {w : δ} {ar : TA} (h : EvA f a ar σ (x, y, z, w, ())) : EvP f a rv (tTup ar) σ (⟨x, y, z, w⟩ : T4 α β γ δ) := fun n I H s Q k => h n I H s _ fun vs I1 H1 g1 r1 => by
  obtain ⟨v1, _, rfl, h1, v2, _, rfl, h2, v3, _, rfl, h3, v4, _, rfl, h4, rfl⟩ := r1
  refine ⟨by show 4 ≤ sizeLine; decide, fun p hp => ?_⟩
  have g : Grow No I1 H1 (upd I1 p (.tup [v1, v2, v3, v4])) (upd H1 p (.tup [v1, v2, v3, v4])) := Grow.new (s.grow g1).sub hp
  exact k _ _ _ (g1.trans g) ⟨p, v1, v2, v3, v4, rfl, upd_same, Rep.mono g.view h1, Rep.mono g.view h2, Rep.mono g.view h3, Rep.mono g.view h4⟩
def EvL [Rep α] (f : Fr) (a : Amb) (ta : TA) (σ : L2.St) (xs : List α) : Prop := ∀ n I H, Stn f a n I H → ∀ Q : List V → Hp → Prop, (∀ vs I' H', Grow No I H I' H' → Paired (Rep.is I') vs xs → Q vs H') → ta σ H Q
theorem el_nil [Rep α] : EvL f a tNil σ ([] : List α) := fun n I H s Q k => k [] I H (Grow.refl s.sub) .nil
theorem el_cons [Rep α] {ar : TA} {xs : List α} (h : EvP f a rv te σ x) (t : EvL f a ar σ xs) : EvL f a (tCons te ar) σ (x :: xs) := fun n I H s Q k =>
  h n I H s _ fun v I1 H1 g1 r1 => t n I1 H1 (s.grow g1) _ fun vs I2 H2 g2 r2 => k (v :: vs) I2 H2 (g1.trans g2) (.cons (Rep.mono g2.view r1) r2)
theorem ep_lst [Rep α] {ar : TA} {xs : List α} (h : EvL f a ar σ xs) (hl : xs.length ≤ 16777216) : EvP f a rv (tLst ar) σ xs := fun n I H s Q k => h n I H s _ fun vs I1 H1 g1 r1 => by
  refine ⟨by rw [Nw.Paired.len r1, sizeLine_eq]; exact hl, fun p hp => ?_⟩
  have g : Grow No I1 H1 (upd I1 p (.lst vs)) (upd H1 p (.lst vs)) := Grow.new (s.grow g1).sub hp
  exact k _ _ _ (g1.trans g) ⟨p, vs, rfl, upd_same, Paired.mono' (fun _ _ z => Rep.mono g.view z) r1⟩
theorem ep_tupn [Rep α] {ar : TA} {xs : List α} (h : EvL f a ar σ xs) (hl : xs.length ≤ 16777216) : EvP f a rv (tTup ar) σ (⟨xs⟩ : Tup α) := fun n I H s Q k => h n I H s _ fun vs I1 H1 g1 r1 => by
  refine ⟨by rw [Nw.Paired.len r1, sizeLine_eq]; exact hl, fun p hp => ?_⟩
  have g : Grow No I1 H1 (upd I1 p (.tup vs)) (upd H1 p (.tup vs)) := Grow.new (s.grow g1).sub hp
  exact k _ _ _ (g1.trans g) ⟨p, vs, rfl, upd_same, Paired.mono' (fun _ _ z => Rep.mono g.view z) r1⟩
/-- the promise of a def that only computes -/
def spP [RepA α] [Rep β] (F : α → Option β) : Sp := fun vs H Q _ => ∃ (I : Hp) (x : α) (y : β), RepA.is I vs x ∧ Same I H ∧ F x = some y ∧ ∀ v I' H', Grow No I H I' H' → Rep.is I' v y → Q v H'
theorem ep_callS [RepA α] [Rep β] {sp : Sp} {ar : TA} (hs : ∀ I H vs Q, Same I H → RepA.is I vs x → (∀ v I' H', Grow No I H I' H' → Rep.is I' v y → Q v H') → sp vs H Q E0) (h : EvA f a ar σ x) : EvP f a rv (tCall sp [] E0 ar) σ y := fun n I H s Q k =>
  h n I H s _ fun vs I1 H1 g1 r1 => by
    show sp (vs ++ []) H1 Q E0
    rw [List.append_nil]
    exact hs I1 H1 vs Q (s.grow g1).sub r1 fun v I2 H2 g2 r2 => k v I2 H2 (g1.trans g2) r2
theorem ep_call [RepA α] [Rep β] {F : α → Option β} {ar : TA} (h : EvA f a ar σ x) (e : F x = some y) : EvP f a rv (tCall (spP F) [] E0 ar) σ y := ep_callS (fun I H vs Q sb r k => ⟨I, x, y, r, sb, e, k⟩) h
/-- a built-in function of one value -/
def C1 (r : List V → Hp → VK → Prop) (ρ1 : RdC α) (ρ2 : RdC β) (x : α) (y : β) : Prop := ∀ I H v, Same I H → ρ1 I H v x → ∀ Q : VK, (∀ u I' H', Grow No I H I' H' → ρ2 I' H' u y → Q u H') → r [v] H Q
theorem ep_b1 {r : List V → Hp → VK → Prop} {ρ1 : RdC α} {ρ2 : RdC β} (hr : C1 r ρ1 ρ2 x y) (h : EvP f a ρ1 te σ x) : EvP f a ρ2 (tCB r (tCons te tNil)) σ y := fun n I H s Q k =>
  h n I H s _ fun v I1 H1 g1 r1 => hr I1 H1 v (s.grow g1).sub r1 Q fun u I2 H2 g2 r2 => k u I2 H2 (g1.trans g2) r2
def C2 (r : List V → Hp → VK → Prop) (ρ1 : RdC α) (ρ2 : RdC β) (ρ3 : RdC γ) (x : α) (y : β) (z : γ) : Prop := ∀ I H v w, Same I H → ρ1 I H v x → ρ2 I H w y → ∀ Q : VK, (∀ u I' H', Grow No I H I' H' → ρ3 I' H' u z → Q u H') → r [v, w] H Q
theorem ep_b2 {r : List V → Hp → VK → Prop} {ρ1 : RdC α} {ρ2 : RdC β} {ρ3 : RdC γ} [KpR f.T ρ1] (hr : C2 r ρ1 ρ2 ρ3 x y z) (ha : EvP f a ρ1 ta σ x) (hb : EvP f a ρ2 tb σ y) : EvP f a ρ3 (tCB r (tCons ta (tCons tb tNil))) σ z := fun n I H s Q k =>
  ha n I H s _ fun v I1 H1 g1 r1 => hb n I1 H1 (s.grow g1) _ fun w I2 H2 g2 r2 => hr I2 H2 v w (s.grow (g1.trans g2)).sub (KpR.kp (T := f.T) r1 g2.no) r2 Q fun u I3 H3 g3 r3 => k u I3 H3 ((g1.trans g2).trans g3) r3
theorem c_lenL {T : Addr → Prop} [Rep α] {xs : List α} : C1 (fun xs H Q => ∃ p ys, xs = [.ref p] ∧ (SqL K H p ys ∨ SqT K H p ys) ∧ Q (.int ys.length) H) (rl T) rv xs (xs.length : Int) := fun I H v sb h Q k => by
  obtain ⟨p, vs, rfl, hp, _, hv⟩ := h
  exact ⟨p, vs, rfl, .inl (SqL.of hp), k _ I H (Grow.refl sb) (by rw [Nw.Paired.len hv]; rfl)⟩
theorem c_lenU [Rep α] {xs : Tup α} : C1 (fun xs H Q => ∃ p ys, xs = [.ref p] ∧ (SqL K H p ys ∨ SqT K H p ys) ∧ Q (.int ys.length) H) rv rv xs (xs.l.length : Int) := fun I H v sb h Q k => by
  obtain ⟨p, vs, rfl, hp, hv⟩ := h
  exact ⟨p, vs, rfl, .inr (SqT.of (sb _ _ hp)), k _ I H (Grow.refl sb) (by rw [Nw.Paired.len hv]; rfl)⟩
theorem c_lenS {x : Tx} : C1 (fun xs H Q => ∃ z, xs = [.str z] ∧ z.length ≤ sizeLine ∧ Q (.int z.length) H) rv rv x (x.l.length : Int) := fun I H v sb h Q k => by
  obtain ⟨rfl, hl⟩ := h
  exact ⟨_, rfl, by rw [mk_len, sizeLine_eq]; omega, k _ I H (Grow.refl sb) (by rw [mk_len]; rfl)⟩
theorem c_abs {i : Int} : C1 (fun xs H Q => ∃ i, xs = [.int i] ∧ Q (.int (if i < 0 then -i else i)) H) rv rv i (if i < 0 then -i else i) := fun I H v sb h Q k => ⟨i, by rw [show v = _ from h], k _ I H (Grow.refl sb) rfl⟩
theorem c_int {i : Int} : C1 (fun xs H Q => (∃ i, xs = [.int i] ∧ Q (.int i) H) ∨ ∃ k, xs = [.bl k] ∧ Q (.int (if k then 1 else 0)) H) rv rv i i := fun I H v sb h Q k => .inl ⟨i, by rw [show v = _ from h], k _ I H (Grow.refl sb) rfl⟩
theorem c_intB {b : Bool} : C1 (fun xs H Q => (∃ i, xs = [.int i] ∧ Q (.int i) H) ∨ ∃ k, xs = [.bl k] ∧ Q (.int (if k then 1 else 0)) H) rv rv b ((if b then 1 else 0 : Int)) := fun I H v sb h Q k => .inr ⟨b, by rw [show v = _ from h], k _ I H (Grow.refl sb) rfl⟩
theorem c_min2 {i j : Int} : C2 (fun xs H Q => ∃ i j, xs = [.int i, .int j] ∧ Q (.int (if j < i then j else i)) H) rv rv rv i j (min i j) := fun I H v w sb h1 h2 Q k => ⟨i, j, by rw [show v = _ from h1, show w = _ from h2], k _ I H (Grow.refl sb) (by show V.int _ = V.int _; congr 1; omega)⟩
theorem c_max2 {i j : Int} : C2 (fun xs H Q => ∃ i j, xs = [.int i, .int j] ∧ Q (.int (if j > i then j else i)) H) rv rv rv i j (max i j) := fun I H v w sb h1 h2 Q k => ⟨i, j, by rw [show v = _ from h1, show w = _ from h2], k _ I H (Grow.refl sb) (by show V.int _ = V.int _; congr 1; omega)⟩
theorem c_all {T : Addr → Prop} {bs : List Bool} : C1 (rAll K) (rl T) rv bs (bs.all id) := fun I H v sb h Q k => by
  obtain ⟨p, vs, rfl, hp, _, hv⟩ := h
  cases Paired.bls hv
  exact ⟨p, bs, rfl, SqL.of hp, k _ I H (Grow.refl sb) rfl⟩
theorem c_any {T : Addr → Prop} {bs : List Bool} : C1 (rAny K) (rl T) rv bs (bs.any id) := fun I H v sb h Q k => by
  obtain ⟨p, vs, rfl, hp, _, hv⟩ := h
  cases Paired.bls hv
  exact ⟨p, bs, rfl, SqL.of hp, k _ I H (Grow.refl sb) rfl⟩
theorem c_sum {T : Addr → Prop} {ns : List Int} : C1 (rSum K) (rl T) rv ns ns.sum := fun I H v sb h Q k => by
  obtain ⟨p, vs, rfl, hp, _, hv⟩ := h
  cases Paired.ints hv
  exact ⟨p, ns, rfl, SqL.of hp, k _ I H (Grow.refl sb) rfl⟩
def maxI : List Int → Int
  | [] => 0
  | [x] => x
  | x :: xs => max x (maxI xs)
def minI : List Int → Int
  | [] => 0
  | [x] => x
  | x :: xs => min x (minI xs)
theorem maxI_ok : ∀ {l : List Int}, l ≠ [] → maxI l ∈ l ∧ ∀ y ∈ l, y ≤ maxI l
  | [], h => absurd rfl h
  | [x], _ => ⟨List.mem_cons_self .., fun y hy => by rw [List.mem_singleton.mp hy]; exact Int.le_refl _⟩
  | x :: y :: l, _ => by
    obtain ⟨h1, h2⟩ := maxI_ok (l := y :: l) (fun z => nomatch z)
    show max x (maxI (y :: l)) ∈ _ ∧ ∀ u ∈ _, u ≤ max x (maxI (y :: l))
    refine ⟨?_, fun u hu => ?_⟩
    · rcases Int.le_total x (maxI (y :: l)) with z | z
      · rw [Int.max_eq_right z]; exact List.mem_cons_of_mem _ h1
      · rw [Int.max_eq_left z]; exact List.mem_cons_self ..
    · rcases List.mem_cons.mp hu with rfl | hu
      · exact Int.le_max_left ..
      · exact Int.le_trans (h2 u hu) (Int.le_max_right ..)
theorem minI_ok : ∀ {l : List Int}, l ≠ [] → minI l ∈ l ∧ ∀ y ∈ l, minI l ≤ y
  | [], h => absurd rfl h
  | [x], _ => ⟨List.mem_cons_self .., fun y hy => by rw [List.mem_singleton.mp hy]; exact Int.le_refl _⟩
  | x :: y :: l, _ => by
    obtain ⟨h1, h2⟩ := minI_ok (l := y :: l) (fun z => nomatch z)
    show min x (minI (y :: l)) ∈ _ ∧ ∀ u ∈ _, min x (minI (y :: l)) ≤ u
    refine ⟨?_, fun u hu => ?_⟩
    · rcases Int.le_total x (minI (y :: l)) with z | z
      · rw [Int.min_eq_left z]; exact List.mem_cons_self ..
      · rw [Int.min_eq_right z]; exact List.mem_cons_of_mem _ h1
    · rcases List.mem_cons.mp hu with rfl | hu
      · exact Int.min_le_left ..
      · exact Int.le_trans (Int.min_le_right ..) (h2 u hu)
theorem c_maxL {T : Addr → Prop} {ns : List Int} (h0 : ns ≠ []) : C1 (rMax K) (rl T) rv ns (maxI ns) := fun I H v sb h Q k => by
  obtain ⟨p, vs, rfl, hp, _, hv⟩ := h
  cases Paired.ints hv
  refine ⟨p, ns, rfl, SqL.of hp, List.length_pos_iff.mpr h0, fun m hm hx => ?_⟩
  have h1 := maxI_ok h0
  have e : m = maxI ns := Int.le_antisymm (h1.2 m hm) (hx _ h1.1)
  rw [e]
  exact k _ I H (Grow.refl sb) rfl
theorem c_minL {T : Addr → Prop} {ns : List Int} (h0 : ns ≠ []) : C1 (rMin K) (rl T) rv ns (minI ns) := fun I H v sb h Q k => by
  obtain ⟨p, vs, rfl, hp, _, hv⟩ := h
  cases Paired.ints hv
  refine ⟨p, ns, rfl, SqL.of hp, List.length_pos_iff.mpr h0, fun m hm hx => ?_⟩
  have h1 := minI_ok h0
  have e : m = minI ns := Int.le_antisymm (hx _ h1.1) (h1.2 m hm)
  rw [e]
  exact k _ I H (Grow.refl sb) rfl
/-- sorted ints -/
def insI (x : Int) : List Int → List Int
  | [] => [x]
  | y :: l => if x ≤ y then x :: y :: l else y :: insI x l
def srtI : List Int → List Int
  | [] => []
  | x :: l => insI x (srtI l)
theorem insI_perm (x : Int) : ∀ l, (insI x l).Perm (x :: l)
  | [] => List.Perm.refl _
  | y :: l => by
    unfold insI
    split
    · exact List.Perm.refl _
    · exact ((insI_perm x l).cons y).trans (List.Perm.swap ..)
theorem srtI_perm : ∀ l, (srtI l).Perm l
  | [] => List.Perm.refl _
  | x :: l => (insI_perm x _).trans ((srtI_perm l).cons x)
theorem insI_asc (x : Int) : ∀ l : List Int, l.Pairwise (· ≤ ·) → (insI x l).Pairwise (· ≤ ·)
  | [], _ => List.pairwise_singleton ..
  | y :: l, h => by
    obtain ⟨h1, h2⟩ := List.pairwise_cons.mp h
    unfold insI
    split
    · rename_i z
      refine List.pairwise_cons.mpr ⟨fun u hu => ?_, h⟩
      rcases List.mem_cons.mp hu with rfl | hu
      · exact z
      · exact Int.le_trans z (h1 u hu)
    · rename_i z
      refine List.pairwise_cons.mpr ⟨fun u hu => ?_, insI_asc x l h2⟩
      rcases List.mem_cons.mp ((insI_perm x l).mem_iff.mp hu) with rfl | hu
      · omega
      · exact h1 u hu
theorem srtI_asc : ∀ l : List Int, (srtI l).Pairwise (· ≤ ·)
  | [] => .nil
  | x :: l => insI_asc x _ (srtI_asc l)
theorem asc_uniq : ∀ {l m : List Int}, l.Perm m → l.Pairwise (· ≤ ·) → m.Pairwise (· ≤ ·) → l = m
  | [], m, p, _, _ => by rw [List.nil_perm.mp p]
  | x :: l, [], p, _, _ => by have := p.length_eq; simp at this
  | x :: l, y :: m, p, h1, h2 => by
    obtain ⟨a1, a2⟩ := List.pairwise_cons.mp h1
    obtain ⟨b1, b2⟩ := List.pairwise_cons.mp h2
    have e : x = y := by
      have k1 : x ∈ y :: m := p.mem_iff.mp (List.mem_cons_self ..)
      have k2 : y ∈ x :: l := p.mem_iff.mpr (List.mem_cons_self ..)
      rcases List.mem_cons.mp k1 with z | z
      · exact z
      · rcases List.mem_cons.mp k2 with q | q
        · exact q.symm
        · exact Int.le_antisymm (a1 y q) (b1 x z)
    subst e
    rw [asc_uniq (p.cons_inv) a2 b2]
theorem c_sortedI {T : Addr → Prop} {ns : List Int} : C1 (rSortedI K) (rl T) rv ns (srtI ns) := fun I H v sb h Q k => by
  obtain ⟨p, vs, rfl, hp, _, hv⟩ := h
  cases Paired.ints hv
  refine ⟨p, ns, rfl, SqL.of hp, fun ns' q hpm ha hq => ?_⟩
  have e : ns' = srtI ns := asc_uniq (hpm.trans (srtI_perm ns).symm) ha (srtI_asc ns)
  subst e
  have g : Grow No I H (upd I q (.lst ((srtI ns).map V.int))) (upd H q (.lst ((srtI ns).map V.int))) := Grow.new sb hq
  refine k _ _ _ g ⟨q, _, rfl, upd_same, ?_⟩
  have : ∀ l : List Int, Paired (Rep.is (upd I q (.lst ((srtI ns).map V.int)))) (l.map V.int) l := fun l => by
    induction l with
    | nil => exact .nil
    | cons x l ih => exact .cons rfl ih
  exact this _
theorem c_listL {T : Addr → Prop} [Rep α] {xs : List α} : C1 (fun xs H Q => ∃ p ys, xs = [.ref p] ∧ (SqL K H p ys ∨ SqT K H p ys) ∧ ∀ l, H l = none → Q (.ref l) (upd H l (.lst ys))) (rl T) rv xs xs := fun I H v sb h Q k => by
  obtain ⟨p, vs, rfl, hp, _, hv⟩ := h
  refine ⟨p, vs, rfl, .inl (SqL.of hp), fun l hl => ?_⟩
  have g : Grow No I H (upd I l (.lst vs)) (upd H l (.lst vs)) := Grow.new sb hl
  exact k _ _ _ g ⟨l, vs, rfl, upd_same, Paired.mono' (fun _ _ z => Rep.mono g.view z) hv⟩
theorem c_listU [Rep α] {xs : Tup α} : C1 (fun xs H Q => ∃ p ys, xs = [.ref p] ∧ (SqL K H p ys ∨ SqT K H p ys) ∧ ∀ l, H l = none → Q (.ref l) (upd H l (.lst ys))) rv rv xs xs.l := fun I H v sb h Q k => by
  obtain ⟨p, vs, rfl, hp, hv⟩ := h
  refine ⟨p, vs, rfl, .inr (SqT.of (sb _ _ hp)), fun l hl => ?_⟩
  have g : Grow No I H (upd I l (.lst vs)) (upd H l (.lst vs)) := Grow.new sb hl
  exact k _ _ _ g ⟨l, vs, rfl, upd_same, Paired.mono' (fun _ _ z => Rep.mono g.view z) hv⟩
theorem c_listS {x : Tx} : C1 (fun xs H Q => ∃ l : List Nat, xs = [.str (mk l)] ∧ l.length ≤ 16777216 ∧ ∀ p, H p = none → Q (.ref p) (upd H p (.lst (l.map fun c => V.str (sg c))))) rv rv x (sgL x.l) := fun I H v sb h Q k => by
  obtain ⟨rfl, hl⟩ := h
  refine ⟨x.l, rfl, by omega, fun p hp => ?_⟩
  have g : Grow No I H (upd I p (.lst (x.l.map fun c => V.str (sg c)))) (upd H p (.lst (x.l.map fun c => V.str (sg c)))) := Grow.new sb hp
  refine k _ _ _ g ⟨p, _, rfl, upd_same, ?_⟩
  have : ∀ l : List Nat, Paired (Rep.is (α := Sg) (upd I p (.lst (x.l.map fun c => V.str (sg c))))) (l.map fun c => V.str (sg c)) (sgL l) := fun l => by
    induction l with
    | nil => exact .nil
    | cons c l ih => exact .cons rfl ih
  exact this _
theorem c_tupL {T : Addr → Prop} [Rep α] {xs : List α} : C1 (fun xs H Q => ∃ p ys, xs = [.ref p] ∧ ((SqL K H p ys ∧ ∀ l, H l = none → Q (.ref l) (upd H l (.tup ys))) ∨ (SqT K H p ys ∧ Q (.ref p) H))) (rl T) rv xs (⟨xs⟩ : Tup α) := fun I H v sb h Q k => by
  obtain ⟨p, vs, rfl, hp, _, hv⟩ := h
  refine ⟨p, vs, rfl, .inl ⟨SqL.of hp, fun l hl => ?_⟩⟩
  have g : Grow No I H (upd I l (.tup vs)) (upd H l (.tup vs)) := Grow.new sb hl
  exact k _ _ _ g ⟨l, vs, rfl, upd_same, Paired.mono' (fun _ _ z => Rep.mono g.view z) hv⟩
/-! ### slices -/
def EvO (f : Fr) (a : Amb) (to : TO) (σ : L2.St) (o : Option Int) : Prop := ∀ n I H, Stn f a n I H → ∀ Q : Option Int → Hp → Prop, (∀ I' H', Grow No I H I' H' → Q o H') → to σ H Q
theorem eo_none : EvO f a tNoPart σ none := fun n I H s Q k => k I H (Grow.refl s.sub)
theorem eo_some {i : Int} (h : EvP f a rv te σ i) : EvO f a (tPart te) σ (some i) := fun n I H s Q k => h n I H s _ fun v I' H' g r => ⟨i, r, k I' H' g⟩
theorem ep_slL [Rep α] {xs : List α} {tl th : TO} {lo hi : Option Int} (h : EvP f a (rl f.T) te σ xs) (hl : EvO f a tl σ lo) (hh : EvO f a th σ hi) : EvP f a rv (tSl (rSlL K) te tl th) σ (cutL xs lo hi) := fun n I H s Q k =>
  h n I H s _ fun v I1 H1 g1 r1 => hl n I1 H1 (s.grow g1) _ fun I2 H2 g2 => hh n I2 H2 (s.grow (g1.trans g2)) _ fun I3 H3 g3 => by
    obtain ⟨p, vs, rfl, hp, hv⟩ := (KpR.kp (T := f.T) r1 (g2.trans g3).no : rl f.T I3 H3 v xs)
    refine ⟨p, vs, rfl, SqL.of hp, fun q hq => ?_⟩
    have e : cutV vs lo hi = cutL vs lo hi := rfl
    rw [e]
    have g : Grow No I3 H3 (upd I3 q (.lst (cutL vs lo hi))) (upd H3 q (.lst (cutL vs lo hi))) := Grow.new (s.grow ((g1.trans g2).trans g3)).sub hq
    exact k _ _ _ (((g1.trans g2).trans g3).trans g) ⟨q, _, rfl, upd_same, Paired.mono' (fun _ _ z => Rep.mono g.view z) (Paired.cut hv.2 lo hi)⟩
theorem ep_slS {x : Tx} {tl th : TO} {lo hi : Option Int} (h : EvP f a rv te σ x) (hl : EvO f a tl σ lo) (hh : EvO f a th σ hi) : EvP f a rv (tSl rSlS te tl th) σ (tx (cutL x.l lo hi)) := fun n I H s Q k =>
  h n I H s _ fun v I1 H1 g1 r1 => hl n I1 H1 (s.grow g1) _ fun I2 H2 g2 => hh n I2 H2 (s.grow (g1.trans g2)) _ fun I3 H3 g3 => by
    obtain ⟨rfl, hz⟩ := r1
    refine ⟨mk x.l, rfl, by rw [mk_len, sizeLine_eq]; omega, ?_⟩
    rw [cutS_mk]
    exact k _ I3 H3 ((g1.trans g2).trans g3) ⟨rfl, Nat.le_trans (cutL_len ..) hz⟩
theorem ep_revS {x : Tx} (h : EvP f a rv te σ x) : EvP f a rv (tRevS te) σ (tx x.l.reverse) := fun n I H s Q k => h n I H s _ fun v I1 H1 g1 r1 => by
  obtain ⟨rfl, hz⟩ := r1
  exact ⟨x.l, rfl, by omega, k _ I1 H1 g1 ⟨rfl, by rw [List.length_reverse]; exact hz⟩⟩
/-! ### texts -/
theorem ep_upS {x : Sg} (h : EvP f a rv te σ x) (h7 : x.c < 128) : EvP f a rv (tM0 (fun x xs H Q => ∃ a, x = .str a ∧ xs = [] ∧ a.length ≤ 5592405 ∧ Q (.str (Txt.upper a)) H) te) σ (sgn (up1 x.c)) := fun n I H s Q k => h n I H s _ fun v I1 H1 g1 r1 => by
  cases (show v = .str (sg x.c) from r1)
  refine ⟨⟨_, rfl⟩, _, rfl, rfl, by show 1 ≤ 5592405; decide, ?_⟩
  rw [upper_sg h7]
  exact k _ I1 H1 g1 rfl
theorem ep_loS {x : Sg} (h : EvP f a rv te σ x) (h7 : x.c < 128) : EvP f a rv (tM0 (fun x xs H Q => ∃ a, x = .str a ∧ xs = [] ∧ a.length ≤ 5592405 ∧ Q (.str (Txt.lower a)) H) te) σ (sgn (lo1 x.c)) := fun n I H s Q k => h n I H s _ fun v I1 H1 g1 r1 => by
  cases (show v = .str (sg x.c) from r1)
  refine ⟨⟨_, rfl⟩, _, rfl, rfl, by show 1 ≤ 5592405; decide, ?_⟩
  rw [lower_sg h7]
  exact k _ I1 H1 g1 rfl
theorem ep_upT {x : Tx} (h : EvP f a rv te σ x) (h7 : ∀ c ∈ x.l, c < 128) : EvP f a rv (tM0 (fun x xs H Q => ∃ a, x = .str a ∧ xs = [] ∧ a.length ≤ 5592405 ∧ Q (.str (Txt.upper a)) H) te) σ (tx (x.l.map up1)) := fun n I H s Q k => h n I H s _ fun v I1 H1 g1 r1 => by
  obtain ⟨rfl, hz⟩ := r1
  refine ⟨⟨_, rfl⟩, _, rfl, rfl, by rw [mk_len]; omega, ?_⟩
  rw [upper_mk h7]
  exact k _ I1 H1 g1 ⟨rfl, by rw [List.length_map]; exact hz⟩
theorem lowerT {l : List Nat} (h : ∀ c ∈ l, c < 128) : Txt.lower (mk l) = mk (l.map lo1) := by
  rw [lower_ascii (by rw [mk_cps]; exact h)]
  simp [mk]
theorem ep_loT {x : Tx} (h : EvP f a rv te σ x) (h7 : ∀ c ∈ x.l, c < 128) : EvP f a rv (tM0 (fun x xs H Q => ∃ a, x = .str a ∧ xs = [] ∧ a.length ≤ 5592405 ∧ Q (.str (Txt.lower a)) H) te) σ (tx (x.l.map lo1)) := fun n I H s Q k => h n I H s _ fun v I1 H1 g1 r1 => by
  obtain ⟨rfl, hz⟩ := r1
  refine ⟨⟨_, rfl⟩, _, rfl, rfl, by rw [mk_len]; omega, ?_⟩
  rw [lowerT h7]
  exact k _ I1 H1 g1 ⟨rfl, by rw [List.length_map]; exact hz⟩
theorem Paired.sgs {I : Hp} : ∀ {vs : List V} {xs : List Sg}, Paired (Rep.is I) vs xs → vs = ((xs.map Sg.c).map sg).map V.str
  | _, _, .nil => rfl
  | _, _, .cons h t => by
    rw [Paired.sgs t, show _ = V.str (sg _) from h]
    rfl
/-- ''.join(letters) -/
theorem ep_joinS {xs : List Sg} {e : Tx} (he : e = ⟨[]⟩) (h0 : EvP f a rv ta σ e) (h : EvP f a (rl f.T) te σ xs) (hl : xs.length ≤ 100000) : EvP f a rv (tM1 (fun x xs H Q => ∃ a p, ∃ ys : List Str, x = .str a ∧ xs = [.ref p] ∧ (SqL K H p (ys.map V.str) ∨ SqT K H p (ys.map V.str)) ∧
      (ys.map (·.length)).sum + ys.length * a.length ≤ 16777216 ∧ Q (.str (Txt.join a ys)) H) ta te) σ (tx (xs.map Sg.c)) := fun n I H s Q k => h0 n I H s _ fun v0 I0 H0 g0 r0 => by
  obtain ⟨rfl, _⟩ := r0
  subst he
  refine ⟨⟨_, rfl⟩, h n I0 H0 (s.grow g0) _ fun v I1 H1 g1 r1 => ?_⟩
  obtain ⟨p, vs, rfl, hp, _, hv⟩ := r1
  cases Paired.sgs hv
  have hll : (xs.map Sg.c).length = xs.length := List.length_map ..
  refine ⟨mk [], p, (xs.map Sg.c).map sg, rfl, rfl, .inl (SqL.of hp), ?_, ?_⟩
  · have e1 : ∀ l : List Nat, ((l.map sg).map (·.length)).sum = l.length := fun l => by
      rw [List.map_map]
      exact sum_ones _
    have e2 := e1 (xs.map Sg.c)
    have e3 : (mk []).length = 0 := rfl
    rw [e2, e3, Nat.mul_zero]
    omega
  · rw [mk_nil, join_signs]
    exact k _ I1 H1 (g0.trans g1) ⟨rfl, by show (xs.map Sg.c).length ≤ 100000; omega⟩
def catT (xs : List Tx) : Tx := ⟨(xs.map Tx.l).flatten⟩
theorem join_txts : ∀ xs : List (List Nat), Txt.join ("" : Str) (xs.map mk) = mk xs.flatten := by
  intro cs
  unfold Txt.join
  rw [StrLaws.glued_eq_join]
  induction cs with
  | nil => rfl
  | cons c r ih =>
    cases r with
    | nil =>
      show mk c = mk (c ++ [])
      rw [List.append_nil]
    | cons d t =>
      show mk c ++ ("" : Str) ++ Str.join ("" : Str) ((d :: t).map mk) = mk (c ++ (d :: t).flatten)
      rw [ih]
      rw [← mk_nil, mk_app, mk_app, List.append_nil]
theorem Paired.txs {I : Hp} : ∀ {vs : List V} {xs : List Tx}, Paired (Rep.is I) vs xs → vs = ((xs.map Tx.l).map mk).map V.str
  | _, _, .nil => rfl
  | _, _, .cons h t => by
    rw [Paired.txs t, show _ = V.str (mk _) from h.1]
    rfl
theorem ep_joinT {xs : List Tx} {e : Tx} (he : e = ⟨[]⟩) (h0 : EvP f a rv ta σ e) (h : EvP f a (rl f.T) te σ xs) (hl : (catT xs).l.length ≤ 100000) : EvP f a rv (tM1 (fun x xs H Q => ∃ a p, ∃ ys : List Str, x = .str a ∧ xs = [.ref p] ∧ (SqL K H p (ys.map V.str) ∨ SqT K H p (ys.map V.str)) ∧
      (ys.map (·.length)).sum + ys.length * a.length ≤ 16777216 ∧ Q (.str (Txt.join a ys)) H) ta te) σ (catT xs) := fun n I H s Q k => h0 n I H s _ fun v0 I0 H0 g0 r0 => by
  obtain ⟨rfl, _⟩ := r0
  subst he
  refine ⟨⟨_, rfl⟩, h n I0 H0 (s.grow g0) _ fun v I1 H1 g1 r1 => ?_⟩
  obtain ⟨p, vs, rfl, hp, _, hv⟩ := r1
  cases Paired.txs hv
  have hl2 : (xs.map Tx.l).flatten.length ≤ 100000 := hl
  refine ⟨mk [], p, (xs.map Tx.l).map mk, rfl, rfl, .inl (SqL.of hp), ?_, ?_⟩
  · have e1 : ∀ l : List (List Nat), ((l.map mk).map (·.length)).sum = l.flatten.length := fun l => by
      rw [List.length_flatten, List.map_map]
      congr 1
    have e2 := e1 (xs.map Tx.l)
    have e3 : (mk []).length = 0 := rfl
    rw [e2, e3, Nat.mul_zero]
    omega
  · rw [mk_nil, join_txts]
    exact k _ I1 H1 (g0.trans g1) ⟨rfl, hl⟩
end
end Nw

namespace Nw
open PySem PySem.Spec PyProof.Rows L2
section
variable {f : Fr} {a : Amb} {α β γ δ : Type} {σ : L2.St} {te ta tb tc : TE} {tt t u : TT} {x : α} {y : β} {z : γ} {v w : V} {K : PySem.W.Frag} {wi : TI} {g : TG}
/-! ### what is walked -/
/-- the items, whatever is made meanwhile -/
def EvI [Rep α] (f : Fr) (a : Amb) (wi : TI) (σ : L2.St) (xs : List α) : Prop := ∀ n I H, Stn f a n I H → ∀ R : It → Hp → Prop, (∀ J I' H' G Y, Grow No I H I' H' → Walk J xs.length G Y → (∀ H2, Same I' H2 → G H2) →
  (∀ i I2 H2 v H3, i < xs.length → Same I' I2 → Same I2 H2 → Y i H2 v H3 → ∃ x I3, xs[i]? = some x ∧ Grow No I2 H2 I3 H3 ∧ Rep.is I3 v x) → R J H') → wi σ H R
theorem ei_list [Rep α] {xs : List α} (h : EvP f a rv te σ xs) : EvI f a (iList K te) σ xs := fun n I H s R k => h n I H s _ fun v I' H' g r => by
  obtain ⟨p, vs, rfl, hp, hv⟩ := r
  refine ⟨p, rfl, ⟨vs, SqL.of (g.sub _ _ hp)⟩, k _ I' H' (fun H => SqL K H p vs) (YAt vs) g (by rw [← Nw.Paired.len hv]; exact walk_list) (fun H2 e => SqL.of (e _ _ hp)) fun i I2 H2 v H3 hi e s2 y => ?_⟩
  obtain ⟨rfl, hx⟩ := y
  obtain ⟨x, h1, h2⟩ := Nw.Paired.at' hv hx
  exact ⟨x, I2, h1, Grow.refl s2, Rep.mono e h2⟩
theorem ei_tup [Rep α] {xs : Tup α} (h : EvP f a rv te σ xs) : EvI f a (iTup K te) σ xs.l := fun n I H s R k => h n I H s _ fun v I' H' g r => by
  obtain ⟨p, vs, rfl, hp, hv⟩ := r
  refine ⟨p, rfl, ⟨vs, SqT.of (g.sub _ _ hp)⟩, k _ I' H' (fun H => SqT K H p vs) (YAt vs) g (by rw [← Nw.Paired.len hv]; exact walk_tup) (fun H2 e => SqT.of (e _ _ hp)) fun i I2 H2 v H3 hi e s2 y => ?_⟩
  obtain ⟨rfl, hx⟩ := y
  obtain ⟨x, h1, h2⟩ := Nw.Paired.at' hv hx
  exact ⟨x, I2, h1, Grow.refl s2, Rep.mono e h2⟩
theorem ei_str {x : Tx} (h : EvP f a rv te σ x) : EvI f a (iStr te) σ (sgL x.l) := fun n I H s R k => h n I H s _ fun v I' H' g r => by
  obtain ⟨rfl, hl⟩ := r
  refine ⟨_, rfl, k _ I' H' (fun _ => True) (fun i H v H' => H' = H ∧ ∃ c, (mk x.l).cps[i]? = some c ∧ v = .str ⟨#[c]⟩) g ?_ (fun _ _ => trivial) fun i I2 H2 v H3 hi e s2 y => ?_⟩
  · have : (sgL x.l).length = (mk x.l).cps.size := by rw [List.length_map]; exact (mk_len x.l).symm
    rw [this]
    exact walk_str
  · obtain ⟨rfl, c, hc, rfl⟩ := y
    refine ⟨⟨c⟩, I2, ?_, Grow.refl s2, rfl⟩
    have hc' : x.l[i]? = some c := by simpa [mk] using hc
    rw [List.getElem?_map, hc']
    rfl
def rng (a b : Int) : List Int := (List.range (b - a).toNat).map fun i : Nat => a + i
theorem rng_len (a b : Int) : (rng a b).length = (b - a).toNat := by unfold rng; rw [List.length_map, List.length_range]
theorem rng_at {a b : Int} {i : Nat} {x : Int} (h : (rng a b)[i]? = some x) : x = a + i ∧ (i : Int) < b - a := by
  have hl := (List.getElem?_eq_some_iff.mp h).1
  rw [rng_len] at hl
  unfold rng at h
  rw [List.getElem?_map, List.getElem?_range hl] at h
  exact ⟨(Option.some.inj h).symm, by omega⟩
theorem mem_rng {a b x : Int} : x ∈ rng a b ↔ a ≤ x ∧ x < b := by
  unfold rng
  rw [List.mem_map]
  constructor
  · rintro ⟨i, hi, rfl⟩
    have := List.mem_range.mp hi
    omega
  · rintro ⟨h1, h2⟩
    exact ⟨(x - a).toNat, List.mem_range.mpr (by omega), by omega⟩
theorem ei_rng1 {j : Int} (h : EvP f a rv te σ j) (h1 : -(2 ^ 62) ≤ j ∧ j < 2 ^ 62) : EvI f a (iRng1 (tCons te tNil)) σ (rng 0 j) := fun n I H s R k => h n I H s _ fun v I' H' g r => by
  cases (show v = .int j from r)
  refine ⟨j, rfl, h1.1, h1.2, k _ I' H' (fun _ => True) (YFn fun i => .int (0 + i)) g (by rw [rng_len, Int.sub_zero]; exact walk_range) (fun _ _ => trivial) fun i I2 H2 v H3 hi e s2 y => ?_⟩
  obtain ⟨rfl, rfl⟩ := y
  refine ⟨_, I2, List.getElem?_eq_getElem hi, Grow.refl s2, ?_⟩
  show V.int _ = V.int _
  congr 1
  exact (rng_at (List.getElem?_eq_getElem hi)).1.symm
theorem ei_rng2 {i j : Int} (h : EvP f a rv ta σ i) (h' : EvP f a rv tb σ j) (h1 : -(2 ^ 62) ≤ i ∧ i < 2 ^ 62 ∧ -(2 ^ 62) ≤ j ∧ j < 2 ^ 62) : EvI f a (iRng2 (tCons ta (tCons tb tNil))) σ (rng i j) := fun n I H s R k => h n I H s _ fun v I1 H1 g1 r1 => h' n I1 H1 (s.grow g1) _ fun w I' H' g2 r2 => by
  cases (show v = .int i from r1)
  cases (show w = .int j from r2)
  refine ⟨i, j, rfl, h1, k _ I' H' (fun _ => True) (YFn fun m => .int (i + m)) (g1.trans g2) (by rw [rng_len]; exact walk_range) (fun _ _ => trivial) fun m I2 H2 v H3 hi e s2 y => ?_⟩
  obtain ⟨rfl, rfl⟩ := y
  refine ⟨_, I2, List.getElem?_eq_getElem hi, Grow.refl s2, ?_⟩
  show V.int _ = V.int _
  congr 1
  exact (rng_at (List.getElem?_eq_getElem hi)).1.symm
/-- enumerate(list) -/
def enumL (xs : List α) : List (Int × α) := xs.zipIdx.map fun p => ((p.2 : Int), p.1)
theorem enum_at {xs : List α} {i : Nat} {x : α} (h : xs[i]? = some x) : (enumL xs)[i]? = some ((i : Int), x) := by
  unfold enumL
  rw [List.getElem?_map, List.getElem?_zipIdx, h]
  simp
theorem enum_len (xs : List α) : (enumL xs).length = xs.length := by
  unfold enumL
  rw [List.length_map, List.length_zipIdx]
theorem ei_enum [Rep α] {xs : List α} (h : EvP f a rv te σ xs) : EvI f a (iEnum K (tCons te tNil)) σ (enumL xs) := fun n I H s R k => h n I H s _ fun v I' H' g r => by
  obtain ⟨p, vs, rfl, hp, hv⟩ := r
  refine ⟨p, vs, rfl, SqL.of (g.sub _ _ hp), k _ I' H' (fun H => SqL K H p vs) (YPair (fun i => some (.int (i : Nat))) (fun i => vs[i]?)) g (by rw [enum_len, ← Nw.Paired.len hv]; exact walk_enum) (fun H2 e => SqL.of (e _ _ hp)) fun i I2 H2 v H3 hi e s2 y => ?_⟩
  obtain ⟨t, w1, w2, rfl, ht, rfl, e1, e2⟩ := y
  cases e1
  obtain ⟨x, h1, h2⟩ := Nw.Paired.at' hv e2
  have gt : Grow No I2 H2 (upd I2 t (.tup [.int (i : Nat), w2])) (upd H2 t (.tup [.int (i : Nat), w2])) := Grow.new s2 ht
  exact ⟨((i : Int), x), _, enum_at h1, gt, ⟨t, _, _, rfl, upd_same, rfl, Rep.mono (e.trans gt.view) h2⟩⟩
theorem ei_enumS [Rep α] {xs : List α} {b : Bool} (h : EvP f a (fun I _ v x => isS b I v x) te σ xs) : EvI f a (iEnumS K (tCons te tNil)) σ (enumL xs) := fun n I H s R k => h n I H s _ fun v I' H' g r => by
  obtain ⟨p, vs, rfl, hp, hv⟩ := r
  refine ⟨p, b, vs, rfl, SqB.of (g.sub _ _ hp), k _ I' H' (fun H => SqB K b H p vs) (YPair (fun i => some (.int (i : Nat))) (fun i => vs[i]?)) g (by rw [enum_len, ← Nw.Paired.len hv]; exact walk_enumS) (fun H2 e => SqB.of (e _ _ hp)) fun i I2 H2 v H3 hi e s2 y => ?_⟩
  obtain ⟨t, w1, w2, rfl, ht, rfl, e1, e2⟩ := y
  cases e1
  obtain ⟨x, h1, h2⟩ := Nw.Paired.at' hv e2
  have gt : Grow No I2 H2 (upd I2 t (.tup [.int (i : Nat), w2])) (upd H2 t (.tup [.int (i : Nat), w2])) := Grow.new s2 ht
  exact ⟨((i : Int), x), _, enum_at h1, gt, ⟨t, _, _, rfl, upd_same, rfl, Rep.mono (e.trans gt.view) h2⟩⟩
theorem ei_zip [Rep α] [Rep β] {xs : List α} {ys : List β} (h : EvP f a rv ta σ xs) (h' : EvP f a rv tb σ ys) : EvI f a (iZip K (tCons ta (tCons tb tNil))) σ (xs.zip ys) := fun n I H s R k => h n I H s _ fun v I1 H1 g1 r1 => h' n I1 H1 (s.grow g1) _ fun w I' H' g2 r2 => by
  obtain ⟨p, vs, rfl, hp, hv⟩ := r1
  obtain ⟨q, ws, rfl, hq, hw⟩ := r2
  have hp' := g2.view _ _ hp
  have hv' : Paired (Rep.is I') vs xs := Paired.mono' (fun _ _ z => Rep.mono g2.view z) hv
  refine ⟨p, q, vs, ws, rfl, SqL.of (g2.sub _ _ hp'), SqL.of (g2.sub _ _ hq), k _ I' H' (fun H => SqL K H p vs ∧ SqL K H q ws) (YPair (fun i => vs[i]?) (fun i => ws[i]?)) (g1.trans g2) (walk_zip (by rw [List.length_zip, Nw.Paired.len hv, Nw.Paired.len hw])) (fun H2 e => ⟨SqL.of (e _ _ hp'), SqL.of (e _ _ hq)⟩) fun i I2 H2 v H3 hi e s2 y => ?_⟩
  obtain ⟨t, w1, w2, rfl, ht, rfl, e1, e2⟩ := y
  obtain ⟨x, h1, h2⟩ := Nw.Paired.at' hv' e1
  obtain ⟨y, h3, h4⟩ := Nw.Paired.at' hw e2
  have gt : Grow No I2 H2 (upd I2 t (.tup [w1, w2])) (upd H2 t (.tup [w1, w2])) := Grow.new s2 ht
  exact ⟨(x, y), _, by rw [List.getElem?_zip_eq_some]; exact ⟨h1, h3⟩, gt, ⟨t, _, _, rfl, upd_same, Rep.mono (e.trans gt.view) h2, Rep.mono (e.trans gt.view) h4⟩⟩
/-! ### names given to an item -/
def Bd [Rep α] (f : Fr) (a : Amb) (g : TG) (σ : L2.St) (x : α) (Z : L2.St → Amb → Prop) : Prop := ∀ n I H v, Stn f a n I H → Rep.is I v x → ∀ C : L2.St → Hp → Prop, (∀ σ' a', Z σ' a' → Stn f a' n I H → C σ' H) → g v σ H C
theorem bd_name [Rep α] {i : Nat} : Bd f a (gName i) σ x (fun σ' a' => ∃ v, σ' = σ.set i (some v) ∧ a' = a.rep v x) := fun n I H v s r C k => k _ _ ⟨v, rfl, rfl⟩ (s.rep r)
theorem bd_2 [Rep α] [Rep β] {i j : Nat} {x : α × β} : Bd f a (gTup K 2 (gCons (gName i) (gCons (gName j) gNil))) σ x (fun σ' a' => ∃ v w, σ' = (σ.set i (some v)).set j (some w) ∧ a' = (a.rep v x.1).rep w x.2) := fun n I H v s r C k => by
  obtain ⟨p, v1, v2, rfl, hp, h1, h2⟩ := r
  exact ⟨p, _, rfl, SqT.of (s.sub _ _ hp), rfl, v1, _, rfl, v2, _, rfl, rfl, k _ _ ⟨v1, v2, rfl, rfl⟩ ((s.rep h1).rep h2)⟩
theorem bd_3 [Rep α] [Rep β] [Rep γ] {i j l : Nat} {x : T3 α β γ} : Bd f a (gTup K 3 (gCons (gName i) (gCons (gName j) (gCons (gName l) gNil)))) σ x (fun σ' a' => ∃ v w u, σ' = ((σ.set i (some v)).set j (some w)).set l (some u) ∧ a' = ((a.rep v x.a).rep w x.b).rep u x.c) := fun n I H v s r C k => by
  obtain ⟨p, v1, v2, v3, rfl, hp, h1, h2, h3⟩ := r
  exact ⟨p, _, rfl, SqT.of (s.sub _ _ hp), rfl, v1, _, rfl, v2, _, rfl, v3, _, rfl, rfl, k _ _ ⟨v1, v2, v3, rfl, rfl⟩ (((s.rep h1).rep h2).rep h3)⟩
theorem bd_4 [Rep α] [Rep β] [Rep γ] [Rep δ] {i j l m : Nat} {x : T4 α β γ δ} : Bd f a (gTup K 4 (gCons (gName i) (gCons (gName j) (gCons (gName l) (gCons (gName m) gNil))))) σ x (fun σ' a' => ∃ v w u t, σ' = (((σ.set i (some v)).set j (some w)).set l (some u)).set m (some t) ∧ a' = (((a.rep v x.a).rep w x.b).rep u x.c).rep t x.d) := fun n I H v s r C k => by
  obtain ⟨p, v1, v2, v3, v4, rfl, hp, h1, h2, h3, h4⟩ := r
  exact ⟨p, _, rfl, SqT.of (s.sub _ _ hp), rfl, v1, _, rfl, v2, _, rfl, v3, _, rfl, v4, _, rfl, rfl, k _ _ ⟨v1, v2, v3, v4, rfl, rfl⟩ ((((s.rep h1).rep h2).rep h3).rep h4)⟩
/-- enumerate(..) of pairs: i, (x, y) -/
theorem bd_1_2 [Rep α] [Rep β] [Rep γ] {i j l : Nat} {x : α × β × γ} : Bd f a (gTup K 2 (gCons (gName i) (gCons (gTup K 2 (gCons (gName j) (gCons (gName l) gNil))) gNil))) σ x (fun σ' a' => ∃ v w u, σ' = ((σ.set i (some v)).set j (some w)).set l (some u) ∧ a' = ((a.rep v x.1).rep w x.2.1).rep u x.2.2) := fun n I H v s r C k => by
  obtain ⟨p, v1, v2, rfl, hp, h1, q, v3, v4, rfl, hq, h3, h4⟩ := r
  exact ⟨p, _, rfl, SqT.of (s.sub _ _ hp), rfl, v1, _, rfl, _, _, rfl, q, _, rfl, SqT.of (s.sub _ _ hq), rfl, v3, _, rfl, v4, _, rfl, rfl, rfl, k _ _ ⟨v1, v3, v4, rfl, rfl⟩ (((s.rep h1).rep h3).rep h4)⟩
/-! ### a comprehension -/
theorem ep_lc [Rep α] [Rep β] {xs : List α} {vs : List Nat} {b : α → Bool} {e : α → β} {Z : α → L2.St → Amb → Prop} (hi : EvI f a wi σ xs) (hl : xs.length ≤ 16777216) (hg : ∀ x ∈ xs, Bd f a g (wipe σ vs) x (Z x))
    (hz : ∀ x ∈ xs, ∀ σ' a', Z x σ' a' → wipe σ' vs = wipe σ vs ∧ EvB f a' tt σ' (b x) ∧ (b x = true → EvP f a' rv te σ' (e x))) : EvP f a rv (tLc wi g tt te vs) σ (xs.filterMap fun x => if b x = true then some (e x) else none) := fun n I H s Q k =>
  hi n I H s _ fun J I1 H1 G Y g1 wk hG hY D hD => by
    have s1 := s.grow g1
    refine lc_pure (β := β) wk xs (fun x => if b x = true then some (e x) else none) rfl s1.sub hD hl (fun I' H' g2 => hG _ (g2.view.trans g2.sub)) ?_ ?_
    · intro i x v I' H' H'' hx g2 y Kn Ky kn ky
      obtain ⟨x', I3, hx', g3, hr⟩ := hY i I' H' v H'' (List.getElem?_eq_some_iff.mp hx).1 g2.view g2.sub y
      rw [hx] at hx'
      cases hx'
      have hm := List.mem_of_getElem? hx
      have s3 := s1.grow (g2.trans g3)
      refine hg x hm n I3 H'' v s3 hr _ fun σ' a' hZ s4 => ?_
      obtain ⟨e1, e2, e3⟩ := hz x hm σ' a' hZ
      refine ⟨e1, e2 n I3 H'' s4 _ fun I5 H5 g5 => ?_⟩
      by_cases hb : b x = true
      · rw [if_pos hb]
        exact e3 hb n I5 H5 (s4.grow g5) _ fun u I6 H6 g6 r6 => ky _ (if_pos hb) u I6 H6 ((g3.trans g5).trans g6) r6
      · rw [if_neg hb]
        exact kn (if_neg hb) I5 H5 (g3.trans g5)
    · intro I' H' vs' g2 ow hp
      exact k (.ref D) _ _ (g1.trans (g2.give ow)) ⟨D, vs', rfl, upd_same, Paired.mono' (fun _ _ z => Rep.mono (Same.up ow.ni) z) hp⟩
theorem fm_if {xs : List α} {b : α → Bool} {e : α → β} : (xs.filterMap fun x => if b x = true then some (e x) else none) = (xs.filter b).map e := by
  induction xs with
  | nil => rfl
  | cons x xs ih =>
    rw [List.filterMap_cons, ih]
    by_cases h : b x = true
    · rw [if_pos h, List.filter_cons_of_pos h, List.map_cons]
    · rw [if_neg h, List.filter_cons_of_neg h]
theorem fm_map {xs : List α} {e : α → β} : (xs.filterMap fun x => if true = true then some (e x) else none) = xs.map e := by
  rw [fm_if (b := fun _ => true), List.filter_eq_self.mpr fun _ _ => rfl]
end
end Nw

namespace Nw
open PySem PySem.Spec PyProof.Rows L2
/-! ### what a def computes, step by step; Ψ: what is wanted of what is left to compute -/
def bindP {α β : Type} (x : α) (fr : α → β) : β := fr x
def needP {β : Type} (p : Prop) [Decidable p] (r : Option β) : Option β := if p then r else none
/-- xs one by one: what follows an item's body, what follows the loop -/
def loopP {α S β : Type} : List α → (α → S → (S → β) → (S → β) → β) → (S → β) → S → β
  | [], _, rest, s => rest s
  | x :: xs, body, rest, s => body x s (loopP xs body rest) rest
def whileP {S β : Type} : Nat → (S → Bool) → (S → (S → Option β) → (S → Option β) → Option β) → (S → Option β) → S → Option β
  | 0, _, _, _, _ => none
  | n + 1, c, body, rest, s => if c s = true then body s (whileP n c body rest) rest else rest s
theorem need_ok {β : Type} {p : Prop} [Decidable p] {r : Option β} {y : β} (h : needP p r = some y) : p ∧ r = some y := by
  unfold needP at h
  split at h
  · exact ⟨by assumption, h⟩
  · cases h
section
variable {f : Fr} {a : Amb} {α β γ δ : Type} {σ : L2.St} {te ta tb tc : TE} {tt t u : TT} {x : α} {y : β} {z : γ} {v w : V} {K : PySem.W.Frag} {wi : TI} {g : TG} {n : Nat} {I H : Hp} {D : Ends} {ts us : TS} {Ψ : Nat → δ → Prop}
def Amb.vw (a : Amb) (I1 : Hp) : Amb := ⟨fun I => a.Γ I ∧ Same I1 I, fun e h => ⟨a.up e h.1, h.2.trans e⟩, a.Ω⟩
theorem Stn.vw (s : Stn f a n I H) {I1 : Hp} (e : Same I1 I) : Stn f (a.vw I1) n I H := ⟨s.g, s.r, ⟨s.γ, e⟩, s.nd, s.ω⟩
theorem st_set [Rep α] {i : Nat} {fr : α → δ} (h : Stn f a n I H) (E : EvP f a rv te σ x) (e : Ψ n (bindP x fr)) (k : ∀ x v I1 H1, Ψ n (fr x) → Stn f (a.rep v x) n I1 H1 → D.nx (σ.set i (some v)) H1) : tAsg te (gName i) D σ H := E n I H h _ fun v I1 H1 g r => k x v I1 H1 e ((h.grow g).rep r)
theorem st_asg [Rep α] {fr : α → δ} {Z : α → L2.St → Amb → Prop} (h : Stn f a n I H) (E : EvP f a rv te σ x) (B : ∀ x, Bd f a g σ x (Z x)) (e : Ψ n (bindP x fr)) (k : ∀ x σ' a' I1 H1, Ψ n (fr x) → Z x σ' a' → Stn f a' n I1 H1 → D.nx σ' H1) : tAsg te g D σ H := E n I H h _ fun v I1 H1 g r => B x n I1 H1 v (h.grow g) r _ fun σ' a' hz h' => k x σ' a' I1 H1 e hz h'
theorem st_par [Rep α] [Rep β] {i j : Nat} {ar : TA} {fr : α → β → δ} (h : Stn f a n I H) (E : EvA f a ar σ (x, y, ())) (e : Ψ n (bindP x fun x => bindP y fun y => fr x y)) (k : ∀ x y v w I1 H1, Ψ n (fr x y) → Stn f ((a.rep v x).rep w y) n I1 H1 → D.nx ((σ.set i (some v)).set j (some w)) H1) : tPar i j ar D σ H := E n I H h _ fun vs I1 H1 g r => by
  obtain ⟨v1, _, rfl, h1, v2, _, rfl, h2, rfl⟩ := r
  exact ⟨v1, v2, rfl, k x y v1 v2 I1 H1 e (((h.grow g).rep h1).rep h2)⟩
theorem st_ret [Rep α] (h : Stn f a n I H) (E : EvP f a rv te σ x) (k : ∀ v I1 H1, Stn f a n I1 H1 → Rep.is I1 v x → D.rt v H1) : tRet te D σ H := E n I H h _ fun v I1 H1 g r => k v I1 H1 (h.grow g) r
theorem st_if {b : Bool} {A B : δ} (h : Stn f a n I H) (E : EvB f a tt σ b) (e : Ψ n (if b = true then A else B)) (k1 : b = true → Ψ n A → ∀ I1 H1, Stn f a n I1 H1 → ts D σ H1) (k2 : b = false → Ψ n B → ∀ I1 H1, Stn f a n I1 H1 → us D σ H1) : tIfS tt ts us D σ H := E n I H h _ fun I1 H1 g => by
  cases b with
  | true => rw [if_pos rfl]; exact k1 rfl (by rw [if_pos rfl] at e; exact e) I1 H1 (h.grow g)
  | false => rw [if_neg Bool.false_ne_true]; exact k2 rfl (by rw [if_neg Bool.false_ne_true] at e; exact e) I1 H1 (h.grow g)
theorem loop_drop {S : Type} {xs : List α} {body : α → S → (S → δ) → (S → δ) → δ} {rest : S → δ} {s : S} {i : Nat} {x : α} (h : xs[i]? = some x) : loopP (xs.drop i) body rest s = body x s (loopP (xs.drop (i + 1)) body rest) rest := by
  have hl := (List.getElem?_eq_some_iff.mp h).1
  rw [List.drop_eq_getElem_cons hl]
  have e := (List.getElem?_eq_some_iff.mp h).2
  rw [e]
  rfl
/-- a for: Rel tells the slots and what stands, by the loop's state -/
theorem st_for [Rep α] {xs : List α} {S : Type} {body : α → S → (S → δ) → (S → δ) → δ} {rest : S → δ} {s0 : S} (Rel : S → L2.St → Amb → Prop) (h : Stn f a n I H) (hi : EvI f a wi σ xs) (e : Ψ n (loopP xs body rest s0)) (h0 : ∀ I1, Rel s0 σ (a.vw I1))
    (hd : ∀ s σ' a' n' I' H', Ψ n' (rest s) → Rel s σ' a' → Stn f a' n' I' H' → D.nx σ' H')
    (hb : ∀ x s σ' a' n' I1 (tl : S → δ) I' H' v N, x ∈ xs → Rel s σ' a' → (∀ I, a'.Γ I → Same I1 I) → Ψ n' (body x s tl rest) → Stn f a' n' I' H' → Rep.is I' v x →
      (∀ s' σ3 a3 n3 I3 H3, Ψ n3 (tl s') → Rel s' σ3 a3 → (∀ I, a3.Γ I → Same I1 I) → Stn f a3 n3 I3 H3 → N σ3 H3) →
      (∀ s σ' a' n' I' H', Ψ n' (rest s) → Rel s σ' a' → Stn f a' n' I' H' → D.nx σ' H') → g v σ' H' fun σ2 H2 => ts { D with nx := N, ct := N, bk := D.nx } σ2 H2) : tFor wi g ts D σ H := hi n I H h _ fun J I1 H1 G Y g1 wk hG hY => by
  refine for_it wk (fun i σ' H' => ∃ s a' n' I', Ψ n' (loopP (xs.drop i) body rest s) ∧ Rel s σ' a' ∧ (∀ I, a'.Γ I → Same I1 I) ∧ Stn f a' n' I' H') ⟨s0, a.vw I1, n, I1, e, h0 I1, fun I z => z.2, (h.grow g1).vw (Same.refl _)⟩ ?_ ?_ ?_
  · rintro i σ' H' _ ⟨s, a', n', I', _, _, hv, hs⟩
    exact hG H' ((hv I' hs.γ).trans hs.sub)
  · rintro i w σ' H' H'' hi' ⟨s, a', n', I', e', hr, hv, hs⟩ y
    obtain ⟨x, I3, hx, g3, hrep⟩ := hY i I' H' w H'' hi' (hv I' hs.γ) hs.sub y
    rw [loop_drop hx] at e'
    exact hb x s σ' a' n' I1 _ I3 H'' w _ (List.mem_of_getElem? hx) hr hv e' (hs.grow g3) hrep (fun s' σ3 a3 n3 I3 H3 q1 q2 q3 q4 => ⟨s', a3, n3, I3, q1, q2, q3, q4⟩) hd
  · rintro σ' H' ⟨s, a', n', I', e', hr, hv, hs⟩
    rw [List.drop_length] at e'
    exact hd s σ' a' n' I' H' e' hr hs
/-- a while, at most m times -/
theorem st_while {S : Type} {m : Nat} {c : S → Bool} {body : S → (S → Option β) → (S → Option β) → Option β} {rest : S → Option β} {s0 : S} {Φ : Nat → Option β → Prop} (hn : ∀ n, ¬ Φ n none) (Rel : S → L2.St → Amb → Prop) (h : Stn f a n I H) (e : Φ n (whileP m c body rest s0)) (h0 : Rel s0 σ a)
    (hc : ∀ s σ' a', Rel s σ' a' → EvB f a' tt σ' (c s))
    (hd : ∀ s σ' a' n' I' H', Φ n' (rest s) → Rel s σ' a' → Stn f a' n' I' H' → D.nx σ' H')
    (hb : ∀ s σ' a' n' (tl : S → Option β) I' H' N, Rel s σ' a' → c s = true → Φ n' (body s tl rest) → Stn f a' n' I' H' →
      (∀ s' σ3 a3 n3 I3 H3, Φ n3 (tl s') → Rel s' σ3 a3 → Stn f a3 n3 I3 H3 → N σ3 H3) →
      (∀ s σ' a' n' I' H', Φ n' (rest s) → Rel s σ' a' → Stn f a' n' I' H' → D.nx σ' H') → ts { D with nx := N, ct := N, bk := D.nx } σ' H') : tWhile tt ts D σ H := by
  refine ⟨fun m σ' H' => ∃ s a' n' I', Φ n' (whileP m c body rest s) ∧ Rel s σ' a' ∧ Stn f a' n' I' H', ⟨m, s0, a, n, I, e, h0, h⟩, ?_⟩
  rintro m σ' H' ⟨s, a', n', I', e', hr, hs⟩
  cases m with
  | zero => exact absurd e' (hn _)
  | succ m =>
    refine hc s σ' a' hr n' I' H' hs _ fun I2 H2 g2 => ?_
    unfold whileP at e'
    cases hcs : c s with
    | false =>
      rw [hcs, if_neg Bool.false_ne_true] at e'
      rw [if_neg Bool.false_ne_true]
      exact hd s σ' a' n' I2 H2 e' hr (hs.grow g2)
    | true =>
      rw [hcs, if_pos rfl] at e'
      rw [if_pos rfl]
      exact ⟨fun σ' H' => ∃ s a' n' I', Φ n' (whileP m c body rest s) ∧ Rel s σ' a' ∧ Stn f a' n' I' H', fun σ3 H3 z => ⟨m, Nat.lt_succ_self m, z⟩, hb s σ' a' n' _ I2 H2 _ hr hcs e' (hs.grow g2) (fun s' σ3 a3 n3 I3 H3 q1 q2 q3 => ⟨s', a3, n3, I3, q1, q2, q3⟩) hd⟩
/-! own lists -/
theorem st_new [Rep α] {i : Nat} {fr : List α → δ} (h : Stn f a n I H) (e : Ψ n (bindP ([] : List α) fr)) (k : ∀ p H1, Ψ n (fr []) → Stn f (a.own (lcell p ([] : List α))) n I H1 → D.nx (σ.set i (some (.ref p))) H1) : tAsg (tLst tNil) (gName i) D σ H :=
  ⟨Nat.zero_le _, fun p hp => k p _ e (h.new (c := lcell p []) hp ⟨[], rfl, .nil⟩)⟩
theorem st_app [Rep α] {i j : Nat} {p : Addr} {xs : List α} {fr : List α → δ} (h : Stn f a n I H) (hs : σ[i]? = some (some (.ref p))) (hc : a.Ω[j]? = some (lcell p xs)) (E : EvP f a rv te σ x) (hl : xs.length < 16777216) (e : Ψ n (bindP (xs ++ [x]) fr))
    (k : ∀ xs' I1 H1, Ψ n (fr xs') → Stn f (a.cells (a.Ω.set j (lcell p xs'))) n I1 H1 → D.nx σ H1) : tDrop (tBM K "list" rAppend (tVar i) (tCons te tNil)) D σ H := by
  obtain ⟨o, w, vs, rfl, hp⟩ := h.ω _ (List.mem_of_getElem? hc)
  refine ⟨_, hs, .inl ⟨rfl, _, SqL.of w.at_⟩, E n I H h _ fun v I1 H1 g r => ?_⟩
  have h1 := h.grow g
  have w1 := w.grow g.no
  have hp1 : Paired (Rep.is I1) vs xs := Paired.mono' (fun _ _ z => Rep.mono g.view z) hp
  exact ⟨p, vs, v, rfl, rfl, w1.at_, by rw [Nw.Paired.len hp, sizeLine_eq]; exact hl, k _ I1 _ e (h1.put (c' := lcell p (xs ++ [x])) hc rfl ⟨_, rfl, Paired.snoc hp1 r⟩)⟩
/-- an own list is given out -/
theorem Stn.giveL [Rep α] {j : Nat} {p : Addr} {xs : List α} (h : Stn f a n I H) (hc : a.Ω[j]? = some (lcell p xs)) : ∃ I', Stn f ((a.cells (a.Ω.eraseIdx j)).rep (.ref p) xs) n I' H := by
  obtain ⟨o, ⟨vs, rfl, hp⟩, h1, h2, h3⟩ := h.give hc
  exact ⟨_, h3.rep (v := .ref p) (x := xs) ⟨p, vs, rfl, upd_same, Paired.mono' (fun _ _ z => Rep.mono (Same.up h2) z) hp⟩⟩
/-! ### a def's frame, where nothing that stood is changed -/
def frN (I H : Hp) : Fr := ⟨No, fun _ _ _ => True, fun _ => Stable.triv.toE, I, H, fun _ z => z.elim, fun _ z => z.elim⟩
theorem stn0 {I H : Hp} (sb : Same I H) : Stn (frN I H) Amb.nil 0 I H := ⟨Grow.refl sb, trivial, trivial, .nil, fun _ z => nomatch z⟩
theorem rep_last [Rep α] (_ : Stn f (a.rep v x) n I H) : ∀ I, (a.rep v x).Γ I → Rep.is I v x := fun _ γ => γ.2
theorem rep_last2 [Rep α] [Rep β] (_ : Stn f ((a.rep v x).rep w y) n I H) : ∀ I, ((a.rep v x).rep w y).Γ I → Rep.is I v x := fun _ γ => γ.1.2
theorem rep_last3 [Rep α] [Rep β] [Rep γ] {u : V} (_ : Stn f (((a.rep v x).rep w y).rep u z) n I H) : ∀ I, (((a.rep v x).rep w y).rep u z).Γ I → Rep.is I v x := fun _ γ => γ.1.1.2
theorem rep_last4 [Rep α] [Rep β] [Rep γ] [Rep δ] {u s : V} {t : δ} (_ : Stn f ((((a.rep v x).rep w y).rep u z).rep s t) n I H) : ∀ I, ((((a.rep v x).rep w y).rep u z).rep s t).Γ I → Rep.is I v x := fun _ γ => γ.1.1.1.2
theorem o_get {a : Amb} {L : List Cell} {j : Nat} {c : Cell} (e : a.Ω = L) (h : L[j]? = some c) : a.Ω[j]? = some c := e ▸ h
theorem o_own {c : Cell} {L : List Cell} (_ : Stn f (a.own c) n I H) (e : a.Ω = L) : (a.own c).Ω = c :: L := congrArg (c :: ·) e
theorem o_set {c : Cell} {j : Nat} {L : List Cell} (_ : Stn f (a.cells (a.Ω.set j c)) n I H) (e : a.Ω = L) : (a.cells (a.Ω.set j c)).Ω = L.set j c := congrArg (·.set j c) e
theorem o_erase [Rep α] {j : Nat} {L : List Cell} (_ : Stn f ((a.cells (a.Ω.eraseIdx j)).rep v x) n I H) (e : a.Ω = L) : ((a.cells (a.Ω.eraseIdx j)).rep v x).Ω = L.eraseIdx j := congrArg (·.eraseIdx j) e
/-- where two ways come together -/
def joinP {S β : Type} (body : (S → β) → β) (rest : S → β) : β := body rest
theorem st_join {S : Type} {body : (S → δ) → δ} {rest : S → δ} (Rel : S → L2.St → Amb → Prop) (_ : Stn f a n I H) (e : Ψ n (joinP body rest))
    (hb : ∀ (tl : S → δ) (N : L2.St → Hp → Prop), Ψ n (body tl) → (∀ s' σ3 a3 n3 I3 H3, Ψ n3 (tl s') → Rel s' σ3 a3 → Stn f a3 n3 I3 H3 → N σ3 H3) → ts { D with nx := N } σ H)
    (hr : ∀ s σ' a' n' I' H', Ψ n' (rest s) → Rel s σ' a' → Stn f a' n' I' H' → us D σ' H') : tMid ts us D σ H :=
  ⟨_, hb rest (fun σ' H' => ∃ s a' n' I', Ψ n' (rest s) ∧ Rel s σ' a' ∧ Stn f a' n' I' H') e fun s' σ3 a3 n3 I3 H3 q1 q2 q3 => ⟨s', a3, n3, I3, q1, q2, q3⟩, fun σ1 H1 ⟨s, a', n', I', q1, q2, q3⟩ => hr s σ1 a' n' I' H1 q1 q2 q3⟩
theorem st_augA {i : Nat} {j x : Int} {fr : Int → δ} (h : Stn f a n I H) (hs : σ[i]? = some (some w)) (r : ∀ I, a.Γ I → Rep.is I w j) (E : EvP f a rv te σ x) (e : Ψ n (bindP (j + x) fr)) (k : ∀ x v I1 H1, Ψ n (fr x) → Stn f (a.rep v x) n I1 H1 → D.nx (σ.set i (some v)) H1) : tAug i te rAdd D σ H :=
  ⟨w, hs, E n I H h _ fun v I1 H1 g r1 => ⟨j, x, r I h.γ, r1, k (j + x) _ I1 H1 e ((h.grow g).rep rfl)⟩⟩
theorem st_augS {i : Nat} {j x : Int} {fr : Int → δ} (h : Stn f a n I H) (hs : σ[i]? = some (some w)) (r : ∀ I, a.Γ I → Rep.is I w j) (E : EvP f a rv te σ x) (e : Ψ n (bindP (j - x) fr)) (k : ∀ x v I1 H1, Ψ n (fr x) → Stn f (a.rep v x) n I1 H1 → D.nx (σ.set i (some v)) H1) : tAug i te rSub D σ H :=
  ⟨w, hs, E n I H h _ fun v I1 H1 g r1 => ⟨j, x, r I h.γ, r1, k (j - x) _ I1 H1 e ((h.grow g).rep rfl)⟩⟩
theorem someD {x : Option α} [Inhabited α] (h : x.isSome = true) : x = some (x.getD default) := by
  cases x with
  | none => cases h
  | some y => rfl
/-! the same, where one value is computed -/
section
variable {R : δ}
theorem p_set [Rep α] {i : Nat} {fr : α → δ} (h : Stn f a n I H) (E : EvP f a rv te σ x) (e : bindP x fr = R) (k : ∀ x v I1 H1, fr x = R → Stn f (a.rep v x) n I1 H1 → D.nx (σ.set i (some v)) H1) : tAsg te (gName i) D σ H := st_set (Ψ := fun _ r => r = R) h E e k
theorem p_asg [Rep α] {fr : α → δ} {Z : α → L2.St → Amb → Prop} (h : Stn f a n I H) (E : EvP f a rv te σ x) (B : ∀ x, Bd f a g σ x (Z x)) (e : bindP x fr = R) (k : ∀ x σ' a' I1 H1, fr x = R → Z x σ' a' → Stn f a' n I1 H1 → D.nx σ' H1) : tAsg te g D σ H := st_asg (Ψ := fun _ r => r = R) h E B e k
theorem p_par [Rep α] [Rep β] {i j : Nat} {ar : TA} {fr : α → β → δ} (h : Stn f a n I H) (E : EvA f a ar σ (x, y, ())) (e : (bindP x fun x => bindP y fun y => fr x y) = R) (k : ∀ x y v w I1 H1, fr x y = R → Stn f ((a.rep v x).rep w y) n I1 H1 → D.nx ((σ.set i (some v)).set j (some w)) H1) : tPar i j ar D σ H := st_par (Ψ := fun _ r => r = R) h E e k
theorem p_if {b : Bool} {A B : δ} (h : Stn f a n I H) (E : EvB f a tt σ b) (e : (if b = true then A else B) = R) (k1 : b = true → A = R → ∀ I1 H1, Stn f a n I1 H1 → ts D σ H1) (k2 : b = false → B = R → ∀ I1 H1, Stn f a n I1 H1 → us D σ H1) : tIfS tt ts us D σ H := st_if (Ψ := fun _ r => r = R) h E e k1 k2
theorem p_for [Rep α] {xs : List α} {S : Type} {body : α → S → (S → δ) → (S → δ) → δ} {rest : S → δ} {s0 : S} (Rel : S → L2.St → Amb → Prop) (h : Stn f a n I H) (hi : EvI f a wi σ xs) (e : loopP xs body rest s0 = R) (h0 : ∀ I1, Rel s0 σ (a.vw I1))
    (hd : ∀ s σ' a' n' I' H', rest s = R → Rel s σ' a' → Stn f a' n' I' H' → D.nx σ' H')
    (hb : ∀ x s σ' a' n' I1 (tl : S → δ) I' H' v N, x ∈ xs → Rel s σ' a' → (∀ I, a'.Γ I → Same I1 I) → body x s tl rest = R → Stn f a' n' I' H' → Rep.is I' v x →
      (∀ s' σ3 a3 n3 I3 H3, tl s' = R → Rel s' σ3 a3 → (∀ I, a3.Γ I → Same I1 I) → Stn f a3 n3 I3 H3 → N σ3 H3) →
      (∀ s σ' a' n' I' H', rest s = R → Rel s σ' a' → Stn f a' n' I' H' → D.nx σ' H') → g v σ' H' fun σ2 H2 => ts { D with nx := N, ct := N, bk := D.nx } σ2 H2) : tFor wi g ts D σ H := st_for (Ψ := fun _ r => r = R) Rel h hi e h0 hd hb
theorem p_join {S : Type} {body : (S → δ) → δ} {rest : S → δ} (Rel : S → L2.St → Amb → Prop) (h : Stn f a n I H) (e : joinP body rest = R)
    (hb : ∀ (tl : S → δ) (N : L2.St → Hp → Prop), body tl = R → (∀ s' σ3 a3 n3 I3 H3, tl s' = R → Rel s' σ3 a3 → Stn f a3 n3 I3 H3 → N σ3 H3) → ts { D with nx := N } σ H)
    (hr : ∀ s σ' a' n' I' H', rest s = R → Rel s σ' a' → Stn f a' n' I' H' → us D σ' H') : tMid ts us D σ H := st_join (Ψ := fun _ r => r = R) Rel h e hb hr
theorem p_augA {i : Nat} {j x : Int} {fr : Int → δ} (h : Stn f a n I H) (hs : σ[i]? = some (some w)) (r : ∀ I, a.Γ I → Rep.is I w j) (E : EvP f a rv te σ x) (e : bindP (j + x) fr = R) (k : ∀ x v I1 H1, fr x = R → Stn f (a.rep v x) n I1 H1 → D.nx (σ.set i (some v)) H1) : tAug i te rAdd D σ H := st_augA (Ψ := fun _ r => r = R) h hs r E e k
theorem p_augS {i : Nat} {j x : Int} {fr : Int → δ} (h : Stn f a n I H) (hs : σ[i]? = some (some w)) (r : ∀ I, a.Γ I → Rep.is I w j) (E : EvP f a rv te σ x) (e : bindP (j - x) fr = R) (k : ∀ x v I1 H1, fr x = R → Stn f (a.rep v x) n I1 H1 → D.nx (σ.set i (some v)) H1) : tAug i te rSub D σ H := st_augS (Ψ := fun _ r => r = R) h hs r E e k
theorem p_new [Rep α] {i : Nat} {fr : List α → δ} (h : Stn f a n I H) (e : bindP ([] : List α) fr = R) (k : ∀ p H1, fr [] = R → Stn f (a.own (lcell p ([] : List α))) n I H1 → D.nx (σ.set i (some (.ref p))) H1) : tAsg (tLst tNil) (gName i) D σ H := st_new (Ψ := fun _ r => r = R) h e k
theorem p_app [Rep α] {i j : Nat} {p : Addr} {xs : List α} {fr : List α → δ} (h : Stn f a n I H) (hs : σ[i]? = some (some (.ref p))) (hc : a.Ω[j]? = some (lcell p xs)) (E : EvP f a rv te σ x) (hl : xs.length < 16777216) (e : bindP (xs ++ [x]) fr = R)
    (k : ∀ xs' I1 H1, fr xs' = R → Stn f (a.cells (a.Ω.set j (lcell p xs'))) n I1 H1 → D.nx σ H1) : tDrop (tBM K "list" rAppend (tVar i) (tCons te tNil)) D σ H := st_app (Ψ := fun _ r => r = R) h hs hc E hl e k
end
theorem p_while {S : Type} {R : β} {m : Nat} {c : S → Bool} {body : S → (S → Option β) → (S → Option β) → Option β} {rest : S → Option β} {s0 : S} (Rel : S → L2.St → Amb → Prop) (h : Stn f a n I H) (e : whileP m c body rest s0 = some R) (h0 : Rel s0 σ a)
    (hc : ∀ s σ' a', Rel s σ' a' → EvB f a' tt σ' (c s))
    (hd : ∀ s σ' a' n' I' H', rest s = some R → Rel s σ' a' → Stn f a' n' I' H' → D.nx σ' H')
    (hb : ∀ s σ' a' n' (tl : S → Option β) I' H' N, Rel s σ' a' → c s = true → body s tl rest = some R → Stn f a' n' I' H' →
      (∀ s' σ3 a3 n3 I3 H3, tl s' = some R → Rel s' σ3 a3 → Stn f a3 n3 I3 H3 → N σ3 H3) →
      (∀ s σ' a' n' I' H', rest s = some R → Rel s σ' a' → Stn f a' n' I' H' → D.nx σ' H') → ts { D with nx := N, ct := N, bk := D.nx } σ' H') : tWhile tt ts D σ H := st_while (Φ := fun _ r => r = some R) (fun _ z => nomatch z) Rel h e h0 hc hd hb
end
end Nw

namespace Nw
open PySem PySem.Spec PyProof.Rows L2
/-! ### what is computed with draws: whatever is drawn; n draws so far -/
abbrev DW (α : Type) := Nat → (α → Nat → Prop) → Prop
def pureD {α : Type} (x : α) : DW α := fun n M => M x n
def bindD {α β : Type} (m : DW α) (fr : α → DW β) : DW β := fun n M => m n fun x n' => fr x n' M
def needD {β : Type} (p : Prop) (r : DW β) : DW β := fun n M => p ∧ r n M
def compD {α β : Type} : List α → (α → DW (Option β)) → DW (List β)
  | [], _ => pureD []
  | x :: xs, m => bindD (m x) fun o => bindD (compD xs m) fun ys => pureD (o.toList ++ ys)
def whileD {S β : Type} : Nat → (S → DW Bool) → (S → (S → DW β) → (S → DW β) → DW β) → (S → DW β) → S → DW β
  | 0, _, _, _, _ => fun _ _ => False
  | n + 1, c, body, rest, s => bindD (c s) fun b => if b = true then body s (whileD n c body rest) rest else rest s
structure DFr (f : Fr) (D : DA) : Prop where
  eT : f.T = TD D
  dr : ∀ {n : Nat} {I H : Hp}, f.R n I H → Drw D n I H
  bk : ∀ {n n' : Nat} {I H I' H' : Hp}, f.R n I H → Grow (TD D) I H I' H' → Drw D n' I' H' → f.R n' I' H'
theorem Drw.none {D : DA} {n : Nat} {I H : Hp} (d : Drw D n I H) : ∀ b, TD D b → I b = none := by
  obtain ⟨_, _, _, _, s, _⟩ := d.ex
  rintro b (rfl | rfl | rfl)
  · exact s.vd
  · exact s.vg
  · exact s.vl
def frD {D : DA} {n : Nat} {I H : Hp} (d : Drw D n I H) : Fr := ⟨TD D, Drw D, fun _ => Stable.drw.toE, I, H, d.live, d.none⟩
theorem dfr {D : DA} {n : Nat} {I H : Hp} (d : Drw D n I H) : DFr (frD d) D := ⟨rfl, fun h => h, fun _ _ h => h⟩
theorem stnD {D : DA} {n : Nat} {I H : Hp} (d : Drw D n I H) : Stn (frD d) Amb.nil n I H := ⟨Grow.refl d.sub, d, trivial, .nil, fun _ z => nomatch z⟩
section
variable {f : Fr} {a : Amb} {α β γ δ : Type} {σ : L2.St} {te ta tb tc : TE} {tt t u : TT} {x : α} {y : β} {z : γ} {v w : V} {K : PySem.W.Frag} {wi : TI} {g : TG} {n : Nat} {I H : Hp} {En : Ends} {ts us : TS} {Q : VK} {D : DA} {M : δ → Nat → Prop}
/-- a value that needs no draw, within what does -/
theorem e_p [Rep α] (h : Stn f a n I H) (E : EvP f a rv te σ x) (k : ∀ v I1 H1, Stn f (a.rep v x) n I1 H1 → Q v H1) : te σ H Q := E n I H h _ fun v I1 H1 g r => k v I1 H1 ((h.grow g).rep r)
theorem e_b {b : Bool} {QB : Bool → Hp → Prop} (h : Stn f a n I H) (E : EvB f a tt σ b) (k : ∀ I1 H1, Stn f a n I1 H1 → QB b H1) : tt σ H QB := E n I H h _ fun I1 H1 g => k I1 H1 (h.grow g)
theorem rl_of [Rep α] {xs : List α} (h : Stn f a n I H) (r : Rep.is I v xs) : rl f.T I H v xs := by
  obtain ⟨p, vs, rfl, hp, hv⟩ := r
  exact ⟨p, vs, rfl, h.sub _ _ hp, h.nv hp, hv⟩
theorem f_op [Rep γ] {r : R2} {ρ1 : RdC α} {ρ2 : RdC β} (h : Stn f a n I H) (o : OpS r ρ1 ρ2 rv x y z) (h1 : ρ1 I H v x) (h2 : ρ2 I H w y) (k : ∀ u I1 H1, Stn f (a.rep u z) n I1 H1 → Q u H1) : r v w H Q := o I H v w h.sub h1 h2 Q fun u I1 H1 g r => k u I1 H1 ((h.grow g).rep r)
theorem f_c1 [Rep β] {r : List V → Hp → VK → Prop} {ρ1 : RdC α} (h : Stn f a n I H) (o : C1 r ρ1 rv x y) (h1 : ρ1 I H v x) (k : ∀ u I1 H1, Stn f (a.rep u y) n I1 H1 → Q u H1) : r [v] H Q := o I H v h.sub h1 Q fun u I1 H1 g r => k u I1 H1 ((h.grow g).rep r)
theorem f_c2 [Rep γ] {r : List V → Hp → VK → Prop} {ρ1 : RdC α} {ρ2 : RdC β} (h : Stn f a n I H) (o : C2 r ρ1 ρ2 rv x y z) (h1 : ρ1 I H v x) (h2 : ρ2 I H w y) (k : ∀ u I1 H1, Stn f (a.rep u z) n I1 H1 → Q u H1) : r [v, w] H Q := o I H v w h.sub h1 h2 Q fun u I1 H1 g r => k u I1 H1 ((h.grow g).rep r)
theorem f_tup2 [Rep α] [Rep β] (h : Stn f a n I H) (h1 : Rep.is I v x) (h2 : Rep.is I w y) (k : ∀ u I1 H1, Stn f (a.rep u (x, y)) n I1 H1 → Q u H1) : [v, w].length ≤ sizeLine ∧ ∀ p, H p = none → Q (.ref p) (upd H p (.tup [v, w])) := by
  refine ⟨by show 2 ≤ sizeLine; decide, fun p hp => ?_⟩
  have g : Grow No I H (upd I p (.tup [v, w])) (upd H p (.tup [v, w])) := Grow.new h.sub hp
  exact k _ _ _ ((h.grow g).rep ⟨p, v, w, rfl, upd_same, Rep.mono g.view h1, Rep.mono g.view h2⟩)
theorem f_tup3 [Rep α] [Rep β] [Rep γ] {s : V} (h : Stn f a n I H) (h1 : Rep.is I v x) (h2 : Rep.is I w y) (h3 : Rep.is I s z) (k : ∀ u I1 H1, Stn f (a.rep u (T3.mk x y z)) n I1 H1 → Q u H1) : [v, w, s].length ≤ sizeLine ∧ ∀ p, H p = none → Q (.ref p) (upd H p (.tup [v, w, s])) := by
  refine ⟨by show 3 ≤ sizeLine; decide, fun p hp => ?_⟩
  have g : Grow No I H (upd I p (.tup [v, w, s])) (upd H p (.tup [v, w, s])) := Grow.new h.sub hp
  exact k _ _ _ ((h.grow g).rep ⟨p, v, w, s, rfl, upd_same, Rep.mono g.view h1, Rep.mono g.view h2, Rep.mono g.view h3⟩)
theorem f_lst [Rep α] {xs : List α} {vs : List V} (h : Stn f a n I H) (hp : Paired (Rep.is I) vs xs) (hl : xs.length ≤ 16777216) (k : ∀ u I1 H1, Stn f (a.rep u xs) n I1 H1 → Q u H1) : vs.length ≤ sizeLine ∧ ∀ p, H p = none → Q (.ref p) (upd H p (.lst vs)) := by
  refine ⟨by rw [Nw.Paired.len hp, sizeLine_eq]; exact hl, fun p hn => ?_⟩
  have g : Grow No I H (upd I p (.lst vs)) (upd H p (.lst vs)) := Grow.new h.sub hn
  exact k _ _ _ ((h.grow g).rep ⟨p, vs, rfl, upd_same, Paired.mono' (fun _ _ z => Rep.mono g.view z) hp⟩)
/-- a call of a def that only computes -/
theorem f_call [RepA α] [Rep β] {F : α → Option β} {vs : List V} (h : Stn f a n I H) (r : RepA.is I vs x) (e : F x = some y) (k : ∀ u I1 H1, Stn f (a.rep u y) n I1 H1 → Q u H1) : spP F (vs ++ []) H Q E0 := by
  rw [List.append_nil]
  exact ⟨I, x, y, r, h.sub, e, fun v I1 H1 g r => k v I1 H1 ((h.grow g).rep r)⟩
/-! calls that draw -/
def spD [RepA α] [Rep β] (F : α → DW β) : Sp := fun vs H Q _ => ∃ (I : Hp) (D : DA) (n : Nat) (x : α) (M : β → Nat → Prop) (vs' : List V), vs = .ref D.d :: vs' ∧ RepA.is I vs' x ∧ Drw D n I H ∧ F x n M ∧ ∀ y n', M y n' → ∀ v I' H', Grow (TD D) I H I' H' → Drw D n' I' H' → Rep.is I' v y → Q v H'
theorem Stn.drawn {n' : Nat} {I1 H1 : Hp} (df : DFr f D) (h : Stn f a n I H) (g : Grow (TD D) I H I1 H1) (d : Drw D n' I1 H1) : Stn f a n' I1 H1 := h.growT (by rw [df.eT]; exact g) (df.bk h.r g d)
theorem f_callD [RepA α] [Rep β] {F : α → DW β} {fr : β → DW δ} {vs : List V} (df : DFr f D) (h : Stn f a n I H) (r : RepA.is I vs x) (e : bindD (F x) fr n M) (k : ∀ y v n' I1 H1, fr y n' M → Stn f (a.rep v y) n' I1 H1 → Q v H1) : spD F (.ref D.d :: vs ++ []) H Q E0 := by
  rw [List.append_nil]
  exact ⟨I, D, n, x, _, vs, rfl, r, df.dr h.r, e, fun y n' e' v I1 H1 g d r => k y v n' I1 H1 e' ((h.drawn df g d).rep r)⟩
/-- a number below many -/
def F_next (many : Int) : DW Int := fun n M => (0 < many ∧ many < 1073741824 ∧ n < lim) ∧ ∀ r, 0 ≤ r → r < many → M r (n + 1)
theorem f_next {i : Int} {fr : Int → DW δ} (df : DFr f D) (h : Stn f a n I H) (r : Rep.is I v i) (e : bindD (F_next i) fr n M) (k : ∀ y v n' I1 H1, fr y n' M → Stn f (a.rep v y) n' I1 H1 → Q v H1) : spNext (.ref D.d :: [v] ++ []) H Q E0 := by
  obtain ⟨⟨h1, h2, h3⟩, e⟩ := e
  refine ⟨I, D, n, i, by rw [show v = V.int i from r] <;> rfl, df.dr h.r, h1, h2, h3, fun y H1 y0 y1 g d => ?_⟩
  exact k y _ _ I H1 (e y y0 y1) ((h.drawn df g d).rep rfl)
theorem f_if {b : Bool} {A B : DW δ} {P1 P2 : Prop} (e : (if b = true then A else B) n M) (k1 : b = true → A n M → P1) (k2 : b = false → B n M → P2) : if b = true then P1 else P2 := by
  cases b with
  | true => rw [if_pos rfl] at e ⊢; exact k1 rfl e
  | false => rw [if_neg Bool.false_ne_true] at e ⊢; exact k2 rfl e
theorem d_gen {fr : α → DW δ} [Rep α] {G : Prop} (h : Stn f (a.rep v x) n I H) (e : bindP x fr n M) (k : ∀ x', fr x' n M → Stn f (a.rep v x') n I H → G) : G := k x e h
theorem Stn.weak {b : Amb} (h : Stn f a n I H) (w : ∀ I, a.Γ I → b.Γ I) (o : a.Ω = b.Ω) : Stn f b n I H := ⟨h.g, h.r, w I h.γ, o ▸ h.nd, o ▸ h.ω⟩
/-! ways that come together within an expression -/
def tMidE (te : TE) : TE := fun σ H Q => ∃ M : VK, te σ H M ∧ ∀ v H', M v H' → Q v H'
def tMidB (t : TT) : TT := fun σ H Q => ∃ M : Bool → Hp → Prop, t σ H M ∧ ∀ b H', M b H' → Q b H'
theorem pe_mid {X : Cx} {e : Expr} {t : TE} (h : PE X e t) : PE X e (tMidE t) := ⟨fun pins s σ H Q I ⟨M, h1, h2⟩ => thn (h.run pins s σ H M I h1) fun v s1 ⟨x, H1, I1, r1, q1⟩ => ⟨x, H1, I1, r1, h2 _ _ q1⟩⟩
theorem pt_mid {X : Cx} {e : Expr} {t : TT} (h : PT X e t) : PT X e (tMidB t) := ⟨fun pins s σ H Q I ⟨M, h1, h2⟩ => thn (h.run pins s σ H M I h1) fun b s1 ⟨H1, I1, q1⟩ => ⟨H1, I1, h2 _ _ q1⟩⟩
theorem j_test {QB : Bool → Hp → Prop} {m : DW Bool} {fr : Bool → DW δ} (h : Stn f a n I H) (e : bindD m fr n M) (hb : ∀ (M' : Bool → Nat → Prop) (N : Bool → Hp → Prop), m n M' → (∀ b n' I1 H1, M' b n' → Stn f a n' I1 H1 → N b H1) → t σ H N) (k : ∀ b n' I1 H1, fr b n' M → Stn f a n' I1 H1 → QB b H1) : tMidB t σ H QB :=
  ⟨fun b H1 => ∃ n' I1, fr b n' M ∧ Stn f a n' I1 H1, hb _ _ e fun b n' I1 H1 q1 q2 => ⟨n', I1, q1, q2⟩, fun b H1 ⟨n', I1, q1, q2⟩ => k b n' I1 H1 q1 q2⟩
theorem j_expr [Rep α] {m : DW α} {fr : α → DW δ} (h : Stn f a n I H) (e : bindD m fr n M) (hb : ∀ (M' : α → Nat → Prop) (N : VK), m n M' → (∀ x v n' I1 H1, M' x n' → Stn f a n' I1 H1 → Rep.is I1 v x → N v H1) → te σ H N) (k : ∀ x v n' I1 H1, fr x n' M → Stn f (a.rep v x) n' I1 H1 → Q v H1) : tMidE te σ H Q :=
  ⟨fun v H1 => ∃ x n' I1, fr x n' M ∧ Stn f a n' I1 H1 ∧ Rep.is I1 v x, hb _ _ e fun x v n' I1 H1 q1 q2 q3 => ⟨x, n', I1, q1, q2, q3⟩, fun v H1 ⟨x, n', I1, q1, q2, q3⟩ => k x v n' I1 H1 q1 (q2.rep q3)⟩
/-! a comprehension that draws -/
theorem d_lc [Rep α] [Rep β] {xs : List α} {m : α → DW (Option β)} {fr : List β → DW δ} {vs : List Nat} (h : Stn f a n I H) (hi : EvI f a wi σ xs) (hl : xs.length ≤ 16777216) (e : bindD (compD xs m) fr n M)
    (hb : ∀ (x : α) n' I' H' v (ys : List β) L I1 (M' : Option β → Nat → Prop) (Nn : Hp → Prop) (Ny : VK), x ∈ xs → m x n' M' → Stn f ((a.vw I1).own (lcell L ys)) n' I' H' → Rep.is I' v x →
      (∀ n2 I2 H2, M' none n2 → Stn f ((a.vw I1).own (lcell L ys)) n2 I2 H2 → Nn H2) → (∀ y u n2 I2 H2, M' (some y) n2 → Stn f ((a.vw I1).own (lcell L ys)) n2 I2 H2 → Rep.is I2 u y → Ny u H2) →
      g v (wipe σ vs) H' fun σ2 H2 => wipe σ2 vs = wipe σ vs ∧ tt σ2 H2 fun b H3 => if b = true then te σ2 H3 Ny else Nn H3)
    (k : ∀ ys v n' I1 H1, fr ys n' M → Stn f (a.rep v ys) n' I1 H1 → Q v H1) : tLc wi g tt te vs σ H Q := hi n I H h _ fun J I1 H1 G Y g1 wk hG hY L hL => by
  have h1 := ((h.grow g1).vw (Same.refl _)).new (c := lcell L ([] : List β)) hL ⟨[], rfl, .nil⟩
  refine lc_it wk (fun i H' => ∃ (ys : List β) (n' : Nat) (I' : Hp), ys.length ≤ i ∧ i ≤ xs.length ∧ compD (xs.drop i) m n' (fun zs n2 => fr (ys ++ zs) n2 M) ∧ Stn f ((a.vw I1).own (lcell L ys)) n' I' H') ⟨[], n, I1, Nat.le_refl _, Nat.zero_le _, e, h1⟩ ?_ ?_ ?_
  · rintro i H' _ ⟨ys, n', I', _, _, _, hs⟩
    exact hG H' (hs.γ.2.trans hs.sub)
  · rintro i w H' H'' hi' ⟨ys, n', I', hy1, hy2, e', hs⟩ y
    obtain ⟨x, I3, hx, g3, hrep⟩ := hY i I' H' w H'' hi' hs.γ.2 hs.sub y
    have hxl := (List.getElem?_eq_some_iff.mp hx).1
    have e2 : xs.drop i = x :: xs.drop (i + 1) := by
      rw [List.drop_eq_getElem_cons hxl, (List.getElem?_eq_some_iff.mp hx).2]
    rw [e2] at e'
    refine hb x n' I3 H'' w ys L I1 (fun o n2 => compD (xs.drop (i + 1)) m n2 (fun zs n3 => fr (ys ++ (o.toList ++ zs)) n3 M)) _ _ (List.mem_of_getElem? hx) e' (hs.grow g3) hrep (fun n2 I2 H2 q1 q2 => ⟨ys, n2, I2, by omega, hxl, q1, q2⟩) (fun y u n2 I2 H2 q1 q2 q3 => ?_)
    obtain ⟨o, w2, vs2, rfl, hp2⟩ := q2.ω _ (List.mem_cons_self ..)
    refine ⟨vs2, w2.at_, by rw [Nw.Paired.len hp2, sizeLine_eq]; omega, ys ++ [y], n2, I2, by rw [List.length_append]; exact Nat.succ_le_succ hy1, hxl, ?_, ?_⟩
    · have q1 : compD (xs.drop (i + 1)) m n2 (fun zs n3 => fr (ys ++ ([y] ++ zs)) n3 M) := q1
      simpa only [List.append_assoc] using q1
    · exact q2.put (j := 0) (c := lcell L ys) (c' := lcell L (ys ++ [y])) rfl rfl ⟨_, rfl, Paired.snoc hp2 q3⟩
  · rintro H' ⟨ys, n', I', _, _, e', hs⟩
    rw [List.drop_length] at e'
    obtain ⟨I2, h2⟩ := hs.giveL (j := 0) rfl
    have e' : fr (ys ++ []) n' M := e'
    rw [List.append_nil] at e'
    exact k ys _ n' I2 H' e' (h2.weak (b := a.rep (.ref L) ys) (fun I z => ⟨z.1.1, z.2⟩) rfl)
theorem tyes {A B : Hp → Prop} (h : A H) : tYes σ H (fun b H3 => if b = true then A H3 else B H3) := by
  show (if true = true then A H else B H)
  rw [if_pos rfl]
  exact h
/-! statements -/
theorem d_set [Rep α] {i : Nat} {fr : α → DW δ} (h : Stn f a n I H) (E : EvP f a rv te σ x) (e : bindP x fr n M) (k : ∀ x v I1 H1, fr x n M → Stn f (a.rep v x) n I1 H1 → En.nx (σ.set i (some v)) H1) : tAsg te (gName i) En σ H := st_set (Ψ := fun n (r : DW δ) => r n M) h E e k
theorem d_asg [Rep α] {fr : α → DW δ} {Z : α → L2.St → Amb → Prop} (h : Stn f a n I H) (E : EvP f a rv te σ x) (B : ∀ x, Bd f a g σ x (Z x)) (e : bindP x fr n M) (k : ∀ x σ' a' I1 H1, fr x n M → Z x σ' a' → Stn f a' n I1 H1 → En.nx σ' H1) : tAsg te g En σ H := st_asg (Ψ := fun n (r : DW δ) => r n M) h E B e k
theorem d_par [Rep α] [Rep β] {i j : Nat} {ar : TA} {fr : α → β → DW δ} (h : Stn f a n I H) (E : EvA f a ar σ (x, y, ())) (e : (bindP x fun x => bindP y fun y => fr x y) n M) (k : ∀ x y v w I1 H1, fr x y n M → Stn f ((a.rep v x).rep w y) n I1 H1 → En.nx ((σ.set i (some v)).set j (some w)) H1) : tPar i j ar En σ H := st_par (Ψ := fun n (r : DW δ) => r n M) h E e k
theorem d_if {b : Bool} {A B : DW δ} (h : Stn f a n I H) (E : EvB f a tt σ b) (e : (if b = true then A else B) n M) (k1 : b = true → A n M → ∀ I1 H1, Stn f a n I1 H1 → ts En σ H1) (k2 : b = false → B n M → ∀ I1 H1, Stn f a n I1 H1 → us En σ H1) : tIfS tt ts us En σ H := st_if (Ψ := fun n (r : DW δ) => r n M) h E e k1 k2
theorem d_for [Rep α] {xs : List α} {S : Type} {body : α → S → (S → DW δ) → (S → DW δ) → DW δ} {rest : S → DW δ} {s0 : S} (Rel : S → L2.St → Amb → Prop) (h : Stn f a n I H) (hi : EvI f a wi σ xs) (e : loopP xs body rest s0 n M) (h0 : ∀ I1, Rel s0 σ (a.vw I1))
    (hd : ∀ s σ' a' n' I' H', rest s n' M → Rel s σ' a' → Stn f a' n' I' H' → En.nx σ' H')
    (hb : ∀ x s σ' a' n' I1 (tl : S → DW δ) I' H' v N, x ∈ xs → Rel s σ' a' → (∀ I, a'.Γ I → Same I1 I) → body x s tl rest n' M → Stn f a' n' I' H' → Rep.is I' v x →
      (∀ s' σ3 a3 n3 I3 H3, tl s' n3 M → Rel s' σ3 a3 → (∀ I, a3.Γ I → Same I1 I) → Stn f a3 n3 I3 H3 → N σ3 H3) →
      (∀ s σ' a' n' I' H', rest s n' M → Rel s σ' a' → Stn f a' n' I' H' → En.nx σ' H') → g v σ' H' fun σ2 H2 => ts { En with nx := N, ct := N, bk := En.nx } σ2 H2) : tFor wi g ts En σ H := st_for (Ψ := fun n (r : DW δ) => r n M) Rel h hi e h0 hd hb
theorem d_join {S : Type} {body : (S → DW δ) → DW δ} {rest : S → DW δ} (Rel : S → L2.St → Amb → Prop) (h : Stn f a n I H) (e : joinP body rest n M)
    (hb : ∀ (tl : S → DW δ) (N : L2.St → Hp → Prop), body tl n M → (∀ s' σ3 a3 n3 I3 H3, tl s' n3 M → Rel s' σ3 a3 → Stn f a3 n3 I3 H3 → N σ3 H3) → ts { En with nx := N } σ H)
    (hr : ∀ s σ' a' n' I' H', rest s n' M → Rel s σ' a' → Stn f a' n' I' H' → us En σ' H') : tMid ts us En σ H := st_join (Ψ := fun n (r : DW δ) => r n M) Rel h e hb hr
theorem d_new [Rep α] {i : Nat} {fr : List α → DW δ} (h : Stn f a n I H) (e : bindP ([] : List α) fr n M) (k : ∀ p H1, fr [] n M → Stn f (a.own (lcell p ([] : List α))) n I H1 → En.nx (σ.set i (some (.ref p))) H1) : tAsg (tLst tNil) (gName i) En σ H := st_new (Ψ := fun n (r : DW δ) => r n M) h e k
theorem d_app [Rep α] {i j : Nat} {p : Addr} {xs : List α} {fr : List α → DW δ} (h : Stn f a n I H) (hs : σ[i]? = some (some (.ref p))) (hc : a.Ω[j]? = some (lcell p xs)) (E : EvP f a rv te σ x) (hl : xs.length < 16777216) (e : bindP (xs ++ [x]) fr n M)
    (k : ∀ xs' I1 H1, fr xs' n M → Stn f (a.cells (a.Ω.set j (lcell p xs'))) n I1 H1 → En.nx σ H1) : tDrop (tBM K "list" rAppend (tVar i) (tCons te tNil)) En σ H := st_app (Ψ := fun n (r : DW δ) => r n M) h hs hc E hl e k
/-- append, where the item was told already -/
theorem f_app [Rep α] {j : Nat} {p : Addr} {xs : List α} {fr : List α → DW δ} {C : Hp → Prop} (h : Stn f (a.rep v x) n I H) (hc : a.Ω[j]? = some (lcell p xs)) (hl : xs.length < 16777216) (e : bindP (xs ++ [x]) fr n M)
    (k : ∀ xs' I1 H1, fr xs' n M → Stn f ((a.rep v x).cells ((a.rep v x).Ω.set j (lcell p xs'))) n I1 H1 → C H1) : rAppend (.ref p) [v] H fun _ H1 => C H1 := by
  obtain ⟨o, w, vs, rfl, hp⟩ := h.ω _ (List.mem_of_getElem? hc)
  exact ⟨p, vs, v, rfl, rfl, w.at_, by rw [Nw.Paired.len hp, sizeLine_eq]; exact hl, k _ I _ e (h.put (c' := lcell p (xs ++ [x])) hc rfl ⟨_, rfl, Paired.snoc hp h.γ.2⟩)⟩
theorem d_augA {i : Nat} {j x : Int} {fr : Int → DW δ} (h : Stn f a n I H) (hs : σ[i]? = some (some w)) (r : ∀ I, a.Γ I → Rep.is I w j) (E : EvP f a rv te σ x) (e : bindP (j + x) fr n M) (k : ∀ x v I1 H1, fr x n M → Stn f (a.rep v x) n I1 H1 → En.nx (σ.set i (some v)) H1) : tAug i te rAdd En σ H := st_augA (Ψ := fun n (r : DW δ) => r n M) h hs r E e k
theorem d_while {S : Type} {m : Nat} {c : S → DW Bool} {body : S → (S → DW δ) → (S → DW δ) → DW δ} {rest : S → DW δ} {s0 : S} (Rel : S → L2.St → Amb → Prop) (h : Stn f a n I H) (e : whileD m c body rest s0 n M) (h0 : Rel s0 σ a)
    (hc : ∀ s σ' a' n' I' H' (M' : Bool → Nat → Prop) (N : Bool → Hp → Prop), Rel s σ' a' → c s n' M' → Stn f a' n' I' H' → (∀ b n2 I2 H2, M' b n2 → Stn f a' n2 I2 H2 → N b H2) → tt σ' H' N)
    (hd : ∀ s σ' a' n' I' H', rest s n' M → Rel s σ' a' → Stn f a' n' I' H' → En.nx σ' H')
    (hb : ∀ s σ' a' n' (tl : S → DW δ) I' H' N, Rel s σ' a' → body s tl rest n' M → Stn f a' n' I' H' →
      (∀ s' σ3 a3 n3 I3 H3, tl s' n3 M → Rel s' σ3 a3 → Stn f a3 n3 I3 H3 → N σ3 H3) →
      (∀ s σ' a' n' I' H', rest s n' M → Rel s σ' a' → Stn f a' n' I' H' → En.nx σ' H') → ts { En with nx := N, ct := N, bk := En.nx } σ' H') : tWhile tt ts En σ H := by
  refine ⟨fun m σ' H' => ∃ s a' n' I', whileD m c body rest s n' M ∧ Rel s σ' a' ∧ Stn f a' n' I' H', ⟨m, s0, a, n, I, e, h0, h⟩, ?_⟩
  rintro m σ' H' ⟨s, a', n', I', e', hr, hs⟩
  cases m with
  | zero => exact e'.elim
  | succ m =>
    refine hc s σ' a' n' I' H' _ _ hr e' hs fun b n2 I2 H2 e2 h2 => ?_
    cases b with
    | false =>
      rw [if_neg Bool.false_ne_true] at e2 ⊢
      exact hd s σ' a' n2 I2 H2 e2 hr h2
    | true =>
      rw [if_pos rfl] at e2 ⊢
      exact ⟨fun σ' H' => ∃ s a' n' I', whileD m c body rest s n' M ∧ Rel s σ' a' ∧ Stn f a' n' I' H', fun σ3 H3 z => ⟨m, Nat.lt_succ_self m, z⟩, hb s σ' a' n2 _ I2 H2 _ hr e2 h2 (fun s' σ3 a3 n3 I3 H3 q1 q2 q3 => ⟨s', a3, n3, I3, q1, q2, q3⟩) hd⟩
end
end Nw

namespace Nw
open PySem PySem.Spec PyProof.Rows L2
/-! ### a part is asked ahead of the whole -/
section
variable {f : Fr} {a : Amb} {α β γ δ : Type} {σ : L2.St} {te ta tb tc td : TE} {tt t u : TT} {x : α} {y : β} {z : γ} {v w : V} {K : PySem.W.Frag} {wi : TI} {g : TG} {n : Nat} {I H : Hp} {En : Ends} {ts us : TS} {Q : VK} {D : DA} {M : δ → Nat → Prop} {tr : TA} {vs : List Nat}
theorem ep_cv [Rep α] (r : ∀ I, a.Γ I → Rep.is I v x) : EvP f a rv (tC v) σ x := fun n I H s Q k => k v I H (Grow.refl s.sub) (r I s.γ)
theorem ho_op1 {r : R2} (h : ta σ H fun v H1 => tOp r (tC v) tb σ H1 Q) : tOp r ta tb σ H Q := h
theorem ho_op2 {r : R2} (h : tb σ H fun w H1 => tOp r (tC v) (tC w) σ H1 Q) : tOp r (tC v) tb σ H Q := h
theorem ho_un {r : V → Hp → VK → Prop} (h : te σ H fun v H1 => tUn r (tC v) σ H1 Q) : tUn r te σ H Q := h
theorem ho_m0 {r : V → List V → Hp → VK → Prop} (h : te σ H fun v H1 => tM0 r (tC v) σ H1 Q) : tM0 r te σ H Q := h
theorem ho_asg (h : te σ H fun v H1 => tAsg (tC v) g En σ H1) : tAsg te g En σ H := h
theorem ho_ret (h : te σ H fun v H1 => tRet (tC v) En σ H1) : tRet te En σ H := h
theorem ho_drop (h : te σ H fun v H1 => tDrop (tC v) En σ H1) : tDrop te En σ H := h
theorem ho_if (h : te σ H fun v H1 => tIfS (tTest (tC v)) ts us En σ H1) : tIfS (tTest te) ts us En σ H := h
theorem ho_ifB (h : te σ H fun v H1 => tIfS (tB (tC v)) ts us En σ H1) : tIfS (tB te) ts us En σ H := h
theorem ho_ifN (h : te σ H fun v H1 => tIfS (tNot (tTest (tC v))) ts us En σ H1) : tIfS (tNot (tTest te)) ts us En σ H := h
theorem ho_ifNB (h : te σ H fun v H1 => tIfS (tNot (tB (tC v))) ts us En σ H1) : tIfS (tNot (tB te)) ts us En σ H := h
theorem ho_slV {r : V → Option Int → Option Int → Hp → VK → Prop} {tl th : TO} (h : te σ H fun v H1 => tSl r (tC v) tl th σ H1 Q) : tSl r te tl th σ H Q := h
theorem ho_sl1 {r : V → Option Int → Option Int → Hp → VK → Prop} {th : TO} (h : te σ H fun i H1 => tSl r (tC v) (tPart (tC i)) th σ H1 Q) : tSl r (tC v) (tPart te) th σ H Q := h
theorem ho_sl2 {r : V → Option Int → Option Int → Hp → VK → Prop} (h : te σ H fun i H1 => tSl r (tC v) tNoPart (tPart (tC i)) σ H1 Q) : tSl r (tC v) tNoPart (tPart te) σ H Q := h
theorem ho_par0 {i j : Nat} (h : te σ H fun v H1 => tPar i j (tCons (tC v) tr) En σ H1) : tPar i j (tCons te tr) En σ H := h
theorem ho_par1 {i j : Nat} (h : te σ H fun w H1 => tPar i j (tCons (tC v) (tCons (tC w) tr)) En σ H1) : tPar i j (tCons (tC v) (tCons te tr)) En σ H := h
theorem ho_forR (h : te σ H fun v H1 => tFor (iRng1 (tCons (tC v) tNil)) g ts En σ H1) : tFor (iRng1 (tCons te tNil)) g ts En σ H := h
theorem ho_forL (h : te σ H fun v H1 => tFor (iList K (tC v)) g ts En σ H1) : tFor (iList K te) g ts En σ H := h
theorem ho_forT (h : te σ H fun v H1 => tFor (iTup K (tC v)) g ts En σ H1) : tFor (iTup K te) g ts En σ H := h
theorem ho_forS (h : te σ H fun v H1 => tFor (iStr (tC v)) g ts En σ H1) : tFor (iStr te) g ts En σ H := h
theorem ho_lcR {te' : TE} (h : te σ H fun v H1 => tLc (iRng1 (tCons (tC v) tNil)) g tt te' vs σ H1 Q) : tLc (iRng1 (tCons te tNil)) g tt te' vs σ H Q := h
theorem ho_lcL {te' : TE} (h : te σ H fun v H1 => tLc (iList K (tC v)) g tt te' vs σ H1 Q) : tLc (iList K te) g tt te' vs σ H Q := h
theorem ho_lcS {te' : TE} (h : te σ H fun v H1 => tLc (iStr (tC v)) g tt te' vs σ H1 Q) : tLc (iStr te) g tt te' vs σ H Q := h
/-- what only hands on its arguments -/
structure Lin (C : TA → TE) : Prop where
  ex : ∃ k : L2.St → VK → List V → Hp → Prop, ∀ ta σ H Q, C ta σ H Q = ta σ H (k σ Q)
theorem lin_tup : Lin tTup := ⟨_, fun _ _ _ _ => rfl⟩
theorem lin_lst : Lin tLst := ⟨_, fun _ _ _ _ => rfl⟩
theorem lin_call {sp : Sp} {dvs : List V} {E : XK} : Lin (tCall sp dvs E) := ⟨_, fun _ _ _ _ => rfl⟩
theorem lin_cb {r : List V → Hp → VK → Prop} : Lin (tCB r) := ⟨_, fun _ _ _ _ => rfl⟩
variable {C : TA → TE} {v0 v1 v2 v3 : V}
theorem hoV {i : Nat} (L : Lin C) (hs : σ[i]? = some (some v)) (h : C (tCons (tC v) tr) σ H Q) : C (tCons (tVar i) tr) σ H Q := by
  obtain ⟨k, e⟩ := L.ex
  rw [e] at h ⊢
  exact ⟨v, hs, h⟩
theorem hoA0 (L : Lin C) (h : te σ H fun v H1 => C (tCons (tC v) tr) σ H1 Q) : C (tCons te tr) σ H Q := by
  obtain ⟨k, e⟩ := L.ex
  rw [e]
  simp only [e] at h
  exact h
theorem hoA1 (L : Lin C) (h : te σ H fun v H1 => C (tCons (tC v0) (tCons (tC v) tr)) σ H1 Q) : C (tCons (tC v0) (tCons te tr)) σ H Q := by
  obtain ⟨k, e⟩ := L.ex
  rw [e]
  simp only [e] at h
  exact h
theorem hoA2 (L : Lin C) (h : te σ H fun v H1 => C (tCons (tC v0) (tCons (tC v1) (tCons (tC v) tr))) σ H1 Q) : C (tCons (tC v0) (tCons (tC v1) (tCons te tr))) σ H Q := by
  obtain ⟨k, e⟩ := L.ex
  rw [e]
  simp only [e] at h
  exact h
theorem hoA3 (L : Lin C) (h : te σ H fun v H1 => C (tCons (tC v0) (tCons (tC v1) (tCons (tC v2) (tCons (tC v) tr)))) σ H1 Q) : C (tCons (tC v0) (tCons (tC v1) (tCons (tC v2) (tCons te tr)))) σ H Q := by
  obtain ⟨k, e⟩ := L.ex
  rw [e]
  simp only [e] at h
  exact h
theorem hoA4 (L : Lin C) (h : te σ H fun v H1 => C (tCons (tC v0) (tCons (tC v1) (tCons (tC v2) (tCons (tC v3) (tCons (tC v) tr))))) σ H1 Q) : C (tCons (tC v0) (tCons (tC v1) (tCons (tC v2) (tCons (tC v3) (tCons te tr))))) σ H Q := by
  obtain ⟨k, e⟩ := L.ex
  rw [e]
  simp only [e] at h
  exact h
/-! calls that draw; td: the draws' own name -/
def IsDr (td : TE) (σ : L2.St) (D : DA) : Prop := ∀ (H : Hp) (Q : VK), Q (.ref D.d) H → td σ H Q
theorem dr_v {i : Nat} (h : σ[i]? = some (some (.ref D.d))) : IsDr (tVar i) σ D := fun _ _ q => ⟨_, h, q⟩
theorem dr_c : IsDr (tC (.ref D.d)) σ D := fun _ _ q => q
theorem d_callD [RepA α] [Rep β] {F : α → DW β} {fr : β → DW δ} (df : DFr f D) (hd : IsDr td σ D) (h : Stn f a n I H) (E : EvA f a tr σ x) (e : bindD (F x) fr n M) (k : ∀ y v n' I1 H1, fr y n' M → Stn f (a.rep v y) n' I1 H1 → Q v H1) : tCall (spD F) [] E0 (tCons td tr) σ H Q :=
  hd _ _ (E n I H h _ fun ws I1 H1 g r => f_callD df (h.grow g) r e k)
theorem d_next {i : Int} {fr : Int → DW δ} (df : DFr f D) (hd : IsDr td σ D) (h : Stn f a n I H) (E : EvP f a rv te σ i) (e : bindD (F_next i) fr n M) (k : ∀ y v n' I1 H1, fr y n' M → Stn f (a.rep v y) n' I1 H1 → Q v H1) : tCall spNext [] E0 (tCons td (tCons te tNil)) σ H Q :=
  hd _ _ (E n I H h _ fun w I1 H1 g r => f_next df (h.grow g) r e k)
def F_pick (xs : List α) : DW α := fun n M => (xs ≠ [] ∧ xs.length ≤ 1000000 ∧ n < lim) ∧ ∀ x ∈ xs, M x (n + 1)
def F_shuffled (xs : List α) : DW (List α) := fun n M => (n + xs.length < lim ∧ xs.length ≤ 1000) ∧ ∀ ys : List α, ys.Perm xs → M ys (n + xs.length)
def F_some (many : Int) : DW Tx := fun n M => (1 ≤ many ∧ many ≤ 1000 ∧ n + 5 < lim) ∧ ∀ l : List Nat, l.Nodup → (∀ c ∈ l, 97 ≤ c ∧ c ≤ 100) → l ≠ [] → (l.length : Int) ≤ many → M ⟨l⟩ (n + 5)
theorem d_appD [Rep α] {i j : Nat} {p : Addr} {xs : List α} (hs : σ[i]? = some (some (.ref p))) (h : Stn f a n I H) (hc : a.Ω[j]? = some (lcell p xs)) (hh : te σ H fun w H1 => rAppend (.ref p) [w] H1 fun _ H1 => En.nx σ H1) : tDrop (tBM K "list" rAppend (tVar i) (tCons te tNil)) En σ H := by
  obtain ⟨o, w, vs, rfl, hp⟩ := h.ω _ (List.mem_of_getElem? hc)
  exact ⟨_, hs, .inl ⟨rfl, _, SqL.of w.at_⟩, hh⟩
theorem f_app2 [Rep α] {j : Nat} {p : Addr} {xs : List α} {fr : List α → DW δ} {C : Hp → Prop} (h : Stn f a n I H) (hc : a.Ω[j]? = some (lcell p xs)) (r : Rep.is I v x) (hl : xs.length < 16777216) (e : bindP (xs ++ [x]) fr n M)
    (k : ∀ xs' I1 H1, fr xs' n M → Stn f (a.cells (a.Ω.set j (lcell p xs'))) n I1 H1 → C H1) : rAppend (.ref p) [v] H fun _ H1 => C H1 := by
  obtain ⟨o, w, vs, rfl, hp⟩ := h.ω _ (List.mem_of_getElem? hc)
  exact ⟨p, vs, v, rfl, rfl, w.at_, by rw [Nw.Paired.len hp, sizeLine_eq]; exact hl, k _ I _ e (h.put (c' := lcell p (xs ++ [x])) hc rfl ⟨_, rfl, Paired.snoc hp r⟩)⟩
theorem f_joinS {xs : List Sg} (h : Stn f a n I H) (r : Rep.is I v xs) (hl : xs.length ≤ 100000) (k : ∀ u I1 H1, Stn f (a.rep u (tx (xs.map Sg.c))) n I1 H1 → Q u H1) : ∃ a p, ∃ ys : List Str, V.str ("" : Str) = .str a ∧ [v] = [.ref p] ∧ (SqL K H p (ys.map V.str) ∨ SqT K H p (ys.map V.str)) ∧ (ys.map (·.length)).sum + ys.length * a.length ≤ 16777216 ∧ Q (.str (Txt.join a ys)) H := by
  have z := (ep_joinS (K := K) (f := f) (a := a.rep v xs) (σ := []) (xs := xs) (e := ⟨[]⟩) rfl (ta := tC (.str "")) (te := tC v) (ep_txc (l := []) rfl (by decide)) (EvP.rl (ep_cv fun I γ => γ.2)) hl) n I H (h.rep r) Q fun u I1 H1 g r1 => k u I1 H1 ((h.grow g).rep r1)
  exact z.2
theorem f_joinT {xs : List Tx} (h : Stn f a n I H) (r : Rep.is I v xs) (hl : (catT xs).l.length ≤ 100000) (k : ∀ u I1 H1, Stn f (a.rep u (catT xs)) n I1 H1 → Q u H1) : ∃ a p, ∃ ys : List Str, V.str ("" : Str) = .str a ∧ [v] = [.ref p] ∧ (SqL K H p (ys.map V.str) ∨ SqT K H p (ys.map V.str)) ∧ (ys.map (·.length)).sum + ys.length * a.length ≤ 16777216 ∧ Q (.str (Txt.join a ys)) H := by
  have z := (ep_joinT (K := K) (f := f) (a := a.rep v xs) (σ := []) (xs := xs) (e := ⟨[]⟩) rfl (ta := tC (.str "")) (te := tC v) (ep_txc (l := []) rfl (by decide)) (EvP.rl (ep_cv fun I γ => γ.2)) hl) n I H (h.rep r) Q fun u I1 H1 g r1 => k u I1 H1 ((h.grow g).rep r1)
  exact z.2
theorem ho_par2N0 {α : Type} [Rep α] {i j : Nat} (h : Stn f a n I H) (k : ∀ p H1, Stn f (a.own (lcell p ([] : List α))) n I H1 → tPar i j (tCons (tC (.ref p)) tr) En σ H1) : tPar i j (tCons (tLst tNil) tr) En σ H := ⟨Nat.zero_le _, fun p hp => k p _ (h.new (c := lcell p []) hp ⟨[], rfl, .nil⟩)⟩
theorem ho_par2N1 {α : Type} [Rep α] {i j : Nat} (h : Stn f a n I H) (k : ∀ p H1, Stn f (a.own (lcell p ([] : List α))) n I H1 → tPar i j (tCons (tC v) (tCons (tC (.ref p)) tr)) En σ H1) : tPar i j (tCons (tC v) (tCons (tLst tNil) tr)) En σ H := ⟨Nat.zero_le _, fun p hp => k p _ (h.new (c := lcell p []) hp ⟨[], rfl, .nil⟩)⟩
theorem ho_par3N0 {α : Type} [Rep α] {i j l : Nat} (h : Stn f a n I H) (k : ∀ p H1, Stn f (a.own (lcell p ([] : List α))) n I H1 → tPar3 i j l (tCons (tC (.ref p)) tr) En σ H1) : tPar3 i j l (tCons (tLst tNil) tr) En σ H := ⟨Nat.zero_le _, fun p hp => k p _ (h.new (c := lcell p []) hp ⟨[], rfl, .nil⟩)⟩
theorem ho_par3N1 {α : Type} [Rep α] {i j l : Nat} (h : Stn f a n I H) (k : ∀ p H1, Stn f (a.own (lcell p ([] : List α))) n I H1 → tPar3 i j l (tCons (tC v) (tCons (tC (.ref p)) tr)) En σ H1) : tPar3 i j l (tCons (tC v) (tCons (tLst tNil) tr)) En σ H := ⟨Nat.zero_le _, fun p hp => k p _ (h.new (c := lcell p []) hp ⟨[], rfl, .nil⟩)⟩
theorem ho_par3N2 {α : Type} [Rep α] {i j l : Nat} (h : Stn f a n I H) (k : ∀ p H1, Stn f (a.own (lcell p ([] : List α))) n I H1 → tPar3 i j l (tCons (tC v) (tCons (tC w) (tCons (tC (.ref p)) tr))) En σ H1) : tPar3 i j l (tCons (tC v) (tCons (tC w) (tCons (tLst tNil) tr))) En σ H := ⟨Nat.zero_le _, fun p hp => k p _ (h.new (c := lcell p []) hp ⟨[], rfl, .nil⟩)⟩
theorem ho_par2_0 {i j : Nat} (h : te σ H fun v H1 => tPar i j (tCons (tC v) tr) En σ H1) : tPar i j (tCons te tr) En σ H := h
theorem ho_par2_1 {i j : Nat} (h : te σ H fun w H1 => tPar i j (tCons (tC v) (tCons (tC w) tr)) En σ H1) : tPar i j (tCons (tC v) (tCons te tr)) En σ H := h
theorem ho_par3_0 {i j l : Nat} (h : te σ H fun v H1 => tPar3 i j l (tCons (tC v) tr) En σ H1) : tPar3 i j l (tCons te tr) En σ H := h
theorem ho_par3_1 {i j l : Nat} (h : te σ H fun w H1 => tPar3 i j l (tCons (tC v) (tCons (tC w) tr)) En σ H1) : tPar3 i j l (tCons (tC v) (tCons te tr)) En σ H := h
theorem ho_par3_2 {i j l : Nat} {u : V} (h : te σ H fun w H1 => tPar3 i j l (tCons (tC v) (tCons (tC u) (tCons (tC w) tr))) En σ H1) : tPar3 i j l (tCons (tC v) (tCons (tC u) (tCons te tr))) En σ H := h
theorem mid_out {QB : Bool → Hp → Prop} (h : t σ H QB) : tMidB t σ H QB := ⟨QB, h, fun _ _ z => z⟩
theorem ho_and {u : TT} {QB : Bool → Hp → Prop} (h : t σ H fun c H1 => if c = true then u σ H1 QB else QB false H1) : tAnd t u σ H QB := h
theorem ho_or {u : TT} {QB : Bool → Hp → Prop} (h : t σ H fun c H1 => if c = true then QB true H1 else u σ H1 QB) : tOr t u σ H QB := h
theorem ho_not {QB : Bool → Hp → Prop} (h : t σ H fun c H1 => QB (!c) H1) : tNot t σ H QB := h
theorem ho_test {QB : Bool → Hp → Prop} (h : te σ H fun x H1 => ∃ k, x = .bl k ∧ QB k H1) : tTest te σ H QB := h
theorem ho_val {QB : Bool → Hp → Prop} (h : te σ H fun x H1 => ∃ k, x = .bl k ∧ QB k H1) : tB te σ H QB := h
theorem par2_done {i j : Nat} (h : En.nx ((σ.set i (some v)).set j (some w)) H) : tPar i j (tCons (tC v) (tCons (tC w) tNil)) En σ H := ⟨_, _, rfl, h⟩
theorem par3_done {i j l : Nat} {u : V} (h : En.nx (((σ.set i (some v)).set j (some w)).set l (some u)) H) : tPar3 i j l (tCons (tC v) (tCons (tC w) (tCons (tC u) tNil))) En σ H := ⟨_, _, _, rfl, h⟩
theorem ho_asgs {us2 : TS} (h : te σ H fun v H1 => tSeq (tAsg (tC v) g) us2 En σ H1) : tSeq (tAsg te g) us2 En σ H := ho_asg (En := { En with nx := us2 En }) h
theorem ho_drops {us2 : TS} (h : te σ H fun v H1 => tSeq (tDrop (tC v)) us2 En σ H1) : tSeq (tDrop te) us2 En σ H := ho_drop (En := { En with nx := us2 En }) h
theorem ho_ifs {us2 : TS} (h : te σ H fun v H1 => tSeq (tIfS (tTest (tC v)) ts us) us2 En σ H1) : tSeq (tIfS (tTest te) ts us) us2 En σ H := ho_if (En := { En with nx := us2 En }) h
theorem ho_ifBs {us2 : TS} (h : te σ H fun v H1 => tSeq (tIfS (tB (tC v)) ts us) us2 En σ H1) : tSeq (tIfS (tB te) ts us) us2 En σ H := ho_ifB (En := { En with nx := us2 En }) h
theorem ho_ifNs {us2 : TS} (h : te σ H fun v H1 => tSeq (tIfS (tNot (tTest (tC v))) ts us) us2 En σ H1) : tSeq (tIfS (tNot (tTest te)) ts us) us2 En σ H := ho_ifN (En := { En with nx := us2 En }) h
theorem ho_ifNBs {us2 : TS} (h : te σ H fun v H1 => tSeq (tIfS (tNot (tB (tC v))) ts us) us2 En σ H1) : tSeq (tIfS (tNot (tB te)) ts us) us2 En σ H := ho_ifNB (En := { En with nx := us2 En }) h
theorem ho_par0s {us2 : TS} {i j : Nat} (h : te σ H fun v H1 => tSeq (tPar i j (tCons (tC v) tr)) us2 En σ H1) : tSeq (tPar i j (tCons te tr)) us2 En σ H := ho_par0 (En := { En with nx := us2 En }) h
theorem ho_par1s {us2 : TS} {i j : Nat} (h : te σ H fun w H1 => tSeq (tPar i j (tCons (tC v) (tCons (tC w) tr))) us2 En σ H1) : tSeq (tPar i j (tCons (tC v) (tCons te tr))) us2 En σ H := ho_par1 (En := { En with nx := us2 En }) h
theorem ho_forRs {us2 : TS} (h : te σ H fun v H1 => tSeq (tFor (iRng1 (tCons (tC v) tNil)) g ts) us2 En σ H1) : tSeq (tFor (iRng1 (tCons te tNil)) g ts) us2 En σ H := ho_forR (En := { En with nx := us2 En }) h
theorem ho_forLs {us2 : TS} (h : te σ H fun v H1 => tSeq (tFor (iList K (tC v)) g ts) us2 En σ H1) : tSeq (tFor (iList K te) g ts) us2 En σ H := ho_forL (En := { En with nx := us2 En }) h
theorem ho_forTs {us2 : TS} (h : te σ H fun v H1 => tSeq (tFor (iTup K (tC v)) g ts) us2 En σ H1) : tSeq (tFor (iTup K te) g ts) us2 En σ H := ho_forT (En := { En with nx := us2 En }) h
theorem ho_forSs {us2 : TS} (h : te σ H fun v H1 => tSeq (tFor (iStr (tC v)) g ts) us2 En σ H1) : tSeq (tFor (iStr te) g ts) us2 En σ H := ho_forS (En := { En with nx := us2 En }) h
theorem d_appDs {us2 : TS} [Rep α] {i j : Nat} {p : Addr} {xs : List α} (hs : σ[i]? = some (some (.ref p))) (h : Stn f a n I H) (hc : a.Ω[j]? = some (lcell p xs)) (hh : te σ H fun w H1 => rAppend (.ref p) [w] H1 fun _ H1 => us2 En σ H1) : tSeq (tDrop (tBM K "list" rAppend (tVar i) (tCons te tNil))) us2 En σ H := d_appD (En := { En with nx := us2 En }) hs h hc hh
theorem ho_par2_0s {us2 : TS} {i j : Nat} (h : te σ H fun v H1 => tSeq (tPar i j (tCons (tC v) tr)) us2 En σ H1) : tSeq (tPar i j (tCons te tr)) us2 En σ H := ho_par2_0 (En := { En with nx := us2 En }) h
theorem ho_par2_1s {us2 : TS} {i j : Nat} (h : te σ H fun w H1 => tSeq (tPar i j (tCons (tC v) (tCons (tC w) tr))) us2 En σ H1) : tSeq (tPar i j (tCons (tC v) (tCons te tr))) us2 En σ H := ho_par2_1 (En := { En with nx := us2 En }) h
theorem ho_par3_0s {us2 : TS} {i j l : Nat} (h : te σ H fun v H1 => tSeq (tPar3 i j l (tCons (tC v) tr)) us2 En σ H1) : tSeq (tPar3 i j l (tCons te tr)) us2 En σ H := ho_par3_0 (En := { En with nx := us2 En }) h
theorem ho_par3_1s {us2 : TS} {i j l : Nat} (h : te σ H fun w H1 => tSeq (tPar3 i j l (tCons (tC v) (tCons (tC w) tr))) us2 En σ H1) : tSeq (tPar3 i j l (tCons (tC v) (tCons te tr))) us2 En σ H := ho_par3_1 (En := { En with nx := us2 En }) h
theorem ho_par3_2s {us2 : TS} {i j l : Nat} {u : V} (h : te σ H fun w H1 => tSeq (tPar3 i j l (tCons (tC v) (tCons (tC u) (tCons (tC w) tr)))) us2 En σ H1) : tSeq (tPar3 i j l (tCons (tC v) (tCons (tC u) (tCons te tr)))) us2 En σ H := ho_par3_2 (En := { En with nx := us2 En }) h
theorem par2_dones {us2 : TS} {i j : Nat} (h : us2 En ((σ.set i (some v)).set j (some w)) H) : tSeq (tPar i j (tCons (tC v) (tCons (tC w) tNil))) us2 En σ H := par2_done (En := { En with nx := us2 En }) h
theorem par3_dones {us2 : TS} {i j l : Nat} {u : V} (h : us2 En (((σ.set i (some v)).set j (some w)).set l (some u)) H) : tSeq (tPar3 i j l (tCons (tC v) (tCons (tC w) (tCons (tC u) tNil)))) us2 En σ H := par3_done (En := { En with nx := us2 En }) h
theorem ho_par2N0s {us2 : TS} {α : Type} [Rep α] {i j : Nat} (h : Stn f a n I H) (k : ∀ p H1, Stn f (a.own (lcell p ([] : List α))) n I H1 → tSeq (tPar i j (tCons (tC (.ref p)) tr)) us2 En σ H1) : tSeq (tPar i j (tCons (tLst tNil) tr)) us2 En σ H := ⟨Nat.zero_le _, fun p hp => k p _ (h.new (c := lcell p []) hp ⟨[], rfl, .nil⟩)⟩
theorem ho_par2N1s {us2 : TS} {α : Type} [Rep α] {i j : Nat} (h : Stn f a n I H) (k : ∀ p H1, Stn f (a.own (lcell p ([] : List α))) n I H1 → tSeq (tPar i j (tCons (tC v) (tCons (tC (.ref p)) tr))) us2 En σ H1) : tSeq (tPar i j (tCons (tC v) (tCons (tLst tNil) tr))) us2 En σ H := ⟨Nat.zero_le _, fun p hp => k p _ (h.new (c := lcell p []) hp ⟨[], rfl, .nil⟩)⟩
theorem ho_par3N0s {us2 : TS} {α : Type} [Rep α] {i j l : Nat} (h : Stn f a n I H) (k : ∀ p H1, Stn f (a.own (lcell p ([] : List α))) n I H1 → tSeq (tPar3 i j l (tCons (tC (.ref p)) tr)) us2 En σ H1) : tSeq (tPar3 i j l (tCons (tLst tNil) tr)) us2 En σ H := ⟨Nat.zero_le _, fun p hp => k p _ (h.new (c := lcell p []) hp ⟨[], rfl, .nil⟩)⟩
theorem ho_par3N1s {us2 : TS} {α : Type} [Rep α] {i j l : Nat} (h : Stn f a n I H) (k : ∀ p H1, Stn f (a.own (lcell p ([] : List α))) n I H1 → tSeq (tPar3 i j l (tCons (tC v) (tCons (tC (.ref p)) tr))) us2 En σ H1) : tSeq (tPar3 i j l (tCons (tC v) (tCons (tLst tNil) tr))) us2 En σ H := ⟨Nat.zero_le _, fun p hp => k p _ (h.new (c := lcell p []) hp ⟨[], rfl, .nil⟩)⟩
theorem ho_par3N2s {us2 : TS} {α : Type} [Rep α] {i j l : Nat} (h : Stn f a n I H) (k : ∀ p H1, Stn f (a.own (lcell p ([] : List α))) n I H1 → tSeq (tPar3 i j l (tCons (tC v) (tCons (tC w) (tCons (tC (.ref p)) tr)))) us2 En σ H1) : tSeq (tPar3 i j l (tCons (tC v) (tCons (tC w) (tCons (tLst tNil) tr)))) us2 En σ H := ⟨Nat.zero_le _, fun p hp => k p _ (h.new (c := lcell p []) hp ⟨[], rfl, .nil⟩)⟩
theorem ho_joinM {r : V → List V → Hp → VK → Prop} {s : Str} (h : te σ H fun v H1 => tM1 r (tC (.str s)) (tC v) σ H1 Q) : tM1 r (tC (.str s)) (tMidE te) σ H Q := ⟨⟨s, rfl⟩, _, h, fun v H' z => z.2⟩
theorem os_II {g : Int → Int → V} {i j z : Int} (h : g i j = V.int z) : OpS (rI0 g) rv rv rv i j z := fun I H v w sb h1 h2 Q k => ⟨i, j, h1, h2, k _ I H (Grow.refl sb) h⟩
theorem os_IB {g : Int → Int → V} {i j : Int} {z : Bool} (h : g i j = V.bl z) : OpS (rI0 g) rv rv rv i j z := fun I H v w sb h1 h2 Q k => ⟨i, j, h1, h2, k _ I H (Grow.refl sb) h⟩
theorem os_IC {C : Int → Int → Prop} {g : Int → Int → V} {i j z : Int} (hc : C i j) (h : g i j = V.int z) : OpS (rI C g) rv rv rv i j z := fun I H v w sb h1 h2 Q k => ⟨i, j, h1, h2, hc, k _ I H (Grow.refl sb) h⟩
end
end Nw

namespace Nw
open PySem PySem.Spec PyProof.Rows L2
/-! ### the same, ahead of other statements -/
theorem nx_of {X : L2.St → Hp → Prop} {rt : VK} {bk ct : L2.St → Hp → Prop} {σ : L2.St} {H : Hp} (h : X σ H) : Ends.nx ⟨X, rt, bk, ct⟩ σ H := h
theorem next_of {X : L2.St → Hp → Prop} {rt : VK} {bk ct : L2.St → Hp → Prop} {σ : L2.St} {H : Hp} (h : X σ H) : tNext ⟨X, rt, bk, ct⟩ σ H := h
section
variable {f : Fr} {a : Amb} {α β γ δ : Type} {σ : L2.St} {te ta tb tc : TE} {tt t u : TT} {x : α} {y : β} {z : γ} {v w : V} {K : PySem.W.Frag} {wi : TI} {g : TG} {n : Nat} {I H : Hp} {ts us : TS} {Q : VK}
section
variable {D : Ends} {R : δ}
theorem p_sets {us2 : TS} [Rep α] {i : Nat} {fr : α → δ} (h : Stn f a n I H) (E : EvP f a rv te σ x) (e : bindP x fr = R) (k : ∀ x v I1 H1, fr x = R → Stn f (a.rep v x) n I1 H1 → us2 D (σ.set i (some v)) H1) : tSeq (tAsg te (gName i)) us2 D σ H := p_set (D := { D with nx := us2 D }) h E e k
theorem p_asgs {us2 : TS} [Rep α] {fr : α → δ} {Z : α → L2.St → Amb → Prop} (h : Stn f a n I H) (E : EvP f a rv te σ x) (B : ∀ x, Bd f a g σ x (Z x)) (e : bindP x fr = R) (k : ∀ x σ' a' I1 H1, fr x = R → Z x σ' a' → Stn f a' n I1 H1 → us2 D σ' H1) : tSeq (tAsg te g) us2 D σ H := p_asg (D := { D with nx := us2 D }) h E B e k
theorem p_pars {us2 : TS} [Rep α] [Rep β] {i j : Nat} {ar : TA} {fr : α → β → δ} (h : Stn f a n I H) (E : EvA f a ar σ (x, y, ())) (e : (bindP x fun x => bindP y fun y => fr x y) = R) (k : ∀ x y v w I1 H1, fr x y = R → Stn f ((a.rep v x).rep w y) n I1 H1 → us2 D ((σ.set i (some v)).set j (some w)) H1) : tSeq (tPar i j ar) us2 D σ H := p_par (D := { D with nx := us2 D }) h E e k
theorem p_ifs {us2 : TS} {b : Bool} {A B : δ} (h : Stn f a n I H) (E : EvB f a tt σ b) (e : (if b = true then A else B) = R) (k1 : b = true → A = R → ∀ I1 H1, Stn f a n I1 H1 → ts { D with nx := us2 D } σ H1) (k2 : b = false → B = R → ∀ I1 H1, Stn f a n I1 H1 → us { D with nx := us2 D } σ H1) : tSeq (tIfS tt ts us) us2 D σ H := p_if (D := { D with nx := us2 D }) h E e k1 k2
theorem p_fors {us2 : TS} [Rep α] {xs : List α} {S : Type} {body : α → S → (S → δ) → (S → δ) → δ} {rest : S → δ} {s0 : S} (Rel : S → L2.St → Amb → Prop) (h : Stn f a n I H) (hi : EvI f a wi σ xs) (e : loopP xs body rest s0 = R) (h0 : ∀ I1, Rel s0 σ (a.vw I1))
    (hd : ∀ s σ' a' n' I' H', rest s = R → Rel s σ' a' → Stn f a' n' I' H' → us2 D σ' H')
    (hb : ∀ x s σ' a' n' I1 (tl : S → δ) I' H' v N, x ∈ xs → Rel s σ' a' → (∀ I, a'.Γ I → Same I1 I) → body x s tl rest = R → Stn f a' n' I' H' → Rep.is I' v x →
      (∀ s' σ3 a3 n3 I3 H3, tl s' = R → Rel s' σ3 a3 → (∀ I, a3.Γ I → Same I1 I) → Stn f a3 n3 I3 H3 → N σ3 H3) →
      (∀ s σ' a' n' I' H', rest s = R → Rel s σ' a' → Stn f a' n' I' H' → us2 D σ' H') → g v σ' H' fun σ2 H2 => ts { D with nx := N, ct := N, bk := us2 D } σ2 H2) : tSeq (tFor wi g ts) us2 D σ H := p_for (D := { D with nx := us2 D }) Rel h hi e h0 hd hb
theorem p_news {us2 : TS} [Rep α] {i : Nat} {fr : List α → δ} (h : Stn f a n I H) (e : bindP ([] : List α) fr = R) (k : ∀ p H1, fr [] = R → Stn f (a.own (lcell p ([] : List α))) n I H1 → us2 D (σ.set i (some (.ref p))) H1) : tSeq (tAsg (tLst tNil) (gName i)) us2 D σ H := p_new (D := { D with nx := us2 D }) h e k
theorem p_apps {us2 : TS} [Rep α] {i j : Nat} {p : Addr} {xs : List α} {fr : List α → δ} (h : Stn f a n I H) (hs : σ[i]? = some (some (.ref p))) (hc : a.Ω[j]? = some (lcell p xs)) (E : EvP f a rv te σ x) (hl : xs.length < 16777216) (e : bindP (xs ++ [x]) fr = R)
    (k : ∀ xs' I1 H1, fr xs' = R → Stn f (a.cells (a.Ω.set j (lcell p xs'))) n I1 H1 → us2 D σ H1) : tSeq (tDrop (tBM K "list" rAppend (tVar i) (tCons te tNil))) us2 D σ H := p_app (D := { D with nx := us2 D }) h hs hc E hl e k
theorem p_whiles {us2 : TS} {S : Type} {R : β} {m : Nat} {c : S → Bool} {body : S → (S → Option β) → (S → Option β) → Option β} {rest : S → Option β} {s0 : S} (Rel : S → L2.St → Amb → Prop) (h : Stn f a n I H) (e : whileP m c body rest s0 = some R) (h0 : Rel s0 σ a)
    (hc : ∀ s σ' a', Rel s σ' a' → EvB f a' tt σ' (c s))
    (hd : ∀ s σ' a' n' I' H', rest s = some R → Rel s σ' a' → Stn f a' n' I' H' → us2 D σ' H')
    (hb : ∀ s σ' a' n' (tl : S → Option β) I' H' N, Rel s σ' a' → c s = true → body s tl rest = some R → Stn f a' n' I' H' →
      (∀ s' σ3 a3 n3 I3 H3, tl s' = some R → Rel s' σ3 a3 → Stn f a3 n3 I3 H3 → N σ3 H3) →
      (∀ s σ' a' n' I' H', rest s = some R → Rel s σ' a' → Stn f a' n' I' H' → us2 D σ' H') → ts { D with nx := N, ct := N, bk := us2 D } σ' H') : tSeq (tWhile tt ts) us2 D σ H := p_while (D := { D with nx := us2 D }) Rel h e h0 hc hd hb
theorem p_augAs {us2 : TS} {i : Nat} {j x : Int} {fr : Int → δ} (h : Stn f a n I H) (hs : σ[i]? = some (some w)) (r : ∀ I, a.Γ I → Rep.is I w j) (E : EvP f a rv te σ x) (e : bindP (j + x) fr = R) (k : ∀ x v I1 H1, fr x = R → Stn f (a.rep v x) n I1 H1 → us2 D (σ.set i (some v)) H1) : tSeq (tAug i te rAdd) us2 D σ H := p_augA (D := { D with nx := us2 D }) h hs r E e k
theorem p_augSs {us2 : TS} {i : Nat} {j x : Int} {fr : Int → δ} (h : Stn f a n I H) (hs : σ[i]? = some (some w)) (r : ∀ I, a.Γ I → Rep.is I w j) (E : EvP f a rv te σ x) (e : bindP (j - x) fr = R) (k : ∀ x v I1 H1, fr x = R → Stn f (a.rep v x) n I1 H1 → us2 D (σ.set i (some v)) H1) : tSeq (tAug i te rSub) us2 D σ H := p_augS (D := { D with nx := us2 D }) h hs r E e k
end
section
variable {En : Ends} {D : DA} {M : δ → Nat → Prop}
theorem d_sets {us2 : TS} [Rep α] {i : Nat} {fr : α → DW δ} (h : Stn f a n I H) (E : EvP f a rv te σ x) (e : bindP x fr n M) (k : ∀ x v I1 H1, fr x n M → Stn f (a.rep v x) n I1 H1 → us2 En (σ.set i (some v)) H1) : tSeq (tAsg te (gName i)) us2 En σ H := d_set (En := { En with nx := us2 En }) h E e k
theorem d_asgs {us2 : TS} [Rep α] {fr : α → DW δ} {Z : α → L2.St → Amb → Prop} (h : Stn f a n I H) (E : EvP f a rv te σ x) (B : ∀ x, Bd f a g σ x (Z x)) (e : bindP x fr n M) (k : ∀ x σ' a' I1 H1, fr x n M → Z x σ' a' → Stn f a' n I1 H1 → us2 En σ' H1) : tSeq (tAsg te g) us2 En σ H := d_asg (En := { En with nx := us2 En }) h E B e k
theorem d_pars {us2 : TS} [Rep α] [Rep β] {i j : Nat} {ar : TA} {fr : α → β → DW δ} (h : Stn f a n I H) (E : EvA f a ar σ (x, y, ())) (e : (bindP x fun x => bindP y fun y => fr x y) n M) (k : ∀ x y v w I1 H1, fr x y n M → Stn f ((a.rep v x).rep w y) n I1 H1 → us2 En ((σ.set i (some v)).set j (some w)) H1) : tSeq (tPar i j ar) us2 En σ H := d_par (En := { En with nx := us2 En }) h E e k
theorem d_ifs {us2 : TS} {b : Bool} {A B : DW δ} (h : Stn f a n I H) (E : EvB f a tt σ b) (e : (if b = true then A else B) n M) (k1 : b = true → A n M → ∀ I1 H1, Stn f a n I1 H1 → ts { En with nx := us2 En } σ H1) (k2 : b = false → B n M → ∀ I1 H1, Stn f a n I1 H1 → us { En with nx := us2 En } σ H1) : tSeq (tIfS tt ts us) us2 En σ H := d_if (En := { En with nx := us2 En }) h E e k1 k2
theorem d_fors {us2 : TS} [Rep α] {xs : List α} {S : Type} {body : α → S → (S → DW δ) → (S → DW δ) → DW δ} {rest : S → DW δ} {s0 : S} (Rel : S → L2.St → Amb → Prop) (h : Stn f a n I H) (hi : EvI f a wi σ xs) (e : loopP xs body rest s0 n M) (h0 : ∀ I1, Rel s0 σ (a.vw I1))
    (hd : ∀ s σ' a' n' I' H', rest s n' M → Rel s σ' a' → Stn f a' n' I' H' → us2 En σ' H')
    (hb : ∀ x s σ' a' n' I1 (tl : S → DW δ) I' H' v N, x ∈ xs → Rel s σ' a' → (∀ I, a'.Γ I → Same I1 I) → body x s tl rest n' M → Stn f a' n' I' H' → Rep.is I' v x →
      (∀ s' σ3 a3 n3 I3 H3, tl s' n3 M → Rel s' σ3 a3 → (∀ I, a3.Γ I → Same I1 I) → Stn f a3 n3 I3 H3 → N σ3 H3) →
      (∀ s σ' a' n' I' H', rest s n' M → Rel s σ' a' → Stn f a' n' I' H' → us2 En σ' H') → g v σ' H' fun σ2 H2 => ts { En with nx := N, ct := N, bk := us2 En } σ2 H2) : tSeq (tFor wi g ts) us2 En σ H := d_for (En := { En with nx := us2 En }) Rel h hi e h0 hd hb
theorem d_news {us2 : TS} [Rep α] {i : Nat} {fr : List α → DW δ} (h : Stn f a n I H) (e : bindP ([] : List α) fr n M) (k : ∀ p H1, fr [] n M → Stn f (a.own (lcell p ([] : List α))) n I H1 → us2 En (σ.set i (some (.ref p))) H1) : tSeq (tAsg (tLst tNil) (gName i)) us2 En σ H := d_new (En := { En with nx := us2 En }) h e k
theorem d_apps {us2 : TS} [Rep α] {i j : Nat} {p : Addr} {xs : List α} {fr : List α → DW δ} (h : Stn f a n I H) (hs : σ[i]? = some (some (.ref p))) (hc : a.Ω[j]? = some (lcell p xs)) (E : EvP f a rv te σ x) (hl : xs.length < 16777216) (e : bindP (xs ++ [x]) fr n M)
    (k : ∀ xs' I1 H1, fr xs' n M → Stn f (a.cells (a.Ω.set j (lcell p xs'))) n I1 H1 → us2 En σ H1) : tSeq (tDrop (tBM K "list" rAppend (tVar i) (tCons te tNil))) us2 En σ H := d_app (En := { En with nx := us2 En }) h hs hc E hl e k
theorem d_augAs {us2 : TS} {i : Nat} {j x : Int} {fr : Int → DW δ} (h : Stn f a n I H) (hs : σ[i]? = some (some w)) (r : ∀ I, a.Γ I → Rep.is I w j) (E : EvP f a rv te σ x) (e : bindP (j + x) fr n M) (k : ∀ x v I1 H1, fr x n M → Stn f (a.rep v x) n I1 H1 → us2 En (σ.set i (some v)) H1) : tSeq (tAug i te rAdd) us2 En σ H := d_augA (En := { En with nx := us2 En }) h hs r E e k
theorem d_whiles {us2 : TS} {S : Type} {m : Nat} {c : S → DW Bool} {body : S → (S → DW δ) → (S → DW δ) → DW δ} {rest : S → DW δ} {s0 : S} (Rel : S → L2.St → Amb → Prop) (h : Stn f a n I H) (e : whileD m c body rest s0 n M) (h0 : Rel s0 σ a)
    (hc : ∀ s σ' a' n' I' H' (M' : Bool → Nat → Prop) (N : Bool → Hp → Prop), Rel s σ' a' → c s n' M' → Stn f a' n' I' H' → (∀ b n2 I2 H2, M' b n2 → Stn f a' n2 I2 H2 → N b H2) → tt σ' H' N)
    (hd : ∀ s σ' a' n' I' H', rest s n' M → Rel s σ' a' → Stn f a' n' I' H' → us2 En σ' H')
    (hb : ∀ s σ' a' n' (tl : S → DW δ) I' H' N, Rel s σ' a' → body s tl rest n' M → Stn f a' n' I' H' →
      (∀ s' σ3 a3 n3 I3 H3, tl s' n3 M → Rel s' σ3 a3 → Stn f a3 n3 I3 H3 → N σ3 H3) →
      (∀ s σ' a' n' I' H', rest s n' M → Rel s σ' a' → Stn f a' n' I' H' → us2 En σ' H') → ts { En with nx := N, ct := N, bk := us2 En } σ' H') : tSeq (tWhile tt ts) us2 En σ H := d_while (En := { En with nx := us2 En }) Rel h e h0 hc hd hb
end
end
end Nw

namespace Nw
open PySem PySem.Spec PyProof.Rows L2
/-! ### dict comprehensions whose keys are tuples -/
/-- what a comprehension stores, keys of any form -/
theorem put_dict {X : Cx} {pins : List (Addr × Obj)} {σ : L2.St} {H H' : Hp} {s : Shared} {E : Value → Shared → Prop} {D : Addr} {y v : V} {u r : Value} {Q : Unit → Shared → Prop} (hu : X.A.units < cLine) (I : Inv X pins σ H s) (g : DPut H D y v H')
    (ry : RelV y u) (rv : RelV v r) (h : ∀ s', Inv X pins σ H' s' → Q () s') : wpAny (model X.prog X.w) X.A (dictSet D u r) Q E s := by
  rcases g with ⟨kvs, k, e, ey, l, eH⟩ | ⟨kvs, k, b, e, ey, eb, l, eH⟩
  · subst ey eH
    exact d_dictSet I e l ry rv h
  · subst ey eH
    cases (show u = Value.ref b from ry)
    obtain ⟨z, hd, xs, rel, dd⟩ := dt_of I.hok e
    have hz : xs.length ≤ sizeLine := by rw [← PySem.Paired.length rel]; exact z
    have hl : (putK kvs k v).length ≤ sizeLine := by have := length_putK kvs k v; omega
    refine wpAny_dictSet_heap (hsz := hz) (show (tupleKind (mixKind X.prog X.w)).room X.A from hu) (key_of I.hok eb) dd fun h' dd' hs => h _ ?_
    obtain ⟨q, es, ep, hq, h2, h3, h4, _, h5⟩ := dd'
    refine d_write I (by rw [e]; exact True.intro) hs ⟨q, hq⟩ ⟨hl, hd, _, (rel.put k eb rv).keeps fun c ys ec => ?_, q, es, ep, hq, h2, h3, h4, h5⟩
    rw [upd_ne (ne_of ec e (fun z => nomatch z))]
    exact ec
/-- {k: v for target in iter if ..}, keys tuples -/
def tDcT (wi : TI) (g : TG) (tt : TT) (tk tv : TE) (vs : List Nat) : TE := fun σ H Q => wi σ H fun J H1 => ∀ D, H1 D = none → ∃ W : Nat → Nat → Hp → Prop, (∃ m, W 0 m (upd H1 D (.dT []))) ∧ ∀ i m H, W i m H →
  (J.stop i H ∧ Q (.ref D) H) ∨ (J.go i H ∧ ∃ Nx : Hp → Prop, (∀ H', Nx H' → ∃ m', m' < m ∧ W (i + 1) m' H') ∧ ∀ x H', J.yld i H x H' → g x (wipe σ vs) H' fun σ2 H2 => wipe σ2 vs = wipe σ vs ∧ tt σ2 H2 fun b H3 =>
    if b = true then tk σ2 H3 fun y H4 => tv σ2 H4 fun z H5 => ∃ H6, DPut H5 D y z H6 ∧ Nx H6 else Nx H3)
theorem dcT_core {X : Cx} {pins : List (Addr × Obj)} {s : Shared} {σ : L2.St} {H : Hp} {Q : VK} {kx vx tg iter : Expr} {ifs : List Expr} {scope : Scope} {own : List (Str × Nat)} {pos pos' : Pos} {wi : TI} {g : TG} {tt : TT} {tk tv : TE} {use : Option (Value → Sem Unit)} {Qf : Value → Shared → Prop} (I : Inv X pins σ H s)
    (hc : X.calm = true) (hN : X.N.Nodup) (hu : X.A.units < cLine) (hi : PI X tg iter wi) (ok : BlkOk X.N X.env.scope scope own)
    (hg : ∀ (s : Shared) (H : Hp) (C : Addr) (cl : List (Str × Addr)) (fp : List Addr), PG (X.blk s H scope (compEnvC scope cl C X.env) fp) tg g) (ht : ∀ (s : Shared) (H : Hp) (C : Addr) (cl : List (Str × Addr)) (fp : List Addr), PTs (X.blk s H scope (compEnvC scope cl C X.env) fp) ifs tt)
    (hk : ∀ (s : Shared) (H : Hp) (C : Addr) (cl : List (Str × Addr)) (fp : List Addr), PE (X.blk s H scope (compEnvC scope cl C X.env) fp) kx tk)
    (he : ∀ (s : Shared) (H : Hp) (C : Addr) (cl : List (Str × Addr)) (fp : List Addr), PE (X.blk s H scope (compEnvC scope cl C X.env) fp) vx tv) (hs : ∀ x, foldedSetIterable iter X.env x = pure x)
    (h : tDcT wi g tt tk tv (own.map (·.2)) σ H Q)
    (hRR : ∀ D C s' m H', Inv X pins σ H' s' → Q (.ref D) H' → s'.heap.Ns C m → FpOk X pins H' C → compPost (model X.prog X.w) X.A X.xe use Qf (.ref D) C (.ok .next) s') :
    wpAny (model X.prog X.w) X.A (comprehension (.DictComp kx vx [⟨tg, iter, ifs, 0⟩] scope pos) scope X.env pos' newDict false (eval iter X.env) use) Qf X.xe s := by
  have hfree : ∀ y ∈ scope.names, y.2 = .free → ∃ c, X.env.cells.lookup y.1 = some c := fun y hy e => (ok.free y hy e).elim (fun k => I.ok.has _ (.inl k)) fun k => I.ok.has _ (.inr k)
  refine wpAny_comprehension_free (use := use) rfl hs (closure_ok hfree) ok.kind (fun y hy e => by rw [ok.uniq y hy, e])
    (thn (hi.run pins s σ H _ I h) fun xv s1 hx => thn hx fun itv s2 h2 => ?_)
  obtain ⟨it, fp, tn, J, H2, e, I2, T, st2, f2, q⟩ := h2
  subst e
  refine wpAny_newObj_type (newEnv_comp ?_)
  -- D: the new dict
  obtain ⟨D, hD⟩ : ∃ D, s2.heap.objs.size = D := ⟨_, rfl⟩
  obtain ⟨W, ⟨m0, w0⟩, turn⟩ := q D (I2.hok.fresh (Nat.le_of_eq hD))
  rw [hD]
  obtain ⟨s3, hs3⟩ : ∃ s3 : Shared, s3 = { s2 with heap := s2.heap.push { cls := .type "dict", data := .dict #[] } } := ⟨_, rfl⟩
  have h3 : s3.heap = s2.heap.push { cls := .type "dict", data := .dict #[] } := by rw [hs3]
  have I3 : Inv X pins σ (upd H2 D (.dT [])) s3 := by
    rw [hs3]
    refine I2.laid (t' := s2.toks) (fun b o e => Heap.get?_push_of_some _ e) (Nat.le_of_eq hD) ?_
    rw [← hD]
    exact dt_empty s2.heap I2.big
  have f3 : ∀ b ∈ fp, FpOk X pins (upd H2 D (.dT [])) b ∧ b < s3.heap.objs.size := fun b hb => by
    obtain ⟨o, eo, _⟩ := T.obj _ _ st2 b hb
    have hlt : b < s2.heap.objs.size := Heap.lt_size eo
    obtain ⟨f4, f5⟩ := f2 b hb
    refine ⟨⟨?_, f5⟩, by rw [h3, Heap.size_push]; exact Nat.lt_succ_of_lt hlt⟩
    rw [upd_ne (by rw [← hD]; exact Nat.ne_of_lt hlt)]
    exact f4
  have st3 : tn 0 s3.heap := T.keep _ _ _ st2 fun b _ o e => by rw [h3]; exact Heap.get?_push_of_some _ e
  rw [← hs3]
  clear hs3 h3 st2 f2
  have I4 := block_start I3 ok hN f3
  have pg := hg s3 (upd H2 D (.dT [])) s3.heap.objs.size (cellsFrom (s3.heap.objs.size + 1) scope.names (cloFrom X.env.cells scope.names [])) fp
  have pt := ht s3 (upd H2 D (.dT [])) s3.heap.objs.size (cellsFrom (s3.heap.objs.size + 1) scope.names (cloFrom X.env.cells scope.names [])) fp
  have pk := hk s3 (upd H2 D (.dT [])) s3.heap.objs.size (cellsFrom (s3.heap.objs.size + 1) scope.names (cloFrom X.env.cells scope.names [])) fp
  have pe := he s3 (upd H2 D (.dT [])) s3.heap.objs.size (cellsFrom (s3.heap.objs.size + 1) scope.names (cloFrom X.env.cells scope.names [])) fp
  have nfp : ∀ b ∈ fp, (upd H2 D (.dT [])) b = none := fun b hb => (f3 b hb).1.1
  show codeAny _ _ (.compStart (.DictComp kx vx [⟨tg, iter, ifs, 0⟩] scope pos) 0 (.ref it) (.ref D) (compEnvC scope (cellsFrom (s3.heap.objs.size + 1) scope.names (cloFrom X.env.cells scope.names [])) s3.heap.objs.size X.env)) (compPost (model X.prog X.w) X.A X.xe use Qf (.ref D) s3.heap.objs.size) { s3 with heap := pushCells (s3.heap.push { cls := .type "dict", data := .dict #[] }) scope.names }
  have cL : (compEnvC scope (cellsFrom (s3.heap.objs.size + 1) scope.names (cloFrom X.env.cells scope.names [])) s3.heap.objs.size X.env).locals = s3.heap.objs.size := rfl
  revert I4 pg pt pk pe cL
  generalize compEnvC scope (cellsFrom (s3.heap.objs.size + 1) scope.names (cloFrom X.env.cells scope.names [])) s3.heap.objs.size X.env = ce
  have hst4 : tn 0 ({ s3 with heap := pushCells (s3.heap.push { cls := .type "dict", data := .dict #[] }) scope.names } : Shared).heap := T.keep _ _ _ st3 fun b _ o e => pushCells_keeps _ _ _ _ (Heap.get?_push_of_some _ e)
  revert hst4
  generalize ({ s3 with heap := pushCells (s3.heap.push { cls := .type "dict", data := .dict #[] }) scope.names } : Shared) = s4
  intro st4 I4 pg pt pk pe cL
  revert I3 I4 pg pt pk pe w0 nfp f3
  generalize upd H2 D (.dT []) = H3
  intro w0 I3 f3 nfp I4 pg pt pk pe
  -- the walked object's parts: pinned while the block's own code runs
  have stat : ∀ {σ' : L2.St} {H' : Hp} {s' : Shared}, Inv (X.blk s3 H3 scope ce fp) [] σ' H' s' → (∀ b ∈ fp, H' b = none) → ∀ b ∈ fp, FpOk (X.blk s3 H3 scope ce fp) [] H' b := fun {σ' H' s'} I' hn b hb =>
    ⟨hn b hb, (I'.ok.exf b hb).1, I'.ok.exfs b hb, .inl hb, fun x c e => (I'.ok.exf b hb).2 x c e, fun p hp => absurd (show p ∈ ([] : List (Addr × Obj)) ++ [] from hp) (by simp)⟩
  have loop : codeAny (model X.prog X.w) X.A (.compLoop (.DictComp kx vx [⟨tg, iter, ifs, 0⟩] scope pos) 0 (.ref it) (.ref D) ce) (compPost (model X.prog X.w) X.A X.xe use Qf (.ref D) s3.heap.objs.size) s4 := by
    refine compLoop_anyD (fun n s' => ∃ i H', Inv (X.blk s3 H3 scope ce fp) [] (wipe σ (own.map (·.2))) H' s' ∧ tn i s'.heap ∧ (∀ b ∈ fp, H' b = none) ∧ W i n H') ?_ m0 ⟨0, H3, I4, st4, nfp, w0⟩
    rintro n s5 ⟨i, H5, I5, st5, n5, w5⟩
    rcases turn i n H5 w5 with ⟨stop, qq⟩ | ⟨go, Nx, hNx, step⟩
    · refine thnF (T.done (X.blk s3 H3 scope ce fp) rfl rfl rfl hc i [] s5 _ H5 (fun _ _ => False) I5 (stat I5 n5) st5 stop) fun r s6 ⟨hr, I6⟩ => ?_
      subst hr
      have nC : H5 s3.heap.objs.size = none := by rw [← cL]; exact I6.free
      obtain ⟨m, hn, _⟩ := I6.loc
      rw [show (X.blk s3 H3 scope ce fp).env.locals = s3.heap.objs.size from cL] at hn
      have I7 : Inv X pins σ H5 s6 := I3.call' (ch := fp) I6.os I6.base I6.hok I6.bare fun b hb => ⟨(f3 b hb).1.2.2.2.1, (f3 b hb).1.2.1, (f3 b hb).1.2.2.2.2.1, (f3 b hb).1.2.2.2.2.2⟩
      exact hRR D s3.heap.objs.size s6 m H5 I7 qq hn (I3.fpOk (Nat.le_refl _) nC)
    · refine thnF (T.item (X.blk s3 H3 scope ce fp) rfl rfl rfl hc i [] s5 _ H5 (fun _ _ => False) I5 (stat I5 n5) st5 go) fun r s6 ⟨u, hr, h6⟩ => ?_
      subst hr
      refine thnF h6 fun _ s7 ⟨x, H7, I7, r7, y7, st7, n7⟩ => ?_
      refine thnF (pg.run _ s7 _ H7 x u _ (I7.pinned (stat I7 n7) (T.obj _ _ st7)) r7 (step x H7 y7)) fun _ s8 ⟨σ8, H8, I8, hw8, q8⟩ => ?_
      refine thnF (pt.run _ s8 σ8 H8 _ I8 q8) fun b s9 ⟨H9, I9, q9⟩ => ?_
      have fin : ∀ {s' : Shared} {H' : Hp}, Inv (X.blk s3 H3 scope ce fp) ([] ++ pinsAt fp s7.heap) σ8 H' s' → Nx H' → ∃ m, m < n ∧ ∃ i H', Inv (X.blk s3 H3 scope ce fp) [] (wipe σ (own.map (·.2))) H' s' ∧ tn i s'.heap ∧ (∀ b ∈ fp, H' b = none) ∧ W i m H' := fun {s' H'} I' nx => by
        obtain ⟨m', hm, w'⟩ := hNx H' nx
        have pin' : ∀ b ∈ fp, ∀ o, s7.heap.get? b = some o → s'.heap.get? b = some o ∧ H' b = none := fun b hb o e =>
          have z := I'.pin (b, o) (List.mem_append_right _ (List.mem_append_right _ (mem_pinsAt hb e)))
          ⟨z.1, z.2.1⟩
        refine ⟨m', hm, i + 1, H', (I'.unpinned (pins := [])).weak (by rw [← hw8, wipe_length]) (fun j v e => ?_), T.keep _ _ _ st7 fun b hb o e => (pin' b hb o e).1, fun b hb => ?_, w'⟩
        · rw [← hw8] at e
          exact (wipe_some e).1
        · obtain ⟨o, e, _⟩ := T.obj _ _ st7 b hb
          exact (pin' b hb o e).2
      cases b with
      | false => exact fin I9 (by simpa using q9)
      | true =>
        have q9 := (by simpa using q9 : tk σ8 H9 fun y H4 => tv σ8 H4 fun z H5 => ∃ H6, DPut H5 D y z H6 ∧ Nx H6)
        refine thnF (pk.run _ s9 σ8 H9 _ I9 q9) fun z s10 ⟨yk, H10, I10, r10, q10⟩ => ?_
        refine thnF (pe.run _ s10 σ8 H10 _ I10 q10) fun z2 s11 ⟨yv, H11, I11, r11, H12, hp, nx⟩ => ?_
        exact put_dict (X := X.blk s3 H3 scope ce fp) hu I11 hp r10 r11 fun s12 I12 => fin I12 nx
  exact codeAny_compStart_dict loop (T.self X.A 0 _ _ _ st4 loop)
theorem pe_dcT {X : Cx} {kx vx tg iter : Expr} {ifs : List Expr} {scope : Scope} {own : List (Str × Nat)} {pos : Pos} {wi : TI} {g : TG} {tt : TT} {tk tv : TE} (hc : X.calm = true) (hN : X.N.Nodup) (hu : X.A.units < cLine) (hi : PI X tg iter wi) (ok : BlkOk X.N X.env.scope scope own)
    (hg : ∀ (s : Shared) (H : Hp) (C : Addr) (cl : List (Str × Addr)) (fp : List Addr), PG (X.blk s H scope (compEnvC scope cl C X.env) fp) tg g) (ht : ∀ (s : Shared) (H : Hp) (C : Addr) (cl : List (Str × Addr)) (fp : List Addr), PTs (X.blk s H scope (compEnvC scope cl C X.env) fp) ifs tt)
    (hk : ∀ (s : Shared) (H : Hp) (C : Addr) (cl : List (Str × Addr)) (fp : List Addr), PE (X.blk s H scope (compEnvC scope cl C X.env) fp) kx tk)
    (he : ∀ (s : Shared) (H : Hp) (C : Addr) (cl : List (Str × Addr)) (fp : List Addr), PE (X.blk s H scope (compEnvC scope cl C X.env) fp) vx tv) (hs : ∀ x, foldedSetIterable iter X.env x = pure x := by intro _; rfl) :
    PE X (.DictComp kx vx [⟨tg, iter, ifs, 0⟩] scope pos) (tDcT wi g tt tk tv (own.map (·.2))) := by
  refine ⟨fun pins s σ H Q I h => ?_⟩
  rw [arm_eval_DictComp]
  refine dcT_core I hc hN hu hi ok hg ht hk he hs h fun D C s' m H' I' q hn f => ⟨m, hn, fun h'' sb => ?_⟩
  obtain ⟨f0, f1, f2, f3, f4, f5⟩ := f
  exact ⟨.ref D, H', I'.turned (t' := s'.toks) (fun b o hb e => (sb.2 b hb).trans e) f0 f1 f3 f4 f5, rfl, q⟩
/-- stored at once under a name of the same line -/
theorem ps_setDcT {X : Cx} {i : Nat} {y : Str} {py : Pos} {kx vx tg iter : Expr} {ifs : List Expr} {scope : Scope} {own : List (Str × Nat)} {pos spos : Pos} {wi : TI} {g : TG} {tt : TT} {tk tv : TE} (hy : X.N[i]? = some y) (hyl : X.env.scope.names.lookup y = some .local)
    (hsw : swapsWith (.DictComp kx vx [⟨tg, iter, ifs, 0⟩] scope pos) (some (.Name y py)) spos.line X.env = pure true) (hc : X.calm = true) (hN : X.N.Nodup) (hu : X.A.units < cLine) (hi : PI X tg iter wi) (ok : BlkOk X.N X.env.scope scope own)
    (hg : ∀ (s : Shared) (H : Hp) (C : Addr) (cl : List (Str × Addr)) (fp : List Addr), PG (X.blk s H scope (compEnvC scope cl C X.env) fp) tg g) (ht : ∀ (s : Shared) (H : Hp) (C : Addr) (cl : List (Str × Addr)) (fp : List Addr), PTs (X.blk s H scope (compEnvC scope cl C X.env) fp) ifs tt)
    (hk : ∀ (s : Shared) (H : Hp) (C : Addr) (cl : List (Str × Addr)) (fp : List Addr), PE (X.blk s H scope (compEnvC scope cl C X.env) fp) kx tk)
    (he : ∀ (s : Shared) (H : Hp) (C : Addr) (cl : List (Str × Addr)) (fp : List Addr), PE (X.blk s H scope (compEnvC scope cl C X.env) fp) vx tv) (hs : ∀ x, foldedSetIterable iter X.env x = pure x := by intro _; rfl) :
    PS X (.Assign [.Name y py] (.DictComp kx vx [⟨tg, iter, ifs, 0⟩] scope pos) spos) (tAsg (tDcT wi g tt tk tv (own.map (·.2))) (gName i)) := by
  refine ⟨fun pins s σ H D I h => ?_⟩
  rw [exec_Assign_Name_used _ _ _ _ hsw]
  refine wpAny_bind (wpAny_standAt (wpAny_bind ?_))
  show wpAny _ X.A (do let _ ← comprehension (.DictComp kx vx [⟨tg, iter, ifs, 0⟩] scope pos) scope X.env (firstIterPos [⟨tg, iter, ifs, 0⟩] pos) newDict false (eval iter X.env) (some (assign (.Name y py) X.env))) _ _ s
  have h : tDcT wi g tt tk tv (own.map (·.2)) σ H (fun x H1 => gName i x σ H1 D.nx) := h
  refine wpAny_bind (thn (dcT_core (Qf := fun _ s' => SP X pins D .next s') I hc hN hu hi ok hg ht hk he hs h fun L C s' m H' I' q hn f => ?_) fun _ s' hq => wpAny_pure (wpAny_pure hq))
  show wpAny _ _ (assign (.Name y py) X.env (.ref L)) _ _ _
  refine wpAny_assign_Name (store_ok2 (v := V.ref L) I' hN hy (.inl hyl) rfl (fun s2 I2 ⟨a, sb, ha⟩ => ?_) (.inr hyl))
  obtain ⟨f0, f1, f2, f3, f4, f5⟩ := f
  have haC : C ≠ a := ha.elim (fun z => by rw [z]; exact f1) fun z e => f4 y a z e.symm
  exact ⟨m, hn.sameBut sb haC, fun h3 sb3 => ⟨_, H', I2.turned (t' := s2.toks) (fun b o hb e => (sb3.2 b hb).trans e) f0 f1 f3 f4 f5, q⟩⟩
theorem sw_trueD {kx vx : Expr} {gs : List Comprehension} {scope : Scope} {pos py : Pos} {y : Str} {l : Nat} {env : Env} (hk : env.scope.kind = .function) (hy : env.scope.names.lookup y = some .local) (hl : (py.line == pos.line) = true)
    (ha : (scope.names.any fun (n, k) => n == y && (k == .local || k == .cell)) = false) : swapsWith (.DictComp kx vx gs scope pos) (some (.Name y py)) l env = pure true := by
  have hb : env.blockKind = .function := by unfold Env.blockKind; rw [hk]; rfl
  unfold swapsWith
  simp only [hb, show env.kindOf y = some .local from hy, ha, Expr.pos, hl]
  rfl
theorem dcT_it {J : It} {n : Nat} {G : Hp → Prop} {Y : Nat → Hp → V → Hp → Prop} (w : Walk J n G Y) {g : TG} {tt : TT} {tk tv : TE} {vs : List Nat} {σ : L2.St} {H1 : Hp} {D : Addr} {Qd : Hp → Prop} (Pv : Nat → Hp → Prop) (h0 : Pv 0 (upd H1 D (.dT []))) (hG : ∀ i H, i ≤ n → Pv i H → G H)
    (hs : ∀ i x H H', i < n → Pv i H → Y i H x H' → g x (wipe σ vs) H' fun σ2 H2 => wipe σ2 vs = wipe σ vs ∧ tt σ2 H2 fun b H3 =>
      if b = true then tk σ2 H3 fun y H4 => tv σ2 H4 fun z H5 => ∃ H6, DPut H5 D y z H6 ∧ Pv (i + 1) H6 else Pv (i + 1) H3) (hd : ∀ H, Pv n H → Qd H) :
    ∃ W : Nat → Nat → Hp → Prop, (∃ m, W 0 m (upd H1 D (.dT []))) ∧ ∀ i m H, W i m H →
      (J.stop i H ∧ Qd H) ∨ (J.go i H ∧ ∃ Nx : Hp → Prop, (∀ H', Nx H' → ∃ m', m' < m ∧ W (i + 1) m' H') ∧ ∀ x H', J.yld i H x H' → g x (wipe σ vs) H' fun σ2 H2 => wipe σ2 vs = wipe σ vs ∧ tt σ2 H2 fun b H3 =>
        if b = true then tk σ2 H3 fun y H4 => tv σ2 H4 fun z H5 => ∃ H6, DPut H5 D y z H6 ∧ Nx H6 else Nx H3) := by
  refine ⟨fun i m H => m = n - i ∧ i ≤ n ∧ Pv i H, ⟨n, (Nat.sub_zero n).symm, Nat.zero_le n, h0⟩, ?_⟩
  rintro i m H ⟨em, hi, p⟩
  have q := hG i H hi p
  rcases Nat.lt_or_ge i n with hlt | hge
  · refine .inr ⟨w.goes i H hlt q, Pv (i + 1), fun H' p' => ⟨n - (i + 1), by omega, rfl, hlt, p'⟩, fun x H' y => ?_⟩
    exact hs i x H H' hlt p (w.yields i H x H' hlt q y)
  · have e : i = n := by omega
    subst e
    exact .inl ⟨w.stops H q, hd H p⟩
/-! a dict that nobody else has, walked: it stays locked -/
def iKeysC (td : TE) : TI := fun σ H R => td σ H fun x H1 => ∃ d kvs, x = .ref d ∧ H1 d = some (.dT kvs) ∧ ∀ od, R (Itkt d od kvs) (upd H1 d (.frz od (.dT kvs)))
theorem pi_keysC {X : Cx} {tg e : Expr} {td : TE} (he : PE X e td) : PI X tg e (iKeysC td) := by
  refine ⟨fun pins s σ H R I h => ?_⟩
  refine thn (he.run pins s σ H _ I h) fun u s1 ⟨x, H1, I0, rx, d, kvs, ex, h0, q⟩ => ?_
  subst ex
  obtain rfl : u = Value.ref d := rx
  obtain ⟨od, I1⟩ := I0.lock h0 True.intro
  obtain ⟨hs, hgd, hx, es, ep, hdt, hsz, ent⟩ := I1.frzT upd_same
  refine iter_keys hs hgd hx hdt (pi_one (tk := s1.toks) I1 _ (turn_keysT _ hdt) ⟨_, Heap.get?_push_size _ rfl, rfl, ?_⟩ (q od))
  rw [hsz] <;> rfl
/-! x in [tuples], in a comprehension's block too -/
theorem un65 {k : Nat} {A : Around} (r : Room k A) : A.units + 65 < cLine := by have := un70 r; omega
theorem op_inDK {X : Cx} {K : PySem.W.Frag} (h : X.K = K) (hu : X.A.units + 65 < cLine) : OpR X (compareOp .In) (rInD K) := h ▸ op_inD hu
theorem op_notInDK {X : Cx} {K : PySem.W.Frag} (h : X.K = K) (hu : X.A.units + 65 < cLine) : OpR X (compareOp .NotIn) (rNotInD K) := h ▸ op_notInD hu
end Nw

/-! an own exception class called with keywords: what is passed by name goes to its own __init__ -/
namespace PySem
namespace HandSPX
open Builtin Builtin.ObjectAttr
section
variable {M : Model} {A : Around} {E : Value → Shared → Prop} {h : Heap} {g : Array GenState} {d : Drawn} {t : Nat} {os : OsState}
variable {nm q : Str} {C N : Addr} {bs bm bmB : List Value} {hdct : Bool} {sn : List Str} {sub : List Value} {ab : Bool} {col : Option Bool} {dd : Option Addr} {k0 k1 k2 k3 k5 : Option Value} {B newId initId : String} {kw : List (Str × Value)}
theorem nw_check_new (F : ExcBaseFacts B newId initId bmB) (hT : ∀ X : String, bm.contains (.type X) = bmB.contains (.type X)) {rest : List Value} {Q : Unit → Shared → Prop}
    (hC : h.get? C = some (excClassObj nm q C N bs bm hdct sn sub ab col dd k0 k1 k2 k3 k5 newId)) (hq : Q () ⟨h, g, d, t, os⟩) : wpAny M A (checkBuiltinCall newId ⟨.ref C :: rest, kw⟩) Q E ⟨h, g, d, t, os⟩ := by
  have hcont : (Value.ref C :: bm).contains (.type B) = true := by rw [List.contains_cons, hT, F.hasB, Bool.or_true]
  have hstar := F.noStar
  simp only [checkBuiltinCall, F.newKind, F.newSplit, F.newRow]
  repeat (first | refine wpAny_loadPart_at hC ?_ | (refine wpAny_isSubtype_exc hC ?_; rw [hcont]) | refine wpAny_staticBase_exc hC ?_ | refine wpAny_madeBy_exc hC ?_ | simp only [bne_self_eq_false, Bool.false_eq_true, if_false] | wp_step)
  exact hq
theorem nw_check_type {rest : List Value} {Q : Unit → Shared → Prop} (hC : h.get? C = some (excClassObj nm q C N bs bm hdct sn sub ab col dd k0 k1 k2 k3 k5 newId))
    (hq : Q () ⟨h, g, d, t, os⟩) : wpAny M A (checkBuiltinCall "type.__call__" ⟨.ref C :: rest, kw⟩) Q E ⟨h, g, d, t, os⟩ := by
  have f3 := tc_sub
  have hT : (⟨h, g, d, t, os⟩ : Shared).TypeIs (.ref C) "type" := ⟨_, hC, rfl⟩
  simp only [checkBuiltinCall, tc_kind, tc_split]
  repeat (any_goals (first | assumption | with_reducible refine wpAny_loadPart_at hC ?_ | with_reducible refine wpAny_onRaise ?_ | with_reducible refine wpAny_map ?_ | wp_step))
end
section
variable {prog : Program} {w : World} {A : Around} {E : Value → Shared → Prop} {R : Result → Shared → Prop} {h : Heap} {g : Array GenState} {d : Drawn} {t : Nat} {os : OsState}
variable {nm q : Str} {C N : Addr} {bs bm bmB : List Value} {hdct : Bool} {sn : List Str} {sub : List Value} {ab : Bool} {col : Option Bool} {dd : Option Addr} {k0 k1 k2 k3 k5 : Option Value} {B newId initId : String} {kw : List (Str × Value)}
theorem nw_new (F : ExcBaseFacts B newId initId bmB) (hT : ∀ X : String, bm.contains (.type X) = bmB.contains (.type X)) {rest : List Value}
    (hC : h.get? C = some (excClassObj nm q C N bs bm hdct sn sub ab col dd k0 k1 k2 k3 k5 newId))
    (hq : R (.ok (.ret (.ref (h.objs.size + 1)))) ⟨(h.push { cls := .type "tuple", data := .seq rest.toArray }).push
      { cls := .ref C, data := .fields #[.ref h.objs.size, .none, .none, .none, .bool false, .none] }, g, d, t, os⟩) (hrest : rest.length ≤ sizeLine) :
    codeAny (model prog w) A (.builtin newId ⟨.ref C :: rest, kw⟩) R ⟨h, g, d, t, os⟩ := by
  have hends := F.ends
  have hcB : (Value.ref C :: bm).contains (.type B) = true := by rw [List.contains_cons, hT, F.hasB, Bool.or_true]
  have hcA : (Value.ref C :: bm).contains (.type "AttributeError") = false := by rw [List.contains_cons, hT, F.noAttr]; rfl
  have hcN : (Value.ref C :: bm).contains (.type "NameError") = false := by rw [List.contains_cons, hT, F.noName]; rfl
  refine codeAny_builtinAt F.entry ?_
  unfold Builtin.«BaseException.__new__»
  refine wpAt_bind ?_
  show wpAt _ _ _ (stack >>= _) _ _ _
  refine wpAt_bind (wpAt_stack fun p below => wpAt_of_wpAny ?_)
  wp_walk
  refine wpAt_of_wpAny ?_
  rw [F.owner]
  repeat (first | with_reducible refine wpAny_madeHere_exc F.canon hC ?_ | with_reducible refine wpAny_loadPart_at hC ?_ | (with_reducible refine wpAny_isSubtype_exc hC ?_; first | rw [hcB] | rw [hcA] | rw [hcN]) | wp_step)
  show R _ _
  rw [Heap.size_push]
  exact hq
theorem nw_type_call (F : ExcBaseFacts B newId initId bmB) (hT : ∀ X : String, bm.contains (.type X) = bmB.contains (.type X)) {rest : List Value} {fI : Addr} {Q : Fin → Shared → Prop}
    (hC : h.get? C = some (excClassObj nm q C N bs bm hdct sn sub ab col dd k0 k1 k2 k3 k5 newId))
    (hi : W.Looks (model prog w) h (typeLookup (.ref C) "__init__") (some (.ref fI))) (hb : ∀ self, W.Looks (model prog w) h (bindSpecial (.ref fI) self) (.ref fI, [self])) (hrest : rest.length ≤ sizeLine)
    (hq : codeAny (model prog w) A (.call (.ref fI) ⟨.ref (h.objs.size + 1) :: rest, kw⟩)
      (fun r s' => match r with | .ok (.ret v) => v = .none ∧ Q (.done (.ret (.ref (h.objs.size + 1)))) s' | .ok _ => False | .error e => E e s')
      ⟨(h.push (W.kdv_tup rest)).push (excO C h.objs.size), g, d, t, os⟩) :
    wpAny (model prog w) A (Builtin.«type.__call__» ⟨.ref C :: rest, kw⟩) Q E ⟨h, g, d, t, os⟩ := by
  repeat (first | with_reducible refine wpAny_loadPart_at hC ?_ | with_reducible refine wpAny_madeBy_exc hC ?_ | wp_step)
  refine codeAny_call_builtin_code (Code.quiet_builtin _ F.quiet) (nw_check_new F hT hC ?_)
  refine nw_new F hT hC ?_ hrest
  show wpAny _ _ _ _ _ _
  have k : ∀ b o, h.get? b = some o → ((h.push (W.kdv_tup rest)).push (excO C h.objs.size)).get? b = some o := fun b o e => Heap.get?_push_of_some _ (Heap.get?_push_of_some _ e)
  have hC₁ := k _ _ hC
  have hget : ((h.push (W.kdv_tup rest)).push (excO C h.objs.size)).get? (h.objs.size + 1) = some (excO C h.objs.size) := by heap_get
  have hcC : (Value.ref C :: bm).contains (.ref C) = true := by simp
  have i1 := hi.keeps k
  have b1 := (hb (.ref (h.objs.size + 1))).keeps k
  unfold isInstance
  repeat (first | with_reducible refine wpAny_loadPart_at hget ?_ | (with_reducible refine wpAny_isSubtype_exc hC₁ ?_; rw [hcC]) | wp_step)
  show wpAny _ _ (typeLookup (.ref C) _) _ _ _
  refine i1.at ?_
  refine wpAny_holding (wpAny_bind (b1.at ?_))
  refine wpAny_bind (wpAny_call (codeAny_mono hq fun r s' z => ?_))
  rcases r with e | (v | _ | _ | _) <;> first | exact z | exact z.elim | skip
  obtain ⟨rfl, z⟩ := z
  first
    | exact wpAny_pure (wpAny_pure z)
    | (wp_walk; exact z)
theorem nw_call (F : ExcBaseFacts B newId initId bmB) (hT : ∀ X : String, bm.contains (.type X) = bmB.contains (.type X)) {rest : List Value} {fI : Addr}
    (hC : h.get? C = some (excClassObj nm q C N bs bm hdct sn sub ab col dd k0 k1 k2 k3 k5 newId))
    (hi : W.Looks (model prog w) h (typeLookup (.ref C) "__init__") (some (.ref fI))) (hb : ∀ self, W.Looks (model prog w) h (bindSpecial (.ref fI) self) (.ref fI, [self])) (hrest : rest.length ≤ sizeLine)
    (hq : codeAny (model prog w) (A.under (.builtin "type.__call__" ⟨.ref C :: rest, kw⟩)) (.call (.ref fI) ⟨.ref (h.objs.size + 1) :: rest, kw⟩) (W.InitBack (h.objs.size + 1) R)
      ⟨(h.push (W.kdv_tup rest)).push (excO C h.objs.size), g, d, t, os⟩) :
    codeAny (model prog w) A (.call (.ref C) ⟨rest, kw⟩) R ⟨h, g, d, t, os⟩ := by
  have f1 := tc_lookup
  have f2 := tc_bind (.ref C)
  have hTy : (⟨h, g, d, t, os⟩ : Shared).TypeIs (.ref C) "type" := ⟨_, hC, rfl⟩
  refine codeAny_of_tree ?_
  show wpAny _ _ (callAny (.ref C) _) _ _ _
  repeat (any_goals (first | assumption | with_reducible refine wpAny_loadPart_at hC ?_ | wp_step))
  refine ⟨rfl, ?_⟩
  refine codeAny_call_builtin_at (Code.quiet_builtin _ (by decide +kernel)) entry_typeCall (nw_check_type hC (nw_type_call F hT hC hi hb hrest ?_))
  refine codeAny_mono hq fun r s' z => ?_
  rcases r with e | (v | _ | _ | _) <;> exact z
end
end HandSPX
end PySem
namespace Nw
open PySem PySem.Spec PyProof.Rows L2
/-! ### what makes an exception, as a value -/
section
variable {X : Cx} {e : Expr} {tx : L2.St → Hp → XK → Prop}
/-- the new one stands as a value -/
def tExV (tx : L2.St → Hp → XK → Prop) : TE := fun σ H Q => tx σ H fun cls d H1 => ∀ a, H1 a = none → Q (.ref a) (upd H1 a (ExV cls d a))
theorem pe_exv (h : PMk X e tx) : PE X e (tExV tx) := by
  refine ⟨fun pins s σ H Q I q => wpAny_mono (h pins s σ H _ I q) (fun u s1 hu => ?_) fun _ _ z => z⟩
  obtain ⟨a, oe, vs, sI, H1, cls, d, rfl, J, k, hne, ha, hz, hd, h1, na, os, ag, r, q1⟩ := hu
  have L := J.laidN (t' := s1.toks) (o := ExV cls d a) k hne na ⟨⟨oe, vs, ha, hz, hd⟩, ⟨oe, ha⟩, fun _ _ ⟨o, v, q, r⟩ k => ⟨o, v, k o q, r⟩⟩
  exact ⟨.ref a, upd H1 a (ExV cls d a), ⟨L.ok, os.trans L.os, ag, L.base, L.loc, L.cell, L.free, L.freeC, L.pin, L.hok, L.len⟩, rfl, q1 a na⟩
end
/-! ### C(k = v, ..), C an own exception class with its own __init__, nothing by position -/
def tMkK (m : Nat) (C : Addr) (sp : Sp) (gV : List V → List V → List V) (tk : TA) : L2.St → Hp → XK → Prop := fun σ H Q => tk σ H fun zs H1 => zs.length = m ∧ ∀ a, H1 a = none → sp (gV [.ref a] zs) (upd H1 a (exo a C none))
  (fun v H2 => v = .non ∧ ∃ (d : Addr) (fs : List (Str × V)), H2 a = some (exo a C (some d)) ∧ H2 d = some (exd d fs) ∧ H1 d = none ∧ Q (.ref C) (some d) (upd (del H2 a) d (.xd fs))) (fun _ _ _ => False)
section
variable {X : Cx} {CX : CXT} {k : Nat} {C fI : Addr} {fd : FuncData} {ps ks : List Str} {g : List Value → List Value → List Value} {gV : List V → List V → List V} {sp : Sp} {x : Str} {np pos : Pos} {kws : List Keyword} {tk : TA}
theorem pmk_oexK (T : OexC X.K C) (iC : PySem.W.findIn X.K (.ref C) "__init__" = some (some (.ref fI))) (tI : PySem.W.typeIn X.K (.ref fI) = some (.type "function"))
    (F1 : FnOk X.prog X.w X.K X.mg X.base CX k fI fd ps sp) (hr : Room (k + 1) X.A) (hb : KBn X.K fd ps 1 ks g gV) (hx : Passes CX X (fun _ _ _ => False)) (hg : Gl X x) (hm : X.mg x = some (.ref C)) (hkw : PK X kws tk)
    (hdb : (x == ("__debug__" : Str)) = false := by decide) (hall : (backToKw pos (keywordEach kws X.env)).all (·.1.isSome) = true := by rfl) (hks : (backToKw pos (keywordEach kws X.env)).filterMap (·.1) = ks := by rfl)
    (hpl : ((backTo pos (starEach [] X.env)).any (·.1) || (backToKw pos (keywordEach kws X.env)).any (·.1.isNone)) = false := by rfl) :
    PMk X (.Call (.Name x np) [] kws pos) (tMkK ks.length C sp gV tk) := by
  intro pins s σ H Q I h
  obtain ⟨nm, q, N, bs, bm, sn, sub, ab, col, dd, k0, k1, k2, k3, k5, hC, hbm⟩ := T.cls
  refine wpAny_Call_Name_kw (ld_glob I hg hm ?_ hdb)
  refine PySem.W.callWith_KW0 (h₀ := X.base) I.ok.mod.kin T.kC hall (thn (hkw.run pos pins s σ H _ I h) fun ws s1 ⟨zs, H1, I1, rz, hm', q1⟩ => ⟨I1.kIn, ?_⟩) hpl
  rw [hks]
  obtain ⟨hp, g', dr, tk', os⟩ := s1
  have hsz : hp.objs.size ≤ hp.objs.size + 1 := Nat.le_succ _
  have hn : H1 (hp.objs.size + 1) = none := I1.hok.fresh hsz
  have hq := q1 (hp.objs.size + 1) hn
  have kk : ∀ b o, hp.get? b = some o → ((hp.push (PySem.W.kdv_tup [])).push (PySem.HandSPX.excO C hp.objs.size)).get? b = some o := fun b o e => Heap.get?_push_of_some _ (Heap.get?_push_of_some _ e)
  have hget : ((hp.push (PySem.W.kdv_tup [])).push (PySem.HandSPX.excO C hp.objs.size)).get? (hp.objs.size + 1) = some (PySem.HandSPX.excO C hp.objs.size) := by heap_get
  have I2 : Inv X pins σ (upd H1 (hp.objs.size + 1) (exo (hp.objs.size + 1) C none)) ⟨(hp.push (PySem.W.kdv_tup [])).push (PySem.HandSPX.excO C hp.objs.size), g', dr, tk', os⟩ :=
    I1.laid (t' := tk') (a := hp.objs.size + 1) (o := exo (hp.objs.size + 1) C none) (h' := (hp.push (PySem.W.kdv_tup [])).push (PySem.HandSPX.excO C hp.objs.size)) kk hsz (exo_ok hget)
  have r2 : Vals (gV [.ref (hp.objs.size + 1)] zs) (g [.ref (hp.objs.size + 1)] ws) := hb.rel (.cons rfl .nil) rz
  refine wpAny_call (PySem.HandSPX.nw_call F.excBase_ValueError (fun Y => PySem.HandSPX.refsVE_contains Y bm hbm) (I1.kIn _ _ hC) (PySem.W.looks_findIn I1.kIn iC) (fun self => PySem.W.bind_fn I1.kIn self tI) (Nat.zero_le _)
    (codeAny_mono (F1.run _ X.stack _ _ ⟨[Value.ref (hp.objs.size + 1)], ks.zip ws⟩ (g [.ref (hp.objs.size + 1)] ws) _ _ (fun _ _ _ => False) (hr.make C [] (ks.zip ws)) (I2.env0.make C [] (ks.zip ws)) (hb.to _ [Value.ref (hp.objs.size + 1)] ws I2.kIn rfl (rz.length.symm.trans hm')) r2 hq) fun r s' hq' => ?_))
  cases r with
  | error er => exact hx pins σ _ _ er s' I2 hq'
  | ok fl =>
    cases fl with
    | ret u =>
      obtain ⟨v, H2, os2, bare2, un2, hok2, rv, ev, d, fs, ea, ed, hd1, q2⟩ := hq'
      subst ev
      obtain ⟨h2, g2, d2, t2, os'⟩ := s'
      exact ⟨rv, mk_end (raises_own T.exC T.tyC) I1 hsz kk un2 hok2 os2 bare2 ea ed hd1 q2⟩
    | next => exact False.elim hq'
    | brk => exact False.elim hq'
    | cont => exact False.elim hq'
theorem vals_rev : ∀ {xs : List V} {ys : List Value}, Vals xs ys → Vals xs.reverse ys.reverse
  | _, _, .nil => .nil
  | _, _, .cons h t => by
    rw [List.reverse_cons, List.reverse_cons]
    exact (vals_rev t).append (.cons h .nil)
/-- the keywords' values behind the others, the last keyword first -/
def gRev {α : Type} (us ws : List α) : List α := us ++ ws.reverse
theorem kb_at {K : PySem.W.Frag} {x qual : Str} {st : Stmt} {f : Addr} {fd : FuncData} {ps ks : List Str} (F : FnAt K x qual st f) (lk : ∃ oc od osl, K.lookup f = some ⟨oc, od, .func fd, osl⟩) (n : Nat)
    (h : ∀ (kV doc pm : Value) (an : Option Addr) (cdv ct : Value) (us ws : List Value), us.length = n → ws.length = ks.length → bindArgs (PySem.W.fnOf x qual (defArgs st) (defBody st) (defScope st) .none kV doc pm an cdv ct) ⟨us, ks.zip ws⟩ = pure (ps.zip (gRev us ws))) : KBn K fd ps n ks gRev gRev := by
  obtain ⟨fd', F⟩ := F
  obtain ⟨oc, od, dV, kV, doc, pm, an, cdv, ct, osl, rfl, lk', hcd, hD, hK⟩ := F.ex
  obtain ⟨oc', od', osl', lk⟩ := lk
  rw [lk'] at lk
  cases lk
  rcases hD with ⟨_, rfl⟩ | ⟨e, _⟩
  · exact ⟨fun s us ws _ l1 l2 => BindsTo.of_eq (h kV doc pm an cdv ct us ws l1 l2), fun r1 r2 => r1.append (vals_rev r2)⟩
  · exact absurd rfl e
theorem pmk_oexKC {f : Addr} {qual m : Str} {st : Stmt} (T : OexC X.K C) (M : Meth X.K C "__init__" f) (F : FnAt X.K m qual st f) (G : Ok X.prog X.w X.K X.mg X.base CX0 k f ps sp) (hr : Room (k + 1) X.A) (hm : X.mg x = some (.ref C)) (hkw : PK X kws tk)
    (h : ∀ (kV doc pm : Value) (an : Option Addr) (cdv ct : Value) (us ws : List Value), us.length = 1 → ws.length = ks.length → bindArgs (PySem.W.fnOf m qual (defArgs st) (defBody st) (defScope st) .none kV doc pm an cdv ct) ⟨us, ks.zip ws⟩ = pure (ps.zip (gRev us ws)))
    (hg : Gl X x := by rfl) (hdb : (x == ("__debug__" : Str)) = false := by decide) (hall : (backToKw pos (keywordEach kws X.env)).all (·.1.isSome) = true := by rfl) (hks : (backToKw pos (keywordEach kws X.env)).filterMap (·.1) = ks := by rfl)
    (hpl : ((backTo pos (starEach [] X.env)).any (·.1) || (backToKw pos (keywordEach kws X.env)).any (·.1.isNone)) = false := by rfl) : PMk X (.Call (.Name x np) [] kws pos) (tMkK ks.length C sp gRev tk) := by
  obtain ⟨fd, F1, b, kp, lk⟩ := G.ok
  exact pmk_oexK T M.at_ (beq_iff_eq.mp M.fn) F1 hr (kb_at F lk 1 h) pass0 hg hm hkw hdb hall hks hpl
end
end Nw

namespace Nw
open PySem PySem.Spec PyProof.Rows L2
/-! ### repr and != of data or of {} -/
section
variable {X : Cx} {pins : List (Addr × Obj)} {σ : L2.St} {H : Hp} {s : Shared}
theorem reads_empty {b : Addr} (I : Inv X pins σ H s) (hb : H b = some (.dK [])) : ∃ as, Reads s.heap (.ref b) (.dict []) as ∧ sysModules ∉ as := by
  obtain ⟨_, hsm, vs, kv, dd⟩ := dk_of I.hok hb
  obtain ⟨ob, es, ep, hob, hex, hdb, _, pr, _⟩ := dd
  cases kv
  cases hes : es.toList with
  | cons e l => rw [hes] at pr; cases pr
  | nil =>
    have rd : Reads s.heap (.ref b) (.dict []) (b :: [] ++ []) := Reads.dict hob hex.1 hdb (by rw [hes]; exact .nil) (by rw [hes]; exact .nil)
    exact ⟨_, rd, by simpa using fun z => beq_eq_false_iff_ne.mp hsm z.symm⟩
end
/-- data, or {} -/
def rReprY (K : PySem.W.Frag) : List V → Hp → VK → Prop := fun xs H Q => (∃ v d, xs = [v] ∧ Dp K H v d ∧ d.showable = true ∧ d.hasDict = false ∧ d.depth ≤ 64 ∧ d.shown.length ≤ sizeLine ∧ Q (.str d.shown) H) ∨
  ∃ b : Addr, xs = [.ref b] ∧ H b = some (.dK []) ∧ Q (.str (PyData.dict []).shown) H
theorem call_reprY {X : Cx} {K : PySem.W.Frag} (h : X.K = K) (hgd : X.A.guards = some []) (hu : X.A.units + 70 < cLine) : CallR X (.builtin "repr") (rReprY K) := by
  subst h
  intro pins s σ H xs us Q I r h
  rcases h with h | ⟨b, rfl, hb, q⟩
  · exact call_reprD hgd hu pins s σ H xs us Q I r h
  · obtain ⟨u, rfl, ru⟩ := vals1 r
    cases ru
    obtain ⟨as, rb, hns⟩ := reads_empty I hb
    have hdep : (PyData.dict []).depth = 1 := by simp only [PyData.depth, PyData.depthAll, PyData.depthKv]
    exact repr_of_reads' rb (by simp only [PyData.showable, PyData.showableAll, PyData.showableKv]) (fun _ => hns) hgd (by rw [hdep]; omega) (fun _ _ z => z) (fun h' u tk hk => ⟨.str _, H, I.kept (t' := tk) hk, ⟨_, rfl⟩, q⟩) (by decide +kernel)
/-- != of data, or of {} and {} -/
def rNeY (K : PySem.W.Frag) : R2 := fun x y H Q => rNeD K x y H Q ∨ rNeDA x y H Q
theorem op_neY {X : Cx} {K : PySem.W.Frag} (h : X.K = K) (hu : X.A.units + 64 < cLine) : OpR X (compareOp .NotEq) (rNeY K) := by
  subst h
  intro pins s σ H x y v u Q I rx ry h
  rcases h with h | h
  · exact op_neD hu pins s σ H x y v u Q I rx ry h
  · exact op_ne_dictA (by omega) pins s σ H x y v u Q I rx ry h
/-- a list display, its address told apart from sys.modules' -/
def tLstS (ta : TA) : TE := fun σ H Q => ta σ H fun vs H1 => vs.length ≤ sizeLine ∧ ∀ l, H1 l = none → l ≠ sysModules → Q (.ref l) (upd H1 l (.lst vs))
theorem pe_lstS {X : Cx} {es : List Expr} {t : TA} {pos : Pos} (h : PA X es t) : PE X (.List es pos) (tLstS t) := by
  refine ⟨fun pins s σ H Q I hq => ?_⟩
  refine wpAny_List_spliced (thn (h.run pos pins s σ H _ I hq) fun us s1 ⟨xs, H1, I1, r, z, q⟩ => ⟨by rw [← r.length]; exact z, ?_⟩)
  have hf : H1 s1.heap.objs.size = none := I1.hok.fresh (Nat.le_refl _)
  refine ⟨.ref s1.heap.objs.size, upd H1 s1.heap.objs.size (.lst xs), I1.laid (t' := s1.toks) (fun b u e => Heap.get?_push_of_some _ e) (Nat.le_refl _) ?_, rfl, q _ hf (Nat.ne_of_gt I1.big)⟩
  exact ⟨z, us, 0, r, Heap.get?_push_size _ rfl⟩
/-- data, or {}, or [{}, {}] -/
def rReprL (K : PySem.W.Frag) : List V → Hp → VK → Prop := fun xs H Q => rReprY K xs H Q ∨
  ∃ a b : Addr, xs = [.ref a] ∧ a ≠ sysModules ∧ H a = some (.lst [.ref b, .ref b]) ∧ H b = some (.dK []) ∧ Q (.str (PyData.list [.dict [], .dict []]).shown) H
theorem call_reprL {X : Cx} {K : PySem.W.Frag} (h : X.K = K) (hgd : X.A.guards = some []) (hu : X.A.units + 70 < cLine) : CallR X (.builtin "repr") (rReprL K) := by
  intro pins s σ H xs us Q I r hq
  rcases hq with hq | ⟨a, b, rfl, hne, ha, hb, q⟩
  · exact call_reprY h hgd hu pins s σ H xs us Q I r hq
  · obtain ⟨u, rfl, ru⟩ := vals1 r
    cases ru
    obtain ⟨its, rv, ⟨o, n, ho, hc, _, hd⟩, _⟩ := I.list (SqL.of ha)
    obtain ⟨u1, u2, rfl, r1, r2⟩ := vals2 rv
    cases r1
    cases r2
    obtain ⟨as, rb, hns⟩ := reads_empty I hb
    have ra : Reads s.heap (.ref a) (.list [.dict [], .dict []]) (a :: (as ++ (as ++ []))) := Reads.list ho hc hd (.cons rb (.cons rb .nil))
    have hdep : (PyData.list [.dict [], .dict []]).depth = 2 := by simp only [PyData.depth, PyData.depthAll, PyData.depthKv]; rfl
    exact repr_of_reads' ra (by simp only [PyData.showable, PyData.showableAll, PyData.showableKv]; rfl) (fun _ => by
      simp only [List.mem_cons, List.mem_append, List.not_mem_nil, or_false, or_self, not_or]
      exact ⟨fun z => hne z.symm, hns⟩) hgd (by rw [hdep]; omega) (fun _ _ z => z) (fun h' u tk hk => ⟨.str _, H, I.kept (t' := tk) hk, ⟨_, rfl⟩, q⟩) (by decide +kernel)
/-! ### the error classes -/
def exN : List Str := ["NoRow", "NoMoment", "NoRides", "NoTable", "NoLink", "NoPlan", "NoMirror", "NoFacts", "NoSeen", "Clash", "NoNet", "NoProcess", "NoChannel", "NoMessage", "NoText", "TooMany"]
def exA (K : PySem.W.Frag) (i : Nat) : Addr := He.ga K (exN.getD i "")
def kitAll (K : PySem.W.Frag) : Bool := (List.range 16).all fun i => exfB K (exA K i) && (decide (PySem.W.kitOne K (.ref (exA K i)) (.ref (He.ga K "OrderError")) = some true) && (decide (PySem.W.kitOne K (.ref (exA K i)) (.type "ValueError") = some true) &&
  (List.range 16).all fun j => decide (PySem.W.kitOne K (.ref (exA K i)) (.ref (exA K j)) = some (decide (j = i)))))
structure KitA (K : PySem.W.Frag) : Prop where
  f : ∀ i, i < 16 → ExF K (exA K i)
  o : ∀ i, i < 16 → PySem.W.kitOne K (.ref (exA K i)) (.ref (He.ga K "OrderError")) = some true
  v : ∀ i, i < 16 → PySem.W.kitOne K (.ref (exA K i)) (.type "ValueError") = some true
  k : ∀ i j, i < 16 → j < 16 → PySem.W.kitOne K (.ref (exA K i)) (.ref (exA K j)) = some (decide (j = i))
theorem kitAll_ok {K : PySem.W.Frag} (h : kitAll K = true) : KitA K := by
  unfold kitAll at h
  rw [List.all_eq_true] at h
  have g : ∀ i, i < 16 → exfB K (exA K i) = true ∧ PySem.W.kitOne K (.ref (exA K i)) (.ref (He.ga K "OrderError")) = some true ∧ PySem.W.kitOne K (.ref (exA K i)) (.type "ValueError") = some true ∧ ∀ j, j < 16 → PySem.W.kitOne K (.ref (exA K i)) (.ref (exA K j)) = some (decide (j = i)) := fun i hi => by
    have z := h i (List.mem_range.mpr hi)
    rw [Bool.and_eq_true, Bool.and_eq_true, Bool.and_eq_true, decide_eq_true_iff, decide_eq_true_iff, List.all_eq_true] at z
    exact ⟨z.1, z.2.1, z.2.2.1, fun j hj => of_decide_eq_true (z.2.2.2 j (List.mem_range.mpr hj))⟩
  exact ⟨fun i hi => exfB_ok (g i hi).1, fun i hi => (g i hi).2.1, fun i hi => (g i hi).2.2.1, fun i j hi hj => (g i hi).2.2.2 j hj⟩
/-- an error of the i-th class -/
def isEx (K : PySem.W.Frag) (I : Hp) (v : V) (i : Nat) : Prop := ∃ a d, v = .ref a ∧ I a = some (ExV (.ref (exA K i)) d a) ∧ ∀ dx, d = some dx → ∃ fs, I dx = some (.xd fs)
theorem isEx.up {K : PySem.W.Frag} {I I' : Hp} {v : V} {i : Nat} (h : isEx K I v i) (e : Same I I') : isEx K I' v i := let ⟨a, d, h1, h2, h3⟩ := h; ⟨a, d, h1, e _ _ h2, fun dx z => let ⟨fs, q⟩ := h3 dx z; ⟨fs, e _ _ q⟩⟩
theorem isv_of {K : PySem.W.Frag} {H : Hp} {v c : V} {u : Value} {i : Nat} {b : Bool} {Q : VK} (h : isEx K H v i) (hk : KitA K) (hi : i < 16) (hc : ClsV c u) (kit : PySem.W.kitOne K (.ref (exA K i)) u = some b) (q : Q (.bl b) H) : rIsV K [v, c] H Q := by
  obtain ⟨a, d, rfl, h1, h2⟩ := h
  exact ⟨a, _, d, c, u, b, rfl, h1, h2, hk.f i hi, hc, kit, q⟩
/-! ### making them -/
theorem mk1K {K : PySem.W.Frag} {C : Addr} {f : Str} {v : V} {H1 : Hp} {Q : XK} (k : ∀ dx, H1 dx = none → Q (.ref C) (some dx) (upd H1 dx (.xd [(f, v)]))) :
    ∀ a, H1 a = none → spX1 K C f [.ref a, v] (upd H1 a (exo a C none))
      (fun w H2 => w = .non ∧ ∃ (d : Addr) (fs : List (Str × V)), H2 a = some (exo a C (some d)) ∧ H2 d = some (exd d fs) ∧ H1 d = none ∧ Q (.ref C) (some d) (upd (del H2 a) d (.xd fs))) (fun _ _ _ => False) := (mk1 k).2
theorem mk2K {K : PySem.W.Frag} {C : Addr} {f g : Str} {v w : V} {H1 : Hp} {Q : XK} (k : ∀ dx, H1 dx = none → Q (.ref C) (some dx) (upd H1 dx (.xd [(g, w), (f, v)]))) :
    ∀ a, H1 a = none → spX2 K C f g [.ref a, v, w] (upd H1 a (exo a C none))
      (fun w H2 => w = .non ∧ ∃ (d : Addr) (fs : List (Str × V)), H2 a = some (exo a C (some d)) ∧ H2 d = some (exd d fs) ∧ H1 d = none ∧ Q (.ref C) (some d) (upd (del H2 a) d (.xd fs))) (fun _ _ _ => False) := (mk2 k).2
end Nw

namespace Nw
open PySem PySem.Spec PyProof.Rows L2
/-! ### dict comprehensions with two clauses, each with its tests; keys ints or texts -/
theorem turn2D_out (kx vx t0 i0 t1 i1 : Expr) (ifs0 ifs1 : List Expr) (scope : Scope) (pos : Pos) (it acc : Value) (env : Env) :
    compTurn (.DictComp kx vx [⟨t0, i0, ifs0, 0⟩, ⟨t1, i1, ifs1, 0⟩] scope pos) 0 it acc env = (do
      standAt i0.pos
      match ← pyNext it with
      | none => pure (.done .next)
      | some v =>
        letOwnedTupleGo t0 it v
        assign t0 env v
        let mut ok := true
        for c in ifs0 do
          if ok then ok ← isTrue c env (eval c env)
        if ok then
          let x ← eval i1 env
          standAt i1.pos
          let x ← foldedSetIterable i1 env x
          let _ ← runOwn (.compStart (.DictComp kx vx [⟨t0, i0, ifs0, 0⟩, ⟨t1, i1, ifs1, 0⟩] scope pos) 1 (← holding [x] (pyIter x)) acc env) env
        again (.compLoop (.DictComp kx vx [⟨t0, i0, ifs0, 0⟩, ⟨t1, i1, ifs1, 0⟩] scope pos) 0 it acc env)) := by rfl
theorem turn2D_in (kx vx t0 i0 t1 i1 : Expr) (ifs0 ifs1 : List Expr) (scope : Scope) (pos : Pos) (it : Value) (D : Addr) (env : Env) :
    compTurn (.DictComp kx vx [⟨t0, i0, ifs0, 0⟩, ⟨t1, i1, ifs1, 0⟩] scope pos) 1 it (.ref D) env = (do
      standAt i1.pos
      match ← pyNext it with
      | none => pure (.done .next)
      | some v =>
        letOwnedTupleGo t1 it v
        assign t1 env v
        let mut ok := true
        for c in ifs1 do
          if ok then ok ← isTrue c env (eval c env)
        if ok then
          (do
            let kv ← eval kx env
            let vv ← holding [kv] (eval vx env)
            standAt { kx.pos with endLine := vx.pos.endLine, endCol := vx.pos.endCol }
            holding [kv, vv] (dictSet D kv vv))
        again (.compLoop (.DictComp kx vx [⟨t0, i0, ifs0, 0⟩, ⟨t1, i1, ifs1, 0⟩] scope pos) 1 it (.ref D) env)) := by rfl
section
variable {prog : Program} {w : World} {A : Around} {R : Result → Shared → Prop} {s : Shared} {kx vx t0 i0 t1 i1 : Expr} {ifs0 ifs1 : List Expr} {scope : Scope} {pos : Pos} {it acc : Value} {D : Addr} {env : Env}
theorem loop2D_out (hs : ∀ x, foldedSetIterable i1 env x = pure x) (I : Nat → Shared → Prop)
    (turn : ∀ n s, I n s → wpAny (model prog w) A (pyNext it) (fun r s₁ => match r with
      | none => R (.ok .next) s₁
      | some v => wpAny (model prog w) A (letOwnedTupleGo t0 it v) (fun _ s₁' => wpAny (model prog w) A (assign t0 env v) (fun _ s₂ =>
          wpAny (model prog w) A (forIn ifs0 true fun c r => if r = true then do let ok ← isTrue c env (eval c env); pure (ForInStep.yield ok) else pure (ForInStep.yield r)) (fun ok s₃ =>
            if ok = true then wpAny (model prog w) A (eval i1 env) (fun x s₄ => wpAny (model prog w) A (pyIter x) (fun it1 s₅ =>
              codeAny (model prog w) A (.compStart (.DictComp kx vx [⟨t0, i0, ifs0, 0⟩, ⟨t1, i1, ifs1, 0⟩] scope pos) 1 it1 acc env) (fun r s' => match r with
                | .ok _ => ∃ m, m < n ∧ I m s'
                | .error _ => False) s₅) (notedBy (model prog w) A env fun e s' => R (.error e) s') s₄) (notedBy (model prog w) A env fun e s' => R (.error e) s') s₃
            else ∃ m, m < n ∧ I m s₃) (notedBy (model prog w) A env fun e s' => R (.error e) s') s₂) (notedBy (model prog w) A env fun e s' => R (.error e) s') s₁') (notedBy (model prog w) A env fun e s' => R (.error e) s') s₁) (notedBy (model prog w) A env fun e s' => R (.error e) s') s)
    (n : Nat) (h : I n s) :
    codeAny (model prog w) A (.compLoop (.DictComp kx vx [⟨t0, i0, ifs0, 0⟩, ⟨t1, i1, ifs1, 0⟩] scope pos) 0 it acc env) R s := by
  refine codeAny_loop rfl I (fun n s hI => ?_) n h
  show wpAny _ A ((compTurn (.DictComp kx vx [⟨t0, i0, ifs0, 0⟩, ⟨t1, i1, ifs1, 0⟩] scope pos) 0 it acc env).onRaise (fun x => do noteFrame x env; theTreesLotGoes x)) _ _ s
  refine wpAny_noted ?_
  rw [turn2D_out]
  refine wpAny_bind (wpAny_standAt (wpAny_bind (wpAny_mono (turn n s hI) (fun r s₁ h₁ => ?_) fun _ _ h' => h')))
  cases r with
  | none => exact wpAny_pure h₁
  | some v =>
    refine wpAny_bind (wpAny_mono h₁ (fun _ s₁' h₁' => ?_) fun _ _ h' => h')
    refine wpAny_bind (wpAny_mono h₁' (fun _ s₂ h₂ => wpAny_bind (wpAny_mono h₂ (fun ok s₃ h₃ => ?_) fun _ _ h' => h')) fun _ _ h' => h')
    cases ok with
    | false => exact wpAny_pure ⟨rfl, h₃⟩
    | true =>
      refine wpAny_bind (wpAny_mono h₃ (fun x s₄ h₄ => ?_) fun _ _ h' => h')
      refine wpAny_bind (wpAny_standAt (wpAny_bind (wpAny_of_eq (hs x) (wpAny_bind (wpAny_holding (wpAny_mono h₄ (fun it1 s₅ h₅ => ?_) fun _ _ h' => h'))))))
      refine wpAny_bind (wpAny_runOwn ?_)
      rw [Around.mark_none]
      refine codeAny_mono h₅ fun r s' hr => ?_
      cases r with
      | ok f =>
        first
          | exact wpAny_pure ⟨rfl, hr⟩
          | exact wpAny_bind (wpAny_pure (wpAny_pure ⟨rfl, hr⟩))
      | error e => exact hr.elim
theorem loop2D_in (I : Nat → Shared → Prop)
    (turn : ∀ n s, I n s → wpAny (model prog w) A (pyNext it) (fun r s₁ => match r with
      | none => R (.ok .next) s₁
      | some v => wpAny (model prog w) A (letOwnedTupleGo t1 it v) (fun _ s₁' => wpAny (model prog w) A (assign t1 env v) (fun _ s₂ =>
          wpAny (model prog w) A (forIn ifs1 true fun c r => if r = true then do let ok ← isTrue c env (eval c env); pure (ForInStep.yield ok) else pure (ForInStep.yield r)) (fun ok s₃ =>
            if ok = true then wpAny (model prog w) A (eval kx env) (fun kv s₄ => wpAny (model prog w) A (eval vx env) (fun vv s₅ =>
              wpAny (model prog w) A (dictSet D kv vv) (fun _ s₆ => ∃ m, m < n ∧ I m s₆) (notedBy (model prog w) A env fun e s' => R (.error e) s') s₅) (notedBy (model prog w) A env fun e s' => R (.error e) s') s₄) (notedBy (model prog w) A env fun e s' => R (.error e) s') s₃
            else ∃ m, m < n ∧ I m s₃) (notedBy (model prog w) A env fun e s' => R (.error e) s') s₂) (notedBy (model prog w) A env fun e s' => R (.error e) s') s₁') (notedBy (model prog w) A env fun e s' => R (.error e) s') s₁) (notedBy (model prog w) A env fun e s' => R (.error e) s') s)
    (n : Nat) (h : I n s) :
    codeAny (model prog w) A (.compLoop (.DictComp kx vx [⟨t0, i0, ifs0, 0⟩, ⟨t1, i1, ifs1, 0⟩] scope pos) 1 it (.ref D) env) R s := by
  refine codeAny_loop rfl I (fun n s hI => ?_) n h
  show wpAny _ A ((compTurn (.DictComp kx vx [⟨t0, i0, ifs0, 0⟩, ⟨t1, i1, ifs1, 0⟩] scope pos) 1 it (.ref D) env).onRaise (fun x => do noteFrame x env; theTreesLotGoes x)) _ _ s
  refine wpAny_noted ?_
  rw [turn2D_in]
  refine wpAny_bind (wpAny_standAt (wpAny_bind (wpAny_mono (turn n s hI) (fun r s₁ h₁ => ?_) fun _ _ h' => h')))
  cases r with
  | none => exact wpAny_pure h₁
  | some v =>
    refine wpAny_bind (wpAny_mono h₁ (fun _ s₁' h₁' => ?_) fun _ _ h' => h')
    refine wpAny_bind (wpAny_mono h₁' (fun _ s₂ h₂ => wpAny_bind (wpAny_mono h₂ (fun ok s₃ h₃ => ?_) fun _ _ h' => h')) fun _ _ h' => h')
    cases ok with
    | false => exact wpAny_pure ⟨rfl, h₃⟩
    | true =>
      exact wpAny_bind (wpAny_bind (wpAny_mono h₃ (fun kv s₄ h₄ => wpAny_bind (wpAny_holding (wpAny_mono h₄ (fun vv s₅ h₅ => wpAny_bind (wpAny_standAt (wpAny_holding (wpAny_mono h₅ (fun _ s₆ h₆ => wpAny_pure ⟨rfl, h₆⟩) fun _ _ h' => h')))) fun _ _ h' => h'))) fun _ _ h' => h'))
theorem start1D_ok (h0 : codeAny (model prog w) A (.compLoop (.DictComp kx vx [⟨t0, i0, ifs0, 0⟩, ⟨t1, i1, ifs1, 0⟩] scope pos) 1 it acc env) R s)
    (h : wpAny (model prog w) A (pyIter it) (fun it' s' => codeAny (model prog w) A (.compLoop (.DictComp kx vx [⟨t0, i0, ifs0, 0⟩, ⟨t1, i1, ifs1, 0⟩] scope pos) 1 it' acc env) R s')
      (notedBy (model prog w) A env fun x s' => R (.error x) s') s) :
    codeAny (model prog w) A (.compStart (.DictComp kx vx [⟨t0, i0, ifs0, 0⟩, ⟨t1, i1, ifs1, 0⟩] scope pos) 1 it acc env) R s := by
  refine codeAny_of_tree ?_
  show wpAny _ _ ((compStart (.DictComp kx vx [⟨t0, i0, ifs0, 0⟩, ⟨t1, i1, ifs1, 0⟩] scope pos) 1 it acc env).onRaise (fun x => do noteFrame x env; standAt theWindowsPlace)) _ _ s
  refine wpAny_notedAt ?_
  unfold compStart
  show wpAny _ _ (ask >>= _) _ _ s
  refine wpAny_bind (wpAny_askSetting (wpAny_ite ?_))
  split
  · first
      | exact wpAny_bind (wpAny_pure (wpAny_pure (And.intro rfl h0)))
      | exact wpAny_pure (And.intro rfl h0)
  · first
      | exact wpAny_bind (wpAny_rule (wpAny_bind (wpAny_standAt (wpAny_bind (wpAny_mono h (fun it' s' h' => wpAny_pure (And.intro rfl h')) fun _ _ x => x)))))
      | (refine wpAny_bind (wpAny_rule ?_); show wpAny _ _ (standAt i1.pos >>= _) _ _ s; exact wpAny_bind (wpAny_standAt (wpAny_bind (wpAny_mono h (fun it' s' h' => wpAny_pure (And.intro rfl h')) fun _ _ x => x))))
end
def tDc2 (wi : TI) (g : TG) (tt : TT) (wi1 : TI) (g1 : TG) (tt1 : TT) (tk tv : TE) (vs vs1 : List Nat) : TE := fun σ H Q => wi σ H fun J H1 => ∀ D, H1 D = none → ∃ W : Nat → Nat → Hp → Prop, (∃ m, W 0 m (upd H1 D (.dK []))) ∧ ∀ i m H, W i m H →
  (J.stop i H ∧ Q (.ref D) H) ∨ (J.go i H ∧ ∃ Nx : Hp → Prop, (∀ H', Nx H' → ∃ m', m' < m ∧ W (i + 1) m' H') ∧ ∀ x H', J.yld i H x H' → g x (wipe σ vs) H' fun σ2 H2 => wipe σ2 vs = wipe σ vs ∧ tt σ2 H2 fun b H3 =>
    if b = true then wi1 σ2 H3 fun J1 H4 => ∃ W1 : Nat → Nat → Hp → Prop, (∃ m, W1 0 m H4) ∧ ∀ j k H, W1 j k H →
      (J1.stop j H ∧ Nx H) ∨ (J1.go j H ∧ ∃ Nx1 : Hp → Prop, (∀ H', Nx1 H' → ∃ k', k' < k ∧ W1 (j + 1) k' H') ∧ ∀ x H', J1.yld j H x H' → g1 x (wipe σ2 vs1) H' fun σ3 H5 => wipe σ3 vs1 = wipe σ2 vs1 ∧ tt1 σ3 H5 fun b H6 =>
        if b = true then tk σ3 H6 fun y H7 => tv σ3 H7 fun z H8 => ∃ H9, DPut H8 D y z H9 ∧ Nx1 H9 else Nx1 H6)
    else Nx H3)
theorem dc2_core {X : Cx} {pins : List (Addr × Obj)} {s : Shared} {σ : L2.St} {H : Hp} {Q : VK} {kx vx tg iter tg1 iter1 : Expr} {ifs ifs1 : List Expr} {scope : Scope} {own : List (Str × Nat)} {vs1 : List Nat} {pos pos' : Pos} {wi wi1 : TI} {g g1 : TG} {tt tt1 : TT} {tk tv : TE} {use : Option (Value → Sem Unit)} {Qf : Value → Shared → Prop} (I : Inv X pins σ H s)
    (hc : X.calm = true) (hN : X.N.Nodup) (hu : X.A.units < cLine) (hi : PI X tg iter wi) (ok : BlkOk X.N X.env.scope scope own) (hv : ∀ i ∈ vs1, i ∈ own.map (·.2))
    (hg : ∀ (s : Shared) (H : Hp) (C : Addr) (cl : List (Str × Addr)) (fp : List Addr), PG (X.blk s H scope (compEnvC scope cl C X.env) fp) tg g) (ht : ∀ (s : Shared) (H : Hp) (C : Addr) (cl : List (Str × Addr)) (fp : List Addr), PTs (X.blk s H scope (compEnvC scope cl C X.env) fp) ifs tt)
    (hk : ∀ (s : Shared) (H : Hp) (C : Addr) (cl : List (Str × Addr)) (fp : List Addr), PE (X.blk s H scope (compEnvC scope cl C X.env) fp) kx tk)
    (he : ∀ (s : Shared) (H : Hp) (C : Addr) (cl : List (Str × Addr)) (fp : List Addr), PE (X.blk s H scope (compEnvC scope cl C X.env) fp) vx tv) (hs : ∀ x, foldedSetIterable iter X.env x = pure x)
    (hi1 : ∀ (s : Shared) (H : Hp) (C : Addr) (cl : List (Str × Addr)) (fp : List Addr), PI (X.blk s H scope (compEnvC scope cl C X.env) fp) tg1 iter1 wi1)
    (hg1 : ∀ (s : Shared) (H : Hp) (C : Addr) (cl : List (Str × Addr)) (fp : List Addr), PG (X.blk s H scope (compEnvC scope cl C X.env) fp) tg1 g1)
    (ht1 : ∀ (s : Shared) (H : Hp) (C : Addr) (cl : List (Str × Addr)) (fp : List Addr), PTs (X.blk s H scope (compEnvC scope cl C X.env) fp) ifs1 tt1)
    (hs1 : ∀ env x, foldedSetIterable iter1 env x = pure x)
    (h : tDc2 wi g tt wi1 g1 tt1 tk tv (own.map (·.2)) vs1 σ H Q)
    (hRR : ∀ D C s' m H', Inv X pins σ H' s' → Q (.ref D) H' → s'.heap.Ns C m → FpOk X pins H' C → compPost (model X.prog X.w) X.A X.xe use Qf (.ref D) C (.ok .next) s') :
    wpAny (model X.prog X.w) X.A (comprehension (.DictComp kx vx [⟨tg, iter, ifs, 0⟩, ⟨tg1, iter1, ifs1, 0⟩] scope pos) scope X.env pos' newDict false (eval iter X.env) use) Qf X.xe s := by
  have hfree : ∀ y ∈ scope.names, y.2 = .free → ∃ c, X.env.cells.lookup y.1 = some c := fun y hy e => (ok.free y hy e).elim (fun k => I.ok.has _ (.inl k)) fun k => I.ok.has _ (.inr k)
  refine wpAny_comprehension_free (use := use) rfl hs (closure_ok hfree) ok.kind (fun y hy e => by rw [ok.uniq y hy, e])
    (thn (hi.run pins s σ H _ I h) fun xv s1 hx => thn hx fun itv s2 h2 => ?_)
  obtain ⟨it, fp, tn, J, H2, e, I2, T, st2, f2, q⟩ := h2
  subst e
  refine wpAny_newObj_type (newEnv_comp ?_)
  -- D: the new dict
  obtain ⟨D, hD⟩ : ∃ D, s2.heap.objs.size = D := ⟨_, rfl⟩
  obtain ⟨W, ⟨m0, w0⟩, turn⟩ := q D (I2.hok.fresh (Nat.le_of_eq hD))
  rw [hD]
  obtain ⟨s3, hs3⟩ : ∃ s3 : Shared, s3 = { s2 with heap := s2.heap.push { cls := .type "dict", data := .dict #[] } } := ⟨_, rfl⟩
  have h3 : s3.heap = s2.heap.push { cls := .type "dict", data := .dict #[] } := by rw [hs3]
  have I3 : Inv X pins σ (upd H2 D (.dK [])) s3 := by
    rw [hs3]
    refine I2.laid (t' := s2.toks) (fun b o e => Heap.get?_push_of_some _ e) (Nat.le_of_eq hD) ?_
    rw [← hD]
    exact dk_empty s2.heap I2.big
  have f3 : ∀ b ∈ fp, FpOk X pins (upd H2 D (.dK [])) b ∧ b < s3.heap.objs.size := fun b hb => by
    obtain ⟨o, eo, _⟩ := T.obj _ _ st2 b hb
    have hlt : b < s2.heap.objs.size := Heap.lt_size eo
    obtain ⟨f4, f5⟩ := f2 b hb
    refine ⟨⟨?_, f5⟩, by rw [h3, Heap.size_push]; exact Nat.lt_succ_of_lt hlt⟩
    rw [upd_ne (by rw [← hD]; exact Nat.ne_of_lt hlt)]
    exact f4
  have st3 : tn 0 s3.heap := T.keep _ _ _ st2 fun b _ o e => by rw [h3]; exact Heap.get?_push_of_some _ e
  rw [← hs3]
  clear hs3 h3 st2 f2
  have I4 := block_start I3 ok hN f3
  have pg := hg s3 (upd H2 D (.dK [])) s3.heap.objs.size (cellsFrom (s3.heap.objs.size + 1) scope.names (cloFrom X.env.cells scope.names [])) fp
  have pt := ht s3 (upd H2 D (.dK [])) s3.heap.objs.size (cellsFrom (s3.heap.objs.size + 1) scope.names (cloFrom X.env.cells scope.names [])) fp
  have pk := hk s3 (upd H2 D (.dK [])) s3.heap.objs.size (cellsFrom (s3.heap.objs.size + 1) scope.names (cloFrom X.env.cells scope.names [])) fp
  have pe := he s3 (upd H2 D (.dK [])) s3.heap.objs.size (cellsFrom (s3.heap.objs.size + 1) scope.names (cloFrom X.env.cells scope.names [])) fp
  have pi1 := hi1 s3 (upd H2 D (.dK [])) s3.heap.objs.size (cellsFrom (s3.heap.objs.size + 1) scope.names (cloFrom X.env.cells scope.names [])) fp
  have pg1 := hg1 s3 (upd H2 D (.dK [])) s3.heap.objs.size (cellsFrom (s3.heap.objs.size + 1) scope.names (cloFrom X.env.cells scope.names [])) fp
  have pt1 := ht1 s3 (upd H2 D (.dK [])) s3.heap.objs.size (cellsFrom (s3.heap.objs.size + 1) scope.names (cloFrom X.env.cells scope.names [])) fp
  have nfp : ∀ b ∈ fp, (upd H2 D (.dK [])) b = none := fun b hb => (f3 b hb).1.1
  show codeAny _ _ (.compStart (.DictComp kx vx [⟨tg, iter, ifs, 0⟩, ⟨tg1, iter1, ifs1, 0⟩] scope pos) 0 (.ref it) (.ref D) (compEnvC scope (cellsFrom (s3.heap.objs.size + 1) scope.names (cloFrom X.env.cells scope.names [])) s3.heap.objs.size X.env)) (compPost (model X.prog X.w) X.A X.xe use Qf (.ref D) s3.heap.objs.size) { s3 with heap := pushCells (s3.heap.push { cls := .type "dict", data := .dict #[] }) scope.names }
  have cL : (compEnvC scope (cellsFrom (s3.heap.objs.size + 1) scope.names (cloFrom X.env.cells scope.names [])) s3.heap.objs.size X.env).locals = s3.heap.objs.size := rfl
  revert I4 pg pt pk pe pi1 pg1 pt1 cL
  generalize compEnvC scope (cellsFrom (s3.heap.objs.size + 1) scope.names (cloFrom X.env.cells scope.names [])) s3.heap.objs.size X.env = ce
  have hst4 : tn 0 ({ s3 with heap := pushCells (s3.heap.push { cls := .type "dict", data := .dict #[] }) scope.names } : Shared).heap := T.keep _ _ _ st3 fun b _ o e => pushCells_keeps _ _ _ _ (Heap.get?_push_of_some _ e)
  revert hst4
  generalize ({ s3 with heap := pushCells (s3.heap.push { cls := .type "dict", data := .dict #[] }) scope.names } : Shared) = s4
  intro st4 I4 pg pt pk pe pi1 pg1 pt1 cL
  revert I3 I4 pg pt pk pe pi1 pg1 pt1 w0 nfp f3
  generalize upd H2 D (.dK []) = H3
  intro w0 I3 f3 nfp I4 pg pt pk pe pi1 pg1 pt1
  -- the walked object's parts: pinned while the block's own code runs
  have stat : ∀ {σ' : L2.St} {H' : Hp} {s' : Shared}, Inv (X.blk s3 H3 scope ce fp) [] σ' H' s' → (∀ b ∈ fp, H' b = none) → ∀ b ∈ fp, FpOk (X.blk s3 H3 scope ce fp) [] H' b := fun {σ' H' s'} I' hn b hb =>
    ⟨hn b hb, (I'.ok.exf b hb).1, I'.ok.exfs b hb, .inl hb, fun x c e => (I'.ok.exf b hb).2 x c e, fun p hp => absurd (show p ∈ ([] : List (Addr × Obj)) ++ [] from hp) (by simp)⟩
  have loop : codeAny (model X.prog X.w) X.A (.compLoop (.DictComp kx vx [⟨tg, iter, ifs, 0⟩, ⟨tg1, iter1, ifs1, 0⟩] scope pos) 0 (.ref it) (.ref D) ce) (compPost (model X.prog X.w) X.A X.xe use Qf (.ref D) s3.heap.objs.size) s4 := by
    refine loop2D_out (hs1 ce) (fun n s' => ∃ i H', Inv (X.blk s3 H3 scope ce fp) [] (wipe σ (own.map (·.2))) H' s' ∧ tn i s'.heap ∧ (∀ b ∈ fp, H' b = none) ∧ W i n H') ?_ m0 ⟨0, H3, I4, st4, nfp, w0⟩
    rintro n s5 ⟨i, H5, I5, st5, n5, w5⟩
    rcases turn i n H5 w5 with ⟨stop, qq⟩ | ⟨go, Nx, hNx, step⟩
    · refine thnF (T.done (X.blk s3 H3 scope ce fp) rfl rfl rfl hc i [] s5 _ H5 (fun _ _ => False) I5 (stat I5 n5) st5 stop) fun r s6 ⟨hr, I6⟩ => ?_
      subst hr
      have nC : H5 s3.heap.objs.size = none := by rw [← cL]; exact I6.free
      obtain ⟨m, hn, _⟩ := I6.loc
      rw [show (X.blk s3 H3 scope ce fp).env.locals = s3.heap.objs.size from cL] at hn
      have I7 : Inv X pins σ H5 s6 := I3.call' (ch := fp) I6.os I6.base I6.hok I6.bare fun b hb => ⟨(f3 b hb).1.2.2.2.1, (f3 b hb).1.2.1, (f3 b hb).1.2.2.2.2.1, (f3 b hb).1.2.2.2.2.2⟩
      exact hRR D s3.heap.objs.size s6 m H5 I7 qq hn (I3.fpOk (Nat.le_refl _) nC)
    · refine thnF (T.item (X.blk s3 H3 scope ce fp) rfl rfl rfl hc i [] s5 _ H5 (fun _ _ => False) I5 (stat I5 n5) st5 go) fun r s6 ⟨u, hr, h6⟩ => ?_
      subst hr
      refine thnF h6 fun _ s7 ⟨x, H7, I7, r7, y7, st7, n7⟩ => ?_
      refine thnF (pg.run _ s7 _ H7 x u _ (I7.pinned (stat I7 n7) (T.obj _ _ st7)) r7 (step x H7 y7)) fun _ s8 ⟨σ8, H8, I8, hw8, q8⟩ => ?_
      refine thnF (pt.run _ s8 σ8 H8 _ I8 q8) fun b s9 ⟨H9, I9, q9⟩ => ?_
      -- the turn's end, from any slots that know what the block knew at its start
      have fin : ∀ {σ9 : L2.St} {s' : Shared} {H' : Hp}, Inv (X.blk s3 H3 scope ce fp) ([] ++ pinsAt fp s7.heap) σ9 H' s' → (wipe σ (own.map (·.2))).length = σ9.length → (∀ (j : Nat) v, (wipe σ (own.map (·.2)))[j]? = some (some v) → σ9[j]? = some (some v)) → Nx H' → ∃ m, m < n ∧ ∃ i H', Inv (X.blk s3 H3 scope ce fp) [] (wipe σ (own.map (·.2))) H' s' ∧ tn i s'.heap ∧ (∀ b ∈ fp, H' b = none) ∧ W i m H' := fun {σ9 s' H'} I' hl hk' nx => by
        obtain ⟨m', hm, w'⟩ := hNx H' nx
        have pin' : ∀ b ∈ fp, ∀ o, s7.heap.get? b = some o → s'.heap.get? b = some o ∧ H' b = none := fun b hb o e =>
          have z := I'.pin (b, o) (List.mem_append_right _ (List.mem_append_right _ (mem_pinsAt hb e)))
          ⟨z.1, z.2.1⟩
        refine ⟨m', hm, i + 1, H', (I'.unpinned (pins := [])).weak hl hk', T.keep _ _ _ st7 fun b hb o e => (pin' b hb o e).1, fun b hb => ?_, w'⟩
        obtain ⟨o, e, _⟩ := T.obj _ _ st7 b hb
        exact (pin' b hb o e).2
      have hl8 : (wipe σ (own.map (·.2))).length = σ8.length := by rw [← hw8, wipe_length]
      have hk8 : ∀ (j : Nat) v, (wipe σ (own.map (·.2)))[j]? = some (some v) → σ8[j]? = some (some v) := fun j v e => by
        rw [← hw8] at e
        exact (wipe_some e).1
      have hk9 : ∀ (j : Nat) v, (wipe σ (own.map (·.2)))[j]? = some (some v) → (wipe σ8 vs1)[j]? = some (some v) := fun j v e => by
        rw [← hw8] at e
        obtain ⟨e1, e2⟩ := wipe_some e
        rw [wipe_out fun z => e2 (hv j z)]
        exact e1
      cases b with
      | false => exact fin I9 hl8 hk8 (by simpa using q9)
      | true =>
        simp only [if_true] at q9 ⊢
        refine thnF (pi1.run _ s9 σ8 H9 _ I9 q9) fun xv s10 hx => thnF hx fun itv s11 h11 => ?_
        obtain ⟨it1, fp1, tn1, J1, H11, e1, I11, T1, st11, f11, W1, ⟨m1, w1⟩, turn1⟩ := h11
        subst e1
        have stat1 : ∀ {H' : Hp}, (∀ b ∈ fp1, H' b = none) → ∀ b ∈ fp1, FpOk (X.blk s3 H3 scope ce fp) ([] ++ pinsAt fp s7.heap) H' b := fun hn b hb => ⟨hn b hb, (f11 b hb).2⟩
        have loop1 : codeAny (model X.prog X.w) X.A (.compLoop (.DictComp kx vx [⟨tg, iter, ifs, 0⟩, ⟨tg1, iter1, ifs1, 0⟩] scope pos) 1 (.ref it1) (.ref D) ce)
            (fun r s' => match r with
              | .ok _ => ∃ m, m < n ∧ ∃ i H', Inv (X.blk s3 H3 scope ce fp) [] (wipe σ (own.map (·.2))) H' s' ∧ tn i s'.heap ∧ (∀ b ∈ fp, H' b = none) ∧ W i m H'
              | .error _ => False) s11 := by
          refine loop2D_in (fun k s' => ∃ j H', Inv (X.blk s3 H3 scope ce fp) ([] ++ pinsAt fp s7.heap) (wipe σ8 vs1) H' s' ∧ tn1 j s'.heap ∧ (∀ b ∈ fp1, H' b = none) ∧ W1 j k H') ?_ m1 ⟨0, H11, I11.weak (wipe_length _ _) (fun j v e => (wipe_some e).1), st11, fun b hb => (f11 b hb).1, w1⟩
          rintro k s12 ⟨j, H12, I12, st12, n12, w12⟩
          rcases turn1 j k H12 w12 with ⟨stop1, nx1⟩ | ⟨go1, Nx1, hNx1, step1⟩
          · refine thnF (T1.done (X.blk s3 H3 scope ce fp) rfl rfl rfl hc j _ s12 (wipe σ8 vs1) H12 (fun _ _ => False) I12 (stat1 n12) st12 stop1) fun r s13 ⟨hr, I13⟩ => ?_
            subst hr
            exact fin I13 (hl8.trans (wipe_length σ8 vs1).symm) hk9 nx1
          · refine thnF (T1.item (X.blk s3 H3 scope ce fp) rfl rfl rfl hc j _ s12 (wipe σ8 vs1) H12 (fun _ _ => False) I12 (stat1 n12) st12 go1) fun r s13 ⟨u1, hr, h13⟩ => ?_
            subst hr
            refine thnF h13 fun _ s14 ⟨x1, H14, I14, r14, y14, st14, n14⟩ => ?_
            refine thnF (pg1.run _ s14 (wipe σ8 vs1) H14 x1 u1 _ (I14.pinned (stat1 n14) (T1.obj _ _ st14)) r14 (step1 x1 H14 y14)) fun _ s15 ⟨σ15, H15, I15, hw15, q15⟩ => ?_
            refine thnF (pt1.run _ s15 σ15 H15 _ I15 q15) fun b1 s16 ⟨H16, I16, q16⟩ => ?_
            have fin1 : ∀ {s' : Shared} {H' : Hp}, Inv (X.blk s3 H3 scope ce fp) (([] ++ pinsAt fp s7.heap) ++ pinsAt fp1 s14.heap) σ15 H' s' → Nx1 H' → ∃ m, m < k ∧ ∃ j H', Inv (X.blk s3 H3 scope ce fp) ([] ++ pinsAt fp s7.heap) (wipe σ8 vs1) H' s' ∧ tn1 j s'.heap ∧ (∀ b ∈ fp1, H' b = none) ∧ W1 j m H' := fun {s' H'} I' nx => by
              obtain ⟨m', hm, w'⟩ := hNx1 H' nx
              have pin' : ∀ b ∈ fp1, ∀ o, s14.heap.get? b = some o → s'.heap.get? b = some o ∧ H' b = none := fun b hb o e =>
                have z := I'.pin (b, o) (List.mem_append_right _ (List.mem_append_right _ (mem_pinsAt hb e)))
                ⟨z.1, z.2.1⟩
              refine ⟨m', hm, j + 1, H', I'.unpinned.weak (by rw [← hw15, wipe_length]) (fun j v e => by rw [← hw15] at e; exact (wipe_some e).1), T1.keep _ _ _ st14 fun b hb o e => (pin' b hb o e).1, fun b hb => ?_, w'⟩
              obtain ⟨o, e, _⟩ := T1.obj _ _ st14 b hb
              exact (pin' b hb o e).2
            cases b1 with
            | false => exact fin1 I16 (by simpa using q16)
            | true =>
              simp only [if_true] at q16 ⊢
              refine thnF (pk.run _ s16 σ15 H16 _ I16 q16) fun z s17 ⟨yk, H17, I17, r17, q17⟩ => ?_
              refine thnF (pe.run _ s17 σ15 H17 _ I17 q17) fun z2 s18 ⟨yv, H18, I18, r18, H19, hp, nx⟩ => ?_
              exact put_dict (X := X.blk s3 H3 scope ce fp) hu I18 hp r17 r18 fun s19 I19 => fin1 I19 nx
        exact start1D_ok loop1 (T1.self X.A 0 _ _ _ st11 loop1)
  exact codeAny_compStart_dict loop (T.self X.A 0 _ _ _ st4 loop)
theorem pe_dc2 {X : Cx} {kx vx tg iter tg1 iter1 : Expr} {ifs ifs1 : List Expr} {scope : Scope} {own : List (Str × Nat)} {vs1 : List Nat} {pos : Pos} {wi wi1 : TI} {g g1 : TG} {tt tt1 : TT} {tk tv : TE} (hc : X.calm = true) (hN : X.N.Nodup) (hu : X.A.units < cLine) (hi : PI X tg iter wi) (ok : BlkOk X.N X.env.scope scope own) (hv : ∀ i ∈ vs1, i ∈ own.map (·.2))
    (hg : ∀ (s : Shared) (H : Hp) (C : Addr) (cl : List (Str × Addr)) (fp : List Addr), PG (X.blk s H scope (compEnvC scope cl C X.env) fp) tg g) (ht : ∀ (s : Shared) (H : Hp) (C : Addr) (cl : List (Str × Addr)) (fp : List Addr), PTs (X.blk s H scope (compEnvC scope cl C X.env) fp) ifs tt)
    (hi1 : ∀ (s : Shared) (H : Hp) (C : Addr) (cl : List (Str × Addr)) (fp : List Addr), PI (X.blk s H scope (compEnvC scope cl C X.env) fp) tg1 iter1 wi1)
    (hg1 : ∀ (s : Shared) (H : Hp) (C : Addr) (cl : List (Str × Addr)) (fp : List Addr), PG (X.blk s H scope (compEnvC scope cl C X.env) fp) tg1 g1)
    (ht1 : ∀ (s : Shared) (H : Hp) (C : Addr) (cl : List (Str × Addr)) (fp : List Addr), PTs (X.blk s H scope (compEnvC scope cl C X.env) fp) ifs1 tt1)
    (hk : ∀ (s : Shared) (H : Hp) (C : Addr) (cl : List (Str × Addr)) (fp : List Addr), PE (X.blk s H scope (compEnvC scope cl C X.env) fp) kx tk)
    (he : ∀ (s : Shared) (H : Hp) (C : Addr) (cl : List (Str × Addr)) (fp : List Addr), PE (X.blk s H scope (compEnvC scope cl C X.env) fp) vx tv) (hs : ∀ x, foldedSetIterable iter X.env x = pure x := by intro _; rfl) (hs1 : ∀ env x, foldedSetIterable iter1 env x = pure x := by intro _ _; rfl) :
    PE X (.DictComp kx vx [⟨tg, iter, ifs, 0⟩, ⟨tg1, iter1, ifs1, 0⟩] scope pos) (tDc2 wi g tt wi1 g1 tt1 tk tv (own.map (·.2)) vs1) := by
  refine ⟨fun pins s σ H Q I h => ?_⟩
  rw [arm_eval_DictComp]
  refine dc2_core I hc hN hu hi ok hv hg ht hk he hs hi1 hg1 ht1 hs1 h fun D C s' m H' I' q hn f => ⟨m, hn, fun h'' sb => ?_⟩
  obtain ⟨f0, f1, f2, f3, f4, f5⟩ := f
  exact ⟨.ref D, H', I'.turned (t' := s'.toks) (fun b o hb e => (sb.2 b hb).trans e) f0 f1 f3 f4 f5, rfl, q⟩
/-! ### what is walked within a block, K named -/
theorem pi_listK {X : Cx} {K : PySem.W.Frag} (h : X.K = K) {tg l : Expr} {tl : TE} (hl : PE X l tl) : PI X tg l (iList K tl) := h ▸ pi_list hl
theorem pi_tupK {X : Cx} {K : PySem.W.Frag} (h : X.K = K) {tg l : Expr} {tl : TE} (hl : PE X l tl) : PI X tg l (iTup K tl) := h ▸ pi_tup hl
theorem pi_seqK {X : Cx} {K : PySem.W.Frag} (h : X.K = K) {tg l : Expr} {tl : TE} (hl : PE X l tl) : PI X tg l (iSeq K tl) := h ▸ pi_seq hl
end Nw

namespace Nw
open PySem PySem.Spec PyProof.Rows L2
/-! ### == of two dicts whose values are instances of a class with its own == -/
section
variable {X : Cx} {k : Nat} {f C a b oadr : Addr} {fd : FuncData} {ps : List Str} {sp : Sp} {pins : List (Addr × Obj)} {σ : L2.St} {H : Hp} {s : Shared}
/-- a def called one deeper -/
theorem own_in1 (F : FnOk X.prog X.w X.K X.mg X.base CX0 k f fd ps sp) (hr : Room (k + 1) X.A) (hb : Binds X.K fd ps []) {Q : VK} (I : Inv X pins σ H s) (q : sp [.ref a, .ref b] H Q E0) :
    wpAny (model X.prog X.w) X.A.in1 (call (.ref f) [.ref a, .ref b]) (EP X pins σ Q) X.xe s := by
  have r2 : Vals [V.ref a, V.ref b] [Value.ref a, Value.ref b] := .cons rfl (.cons rfl .nil)
  have e0 : Env0 X.prog X.w X.K X.mg X.base X.A.in1 X.stack s H := I.env0.in1
  have hl : (([.ref a, .ref b] : List Value) ++ []).length = ps.length := by
    have := F.len _ _ _ _ q
    simpa using this
  refine wpAny_call (codeAny_mono (F.run X.A.in1 X.stack s H ⟨[.ref a, .ref b], []⟩ [.ref a, .ref b] [.ref a, .ref b] _ E0 hr.in1 e0 (by
    have := hb s [.ref a, .ref b] I.kIn hl
    simpa using this) r2 q) fun r s' hq => ?_)
  cases r with
  | error e => exact pass0 pins σ H s e s' I hq
  | ok fl =>
    cases fl with
    | ret w => exact I.after hq
    | next => exact False.elim hq
    | brk => exact False.elim hq
    | cont => exact False.elim hq
theorem eqB_in1 (M : Meth X.K C "__eq__" f) (F : FnOk X.prog X.w X.K X.mg X.base CX0 k f fd ps sp) (hr : Room (k + 1) X.A) (hb : Binds X.K fd ps []) (I : Inv X pins σ H s) {x y dx dy : Addr} {fs gs : List (Str × V)} (hx : H x = some (.ins C dx fs)) (hy : H y = some (.ins C dy gs)) {R : Bool → Hp → Prop}
    (h : if x = y then R true H else sp [.ref x, .ref y] H (fun v H' => ∃ t, v = .bl t ∧ R t H') E0) :
    wpAny (model X.prog X.w) X.A.in1 (eqBool (.ref x) (.ref y)) (fun t s' => ∃ H', Inv X pins σ H' s' ∧ R t H') X.xe s := by
  unfold eqBool
  refine wpAny_holding ?_
  refine wpAny_ite_split (fun hab => ?_) (fun hab => ?_)
  · have e : x = y := by have := eq_of_beq hab; injection this
    rw [if_pos e] at h
    exact wpAny_bind (wpAny_rule (wpAny_pure ⟨H, I, h⟩))
  · have e : x ≠ y := fun z => hab (by rw [z]; exact beq_self_eq_true _)
    rw [if_neg e] at h
    obtain ⟨mA, J, _⟩ := ins_get I.hok hx
    obtain ⟨mB, J', _⟩ := ins_get I.hok hy
    obtain ⟨od, J, _⟩ := J.look
    obtain ⟨od', J', _⟩ := J'.look
    obtain ⟨m, hF⟩ := I.fr
    refine wpAny_bind (PySem.W.cmp_K (op := .Eq) (tb := .ref C) hr.in1.units0 hF I.ok.mod.kin J J'.type (by simp [PySem.W.notFirst]) M.at_ M.fn ?_)
    refine wpAny_mono (own_in1 F hr hb I h) (fun v s' hq => ?_) fun _ _ e => e
    obtain ⟨z, H', I', rz, t, rfl, q⟩ := hq
    cases rz
    exact wpAny_truthy_bool ⟨H', I', q⟩
/-- the items one by one -/
def hitsX (C : Addr) (sp : Sp) (a b : Addr) (oa : Obj) (ks ls : List (Key × V)) : List (Key × V) → Hp → (Bool → Hp → Prop) → Prop
  | [], H, Q => Q true H
  | p :: r, H, Q => match valV ls p.1 with
    | none => Q false H
    | some w => ∃ x y dx dy fs gs, p.2 = .ref x ∧ w = .ref y ∧ H x = some (.ins C dx fs) ∧ H y = some (.ins C dy gs) ∧
        if x = y then hitsX C sp a b oa ks ls r H Q else sp [.ref x, .ref y] H (fun v H' => ∃ t, v = .bl t ∧ H' a = some (.frz oa (.dK ks)) ∧ H' b = some (.dK ls) ∧ if t = true then hitsX C sp a b oa ks ls r H' Q else Q false H') E0
theorem samePairsX {nm : String} {oa : Obj} {ks ls : List (Key × V)} {Q : Bool → Hp → Prop} (M : Meth X.K C "__eq__" f) (F : FnOk X.prog X.w X.K X.mg X.base CX0 k f fd ps sp) (hr : Room (k + 1) X.A) (hb : Binds X.K fd ps []) (I : Inv X pins σ H s)
    (ea : H a = some (.frz oa (.dK ks))) (eb : H b = some (.dK ls)) (h : if ks.length = ls.length then hitsX C sp a b oa ks ls ks H Q else Q false H) :
    wpAny (model X.prog X.w) X.A.in1 (Builtin.Dict.samePairs nm a b) (fun t s' => ∃ H', Inv X pins σ H' s' ∧ Q t H') X.xe s := by
  obtain ⟨hoa, _, ya, va, ra, da⟩ := (show ObjOk X.prog X.w H s.heap a (.frz oa (.dK ks)) from I.hok a _ ea)
  obtain ⟨_, yb, vb, rb, db⟩ := (show ObjOk X.prog X.w H s.heap b (.dK ls) from I.hok b _ eb)
  obtain ⟨oa', es, ep, hoa', _, hda, hka, hpa, _⟩ := da
  obtain rfl : oa = oa' := Option.some.inj (hoa.symm.trans hoa')
  obtain ⟨ob, es', ep', hob, _, hdb, hkb, hpb, _⟩ := db
  have hla : ks.length = es.size := by rw [ra.length, ← hpa.length]; exact Array.length_toList
  have hlb : ls.length = es'.size := by rw [rb.length, ← hpb.length]; exact Array.length_toList
  rw [hla, hlb] at h
  unfold Builtin.Dict.samePairs Builtin.Dict.showsAll
  rw [if_neg (show ¬ (a == sysModules) = true by rw [ya]; exact Bool.false_ne_true), if_neg (show ¬ (b == sysModules) = true by rw [yb]; exact Bool.false_ne_true)]
  refine wpAny_bind (wpAny_pure (wpAny_bind (wpAny_pure ?_)))
  refine wpAny_bind (wpAny_dictEntries hoa hda ?_)
  dsimp only
  refine wpAny_bind (wpAny_dictEntries hob hdb ?_)
  by_cases hsz : es.size = es'.size
  case neg =>
    rw [if_neg hsz] at h
    rw [if_pos (by simpa using hsz)]
    exact wpAny_bind (wpAny_rule (wpAny_pure ⟨H, I, h⟩))
  case pos =>
    rw [if_pos hsz] at h
    rw [if_neg (by rw [hsz]; simp)]
    refine wpAny_bind (wpAny_dictEpoch hoa hda ?_)
    refine wpAny_bind ?_
    rw [Std.Legacy.Range.forIn_eq_forIn_range']
    simp only [Std.Legacy.Range.size, Nat.sub_zero, Nat.add_sub_cancel, Nat.div_one]
    clear hob hdb hkb hpb rb yb hlb hsz hoa'
    refine wpAny_forIn_list _
      (fun rest q s' => q = (none, ()) ∧ ∃ i H', rest = List.range' i (es.size - i) ∧ i ≤ es.size ∧ Inv X pins σ H' s' ∧ H' a = some (.frz oa (.dK ks)) ∧ H' b = some (.dK ls) ∧ hitsX C sp a b oa ks ls (ks.drop i) H' Q)
      _ ?_ ?_ _ _ ⟨rfl, 0, H, by simp, Nat.zero_le _, I, ea, eb, h⟩
    · rintro x rest q s' ⟨rfl, i, H', hrr, hi, I', ea', eb', hpre⟩
      obtain ⟨hoa2, _, _, va2, ra2, da2⟩ := (show ObjOk X.prog X.w H' s'.heap a (.frz oa (.dK ks)) from I'.hok a _ ea')
      obtain ⟨_, yb, vb, rb, db⟩ := (show ObjOk X.prog X.w H' s'.heap b (.dK ls) from I'.hok b _ eb')
      obtain ⟨ob, es', ep', hob, _, hdb, hkb, hpb, _⟩ := db
      have hfind : ∀ k, findBy (mixKind X.prog X.w).is es' k = valueAt vb k := fun k => by
        rw [← hpb.find k]
        clear hpb hkb hdb hob
        obtain ⟨l⟩ := es'
        simp [findBy]
      have hlt : i < es.size := by
        rcases Nat.lt_or_ge i es.size with h | h
        · exact h
        · rw [Nat.sub_eq_zero_of_le h] at hrr; simp at hrr
      obtain ⟨rfl, hrest⟩ : x = i ∧ rest = List.range' (i + 1) (es.size - (i + 1)) := by
        have e : es.size - i = (es.size - (i + 1)) + 1 := by omega
        rw [e, List.range'_succ] at hrr
        injection hrr with h1 h2
        exact ⟨h1, h2⟩
      refine wpAny_bind (wpAny_dictEntries hoa2 hda ?_)
      rw [Array.getElem?_eq_getElem hlt]
      have hlt' : x < ks.length := by rw [hla]; exact hlt
      have hltv : x < va.length := by rw [← ra.length]; exact hlt'
      obtain ⟨ky, v, hkv⟩ : ∃ k v, va[x] = (k, v) := ⟨_, _, rfl⟩
      have hva : va[x]? = some (ky, v) := by rw [List.getElem?_eq_getElem hltv, hkv]
      obtain ⟨w, hw, rv⟩ := ra.at' hva
      have hdrop : ks.drop x = (ky, w) :: ks.drop (x + 1) := by
        rw [List.drop_eq_getElem_cons hlt']
        rw [List.getElem?_eq_getElem hlt'] at hw
        rw [Option.some.inj hw]
      obtain ⟨hkey, hval⟩ := hpa.get? (i := x) (e := es[x]) (k := ky) (v := v) (by rw [Array.getElem?_toList]; exact Array.getElem?_eq_getElem hlt) hva
      obtain ⟨k', hk', hh⟩ := hka es[x] (Array.getElem_mem hlt)
      have ekk : k' = ky := (mixKind X.prog X.w).inj _ _ _ hk' hkey
      rw [ekk] at hh
      rw [hdrop] at hpre
      show wpAny _ _ (holding [es[x].key, es[x].val] _ >>= _) _ _ _
      rw [hh]
      refine wpAny_bind (wpAny_holding (wpAny_bind (wpAny_dictFind_of hkey hob hdb hkb ?_)))
      have rr := rb.val ky
      unfold hitsX at hpre
      cases hj : es'.findIdx? fun e => (mixKind X.prog X.w).is ky e.key with
      | none =>
        have hn : valueAt vb ky = none := by rw [← hfind ky, findBy_of_findIdx?, hj]
        rw [hn] at rr
        have hn2 : valV ls ky = none := by
          cases e : valV ls ky with
          | none => rfl
          | some z => rw [e] at rr; obtain ⟨_, z, _⟩ := rr.some_of; cases z
        rw [hn2] at hpre
        refine wpAny_pure ?_
        show wpAny _ _ (if (!false) = true then _ else _) _ _ _
        rw [if_pos (by decide)]
        exact wpAny_pure (wpAny_pure ⟨H', I', hpre⟩)
      | some j =>
        obtain ⟨hjlt, _, _⟩ := Array.findIdx?_eq_some_iff_getElem.mp hj
        have hv' : valueAt vb ky = some es'[j].val := by
          rw [← hfind ky, findBy_of_findIdx?, hj]
          simp [Array.getElem?_eq_getElem hjlt]
        rw [hv'] at rr
        refine wpAny_bind (wpAny_dictEntries hob hdb ?_)
        rw [Array.getElem?_eq_getElem hjlt]
        cases e : valV ls ky with
        | none => rw [e] at rr; exact absurd rr (by intro z; cases z)
        | some z =>
          rw [e] at rr hpre
          obtain ⟨u, hu, ru⟩ := rr.some_of
          cases hu
          obtain ⟨x1, y1, dx, dy, fs, gs, e1, e2, hx1, hy1, hq⟩ := hpre
          have e1 : w = .ref x1 := e1
          subst e1 e2
          have q1 : es[x].val = .ref x1 := hval.trans (show v = .ref x1 from rv)
          have q2 : es'[j].val = .ref y1 := (show es'[j].val = .ref y1 from ru)
          rw [q1]
          show wpAny _ _ (holding [es'[j].val] (eqBool (.ref x1) es'[j].val)) _ _ _
          rw [q2]
          refine wpAny_holding (wpAny_mono (eqB_in1 (R := fun t H2 => H2 a = some (.frz oa (.dK ks)) ∧ H2 b = some (.dK ls) ∧ if t = true then hitsX C sp a b oa ks ls (ks.drop (x + 1)) H2 Q else Q false H2) M F hr hb I' hx1 hy1 ?_) (fun t s2 hh => ?_) fun _ _ e => e)
          · split
            · rename_i e; rw [if_pos e] at hq; exact ⟨ea', eb', hq⟩
            · rename_i e; rw [if_neg e] at hq; exact hq
          obtain ⟨H2, I2, ea2, eb2, q⟩ := hh
          cases t with
          | false =>
            show wpAny _ _ (if (!false) = true then _ else _) _ _ _
            rw [if_pos (by decide)]
            exact wpAny_pure (wpAny_pure ⟨H2, I2, q⟩)
          | true =>
            show wpAny _ _ (if (!true) = true then _ else _) _ _ _
            rw [if_neg (by decide)]
            obtain ⟨hoa3, _⟩ := (show ObjOk X.prog X.w H2 s2.heap a (.frz oa (.dK ks)) from I2.hok a _ ea2)
            refine wpAny_bind (wpAny_dictEpoch hoa3 hda ?_)
            rw [if_neg (by simp)]
            exact wpAny_pure ⟨rfl, x + 1, H2, hrest, hlt, I2, ea2, eb2, q⟩
    · rintro q s' ⟨rfl, i, H', hrr, hi, I', ea', eb', hpre⟩
      have hin : i = es.size := by
        rcases Nat.lt_or_ge i es.size with h | h
        · have e : es.size - i = (es.size - (i + 1)) + 1 := by omega
          rw [e, List.range'_succ] at hrr; exact nomatch hrr
        · exact Nat.le_antisymm hi h
      refine wpAny_pure ?_
      rw [hin, ← hla, List.drop_length] at hpre
      exact ⟨H', I', hpre⟩
/-- what == of such dicts asks -/
def rEqX (C : Addr) (sp : Sp) : R2 := fun x y H Q => ∃ a b ks ls, x = .ref a ∧ y = .ref b ∧ a ≠ b ∧ H a = some (.dK ks) ∧ H b = some (.dK ls) ∧
  ∀ oa, if ks.length = ls.length then hitsX C sp a b oa ks ls ks (upd H a (.frz oa (.dK ks))) (fun t H' => H' a = some (.frz oa (.dK ks)) ∧ Q (.bl t) (upd H' a (.dK ks))) else Q (.bl false) H
theorem op_eqX (M : Meth X.K C "__eq__" f) (F : FnOk X.prog X.w X.K X.mg X.base CX0 k f fd ps sp) (hr : Room (k + 1) X.A) (hb : Binds X.K fd ps []) : OpR X (compareOp .Eq) (rEqX C sp) := by
  intro pins s σ H x y v u Q I rx ry h
  obtain ⟨a, b, ks, ls, rfl, rfl, ne, ea, eb, h⟩ := h
  obtain rfl : v = Value.ref a := rx
  obtain rfl : u = Value.ref b := ry
  obtain ⟨_, ya, va, ra, da⟩ := (show ObjOk X.prog X.w H s.heap a (.dK ks) from I.hok a _ ea)
  obtain ⟨_, yb, vb, rb, db⟩ := (show ObjOk X.prog X.w H s.heap b (.dK ls) from I.hok b _ eb)
  obtain ⟨oa, I1⟩ := I.lock ea True.intro
  have h1 := h oa
  have nf := I.nofrz ea True.intro
  refine wpAny_richCompare_same_room (op := .Eq) da.typeIs db.typeIs PySem.F.slot_dict_eq (wpAny_call_entry PySem.F.slot_dict_eq da.typeIs PySem.F.entry_dict_eq ?_ (PySem.F.args_dict_eq_2 _ _)) hr.units0
  show wpAny _ _ (Builtin.Dict.dictSlotArgs "__eq__" ⟨[.ref a, .ref b], []⟩ >>= _) _ _ s
  refine wpAny_bind ?_
  unfold Builtin.Dict.dictSlotArgs
  refine wpAny_bind (wpAny_notOrdered_dict da.typeIs ?_)
  show wpAny _ _ (pure (Value.ref a, Value.ref b)) _ _ s
  refine wpAny_pure ?_
  refine wpAny_bind (wpAny_isInstance (T := "dict") db.typeIs PySem.F.sub_dict_dict ?_)
  simp only [Bool.not_true, Bool.false_eq_true, if_false]
  refine wpAny_bind (wpAny_pure (wpAny_bind (wpAny_pure ?_)))
  refine wpAny_bind (wpAny_mono (samePairsX (Q := fun t H' => H' a = some (.frz oa (.dK ks)) ∧ Q (.bl t) (upd H' a (.dK ks))) M F hr hb I1 upd_same (by rw [upd_ne ne.symm]; exact eb) ?_) (fun t s2 hh => ?_) fun _ _ e => e)
  · split
    · rename_i e; rw [if_pos e] at h1; exact h1
    · rename_i e
      rw [if_neg e] at h1
      refine ⟨upd_same, ?_⟩
      have e2 : upd (upd H a (.frz oa (.dK ks))) a (.dK ks) = H := by
        rw [upd_upd]
        funext c
        unfold upd
        split
        · rename_i z; rw [z, ea]
        · rfl
      rw [e2]; exact h1
  obtain ⟨H2, I2, e2, q⟩ := hh
  refine wpAny_pure ⟨_, rfl, ?_, ?_⟩
  · exact fun x => nomatch x
  · refine ⟨.bl t, _, I2.unlock e2 nf, ?_, q⟩
    cases t <;> exact rfl
end
end Nw

namespace Nw
open PySem PySem.Spec PyProof.Rows L2
/-! ### sets made of a list: keys of any kind, in no order that is told -/
def addL {κ : Type} [DecidableEq κ] (L : List κ) (k : κ) : List κ := if k ∈ L then L else L ++ [k]
/-- the different ones of a list, in the order of their first places -/
def distinct {κ : Type} [DecidableEq κ] (xs : List κ) : List κ := xs.foldl addL []
section
variable {κ : Type} [DecidableEq κ]
theorem addL_nodup {L : List κ} {k : κ} (h : L.Nodup) : (addL L k).Nodup := by
  unfold addL
  split
  · exact h
  · rename_i hk
    refine List.nodup_append.mpr ⟨h, by simp, fun a ha b hb e => ?_⟩
    rw [List.mem_singleton] at hb
    subst hb e
    exact hk ha
theorem mem_addL {L : List κ} {k j : κ} : j ∈ addL L k ↔ j ∈ L ∨ j = k := by
  unfold addL
  split
  · rename_i hk
    exact ⟨.inl, fun h => h.elim id fun e => e ▸ hk⟩
  · rw [List.mem_append, List.mem_singleton]
theorem addL_len {L : List κ} {k : κ} : (addL L k).length ≤ L.length + 1 := by
  unfold addL
  split
  · omega
  · rw [List.length_append]; exact Nat.le_refl _
theorem foldl_addL : ∀ (xs L : List κ), L.Nodup → (xs.foldl addL L).Nodup ∧ (∀ j, j ∈ xs.foldl addL L ↔ j ∈ L ∨ j ∈ xs) ∧ (xs.foldl addL L).length ≤ L.length + xs.length
  | [], L, h => ⟨h, fun j => by simp, by simp⟩
  | x :: xs, L, h => by
    obtain ⟨h1, h2, h3⟩ := foldl_addL xs (addL L x) (addL_nodup h)
    refine ⟨h1, fun j => ?_, ?_⟩
    · rw [List.foldl_cons, h2, mem_addL, List.mem_cons, or_assoc]
    · rw [List.foldl_cons, List.length_cons]
      have := addL_len (L := L) (k := x)
      omega
theorem distinct_nodup (xs : List κ) : (distinct xs).Nodup := (foldl_addL xs [] List.nodup_nil).1
theorem mem_distinct {xs : List κ} {j : κ} : j ∈ distinct xs ↔ j ∈ xs := by
  have := (foldl_addL xs [] List.nodup_nil).2.1 j
  rw [show distinct xs = xs.foldl addL [] from rfl, this]
  simp
theorem distinct_len (xs : List κ) : (distinct xs).length ≤ xs.length := by
  have := (foldl_addL xs [] List.nodup_nil).2.2
  simpa [distinct] using this
end
theorem Paired.perm {α β : Type} {F : α → β → Prop} {xs ys : List α} (p : xs.Perm ys) : ∀ {ms : List β}, Paired F ys ms → ∃ ns, Paired F xs ns ∧ ns.Perm ms := by
  induction p with
  | nil => intro ms h; exact ⟨ms, h, .refl _⟩
  | cons a _ ih =>
    intro ms h
    cases h with
    | cons h t =>
      obtain ⟨ns, h1, h2⟩ := ih t
      exact ⟨_, .cons h h1, h2.cons _⟩
  | swap a b l =>
    intro ms h
    cases h with
    | cons h t => cases t with
      | cons h2 t => exact ⟨_, .cons h2 (.cons h t), .swap _ _ _⟩
  | trans _ _ ih1 ih2 =>
    intro ms h
    obtain ⟨ns, h1, h2⟩ := ih2 h
    obtain ⟨ks, h3, h4⟩ := ih1 h1
    exact ⟨ks, h3, h4.trans h2⟩
section
variable {P : Program} {w : World} {κ : Type} [DecidableEq κ] (knd : PySem.KeyKind P w κ)
def ItK (e : Int × Value) (k : κ) : Prop := knd.is k e.2 = true ∧ e.1 = knd.hash k ∧ e.2.scannable = true
def SetL (h : Heap) (a : Addr) (L : List κ) : Prop := ∃ o es ep t M, h.get? a = some o ∧ o.ExactSet ∧ o.data = .set es ep t ∧ Paired (ItK knd) es.toList M ∧ M.Perm L ∧ L.Nodup ∧
  es.size < scanBound ∧ t.fits es.size = true ∧ Ris t.place.toList ∧ (w.params.followText "set-order" = true ∨ t.led = true)
variable {knd}
theorem itk_elems : ∀ {es : List (Int × Value)} {M : List κ}, Paired (ItK knd) es M → ElemsOf knd es
  | _, _, .nil => fun e he => nomatch he
  | _, _, .cons h t => fun e he => by
    rcases List.mem_cons.mp he with rfl | he
    · exact ⟨⟨_, h.1, h.2.1⟩, h.2.2⟩
    · exact itk_elems t e he
theorem itk_mem {k : κ} : ∀ {es : List (Int × Value)} {M : List κ}, Paired (ItK knd) es M → (k ∈ M ↔ ∃ e ∈ es, knd.is k e.2 = true)
  | _, _, .nil => ⟨fun h => (nomatch h), fun ⟨_, h, _⟩ => (nomatch h)⟩
  | _, _, .cons (a := e) (b := j) h t => by
    rw [List.mem_cons, itk_mem t]
    constructor
    · rintro (rfl | ⟨e, he, q⟩)
      · exact ⟨_, List.mem_cons_self .., h.1⟩
      · exact ⟨e, List.mem_cons_of_mem _ he, q⟩
    · rintro ⟨e, he, q⟩
      rcases List.mem_cons.mp he with rfl | he
      · exact .inl (knd.inj _ _ _ q h.1)
      · exact .inr ⟨e, he, q⟩
variable {A : Around} {E : Value → Shared → Prop} {s : Shared} {a : Addr} {L : List κ}
theorem setL_tail {g : Bool → Sem Unit} (hg : ∀ (b : Bool) (s₁ : Shared) (Q' : Unit → Shared → Prop), Q' () s₁ → wpAny (model P w) A (g b) Q' E s₁)
    {o : Obj} {es : Array (Int × Value)} {ep : Nat} {t : SetTable} (ho : s.heap.get? a = some o) (hex : o.ExactSet) (hd : o.data = .set es ep t)
    {es1 : Array (Int × Value)} {t2 : SetTable} {M : List κ} (hp : Paired (ItK knd) es1.toList M) (hM : M.Perm L) (nd : L.Nodup)
    (hb1 : es1.size < scanBound) (hf2 : t2.fits es1.size = true) (hr : Ris t2.place.toList) (hl : w.params.followText "set-order" = true ∨ t2.led = true) {wasDummy : Bool} {R : Option Bool → Shared → Prop}
    (hR : ∀ h', Heap.SameBut a s.heap h' → SetL knd h' a L → R (some true) { s with heap := h' }) :
    wpAny (model P w) A (do
        storeSet a es1 t2
        if (!wasDummy && t2.tooFull) = true then do
            g (relayAll t2 es1 (SetTable.grown es1.size)).2.2
            storeSet a (relayAll t2 es1 (SetTable.grown es1.size)).1 (relayAll t2 es1 (SetTable.grown es1.size)).2.1
            pure (some true)
          else pure (some true)) R E s := by
  refine wpAny_bind (wpAny_storeSet_of ho hd ?_ (fits_of_scanBound hb1))
  have ho1 := store_at (es' := es1) (t' := t2) ho hd
  have sb1 := Heap.SameBut.update s.heap a (Obj.putSet es1 t2)
  split
  · have pm := relayAll_perm t2 es1 (SetTable.grown es1.size)
    have hf3 := relayAll_fits t2 es1 (SetTable.grown es1.size)
    have hr3 := relayAll_ris t2 es1 (SetTable.grown es1.size)
    have hl3 := relayAll_led t2 es1 (SetTable.grown es1.size)
    generalize relayAll t2 es1 (SetTable.grown es1.size) = Z at pm hf3 hr3 hl3 ⊢
    obtain ⟨es2, t3, gave⟩ := Z
    dsimp only at pm hf3 hr3 hl3 ⊢
    have hsz : es2.size = es1.size := by rw [← Array.length_toList, pm.length_eq, Array.length_toList]
    have hb2 : es2.size < scanBound := by rw [hsz]; exact hb1
    refine wpAny_bind (hg _ _ _ ?_)
    refine wpAny_bind (wpAny_storeSet_of ho1 rfl ?_ (fits_of_scanBound hb2))
    have ho2 := store_at (es' := es2) (t' := t3) ho1 rfl
    obtain ⟨N, hN, pN⟩ := Nw.Paired.perm pm hp
    refine wpAny_pure (hR _ (sb1.trans (Heap.SameBut.update _ a _)) ⟨_, es2, _, t3, N, ho2, hex, rfl, hN, pN.trans hM, nd, hb2, hf3, hr3, hl.imp id fun z => by rw [hl3]; exact z⟩)
  · exact wpAny_pure (hR _ sb1 ⟨_, es1, _, t2, M, ho1, hex, rfl, hp, hM, nd, hb1, hf2, hr, hl⟩)
theorem setL_add {k : κ} {x : Value} {Q : Bool → Shared → Prop} (hkey : knd.is k x = true) (hsc : x.scannable = true) (R : SetL knd s.heap a L) (room : L.length + 1 < scanBound)
    (hQ : ∀ (b : Bool) h', Heap.SameBut a s.heap h' → SetL knd h' a (addL L k) → Q b { s with heap := h' }) :
    wpAny (model P w) A (setAddHashed a x (knd.hash k)) Q E s := by
  obtain ⟨o, es, ep, t, M, ho, hex, hd, hp, hM, nd, hb, hf, hr, hl⟩ := R
  have hel : ElemsOf knd es.toList := itk_elems hp
  have hlen : es.size = L.length := by rw [← Array.length_toList, Nw.Paired.len hp, hM.length_eq]
  unfold setAddHashed setAddHashedIn
  refine wpAny_holding (wpAny_bind (wpAny_setState_of ho hd hf ?_))
  dsimp only
  rw [byScan_of hsc hb hel]
  simp only [↓reduceIte]
  unfold setAddByScan
  refine wpAny_bind ?_
  refine wpAny_bind (wpAny_rule ?_)
  refine wpAny_bind (wpAny_setScan_of hkey ho hd hf hel ?_)
  cases hfi : List.findIdx? (fun e => knd.is k e.2) es.toList with
  | some j =>
    dsimp only
    obtain ⟨hj, pj, _⟩ := List.findIdx?_eq_some_iff_getElem.mp hfi
    have hk : k ∈ L := hM.mem_iff.mp ((itk_mem hp).mpr ⟨es.toList[j], List.getElem_mem hj, pj⟩)
    refine wpAny_pure (wpAny_pure ?_)
    exact hQ _ s.heap (Heap.SameBut.refl a s.heap) ⟨o, es, ep, t, M, ho, hex, hd, hp, by unfold addL; rw [if_pos hk]; exact hM, addL_nodup nd, hb, hf, hr, hl⟩
  | none =>
    dsimp only
    have hk : k ∉ L := fun z => by
      obtain ⟨e, he, q⟩ := (itk_mem hp).mp (hM.mem_iff.mpr z)
      have c := List.findIdx?_eq_none_iff.mp hfi e he
      rw [q] at c
      cases c
    have eL : addL L k = L ++ [k] := by unfold addL; rw [if_neg hk]
    have hgw : ∀ (b : Bool) {s₁ : Shared} {Q' : Unit → Shared → Prop}, Q' () s₁ → wpAny (model P w) A (match b with | true => rule "set.scan.the-table-gave-way" | false => pure ()) Q' E s₁ :=
      fun b s₁ Q' q => by cases b <;> first | exact wpAny_pure q | exact wpAny_rule q
    have pm := layNew_perm t es (knd.hash k) x
    have hf1 := layNew_fits t es (knd.hash k) x
    have hr1 := layNew_ris t es (knd.hash k) x hr
    have hl1 := layNew_led t es (knd.hash k) x
    generalize layNew t es (knd.hash k) x = Z at pm hf1 hr1 hl1 ⊢
    obtain ⟨es1, t1, wasDummy, gave⟩ := Z
    dsimp only at pm hf1 hr1 hl1 ⊢
    rw [Array.toList_push] at pm
    have pc : es1.toList.Perm ((knd.hash k, x) :: es.toList) := pm.trans (List.perm_append_singleton _ _)
    obtain ⟨N, hN, pN⟩ := Nw.Paired.perm pc (.cons (b := k) (show ItK knd (knd.hash k, x) k from ⟨hkey, rfl, hsc⟩) hp)
    have pN2 : N.Perm (addL L k) := by
      rw [eL]
      exact pN.trans ((hM.cons k).trans (List.perm_append_singleton _ _).symm)
    have hsz : es1.size = L.length + 1 := by rw [← Array.length_toList, pc.length_eq, List.length_cons, Array.length_toList, hlen]
    have hb1 : es1.size < scanBound := by rw [hsz]; exact room
    have hled : w.params.followText "set-order" = true ∨ t1.led = true := hl.imp id fun z => by rw [hl1]; exact z
    refine wpAny_bind (hgw _ ?_)
    split
    · refine wpAny_bind ?_
      rw [hashByValue_scannable 8 hsc]
      refine wpAny_pure ?_
      refine setL_tail ?_ ho hex hd hN pN2 (addL_nodup nd) hb1 ?_ ?_ ?_ ?_
      · intro b s₁ Q' q; cases b <;> first | exact wpAny_pure q | exact wpAny_rule q
      · first | (split <;> first | exact hf1 | exact SetTable.fits_plain_off hf1) | exact hf1
      · first | (split <;> exact hr1) | exact hr1
      · first | (split <;> exact hled) | exact hled
      · intro h' sb r; dsimp only; exact wpAny_pure (hQ _ h' sb r)
    · refine wpAny_bind (wpAny_pure ?_)
      simp only [↓reduceIte]
      refine setL_tail ?_ ho hex hd hN pN2 (addL_nodup nd) hb1 hf1 hr1 hled ?_
      · intro b s₁ Q' q; cases b <;> first | exact wpAny_pure q | exact wpAny_rule q
      · intro h' sb r; dsimp only; exact wpAny_pure (hQ _ h' sb r)
theorem SetL.at {h h' : Heap} (R : SetL knd h a L) (k : ∀ o, h.get? a = some o → h'.get? a = some o) : SetL knd h' a L := by
  obtain ⟨o, es, ep, t, M, ho, r⟩ := R
  exact ⟨o, es, ep, t, M, k o ho, r⟩
/-- what the walk over the list lays into the set -/
theorem loopL {R : Result → Shared → Prop} {I : Addr} {fp wr : List Addr} {G : Array GenState → Array GenState → Prop} {n : Nat} {Pw : Nat → Value → Prop} {St : Nat → Shared → Prop} (W : WalksS P w A.in1 I fp wr G n Pw St) (S : Addr) (hSf : S ∉ fp) (xs : List κ) (hsz : xs.length = n) (hb : n + 1 < scanBound)
    (hval : ∀ i v, Pw i v → ∃ k, xs[i]? = some k ∧ knd.is k v = true ∧ v.scannable = true) :
    ∀ (m i : Nat) (s : Shared), n - i = m → i ≤ n → St i s → SetL knd s.heap S (distinct (xs.take i)) →
      (∀ s', Moved (S :: wr) G s s' → SetL knd s'.heap S (distinct xs) → R (.ok (.ret .none)) s') →
      codeAny (model P w) A (.builtin "set.update.loop" ⟨[.ref S, .ref I], []⟩) R s := by
  have hSw : S ∉ wr := fun h => hSf (W.sub _ h)
  have hsub : ∀ b ∈ wr, b ∈ S :: wr := fun b hb => List.mem_cons_of_mem _ hb
  intro m
  induction m with
  | zero =>
    intro i s hk hi hst hS hR
    have hin : i = n := by omega
    subst hin
    refine codeAny_builtin PyProof.Rows.F.entry_set_update_loop ?_
    rw [Around.under_plainId PyProof.Rows.F.plain_set_update_loop _]
    show wpAny _ A.in1 (pyNext (.ref I) >>= _) _ _ s
    refine wpAny_bind (W.done s _ _ hst fun s' hm => ?_)
    show wpAny _ A.in1 (ret Value.none) _ _ s'
    refine wpAny_pure (hR s' (hm.mono hsub) ?_)
    rw [← hsz, List.take_length] at hS
    exact hS.at fun o e => hm.heap S _ hSw e
  | succ m ih =>
    intro i s hk hi hst hS hR
    have hlt : i < n := by omega
    refine codeAny_builtin PyProof.Rows.F.entry_set_update_loop ?_
    rw [Around.under_plainId PyProof.Rows.F.plain_set_update_loop _]
    show wpAny _ A.in1 (pyNext (.ref I) >>= _) _ _ s
    refine wpAny_bind (W.item i s _ _ hlt hst fun v s' hP hst' hm => ?_)
    obtain ⟨k, hxk, hkv, hsc⟩ := hval i v hP
    have hS' : SetL knd s'.heap S (distinct (xs.take i)) := hS.at fun o e => hm.heap S _ hSw e
    show wpAny _ A.in1 (holding [v] (setAdd S v) >>= _) _ _ s'
    refine wpAny_bind (wpAny_holding ?_)
    unfold setAdd
    refine wpAny_holding ?_
    refine wpAny_bind (knd.pyHash (k := k) hkv ?_)
    have hll : (distinct (xs.take i)).length + 1 < scanBound := by
      have h1 := distinct_len (xs.take i)
      have h2 := List.length_take_le i xs
      omega
    refine setL_add (s := { s' with toks := s'.toks + 1 }) hkv hsc hS' hll fun b h' hsb hS2 => ?_
    have hSi : SetL knd h' S (distinct (xs.take (i + 1))) := by
      have e : xs.take (i + 1) = xs.take i ++ [k] := by
        rw [List.take_add_one, hxk] <;> rfl
      have e2 : distinct (xs.take (i + 1)) = addL (distinct (xs.take i)) k := by
        rw [e]
        unfold distinct
        rw [List.foldl_append] <;> rfl
      rw [e2]
      exact hS2
    refine wpAny_pure ⟨plainId_quiet PyProof.Rows.F.plain_set_update_loop _, ih (i + 1) _ (by omega) hlt (W.frame _ s' _ _ hst' (Nat.le_succ _) fun b hb o e => ?_) hSi fun s'' hm'' hS'' => ?_⟩
    · rw [hsb.2 b (fun h : b = S => hSf (by rw [← h]; exact hb))]; exact e
    · refine hR s'' (Moved.trans W.gtrans ((hm.mono hsub).then_heap (Nat.le_succ _) fun b o hb e => ?_) hm'') hS''
      rw [hsb.2 b (fun h : b = S => hb (by rw [h]; exact List.mem_cons_self))]; exact e
theorem code_set1_led (x : Value) {Q₁ : Value → Shared → Prop}
    (h : Q₁ (.ref s.heap.objs.size) { s with heap := s.heap.push { cls := .type "set", dict := none, data := .set #[] 0 (.fresh 0 0 (!w.params.followText "set-order")) } }) :
    codeAny (model P w) A (.call (.builtin "set.__new__") ⟨[.type "set", x], []⟩) (wants Q₁ E) s := by
  refine codeAny_of_tree ?_
  show wpAny _ A.in1 (do checkBuiltinCall "set.__new__" ⟨[.type "set", x], []⟩; again (.builtin "set.__new__" ⟨[.type "set", x], []⟩)) _ _ s
  refine wpAny_bind (wpAny_of_eq (F.newCall_set_1 x) (wpAny_pure ⟨plainId_quiet F.plain_set_new _, codeAny_builtin F.entry_set_new ?_⟩))
  rw [Around.under_plainId F.plain_set_new _]
  unfold Builtin.«set.__new__» Builtin.Frozenset.newClass
  have hsub := sub_set_self
  obtain ⟨hp, g, d, tk, os⟩ := s
  dsimp only
  wp_walk
  refine wpAny_askSetting (wpAny_pure ?_)
  dsimp only
  simp only [newObj]
  refine wpAny_bind (wpAny_alloc (wpAny_pure ?_))
  exact wpAny_pure h
theorem setL_fresh {h : Heap} (knd : PySem.KeyKind P w κ) : SetL knd (h.push { cls := .type "set", dict := none, data := .set #[] 0 (.fresh 0 0 (!w.params.followText "set-order")) }) h.objs.size [] :=
  ⟨_, #[], 0, _, [], Heap.get?_push_size _ rfl, ⟨rfl, rfl, rfl⟩, rfl, .nil, .refl _, List.nodup_nil, (by decide), (by rfl), List.Pairwise.nil, by
    show _ ∨ (!w.params.followText "set-order") = true
    cases w.params.followText "set-order"
    · exact .inr rfl
    · exact .inl rfl⟩
end
end Nw

namespace Nw
open PySem PySem.Spec PyProof.Rows L2
/-! ### set(xs) of a list; len(set(xs)), sorted(set(xs)) -/
section
variable {P : Program} {w : World} {κ : Type} [DecidableEq κ] {knd : PySem.KeyKind P w κ} {A : Around} {E : Value → Shared → Prop} {s : Shared}
theorem call_setL {l : Addr} {items : Array Value} {xs : List κ} {Q : Value → Shared → Prop}
    (hh : A.handled = none) (hl : s.heap.IsList l items) (hi : Paired (fun v k => knd.is k v = true ∧ v.scannable = true) items.toList xs) (hb : xs.length + 1 < scanBound)
    (h : ∀ (h' : Heap) (tk : Nat), SetL knd h' s.heap.objs.size (distinct xs) →
      (∀ b o, b < s.heap.objs.size → s.heap.get? b = some o → h'.get? b = some o) → Q (.ref s.heap.objs.size) { s with heap := h', toks := tk }) :
    wpAny (model P w) A (call (.type "set") [.ref l]) Q E s := by
  obtain ⟨c, tl, hmro⟩ := PySem.F.called_set.mro
  have hmade := PySem.F.called_set.made
  have hsub := PySem.F.called_set.sub
  refine wpAny_call (codeAny_of_tree ?_)
  show wpAny _ _ (callAny (.type "set") _) _ _ _
  refine wpAny_pure ⟨Code.quiet_builtin _ (by decide +kernel), codeAny_builtin PySem.F.entry_type_call ?_⟩
  rw [Around.under_plain (weight_type_call_type "set" [.ref l] []) rfl]
  have h1 := PySem.F.called_set.notType
  have h2 := PySem.F.called_set.canCreate
  have hct := PySem.F.typeCall_set_1 (.ref l)
  repeat (any_goals (first | assumption | wp_step))
  obtain ⟨led, hled⟩ : ∃ led, led = !w.params.followText "set-order" := ⟨_, rfl⟩
  refine codeAny_mono (code_set1_led (.ref l) (E := E) (Q₁ := fun obj s₁ => obj = .ref s.heap.objs.size ∧ s₁ = { s with heap := s.heap.push { cls := .type "set", dict := none, data := .set #[] 0 (.fresh 0 0 led) } }) ⟨rfl, by rw [hled]⟩) fun r s₁ hr => ?_
  cases r with
  | error e => exact hr
  | ok fl =>
    cases fl with
    | ret obj =>
      obtain ⟨rfl, rfl⟩ := hr
      have hS : (s.heap.push { cls := .type "set", dict := none, data := .set #[] 0 (.fresh 0 0 led) }).get? s.heap.objs.size = some { cls := .type "set", dict := none, data := .set #[] 0 (.fresh 0 0 led) } := Heap.get?_push_size _ rfl
      have hT : Shared.TypeIs { s with heap := s.heap.push { cls := .type "set", dict := none, data := .set #[] 0 (.fresh 0 0 led) } } (.ref s.heap.objs.size) "set" := ⟨_, hS, rfl⟩
      have hli := PySem.F.called_set.init.lookup
      have hbi := PySem.F.called_set.init.bind (.ref s.heap.objs.size)
      repeat (any_goals (first | assumption | wp_step))
      refine codeAny_mono (codeAny_call_builtin (R := wants (fun r s₂ => r = .none ∧ ∃ h' tk, s₂ = { s with heap := h', toks := tk } ∧
          SetL knd h' s.heap.objs.size (distinct xs) ∧
          (∀ b o, b < s.heap.objs.size → s.heap.get? b = some o → h'.get? b = some o)) E) PySem.F.called_set.init.plain PySem.F.entry_set_init (check_set_init_1 hT ?_)) fun r₂ s₂ hr₂ => ?_
      · obtain ⟨ol, hol, hcl, nl, hdl⟩ := hl
        obtain ⟨ocls, odict, odata, oslots⟩ := ol
        simp only at hcl hdl
        subst hcl; subst hdl
        have hol' : (s.heap.push { cls := .type "set", dict := none, data := .set #[] 0 (.fresh 0 0 led) }).get? l = some { cls := .type "list", dict := odict, data := .seq items nl, slots := oslots } := Heap.get?_push_of_some _ hol
        have hsls := PySem.F.sub_list_set
        have hslf := PySem.F.sub_list_frozenset
        have hne : (Value.type "list" == Value.type "dict") = false := by decide
        have hl1 : (s.heap.push { cls := .type "set", dict := none, data := .set #[] 0 (.fresh 0 0 led) }).IsList l items := ⟨_, hol', rfl, nl, rfl⟩
        unfold Builtin.«set.__init__» noKeywords Builtin.Frozenset.updateFrom
        generalize hPI : pyIter = PI
        wp_walk
        subst hPI
        refine wpAny_pyIter_list hl1 ?_
        refine wpAny_bind (wpAny_runValue ?_)
        have hlS : l < s.heap.objs.size := Heap.lt_size hol
        have hh3 : A.in1.in1.in1.handled = none := by simp [hh]
        have hneI : l ≠ (s.heap.push { cls := .type "set", dict := none, data := .set #[] 0 (.fresh 0 0 led) }).objs.size := by
          rw [Heap.size_push]; exact Nat.ne_of_lt (Nat.lt_succ_of_lt hlS)
        have hSf : s.heap.objs.size ∉ [(s.heap.push { cls := .type "set", dict := none, data := .set #[] 0 (.fresh 0 0 led) }).objs.size, l] := by
          rw [Heap.size_push]; simp only [List.mem_cons, List.mem_singleton, List.not_mem_nil, or_false, not_or]
          exact ⟨Nat.ne_of_lt (Nat.lt_succ_self _), Nat.ne_of_gt hlS⟩
        have hsz : xs.length = items.size := by rw [← Nw.Paired.len hi, Array.length_toList]
        have hval : ∀ (i : Nat) (v : Value), items[i]? = some v → ∃ k, xs[i]? = some k ∧ knd.is k v = true ∧ v.scannable = true := fun i v hv => by
          obtain ⟨k, h1, h2⟩ := Nw.Paired.at' hi (i := i) (by rw [Array.getElem?_toList]; exact hv)
          exact ⟨k, h1, h2⟩
        refine loopL (knd := knd) ((Walks.list hh3 _ l hneI items).toS) s.heap.objs.size
          hSf xs hsz (by rw [← hsz]; exact hb) hval (items.size - 0) 0 _ (by omega) (Nat.zero_le _)
          ⟨⟨_, Heap.get?_push_size _ rfl, rfl, rfl⟩, (hl1.push _)⟩ ?hS0 ?hR
        case hS0 =>
          have z := setL_fresh (h := s.heap) knd
          rw [← hled] at z
          exact z.at fun o e => Heap.get?_push_of_some _ e
        case hR =>
          intro s' hm hS'
          obtain ⟨h', g', d', tk', os'⟩ := s'
          have eg : g' = s.gens := hm.gens
          have ed : d' = s.drawn := hm.drawn
          have eo : os' = s.os := hm.os
          subst eg; subst ed; subst eo
          show wpAny _ _ _ _ _ _
          refine wpAny_pure ?_
          show wpAny _ _ (ret Value.none) _ _ _
          refine wpAny_pure ⟨rfl, h', tk', rfl, hS', fun b o hb e => ?_⟩
          have hb1 : b ≠ s.heap.objs.size := Nat.ne_of_lt hb
          have hb2 : b ≠ (s.heap.push { cls := .type "set", dict := none, data := .set #[] 0 (.fresh 0 0 led) }).objs.size := by
            rw [Heap.size_push]; exact Nat.ne_of_lt (Nat.lt_succ_of_lt hb)
          exact hm.heap b o (by simp only [List.mem_cons, List.mem_singleton, List.not_mem_nil, or_false, not_or]; exact ⟨hb1, hb2⟩) (Heap.get?_push_of_some _ (Heap.get?_push_of_some _ e))
      · cases r₂ with
        | error e => exact hr₂
        | ok fl₂ =>
          cases fl₂ with
          | ret r =>
            obtain ⟨rfl, h', tk, rfl, hS', hk'⟩ := hr₂
            repeat (any_goals (first | assumption | wp_step))
            exact h _ _ hS' hk'
          | _ => exact hr₂.elim
    | _ => exact hr.elim
/-- sorted(a set), the items by a kind that can be ordered -/
theorem sorted_setL {a : Addr} {L : List κ} {Q : Value → Shared → Prop} {sk : PyProof.Rows.KeyKind} (hO : sk.OneLt) (R : SetL knd s.heap a L) (hh : A.handled = none)
    (hk : ∀ vs M, Paired (fun v k => knd.is k v = true ∧ v.scannable = true) vs M → KeysOf sk (pairsOf vs) ∧ ∀ v₁ v₂ rest, vs = v₁ :: v₂ :: rest → keyKind' (v₁ :: v₂ :: rest).toArray = pure oneType')
    (hQ : ∀ s' p (out : Array Value) (c : Nat) (vs : List Value) (M : List κ) (st : SortSt), (∀ b o, s.heap.get? b = some o → s'.heap.get? b = some o) → s'.gens = s.gens → s'.os = s.os → s.heap.objs.size ≤ p →
      s'.heap.get? p = some (seqObj "list" out c) → Paired (fun v k => knd.is k v = true ∧ v.scannable = true) vs M → M.Perm L → out = (arrOf st).map (·.2) → (arrOf st).Perm (pairsOf vs) → SortedToK sk (arrOf st) (pairsOf vs).size → Q (.ref p) s') :
    wpAny (model P w) A (call (.builtin "sorted") [.ref a]) Q E s := by
  obtain ⟨o, es, ep, t, M, ho, hex, hd, hp, hM, nd, hb, hf, hr, hl⟩ := R
  refine Calls.call_function_entry kind_sorted plain_sorted entry_sorted (args_sorted1 _) ?_
  unfold Builtin.«sorted»
  refine wpAny_bind (m := checkCount "sorted" 1 1 _) (wpAny_pure ?_)
  refine wpAny_bind (collect_set (A := A.in1) hh ⟨o, ho, hex.1, hd⟩ hf hb hr hl fun s1 vs k1 hz g1 o1 pm => ?_)
  have hvl : vs.length = es.size := by rw [pm.length_eq, List.length_map, Array.length_toList]
  have hp2 : Paired (fun v k => knd.is k v = true ∧ v.scannable = true) (es.toList.map (·.2)) M := by
    clear pm hvl hM
    revert hp
    generalize es.toList = el
    intro hp
    induction hp with
    | nil => exact .nil
    | cons h _ ih => exact .cons ⟨h.1, h.2.2⟩ ih
  obtain ⟨N, hN, pN⟩ := Nw.Paired.perm pm hp2
  have hzl : vs.length ≤ sizeLine := by rw [hvl]; exact fits_of_scanBound hb
  refine wpAny_bind (wpAny_newList ?_ hzl)
  have hoL : (s1.heap.push (seqObj "list" vs.toArray 0)).get? s1.heap.objs.size = some (seqObj "list" vs.toArray 0) := Heap.get?_push_size _ rfl
  obtain ⟨hk1, hk2⟩ := hk vs N hN
  refine wpAny_bind (wpAny_holding (wpAny_call_entry slot_list_sort ⟨_, hoL, rfl⟩ entry_list_sort (list_sort_treeKAny hO hoL hk1 hk2 hzl fun st a1 a2 => ⟨_, rfl, ?_⟩) (args_list_sort _)))
  obtain ⟨c, hc⟩ := sortedHeap_at (vs := vs) (out := (arrOf st).map (·.2)) hoL
  refine wpAny_pure ⟨_, rfl, hQ _ s1.heap.objs.size _ c vs N st (fun b u e => ?_) g1 o1 hz hc hN (pN.trans hM) rfl a1 a2⟩
  have q := k1 b u e
  have hlt := Heap.lt_size q
  show (sortedHeap (s1.heap.push (seqObj "list" vs.toArray 0)) s1.heap.objs.size vs ((arrOf st).map (·.2))).get? b = some u
  rw [sortedHeap_old (Nat.ne_of_lt hlt) (by rw [size_push']; exact Nat.lt_succ_of_lt hlt)]
  exact Heap.get?_push_of_some _ q
end
/-! texts -/
section
variable {P : Program} {w : World} {A : Around} {E : Value → Shared → Prop} {s : Shared}
theorem strs_of_paired : ∀ {vs : List Value} {M : List Str}, Paired (fun v k => (strKind P w).is k v = true ∧ v.scannable = true) vs M → StrsAre vs M
  | _, _, .nil => .nil
  | _, _, .cons (a := v) (b := k) h t => by
    have h1 := h.1
    cases v with
    | str z tk =>
      have e : z = k := by
        have h2 : (z == k) = true := h1
        exact eq_of_beq h2
      subst e
      exact .cons z tk (strs_of_paired t)
    | _ => exact absurd h1 (by intro z; cases z)
theorem paired_of_strs : ∀ {vs : List Value} {M : List Str}, StrsAre vs M → Paired (fun v k => (strKind P w).is k v = true ∧ v.scannable = true) vs M
  | _, _, .nil => .nil
  | _, _, .cons n t hr => .cons ⟨strKind_is P w n t, rfl⟩ (paired_of_strs hr)
variable {X : Cx}
/-- set(xs) as what is measured or sorted at once -/
def tSetOf (K : PySem.W.Frag) (ta : TE) (R : List Str → Hp → Prop) : L2.St → Hp → Prop := fun σ H => ta σ H fun x H1 => ∃ l, ∃ xs : List Str, x = .ref l ∧ SqL K H1 l (xs.map V.str) ∧ xs.length ≤ 1000 ∧ R xs H1
def tLenSetL (K : PySem.W.Frag) (ta : TE) : TE := fun σ H Q => tSetOf K ta (fun xs H1 => Q (.int (distinct xs).length) H1) σ H
def tSortSetL (K : PySem.W.Frag) (ta : TE) : TE := fun σ H Q => tSetOf K ta (fun xs H1 => ∀ (ys : List Str) (p : Addr), ys.Perm (distinct xs) → sortedS ys = true → H1 p = none → Q (.ref p) (upd H1 p (.lst (ys.map V.str)))) σ H
theorem pe_lenSetL {a : Expr} {ta : TE} {p p2 q pos : Pos} (hc : X.calm = true) (hg : Gl X "len") (hm : X.mg "len" = none) (hg2 : Gl X "set") (hm2 : X.mg "set" = none) (ha : PE X a ta)
    (na : starEach [a] X.env = (false, eval a X.env) :: starEach [] X.env := by rfl) : PE X (.Call (.Name "len" p) [.Call (.Name "set" p2) [a] [] q] [] pos) (tLenSetL X.K ta) := by
  refine ⟨fun pins s σ H Q I h => ?_⟩
  refine Call_ (ld_blt I hg hm boot_len ?_)
  refine PyProof.Rows.callWith_builtin1 (PyProof.Rows.args_cons ?_ rfl) rfl rfl
  refine Call_ (ld_blt I hg2 hm2 boot_set ?_)
  refine PyProof.Rows.callWith_type1 (PyProof.Rows.args_cons (thn (ha.run pins s σ H _ I h) fun v s1 ⟨x, H1, I1, r1, q1⟩ => PyProof.Rows.args_nil ?_) na) na rfl
  obtain ⟨l, xs, rfl, hq, hz, q1⟩ := q1
  cases r1
  obtain ⟨its, r, pl, _⟩ := I1.list hq
  refine call_setL (knd := strKind X.prog X.w) (xs := xs) (I1.ok.hd hc) pl.isList (paired_of_strs (by simpa using strsAre_of r)) (by unfold scanBound; omega) fun h' tk hS hk => ?_
  refine PyProof.Rows.args_nil ?_
  obtain ⟨o, es, ep, t, M, ho, hex, hd, hp, hM, nd, hb, hf, _⟩ := hS
  have hl : es.size = (distinct xs).length := by rw [← Array.length_toList, Nw.Paired.len hp, hM.length_eq]
  have I2 : L2.Inv X pins σ H1 { s1 with heap := h', toks := tk } := I1.kept fun b o e => hk b o (Heap.lt_size e) e
  refine call_len_set ho hex hd hf (by have := hb; unfold scanBound at this; omega) ⟨.int (distinct xs).length, H1, I2.tok _, ⟨_, by rw [hl]⟩, q1⟩
theorem pe_sortSetL {a : Expr} {ta : TE} {p p2 q pos : Pos} (hc : X.calm = true) (hg : Gl X "sorted") (hm : X.mg "sorted" = none) (hg2 : Gl X "set") (hm2 : X.mg "set" = none) (ha : PE X a ta)
    (na : starEach [a] X.env = (false, eval a X.env) :: starEach [] X.env := by rfl) : PE X (.Call (.Name "sorted" p) [.Call (.Name "set" p2) [a] [] q] [] pos) (tSortSetL X.K ta) := by
  refine ⟨fun pins s σ H Q I h => ?_⟩
  refine Call_ (ld_blt (u := .builtin "sorted") I hg hm (by decide +kernel) ?_)
  refine PyProof.Rows.callWith_builtin1 (PyProof.Rows.args_cons ?_ rfl) rfl rfl
  refine Call_ (ld_blt I hg2 hm2 boot_set ?_)
  refine PyProof.Rows.callWith_type1 (PyProof.Rows.args_cons (thn (ha.run pins s σ H _ I h) fun v s1 ⟨x, H1, I1, r1, q1⟩ => PyProof.Rows.args_nil ?_) na) na rfl
  obtain ⟨l, xs, rfl, hq, hz, q1⟩ := q1
  cases r1
  obtain ⟨its, r, pl, _⟩ := I1.list hq
  refine call_setL (knd := strKind X.prog X.w) (xs := xs) (I1.ok.hd hc) pl.isList (paired_of_strs (by simpa using strsAre_of r)) (by unfold scanBound; omega) fun h' tk hS hk => ?_
  refine PyProof.Rows.args_nil ?_
  have I2 : L2.Inv X pins σ H1 { s1 with heap := h', toks := tk } := I1.kept fun b o e => hk b o (Heap.lt_size e) e
  refine sorted_setL (knd := strKind X.prog X.w) (sk := PyProof.Rows.strKind) (s := { s1 with heap := h', toks := tk }) strKind_oneLt hS (I2.ok.hd hc) (fun vs M hp => ⟨(strs_of_paired hp).keysOf, fun v₁ v₂ rest e => keyKind_strs (by rw [← e]; exact strs_of_paired hp)⟩) fun s' pp out c vs M st k2 g2 o2 hpp hob hp hM eo a1 a2 => ?_
  subst eo
  obtain ⟨ys, h1, h2, h3⟩ := sorted_out_str (strs_of_paired hp) a1 a2
  have hlen : (ys.map V.str).length ≤ sizeLine := by
    have := distinct_len xs
    rw [List.length_map, h2.length_eq, hM.length_eq, sizeLine_eq]; omega
  have hnp : H1 pp = none := I2.hok.fresh hpp
  have J : L2.Inv X pins σ (upd H1 pp (.lst (ys.map V.str))) { ({ s1 with heap := h', toks := tk } : Shared) with heap := s'.heap, gens := s'.gens, drawn := s'.drawn, toks := s'.toks } :=
    I2.call (ch := []) (Un.laid k2 hpp hnp) (I2.hok.laid k2 hpp ⟨hlen, _, c, vals_of_strs h1, hob⟩) (by rw [g2]; exact I2.bare) (fun _ z => nomatch z)
  have e : s' = { s1 with heap := s'.heap, gens := s'.gens, drawn := s'.drawn, toks := s'.toks } := by
    cases s'
    cases s1
    cases o2
    rfl
  rw [e]
  exact ⟨.ref pp, _, J, rfl, q1 ys pp (h2.trans hM) h3 hnp⟩
end
end Nw

namespace Nw
open PySem PySem.Spec PyProof.Rows L2
/-! ### the calculus, more: any value, texts in order, parts of tuples -/
/-- any value, as data -/
structure Dk (K : PySem.W.Frag) where
  d : Dt
instance {K : PySem.W.Frag} : Inhabited (Dk K) := ⟨⟨.non⟩⟩
instance {K : PySem.W.Frag} : Rep (Dk K) := ⟨fun I v x => isE K I v x.d, fun e h => isE.up h e⟩
abbrev dk {K : PySem.W.Frag} (d : Dt) : Dk K := ⟨d⟩
def Dt.tx : Dt → Tx
  | .str l => ⟨l⟩
  | _ => ⟨[]⟩
def Dt.items : Dt → List Dt
  | .sq _ xs => xs
  | _ => []
def Dt.num : Dt → Int
  | .int i => i
  | _ => 0
/-- what has a length -/
def Dt.sized : Dt → Bool
  | .str _ => true
  | .sq _ _ => true
  | _ => false
def Dt.len : Dt → Nat
  | .str l => l.length
  | .sq _ xs => xs.length
  | _ => 0
section
variable {f : Fr} {a : Amb} {α β γ δ : Type} {σ : L2.St} {te ta tb tc : TE} {tt t u : TT} {x : α} {y : β} {z : γ} {v w : V} {K K' : PySem.W.Frag}
/-- the same value, seen as something else -/
theorem ep_cx [Rep α] [Rep β] (h : EvP f a rv te σ x) (c : ∀ I v, Rep.is I v x → Rep.is I v y) : EvP f a rv te σ y := fun n I H s Q k => h n I H s Q fun v I' H' g r => k v I' H' g (c I' v r)
theorem cv_non (I : Hp) (v : V) (h : Rep.is I v ()) : Rep.is I v (dk (K := K) .non) := by
  cases (show v = .non from h)
  exact .non
theorem cv_bl {b : Bool} (I : Hp) (v : V) (h : Rep.is I v b) : Rep.is I v (dk (K := K) (.bl b)) := by
  cases (show v = .bl b from h)
  exact .bl b
theorem cv_int {i : Int} (I : Hp) (v : V) (h : Rep.is I v i) : Rep.is I v (dk (K := K) (.int i)) := by
  cases (show v = .int i from h)
  exact .int i
theorem cv_str {x : Tx} (I : Hp) (v : V) (h : Rep.is I v x) : Rep.is I v (dk (K := K) (.str x.l)) := by
  obtain ⟨rfl, hl⟩ := h
  exact .str x.l hl
theorem cv_sgT {x : Sg} (I : Hp) (v : V) (h : Rep.is I v x) : Rep.is I v (tx [x.c]) := ⟨h, by show 1 ≤ 100000; decide⟩
theorem cv_sg {x : Sg} (I : Hp) (v : V) (h : Rep.is I v x) : Rep.is I v (dk (K := K) (.str [x.c])) := cv_str I v (cv_sgT I v h)
theorem es_of {I : Hp} : ∀ {vs : List V} {xs : List (Dk K)}, Paired (Rep.is I) vs xs → Es K I vs (xs.map Dk.d)
  | _, _, .nil => .nil
  | _, _, .cons h t => .cons h (es_of t)
theorem of_es {I : Hp} : ∀ {vs : List V} {xs : List Dt}, Es K I vs xs → Paired (Rep.is I) vs (xs.map (dk (K := K)))
  | [], [], _ => .nil
  | [], _ :: _, h => absurd h.len (by simp)
  | _ :: _, [], h => absurd h.len (by simp)
  | v :: vs, x :: xs, h => .cons (h.at_ 0 v x rfl rfl) (of_es ⟨Nat.succ.inj h.len, fun i u y h1 h2 => h.at_ (i + 1) u y h1 h2⟩)
theorem cv_lst {xs : List (Dk K)} (I : Hp) (v : V) (h : Rep.is I v xs) : Rep.is I v (dk (K := K) (.sq false (xs.map Dk.d))) := by
  obtain ⟨p, vs, rfl, hp, hv⟩ := h
  exact isE.of (t := false) hp (es_of hv)
theorem cv_tup {xs : Tup (Dk K)} (I : Hp) (v : V) (h : Rep.is I v xs) : Rep.is I v (dk (K := K) (.sq true (xs.l.map Dk.d))) := by
  obtain ⟨p, vs, rfl, hp, hv⟩ := h
  exact isE.of (t := true) hp (es_of hv)
theorem Paired.map {F : V → α → Prop} {G : V → β → Prop} {g : α → β} (h : ∀ v x, F v x → G v (g x)) : ∀ {vs : List V} {xs : List α}, Paired F vs xs → Paired G vs (xs.map g)
  | _, _, .nil => .nil
  | _, _, .cons a t => .cons (h _ _ a) (Paired.map h t)
theorem cv_map [Rep α] [Rep β] {g : α → β} {xs : List α} (h : ∀ x I v, Rep.is I v x → Rep.is I v (g x)) (I : Hp) (v : V) (r : Rep.is I v xs) : Rep.is I v (xs.map g) := by
  obtain ⟨p, vs, rfl, hp, hv⟩ := r
  exact ⟨p, vs, rfl, hp, Nw.Paired.map (fun _ _ z => h _ I _ z) hv⟩
theorem cv_pr2 [Rep α] [Rep β] {x : α × β} {g : α → Dk K} {h : β → Dk K} (c1 : ∀ x I v, Rep.is I v x → Rep.is I v (g x)) (c2 : ∀ x I v, Rep.is I v x → Rep.is I v (h x)) (I : Hp) (v : V) (r : Rep.is I v x) : Rep.is I v (dk (K := K) (.sq true [(g x.1).d, (h x.2).d])) := by
  obtain ⟨p, v1, v2, rfl, hp, h1, h2⟩ := r
  exact isE.of (t := true) hp (.cons (c1 _ _ _ h1) (.cons (c2 _ _ _ h2) .nil))
theorem cv_pr3 [Rep α] [Rep β] [Rep γ] {x : T3 α β γ} {g : α → Dk K} {h : β → Dk K} {q : γ → Dk K} (c1 : ∀ x I v, Rep.is I v x → Rep.is I v (g x)) (c2 : ∀ x I v, Rep.is I v x → Rep.is I v (h x)) (c3 : ∀ x I v, Rep.is I v x → Rep.is I v (q x)) (I : Hp) (v : V) (r : Rep.is I v x) : Rep.is I v (dk (K := K) (.sq true [(g x.a).d, (h x.b).d, (q x.c).d])) := by
  obtain ⟨p, v1, v2, v3, rfl, hp, h1, h2, h3⟩ := r
  exact isE.of (t := true) hp (.cons (c1 _ _ _ h1) (.cons (c2 _ _ _ h2) (.cons (c3 _ _ _ h3) .nil)))
/-! what it is, once it is known -/
theorem cv_asT {x : Dk K} (c : x.d.isStr = true) (I : Hp) (v : V) (h : Rep.is I v x) : Rep.is I v x.d.tx := by
  obtain ⟨d⟩ := x
  cases d with
  | str l => cases (show isE K I v (.str l) from h); exact ⟨rfl, by assumption⟩
  | _ => cases c
theorem cv_asI {x : Dk K} (c : x.d.isNum = true) (I : Hp) (v : V) (h : Rep.is I v x) : Rep.is I v x.d.num := by
  obtain ⟨d⟩ := x
  cases d with
  | int i => cases (show isE K I v (.int i) from h); exact rfl
  | _ => cases c
theorem cv_asU {x : Dk K} (c : x.d.isTup = true) (I : Hp) (v : V) (h : Rep.is I v x) : Rep.is I v (⟨x.d.items.map (dk (K := K))⟩ : Tup (Dk K)) := by
  obtain ⟨d⟩ := x
  cases d with
  | sq t xs =>
    cases (show t = true from c)
    obtain ⟨p, vs, rfl, hp, es⟩ := isE.inv h
    exact ⟨p, vs, rfl, hp, of_es es⟩
  | _ => cases c
theorem cv_asL {x : Dk K} (c : x.d.isLst = true) (I : Hp) (v : V) (h : Rep.is I v x) : Rep.is I v (x.d.items.map (dk (K := K))) := by
  obtain ⟨d⟩ := x
  cases d with
  | sq t xs =>
    cases t with
    | true => cases c
    | false =>
      obtain ⟨p, vs, rfl, hp, es⟩ := isE.inv h
      exact ⟨p, vs, rfl, hp, of_es es⟩
  | _ => cases c
def Dt.isSg : Dt → Bool
  | .str [_] => true
  | _ => false
def Dt.sg : Dt → Sg
  | .str [c] => ⟨c⟩
  | _ => ⟨0⟩
theorem cv_asG {x : Dk K} (c : x.d.isSg = true) (I : Hp) (v : V) (h : Rep.is I v x) : Rep.is I v x.d.sg := by
  obtain ⟨d⟩ := x
  match d, c, h with
  | .str [z], _, h => cases (show isE K I v (.str [z]) from h); exact rfl
def Dt.t3 {K : PySem.W.Frag} (d : Dt) : T3 (Dk K) (Dk K) (Dk K) := ⟨dk (d.items.getD 0 .non), dk (d.items.getD 1 .non), dk (d.items.getD 2 .non)⟩
def Dt.t2 {K : PySem.W.Frag} (d : Dt) : Dk K × Dk K := (dk (d.items.getD 0 .non), dk (d.items.getD 1 .non))
theorem cv_as3 {x : Dk K} (c : x.d.isTup = true ∧ x.d.items.length = 3) (I : Hp) (v : V) (h : Rep.is I v x) : Rep.is I v (Dt.t3 (K := K) x.d) := by
  obtain ⟨d⟩ := x
  cases d with
  | sq t xs =>
    cases (show t = true from c.1)
    obtain ⟨p, vs, rfl, hp, es⟩ := isE.inv h
    match xs, c.2, vs, es.len, es, hp with
    | [x0, x1, x2], _, [v0, v1, v2], _, es, hp => exact ⟨p, v0, v1, v2, rfl, hp, es.at_ 0 _ _ rfl rfl, es.at_ 1 _ _ rfl rfl, es.at_ 2 _ _ rfl rfl⟩
  | _ => exact absurd c.1 (by intro z; cases z)
theorem cv_as2 {x : Dk K} (c : x.d.isTup = true ∧ x.d.items.length = 2) (I : Hp) (v : V) (h : Rep.is I v x) : Rep.is I v (Dt.t2 (K := K) x.d) := by
  obtain ⟨d⟩ := x
  cases d with
  | sq t xs =>
    cases (show t = true from c.1)
    obtain ⟨p, vs, rfl, hp, es⟩ := isE.inv h
    match xs, c.2, vs, es.len, es, hp with
    | [x0, x1], _, [v0, v1], _, es, hp => exact ⟨p, v0, v1, rfl, hp, es.at_ 0 _ _ rfl rfl, es.at_ 1 _ _ rfl rfl⟩
  | _ => exact absurd c.1 (by intro z; cases z)
theorem ep_dic : EvP f a rv tDNewK σ (dk (K := K) .dic) := fun n I H s Q k p hp => by
  have g : Grow No I H (upd I p (.dK [])) (upd H p (.dK [])) := Grow.new s.sub hp
  exact k _ _ _ g (.dic upd_same)
/-! isinstance -/
theorem ep_isiS {x : Dk K} (h : EvP f a rv te σ x) : EvP f a rv (tCB (rIsi K) (tCons te (tCons (tC (.ty "str")) tNil))) σ x.d.isStr := fun n I H s Q k =>
  h n I H s _ fun v I' H' g r => by
    obtain ⟨t, ty, ks⟩ := isE.ty r (s.grow g).sub
    exact ⟨v, _, t, _, _, rfl, .ty _, ty, ks.str, k _ I' H' g rfl⟩
theorem ep_isiU {x : Dk K} (h : EvP f a rv te σ x) : EvP f a rv (tCB (rIsi K) (tCons te (tCons (tC (.ty "tuple")) tNil))) σ x.d.isTup := fun n I H s Q k =>
  h n I H s _ fun v I' H' g r => by
    obtain ⟨t, ty, ks⟩ := isE.ty r (s.grow g).sub
    exact ⟨v, _, t, _, _, rfl, .ty _, ty, ks.tup, k _ I' H' g rfl⟩
theorem ep_isiL {x : Dk K} (h : EvP f a rv te σ x) : EvP f a rv (tCB (rIsi K) (tCons te (tCons (tC (.ty "list")) tNil))) σ x.d.isLst := fun n I H s Q k =>
  h n I H s _ fun v I' H' g r => by
    obtain ⟨t, ty, ks⟩ := isE.ty r (s.grow g).sub
    exact ⟨v, _, t, _, _, rfl, .ty _, ty, ks.lst, k _ I' H' g rfl⟩
theorem ep_isiI {x : Dk K} (h : EvP f a rv te σ x) : EvP f a rv (tCB (rIsi K) (tCons te (tCons (tC (.ty "int")) tNil))) σ x.d.isInt := fun n I H s Q k =>
  h n I H s _ fun v I' H' g r => by
    obtain ⟨t, ty, ks⟩ := isE.ty r (s.grow g).sub
    exact ⟨v, _, t, _, _, rfl, .ty _, ty, ks.int, k _ I' H' g rfl⟩
theorem ep_isiB {x : Dk K} (h : EvP f a rv te σ x) : EvP f a rv (tCB (rIsi K) (tCons te (tCons (tC (.ty "bool")) tNil))) σ x.d.isBool := fun n I H s Q k =>
  h n I H s _ fun v I' H' g r => by
    obtain ⟨t, ty, ks⟩ := isE.ty r (s.grow g).sub
    exact ⟨v, _, t, _, _, rfl, .ty _, ty, ks.bool, k _ I' H' g rfl⟩
/-- isinstance(x, (list, tuple)) -/
theorem ep_isiLU {x : Dk K} (h : EvP f a rv te σ x) : EvP f a rv (tCB (rIsiT K) (tCons te (tCons (tTup (tCons (tC (.ty "list")) (tCons (tC (.ty "tuple")) tNil))) tNil))) σ (x.d.isLst || x.d.isTup) := fun n I H s Q k =>
  h n I H s _ fun v I' H' g r => ⟨by decide, fun p hp => by
    have s1 := s.grow g
    have g1 : Grow No I' H' I' (upd H' p (.tup [V.ty "list", V.ty "tuple"])) := Grow.mine s1.sub hp
    obtain ⟨t, ty, ks⟩ := isE.ty r g1.sub
    exact ⟨v, p, _, t, _, _, rfl, upd_same, .cons (.ty _) (.cons (.ty _) .nil), ty, ks.seq, k _ I' _ (g.trans g1) rfl⟩⟩
/-! the length of any value that has one -/
theorem c_lenDt {x : Dk K} (c : x.d.sized = true) : C1 (fun xs H Q => ∃ x n, xs = [x] ∧ LenV K' x H n ∧ Q (.int n) H) rv rv x (x.d.len : Int) := fun I H v sb h Q k => by
  obtain ⟨d⟩ := x
  cases d with
  | str l =>
    obtain ⟨rfl, hl⟩ := cv_asT (K := K) rfl I v h
    exact ⟨_, l.length, rfl, ⟨by rw [mk_len, sizeLine_eq]; show l.length ≤ _; have : l.length ≤ 100000 := hl; omega, (mk_len l).symm⟩, k _ I H (Grow.refl sb) rfl⟩
  | sq t xs =>
    obtain ⟨p, vs, rfl, hp, es⟩ := isE.inv h
    refine ⟨_, xs.length, rfl, ?_, k _ I H (Grow.refl sb) rfl⟩
    cases t
    · exact .inl ⟨_, SqL.of (sb _ _ hp), es.len.symm⟩
    · exact .inr ⟨_, SqT.of (sb _ _ hp), es.len.symm⟩
  | _ => cases c
/-! str(text) -/
theorem c_str {x : Tx} : C1 (fun xs H Q => ∃ a, xs = [.str a] ∧ Q (.str a) H) rv rv x x := fun I H v sb h Q k => ⟨mk x.l, by rw [h.1], k _ I H (Grow.refl sb) ⟨rfl, h.2⟩⟩
/-! a text times a number -/
theorem os_mulT {x : Tx} {i : Int} (c : 2 ≤ i ∧ i ≤ 1000 ∧ x.l ≠ [] ∧ x.l.length ≤ 1000 ∧ x.l.length * i.toNat ≤ 100000) : OpS (fun x y H Q => ∃ (l : List Nat) (k : Nat), x = .str (mk l) ∧ y = .int k ∧ 2 ≤ k ∧ k ≤ 1000 ∧ l ≠ [] ∧ l.length ≤ 1000 ∧ Q (.str (mk (List.replicate k l).flatten)) H) rv rv rv x i (tx (List.replicate i.toNat x.l).flatten) := fun I H v w sb h1 h2 Q k => by
  cases (show w = .int i from h2)
  refine ⟨x.l, i.toNat, h1.1, by congr 1; omega, by omega, by omega, c.2.2.1, c.2.2.2.1, k _ I H (Grow.refl sb) ⟨rfl, ?_⟩⟩
  have e : ((List.replicate i.toNat x.l).flatten).length = i.toNat * x.l.length := by simp
  show ((List.replicate i.toNat x.l).flatten).length ≤ 100000
  rw [e, Nat.mul_comm]
  exact c.2.2.2.2
/-! the end of a tuple of three -/
theorem ep_tl3 [Rep α] [Rep β] {x : T3 α β β} {tl th : TO} (h : EvP f a rv te σ x) (hl : EvO f a tl σ (some 1)) (hh : EvO f a th σ none) : EvP f a rv (tSl (rSlT K) te tl th) σ (⟨[x.b, x.c]⟩ : Tup β) := fun n I H s Q k =>
  h n I H s _ fun v I1 H1 g1 r1 => hl n I1 H1 (s.grow g1) _ fun I2 H2 g2 => hh n I2 H2 (s.grow (g1.trans g2)) _ fun I3 H3 g3 => by
    obtain ⟨p, v1, v2, v3, rfl, hp, h1, h2, h3⟩ := Rep.mono (g2.trans g3).view r1
    have s3 := s.grow ((g1.trans g2).trans g3)
    refine ⟨p, [v1, v2, v3], rfl, SqT.of (s3.sub _ _ hp), (fun z => absurd z.1 (by show ¬ HT.sIx 3 0 (some 1) = 0; decide)), fun q hq => ?_⟩
    have e : cutV [v1, v2, v3] (some (1 : Int)) none = [v2, v3] := rfl
    rw [e]
    have g4 : Grow No I3 H3 (upd I3 q (.tup [v2, v3])) (upd H3 q (.tup [v2, v3])) := Grow.new s3.sub hq
    exact k _ _ _ (((g1.trans g2).trans g3).trans g4) ⟨q, _, rfl, upd_same, .cons (Rep.mono g4.view h2) (.cons (Rep.mono g4.view h3) .nil)⟩
end
/-! ### texts in order -/
def leT (a b : Tx) : Bool := !decide (b.l < a.l)
def insT (x : Tx) : List Tx → List Tx
  | [] => [x]
  | y :: l => if leT x y = true then x :: y :: l else y :: insT x l
def srtT : List Tx → List Tx
  | [] => []
  | x :: l => insT x (srtT l)
theorem lt_asym {a b : List Nat} (h : a < b) : ¬ b < a := List.lt_asymm h
theorem leT_total (a b : Tx) : leT a b = true ∨ leT b a = true := by
  unfold leT
  by_cases h : b.l < a.l
  · exact .inr (by rw [decide_eq_false (lt_asym h)] <;> rfl)
  · exact .inl (by rw [decide_eq_false h] <;> rfl)
theorem leT_trans {a b c : Tx} (h1 : leT a b = true) (h2 : leT b c = true) : leT a c = true := by
  unfold leT at *
  rw [Bool.not_eq_true', decide_eq_false_iff_not] at *
  exact List.le_trans h1 h2
theorem leT_anti {a b : Tx} (h1 : leT a b = true) (h2 : leT b a = true) : a = b := by
  unfold leT at *
  rw [Bool.not_eq_true', decide_eq_false_iff_not] at *
  exact Tx.ext (List.le_antisymm h1 h2)
theorem insT_perm (x : Tx) : ∀ l, (insT x l).Perm (x :: l)
  | [] => List.Perm.refl _
  | y :: l => by
    unfold insT
    split
    · exact List.Perm.refl _
    · exact ((insT_perm x l).cons y).trans (List.Perm.swap ..)
theorem srtT_perm : ∀ l, (srtT l).Perm l
  | [] => List.Perm.refl _
  | x :: l => (insT_perm x _).trans ((srtT_perm l).cons x)
abbrev ascT (l : List Tx) : Prop := l.Pairwise fun a b => leT a b = true
theorem insT_asc (x : Tx) : ∀ l : List Tx, ascT l → ascT (insT x l)
  | [], _ => List.pairwise_singleton ..
  | y :: l, h => by
    obtain ⟨h1, h2⟩ := List.pairwise_cons.mp h
    unfold insT
    split
    · rename_i z
      refine List.pairwise_cons.mpr ⟨fun u hu => ?_, h⟩
      rcases List.mem_cons.mp hu with rfl | hu
      · exact z
      · exact leT_trans z (h1 u hu)
    · rename_i z
      refine List.pairwise_cons.mpr ⟨fun u hu => ?_, insT_asc x l h2⟩
      have hu := (insT_perm x l).mem_iff.mp hu
      rcases List.mem_cons.mp hu with rfl | hu
      · exact (leT_total u y).resolve_left z
      · exact h1 u hu
theorem srtT_asc : ∀ l : List Tx, ascT (srtT l)
  | [] => .nil
  | x :: l => insT_asc x _ (srtT_asc l)
theorem ascT_uniq : ∀ {l m : List Tx}, l.Perm m → ascT l → ascT m → l = m
  | [], m, p, _, _ => by rw [List.nil_perm.mp p]
  | x :: l, [], p, _, _ => by have := p.length_eq; simp at this
  | x :: l, y :: m, p, h1, h2 => by
    obtain ⟨a1, a2⟩ := List.pairwise_cons.mp h1
    obtain ⟨b1, b2⟩ := List.pairwise_cons.mp h2
    have e : x = y := by
      have k1 : x ∈ y :: m := p.mem_iff.mp (List.mem_cons_self ..)
      have k2 : y ∈ x :: l := p.mem_iff.mpr (List.mem_cons_self ..)
      rcases List.mem_cons.mp k1 with z | z
      · exact z
      · rcases List.mem_cons.mp k2 with q | q
        · exact q.symm
        · exact leT_anti (a1 y q) (b1 x z)
    subst e
    rw [ascT_uniq (List.perm_cons x |>.mp p) a2 b2]
theorem rising_asc : ∀ (ys : List Tx) (x : Tx), risingS (mk x.l) (ys.map fun y => mk y.l) = true → ascT (x :: ys)
  | [], x, _ => List.pairwise_singleton ..
  | y :: ys, x, h => by
    have h' : (!ltCps (mk y.l).cps.toList (mk x.l).cps.toList && risingS (mk y.l) (ys.map fun y => mk y.l)) = true := h
    rw [Bool.and_eq_true, ltCps_eq, mk_cps, mk_cps] at h'
    have ih := rising_asc ys y h'.2
    have hxy : leT x y = true := h'.1
    obtain ⟨a1, _⟩ := List.pairwise_cons.mp ih
    refine List.pairwise_cons.mpr ⟨fun u hu => ?_, ih⟩
    rcases List.mem_cons.mp hu with rfl | hu
    · exact hxy
    · exact leT_trans hxy (a1 u hu)
theorem sorted_asc : ∀ (ys : List Tx), sortedS (ys.map fun y => mk y.l) = true → ascT ys
  | [], _ => .nil
  | y :: ys, h => rising_asc ys y h
theorem mk_of {s : Str} : ∃ l, s = mk l := by
  obtain ⟨⟨l⟩⟩ := s
  exact ⟨l, rfl⟩
theorem txs_perm {xs : List Tx} {ys : List Str} (h : ys.Perm (xs.map fun x => mk x.l)) : ∃ zs : List Tx, ys = zs.map (fun x => mk x.l) ∧ zs.Perm xs := by
  refine ⟨ys.map fun s => ⟨s.cps.toList⟩, ?_, ?_⟩
  · rw [List.map_map]
    have : ∀ s : Str, ((fun x : Tx => mk x.l) ∘ fun s : Str => (⟨s.cps.toList⟩ : Tx)) s = s := fun s => by
      obtain ⟨l, rfl⟩ := mk_of (s := s)
      show mk (mk l).cps.toList = mk l
      rw [mk_cps]
    rw [List.map_congr_left (g := id) fun s _ => this s, List.map_id]
  · have := h.map fun s : Str => (⟨s.cps.toList⟩ : Tx)
    rw [List.map_map] at this
    have e : ((fun s : Str => (⟨s.cps.toList⟩ : Tx)) ∘ fun x : Tx => mk x.l) = id := by
      funext x
      show (⟨(mk x.l).cps.toList⟩ : Tx) = x
      rw [mk_cps]
    rw [e, List.map_id] at this
    exact this
theorem paired_txs {I : Hp} {xs : List Tx} (h : ∀ x ∈ xs, x.l.length ≤ 100000) : Paired (Rep.is I) ((xs.map fun x => mk x.l).map V.str) xs := by
  induction xs with
  | nil => exact .nil
  | cons x xs ih => exact .cons ⟨rfl, h x (List.mem_cons_self ..)⟩ (ih fun y hy => h y (List.mem_cons_of_mem _ hy))
theorem Paired.short {I : Hp} : ∀ {vs : List V} {xs : List Tx}, Paired (Rep.is I) vs xs → ∀ x ∈ xs, x.l.length ≤ 100000
  | _, _, .nil => fun x hx => nomatch hx
  | _, _, .cons h t => fun x hx => by
    rcases List.mem_cons.mp hx with rfl | hx
    · exact h.2
    · exact Paired.short t x hx
section
variable {f : Fr} {a : Amb} {σ : L2.St} {te : TE} {K : PySem.W.Frag}
theorem c_sortedS {T : Addr → Prop} {xs : List Tx} (h64 : xs.length < 64) : C1 (rSortedS K) (rl T) rv xs (srtT xs) := fun I H v sb h Q k => by
  obtain ⟨p, vs, rfl, hp, _, hv⟩ := h
  have e := Nw.Paired.txs hv
  subst e
  have hs := Nw.Paired.short hv
  have e0 : (xs.map Tx.l).map mk = xs.map fun x => mk x.l := by rw [List.map_map] <;> rfl
  rw [e0] at hp
  refine ⟨p, xs.map fun x => mk x.l, rfl, SqL.of hp, by rw [List.length_map]; exact h64, fun ys q hpm ha hq => ?_⟩
  obtain ⟨zs, rfl, hz⟩ := txs_perm hpm
  have e : zs = srtT xs := ascT_uniq (hz.trans (srtT_perm xs).symm) (sorted_asc zs ha) (srtT_asc xs)
  subst e
  have g : Grow No I H (upd I q (.lst (((srtT xs).map fun x => mk x.l).map V.str))) (upd H q (.lst (((srtT xs).map fun x => mk x.l).map V.str))) := Grow.new sb hq
  exact k _ _ _ g ⟨q, _, rfl, upd_same, paired_txs fun x hx => hs x ((srtT_perm xs).mem_iff.mp hx)⟩
end
end Nw

namespace Nw
open PySem PySem.Spec PyProof.Rows L2
/-! ### a new list that is one's own from its making on -/
section
variable {f : Fr} {a : Amb} {α β γ δ : Type} {σ : L2.St} {te ta tb tc : TE} {tt t u : TT} {x : α} {y : β} {z : γ} {v w : V} {K : PySem.W.Frag} {wi : TI} {g : TG} {n : Nat} {I H : Hp} {ts us : TS}
def EvN [Rep α] (f : Fr) (a : Amb) (te : TE) (σ : L2.St) (xs : List α) : Prop := ∀ n I H, Stn f a n I H → ∀ Q : VK, (∀ p vs I' H', Grow No I H I' H' → H p = none → I' p = none → H' p = some (.lst vs) → Paired (Rep.is I') vs xs → Q (.ref p) H') → te σ H Q
theorem EvN.cast [Rep α] {xs ys : List α} (h : EvN f a te σ xs) (e : xs = ys) : EvN f a te σ ys := e ▸ h
theorem none_back {I' H' : Hp} {p : Addr} (g : Grow No I H I' H') (hp : H' p = none) : H p = none := by
  cases e : H p with
  | none => rfl
  | some o => exact absurd hp (g.live p (by rw [e]; exact fun z => nomatch z))
theorem en_upd [Rep α] {xs : List α} {I' H' : Hp} {p : Addr} {vs : List V} {Q : VK} (s : Stn f a n I H) (g : Grow No I H I' H') (hp : H' p = none) (hv : Paired (Rep.is I') vs xs)
    (k : ∀ p vs I' H', Grow No I H I' H' → H p = none → I' p = none → H' p = some (.lst vs) → Paired (Rep.is I') vs xs → Q (.ref p) H') : Q (.ref p) (upd H' p (.lst vs)) :=
  k p vs I' _ (g.trans (Grow.mine (s.grow g).sub hp)) (none_back g hp) ((s.grow g).sub.free hp) upd_same hv
theorem en_lst [Rep α] {ar : TA} {xs : List α} (h : EvL f a ar σ xs) (hl : xs.length ≤ 16777216) : EvN f a (tLst ar) σ xs := fun n I H s Q k => h n I H s _ fun vs I1 H1 g1 r1 =>
  ⟨by rw [Nw.Paired.len r1, sizeLine_eq]; exact hl, fun p hp => en_upd s g1 hp r1 k⟩
theorem en_cat [Rep α] {xs ys : List α} (hl : xs.length + ys.length ≤ 16777216) (ha : EvP f a (rl f.T) ta σ xs) (hb : EvP f a (rl f.T) tb σ ys) : EvN f a (tOp rCat ta tb) σ (xs ++ ys) := fun n I H s Q k =>
  ha n I H s _ fun v I1 H1 g1 r1 => hb n I1 H1 (s.grow g1) _ fun w I2 H2 g2 r2 => by
    obtain ⟨p, vs, rfl, hp, _, hv⟩ := (KpR.kp (T := f.T) r1 g2.no : rl f.T I2 H2 v xs)
    obtain ⟨q, ws, rfl, hq, _, hw⟩ := r2
    exact ⟨p, q, vs, ws, rfl, rfl, hp, hq, by rw [Nw.Paired.len hv, Nw.Paired.len hw, sizeLine_eq]; exact hl, fun r hr => en_upd s (g1.trans g2) hr (Paired.app hv hw) k⟩
theorem en_slL [Rep α] {xs : List α} {tl th : TO} {lo hi : Option Int} (h : EvP f a (rl f.T) te σ xs) (hl : EvO f a tl σ lo) (hh : EvO f a th σ hi) : EvN f a (tSl (rSlL K) te tl th) σ (cutL xs lo hi) := fun n I H s Q k =>
  h n I H s _ fun v I1 H1 g1 r1 => hl n I1 H1 (s.grow g1) _ fun I2 H2 g2 => hh n I2 H2 (s.grow (g1.trans g2)) _ fun I3 H3 g3 => by
    obtain ⟨p, vs, rfl, hp, hv⟩ := (KpR.kp (T := f.T) r1 (g2.trans g3).no : rl f.T I3 H3 v xs)
    exact ⟨p, vs, rfl, SqL.of hp, fun q hq => en_upd s ((g1.trans g2).trans g3) hq (Paired.cut hv.2 lo hi) k⟩
theorem en_listL [Rep α] {xs : List α} (h : EvP f a (rl f.T) te σ xs) : EvN f a (tCB (fun xs H Q => ∃ p ys, xs = [.ref p] ∧ (SqL K H p ys ∨ SqT K H p ys) ∧ ∀ l, H l = none → Q (.ref l) (upd H l (.lst ys))) (tCons te tNil)) σ xs := fun n I H s Q k => h n I H s _ fun v I1 H1 g1 r1 => by
  obtain ⟨p, vs, rfl, hp, _, hv⟩ := r1
  exact ⟨p, vs, rfl, .inl (SqL.of hp), fun l hl => en_upd s g1 hl hv k⟩
theorem en_listU [Rep α] {xs : Tup α} (h : EvP f a rv te σ xs) : EvN f a (tCB (fun xs H Q => ∃ p ys, xs = [.ref p] ∧ (SqL K H p ys ∨ SqT K H p ys) ∧ ∀ l, H l = none → Q (.ref l) (upd H l (.lst ys))) (tCons te tNil)) σ xs.l := fun n I H s Q k => h n I H s _ fun v I1 H1 g1 r1 => by
  obtain ⟨p, vs, rfl, hp, hv⟩ := r1
  exact ⟨p, vs, rfl, .inr (SqT.of ((s.grow g1).sub _ _ hp)), fun l hl => en_upd s g1 hl hv k⟩
theorem en_map [Rep α] [Rep β] {h : α → β} {xs : List α} (E : EvN f a te σ xs) (c : ∀ x I v, Rep.is I v x → Rep.is I v (h x)) : EvN f a te σ (xs.map h) := fun n I H s Q k =>
  E n I H s Q fun p vs I' H' g h1 h2 h3 r => k p vs I' H' g h1 h2 h3 (Nw.Paired.map (fun _ _ z => c _ _ _ z) r)
theorem en_lc [Rep α] [Rep β] {xs : List α} {vs : List Nat} {b : α → Bool} {e : α → β} {Z : α → L2.St → Amb → Prop} (hi : EvI f a wi σ xs) (hl : xs.length ≤ 16777216) (hg : ∀ x ∈ xs, Bd f a g (wipe σ vs) x (Z x))
    (hz : ∀ x ∈ xs, ∀ σ' a', Z x σ' a' → wipe σ' vs = wipe σ vs ∧ EvB f a' tt σ' (b x) ∧ (b x = true → EvP f a' rv te σ' (e x))) : EvN f a (tLc wi g tt te vs) σ (xs.filterMap fun x => if b x = true then some (e x) else none) := fun n I H s Q k =>
  hi n I H s _ fun J I1 H1 G Y g1 wk hG hY D hD => by
    have s1 := s.grow g1
    refine lc_pure (β := β) wk xs (fun x => if b x = true then some (e x) else none) rfl s1.sub hD hl (fun I' H' g2 => hG _ (g2.view.trans g2.sub)) ?_ ?_
    · intro i x v I' H' H'' hx g2 y Kn Ky kn ky
      obtain ⟨x', I3, hx', g3, hr⟩ := hY i I' H' v H'' (List.getElem?_eq_some_iff.mp hx).1 g2.view g2.sub y
      rw [hx] at hx'
      cases hx'
      have hm := List.mem_of_getElem? hx
      have s3 := s1.grow (g2.trans g3)
      refine hg x hm n I3 H'' v s3 hr _ fun σ' a' hZ s4 => ?_
      obtain ⟨e1, e2, e3⟩ := hz x hm σ' a' hZ
      refine ⟨e1, e2 n I3 H'' s4 _ fun I5 H5 g5 => ?_⟩
      by_cases hb : b x = true
      · rw [if_pos hb]
        exact e3 hb n I5 H5 (s4.grow g5) _ fun u I6 H6 g6 r6 => ky _ (if_pos hb) u I6 H6 ((g3.trans g5).trans g6) r6
      · rw [if_neg hb]
        exact kn (if_neg hb) I5 H5 (g3.trans g5)
    · intro I' H' vs' g2 ow hp
      exact k D vs' I' H' (g1.trans g2) (none_back g1 hD) ow.ni ow.at_ hp
/-- walking what is a list or a tuple of any values -/
theorem ei_seqD {x : Dk K} (c : (x.d.isLst || x.d.isTup) = true) (h : EvP f a rv te σ x) : EvI f a (iSeq K te) σ (x.d.items.map (dk (K := K))) := fun n I H s R k => h n I H s _ fun v I' H' g r => by
  obtain ⟨d⟩ := x
  cases d with
  | sq t xs =>
    obtain ⟨p, vs, rfl, hp, es⟩ := isE.inv r
    have hv : Paired (Rep.is I') vs (xs.map (dk (K := K))) := of_es es
    refine ⟨p, t, rfl, ⟨vs, SqB.of ((s.grow g).sub _ _ hp)⟩, k _ I' H' (fun H => SqB K t H p vs) (YAt vs) g (by rw [show (List.map dk (Dt.items (.sq t xs))).length = vs.length from (Nw.Paired.len hv).symm]; exact walk_seq) (fun H2 e => SqB.of (e _ _ hp)) fun i I2 H2 v H3 hi e s2 y => ?_⟩
    obtain ⟨rfl, hy⟩ := y
    obtain ⟨x, h1, h2⟩ := Nw.Paired.at' hv hy
    exact ⟨x, I2, h1, Grow.refl s2, Rep.mono e h2⟩
  | _ => cases c
theorem Stn.newN [Rep α] {xs : List α} {I' H' : Hp} {p : Addr} {vs : List V} (s : Stn f a n I H) (g : Grow No I H I' H') (hp : H p = none) (hi : I' p = none) (hH : H' p = some (.lst vs)) (hv : Paired (Rep.is I') vs xs) : Stn f (a.own (lcell p xs)) n I' H' := by
  have s1 := s.grow g
  refine ⟨s1.g, s1.r, s1.γ, ?_, fun d hd => ?_⟩
  · show (p :: a.Ω.map (·.p)).Nodup
    refine List.nodup_cons.mpr ⟨fun z => ?_, s.nd⟩
    obtain ⟨d, hd, e⟩ := List.mem_map.mp z
    obtain ⟨o', w, _⟩ := s.ω d hd
    have := w.at_
    rw [e, hp] at this
    cases this
  · rcases List.mem_cons.mp hd with rfl | hd
    · refine ⟨.lst vs, ⟨s.not hp, ?_, hi, hH⟩, vs, rfl, hv⟩
      cases e : f.H0 p with
      | none => exact e
      | some u => exact absurd hp (s.g.live _ (by rw [e]; exact fun z => nomatch z))
    · exact s1.ω d hd
section
variable {D : Ends} {R : δ}
theorem p_newN [Rep α] {i : Nat} {xs : List α} {fr : List α → δ} (h : Stn f a n I H) (E : EvN f a te σ xs) (e : bindP xs fr = R) (k : ∀ xs' p I1 H1, fr xs' = R → Stn f (a.own (lcell p xs')) n I1 H1 → D.nx (σ.set i (some (.ref p))) H1) : tAsg te (gName i) D σ H :=
  E n I H h _ fun p vs I' H' g h1 h2 h3 r => k xs p I' H' e (h.newN g h1 h2 h3 r)
theorem p_newNs {us2 : TS} [Rep α] {i : Nat} {xs : List α} {fr : List α → δ} (h : Stn f a n I H) (E : EvN f a te σ xs) (e : bindP xs fr = R) (k : ∀ xs' p I1 H1, fr xs' = R → Stn f (a.own (lcell p xs')) n I1 H1 → us2 D (σ.set i (some (.ref p))) H1) : tSeq (tAsg te (gName i)) us2 D σ H := p_newN (D := { D with nx := us2 D }) h E e k
end
section
variable {En : Ends} {M : δ → Nat → Prop}
theorem d_newN [Rep α] {i : Nat} {xs : List α} {fr : List α → DW δ} (h : Stn f a n I H) (E : EvN f a te σ xs) (e : bindP xs fr n M) (k : ∀ xs' p I1 H1, fr xs' n M → Stn f (a.own (lcell p xs')) n I1 H1 → En.nx (σ.set i (some (.ref p))) H1) : tAsg te (gName i) En σ H :=
  E n I H h _ fun p vs I' H' g h1 h2 h3 r => k xs p I' H' e (h.newN g h1 h2 h3 r)
theorem d_newNs {us2 : TS} [Rep α] {i : Nat} {xs : List α} {fr : List α → DW δ} (h : Stn f a n I H) (E : EvN f a te σ xs) (e : bindP xs fr n M) (k : ∀ xs' p I1 H1, fr xs' n M → Stn f (a.own (lcell p xs')) n I1 H1 → us2 En (σ.set i (some (.ref p))) H1) : tSeq (tAsg te (gName i)) us2 En σ H := d_newN (En := { En with nx := us2 En }) h E e k
end
end
end Nw

namespace Nw
open PySem PySem.Spec PyProof.Rows L2
/-! ### the calculus: errors -/
/-- an error: its class, what its fields hold -/
structure Er where
  cls : Str
  fs : List (Str × Dt)
def ErD (K : PySem.W.Frag) (I H : Hp) (d : Option Addr) (fs : List (Str × Dt)) : Prop := match fs with
  | [] => d = none
  | _ :: _ => ∃ dx fs', d = some dx ∧ H dx = some (.xd fs') ∧ Paired (fun (p : Str × V) (q : Str × Dt) => p.1 = q.1 ∧ isE K I p.2 q.2) fs' fs
/-- it may go out, from here on -/
def Er.out (K : PySem.W.Frag) (e : Er) (E : XK) (I H : Hp) : Prop := ∀ I' H' d, Grow No I H I' H' → ErD K I' H' d e.fs → E (.ref (He.ga K e.cls)) d H'
theorem Er.out.grow {K : PySem.W.Frag} {e : Er} {E : XK} {I H I' H' : Hp} (k : e.out K E I H) (g : Grow No I H I' H') : e.out K E I' H' := fun I2 H2 d g2 r => k I2 H2 d (g.trans g2) r
abbrev ExR (α : Type) := Except Er α
def bindE {α δ : Type} (m : DW (ExR α)) (fr : α → DW (ExR δ)) : DW (ExR δ) := fun n M => m 0 fun r _ => match r with
  | .ok y => fr y n M
  | .error e => M (.error e) n
/-- where it must not raise -/
def okX {α : Type} (m : DW (ExR α)) : DW α := fun n M => m 0 fun r _ => match r with
  | .ok y => M y n
  | .error _ => False
def spX {α β : Type} [RepA α] [Rep β] (K : PySem.W.Frag) (F : α → DW (ExR β)) : Sp := fun vs H Q E => ∃ (I : Hp) (x : α) (M : ExR β → Nat → Prop), RepA.is I vs x ∧ Same I H ∧ F x 0 M ∧
  (∀ y n', M (.ok y) n' → ∀ v I' H', Grow No I H I' H' → Rep.is I' v y → Q v H') ∧ (∀ e n', M (.error e) n' → e.out K E I H)
def frX (I H : Hp) : Fr := frN I H
theorem stnX {I H : Hp} {n : Nat} (sb : Same I H) : Stn (frN I H) Amb.nil n I H := ⟨Grow.refl sb, trivial, trivial, .nil, fun _ z => nomatch z⟩
section
variable {f : Fr} {a : Amb} {α β γ δ : Type} {σ : L2.St} {te ta tb tc : TE} {tt t u : TT} {tr : TA} {x : α} {y : β} {z : γ} {v w : V} {K : PySem.W.Frag} {n : Nat} {I H I0 H0 : Hp} {Q : VK} {E : XK} {M : ExR δ → Nat → Prop} {sp : Sp} {C : Addr}
theorem Stn.gN (h : Stn (frN I0 H0) a n I H) : Grow No I0 H0 I H := h.g
/-- what a callee lets out goes out -/
theorem x_run [RepA α] [Rep β] {F : α → DW (ExR β)} {fr : β → DW (ExR δ)} {vs : List V} (h : Stn (frN I0 H0) a n I H) (kE : ∀ e n', M (.error e) n' → e.out K E I0 H0) (r : RepA.is I vs x) (e : bindE (F x) fr n M) (k : ∀ y v I1 H1, fr y n M → Stn (frN I0 H0) (a.rep v y) n I1 H1 → Q v H1) : spX K F vs H Q E :=
  ⟨I, x, _, r, h.sub, e, fun y n' e' v I1 H1 g r => k y v I1 H1 e' ((h.grow g).rep r), fun er n' e' => (kE er n e').grow h.gN⟩
theorem x_call [RepA α] [Rep β] {F : α → DW (ExR β)} {fr : β → DW (ExR δ)} (h : Stn (frN I0 H0) a n I H) (kE : ∀ e n', M (.error e) n' → e.out K E I0 H0) (A : EvA (frN I0 H0) a tr σ x) (e : bindE (F x) fr n M) (k : ∀ y v I1 H1, fr y n M → Stn (frN I0 H0) (a.rep v y) n I1 H1 → Q v H1) :
    tCall (fun vs H Q E => sp vs H Q E ∨ spX K F vs H Q E) [] E tr σ H Q := A n I H h _ fun vs I1 H1 g r => by
  rw [List.append_nil]
  exact .inr (x_run (h.grow g) kE r e k)
/-- a call that does not raise here, whatever the frame -/
theorem o_run [RepA α] [Rep β] {F : α → DW (ExR β)} {fr : β → DW γ} {M : γ → Nat → Prop} {vs : List V} (h : Stn f a n I H) (r : RepA.is I vs x) (e : bindD (okX (F x)) fr n M) (k : ∀ y v I1 H1, fr y n M → Stn f (a.rep v y) n I1 H1 → Q v H1) : spX K F vs H Q E0 :=
  ⟨I, x, _, r, h.sub, e, fun y n' e' v I1 H1 g r => k y v I1 H1 e' ((h.grow g).rep r), fun er n' e' => e'.elim⟩
theorem o_call [RepA α] [Rep β] {F : α → DW (ExR β)} {fr : β → DW γ} {M : γ → Nat → Prop} (h : Stn f a n I H) (A : EvA f a tr σ x) (e : bindD (okX (F x)) fr n M) (k : ∀ y v I1 H1, fr y n M → Stn f (a.rep v y) n I1 H1 → Q v H1) :
    tCall (fun vs H Q E => sp vs H Q E ∨ spX K F vs H Q E) [] E0 tr σ H Q := A n I H h _ fun vs I1 H1 g r => by
  rw [List.append_nil]
  exact .inr (o_run (h.grow g) r e k)
/-! raise X(..) -/
theorem x_raise1 {c : Str} {x : Dk K} {fld : Str} (h : Stn (frN I0 H0) a n I H) (kE : ∀ e n', M (.error e) n' → e.out K E I0 H0) (A : EvP (frN I0 H0) a rv te σ x) (e : pureD (.error ⟨c, [(fld, x.d)]⟩) n M) :
    tMkO (He.ga K c) (spX1 K (He.ga K c) fld) [] (tCons te tNil) σ H E := A n I H h _ fun v I1 H1 g r => mk1 fun dx hdx => by
  have g1 : Grow No I1 H1 I1 (upd H1 dx (.xd [(fld, v)])) := Grow.mine (h.grow g).sub hdx
  exact kE _ _ e _ _ _ ((h.gN.trans g).trans g1) ⟨dx, _, rfl, upd_same, .cons ⟨rfl, r⟩ .nil⟩
theorem x_raise2 {c : Str} {x y : Dk K} {f1 f2 : Str} (h : Stn (frN I0 H0) a n I H) (kE : ∀ e n', M (.error e) n' → e.out K E I0 H0) (A : EvP (frN I0 H0) a rv te σ x) (B : EvP (frN I0 H0) a rv tb σ y) (e : pureD (.error ⟨c, [(f2, y.d), (f1, x.d)]⟩) n M) :
    tMkO (He.ga K c) (spX2 K (He.ga K c) f1 f2) [] (tCons te (tCons tb tNil)) σ H E := A n I H h _ fun v I1 H1 g r => B n I1 H1 (h.grow g) _ fun w I2 H2 g2 r2 => mk2 fun dx hdx => by
  have g1 : Grow No I2 H2 I2 (upd H2 dx (.xd [(f2, w), (f1, v)])) := Grow.mine (h.grow (g.trans g2)).sub hdx
  exact kE _ _ e _ _ _ ((h.gN.trans (g.trans g2)).trans g1) ⟨dx, _, rfl, upd_same, .cons ⟨rfl, r2⟩ (.cons ⟨rfl, Rep.mono g2.view r⟩ .nil)⟩
/-! ### objects that stand for good, of a class of the text -/
/-- an instance of the class at C: its fields, by an order of names -/
structure OAt (I : Hp) (v : V) (C : Addr) (fs : List (Str × V)) : Prop where
  ex : ∃ p dx, v = .ref p ∧ I p = some (.ins C dx fs)
theorem OAt.up {I I' : Hp} {v : V} {fs : List (Str × V)} (h : OAt I v C fs) (e : Same I I') : OAt I' v C fs := let ⟨p, dx, h1, h2⟩ := h.ex; ⟨p, dx, h1, e _ _ h2⟩
/-- reading a field -/
theorem ep_fld [Rep α] [Rep β] {fld : Str} (Cl : Cls K C) (na : NoAttr K C fld) (h : EvP f a rv te σ x) (o : ∀ I v, Rep.is I v x → ∃ fs u, OAt I v C fs ∧ fs.lookup fld = some u ∧ Rep.is I u y) : EvP f a rv (tFld K te fld) σ y := fun n I H s Q k => h n I H s _ fun v I' H' g r => by
  obtain ⟨fs, u, ⟨p, dx, rfl, hp⟩, hl, hr⟩ := o I' v r
  exact ⟨p, C, dx, fs, u, rfl, (s.grow g).sub _ _ hp, Cl, na, hl, k u I' H' g hr⟩
/-- what an object is, for its methods -/
class IsO (α : Type) [Rep α] (C : Addr) where
  o : ∀ {I : Hp} {v : V} {x : α}, Rep.is I v x → ∃ fs, OAt I v C fs
  /-- the names of its fields -/
  ns : List Str
  nm : ∀ {I : Hp} {v : V} {x : α} {fs : List (Str × V)}, Rep.is I v x → OAt I v C fs → fs.map Prod.fst = ns
theorem lookup_none {l : List (Str × V)} {m : Str} (h : m ∉ l.map Prod.fst) : l.lookup m = none := by
  induction l with
  | nil => rfl
  | cons p l ih =>
    rw [List.map_cons, List.mem_cons, not_or] at h
    obtain ⟨k, v⟩ := p
    rw [List.lookup_cons]
    have : (m == k) = false := beq_eq_false_iff_ne.mpr h.1
    rw [this]
    exact ih h.2
theorem tMeth_go [Rep α] [IsO α C] {m : Str} {dvs : List V} (hm : m ∉ IsO.ns α C) (h : Stn f a n I H) (A : EvP f a rv te σ x) (k : ∀ v I1 H1, Grow No I H I1 H1 → Rep.is I1 v x → tr σ H1 fun vs H2 => sp (v :: (vs ++ dvs)) H2 Q E) : tMeth C m sp dvs E te tr σ H Q := A n I H h _ fun v I1 H1 g r => by
  obtain ⟨fs, o⟩ := IsO.o (C := C) r
  have e := IsO.nm (C := C) r o
  obtain ⟨p, dx, rfl, hp⟩ := o.ex
  exact ⟨p, dx, fs, rfl, (h.grow g).sub _ _ hp, lookup_none (by rw [e]; exact hm), k _ I1 H1 g r⟩
end
/-! an object's own method, which only computes -/
section
variable {f : Fr} {a : Amb} {α β γ δ : Type} {σ : L2.St} {te ta tb tc : TE} {tr : TA} {x : α} {y : β} {z : γ} {v w : V} {K : PySem.W.Frag} {n : Nat} {I H I0 H0 : Hp} {Q : VK} {E : XK} {sp : Sp} {C : Addr}
theorem ep_meth [Rep α] [IsO α C] [RepA β] [Rep γ] {m : Str} {F : α × β → Option γ} (hm : m ∉ IsO.ns α C) (A : EvP f a rv te σ x) (B : EvA f a tr σ y) (e : F (x, y) = some z) : EvP f a rv (tMeth C m (spP F) [] E0 te tr) σ z := fun n I H s Q k =>
  tMeth_go hm s A fun v I1 H1 g r => B n I1 H1 (s.grow g) _ fun vs I2 H2 g2 r2 => by
    rw [List.append_nil]
    exact ⟨I2, (x, y), z, ⟨v, vs, rfl, Rep.mono g2.view r, r2⟩, (s.grow (g.trans g2)).sub, e, fun u I3 H3 g3 r3 => k u I3 H3 ((g.trans g2).trans g3) r3⟩
theorem x_meth [Rep α] [IsO α C] [RepA β] [Rep γ] {m : Str} {F : α × β → DW (ExR γ)} {fr : γ → DW (ExR δ)} {M : ExR δ → Nat → Prop} (hm : m ∉ IsO.ns α C) (h : Stn (frN I0 H0) a n I H) (kE : ∀ e n', M (.error e) n' → e.out K E I0 H0) (A : EvP (frN I0 H0) a rv te σ x) (B : EvA (frN I0 H0) a tr σ y) (e : bindE (F (x, y)) fr n M)
    (k : ∀ y v I1 H1, fr y n M → Stn (frN I0 H0) (a.rep v y) n I1 H1 → Q v H1) : tMeth C m (fun vs H Q E => sp vs H Q E ∨ spX K F vs H Q E) [] E te tr σ H Q :=
  tMeth_go hm h A fun v I1 H1 g r => B n I1 H1 (h.grow g) _ fun vs I2 H2 g2 r2 => by
    rw [List.append_nil]
    exact .inr (x_run (h.grow (g.trans g2)) kE ⟨v, vs, rfl, Rep.mono g2.view r, r2⟩ e k)
theorem o_meth [Rep α] [IsO α C] [RepA β] [Rep γ] {m : Str} {F : α × β → DW (ExR γ)} {fr : γ → DW δ} {M : δ → Nat → Prop} (hm : m ∉ IsO.ns α C) (h : Stn f a n I H) (A : EvP f a rv te σ x) (B : EvA f a tr σ y) (e : bindD (okX (F (x, y))) fr n M)
    (k : ∀ y v I1 H1, fr y n M → Stn f (a.rep v y) n I1 H1 → Q v H1) : tMeth C m (fun vs H Q E => sp vs H Q E ∨ spX K F vs H Q E) [] E0 te tr σ H Q :=
  tMeth_go hm h A fun v I1 H1 g r => B n I1 H1 (h.grow g) _ fun vs I2 H2 g2 r2 => by
    rw [List.append_nil]
    exact .inr (o_run (h.grow (g.trans g2)) ⟨v, vs, rfl, Rep.mono g2.view r, r2⟩ e k)
/-- a property -/
theorem ep_prop [Rep α] [IsO α C] [Rep γ] {F : α × Unit → Option γ} {z : γ} (A : EvP f a rv te σ x) (e : F (x, ()) = some z) : EvP f a rv (tProp C (spP F) [] E0 te) σ z := fun n I H s Q k => A n I H s _ fun v I1 H1 g r => by
  obtain ⟨fs, p, dx, rfl, hp⟩ := IsO.o (C := C) r
  exact ⟨p, dx, fs, rfl, (s.grow g).sub _ _ hp, I1, (x, ()), z, ⟨_, _, rfl, r, rfl⟩, (s.grow g).sub, e, fun u I2 H2 g2 r2 => k u I2 H2 (g.trans g2) r2⟩
end
end Nw

namespace Nw
open PySem PySem.Spec PyProof.Rows L2
/-! ### the calculus: defs that make lambdas -/
section
variable {Tb : List (Addr × Str)} {D : DA} {n m : Nat} {I H I' H' H1 I0 H0 : Hp} {p : Addr} {o o' : HO} {T : Addr → Prop}
theorem tabs_upd (t : LamX.Tabs Tb H) (hp : H p = some o) (ne : NTE o) : LamX.Tabs Tb (upd H p o') := fun q hq => by
  obtain ⟨ps, h1, h2, h3⟩ := t q hq
  refine ⟨ps, by rw [upd_ne (fun z => by rw [z, hp] at h1; cases h1; exact ne.1 _ rfl)]; exact h1, h2, fun pos cv hc => ?_⟩
  obtain ⟨c, e1, e2⟩ := h3 pos cv hc
  exact ⟨c, e1, by rw [upd_ne (fun z => by rw [z, hp] at e2; cases e2; exact ne.2 _ rfl)]; exact e2⟩
theorem LSt.stE : StableE (TD D) (LSt Tb D n) where
  grow := fun s g => s.grow g
  put := fun ne s w => ⟨s.drw.put w, s.nt, tabs_upd s.tabs w.at_ ne⟩
  give := fun {_ m o I _} ne s w => ⟨s.drw.give w, fun b ps e => by
    by_cases z : b = m
    · rw [z, upd_same] at e; cases e; exact ne.1 _ rfl
    · rw [upd_ne z] at e; exact s.nt b ps e, s.tabs⟩
theorem noT_some (h : noT H p = some o) : H p = some o := noT_sub _ _ h
theorem noT_nt (h : noT H p = some o) : NTb o := fun ps e => noT_tb (H := H) p ps (by rw [h, e])
theorem Drw.noTl (d : Drw D n I H) : ∀ b, TD D b → noT H b ≠ Option.none := by
  obtain ⟨_, _, _, _, s, _⟩ := d.ex
  rintro b (rfl | rfl | rfl)
  · rw [noT_at s.hd fun _ z => nomatch z]; exact fun z => nomatch z
  · rw [noT_at s.hg fun _ z => nomatch z]; exact fun z => nomatch z
  · rw [noT_at s.hl fun _ z => nomatch z]; exact fun z => nomatch z
def frL (s : LSt Tb D n I H) : Fr := ⟨TD D, LSt Tb D, fun _ => LSt.stE, I, noT H, s.drw.noTl, s.drw.none⟩
theorem stnL (s : LSt Tb D n I H) : Stn (frL s) Amb.nil n I H := by
  refine ⟨⟨Same.refl I, s.sub, fun b o _ e => noT_some e, fun b e z => ?_, fun _ e _ => e, fun _ _ e => e⟩, s, trivial, .nil, fun _ z => nomatch z⟩
  cases q : noT H b with
  | none => exact e q
  | some o => rw [noT_some q] at z; cases z
structure LFr (f : Fr) (Tb : List (Addr × Str)) (D : DA) : Prop extends DFr f D where
  get : ∀ {n : Nat} {I H : Hp}, f.R n I H → LSt Tb D n I H
  put : ∀ {n : Nat} {I H : Hp}, LSt Tb D n I H → f.R n I H
  nt0 : ∀ b ps, f.H0 b ≠ some (.tbl ps)
theorem lfr (s : LSt Tb D n I H) : LFr (frL s) Tb D := ⟨⟨rfl, fun h => h.drw, fun h g d => LSt.draw h g d⟩, fun h => h, fun h => h, fun b ps => noT_tb b ps⟩
end
section
variable {f : Fr} {a : Amb} {α β γ δ : Type} {σ : L2.St} {te ta tb tc : TE} {tr : TA} {x : α} {y : β} {z : γ} {v w : V} {K : PySem.W.Frag} {n n' : Nat} {I H I0 H0 I1 H1 : Hp} {Q : VK} {E : XK} {sp : Sp} {C : Addr} {Tb : List (Addr × Str)} {D : DA} {M : δ → Nat → Prop}
/-- a lambda is made: tables grow, nothing else changes -/
theorem Stn.ext (lf : LFr f Tb D) (h : Stn f a n I H) (e : LamX.ExtN H H1) (t : LamX.Tabs Tb H1) : Stn f a n I H1 := by
  have s := lf.get h.r
  refine ⟨⟨h.g.view, ext_sub h.g.sub s.nt e, fun b o nT e0 => e b o (h.g.keep b o nT e0) (fun ps z => lf.nt0 b ps (by rw [e0, z])), fun b hb => ?_, h.g.fresh, h.g.tbl⟩, lf.put (s.ext e t), h.γ, h.nd, fun c hc => ?_⟩
  · by_cases tb : f.T b
    · rw [lf.eT] at tb
      exact (s.drw.ext s.nt e).live b tb
    · cases q : f.H0 b with
      | none => exact absurd q hb
      | some o =>
        rw [e b o (h.g.keep b o tb q) (fun ps z => lf.nt0 b ps (by rw [q, z]))]
        exact fun z => nomatch z
  · obtain ⟨o, w, hφ⟩ := h.ω c hc
    exact ⟨o, ⟨w.nt, w.n0, w.ni, e _ _ w.at_ (c.nt hφ).1⟩, hφ⟩
/-- what a def of the law did -/
theorem Stn.lawed (lf : LFr f Tb D) (h : Stn f a n I H) (g : Grow (TD D) I (noT H) I1 H1) (s : LSt Tb D n' I1 H1) : Stn f a n' I1 H1 := by
  have kp : ∀ b o, ¬ f.T b → f.H0 b = some o → noT H b = some o := fun b o nT e0 => noT_at (h.g.keep b o nT e0) fun ps z => lf.nt0 b ps (by rw [e0, z])
  refine ⟨⟨h.g.view.trans g.view, g.sub, fun b o nT e0 => g.keep b o (by rw [← lf.eT]; exact nT) (kp b o nT e0), fun b hb => ?_, fun b e0 e1 => ?_, fun b ps e0 => h.g.tbl b ps (g.tbl b ps e0)⟩, lf.put s, a.up g.view h.γ, h.nd, fun c hc => ?_⟩
  · by_cases tb : f.T b
    · rw [lf.eT] at tb
      exact s.drw.live b tb
    · cases q : f.H0 b with
      | none => exact absurd q hb
      | some o => rw [g.keep b o (by rw [← lf.eT]; exact tb) (kp b o tb q)]; exact fun z => nomatch z
  · by_cases tb : f.T b
    · rw [lf.eT] at tb
      exact s.drw.none b tb
    · cases q : f.H0 b with
      | none => exact absurd q e1
      | some o => exact g.fresh b (h.g.fresh b e0 e1) (by rw [kp b o tb q]; exact fun z => nomatch z)
  · obtain ⟨o, w, hφ⟩ := h.ω c hc
    have e1 : noT H c.p = some o := noT_at w.at_ (c.nt hφ).1
    have nT : ¬ TD D c.p := by rw [← lf.eT]; exact w.nt
    exact ⟨o, ⟨w.nt, w.n0, g.fresh _ w.ni (by rw [e1]; exact fun z => nomatch z), g.keep _ _ nT e1⟩, c.up g.view hφ⟩
/-! what a lambda's body does -/
def EvX [Rep β] (K : PySem.W.Frag) (f : Fr) (a : Amb) (tb : XK → TE) (σ : L2.St) (m : DW (ExR β)) : Prop := ∀ n I H, Stn f a n I H → ∀ (E : XK) (Q : VK) (M : ExR β → Nat → Prop), m 0 M →
  (∀ y n', M (.ok y) n' → ∀ v I' H', Grow No I H I' H' → Rep.is I' v y → Q v H') → (∀ e n', M (.error e) n' → e.out K E I H) → tb E σ H Q
theorem ex_call [RepA α] [Rep β] {F : α → DW (ExR β)} (A : EvA f a tr σ x) : EvX K f a (fun E => tCall (fun vs H Q E => sp vs H Q E ∨ spX K F vs H Q E) [] E tr) σ (F x) := fun n I H s E Q M e k kE => A n I H s _ fun vs I1 H1 g r => by
  rw [List.append_nil]
  exact .inr ⟨I1, x, M, r, (s.grow g).sub, e, fun y n' e' v I2 H2 g2 r2 => k y n' e' v I2 H2 (g.trans g2) r2, fun er n' e' => (kE er n' e').grow g⟩
theorem ex_meth [Rep α] [IsO α C] [RepA β] [Rep γ] {m : Str} {F : α × β → DW (ExR γ)} (hm : m ∉ IsO.ns α C) (A : EvP f a rv te σ x) (B : EvA f a tr σ y) : EvX K f a (fun E => tMeth C m (fun vs H Q E => sp vs H Q E ∨ spX K F vs H Q E) [] E te tr) σ (F (x, y)) := fun n I H s E Q M e k kE =>
  tMeth_go hm s A fun v I1 H1 g r => B n I1 H1 (s.grow g) _ fun vs I2 H2 g2 r2 => by
    rw [List.append_nil]
    exact .inr ⟨I2, (x, y), M, ⟨v, vs, rfl, Rep.mono g2.view r, r2⟩, (s.grow (g.trans g2)).sub, e, fun y n' e' v I3 H3 g3 r3 => k y n' e' v I3 H3 ((g.trans g2).trans g3) r3, fun er n' e' => (kE er n' e').grow (g.trans g2)⟩
/-- the def that tells the word: wd, what it tells of an error -/
structure WordOk (K : PySem.W.Frag) (TT : (XK → Hp → VK → Prop) → Hp → VK → Prop) (wd : Er → Option (Tx × Dk K)) : Prop where
  run : ∀ (tl : XK → Hp → VK → Prop) (H : Hp) (Q : VK), (∀ E : XK, (∀ e p I' H', wd e = some p → Same I' H' → (∀ v I2 H2, Grow No I' H' I2 H2 → Rep.is I2 v p → Q v H2) → e.out K E I' H') →
    tl E H fun _ H2 => ∀ t, H2 t = none → Q (.ref t) (upd H2 t (.tup [V.str "", .non]))) → TT tl H Q
def F_word {α : Type} {K : PySem.W.Frag} (wd : Er → Option (Tx × Dk K)) (m : DW (ExR α)) : DW (Tx × Dk K) := fun n M => m 0 fun r _ => match r with
  | .ok _ => M (tx [], dk .non) n
  | .error e => ∃ p, wd e = some p ∧ M p n
theorem d_told [Rep β] {TT : (XK → Hp → VK → Prop) → Hp → VK → Prop} {wd : Er → Option (Tx × Dk K)} {tb : XK → TE} {m : DW (ExR β)} {fr : Tx × Dk K → DW δ} (lf : LFr f Tb D) (W : WordOk K TT wd) (h : Stn f a n I H) (B : EvX K f a tb σ m) (e : bindD (F_word wd m) fr n M)
    (k : ∀ y v n' I1 H1, fr y n' M → Stn f (a.rep v y) n' I1 H1 → Q v H1) : LamX.tLam Tb TT tb σ H Q := by
  refine ⟨(lf.get h.r).tabs, fun H2 x2 t2 => W.run _ _ _ fun E hE => ?_⟩
  have h2 := h.ext lf x2 t2
  refine B n I H2 h2 E _ _ e (fun y n' e' v I' H' g r t ht => ?_) (fun er n' e' => ?_)
  · have s := h2.grow g
    have g1 : Grow No I' H' (upd I' t (.tup [V.str "", .non])) (upd H' t (.tup [V.str "", .non])) := Grow.new s.sub ht
    exact k _ _ _ _ _ e' ((s.grow g1).rep ⟨t, _, _, rfl, upd_same, ⟨rfl, by show 0 ≤ 100000; decide⟩, .non⟩)
  · obtain ⟨p, hp, e'⟩ := e'
    exact hE er p I H2 hp h2.sub fun v I2 H3 g r => k p v n I2 H3 e' ((h2.grow g).rep r)
/-! defs of the law that make lambdas, or call such -/
def spL [RepA α] [Rep β] (Tb : List (Addr × Str)) (F : α → DW β) : Sp := fun vs H Q _ => ∃ (I : Hp) (D : DA) (n : Nat) (x : α) (M : β → Nat → Prop) (vs' : List V), vs = .ref D.d :: vs' ∧ RepA.is I vs' x ∧ LSt Tb D n I H ∧ F x n M ∧
  ∀ y n', M y n' → ∀ v I' H', Grow (TD D) I (noT H) I' H' → LSt Tb D n' I' H' → Rep.is I' v y → Q v H'
/-- .. that get no draws -/
def spL0 [RepA α] [Rep β] (Tb : List (Addr × Str)) (F : α → DW β) : Sp := fun vs H Q _ => ∃ (I : Hp) (D : DA) (n : Nat) (x : α) (M : β → Nat → Prop), RepA.is I vs x ∧ LSt Tb D n I H ∧ F x n M ∧
  ∀ y n', M y n' → ∀ v I' H', Grow (TD D) I (noT H) I' H' → LSt Tb D n' I' H' → Rep.is I' v y → Q v H'
theorem d_callL [RepA α] [Rep β] {F : α → DW β} {fr : β → DW δ} (lf : LFr f Tb D) (hd : IsDr tc σ D) (h : Stn f a n I H) (A : EvA f a tr σ x) (e : bindD (F x) fr n M) (k : ∀ y v n' I1 H1, fr y n' M → Stn f (a.rep v y) n' I1 H1 → Q v H1) : tCall (spL Tb F) [] E0 (tCons tc tr) σ H Q :=
  hd _ _ (A n I H h _ fun vs I1 H1 g r => by
    have h1 := h.grow g
    show spL Tb F (V.ref D.d :: vs ++ []) H1 Q E0
    rw [List.append_nil]
    exact ⟨I1, D, n, x, _, vs, rfl, r, lf.get h1.r, e, fun y n' e' v I2 H2 g2 s r2 => k y v n' I2 H2 e' ((h1.lawed lf g2 s).rep r2)⟩)
theorem d_callL0 [RepA α] [Rep β] {F : α → DW β} {fr : β → DW δ} (lf : LFr f Tb D) (h : Stn f a n I H) (A : EvA f a tr σ x) (e : bindD (F x) fr n M) (k : ∀ y v n' I1 H1, fr y n' M → Stn f (a.rep v y) n' I1 H1 → Q v H1) : tCall (spL0 Tb F) [] E0 tr σ H Q :=
  A n I H h _ fun vs I1 H1 g r => by
    have h1 := h.grow g
    rw [List.append_nil]
    exact ⟨I1, D, n, x, _, r, lf.get h1.r, e, fun y n' e' v I2 H2 g2 s r2 => k y v n' I2 H2 e' ((h1.lawed lf g2 s).rep r2)⟩
end
end Nw

namespace Nw
open PySem PySem.Spec PyProof.Rows L2
/-! ### comprehensions with two clauses, by what holds behind each turn -/
section
variable {J J1 : It} {n n1 : Nat} {G G1 : Hp → Prop} {Y Y1 : Nat → Hp → V → Hp → Prop} {g g1 : TG} {tt tt1 : TT} {tk tv te : TE} {wi1 : TI} {vs vs1 : List Nat} {σ σ2 : L2.St} {H1 H4 : Hp} {D : Addr} {Qd : Hp → Prop}
theorem dc2_it (w : Walk J n G Y) (Pv : Nat → Hp → Prop) (h0 : Pv 0 (upd H1 D (.dK []))) (hG : ∀ i H, i ≤ n → Pv i H → G H)
    (hs : ∀ i x H H', i < n → Pv i H → Y i H x H' → g x (wipe σ vs) H' fun σ2 H2 => wipe σ2 vs = wipe σ vs ∧ tt σ2 H2 fun b H3 =>
      if b = true then wi1 σ2 H3 fun J1 H4 => ∃ W1 : Nat → Nat → Hp → Prop, (∃ m, W1 0 m H4) ∧ ∀ j k H, W1 j k H →
        (J1.stop j H ∧ Pv (i + 1) H) ∨ (J1.go j H ∧ ∃ Nx1 : Hp → Prop, (∀ H', Nx1 H' → ∃ k', k' < k ∧ W1 (j + 1) k' H') ∧ ∀ x H', J1.yld j H x H' → g1 x (wipe σ2 vs1) H' fun σ3 H5 => wipe σ3 vs1 = wipe σ2 vs1 ∧ tt1 σ3 H5 fun b H6 =>
          if b = true then tk σ3 H6 fun y H7 => tv σ3 H7 fun z H8 => ∃ H9, DPut H8 D y z H9 ∧ Nx1 H9 else Nx1 H6)
      else Pv (i + 1) H3) (hd : ∀ H, Pv n H → Qd H) :
    ∃ W : Nat → Nat → Hp → Prop, (∃ m, W 0 m (upd H1 D (.dK []))) ∧ ∀ i m H, W i m H →
      (J.stop i H ∧ Qd H) ∨ (J.go i H ∧ ∃ Nx : Hp → Prop, (∀ H', Nx H' → ∃ m', m' < m ∧ W (i + 1) m' H') ∧ ∀ x H', J.yld i H x H' → g x (wipe σ vs) H' fun σ2 H2 => wipe σ2 vs = wipe σ vs ∧ tt σ2 H2 fun b H3 =>
        if b = true then wi1 σ2 H3 fun J1 H4 => ∃ W1 : Nat → Nat → Hp → Prop, (∃ m, W1 0 m H4) ∧ ∀ j k H, W1 j k H →
          (J1.stop j H ∧ Nx H) ∨ (J1.go j H ∧ ∃ Nx1 : Hp → Prop, (∀ H', Nx1 H' → ∃ k', k' < k ∧ W1 (j + 1) k' H') ∧ ∀ x H', J1.yld j H x H' → g1 x (wipe σ2 vs1) H' fun σ3 H5 => wipe σ3 vs1 = wipe σ2 vs1 ∧ tt1 σ3 H5 fun b H6 =>
            if b = true then tk σ3 H6 fun y H7 => tv σ3 H7 fun z H8 => ∃ H9, DPut H8 D y z H9 ∧ Nx1 H9 else Nx1 H6)
        else Nx H3) := by
  refine ⟨fun i m H => m = n - i ∧ i ≤ n ∧ Pv i H, ⟨n, (Nat.sub_zero n).symm, Nat.zero_le n, h0⟩, ?_⟩
  rintro i m H ⟨em, hi, p⟩
  have q := hG i H hi p
  rcases Nat.lt_or_ge i n with hlt | hge
  · exact .inr ⟨w.goes i H hlt q, Pv (i + 1), fun H' p' => ⟨n - (i + 1), by omega, rfl, hlt, p'⟩, fun x H' y => hs i x H H' hlt p (w.yields i H x H' hlt q y)⟩
  · have e : i = n := by omega
    subst e
    exact .inl ⟨w.stops H q, hd H p⟩
theorem dc2_in (w : Walk J1 n1 G1 Y1) (Pw : Nat → Hp → Prop) (h0 : Pw 0 H4) (hG : ∀ i H, i ≤ n1 → Pw i H → G1 H)
    (hs : ∀ j x H H', j < n1 → Pw j H → Y1 j H x H' → g1 x (wipe σ2 vs1) H' fun σ3 H5 => wipe σ3 vs1 = wipe σ2 vs1 ∧ tt1 σ3 H5 fun b H6 =>
          if b = true then tk σ3 H6 fun y H7 => tv σ3 H7 fun z H8 => ∃ H9, DPut H8 D y z H9 ∧ Pw (j + 1) H9 else Pw (j + 1) H6) (hd : ∀ H, Pw n1 H → Qd H) :
    ∃ W1 : Nat → Nat → Hp → Prop, (∃ m, W1 0 m H4) ∧ ∀ j k H, W1 j k H →
        (J1.stop j H ∧ Qd H) ∨ (J1.go j H ∧ ∃ Nx1 : Hp → Prop, (∀ H', Nx1 H' → ∃ k', k' < k ∧ W1 (j + 1) k' H') ∧ ∀ x H', J1.yld j H x H' → g1 x (wipe σ2 vs1) H' fun σ3 H5 => wipe σ3 vs1 = wipe σ2 vs1 ∧ tt1 σ3 H5 fun b H6 =>
          if b = true then tk σ3 H6 fun y H7 => tv σ3 H7 fun z H8 => ∃ H9, DPut H8 D y z H9 ∧ Nx1 H9 else Nx1 H6) := by
  refine ⟨fun i m H => m = n1 - i ∧ i ≤ n1 ∧ Pw i H, ⟨n1, (Nat.sub_zero n1).symm, Nat.zero_le n1, h0⟩, ?_⟩
  rintro i m H ⟨em, hi, p⟩
  have q := hG i H hi p
  rcases Nat.lt_or_ge i n1 with hlt | hge
  · exact .inr ⟨w.goes i H hlt q, Pw (i + 1), fun H' p' => ⟨n1 - (i + 1), by omega, rfl, hlt, p'⟩, fun x H' y => hs i x H H' hlt p (w.yields i H x H' hlt q y)⟩
  · have e : i = n1 := by omega
    subst e
    exact .inl ⟨w.stops H q, hd H p⟩
theorem lc2_it (w : Walk J n G Y) (Pv : Nat → Hp → Prop) (h0 : Pv 0 (upd H1 D (.lst []))) (hG : ∀ i H, i ≤ n → Pv i H → G H)
    (hs : ∀ i x H H', i < n → Pv i H → Y i H x H' → g x (wipe σ vs) H' fun σ2 H2 => wipe σ2 vs = wipe σ vs ∧ tt σ2 H2 fun b H3 =>
      if b = true then wi1 σ2 H3 fun J1 H4 => ∃ W1 : Nat → Nat → Hp → Prop, (∃ m, W1 0 m H4) ∧ ∀ j k H, W1 j k H →
        (J1.stop j H ∧ Pv (i + 1) H) ∨ (J1.go j H ∧ ∃ Nx1 : Hp → Prop, (∀ H', Nx1 H' → ∃ k', k' < k ∧ W1 (j + 1) k' H') ∧ ∀ x H', J1.yld j H x H' → g1 x (wipe σ2 vs1) H' fun σ3 H5 => wipe σ3 vs1 = wipe σ2 vs1 ∧ tt1 σ3 H5 fun b H6 =>
          if b = true then te σ3 H6 fun y H7 => ∃ acc, H7 D = some (.lst acc) ∧ acc.length < sizeLine ∧ Nx1 (upd H7 D (.lst (acc ++ [y]))) else Nx1 H6)
      else Pv (i + 1) H3) (hd : ∀ H, Pv n H → Qd H) :
    ∃ W : Nat → Nat → Hp → Prop, (∃ m, W 0 m (upd H1 D (.lst []))) ∧ ∀ i m H, W i m H →
      (J.stop i H ∧ Qd H) ∨ (J.go i H ∧ ∃ Nx : Hp → Prop, (∀ H', Nx H' → ∃ m', m' < m ∧ W (i + 1) m' H') ∧ ∀ x H', J.yld i H x H' → g x (wipe σ vs) H' fun σ2 H2 => wipe σ2 vs = wipe σ vs ∧ tt σ2 H2 fun b H3 =>
        if b = true then wi1 σ2 H3 fun J1 H4 => ∃ W1 : Nat → Nat → Hp → Prop, (∃ m, W1 0 m H4) ∧ ∀ j k H, W1 j k H →
          (J1.stop j H ∧ Nx H) ∨ (J1.go j H ∧ ∃ Nx1 : Hp → Prop, (∀ H', Nx1 H' → ∃ k', k' < k ∧ W1 (j + 1) k' H') ∧ ∀ x H', J1.yld j H x H' → g1 x (wipe σ2 vs1) H' fun σ3 H5 => wipe σ3 vs1 = wipe σ2 vs1 ∧ tt1 σ3 H5 fun b H6 =>
            if b = true then te σ3 H6 fun y H7 => ∃ acc, H7 D = some (.lst acc) ∧ acc.length < sizeLine ∧ Nx1 (upd H7 D (.lst (acc ++ [y]))) else Nx1 H6)
        else Nx H3) := by
  refine ⟨fun i m H => m = n - i ∧ i ≤ n ∧ Pv i H, ⟨n, (Nat.sub_zero n).symm, Nat.zero_le n, h0⟩, ?_⟩
  rintro i m H ⟨em, hi, p⟩
  have q := hG i H hi p
  rcases Nat.lt_or_ge i n with hlt | hge
  · exact .inr ⟨w.goes i H hlt q, Pv (i + 1), fun H' p' => ⟨n - (i + 1), by omega, rfl, hlt, p'⟩, fun x H' y => hs i x H H' hlt p (w.yields i H x H' hlt q y)⟩
  · have e : i = n := by omega
    subst e
    exact .inl ⟨w.stops H q, hd H p⟩
theorem lc2_in (w : Walk J1 n1 G1 Y1) (Pw : Nat → Hp → Prop) (h0 : Pw 0 H4) (hG : ∀ i H, i ≤ n1 → Pw i H → G1 H)
    (hs : ∀ j x H H', j < n1 → Pw j H → Y1 j H x H' → g1 x (wipe σ2 vs1) H' fun σ3 H5 => wipe σ3 vs1 = wipe σ2 vs1 ∧ tt1 σ3 H5 fun b H6 =>
          if b = true then te σ3 H6 fun y H7 => ∃ acc, H7 D = some (.lst acc) ∧ acc.length < sizeLine ∧ Pw (j + 1) (upd H7 D (.lst (acc ++ [y]))) else Pw (j + 1) H6) (hd : ∀ H, Pw n1 H → Qd H) :
    ∃ W1 : Nat → Nat → Hp → Prop, (∃ m, W1 0 m H4) ∧ ∀ j k H, W1 j k H →
        (J1.stop j H ∧ Qd H) ∨ (J1.go j H ∧ ∃ Nx1 : Hp → Prop, (∀ H', Nx1 H' → ∃ k', k' < k ∧ W1 (j + 1) k' H') ∧ ∀ x H', J1.yld j H x H' → g1 x (wipe σ2 vs1) H' fun σ3 H5 => wipe σ3 vs1 = wipe σ2 vs1 ∧ tt1 σ3 H5 fun b H6 =>
          if b = true then te σ3 H6 fun y H7 => ∃ acc, H7 D = some (.lst acc) ∧ acc.length < sizeLine ∧ Nx1 (upd H7 D (.lst (acc ++ [y]))) else Nx1 H6) := by
  refine ⟨fun i m H => m = n1 - i ∧ i ≤ n1 ∧ Pw i H, ⟨n1, (Nat.sub_zero n1).symm, Nat.zero_le n1, h0⟩, ?_⟩
  rintro i m H ⟨em, hi, p⟩
  have q := hG i H hi p
  rcases Nat.lt_or_ge i n1 with hlt | hge
  · exact .inr ⟨w.goes i H hlt q, Pw (i + 1), fun H' p' => ⟨n1 - (i + 1), by omega, rfl, hlt, p'⟩, fun x H' y => hs i x H H' hlt p (w.yields i H x H' hlt q y)⟩
  · have e : i = n1 := by omega
    subst e
    exact .inl ⟨w.stops H q, hd H p⟩
end
theorem sl_tupK {X : Cx} {K : PySem.W.Frag} (h : X.K = K) : SlR X (rSlT K) := h ▸ sl_tup
theorem sl_listK {X : Cx} {K : PySem.W.Frag} (h : X.K = K) : SlR X (rSlL K) := h ▸ sl_list
/-! t + u, t empty or not -/
def rCatU (K : PySem.W.Frag) : R2 := fun x y H Q => ∃ a b xs ys, x = .ref a ∧ y = .ref b ∧ SqT K H a xs ∧ SqT K H b ys ∧ xs.length + ys.length ≤ sizeLine ∧
  (xs = [] → Q (.ref b) H) ∧ (xs ≠ [] → ys = [] → Q (.ref a) H) ∧ (xs ≠ [] → ys ≠ [] → ∀ p, H p = none → Q (.ref p) (upd H p (.tup (xs ++ ys))))
section
variable {prog : Program} {w : World} {A : Around} {E : Value → Shared → Prop} {s : Shared}
theorem cat_tup0 {t b : Addr} {ws : List Value} {Q : Value → Shared → Prop} (ht : IsTup s.heap t (([] : List Value).toArray)) (hb : IsTup s.heap b ws.toArray) (h1 : Q (.ref b) s) : wpAny (model prog w) A (binaryOp .Add (.ref t) (.ref b)) Q E s := by
  obtain ⟨⟨cls, dd, data, sl⟩, ho, hc, n, hd⟩ := id ht
  obtain ⟨⟨cls2, dd2, data2, sl2⟩, ho2, hc2, n2, hd2⟩ := id hb
  simp only at hc hd hc2 hd2
  subst hc hd hc2 hd2
  exact concat_meets ⟨_, ho, rfl⟩ ⟨_, ho2, rfl⟩ noFill_tuple_add seq_tuple_add PySem.F.slot_tuple_add PySem.F.entry_tuple_add (PySem.F.args_tuple_add_2 _ _)
      (tuple_addW0 t b _ ws.toArray n n2 dd dd2 sl sl2 (by simp)) ⟨ho, ho2, h1⟩
theorem op_catU {X : Cx} : OpR X (binaryOp .Add) (rCatU X.K) := by
  intro pins s σ H x y v u Q I rx ry h
  obtain ⟨a, b, xs, ys, rfl, rfl, ha, hb, hz, q0, q1, q2⟩ := h
  by_cases hx : xs = []
  · subst hx
    cases rx
    cases ry
    obtain ⟨its, r1, p1, _⟩ := I.tuple ha
    obtain ⟨its2, r2, p2, _⟩ := I.tuple hb
    cases r1
    exact cat_tup0 p1 p2 ⟨.ref b, H, I, rfl, q0 rfl⟩
  · exact op_catT pins s σ H _ _ v u Q I rx ry ⟨a, b, xs, ys, rfl, rfl, ha, hb, hx, hz, q1 hx, q2 hx⟩
end
end Nw

namespace Nw
open PySem PySem.Spec PyProof.Rows L2
/-! ### the script, as a law's own def sees it -/
structure Scr (K : PySem.W.Frag) where
  n : Nat
instance {K : PySem.W.Frag} : Inhabited (Scr K) := ⟨⟨0⟩⟩
instance {K : PySem.W.Frag} : Rep (Scr K) := ⟨fun I v x => ∃ a xs, v = .ref a ∧ SqL K I a xs ∧ xs.length = x.n, fun e ⟨a, xs, h1, h2, h3⟩ => ⟨a, xs, h1, sqL_up h2 e, h3⟩⟩
section
variable {K : PySem.W.Frag} {I H : Hp} {Tb : List (Addr × Str)} {D : DA} {n : Nat} {H' : Hp}
theorem c_lenScr {x : Scr K} : C1 (fun xs H Q => ∃ p ys, xs = [.ref p] ∧ (SqL K H p ys ∨ SqT K H p ys) ∧ Q (.int ys.length) H) rv rv x (x.n : Int) := fun I H v sb h Q k => by
  obtain ⟨p, vs, rfl, hp, hl⟩ := h
  exact ⟨p, vs, rfl, .inl (sqL_up hp sb), k _ I H (Grow.refl sb) (by rw [hl]; rfl)⟩
/-- a lambda is made; what a def of the law then says it did -/
theorem grow_ext (s : LSt Tb D n I H) (x : LamX.ExtN H H') : Grow (TD D) I (noT H) I H' := by
  refine ⟨Same.refl I, ext_sub s.sub s.nt x, fun b o _ e => x b o (noT_some e) (noT_nt e), fun b e z => ?_, fun _ e _ => e, fun _ _ e => e⟩
  cases q : noT H b with
  | none => exact e q
  | some o => rw [x b o (noT_some q) (noT_nt q)] at z; cases z
end
section
variable {f : Fr} {a : Amb} {α β γ δ : Type} {σ : L2.St} {te ta tb tc : TE} {K : PySem.W.Frag} {y : β}
/-- {'a': y}, as any value -/
theorem ep_dic1 [Rep β] {k : Str} (h : EvP f a rv te σ y) : EvP f a rv (tDisp [(tC (.str k), te)]) σ (dk (K := K) .dic) := fun n I H s Q kk p hp => by
  have g0 : Grow No I H I (upd H p (.dK [])) := Grow.mine s.sub hp
  have o0 : Own No H p (.dK []) I (upd H p (.dK [])) := Own.new s.sub (.inl (Same.refl _)) (fun _ z => z.elim) hp
  refine h n I _ (s.grow g0) _ fun v I1 H1 g1 r1 => ?_
  have o1 := o0.grow g1
  refine ⟨o1.at_, [(.inr k, v)], rfl, by show 1 ≤ 15; decide, ?_⟩
  have g2 := ((g0.trans g1).put (o' := .dK (mergeK [] [(.inr k, v)])) o1).give (o1.put (o' := .dK (mergeK [] [(.inr k, v)])))
  exact kk _ _ _ g2 (.dic upd_same)
end
section
variable {σ : L2.St} {H : Hp} {En : Ends} {ta tb : TE}
theorem ho_retAnd (h : ta σ H fun v H1 => ∃ c, v = .bl c ∧ if c = true then tRet tb En σ H1 else tRet (tC (.bl false)) En σ H1) : tRet (tAndV ta tb) En σ H := h
theorem ho_retOr (h : ta σ H fun v H1 => ∃ c, v = .bl c ∧ if c = true then tRet (tC (.bl true)) En σ H1 else tRet tb En σ H1) : tRet (tOrV ta tb) En σ H := h
end
end Nw

namespace Nw
open PySem PySem.Spec PyProof.Rows L2
/-! ### what a walk by the calculus asks of the draws: within c draws, P of what comes -/
def Wp {α : Type} (F : DW α) (c : Nat) (P : α → Prop) : Prop := ∀ (n : Nat) (M : α → Nat → Prop), n + c < lim → (∀ x n', P x → n ≤ n' → n' ≤ n + c → M x n') → F n M
section
variable {α β γ S : Type} {F : DW α} {G : α → DW β} {c c1 c2 : Nat} {P P1 : α → Prop} {P2 : β → Prop}
theorem wp_pure {x : α} (h : P x) : Wp (pureD x) c P := fun n M _ k => k x n h (Nat.le_refl _) (by omega)
theorem wp_mono (h : Wp F c1 P1) (hc : c1 ≤ c) (hp : ∀ x, P1 x → P x) : Wp F c P := fun n M hl k => h n M (by omega) fun x n' p l1 l2 => k x n' (hp x p) l1 (by omega)
theorem wp_le (h : Wp F c1 P) (hc : c1 ≤ c) : Wp F c P := wp_mono h hc fun _ p => p
theorem wp_bind (h1 : Wp F c1 P) (h2 : ∀ x, P x → Wp (G x) c2 P2) : Wp (bindD F G) (c1 + c2) P2 := fun n M hl k => h1 n _ (by omega) fun x n1 p l1 l2 => h2 x p n1 M (by omega) fun y n2 q m1 m2 => k y n2 q (by omega) (by omega)
theorem wp_bind' (h1 : Wp F c1 P) (hc : c1 ≤ c) (h2 : ∀ x, P x → Wp (G x) (c - c1) P2) : Wp (bindD F G) c P2 := wp_le (wp_bind h1 h2) (by omega)
theorem wp_need {p : Prop} (hp : p) (h : Wp F c P) : Wp (needD p F) c P := fun n M hl k => ⟨hp, h n M hl k⟩
theorem wp_if {b : Bool} {A B : DW α} (h1 : b = true → Wp A c P) (h2 : b = false → Wp B c P) : Wp (if b = true then A else B) c P := by
  cases b with
  | true => rw [if_pos rfl]; exact h1 rfl
  | false => rw [if_neg Bool.false_ne_true]; exact h2 rfl
theorem wp_next {i : Int} (h1 : 0 < i) (h2 : i < 1073741824) : Wp (F_next i) 1 fun r => 0 ≤ r ∧ r < i := fun n M hl k => ⟨⟨h1, h2, by omega⟩, fun r r0 r1 => k r _ ⟨r0, r1⟩ (by omega) (Nat.le_refl _)⟩
theorem wp_pick {xs : List α} (h1 : xs ≠ []) (h2 : xs.length ≤ 1000000) : Wp (F_pick xs) 1 fun x => x ∈ xs := fun n M hl k => ⟨⟨h1, h2, by omega⟩, fun x hx => k x _ hx (by omega) (Nat.le_refl _)⟩
theorem wp_shuffled {xs : List α} (h : xs.length ≤ 1000) : Wp (F_shuffled xs) xs.length fun ys => ys.Perm xs := fun n M hl k => ⟨⟨by omega, h⟩, fun ys p => k ys _ p (by omega) (Nat.le_refl _)⟩
theorem wp_some {i : Int} (h1 : 1 ≤ i) (h2 : i ≤ 1000) : Wp (F_some i) 5 fun t => t.l.Nodup ∧ (∀ c ∈ t.l, 97 ≤ c ∧ c ≤ 100) ∧ t.l ≠ [] ∧ (t.l.length : Int) ≤ i := fun n M hl k => ⟨⟨h1, h2, by omega⟩, fun l a1 a2 a3 a4 => k ⟨l⟩ _ ⟨a1, a2, a3, a4⟩ (by omega) (Nat.le_refl _)⟩
theorem wp_join {S : Type} {body : (S → DW α) → DW α} {rest : S → DW α} (Q : S → Prop) (h1 : ∀ nx : S → DW α, (∀ p, Q p → Wp (nx p) c P) → Wp (body nx) c P) (h2 : ∀ p, Q p → Wp (rest p) c P) : Wp (joinP body rest) c P := h1 rest h2
/-- a loop: what holds ahead of each turn -/
theorem wp_loop (Inv : Nat → S → Prop) {cr : Nat} {body : α → S → (S → DW β) → (S → DW β) → DW β} {rest : S → DW β} : ∀ (xs : List α) (k : Nat) (s : S),
    (∀ s', Inv (k + xs.length) s' → Wp (rest s') cr P2) →
    (∀ i x s next brk cn, xs[i]? = some x → Inv (k + i) s → cr ≤ cn → (∀ s', Inv (k + i + 1) s' → Wp (next s') cn P2) → (∀ s', Inv (k + xs.length) s' → Wp (brk s') cr P2) → Wp (body x s next brk) (c + cn) P2) →
    Inv k s → Wp (loopP xs body rest s) (xs.length * c + cr) P2
  | [], k, s, hr, _, h0 => by
    rw [List.length_nil, Nat.zero_mul, Nat.zero_add]
    exact hr s h0
  | x :: xs, k, s, hr, hb, h0 => by
    show Wp (body x s (loopP xs body rest) rest) _ _
    rw [List.length_cons, show (xs.length + 1) * c + cr = c + (xs.length * c + cr) by rw [Nat.add_mul, Nat.one_mul]; omega]
    refine hb 0 x s _ _ _ rfl h0 (Nat.le_add_left ..) (fun s' h' => ?_) hr
    refine wp_loop Inv xs (k + 1) s' (fun s2 h2 => hr s2 (by rw [List.length_cons, show k + (xs.length + 1) = k + 1 + xs.length by omega]; exact h2)) (fun i x s next brk cn hx hi hcn hn hbk => ?_) h'
    refine hb (i + 1) x s next brk cn hx (by rw [show k + (i + 1) = k + 1 + i by omega]; exact hi) hcn (fun s2 h2 => hn s2 (by rw [show k + 1 + i + 1 = k + (i + 1) + 1 by omega]; exact h2)) fun s2 h2 => hbk s2 (by rw [show k + 1 + xs.length = k + (x :: xs).length by rw [List.length_cons]; omega]; exact h2)
/-- a comprehension that draws -/
theorem wp_comp {m : α → DW (Option β)} {Q : β → Prop} : ∀ (xs : List α), (∀ x ∈ xs, Wp (m x) c fun o => ∀ y, o = some y → Q y) → Wp (compD xs m) (xs.length * c) fun ys => ys.length ≤ xs.length ∧ ∀ y ∈ ys, Q y
  | [], _ => wp_pure ⟨Nat.le_refl _, fun _ z => nomatch z⟩
  | x :: xs, h => by
    rw [List.length_cons, show (xs.length + 1) * c = c + xs.length * c by rw [Nat.add_mul, Nat.one_mul]; omega]
    refine wp_bind (h x (List.mem_cons_self ..)) fun o ho => ?_
    refine wp_mono (c1 := xs.length * c + 0) (P1 := fun ys => ys.length ≤ (x :: xs).length ∧ ∀ y ∈ ys, Q y) (wp_bind (wp_comp xs fun y hy => h y (List.mem_cons_of_mem _ hy)) fun ys hys => wp_pure ?_) (Nat.le_refl _) fun _ p => p
    cases o with
    | none => exact ⟨by show ([] ++ ys).length ≤ _; rw [List.nil_append, List.length_cons]; omega, hys.2⟩
    | some y =>
      refine ⟨by show ([y] ++ ys).length ≤ _; rw [List.length_append, List.length_singleton, List.length_cons]; omega, fun z hz => ?_⟩
      rcases List.mem_cons.mp (show z ∈ y :: ys from hz) with rfl | hz
      · exact ho _ rfl
      · exact hys.2 z hz
theorem wp_run {F : DW Bool} {c : Nat} (h : Wp F c fun b => b = true) (hc : c < lim) : F 0 (fun b _ => b = true) := h 0 _ (by omega) fun x _ p _ _ => p
theorem rng_mem {i x : Int} (h : x ∈ rng 0 i) : 0 ≤ x ∧ x < i := by
  unfold rng at h
  obtain ⟨j, hj, rfl⟩ := List.mem_map.mp h
  have := List.mem_range.mp hj
  omega
theorem cutL_le {xs : List α} {lo hi : Option Int} : (cutL xs lo hi).length ≤ xs.length := by
  unfold cutL
  rw [List.length_take, List.length_drop]
  omega
theorem cutL_mem {xs : List α} {lo hi : Option Int} {x : α} (h : x ∈ cutL xs lo hi) : x ∈ xs := List.mem_of_mem_drop (List.mem_of_mem_take h)
end
end Nw

namespace Nw
open PySem PySem.Spec PyProof.Rows L2
/-! ### values as data: ==, != and repr in the calculus -/
class RepD (K : PySem.W.Frag) (α : Type) [Rep α] where
  py : α → PyData
  fit : α → Bool
  dp : ∀ {I H : Hp} {v : V} {x : α}, Rep.is I v x → Same I H → fit x = true → Dp K H v (py x)
section
variable {K : PySem.W.Frag}
instance : RepD K Unit := ⟨fun _ => .none, fun _ => true, fun h _ _ => by rw [show _ = V.non from h]; exact .non⟩
instance : RepD K Bool := ⟨fun b => .bool b, fun _ => true, fun h _ _ => by rw [show _ = V.bl _ from h]; exact .bl _⟩
instance : RepD K Int := ⟨fun i => .int i, fun _ => true, fun h _ _ => by rw [show _ = V.int _ from h]; exact .int _⟩
instance : RepD K Tx := ⟨fun x => .str (mk x.l), fun _ => true, fun h _ _ => by rw [show _ = V.str _ from h.1]; exact .str _⟩
instance : RepD K Sg := ⟨fun x => .str (mk [x.c]), fun _ => true, fun h _ _ => by rw [show _ = V.str (sg _) from h]; exact .str _⟩
instance : RepD K (Dk K) := ⟨fun x => x.d.py, fun x => x.d.plain, fun h s p => dp_isE s _ _ h p⟩
variable {α β γ : Type} [Rep α] [Rep β] [Rep γ] [RepD K α] [RepD K β] [RepD K γ]
instance : RepD K (Option α) := ⟨fun x => match x with | none => .none | some y => RepD.py K y, fun x => match x with | none => true | some y => RepD.fit K y, fun {I H v x} h s p => by
  cases x with
  | none => rw [show v = V.non from h]; exact .non
  | some y => exact RepD.dp h.2 s p⟩
instance : RepD K (α × β) := ⟨fun x => .tuple [RepD.py K x.1, RepD.py K x.2], fun x => RepD.fit K x.1 && RepD.fit K x.2, fun {I H v x} h s p => by
  obtain ⟨a, v1, v2, rfl, ha, h1, h2⟩ := h
  rw [Bool.and_eq_true] at p
  exact .tup (SqT.of (s _ _ ha)) (.cons (RepD.dp h1 s p.1) (.cons (RepD.dp h2 s p.2) .nil))⟩
instance : RepD K (T3 α β γ) := ⟨fun x => .tuple [RepD.py K x.a, RepD.py K x.b, RepD.py K x.c], fun x => RepD.fit K x.a && (RepD.fit K x.b && RepD.fit K x.c), fun {I H v x} h s p => by
  obtain ⟨a, v1, v2, v3, rfl, ha, h1, h2, h3⟩ := h
  rw [Bool.and_eq_true, Bool.and_eq_true] at p
  exact .tup (SqT.of (s _ _ ha)) (.cons (RepD.dp h1 s p.1) (.cons (RepD.dp h2 s p.2.1) (.cons (RepD.dp h3 s p.2.2) .nil)))⟩
theorem dp_all {I H : Hp} (s : Same I H) : ∀ {vs : List V} {xs : List α}, Paired (Rep.is I) vs xs → xs.all (RepD.fit K) = true → DpAll K H vs (xs.map (RepD.py K))
  | _, _, .nil, _ => .nil
  | _, _, .cons h t, p => by
    rw [List.all_cons, Bool.and_eq_true] at p
    exact .cons (RepD.dp h s p.1) (dp_all s t p.2)
instance : RepD K (List α) := ⟨fun xs => .list (xs.map (RepD.py K)), fun xs => xs.all (RepD.fit K), fun {I H v x} h s p => by
  obtain ⟨a, vs, rfl, ha, hv⟩ := h
  exact .lst (SqL.of (s _ _ ha)) (dp_all s hv p)⟩
instance : RepD K (Tup α) := ⟨fun xs => .tuple (xs.l.map (RepD.py K)), fun xs => xs.l.all (RepD.fit K), fun {I H v x} h s p => by
  obtain ⟨a, vs, rfl, ha, hv⟩ := h
  exact .tup (SqT.of (s _ _ ha)) (dp_all s hv p)⟩
/-- it may be compared -/
def fitE (K : PySem.W.Frag) {α : Type} [Rep α] [RepD K α] (x : α) : Bool := RepD.fit K x && SeqAt.shaped (RepD.py K x)
/-- it may be shown -/
def fitR (K : PySem.W.Frag) {α : Type} [Rep α] [RepD K α] (x : α) : Bool := RepD.fit K x && ((RepD.py K x).canLay0 && ((RepD.py K x).showable && (decide ((RepD.py K x).depth ≤ 64) && decide (rm (RepD.py K x) ≤ 100000))))
def eqP (K : PySem.W.Frag) {α β : Type} [Rep α] [RepD K α] [Rep β] [RepD K β] (x : α) (y : β) : Bool := PyData.eqv (RepD.py K x) (RepD.py K y)
def reprT (K : PySem.W.Frag) {α : Type} [Rep α] [RepD K α] (x : α) : Tx := ⟨(RepD.py K x).shown.cps.toList⟩
section
variable {x : α} {y : β} {xs : List α} {ys : List β} {T : Addr → Prop}
theorem os_eqP (h1 : fitE K x = true) (h2 : fitE K y = true) : OpS (rEqD K) rv rv rv x y (eqP K x y) := fun I H v w sb r1 r2 Q k => by
  rw [fitE, Bool.and_eq_true] at h1 h2
  exact ⟨_, _, RepD.dp r1 sb h1.1, RepD.dp r2 sb h2.1, h1.2, h2.2, k _ I H (Grow.refl sb) rfl⟩
theorem os_neP (h1 : fitE K x = true) (h2 : fitE K y = true) : OpS (rNeD K) rv rv rv x y (!eqP K x y) := fun I H v w sb r1 r2 Q k => by
  rw [fitE, Bool.and_eq_true] at h1 h2
  exact ⟨_, _, RepD.dp r1 sb h1.1, RepD.dp r2 sb h2.1, h1.2, h2.2, k _ I H (Grow.refl sb) rfl⟩
theorem dp_rl {I H : Hp} {v : V} (r : rl T I H v xs) (sb : Same I H) (p : RepD.fit K xs = true) : Dp K H v (RepD.py K xs) := by
  obtain ⟨a, vs, rfl, ha, _, hv⟩ := r
  exact .lst (SqL.of ha) (dp_all sb hv p)
theorem os_eqPL (h1 : fitE K xs = true) (h2 : fitE K ys = true) : OpS (rEqD K) (rl T) (rl T) rv xs ys (eqP K xs ys) := fun I H v w sb r1 r2 Q k => by
  rw [fitE, Bool.and_eq_true] at h1 h2
  exact ⟨_, _, dp_rl r1 sb h1.1, dp_rl r2 sb h2.1, h1.2, h2.2, k _ I H (Grow.refl sb) rfl⟩
theorem os_nePL (h1 : fitE K xs = true) (h2 : fitE K ys = true) : OpS (rNeD K) (rl T) (rl T) rv xs ys (!eqP K xs ys) := fun I H v w sb r1 r2 Q k => by
  rw [fitE, Bool.and_eq_true] at h1 h2
  exact ⟨_, _, dp_rl r1 sb h1.1, dp_rl r2 sb h2.1, h1.2, h2.2, k _ I H (Grow.refl sb) rfl⟩
abbrev rRepr (K : PySem.W.Frag) : List V → Hp → VK → Prop := fun xs H Q => ∃ v d, xs = [v] ∧ Dp K H v d ∧ d.showable = true ∧ d.hasDict = false ∧ d.depth ≤ 64 ∧ d.shown.length ≤ sizeLine ∧ Q (.str d.shown) H
theorem repr_rep {I : Hp} {d : PyData} (hl : d.canLay0 = true) (hs : d.showable = true) (hr : rm d ≤ 100000) : Rep.is I (.str d.shown) (⟨d.shown.cps.toList⟩ : Tx) := by
  have z := shown_le d hl hs
  refine ⟨?_, ?_⟩
  · congr 1
  · show d.shown.cps.toList.length ≤ 100000
    have e : d.shown.cps.toList.length = d.shown.length := by rw [Array.length_toList]; rfl
    omega
theorem c_repr (h : fitR K x = true) : C1 (rRepr K) rv rv x (reprT K x) := fun I H v sb r Q k => by
  simp only [fitR, Bool.and_eq_true, decide_eq_true_eq] at h
  obtain ⟨h1, h2, h3, h4, h5⟩ := h
  have z := shown_le _ h2 h3
  exact ⟨v, _, rfl, RepD.dp r sb h1, h3, PyData.hasDict_of_canLay _ h2, h4, by rw [sizeLine_eq]; omega, k _ I H (Grow.refl sb) (repr_rep h2 h3 h5)⟩
theorem c_reprL (h : fitR K xs = true) : C1 (rRepr K) (rl T) rv xs (reprT K xs) := fun I H v sb r Q k => by
  simp only [fitR, Bool.and_eq_true, decide_eq_true_eq] at h
  obtain ⟨h1, h2, h3, h4, h5⟩ := h
  have z := shown_le _ h2 h3
  exact ⟨v, _, rfl, dp_rl r sb h1, h3, PyData.hasDict_of_canLay _ h2, h4, by rw [sizeLine_eq]; omega, k _ I H (Grow.refl sb) (repr_rep h2 h3 h5)⟩
end
end
end Nw

namespace HT
open PySem PySem.Spec PyProof.Rows L2
variable {prog : Program} {w : World} {A : Around} {E : Value → Shared → Prop} {s : Shared}
theorem getItem_tuple_rev2 {t sl : Addr} {v0 v1 : Value} {tk : Tok} {Q : Value → Shared → Prop} (ht : IsTup s.heap t #[v0, v1]) (hs : s.heap.IsSliceOf sl .none .none (.int (-1) tk))
    (h : Q (.ref s.heap.objs.size) { s with heap := s.heap.push { cls := .type "tuple", data := .seq #[v1, v0] } }) : wpAny (model prog w) A (getItem (.ref t) (.ref sl)) Q E s := by
  have htake : sizeOk (.seq #[v1, v0]) := by
    show 2 ≤ sizeLine
    decide
  obtain ⟨os, hos, hcs, hds⟩ := id hs
  have hTs : s.TypeIs (.ref sl) "slice" := ⟨os, hos, hcs⟩
  unfold getItem
  try with_reducible refine wpAny_holding ?_
  first | refine wpAny_bind (wpAny_pure ?_) | skip
  refine wpAny_bind (wpAny_sequenceKey ht.typeIs (by decide) ?_)
  refine wpAny_bind (wpAny_callSpecial?_slot (name := Str.ofString "__getitem__") ht.typeIs PyProof.Rows.slot_tuple_getitem
    (wpAny_call_entry PyProof.Rows.slot_tuple_getitem ht.typeIs entry_tuple_getitem ?_ (args_tuple_getitem _ _)))
  show wpAny _ _ (Builtin.Tuple.tupleItemsOf (.ref t) >>= _) _ _ s
  refine wpAny_bind (tupleItemsOf_ ht ?_)
  refine wpAny_bind (wpAny_typeOf hTs ?_)
  rw [if_pos (by decide)]
  unfold Builtin.Slice.sliceApplied Builtin.Slice.sliceFields
  refine wpAny_bind (wpAny_bind (wpAny_bind (wpAny_field hos hds (x := .none) rfl (wpAny_bind (wpAny_field hos hds (x := .none) rfl (wpAny_bind (wpAny_field hos hds (x := .int (-1) tk) rfl (wpAny_pure ?_))))))))
  refine wpAny_bind (slicePart_int ?_)
  show wpAny _ _ (if ((-1 : Int) == 0) = true then _ else _) _ _ s
  rw [if_neg (by decide)]
  refine wpAny_bind (slicePart_none (wpAny_bind (slicePart_none (wpAny_bind (wpAny_pure ?_)))))
  show wpAny _ _ (match Builtin.Slice.sliceAdjust none none (-1) (2 : Int) with | (lo, hi) => pure (lo, (-1 : Int), Builtin.Slice.slicePlaces lo hi (-1))) _ _ s
  have e1 : Builtin.Slice.sliceAdjust none none (-1) (2 : Int) = ((1 : Int), (-1 : Int)) := by decide +kernel
  rw [e1]
  show wpAny _ _ (pure ((1 : Int), (-1 : Int), Builtin.Slice.slicePlaces 1 (-1) (-1))) _ _ s
  have e2 : Builtin.Slice.slicePlaces 1 (-1) (-1) = 2 := by decide +kernel
  rw [e2]
  refine wpAny_pure ?_
  show wpAny _ _ (if ((1 : Int) == 0 && (-1 : Int) == 1 && (2 : Nat) == 2) = true then _ else _) _ _ s
  rw [if_neg (by decide)]
  have e3 : ((List.range 2).filterMap fun (k : Nat) => (#[v0, v1] : Array Value)[((1 : Int) + (k : Int) * (-1)).toNat]?).toArray = #[v1, v0] := by
    have r2 : List.range 2 = [0, 1] := rfl
    rw [r2]
    have a0 : ((1 : Int) + ((0 : Nat) : Int) * (-1)).toNat = 1 := by decide
    have a1 : ((1 : Int) + ((1 : Nat) : Int) * (-1)).toNat = 0 := by decide
    rw [List.filterMap_cons, List.filterMap_cons, List.filterMap_nil, a0, a1]
    rfl
  rw [e3]
  first
    | exact wpAny_bind (m := Builtin.Tuple.tupleExact _) (wpAny_newObj_type (wpAny_pure ⟨_, rfl, wpAny_pure h⟩) htake)
    | exact wpAny_bind (m := Builtin.Tuple.tupleExact _) (wpAny_newObj_type (wpAny_bind (wpAny_pure (wpAny_pure ⟨_, rfl, wpAny_pure h⟩))) htake)
    | exact wpAny_bind (wpAny_bind (m := Builtin.Tuple.tupleExact _) (wpAny_newObj_type (wpAny_pure (wpAny_pure ⟨_, rfl, wpAny_pure h⟩)) htake))
    | exact wpAny_bind (wpAny_bind (m := Builtin.Tuple.tupleExact _) (wpAny_newObj_type (wpAny_pure ⟨_, rfl, wpAny_pure h⟩) htake))
end HT
namespace Nw
open PySem PySem.Spec PyProof.Rows L2
/-! ### (x, y)[::-1] -/
def tRevT (K : PySem.W.Frag) (te : TE) : TE := fun σ H Q => te σ H fun x H1 => ∃ a u w, x = .ref a ∧ SqT K H1 a [u, w] ∧ ∀ p, H1 p = none → Q (.ref p) (upd H1 p (.tup [w, u]))
theorem pe_revT {X : Cx} {e : Expr} {te : TE} {k : Nat} {p1 p2 p3 pos : Pos} (he : PE X e te) : PE X (.Subscript e (.Slice none none (some (.UnaryOp .USub (.Constant (.int 1) k p1) p2)) p3) pos) (tRevT X.K te) := by
  refine ⟨fun pins s σ H Q I h => Subscript_ (wpAny_mono (he.run pins s σ H _ I h) (fun v s1 hv => ?_) fun _ _ z => z)⟩
  obtain ⟨x, H1, I1, r1, a, u, w, ex, hz, q⟩ := hv
  subst ex
  cases r1
  have hst : PO X (some (.UnaryOp .USub (.Constant (.int 1) k p1) p2)) (tPart (tUn (rU fun i => .int (-i)) (tC (.int 1)))) := po_some (pe_un un_neg pe_int)
  refine wpAny_Slice (wpAny_mono (po_none.run pins s1 σ H1 (fun o H2 => o = none ∧ H2 = H1) I1 ⟨rfl, rfl⟩) (fun vl s2 h2 => ?_) fun _ _ z => z)
  obtain ⟨lo, H2, I2, pl, el, e2⟩ := h2
  subst el e2
  refine wpAny_mono (po_none.run pins s2 σ H2 (fun o H3 => o = none ∧ H3 = H2) I2 ⟨rfl, rfl⟩) (fun vu s3 h3 => ?_) fun _ _ z => z
  obtain ⟨hi, H3, I3, pu, eu, e3⟩ := h3
  subst eu e3
  refine wpAny_mono (hst.run pins s3 σ H3 (fun o H4 => o = some (-1) ∧ H4 = H3) I3 ⟨1, rfl, -1, rfl, rfl, rfl⟩) (fun vs s4 h4 => ?_) fun _ _ z => z
  obtain ⟨o, H4, I4, ps, eo, e4⟩ := h4
  subst eo e4
  cases pl
  cases pu
  cases ps with
  | int i tk =>
  have I5 : Inv X pins σ H4 { s4 with heap := s4.heap.push { cls := .type "slice", data := .fields #[.none, .none, .int (-1) tk] } } := I4.kept (t' := s4.toks) fun b ob q => Heap.get?_push_of_some _ q
  obtain ⟨its, r, ht, _⟩ := I5.tuple hz
  cases r with
  | cons r0 r' =>
  cases r' with
  | cons r1 r'' =>
  cases r''
  refine tail_any (ops := [.ref a, .ref s4.heap.objs.size]) ht.typeIs PyProof.Rows.slot_tuple_getitem.lookup ?_ (by with_unfolding_all rfl)
  refine HT.getItem_tuple_rev2 ht (Heap.IsSliceOf.new ..) ?_
  refine ⟨.ref _, _, I5.laid (t' := s4.toks) (o := .tup [w, u]) (fun b ob q => Heap.get?_push_of_some _ q) (Nat.le_refl _) ?_, rfl, q _ (I5.hok.fresh (Nat.le_refl _))⟩
  exact ⟨by show 2 ≤ sizeLine; decide, _, .cons r1 (.cons r0 .nil), IsTup.new _ _⟩
section
variable {f : Fr} {a : Amb} {α β γ : Type} {σ : L2.St} {te ta tb tc : TE} {K : PySem.W.Frag}
theorem ep_revT [Rep α] [Rep β] {x : α × β} (h : EvP f a rv te σ x) : EvP f a rv (tRevT K te) σ (x.2, x.1) := fun n I H s Q k => h n I H s _ fun v I1 H1 g r => by
  obtain ⟨p, v1, v2, rfl, hp, h1, h2⟩ := r
  refine ⟨p, v1, v2, rfl, SqT.of ((s.grow g).sub _ _ hp), fun q hq => ?_⟩
  have g2 : Grow No I1 H1 (upd I1 q (.tup [v2, v1])) (upd H1 q (.tup [v2, v1])) := Grow.new (s.grow g).sub hq
  exact k _ _ _ (g.trans g2) ⟨q, v2, v1, rfl, upd_same, Rep.mono g2.view h2, Rep.mono g2.view h1⟩
end
end Nw

namespace Nw
open PySem PySem.Spec PyProof.Rows L2
/-! ### dicts that stand for good: they are frozen -/
/-- what may be a key -/
class KeyT (κ : Type) extends Rep κ where
  k : κ → Key
  ok : κ → Prop
  of : ∀ {I : Hp} {v : V} {x : κ}, Rep.is I v x → v = kV (k x) ∧ ok x
  bk : ∀ {I : Hp} {x : κ}, ok x → Rep.is I (kV (k x)) x
  inj : ∀ {x y : κ}, k x = k y → x = y
instance : KeyT Tx := ⟨fun x => .inr (mk x.l), fun x => x.l.length ≤ 100000, fun {_ v x} (h : v = V.str (mk x.l) ∧ _) => h, fun h => ⟨rfl, h⟩, fun h => Tx.ext (mk_inj (Sum.inr.inj h))⟩
instance : KeyT Sg := ⟨fun x => .inr (sg x.c), fun _ => True, fun {_ v x} (h : v = V.str (sg x.c)) => ⟨h, trivial⟩, fun _ => rfl, fun {x y} h => Sg.ext (List.cons.inj (mk_inj (a := [x.c]) (b := [y.c]) (Sum.inr.inj h))).1⟩
instance : KeyT Int := ⟨fun x => .inl x, fun _ => True, fun {_ v x} (h : v = V.int x) => ⟨h, trivial⟩, fun _ => rfl, fun h => Sum.inl.inj h⟩
structure Dc (κ α : Type) where
  l : List (κ × α)
instance {κ α : Type} : Inhabited (Dc κ α) := ⟨⟨[]⟩⟩
def kvR {κ α : Type} [KeyT κ] [Rep α] (I : Hp) (kv : Key × V) (q : κ × α) : Prop := kv.1 = KeyT.k q.1 ∧ KeyT.ok q.1 ∧ Rep.is I kv.2 q.2
theorem kvR.up {κ α : Type} [KeyT κ] [Rep α] {I I' : Hp} {kv : Key × V} {q : κ × α} (e : Same I I') (h : kvR I kv q) : kvR I' kv q := ⟨h.1, h.2.1, Rep.mono e h.2.2⟩
instance {κ α : Type} [KeyT κ] [Rep α] : Rep (Dc κ α) := ⟨fun I v x => ∃ p od kvs, v = .ref p ∧ I p = some (.frz od (.dK kvs)) ∧ Paired (kvR I) kvs x.l, fun e ⟨p, od, kvs, h1, h2, h3⟩ => ⟨p, od, kvs, h1, e _ _ h2, Paired.mono' (fun _ _ z => z.up e) h3⟩⟩
/-- what stands at a key -/
def Dc.get? {κ κ' α : Type} [KeyT κ] [KeyT κ'] (x : Dc κ α) (k : κ') : Option α := (x.l.find? fun q => decide (KeyT.k q.1 = KeyT.k k)).map (·.2)
/-- in its place, or at the end -/
def putL {κ α : Type} [KeyT κ] (l : List (κ × α)) (k : κ) (v : α) : List (κ × α) := if (l.any fun q => decide (KeyT.k q.1 = KeyT.k k)) = true then l.map (fun q => if KeyT.k q.1 = KeyT.k k then (q.1, v) else q) else l ++ [(k, v)]
def Dc.put {κ α : Type} [KeyT κ] (x : Dc κ α) (k : κ) (v : α) : Dc κ α := ⟨putL x.l k v⟩
def Dc.ofL {κ α : Type} [KeyT κ] (xs : List (κ × α)) : Dc κ α := ⟨xs.foldl (fun l q => putL l q.1 q.2) []⟩
def Dc.keys {κ α : Type} (x : Dc κ α) : List κ := x.l.map (·.1)
def Dc.vals {κ α : Type} (x : Dc κ α) : List α := x.l.map (·.2)
theorem putL_len {κ α : Type} [KeyT κ] (l : List (κ × α)) (k : κ) (v : α) : (putL l k v).length ≤ l.length + 1 := by
  unfold putL
  split
  · rw [List.length_map]; omega
  · rw [List.length_append]; exact Nat.le_refl _
section
variable {f : Fr} {a : Amb} {κ κ' α β γ δ : Type} [KeyT κ] [KeyT κ'] {σ : L2.St} {te ta tb tc td ty tk tv : TE} {tt : TT} {K : PySem.W.Frag} {I H : Hp} {wi : TI} {g : TG} {tr : TA}
theorem kv_any [Rep α] {I : Hp} {k : Key} : ∀ {kvs : List (Key × V)} {l : List (κ × α)}, Paired (kvR I) kvs l → (kvs.any fun q => decide (q.1 = k)) = (l.any fun q => decide (KeyT.k q.1 = k))
  | _, _, .nil => rfl
  | _, _, .cons h t => by rw [List.any_cons, List.any_cons, kv_any t, h.1]
theorem kv_put [Rep α] {I : Hp} {kvs : List (Key × V)} {l : List (κ × α)} {k : κ} {v : V} {y : α} (h : Paired (kvR I) kvs l) (ok : KeyT.ok k) (r : Rep.is I v y) : Paired (kvR I) (putK kvs (KeyT.k k) v) (putL l k y) := by
  unfold putK putL
  rw [kv_any h]
  split
  · induction h with
    | nil => exact .nil
    | cons h t ih =>
      rename_i kv q _ _ hany
      rw [List.map_cons, List.map_cons]
      have tl : ∀ {kvs : List (Key × V)} {l : List (κ × α)}, Paired (kvR I) kvs l → Paired (kvR I) (kvs.map fun kv => if kv.1 = KeyT.k k then (kv.1, v) else kv) (l.map fun q => if KeyT.k q.1 = KeyT.k k then (q.1, y) else q) := by
        intro kvs l z
        induction z with
        | nil => exact .nil
        | cons h t ih =>
          rw [List.map_cons, List.map_cons]
          refine .cons ?_ ih
          rw [h.1]
          split
          · exact ⟨rfl, h.2.1, r⟩
          · exact h
      refine .cons ?_ (tl t)
      rw [h.1]
      split
      · exact ⟨rfl, h.2.1, r⟩
      · exact h
  · exact Paired.snoc h ⟨rfl, ok, r⟩
theorem kv_get [Rep α] {I : Hp} {k : Key} : ∀ {kvs : List (Key × V)} {l : List (κ × α)}, Paired (kvR I) kvs l → (valV kvs k = none ∧ (l.find? fun q => decide (KeyT.k q.1 = k)) = none) ∨ ∃ v q, valV kvs k = some v ∧ (l.find? fun q => decide (KeyT.k q.1 = k)) = some q ∧ Rep.is I v q.2
  | _, _, .nil => .inl ⟨rfl, rfl⟩
  | _, _, .cons (a := kv) (b := q) h t => by
    by_cases e : KeyT.k q.1 = k
    · refine .inr ⟨kv.2, q, valV_pos (h.1.trans e), ?_, h.2.2⟩
      rw [List.find?_cons, decide_eq_true e]
    · rw [valV_neg (by rw [h.1]; exact e), List.find?_cons, decide_eq_false e]
      exact kv_get t
theorem get_of [Rep α] {I : Hp} {k : κ'} {kvs : List (Key × V)} {x : Dc κ α} (h : Paired (kvR I) kvs x.l) : match x.get? k with | none => valV kvs (KeyT.k k) = none | some y => ∃ u, valV kvs (KeyT.k k) = some u ∧ Rep.is I u y := by
  rcases kv_get (k := KeyT.k k) h with ⟨h1, h2⟩ | ⟨u, q, h1, h2, h3⟩
  · rw [show x.get? k = none by unfold Dc.get?; rw [h2] <;> rfl]
    exact h1
  · rw [show x.get? k = some q.2 by unfold Dc.get?; rw [h2] <;> rfl]
    exact ⟨u, h1, h3⟩
theorem dget_of [Rep α] {x : Dc κ α} {k : κ'} {v : V} (h : Rep.is I v x) (sb : Same I H) : ∃ p o, v = .ref p ∧ DGet H p (kV (KeyT.k k)) o ∧ (match x.get? k with | none => o = none | some y => ∃ u, o = some u ∧ Rep.is I u y) := by
  obtain ⟨p, od, kvs, rfl, hp, hv⟩ := h
  exact ⟨p, _, rfl, .inl ⟨kvs, _, .inr ⟨od, sb _ _ hp⟩, rfl, rfl⟩, get_of hv⟩
theorem ep_dget [Rep α] [Inhabited α] {x : Dc κ α} {k : κ'} (c : (x.get? k).isSome = true) (h : EvP f a rv td σ x) (hk : EvP f a rv ty σ k) : EvP f a rv (tDGet td ty) σ ((x.get? k).getD default) := fun n I H s Q kk =>
  h n I H s _ fun v I1 H1 g1 r1 => hk n I1 H1 (s.grow g1) _ fun w I2 H2 g2 r2 => by
    obtain ⟨rfl, _⟩ := KeyT.of r2
    obtain ⟨p, o, rfl, hg, ho⟩ := dget_of (k := k) (Rep.mono g2.view r1) (s.grow (g1.trans g2)).sub
    cases e : x.get? k with
    | none => rw [e] at c; cases c
    | some y =>
      rw [e] at ho
      obtain ⟨u, rfl, hu⟩ := ho
      exact ⟨p, u, rfl, hg, kk u I2 H2 (g1.trans g2) (show Rep.is I2 u ((x.get? k).getD default) by rw [e]; exact hu)⟩
theorem ep_din [Rep α] {x : Dc κ α} {k : κ'} (hk : EvP f a rv ty σ k) (h : EvP f a rv td σ x) : EvP f a rv (tDIn ty td) σ (x.get? k).isSome := fun n I H s Q kk =>
  hk n I H s _ fun w I1 H1 g1 r1 => h n I1 H1 (s.grow g1) _ fun v I2 H2 g2 r2 => by
    obtain ⟨rfl, _⟩ := KeyT.of r1
    obtain ⟨p, o, rfl, hg, ho⟩ := dget_of (k := k) r2 (s.grow (g1.trans g2)).sub
    refine ⟨p, o, rfl, hg, kk _ I2 H2 (g1.trans g2) ?_⟩
    cases e : x.get? k with
    | none => rw [e] at ho; rw [show o = none from ho]; exact rfl
    | some y => rw [e] at ho; obtain ⟨u, rfl, _⟩ := ho; exact rfl
theorem ep_dnin [Rep α] {x : Dc κ α} {k : κ'} (hk : EvP f a rv ty σ k) (h : EvP f a rv td σ x) : EvP f a rv (tDNotIn ty td) σ (!(x.get? k).isSome) := fun n I H s Q kk =>
  hk n I H s _ fun w I1 H1 g1 r1 => h n I1 H1 (s.grow g1) _ fun v I2 H2 g2 r2 => by
    obtain ⟨rfl, _⟩ := KeyT.of r1
    obtain ⟨p, o, rfl, hg, ho⟩ := dget_of (k := k) r2 (s.grow (g1.trans g2)).sub
    refine ⟨p, o, rfl, hg, kk _ I2 H2 (g1.trans g2) ?_⟩
    cases e : x.get? k with
    | none => rw [e] at ho; rw [show o = none from ho]; exact rfl
    | some y => rw [e] at ho; obtain ⟨u, rfl, _⟩ := ho; exact rfl
/-! len -/
theorem c_lenD [Rep α] {x : Dc κ α} : C1 (fun xs H Q => ∃ p kvs, xs = [.ref p] ∧ L2.Rd H p (.dK kvs) ∧ Q (.int kvs.length) H) rv rv x (x.l.length : Int) := fun I H v sb h Q k => by
  obtain ⟨p, od, kvs, rfl, hp, hv⟩ := h
  exact ⟨p, kvs, rfl, .inr ⟨od, sb _ _ hp⟩, k _ I H (Grow.refl sb) (by rw [Nw.Paired.len hv]; rfl)⟩
/-! ### a dict that was made is frozen -/
def tFrz (te : TE) : TE := fun σ H Q => te σ H fun x H1 => ∃ d kvs, x = .ref d ∧ H1 d = some (.dK kvs) ∧ ∀ od, Q (.ref d) (upd H1 d (.frz od (.dK kvs)))
theorem pe_frz {X : Cx} {e : Expr} {te : TE} (he : PE X e te) : PE X e (tFrz te) := by
  refine ⟨fun pins s σ H Q I h => ?_⟩
  refine thn (he.run pins s σ H _ I h) fun u s1 ⟨x, H1, I0, rx, d, kvs, ex, h0, q⟩ => ?_
  subst ex
  obtain ⟨od, I1⟩ := I0.lock h0 True.intro
  exact ⟨_, _, I1, rx, q od⟩
/-- a new dict -/
def EvK [Rep α] (f : Fr) (a : Amb) (te : TE) (σ : L2.St) (x : Dc κ α) : Prop := ∀ n I H, Stn f a n I H → ∀ Q : VK, (∀ p kvs I' H', Grow No I H I' H' → H p = none → I' p = none → H' p = some (.dK kvs) → Paired (kvR I') kvs x.l → Q (.ref p) H') → te σ H Q
theorem EvK.cast [Rep α] {x y : Dc κ α} (h : EvK f a te σ x) (e : x = y) : EvK f a te σ y := e ▸ h
theorem Grow.put1 {I H I' H' : Hp} {p : Addr} {o o' : HO} (g : Grow No I H I' H') (h1 : H p = none) (h2 : I' p = none) : Grow No I H I' (upd H' p o') :=
  ⟨g.view, fun b u e => by rw [upd_ne (ne_of_none e h2)]; exact g.sub b u e, fun b u n e => by rw [upd_ne (ne_of_none e h1)]; exact g.keep b u n e, fun b e => upd_live (g.live b e), g.fresh, g.tbl⟩
theorem Grow.give1 {I H I' H' : Hp} {p : Addr} {o : HO} (g : Grow No I H I' H') (h1 : H p = none) (h2 : I' p = none) (h3 : H' p = some o) (nt : NTb o := by intro _ z; cases z) : Grow No I H (upd I' p o) H' :=
  g.give' (H0 := H) h1 h2 h3 nt
theorem ep_frz [Rep α] {x : Dc κ α} (h : EvK f a te σ x) : EvP f a rv (tFrz te) σ x := fun n I H s Q k => h n I H s _ fun p kvs I' H' g h1 h2 h3 hv => by
  refine ⟨p, kvs, rfl, h3, fun od => ?_⟩
  have g1 : Grow No I H I' (upd H' p (.frz od (.dK kvs))) := g.put1 (o := .dK kvs) h1 h2
  have g2 := g1.give1 h1 h2 upd_same
  refine k _ _ _ g2 ⟨p, od, kvs, rfl, upd_same, Paired.mono' (fun _ _ z => z.up (Same.up h2)) hv⟩
/-! ### dict(list of pairs) -/
theorem merge_of [Rep α] {I : Hp} : ∀ {kvs : List (Key × V)} {xs : List (κ × α)} {acc : List (Key × V)} {l : List (κ × α)}, Paired (kvR I) kvs xs → Paired (kvR I) acc l → Paired (kvR I) (mergeK acc kvs) (xs.foldl (fun l q => putL l q.1 q.2) l)
  | _, _, _, _, .nil, h => h
  | kv :: kvs, q :: xs, acc, l, .cons h t, h0 => by
    show Paired (kvR I) (mergeK (putK acc kv.1 kv.2) kvs) (xs.foldl (fun l q => putL l q.1 q.2) (putL l q.1 q.2))
    rw [h.1]
    exact merge_of t (kv_put h0 h.2.1 h.2.2)
theorem pairsK [Rep α] {I H : Hp} (sb : Same I H) : ∀ {vs : List V} {xs : List (κ × α)}, Paired (Rep.is I) vs xs → ∃ (ps : List Addr) (kvs : List (Key × V)), vs = ps.map V.ref ∧ Paired (fun p kv => SqT K H p [kV kv.1, kv.2]) ps kvs ∧ Paired (kvR I) kvs xs
  | _, _, .nil => ⟨[], [], rfl, .nil, .nil⟩
  | _, _, .cons h t => by
    obtain ⟨ps, kvs, e, h1, h2⟩ := pairsK sb t
    obtain ⟨p, v1, v2, rfl, hp, r1, r2⟩ := h
    obtain ⟨rfl, ok⟩ := KeyT.of r1
    subst e
    exact ⟨p :: ps, (_, v2) :: kvs, rfl, .cons (SqT.of (sb _ _ hp)) h1, .cons ⟨rfl, ok, r2⟩ h2⟩
theorem ek_dictP [Rep α] {xs : List (κ × α)} (h : EvP f a (rl f.T) te σ xs) : EvK f a (tCB (fun xs H Q => ∃ (a : Addr) (ps : List Addr) (kvs : List (Key × V)), xs = [.ref a] ∧ SqL K H a (ps.map V.ref) ∧ Paired (fun p kv => SqT K H p [kV kv.1, kv.2]) ps kvs ∧ ∀ p, H p = none → Q (.ref p) (upd H p (.dK (mergeK [] kvs)))) (tCons te tNil)) σ (Dc.ofL xs) := fun n I H s Q k => h n I H s _ fun v I1 H1 g r => by
  obtain ⟨q, vs, rfl, hq, _, hv⟩ := r
  obtain ⟨ps, kvs, rfl, h1, h2⟩ := pairsK (K := K) (s.grow g).sub hv
  exact ⟨q, ps, kvs, rfl, SqL.of hq, h1, fun p hp => k p _ I1 _ (g.trans (Grow.mine (s.grow g).sub hp)) (none_back g hp) ((s.grow g).sub.free hp) upd_same (merge_of h2 .nil)⟩
/-! ### what is walked -/
theorem ei_keys [Rep α] {x : Dc κ α} (h : EvP f a rv te σ x) : EvI f a (iKeys te) σ x.keys := fun n I H s R k => h n I H s _ fun v I' H' g r => by
  obtain ⟨p, od, kvs, rfl, hp, hv⟩ := r
  have hl : kvs.length = x.keys.length := by rw [Nw.Paired.len hv]; exact (List.length_map ..).symm
  refine ⟨p, od, rfl, .inl ⟨kvs, (s.grow g).sub _ _ hp, k _ I' H' (fun H => H p = some (.frz od (.dK kvs))) (fun i H x H' => H' = H ∧ ∃ k v, kvs[i]? = some (k, v) ∧ x = kV k) g (hl ▸ walk_keys) (fun H2 e => e _ _ hp) fun i I2 H2 v H3 hi e s2 y => ?_⟩⟩
  obtain ⟨rfl, k0, u, hx, rfl⟩ := y
  obtain ⟨q, h1, h2⟩ := Nw.Paired.at' hv hx
  have h2 : kvR I' (k0, u) q := h2
  have e0 : k0 = KeyT.k q.1 := h2.1
  refine ⟨q.1, I2, by unfold Dc.keys; rw [List.getElem?_map, h1]; rfl, Grow.refl s2, ?_⟩
  rw [e0]
  exact KeyT.bk h2.2.1
theorem ei_vals [Rep α] {x : Dc κ α} (h : EvP f a rv te σ x) : EvI f a (iVals te) σ x.vals := fun n I H s R k => h n I H s _ fun v I' H' g r => by
  obtain ⟨p, od, kvs, rfl, hp, hv⟩ := r
  have hl : kvs.length = x.vals.length := by rw [Nw.Paired.len hv]; exact (List.length_map ..).symm
  refine ⟨p, od, kvs, rfl, (s.grow g).sub _ _ hp, k _ I' H' (fun H => H p = some (.frz od (.dK kvs))) (fun i H x H' => H' = H ∧ ∃ k, kvs[i]? = some (k, x)) g (hl ▸ walk_values) (fun H2 e => e _ _ hp) fun i I2 H2 v H3 hi e s2 y => ?_⟩
  obtain ⟨rfl, k0, hx⟩ := y
  obtain ⟨q, h1, h2⟩ := Nw.Paired.at' hv hx
  exact ⟨q.2, I2, by unfold Dc.vals; rw [List.getElem?_map, h1]; rfl, Grow.refl s2, Rep.mono e h2.2.2⟩
theorem ei_items [Rep α] {x : Dc κ α} (h : EvP f a rv te σ x) : EvI f a (iItems te) σ x.l := fun n I H s R k => h n I H s _ fun v I' H' g r => by
  obtain ⟨p, od, kvs, rfl, hp, hv⟩ := r
  have hl : kvs.length = x.l.length := Nw.Paired.len hv
  refine ⟨p, od, kvs, rfl, (s.grow g).sub _ _ hp, k _ I' H' (fun H => H p = some (.frz od (.dK kvs))) (YPair (fun i => kvs[i]?.map fun kv => kV kv.1) (fun i => kvs[i]?.map Prod.snd)) g (hl ▸ walk_items) (fun H2 e => e _ _ hp) fun i I2 H2 v H3 hi e s2 y => ?_⟩
  obtain ⟨T, k0, u, rfl, hT, rfl, h3, h4⟩ := y
  obtain ⟨kv, hkv⟩ : ∃ kv, kvs[i]? = some kv := ⟨_, List.getElem?_eq_getElem (by omega)⟩
  simp only [hkv, Option.map_some] at h3 h4
  cases h3
  cases h4
  obtain ⟨q, h1, h2⟩ := Nw.Paired.at' hv hkv
  have h2 := h2.up e
  have gT : Grow No I2 H2 (upd I2 T (.tup [kV kv.1, kv.2])) (upd H2 T (.tup [kV kv.1, kv.2])) := Grow.new s2 hT
  refine ⟨q, _, h1, gT, T, _, _, rfl, upd_same, ?_, Rep.mono gT.view h2.2.2⟩
  rw [h2.1]
  exact KeyT.bk h2.2.1
/-! ### dict comprehensions -/
def dcF (b : γ → Bool) (ek : γ → κ) (ev : γ → α) (xs : List γ) : Dc κ α := ⟨xs.foldl (fun l x => if b x = true then putL l (ek x) (ev x) else l) []⟩
theorem dcF_len (b : γ → Bool) (ek : γ → κ) (ev : γ → α) : ∀ (xs : List γ) (l : List (κ × α)), (xs.foldl (fun l x => if b x = true then putL l (ek x) (ev x) else l) l).length ≤ l.length + xs.length
  | [], _ => Nat.le_refl _
  | x :: xs, l => by
    rw [List.foldl_cons, List.length_cons]
    have h1 := dcF_len b ek ev xs (if b x = true then putL l (ek x) (ev x) else l)
    have h2 := putL_len l (ek x) (ev x)
    split at h1 <;> first | omega | (split <;> omega) | (rw [if_pos (by assumption)]; omega) | (rw [if_neg (by assumption)]; omega)
theorem ek_dc [Rep γ] [Rep α] {xs : List γ} {vs : List Nat} {b : γ → Bool} {ek : γ → κ} {ev : γ → α} {Z : γ → L2.St → Amb → Prop} (hi : EvI f a wi σ xs) (hl : xs.length ≤ 16777216) (hg : ∀ x ∈ xs, Bd f a g (wipe σ vs) x (Z x))
    (hz : ∀ x ∈ xs, ∀ σ' a', Z x σ' a' → wipe σ' vs = wipe σ vs ∧ EvB f a' tt σ' (b x) ∧ (b x = true → EvP f a' rv tk σ' (ek x)) ∧ (b x = true → EvP f a' rv tv σ' (ev x))) : EvK f a (tDc wi g tt tk tv vs) σ (dcF b ek ev xs) := fun n I H s Q k =>
  hi n I H s _ fun J I1 H1 G Y g1 wk hG hY D hD => by
    have s1 := s.grow g1
    refine dc_it wk (fun i H' => i ≤ xs.length ∧ ∃ I' kvs, Grow No I1 H1 I' H' ∧ Own No H1 D (.dK kvs) I' H' ∧ Paired (kvR I') kvs ((xs.take i).foldl (fun l x => if b x = true then putL l (ek x) (ev x) else l) [])) ⟨Nat.zero_le _, I1, [], Grow.mine s1.sub hD, Own.new s1.sub (.inl (Same.refl _)) (fun _ z => z.elim) hD, .nil⟩ (fun i H' _ ⟨_, I', _, g2, _, _⟩ => hG _ (g2.view.trans g2.sub)) ?_ ?_
    · rintro i v H' H'' hi' ⟨_, I', kvs, g2, ow, hv⟩ y
      obtain ⟨x, I3, hx, g3, hr⟩ := hY i I' H' v H'' hi' g2.view g2.sub y
      have hm := List.mem_of_getElem? hx
      have s3 := s1.grow (g2.trans g3)
      have ow3 := ow.grow g3
      have hlen : kvs.length ≤ i := by
        rw [Nw.Paired.len hv]
        have := dcF_len b ek ev (xs.take i) []
        rw [List.length_nil, List.length_take] at this
        omega
      refine hg x hm n I3 H'' v s3 hr _ fun σ' a' hZ s4 => ?_
      obtain ⟨e1, e2, e3, e4⟩ := hz x hm σ' a' hZ
      refine ⟨e1, e2 n I3 H'' s4 _ fun I5 H5 g5 => ?_⟩
      by_cases hb : b x = true
      · rw [if_pos hb]
        refine e3 hb n I5 H5 (s4.grow g5) _ fun u I6 H6 g6 r6 => e4 hb n I6 H6 (s4.grow (g5.trans g6)) _ fun w I7 H7 g7 r7 => ?_
        obtain ⟨rfl, ok⟩ := KeyT.of r6
        have ow7 := ow3.grow ((g5.trans g6).trans g7)
        have gg := (((g2.trans g3).trans g5).trans g6).trans g7
        refine ⟨kvs, _, rfl, ow7.at_, by rw [sizeLine_eq]; omega, hi', I7, _, gg.put ow7, ow7.put, ?_⟩
        rw [take_fold hx, if_pos hb]
        exact kv_put (Paired.mono' (fun _ _ z => z.up ((((g3.trans g5).trans g6).trans g7).view)) hv) ok r7
      · rw [if_neg hb]
        refine ⟨hi', I5, kvs, (g2.trans g3).trans g5, ow3.grow g5, ?_⟩
        rw [take_fold hx, if_neg hb]
        exact Paired.mono' (fun _ _ z => z.up (g3.trans g5).view) hv
    · rintro H' ⟨_, I', kvs, g2, ow, hv⟩
      rw [List.take_of_length_le (Nat.le_refl _)] at hv
      exact k D kvs I' H' (g1.trans g2) (none_back g1 hD) ow.ni ow.at_ hv
end
end Nw

namespace Nw
open PySem PySem.Spec PyProof.Rows L2
/-! ### == of values that are told apart by what they hold -/
instance {α : Type} [DecidableEq α] : DecidableEq (Tup α) := fun x y => decidable_of_iff (x.l = y.l) ⟨fun h => by cases x; cases y; cases h; rfl, fun h => by rw [h]⟩
instance {α : Type} : Inhabited (Tup α) := ⟨⟨[]⟩⟩
class EqD (K : PySem.W.Frag) (α : Type) [Rep α] [RepD K α] where
  fits : ∀ x : α, RepD.fit K x = true
  sh : α → Bool
  lay : ∀ x : α, sh x = true → (RepD.py K x).canLay0 = true
  dep : Nat
  deep : ∀ x : α, (RepD.py K x).depth ≤ dep
  eq : ∀ x y : α, PyData.eqv (RepD.py K x) (RepD.py K y) = true ↔ x = y
def shT (l : List Nat) : Bool := l.all fun c => decide (c < 1114112)
theorem shT_lay {l : List Nat} (h : shT l = true) : PyData.strOk (mk l) = true := by
  unfold PyData.strOk
  rw [Array.all_eq_true']
  intro c hc
  have hc : c ∈ l := by
    have z := Array.mem_toList_iff.mpr hc
    rwa [mk_cps] at z
  exact List.all_eq_true.mp h c hc
section
variable {K : PySem.W.Frag}
instance : EqD K Unit := ⟨fun _ => rfl, fun _ => true, fun _ _ => rfl, 0, fun _ => Nat.le_refl _, fun _ _ => ⟨fun _ => rfl, fun _ => rfl⟩⟩
instance : EqD K Bool := ⟨fun _ => rfl, fun _ => true, fun _ _ => rfl, 0, fun _ => Nat.le_refl _, fun x y => by
  show PyData.eqv (.bool x) (.bool y) = true ↔ _
  unfold PyData.eqv
  exact beq_iff_eq⟩
instance : EqD K Int := ⟨fun _ => rfl, fun _ => true, fun _ _ => rfl, 0, fun _ => Nat.le_refl _, fun x y => by
  show PyData.eqv (.int x) (.int y) = true ↔ _
  unfold PyData.eqv
  exact beq_iff_eq⟩
instance : EqD K Tx := ⟨fun _ => rfl, fun x => shT x.l, fun x h => shT_lay h, 0, fun _ => Nat.le_refl _, fun x y => by
  show PyData.eqv (.str (mk x.l)) (.str (mk y.l)) = true ↔ _
  unfold PyData.eqv
  rw [beq_iff_eq]
  exact ⟨fun h => Tx.ext (mk_inj h), fun h => by rw [h]⟩⟩
instance : EqD K Sg := ⟨fun _ => rfl, fun x => shT [x.c], fun x h => shT_lay h, 0, fun _ => Nat.le_refl _, fun x y => by
  show PyData.eqv (.str (mk [x.c])) (.str (mk [y.c])) = true ↔ _
  unfold PyData.eqv
  rw [beq_iff_eq]
  exact ⟨fun h => Sg.ext (List.cons.inj (mk_inj h)).1, fun h => by rw [h]⟩⟩
end
/-- no value of this kind is None -/
class NoNon (K : PySem.W.Frag) (α : Type) [Rep α] [RepD K α] where
  nn : ∀ x : α, PyData.eqv .none (RepD.py K x) = false ∧ PyData.eqv (RepD.py K x) .none = false
section
variable {K : PySem.W.Frag} {α β γ : Type} [Rep α] [Rep β] [Rep γ] [RepD K α] [RepD K β] [RepD K γ]
instance : NoNon K Int := ⟨fun _ => ⟨rfl, rfl⟩⟩
instance : NoNon K Bool := ⟨fun _ => ⟨rfl, rfl⟩⟩
instance : NoNon K Tx := ⟨fun _ => ⟨rfl, rfl⟩⟩
instance : NoNon K Sg := ⟨fun _ => ⟨rfl, rfl⟩⟩
instance : NoNon K (α × β) := ⟨fun _ => ⟨rfl, rfl⟩⟩
instance : NoNon K (T3 α β γ) := ⟨fun _ => ⟨rfl, rfl⟩⟩
instance : NoNon K (List α) := ⟨fun _ => ⟨rfl, rfl⟩⟩
instance : NoNon K (Tup α) := ⟨fun _ => ⟨rfl, rfl⟩⟩
instance [EqD K α] [NoNon K α] : EqD K (Option α) := ⟨fun x => by cases x with | none => rfl | some y => exact EqD.fits (K := K) y, fun x => match x with | none => true | some y => EqD.sh K y, fun x h => by cases x with | none => rfl | some y => exact EqD.lay (K := K) y h, EqD.dep K α, fun x => by cases x with | none => exact Nat.zero_le _ | some y => exact EqD.deep (K := K) y, fun x y => by
  cases x with
  | none => cases y with
    | none => exact ⟨fun _ => rfl, fun _ => rfl⟩
    | some y => exact ⟨fun h => absurd ((NoNon.nn (K := K) y).1.symm.trans h) (by decide), (fun h => nomatch h)⟩
  | some x => cases y with
    | none => exact ⟨fun h => absurd ((NoNon.nn (K := K) x).2.symm.trans h) (by decide), (fun h => nomatch h)⟩
    | some y => exact (EqD.eq (K := K) x y).trans ⟨fun h => by rw [h], fun h => Option.some.inj h⟩⟩
theorem depth_tup (ds : List PyData) : (PyData.tuple ds).depth = PyData.depthAll ds + 1 := by rw [PyData.depth]
theorem depth_lst (ds : List PyData) : (PyData.list ds).depth = PyData.depthAll ds + 1 := by rw [PyData.depth]
instance [EqD K α] [EqD K β] : EqD K (α × β) := ⟨fun x => by show (RepD.fit K x.1 && RepD.fit K x.2) = true; rw [EqD.fits, EqD.fits]; rfl, fun x => EqD.sh K x.1 && EqD.sh K x.2, fun x h => by
  rw [Bool.and_eq_true] at h
  show PyData.canLayAll0 [_, _] = true
  simp only [PyData.canLayAll0, Bool.and_true, Bool.and_eq_true]
  exact ⟨EqD.lay _ h.1, EqD.lay _ h.2⟩, max (EqD.dep K α) (EqD.dep K β) + 1, fun x => by
  show (PyData.tuple [RepD.py K x.1, RepD.py K x.2]).depth ≤ _
  rw [depth_tup]
  simp only [PyData.depthAll]
  have := EqD.deep (K := K) x.1
  have := EqD.deep (K := K) x.2
  omega, fun x y => by
  show PyData.eqv (.tuple [_, _]) (.tuple [_, _]) = true ↔ _
  unfold PyData.eqv
  simp only [PyData.eqvAll, Bool.and_true, Bool.and_eq_true]
  rw [EqD.eq, EqD.eq]
  exact ⟨fun h => Prod.ext h.1 h.2, fun h => by rw [h]; exact ⟨rfl, rfl⟩⟩⟩
instance [EqD K α] [EqD K β] [EqD K γ] : EqD K (T3 α β γ) := ⟨fun x => by show (RepD.fit K x.a && (RepD.fit K x.b && RepD.fit K x.c)) = true; rw [EqD.fits, EqD.fits, EqD.fits]; rfl, fun x => EqD.sh K x.a && (EqD.sh K x.b && EqD.sh K x.c), fun x h => by
  rw [Bool.and_eq_true, Bool.and_eq_true] at h
  show PyData.canLayAll0 [_, _, _] = true
  simp only [PyData.canLayAll0, Bool.and_true, Bool.and_eq_true]
  exact ⟨EqD.lay _ h.1, EqD.lay _ h.2.1, EqD.lay _ h.2.2⟩, max (EqD.dep K α) (max (EqD.dep K β) (EqD.dep K γ)) + 1, fun x => by
  show (PyData.tuple [RepD.py K x.a, RepD.py K x.b, RepD.py K x.c]).depth ≤ _
  rw [depth_tup]
  simp only [PyData.depthAll]
  have := EqD.deep (K := K) x.a
  have := EqD.deep (K := K) x.b
  have := EqD.deep (K := K) x.c
  omega, fun x y => by
  show PyData.eqv (.tuple [_, _, _]) (.tuple [_, _, _]) = true ↔ _
  unfold PyData.eqv
  simp only [PyData.eqvAll, Bool.and_true, Bool.and_eq_true]
  rw [EqD.eq, EqD.eq, EqD.eq]
  refine ⟨fun h => ?_, fun h => by rw [h]; exact ⟨rfl, rfl, rfl⟩⟩
  cases x
  cases y
  obtain ⟨h1, h2, h3⟩ := h
  cases h1
  cases h2
  cases h3
  rfl⟩
theorem eqvAll_map [EqD K α] : ∀ (xs ys : List α), PyData.eqvAll (xs.map (RepD.py K)) (ys.map (RepD.py K)) = true ↔ xs = ys
  | [], [] => ⟨fun _ => rfl, fun _ => rfl⟩
  | [], _ :: _ => ⟨fun h => by simp [PyData.eqvAll] at h, (fun h => nomatch h)⟩
  | _ :: _, [] => ⟨fun h => by simp [PyData.eqvAll] at h, (fun h => nomatch h)⟩
  | x :: xs, y :: ys => by
    simp only [List.map_cons, PyData.eqvAll, Bool.and_eq_true]
    rw [EqD.eq, eqvAll_map xs ys]
    exact ⟨fun h => by rw [h.1, h.2], fun h => List.cons.inj h⟩
theorem layAll_map [EqD K α] : ∀ (xs : List α), xs.all (EqD.sh K) = true → PyData.canLayAll0 (xs.map (RepD.py K)) = true
  | [], _ => rfl
  | x :: xs, h => by
    rw [List.all_cons, Bool.and_eq_true] at h
    simp only [List.map_cons, PyData.canLayAll0, Bool.and_eq_true]
    exact ⟨EqD.lay _ h.1, layAll_map xs h.2⟩
theorem depAll_map [EqD K α] : ∀ (xs : List α), PyData.depthAll (xs.map (RepD.py K)) ≤ EqD.dep K α
  | [] => by simp [PyData.depthAll]
  | x :: xs => by
    simp only [List.map_cons, PyData.depthAll]
    have := EqD.deep (K := K) x
    have := depAll_map xs
    omega
instance [EqD K α] : EqD K (List α) := ⟨fun xs => List.all_eq_true.mpr fun x _ => EqD.fits x, fun xs => xs.all (EqD.sh K), fun xs h => layAll_map xs h, EqD.dep K α + 1, fun xs => by
  show (PyData.list (xs.map (RepD.py K))).depth ≤ _
  rw [depth_lst]
  have := depAll_map (K := K) xs
  omega, fun xs ys => by
  show PyData.eqv (.list _) (.list _) = true ↔ _
  unfold PyData.eqv
  exact eqvAll_map xs ys⟩
instance [EqD K α] : EqD K (Tup α) := ⟨fun xs => List.all_eq_true.mpr fun x _ => EqD.fits x, fun xs => xs.l.all (EqD.sh K), fun xs h => layAll_map xs.l h, EqD.dep K α + 1, fun xs => by
  show (PyData.tuple (xs.l.map (RepD.py K))).depth ≤ _
  rw [depth_tup]
  have := depAll_map (K := K) xs.l
  omega, fun xs ys => by
  show PyData.eqv (.tuple _) (.tuple _) = true ↔ _
  unfold PyData.eqv
  rw [eqvAll_map]
  exact ⟨fun h => by cases xs; cases ys; cases h; rfl, fun h => by rw [h]⟩⟩
section
variable [EqD K α] [DecidableEq α] {x y : α} {T : Addr → Prop}
theorem fitE_of {x : α} (h : EqD.sh K x = true) (d : EqD.dep K α ≤ 64) : fitE K x = true := by
  unfold fitE SeqAt.shaped
  rw [EqD.fits, EqD.lay _ h, decide_eq_true (Nat.le_trans (EqD.deep x) d)]
  rfl
theorem eqP_of (x y : α) : eqP K x y = decide (x = y) := by
  unfold eqP
  by_cases h : x = y
  · rw [decide_eq_true h]; exact (EqD.eq x y).mpr h
  · rw [decide_eq_false h]
    cases e : PyData.eqv (RepD.py K x) (RepD.py K y) with
    | false => rfl
    | true => exact absurd ((EqD.eq x y).mp e) h
theorem os_eqE (h1 : EqD.sh K x = true) (h2 : EqD.sh K y = true) (d : EqD.dep K α ≤ 64) : OpS (rEqD K) rv rv rv x y (decide (x = y)) := eqP_of (K := K) x y ▸ os_eqP (fitE_of h1 d) (fitE_of h2 d)
theorem os_neE (h1 : EqD.sh K x = true) (h2 : EqD.sh K y = true) (d : EqD.dep K α ≤ 64) : OpS (rNeD K) rv rv rv x y (!decide (x = y)) := eqP_of (K := K) x y ▸ os_neP (fitE_of h1 d) (fitE_of h2 d)
theorem os_eqEL {xs ys : List α} (h1 : EqD.sh K xs = true) (h2 : EqD.sh K ys = true) (d : EqD.dep K (List α) ≤ 64) : OpS (rEqD K) (rl T) (rl T) rv xs ys (decide (xs = ys)) := eqP_of (K := K) xs ys ▸ os_eqPL (fitE_of h1 d) (fitE_of h2 d)
theorem os_neEL {xs ys : List α} (h1 : EqD.sh K xs = true) (h2 : EqD.sh K ys = true) (d : EqD.dep K (List α) ≤ 64) : OpS (rNeD K) (rl T) (rl T) rv xs ys (!decide (xs = ys)) := eqP_of (K := K) xs ys ▸ os_nePL (fitE_of h1 d) (fitE_of h2 d)
end
end
/-! ### len of a frozen dict -/
theorem call_lenDR {X : Cx} : CallR X (.builtin "len") (fun xs H Q => ∃ a kvs, xs = [V.ref a] ∧ L2.Rd H a (.dK kvs) ∧ Q (.int kvs.length) H) := by
  intro pins s σ H xs us Q I r h
  obtain ⟨a, kvs, rfl, ha, q⟩ := h
  obtain ⟨u, rfl, ru⟩ := vals1 r
  cases ru
  exact d_len I ha fun t s' I' => ⟨.int kvs.length, H, I', ⟨t, rfl⟩, q⟩
end Nw

namespace Nw
open PySem PySem.Spec PyProof.Rows L2
/-! ### a name that may have no value yet -/
def LateR {α : Type} [Rep α] (I : Hp) (u : Option V) (x : Option α) : Prop := match x with
  | none => True
  | some y => ∃ v, u = some v ∧ Rep.is I v y
/-- how many turns a while may take: a number that is not looked into -/
noncomputable def fuel : Nat := Classical.choose (⟨1000000, rfl⟩ : ∃ n : Nat, n = 1000000)
theorem fuel_eq : fuel = 1000000 := Classical.choose_spec (⟨1000000, rfl⟩ : ∃ n : Nat, n = 1000000)
section
variable {f : Fr} {a : Amb} {α : Type} {σ : L2.St}
theorem ep_late [Rep α] [Inhabited α] {i : Nat} {u : Option V} {x : Option α} (h : σ[i]? = some u) (r : ∀ I, a.Γ I → LateR I u x) (c : x.isSome = true) : EvP f a rv (tVar i) σ (x.getD default) := fun n I H s Q k => by
  cases x with
  | none => cases c
  | some y =>
    obtain ⟨v, rfl, hr⟩ := r I s.γ
    exact ⟨v, h, k v I H (Grow.refl s.sub) hr⟩
theorem drop_done {En : Ends} {v : V} {H : Hp} (h : En.nx σ H) : tDrop (tC v) En σ H := h
theorem drop_dones {us2 : TS} {En : Ends} {v : V} {H : Hp} (h : us2 En σ H) : tSeq (tDrop (tC v)) us2 En σ H := h
theorem new_own {f : Fr} {a : Amb} {α : Type} [Rep α] {n : Nat} {I H : Hp} {Q : VK} (h : Stn f a n I H) (k : ∀ p H1, Stn f (a.own (lcell p ([] : List α))) n I H1 → Q (.ref p) H1) : tLst tNil σ H Q := ⟨Nat.zero_le _, fun p hp => k p _ (h.new (c := lcell p []) hp ⟨[], rfl, .nil⟩)⟩
theorem ctup2 {f : Fr} {a : Amb} {n : Nat} {I H : Hp} {K : PySem.W.Frag} {En : Ends} {v w : V} {i j : Nat} (h : Stn f a n I H) (k : ∀ H1, Stn f a n I H1 → En.nx ((σ.set i (some v)).set j (some w)) H1) :
    tTup (tCons (tC v) (tCons (tC w) tNil)) σ H fun u H1 => tAsg (tC u) (gTup K 2 (gCons (gName i) (gCons (gName j) gNil))) En σ H1 := by
  refine ⟨by show 2 ≤ sizeLine; decide, fun p hp => ⟨p, _, rfl, SqT.of upd_same, rfl, v, _, rfl, w, _, rfl, rfl, k _ (h.grow (Grow.mine h.sub hp))⟩⟩
theorem ctup2s {f : Fr} {a : Amb} {n : Nat} {I H : Hp} {K : PySem.W.Frag} {En : Ends} {us2 : TS} {v w : V} {i j : Nat} (h : Stn f a n I H) (k : ∀ H1, Stn f a n I H1 → us2 En ((σ.set i (some v)).set j (some w)) H1) :
    tTup (tCons (tC v) (tCons (tC w) tNil)) σ H fun u H1 => tSeq (tAsg (tC u) (gTup K 2 (gCons (gName i) (gCons (gName j) gNil)))) us2 En σ H1 := ctup2 (En := { En with nx := us2 En }) h k
theorem ctup3 {f : Fr} {a : Amb} {n : Nat} {I H : Hp} {K : PySem.W.Frag} {En : Ends} {v w u : V} {i j l : Nat} (h : Stn f a n I H) (k : ∀ H1, Stn f a n I H1 → En.nx (((σ.set i (some v)).set j (some w)).set l (some u)) H1) :
    tTup (tCons (tC v) (tCons (tC w) (tCons (tC u) tNil))) σ H fun u H1 => tAsg (tC u) (gTup K 3 (gCons (gName i) (gCons (gName j) (gCons (gName l) gNil)))) En σ H1 := by
  refine ⟨by show 3 ≤ sizeLine; decide, fun p hp => ⟨p, _, rfl, SqT.of upd_same, rfl, v, _, rfl, w, _, rfl, u, _, rfl, rfl, k _ (h.grow (Grow.mine h.sub hp))⟩⟩
theorem ctup3s {f : Fr} {a : Amb} {n : Nat} {I H : Hp} {K : PySem.W.Frag} {En : Ends} {us2 : TS} {v w u : V} {i j l : Nat} (h : Stn f a n I H) (k : ∀ H1, Stn f a n I H1 → us2 En (((σ.set i (some v)).set j (some w)).set l (some u)) H1) :
    tTup (tCons (tC v) (tCons (tC w) (tCons (tC u) tNil))) σ H fun u H1 => tSeq (tAsg (tC u) (gTup K 3 (gCons (gName i) (gCons (gName j) (gCons (gName l) gNil))))) us2 En σ H1 := ctup3 (En := { En with nx := us2 En }) h k
theorem nodup_pick {L : List Cell} (nd : (L.map (·.p)).Nodup) : ∀ js : List Nat, js.Nodup → ((js.filterMap fun j => L[j]?).map (·.p)).Nodup
  | [], _ => .nil
  | j :: js, h => by
    obtain ⟨h1, h2⟩ := List.nodup_cons.mp h
    rw [List.filterMap_cons]
    cases e : L[j]? with
    | none => exact nodup_pick nd js h2
    | some c =>
      rw [List.map_cons, List.nodup_cons]
      refine ⟨fun z => ?_, nodup_pick nd js h2⟩
      obtain ⟨d, hd, ep⟩ := List.mem_map.mp z
      obtain ⟨j', hj', e'⟩ := List.mem_filterMap.mp hd
      have := pos_of_nodup nd e e' ep.symm
      subst this
      exact h1 hj'
/-- some of the own objects, in another order -/
theorem Stn.pick {f : Fr} {a : Amb} {n : Nat} {I H : Hp} {L L' : List Cell} (h : Stn f a n I H) (o : a.Ω = L) (js : List Nat) (nd : js.Nodup) (e : (js.filterMap fun j => L[j]?) = L') : Stn f (a.cells L') n I H := by
  subst e
  refine ⟨h.g, h.r, h.γ, nodup_pick (o ▸ h.nd) js nd, fun c hc => ?_⟩
  obtain ⟨j, _, e⟩ := List.mem_filterMap.mp hc
  exact h.ω c (o ▸ List.mem_of_getElem? e)
end
end Nw

namespace Nw
open PySem PySem.Spec PyProof.Rows L2
/-! ### what surely comes -/
def Run {α : Type} (m : DW α) (r : α) : Prop := ∀ (n : Nat) (M : α → Nat → Prop), M r n → m n M
section
variable {α β γ S : Type} {m : DW α} {r : α} {fr : α → DW β} {s : β} {c : Nat} {P : β → Prop} {p : Prop} {K : PySem.W.Frag}
theorem Run.wp (h : Run m r) {P : α → Prop} (hp : P r) : Wp m c P := fun n M _ k => h n M (k r n hp (Nat.le_refl _) (by omega))
theorem run_pure : Run (pureD r) r := fun _ _ h => h
theorem run_bind (h : Run m r) (k : Run (fr r) s) : Run (bindD m fr) s := fun n M e => h n _ (k n M e)
theorem run_need (hp : p) (h : Run m r) : Run (needD p m) r := fun n M e => ⟨hp, h n M e⟩
theorem run_if {b : Bool} {A B : DW α} (h1 : b = true → Run A r) (h2 : b = false → Run B r) : Run (if b = true then A else B) r := by
  cases b with
  | true => rw [if_pos rfl]; exact h1 rfl
  | false => rw [if_neg Bool.false_ne_true]; exact h2 rfl
theorem wp_bindR (h : Run m r) (k : Wp (fr r) c P) : Wp (bindD m fr) c P := fun n M hl q => h n _ (k n M hl q)
theorem run_okE {m : DW (ExR α)} {y : α} {fr : α → DW (ExR β)} {s : ExR β} (h : Run m (.ok y)) (k : Run (fr y) s) : Run (bindE m fr) s := fun n M e => h 0 (fun r _ => match r with | .ok y => fr y n M | .error e => M (.error e) n) (k n M e)
theorem run_errE {m : DW (ExR α)} {er : Er} {fr : α → DW (ExR β)} (h : Run m (.error er)) : Run (bindE m fr) (.error er) := fun n M e => h 0 (fun r _ => match r with | .ok y => fr y n M | .error e => M (.error e) n) e
theorem run_okX {m : DW (ExR α)} {y : α} (h : Run m (.ok y)) : Run (okX m) y := fun n M e => h 0 (fun r _ => match r with | .ok y => M y n | .error _ => False) e
theorem run_word {m : DW (ExR α)} {y : α} {wd : Er → Option (Tx × Dk K)} (h : Run m (.ok y)) : Run (F_word wd m) (tx [], dk .non) := fun n M e => h 0 (fun r _ => match r with | .ok _ => M (tx [], dk .non) n | .error e => ∃ p, wd e = some p ∧ M p n) e
theorem run_wordE {m : DW (ExR α)} {er : Er} {wd : Er → Option (Tx × Dk K)} {q : Tx × Dk K} (h : Run m (.error er)) (hw : wd er = some q) : Run (F_word wd m) q := fun n M e => h 0 (fun r _ => match r with | .ok _ => M (tx [], dk .non) n | .error e => ∃ p, wd e = some p ∧ M p n) ⟨q, hw, e⟩
/-- a while: what holds ahead of each turn, and what gets less -/
theorem wp_while (Inv : S → Prop) (μ : S → Nat) {cc cb cr : Nat} {cond : S → DW Bool} {body : S → (S → DW β) → (S → DW β) → DW β} {rest : S → DW β} (hc : ∀ s, Inv s → Wp (cond s) cc fun b => b = true → 0 < μ s)
    (hb : ∀ s next brk cn, Inv s → 0 < μ s → cr ≤ cn → (∀ s', Inv s' → μ s' < μ s → Wp (next s') cn P) → (∀ s', Inv s' → Wp (brk s') cr P) → Wp (body s next brk) (cb + cn) P)
    (hr : ∀ s, Inv s → Wp (rest s) cr P) : ∀ (m : Nat) (s : S), μ s < m → Inv s → Wp (whileD m cond body rest s) (μ s * (cc + cb) + cc + cr) P
  | 0, s, h, _ => absurd h (Nat.not_lt_zero _)
  | m + 1, s, h, hi => by
    show Wp (bindD (cond s) fun b => if b = true then body s (whileD m cond body rest) rest else rest s) _ P
    refine wp_le (c1 := cc + (μ s * (cc + cb) + cr)) (wp_bind (hc s hi) fun b hb' => wp_if (fun e => ?_) fun _ => wp_le (hr s hi) (by omega)) (by omega)
    have hp := hb' e
    have e1 : μ s * (cc + cb) = (μ s - 1) * (cc + cb) + (cc + cb) := by
      have : μ s = (μ s - 1) + 1 := by omega
      rw [this, Nat.add_mul, Nat.one_mul, Nat.add_sub_cancel]
    refine wp_le (hb s _ _ ((μ s - 1) * (cc + cb) + cc + cr) hi hp (by omega) (fun s' hi' lt => ?_) hr) (by omega)
    refine wp_le (wp_while Inv μ hc hb hr m s' (by omega) hi') ?_
    have := Nat.mul_le_mul_right (cc + cb) (show μ s' ≤ μ s - 1 by omega)
    omega
end
/-! ### dicts as they are told -/
section
variable {κ κ' α β : Type} [KeyT κ] [KeyT κ']
theorem foldl_put : ∀ (xs l : List (κ × α)), ((l ++ xs).map fun q => KeyT.k q.1).Nodup → xs.foldl (fun l q => putL l q.1 q.2) l = l ++ xs
  | [], l, _ => (List.append_nil l).symm
  | x :: xs, l, h => by
    have hx : (l.any fun q => decide (KeyT.k q.1 = KeyT.k x.1)) = false := by
      rw [List.any_eq_false]
      intro q hq e
      have e := of_decide_eq_true e
      rw [List.map_append, List.nodup_append] at h
      exact h.2.2 _ (List.mem_map_of_mem hq) _ (List.mem_map_of_mem (List.mem_cons_self ..)) e
    rw [List.foldl_cons, putL, hx, if_neg Bool.false_ne_true, foldl_put xs (l ++ [x]) (by rw [List.append_assoc]; exact h), List.append_assoc]
    rfl
theorem ofL_nd {xs : List (κ × α)} (h : (xs.map fun q => KeyT.k q.1).Nodup) : Dc.ofL xs = ⟨xs⟩ := congrArg Dc.mk (foldl_put xs [] h)
theorem get_map {γ : Type} (f : γ → κ) (g : γ → α) (k : κ') (xs : List γ) : (⟨xs.map fun x => (f x, g x)⟩ : Dc κ α).get? k = (xs.find? fun x => decide (KeyT.k (f x) = KeyT.k k)).map g := by
  unfold Dc.get?
  rw [List.find?_map]
  cases h : xs.find? fun x => decide (KeyT.k (f x) = KeyT.k k) with
  | none =>
    rw [show (xs.find? ((fun q : κ × α => decide (KeyT.k q.1 = KeyT.k k)) ∘ fun x => (f x, g x))) = none from h]
    rfl
  | some x =>
    rw [show (xs.find? ((fun q : κ × α => decide (KeyT.k q.1 = KeyT.k k)) ∘ fun x => (f x, g x))) = some x from h]
    rfl
end
end Nw

namespace Nw
open PySem PySem.Spec PyProof.Rows L2
/-! ### a callee's new list becomes one's own; extend; list * number; isinstance of a list -/
section
variable {f : Fr} {a : Amb} {α β γ δ : Type} {σ : L2.St} {te ta tb tc : TE} {tr : TA} {x : α} {y : β} {z : γ} {v w : V} {K : PySem.W.Frag} {n : Nat} {I H I0 H0 : Hp} {Q : VK} {E : XK} {sp : Sp} {C : Addr} {En : Ends}
def spXN {α β : Type} [RepA α] [Rep β] (K : PySem.W.Frag) (F : α → DW (ExR (List β))) : Sp := fun vs H Q E => ∃ (I : Hp) (x : α) (M : ExR (List β) → Nat → Prop), RepA.is I vs x ∧ Same I H ∧ F x 0 M ∧
  (∀ y n', M (.ok y) n' → ∀ p us I' H', Grow No I H I' H' → H p = none → I' p = none → H' p = some (.lst us) → Paired (Rep.is I') us y → Q (.ref p) H') ∧ (∀ e n', M (.error e) n' → e.out K E I H)
theorem spXN_of [RepA α] [Rep β] {F : α → DW (ExR (List β))} {vs : List V} (h : spX K F vs H Q E) : spXN K F vs H Q E := by
  obtain ⟨I, x, M, r, sb, e, kO, kE⟩ := h
  refine ⟨I, x, M, r, sb, e, fun y n' m p us I' H' g h1 h2 h3 hp => kO y n' m (.ref p) _ H' (Grow.give1 g h1 h2 h3) ⟨p, us, rfl, upd_same, Paired.mono' (fun _ _ z => Rep.mono (Same.up h2) z) hp⟩, kE⟩
theorem st_retN [Rep α] {D : Ends} {i j : Nat} {p : Addr} {xs : List α} (h : Stn (frN I0 H0) a n I H) (hs : σ[i]? = some (some (.ref p))) (hc : a.Ω[j]? = some (lcell p xs)) (k : ∀ p us I' H', Grow No I0 H0 I' H' → H0 p = none → I' p = none → H' p = some (.lst us) → Paired (Rep.is I') us xs → D.rt (.ref p) H') : tRet (tVar i) D σ H := by
  obtain ⟨o, w, vs, rfl, hp⟩ := h.ω _ (List.mem_of_getElem? hc)
  exact ⟨_, hs, k p vs I H h.gN w.n0 w.ni w.at_ hp⟩
theorem o_runN [RepA α] [Rep β] {F : α → DW (ExR (List β))} {fr : List β → DW γ} {M : γ → Nat → Prop} {vs : List V} (h : Stn f a n I H) (r : RepA.is I vs x) (e : bindD (okX (F x)) fr n M) (k : ∀ y p I1 H1, fr y n M → Stn f (a.own (lcell p y)) n I1 H1 → Q (.ref p) H1) : spXN K F vs H Q E0 :=
  ⟨I, x, _, r, h.sub, e, fun y n' e' p us I1 H1 g h1 h2 h3 hp => k y p I1 H1 e' (h.newN g h1 h2 h3 hp), fun er n' e' => e'.elim⟩
theorem asg_methN [Rep α] [IsO α C] [RepA β] [Rep γ] {M : δ → Nat → Prop} {i : Nat} {m : Str} {F : α × β → DW (ExR (List γ))} {fr : List γ → DW δ} (hm : m ∉ IsO.ns α C) (h : Stn f a n I H) (A : EvP f a rv te σ x) (B : EvA f a tr σ y) (e : bindD (okX (F (x, y))) fr n M)
    (k : ∀ y p I1 H1, fr y n M → Stn f (a.own (lcell p y)) n I1 H1 → En.nx (σ.set i (some (.ref p))) H1) : tAsg (tMeth C m (fun vs H Q E => sp vs H Q E ∨ spXN K F vs H Q E) [] E0 te tr) (gName i) En σ H :=
  tMeth_go hm h A fun v I1 H1 g r => B n I1 H1 (h.grow g) _ fun vs I2 H2 g2 r2 => by
    rw [List.append_nil]
    exact .inr (o_runN (h.grow (g.trans g2)) ⟨v, vs, rfl, Rep.mono g2.view r, r2⟩ e k)
theorem asg_methNs {us2 : TS} [Rep α] [IsO α C] [RepA β] [Rep γ] {M : δ → Nat → Prop} {i : Nat} {m : Str} {F : α × β → DW (ExR (List γ))} {fr : List γ → DW δ} (hm : m ∉ IsO.ns α C) (h : Stn f a n I H) (A : EvP f a rv te σ x) (B : EvA f a tr σ y) (e : bindD (okX (F (x, y))) fr n M)
    (k : ∀ y p I1 H1, fr y n M → Stn f (a.own (lcell p y)) n I1 H1 → us2 En (σ.set i (some (.ref p))) H1) : tSeq (tAsg (tMeth C m (fun vs H Q E => sp vs H Q E ∨ spXN K F vs H Q E) [] E0 te tr) (gName i)) us2 En σ H := asg_methN (En := { En with nx := us2 En }) hm h A B e k
theorem o_methW [Rep α] [IsO α C] [RepA β] [Rep γ] {m : Str} {F : α × β → DW (ExR (List γ))} {fr : List γ → DW δ} {M : δ → Nat → Prop} (hm : m ∉ IsO.ns α C) (h : Stn f a n I H) (A : EvP f a rv te σ x) (B : EvA f a tr σ y) (e : bindD (okX (F (x, y))) fr n M)
    (k : ∀ y v I1 H1, fr y n M → Stn f (a.rep v y) n I1 H1 → Q v H1) : tMeth C m (fun vs H Q E => sp vs H Q E ∨ spXN K F vs H Q E) [] E0 te tr σ H Q :=
  tMeth_go hm h A fun v I1 H1 g r => B n I1 H1 (h.grow g) _ fun vs I2 H2 g2 r2 => by
    rw [List.append_nil]
    exact .inr (spXN_of (o_run (h.grow (g.trans g2)) ⟨v, vs, rfl, Rep.mono g2.view r, r2⟩ e k))
theorem x_methW [Rep α] [IsO α C] [RepA β] [Rep γ] {m : Str} {F : α × β → DW (ExR (List γ))} {fr : List γ → DW (ExR δ)} {M : ExR δ → Nat → Prop} (hm : m ∉ IsO.ns α C) (h : Stn (frN I0 H0) a n I H) (kE : ∀ e n', M (.error e) n' → e.out K E I0 H0) (A : EvP (frN I0 H0) a rv te σ x) (B : EvA (frN I0 H0) a tr σ y) (e : bindE (F (x, y)) fr n M)
    (k : ∀ y v I1 H1, fr y n M → Stn (frN I0 H0) (a.rep v y) n I1 H1 → Q v H1) : tMeth C m (fun vs H Q E => sp vs H Q E ∨ spXN K F vs H Q E) [] E te tr σ H Q :=
  tMeth_go hm h A fun v I1 H1 g r => B n I1 H1 (h.grow g) _ fun vs I2 H2 g2 r2 => by
    rw [List.append_nil]
    exact .inr (spXN_of (x_run (h.grow (g.trans g2)) kE ⟨v, vs, rfl, Rep.mono g2.view r, r2⟩ e k))
/-- a list display of which parts were told already -/
theorem hd_newN [Rep α] {M : δ → Nat → Prop} {i : Nat} {xs : List α} {fr : List α → DW δ} (h : Stn f a n I H) (G : EvN f a te σ xs) (e : bindP xs fr n M) (k : ∀ xs' p I1 H1, fr xs' n M → Stn f (a.own (lcell p xs')) n I1 H1 → En.nx (σ.set i (some (.ref p))) H1) : te σ H fun u H1 => tAsg (tC u) (gName i) En σ H1 :=
  G n I H h _ fun p vs I' H' g h1 h2 h3 r => k xs p I' H' e (h.newN g h1 h2 h3 r)
theorem hd_newNs {us2 : TS} [Rep α] {M : δ → Nat → Prop} {i : Nat} {xs : List α} {fr : List α → DW δ} (h : Stn f a n I H) (G : EvN f a te σ xs) (e : bindP xs fr n M) (k : ∀ xs' p I1 H1, fr xs' n M → Stn f (a.own (lcell p xs')) n I1 H1 → us2 En (σ.set i (some (.ref p))) H1) : te σ H fun u H1 => tSeq (tAsg (tC u) (gName i)) us2 En σ H1 := hd_newN (En := { En with nx := us2 En }) h G e k
/-! extend -/
theorem d_ext [Rep α] {M : δ → Nat → Prop} {i j : Nat} {p : Addr} {xs ys : List α} {fr : List α → DW δ} (h : Stn f a n I H) (hs : σ[i]? = some (some (.ref p))) (hc : a.Ω[j]? = some (lcell p xs)) (G : EvP f a (rl f.T) te σ ys) (hl : xs.length + ys.length ≤ 16777216) (e : bindP (xs ++ ys) fr n M)
    (k : ∀ xs' I1 H1, fr xs' n M → Stn f (a.cells (a.Ω.set j (lcell p xs'))) n I1 H1 → En.nx σ H1) : tDrop (tBM K "list" rExtend (tVar i) (tCons te tNil)) En σ H := by
  obtain ⟨o, w, vs, rfl, hp⟩ := h.ω _ (List.mem_of_getElem? hc)
  refine ⟨_, hs, .inl ⟨rfl, _, SqL.of w.at_⟩, G n I H h _ fun v I1 H1 g r => ?_⟩
  have h1 := h.grow g
  have w1 := w.grow g.no
  have hp1 : Paired (Rep.is I1) vs xs := Paired.mono' (fun _ _ z => Rep.mono g.view z) hp
  obtain ⟨b, zs, rfl, hb, _, hz⟩ := r
  exact ⟨p, b, vs, zs, rfl, rfl, w1.at_, hb, by rw [Nw.Paired.len hp, Nw.Paired.len hz, sizeLine_eq]; exact hl, k _ I1 _ e (h1.put (c' := lcell p (xs ++ ys)) hc rfl ⟨_, rfl, Paired.app hp1 hz⟩)⟩
theorem d_exts {us2 : TS} [Rep α] {M : δ → Nat → Prop} {i j : Nat} {p : Addr} {xs ys : List α} {fr : List α → DW δ} (h : Stn f a n I H) (hs : σ[i]? = some (some (.ref p))) (hc : a.Ω[j]? = some (lcell p xs)) (G : EvP f a (rl f.T) te σ ys) (hl : xs.length + ys.length ≤ 16777216) (e : bindP (xs ++ ys) fr n M)
    (k : ∀ xs' I1 H1, fr xs' n M → Stn f (a.cells (a.Ω.set j (lcell p xs'))) n I1 H1 → us2 En σ H1) : tSeq (tDrop (tBM K "list" rExtend (tVar i) (tCons te tNil))) us2 En σ H := d_ext (En := { En with nx := us2 En }) h hs hc G hl e k
/-! list * number -/
theorem Paired.rep [Rep α] {I : Hp} {vs : List V} {xs : List α} (h : Paired (Rep.is I) vs xs) : ∀ k : Nat, Paired (Rep.is I) (List.replicate k vs).flatten (List.replicate k xs).flatten
  | 0 => .nil
  | k + 1 => by
    rw [List.replicate_succ, List.replicate_succ, List.flatten_cons, List.flatten_cons]
    exact Paired.app h (Paired.rep h k)
theorem ep_mulL [Rep α] {xs : List α} {k : Int} (hl : -(2 ^ 63) ≤ k ∧ k < 2 ^ 63 ∧ xs.length * k.toNat ≤ 16777216) (ha : EvP f a (rl f.T) ta σ xs) (hb : EvP f a rv tb σ k) : EvP f a rv (tOp rRep ta tb) σ (List.replicate k.toNat xs).flatten := fun n I H s Q kk =>
  ha n I H s _ fun v I1 H1 g1 r1 => hb n I1 H1 (s.grow g1) _ fun w I2 H2 g2 r2 => by
    obtain ⟨p, vs, rfl, hp, _, hv⟩ := (KpR.kp (T := f.T) r1 g2.no : rl f.T I2 H2 v xs)
    have ew : w = V.int k := r2
    subst ew
    refine ⟨p, k, vs, rfl, rfl, hp, hl.1, hl.2.1, by rw [Nw.Paired.len hv, sizeLine_eq]; exact hl.2.2, fun r hr => ?_⟩
    have g3 := Grow.mine (T := No) (o := .lst (List.replicate k.toNat vs).flatten) (s.grow (g1.trans g2)).sub hr
    have g4 := g1.trans (g2.trans g3)
    have hi : I2 r = none := (s.grow (g1.trans g2)).sub.free hr
    refine kk (.ref r) _ _ (Grow.give1 g4 (none_back (g1.trans g2) hr) hi upd_same) ⟨r, _, rfl, upd_same, Paired.mono' (fun _ _ z => Rep.mono (Same.up hi) z) (Paired.rep hv _)⟩
/-! isinstance of a list -/
theorem ep_isiR [Rep α] {xs : List α} (h : EvP f a (rl f.T) te σ xs) : EvP f a rv (tCB (rIsi K) (tCons te (tCons (tC (.ty "list")) tNil))) σ true := fun n I H s Q k =>
  h n I H s _ fun v I' H' g r => by
    obtain ⟨p, vs, rfl, hp, _, hv⟩ := r
    exact ⟨.ref p, _, _, _, true, rfl, .ty _, .base (.lst hp), (show _ = some true from kit_ty (by decide +kernel)), k _ I' H' g rfl⟩
end
section
variable {f : Fr} {a : Amb} {α β γ δ : Type} {σ : L2.St} {te ta tb tc : TE} {tr : TA} {x : α} {y : β} {z : γ} {K : PySem.W.Frag} {sp : Sp} {C : Addr}
theorem ex_methW [Rep α] [IsO α C] [RepA β] [Rep γ] {m : Str} {F : α × β → DW (ExR (List γ))} (hm : m ∉ IsO.ns α C) (A : EvP f a rv te σ x) (B : EvA f a tr σ y) : EvX K f a (fun E => tMeth C m (fun vs H Q E => sp vs H Q E ∨ spXN K F vs H Q E) [] E te tr) σ (F (x, y)) := fun n I H s E Q M e k kE =>
  tMeth_go hm s A fun v I1 H1 g r => B n I1 H1 (s.grow g) _ fun vs I2 H2 g2 r2 => by
    rw [List.append_nil]
    exact .inr (spXN_of ⟨I2, (x, y), M, ⟨v, vs, rfl, Rep.mono g2.view r, r2⟩, (s.grow (g.trans g2)).sub, e, fun y n' e' v I3 H3 g3 r3 => k y n' e' v I3 H3 ((g.trans g2).trans g3) r3, fun er n' e' => (kE er n' e').grow (g.trans g2)⟩)
end
end Nw

namespace Nw
open PySem PySem.Spec PyProof.Rows L2
def top (i : Nat) : Stmt := PySem.Challenge.pw_newsinorder_k64_relays_listed.main.body.getD i (.Pass ⟨0, 0, 0, 0⟩)
abbrev s_is_number : Stmt := top 8
abbrev n_is_number : List Str := ["thing"]
theorem sc_is_number : FnScope n_is_number ["thing"] (defScope s_is_number) := ⟨rfl, rfl, rfl, by decide +kernel, rfl, by decide +kernel, by decide +kernel⟩
abbrev s_is_process : Stmt := top 15
abbrev n_is_process : List Str := ["thing", "sign"]
theorem sc_is_process : FnScope n_is_process ["thing"] (defScope s_is_process) := ⟨rfl, rfl, rfl, by decide +kernel, rfl, by decide +kernel, by decide +kernel⟩
abbrev s_is_channel : Stmt := top 16
abbrev n_is_channel : List Str := ["thing", "letter", "source", "target"]
theorem sc_is_channel : FnScope n_is_channel ["thing"] (defScope s_is_channel) := ⟨rfl, rfl, rfl, by decide +kernel, rfl, by decide +kernel, by decide +kernel⟩
abbrev s_is_part : Stmt := top 17
abbrev n_is_part : List Str := ["some", "other", "at", "step"]
theorem sc_is_part : FnScope n_is_part ["some", "other"] (defScope s_is_part) := ⟨rfl, rfl, rfl, by decide +kernel, rfl, by decide +kernel, by decide +kernel⟩
abbrev s_Net__init : Stmt := inClass (top 18) 0
abbrev n_Net__init : List Str := ["self", "channels", "channel", "letter", "one"]
theorem sc_Net__init : FnScope n_Net__init ["self", "channels"] (defScope s_Net__init) := ⟨rfl, rfl, rfl, by decide +kernel, rfl, by decide +kernel, by decide +kernel⟩
abbrev s_Net_channels : Stmt := inClass (top 18) 1
abbrev n_Net_channels : List Str := ["self", "letter"]
theorem sc_Net_channels : FnScope n_Net_channels ["self"] (defScope s_Net_channels) := ⟨rfl, rfl, rfl, by decide +kernel, rfl, by decide +kernel, by decide +kernel⟩
abbrev s_Net_processes : Stmt := inClass (top 18) 2
abbrev n_Net_processes : List Str := ["self", "channel", "name"]
theorem sc_Net_processes : FnScope n_Net_processes ["self"] (defScope s_Net_processes) := ⟨rfl, rfl, rfl, by decide +kernel, rfl, by decide +kernel, by decide +kernel⟩
abbrev s_Net_need_process : Stmt := inClass (top 18) 3
abbrev n_Net_need_process : List Str := ["self", "process"]
theorem sc_Net_need_process : FnScope n_Net_need_process ["self", "process"] (defScope s_Net_need_process) := ⟨rfl, rfl, rfl, by decide +kernel, rfl, by decide +kernel, by decide +kernel⟩
abbrev s_Net_relays : Stmt := inClass (top 18) 7
abbrev n_Net_relays : List Str := ["self", "source", "target", "most", "found", "layer", "turn", "later", "row", "process", "letter", "begin", "end"]
theorem sc_Net_relays : FnScope n_Net_relays ["self", "source", "target", "most"] (defScope s_Net_relays) := ⟨rfl, rfl, rfl, by decide +kernel, rfl, by decide +kernel, by decide +kernel⟩
abbrev s_Net_best : Stmt := inClass (top 18) 8
abbrev n_Net_best : List Str := ["self", "source", "target", "most", "rows", "row", "other"]
theorem sc_Net_best : FnScope n_Net_best ["self", "source", "target", "most"] (defScope s_Net_best) := ⟨rfl, rfl, rfl, by decide +kernel, rfl, by decide +kernel, by decide +kernel⟩
abbrev s_l_begun : Stmt := top 20
abbrev n_l_begun : List Str := ["_law_script", "_law_great", "_law_lump"]
theorem sc_l_begun : FnScope n_l_begun ["_law_script"] (defScope s_l_begun) := ⟨rfl, rfl, rfl, by decide +kernel, rfl, by decide +kernel, by decide +kernel⟩
abbrev s_l_next : Stmt := top 21
abbrev n_l_next : List Str := ["_law_draw", "_law_many", "_law_found", "_law_turn", "_law_lump", "_law_mixed"]
theorem sc_l_next : FnScope n_l_next ["_law_draw", "_law_many"] (defScope s_l_next) := ⟨rfl, rfl, rfl, by decide +kernel, rfl, by decide +kernel, by decide +kernel⟩
abbrev s_l_pick : Stmt := top 22
abbrev n_l_pick : List Str := ["_law_draw", "_law_some_here"]
theorem sc_l_pick : FnScope n_l_pick ["_law_draw", "_law_some_here"] (defScope s_l_pick) := ⟨rfl, rfl, rfl, by decide +kernel, rfl, by decide +kernel, by decide +kernel⟩
abbrev s_l_shuffled : Stmt := top 23
abbrev n_l_shuffled : List Str := ["_law_draw", "_law_some_here", "_law_left", "_law_found"]
theorem sc_l_shuffled : FnScope n_l_shuffled ["_law_draw", "_law_some_here"] (defScope s_l_shuffled) := ⟨rfl, rfl, rfl, by decide +kernel, rfl, by decide +kernel, by decide +kernel⟩
abbrev s_l_some : Stmt := top 24
abbrev n_l_some : List Str := ["_law_draw", "_law_many"]
theorem sc_l_some : FnScope n_l_some ["_law_draw", "_law_many"] (defScope s_l_some) := ⟨rfl, rfl, rfl, by decide +kernel, rfl, by decide +kernel, by decide +kernel⟩
abbrev s_l_processes : Stmt := top 25
abbrev n_l_processes : List Str := ["_law_draw", "_law_signs", "_law_found", "_law_step", "_law_turn", "_law_base", "_law_shift", "_law_many"]
theorem sc_l_processes : FnScope n_l_processes ["_law_draw"] (defScope s_l_processes) := ⟨rfl, rfl, rfl, by decide +kernel, rfl, by decide +kernel, by decide +kernel⟩
abbrev s_l_channels : Stmt := top 26
abbrev n_l_channels : List Str := ["_law_draw", "_law_names", "_law_found", "_law_way", "_law_letter", "_law_pair", "_law_sign"]
theorem sc_l_channels : FnScope n_l_channels ["_law_draw"] (defScope s_l_channels) := ⟨rfl, rfl, rfl, by decide +kernel, rfl, by decide +kernel, by decide +kernel⟩
abbrev s_l_ends_by : Stmt := top 27
abbrev n_l_ends_by : List Str := ["_law_channels_here", "_law_one"]
theorem sc_l_ends_by : FnScope n_l_ends_by ["_law_channels_here"] (defScope s_l_ends_by) := ⟨rfl, rfl, rfl, by decide +kernel, rfl, by decide +kernel, by decide +kernel⟩
abbrev s_l_walked : Stmt := top 28
abbrev n_l_walked : List Str := ["_law_channels_here", "_law_row", "_law_process", "_law_ends", "_law_step", "_law_pair", "_law_begin", "_law_end"]
theorem sc_l_walked : FnScope n_l_walked ["_law_channels_here", "_law_row", "_law_process"] (defScope s_l_walked) := ⟨rfl, rfl, rfl, by decide +kernel, rfl, by decide +kernel, by decide +kernel⟩
abbrev s_l_all_names : Stmt := top 29
abbrev n_l_all_names : List Str := ["_law_channels_here", "_law_found", "_law_one", "_law_name"]
theorem sc_l_all_names : FnScope n_l_all_names ["_law_channels_here"] (defScope s_l_all_names) := ⟨rfl, rfl, rfl, by decide +kernel, rfl, by decide +kernel, by decide +kernel⟩
abbrev s_l_relays : Stmt := top 30
abbrev n_l_relays : List Str := ["_law_channels_here", "_law_source", "_law_target", "_law_most", "_law_found", "_law_layer", "_law_turn", "_law_longer", "_law_row", "_law_steps", "_law_step"]
theorem sc_l_relays : FnScope n_l_relays ["_law_channels_here", "_law_source", "_law_target", "_law_most"] (defScope s_l_relays) := ⟨rfl, rfl, rfl, by decide +kernel, rfl, by decide +kernel, by decide +kernel⟩
abbrev s_l_no_process : Stmt := top 31
abbrev n_l_no_process : List Str := ["_law_draw"]
theorem sc_l_no_process : FnScope n_l_no_process ["_law_draw"] (defScope s_l_no_process) := ⟨rfl, rfl, rfl, by decide +kernel, rfl, by decide +kernel, by decide +kernel⟩
abbrev s_l_word : Stmt := top 32
abbrev n_l_word : List Str := ["_law_work", "_law_e", "error", "_law_marks", "_law_word_here"]
theorem sc_l_word : FnScope n_l_word ["_law_work"] (defScope s_l_word) := ⟨rfl, rfl, rfl, by decide +kernel, rfl, by decide +kernel, by decide +kernel⟩
abbrev s_l_strange : Stmt := top 33
abbrev n_l_strange : List Str := ["_law_draw", "_law_channels_here", "_law_names", "_law_some_here", "_law_name"]
theorem sc_l_strange : FnScope n_l_strange ["_law_draw", "_law_channels_here"] (defScope s_l_strange) := ⟨rfl, rfl, rfl, by decide +kernel, rfl, by decide +kernel, by decide +kernel⟩
abbrev s_law : Stmt := top 34
abbrev n_law : List Str := ["_law_script", "_law_draw", "_law_turn", "_law_channels_here", "_law_names", "_law_time", "_law_due", "_law_found", "_law_words", "_law_strange_here", "_law_far", "_law_most", "_law_net", "_law_odd", "_law_pair", "_law_source", "_law_target"]
theorem sc_law : FnScope n_law ["_law_script"] (defScope s_law) := ⟨rfl, rfl, rfl, by decide +kernel, rfl, by decide +kernel, by decide +kernel⟩
structure Txt (K : PySem.W.Frag) (mg : Str → Option Value) : Prop where
  b_abs : mg "abs" = none
  b_all : mg "all" = none
  b_any : mg "any" = none
  b_bool : mg "bool" = none
  b_dict : mg "dict" = none
  b_int : mg "int" = none
  b_isinstance : mg "isinstance" = none
  b_len : mg "len" = none
  b_list : mg "list" = none
  b_min : mg "min" = none
  b_property : mg "property" = none
  b_range : mg "range" = none
  b_repr : mg "repr" = none
  b_set : mg "set" = none
  b_sorted : mg "sorted" = none
  b_str : mg "str" = none
  b_tuple : mg "tuple" = none
  b_ValueError : mg "ValueError" = none
  g__wall : mg "_wall" = some (.ref (He.ga K "_wall"))
  g_is_number : mg "is_number" = some (.ref (He.ga K "is_number"))
  g_is_process : mg "is_process" = some (.ref (He.ga K "is_process"))
  g_is_channel : mg "is_channel" = some (.ref (He.ga K "is_channel"))
  g_is_part : mg "is_part" = some (.ref (He.ga K "is_part"))
  g__law_begun : mg "_law_begun" = some (.ref (He.ga K "_law_begun"))
  g__law_next : mg "_law_next" = some (.ref (He.ga K "_law_next"))
  g__law_pick : mg "_law_pick" = some (.ref (He.ga K "_law_pick"))
  g__law_shuffled : mg "_law_shuffled" = some (.ref (He.ga K "_law_shuffled"))
  g__law_some : mg "_law_some" = some (.ref (He.ga K "_law_some"))
  g__law_processes : mg "_law_processes" = some (.ref (He.ga K "_law_processes"))
  g__law_channels : mg "_law_channels" = some (.ref (He.ga K "_law_channels"))
  g__law_ends_by : mg "_law_ends_by" = some (.ref (He.ga K "_law_ends_by"))
  g__law_walked : mg "_law_walked" = some (.ref (He.ga K "_law_walked"))
  g__law_all_names : mg "_law_all_names" = some (.ref (He.ga K "_law_all_names"))
  g__law_relays : mg "_law_relays" = some (.ref (He.ga K "_law_relays"))
  g__law_no_process : mg "_law_no_process" = some (.ref (He.ga K "_law_no_process"))
  g__law_word : mg "_law_word" = some (.ref (He.ga K "_law_word"))
  g__law_strange : mg "_law_strange" = some (.ref (He.ga K "_law_strange"))
  g_law : mg "law" = some (.ref (He.ga K "law"))
  g_OrderError : mg "OrderError" = some (.ref (He.ga K "OrderError"))
  g_NoRow : mg "NoRow" = some (.ref (He.ga K "NoRow"))
  xp_NoRow : PySem.W.excIn K (He.ga K "NoRow") He.veBase "ValueError.__new__" = true ∧ PySem.W.keepIn K (.ref (He.ga K "NoRow")) = true ∧ PySem.W.subIn K (.ref (He.ga K "NoRow")) (.type "BaseException") = some true ∧ PySem.W.typeIn K (.ref (He.ga K "NoRow")) = some (.type "type")
  g_NoNet : mg "NoNet" = some (.ref (He.ga K "NoNet"))
  xp_NoNet : PySem.W.excIn K (He.ga K "NoNet") He.veBase "ValueError.__new__" = true ∧ PySem.W.keepIn K (.ref (He.ga K "NoNet")) = true ∧ PySem.W.subIn K (.ref (He.ga K "NoNet")) (.type "BaseException") = some true ∧ PySem.W.typeIn K (.ref (He.ga K "NoNet")) = some (.type "type")
  g_NoProcess : mg "NoProcess" = some (.ref (He.ga K "NoProcess"))
  xp_NoProcess : PySem.W.excIn K (He.ga K "NoProcess") He.veBase "ValueError.__new__" = true ∧ PySem.W.keepIn K (.ref (He.ga K "NoProcess")) = true ∧ PySem.W.subIn K (.ref (He.ga K "NoProcess")) (.type "BaseException") = some true ∧ PySem.W.typeIn K (.ref (He.ga K "NoProcess")) = some (.type "type")
  g_NoChannel : mg "NoChannel" = some (.ref (He.ga K "NoChannel"))
  xp_NoChannel : PySem.W.excIn K (He.ga K "NoChannel") He.veBase "ValueError.__new__" = true ∧ PySem.W.keepIn K (.ref (He.ga K "NoChannel")) = true ∧ PySem.W.subIn K (.ref (He.ga K "NoChannel")) (.type "BaseException") = some true ∧ PySem.W.typeIn K (.ref (He.ga K "NoChannel")) = some (.type "type")
  g_Net : mg "Net" = some (.ref (He.ga K "Net"))
  cl_Net : Cls K (He.ga K "Net")
  mk_Net : Mk K (He.ga K "Net") (He.ma K (He.ga K "Net") "__init__")
  m_Net_need_process : Meth K (He.ga K "Net") "need_process" (He.ma K (He.ga K "Net") "need_process")
  m_Net_need_letter_of : Meth K (He.ga K "Net") "need_letter_of" (He.ma K (He.ga K "Net") "need_letter_of")
  m_Net_walked : Meth K (He.ga K "Net") "walked" (He.ma K (He.ga K "Net") "walked")
  m_Net_walk : Meth K (He.ga K "Net") "walk" (He.ma K (He.ga K "Net") "walk")
  m_Net_relays : Meth K (He.ga K "Net") "relays" (He.ma K (He.ga K "Net") "relays")
  m_Net_best : Meth K (He.ga K "Net") "best" (He.ma K (He.ga K "Net") "best")
  na_Net_by_letter : NoAttr K (He.ga K "Net") "by_letter"
  c_LINKS : ∃ t, mg "LINKS" = some (.str "abcd" t)
  c_SIGNS : ∃ t, mg "SIGNS" = some (.str "abcdefghijklmnopqrstuvwxyz" t)
  c_MOST_CHANNELS : ∃ t, mg "MOST_CHANNELS" = some (.int 4 t)
  c_MOST_SIGNS : ∃ t, mg "MOST_SIGNS" = some (.int 6 t)
  c_MOST_RELAYED : ∃ t, mg "MOST_RELAYED" = some (.int 6 t)
  em_NoProcess_OrderError : PySem.W.exmOne K (.ref (He.ga K "NoProcess")) (.ref (He.ga K "OrderError")) = some true
  em_NoNet_OrderError : PySem.W.exmOne K (.ref (He.ga K "NoNet")) (.ref (He.ga K "OrderError")) = some true
  em_NoChannel_OrderError : PySem.W.exmOne K (.ref (He.ga K "NoChannel")) (.ref (He.ga K "OrderError")) = some true
  em_NoRow_OrderError : PySem.W.exmOne K (.ref (He.ga K "NoRow")) (.ref (He.ga K "OrderError")) = some true
  is_Net : InsF K (He.ga K "Net")
  xf_NoProcess : ExF K (He.ga K "NoProcess")
  xf_NoNet : ExF K (He.ga K "NoNet")
  xf_NoChannel : ExF K (He.ga K "NoChannel")
  xf_NoRow : ExF K (He.ga K "NoRow")
  ki_NoProcess_NoProcess : PySem.W.kitOne K (.ref (He.ga K "NoProcess")) (.ref (He.ga K "NoProcess")) = some true
  ki_NoProcess_NoNet : PySem.W.kitOne K (.ref (He.ga K "NoProcess")) (.ref (He.ga K "NoNet")) = some false
  ki_NoProcess_NoChannel : PySem.W.kitOne K (.ref (He.ga K "NoProcess")) (.ref (He.ga K "NoChannel")) = some false
  ki_NoProcess_NoRow : PySem.W.kitOne K (.ref (He.ga K "NoProcess")) (.ref (He.ga K "NoRow")) = some false
  ki_NoNet_NoProcess : PySem.W.kitOne K (.ref (He.ga K "NoNet")) (.ref (He.ga K "NoProcess")) = some false
  ki_NoNet_NoNet : PySem.W.kitOne K (.ref (He.ga K "NoNet")) (.ref (He.ga K "NoNet")) = some true
  ki_NoNet_NoChannel : PySem.W.kitOne K (.ref (He.ga K "NoNet")) (.ref (He.ga K "NoChannel")) = some false
  ki_NoNet_NoRow : PySem.W.kitOne K (.ref (He.ga K "NoNet")) (.ref (He.ga K "NoRow")) = some false
  ki_NoProcess_ValueError : PySem.W.kitOne K (.ref (He.ga K "NoProcess")) (.type "ValueError") = some true
  ki_NoNet_ValueError : PySem.W.kitOne K (.ref (He.ga K "NoNet")) (.type "ValueError") = some true
  p_Net_channels : PropOf K (He.ga K "Net") "channels" (propAt K (He.ga K "Net") "channels") (propGet K (He.ga K "Net") "channels")
  p_Net_processes : PropOf K (He.ga K "Net") "processes" (propAt K (He.ga K "Net") "processes") (propGet K (He.ga K "Net") "processes")
end Nw

namespace Nw
open PySem PySem.Spec PyProof.Rows L2
section
variable {P : Program} {w : World} {K : PySem.W.Frag} {mg : Str → Option Value} {base : Heap}
theorem nn_mul {x y : Int} (hx : 0 ≤ x) (hy : 0 ≤ y) : 0 ≤ x * y := Int.mul_nonneg hx hy
theorem pow3_nn {x : Int} (h : 0 ≤ x) (n : Nat) : 0 ≤ x ^ n := Int.pow_nonneg h
theorem ok_l_next (T : Txt K mg) (F : FnAt K "_law_next" "_law_next" s_l_next (He.ga K "_law_next")) : Ok P w K mg base CX0 1 (He.ga K "_law_next") ["_law_draw", "_law_many"] spNext := by
  refine ok_of F sc_l_next (fun _ _ _ _ _ _ us hl => match us, hl with | [_, _], _ => rfl) (fun vs H Q E h => ?_) (fun cdv A outer s H vs Q E hr h => ?_)
  · obtain ⟨_, _, _, _, rfl, _⟩ := h
    rfl
  · obtain ⟨I, D, n, many, rfl, hD, hm0, hm1, hn, k⟩ := h
    refine ⟨_, pss_mid (ps_while PassesOwn.never (PW.pt (pw_and (pt_cmpR op_eq (pe_dget (hu_of hr) (pv 0) pe_str (fun _ _ => rfl)) pe_int (nomark _)) (pw_and1 (pt_cmpR (op_neNil hr.units) (pe_dget (hu_of hr) (pv 0) pe_str (fun _ _ => rfl)) (pe_lst pa_nil) (nomark _))))) (pss_one (ps_dput (hu_of hr) (pv 0) pe_str (pe_bm PySem.F.plainAttrs_list PySem.F.slot_list_pop PySem.F.type_list_pop mt_popAt (pe_dget (hu_of hr) (pv 0) pe_str (fun _ _ => rfl)) (pa_cons pe_int pa_nil)) rfl)))
      (pss_cons (ps_if (pt_cmpR op_gt (pe_dget (hu_of hr) (pv 0) pe_str (fun _ _ => rfl)) pe_int (nomark _)) (pss_cons (ps_set (i := 2) sc_l_next.nd rfl (Or.inl rfl) (pe_op op_mod (pe_callTy call_int1 (by rfl) T.b_int (by decide +kernel) (pa_cons (pe_dget (hu_of hr) (pv 0) pe_str (fun _ _ => rfl)) pa_nil)) (pv 1)))
      (pss_cons (ps_dput (hu_of hr) (pv 0) pe_str (pe_op op_fdiv (pe_dget (hu_of hr) (pv 0) pe_str (fun _ _ => rfl)) (pv 1)) rfl)
      (pss_one (ps_ret (pv 2))))) pss_nil)
      (pss_cons (ps_daug (hu_of hr) (pv 0) pe_str pe_int in_add (fun _ _ _ => rfl))
      (pss_cons (ps_set (i := 3) sc_l_next.nd rfl (Or.inl rfl) (pe_dget (hu_of hr) (pv 0) pe_str (fun _ _ => rfl)))
      (pss_cons (ps_set (i := 4) sc_l_next.nd rfl (Or.inl rfl) pe_int)
      (pss_mid (ps_if (pt_cmpR (op_neNil hr.units) (pe_dget (hu_of hr) (pv 0) pe_str (fun _ _ => rfl)) (pe_lst pa_nil) (nomark _)) (pss_one (ps_set (i := 4) sc_l_next.nd rfl (Or.inl rfl) (pe_ix ix_list (pe_dget (hu_of hr) (pv 0) pe_str (fun _ _ => rfl)) (pe_op op_mod (pe_callTy call_int1 (by rfl) T.b_int (by decide +kernel) (pa_cons (pv 3) pa_nil)) (pe_callB call_len_seq (by rfl) T.b_len (by decide +kernel) (pa_cons (pe_dget (hu_of hr) (pv 0) pe_str (fun _ _ => rfl)) pa_nil))) (fun _ _ => rfl)))) pss_nil)
      (pss_cons (ps_set (i := 5) sc_l_next.nd rfl (Or.inl rfl) (pe_op op_mod (pe_callTy call_int1 (by rfl) T.b_int (by decide +kernel) (pa_cons (pe_op op_pow (pe_op op_add (pe_op op_mod (pe_callTy call_int1 (by rfl) T.b_int (by decide +kernel) (pa_cons (pv 4) pa_nil)) pe_int) (pe_op op_mul pe_int (pv 3))) pe_int) pa_nil)) pe_int))
      (pss_one (ps_ret (pe_op op_mod (pe_callTy call_int1 (by rfl) T.b_int (by decide +kernel) (pa_cons (pe_op op_fdiv (pe_op op_mod (pe_callTy call_int1 (by rfl) T.b_int (by decide +kernel) (pa_cons (pe_op op_pow (pe_op op_add (pv 5) (pe_op op_mul pe_int (pv 3))) pe_int) pa_nil)) pe_int) pe_int) pa_nil)) (pv 1)))))))))), ?_⟩
    obtain ⟨dig0, tn, gs0, ls, s0, hd0, ht0, htn, hg0, hl0⟩ := hD.ex
    -- the while: the rest of the great numbers falls
    refine ⟨fun σ H2 => ∃ (dig : Int) (gs : List Int), σ = [some (.ref D.d), some (.int many), none, none, none, none] ∧ DrS D dig tn gs ls I H2 ∧ 0 ≤ dig ∧ (∀ g ∈ gs, 0 ≤ g) ∧ Grow (TD D) I H I H2, ?_, ?_⟩
    · refine ⟨fun m σ H' => ∃ (dig : Int) (gs : List Int), m = gs.length ∧ σ = [some (.ref D.d), some (.int many), none, none, none, none] ∧ DrS D dig tn gs ls I H' ∧ 0 ≤ dig ∧ (∀ g ∈ gs, 0 ≤ g) ∧ Grow (TD D) I H I H',
        ⟨_, dig0, gs0, rfl, rfl, s0, hd0, hg0, Grow.refl s0.sub⟩, ?_⟩
      rintro m σ H1 ⟨dig, gs, rfl, rfl, s1, hd1, hg1, G1⟩
      refine ⟨_, rfl, D.d, _, rfl, s1.get_dig, rfl, _, rfl, ?_⟩
      by_cases c : dig = 0
      · subst c
        rw [decide_eq_true rfl]
        refine iteT ⟨_, rfl, D.d, _, rfl, s1.get_great, by decide, fun p hp => ⟨D.g, p, _, rfl, rfl, SqL.of (by rw [upd_ne (ne_of_none s1.hg hp)]; exact s1.hg), SqL.of upd_same, _, rfl, ?_⟩⟩
        have G2 : Grow (TD D) I H I (upd H1 p (.lst [])) := G1.trans (Grow.mine G1.sub hp)
        have s2 : DrS D 0 tn gs ls I (upd H1 p (.lst [])) := s1.put (fun t => s1.live p t hp) (G1.sub.free hp)
        cases gs with
        | nil => exact ⟨0, [], rfl, s2, hd1, hg1, G2⟩
        | cons g r =>
          refine ⟨fun σ' H' => ∃ (dig : Int), σ' = [some (.ref D.d), some (.int many), none, none, none, none] ∧ DrS D dig tn r ls I H' ∧ 0 ≤ dig ∧ (∀ g ∈ r, 0 ≤ g) ∧ Grow (TD D) I H I H', fun σ' H' ⟨dig, e, a⟩ => ⟨r.length, Nat.lt_succ_self _, dig, r, rfl, e, a⟩, ?_⟩
          refine ⟨_, rfl, D.d, _, rfl, s2.get_great, .inl ⟨rfl, _, SqL.of s2.hg⟩, D.g, _, 0, 0, _, rfl, rfl, s2.hg, by decide, by decide, by simp [seqIndex?], rfl, ?_⟩
          have G3 := s2.gg (o := .lst (r.map V.int)) G2
          have s3 : DrS D 0 tn r ls I (upd (upd H1 p (.lst [])) D.g (.lst (r.map V.int))) := s2.up G3.sub (by rw [upd_ne s1.dg]; exact s2.hd) upd_same (by rw [upd_ne s1.gl.symm]; exact s2.hl)
          refine ⟨_, rfl, D.d, _, rfl, s3.put_dig, g, rfl, ?_, hg1 g (List.mem_cons_self ..), fun x hx => hg1 x (List.mem_cons_of_mem _ hx), s3.gd G3⟩
          exact s3.up (s3.gd G3).sub upd_same (by rw [upd_ne s1.dg.symm]; exact s3.hg) (by rw [upd_ne s1.dl.symm]; exact s3.hl)
      · rw [decide_eq_false (fun z => c (V.int.inj z))]
        exact iteF ⟨dig, gs, rfl, s1, hd1, hg1, G1⟩
    · rintro σ H1 ⟨dig, gs, rfl, s1, hd1, hg1, G1⟩
      refine ⟨_, rfl, D.d, _, rfl, s1.get_dig, _, _, rfl, rfl, _, rfl, ?_⟩
      by_cases c : 0 < dig
      · rw [decide_eq_true c]
        refine iteT ⟨_, rfl, D.d, _, rfl, s1.get_dig, .inl ⟨_, rfl, _, rfl, _, _, rfl, rfl, hm0, ?_⟩⟩
        refine ⟨_, rfl, D.d, _, rfl, s1.get_dig, _, rfl, _, _, rfl, rfl, ⟨hm0, hm1⟩, _, rfl, D.d, _, rfl, s1.put_dig, _, rfl, ?_⟩
        refine k _ _ (Int.emod_nonneg _ (Int.ne_of_gt hm0)) (Int.emod_lt_of_pos _ hm0) (s1.gd G1) ⟨dig / many, tn, gs, ls, ?_, Int.ediv_nonneg hd1 (Int.le_of_lt hm0), ht0, by omega, hg1, hl0⟩
        exact s1.up (s1.gd G1).sub upd_same (by rw [upd_ne s1.dg.symm]; exact s1.hg) (by rw [upd_ne s1.dl.symm]; exact s1.hl)
      · rw [decide_eq_false c]
        refine iteF ?_
        -- the turn
        have G2 := s1.gd (o := .dK (drK D dig (tn + 1))) G1
        have s2 : DrS D dig (tn + 1) gs ls I (upd H1 D.d (.dK (drK D dig (tn + 1)))) := s1.up G2.sub upd_same (by rw [upd_ne s1.dg.symm]; exact s1.hg) (by rw [upd_ne s1.dl.symm]; exact s1.hl)
        refine ⟨_, rfl, D.d, _, rfl, s1.get_turn, _, _, rfl, rfl, _, s1.put_turn, ?_⟩
        refine ⟨_, rfl, D.d, _, rfl, s2.get_turn, ?_⟩
        -- a lump
        have ht1 : 0 ≤ tn + 1 := by omega
        refine ⟨fun σ H2 => ∃ (lump : Int), σ = [some (.ref D.d), some (.int many), none, some (.int (tn + 1)), some (.int lump), none] ∧ 0 ≤ lump ∧ DrS D dig (tn + 1) gs ls I H2 ∧ Grow (TD D) I H I H2, ?_, ?_⟩
        · refine ⟨_, rfl, D.d, _, rfl, s2.get_lumps, by decide, fun p hp => ⟨D.l, p, _, rfl, rfl, SqL.of (by rw [upd_ne (ne_of_none s2.hl hp)]; exact s2.hl), SqL.of upd_same, _, rfl, ?_⟩⟩
          have G3 : Grow (TD D) I H I (upd (upd H1 D.d (.dK (drK D dig (tn + 1)))) p (.lst [])) := G2.trans (Grow.mine G2.sub hp)
          have s3 : DrS D dig (tn + 1) gs ls I (upd (upd H1 D.d (.dK (drK D dig (tn + 1)))) p (.lst [])) := s2.put (fun t => s2.live p t hp) (G2.sub.free hp)
          cases ls with
          | nil => exact ⟨0, rfl, Int.le_refl 0, s3, G3⟩
          | cons l0 lr =>
            have hpos : (0 : Int) < ((List.map V.int (l0 :: lr)).length : Int) := by simp only [List.map_cons, List.length_cons]; omega
            have hi0 := Int.emod_nonneg (tn + 1) (Int.ne_of_gt hpos)
            have hi1 := Int.emod_lt_of_pos (tn + 1) hpos
            have hlt : ((tn + 1) % ((List.map V.int (l0 :: lr)).length : Int)).toNat < (l0 :: lr).length := by
              have e : (List.map V.int (l0 :: lr)).length = (l0 :: lr).length := List.length_map ..
              rw [e] at hi0 hi1 ⊢
              omega
            refine ⟨_, rfl, D.d, _, rfl, s3.get_lumps, _, rfl, .inl ⟨_, rfl, _, rfl, D.d, _, rfl, s3.get_lumps, D.l, _, rfl, .inl (SqL.of s3.hl), ?_⟩⟩
            refine ⟨_, _, rfl, rfl, hpos, D.l, _, _, .int ((l0 :: lr)[((tn + 1) % ((List.map V.int (l0 :: lr)).length : Int)).toNat]'hlt), rfl, rfl, SqL.of s3.hl, ?_, ?_⟩
            · have e : (tn + 1) % ((List.map V.int (l0 :: lr)).length : Int) = (((tn + 1) % ((List.map V.int (l0 :: lr)).length : Int)).toNat : Int) := (Int.toNat_of_nonneg hi0).symm
              refine at_of e ?_
              rw [List.getElem?_map, List.getElem?_eq_getElem hlt]
              rfl
            · exact ⟨_, rfl, hl0 _ (List.getElem_mem hlt), s3, G3⟩
        · rintro σ H2 ⟨lump, rfl, hlump, s3, G3⟩
          have hb : tn + 1 ≤ 1099511627776 := by
            have q : n < 1099511627776 := hn
            omega
          have m0 := Int.emod_nonneg lump (show (2147483629 : Int) ≠ 0 by decide)
          have m1 := Int.emod_lt_of_pos lump (show (0 : Int) < 2147483629 by decide)
          refine ⟨_, rfl, .inl ⟨_, rfl, _, _, rfl, rfl, (by show (0 : Int) < 2147483629; decide), _, rfl, _, _, rfl, rfl, .inl ⟨by decide, by decide⟩, ?_⟩⟩
          refine ⟨_, _, rfl, rfl, _, _, rfl, rfl, ⟨by decide, by decide, ?_⟩, .inl ⟨_, rfl, _, _, rfl, rfl, (by show (0 : Int) < 2147483647; decide), ?_⟩⟩
          · omega
          have q0 : (0 : Int) ≤ (lump % 2147483629 + 40009 * (tn + 1)) ^ (3 : Int).toNat % 2147483647 := Int.emod_nonneg _ (by decide)
          have q1 : (lump % 2147483629 + 40009 * (tn + 1)) ^ (3 : Int).toNat % 2147483647 < 2147483647 := Int.emod_lt_of_pos _ (by decide)
          revert q0 q1
          generalize (lump % 2147483629 + 40009 * (tn + 1)) ^ (3 : Int).toNat % 2147483647 = mixed
          intro q0 q1
          refine ⟨_, rfl, _, rfl, _, _, rfl, rfl, .inl ⟨by decide, by decide⟩, ?_⟩
          refine ⟨_, _, rfl, rfl, _, _, rfl, rfl, ⟨by decide, by decide, by omega⟩, .inl ⟨_, rfl, _, _, rfl, rfl, (by show (0 : Int) < 2147483629; decide), _, _, rfl, rfl, ⟨by decide, by decide⟩, .inl ⟨_, rfl, ?_⟩⟩⟩
          refine ⟨_, rfl, _, _, rfl, rfl, hm0, ?_⟩
          exact k _ _ (Int.emod_nonneg _ (Int.ne_of_gt hm0)) (Int.emod_lt_of_pos _ hm0) G3 ⟨dig, tn + 1, gs, ls, s3, hd1, ht1, by omega, hg1, hl0⟩

theorem getI0 {ns : List Int} {i : Nat} {v : V} (h : (ns.map V.int)[i]? = some v) : ∃ k, ns[i]? = some k ∧ v = .int k := by
  rw [List.getElem?_map] at h
  cases e : ns[i]? with
  | none => rw [e] at h; cases h
  | some k => rw [e] at h; exact ⟨k, rfl, (Option.some.inj h).symm⟩
/-- the source of draws of a script -/
def spBegun (K : PySem.W.Frag) : Sp := fun vs H Q _ => ∃ (I : Hp) (a : Addr) (ns : List Int), vs = [.ref a] ∧ Same I H ∧ SqL K I a (ns.map V.int) ∧ ns.length ≤ 63 ∧
  ∀ (D : DA) (I' H' : Hp), Grow No I H I' H' → Drw D 0 I' H' → Q (.ref D.d) H'
theorem abs_nn (i : Int) : 0 ≤ (if i < 0 then -i else i) := by split <;> omega
theorem ok_l_begun (T : Txt K mg) (F : FnAt K "_law_begun" "_law_begun" s_l_begun (He.ga K "_law_begun")) : Ok P w K mg base CX0 1 (He.ga K "_law_begun") ["_law_script"] (spBegun K) := by
  refine ok_of F sc_l_begun (fun _ _ _ _ _ _ us hl => match us, hl with | [_], _ => rfl) (fun vs H Q E h => ?_) (fun cdv A outer s H vs Q E hr h => ?_)
  · obtain ⟨_, _, _, rfl, _⟩ := h
    rfl
  · obtain ⟨I, a, ns, rfl, sb, hS, hl, k⟩ := h
    refine ⟨_, (pss_cons (ps_setLc (i := 1) (own := [("_law_lump", 2)]) (g := (gName 2)) rfl sc_l_begun.nd rfl rfl (sw_true rfl rfl rfl (by decide +kernel)) (pi_list (pv 0)) (blkOk_by (own := [("_law_lump", 2)]) (N := n_l_begun) (sc := defScope s_l_begun) (by decide +kernel)) (fun _ _ _ _ _ => (pg_name (i := 2) sc_l_begun.nd rfl (Or.inl rfl))) (fun _ _ _ _ _ => (pts_one (pt_cmpR op_ge (pe_callB call_abs (by rfl) T.b_abs (by decide +kernel) (pa_cons (pv 2) pa_nil)) (pe_op op_pow pe_int pe_int) (nomark _)))) (fun _ _ _ _ _ => (pe_op op_fdivW (pe_callB call_abs (by rfl) T.b_abs (by decide +kernel) (pa_cons (pv 2) pa_nil)) (pe_op op_pow pe_int pe_int))))
      (pss_one (ps_ret (pe_disp (pps_cons pe_str pe_int (pps_cons pe_str (pv 1) (pps_cons pe_str (pe_lc (own := [("_law_lump", 2)]) (g := (gName 2)) rfl sc_l_begun.nd (pi_list (pv 0)) (blkOk_by (own := [("_law_lump", 2)]) (N := n_l_begun) (sc := defScope s_l_begun) (by decide +kernel)) (fun _ _ _ _ _ => (pg_name (i := 2) sc_l_begun.nd rfl (Or.inl rfl))) (fun _ _ _ _ _ => pts_nil) (fun _ _ _ _ _ => (pe_op op_mod (pe_callTy call_int1 (by rfl) T.b_int (by decide +kernel) (pa_cons (pe_callB call_abs (by rfl) T.b_abs (by decide +kernel) (pa_cons (pv 2) pa_nil)) pa_nil)) (pe_op op_pow pe_int pe_int)))) (pps_cons pe_str pe_int pps_nil)))) (by rfl) (by rfl) (fun z => by cases z) (by decide))))), ?_⟩
    have hS1 : SqL K H a (ns.map V.int) := sb.seq hS
    refine ⟨_, rfl, a, rfl, ⟨_, hS1⟩, fun L hL => ?_⟩
    refine lc_gen (T := No) (I := I) (β := Int) (walk_list (K := K) (a := a) (xs := ns.map V.int)) (fun _ _ _ => True) (fun _ => Stable.triv) sb (fun _ z => z.elim) hL trivial (by rw [List.length_map]; omega) (fun i I' H' g _ => g.same.seq hS1)
      (fun _ o => ∀ y, o = some y → 0 ≤ y) ?_ ?_
    · rintro i x I' H' H'' hi g _ ⟨rfl, hx⟩ Kn Ky kn ky
      obtain ⟨z, hz, rfl⟩ := getI0 hx
      refine ⟨rfl, _, rfl, _, rfl, _, _, rfl, rfl, ⟨by decide, by decide, by decide⟩, _, _, rfl, rfl, _, rfl, ?_⟩
      refine ite2 (fun _ => ?_) (fun _ => kn (fun y e => nomatch e) I' H'' (Grow.refl g.sub) trivial)
      refine ⟨_, rfl, _, rfl, _, _, rfl, rfl, ⟨by decide, by decide, by decide⟩, _, _, rfl, rfl, ⟨by decide, by decide⟩, ?_⟩
      exact ky _ (fun y e => by cases e; exact Int.ediv_nonneg (abs_nn z) (by decide)) _ I' H'' (Grow.refl g.sub) trivial rfl
    · intro os I1 H1 vs' hlen hP g1 _ ow hp
      have hg : ∀ z ∈ os.filterMap id, (0 : Int) ≤ z := fun z hz => by
        obtain ⟨o, ho, e⟩ := List.mem_filterMap.mp hz
        obtain ⟨j, hj, e2⟩ := List.mem_iff_getElem.mp ho
        exact hP j o (by rw [List.getElem?_eq_getElem hj, e2]) z e
      have e1 := Paired.ints hp
      subst e1
      -- the dict, with the second list made within its display
      intro p hp1
      have G2 := g1.trans (Grow.mine (o := .dK []) g1.sub hp1)
      have ow2 := ow.grow (Grow.mine (T := No) (o := .dK []) g1.sub hp1)
      have op : Own No H p (.dK []) I1 (upd H1 p (.dK [])) := Own.new g1.sub (.inr g1.live) (fun _ z => z.elim) hp1
      have npL : p ≠ L := (ne_of_none ow.at_ hp1).symm
      refine ⟨_, rfl, _, rfl, a, rfl, ⟨_, G2.same.seq hS1⟩, fun M hM => ?_⟩
      refine lc_gen (T := No) (I := I1) (β := Int) (walk_list (K := K) (a := a) (xs := ns.map V.int)) (fun _ _ _ => True) (fun _ => Stable.triv) G2.sub (fun _ z => z.elim) hM trivial (by rw [List.length_map]; omega) (fun i I' H' g _ => g.same.seq (G2.same.seq hS1))
        (fun _ o => ∀ y, o = some y → 0 ≤ y) ?_ ?_
      · rintro i x I' H' H'' hi g _ ⟨rfl, hx⟩ Kn Ky kn ky
        obtain ⟨z, hz, rfl⟩ := getI0 hx
        refine ⟨rfl, lc_yes ?_⟩
        refine ⟨_, rfl, _, rfl, .inl ⟨_, rfl, _, _, rfl, rfl, ⟨by decide, by decide, by decide⟩, _, _, rfl, rfl, (by show (0 : Int) < 10 ^ Int.toNat 18; decide), ?_⟩⟩
        exact ky _ (fun y e => by cases e; exact Int.emod_nonneg _ (by decide)) _ I' H'' (Grow.refl g.sub) trivial rfl
      · intro os2 I2 H2 vs2 hlen2 hP2 g2 _ owM hp2
        have hl2 : ∀ z ∈ os2.filterMap id, (0 : Int) ≤ z := fun z hz => by
          obtain ⟨o, ho, e⟩ := List.mem_filterMap.mp hz
          obtain ⟨j, hj, e2⟩ := List.mem_iff_getElem.mp ho
          exact hP2 j o (by rw [List.getElem?_eq_getElem hj, e2]) z e
        have e2 := Paired.ints hp2
        subst e2
        have ow3 := ow2.grow g2
        have op3 := op.grow g2
        have nML : M ≠ L := (ne_of_none ow2.at_ hM).symm
        have nMp : M ≠ p := (ne_of_none op.at_ hM).symm
        refine ⟨op3.at_, [(.inr "digits", .int 0), (.inr "great", .ref L), (.inr "lumps", .ref M), (.inr "turn", .int 0)], rfl, (by show 4 ≤ 15; decide), ?_⟩
        have em : mergeK [] [((.inr "digits" : Key), V.int 0), ((.inr "great" : Key), V.ref L), ((.inr "lumps" : Key), V.ref M), ((.inr "turn" : Key), V.int 0)] = drK ⟨p, L, M⟩ 0 0 := merge_nodup (show ([(.inr "digits" : Key), .inr "great", .inr "lumps", .inr "turn"]).Nodup by decide +kernel)
        rw [em]
        have opg : Own No H p (.dK []) I2 H2 := op3
        have G4 : Grow No I H I2 (upd H2 p (.dK (drK ⟨p, L, M⟩ 0 0))) := (G2.trans g2).put opg
        refine k ⟨p, L, M⟩ I2 _ G4 ⟨0, 0, _, _, ⟨?_, ?_, ?_, ?_, npL, nMp.symm, nML.symm, upd_same, by rw [upd_ne npL.symm]; exact ow3.at_, by rw [upd_ne nMp]; exact owM.at_⟩, Int.le_refl 0, Int.le_refl 0, Int.le_refl 0, hg, hl2⟩
        · exact G4.sub
        · exact op3.ni
        · exact ow3.ni
        · exact owM.ni
end
end Nw

namespace Nw
open PySem PySem.Spec PyProof.Rows L2
/-! ### draws of the law: a pick, a drawn order of any things -/
abbrev sp_l_next (K : PySem.W.Frag) : Sp := spNext
abbrev sp_l_begun (K : PySem.W.Frag) : Sp := spBegun K
def sp_l_pick (K : PySem.W.Frag) : Sp := fun vs H Q _ => ∃ (I : Hp) (D : DA) (n : Nat) (v : V), vs = [.ref D.d, v] ∧ Drw D n I H ∧ n < lim ∧
  ((∃ p xs, v = .ref p ∧ ¬ TD D p ∧ H p = some (.lst xs) ∧ xs ≠ [] ∧ xs.length ≤ 1000000 ∧ ∀ (j : Nat) x H', xs[j]? = some x → Grow (TD D) I H I H' → Drw D (n + 1) I H' → Q x H') ∨
   (∃ l, v = .str (mk l) ∧ l ≠ [] ∧ l.length ≤ 1000000 ∧ ∀ (j : Nat) c H', l[j]? = some c → Grow (TD D) I H I H' → Drw D (n + 1) I H' → Q (.str (sg c)) H'))
theorem atI_of {α : Type} {xs : List α} {r : Int} (h0 : 0 ≤ r) (h1 : r < xs.length) : ∃ x, xs[r.toNat]? = some x ∧ atI xs r = some x := by
  have hlt : r.toNat < xs.length := by omega
  refine ⟨xs[r.toNat], List.getElem?_eq_getElem hlt, ?_⟩
  rw [atI_nat' (j := r.toNat) (by omega)]
  exact List.getElem?_eq_getElem hlt
abbrev sgs (l : List Nat) : List V := l.map fun c => V.str (sg c)
def sp_l_shuffled (K : PySem.W.Frag) : Sp := fun vs H Q _ => ∃ (α : Type) (f : α → V) (I : Hp) (D : DA) (n : Nat) (p : Addr) (l : List α), vs = [.ref D.d, .ref p] ∧ Drw D n I H ∧ n + l.length < lim ∧ l.length ≤ 1000 ∧ SqL K H p (l.map f) ∧
  ∀ (l' : List α) q I' H', l'.Perm l → Grow (TD D) I H I' H' → Drw D (n + l.length) I' H' → I' q = some (.lst (l'.map f)) → Q (.ref q) H'
def sp_l_some (K : PySem.W.Frag) : Sp := fun vs H Q _ => ∃ (I : Hp) (D : DA) (n many : Nat), vs = [.ref D.d, .int many] ∧ Drw D n I H ∧ n + 5 < lim ∧ 1 ≤ many ∧ many ≤ 1000 ∧
  ∀ (l : List Nat) I' H', l.Nodup → (∀ c ∈ l, 97 ≤ c ∧ c ≤ 100) → l ≠ [] → l.length ≤ many → Grow (TD D) I H I' H' → Drw D (n + 5) I' H' → Q (.str (mk l)) H'
theorem cut_take (xs : List V) (k : Nat) : cutV xs none (some (k : Int)) = xs.take k := by
  unfold cutV HT.sIx
  simp only [List.drop_zero, Nat.sub_zero]
  by_cases h : k ≤ xs.length
  · congr 1
    rw [if_neg (by omega)]
    omega
  · rw [List.take_of_length_le (by omega : xs.length ≤ k)]
    apply List.take_of_length_le
    rw [if_neg (by omega)]
    omega
theorem idx_of {k : Int} {n : Nat} (h0 : 0 ≤ k) (hn : k < n) : seqIndex? k n = some k.toNat := by
  unfold seqIndex?
  split <;> simp_all
  all_goals omega
theorem perm_erase {α : Type} : ∀ {l : List α} {i : Nat} (h : i < l.length), (l[i] :: l.eraseIdx i).Perm l
  | [], _, h => absurd h (Nat.not_lt_zero _)
  | _ :: _, 0, _ => List.Perm.refl _
  | x :: r, i + 1, h => by
    show ((r[i]'(Nat.lt_of_succ_lt_succ h)) :: x :: r.eraseIdx i).Perm (x :: r)
    exact (List.Perm.swap _ _ _).trans ((perm_erase (Nat.lt_of_succ_lt_succ h)).cons x)
theorem map_erase {α β : Type} (f : α → β) : ∀ (l : List α) (i : Nat), (l.map f).eraseIdx i = (l.eraseIdx i).map f
  | [], _ => rfl
  | _ :: _, 0 => rfl
  | x :: r, i + 1 => congrArg (f x :: ·) (map_erase f r i)
section
variable {P : Program} {w : World} {K : PySem.W.Frag} {mg : Str → Option Value} {base : Heap}
theorem ok_l_pick (T : Txt K mg) (F : FnAt K "_law_pick" "_law_pick" s_l_pick (He.ga K "_law_pick")) (G_l_next : Ok P w K mg base CX0 1 (He.ga K "_law_next") ["_law_draw", "_law_many"] (sp_l_next K)) : Ok P w K mg base CX0 2 (He.ga K "_law_pick") ["_law_draw", "_law_some_here"] (sp_l_pick K) := by
  refine ok_of F sc_l_pick (fun _ _ _ _ _ _ us hl => match us, hl with | [_, _], _ => rfl) (fun vs H Q E h => ?_) (fun cdv A outer s H vs Q E hr h => ?_)
  · obtain ⟨_, _, _, _, rfl, _⟩ := h
    rfl
  · obtain ⟨I, D, n, v, rfl, dr, hn, k⟩ := h
    refine ⟨_, (pss_one (ps_ret (pe_ix ix_seq (pv 1) (pe_callC G_l_next (hr.mono (by decide)) T.g__law_next (pa_cons (pv 0) (pa_cons (pe_callB call_len (by rfl) T.b_len (by decide +kernel) (pa_cons (pv 1) pa_nil)) pa_nil))) (fun _ _ => rfl)))), ?_⟩
    rcases k with ⟨p, xs, rfl, ht, hp, hne, hz, k⟩ | ⟨l, rfl, hne, hz, k⟩
    · have hpos : 0 < xs.length := List.length_pos_iff.mpr hne
      refine ⟨_, rfl, _, rfl, _, rfl, _, _, rfl, .inl ⟨xs, SqL.of hp, rfl⟩, I, D, n, _, rfl, dr, by omega, by omega, hn, fun r H' h0 h1 g d => ?_⟩
      obtain ⟨x, e1, e2⟩ := atI_of h0 h1
      exact .inl ⟨p, xs, r, x, rfl, rfl, SqL.of (g.keep p _ ht hp), e2, k _ x H' e1 g d⟩
    · have hpos : 0 < l.length := List.length_pos_iff.mpr hne
      refine ⟨_, rfl, _, rfl, _, rfl, _, _, rfl, ⟨by rw [mk_len, sizeLine_eq]; omega, (mk_len l).symm⟩, I, D, n, _, rfl, dr, by omega, by omega, hn, fun r H' h0 h1 g d => ?_⟩
      obtain ⟨x, e1, e2⟩ := atI_of h0 h1
      exact .inr (.inr ⟨mk l, r, x, rfl, rfl, by rw [mk_len, sizeLine_eq]; omega, by rw [mk_cps]; exact e2, k _ x H' e1 g d⟩)
theorem ok_l_shuffled (T : Txt K mg) (F : FnAt K "_law_shuffled" "_law_shuffled" s_l_shuffled (He.ga K "_law_shuffled")) (G_l_next : Ok P w K mg base CX0 1 (He.ga K "_law_next") ["_law_draw", "_law_many"] (sp_l_next K)) : Ok P w K mg base CX0 2 (He.ga K "_law_shuffled") ["_law_draw", "_law_some_here"] (sp_l_shuffled K) := by
  refine ok_of F sc_l_shuffled (fun _ _ _ _ _ _ us hl => match us, hl with | [_, _], _ => rfl) (fun vs H Q E h => ?_) (fun cdv A outer s H vs Q E hr h => ?_)
  · obtain ⟨_, _, _, _, _, _, _, rfl, _⟩ := h
    rfl
  · obtain ⟨α, f, I, D, n, p, l, rfl, dr, hn, hl, hS, k⟩ := h
    refine ⟨_, (pss_cons (ps_par (i := 2) (j := 3) (by rfl) sc_l_shuffled.nd rfl rfl (by decide) rfl rfl (pa_cons (pe_callTy call_list_of (by rfl) T.b_list (by decide +kernel) (pa_cons (pv 1) pa_nil)) (pa_cons (pe_lst pa_nil) pa_nil)) (by rfl))
      (pss_cons (ps_while PassesOwn.never (pt_cmpR (op_neNil hr.units) (pv 2) (pe_lst pa_nil) (nomark _)) (pss_one (ps_expr (pe_bm PySem.F.plainAttrs_list PySem.F.slot_list_append PySem.F.type_list_append mt_append (pv 3) (pa_cons (pe_bm PySem.F.plainAttrs_list PySem.F.slot_list_pop PySem.F.type_list_pop mt_popAt (pv 2) (pa_cons (pe_callC G_l_next (hr.mono (by decide)) T.g__law_next (pa_cons (pv 0) (pa_cons (pe_callB call_len_seq (by rfl) T.b_len (by decide +kernel) (pa_cons (pv 2) pa_nil)) pa_nil))) pa_nil)) pa_nil)))))
      (pss_one (ps_ret (pv 3))))), ?_⟩
    refine ⟨_, rfl, p, _, rfl, .inl hS, fun a ha => ⟨Nat.zero_le _, fun b hb => ⟨_, _, rfl, ?_⟩⟩⟩
    have g1 : Grow (TD D) I H I (upd H a (.lst (l.map f))) := Grow.mine dr.sub ha
    have o1 : Own (TD D) H a (.lst (l.map f)) I (upd H a (.lst (l.map f))) := Own.new dr.sub (.inl (Same.refl H)) dr.live ha
    have g2 : Grow (TD D) I (upd H a (.lst (l.map f))) I (upd (upd H a (.lst (l.map f))) b (.lst [])) := Grow.mine g1.sub hb
    have o1' := o1.grow g2
    have o2 : Own (TD D) H b (.lst []) I (upd (upd H a (.lst (l.map f))) b (.lst [])) := Own.new g1.sub (.inr g1.live) (fun x t => g1.live x (dr.live x t)) hb
    have nab : a ≠ b := ne_of_none o1.at_ hb
    have d2 := (dr.grow (Grow.mine dr.sub ha)).grow (Grow.mine (o := .lst []) g1.sub hb)
    refine ⟨fun m σ H' => ∃ (lf fd : List α), m = lf.length ∧ σ = [some (.ref D.d), some (.ref p), some (.ref a), some (.ref b)] ∧ (fd ++ lf).Perm l ∧ Grow (TD D) I H I H' ∧ Own (TD D) H a (.lst (lf.map f)) I H' ∧ Own (TD D) H b (.lst (fd.map f)) I H' ∧ Drw D (n + fd.length) I H', ⟨_, l, [], rfl, rfl, by simp, g1.trans g2, o1', o2, d2⟩, ?_⟩
    rintro m σ H1 ⟨lf, fd, rfl, rfl, hp, g3, oa, ob, d3⟩
    refine ⟨_, rfl, Nat.zero_le _, fun q hq => ⟨a, q, _, rfl, rfl, SqL.of (by rw [upd_ne (ne_of_none oa.at_ hq)]; exact oa.at_), SqL.of upd_same, ?_⟩⟩
    have gq : Grow (TD D) I H1 I (upd H1 q (.lst [])) := Grow.mine g3.sub hq
    have oa2 := oa.grow gq
    have ob2 := ob.grow gq
    have d4 := d3.grow (Grow.mine (o := .lst []) g3.sub hq)
    have g4 := g3.trans gq
    have hlen := hp.length_eq
    rw [List.length_append] at hlen
    match lf, hp, oa, oa2, hlen with
    | [], hp, oa, oa2, hlen =>
      simp only [List.length_nil] at hlen
      exact ⟨_, rfl, iteF ⟨_, rfl, k fd b _ _ (by rw [List.append_nil] at hp; exact hp) (g4.give ob2) ((d4.give ob2).mono (by omega)) upd_same⟩⟩
    | x :: r, hp, oa, oa2, hlen =>
      simp only [List.length_cons] at hlen
      have e1 : (((x :: r).map f).length : Int) = ((r.length + 1 : Nat) : Int) := by simp
      refine ⟨_, rfl, iteT ⟨fun σ' H' => ∃ (lf fd' : List α), lf.length = r.length ∧ σ' = [some (.ref D.d), some (.ref p), some (.ref a), some (.ref b)] ∧ (fd' ++ lf).Perm l ∧ Grow (TD D) I H I H' ∧ Own (TD D) H a (.lst (lf.map f)) I H' ∧ Own (TD D) H b (.lst (fd'.map f)) I H' ∧ Drw D (n + fd'.length) I H',
        fun σ' H' ⟨lf, fd', e, z⟩ => ⟨lf.length, by simp only [List.length_cons]; omega, lf, fd', rfl, z⟩, ?_⟩⟩
      refine ⟨_, rfl, .inl ⟨rfl, _, SqL.of ob2.at_⟩, _, rfl, .inl ⟨rfl, _, SqL.of oa2.at_⟩, _, rfl, _, rfl, _, _, rfl, .inl (SqL.of oa2.at_), I, D, n + fd.length, _, rfl, d4, (by rw [e1]; omega), (by rw [e1]; omega), (by omega), fun z H5 h0 h1 g5 d5 => ?_⟩
      rw [e1] at h1
      have oa5 := oa2.grow g5
      have ob5 := ob2.grow g5
      have hz : z.toNat < (x :: r).length := by simp only [List.length_cons]; omega
      refine ⟨a, _, z, z.toNat, f ((x :: r)[z.toNat]'hz), rfl, rfl, oa5.at_, by omega, by omega, idx_of h0 (by rw [e1]; exact h1), by rw [List.getElem?_map, List.getElem?_eq_getElem hz]; rfl, ?_⟩
      have ob6 := ob5.other (m := a) (o' := .lst (((x :: r).map f).eraseIdx z.toNat)) nab.symm
      refine ⟨b, _, _, rfl, rfl, ob6.at_, by rw [sizeLine_eq]; simp; omega, (x :: r).eraseIdx z.toNat, fd ++ [(x :: r)[z.toNat]'hz], ?_, rfl, ?_, ((g4.trans g5).put oa5).put ob6, ?_, ?_, ?_⟩
      · rw [List.length_eraseIdx_of_lt hz]; rfl
      · rw [List.append_assoc]
        refine List.Perm.trans ?_ hp
        exact List.Perm.append_left fd (perm_erase hz)
      · have z1 := oa5.put (o' := .lst (((x :: r).map f).eraseIdx z.toNat))
        have e2 : ((x :: r).map f).eraseIdx z.toNat = ((x :: r).eraseIdx z.toNat).map f := map_erase _ _ _
        rw [e2] at z1 ⊢
        exact z1.other nab
      · have z1 := ob6.put (o' := .lst (fd.map f ++ [f ((x :: r)[z.toNat]'hz)]))
        rw [show (fd ++ [(x :: r)[z.toNat]'hz]).map f = fd.map f ++ [f ((x :: r)[z.toNat]'hz)] by simp]
        exact z1
      · rw [List.length_append, List.length_singleton, ← Nat.add_assoc]
        exact (d5.put oa5).put ob6
theorem ok_l_some (T : Txt K mg) (F : FnAt K "_law_some" "_law_some" s_l_some (He.ga K "_law_some")) (G_l_shuffled : Ok P w K mg base CX0 2 (He.ga K "_law_shuffled") ["_law_draw", "_law_some_here"] (sp_l_shuffled K)) (G_l_next : Ok P w K mg base CX0 1 (He.ga K "_law_next") ["_law_draw", "_law_many"] (sp_l_next K)) : Ok P w K mg base CX0 3 (He.ga K "_law_some") ["_law_draw", "_law_many"] (sp_l_some K) := by
  refine ok_of F sc_l_some (fun _ _ _ _ _ _ us hl => match us, hl with | [_, _], _ => rfl) (fun vs H Q E h => ?_) (fun cdv A outer s H vs Q E hr h => ?_)
  · obtain ⟨_, _, _, _, rfl, _⟩ := h
    rfl
  · obtain ⟨I, D, n, many, rfl, dr, hn, hm1, hm2, k⟩ := h
    refine ⟨_, (pss_one (ps_ret (pe_join pe_str (pe_slice sl_list (pe_callC G_l_shuffled (hr.mono (by decide)) T.g__law_shuffled (pa_cons (pv 0) (pa_cons (pe_callTy (call_list_sg rfl) (by rfl) T.b_list (by decide +kernel) (pa_cons pe_str pa_nil)) pa_nil))) po_none (po_some (pe_op op_add pe_int (pe_callC G_l_next (hr.mono (by decide)) T.g__law_next (pa_cons (pv 0) (pa_cons (pv 1) pa_nil))))))))), ?_⟩
    refine ⟨⟨_, rfl⟩, _, rfl, [97, 98, 99, 100], rfl, by decide, fun p hp => ?_⟩
    have g1 : Grow (TD D) I H I (upd H p (.lst (sgs [97, 98, 99, 100]))) := Grow.mine dr.sub hp
    refine ⟨Nat, (fun c => V.str (sg c)), I, D, n, p, [97, 98, 99, 100], rfl, dr.grow (Grow.mine dr.sub hp), (by show n + 4 < lim; omega), by decide, SqL.of upd_same, fun l' q I2 H2 pm g2 d2 hq => ?_⟩
    refine ⟨_, rfl, _, rfl, I2, D, n + 4, many, rfl, d2, by omega, by omega, by omega, fun r H3 h0 h1 g3 d3 => ⟨_, _, rfl, rfl, _, rfl, q, _, rfl, SqL.of (g3.sub _ _ (g3.view _ _ hq)), fun u hu => ?_⟩⟩
    have e1 : (1 + r : Int) = ((1 + r.toNat : Nat) : Int) := by omega
    rw [e1, cut_take]
    have g4 : Grow (TD D) I2 H3 I2 (upd H3 u (.lst (List.take (1 + r.toNat) (sgs l')))) := Grow.mine g3.sub hu
    refine ⟨"", u, (l'.take (1 + r.toNat)).map sg, rfl, rfl, .inl (SqL.of (by rw [upd_same, List.map_take, List.map_take, List.map_map] <;> rfl)), ?_, ?_⟩
    · have z := pm.length_eq
      rw [List.map_map]
      show ((l'.take (1 + r.toNat)).map fun _ => 1).sum + _ * 0 ≤ _
      rw [sum_ones, List.length_take]
      omega
    rw [join_signs]
    have hl := pm.length_eq
    simp only [List.length_cons, List.length_nil] at hl
    refine k (l'.take (1 + r.toNat)) I2 _ ?_ ?_ ?_ ?_ ((g1.trans g2).trans (g3.trans g4)) (d3.mine hu)
    · exact (pm.nodup_iff.mpr (by decide)).sublist (List.take_sublist _ _)
    · intro c hc
      have z := pm.mem_iff.mp (List.mem_of_mem_take hc)
      simp at z
      omega
    · intro z
      have z1 := congrArg List.length z
      rw [List.length_take, List.length_nil] at z1
      omega
    · rw [List.length_take]
      omega
end
end Nw

namespace Nw
open PySem PySem.Spec PyProof.Rows L2
/-! ### the law's draws, for the calculus -/
section
variable {f : Fr} {a : Amb} {α δ : Type} {σ : L2.St} {te td : TE} {K : PySem.W.Frag} {n : Nat} {I H : Hp} {Q : VK} {D : DA} {M : δ → Nat → Prop}
theorem d_pickL [Rep α] {xs : List α} {fr : α → DW δ} (df : DFr f D) (hd : IsDr td σ D) (h : Stn f a n I H) (E : EvP f a (rl f.T) te σ xs) (e : bindD (F_pick xs) fr n M) (k : ∀ y v n' I1 H1, fr y n' M → Stn f (a.rep v y) n' I1 H1 → Q v H1) : tCall (sp_l_pick K) [] E0 (tCons td (tCons te tNil)) σ H Q :=
  hd _ _ (E n I H h _ fun w I1 H1 g r => by
    obtain ⟨p, vs, rfl, hp, ht, hv⟩ := r
    obtain ⟨⟨h1, h2, h3⟩, e⟩ := e
    have h' := h.grow g
    have hl := Nw.Paired.len hv
    refine ⟨I1, D, n, _, rfl, df.dr h'.r, h3, .inl ⟨p, vs, rfl, by rw [← df.eT]; exact ht, hp, fun z => h1 (List.length_eq_zero_iff.mp (by rw [← hl, z]; rfl)), by omega, fun j v H2 hj g2 d2 => ?_⟩⟩
    obtain ⟨x, hx, hr⟩ := Nw.Paired.at' hv hj
    exact k x v _ I1 H2 (e x (List.mem_of_getElem? hx)) ((h'.drawn df g2 d2).rep hr))
theorem d_pickT {x : Tx} {fr : Sg → DW δ} (df : DFr f D) (hd : IsDr td σ D) (h : Stn f a n I H) (E : EvP f a rv te σ x) (e : bindD (F_pick (sgL x.l)) fr n M) (k : ∀ y v n' I1 H1, fr y n' M → Stn f (a.rep v y) n' I1 H1 → Q v H1) : tCall (sp_l_pick K) [] E0 (tCons td (tCons te tNil)) σ H Q :=
  hd _ _ (E n I H h _ fun w I1 H1 g r => by
    obtain ⟨rfl, hz⟩ := r
    obtain ⟨⟨h1, h2, h3⟩, e⟩ := e
    have h' := h.grow g
    refine ⟨I1, D, n, _, rfl, df.dr h'.r, h3, .inr ⟨x.l, rfl, fun z => h1 (by rw [z]; rfl), by omega, fun j c H2 hj g2 d2 => ?_⟩⟩
    exact k ⟨c⟩ _ _ I1 H2 (e ⟨c⟩ (List.mem_map_of_mem (List.mem_of_getElem? hj))) ((h'.drawn df g2 d2).rep rfl))
theorem d_shuffled [Rep α] {xs : List α} {fr : List α → DW δ} (df : DFr f D) (hd : IsDr td σ D) (h : Stn f a n I H) (E : EvP f a (rl f.T) te σ xs) (e : bindD (F_shuffled xs) fr n M) (k : ∀ y v n' I1 H1, fr y n' M → Stn f (a.rep v y) n' I1 H1 → Q v H1) : tCall (sp_l_shuffled K) [] E0 (tCons td (tCons te tNil)) σ H Q :=
  hd _ _ (E n I H h _ fun w I1 H1 g r => by
    obtain ⟨p, vs, rfl, hp, ht, hv⟩ := r
    obtain ⟨⟨h1, h2⟩, e⟩ := e
    have h' := h.grow g
    have hl := Nw.Paired.len hv
    have hzl : (vs.zip xs).length = xs.length := by rw [List.length_zip, hl, Nat.min_self]
    have hz1 : (vs.zip xs).map Prod.fst = vs := List.map_fst_zip (by omega)
    have hz2 : (vs.zip xs).map Prod.snd = xs := List.map_snd_zip (by omega)
    have hzr : ∀ q ∈ vs.zip xs, Rep.is I1 q.1 q.2 := fun q hq => by
      obtain ⟨j, hj⟩ := List.getElem?_of_mem hq
      obtain ⟨h3, h4⟩ := List.getElem?_zip_eq_some.mp hj
      obtain ⟨u, h5, h6⟩ := Nw.Paired.at hv h4
      rw [h3] at h5
      cases h5
      exact h6
    refine ⟨V × α, Prod.fst, I1, D, n, p, vs.zip xs, rfl, df.dr h'.r, by omega, by omega, SqL.of (by rw [hz1]; exact hp), fun l' q I2 H2 pm g2 d2 hq => ?_⟩
    have hp2 : ∀ l : List (V × α), (∀ u ∈ l, Rep.is I2 u.1 u.2) → Paired (Rep.is I2) (l.map Prod.fst) (l.map Prod.snd) := fun l => by
      induction l with
      | nil => intro _; exact .nil
      | cons u l ih => intro hu; exact .cons (hu u (List.mem_cons_self ..)) (ih fun x hx => hu x (List.mem_cons_of_mem _ hx))
    have e3 := e (l'.map Prod.snd) (by have := pm.map Prod.snd; rwa [hz2] at this)
    rw [hzl] at d2
    exact k (l'.map Prod.snd) _ _ I2 H2 e3 ((h'.drawn df g2 d2).rep ⟨q, _, rfl, hq, hp2 l' fun u hu => Rep.mono g2.view (hzr u (pm.mem_iff.mp hu))⟩))
theorem d_some {i : Int} {fr : Tx → DW δ} (df : DFr f D) (hd : IsDr td σ D) (h : Stn f a n I H) (E : EvP f a rv te σ i) (e : bindD (F_some i) fr n M) (k : ∀ y v n' I1 H1, fr y n' M → Stn f (a.rep v y) n' I1 H1 → Q v H1) : tCall (sp_l_some K) [] E0 (tCons td (tCons te tNil)) σ H Q :=
  hd _ _ (E n I H h _ fun w I1 H1 g r => by
    cases (show w = V.int i from r)
    obtain ⟨⟨h1, h2, h3⟩, e⟩ := e
    have h' := h.grow g
    have ei : i = ((i.toNat : Nat) : Int) := by omega
    refine ⟨I1, D, n, i.toNat, by rw [← ei] <;> rfl, df.dr h'.r, by omega, by omega, by omega, fun l I2 H2 nd h97 hne hl g2 d2 => ?_⟩
    exact k ⟨l⟩ _ _ I2 H2 (e l nd h97 hne (by omega)) ((h'.drawn df g2 d2).rep ⟨rfl, by show l.length ≤ 100000; omega⟩))
end
end Nw

namespace Nw
open PySem PySem.Spec PyProof.Rows L2
section
variable {P : Program} {w : World} {K : PySem.W.Frag} {mg : Str → Option Value} {base : Heap}
def F_is_process (thing1 : (Dk K)) : (Option Bool) := needP ((((!(Dt.isStr (Dk.d thing1))) = false → Dt.sized (Dk.d thing1) = true)) ∧ (((!(Dt.isStr (Dk.d thing1))) = false → ((decide ((1 : Int) ≤ (Dt.len (Dk.d thing1) : Int))) = true → Dt.sized (Dk.d thing1) = true)))) <| if ((!(Dt.isStr (Dk.d thing1))) || (!((decide ((1 : Int) ≤ (Dt.len (Dk.d thing1) : Int))) && (decide ((Dt.len (Dk.d thing1) : Int) ≤ (6 : Int)))))) = true then ((some false)) else (needP ((Dt.isStr (Dk.d thing1) = true) ∧ ((sgL ((Dt.tx (Dk.d thing1)) : Tx).l).length ≤ 16777216)) <| (some (List.all (List.map (fun x9 : Sg => (decide (Sg.c x9 ∈ ((tx [97, 98, 99, 100, 101, 102, 103, 104, 105, 106, 107, 108, 109, 110, 111, 112, 113, 114, 115, 116, 117, 118, 119, 120, 121, 122]) : Tx).l))) (sgL ((Dt.tx (Dk.d thing1)) : Tx).l)) id)))
def sp_is_process (K : PySem.W.Frag) : Sp := spP (fun z : (Dk K) × Unit => (Nw.F_is_process (K := K)) z.1)
theorem ok_is_process (T : Txt K mg) (F : FnAt K "is_process" "is_process" s_is_process (He.ga K "is_process"))  : Ok P w K mg base CX0 1 (He.ga K "is_process") ["thing"] (sp_is_process K) := by
  refine ok_of F sc_is_process (fun _ _ _ _ _ _ us hl => match us, hl with | [_], _ => rfl) (fun vs H Q E h => ?_) (fun cdv A outer s H vs Q E hr h => ?_)
  · obtain ⟨_, ⟨_, _⟩, _, ⟨_, _, rfl, _, rfl⟩, _⟩ := h
    rfl
  · obtain ⟨I, ⟨thing1, _⟩, y, ⟨v2, _, rfl, h_thing1, rfl⟩, sb, hF, k⟩ := h
    have h := ((stn0 sb).rep h_thing1)
    have e : (Nw.F_is_process (K := K)) thing1 = some y := hF
    unfold Nw.F_is_process at e
    have r_thing1 := rep_last h
    refine ⟨_, (pss_cons (ps_if (PW.pt (pw_or (pt_not (pt_val (pe_callB call_isi (by rfl) T.b_isinstance (by decide +kernel) (pa_cons (pv 0) (pa_cons (pe_bltn (v := .ty "str") rfl T.b_str (by decide +kernel) rfl) pa_nil))))) (pw_or1 (pt_not (pt_chain op_le op_le pe_int (pe_callB call_len (by rfl) T.b_len (by decide +kernel) (pa_cons (pv 0) pa_nil)) (pe_gint T.c_MOST_SIGNS)))))) (pss_one (ps_ret pe_bl)) pss_nil)
      (pss_one (ps_ret (pe_callB (cr_all rfl) (by rfl) T.b_all (by decide +kernel) (pa_cons (pe_lc (own := [("sign", 1)]) (g := (gName 1)) rfl sc_is_process.nd (pi_str (pv 0)) (blkOk_by (own := [("sign", 1)]) (N := n_is_process) (sc := defScope s_is_process) (by decide +kernel)) (fun _ _ _ _ _ => (pg_name (i := 1) sc_is_process.nd rfl (Or.inl rfl))) (fun _ _ _ _ _ => pts_nil) (fun _ _ _ _ _ => (pe_cmpR op_in_sign (pv 1) (pe_gstr T.c_SIGNS) rfl))) pa_nil))))), ?_⟩
    obtain ⟨⟨q4, q6⟩, e⟩ := need_ok e
    refine p_ifs h (eb_or (eb_not (eb_val (ep_isiS (ep_var rfl fun I γ => r_thing1 I γ)))) (fun c3 => (eb_not (eb_test (ep_chain (os_IB rfl) (os_IB rfl) ep_int (ep_b1 (c_lenDt (q4 c3)) (ep_var rfl fun I γ => r_thing1 I γ)) (fun c5 => ep_int)))))) e (fun c7 e I1 H1 h => ?_) (fun c7 e I1 H1 h => ?_)
    · exact st_ret h ep_bl (fun v I1 H1 h r => k v I1 H1 h.g ((Option.some.inj e) ▸ r))
    · refine next_of ?_
      obtain ⟨⟨q8, q11⟩, e⟩ := need_ok e
      exact st_ret h (ep_b1 c_all (EvP.rl (EvP.cast (ep_lc (b := fun x9 : Sg => true) (e := fun x9 : Sg => (decide (Sg.c x9 ∈ ((tx [97, 98, 99, 100, 101, 102, 103, 104, 105, 106, 107, 108, 109, 110, 111, 112, 113, 114, 115, 116, 117, 118, 119, 120, 121, 122]) : Tx).l))) (ei_str (ep_cx (ep_var rfl fun I γ => r_thing1 I γ) (cv_asT (q8)))) (q11) (fun x9 hx10 => bd_name) (fun x9 hx10 σ2 a2 z => by obtain ⟨v12, rfl, rfl⟩ := z; exact ⟨rfl, eb_yes, fun hb14 => (ep_op os_inS (ep_var rfl fun I γ => And.right γ) (ep_txc (by rfl) (by decide)))⟩)) fm_map))) (fun v I1 H1 h r => k v I1 H1 h.g ((Option.some.inj e) ▸ r))
def F_is_channel (thing1 : (Dk K)) : (Option Bool) := needP (((!(Dt.isTup (Dk.d thing1))) = false → Dt.sized (Dk.d thing1) = true)) <| if ((!(Dt.isTup (Dk.d thing1))) || (!decide ((Dt.len (Dk.d thing1) : Int) = (3 : Int)))) = true then ((some false)) else (needP ((Dt.isTup (Dk.d thing1) = true ∧ (Dt.items (Dk.d thing1)).length = 3)) <| bindP (Dt.t3 (Dk.d thing1)) fun x7 => needP ((((!(Dt.isStr (Dk.d x7.a))) = false → Dt.sized (Dk.d x7.a) = true)) ∧ (((!(Dt.isStr (Dk.d x7.a))) = false → ((!decide ((Dt.len (Dk.d x7.a) : Int) = (1 : Int))) = false → Dt.isSg (Dk.d x7.a) = true)))) <| if ((!(Dt.isStr (Dk.d x7.a))) || ((!decide ((Dt.len (Dk.d x7.a) : Int) = (1 : Int))) || (!decide (Sg.c (Dt.sg (Dk.d x7.a)) ∈ ((tx [97, 98, 99, 100]) : Tx).l)))) = true then ((some false)) else (needP ((((Nw.F_is_process (K := K)) x7.b).isSome = true) ∧ (((((Nw.F_is_process (K := K)) x7.b).getD default) = true → ((Nw.F_is_process (K := K)) x7.c).isSome = true)) ∧ (((((Nw.F_is_process (K := K)) x7.b).getD default) = true → ((((Nw.F_is_process (K := K)) x7.c).getD default) = true → Dt.isStr (Dk.d x7.b) = true))) ∧ (((((Nw.F_is_process (K := K)) x7.b).getD default) = true → ((((Nw.F_is_process (K := K)) x7.c).getD default) = true → Dt.isStr (Dk.d x7.c) = true)))) <| (some ((((Nw.F_is_process (K := K)) x7.b).getD default) && ((((Nw.F_is_process (K := K)) x7.c).getD default) && (!decide ((Dt.tx (Dk.d x7.b)) = (Dt.tx (Dk.d x7.c)))))))))
def sp_is_channel (K : PySem.W.Frag) : Sp := spP (fun z : (Dk K) × Unit => (Nw.F_is_channel (K := K)) z.1)
theorem ok_is_channel (T : Txt K mg) (F : FnAt K "is_channel" "is_channel" s_is_channel (He.ga K "is_channel")) (G_is_process : Ok P w K mg base CX0 1 (He.ga K "is_process") ["thing"] (sp_is_process K)) : Ok P w K mg base CX0 2 (He.ga K "is_channel") ["thing"] (sp_is_channel K) := by
  refine ok_of F sc_is_channel (fun _ _ _ _ _ _ us hl => match us, hl with | [_], _ => rfl) (fun vs H Q E h => ?_) (fun cdv A outer s H vs Q E hr h => ?_)
  · obtain ⟨_, ⟨_, _⟩, _, ⟨_, _, rfl, _, rfl⟩, _⟩ := h
    rfl
  · obtain ⟨I, ⟨thing1, _⟩, y, ⟨v2, _, rfl, h_thing1, rfl⟩, sb, hF, k⟩ := h
    have h := ((stn0 sb).rep h_thing1)
    have e : (Nw.F_is_channel (K := K)) thing1 = some y := hF
    unfold Nw.F_is_channel at e
    have r_thing1 := rep_last h
    refine ⟨_, (pss_cons (ps_if (PW.pt (pw_or (pt_not (pt_val (pe_callB call_isi (by rfl) T.b_isinstance (by decide +kernel) (pa_cons (pv 0) (pa_cons (pe_bltn (v := .ty "tuple") rfl T.b_tuple (by decide +kernel) rfl) pa_nil))))) (pw_or1 (pt_cmpR op_ne (pe_callB call_len (by rfl) T.b_len (by decide +kernel) (pa_cons (pv 0) pa_nil)) pe_int (nomark _))))) (pss_one (ps_ret pe_bl)) pss_nil)
      (pss_cons (ps_asg (pv 0) (pg_tup (by rfl) (pgs_cons (pg_name (i := 1) sc_is_channel.nd rfl (Or.inl rfl)) (pgs_cons (pg_name (i := 2) sc_is_channel.nd rfl (Or.inl rfl)) (pgs_cons (pg_name (i := 3) sc_is_channel.nd rfl (Or.inl rfl)) pgs_nil)))))
      (pss_cons (ps_if (PW.pt (pw_or (pt_not (pt_val (pe_callB call_isi (by rfl) T.b_isinstance (by decide +kernel) (pa_cons (pv 1) (pa_cons (pe_bltn (v := .ty "str") rfl T.b_str (by decide +kernel) rfl) pa_nil))))) (pw_or (pt_cmpR op_ne (pe_callB call_len (by rfl) T.b_len (by decide +kernel) (pa_cons (pv 1) pa_nil)) pe_int (nomark _)) (pw_or1 (pt_cmpR op_notIn_sign (pv 1) (pe_gstr T.c_LINKS) rfl))))) (pss_one (ps_ret pe_bl)) pss_nil)
      (pss_one (ps_ret (pe_and (pe_callC G_is_process (hr.mono (by decide)) T.g_is_process (pa_cons (pv 2) pa_nil)) (pe_and (pe_callC G_is_process (hr.mono (by decide)) T.g_is_process (pa_cons (pv 3) pa_nil)) (pe_one (pe_cmpR op_ne (pv 2) (pv 3) (nomark _)))))))))), ?_⟩
    obtain ⟨q4, e⟩ := need_ok e
    refine p_ifs h (eb_or (eb_not (eb_val (ep_isiU (ep_var rfl fun I γ => r_thing1 I γ)))) (fun c3 => (eb_test (ep_op os_ne' (ep_b1 (c_lenDt (q4 c3)) (ep_var rfl fun I γ => r_thing1 I γ)) ep_int)))) e (fun c5 e I1 H1 h => ?_) (fun c5 e I1 H1 h => ?_)
    · exact st_ret h ep_bl (fun v I1 H1 h r => k v I1 H1 h.g ((Option.some.inj e) ▸ r))
    · refine next_of ?_
      obtain ⟨q6, e⟩ := need_ok e
      refine p_asgs h (ep_cx (ep_var rfl fun I γ => r_thing1 I γ) (cv_as3 (q6))) (fun x => bd_3 (x := x)) e fun x7 σ2 a2 I1 H1 e z h => ?_
      obtain ⟨v8, v9, v10, rfl, rfl⟩ := z
      have r_11 := rep_last3 h
      have r_12 := rep_last2 h
      have r_13 := rep_last h
      obtain ⟨⟨q15, q17⟩, e⟩ := need_ok e
      refine p_ifs h (eb_or (eb_not (eb_val (ep_isiS (ep_var rfl fun I γ => r_11 I γ)))) (fun c14 => (eb_or (eb_test (ep_op os_ne' (ep_b1 (c_lenDt (q15 c14)) (ep_var rfl fun I γ => r_11 I γ)) ep_int)) (fun c16 => (eb_test (ep_op os_notInS (ep_cx (ep_var rfl fun I γ => r_11 I γ) (cv_asG (q17 c14 c16))) (ep_txc (by rfl) (by decide)))))))) e (fun c18 e I1 H1 h => ?_) (fun c18 e I1 H1 h => ?_)
      · exact st_ret h ep_bl (fun v I1 H1 h r => k v I1 H1 h.g ((Option.some.inj e) ▸ r))
      · refine next_of ?_
        obtain ⟨⟨q19, q21, q23, q24⟩, e⟩ := need_ok e
        exact st_ret h (ep_and (ep_call (F := (fun z : (Dk K) × Unit => (Nw.F_is_process (K := K)) z.1)) (ea_cons (ep_var rfl fun I γ => r_12 I γ) ea_nil) (someD (q19))) (fun c20 => (ep_and (ep_call (F := (fun z : (Dk K) × Unit => (Nw.F_is_process (K := K)) z.1)) (ea_cons (ep_var rfl fun I γ => r_13 I γ) ea_nil) (someD (q21 c20))) (fun c22 => (ep_op os_ne' (ep_cx (ep_var rfl fun I γ => r_12 I γ) (cv_asT (q23 c20 c22))) (ep_cx (ep_var rfl fun I γ => r_13 I γ) (cv_asT (q24 c20 c22)))))))) (fun v I1 H1 h r => k v I1 H1 h.g ((Option.some.inj e) ▸ r))
end
end Nw

namespace Nw
open PySem PySem.Spec PyProof.Rows L2
/-! ### channels and nets -/
abbrev Ch := T3 Sg Tx Tx
instance : DecidableEq Ch := fun x y => decidable_of_iff (x.a = y.a ∧ x.b = y.b ∧ x.c = y.c) ⟨fun ⟨h1, h2, h3⟩ => by cases x; cases y; cases h1; cases h2; cases h3; rfl, fun h => by rw [h]; exact ⟨rfl, rfl, rfl⟩⟩
def isPr (l : List Nat) : Bool := decide (1 ≤ l.length ∧ l.length ≤ 6) && l.all fun c => decide (97 ≤ c ∧ c ≤ 122)
def Dt.isPr : Dt → Bool
  | .str l => Nw.isPr l
  | _ => false
def isLtr (c : Nat) : Bool := decide (97 ≤ c ∧ c ≤ 100)
def Dt.isLtr : Dt → Bool
  | .str [c] => Nw.isLtr c
  | _ => false
def Dt.isChn : Dt → Bool
  | .sq true [x, y, z] => x.isLtr && (y.isPr && (z.isPr && !decide (y.tx = z.tx)))
  | _ => false
def Dt.chn : Dt → Ch
  | .sq true [x, y, z] => ⟨x.sg, y.tx, z.tx⟩
  | _ => ⟨⟨0⟩, ⟨[]⟩, ⟨[]⟩⟩
def netB (xs : List Dt) : Bool := decide (1 ≤ xs.length ∧ xs.length ≤ 4) && (xs.all Dt.isChn && decide ((xs.map fun x => x.chn.a).Nodup))
def Dt.isNet : Dt → Bool
  | .sq _ xs => netB xs
  | _ => false
def byL (cs : List Ch) : List Ch := [97, 98, 99, 100].flatMap fun c => cs.filter fun x => decide (x.a.c = c)
def netD (cs : List Ch) : Dc Sg Ch := ⟨cs.map fun c => (c.a, c)⟩
theorem pr_str {d : Dt} (h : d.isPr = true) : ∃ l, d = .str l ∧ Nw.isPr l = true := by
  cases d with
  | str l => exact ⟨l, rfl, h⟩
  | _ => exact absurd h (by intro z; cases z)
theorem ltr_str {d : Dt} (h : d.isLtr = true) : ∃ c, d = .str [c] ∧ Nw.isLtr c = true := by
  match d, h with
  | .str [c], h => exact ⟨c, rfl, h⟩
theorem chn_of {d : Dt} (h : d.isChn = true) : ∃ c p q, d = .sq true [.str [c], .str p, .str q] ∧ isLtr c = true ∧ Nw.isPr p = true ∧ Nw.isPr q = true ∧ p ≠ q := by
  match d, h with
  | .sq true [x, y, z], h =>
    simp only [Dt.isChn, Bool.and_eq_true, Bool.not_eq_true', decide_eq_false_iff_not] at h
    obtain ⟨h1, h2, h3, h4⟩ := h
    obtain ⟨c, rfl, hc⟩ := ltr_str h1
    obtain ⟨p, rfl, hp⟩ := pr_str h2
    obtain ⟨q, rfl, hq⟩ := pr_str h3
    exact ⟨c, p, q, rfl, hc, hp, hq, fun z => h4 (by rw [z])⟩
theorem isPr_len {l : List Nat} (h : isPr l = true) : 1 ≤ l.length ∧ l.length ≤ 6 := by
  rw [isPr, Bool.and_eq_true] at h
  exact of_decide_eq_true h.1
theorem isE.chn {K : PySem.W.Frag} {I : Hp} {v : V} {d : Dt} (h : isE K I v d) (m : d.isChn = true) : Rep.is I v d.chn ∧ d = .sq true [.str [d.chn.a.c], .str d.chn.b.l, .str d.chn.c.l] ∧ isLtr d.chn.a.c = true := by
  obtain ⟨c, p, q, rfl, hc, hp, hq, _⟩ := chn_of m
  obtain ⟨a, vs, rfl, ha, es⟩ := h.inv
  match vs, es.len, es with
  | [v0, v1, v2], _, es =>
    have e0 := es.at_ 0 v0 _ rfl rfl
    have e1 := es.at_ 1 v1 _ rfl rfl
    have e2 := es.at_ 2 v2 _ rfl rfl
    cases e0
    cases e1
    cases e2
    exact ⟨⟨a, _, _, _, rfl, ha, rfl, ⟨rfl, by have := isPr_len hp; show p.length ≤ 100000; omega⟩, ⟨rfl, by have := isPr_len hq; show q.length ≤ 100000; omega⟩⟩, rfl, hc⟩
/-! what the defs compute -/
section
variable {K : PySem.W.Frag}
theorem pr_alpha (l : List Nat) : List.all (List.map (fun x9 : Sg => (decide (Sg.c x9 ∈ ((tx [97, 98, 99, 100, 101, 102, 103, 104, 105, 106, 107, 108, 109, 110, 111, 112, 113, 114, 115, 116, 117, 118, 119, 120, 121, 122]) : Tx).l))) (sgL l)) id = l.all fun c => decide (97 ≤ c ∧ c ≤ 122) := by
  induction l with
  | nil => rfl
  | cons c l ih =>
    rw [show sgL (c :: l) = ⟨c⟩ :: sgL l from rfl, List.map_cons, List.all_cons, List.all_cons, ih]
    congr 1
    rw [id, decide_eq_decide]
    show c ∈ [97, 98, 99, 100, 101, 102, 103, 104, 105, 106, 107, 108, 109, 110, 111, 112, 113, 114, 115, 116, 117, 118, 119, 120, 121, 122] ↔ _
    simp only [List.mem_cons, List.not_mem_nil, or_false]
    omega
theorem need_p {β : Type} {p : Prop} [Decidable p] {r : Option β} (h : p) : needP p r = r := if_pos h
theorem is_process_eq (d : Dt) : F_is_process (K := K) ⟨d⟩ = some d.isPr := by
  unfold F_is_process
  rw [need_p (by cases d <;> first | exact ⟨fun _ => rfl, fun _ _ => rfl⟩ | exact ⟨(fun z => nomatch z), (fun z => nomatch z)⟩)]
  cases d with
  | str l =>
    show (if (!(decide ((1 : Int) ≤ (l.length : Int)) && decide ((l.length : Int) ≤ 6))) = true then some false else needP _ (some _)) = some (Nw.isPr l)
    by_cases h : 1 ≤ l.length ∧ l.length ≤ 6
    · have h1 : (1 : Int) ≤ (l.length : Int) := by omega
      have h2 : (l.length : Int) ≤ 6 := by omega
      rw [decide_eq_true h1, decide_eq_true h2, if_neg (fun z => nomatch z), need_p ⟨rfl, by show (sgL l).length ≤ _; rw [show (sgL l).length = l.length from List.length_map ..]; omega⟩]
      rw [show ((Dt.tx (Dk.d (K := K) ⟨.str l⟩)) : Tx).l = l from rfl, pr_alpha, isPr, decide_eq_true h, Bool.true_and]
    · rw [if_pos (by
        rw [Bool.not_eq_true', Bool.and_eq_false_iff, decide_eq_false_iff_not, decide_eq_false_iff_not]
        omega), isPr, decide_eq_false h, Bool.false_and]
  | _ => rfl
theorem in_ltr (c : Nat) : decide (c ∈ ((tx [97, 98, 99, 100]) : Tx).l) = isLtr c := by
  rw [isLtr, decide_eq_decide]
  show c ∈ [97, 98, 99, 100] ↔ _
  simp only [List.mem_cons, List.not_mem_nil, or_false]
  omega
theorem is_channel_eq (d : Dt) : F_is_channel (K := K) ⟨d⟩ = some d.isChn := by
  unfold F_is_channel
  rw [need_p (by cases d <;> first | exact fun _ => rfl | (intro z; cases z))]
  cases d with
  | sq t xs =>
    cases t with
    | false => rfl
    | true =>
      show (if (!decide ((xs.length : Int) = 3)) = true then some false else _) = _
      match xs with
      | [] => rw [if_pos (by rw [decide_eq_false (by decide)]; rfl)]; rfl
      | [_] => rw [if_pos (by rw [decide_eq_false (by simp only [List.length_cons, List.length_nil]; decide)]; rfl)]; rfl
      | [_, _] => rw [if_pos (by rw [decide_eq_false (by simp only [List.length_cons, List.length_nil]; decide)]; rfl)]; rfl
      | x :: y :: z :: u :: l =>
        rw [if_pos (by rw [decide_eq_false (by simp only [List.length_cons]; omega)]; rfl)]
        rfl
      | [x, y, z] =>
        rw [if_neg (fun z => nomatch z), need_p ⟨rfl, rfl⟩]
        show needP _ (if (!x.isStr || ((!decide ((x.len : Int) = 1)) || !decide (x.sg.c ∈ ((tx [97, 98, 99, 100]) : Tx).l))) = true then some false else needP (((F_is_process (K := K) ⟨y⟩).isSome = true) ∧ ((((F_is_process (K := K) ⟨y⟩).getD default) = true → (F_is_process (K := K) ⟨z⟩).isSome = true)) ∧ ((((F_is_process (K := K) ⟨y⟩).getD default) = true → (((F_is_process (K := K) ⟨z⟩).getD default) = true → Dt.isStr y = true))) ∧ ((((F_is_process (K := K) ⟨y⟩).getD default) = true → (((F_is_process (K := K) ⟨z⟩).getD default) = true → Dt.isStr z = true)))) (some ((((F_is_process (K := K) ⟨y⟩).getD default) && (((F_is_process (K := K) ⟨z⟩).getD default) && (!decide (y.tx = z.tx))))))) = _
        rw [need_p (by
          refine ⟨fun q => ?_, fun q1 q2 => ?_⟩
          · cases x <;> first | rfl | exact absurd q (by intro z; cases z)
          · cases x with
            | str l =>
              match l with
              | [] => exact absurd q2 (by intro z; cases z)
              | [c] => rfl
              | _ :: _ :: l =>
                exact absurd q2 (by
                  rw [show (Dt.t3 (K := K) (Dk.d (K := K) ⟨.sq true [.str (_ :: _ :: l), y, z]⟩)).a.d = .str (_ :: _ :: l) from rfl, show (Dt.str (_ :: _ :: l)).len = l.length + 2 from rfl, decide_eq_false (by omega)]
                  intro z
                  cases z)
            | _ => exact absurd q1 (by intro z; cases z))]
        rw [is_process_eq, is_process_eq]
        simp only [Option.isSome_some, Option.getD_some]
        have el : (!x.isStr || ((!decide ((x.len : Int) = 1)) || !decide (x.sg.c ∈ ((tx [97, 98, 99, 100]) : Tx).l))) = !x.isLtr := by
          cases x with
          | str l =>
            match l with
            | [] => rfl
            | _ :: _ :: l =>
              rw [show (Dt.str (_ :: _ :: l)).len = l.length + 2 from rfl, decide_eq_false (by omega)]
              rfl
            | [c] =>
              rw [show (Dt.str [c]).sg.c = c from rfl, in_ltr]
              rfl
          | _ => rfl
        rw [el]
        show _ = some (x.isLtr && _)
        cases hc : x.isLtr with
        | false => rfl
        | true =>
          show needP _ _ = _
          rw [need_p ⟨trivial, fun _ => trivial, fun h1 h2 => (by obtain ⟨l, rfl, _⟩ := pr_str h1; rfl), fun h1 h2 => (by obtain ⟨l, rfl, _⟩ := pr_str h2; rfl)⟩]
          rfl
  | _ => rfl
end
end Nw

namespace Nw
open PySem PySem.Spec PyProof.Rows L2
def TX (x : Addr) : Addr → Prop := fun b => b = x
theorem seq_or {K : PySem.W.Frag} {t : Bool} {H : Hp} {a : Addr} {ws : List V} (h : H a = some (ho t ws)) : SqL K H a ws ∨ SqT K H a ws := by
  cases t
  · exact .inl (SqL.of h)
  · exact .inr (SqT.of h)
theorem sg_inj {a b : Nat} (h : sg a = sg b) : a = b := mk_inj (a := [a]) (b := [b]) h |> List.cons.inj |>.1
theorem at30 {a b c : V} : atI [a, b, c] 0 = some a := by rw [atI_nat' (j := 0) (by decide)]; rfl
/-! ### distinct letters -/
theorem distinct_id {κ : Type} [DecidableEq κ] : ∀ (xs L : List κ), (L ++ xs).Nodup → xs.foldl addL L = L ++ xs
  | [], L, _ => (List.append_nil L).symm
  | x :: xs, L, h => by
    have hx : x ∉ L := fun z => (List.nodup_append.mp h).2.2 x z x (List.mem_cons_self ..) rfl
    have e : addL L x = L ++ [x] := by
      unfold addL
      first
        | rw [if_neg hx]
        | (rw [if_neg (by simpa using hx)])
    rw [List.foldl_cons, e, distinct_id xs (L ++ [x]) (by rw [List.append_assoc]; exact h), List.append_assoc]
    rfl
theorem distinct_all {κ : Type} [DecidableEq κ] {xs : List κ} (h : xs.Nodup) : distinct xs = xs := distinct_id xs [] h
theorem foldl_addL_len {κ : Type} [DecidableEq κ] (xs L : List κ) : (xs.foldl addL L).length ≤ L.length + xs.length := by
  induction xs generalizing L with
  | nil => exact Nat.le_refl _
  | cons x xs ih =>
    rw [List.foldl_cons, List.length_cons]
    have h1 := ih (addL L x)
    have h2 := addL_len (L := L) (k := x)
    omega
theorem distinct_lt {κ : Type} [DecidableEq κ] : ∀ (xs L : List κ), L.Nodup → (xs.foldl addL L).length = L.length + xs.length → (L ++ xs).Nodup
  | [], L, h, _ => by rw [List.append_nil]; exact h
  | x :: xs, L, h, e => by
    rw [List.foldl_cons, List.length_cons] at e
    by_cases hx : x ∈ L
    · have e2 : addL L x = L := by
        unfold addL
        first
          | rw [if_pos hx]
          | (rw [if_pos (by simpa using hx)])
      have h1 := foldl_addL_len xs L
      rw [e2] at e
      omega
    · have e2 : addL L x = L ++ [x] := by
        unfold addL
        first
          | rw [if_neg hx]
          | (rw [if_neg (by simpa using hx)])
      rw [e2] at e
      have h3 : (L ++ [x]).Nodup := by rw [← e2]; exact addL_nodup h
      have z := distinct_lt xs (L ++ [x]) h3 (by rw [e, List.length_append, List.length_singleton]; omega)
      rw [List.append_assoc] at z
      exact z
theorem distinct_len_iff {κ : Type} [DecidableEq κ] (xs : List κ) : (distinct xs).length = xs.length ↔ xs.Nodup := ⟨fun h => distinct_lt xs [] List.nodup_nil (by rw [List.length_nil, Nat.zero_add]; exact h), fun h => by rw [distinct_all h]⟩
theorem nodup_map_inj {α β : Type} {f : α → β} (hf : ∀ x y, f x = f y → x = y) : ∀ {l : List α}, (l.map f).Nodup ↔ l.Nodup
  | [] => ⟨fun _ => List.nodup_nil, fun _ => List.nodup_nil⟩
  | x :: l => by
    rw [List.map_cons, List.nodup_cons, List.nodup_cons, nodup_map_inj hf]
    refine and_congr_left fun _ => not_congr ⟨fun h => ?_, fun h => List.mem_map_of_mem h⟩
    obtain ⟨y, hy, e⟩ := List.mem_map.mp h
    rw [← hf _ _ e]
    exact hy
def keyN (p : V × Ch) : Key × V := (.inr (sg p.2.a.c), p.1)
def preN (ps : List (V × Ch)) (l : List Nat) : List (V × Ch) := l.flatMap fun c => ps.filter fun p => decide (p.2.a.c = c)
theorem preN_mem {ps : List (V × Ch)} {l : List Nat} {p : V × Ch} (h : p ∈ preN ps l) : p ∈ ps ∧ p.2.a.c ∈ l := by
  obtain ⟨c, hc, hp⟩ := List.mem_flatMap.mp h
  rw [List.mem_filter] at hp
  refine ⟨hp.1, ?_⟩
  rw [of_decide_eq_true hp.2]
  exact hc
theorem preN_snd (ps : List (V × Ch)) (l : List Nat) : (preN ps l).map Prod.snd = l.flatMap fun c => (ps.map Prod.snd).filter fun x => decide (x.a.c = c) := by
  unfold preN
  rw [List.map_flatMap]
  congr 1
  funext c
  rw [List.filter_map]
  rfl
theorem yes_of {σ : L2.St} {H : Hp} {A B : Hp → Prop} (h : A H) : tYes σ H (fun b H3 => if b = true then A H3 else B H3) := by
  show (if true = true then A H else B H)
  exact iteT h
theorem preN_len (ps : List (V × Ch)) : ∀ l : List Nat, (preN ps l).length ≤ l.length * ps.length
  | [] => by show 0 ≤ _; omega
  | c :: l => by
    show ((ps.filter fun p => decide (p.2.a.c = c)) ++ preN ps l).length ≤ _
    rw [List.length_append, List.length_cons, Nat.succ_mul]
    have h1 := preN_len ps l
    have h2 := List.length_filter_le (fun p : V × Ch => decide (p.2.a.c = c)) ps
    omega
theorem ltr_take {i c : Nat} (h : [97, 98, 99, 100][i]? = some c) : c ∉ [97, 98, 99, 100].take i := by
  match i, h with
  | 0, h => exact fun z => nomatch z
  | 1, h => cases h; decide
  | 2, h => cases h; decide
  | 3, h => cases h; decide
theorem nodup_ne {α β : Type} {f : α → β} {l : List α} (h : (l.map f).Nodup) {i j : Nat} {x y : α} (lt : i < j) (hx : l[i]? = some x) (hy : l[j]? = some y) : f x ≠ f y := by
  intro e
  have hi : i < (l.map f).length := by rw [List.length_map]; exact (List.getElem?_eq_some_iff.mp hx).1
  have hj : j < (l.map f).length := by rw [List.length_map]; exact (List.getElem?_eq_some_iff.mp hy).1
  have h1 : (l.map f)[i]? = (l.map f)[j]? := by rw [List.getElem?_map, List.getElem?_map, hx, hy]; exact congrArg some e
  rw [List.getElem?_eq_getElem hi, List.getElem?_eq_getElem hj] at h1
  exact List.pairwise_iff_getElem.mp h i j hi hj lt (Option.some.inj h1)
theorem netD_is {I : Hp} {D : Addr} {cs : List Ch} {od : Obj} (ps : List (V × Ch)) (hD : I D = some (.frz od (.dK (ps.map keyN)))) (hr : ∀ p ∈ ps, Rep.is I p.1 p.2) (e : ps.map Prod.snd = cs) : Rep.is I (.ref D) (netD cs) := by
  refine ⟨D, od, _, rfl, hD, ?_⟩
  subst e
  show Paired (kvR I) (ps.map keyN) ((ps.map Prod.snd).map _)
  clear hD
  induction ps with
  | nil => exact .nil
  | cons p ps ih => exact .cons ⟨rfl, trivial, hr p (List.mem_cons_self ..)⟩ (ih fun q hq => hr q (List.mem_cons_of_mem _ hq))
def netOut (K : PySem.W.Frag) (I H : Hp) (x : Addr) (dx : Addr) (d : Dt) (Q : VK) (E : XK) : Prop :=
  (d.isNet = true → ∀ u I' H', Grow (TX x) I H I' H' → H' x = some (.ins (He.ga K "Net") dx [("by_letter", u)]) → Rep.is I' u (netD (byL (d.items.map Dt.chn))) → Q .non H') ∧
  (d.isNet = false → ∀ I' H', Grow No I H I' H' → E (.ref (He.ga K "NoNet")) none H')
def sp_Net__init (K : PySem.W.Frag) : Sp := fun _ _ _ _ => False
def spb_Net__init (K : PySem.W.Frag) : Sp := fun vs H Q E => ∃ (I : Hp) (x dx : Addr) (v : V) (d : Dt), vs = [.ref x, v] ∧ H x = some (.ins (He.ga K "Net") dx []) ∧ I x = none ∧ Same I H ∧
  ((isE K I v d ∧ (d.isLst || d.isTup) = false) ∨ ∃ a t ws xs, v = .ref a ∧ d = .sq t xs ∧ a ≠ x ∧ H a = some (ho t ws) ∧ Es K I ws xs ∧ xs.length ≤ 1000) ∧ netOut K I H x dx d Q E
section
variable {P : Program} {w : World} {K : PySem.W.Frag} {mg : Str → Option Value} {base : Heap}
theorem ok_Net__init (T : Txt K mg) (F : FnAt K "__init__" "Net.__init__" s_Net__init (He.ma K (He.ga K "Net") "__init__"))  : Ok P w K mg base CX0 3 (He.ma K (He.ga K "Net") "__init__") ["self", "channels"] (sp_Net__init K) := by
  refine ok_of F sc_Net__init (fun _ _ _ _ _ _ us hl => match us, hl with | [_, _], _ => rfl) (fun vs H Q E h => ?_) (fun cdv A outer s H vs Q E hr h => ?_)
  · exact h.elim
  · exact h.elim
theorem okb_Net__init (T : Txt K mg) (F : FnAt K "__init__" "Net.__init__" s_Net__init (He.ma K (He.ga K "Net") "__init__")) (G_is_channel : Ok P w K mg base CX0 2 (He.ga K "is_channel") ["thing"] (sp_is_channel K)) : Ok P w K mg base (L2.CX P w) 3 (He.ma K (He.ga K "Net") "__init__") ["self", "channels"] (spb_Net__init K) := by
  refine ok_ofX F sc_Net__init (fun _ _ _ _ _ _ us hl => match us, hl with | [_, _], _ => rfl) (fun vs H Q E h => ?_) (fun cdv A outer s H vs Q E hr h => ?_)
  · obtain ⟨_, _, _, _, _, rfl, _⟩ := h
    rfl
  · obtain ⟨I, x, dx, v, d, rfl, hx, nx, sb, hv, oy, on⟩ := h
    refine ⟨_, (pss_cons (ps_if (PW.pt (pw_or (pt_not (pt_val (pe_callB call_isiT (by rfl) T.b_isinstance (by decide +kernel) (pa_cons (pv 1) (pa_cons (pe_tup (pa_cons (pe_bltn (v := .ty "list") rfl T.b_list (by decide +kernel) rfl) (pa_cons (pe_bltn (v := .ty "tuple") rfl T.b_tuple (by decide +kernel) rfl) pa_nil))) pa_nil))))) (pw_or1 (pt_not (pt_chain op_le op_le pe_int (pe_callB call_len_seq (by rfl) T.b_len (by decide +kernel) (pa_cons (pv 1) pa_nil)) (pe_gint T.c_MOST_CHANNELS)))))) (pss_one (ps_raise rfl (takes_of rfl rfl rfl rfl) (pmk_own PySem.F.excBase_ValueError T.xp_NoNet.1 T.g_NoNet T.xp_NoNet.2.1 (raises_own T.xp_NoNet.2.2.1 T.xp_NoNet.2.2.2) rfl))) pss_nil)
      (pss_cons (ps_if (pt_not (pt_val (pe_callB (cr_all rfl) (by rfl) T.b_all (by decide +kernel) (pa_cons (pe_lc (own := [("channel", 2)]) (g := (gName 2)) rfl sc_Net__init.nd (pi_seq (pv 1)) (blkOk_by (own := [("channel", 2)]) (N := n_Net__init) (sc := defScope s_Net__init) (by decide +kernel)) (fun _ _ _ _ _ => (pg_name (i := 2) sc_Net__init.nd rfl (Or.inl rfl))) (fun _ _ _ _ _ => pts_nil) (fun _ _ _ _ _ => (pe_callC G_is_channel (hr.mono (by decide)) T.g_is_channel (pa_cons (pv 2) pa_nil)))) pa_nil)))) (pss_one (ps_raise rfl (takes_of rfl rfl rfl rfl) (pmk_own PySem.F.excBase_ValueError T.xp_NoNet.1 T.g_NoNet T.xp_NoNet.2.1 (raises_own T.xp_NoNet.2.2.1 T.xp_NoNet.2.2.2) rfl))) pss_nil)
      (pss_cons (ps_if (pt_cmpR op_ne (pe_lenSetL rfl (by rfl) T.b_len (by rfl) T.b_set (pe_lc (own := [("channel", 2)]) (g := (gName 2)) rfl sc_Net__init.nd (pi_seq (pv 1)) (blkOk_by (own := [("channel", 2)]) (N := n_Net__init) (sc := defScope s_Net__init) (by decide +kernel)) (fun _ _ _ _ _ => (pg_name (i := 2) sc_Net__init.nd rfl (Or.inl rfl))) (fun _ _ _ _ _ => pts_nil) (fun _ _ _ _ _ => (pe_ix (ix_tupK (K := K) rfl) (pv 2) pe_int (fun _ _ => rfl))))) (pe_callB call_len_seq (by rfl) T.b_len (by decide +kernel) (pa_cons (pv 1) pa_nil)) (nomark _)) (pss_one (ps_raise rfl (takes_of rfl rfl rfl rfl) (pmk_own PySem.F.excBase_ValueError T.xp_NoNet.1 T.g_NoNet T.xp_NoNet.2.1 (raises_own T.xp_NoNet.2.2.1 T.xp_NoNet.2.2.2) rfl))) pss_nil)
      (pss_one (ps_fld (pv 0) (pe_frz (pe_dc2 (own := [("letter", 3), ("one", 4)]) (vs1 := [4]) (g := (gName 3)) (g1 := (gName 4)) rfl sc_Net__init.nd (Nat.lt_of_succ_lt (hu_of hr)) (pi_str (pe_gstr T.c_LINKS)) (blkOk_by (own := [("letter", 3), ("one", 4)]) (N := n_Net__init) (sc := defScope s_Net__init) (by decide +kernel)) (by decide) (fun _ _ _ _ _ => (pg_name (i := 3) sc_Net__init.nd rfl (Or.inl rfl))) (fun _ _ _ _ _ => pts_nil) (fun _ _ _ _ _ => (pi_seqK (K := K) rfl (pv 1))) (fun _ _ _ _ _ => (pg_name (i := 4) sc_Net__init.nd rfl (Or.inl rfl))) (fun _ _ _ _ _ => (pts_one (pt_cmpR op_eq (pe_ix (ix_tupK (K := K) rfl) (pv 4) pe_int (fun _ _ => rfl)) (pv 3) (nomark _)))) (fun _ _ _ _ _ => (pv 3)) (fun _ _ _ _ _ => (pv 4)))) rfl))))), ?_⟩
    rcases hv with ⟨hd, hk⟩ | ⟨a, tt, ws, xs, rfl, rfl, nax, ha, es, h1000⟩
    · refine ⟨_, rfl, by decide, fun p hp1 => ?_⟩
      have g1 : Grow No I H I (upd H p (.tup [V.ty "list", V.ty "tuple"])) := Grow.mine sb hp1
      obtain ⟨t, ty, ks⟩ := hd.ty g1.sub
      have nn : d.isNet = false := by
        cases d with
        | sq t xs => cases t <;> cases hk
        | _ => rfl
      exact ⟨v, p, _, _, _, false, rfl, upd_same, .cons (.ty _) (.cons (.ty _) .nil), ty, ks.seq.trans (congrArg some hk), false, rfl, iteT (on nn _ _ g1)⟩
    refine ⟨_, rfl, by decide, fun p hp1 => ?_⟩
    have g1 : Grow No I H I (upd H p (.tup [V.ty "list", V.ty "tuple"])) := Grow.mine sb hp1
    obtain ⟨nty, hty, hkit⟩ := ty_seq (K := K) (t := tt) (a := a) (vs := ws) (g1.same _ _ ha)
    refine ⟨.ref a, p, _, _, _, true, rfl, upd_same, .cons (.ty _) (.cons (.ty _) .nil), hty, hkit, true, rfl, iteF ?_⟩
    have hx1 := g1.same _ _ hx
    have ha1 := g1.same _ _ ha
    revert g1 hx1 ha1
    generalize upd H p (.tup [V.ty "list", V.ty "tuple"]) = H1
    intro g1 hx1 ha1
    have hlen := es.len
    have no : netB xs = false → (Dt.sq tt xs).isNet = false := id
    refine ⟨_, rfl, a, ws, rfl, seq_or ha1, _, _, rfl, rfl, _, rfl, ?_⟩
    by_cases h1 : (1 : Int) ≤ (ws.length : Int)
    case neg =>
      rw [decide_eq_false h1]
      exact iteF ⟨_, rfl, iteT (on (no (by rw [netB, decide_eq_false (by omega), Bool.false_and])) _ _ g1)⟩
    rw [decide_eq_true h1]
    refine iteT ⟨_, _, rfl, rfl, _, rfl, ?_⟩
    by_cases h4 : (ws.length : Int) ≤ 4
    case neg =>
      rw [decide_eq_false h4]
      exact iteT (on (no (by rw [netB, decide_eq_false (by omega), Bool.false_and])) _ _ g1)
    rw [decide_eq_true h4]
    refine iteF ?_
    have e14 : decide (1 ≤ xs.length ∧ xs.length ≤ 4) = true := decide_eq_true (by omega)
    refine ⟨_, rfl, a, tt, rfl, ⟨ws, SqB.of ha1⟩, fun L hL => ?_⟩
    refine lc_pure (β := Bool) walk_seq xs (fun d => some d.isChn) hlen.symm g1.sub hL (by omega) (fun I' H' g => SqB.of (g.same _ _ ha1)) ?_ ?_
    · rintro i y v I' H' H'' hxi g ⟨rfl, hv⟩ Kn Ky kn ky
      refine ⟨rfl, lc_yes ?_⟩
      exact ⟨_, rfl, I', (⟨y⟩, ()), y.isChn, ⟨v, [], rfl, (es.at_ i v y hv hxi).up g.view, rfl⟩, g.sub, is_channel_eq y, fun u I2 H2 g2 r2 => ky _ rfl u I2 H2 g2 r2⟩
    intro I2 H2 vs2 g2 ow hp
    rw [fm_some] at hp
    rw [Paired.bls hp] at ow
    refine ⟨L, xs.map Dt.isChn, rfl, SqL.of ow.at_, _, rfl, ?_⟩
    have e2 : (xs.map Dt.isChn).all id = xs.all Dt.isChn := by rw [List.all_map]; rfl
    rw [e2]
    have G2 := (g1.trans g2)
    cases hall : xs.all Dt.isChn with
    | false => exact iteT (on (no (by rw [netB, hall, Bool.false_and, Bool.and_false])) _ _ G2)
    | true =>
    refine iteF ?_
    have ha2 := g2.same _ _ ha1
    have hx2 := g2.same _ _ hx1
    have es2 := es.up g2.view
    have ch : ∀ {i : Nat} {v : V} {y : Dt}, ws[i]? = some v → xs[i]? = some y → Rep.is I v y.chn ∧ isLtr y.chn.a.c = true := fun {i v y} h1 h2 => by
      have z := isE.chn (es.at_ i v y h1 h2) (List.all_eq_true.mp hall y (List.mem_of_getElem? h2))
      exact ⟨z.1, z.2.2⟩
    refine ⟨_, rfl, a, tt, rfl, ⟨ws, SqB.of ha2⟩, fun L3 hL3 => ?_⟩
    refine lc_pure (β := Str) walk_seq xs (fun d => some (sg d.chn.a.c)) hlen.symm g2.sub hL3 (by omega) (fun I' H' g => SqB.of (g.same _ _ ha2)) ?_ ?_
    · rintro i y v I' H' H'' hxi g ⟨rfl, hv⟩ Kn Ky kn ky
      refine ⟨rfl, lc_yes ?_⟩
      obtain ⟨b, v1, v2, v3, rfl, hb, r1, _, _⟩ := (ch hv hxi).1
      cases r1
      exact ⟨_, rfl, _, _, 0, _, rfl, rfl, SqT.of (g.sub _ _ (g.view _ _ (g2.view _ _ hb))), at30, ky _ rfl _ _ _ (Grow.refl g.sub) rfl⟩
    intro I3 H3 vs3 g3 ow3 hp3
    rw [fm_some] at hp3
    rw [Paired.strs hp3] at ow3
    refine ⟨L3, _, rfl, SqL.of ow3.at_, by rw [List.length_map]; omega, ?_⟩
    have ha3 := g3.same _ _ ha2
    refine ⟨_, rfl, a, ws, rfl, seq_or ha3, rfl, _, rfl, ?_⟩
    have G3 := G2.trans g3
    have hnd : ((distinct (xs.map fun d => sg d.chn.a.c)).length = xs.length) ↔ (xs.map fun x => x.chn.a).Nodup := by
      have z := distinct_len_iff (xs.map fun d => sg d.chn.a.c)
      rw [List.length_map] at z
      rw [z]
      have e : (xs.map fun d => sg d.chn.a.c) = (xs.map fun x => x.chn.a).map fun g => sg g.c := by rw [List.map_map]; rfl
      rw [e, nodup_map_inj]
      intro x y h
      have := mk_inj (a := [x.c]) (b := [y.c]) h
      cases x
      cases y
      cases this
      rfl
    by_cases nd : (xs.map fun x => x.chn.a).Nodup
    case neg =>
      rw [decide_eq_false (by
        intro z
        have z := V.int.inj z
        exact nd (hnd.mp (by omega)))]
      exact iteT (on (no (by rw [netB, hall, decide_eq_false nd, Bool.and_false, Bool.and_false])) _ _ G3)
    rw [decide_eq_true (by
      have z := hnd.mpr nd
      rw [z, hlen])]
    refine iteF ?_
    have yes : (Dt.sq tt xs).isNet = true := by show netB xs = true; rw [netB, e14, hall, decide_eq_true nd]; rfl
    have hx3 := g3.same _ _ hx2
    refine ⟨_, rfl, fun D hD => ?_⟩
    obtain ⟨ps, hps⟩ : ∃ ps, ps = ws.zip (xs.map Dt.chn) := ⟨_, rfl⟩
    have pl : ps.length = ws.length := by rw [hps, List.length_zip, List.length_map, hlen, Nat.min_self]
    have p1 : ps.map Prod.fst = ws := by rw [hps]; exact List.map_fst_zip (by rw [List.length_map]; omega)
    have p2 : ps.map Prod.snd = xs.map Dt.chn := by rw [hps]; exact List.map_snd_zip (by rw [List.length_map]; omega)
    have pa : ∀ {i : Nat} {p : V × Ch}, ps[i]? = some p → ∃ y, ws[i]? = some p.1 ∧ xs[i]? = some y ∧ p.2 = y.chn := fun {i p} h => by
      have h1 : (ps.map Prod.fst)[i]? = some p.1 := by rw [List.getElem?_map, h]; rfl
      have h2 : (ps.map Prod.snd)[i]? = some p.2 := by rw [List.getElem?_map, h]; rfl
      rw [p1] at h1
      rw [p2, List.getElem?_map] at h2
      cases e : xs[i]? with
      | none => rw [e] at h2; cases h2
      | some y => rw [e] at h2; exact ⟨y, h1, rfl, (Option.some.inj h2).symm⟩
    have pnd : (ps.map fun p => p.2.a).Nodup := by
      have e : (ps.map fun p => p.2.a) = (ps.map Prod.snd).map (·.a) := by rw [List.map_map]; rfl
      rw [e, p2, List.map_map]
      exact nd
    have pr : ∀ p ∈ ps, Rep.is I p.1 p.2 ∧ isLtr p.2.a.c = true := fun p hp => by
      obtain ⟨i, hi⟩ := List.getElem?_of_mem hp
      obtain ⟨y, h1, h2, h3⟩ := pa hi
      rw [h3]
      exact ch h1 h2
    clear hps
    refine dc2_it (n := 4) walk_str (fun i H' => H' = upd H3 D (.dK ((preN ps ([97, 98, 99, 100].take i)).map keyN))) rfl (fun _ _ _ _ => trivial) ?_ ?_
    · rintro i y H4 H5 hi rfl ⟨rfl, c, hc, rfl⟩
      obtain ⟨c', hc'⟩ : ∃ c', [97, 98, 99, 100][i]? = some c' := ⟨_, List.getElem?_eq_getElem hi⟩
      have ec : (⟨#[c]⟩ : Str) = sg c' := by
        have z : ("abcd" : Str).cps.toList = [97, 98, 99, 100] := by decide +kernel
        have z2 : ("abcd" : Str).cps.toList[i]? = some c := by rw [Array.getElem?_toList]; exact hc
        rw [z, hc'] at z2
        cases z2
        rfl
      rw [ec]
      have ha4 : upd H3 D (.dK ((preN ps ([97, 98, 99, 100].take i)).map keyN)) a = some (ho tt ws) := by rw [upd_ne (ne_of_none ha3 hD)]; exact ha3
      refine ⟨rfl, yes_of ?_⟩
      refine ⟨_, rfl, a, tt, rfl, ⟨ws, SqB.of ha4⟩, ?_⟩
      refine dc2_in (n1 := ws.length) walk_seq (fun j H' => H' = upd H3 D (.dK ((preN ps ([97, 98, 99, 100].take i) ++ (ps.take j).filter fun p => decide (p.2.a.c = c')).map keyN))) (by rw [List.take_zero, List.filter_nil, List.append_nil]) (fun j H' _ e => by
        rw [e]
        exact SqB.of (by rw [upd_ne (ne_of_none ha3 hD)]; exact ha3)) ?_ (fun H' e => ?_)
      · rintro j y H6 H7 hj rfl ⟨rfl, hv⟩
        obtain ⟨p, hp⟩ : ∃ p, ps[j]? = some p := ⟨_, List.getElem?_eq_getElem (by omega)⟩
        obtain ⟨y', q1, q2, q3⟩ := pa hp
        rw [hv] at q1
        cases q1
        have hpr := pr p (List.mem_of_getElem? hp)
        obtain ⟨⟨b, v1, v2, v3, q4, hb, r1, r2, r3⟩, hlt⟩ := hpr
        cases r1
        have hb3 : ∀ {o : HO}, upd H3 D o b = some (.tup [.str (sg p.2.a.c), v2, v3]) := fun {o} => by
          have z := G3.sub _ _ (G3.view _ _ hb)
          rw [upd_ne (ne_of_none z hD)]
          exact z
        refine ⟨rfl, ?_⟩
        rw [q4]
        refine ⟨_, rfl, _, _, 0, _, rfl, rfl, SqT.of hb3, at30, _, rfl, rfl, _, rfl, ?_⟩
        have tk : (ps.take (j + 1)).filter (fun p => decide (p.2.a.c = c')) = (ps.take j).filter (fun p => decide (p.2.a.c = c')) ++ [p].filter fun p => decide (p.2.a.c = c') := by
          rw [← List.filter_append, List.take_add_one, hp]
          rfl
        by_cases e : p.2.a.c = c'
        · rw [decide_eq_true (by rw [e])]
          refine iteT ⟨_, rfl, _, rfl, _, DPut.k (k := .inr (sg c')) upd_same ?_, ?_⟩
          · rw [List.length_map, List.length_append]
            have z1 := preN_len ps ([97, 98, 99, 100].take i)
            have z2 : ([97, 98, 99, 100].take i).length ≤ 4 := List.length_take_le' ..
            have z3 := Nat.mul_le_mul z2 (show ps.length ≤ 4 by omega)
            have z4 : ((ps.take j).filter fun p => decide (p.2.a.c = c')).length ≤ 4 := Nat.le_trans (List.length_filter_le ..) (Nat.le_trans (List.length_take_le' ..) (by omega))
            rw [sizeLine_eq]
            omega
          · rw [upd_upd, putK_new, tk, List.filter_cons, decide_eq_true e, if_pos rfl, List.filter_nil, ← List.append_assoc, List.map_append]
            · have ek : keyN p = (.inr (sg c'), .ref b) := by rw [keyN, e, q4]
              simp only [List.map_append, List.map_cons, List.map_nil, ek]
            · intro z
              obtain ⟨k, hk, ek⟩ := List.mem_map.mp z
              obtain ⟨r, hr', rfl⟩ := List.mem_map.mp hk
              have ek : r.2.a.c = c' := sg_inj (Sum.inr.inj ek)
              rcases List.mem_append.mp hr' with h | h
              · exact ltr_take hc' (by rw [← ek]; exact (preN_mem h).2)
              · obtain ⟨j', hj'⟩ := List.getElem?_of_mem (List.mem_filter.mp h).1
                rw [List.getElem?_take] at hj'
                split at hj'
                · rename_i lt
                  refine nodup_ne pnd (i := j') (j := j) (by omega) hj' hp ?_
                  have e2 : r.2.a.c = p.2.a.c := by rw [ek, e]
                  exact congrArg Sg.mk e2
                · cases hj'
        · rw [decide_eq_false (by
            intro z
            exact e (sg_inj (V.str.inj z)))]
          refine iteF ?_
          rw [tk, List.filter_cons, decide_eq_false e, if_neg Bool.false_ne_true, List.filter_nil, List.append_nil]
      · rw [e, List.take_of_length_le (l := ps) (by omega), List.take_add_one (l := [97, 98, 99, 100]) (i := i), hc']
        unfold preN
        rw [List.flatMap_append]
        simp only [Option.toList_some, List.flatMap_cons, List.flatMap_nil, List.append_nil]
    · rintro H4 rfl
      have el : [97, 98, 99, 100].take 4 = [97, 98, 99, 100] := rfl
      rw [el]
      obtain ⟨kvs, hk⟩ : ∃ kvs, kvs = (preN ps [97, 98, 99, 100]).map keyN := ⟨_, rfl⟩
      rw [← hk]
      refine ⟨D, kvs, rfl, upd_same, fun od => ?_⟩
      rw [upd_upd]
      have gD : Grow No I3 H3 (upd I3 D (.frz od (.dK kvs))) (upd H3 D (.frz od (.dK kvs))) := Grow.new g3.sub hD
      have G4 := G3.trans gD
      have hx4 : upd H3 D (.frz od (.dK kvs)) x = some (.ins (He.ga K "Net") dx []) := gD.same _ _ hx3
      have n4 : upd I3 D (.frz od (.dK kvs)) x = none := G4.fresh x nx (by rw [hx]; exact fun z => nomatch z)
      refine ⟨_, rfl, x, _, dx, _, rfl, hx4, T.cl_Net, T.na_Net_by_letter, (by show 0 < 1000; decide), oy yes (.ref D) (upd I3 D (.frz od (.dK kvs))) _ (G4.no.chg rfl n4) upd_same ?_⟩
      refine netD_is (od := od) (preN ps [97, 98, 99, 100]) (by rw [← hk]; exact upd_same) (fun p hp => Rep.mono (G3.view.trans gD.view) (pr p (preN_mem hp).1).1) ?_
      rw [preN_snd, p2]
      rfl
end
end Nw

namespace Nw
open PySem PySem.Spec PyProof.Rows L2
/-! ### a net, for the calculus -/
theorem byL_perm : ∀ {cs : List Ch}, (∀ x ∈ cs, isLtr x.a.c = true) → (byL cs).Perm cs
  | [], _ => List.Perm.refl _
  | x :: cs, h => by
    have ih := byL_perm (cs := cs) fun y hy => h y (List.mem_cons_of_mem _ hy)
    have hx := h x (List.mem_cons_self ..)
    have hx : 97 ≤ x.a.c ∧ x.a.c ≤ 100 := of_decide_eq_true hx
    have e : ∀ ys, byL ys = (ys.filter fun x => decide (x.a.c = 97)) ++ ((ys.filter fun x => decide (x.a.c = 98)) ++ ((ys.filter fun x => decide (x.a.c = 99)) ++ (ys.filter fun x => decide (x.a.c = 100)))) := fun ys => by
      unfold byL
      simp only [List.flatMap_cons, List.flatMap_nil, List.append_nil]
    rw [e] at ih ⊢
    have c4 : x.a.c = 97 ∨ x.a.c = 98 ∨ x.a.c = 99 ∨ x.a.c = 100 := by omega
    rcases c4 with c | c | c | c
    · rw [List.filter_cons_of_pos (by simp [c]), List.filter_cons_of_neg (by simp [c]), List.filter_cons_of_neg (by simp [c]), List.filter_cons_of_neg (by simp [c])]
      exact ih.cons x
    · rw [List.filter_cons_of_neg (by simp [c]), List.filter_cons_of_pos (by simp [c]), List.filter_cons_of_neg (by simp [c]), List.filter_cons_of_neg (by simp [c])]
      exact List.perm_middle.trans (ih.cons x)
    · rw [List.filter_cons_of_neg (by simp [c]), List.filter_cons_of_neg (by simp [c]), List.filter_cons_of_pos (by simp [c]), List.filter_cons_of_neg (by simp [c])]
      refine List.Perm.trans ?_ (ih.cons x)
      rw [← List.append_assoc, ← List.append_assoc (List.filter _ cs) (List.filter _ cs)]
      exact List.perm_middle
    · rw [List.filter_cons_of_neg (by simp [c]), List.filter_cons_of_neg (by simp [c]), List.filter_cons_of_neg (by simp [c]), List.filter_cons_of_pos (by simp [c])]
      refine List.Perm.trans ?_ (ih.cons x)
      rw [← List.append_assoc, ← List.append_assoc, ← List.append_assoc (List.filter _ cs) (List.filter _ cs), ← List.append_assoc (List.filter _ cs ++ List.filter _ cs)]
      exact List.perm_middle
structure NetOk (xs : List Dt) : Prop where
  each : ∀ x ∈ xs, x.isChn = true
  nd : ((xs.map Dt.chn).map (·.a)).Nodup
  few : xs.length ≤ 4
theorem netOk_of {xs : List Dt} (h : netB xs = true) : NetOk xs := by
  rw [netB, Bool.and_eq_true, Bool.and_eq_true] at h
  refine ⟨List.all_eq_true.mp h.2.1, ?_, (of_decide_eq_true h.1).2⟩
  rw [List.map_map]
  exact of_decide_eq_true h.2.2
theorem NetOk.ltr {xs : List Dt} (h : NetOk xs) : ∀ x ∈ xs.map Dt.chn, isLtr x.a.c = true := fun x hx => by
  obtain ⟨d, hd, rfl⟩ := List.mem_map.mp hx
  obtain ⟨c, p, q, rfl, hc, _⟩ := chn_of (h.each d hd)
  exact hc
theorem NetOk.by {xs : List Dt} (h : NetOk xs) : ((byL (xs.map Dt.chn)).map (·.a)).Nodup ∧ (byL (xs.map Dt.chn)).length ≤ 4 := by
  have p := byL_perm h.ltr
  refine ⟨((p.map (·.a)).nodup_iff).mpr h.nd, ?_⟩
  rw [p.length_eq, List.length_map]
  exact h.few
structure NetV (K : PySem.W.Frag) where
  cs : List Ch
  nd : (cs.map (·.a)).Nodup
  few : cs.length ≤ 4
instance {K : PySem.W.Frag} : Inhabited (NetV K) := ⟨⟨[], List.nodup_nil, Nat.zero_le _⟩⟩
def NetV.netF {K : PySem.W.Frag} (n : NetV K) : Dc Sg Ch := netD n.cs
instance {K : PySem.W.Frag} : Rep (NetV K) := ⟨fun I v n => ∃ x dx u, v = .ref x ∧ I x = some (.ins (He.ga K "Net") dx [("by_letter", u)]) ∧ Rep.is I u n.netF, fun e ⟨x, dx, u, h1, h2, h3⟩ => ⟨x, dx, u, h1, e _ _ h2, Rep.mono e h3⟩⟩
instance {K : PySem.W.Frag} : IsO (NetV K) (He.ga K "Net") where
  o := fun ⟨x, dx, u, h1, h2, _⟩ => ⟨_, x, dx, h1, h2⟩
  ns := ["by_letter"]
  nm := fun ⟨x, dx, u, h1, h2, _⟩ ⟨x2, dx2, h3, h4⟩ => by
    subst h1
    cases h3
    rw [h2] at h4
    cases h4
    rfl
section
variable {f : Fr} {a : Amb} {α β γ δ : Type} {σ : L2.St} {te ta tb tc : TE} {K : PySem.W.Frag} {mg : Str → Option Value} {n : Nat} {I H : Hp} {Q : VK} {E : XK}
theorem ep_Net_by_letter (T : Txt K mg) {x : NetV K} (h : EvP f a rv te σ x) : EvP f a rv (tFld K te "by_letter") σ x.netF := ep_fld T.cl_Net T.na_Net_by_letter h fun I v ⟨p, dx, u, h1, h2, h3⟩ => ⟨_, u, ⟨p, dx, h1, h2⟩, rfl, h3⟩
theorem netOf_ok {d : Dt} (h : d.isNet = true) : ((byL (d.items.map Dt.chn)).map (·.a)).Nodup ∧ (byL (d.items.map Dt.chn)).length ≤ 4 := by
  cases d with
  | sq t xs => exact (netOk_of h).by
  | _ => cases h
def netOf (d : Dt) (h : d.isNet = true) : NetV K := ⟨byL (d.items.map Dt.chn), (netOf_ok h).1, (netOf_ok h).2⟩
def F_Net (x : Dk K) : DW (ExR (NetV K)) := fun n M => x.d.items.length ≤ 1000 ∧ if h : x.d.isNet = true then M (.ok (netOf x.d h)) n else M (.error ⟨"NoNet", []⟩) n
theorem net_core {v : V} {x : Dk K} {M : ExR (NetV K) → Nat → Prop} (sb : Same I H) (r : Rep.is I v x) (e : F_Net x 0 M) (k : ∀ y n', M (.ok y) n' → ∀ v I' H', Grow No I H I' H' → Rep.is I' v y → Q v H') (kE : ∀ er n', M (.error er) n' → er.out K E I H)
    {xa dx : Addr} (hx : H xa = none) (hdx : H dx = none) (ne : dx ≠ xa) : spb_Net__init K [.ref xa, v] (upd (upd H dx (.own xa)) xa (.ins (He.ga K "Net") dx [])) (fun v' H3 => v' = .non ∧ Q (.ref xa) H3) E := by
  have gm : Grow No I H I (upd (upd H dx (.own xa)) xa (.ins (He.ga K "Net") dx [])) := grow_made sb hx hdx ne
  obtain ⟨hl, e⟩ := e
  obtain ⟨d⟩ := x
  have hd : isE K I v d := r
  refine ⟨I, xa, dx, v, d, rfl, upd_same, sb.free hx, gm.sub, ?_, fun yes u I' H' g h1 h2 => ?_, fun no I' H' g => ?_⟩
  · cases d with
    | sq t xs =>
      obtain ⟨a, ws, rfl, ha, es⟩ := hd.inv
      exact .inr ⟨a, t, ws, xs, rfl, rfl, fun z => (by rw [← z, sb _ _ ha] at hx; cases hx), gm.same _ _ (sb _ _ ha), es, hl⟩
    | _ => exact .inl ⟨hd, rfl⟩
  · refine ⟨rfl, ?_⟩
    rw [dif_pos yes] at e
    obtain ⟨g2, n2⟩ := Grow.make (T := No) (o := .ins (He.ga K "Net") dx [("by_letter", u)]) (Grow.refl sb) hx hdx ne g (fun b z => .inr (by rw [show b = xa from z]; exact hx)) h1
    exact k _ _ e _ _ _ g2 ⟨xa, dx, u, rfl, upd_same, Rep.mono (Same.up n2) h2⟩
  · rw [dif_neg (by show ¬ d.isNet = true; rw [no]; exact Bool.false_ne_true)] at e
    exact kE _ _ e I' H' none (gm.trans g) rfl
theorem o_make_Net (_ : Txt K mg) {x : Dk K} {fr : NetV K → DW γ} {M : γ → Nat → Prop} (h : Stn f a n I H) (A : EvP f a rv te σ x) (e : bindD (okX (F_Net x)) fr n M) (k : ∀ y v I1 H1, fr y n M → Stn f (a.rep v y) n I1 H1 → Q v H1) :
    tMake (He.ga K "Net") (fun vs H Q E => sp_Net__init K vs H Q E ∨ spb_Net__init K vs H Q E) [] E0 (tCons te tNil) σ H Q := A n I H h _ fun v I1 H1 g r xa dx hx hdx ne => by
  have h1 := h.grow g
  have e : F_Net x 0 (fun r _ => match r with | .ok y => fr y n M | .error _ => False) := e
  exact .inr (net_core h1.sub r e (fun y n' e' u I2 H2 g2 r2 => k y u I2 H2 e' ((h1.grow g2).rep r2)) (fun er n' e' => False.elim e') hx hdx ne)
theorem ex_make_Net (_ : Txt K mg) {x : Dk K} (A : EvP f a rv te σ x) : EvX K f a (fun E => tMake (He.ga K "Net") (fun vs H Q E => sp_Net__init K vs H Q E ∨ spb_Net__init K vs H Q E) [] E (tCons te tNil)) σ (F_Net x) := fun n I H s E Q M e k kE => A n I H s _ fun v I1 H1 g r xa dx hx hdx ne =>
  .inr (net_core (s.grow g).sub r e (fun y n' e' u I2 H2 g2 r2 => k y n' e' u I2 H2 (g.trans g2) r2) (fun er n' e' => (kE er n' e').grow g) hx hdx ne)
end
def namesN (cs : List Ch) : List Tx := cs.flatMap fun c => [c.b, c.c]
theorem namesN_len : ∀ cs : List Ch, (namesN cs).length = 2 * cs.length
  | [] => rfl
  | c :: cs => by
    show ([c.b, c.c] ++ namesN cs).length = _
    rw [List.length_append, namesN_len cs, List.length_cons, List.length_cons, List.length_cons, List.length_nil]
    omega
theorem kvR_vals {κ α : Type} [KeyT κ] [Rep α] {I : Hp} : ∀ {kvs : List (Key × V)} {l : List (κ × α)}, Paired (kvR I) kvs l → Paired (Rep.is I) (kvs.map (·.2)) (l.map (·.2))
  | _, _, .nil => .nil
  | _, _, .cons h t => .cons h.2.2 (kvR_vals t)
theorem netD_vals (cs : List Ch) : (netD cs).l.map (·.2) = cs := by
  unfold netD
  rw [List.map_map]
  exact List.map_id' cs
theorem distinct_map {κ κ2 : Type} [DecidableEq κ] [DecidableEq κ2] {f : κ → κ2} (hf : ∀ x y, f x = f y → x = y) (xs : List κ) : distinct (xs.map f) = (distinct xs).map f := by
  have go : ∀ (xs L : List κ), (xs.map f).foldl addL (L.map f) = (xs.foldl addL L).map f := by
    intro xs
    induction xs with
    | nil => intro L; rfl
    | cons x xs ih =>
      intro L
      rw [List.map_cons, List.foldl_cons, List.foldl_cons, ← ih]
      congr 1
      unfold addL
      by_cases h : x ∈ L
      · have h2 : f x ∈ L.map f := List.mem_map_of_mem h
        first
          | rw [if_pos h, if_pos h2]
          | (rw [if_pos (by simpa using h), if_pos (by simpa using h2)])
      · have h2 : f x ∉ L.map f := fun z => by
          obtain ⟨y, hy, e⟩ := List.mem_map.mp z
          rw [← hf _ _ e] at h
          exact h hy
        have e3 : L.map f ++ [f x] = (L ++ [x]).map f := by rw [List.map_append]; rfl
        first
          | rw [if_neg h, if_neg h2, e3]
          | (rw [if_neg (by simpa using h), if_neg h2, e3])
          | (rw [if_neg (by simpa using h), if_neg (by simpa using h2), e3])
  exact go xs []
def F_Net_processes {K : PySem.W.Frag} (n : NetV K) : Option (Tup Tx) := some ⟨srtT (distinct (namesN n.cs))⟩
def sp_Net_processes (K : PySem.W.Frag) : Sp := spP (fun z : NetV K × Unit => F_Net_processes z.1)
section
variable {P : Program} {w : World} {K : PySem.W.Frag} {mg : Str → Option Value} {base : Heap}
def F_Net_channels (self1 : (NetV K)) : (Option (Tup (T3 Sg Tx Tx))) := needP (((Dc.keys self1.netF).length ≤ 16777216) ∧ ((∀ x3 ∈ (Dc.keys self1.netF), (Dc.get? self1.netF x3).isSome = true))) <| (some (⟨(List.map (fun x3 : Sg => ((Dc.get? self1.netF x3).getD default)) (Dc.keys self1.netF))⟩ : Tup (T3 Sg Tx Tx)))
def sp_Net_channels (K : PySem.W.Frag) : Sp := spP (fun z : (NetV K) × Unit => (Nw.F_Net_channels (K := K)) z.1)
theorem ok_Net_channels (T : Txt K mg) (F : FnAt K "channels" "Net.channels" s_Net_channels (propGet K (He.ga K "Net") "channels"))  : Ok P w K mg base CX0 1 (propGet K (He.ga K "Net") "channels") ["self"] (sp_Net_channels K) := by
  refine ok_of F sc_Net_channels (fun _ _ _ _ _ _ us hl => match us, hl with | [_], _ => rfl) (fun vs H Q E h => ?_) (fun cdv A outer s H vs Q E hr h => ?_)
  · obtain ⟨_, ⟨_, _⟩, _, ⟨_, _, rfl, _, rfl⟩, _⟩ := h
    rfl
  · obtain ⟨I, ⟨self1, _⟩, y, ⟨v2, _, rfl, h_self1, rfl⟩, sb, hF, k⟩ := h
    have h := ((stn0 sb).rep h_self1)
    have e : (Nw.F_Net_channels (K := K)) self1 = some y := hF
    unfold Nw.F_Net_channels at e
    have r_self1 := rep_last h
    refine ⟨_, (pss_one (ps_ret (pe_callTy call_tuple_of (by rfl) T.b_tuple (by decide +kernel) (pa_cons (pe_lc (own := [("letter", 1)]) (g := (gName 1)) rfl sc_Net_channels.nd (pi_keys (pe_fld (pv 0) rfl)) (blkOk_by (own := [("letter", 1)]) (N := n_Net_channels) (sc := defScope s_Net_channels) (by decide +kernel)) (fun _ _ _ _ _ => (pg_name (i := 1) sc_Net_channels.nd rfl (Or.inl rfl))) (fun _ _ _ _ _ => pts_nil) (fun _ _ _ _ _ => (pe_dget (hu_of hr) (pe_fldK (K := K) rfl (pv 0) rfl) (pv 1) (fun _ _ => rfl)))) pa_nil)))), ?_⟩
    obtain ⟨⟨q5, q9⟩, e⟩ := need_ok e
    exact st_ret h (ep_b1 c_tupL (EvP.rl (EvP.cast (ep_lc (b := fun x3 : Sg => true) (e := fun x3 : Sg => ((Dc.get? self1.netF x3).getD default)) (ei_keys (ep_Net_by_letter T (ep_var rfl fun I γ => r_self1 I γ))) (q5) (fun x3 hx4 => bd_name) (fun x3 hx4 σ2 a2 z => by obtain ⟨v6, rfl, rfl⟩ := z; exact ⟨rfl, eb_yes, fun hb8 => (ep_dget (q9 x3 hx4) (ep_Net_by_letter T (ep_var rfl fun I γ => r_self1 I (And.left γ))) (ep_var rfl fun I γ => And.right γ))⟩)) fm_map))) (fun v I1 H1 h r => k v I1 H1 h.g ((Option.some.inj e) ▸ r))
theorem ok_Net_processes (T : Txt K mg) (F : FnAt K "processes" "Net.processes" s_Net_processes (propGet K (He.ga K "Net") "processes"))  : Ok P w K mg base CX0 1 (propGet K (He.ga K "Net") "processes") ["self"] (sp_Net_processes K) := by
  refine ok_of F sc_Net_processes (fun _ _ _ _ _ _ us hl => match us, hl with | [_], _ => rfl) (fun vs H Q E h => ?_) (fun cdv A outer s H vs Q E hr h => ?_)
  · obtain ⟨_, ⟨_, _⟩, _, ⟨_, _, rfl, _, rfl⟩, _⟩ := h
    rfl
  · obtain ⟨I, ⟨n, _⟩, y, ⟨v, _, rfl, hn, rfl⟩, sb, hF, k⟩ := h
    cases hF
    obtain ⟨x, dx, u, rfl, hx, ⟨d, od, kvs, rfl, hd, hkv⟩⟩ := hn
    have h4 : n.cs.length ≤ 4 := n.few
    refine ⟨_, (pss_one (ps_ret (pe_callTy call_tuple_of (by rfl) T.b_tuple (by decide +kernel) (pa_cons (pe_sortSetL rfl (by rfl) T.b_sorted (by rfl) T.b_set (pe_lc2 (own := [("channel", 1), ("name", 2)]) (vs1 := [2]) (g := (gName 1)) (g1 := (gName 2)) rfl sc_Net_processes.nd (pi_values (pe_fld (pv 0) rfl)) (blkOk_by (own := [("channel", 1), ("name", 2)]) (N := n_Net_processes) (sc := defScope s_Net_processes) (by decide +kernel)) (by decide) (fun _ _ _ _ _ => (pg_name (i := 1) sc_Net_processes.nd rfl (Or.inl rfl))) (fun _ _ _ _ _ => pts_nil) (fun _ _ _ _ _ => (pi_tupK (K := K) rfl (pe_slice (sl_tupK (K := K) rfl) (pv 1) (po_some pe_int) po_none))) (fun _ _ _ _ _ => (pg_name (i := 2) sc_Net_processes.nd rfl (Or.inl rfl))) (fun _ _ _ _ _ => pts_nil) (fun _ _ _ _ _ => (pe_callTy SkE.call_str_str (by rfl) T.b_str (by decide +kernel) (pa_cons (pv 2) pa_nil))))) pa_nil)))), ?_⟩
    have hv : Paired (Rep.is I) (kvs.map (·.2)) n.cs := netD_vals n.cs ▸ kvR_vals hkv
    have hl : kvs.length = n.cs.length := by
      have := Nw.Paired.len hv
      rwa [List.length_map] at this
    have s0 : Same I H := sb
    have hfz0 := sb _ _ hd
    have hxz := sb _ _ hx
    refine ⟨_, rfl, x, _, dx, _, _, rfl, hxz, T.cl_Net, T.na_Net_by_letter, rfl, d, od, _, rfl, hfz0, fun L hL => ?_⟩
    have old : ∀ {b : Addr} {vs : List V}, I b = some (.tup vs) → H b = some (.tup vs) := fun {b vs} h => sb _ _ h
    refine lc2_it (n := kvs.length) walk_values (fun i H' => ∃ I', Grow No I H I' H' ∧ Own No H L (.lst ((namesN (n.cs.take i)).map fun x => V.str (mk x.l))) I' H') ⟨_, Grow.mine s0 hL, Own.new s0 (.inl (Same.refl _)) (fun _ z => z.elim) hL⟩ (fun i H' _ ⟨I', g, _⟩ => g.keep _ _ (fun z => z) hfz0) ?_ ?_
    · rintro i y H2 H3 hi ⟨I', g, ow⟩ ⟨rfl, kq, hkq⟩
      obtain ⟨c, hc⟩ : ∃ c, n.cs[i]? = some c := ⟨_, List.getElem?_eq_getElem (by omega)⟩
      have hy : (kvs.map (·.2))[i]? = some y := by rw [List.getElem?_map, hkq]; rfl
      obtain ⟨u', hu', hr⟩ := Nw.Paired.at hv hc
      rw [hy] at hu'
      cases hu'
      obtain ⟨b, v1, v2, v3, rfl, hb, r1, ⟨r2, l2⟩, ⟨r3, l3⟩⟩ := hr
      subst r2
      subst r3
      have hbz := g.keep _ _ (fun z => z) (old hb)
      refine ⟨rfl, yes_of ?_⟩
      refine ⟨_, rfl, 1, rfl, b, [v1, _, _], rfl, SqT.of hbz, (fun z => absurd z.1 (by show ¬ HT.sIx 3 0 (some 1) = 0; decide)), fun q hq => ?_⟩
      have e : cutV [v1, V.str (mk c.b.l), V.str (mk c.c.l)] (some (1 : Int)) none = [V.str (mk c.b.l), V.str (mk c.c.l)] := rfl
      rw [e]
      have gq : Grow No I' H3 (upd I' q (.tup [V.str (mk c.b.l), V.str (mk c.c.l)])) (upd H3 q (.tup [V.str (mk c.b.l), V.str (mk c.c.l)])) := Grow.new g.sub hq
      have owq := ow.grow gq
      have gg := g.trans gq
      have tk : n.cs.take (i + 1) = n.cs.take i ++ [c] := by rw [List.take_add_one, hc]; rfl
      refine ⟨q, rfl, ⟨_, SqT.of upd_same⟩, ?_⟩
      refine lc2_in (n1 := 2) (walk_tup (K := K) (a := q) (xs := [V.str (mk c.b.l), V.str (mk c.c.l)])) (fun j H' => ∃ I', Grow No I H I' H' ∧ Own No H L (.lst ((namesN (n.cs.take i) ++ [c.b, c.c].take j).map fun x => V.str (mk x.l))) I' H' ∧ I' q = some (.tup [V.str (mk c.b.l), V.str (mk c.c.l)])) ⟨_, gg, by rw [List.take_zero, List.append_nil]; exact owq, upd_same⟩ (fun j H' _ ⟨I'', g'', _, h''⟩ => SqT.of (g''.sub _ _ h'')) ?_ ?_
      · rintro j z H4 H5 hj ⟨I5, g5, o5, q5⟩ ⟨rfl, hz⟩
        obtain ⟨t, ht1, ht2⟩ : ∃ t, [c.b, c.c][j]? = some t ∧ z = V.str (mk t.l) := by
          match j, hj, hz with
          | 0, _, hz => cases hz; exact ⟨_, rfl, rfl⟩
          | 1, _, hz => cases hz; exact ⟨_, rfl, rfl⟩
        subst ht2
        refine ⟨rfl, lc_yes ?_⟩
        have len : (namesN (n.cs.take i) ++ [c.b, c.c].take j).length ≤ 10 := by
          rw [List.length_append]
          have z1 : (namesN (n.cs.take i)).length = 2 * (n.cs.take i).length := namesN_len _
          have z2 : (n.cs.take i).length ≤ 4 := Nat.le_trans (List.length_take_le' ..) h4
          have z3 : ([c.b, c.c].take j).length ≤ 2 := List.length_take_le' ..
          omega
        refine ⟨_, rfl, _, rfl, _, o5.at_, by rw [List.length_map, sizeLine_eq]; omega, _, g5.put o5, ?_, q5⟩
        have e5 : (namesN (n.cs.take i) ++ [c.b, c.c].take (j + 1)).map (fun x => V.str (mk x.l)) = (namesN (n.cs.take i) ++ [c.b, c.c].take j).map (fun x => V.str (mk x.l)) ++ [V.str (mk t.l)] := by
          rw [List.take_add_one, ht1, ← List.append_assoc, List.map_append]
          rfl
        rw [e5]
        exact o5.put
      · rintro H4 ⟨I4, g4, o4, q4⟩
        refine ⟨I4, g4, ?_⟩
        rw [tk]
        have e6 : namesN (n.cs.take i ++ [c]) = namesN (n.cs.take i) ++ [c.b, c.c].take 2 := by
          unfold namesN
          rw [List.flatMap_append]
          rfl
        rw [e6]
        exact o4
    · rintro H1 ⟨I1, g1, ow⟩
      rw [List.take_of_length_le (by omega)] at ow
      have gu := g1
      have nl : (namesN n.cs).length ≤ 8 := by rw [namesN_len]; omega
      have e7 : (namesN n.cs).map (fun x => V.str (mk x.l)) = ((namesN n.cs).map fun x => mk x.l).map V.str := by rw [List.map_map]; rfl
      rw [e7] at ow
      refine ⟨L, _, rfl, SqL.of ow.at_, by rw [List.length_map]; omega, fun ys p pm so hp => ?_⟩
      rw [distinct_map (fun x y h => Tx.ext (mk_inj h))] at pm
      obtain ⟨zs, rfl, pz⟩ := txs_perm pm
      have ez : zs = srtT (distinct (namesN n.cs)) := ascT_uniq (pz.trans (srtT_perm _).symm) (sorted_asc zs so) (srtT_asc _)
      subst ez
      refine ⟨p, _, rfl, .inl ⟨SqL.of upd_same, fun t ht => ?_⟩⟩
      have g2 := gu.trans (Grow.mine (T := No) (o := .lst (((srtT (distinct (namesN n.cs))).map fun x => mk x.l).map V.str)) gu.sub hp)
      have g3 := g2.trans (Grow.new (T := No) (o := .tup (((srtT (distinct (namesN n.cs))).map fun x => mk x.l).map V.str)) g2.sub ht)
      refine k _ _ _ g3 ⟨t, _, rfl, upd_same, ?_⟩
      have short : ∀ x ∈ srtT (distinct (namesN n.cs)), x.l.length ≤ 100000 := fun x hx => by
        have hx2 := mem_distinct.mp ((srtT_perm _).mem_iff.mp hx)
        obtain ⟨c, hc, hxc⟩ := List.mem_flatMap.mp hx2
        obtain ⟨i, hi⟩ := List.getElem?_of_mem hc
        obtain ⟨u', hu', hr⟩ := Nw.Paired.at hv hi
        obtain ⟨b, v1, v2, v3, rfl, hb, r1, ⟨r2, l2⟩, ⟨r3, l3⟩⟩ := hr
        simp only [List.mem_cons, List.not_mem_nil, or_false] at hxc
        rcases hxc with rfl | rfl
        · exact l2
        · exact l3
      clear pm pz so
      revert short
      generalize srtT (distinct (namesN n.cs)) = l
      intro short
      induction l with
      | nil => exact .nil
      | cons x l ih => exact .cons ⟨rfl, short x (List.mem_cons_self ..)⟩ (ih fun y hy => short y (List.mem_cons_of_mem _ hy))
end
end Nw

namespace Nw
open PySem PySem.Spec PyProof.Rows L2
section
variable {P : Program} {w : World} {K : PySem.W.Frag} {mg : Str → Option Value} {base : Heap}


def F_Net_need_process (self1 : (NetV K)) (process3 : (Dk K)) : DW (ExR Unit) := needD ((((!(Dt.isStr (Dk.d process3))) = false → Dt.isStr (Dk.d process3) = true)) ∧ (((!(Dt.isStr (Dk.d process3))) = false → (Nw.F_Net_processes self1).isSome = true))) <| if ((!(Dt.isStr (Dk.d process3))) || (!decide ((Dt.tx (Dk.d process3)) ∈ ((Nw.F_Net_processes self1).getD default).l))) = true then ((pureD (.error ⟨"NoProcess", []⟩))) else ((pureD (.ok ())))
def sp_Net_need_process (K : PySem.W.Frag) : Sp := fun _ _ _ _ => False
def spb_Net_need_process (K : PySem.W.Frag) : Sp := spX K (fun z : (NetV K) × (Dk K) × Unit => (Nw.F_Net_need_process (K := K)) z.1 z.2.1)
theorem ok_Net_need_process (T : Txt K mg) (F : FnAt K "need_process" "Net.need_process" s_Net_need_process (He.ma K (He.ga K "Net") "need_process"))  : Ok P w K mg base CX0 3 (He.ma K (He.ga K "Net") "need_process") ["self", "process"] (sp_Net_need_process K) := by
  refine ok_of F sc_Net_need_process (fun _ _ _ _ _ _ us hl => match us, hl with | [_, _], _ => rfl) (fun vs H Q E h => ?_) (fun cdv A outer s H vs Q E hr h => ?_)
  · exact h.elim
  · exact h.elim
theorem okb_Net_need_process (T : Txt K mg) (F : FnAt K "need_process" "Net.need_process" s_Net_need_process (He.ma K (He.ga K "Net") "need_process")) (G_Net_processes : Ok P w K mg base CX0 1 (propGet K (He.ga K "Net") "processes") ["self"] (sp_Net_processes K)) : Ok P w K mg base (L2.CX P w) 3 (He.ma K (He.ga K "Net") "need_process") ["self", "process"] (spb_Net_need_process K) := by
  obtain ⟨fd_Net_processes, F_Net_processes, b_Net_processes, _⟩ := G_Net_processes.ok
  refine ok_ofX F sc_Net_need_process (fun _ _ _ _ _ _ us hl => match us, hl with | [_, _], _ => rfl) (fun vs H Q E h => ?_) (fun cdv A outer s H vs Q E hr h => ?_)
  · obtain ⟨_, ⟨_, _, _⟩, _, ⟨_, _, rfl, _, _, _, rfl, _, rfl⟩, _⟩ := h
    rfl
  · obtain ⟨I, ⟨self1, process3, _⟩, M, ⟨v2, _, rfl, h_self1, v4, _, rfl, h_process3, rfl⟩, sb, e, kO, kE⟩ := h
    have h := (((stnX (n := 0) sb).rep h_self1).rep h_process3)
    have e : (Nw.F_Net_need_process (K := K)) self1 process3 0 M := e
    unfold Nw.F_Net_need_process at e
    have r_self1 := rep_last2 h
    have r_process3 := rep_last h
    refine ⟨_, (pss_one (ps_if (PW.pt (pw_or (pt_not (pt_val (pe_callB call_isi (by rfl) T.b_isinstance (by decide +kernel) (pa_cons (pv 1) (pa_cons (pe_bltn (v := .ty "str") rfl T.b_str (by decide +kernel) rfl) pa_nil))))) (pw_or1 (pt_cmpR op_notIn_seq (pv 1) (pe_propC T.cl_Net T.p_Net_processes G_Net_processes (hr.mono (by decide)) (pv 0)) rfl)))) (pss_one (ps_raise rfl (takes_of rfl rfl rfl rfl) (pmk_own PySem.F.excBase_ValueError T.xp_NoProcess.1 T.g_NoProcess T.xp_NoProcess.2.1 (raises_own T.xp_NoProcess.2.2.1 T.xp_NoProcess.2.2.2) rfl))) pss_nil)), ?_⟩
    obtain ⟨⟨q6, q7⟩, e⟩ := e
    refine d_if h (eb_or (eb_not (eb_val (ep_isiS (ep_var rfl fun I γ => r_process3 I γ)))) (fun c5 => (eb_test (ep_op os_notInU (ep_cx (ep_var rfl fun I γ => r_process3 I γ) (cv_asT (q6 c5))) (ep_prop (C := He.ga K "Net") (F := (fun z : NetV K × Unit => Nw.F_Net_processes z.1)) (ep_var rfl fun I γ => r_self1 I γ) (someD (q7 c5))))))) e (fun c8 e I1 H1 h => ?_) (fun c8 e I1 H1 h => ?_)
    · exact kE _ _ e _ _ none h.gN rfl
    · exact kO _ _ e .non _ _ h.gN rfl


def F_l_ends_by (channels_here1 : (List (T3 Sg Tx Tx))) : (Option (Dc Sg (Tx × Tx))) := needP (channels_here1.length ≤ 16777216) <| (some (Dc.ofL (List.map (fun x3 : (T3 Sg Tx Tx) => (x3.a, (x3.b, x3.c))) channels_here1)))
def sp_l_ends_by (K : PySem.W.Frag) : Sp := spP (fun z : (List (T3 Sg Tx Tx)) × Unit => Nw.F_l_ends_by z.1)
theorem ok_l_ends_by (T : Txt K mg) (F : FnAt K "_law_ends_by" "_law_ends_by" s_l_ends_by (He.ga K "_law_ends_by"))  : Ok P w K mg base CX0 1 (He.ga K "_law_ends_by") ["_law_channels_here"] (sp_l_ends_by K) := by
  refine ok_of F sc_l_ends_by (fun _ _ _ _ _ _ us hl => match us, hl with | [_], _ => rfl) (fun vs H Q E h => ?_) (fun cdv A outer s H vs Q E hr h => ?_)
  · obtain ⟨_, ⟨_, _⟩, _, ⟨_, _, rfl, _, rfl⟩, _⟩ := h
    rfl
  · obtain ⟨I, ⟨channels_here1, _⟩, y, ⟨v2, _, rfl, h_channels_here1, rfl⟩, sb, hF, k⟩ := h
    have h := ((stn0 sb).rep h_channels_here1)
    have e : Nw.F_l_ends_by channels_here1 = some y := hF
    unfold Nw.F_l_ends_by at e
    have r_channels_here1 := rep_last h
    refine ⟨_, (pss_one (ps_ret (pe_frz (pe_callTy (call_dictP rfl) (by rfl) T.b_dict (by decide +kernel) (pa_cons (pe_lc (own := [("_law_one", 1)]) (g := (gName 1)) rfl sc_l_ends_by.nd (pi_list (pv 0)) (blkOk_by (own := [("_law_one", 1)]) (N := n_l_ends_by) (sc := defScope s_l_ends_by) (by decide +kernel)) (fun _ _ _ _ _ => (pg_name (i := 1) sc_l_ends_by.nd rfl (Or.inl rfl))) (fun _ _ _ _ _ => pts_nil) (fun _ _ _ _ _ => (pe_tup (pa_cons (pe_ix (ix_tupK (K := K) rfl) (pv 1) pe_int (fun _ _ => rfl)) (pa_cons (pe_tup (pa_cons (pe_ix (ix_tupK (K := K) rfl) (pv 1) pe_int (fun _ _ => rfl)) (pa_cons (pe_ix (ix_tupK (K := K) rfl) (pv 1) pe_int (fun _ _ => rfl)) pa_nil))) pa_nil))))) pa_nil))))), ?_⟩
    obtain ⟨q5, e⟩ := need_ok e
    exact st_ret h (ep_frz (ek_dictP (EvP.rl (EvP.cast (ep_lc (b := fun x3 : (T3 Sg Tx Tx) => true) (e := fun x3 : (T3 Sg Tx Tx) => (x3.a, (x3.b, x3.c))) (ei_list (ep_var rfl fun I γ => r_channels_here1 I γ)) (q5) (fun x3 hx4 => bd_name) (fun x3 hx4 σ2 a2 z => by obtain ⟨v6, rfl, rfl⟩ := z; exact ⟨rfl, eb_yes, fun hb8 => (ep_tup2 (ea_cons (ep_op os_ix30 (ep_var rfl fun I γ => And.right γ) ep_int) (ea_cons (ep_tup2 (ea_cons (ep_op os_ix31 (ep_var rfl fun I γ => And.right γ) ep_int) (ea_cons (ep_op os_ix32 (ep_var rfl fun I γ => And.right γ) ep_int) ea_nil))) ea_nil)))⟩)) fm_map)))) (fun v I1 H1 h r => k v I1 H1 h.g ((Option.some.inj e) ▸ r))
def F_l_walked (channels_here1 : (List (T3 Sg Tx Tx))) (row3 : Tx) (process5 : (Option Tx)) : (Option (Option Tx)) := needP ((Nw.F_l_ends_by channels_here1).isSome = true) <| bindP ((Nw.F_l_ends_by channels_here1).getD default) fun ends8 => loopP (sgL (row3 : Tx).l) (fun (x34 : Sg) (s23 : (Option Tx)) next39 brk40 => needP (Sg.c x34 < 128) <| if (!(Dc.get? ends8 (sgn (lo1 (Sg.c x34)))).isSome) = true then ((some (none : Option Tx))) else (needP ((Sg.c x34 < 128) ∧ ((Dc.get? ends8 (sgn (lo1 (Sg.c x34)))).isSome = true)) <| bindP ((Dc.get? ends8 (sgn (lo1 (Sg.c x34)))).getD default) fun pair47 => bindP (if (decide (Sg.c x34 ∈ ((tx [97, 98, 99, 100]) : Tx).l)) = true then pair47 else ((pair47).2, (pair47).1)) fun x50 => needP ((EqD.sh K (some x50.1) = true) ∧ (EqD.sh K s23 = true)) <| if (!(decide ((some x50.1) = s23))) = true then ((some (none : Option Tx))) else (bindP (some x50.2) fun process58 => next39 process58))) (fun (s11 : (Option Tx)) => (some s11)) process5
def sp_l_walked (K : PySem.W.Frag) : Sp := spP (fun z : (List (T3 Sg Tx Tx)) × Tx × (Option Tx) × Unit => (Nw.F_l_walked (K := K)) z.1 z.2.1 z.2.2.1)
theorem ok_l_walked (T : Txt K mg) (F : FnAt K "_law_walked" "_law_walked" s_l_walked (He.ga K "_law_walked")) (G_l_ends_by : Ok P w K mg base CX0 1 (He.ga K "_law_ends_by") ["_law_channels_here"] (sp_l_ends_by K)) : Ok P w K mg base CX0 2 (He.ga K "_law_walked") ["_law_channels_here", "_law_row", "_law_process"] (sp_l_walked K) := by
  refine ok_of F sc_l_walked (fun _ _ _ _ _ _ us hl => match us, hl with | [_, _, _], _ => rfl) (fun vs H Q E h => ?_) (fun cdv A outer s H vs Q E hr h => ?_)
  · obtain ⟨_, ⟨_, _, _, _⟩, _, ⟨_, _, rfl, _, _, _, rfl, _, _, _, rfl, _, rfl⟩, _⟩ := h
    rfl
  · obtain ⟨I, ⟨channels_here1, row3, process5, _⟩, y, ⟨v2, _, rfl, h_channels_here1, v4, _, rfl, h_row3, v6, _, rfl, h_process5, rfl⟩, sb, hF, k⟩ := h
    have h := ((((stn0 sb).rep h_channels_here1).rep h_row3).rep h_process5)
    have e : (Nw.F_l_walked (K := K)) channels_here1 row3 process5 = some y := hF
    unfold Nw.F_l_walked at e
    have r_channels_here1 := rep_last3 h
    have r_row3 := rep_last2 h
    have r_process5 := rep_last h
    refine ⟨_, (pss_cons (ps_set (i := 3) sc_l_walked.nd rfl (Or.inl rfl) (pe_callC G_l_ends_by (hr.mono (by decide)) T.g__law_ends_by (pa_cons (pv 0) pa_nil)))
      (pss_cons (ps_for PassesOwn.never rfl (pi_str (pv 1)) (pg_name (i := 4) sc_l_walked.nd rfl (Or.inl rfl)) (pss_cons (ps_if (pt_cmp (pc_dnotin (hu_of hr) (pe_lower (pv 4)) (pv 3))) (pss_one (ps_ret pe_non)) pss_nil)
      (pss_cons (ps_set (i := 5) sc_l_walked.nd rfl (Or.inl rfl) (pe_dget (hu_of hr) (pv 3) (pe_lower (pv 4)) (fun _ _ => rfl)))
      (pss_cons (ps_asg (pe_ifExp (pt_cmpR op_in_sign (pv 4) pe_str rfl) (pv 5) (pe_revT (pv 5))) (pg_tup (by rfl) (pgs_cons (pg_name (i := 6) sc_l_walked.nd rfl (Or.inl rfl)) (pgs_cons (pg_name (i := 7) sc_l_walked.nd rfl (Or.inl rfl)) pgs_nil))))
      (pss_cons (ps_if (pt_cmpR (op_neD hr.units) (pv 6) (pv 2) (nomark _)) (pss_one (ps_ret pe_non)) pss_nil)
      (pss_one (ps_set (i := 2) sc_l_walked.nd rfl (Or.inl rfl) (pv 7))))))))
      (pss_one (ps_ret (pv 2))))), ?_⟩
    obtain ⟨q7, e⟩ := need_ok e
    refine p_sets h (ep_call (F := (fun z : (List (T3 Sg Tx Tx)) × Unit => Nw.F_l_ends_by z.1)) (ea_cons (ep_var rfl fun I γ => r_channels_here1 I γ) ea_nil) (someD (q7))) e fun ends8 v9 I1 H1 e h => ?_
    have r_ends8 := rep_last h
    refine p_fors (S := (Option Tx)) (fun (z : (Option Tx)) (σ : L2.St) (a : Amb) => ∃ w0 : V, ∃ u0 : Option V, ∃ u1 : Option V, ∃ u2 : Option V, ∃ u3 : Option V, σ = [some v2, some v4, some w0, some v9, u3, u0, u1, u2] ∧ (∀ I, a.Γ I → Rep.is I v2 (channels_here1 : (List (T3 Sg Tx Tx))) ∧ Rep.is I v4 (row3 : Tx) ∧ Rep.is I w0 (z : (Option Tx)) ∧ Rep.is I v9 (ends8 : (Dc Sg (Tx × Tx)))) ∧ a.Ω = []) h (ei_str (ep_var rfl fun I γ => r_row3 I (And.left γ))) e (fun I1 => ⟨v6, _, _, _, _, rfl, fun I γ => ⟨r_channels_here1 I (And.left (And.left γ)), r_row3 I (And.left (And.left γ)), r_process5 I (And.left (And.left γ)), r_ends8 I (And.left γ)⟩, rfl⟩) ?_ ?_
    · rintro s11 σ2 a2 n2 I1 H1 e ⟨v13, u14, u15, u16, u17, rfl, rr18, o⟩ h
      have r_19 : ∀ I, Amb.Γ _ I → Rep.is I v2 (channels_here1 : (List (T3 Sg Tx Tx))) := fun I γ => (rr18 I γ).1
      have r_20 : ∀ I, Amb.Γ _ I → Rep.is I v4 (row3 : Tx) := fun I γ => (rr18 I γ).2.1
      have r_21 : ∀ I, Amb.Γ _ I → Rep.is I v13 (s11 : (Option Tx)) := fun I γ => (rr18 I γ).2.2.1
      have r_22 : ∀ I, Amb.Γ _ I → Rep.is I v9 (ends8 : (Dc Sg (Tx × Tx))) := fun I γ => (rr18 I γ).2.2.2
      exact st_ret h (ep_var rfl fun I γ => r_21 I γ) (fun v I1 H1 h r => k v I1 H1 h.g ((Option.some.inj e) ▸ r))
    · rintro x34 s23 σ2 a2 n2 Iv37 tl I1 H1 v N hx ⟨v24, u25, u26, u27, u28, rfl, rr29, o⟩ vw36 e h hr kN41 kB42
      have r_30 : ∀ I, Amb.Γ _ I → Rep.is I v2 (channels_here1 : (List (T3 Sg Tx Tx))) := fun I γ => (rr29 I γ).1
      have r_31 : ∀ I, Amb.Γ _ I → Rep.is I v4 (row3 : Tx) := fun I γ => (rr29 I γ).2.1
      have r_32 : ∀ I, Amb.Γ _ I → Rep.is I v24 (s23 : (Option Tx)) := fun I γ => (rr29 I γ).2.2.1
      have r_33 : ∀ I, Amb.Γ _ I → Rep.is I v9 (ends8 : (Dc Sg (Tx × Tx))) := fun I γ => (rr29 I γ).2.2.2
      refine bd_name n2 I1 H1 v h hr _ fun σ3 a3 hz h => ?_
      obtain ⟨v35, rfl, rfl⟩ := hz
      have r_38 := rep_last h
      obtain ⟨q43, e⟩ := need_ok e
      refine p_ifs h (eb_test (ep_dnin (ep_loS (ep_var rfl fun I γ => r_38 I γ) (q43)) (ep_var rfl fun I γ => r_33 I (And.left γ)))) e (fun c44 e I1 H1 h => ?_) (fun c44 e I1 H1 h => ?_)
      · exact st_ret h ep_none (fun v I1 H1 h r => k v I1 H1 h.g ((Option.some.inj e) ▸ r))
      · refine next_of ?_
        obtain ⟨⟨q45, q46⟩, e⟩ := need_ok e
        refine p_sets h (ep_dget (q46) (ep_var rfl fun I γ => r_33 I (And.left γ)) (ep_loS (ep_var rfl fun I γ => r_38 I γ) (q45))) e fun pair47 v48 I1 H1 e h => ?_
        have r_pair47 := rep_last h
        refine p_asgs h (ep_if (eb_test (ep_op os_inS (ep_var rfl fun I γ => r_38 I (And.left γ)) (ep_txc (by rfl) (by decide)))) (fun c49 => (ep_var rfl fun I γ => r_pair47 I γ)) (fun c49 => (ep_revT (ep_var rfl fun I γ => r_pair47 I γ)))) (fun x => bd_2 (x := x)) e fun x50 σ2 a2 I1 H1 e z h => ?_
        obtain ⟨v51, v52, rfl, rfl⟩ := z
        have r_53 := rep_last2 h
        have r_54 := rep_last h
        obtain ⟨⟨q55, q56⟩, e⟩ := need_ok e
        refine p_ifs h (eb_test (ep_op (os_neE (K := K) (q55) (q56) (Nat.le_of_ble_eq_true rfl)) (ep_some (ep_var rfl fun I γ => r_53 I γ) (fun _ _ h => by rw [h.1]; exact fun z => nomatch z)) (ep_var rfl fun I γ => r_32 I (And.left (And.left (And.left (And.left γ))))))) e (fun c57 e I1 H1 h => ?_) (fun c57 e I1 H1 h => ?_)
        · exact st_ret h ep_none (fun v I1 H1 h r => k v I1 H1 h.g ((Option.some.inj e) ▸ r))
        · refine next_of ?_
          refine p_set h (ep_some (ep_var rfl fun I γ => r_54 I γ) (fun _ _ h => by rw [h.1]; exact fun z => nomatch z)) e fun process58 v59 I1 H1 e h => ?_
          have r_process58 := rep_last h
          refine kN41 _ _ _ _ _ _ e ?_ ?_ h
          · exact ⟨v59, _, _, _, _, rfl, fun I γ => ⟨r_30 I (And.left (And.left (And.left (And.left (And.left γ))))), r_31 I (And.left (And.left (And.left (And.left (And.left γ))))), r_process58 I γ, r_33 I (And.left (And.left (And.left (And.left (And.left γ)))))⟩, o⟩
          · exact fun I γ => vw36 I (And.left (And.left (And.left (And.left (And.left γ)))))

end
end Nw

namespace Nw
open PySem PySem.Spec PyProof.Rows L2
section
variable {P : Program} {w : World} {K : PySem.W.Frag} {mg : Str → Option Value} {base : Heap}



def F_l_processes  : DW (List Tx) := bindP (tx [97, 98, 99, 100, 101, 102, 103, 104, 105, 106, 107, 108, 109, 110, 111, 112, 113, 114, 115, 116, 117, 118, 119, 120, 121, 122]) fun signs1 => bindD (F_pick ([(1 : Int), (3 : Int), (5 : Int), (7 : Int), (9 : Int), (11 : Int)] : List Int)) fun x4 => bindD (F_next (6 : Int)) fun r7 => needD (((-(2 ^ 62) ≤ r7 ∧ r7 < 2 ^ 62)) ∧ ((rng 0 r7).length ≤ 16777216)) <| bindD (compD (rng 0 r7) fun x12 => bindD (F_pick (sgL (signs1 : Tx).l)) fun c17 => (pureD (some c17))) fun x20 => needD (x20.length ≤ 100000) <| bindD (F_next (26 : Int)) fun r26 => bindD (F_pick ([(2 : Int), (2 : Int), (3 : Int), (3 : Int), (4 : Int)] : List Int)) fun x29 => bindP x29 fun many32 => bindD (F_next (4 : Int)) fun r34 => if (decide (r34 = (0 : Int))) = true then (bindD (F_shuffled ([(tx [98]), (tx [97, 98]), (tx [97, 98, 99]), (tx [97]), (tx [97, 98, 99, 100, 101, 102]), (tx [122])] : List Tx)) fun x40 => (pureD (cutL x40 none (some many32)))) else (needD ((-(2 ^ 62) ≤ many32 ∧ many32 < 2 ^ 62)) <| loopP (rng 0 many32) (fun (x83 : Int) (s66 : (List Tx)) next88 brk89 => needD ((CMul x4 x83) ∧ (inR (signs1 : Tx).l ((r26 + (x4 * x83)) % (26 : Int))) ∧ (((tx (x20.map Sg.c)) : Tx).l.length + ((tx [Sg.c (sgn (gt (signs1 : Tx).l ((r26 + (x4 * x83)) % (26 : Int))))]) : Tx).l.length ≤ 100000) ∧ (s66.length < 16777216)) <| bindP (s66 ++ [(tx (((tx (x20.map Sg.c)) : Tx).l ++ ((tx [Sg.c (sgn (gt (signs1 : Tx).l ((r26 + (x4 * x83)) % (26 : Int))))]) : Tx).l))]) fun found96 => next88 found96) (fun (s47 : (List Tx)) => (pureD s47)) ([] : List Tx))
def sp_l_processes (K : PySem.W.Frag) : Sp := spD (fun z : Unit => Nw.F_l_processes)
theorem ok_l_processes (T : Txt K mg) (F : FnAt K "_law_processes" "_law_processes" s_l_processes (He.ga K "_law_processes")) (G_l_next : Ok P w K mg base CX0 1 (He.ga K "_law_next") ["_law_draw", "_law_many"] (sp_l_next K)) (G_l_pick : Ok P w K mg base CX0 2 (He.ga K "_law_pick") ["_law_draw", "_law_some_here"] (sp_l_pick K)) (G_l_shuffled : Ok P w K mg base CX0 2 (He.ga K "_law_shuffled") ["_law_draw", "_law_some_here"] (sp_l_shuffled K)) : Ok P w K mg base CX0 3 (He.ga K "_law_processes") ["_law_draw"] (sp_l_processes K) := by
  refine ok_of F sc_l_processes (fun _ _ _ _ _ _ us hl => match us, hl with | [_], _ => rfl) (fun vs H Q E h => ?_) (fun cdv A outer s H vs Q E hr h => ?_)
  · obtain ⟨_, _, _, ⟨_⟩, _, _, rfl, rfl, _⟩ := h
    rfl
  · obtain ⟨I, D, n, ⟨_⟩, M, _, rfl, rfl, d0, e, k⟩ := h
    have h := (stnD d0)
    have df := dfr d0
    have e : Nw.F_l_processes  n M := e
    unfold Nw.F_l_processes at e
    refine ⟨_, (pss_cons (ps_set (i := 1) sc_l_processes.nd rfl (Or.inr rfl) pe_str)
      (pss_cons (ps_par (i := 2) (j := 3) (by rfl) sc_l_processes.nd rfl rfl (by decide) rfl rfl (pa_cons (pe_lst pa_nil) (pa_cons (pe_callC G_l_pick (hr.mono (by decide)) T.g__law_pick (pa_cons (pv 0) (pa_cons (pe_lst (pa_cons pe_int (pa_cons pe_int (pa_cons pe_int (pa_cons pe_int (pa_cons pe_int (pa_cons pe_int pa_nil))))))) pa_nil))) pa_nil)) (by rfl))
      (pss_cons (ps_par (i := 5) (j := 6) (by rfl) sc_l_processes.nd rfl rfl (by decide) rfl rfl (pa_cons (pe_join pe_str (pe_mid (pe_lc (own := [("_law_turn", 4)]) (g := (gName 4)) rfl sc_l_processes.nd (pi_range1 rfl T.b_range (pa_cons (pe_callC G_l_next (hr.mono (by decide)) T.g__law_next (pa_cons (pv 0) (pa_cons pe_int pa_nil))) pa_nil)) (blkOk_by (own := [("_law_turn", 4)]) (N := n_l_processes) (sc := defScope s_l_processes) (by decide +kernel)) (fun _ _ _ _ _ => (pg_name (i := 4) sc_l_processes.nd rfl (Or.inl rfl))) (fun _ _ _ _ _ => pts_nil) (fun _ _ _ _ _ => (pe_callC G_l_pick (hr.mono (by decide)) T.g__law_pick (pa_cons (pv 0) (pa_cons (pv 1) pa_nil))))))) (pa_cons (pe_callC G_l_next (hr.mono (by decide)) T.g__law_next (pa_cons (pv 0) (pa_cons pe_int pa_nil))) pa_nil)) (by rfl))
      (pss_cons (ps_set (i := 7) sc_l_processes.nd rfl (Or.inl rfl) (pe_callC G_l_pick (hr.mono (by decide)) T.g__law_pick (pa_cons (pv 0) (pa_cons (pe_lst (pa_cons pe_int (pa_cons pe_int (pa_cons pe_int (pa_cons pe_int (pa_cons pe_int pa_nil)))))) pa_nil))))
      (pss_cons (ps_if (pt_cmpR op_eq (pe_callC G_l_next (hr.mono (by decide)) T.g__law_next (pa_cons (pv 0) (pa_cons pe_int pa_nil))) pe_int (nomark _)) (pss_one (ps_ret (pe_slice sl_list (pe_callC G_l_shuffled (hr.mono (by decide)) T.g__law_shuffled (pa_cons (pv 0) (pa_cons (pe_lst (pa_cons pe_str (pa_cons pe_str (pa_cons pe_str (pa_cons pe_str (pa_cons pe_str (pa_cons pe_str pa_nil))))))) pa_nil))) po_none (po_some (pv 7))))) pss_nil)
      (pss_cons (ps_for PassesOwn.never rfl (pi_range1 rfl T.b_range (pa_cons (pv 7) pa_nil)) (pg_name (i := 4) sc_l_processes.nd rfl (Or.inl rfl)) (pss_one (ps_expr (pe_bm PySem.F.plainAttrs_list PySem.F.slot_list_append PySem.F.type_list_append mt_append (pv 2) (pa_cons (pe_op op_add_str (pv 5) (pe_ix ix_str (pv 1) (pe_op op_mod (pe_callTy call_int1 (by rfl) T.b_int (by decide +kernel) (pa_cons (pe_op op_add (pv 6) (pe_op op_mul (pv 3) (pv 4))) pa_nil)) pe_int) (fun _ _ => rfl))) pa_nil)))))
      (pss_one (ps_ret (pv 2))))))))), ?_⟩
    refine d_sets h (ep_txc (by rfl) (by decide)) e fun signs1 v2 I1 H1 e h => ?_
    have r_signs1 := rep_last h
    refine ho_par2N0s (α := Tx) h fun p3 H1 h => ?_
    have o := o_own h (L := []) rfl
    refine ho_par2_1s ?_
    refine d_pickL df (dr_v rfl) h (EvP.rl (ep_lst (el_cons ep_int (el_cons ep_int (el_cons ep_int (el_cons ep_int (el_cons ep_int (el_cons ep_int el_nil)))))) (by show 6 ≤ 16777216; decide))) e fun x4 v5 n2 I1 H1 e h => ?_
    have r_t6 := rep_last h
    refine par2_dones ?_
    refine ho_par2_0s ?_
    refine ho_joinM ?_
    refine ho_lcR ?_
    refine d_next df (dr_v rfl) h ep_int e fun r7 v8 n2 I1 H1 e h => ?_
    have r_t9 := rep_last h
    obtain ⟨⟨q10, q11⟩, e⟩ := e
    refine d_lc (β := Sg) h (ei_rng1 (ep_cv fun I γ => r_t9 I γ) (q10)) (q11) e ?_ (fun x20 v21 n2 I1 H1 e h => ?_)
    · intro x12 n2 I1 H1 v ys L I5 M Nn Ny hx13 e h hr kn ky
      refine bd_name n2 I1 H1 v h hr _ fun σ3 a3 hz h => ?_
      obtain ⟨v15, rfl, rfl⟩ := hz
      have r_16 := rep_last h
      refine ⟨rfl, ?_⟩
      refine tyes ?_
      refine d_pickT df (dr_v rfl) h (ep_var rfl fun I γ => r_signs1 I (And.left (And.left (And.left (And.left γ))))) e fun c17 v18 n2 I1 H1 e h => ?_
      have r_t19 := rep_last h
      exact ky _ _ _ _ _ e (h.weak (fun I γ => (And.left (And.left γ))) rfl) (r_t19 _ h.γ)
    have r_t22 := rep_last h
    obtain ⟨q23, e⟩ := e
    refine e_p h (ep_joinS rfl (ep_txc (l := []) rfl (by decide)) (EvP.rl (ep_cv fun I γ => r_t22 I γ)) (q23)) fun v24 I1 H1 h => ?_
    have r_t25 := rep_last h
    refine ho_par2_1s ?_
    refine d_next df (dr_v rfl) h ep_int e fun r26 v27 n2 I1 H1 e h => ?_
    have r_t28 := rep_last h
    refine par2_dones ?_
    refine ho_asgs ?_
    refine d_pickL df (dr_v rfl) h (EvP.rl (ep_lst (el_cons ep_int (el_cons ep_int (el_cons ep_int (el_cons ep_int (el_cons ep_int el_nil))))) (by show 5 ≤ 16777216; decide))) e fun x29 v30 n2 I1 H1 e h => ?_
    have r_t31 := rep_last h
    refine d_sets h (ep_cv fun I γ => r_t31 I γ) e fun many32 v33 I1 H1 e h => ?_
    have r_many32 := rep_last h
    refine ho_ifs ?_
    refine ho_op1 ?_
    refine d_next df (dr_v rfl) h ep_int e fun r34 v35 n2 I1 H1 e h => ?_
    have r_t36 := rep_last h
    refine e_p h (ep_op os_eq' (ep_cv fun I γ => r_t36 I γ) ep_int) fun v37 I1 H1 h => ?_
    have r_t38 := rep_last h
    refine d_ifs h (eb_test (ep_cv fun I γ => r_t38 I γ)) e (fun c39 e I1 H1 h => ?_) (fun c39 e I1 H1 h => ?_)
    · refine ho_ret ?_
      refine ho_slV ?_
      refine d_shuffled df (dr_v rfl) h (EvP.rl (ep_lst (el_cons (ep_txc (by rfl) (by decide)) (el_cons (ep_txc (by rfl) (by decide)) (el_cons (ep_txc (by rfl) (by decide)) (el_cons (ep_txc (by rfl) (by decide)) (el_cons (ep_txc (by rfl) (by decide)) (el_cons (ep_txc (by rfl) (by decide)) el_nil)))))) (by show 6 ≤ 16777216; decide))) e fun x40 v41 n2 I1 H1 e h => ?_
      have r_t42 := rep_last h
      refine e_p h (ep_slL (EvP.rl (ep_cv fun I γ => r_t42 I γ)) eo_none (eo_some (ep_var rfl fun I γ => r_many32 I (And.left (And.left (And.left γ)))))) fun v43 I1 H1 h => ?_
      have r_t44 := rep_last h
      exact st_ret h (ep_cv fun I γ => r_t44 I γ) (fun v I1 H1 h r => k _ _ e v I1 H1 h.g h.r r)
    · refine next_of ?_
      obtain ⟨q45, e⟩ := e
      refine d_fors (S := (List Tx)) (fun (z : (List Tx)) (σ : L2.St) (a : Amb) => ∃ w0 : Addr, ∃ u0 : Option V, σ = [some (.ref D.d), some v2, some (.ref w0), some v5, u0, some v24, some v27, some v33] ∧ (∀ I, a.Γ I → Rep.is I v2 (signs1 : Tx) ∧ Rep.is I v5 (x4 : Int) ∧ Rep.is I v5 (x4 : Int) ∧ Rep.is I v8 (r7 : Int) ∧ Rep.is I v21 (x20 : (List Sg)) ∧ Rep.is I v24 ((tx (x20.map Sg.c)) : Tx) ∧ Rep.is I v27 (r26 : Int) ∧ Rep.is I v24 ((tx (x20.map Sg.c)) : Tx) ∧ Rep.is I v27 (r26 : Int) ∧ Rep.is I v30 (x29 : Int) ∧ Rep.is I v33 (many32 : Int) ∧ Rep.is I v35 (r34 : Int) ∧ Rep.is I v37 ((decide (r34 = (0 : Int))) : Bool)) ∧ a.Ω = [lcell w0 (z : (List Tx))]) h (ei_rng1 (ep_var rfl fun I γ => r_many32 I (And.left (And.left γ))) (q45)) e (fun I1 => ⟨p3, _, rfl, fun I γ => ⟨r_signs1 I (And.left (And.left (And.left (And.left (And.left (And.left (And.left (And.left (And.left (And.left γ)))))))))), r_t6 I (And.left (And.left (And.left (And.left (And.left (And.left (And.left (And.left (And.left γ))))))))), r_t6 I (And.left (And.left (And.left (And.left (And.left (And.left (And.left (And.left (And.left γ))))))))), r_t9 I (And.left (And.left (And.left (And.left (And.left (And.left (And.left (And.left γ)))))))), r_t22 I (And.left (And.left (And.left (And.left (And.left (And.left (And.left γ))))))), r_t25 I (And.left (And.left (And.left (And.left (And.left (And.left γ)))))), r_t28 I (And.left (And.left (And.left (And.left (And.left γ))))), r_t25 I (And.left (And.left (And.left (And.left (And.left (And.left γ)))))), r_t28 I (And.left (And.left (And.left (And.left (And.left γ))))), r_t31 I (And.left (And.left (And.left (And.left γ)))), r_many32 I (And.left (And.left (And.left γ))), r_t36 I (And.left (And.left γ)), r_t38 I (And.left γ)⟩, o⟩) ?_ ?_
      · rintro s47 σ2 a2 n2 I1 H1 e ⟨p49, u50, rfl, rr51, o⟩ h
        have r_52 : ∀ I, Amb.Γ _ I → Rep.is I v2 (signs1 : Tx) := fun I γ => (rr51 I γ).1
        have r_53 : ∀ I, Amb.Γ _ I → Rep.is I v5 (x4 : Int) := fun I γ => (rr51 I γ).2.1
        have r_54 : ∀ I, Amb.Γ _ I → Rep.is I v5 (x4 : Int) := fun I γ => (rr51 I γ).2.2.1
        have r_55 : ∀ I, Amb.Γ _ I → Rep.is I v8 (r7 : Int) := fun I γ => (rr51 I γ).2.2.2.1
        have r_56 : ∀ I, Amb.Γ _ I → Rep.is I v21 (x20 : (List Sg)) := fun I γ => (rr51 I γ).2.2.2.2.1
        have r_57 : ∀ I, Amb.Γ _ I → Rep.is I v24 ((tx (x20.map Sg.c)) : Tx) := fun I γ => (rr51 I γ).2.2.2.2.2.1
        have r_58 : ∀ I, Amb.Γ _ I → Rep.is I v27 (r26 : Int) := fun I γ => (rr51 I γ).2.2.2.2.2.2.1
        have r_59 : ∀ I, Amb.Γ _ I → Rep.is I v24 ((tx (x20.map Sg.c)) : Tx) := fun I γ => (rr51 I γ).2.2.2.2.2.2.2.1
        have r_60 : ∀ I, Amb.Γ _ I → Rep.is I v27 (r26 : Int) := fun I γ => (rr51 I γ).2.2.2.2.2.2.2.2.1
        have r_61 : ∀ I, Amb.Γ _ I → Rep.is I v30 (x29 : Int) := fun I γ => (rr51 I γ).2.2.2.2.2.2.2.2.2.1
        have r_62 : ∀ I, Amb.Γ _ I → Rep.is I v33 (many32 : Int) := fun I γ => (rr51 I γ).2.2.2.2.2.2.2.2.2.2.1
        have r_63 : ∀ I, Amb.Γ _ I → Rep.is I v35 (r34 : Int) := fun I γ => (rr51 I γ).2.2.2.2.2.2.2.2.2.2.2.1
        have r_64 : ∀ I, Amb.Γ _ I → Rep.is I v37 ((decide (r34 = (0 : Int))) : Bool) := fun I γ => (rr51 I γ).2.2.2.2.2.2.2.2.2.2.2.2
        obtain ⟨I1, h⟩ := h.giveL (o_get (j := 0) o rfl)
        have o := o_erase (j := 0) h o
        have r_g65 := rep_last h
        exact st_ret h (ep_var rfl fun I γ => r_g65 I γ) (fun v I1 H1 h r => k _ _ e v I1 H1 h.g h.r r)
      · rintro x83 s66 σ2 a2 n2 Iv86 tl I1 H1 v N hx ⟨p67, u68, rfl, rr69, o⟩ vw85 e h hr kN90 kB91
        have r_70 : ∀ I, Amb.Γ _ I → Rep.is I v2 (signs1 : Tx) := fun I γ => (rr69 I γ).1
        have r_71 : ∀ I, Amb.Γ _ I → Rep.is I v5 (x4 : Int) := fun I γ => (rr69 I γ).2.1
        have r_72 : ∀ I, Amb.Γ _ I → Rep.is I v5 (x4 : Int) := fun I γ => (rr69 I γ).2.2.1
        have r_73 : ∀ I, Amb.Γ _ I → Rep.is I v8 (r7 : Int) := fun I γ => (rr69 I γ).2.2.2.1
        have r_74 : ∀ I, Amb.Γ _ I → Rep.is I v21 (x20 : (List Sg)) := fun I γ => (rr69 I γ).2.2.2.2.1
        have r_75 : ∀ I, Amb.Γ _ I → Rep.is I v24 ((tx (x20.map Sg.c)) : Tx) := fun I γ => (rr69 I γ).2.2.2.2.2.1
        have r_76 : ∀ I, Amb.Γ _ I → Rep.is I v27 (r26 : Int) := fun I γ => (rr69 I γ).2.2.2.2.2.2.1
        have r_77 : ∀ I, Amb.Γ _ I → Rep.is I v24 ((tx (x20.map Sg.c)) : Tx) := fun I γ => (rr69 I γ).2.2.2.2.2.2.2.1
        have r_78 : ∀ I, Amb.Γ _ I → Rep.is I v27 (r26 : Int) := fun I γ => (rr69 I γ).2.2.2.2.2.2.2.2.1
        have r_79 : ∀ I, Amb.Γ _ I → Rep.is I v30 (x29 : Int) := fun I γ => (rr69 I γ).2.2.2.2.2.2.2.2.2.1
        have r_80 : ∀ I, Amb.Γ _ I → Rep.is I v33 (many32 : Int) := fun I γ => (rr69 I γ).2.2.2.2.2.2.2.2.2.2.1
        have r_81 : ∀ I, Amb.Γ _ I → Rep.is I v35 (r34 : Int) := fun I γ => (rr69 I γ).2.2.2.2.2.2.2.2.2.2.2.1
        have r_82 : ∀ I, Amb.Γ _ I → Rep.is I v37 ((decide (r34 = (0 : Int))) : Bool) := fun I γ => (rr69 I γ).2.2.2.2.2.2.2.2.2.2.2.2
        refine bd_name n2 I1 H1 v h hr _ fun σ3 a3 hz h => ?_
        obtain ⟨v84, rfl, rfl⟩ := hz
        have r_87 := rep_last h
        obtain ⟨⟨q92, q93, q94, q95⟩, e⟩ := e
        refine d_app h rfl (o_get (j := 0) o rfl) (ep_op (os_addT (q94)) (ep_var rfl fun I γ => r_77 I (And.left γ)) (ep_sg (ep_op (os_ixS (q93)) (ep_var rfl fun I γ => r_70 I (And.left γ)) (ep_op (os_IC (by show (0 : Int) < 26; decide) rfl) (ep_b1 c_int (ep_op (os_II rfl) (ep_var rfl fun I γ => r_78 I (And.left γ)) (ep_op (os_IC (q92) rfl) (ep_var rfl fun I γ => r_72 I (And.left γ)) (ep_var rfl fun I γ => r_87 I γ)))) ep_int)))) (q95) e fun found96 I1 H1 e h => ?_
        have o := o_set (j := 0) h o
        refine kN90 _ _ _ _ _ _ e ?_ ?_ h
        · exact ⟨p67, _, rfl, fun I γ => ⟨r_70 I (And.left γ), r_71 I (And.left γ), r_72 I (And.left γ), r_73 I (And.left γ), r_74 I (And.left γ), r_75 I (And.left γ), r_76 I (And.left γ), r_77 I (And.left γ), r_78 I (And.left γ), r_79 I (And.left γ), r_80 I (And.left γ), r_81 I (And.left γ), r_82 I (And.left γ)⟩, o⟩
        · exact fun I γ => vw85 I (And.left γ)
def F_l_channels  : DW (List (T3 Sg Tx Tx)) := bindD (Nw.F_l_processes ) fun x1 => bindD (F_next (9 : Int)) fun r5 => bindD (F_some (4 : Int)) fun z8 => loopP (sgL (z8 : Tx).l) (fun (x34 : Sg) (s24 : (List (T3 Sg Tx Tx))) next39 brk40 => bindD (F_shuffled x1) fun x43 => bindP (cutL x43 none (some (2 : Int))) fun pair48 => joinP (fun (next93 : (List Tx) → _) => if (decide (r5 = (0 : Int))) = true then (bindP (List.map (fun q : Sg => tx [q.c]) (cutL (sgL ((tx [112, 113, 114, 115, 116]) : Tx).l) (some (s24.length : Int)) (some ((s24.length : Int) + (2 : Int))))) fun pair94 => next93 pair94) else (next93 pair48)) (fun (s51 : (List Tx)) => joinP (fun (next82 : (List Tx) → _) => if (decide (r5 = (1 : Int))) = true then (needD (((sgL ((tx (cutL ((tx [97, 98, 99, 100, 101, 102, 103, 104]) : Tx).l (some ((2 : Int) * (s24.length : Int))) (some (((2 : Int) * (s24.length : Int)) + (2 : Int))))) : Tx).l).length ≤ 16777216) ∧ ((∀ x83 ∈ (sgL ((tx (cutL ((tx [97, 98, 99, 100, 101, 102, 103, 104]) : Tx).l (some ((2 : Int) * (s24.length : Int))) (some (((2 : Int) * (s24.length : Int)) + (2 : Int))))) : Tx).l), ((tx [110]) : Tx).l.length + ((tx [Sg.c x83]) : Tx).l.length ≤ 100000))) <| bindP (List.map (fun x83 : Sg => (tx (((tx [110]) : Tx).l ++ ((tx [Sg.c x83]) : Tx).l))) (sgL ((tx (cutL ((tx [97, 98, 99, 100, 101, 102, 103, 104]) : Tx).l (some ((2 : Int) * (s24.length : Int))) (some (((2 : Int) * (s24.length : Int)) + (2 : Int))))) : Tx).l)) fun pair90 => next82 pair90) else (next82 s51)) (fun (s65 : (List Tx)) => needD ((inR s65 (0 : Int)) ∧ (inR s65 (1 : Int)) ∧ (s24.length < 16777216)) <| bindP (s24 ++ [(T3.mk x34 (gt s65 (0 : Int)) (gt s65 (1 : Int)))]) fun found81 => next39 found81))) (fun (s12 : (List (T3 Sg Tx Tx))) => (pureD s12)) ([] : List (T3 Sg Tx Tx))
def sp_l_channels (K : PySem.W.Frag) : Sp := spD (fun z : Unit => Nw.F_l_channels)
theorem ok_l_channels (T : Txt K mg) (F : FnAt K "_law_channels" "_law_channels" s_l_channels (He.ga K "_law_channels")) (G_l_processes : Ok P w K mg base CX0 3 (He.ga K "_law_processes") ["_law_draw"] (sp_l_processes K)) (G_l_next : Ok P w K mg base CX0 1 (He.ga K "_law_next") ["_law_draw", "_law_many"] (sp_l_next K)) (G_l_some : Ok P w K mg base CX0 3 (He.ga K "_law_some") ["_law_draw", "_law_many"] (sp_l_some K)) (G_l_shuffled : Ok P w K mg base CX0 2 (He.ga K "_law_shuffled") ["_law_draw", "_law_some_here"] (sp_l_shuffled K)) : Ok P w K mg base CX0 4 (He.ga K "_law_channels") ["_law_draw"] (sp_l_channels K) := by
  refine ok_of F sc_l_channels (fun _ _ _ _ _ _ us hl => match us, hl with | [_], _ => rfl) (fun vs H Q E h => ?_) (fun cdv A outer s H vs Q E hr h => ?_)
  · obtain ⟨_, _, _, ⟨_⟩, _, _, rfl, rfl, _⟩ := h
    rfl
  · obtain ⟨I, D, n, ⟨_⟩, M, _, rfl, rfl, d0, e, k⟩ := h
    have h := (stnD d0)
    have df := dfr d0
    have e : Nw.F_l_channels  n M := e
    unfold Nw.F_l_channels at e
    refine ⟨_, (pss_cons (ps_par3 (i := 1) (j := 2) (l := 3) (by rfl) sc_l_channels.nd rfl rfl rfl (by decide) (by decide) (by decide) rfl rfl rfl (pa_cons (pe_callC G_l_processes (hr.mono (by decide)) T.g__law_processes (pa_cons (pv 0) pa_nil)) (pa_cons (pe_lst pa_nil) (pa_cons (pe_callC G_l_next (hr.mono (by decide)) T.g__law_next (pa_cons (pv 0) (pa_cons pe_int pa_nil))) pa_nil))) (by rfl))
      (pss_cons (ps_for PassesOwn.never rfl (pi_str (pe_callC G_l_some (hr.mono (by decide)) T.g__law_some (pa_cons (pv 0) (pa_cons pe_int pa_nil)))) (pg_name (i := 4) sc_l_channels.nd rfl (Or.inl rfl)) (pss_cons (ps_set (i := 5) sc_l_channels.nd rfl (Or.inl rfl) (pe_slice sl_list (pe_callC G_l_shuffled (hr.mono (by decide)) T.g__law_shuffled (pa_cons (pv 0) (pa_cons (pv 1) pa_nil))) po_none (po_some pe_int)))
      (pss_mid (ps_if (pt_cmpR op_eq (pv 3) pe_int (nomark _)) (pss_one (ps_set (i := 5) sc_l_channels.nd rfl (Or.inl rfl) (pe_slice sl_list (pe_callTy (call_list_sg rfl) (by rfl) T.b_list (by decide +kernel) (pa_cons pe_str pa_nil)) (po_some (pe_callB call_len_seq (by rfl) T.b_len (by decide +kernel) (pa_cons (pv 2) pa_nil))) (po_some (pe_op op_add (pe_callB call_len_seq (by rfl) T.b_len (by decide +kernel) (pa_cons (pv 2) pa_nil)) pe_int))))) pss_nil)
      (pss_mid (ps_if (pt_cmpR op_eq (pv 3) pe_int (nomark _)) (pss_one (ps_setLc (i := 5) (own := [("_law_sign", 6)]) (g := (gName 6)) rfl sc_l_channels.nd rfl rfl (sw_true rfl rfl rfl (by decide +kernel)) (pi_str (pe_slice sl_str pe_str (po_some (pe_op op_mul pe_int (pe_callB call_len_seq (by rfl) T.b_len (by decide +kernel) (pa_cons (pv 2) pa_nil)))) (po_some (pe_op op_add (pe_op op_mul pe_int (pe_callB call_len_seq (by rfl) T.b_len (by decide +kernel) (pa_cons (pv 2) pa_nil))) pe_int)))) (blkOk_by (own := [("_law_sign", 6)]) (N := n_l_channels) (sc := defScope s_l_channels) (by decide +kernel)) (fun _ _ _ _ _ => (pg_name (i := 6) sc_l_channels.nd rfl (Or.inl rfl))) (fun _ _ _ _ _ => pts_nil) (fun _ _ _ _ _ => (pe_op op_add_str pe_str (pv 6))))) pss_nil)
      (pss_one (ps_expr (pe_bm PySem.F.plainAttrs_list PySem.F.slot_list_append PySem.F.type_list_append mt_append (pv 2) (pa_cons (pe_tup (pa_cons (pv 4) (pa_cons (pe_ix ix_list (pv 5) pe_int (fun _ _ => rfl)) (pa_cons (pe_ix ix_list (pv 5) pe_int (fun _ _ => rfl)) pa_nil)))) pa_nil))))))))
      (pss_one (ps_ret (pv 2))))), ?_⟩
    refine ho_par3_0s ?_
    refine d_callD (F := (fun z : Unit => Nw.F_l_processes)) df (dr_v rfl) h ea_nil e fun x1 v2 n2 I1 H1 e h => ?_
    have r_t3 := rep_last h
    refine ho_par3N1s (α := (T3 Sg Tx Tx)) h fun p4 H1 h => ?_
    have o := o_own h (L := []) rfl
    refine ho_par3_2s ?_
    refine d_next df (dr_v rfl) h ep_int e fun r5 v6 n2 I1 H1 e h => ?_
    have r_t7 := rep_last h
    refine par3_dones ?_
    refine ho_forSs ?_
    refine d_some df (dr_v rfl) h ep_int e fun z8 v9 n2 I1 H1 e h => ?_
    have r_t10 := rep_last h
    refine d_fors (S := (List (T3 Sg Tx Tx))) (fun (z : (List (T3 Sg Tx Tx))) (σ : L2.St) (a : Amb) => ∃ w0 : Addr, ∃ u0 : Option V, ∃ u1 : Option V, σ = [some (.ref D.d), some v2, some (.ref w0), some v6, u1, u0, none] ∧ (∀ I, a.Γ I → Rep.is I v2 (x1 : (List Tx)) ∧ Rep.is I v6 (r5 : Int) ∧ Rep.is I v2 (x1 : (List Tx)) ∧ Rep.is I v6 (r5 : Int) ∧ Rep.is I v9 (z8 : Tx)) ∧ a.Ω = [lcell w0 (z : (List (T3 Sg Tx Tx)))]) h (ei_str (ep_cv fun I γ => r_t10 I γ)) e (fun I1 => ⟨p4, _, _, rfl, fun I γ => ⟨r_t3 I (And.left (And.left (And.left γ))), r_t7 I (And.left (And.left γ)), r_t3 I (And.left (And.left (And.left γ))), r_t7 I (And.left (And.left γ)), r_t10 I (And.left γ)⟩, o⟩) ?_ ?_
    · rintro s12 σ2 a2 n2 I1 H1 e ⟨p14, u15, u16, rfl, rr17, o⟩ h
      have r_18 : ∀ I, Amb.Γ _ I → Rep.is I v2 (x1 : (List Tx)) := fun I γ => (rr17 I γ).1
      have r_19 : ∀ I, Amb.Γ _ I → Rep.is I v6 (r5 : Int) := fun I γ => (rr17 I γ).2.1
      have r_20 : ∀ I, Amb.Γ _ I → Rep.is I v2 (x1 : (List Tx)) := fun I γ => (rr17 I γ).2.2.1
      have r_21 : ∀ I, Amb.Γ _ I → Rep.is I v6 (r5 : Int) := fun I γ => (rr17 I γ).2.2.2.1
      have r_22 : ∀ I, Amb.Γ _ I → Rep.is I v9 (z8 : Tx) := fun I γ => (rr17 I γ).2.2.2.2
      obtain ⟨I1, h⟩ := h.giveL (o_get (j := 0) o rfl)
      have o := o_erase (j := 0) h o
      have r_g23 := rep_last h
      exact st_ret h (ep_var rfl fun I γ => r_g23 I γ) (fun v I1 H1 h r => k _ _ e v I1 H1 h.g h.r r)
    · rintro x34 s24 σ2 a2 n2 Iv37 tl I1 H1 v N hx ⟨p25, u26, u27, rfl, rr28, o⟩ vw36 e h hr kN41 kB42
      have r_29 : ∀ I, Amb.Γ _ I → Rep.is I v2 (x1 : (List Tx)) := fun I γ => (rr28 I γ).1
      have r_30 : ∀ I, Amb.Γ _ I → Rep.is I v6 (r5 : Int) := fun I γ => (rr28 I γ).2.1
      have r_31 : ∀ I, Amb.Γ _ I → Rep.is I v2 (x1 : (List Tx)) := fun I γ => (rr28 I γ).2.2.1
      have r_32 : ∀ I, Amb.Γ _ I → Rep.is I v6 (r5 : Int) := fun I γ => (rr28 I γ).2.2.2.1
      have r_33 : ∀ I, Amb.Γ _ I → Rep.is I v9 (z8 : Tx) := fun I γ => (rr28 I γ).2.2.2.2
      refine bd_name n2 I1 H1 v h hr _ fun σ3 a3 hz h => ?_
      obtain ⟨v35, rfl, rfl⟩ := hz
      have r_38 := rep_last h
      refine ho_asgs ?_
      refine ho_slV ?_
      refine d_shuffled df (dr_v rfl) h (EvP.rl (ep_var rfl fun I γ => r_31 I (And.left γ))) e fun x43 v44 n2 I1 H1 e h => ?_
      have r_t45 := rep_last h
      refine e_p h (ep_slL (EvP.rl (ep_cv fun I γ => r_t45 I γ)) eo_none (eo_some ep_int)) fun v46 I1 H1 h => ?_
      have r_t47 := rep_last h
      refine d_sets h (ep_cv fun I γ => r_t47 I γ) e fun pair48 v49 I1 H1 e h => ?_
      have r_pair48 := rep_last h
      refine d_join (S := (List Tx)) (fun (z : (List Tx)) (σ : L2.St) (a : Amb) => ∃ w0 : V, σ = [some (.ref D.d), some v2, some (.ref p25), some v6, some v35, some w0, none] ∧ (∀ I, a.Γ I → Rep.is I v2 (x1 : (List Tx)) ∧ Rep.is I v6 (r5 : Int) ∧ Rep.is I v2 (x1 : (List Tx)) ∧ Rep.is I v6 (r5 : Int) ∧ Rep.is I v9 (z8 : Tx) ∧ Same Iv37 I ∧ Rep.is I v35 (x34 : Sg) ∧ Rep.is I v44 (x43 : (List Tx)) ∧ Rep.is I v46 ((cutL x43 none (some (2 : Int))) : (List Tx)) ∧ Rep.is I w0 (z : (List Tx))) ∧ a.Ω = [lcell p25 (s24 : (List (T3 Sg Tx Tx)))]) h e ?_ ?_
      · intro tl N e kN
        refine d_if h (eb_test (ep_op os_eq' (ep_var rfl fun I γ => r_32 I (And.left (And.left (And.left (And.left γ))))) ep_int)) e (fun c50 e I1 H1 h => ?_) (fun c50 e I1 H1 h => ?_)
        · refine d_set h (ep_cx (ep_slL (EvP.rl (ep_b1 c_listS (ep_txc (by rfl) (by decide)))) (eo_some (ep_b1 c_lenL (ep_own rfl (o_get (j := 0) o rfl)))) (eo_some (ep_op (os_II rfl) (ep_b1 c_lenL (ep_own rfl (o_get (j := 0) o rfl))) ep_int))) (cv_map fun _ => cv_sgT)) e fun pair94 v95 I1 H1 e h => ?_
          have r_pair94 := rep_last h
          refine kN _ _ _ _ _ _ e ?_ h
          exact ⟨v95, rfl, fun I γ => ⟨r_29 I (And.left (And.left (And.left (And.left (And.left γ))))), r_30 I (And.left (And.left (And.left (And.left (And.left γ))))), r_31 I (And.left (And.left (And.left (And.left (And.left γ))))), r_32 I (And.left (And.left (And.left (And.left (And.left γ))))), r_33 I (And.left (And.left (And.left (And.left (And.left γ))))), vw36 I (And.left (And.left (And.left (And.left (And.left γ))))), r_38 I (And.left (And.left (And.left (And.left γ)))), r_t45 I (And.left (And.left (And.left γ))), r_t47 I (And.left (And.left γ)), r_pair94 I γ⟩, o⟩
        · refine kN _ _ _ _ _ _ e ?_ h
          exact ⟨v49, rfl, fun I γ => ⟨r_29 I (And.left (And.left (And.left (And.left γ)))), r_30 I (And.left (And.left (And.left (And.left γ)))), r_31 I (And.left (And.left (And.left (And.left γ)))), r_32 I (And.left (And.left (And.left (And.left γ)))), r_33 I (And.left (And.left (And.left (And.left γ)))), vw36 I (And.left (And.left (And.left (And.left γ)))), r_38 I (And.left (And.left (And.left γ))), r_t45 I (And.left (And.left γ)), r_t47 I (And.left γ), r_pair48 I γ⟩, o⟩
      · rintro s51 σ2 a2 n2 I1 H1 e ⟨v52, rfl, rr53, o⟩ h
        have r_54 : ∀ I, Amb.Γ _ I → Rep.is I v2 (x1 : (List Tx)) := fun I γ => (rr53 I γ).1
        have r_55 : ∀ I, Amb.Γ _ I → Rep.is I v6 (r5 : Int) := fun I γ => (rr53 I γ).2.1
        have r_56 : ∀ I, Amb.Γ _ I → Rep.is I v2 (x1 : (List Tx)) := fun I γ => (rr53 I γ).2.2.1
        have r_57 : ∀ I, Amb.Γ _ I → Rep.is I v6 (r5 : Int) := fun I γ => (rr53 I γ).2.2.2.1
        have r_58 : ∀ I, Amb.Γ _ I → Rep.is I v9 (z8 : Tx) := fun I γ => (rr53 I γ).2.2.2.2.1
        have r_59 : ∀ I, Amb.Γ _ I → Same Iv37 I := fun I γ => (rr53 I γ).2.2.2.2.2.1
        have r_60 : ∀ I, Amb.Γ _ I → Rep.is I v35 (x34 : Sg) := fun I γ => (rr53 I γ).2.2.2.2.2.2.1
        have r_61 : ∀ I, Amb.Γ _ I → Rep.is I v44 (x43 : (List Tx)) := fun I γ => (rr53 I γ).2.2.2.2.2.2.2.1
        have r_62 : ∀ I, Amb.Γ _ I → Rep.is I v46 ((cutL x43 none (some (2 : Int))) : (List Tx)) := fun I γ => (rr53 I γ).2.2.2.2.2.2.2.2.1
        have r_63 : ∀ I, Amb.Γ _ I → Rep.is I v52 (s51 : (List Tx)) := fun I γ => (rr53 I γ).2.2.2.2.2.2.2.2.2
        refine d_join (S := (List Tx)) (fun (z : (List Tx)) (σ : L2.St) (a : Amb) => ∃ w0 : V, σ = [some (.ref D.d), some v2, some (.ref p25), some v6, some v35, some w0, none] ∧ (∀ I, a.Γ I → Rep.is I v2 (x1 : (List Tx)) ∧ Rep.is I v6 (r5 : Int) ∧ Rep.is I v2 (x1 : (List Tx)) ∧ Rep.is I v6 (r5 : Int) ∧ Rep.is I v9 (z8 : Tx) ∧ Same Iv37 I ∧ Rep.is I v35 (x34 : Sg) ∧ Rep.is I v44 (x43 : (List Tx)) ∧ Rep.is I v46 ((cutL x43 none (some (2 : Int))) : (List Tx)) ∧ Rep.is I w0 (z : (List Tx))) ∧ a.Ω = [lcell p25 (s24 : (List (T3 Sg Tx Tx)))]) h e ?_ ?_
        · intro tl N e kN
          refine d_if h (eb_test (ep_op os_eq' (ep_var rfl fun I γ => r_57 I γ) ep_int)) e (fun c64 e I1 H1 h => ?_) (fun c64 e I1 H1 h => ?_)
          · obtain ⟨⟨q85, q89⟩, e⟩ := e
            refine d_set h (EvP.cast (ep_lc (b := fun x83 : Sg => true) (e := fun x83 : Sg => (tx (((tx [110]) : Tx).l ++ ((tx [Sg.c x83]) : Tx).l))) (ei_str (ep_slS (ep_txc (by rfl) (by decide)) (eo_some (ep_op (os_IC (.inl ⟨by decide, by decide⟩) rfl) ep_int (ep_b1 c_lenL (ep_own rfl (o_get (j := 0) o rfl))))) (eo_some (ep_op (os_II rfl) (ep_op (os_IC (.inl ⟨by decide, by decide⟩) rfl) ep_int (ep_b1 c_lenL (ep_own rfl (o_get (j := 0) o rfl)))) ep_int)))) (q85) (fun x83 hx84 => bd_name) (fun x83 hx84 σ2 a2 z => by obtain ⟨v86, rfl, rfl⟩ := z; exact ⟨rfl, eb_yes, fun hb88 => (ep_op (os_addT (q89 x83 hx84)) (ep_txc (by rfl) (by decide)) (ep_sg (ep_var rfl fun I γ => And.right γ)))⟩)) fm_map) e fun pair90 v91 I1 H1 e h => ?_
            have r_pair90 := rep_last h
            refine kN _ _ _ _ _ _ e ?_ h
            exact ⟨v91, rfl, fun I γ => ⟨r_54 I (And.left γ), r_55 I (And.left γ), r_56 I (And.left γ), r_57 I (And.left γ), r_58 I (And.left γ), r_59 I (And.left γ), r_60 I (And.left γ), r_61 I (And.left γ), r_62 I (And.left γ), r_pair90 I γ⟩, o⟩
          · refine kN _ _ _ _ _ _ e ?_ h
            exact ⟨v52, rfl, fun I γ => ⟨r_54 I γ, r_55 I γ, r_56 I γ, r_57 I γ, r_58 I γ, r_59 I γ, r_60 I γ, r_61 I γ, r_62 I γ, r_63 I γ⟩, o⟩
        · rintro s65 σ2 a2 n2 I1 H1 e ⟨v66, rfl, rr67, o⟩ h
          have r_68 : ∀ I, Amb.Γ _ I → Rep.is I v2 (x1 : (List Tx)) := fun I γ => (rr67 I γ).1
          have r_69 : ∀ I, Amb.Γ _ I → Rep.is I v6 (r5 : Int) := fun I γ => (rr67 I γ).2.1
          have r_70 : ∀ I, Amb.Γ _ I → Rep.is I v2 (x1 : (List Tx)) := fun I γ => (rr67 I γ).2.2.1
          have r_71 : ∀ I, Amb.Γ _ I → Rep.is I v6 (r5 : Int) := fun I γ => (rr67 I γ).2.2.2.1
          have r_72 : ∀ I, Amb.Γ _ I → Rep.is I v9 (z8 : Tx) := fun I γ => (rr67 I γ).2.2.2.2.1
          have r_73 : ∀ I, Amb.Γ _ I → Same Iv37 I := fun I γ => (rr67 I γ).2.2.2.2.2.1
          have r_74 : ∀ I, Amb.Γ _ I → Rep.is I v35 (x34 : Sg) := fun I γ => (rr67 I γ).2.2.2.2.2.2.1
          have r_75 : ∀ I, Amb.Γ _ I → Rep.is I v44 (x43 : (List Tx)) := fun I γ => (rr67 I γ).2.2.2.2.2.2.2.1
          have r_76 : ∀ I, Amb.Γ _ I → Rep.is I v46 ((cutL x43 none (some (2 : Int))) : (List Tx)) := fun I γ => (rr67 I γ).2.2.2.2.2.2.2.2.1
          have r_77 : ∀ I, Amb.Γ _ I → Rep.is I v66 (s65 : (List Tx)) := fun I γ => (rr67 I γ).2.2.2.2.2.2.2.2.2
          obtain ⟨⟨q78, q79, q80⟩, e⟩ := e
          refine d_app h rfl (o_get (j := 0) o rfl) (ep_tup3 (ea_cons (ep_var rfl fun I γ => r_74 I γ) (ea_cons (ep_op (os_ixL (q78)) (EvP.rl (ep_var rfl fun I γ => r_77 I γ)) ep_int) (ea_cons (ep_op (os_ixL (q79)) (EvP.rl (ep_var rfl fun I γ => r_77 I γ)) ep_int) ea_nil)))) (q80) e fun found81 I1 H1 e h => ?_
          have o := o_set (j := 0) h o
          refine kN41 _ _ _ _ _ _ e ?_ ?_ h
          · exact ⟨p25, _, _, rfl, fun I γ => ⟨r_68 I γ, r_69 I γ, r_70 I γ, r_71 I γ, r_72 I γ⟩, o⟩
          · exact fun I γ => r_73 I γ
def F_l_all_names (channels_here1 : (List (T3 Sg Tx Tx))) : (Option (List Tx)) := bindP ([] : List Tx) fun found3 => loopP channels_here1 (fun (x26 : (T3 Sg Tx Tx)) (s20 : (List Tx)) next31 brk32 => needP (((⟨[x26.b, x26.c]⟩ : Tup Tx).l.length ≤ 16777216) ∧ (s20.length + (List.filterMap (fun x35 : Tx => if (!decide (x35 ∈ s20)) = true then some x35 else none) (⟨[x26.b, x26.c]⟩ : Tup Tx).l).length ≤ 16777216)) <| bindP (s20 ++ (List.filterMap (fun x35 : Tx => if (!decide (x35 ∈ s20)) = true then some x35 else none) (⟨[x26.b, x26.c]⟩ : Tup Tx).l)) fun found42 => next31 found42) (fun (s6 : (List Tx)) => needP ((s6.length ≤ 16777216) ∧ ((List.map (fun x13 : Tx => x13) s6).length < 64)) <| (some (srtT (List.map (fun x13 : Tx => x13) s6)))) found3
def sp_l_all_names (K : PySem.W.Frag) : Sp := spP (fun z : (List (T3 Sg Tx Tx)) × Unit => Nw.F_l_all_names z.1)
theorem ok_l_all_names (T : Txt K mg) (F : FnAt K "_law_all_names" "_law_all_names" s_l_all_names (He.ga K "_law_all_names"))  : Ok P w K mg base CX0 1 (He.ga K "_law_all_names") ["_law_channels_here"] (sp_l_all_names K) := by
  refine ok_of F sc_l_all_names (fun _ _ _ _ _ _ us hl => match us, hl with | [_], _ => rfl) (fun vs H Q E h => ?_) (fun cdv A outer s H vs Q E hr h => ?_)
  · obtain ⟨_, ⟨_, _⟩, _, ⟨_, _, rfl, _, rfl⟩, _⟩ := h
    rfl
  · obtain ⟨I, ⟨channels_here1, _⟩, y, ⟨v2, _, rfl, h_channels_here1, rfl⟩, sb, hF, k⟩ := h
    have h := ((stn0 sb).rep h_channels_here1)
    have e : Nw.F_l_all_names channels_here1 = some y := hF
    unfold Nw.F_l_all_names at e
    have r_channels_here1 := rep_last h
    refine ⟨_, (pss_cons (ps_set (i := 1) sc_l_all_names.nd rfl (Or.inr rfl) (pe_lst pa_nil))
      (pss_cons (ps_for PassesOwn.never rfl (pi_list (pv 0)) (pg_name (i := 2) sc_l_all_names.nd rfl (Or.inl rfl)) (pss_one (ps_set (i := 1) sc_l_all_names.nd rfl (Or.inr rfl) (pe_op op_cat (pv 1) (pe_lc (own := [("_law_name", 3)]) (g := (gName 3)) rfl sc_l_all_names.nd (pi_tup (pe_slice sl_tup (pv 2) (po_some pe_int) po_none)) (blkOk_by (own := [("_law_name", 3)]) (N := n_l_all_names) (sc := defScope s_l_all_names) (by decide +kernel)) (fun _ _ _ _ _ => (pg_name (i := 3) sc_l_all_names.nd rfl (Or.inl rfl))) (fun _ _ _ _ _ => (pts_one (pt_cmpR (op_notIn_seqK (K := K) rfl) (pv 3) (pv 1) rfl))) (fun _ _ _ _ _ => (pe_callTy SkE.call_str_str (by rfl) T.b_str (by decide +kernel) (pa_cons (pv 3) pa_nil))))))))
      (pss_one (ps_ret (pe_callB cr_sortedS (by rfl) T.b_sorted (by decide +kernel) (pa_cons (pe_lc (own := [("_law_name", 3)]) (g := (gName 3)) rfl sc_l_all_names.nd (pi_list (pv 1)) (blkOk_by (own := [("_law_name", 3)]) (N := n_l_all_names) (sc := defScope s_l_all_names) (by decide +kernel)) (fun _ _ _ _ _ => (pg_name (i := 3) sc_l_all_names.nd rfl (Or.inl rfl))) (fun _ _ _ _ _ => pts_nil) (fun _ _ _ _ _ => (pe_callTy SkE.call_str_str (by rfl) T.b_str (by decide +kernel) (pa_cons (pv 3) pa_nil)))) pa_nil)))))), ?_⟩
    refine p_sets h (ep_lst el_nil (by show 0 ≤ 16777216; decide)) e fun found3 v4 I1 H1 e h => ?_
    have r_found3 := rep_last h
    refine p_fors (S := (List Tx)) (fun (z : (List Tx)) (σ : L2.St) (a : Amb) => ∃ w0 : V, ∃ u0 : Option V, σ = [some v2, some w0, u0, none] ∧ (∀ I, a.Γ I → Rep.is I v2 (channels_here1 : (List (T3 Sg Tx Tx))) ∧ Rep.is I w0 (z : (List Tx))) ∧ a.Ω = []) h (ei_list (ep_var rfl fun I γ => r_channels_here1 I (And.left γ))) e (fun I1 => ⟨v4, _, rfl, fun I γ => ⟨r_channels_here1 I (And.left (And.left γ)), r_found3 I (And.left γ)⟩, rfl⟩) ?_ ?_
    · rintro s6 σ2 a2 n2 I1 H1 e ⟨v8, u9, rfl, rr10, o⟩ h
      have r_11 : ∀ I, Amb.Γ _ I → Rep.is I v2 (channels_here1 : (List (T3 Sg Tx Tx))) := fun I γ => (rr10 I γ).1
      have r_12 : ∀ I, Amb.Γ _ I → Rep.is I v8 (s6 : (List Tx)) := fun I γ => (rr10 I γ).2
      obtain ⟨⟨q15, q19⟩, e⟩ := need_ok e
      exact st_ret h (ep_b1 (c_sortedS (q19)) (EvP.rl (EvP.cast (ep_lc (b := fun x13 : Tx => true) (e := fun x13 : Tx => x13) (ei_list (ep_var rfl fun I γ => r_12 I γ)) (q15) (fun x13 hx14 => bd_name) (fun x13 hx14 σ2 a2 z => by obtain ⟨v16, rfl, rfl⟩ := z; exact ⟨rfl, eb_yes, fun hb18 => (ep_b1 c_str (ep_var rfl fun I γ => And.right γ))⟩)) fm_map))) (fun v I1 H1 h r => k v I1 H1 h.g ((Option.some.inj e) ▸ r))
    · rintro x26 s20 σ2 a2 n2 Iv29 tl I1 H1 v N hx ⟨v21, u22, rfl, rr23, o⟩ vw28 e h hr kN33 kB34
      have r_24 : ∀ I, Amb.Γ _ I → Rep.is I v2 (channels_here1 : (List (T3 Sg Tx Tx))) := fun I γ => (rr23 I γ).1
      have r_25 : ∀ I, Amb.Γ _ I → Rep.is I v21 (s20 : (List Tx)) := fun I γ => (rr23 I γ).2
      refine bd_name n2 I1 H1 v h hr _ fun σ3 a3 hz h => ?_
      obtain ⟨v27, rfl, rfl⟩ := hz
      have r_30 := rep_last h
      obtain ⟨⟨q37, q41⟩, e⟩ := need_ok e
      refine p_set h (ep_op (os_cat (q41)) (EvP.rl (ep_var rfl fun I γ => r_25 I (And.left γ))) (EvP.rl (ep_lc (b := fun x35 : Tx => (!decide (x35 ∈ s20))) (e := fun x35 : Tx => x35) (ei_tup (ep_tl3 (ep_var rfl fun I γ => r_30 I γ) (eo_some ep_int) eo_none)) (q37) (fun x35 hx36 => bd_name) (fun x35 hx36 σ2 a2 z => by obtain ⟨v38, rfl, rfl⟩ := z; exact ⟨rfl, (eb_test (ep_op os_notInL (ep_var rfl fun I γ => And.right γ) (EvP.rl (ep_var rfl fun I γ => r_25 I (And.left (And.left γ)))))), fun hb40 => (ep_b1 c_str (ep_var rfl fun I γ => And.right γ))⟩)))) e fun found42 v43 I1 H1 e h => ?_
      have r_found42 := rep_last h
      refine kN33 _ _ _ _ _ _ e ?_ ?_ h
      · exact ⟨v43, _, rfl, fun I γ => ⟨r_24 I (And.left (And.left γ)), r_found42 I γ⟩, o⟩
      · exact fun I γ => vw28 I (And.left (And.left γ))

def F_l_no_process  : DW (Dk K) := bindD (F_pick ([(dk (K := K) .non), (dk (K := K) (.int (5 : Int))), (dk (K := K) (.bl true)), (dk (K := K) (.str ((tx []) : Tx).l)), (dk (K := K) (.str [Sg.c (sgn 65)])), (dk (K := K) (.str ((tx [122, 122, 122, 122, 122, 122, 122]) : Tx).l)), (dk (K := K) (.sq false (List.map Dk.d ([] : List (Dk K))))), (dk (K := K) (.sq false (List.map Dk.d ([(dk (K := K) (.str [Sg.c (sgn 97)]))] : List (Dk K))))), (dk (K := K) (.sq true (List.map Dk.d (⟨[(dk (K := K) (.str [Sg.c (sgn 97)]))]⟩ : Tup (Dk K)).l))), (dk (K := K) .dic), (dk (K := K) (.str ((tx [97, 32, 98]) : Tx).l))] : List (Dk K))) fun x1 => (pureD x1)
def sp_l_no_process (K : PySem.W.Frag) : Sp := spD (fun z : Unit => (Nw.F_l_no_process (K := K)))
theorem ok_l_no_process (T : Txt K mg) (F : FnAt K "_law_no_process" "_law_no_process" s_l_no_process (He.ga K "_law_no_process")) (G_l_pick : Ok P w K mg base CX0 2 (He.ga K "_law_pick") ["_law_draw", "_law_some_here"] (sp_l_pick K)) : Ok P w K mg base CX0 3 (He.ga K "_law_no_process") ["_law_draw"] (sp_l_no_process K) := by
  refine ok_of F sc_l_no_process (fun _ _ _ _ _ _ us hl => match us, hl with | [_], _ => rfl) (fun vs H Q E h => ?_) (fun cdv A outer s H vs Q E hr h => ?_)
  · obtain ⟨_, _, _, ⟨_⟩, _, _, rfl, rfl, _⟩ := h
    rfl
  · obtain ⟨I, D, n, ⟨_⟩, M, _, rfl, rfl, d0, e, k⟩ := h
    have h := (stnD d0)
    have df := dfr d0
    have e : (Nw.F_l_no_process (K := K))  n M := e
    unfold Nw.F_l_no_process at e
    refine ⟨_, (pss_one (ps_ret (pe_callC G_l_pick (hr.mono (by decide)) T.g__law_pick (pa_cons (pv 0) (pa_cons (pe_lst (pa_cons pe_non (pa_cons pe_int (pa_cons pe_bl (pa_cons pe_str (pa_cons pe_str (pa_cons pe_str (pa_cons (pe_lst pa_nil) (pa_cons (pe_lst (pa_cons pe_str pa_nil)) (pa_cons (pe_tup (pa_cons pe_str pa_nil)) (pa_cons pe_dnewK (pa_cons pe_str pa_nil)))))))))))) pa_nil))))), ?_⟩
    refine ho_ret ?_
    refine d_pickL df (dr_v rfl) h (EvP.rl (ep_lst (el_cons (ep_cx ep_non cv_non) (el_cons (ep_cx ep_int cv_int) (el_cons (ep_cx ep_bl cv_bl) (el_cons (ep_cx (ep_txc (by rfl) (by decide)) cv_str) (el_cons (ep_cx (ep_sgc rfl) cv_sg) (el_cons (ep_cx (ep_txc (by rfl) (by decide)) cv_str) (el_cons (ep_cx (ep_lst el_nil (by show 0 ≤ 16777216; decide)) cv_lst) (el_cons (ep_cx (ep_lst (el_cons (ep_cx (ep_sgc rfl) cv_sg) el_nil) (by show 1 ≤ 16777216; decide)) cv_lst) (el_cons (ep_cx (ep_tupn (el_cons (ep_cx (ep_sgc rfl) cv_sg) el_nil) (by show 1 ≤ 16777216; decide)) cv_tup) (el_cons (ep_dic) (el_cons (ep_cx (ep_txc (by rfl) (by decide)) cv_str) el_nil))))))))))) (by show 11 ≤ 16777216; decide))) e fun x1 v2 n2 I1 H1 e h => ?_
    have r_t3 := rep_last h
    exact st_ret h (ep_cv fun I γ => r_t3 I γ) (fun v I1 H1 h r => k _ _ e v I1 H1 h.g h.r r)
def F_l_strange (channels_here1 : (List (T3 Sg Tx Tx))) : DW Tx := needD ((Nw.F_l_all_names channels_here1).isSome = true) <| bindP ((Nw.F_l_all_names channels_here1).getD default) fun names4 => needD ((names4.length ≤ 16777216) ∧ ((∀ x6 ∈ names4, ((tx (cutL (x6 : Tx).l none (some (5 : Int)))) : Tx).l.length + ((tx [107]) : Tx).l.length ≤ 100000)) ∧ (([(tx [113]), (tx [114, 114]), (tx [122, 122, 122, 122, 122, 122]), (tx [113, 114, 115]), (tx [120]), (tx [121, 121]), (tx [120, 121, 122]), (tx [119, 119, 119, 119]), (tx [118, 118]), (tx [117])] : List Tx).length + (List.map (fun x6 : Tx => (tx (((tx (cutL (x6 : Tx).l none (some (5 : Int)))) : Tx).l ++ ((tx [107]) : Tx).l))) names4).length ≤ 16777216)) <| bindP (([(tx [113]), (tx [114, 114]), (tx [122, 122, 122, 122, 122, 122]), (tx [113, 114, 115]), (tx [120]), (tx [121, 121]), (tx [120, 121, 122]), (tx [119, 119, 119, 119]), (tx [118, 118]), (tx [117])] : List Tx) ++ (List.map (fun x6 : Tx => (tx (((tx (cutL (x6 : Tx).l none (some (5 : Int)))) : Tx).l ++ ((tx [107]) : Tx).l))) names4)) fun some_here14 => needD (some_here14.length ≤ 16777216) <| bindD (F_pick (List.filterMap (fun x16 : Tx => if (!decide (x16 ∈ names4)) = true then some x16 else none) some_here14)) fun x22 => (pureD x22)
def sp_l_strange (K : PySem.W.Frag) : Sp := spD (fun z : (List (T3 Sg Tx Tx)) × Unit => Nw.F_l_strange z.1)
theorem ok_l_strange (T : Txt K mg) (F : FnAt K "_law_strange" "_law_strange" s_l_strange (He.ga K "_law_strange")) (G_l_all_names : Ok P w K mg base CX0 1 (He.ga K "_law_all_names") ["_law_channels_here"] (sp_l_all_names K)) (G_l_pick : Ok P w K mg base CX0 2 (He.ga K "_law_pick") ["_law_draw", "_law_some_here"] (sp_l_pick K)) : Ok P w K mg base CX0 3 (He.ga K "_law_strange") ["_law_draw", "_law_channels_here"] (sp_l_strange K) := by
  refine ok_of F sc_l_strange (fun _ _ _ _ _ _ us hl => match us, hl with | [_, _], _ => rfl) (fun vs H Q E h => ?_) (fun cdv A outer s H vs Q E hr h => ?_)
  · obtain ⟨_, _, _, ⟨_, _⟩, _, _, rfl, ⟨_, _, rfl, _, rfl⟩, _⟩ := h
    rfl
  · obtain ⟨I, D, n, ⟨channels_here1, _⟩, M, _, rfl, ⟨v2, _, rfl, h_channels_here1, rfl⟩, d0, e, k⟩ := h
    have h := ((stnD d0).rep h_channels_here1)
    have df := dfr d0
    have e : Nw.F_l_strange channels_here1 n M := e
    unfold Nw.F_l_strange at e
    have r_channels_here1 := rep_last h
    refine ⟨_, (pss_cons (ps_set (i := 2) sc_l_strange.nd rfl (Or.inr rfl) (pe_callC G_l_all_names (hr.mono (by decide)) T.g__law_all_names (pa_cons (pv 1) pa_nil)))
      (pss_cons (ps_set (i := 3) sc_l_strange.nd rfl (Or.inl rfl) (pe_op op_cat (pe_lst (pa_cons pe_str (pa_cons pe_str (pa_cons pe_str (pa_cons pe_str (pa_cons pe_str (pa_cons pe_str (pa_cons pe_str (pa_cons pe_str (pa_cons pe_str (pa_cons pe_str pa_nil))))))))))) (pe_lc (own := [("_law_name", 4)]) (g := (gName 4)) rfl sc_l_strange.nd (pi_list (pv 2)) (blkOk_by (own := [("_law_name", 4)]) (N := n_l_strange) (sc := defScope s_l_strange) (by decide +kernel)) (fun _ _ _ _ _ => (pg_name (i := 4) sc_l_strange.nd rfl (Or.inl rfl))) (fun _ _ _ _ _ => pts_nil) (fun _ _ _ _ _ => (pe_op op_add_str (pe_slice sl_str (pv 4) po_none (po_some pe_int)) pe_str)))))
      (pss_one (ps_ret (pe_callC G_l_pick (hr.mono (by decide)) T.g__law_pick (pa_cons (pv 0) (pa_cons (pe_lc (own := [("_law_name", 4)]) (g := (gName 4)) rfl sc_l_strange.nd (pi_list (pv 3)) (blkOk_by (own := [("_law_name", 4)]) (N := n_l_strange) (sc := defScope s_l_strange) (by decide +kernel)) (fun _ _ _ _ _ => (pg_name (i := 4) sc_l_strange.nd rfl (Or.inl rfl))) (fun _ _ _ _ _ => (pts_one (pt_cmpR (op_notIn_seqK (K := K) rfl) (pv 4) (pv 2) rfl))) (fun _ _ _ _ _ => (pv 4))) pa_nil))))))), ?_⟩
    obtain ⟨q3, e⟩ := e
    refine d_sets h (ep_call (F := (fun z : (List (T3 Sg Tx Tx)) × Unit => Nw.F_l_all_names z.1)) (ea_cons (ep_var rfl fun I γ => r_channels_here1 I γ) ea_nil) (someD (q3))) e fun names4 v5 I1 H1 e h => ?_
    have r_names4 := rep_last h
    obtain ⟨⟨q8, q12, q13⟩, e⟩ := e
    refine d_sets h (ep_op (os_cat (q13)) (EvP.rl (ep_lst (el_cons (ep_txc (by rfl) (by decide)) (el_cons (ep_txc (by rfl) (by decide)) (el_cons (ep_txc (by rfl) (by decide)) (el_cons (ep_txc (by rfl) (by decide)) (el_cons (ep_txc (by rfl) (by decide)) (el_cons (ep_txc (by rfl) (by decide)) (el_cons (ep_txc (by rfl) (by decide)) (el_cons (ep_txc (by rfl) (by decide)) (el_cons (ep_txc (by rfl) (by decide)) (el_cons (ep_txc (by rfl) (by decide)) el_nil)))))))))) (by show 10 ≤ 16777216; decide))) (EvP.rl (EvP.cast (ep_lc (b := fun x6 : Tx => true) (e := fun x6 : Tx => (tx (((tx (cutL (x6 : Tx).l none (some (5 : Int)))) : Tx).l ++ ((tx [107]) : Tx).l))) (ei_list (ep_var rfl fun I γ => r_names4 I γ)) (q8) (fun x6 hx7 => bd_name) (fun x6 hx7 σ2 a2 z => by obtain ⟨v9, rfl, rfl⟩ := z; exact ⟨rfl, eb_yes, fun hb11 => (ep_op (os_addT (q12 x6 hx7)) (ep_slS (ep_var rfl fun I γ => And.right γ) eo_none (eo_some ep_int)) (ep_txc (by rfl) (by decide)))⟩)) fm_map))) e fun some_here14 v15 I1 H1 e h => ?_
    have r_some_here14 := rep_last h
    refine ho_ret ?_
    obtain ⟨q18, e⟩ := e
    refine d_pickL df (dr_v rfl) h (EvP.rl (ep_lc (b := fun x16 : Tx => (!decide (x16 ∈ names4))) (e := fun x16 : Tx => x16) (ei_list (ep_var rfl fun I γ => r_some_here14 I γ)) (q18) (fun x16 hx17 => bd_name) (fun x16 hx17 σ2 a2 z => by obtain ⟨v19, rfl, rfl⟩ := z; exact ⟨rfl, (eb_test (ep_op os_notInL (ep_var rfl fun I γ => And.right γ) (EvP.rl (ep_var rfl fun I γ => r_names4 I (And.left (And.left γ)))))), fun hb21 => (ep_var rfl fun I γ => And.right γ)⟩))) e fun x22 v23 n2 I1 H1 e h => ?_
    have r_t24 := rep_last h
    exact st_ret h (ep_cv fun I γ => r_t24 I γ) (fun v I1 H1 h r => k _ _ e v I1 H1 h.g h.r r)
end
end Nw

namespace Nw
open PySem PySem.Spec PyProof.Rows L2
section
variable {P : Program} {w : World} {K : PySem.W.Frag} {mg : Str → Option Value} {base : Heap}
def F_is_number (thing1 : (Dk K)) : Bool := ((Dt.isInt (Dk.d thing1)) && (!(Dt.isBool (Dk.d thing1))))
def sp_is_number (K : PySem.W.Frag) : Sp := spP (fun z : (Dk K) × Unit => some ((Nw.F_is_number (K := K)) z.1))
theorem ok_is_number (T : Txt K mg) (F : FnAt K "is_number" "is_number" s_is_number (He.ga K "is_number"))  : Ok P w K mg base CX0 1 (He.ga K "is_number") ["thing"] (sp_is_number K) := by
  refine ok_of F sc_is_number (fun _ _ _ _ _ _ us hl => match us, hl with | [_], _ => rfl) (fun vs H Q E h => ?_) (fun cdv A outer s H vs Q E hr h => ?_)
  · obtain ⟨_, ⟨_, _⟩, _, ⟨_, _, rfl, _, rfl⟩, _⟩ := h
    rfl
  · obtain ⟨I, ⟨thing1, _⟩, y, ⟨v2, _, rfl, h_thing1, rfl⟩, sb, hF, k⟩ := h
    have h := ((stn0 sb).rep h_thing1)
    have e : (Nw.F_is_number (K := K)) thing1 = y := Option.some.inj hF
    unfold Nw.F_is_number at e
    have r_thing1 := rep_last h
    refine ⟨_, (pss_one (ps_ret (pe_and (pe_callB call_isi (by rfl) T.b_isinstance (by decide +kernel) (pa_cons (pv 0) (pa_cons (pe_bltn (v := .ty "int") rfl T.b_int (by decide +kernel) rfl) pa_nil))) (pe_one (pe_not (pe_callB call_isi (by rfl) T.b_isinstance (by decide +kernel) (pa_cons (pv 0) (pa_cons (pe_bltn (v := .ty "bool") rfl T.b_bool (by decide +kernel) rfl) pa_nil)))))))), ?_⟩
    exact st_ret h (ep_and (ep_isiI (ep_var rfl fun I γ => r_thing1 I γ)) (fun c3 => (ep_not (ep_isiB (ep_var rfl fun I γ => r_thing1 I γ))))) (fun v I1 H1 h r => k v I1 H1 h.g (e ▸ r))
def F_is_part (some1 : Tx) (other3 : Tx) : (Option Bool) := bindP (0 : Int) fun at5 => loopP (sgL (other3 : Tx).l) (fun (x23 : Sg) (s16 : Int) next28 brk29 => needP (((decide (s16 < ((some1 : Tx).l.length : Int))) = true → inR (some1 : Tx).l s16)) <| if ((decide (s16 < ((some1 : Tx).l.length : Int))) && (decide ((sgn (gt (some1 : Tx).l s16)) = x23))) = true then (bindP (s16 + (1 : Int)) fun at35 => next28 at35) else (next28 s16)) (fun (s8 : Int) => (some (decide (s8 = ((some1 : Tx).l.length : Int))))) at5
def sp_is_part (K : PySem.W.Frag) : Sp := spP (fun z : Tx × Tx × Unit => Nw.F_is_part z.1 z.2.1)
theorem ok_is_part (T : Txt K mg) (F : FnAt K "is_part" "is_part" s_is_part (He.ga K "is_part"))  : Ok P w K mg base CX0 1 (He.ga K "is_part") ["some", "other"] (sp_is_part K) := by
  refine ok_of F sc_is_part (fun _ _ _ _ _ _ us hl => match us, hl with | [_, _], _ => rfl) (fun vs H Q E h => ?_) (fun cdv A outer s H vs Q E hr h => ?_)
  · obtain ⟨_, ⟨_, _, _⟩, _, ⟨_, _, rfl, _, _, _, rfl, _, rfl⟩, _⟩ := h
    rfl
  · obtain ⟨I, ⟨some1, other3, _⟩, y, ⟨v2, _, rfl, h_some1, v4, _, rfl, h_other3, rfl⟩, sb, hF, k⟩ := h
    have h := (((stn0 sb).rep h_some1).rep h_other3)
    have e : Nw.F_is_part some1 other3 = some y := hF
    unfold Nw.F_is_part at e
    have r_some1 := rep_last2 h
    have r_other3 := rep_last h
    refine ⟨_, (pss_cons (ps_set (i := 2) sc_is_part.nd rfl (Or.inl rfl) pe_int)
      (pss_cons (ps_for PassesOwn.never rfl (pi_str (pv 1)) (pg_name (i := 3) sc_is_part.nd rfl (Or.inl rfl)) (pss_one (ps_if (PW.pt (pw_and (pt_cmpR op_lt (pv 2) (pe_callB call_len_str (by rfl) T.b_len (by decide +kernel) (pa_cons (pv 0) pa_nil)) (nomark _)) (pw_and1 (pt_cmpR op_eq (pe_ix ix_str (pv 0) (pv 2) (fun _ _ => rfl)) (pv 3) (nomark _))))) (pss_one (ps_aug (i := 2) sc_is_part.nd rfl (.inl rfl) pe_int ip_add)) pss_nil)))
      (pss_one (ps_ret (pe_cmpR op_eq (pv 2) (pe_callB call_len_str (by rfl) T.b_len (by decide +kernel) (pa_cons (pv 0) pa_nil)) (nomark _)))))), ?_⟩
    refine p_sets h ep_int e fun at5 v6 I1 H1 e h => ?_
    have r_at5 := rep_last h
    refine p_fors (S := Int) (fun (z : Int) (σ : L2.St) (a : Amb) => ∃ w0 : V, ∃ u0 : Option V, σ = [some v2, some v4, some w0, u0] ∧ (∀ I, a.Γ I → Rep.is I v2 (some1 : Tx) ∧ Rep.is I v4 (other3 : Tx) ∧ Rep.is I w0 (z : Int)) ∧ a.Ω = []) h (ei_str (ep_var rfl fun I γ => r_other3 I (And.left γ))) e (fun I1 => ⟨v6, _, rfl, fun I γ => ⟨r_some1 I (And.left (And.left γ)), r_other3 I (And.left (And.left γ)), r_at5 I (And.left γ)⟩, rfl⟩) ?_ ?_
    · rintro s8 σ2 a2 n2 I1 H1 e ⟨v10, u11, rfl, rr12, o⟩ h
      have r_13 : ∀ I, Amb.Γ _ I → Rep.is I v2 (some1 : Tx) := fun I γ => (rr12 I γ).1
      have r_14 : ∀ I, Amb.Γ _ I → Rep.is I v4 (other3 : Tx) := fun I γ => (rr12 I γ).2.1
      have r_15 : ∀ I, Amb.Γ _ I → Rep.is I v10 (s8 : Int) := fun I γ => (rr12 I γ).2.2
      exact st_ret h (ep_op os_eq' (ep_var rfl fun I γ => r_15 I γ) (ep_b1 c_lenS (ep_var rfl fun I γ => r_13 I γ))) (fun v I1 H1 h r => k v I1 H1 h.g ((Option.some.inj e) ▸ r))
    · rintro x23 s16 σ2 a2 n2 Iv26 tl I1 H1 v N hx ⟨v17, u18, rfl, rr19, o⟩ vw25 e h hr kN30 kB31
      have r_20 : ∀ I, Amb.Γ _ I → Rep.is I v2 (some1 : Tx) := fun I γ => (rr19 I γ).1
      have r_21 : ∀ I, Amb.Γ _ I → Rep.is I v4 (other3 : Tx) := fun I γ => (rr19 I γ).2.1
      have r_22 : ∀ I, Amb.Γ _ I → Rep.is I v17 (s16 : Int) := fun I γ => (rr19 I γ).2.2
      refine bd_name n2 I1 H1 v h hr _ fun σ3 a3 hz h => ?_
      obtain ⟨v24, rfl, rfl⟩ := hz
      have r_27 := rep_last h
      obtain ⟨q33, e⟩ := need_ok e
      refine p_if h (eb_and (eb_test (ep_op (os_IB rfl) (ep_var rfl fun I γ => r_22 I (And.left γ)) (ep_b1 c_lenS (ep_var rfl fun I γ => r_20 I (And.left γ))))) (fun c32 => (eb_test (ep_op os_eq' (ep_op (os_ixS (q33 c32)) (ep_var rfl fun I γ => r_20 I (And.left γ)) (ep_var rfl fun I γ => r_22 I (And.left γ))) (ep_var rfl fun I γ => r_27 I γ))))) e (fun c34 e I1 H1 h => ?_) (fun c34 e I1 H1 h => ?_)
      · refine p_augA h rfl (fun I γ => r_22 I (And.left γ)) ep_int e fun at35 v36 I1 H1 e h => ?_
        have r_at35 := rep_last h
        refine kN30 _ _ _ _ _ _ e ?_ ?_ h
        · exact ⟨v36, _, rfl, fun I γ => ⟨r_20 I (And.left (And.left γ)), r_21 I (And.left (And.left γ)), r_at35 I γ⟩, o⟩
        · exact fun I γ => vw25 I (And.left (And.left γ))
      · refine kN30 _ _ _ _ _ _ e ?_ ?_ h
        · exact ⟨v17, _, rfl, fun I γ => ⟨r_20 I (And.left γ), r_21 I (And.left γ), r_22 I (And.left γ)⟩, o⟩
        · exact fun I γ => vw25 I (And.left γ)
def F_Net_relays (self1 : (NetV K)) (source3 : (Dk K)) (target5 : (Dk K)) (most7 : (Dk K)) : DW (ExR (List Tx)) := bindE ((Nw.F_Net_need_process (K := K)) self1 source3) fun x9 => bindE ((Nw.F_Net_need_process (K := K)) self1 target5) fun x12 => needD ((((!((Nw.F_is_number (K := K)) most7)) = false → Dt.isNum (Dk.d most7) = true)) ∧ (((!((Nw.F_is_number (K := K)) most7)) = false → ((decide ((1 : Int) ≤ (Dt.num (Dk.d most7)))) = true → Dt.isNum (Dk.d most7) = true)))) <| if ((!((Nw.F_is_number (K := K)) most7)) || (!((decide ((1 : Int) ≤ (Dt.num (Dk.d most7)))) && (decide ((Dt.num (Dk.d most7)) ≤ (6 : Int)))))) = true then ((pureD (.error ⟨"NoNet", []⟩))) else (needD (Dt.isStr (Dk.d target5) = true) <| needD ((Dt.isNum (Dk.d most7) = true) ∧ ((-(2 ^ 62) ≤ (Dt.num (Dk.d most7)) ∧ (Dt.num (Dk.d most7)) < 2 ^ 62))) <| loopP (rng 0 (Dt.num (Dk.d most7))) (fun (x66 : Int) (s47 : (List (Tx × Tx)) × (List Tx)) next71 brk72 => bindP ([] : List (Tx × Tx)) fun _ => loopP s47.1 (fun (x127 : (Tx × Tx)) (s109 : (List (Tx × Tx))) next134 brk135 => loopP (Dc.vals self1.netF) (fun (x178 : (T3 Sg Tx Tx)) (s159 : (List (Tx × Tx))) next187 brk188 => if (decide (x178.c = x127.2)) = true then (needD ((Sg.c x178.a < 128) ∧ ((x127.1 : Tx).l.length + ((tx [Sg.c (sgn (up1 (Sg.c x178.a)))]) : Tx).l.length ≤ 100000) ∧ (s159.length < 16777216)) <| bindP (s159 ++ [((tx ((x127.1 : Tx).l ++ ((tx [Sg.c (sgn (up1 (Sg.c x178.a)))]) : Tx).l)), x178.b)]) fun later195 => next187 later195) else (next187 s159)) (fun (s139 : (List (Tx × Tx))) => next134 s139) s109) (fun (s77 : (List (Tx × Tx))) => bindP s77 fun layer97 => needD ((layer97.length ≤ 16777216) ∧ ((∀ x99 ∈ layer97, Dt.isStr (Dk.d source3) = true)) ∧ (s47.2.length + (List.filterMap (fun x99 : (Tx × Tx) => if (decide (x99.2 = (Dt.tx (Dk.d source3)))) = true then some x99.1 else none) layer97).length ≤ 16777216)) <| bindP (s47.2 ++ (List.filterMap (fun x99 : (Tx × Tx) => if (decide (x99.2 = (Dt.tx (Dk.d source3)))) = true then some x99.1 else none) layer97)) fun found108 => next71 (layer97, found108)) ([] : List (Tx × Tx))) (fun (s27 : (List (Tx × Tx)) × (List Tx)) => (pureD (.ok s27.2))) (([((tx []), (Dt.tx (Dk.d target5)))] : List (Tx × Tx)), ([] : List Tx)))
def sp_Net_relays (K : PySem.W.Frag) : Sp := fun _ _ _ _ => False
def spb_Net_relays (K : PySem.W.Frag) : Sp := spXN K (fun z : (NetV K) × (Dk K) × (Dk K) × (Dk K) × Unit => (Nw.F_Net_relays (K := K)) z.1 z.2.1 z.2.2.1 z.2.2.2.1)
theorem ok_Net_relays (T : Txt K mg) (F : FnAt K "relays" "Net.relays" s_Net_relays (He.ma K (He.ga K "Net") "relays"))  : Ok P w K mg base CX0 4 (He.ma K (He.ga K "Net") "relays") ["self", "source", "target", "most"] (sp_Net_relays K) := by
  refine ok_of F sc_Net_relays (fun _ _ _ _ _ _ us hl => match us, hl with | [_, _, _, _], _ => rfl) (fun vs H Q E h => ?_) (fun cdv A outer s H vs Q E hr h => ?_)
  · exact h.elim
  · exact h.elim
theorem okb_Net_relays (T : Txt K mg) (F : FnAt K "relays" "Net.relays" s_Net_relays (He.ma K (He.ga K "Net") "relays")) (GX_Net_need_process : Ok P w K mg base (L2.CX P w) 3 (He.ma K (He.ga K "Net") "need_process") ["self", "process"] (fun vs H Q E => sp_Net_need_process K vs H Q E ∨ spb_Net_need_process K vs H Q E)) (G_is_number : Ok P w K mg base CX0 1 (He.ga K "is_number") ["thing"] (sp_is_number K)) : Ok P w K mg base (L2.CX P w) 4 (He.ma K (He.ga K "Net") "relays") ["self", "source", "target", "most"] (spb_Net_relays K) := by
  obtain ⟨fdX_Net_need_process, FX_Net_need_process, bX_Net_need_process, _⟩ := GX_Net_need_process.ok
  refine ok_ofX F sc_Net_relays (fun _ _ _ _ _ _ us hl => match us, hl with | [_, _, _, _], _ => rfl) (fun vs H Q E h => ?_) (fun cdv A outer s H vs Q E hr h => ?_)
  · obtain ⟨_, ⟨_, _, _, _, _⟩, _, ⟨_, _, rfl, _, _, _, rfl, _, _, _, rfl, _, _, _, rfl, _, rfl⟩, _⟩ := h
    rfl
  · obtain ⟨I, ⟨self1, source3, target5, most7, _⟩, M, ⟨v2, _, rfl, h_self1, v4, _, rfl, h_source3, v6, _, rfl, h_target5, v8, _, rfl, h_most7, rfl⟩, sb, e, kO, kE⟩ := h
    have h := (((((stnX (n := 0) sb).rep h_self1).rep h_source3).rep h_target5).rep h_most7)
    have e : (Nw.F_Net_relays (K := K)) self1 source3 target5 most7 0 M := e
    unfold Nw.F_Net_relays at e
    have r_self1 := rep_last4 h
    have r_source3 := rep_last3 h
    have r_target5 := rep_last2 h
    have r_most7 := rep_last h
    refine ⟨_, (pss_cons (ps_expr (pe_meth (pv 0) T.cl_Net T.m_Net_need_process FX_Net_need_process (hr.mono (by decide)) bX_Net_need_process .nil passE (pa_cons (pv 1) pa_nil)))
      (pss_cons (ps_expr (pe_meth (pv 0) T.cl_Net T.m_Net_need_process FX_Net_need_process (hr.mono (by decide)) bX_Net_need_process .nil passE (pa_cons (pv 2) pa_nil)))
      (pss_cons (ps_if (PW.pt (pw_or (pt_not (pt_val (pe_callC G_is_number (hr.mono (by decide)) T.g_is_number (pa_cons (pv 3) pa_nil)))) (pw_or1 (pt_not (pt_chain op_le op_le pe_int (pv 3) (pe_gint T.c_MOST_RELAYED)))))) (pss_one (ps_raise rfl (takes_of rfl rfl rfl rfl) (pmk_own PySem.F.excBase_ValueError T.xp_NoNet.1 T.g_NoNet T.xp_NoNet.2.1 (raises_own T.xp_NoNet.2.2.1 T.xp_NoNet.2.2.2) rfl))) pss_nil)
      (pss_cons (ps_par (i := 4) (j := 5) (by rfl) sc_Net_relays.nd rfl rfl (by decide) rfl rfl (pa_cons (pe_lst pa_nil) (pa_cons (pe_lst (pa_cons (pe_tup (pa_cons pe_str (pa_cons (pv 2) pa_nil))) pa_nil)) pa_nil)) (by rfl))
      (pss_cons (ps_for (passes_of rfl) rfl (pi_range1 rfl T.b_range (pa_cons (pv 3) pa_nil)) (pg_name (i := 6) sc_Net_relays.nd rfl (Or.inl rfl)) (pss_cons (ps_set (i := 7) sc_Net_relays.nd rfl (Or.inl rfl) (pe_lst pa_nil))
      (pss_cons (ps_for (passes_of rfl) rfl (pi_list (pv 5)) (pg_tup (by rfl) (pgs_cons (pg_name (i := 8) sc_Net_relays.nd rfl (Or.inl rfl)) (pgs_cons (pg_name (i := 9) sc_Net_relays.nd rfl (Or.inl rfl)) pgs_nil))) (pss_one (ps_for (passes_of rfl) rfl (pi_values (pe_fld (pv 0) rfl)) (pg_tup (by rfl) (pgs_cons (pg_name (i := 10) sc_Net_relays.nd rfl (Or.inl rfl)) (pgs_cons (pg_name (i := 11) sc_Net_relays.nd rfl (Or.inl rfl)) (pgs_cons (pg_name (i := 12) sc_Net_relays.nd rfl (Or.inl rfl)) pgs_nil)))) (pss_one (ps_if (pt_cmpR op_eq (pv 12) (pv 9) (nomark _)) (pss_one (ps_expr (pe_bm PySem.F.plainAttrs_list PySem.F.slot_list_append PySem.F.type_list_append mt_append (pv 7) (pa_cons (pe_tup (pa_cons (pe_op op_add_str (pv 8) (pe_upper (pv 10))) (pa_cons (pv 11) pa_nil))) pa_nil)))) pss_nil)))))
      (pss_cons (ps_set (i := 5) sc_Net_relays.nd rfl (Or.inl rfl) (pv 7))
      (pss_one (ps_expr (pe_bm PySem.F.plainAttrs_list PySem.F.slot_list_extend PySem.F.type_list_extend mt_extend (pv 4) (pa_cons (pe_lc (own := [("row", 8), ("process", 9)]) (g := (gTup K 2 (gCons (gName 8) (gCons (gName 9) gNil)))) rfl sc_Net_relays.nd (pi_list (pv 5)) (blkOk_by (own := [("row", 8), ("process", 9)]) (N := n_Net_relays) (sc := defScope s_Net_relays) (by decide +kernel)) (fun _ _ _ _ _ => (pg_tup (by rfl) (pgs_cons (pg_name (i := 8) sc_Net_relays.nd rfl (Or.inl rfl)) (pgs_cons (pg_name (i := 9) sc_Net_relays.nd rfl (Or.inl rfl)) pgs_nil)))) (fun _ _ _ _ _ => (pts_one (pt_cmpR op_eq (pv 9) (pv 1) (nomark _)))) (fun _ _ _ _ _ => (pv 8))) pa_nil))))))))
      (pss_one (ps_ret (pv 4)))))))), ?_⟩
    refine ho_drops ?_
    refine x_meth (C := He.ga K "Net") (F := (fun z : (NetV K) × (Dk K) × Unit => (Nw.F_Net_need_process (K := K)) z.1 z.2.1)) (show ("need_process" : Str) ∉ (["by_letter"] : List Str) by decide) h kE (ep_var rfl fun I γ => r_self1 I γ) (ea_cons (ep_var rfl fun I γ => r_source3 I γ) ea_nil) e fun x9 v10 I1 H1 e h => ?_
    have r_t11 := rep_last h
    refine drop_dones ?_
    refine ho_drops ?_
    refine x_meth (C := He.ga K "Net") (F := (fun z : (NetV K) × (Dk K) × Unit => (Nw.F_Net_need_process (K := K)) z.1 z.2.1)) (show ("need_process" : Str) ∉ (["by_letter"] : List Str) by decide) h kE (ep_var rfl fun I γ => r_self1 I (And.left γ)) (ea_cons (ep_var rfl fun I γ => r_target5 I (And.left γ)) ea_nil) e fun x12 v13 I1 H1 e h => ?_
    have r_t14 := rep_last h
    refine drop_dones ?_
    obtain ⟨⟨q16, q18⟩, e⟩ := e
    refine d_ifs h (eb_or (eb_not (eb_val (ep_call (F := (fun z : (Dk K) × Unit => some ((Nw.F_is_number (K := K)) z.1))) (ea_cons (ep_var rfl fun I γ => r_most7 I (And.left (And.left γ))) ea_nil) rfl))) (fun c15 => (eb_not (eb_test (ep_chain (os_IB rfl) (os_IB rfl) ep_int (ep_cx (ep_var rfl fun I γ => r_most7 I (And.left (And.left γ))) (cv_asI (q16 c15))) (fun c17 => ep_int)))))) e (fun c19 e I1 H1 h => ?_) (fun c19 e I1 H1 h => ?_)
    · exact kE _ _ e _ _ none h.gN rfl
    · refine next_of ?_
      refine ho_par2N0s (α := Tx) h fun p20 H1 h => ?_
      have o := o_own h (L := []) rfl
      refine ho_par2_1s ?_
      obtain ⟨q21, e⟩ := e
      refine e_p h (ep_lst (el_cons (ep_tup2 (ea_cons (ep_txc (by rfl) (by decide)) (ea_cons (ep_cx (ep_var rfl fun I γ => r_target5 I (And.left (And.left γ))) (cv_asT (q21))) ea_nil))) el_nil) (by show 1 ≤ 16777216; decide)) fun v22 I1 H1 h => ?_
      have r_t23 := rep_last h
      refine par2_dones ?_
      obtain ⟨⟨q24, q25⟩, e⟩ := e
      refine d_fors (S := (List (Tx × Tx)) × (List Tx)) (fun (z : (List (Tx × Tx)) × (List Tx)) (σ : L2.St) (a : Amb) => ∃ w0 : V, ∃ w1 : Addr, ∃ u0 : Option V, ∃ u1 : Option V, ∃ u2 : Option V, ∃ u3 : Option V, ∃ u4 : Option V, ∃ u5 : Option V, ∃ u6 : Option V, σ = [some v2, some v4, some v6, some v8, some (.ref w1), some w0, u6, u0, u1, u2, u3, u4, u5] ∧ (∀ I, a.Γ I → Rep.is I v2 (self1 : (NetV K)) ∧ Rep.is I v4 (source3 : (Dk K)) ∧ Rep.is I v6 (target5 : (Dk K)) ∧ Rep.is I v8 (most7 : (Dk K)) ∧ Rep.is I v10 (x9 : Unit) ∧ Rep.is I v13 (x12 : Unit) ∧ Rep.is I v22 (([((tx []), (Dt.tx (Dk.d target5)))] : List (Tx × Tx)) : (List (Tx × Tx))) ∧ Rep.is I w0 (z.1 : (List (Tx × Tx)))) ∧ a.Ω = [lcell w1 (z.2 : (List Tx))]) h (ei_rng1 (ep_cx (ep_var rfl fun I γ => r_most7 I (And.left (And.left (And.left γ)))) (cv_asI (q24))) (q25)) e (fun I1 => ⟨v22, p20, _, _, _, _, _, _, _, rfl, fun I γ => ⟨r_self1 I (And.left (And.left (And.left (And.left γ)))), r_source3 I (And.left (And.left (And.left (And.left γ)))), r_target5 I (And.left (And.left (And.left (And.left γ)))), r_most7 I (And.left (And.left (And.left (And.left γ)))), r_t11 I (And.left (And.left (And.left γ))), r_t14 I (And.left (And.left γ)), r_t23 I (And.left γ), r_t23 I (And.left γ)⟩, o⟩) ?_ ?_
      · rintro s27 σ2 a2 n2 I1 H1 e ⟨v29, p30, u31, u32, u33, u34, u35, u36, u37, rfl, rr38, o⟩ h
        have r_39 : ∀ I, Amb.Γ _ I → Rep.is I v2 (self1 : (NetV K)) := fun I γ => (rr38 I γ).1
        have r_40 : ∀ I, Amb.Γ _ I → Rep.is I v4 (source3 : (Dk K)) := fun I γ => (rr38 I γ).2.1
        have r_41 : ∀ I, Amb.Γ _ I → Rep.is I v6 (target5 : (Dk K)) := fun I γ => (rr38 I γ).2.2.1
        have r_42 : ∀ I, Amb.Γ _ I → Rep.is I v8 (most7 : (Dk K)) := fun I γ => (rr38 I γ).2.2.2.1
        have r_43 : ∀ I, Amb.Γ _ I → Rep.is I v10 (x9 : Unit) := fun I γ => (rr38 I γ).2.2.2.2.1
        have r_44 : ∀ I, Amb.Γ _ I → Rep.is I v13 (x12 : Unit) := fun I γ => (rr38 I γ).2.2.2.2.2.1
        have r_45 : ∀ I, Amb.Γ _ I → Rep.is I v22 (([((tx []), (Dt.tx (Dk.d target5)))] : List (Tx × Tx)) : (List (Tx × Tx))) := fun I γ => (rr38 I γ).2.2.2.2.2.2.1
        have r_46 : ∀ I, Amb.Γ _ I → Rep.is I v29 (s27.1 : (List (Tx × Tx))) := fun I γ => (rr38 I γ).2.2.2.2.2.2.2
        exact st_retN h rfl (o_get (j := 0) o rfl) (kO _ _ e)
      · rintro x66 s47 σ2 a2 n2 Iv69 tl I1 H1 v N hx ⟨v48, p49, u50, u51, u52, u53, u54, u55, u56, rfl, rr57, o⟩ vw68 e h hr kN73 kB74
        have r_58 : ∀ I, Amb.Γ _ I → Rep.is I v2 (self1 : (NetV K)) := fun I γ => (rr57 I γ).1
        have r_59 : ∀ I, Amb.Γ _ I → Rep.is I v4 (source3 : (Dk K)) := fun I γ => (rr57 I γ).2.1
        have r_60 : ∀ I, Amb.Γ _ I → Rep.is I v6 (target5 : (Dk K)) := fun I γ => (rr57 I γ).2.2.1
        have r_61 : ∀ I, Amb.Γ _ I → Rep.is I v8 (most7 : (Dk K)) := fun I γ => (rr57 I γ).2.2.2.1
        have r_62 : ∀ I, Amb.Γ _ I → Rep.is I v10 (x9 : Unit) := fun I γ => (rr57 I γ).2.2.2.2.1
        have r_63 : ∀ I, Amb.Γ _ I → Rep.is I v13 (x12 : Unit) := fun I γ => (rr57 I γ).2.2.2.2.2.1
        have r_64 : ∀ I, Amb.Γ _ I → Rep.is I v22 (([((tx []), (Dt.tx (Dk.d target5)))] : List (Tx × Tx)) : (List (Tx × Tx))) := fun I γ => (rr57 I γ).2.2.2.2.2.2.1
        have r_65 : ∀ I, Amb.Γ _ I → Rep.is I v48 (s47.1 : (List (Tx × Tx))) := fun I γ => (rr57 I γ).2.2.2.2.2.2.2
        refine bd_name n2 I1 H1 v h hr _ fun σ3 a3 hz h => ?_
        obtain ⟨v67, rfl, rfl⟩ := hz
        have r_70 := rep_last h
        refine d_news (α := (Tx × Tx)) h e fun p75 H1 e h => ?_
        have o := o_own h o
        refine d_fors (S := (List (Tx × Tx))) (fun (z : (List (Tx × Tx))) (σ : L2.St) (a : Amb) => ∃ w0 : Addr, ∃ u0 : Option V, ∃ u1 : Option V, ∃ u2 : Option V, ∃ u3 : Option V, ∃ u4 : Option V, σ = [some v2, some v4, some v6, some v8, some (.ref p49), some v48, some v67, some (.ref w0), u3, u4, u0, u1, u2] ∧ (∀ I, a.Γ I → Rep.is I v2 (self1 : (NetV K)) ∧ Rep.is I v4 (source3 : (Dk K)) ∧ Rep.is I v6 (target5 : (Dk K)) ∧ Rep.is I v8 (most7 : (Dk K)) ∧ Rep.is I v10 (x9 : Unit) ∧ Rep.is I v13 (x12 : Unit) ∧ Rep.is I v22 (([((tx []), (Dt.tx (Dk.d target5)))] : List (Tx × Tx)) : (List (Tx × Tx))) ∧ Rep.is I v48 (s47.1 : (List (Tx × Tx))) ∧ Same Iv69 I ∧ Rep.is I v67 (x66 : Int)) ∧ a.Ω = [lcell w0 (z : (List (Tx × Tx))), lcell p49 (s47.2 : (List Tx))]) h (ei_list (ep_var rfl fun I γ => r_65 I (And.left γ))) e (fun I1 => ⟨p75, _, _, _, _, _, rfl, fun I γ => ⟨r_58 I (And.left (And.left γ)), r_59 I (And.left (And.left γ)), r_60 I (And.left (And.left γ)), r_61 I (And.left (And.left γ)), r_62 I (And.left (And.left γ)), r_63 I (And.left (And.left γ)), r_64 I (And.left (And.left γ)), r_65 I (And.left (And.left γ)), vw68 I (And.left (And.left γ)), r_70 I (And.left γ)⟩, o⟩) ?_ ?_
        · rintro s77 σ2 a2 n2 I1 H1 e ⟨p79, u80, u81, u82, u83, u84, rfl, rr85, o⟩ h
          have r_86 : ∀ I, Amb.Γ _ I → Rep.is I v2 (self1 : (NetV K)) := fun I γ => (rr85 I γ).1
          have r_87 : ∀ I, Amb.Γ _ I → Rep.is I v4 (source3 : (Dk K)) := fun I γ => (rr85 I γ).2.1
          have r_88 : ∀ I, Amb.Γ _ I → Rep.is I v6 (target5 : (Dk K)) := fun I γ => (rr85 I γ).2.2.1
          have r_89 : ∀ I, Amb.Γ _ I → Rep.is I v8 (most7 : (Dk K)) := fun I γ => (rr85 I γ).2.2.2.1
          have r_90 : ∀ I, Amb.Γ _ I → Rep.is I v10 (x9 : Unit) := fun I γ => (rr85 I γ).2.2.2.2.1
          have r_91 : ∀ I, Amb.Γ _ I → Rep.is I v13 (x12 : Unit) := fun I γ => (rr85 I γ).2.2.2.2.2.1
          have r_92 : ∀ I, Amb.Γ _ I → Rep.is I v22 (([((tx []), (Dt.tx (Dk.d target5)))] : List (Tx × Tx)) : (List (Tx × Tx))) := fun I γ => (rr85 I γ).2.2.2.2.2.2.1
          have r_93 : ∀ I, Amb.Γ _ I → Rep.is I v48 (s47.1 : (List (Tx × Tx))) := fun I γ => (rr85 I γ).2.2.2.2.2.2.2.1
          have r_94 : ∀ I, Amb.Γ _ I → Same Iv69 I := fun I γ => (rr85 I γ).2.2.2.2.2.2.2.2.1
          have r_95 : ∀ I, Amb.Γ _ I → Rep.is I v67 (x66 : Int) := fun I γ => (rr85 I γ).2.2.2.2.2.2.2.2.2
          obtain ⟨I1, h⟩ := h.giveL (o_get (j := 0) o rfl)
          have o := o_erase (j := 0) h o
          have r_g96 := rep_last h
          refine d_sets h (ep_var rfl fun I γ => r_g96 I γ) e fun layer97 v98 I1 H1 e h => ?_
          have r_layer97 := rep_last h
          obtain ⟨⟨q101, q105, q107⟩, e⟩ := e
          refine d_ext h rfl (o_get (j := 0) o rfl) (EvP.rl (ep_lc (b := fun x99 : (Tx × Tx) => (decide (x99.2 = (Dt.tx (Dk.d source3))))) (e := fun x99 : (Tx × Tx) => x99.1) (ei_list (ep_var rfl fun I γ => r_layer97 I γ)) (q101) (fun x99 hx100 => bd_2) (fun x99 hx100 σ2 a2 z => by obtain ⟨v102, v103, rfl, rfl⟩ := z; exact ⟨rfl, (eb_test (ep_op os_eq' (ep_var rfl fun I γ => And.right γ) (ep_cx (ep_var rfl fun I γ => r_87 I (And.left (And.left (And.left (And.left γ))))) (cv_asT (q105 x99 hx100))))), fun hb106 => (ep_var rfl fun I γ => And.right (And.left γ))⟩))) (q107) e fun found108 I1 H1 e h => ?_
          have o := o_set (j := 0) h o
          refine kN73 _ _ _ _ _ _ e ?_ ?_ h
          · exact ⟨v98, p49, _, _, _, _, _, _, _, rfl, fun I γ => ⟨r_86 I (And.left (And.left γ)), r_87 I (And.left (And.left γ)), r_88 I (And.left (And.left γ)), r_89 I (And.left (And.left γ)), r_90 I (And.left (And.left γ)), r_91 I (And.left (And.left γ)), r_92 I (And.left (And.left γ)), r_layer97 I γ⟩, o⟩
          · exact fun I γ => r_94 I (And.left (And.left γ))
        · rintro x127 s109 σ2 a2 n2 Iv131 tl I1 H1 v N hx ⟨p110, u111, u112, u113, u114, u115, rfl, rr116, o⟩ vw130 e h hr kN136 kB137
          have r_117 : ∀ I, Amb.Γ _ I → Rep.is I v2 (self1 : (NetV K)) := fun I γ => (rr116 I γ).1
          have r_118 : ∀ I, Amb.Γ _ I → Rep.is I v4 (source3 : (Dk K)) := fun I γ => (rr116 I γ).2.1
          have r_119 : ∀ I, Amb.Γ _ I → Rep.is I v6 (target5 : (Dk K)) := fun I γ => (rr116 I γ).2.2.1
          have r_120 : ∀ I, Amb.Γ _ I → Rep.is I v8 (most7 : (Dk K)) := fun I γ => (rr116 I γ).2.2.2.1
          have r_121 : ∀ I, Amb.Γ _ I → Rep.is I v10 (x9 : Unit) := fun I γ => (rr116 I γ).2.2.2.2.1
          have r_122 : ∀ I, Amb.Γ _ I → Rep.is I v13 (x12 : Unit) := fun I γ => (rr116 I γ).2.2.2.2.2.1
          have r_123 : ∀ I, Amb.Γ _ I → Rep.is I v22 (([((tx []), (Dt.tx (Dk.d target5)))] : List (Tx × Tx)) : (List (Tx × Tx))) := fun I γ => (rr116 I γ).2.2.2.2.2.2.1
          have r_124 : ∀ I, Amb.Γ _ I → Rep.is I v48 (s47.1 : (List (Tx × Tx))) := fun I γ => (rr116 I γ).2.2.2.2.2.2.2.1
          have r_125 : ∀ I, Amb.Γ _ I → Same Iv69 I := fun I γ => (rr116 I γ).2.2.2.2.2.2.2.2.1
          have r_126 : ∀ I, Amb.Γ _ I → Rep.is I v67 (x66 : Int) := fun I γ => (rr116 I γ).2.2.2.2.2.2.2.2.2
          refine bd_2 n2 I1 H1 v h hr _ fun σ3 a3 hz h => ?_
          obtain ⟨v128, v129, rfl, rfl⟩ := hz
          have r_132 := rep_last2 h
          have r_133 := rep_last h
          refine d_for (S := (List (Tx × Tx))) (fun (z : (List (Tx × Tx))) (σ : L2.St) (a : Amb) => ∃ w0 : Addr, ∃ u0 : Option V, ∃ u1 : Option V, ∃ u2 : Option V, σ = [some v2, some v4, some v6, some v8, some (.ref p49), some v48, some v67, some (.ref w0), some v128, some v129, u0, u1, u2] ∧ (∀ I, a.Γ I → Rep.is I v2 (self1 : (NetV K)) ∧ Rep.is I v4 (source3 : (Dk K)) ∧ Rep.is I v6 (target5 : (Dk K)) ∧ Rep.is I v8 (most7 : (Dk K)) ∧ Rep.is I v10 (x9 : Unit) ∧ Rep.is I v13 (x12 : Unit) ∧ Rep.is I v22 (([((tx []), (Dt.tx (Dk.d target5)))] : List (Tx × Tx)) : (List (Tx × Tx))) ∧ Rep.is I v48 (s47.1 : (List (Tx × Tx))) ∧ Same Iv69 I ∧ Rep.is I v67 (x66 : Int) ∧ Same Iv131 I ∧ Rep.is I v128 (x127.1 : Tx) ∧ Rep.is I v129 (x127.2 : Tx)) ∧ a.Ω = [lcell w0 (z : (List (Tx × Tx))), lcell p49 (s47.2 : (List Tx))]) h (ei_vals (ep_Net_by_letter T (ep_var rfl fun I γ => r_117 I (And.left (And.left γ))))) e (fun I1 => ⟨p110, _, _, _, rfl, fun I γ => ⟨r_117 I (And.left (And.left (And.left γ))), r_118 I (And.left (And.left (And.left γ))), r_119 I (And.left (And.left (And.left γ))), r_120 I (And.left (And.left (And.left γ))), r_121 I (And.left (And.left (And.left γ))), r_122 I (And.left (And.left (And.left γ))), r_123 I (And.left (And.left (And.left γ))), r_124 I (And.left (And.left (And.left γ))), r_125 I (And.left (And.left (And.left γ))), r_126 I (And.left (And.left (And.left γ))), vw130 I (And.left (And.left (And.left γ))), r_132 I (And.left γ), r_133 I (And.left γ)⟩, o⟩) ?_ ?_
          · rintro s139 σ2 a2 n2 I1 H1 e ⟨p141, u142, u143, u144, rfl, rr145, o⟩ h
            have r_146 : ∀ I, Amb.Γ _ I → Rep.is I v2 (self1 : (NetV K)) := fun I γ => (rr145 I γ).1
            have r_147 : ∀ I, Amb.Γ _ I → Rep.is I v4 (source3 : (Dk K)) := fun I γ => (rr145 I γ).2.1
            have r_148 : ∀ I, Amb.Γ _ I → Rep.is I v6 (target5 : (Dk K)) := fun I γ => (rr145 I γ).2.2.1
            have r_149 : ∀ I, Amb.Γ _ I → Rep.is I v8 (most7 : (Dk K)) := fun I γ => (rr145 I γ).2.2.2.1
            have r_150 : ∀ I, Amb.Γ _ I → Rep.is I v10 (x9 : Unit) := fun I γ => (rr145 I γ).2.2.2.2.1
            have r_151 : ∀ I, Amb.Γ _ I → Rep.is I v13 (x12 : Unit) := fun I γ => (rr145 I γ).2.2.2.2.2.1
            have r_152 : ∀ I, Amb.Γ _ I → Rep.is I v22 (([((tx []), (Dt.tx (Dk.d target5)))] : List (Tx × Tx)) : (List (Tx × Tx))) := fun I γ => (rr145 I γ).2.2.2.2.2.2.1
            have r_153 : ∀ I, Amb.Γ _ I → Rep.is I v48 (s47.1 : (List (Tx × Tx))) := fun I γ => (rr145 I γ).2.2.2.2.2.2.2.1
            have r_154 : ∀ I, Amb.Γ _ I → Same Iv69 I := fun I γ => (rr145 I γ).2.2.2.2.2.2.2.2.1
            have r_155 : ∀ I, Amb.Γ _ I → Rep.is I v67 (x66 : Int) := fun I γ => (rr145 I γ).2.2.2.2.2.2.2.2.2.1
            have r_156 : ∀ I, Amb.Γ _ I → Same Iv131 I := fun I γ => (rr145 I γ).2.2.2.2.2.2.2.2.2.2.1
            have r_157 : ∀ I, Amb.Γ _ I → Rep.is I v128 (x127.1 : Tx) := fun I γ => (rr145 I γ).2.2.2.2.2.2.2.2.2.2.2.1
            have r_158 : ∀ I, Amb.Γ _ I → Rep.is I v129 (x127.2 : Tx) := fun I γ => (rr145 I γ).2.2.2.2.2.2.2.2.2.2.2.2
            refine kN136 _ _ _ _ _ _ e ?_ ?_ h
            · exact ⟨p141, _, _, _, _, _, rfl, fun I γ => ⟨r_146 I γ, r_147 I γ, r_148 I γ, r_149 I γ, r_150 I γ, r_151 I γ, r_152 I γ, r_153 I γ, r_154 I γ, r_155 I γ⟩, o⟩
            · exact fun I γ => r_156 I γ
          · rintro x178 s159 σ2 a2 n2 Iv183 tl I1 H1 v N hx ⟨p160, u161, u162, u163, rfl, rr164, o⟩ vw182 e h hr kN189 kB190
            have r_165 : ∀ I, Amb.Γ _ I → Rep.is I v2 (self1 : (NetV K)) := fun I γ => (rr164 I γ).1
            have r_166 : ∀ I, Amb.Γ _ I → Rep.is I v4 (source3 : (Dk K)) := fun I γ => (rr164 I γ).2.1
            have r_167 : ∀ I, Amb.Γ _ I → Rep.is I v6 (target5 : (Dk K)) := fun I γ => (rr164 I γ).2.2.1
            have r_168 : ∀ I, Amb.Γ _ I → Rep.is I v8 (most7 : (Dk K)) := fun I γ => (rr164 I γ).2.2.2.1
            have r_169 : ∀ I, Amb.Γ _ I → Rep.is I v10 (x9 : Unit) := fun I γ => (rr164 I γ).2.2.2.2.1
            have r_170 : ∀ I, Amb.Γ _ I → Rep.is I v13 (x12 : Unit) := fun I γ => (rr164 I γ).2.2.2.2.2.1
            have r_171 : ∀ I, Amb.Γ _ I → Rep.is I v22 (([((tx []), (Dt.tx (Dk.d target5)))] : List (Tx × Tx)) : (List (Tx × Tx))) := fun I γ => (rr164 I γ).2.2.2.2.2.2.1
            have r_172 : ∀ I, Amb.Γ _ I → Rep.is I v48 (s47.1 : (List (Tx × Tx))) := fun I γ => (rr164 I γ).2.2.2.2.2.2.2.1
            have r_173 : ∀ I, Amb.Γ _ I → Same Iv69 I := fun I γ => (rr164 I γ).2.2.2.2.2.2.2.2.1
            have r_174 : ∀ I, Amb.Γ _ I → Rep.is I v67 (x66 : Int) := fun I γ => (rr164 I γ).2.2.2.2.2.2.2.2.2.1
            have r_175 : ∀ I, Amb.Γ _ I → Same Iv131 I := fun I γ => (rr164 I γ).2.2.2.2.2.2.2.2.2.2.1
            have r_176 : ∀ I, Amb.Γ _ I → Rep.is I v128 (x127.1 : Tx) := fun I γ => (rr164 I γ).2.2.2.2.2.2.2.2.2.2.2.1
            have r_177 : ∀ I, Amb.Γ _ I → Rep.is I v129 (x127.2 : Tx) := fun I γ => (rr164 I γ).2.2.2.2.2.2.2.2.2.2.2.2
            refine bd_3 n2 I1 H1 v h hr _ fun σ3 a3 hz h => ?_
            obtain ⟨v179, v180, v181, rfl, rfl⟩ := hz
            have r_184 := rep_last3 h
            have r_185 := rep_last2 h
            have r_186 := rep_last h
            refine d_if h (eb_test (ep_op os_eq' (ep_var rfl fun I γ => r_186 I γ) (ep_var rfl fun I γ => r_177 I (And.left (And.left (And.left γ)))))) e (fun c191 e I1 H1 h => ?_) (fun c191 e I1 H1 h => ?_)
            · obtain ⟨⟨q192, q193, q194⟩, e⟩ := e
              refine d_app h rfl (o_get (j := 0) o rfl) (ep_tup2 (ea_cons (ep_op (os_addT (q193)) (ep_var rfl fun I γ => r_176 I (And.left (And.left (And.left γ)))) (ep_sg (ep_upS (ep_var rfl fun I γ => r_184 I γ) (q192)))) (ea_cons (ep_var rfl fun I γ => r_185 I γ) ea_nil))) (q194) e fun later195 I1 H1 e h => ?_
              have o := o_set (j := 0) h o
              refine kN189 _ _ _ _ _ _ e ?_ ?_ h
              · exact ⟨p160, _, _, _, rfl, fun I γ => ⟨r_165 I (And.left (And.left (And.left γ))), r_166 I (And.left (And.left (And.left γ))), r_167 I (And.left (And.left (And.left γ))), r_168 I (And.left (And.left (And.left γ))), r_169 I (And.left (And.left (And.left γ))), r_170 I (And.left (And.left (And.left γ))), r_171 I (And.left (And.left (And.left γ))), r_172 I (And.left (And.left (And.left γ))), r_173 I (And.left (And.left (And.left γ))), r_174 I (And.left (And.left (And.left γ))), r_175 I (And.left (And.left (And.left γ))), r_176 I (And.left (And.left (And.left γ))), r_177 I (And.left (And.left (And.left γ)))⟩, o⟩
              · exact fun I γ => vw182 I (And.left (And.left (And.left γ)))
            · refine kN189 _ _ _ _ _ _ e ?_ ?_ h
              · exact ⟨p160, _, _, _, rfl, fun I γ => ⟨r_165 I (And.left (And.left (And.left γ))), r_166 I (And.left (And.left (And.left γ))), r_167 I (And.left (And.left (And.left γ))), r_168 I (And.left (And.left (And.left γ))), r_169 I (And.left (And.left (And.left γ))), r_170 I (And.left (And.left (And.left γ))), r_171 I (And.left (And.left (And.left γ))), r_172 I (And.left (And.left (And.left γ))), r_173 I (And.left (And.left (And.left γ))), r_174 I (And.left (And.left (And.left γ))), r_175 I (And.left (And.left (And.left γ))), r_176 I (And.left (And.left (And.left γ))), r_177 I (And.left (And.left (And.left γ)))⟩, o⟩
              · exact fun I γ => vw182 I (And.left (And.left (And.left γ)))
def F_Net_best (self1 : (NetV K)) (source3 : (Dk K)) (target5 : (Dk K)) (most7 : (Dk K)) : DW (ExR (List Tx)) := bindE ((Nw.F_Net_relays (K := K)) self1 source3 target5 most7) fun x9 => bindP x9 fun rows12 => needD ((rows12.length ≤ 16777216) ∧ ((∀ x14 ∈ rows12, rows12.length ≤ 16777216)) ∧ ((∀ x14 ∈ rows12, (∀ x19 ∈ rows12, ((!decide (x19 = x14)) = true → (Nw.F_is_part x19 x14).isSome = true))))) <| (pureD (.ok (List.filterMap (fun x14 : Tx => if (!(List.any (List.map (fun x19 : Tx => ((!decide (x19 = x14)) && ((Nw.F_is_part x19 x14).getD default))) rows12) id)) = true then some x14 else none) rows12)))
def sp_Net_best (K : PySem.W.Frag) : Sp := fun _ _ _ _ => False
def spb_Net_best (K : PySem.W.Frag) : Sp := spX K (fun z : (NetV K) × (Dk K) × (Dk K) × (Dk K) × Unit => (Nw.F_Net_best (K := K)) z.1 z.2.1 z.2.2.1 z.2.2.2.1)
theorem ok_Net_best (T : Txt K mg) (F : FnAt K "best" "Net.best" s_Net_best (He.ma K (He.ga K "Net") "best"))  : Ok P w K mg base CX0 5 (He.ma K (He.ga K "Net") "best") ["self", "source", "target", "most"] (sp_Net_best K) := by
  refine ok_of F sc_Net_best (fun _ _ _ _ _ _ us hl => match us, hl with | [_, _, _, _], _ => rfl) (fun vs H Q E h => ?_) (fun cdv A outer s H vs Q E hr h => ?_)
  · exact h.elim
  · exact h.elim
theorem okb_Net_best (T : Txt K mg) (F : FnAt K "best" "Net.best" s_Net_best (He.ma K (He.ga K "Net") "best")) (GX_Net_relays : Ok P w K mg base (L2.CX P w) 4 (He.ma K (He.ga K "Net") "relays") ["self", "source", "target", "most"] (fun vs H Q E => sp_Net_relays K vs H Q E ∨ spb_Net_relays K vs H Q E)) (G_is_part : Ok P w K mg base CX0 1 (He.ga K "is_part") ["some", "other"] (sp_is_part K)) : Ok P w K mg base (L2.CX P w) 5 (He.ma K (He.ga K "Net") "best") ["self", "source", "target", "most"] (spb_Net_best K) := by
  obtain ⟨fdX_Net_relays, FX_Net_relays, bX_Net_relays, _⟩ := GX_Net_relays.ok
  refine ok_ofX F sc_Net_best (fun _ _ _ _ _ _ us hl => match us, hl with | [_, _, _, _], _ => rfl) (fun vs H Q E h => ?_) (fun cdv A outer s H vs Q E hr h => ?_)
  · obtain ⟨_, ⟨_, _, _, _, _⟩, _, ⟨_, _, rfl, _, _, _, rfl, _, _, _, rfl, _, _, _, rfl, _, rfl⟩, _⟩ := h
    rfl
  · obtain ⟨I, ⟨self1, source3, target5, most7, _⟩, M, ⟨v2, _, rfl, h_self1, v4, _, rfl, h_source3, v6, _, rfl, h_target5, v8, _, rfl, h_most7, rfl⟩, sb, e, kO, kE⟩ := h
    have h := (((((stnX (n := 0) sb).rep h_self1).rep h_source3).rep h_target5).rep h_most7)
    have e : (Nw.F_Net_best (K := K)) self1 source3 target5 most7 0 M := e
    unfold Nw.F_Net_best at e
    have r_self1 := rep_last4 h
    have r_source3 := rep_last3 h
    have r_target5 := rep_last2 h
    have r_most7 := rep_last h
    refine ⟨_, (pss_cons (ps_set (i := 4) sc_Net_best.nd rfl (Or.inr rfl) (pe_meth (pv 0) T.cl_Net T.m_Net_relays FX_Net_relays (hr.mono (by decide)) bX_Net_relays .nil passE (pa_cons (pv 1) (pa_cons (pv 2) (pa_cons (pv 3) pa_nil)))))
      (pss_one (ps_ret (pe_lc (own := [("row", 5)]) (g := (gName 5)) rfl sc_Net_best.nd (pi_list (pv 4)) (blkOk_by (own := [("row", 5)]) (N := n_Net_best) (sc := defScope s_Net_best) (by decide +kernel)) (fun _ _ _ _ _ => (pg_name (i := 5) sc_Net_best.nd rfl (Or.inr rfl))) (fun _ _ _ _ _ => (pts_one (pt_not (pt_val (pe_callB (cr_anyK (K := K) rfl rfl) (by rfl) T.b_any (by decide +kernel) (pa_cons (pe_lc (own := [("other", 6)]) (g := (gName 6)) rfl sc_Net_best.nd (pi_listK (K := K) rfl (pv 4)) (blkOk_by (own := [("other", 6)]) (by rfl)) (fun _ _ _ _ _ => (pg_name (i := 6) sc_Net_best.nd rfl (Or.inl rfl))) (fun _ _ _ _ _ => pts_nil) (fun _ _ _ _ _ => (pe_and (pe_cmpR op_ne (pv 6) (pv 5) (nomark _)) (pe_one (pe_callC G_is_part (hr.mono (by decide)) T.g_is_part (pa_cons (pv 6) (pa_cons (pv 5) pa_nil))))))) pa_nil)))))) (fun _ _ _ _ _ => (pv 5)))))), ?_⟩
    refine ho_asgs ?_
    refine x_methW (C := He.ga K "Net") (F := (fun z : (NetV K) × (Dk K) × (Dk K) × (Dk K) × Unit => (Nw.F_Net_relays (K := K)) z.1 z.2.1 z.2.2.1 z.2.2.2.1)) (show ("relays" : Str) ∉ (["by_letter"] : List Str) by decide) h kE (ep_var rfl fun I γ => r_self1 I γ) (ea_cons (ep_var rfl fun I γ => r_source3 I γ) (ea_cons (ep_var rfl fun I γ => r_target5 I γ) (ea_cons (ep_var rfl fun I γ => r_most7 I γ) ea_nil))) e fun x9 v10 I1 H1 e h => ?_
    have r_t11 := rep_last h
    refine d_sets h (ep_cv fun I γ => r_t11 I γ) e fun rows12 v13 I1 H1 e h => ?_
    have r_rows12 := rep_last h
    obtain ⟨⟨q16, q21, q26⟩, e⟩ := e
    exact st_ret h (ep_lc (b := fun x14 : Tx => (!(List.any (List.map (fun x19 : Tx => ((!decide (x19 = x14)) && ((Nw.F_is_part x19 x14).getD default))) rows12) id))) (e := fun x14 : Tx => x14) (ei_list (ep_var rfl fun I γ => r_rows12 I γ)) (q16) (fun x14 hx15 => bd_name) (fun x14 hx15 σ2 a2 z => by obtain ⟨v17, rfl, rfl⟩ := z; exact ⟨rfl, (eb_not (eb_val (ep_b1 c_any (EvP.rl (EvP.cast (ep_lc (b := fun x19 : Tx => true) (e := fun x19 : Tx => ((!decide (x19 = x14)) && ((Nw.F_is_part x19 x14).getD default))) (ei_list (ep_var rfl fun I γ => r_rows12 I (And.left γ))) (q21 x14 hx15) (fun x19 hx20 => bd_name) (fun x19 hx20 σ2 a2 z => by obtain ⟨v22, rfl, rfl⟩ := z; exact ⟨rfl, eb_yes, fun hb24 => (ep_and (ep_op os_ne' (ep_var rfl fun I γ => And.right γ) (ep_var rfl fun I γ => And.right (And.left γ))) (fun c25 => (ep_call (F := (fun z : Tx × Tx × Unit => Nw.F_is_part z.1 z.2.1)) (ea_cons (ep_var rfl fun I γ => And.right γ) (ea_cons (ep_var rfl fun I γ => And.right (And.left γ)) ea_nil)) (someD (q26 x14 hx15 x19 hx20 c25)))))⟩)) fm_map))))), fun hb27 => (ep_var rfl fun I γ => And.right γ)⟩)) (fun v I1 H1 h r => kO _ _ e v I1 H1 h.gN r)
def F_l_relays (channels_here1 : (List (T3 Sg Tx Tx))) (source3 : Tx) (target5 : Tx) (most7 : Int) : (Option (List Tx)) := bindP ([] : List Tx) fun found9 => bindP ([(tx [])] : List Tx) fun layer11 => needP ((-(2 ^ 62) ≤ most7 ∧ most7 < 2 ^ 62)) <| loopP (rng 0 most7) (fun (x44 : Int) (s30 : (List Tx) × (List Tx)) next49 brk50 => bindP ([] : List Tx) fun longer53 => loopP s30.1 (fun (x101 : Tx) (s86 : (List Tx) × (Option Tx)) next106 brk107 => needP (((∀ x110 ∈ (sgL ((tx [65, 66, 67, 68]) : Tx).l), (x101 : Tx).l.length + ((tx [Sg.c x110]) : Tx).l.length ≤ 100000)) ∧ ((∀ x110 ∈ (sgL ((tx [65, 66, 67, 68]) : Tx).l), ((Nw.F_l_walked (K := K)) channels_here1 (tx ((x101 : Tx).l ++ ((tx [Sg.c x110]) : Tx).l)) (some target5)).isSome = true))) <| bindP (List.filterMap (fun x110 : Sg => if ((((Nw.F_l_walked (K := K)) channels_here1 (tx ((x101 : Tx).l ++ ((tx [Sg.c x110]) : Tx).l)) (some target5)).getD default).isSome) = true then some x110 else none) (sgL ((tx [65, 66, 67, 68]) : Tx).l)) fun steps117 => needP ((steps117.length ≤ 16777216) ∧ ((∀ x119 ∈ steps117, (x101 : Tx).l.length + ((tx [Sg.c x119]) : Tx).l.length ≤ 100000)) ∧ (s86.1.length + (List.map (fun x119 : Sg => (tx ((x101 : Tx).l ++ ((tx [Sg.c x119]) : Tx).l))) steps117).length ≤ 16777216)) <| bindP (s86.1 ++ (List.map (fun x119 : Sg => (tx ((x101 : Tx).l ++ ((tx [Sg.c x119]) : Tx).l))) steps117)) fun longer127 => next106 (longer127, (some x101))) (fun (s56 : (List Tx) × (Option Tx)) => bindP s56.1 fun layer72 => needP ((layer72.length ≤ 16777216) ∧ ((∀ x74 ∈ layer72, ((Nw.F_l_walked (K := K)) channels_here1 x74 (some target5)).isSome = true)) ∧ ((∀ x74 ∈ layer72, EqD.sh K (((Nw.F_l_walked (K := K)) channels_here1 x74 (some target5)).getD default) = true)) ∧ ((∀ x74 ∈ layer72, EqD.sh K (some source3) = true)) ∧ (s30.2.length + (List.filterMap (fun x74 : Tx => if (decide ((((Nw.F_l_walked (K := K)) channels_here1 x74 (some target5)).getD default) = (some source3))) = true then some x74 else none) layer72).length ≤ 16777216)) <| bindP (s30.2 ++ (List.filterMap (fun x74 : Tx => if (decide ((((Nw.F_l_walked (K := K)) channels_here1 x74 (some target5)).getD default) = (some source3))) = true then some x74 else none) layer72)) fun found84 => next49 (layer72, found84)) (longer53, (none : Option Tx))) (fun (s15 : (List Tx) × (List Tx)) => (some s15.2)) (layer11, found9)
def sp_l_relays (K : PySem.W.Frag) : Sp := spP (fun z : (List (T3 Sg Tx Tx)) × Tx × Tx × Int × Unit => (Nw.F_l_relays (K := K)) z.1 z.2.1 z.2.2.1 z.2.2.2.1)
theorem ok_l_relays (T : Txt K mg) (F : FnAt K "_law_relays" "_law_relays" s_l_relays (He.ga K "_law_relays")) (G_l_walked : Ok P w K mg base CX0 2 (He.ga K "_law_walked") ["_law_channels_here", "_law_row", "_law_process"] (sp_l_walked K)) : Ok P w K mg base CX0 3 (He.ga K "_law_relays") ["_law_channels_here", "_law_source", "_law_target", "_law_most"] (sp_l_relays K) := by
  refine ok_of F sc_l_relays (fun _ _ _ _ _ _ us hl => match us, hl with | [_, _, _, _], _ => rfl) (fun vs H Q E h => ?_) (fun cdv A outer s H vs Q E hr h => ?_)
  · obtain ⟨_, ⟨_, _, _, _, _⟩, _, ⟨_, _, rfl, _, _, _, rfl, _, _, _, rfl, _, _, _, rfl, _, rfl⟩, _⟩ := h
    rfl
  · obtain ⟨I, ⟨channels_here1, source3, target5, most7, _⟩, y, ⟨v2, _, rfl, h_channels_here1, v4, _, rfl, h_source3, v6, _, rfl, h_target5, v8, _, rfl, h_most7, rfl⟩, sb, hF, k⟩ := h
    have h := (((((stn0 sb).rep h_channels_here1).rep h_source3).rep h_target5).rep h_most7)
    have e : (Nw.F_l_relays (K := K)) channels_here1 source3 target5 most7 = some y := hF
    unfold Nw.F_l_relays at e
    have r_channels_here1 := rep_last4 h
    have r_source3 := rep_last3 h
    have r_target5 := rep_last2 h
    have r_most7 := rep_last h
    refine ⟨_, (pss_cons (ps_par (i := 4) (j := 5) (by rfl) sc_l_relays.nd rfl rfl (by decide) rfl rfl (pa_cons (pe_lst pa_nil) (pa_cons (pe_lst (pa_cons pe_str pa_nil)) pa_nil)) (by rfl))
      (pss_cons (ps_for PassesOwn.never rfl (pi_range1 rfl T.b_range (pa_cons (pv 3) pa_nil)) (pg_name (i := 6) sc_l_relays.nd rfl (Or.inl rfl)) (pss_cons (ps_set (i := 7) sc_l_relays.nd rfl (Or.inl rfl) (pe_lst pa_nil))
      (pss_cons (ps_for PassesOwn.never rfl (pi_list (pv 5)) (pg_name (i := 8) sc_l_relays.nd rfl (Or.inr rfl)) (pss_cons (ps_setLc (i := 9) (own := [("_law_step", 10)]) (g := (gName 10)) rfl sc_l_relays.nd rfl rfl (sw_true rfl rfl rfl (by decide +kernel)) (pi_str pe_str) (blkOk_by (own := [("_law_step", 10)]) (N := n_l_relays) (sc := defScope s_l_relays) (by decide +kernel)) (fun _ _ _ _ _ => (pg_name (i := 10) sc_l_relays.nd rfl (Or.inl rfl))) (fun _ _ _ _ _ => (pts_one (pt_cmpR op_notN (pe_callC G_l_walked (hr.mono (by decide)) T.g__law_walked (pa_cons (pv 0) (pa_cons (pe_op op_add_str (pv 8) (pv 10)) (pa_cons (pv 2) pa_nil)))) pe_non (nomark _)))) (fun _ _ _ _ _ => (pv 10)))
      (pss_one (ps_set (i := 7) sc_l_relays.nd rfl (Or.inl rfl) (pe_op op_cat (pv 7) (pe_lc (own := [("_law_step", 10)]) (g := (gName 10)) rfl sc_l_relays.nd (pi_list (pv 9)) (blkOk_by (own := [("_law_step", 10)]) (N := n_l_relays) (sc := defScope s_l_relays) (by decide +kernel)) (fun _ _ _ _ _ => (pg_name (i := 10) sc_l_relays.nd rfl (Or.inl rfl))) (fun _ _ _ _ _ => pts_nil) (fun _ _ _ _ _ => (pe_op op_add_str (pv 8) (pv 10)))))))))
      (pss_cons (ps_set (i := 5) sc_l_relays.nd rfl (Or.inl rfl) (pv 7))
      (pss_one (ps_set (i := 4) sc_l_relays.nd rfl (Or.inl rfl) (pe_op op_cat (pv 4) (pe_lc (own := [("_law_row", 8)]) (g := (gName 8)) rfl sc_l_relays.nd (pi_list (pv 5)) (blkOk_by (own := [("_law_row", 8)]) (N := n_l_relays) (sc := defScope s_l_relays) (by decide +kernel)) (fun _ _ _ _ _ => (pg_name (i := 8) sc_l_relays.nd rfl (Or.inl rfl))) (fun _ _ _ _ _ => (pts_one (pt_cmpR (op_eqDK (K := K) rfl hr.units) (pe_callC G_l_walked (hr.mono (by decide)) T.g__law_walked (pa_cons (pv 0) (pa_cons (pv 8) (pa_cons (pv 2) pa_nil)))) (pv 1) (nomark _)))) (fun _ _ _ _ _ => (pv 8))))))))))
      (pss_one (ps_ret (pv 4))))), ?_⟩
    refine p_pars h (ea_cons (ep_lst el_nil (by show 0 ≤ 16777216; decide)) (ea_cons (ep_lst (el_cons (ep_txc (by rfl) (by decide)) el_nil) (by show 1 ≤ 16777216; decide)) ea_nil)) e fun found9 layer11 v10 v12 I1 H1 e h => ?_
    have r_found9 := rep_last2 h
    have r_layer11 := rep_last h
    obtain ⟨q13, e⟩ := need_ok e
    refine p_fors (S := (List Tx) × (List Tx)) (fun (z : (List Tx) × (List Tx)) (σ : L2.St) (a : Amb) => ∃ w0 : V, ∃ w1 : V, ∃ u0 : Option V, ∃ u1 : Option V, ∃ u2 : Option V, ∃ u3 : Option V, σ = [some v2, some v4, some v6, some v8, some w1, some w0, u3, u0, u1, u2, none] ∧ (∀ I, a.Γ I → Rep.is I v2 (channels_here1 : (List (T3 Sg Tx Tx))) ∧ Rep.is I v4 (source3 : Tx) ∧ Rep.is I v6 (target5 : Tx) ∧ Rep.is I v8 (most7 : Int) ∧ Rep.is I w1 (z.2 : (List Tx)) ∧ Rep.is I w0 (z.1 : (List Tx))) ∧ a.Ω = []) h (ei_rng1 (ep_var rfl fun I γ => r_most7 I (And.left (And.left γ))) (q13)) e (fun I1 => ⟨v12, v10, _, _, _, _, rfl, fun I γ => ⟨r_channels_here1 I (And.left (And.left (And.left γ))), r_source3 I (And.left (And.left (And.left γ))), r_target5 I (And.left (And.left (And.left γ))), r_most7 I (And.left (And.left (And.left γ))), r_found9 I (And.left γ), r_layer11 I (And.left γ)⟩, rfl⟩) ?_ ?_
    · rintro s15 σ2 a2 n2 I1 H1 e ⟨v17, v18, u19, u20, u21, u22, rfl, rr23, o⟩ h
      have r_24 : ∀ I, Amb.Γ _ I → Rep.is I v2 (channels_here1 : (List (T3 Sg Tx Tx))) := fun I γ => (rr23 I γ).1
      have r_25 : ∀ I, Amb.Γ _ I → Rep.is I v4 (source3 : Tx) := fun I γ => (rr23 I γ).2.1
      have r_26 : ∀ I, Amb.Γ _ I → Rep.is I v6 (target5 : Tx) := fun I γ => (rr23 I γ).2.2.1
      have r_27 : ∀ I, Amb.Γ _ I → Rep.is I v8 (most7 : Int) := fun I γ => (rr23 I γ).2.2.2.1
      have r_28 : ∀ I, Amb.Γ _ I → Rep.is I v18 (s15.2 : (List Tx)) := fun I γ => (rr23 I γ).2.2.2.2.1
      have r_29 : ∀ I, Amb.Γ _ I → Rep.is I v17 (s15.1 : (List Tx)) := fun I γ => (rr23 I γ).2.2.2.2.2
      exact st_ret h (ep_var rfl fun I γ => r_28 I γ) (fun v I1 H1 h r => k v I1 H1 h.g ((Option.some.inj e) ▸ r))
    · rintro x44 s30 σ2 a2 n2 Iv47 tl I1 H1 v N hx ⟨v31, v32, u33, u34, u35, u36, rfl, rr37, o⟩ vw46 e h hr kN51 kB52
      have r_38 : ∀ I, Amb.Γ _ I → Rep.is I v2 (channels_here1 : (List (T3 Sg Tx Tx))) := fun I γ => (rr37 I γ).1
      have r_39 : ∀ I, Amb.Γ _ I → Rep.is I v4 (source3 : Tx) := fun I γ => (rr37 I γ).2.1
      have r_40 : ∀ I, Amb.Γ _ I → Rep.is I v6 (target5 : Tx) := fun I γ => (rr37 I γ).2.2.1
      have r_41 : ∀ I, Amb.Γ _ I → Rep.is I v8 (most7 : Int) := fun I γ => (rr37 I γ).2.2.2.1
      have r_42 : ∀ I, Amb.Γ _ I → Rep.is I v32 (s30.2 : (List Tx)) := fun I γ => (rr37 I γ).2.2.2.2.1
      have r_43 : ∀ I, Amb.Γ _ I → Rep.is I v31 (s30.1 : (List Tx)) := fun I γ => (rr37 I γ).2.2.2.2.2
      refine bd_name n2 I1 H1 v h hr _ fun σ3 a3 hz h => ?_
      obtain ⟨v45, rfl, rfl⟩ := hz
      have r_48 := rep_last h
      refine p_sets h (ep_lst el_nil (by show 0 ≤ 16777216; decide)) e fun longer53 v54 I1 H1 e h => ?_
      have r_longer53 := rep_last h
      refine p_fors (S := (List Tx) × (Option Tx)) (fun (z : (List Tx) × (Option Tx)) (σ : L2.St) (a : Amb) => ∃ w0 : V, ∃ w1 : Option V, ∃ u0 : Option V, σ = [some v2, some v4, some v6, some v8, some v32, some v31, some v45, some w0, w1, u0, none] ∧ (∀ I, a.Γ I → Rep.is I v2 (channels_here1 : (List (T3 Sg Tx Tx))) ∧ Rep.is I v4 (source3 : Tx) ∧ Rep.is I v6 (target5 : Tx) ∧ Rep.is I v8 (most7 : Int) ∧ Rep.is I v32 (s30.2 : (List Tx)) ∧ Rep.is I v31 (s30.1 : (List Tx)) ∧ Same Iv47 I ∧ Rep.is I v45 (x44 : Int) ∧ Rep.is I w0 (z.1 : (List Tx)) ∧ LateR I w1 (z.2 : Option Tx)) ∧ a.Ω = []) h (ei_list (ep_var rfl fun I γ => r_43 I (And.left (And.left γ)))) e (fun I1 => ⟨v54, _, _, rfl, fun I γ => ⟨r_38 I (And.left (And.left (And.left γ))), r_39 I (And.left (And.left (And.left γ))), r_40 I (And.left (And.left (And.left γ))), r_41 I (And.left (And.left (And.left γ))), r_42 I (And.left (And.left (And.left γ))), r_43 I (And.left (And.left (And.left γ))), vw46 I (And.left (And.left (And.left γ))), r_48 I (And.left (And.left γ)), r_longer53 I (And.left γ), trivial⟩, o⟩) ?_ ?_
      · rintro s56 σ2 a2 n2 I1 H1 e ⟨v58, v59, u60, rfl, rr61, o⟩ h
        have r_62 : ∀ I, Amb.Γ _ I → Rep.is I v2 (channels_here1 : (List (T3 Sg Tx Tx))) := fun I γ => (rr61 I γ).1
        have r_63 : ∀ I, Amb.Γ _ I → Rep.is I v4 (source3 : Tx) := fun I γ => (rr61 I γ).2.1
        have r_64 : ∀ I, Amb.Γ _ I → Rep.is I v6 (target5 : Tx) := fun I γ => (rr61 I γ).2.2.1
        have r_65 : ∀ I, Amb.Γ _ I → Rep.is I v8 (most7 : Int) := fun I γ => (rr61 I γ).2.2.2.1
        have r_66 : ∀ I, Amb.Γ _ I → Rep.is I v32 (s30.2 : (List Tx)) := fun I γ => (rr61 I γ).2.2.2.2.1
        have r_67 : ∀ I, Amb.Γ _ I → Rep.is I v31 (s30.1 : (List Tx)) := fun I γ => (rr61 I γ).2.2.2.2.2.1
        have r_68 : ∀ I, Amb.Γ _ I → Same Iv47 I := fun I γ => (rr61 I γ).2.2.2.2.2.2.1
        have r_69 : ∀ I, Amb.Γ _ I → Rep.is I v45 (x44 : Int) := fun I γ => (rr61 I γ).2.2.2.2.2.2.2.1
        have r_70 : ∀ I, Amb.Γ _ I → Rep.is I v58 (s56.1 : (List Tx)) := fun I γ => (rr61 I γ).2.2.2.2.2.2.2.2.1
        have r_71 : ∀ I, Amb.Γ _ I → LateR I v59 (s56.2 : Option Tx) := fun I γ => (rr61 I γ).2.2.2.2.2.2.2.2.2
        refine p_sets h (ep_var rfl fun I γ => r_70 I γ) e fun layer72 v73 I1 H1 e h => ?_
        have r_layer72 := rep_last h
        obtain ⟨⟨q76, q79, q80, q81, q83⟩, e⟩ := need_ok e
        refine p_set h (ep_op (os_cat (q83)) (EvP.rl (ep_var rfl fun I γ => r_66 I (And.left γ))) (EvP.rl (ep_lc (b := fun x74 : Tx => (decide ((((Nw.F_l_walked (K := K)) channels_here1 x74 (some target5)).getD default) = (some source3)))) (e := fun x74 : Tx => x74) (ei_list (ep_var rfl fun I γ => r_layer72 I γ)) (q76) (fun x74 hx75 => bd_name) (fun x74 hx75 σ2 a2 z => by obtain ⟨v77, rfl, rfl⟩ := z; exact ⟨rfl, (eb_test (ep_op (os_eqE (K := K) (q80 x74 hx75) (q81 x74 hx75) (Nat.le_of_ble_eq_true rfl)) (ep_call (F := (fun z : (List (T3 Sg Tx Tx)) × Tx × (Option Tx) × Unit => (Nw.F_l_walked (K := K)) z.1 z.2.1 z.2.2.1)) (ea_cons (ep_var rfl fun I γ => r_62 I (And.left (And.left γ))) (ea_cons (ep_var rfl fun I γ => And.right γ) (ea_cons (ep_some (ep_var rfl fun I γ => r_64 I (And.left (And.left γ))) (fun _ _ h => by rw [h.1]; exact fun z => nomatch z)) ea_nil))) (someD (q79 x74 hx75))) (ep_some (ep_var rfl fun I γ => r_63 I (And.left (And.left γ))) (fun _ _ h => by rw [h.1]; exact fun z => nomatch z)))), fun hb82 => (ep_var rfl fun I γ => And.right γ)⟩)))) e fun found84 v85 I1 H1 e h => ?_
        have r_found84 := rep_last h
        refine kN51 _ _ _ _ _ _ e ?_ ?_ h
        · exact ⟨v73, v85, _, _, _, _, rfl, fun I γ => ⟨r_62 I (And.left (And.left γ)), r_63 I (And.left (And.left γ)), r_64 I (And.left (And.left γ)), r_65 I (And.left (And.left γ)), r_found84 I γ, r_layer72 I (And.left γ)⟩, o⟩
        · exact fun I γ => r_68 I (And.left (And.left γ))
      · rintro x101 s86 σ2 a2 n2 Iv104 tl I1 H1 v N hx ⟨v87, v88, u89, rfl, rr90, o⟩ vw103 e h hr kN108 kB109
        have r_91 : ∀ I, Amb.Γ _ I → Rep.is I v2 (channels_here1 : (List (T3 Sg Tx Tx))) := fun I γ => (rr90 I γ).1
        have r_92 : ∀ I, Amb.Γ _ I → Rep.is I v4 (source3 : Tx) := fun I γ => (rr90 I γ).2.1
        have r_93 : ∀ I, Amb.Γ _ I → Rep.is I v6 (target5 : Tx) := fun I γ => (rr90 I γ).2.2.1
        have r_94 : ∀ I, Amb.Γ _ I → Rep.is I v8 (most7 : Int) := fun I γ => (rr90 I γ).2.2.2.1
        have r_95 : ∀ I, Amb.Γ _ I → Rep.is I v32 (s30.2 : (List Tx)) := fun I γ => (rr90 I γ).2.2.2.2.1
        have r_96 : ∀ I, Amb.Γ _ I → Rep.is I v31 (s30.1 : (List Tx)) := fun I γ => (rr90 I γ).2.2.2.2.2.1
        have r_97 : ∀ I, Amb.Γ _ I → Same Iv47 I := fun I γ => (rr90 I γ).2.2.2.2.2.2.1
        have r_98 : ∀ I, Amb.Γ _ I → Rep.is I v45 (x44 : Int) := fun I γ => (rr90 I γ).2.2.2.2.2.2.2.1
        have r_99 : ∀ I, Amb.Γ _ I → Rep.is I v87 (s86.1 : (List Tx)) := fun I γ => (rr90 I γ).2.2.2.2.2.2.2.2.1
        have r_100 : ∀ I, Amb.Γ _ I → LateR I v88 (s86.2 : Option Tx) := fun I γ => (rr90 I γ).2.2.2.2.2.2.2.2.2
        refine bd_name n2 I1 H1 v h hr _ fun σ3 a3 hz h => ?_
        obtain ⟨v102, rfl, rfl⟩ := hz
        have r_105 := rep_last h
        obtain ⟨⟨q114, q115⟩, e⟩ := need_ok e
        refine p_sets h (ep_lc (b := fun x110 : Sg => ((((Nw.F_l_walked (K := K)) channels_here1 (tx ((x101 : Tx).l ++ ((tx [Sg.c x110]) : Tx).l)) (some target5)).getD default).isSome)) (e := fun x110 : Sg => x110) (ei_str (ep_txc (by rfl) (by decide))) (by decide) (fun x110 hx111 => bd_name) (fun x110 hx111 σ2 a2 z => by obtain ⟨v112, rfl, rfl⟩ := z; exact ⟨rfl, (eb_test (ep_op os_notN (ep_call (F := (fun z : (List (T3 Sg Tx Tx)) × Tx × (Option Tx) × Unit => (Nw.F_l_walked (K := K)) z.1 z.2.1 z.2.2.1)) (ea_cons (ep_var rfl fun I γ => r_91 I (And.left (And.left γ))) (ea_cons (ep_op (os_addT (q114 x110 hx111)) (ep_var rfl fun I γ => r_105 I (And.left γ)) (ep_sg (ep_var rfl fun I γ => And.right γ))) (ea_cons (ep_some (ep_var rfl fun I γ => r_93 I (And.left (And.left γ))) (fun _ _ h => by rw [h.1]; exact fun z => nomatch z)) ea_nil))) (someD (q115 x110 hx111))) ep_non)), fun hb116 => (ep_var rfl fun I γ => And.right γ)⟩)) e fun steps117 v118 I1 H1 e h => ?_
        have r_steps117 := rep_last h
        obtain ⟨⟨q121, q125, q126⟩, e⟩ := need_ok e
        refine p_set h (ep_op (os_cat (q126)) (EvP.rl (ep_var rfl fun I γ => r_99 I (And.left (And.left γ)))) (EvP.rl (EvP.cast (ep_lc (b := fun x119 : Sg => true) (e := fun x119 : Sg => (tx ((x101 : Tx).l ++ ((tx [Sg.c x119]) : Tx).l))) (ei_list (ep_var rfl fun I γ => r_steps117 I γ)) (q121) (fun x119 hx120 => bd_name) (fun x119 hx120 σ2 a2 z => by obtain ⟨v122, rfl, rfl⟩ := z; exact ⟨rfl, eb_yes, fun hb124 => (ep_op (os_addT (q125 x119 hx120)) (ep_var rfl fun I γ => r_105 I (And.left (And.left γ))) (ep_sg (ep_var rfl fun I γ => And.right γ)))⟩)) fm_map))) e fun longer127 v128 I1 H1 e h => ?_
        have r_longer127 := rep_last h
        refine kN108 _ _ _ _ _ _ e ?_ ?_ h
        · exact ⟨v128, _, _, rfl, fun I γ => ⟨r_91 I (And.left (And.left (And.left γ))), r_92 I (And.left (And.left (And.left γ))), r_93 I (And.left (And.left (And.left γ))), r_94 I (And.left (And.left (And.left γ))), r_95 I (And.left (And.left (And.left γ))), r_96 I (And.left (And.left (And.left γ))), r_97 I (And.left (And.left (And.left γ))), r_98 I (And.left (And.left (And.left γ))), r_longer127 I γ, ⟨_, rfl, r_105 I (And.left (And.left γ))⟩⟩, o⟩
        · exact fun I γ => vw103 I (And.left (And.left (And.left γ)))
end
end Nw

namespace Nw
open PySem PySem.Spec PyProof.Rows L2
/-! ### the law's channels: what may be drawn -/
structure PrOk (xs : List Tx) : Prop where
  two : 2 ≤ xs.length
  few : xs.length ≤ 4
  nd : xs.Nodup
  ok : ∀ x ∈ xs, isPr x.l = true
theorem gt_alpha {j : Int} (h0 : 0 ≤ j) (h : j < 26) : gt [97, 98, 99, 100, 101, 102, 103, 104, 105, 106, 107, 108, 109, 110, 111, 112, 113, 114, 115, 116, 117, 118, 119, 120, 121, 122] j = 97 + j.toNat := by
  have z : ∀ k : Fin 26, gt [97, 98, 99, 100, 101, 102, 103, 104, 105, 106, 107, 108, 109, 110, 111, 112, 113, 114, 115, 116, 117, 118, 119, 120, 121, 122] ((k.val : Nat) : Int) = 97 + k.val := by decide +kernel
  have := z ⟨j.toNat, by omega⟩
  rw [show ((j.toNat : Nat) : Int) = j by omega] at this
  exact this
theorem isPr_of {l : List Nat} (h1 : 1 ≤ l.length) (h6 : l.length ≤ 6) (h : ∀ c ∈ l, 97 ≤ c ∧ c ≤ 122) : isPr l = true := by
  rw [isPr, decide_eq_true ⟨h1, h6⟩, Bool.true_and, List.all_eq_true]
  exact fun c hc => decide_eq_true (h c hc)
def alphaAt (r x : Int) (t : Nat) : Nat := 97 + ((r + x * (t : Int)) % 26).toNat
theorem alpha_inj {r x : Int} (hx : x ∈ [(1 : Int), 3, 5, 7, 9, 11]) {t u : Nat} (ht : t < 4) (hu : u < 4) (e : alphaAt r x t = alphaAt r x u) : t = u := by
  unfold alphaAt at e
  have e2 : (r + x * (t : Int)) % 26 = (r + x * (u : Int)) % 26 := by
    have a1 := Int.emod_nonneg (r + x * (t : Int)) (show (26 : Int) ≠ 0 by decide)
    have a2 := Int.emod_nonneg (r + x * (u : Int)) (show (26 : Int) ≠ 0 by decide)
    omega
  simp only [List.mem_cons, List.not_mem_nil, or_false] at hx
  rcases hx with rfl | rfl | rfl | rfl | rfl | rfl <;> omega
theorem mem_sgL {l : List Nat} {c : Sg} (h : c ∈ sgL l) : c.c ∈ l := by
  obtain ⟨a, ha, rfl⟩ := List.mem_map.mp h
  exact ha
theorem in_alpha {c : Nat} (h : c ∈ [97, 98, 99, 100, 101, 102, 103, 104, 105, 106, 107, 108, 109, 110, 111, 112, 113, 114, 115, 116, 117, 118, 119, 120, 121, 122]) : 97 ≤ c ∧ c ≤ 122 := by
  simp only [List.mem_cons, List.not_mem_nil, or_false] at h
  omega
theorem law_processes : Wp F_l_processes 60 PrOk := by
  unfold F_l_processes
  simp only [bindP]
  refine wp_bind' (wp_pick (by decide) (by decide)) (by decide) fun x4 h4 => ?_
  refine wp_bind' (wp_next (by decide) (by decide)) (by decide) fun r7 h7 => ?_
  refine wp_need ⟨⟨by omega, by omega⟩, by rw [rng_len]; omega⟩ ?_
  refine wp_bind' (c1 := 5) (P := fun ys : List Sg => ys.length ≤ 5 ∧ ∀ y ∈ ys, 97 ≤ y.c ∧ y.c ≤ 122) (wp_mono (wp_comp (c := 1) (Q := fun y : Sg => 97 ≤ y.c ∧ y.c ≤ 122) _ fun x hx => ?_) (by rw [rng_len]; omega) fun ys h => ⟨by have := h.1; rw [rng_len] at this; omega, h.2⟩) (by decide) fun x20 h20 => ?_
  · refine wp_mono (c1 := 1 + 0) (P1 := fun o : Option Sg => ∀ y, o = some y → 97 ≤ y.c ∧ y.c ≤ 122) (wp_bind (wp_pick (by decide) (by decide)) fun c hc => wp_pure fun y e => ?_) (Nat.le_refl _) fun _ p => p
    cases e
    exact in_alpha (mem_sgL hc)
  refine wp_need (by omega) ?_
  refine wp_bind' (wp_next (by decide) (by decide)) (by decide) fun r26 h26 => ?_
  refine wp_bind' (wp_pick (by decide) (by decide)) (by decide) fun many hm => ?_
  have hm4 : 2 ≤ many ∧ many ≤ 4 := by
    simp only [List.mem_cons, List.not_mem_nil, or_false] at hm
    omega
  refine wp_bind' (wp_next (by decide) (by decide)) (by decide) fun r34 h34 => ?_
  refine wp_if (fun _ => ?_) (fun _ => ?_)
  · refine wp_bind' (wp_shuffled (by decide)) (by decide) fun ys hp => wp_pure ?_
    have len : ys.length = 6 := hp.length_eq
    have nd : ys.Nodup := hp.nodup_iff.mpr (by decide)
    have cl : (cutL ys none (some many)).length = many.toNat := by
      unfold cutL
      rw [List.length_take, List.length_drop, len]
      have e : HT.sIx 6 6 (some many) = many.toNat := by
        have : many = ((many.toNat : Nat) : Int) := by omega
        rw [this, HT.sIx_nat]
        omega
      rw [e, HT.sIx_none]
      omega
    refine ⟨by omega, by omega, ?_, fun x hx => ?_⟩
    · unfold cutL
      exact (nd.sublist (List.drop_sublist ..)).sublist (List.take_sublist ..)
    · have z := hp.mem_iff.mp (cutL_mem hx)
      simp only [List.mem_cons, List.not_mem_nil, or_false] at z
      rcases z with rfl | rfl | rfl | rfl | rfl | rfl <;> decide
  · refine wp_need ⟨by omega, by omega⟩ ?_
    have hb : (x20.map Sg.c).length ≤ 5 := by rw [List.length_map]; exact h20.1
    have hb2 : ∀ c ∈ x20.map Sg.c, 97 ≤ c ∧ c ≤ 122 := fun c hc => by
      obtain ⟨y, hy, rfl⟩ := List.mem_map.mp hc
      exact h20.2 y hy
    generalize x20.map Sg.c = base at hb hb2 ⊢
    have rl : (rng 0 many).length = many.toNat := by rw [rng_len]; omega
    refine wp_le (wp_loop (c := 0) (cr := 0) (fun i (s : List Tx) => s = (List.range i).map fun t => tx (base ++ [alphaAt r26 x4 t])) _ 0 _ (fun s hs => wp_pure ?_) (fun i x s next brk cn hx hs hcn hn hbk => ?_) rfl) (by rw [Nat.mul_zero]; exact Nat.zero_le _)
    · rw [Nat.zero_add, rl] at hs
      subst hs
      refine ⟨by rw [List.length_map, List.length_range]; omega, by rw [List.length_map, List.length_range]; omega, ?_, fun x hx => ?_⟩
      · refine List.pairwise_iff_getElem.mpr fun i j hi hj lt e => ?_
        rw [List.getElem_map, List.getElem_map, List.getElem_range, List.getElem_range] at e
        rw [List.length_map, List.length_range] at hi hj
        have e2 := congrArg Tx.l e
        have e3 := (List.append_cancel_left e2)
        have e4 : alphaAt r26 x4 i = alphaAt r26 x4 j := (List.cons.inj e3).1
        have := alpha_inj h4 (by omega) (by omega) e4
        omega
      · obtain ⟨t, ht, rfl⟩ := List.mem_map.mp hx
        refine isPr_of (by show 1 ≤ (base ++ [_]).length; rw [List.length_append, List.length_singleton]; omega) (by show (base ++ [_]).length ≤ 6; rw [List.length_append, List.length_singleton]; omega) fun c hc => ?_
        rcases List.mem_append.mp hc with hc | hc
        · exact hb2 c hc
        · rw [List.mem_singleton.mp hc]
          unfold alphaAt
          have a1 := Int.emod_nonneg (r26 + x4 * (t : Int)) (show (26 : Int) ≠ 0 by decide)
          have a2 := Int.emod_lt_of_pos (r26 + x4 * (t : Int)) (show (0 : Int) < 26 by decide)
          omega
    · obtain ⟨ex, hi⟩ := rng_at hx
      rw [Int.zero_add] at ex
      subst ex
      have a1 := Int.emod_nonneg (r26 + x4 * (i : Int)) (show (26 : Int) ≠ 0 by decide)
      have a2 := Int.emod_lt_of_pos (r26 + x4 * (i : Int)) (show (0 : Int) < 26 by decide)
      rw [Nat.zero_add] at hs
      have hsl : s.length = i := by rw [hs, List.length_map, List.length_range]
      rw [Nat.zero_add]
      refine wp_need ⟨?_, ⟨by show -(26 : Int) ≤ _; omega, by show _ < (26 : Int); omega⟩, by show base.length + 1 ≤ _; omega, by omega⟩ ?_
      · left
        simp only [List.mem_cons, List.not_mem_nil, or_false] at h4
        omega
      refine hn _ ?_
      rw [Nat.zero_add, List.range_succ, List.map_append, ← hs]
      congr 1
      show [tx (base ++ [gt _ _])] = [tx (base ++ [_])]
      rw [gt_alpha a1 a2]
      rfl
structure ChOk (c : Ch) : Prop where
  a : isLtr c.a.c = true
  b : isPr c.b.l = true
  c : isPr c.c.l = true
structure PairOk (p : List Tx) : Prop where
  len : p.length = 2
  ne : gt p 0 ≠ gt p 1
  ok : ∀ x ∈ p, isPr x.l = true
theorem gt_memN {p : List Tx} {i : Int} {j : Nat} (e : i = j) (h : j < p.length) : gt p i ∈ p := by
  unfold gt
  rw [atI_nat' e, List.getElem?_eq_getElem h]
  exact List.getElem_mem h
structure ChsOk (cs : List Ch) : Prop where
  ne : cs ≠ []
  few : cs.length ≤ 4
  each : ∀ c ∈ cs, ChOk c ∧ c.b ≠ c.c
  nd : (cs.map (·.a)).Nodup
theorem pair_p (i : Nat) (h : i < 4) : PairOk (List.map (fun q : Sg => tx [q.c]) (cutL (sgL ((tx [112, 113, 114, 115, 116]) : Tx).l) (some (i : Int)) (some ((i : Int) + (2 : Int))))) := by
  match i, h with
  | 0, _ => exact ⟨by decide +kernel, by decide +kernel, by decide +kernel⟩
  | 1, _ => exact ⟨by decide +kernel, by decide +kernel, by decide +kernel⟩
  | 2, _ => exact ⟨by decide +kernel, by decide +kernel, by decide +kernel⟩
  | 3, _ => exact ⟨by decide +kernel, by decide +kernel, by decide +kernel⟩
theorem pair_n (i : Nat) (h : i < 4) : (sgL ((tx (cutL ((tx [97, 98, 99, 100, 101, 102, 103, 104]) : Tx).l (some ((2 : Int) * (i : Int))) (some (((2 : Int) * (i : Int)) + (2 : Int))))) : Tx).l).length ≤ 16777216 ∧ PairOk (List.map (fun x81 : Sg => (tx (((tx [110]) : Tx).l ++ ((tx [Sg.c x81]) : Tx).l))) (sgL ((tx (cutL ((tx [97, 98, 99, 100, 101, 102, 103, 104]) : Tx).l (some ((2 : Int) * (i : Int))) (some (((2 : Int) * (i : Int)) + (2 : Int))))) : Tx).l)) := by
  match i, h with
  | 0, _ => exact ⟨by decide +kernel, by decide +kernel, by decide +kernel, by decide +kernel⟩
  | 1, _ => exact ⟨by decide +kernel, by decide +kernel, by decide +kernel, by decide +kernel⟩
  | 2, _ => exact ⟨by decide +kernel, by decide +kernel, by decide +kernel, by decide +kernel⟩
  | 3, _ => exact ⟨by decide +kernel, by decide +kernel, by decide +kernel, by decide +kernel⟩
theorem pair_cut {xs ys : List Tx} (h : PrOk xs) (p : ys.Perm xs) : PairOk (cutL ys none (some (2 : Int))) := by
  have hl := p.length_eq
  have h2 := h.two
  have nd := p.nodup_iff.mpr h.nd
  have hm : ∀ y ∈ ys, isPr y.l = true := fun y hy => h.ok y (p.mem_iff.mp hy)
  match ys, hl, nd, hm with
  | [], hl, _, _ => rw [List.length_nil] at hl; omega
  | [_], hl, _, _ => rw [List.length_singleton] at hl; omega
  | a :: b :: ys, hl, nd, hm =>
    have e : cutL (a :: b :: ys) none (some (2 : Int)) = [a, b] := by
      unfold cutL
      have e1 : HT.sIx (a :: b :: ys).length (a :: b :: ys).length (some 2) = 2 := by
        rw [show (2 : Int) = ((2 : Nat) : Int) from rfl, HT.sIx_nat, List.length_cons, List.length_cons]
        omega
      rw [e1, HT.sIx_none]
      rfl
    rw [e]
    refine ⟨rfl, ?_, fun x hx => hm x ?_⟩
    · show a ≠ b
      exact fun z => (List.nodup_cons.mp nd).1 (by rw [z]; exact List.mem_cons_self ..)
    · simp only [List.mem_cons, List.not_mem_nil, or_false] at hx
      rcases hx with rfl | rfl
      · exact List.mem_cons_self ..
      · exact List.mem_cons_of_mem _ (List.mem_cons_self ..)
theorem sgL_len (l : List Nat) : (sgL l).length = l.length := List.length_map ..
theorem law_channels : Wp F_l_channels 100 ChsOk := by
  unfold F_l_channels
  simp only [bindP]
  refine wp_bind' law_processes (by decide) fun x1 h1 => ?_
  refine wp_bind' (wp_next (by decide) (by decide)) (by decide) fun r5 h5 => ?_
  refine wp_bind' (wp_some (by decide) (by decide)) (by decide) fun z8 h8 => ?_
  obtain ⟨nd, hl, ne, l4⟩ := h8
  have few := h1.few
  refine wp_le (wp_loop (c := 4) (cr := 0) (fun i (s : List Ch) => s.length = i ∧ s.map (·.a) = (sgL z8.l).take i ∧ ∀ c ∈ s, ChOk c ∧ c.b ≠ c.c) _ 0 _ (fun s hs => wp_pure ?_) (fun i x s next brk cn hx hs hcn hn hbk => ?_) ⟨rfl, rfl, fun _ z => nomatch z⟩) (by rw [sgL_len]; omega)
  · obtain ⟨e1, e2, e3⟩ := hs
    rw [Nat.zero_add] at e1 e2
    rw [sgL_len] at e1
    rw [List.take_of_length_le (by rw [sgL_len]; exact Nat.le_refl _)] at e2
    refine ⟨fun z => ?_, by omega, e3, ?_⟩
    · rw [z, List.length_nil] at e1
      exact ne (List.length_eq_zero_iff.mp e1.symm)
    · rw [e2]
      refine (List.pairwise_map.mpr (nd.imp fun {a b} h z => h (congrArg Sg.c z)))
  · rw [Nat.zero_add] at hs hn
    obtain ⟨e1, e2, e3⟩ := hs
    have hi : i < z8.l.length := by
      have := (List.getElem?_eq_some_iff.mp hx).1
      rwa [sgL_len] at this
    have hxl : isLtr x.c = true := decide_eq_true (hl _ (mem_sgL (List.mem_of_getElem? hx)))
    refine wp_le (wp_bind (wp_shuffled (by omega)) fun x41 hp => ?_) (show x1.length + cn ≤ 4 + cn by omega)
    refine wp_join PairOk (fun nx hnx => ?_) fun s49 h49 => wp_join PairOk (fun nx hnx => ?_) fun s63 h63 => ?_
    · refine wp_if (fun _ => hnx _ ?_) fun _ => hnx _ (pair_cut h1 hp)
      rw [e1]
      exact pair_p i (by omega)
    · refine wp_if (fun _ => ?_) fun _ => hnx _ h49
      rw [e1]
      obtain ⟨a1, a2⟩ := pair_n i (by omega)
      exact wp_need ⟨a1, fun y hy => by show 1 + 1 ≤ 100000; decide⟩ (hnx _ a2)
    · have h63l := h63.len
      refine wp_need ⟨⟨by rw [h63l]; decide, by rw [h63l]; decide⟩, ⟨by rw [h63l]; decide, by rw [h63l]; decide⟩, by omega⟩ (hn _ ⟨by rw [List.length_append, e1]; rfl, ?_, fun c hc => ?_⟩)
      · rw [List.map_append, e2, List.take_add_one, hx]
        rfl
      · rcases List.mem_append.mp hc with hc | hc
        · exact e3 c hc
        · rw [List.mem_singleton.mp hc]
          exact ⟨⟨hxl, h63.ok _ (gt_memN (j := 0) rfl (by omega)), h63.ok _ (gt_memN (j := 1) rfl (by omega))⟩, h63.ne⟩
end Nw

namespace Nw
open PySem PySem.Spec PyProof.Rows L2
/-! ### the law's word of what is raised -/
def tAny (te : TE) : TS := fun D σ H => ∃ Kx : VK, (∀ v H', Kx v H' → D.nx σ H') ∧ te σ H Kx
theorem ps_any {X : Cx} {e : Expr} {te : TE} {pos : Pos} (he : PE X e te) (hs : swapsWith e none pos.line X.env = pure false := by rfl) : PS X (.Expr e pos) (tAny te) := by
  refine ⟨fun pins s σ H D I h => ?_⟩
  obtain ⟨Kx, h1, h2⟩ := h
  exact (ps_expr (te := fun σ H Q => (∀ v H', Kx v H' → Q v H') ∧ te σ H Kx) ⟨fun pins s σ H Q I h => wpAny_mono (he.run pins s σ H Kx I h.2) (fun v s1 ⟨x, H1, I1, r1, q1⟩ => ⟨x, H1, I1, r1, h.1 _ _ q1⟩) fun _ _ z => z⟩ hs).run pins s σ H D I ⟨fun v H' z => h1 v H' z, h2⟩
def EWo (K : PySem.W.Frag) (Q : VK) : XK := fun cls d H => PySem.W.exmOne K cls (.ref (He.ga K "OrderError")) = some true ∧ ∃ (I : Hp), Same I H ∧
  ((cls = .ref (He.ga K "NoProcess") ∧ d = none ∧ ∀ t H2, H t = none → Grow No I H I H2 → H2 t = some (.tup [.str "process", .non]) → Q (.ref t) H2) ∨
   (cls = .ref (He.ga K "NoNet") ∧ d = none ∧ ∀ t H2, H t = none → Grow No I H I H2 → H2 t = some (.tup [.str "net", .non]) → Q (.ref t) H2))
def TTw (K : PySem.W.Frag) : (XK → Hp → VK → Prop) → Hp → VK → Prop := fun tl H Q => tl (EWo K Q) H fun _ H2 => ∀ t, H2 t = none → Q (.ref t) (upd H2 t (.tup [.str "", .non]))
theorem gives_l_word {K : PySem.W.Frag} {mg : Str → Option Value} (T : Txt K mg) {X : Cx} {g : Addr} {cdg : Value} {q : Str} (hK : X.K = K) (hm : X.mg = mg) : LamX.GivesTo X n_l_word "_law_word" (defScope s_l_word) g cdg (defBody s_l_word) "_law_work" q (TTw K) := by
  subst hK
  subst hm
  intro f c' s H Q tl act hc h
  refine ⟨_, pss_cons (ps_set (i := 1) sc_l_word.nd rfl (Or.inl rfl) pe_non) (pss_cons
      (ps_try_keep (X := (cxOf C8.CX0 X.prog X.w X.K X.mg X.base n_l_word "_law_word" (defScope s_l_word) g cdg X.A X.stack s H C8.E0).nox) (i := 2) (c := .ref (He.ga X.K "OrderError"))
        (tb := fun W D σ H => ∃ Ech : XK, (∀ cls d H', Ech cls d H' → EW 5 W cls d H') ∧ ∃ Kx : VK, (∀ v H', Kx v H' → D.nx σ H') ∧ σ[0]? = some (some (.ref f)) ∧ H c' = some (LamX.CodeO c' q) ∧ tl Ech H Kx)
        (ts := fun a cls d D σ H => tVar 2 σ H fun v H1 => D.nx (σ.set 1 (some v)) H1)
        rfl rfl rfl sc_l_word.nd rfl rfl ⟨rfl, by decide, .inl T.g_OrderError⟩ (fun W pn xe tk => ?_) (fun a oe cls d pn z vs => pss_one (ps_set (i := 1) sc_l_word.nd rfl (Or.inl rfl) (pv 2))))
      (pss_cons (ps_if (pt_cmpR op_isN (pv 1) pe_non (nomark _)) (pss_one (ps_ret (pe_tup (pa_cons pe_str (pa_cons pe_non pa_nil))))) pss_nil)
      (pss_cons (ps_set (i := 3) sc_l_word.nd rfl (Or.inl rfl) (pe_lst (pa_cons (pe_callB call_isV (by rfl) T.b_isinstance (by decide +kernel) (pa_cons (pv 1) (pa_cons (pe_gref T.g_NoProcess) pa_nil))) (pa_cons (pe_callB call_isV (by rfl) T.b_isinstance (by decide +kernel) (pa_cons (pv 1) (pa_cons (pe_gref T.g_NoNet) pa_nil))) (pa_cons (pe_callB call_isV (by rfl) T.b_isinstance (by decide +kernel) (pa_cons (pv 1) (pa_cons (pe_gref T.g_NoChannel) pa_nil))) pa_nil)))))
      (pss_cons (ps_set (i := 3) sc_l_word.nd rfl (Or.inl rfl) (pe_op op_cat (pv 3) (pe_lst (pa_cons (pe_callB call_isV (by rfl) T.b_isinstance (by decide +kernel) (pa_cons (pv 1) (pa_cons (pe_gref T.g_NoRow) pa_nil))) pa_nil))))
      (pss_cons (ps_if (PW.pt (pw_or (pt_cmpR op_ne (pe_bm PySem.F.plainAttrs_list PySem.F.slot_list_count PySem.F.type_list_count mt_countV (pv 3) (pa_cons pe_bl pa_nil)) pe_int (nomark _)) (pw_or1 (pt_not (pt_val (pe_callB call_isV (by rfl) T.b_isinstance (by decide +kernel) (pa_cons (pv 1) (pa_cons (pe_bltn (v := .ty "ValueError") rfl T.b_ValueError (by decide +kernel) rfl) pa_nil)))))))) (pss_one (ps_ret (pe_tup (pa_cons pe_str (pa_cons pe_non pa_nil))))) pss_nil)
      (pss_cons (ps_set (i := 4) sc_l_word.nd rfl (Or.inl rfl) (pe_ix ix_list (pe_lst (pa_cons pe_str (pa_cons pe_str (pa_cons pe_str (pa_cons pe_str pa_nil))))) (pe_bm PySem.F.plainAttrs_list PySem.F.slot_list_index PySem.F.type_list_index mt_index (pv 3) (pa_cons pe_bl pa_nil)) (fun _ _ => rfl)))
      (pss_one (ps_ret (pe_tup (pa_cons (pv 4) (pa_cons pe_non pa_nil))))))))))), ?_⟩
  · refine ⟨fun pins s' σ H' D I h' => ?_⟩
    obtain ⟨Ech, hW, Kx, hk, h1, h2, h3⟩ := h'
    exact (pss_one (ps_any (act _ pn xe Ech _ _ (Nw.Takes.len tk) fun cls d σ' H' z hl => hW cls d H' z σ' hl))).run pins s' σ H' D I ⟨Kx, hk, h1, h2, h3⟩
  · refine ⟨EWo X.K Q, fun cls d H' ⟨z1, I, sb, z2⟩ σ hl => ⟨z1, fun a ha0 => ?_⟩, fun _ H2 => ∀ t, H2 t = none → Q (.ref t) (upd H2 t (.tup [.str "", .non])), fun _ H' z => ⟨_, rfl, rfl, true, rfl, iteT ⟨(by show 2 ≤ sizeLine; decide), fun t ht => z t ht⟩⟩, rfl, hc, h⟩
    match σ, hl with
    | [x0, x1, x2, x3, x4], _ =>
      refine ⟨_, rfl, ?_⟩
      rcases z2 with ⟨rfl, rfl, kq⟩ | ⟨rfl, rfl, kq⟩
      · have gA : Grow No I H' I (upd H' a (ExV (.ref (He.ga X.K "NoProcess")) (none) a)) := Grow.mine sb ha0
        have ha : upd H' a (ExV (.ref (He.ga X.K "NoProcess")) (none) a) a = some (ExV (.ref (He.ga X.K "NoProcess")) (none) a) := upd_same
        unfold keepD
        dsimp only
        generalize upd H' a (ExV (.ref (He.ga X.K "NoProcess")) (none) a) = H1 at gA ha ⊢
        refine ⟨_, rfl, rfl, _, rfl, iteF ?_⟩
        refine ⟨_, rfl, a, He.ga X.K "NoProcess", none, .ref (He.ga X.K "NoProcess"), _, true, rfl, ha, (fun _ z => nomatch z), T.xf_NoProcess, .own _, T.ki_NoProcess_NoProcess, _, rfl, a, He.ga X.K "NoProcess", none, .ref (He.ga X.K "NoNet"), _, false, rfl, ha, (fun _ z => nomatch z), T.xf_NoProcess, .own _, T.ki_NoProcess_NoNet, _, rfl, a, He.ga X.K "NoProcess", none, .ref (He.ga X.K "NoChannel"), _, false, rfl, ha, (fun _ z => nomatch z), T.xf_NoProcess, .own _, T.ki_NoProcess_NoChannel, (by show 3 ≤ sizeLine; decide), fun L1 hL1 => ?_⟩
        have g1 : Grow No I H1 I (upd H1 L1 (.lst [V.bl true, V.bl false, V.bl false])) := Grow.mine gA.sub hL1
        have ha := g1.same _ _ ha
        have a1 : upd H1 L1 (.lst [V.bl true, V.bl false, V.bl false]) L1 = some (.lst [V.bl true, V.bl false, V.bl false]) := upd_same
        generalize upd H1 L1 (.lst [V.bl true, V.bl false, V.bl false]) = H2 at g1 ha a1 ⊢
        refine ⟨_, rfl, _, rfl, a, He.ga X.K "NoProcess", none, .ref (He.ga X.K "NoRow"), _, false, rfl, ha, (fun _ z => nomatch z), T.xf_NoProcess, .own _, T.ki_NoProcess_NoRow, (by show 1 ≤ sizeLine; decide), fun L2 hL2 => ?_⟩
        have g2 : Grow No I H2 I (upd H2 L2 (.lst [V.bl false])) := Grow.mine g1.sub hL2
        have ha := g2.same _ _ ha
        have a1 := g2.same _ _ a1
        have a2 : upd H2 L2 (.lst [V.bl false]) L2 = some (.lst [V.bl false]) := upd_same
        generalize upd H2 L2 (.lst [V.bl false]) = H3 at g2 ha a1 a2 ⊢
        refine ⟨L1, L2, _, _, rfl, rfl, a1, a2, (by show 4 ≤ sizeLine; decide), fun L3 hL3 => ?_⟩
        have g3 : Grow No I H3 I (upd H3 L3 (.lst [V.bl true, V.bl false, V.bl false, V.bl false])) := Grow.mine g2.sub hL3
        have ha := g3.same _ _ ha
        have a3 : upd H3 L3 (.lst [V.bl true, V.bl false, V.bl false, V.bl false]) L3 = some (.lst [V.bl true, V.bl false, V.bl false, V.bl false]) := upd_same
        have e3 : upd H3 L3 (.lst ([V.bl true, V.bl false, V.bl false] ++ [V.bl false])) = upd H3 L3 (.lst [V.bl true, V.bl false, V.bl false, V.bl false]) := rfl
        rw [e3]
        generalize upd H3 L3 (.lst [V.bl true, V.bl false, V.bl false, V.bl false]) = H4 at g3 ha a3 ⊢
        refine ⟨_, rfl, .inl ⟨rfl, _, SqL.of a3⟩, L3, _, _, rfl, rfl, SqL.of a3, rfl, rfl, rfl, _, rfl, ?_⟩
        refine iteF ⟨_, rfl, a, He.ga X.K "NoProcess", none, .ty "ValueError", _, true, rfl, ha, (fun _ z => nomatch z), T.xf_NoProcess, .ty _, T.ki_NoProcess_ValueError, true, rfl, iteF ?_⟩
        refine ⟨(by show 4 ≤ sizeLine; decide), fun L4 hL4 => ?_⟩
        have g4 : Grow No I H4 I (upd H4 L4 (.lst [V.str "process", V.str "net", V.str "channel", V.str "row"])) := Grow.mine g3.sub hL4
        have ha := g4.same _ _ ha
        have a3 := g4.same _ _ a3
        have a4 : upd H4 L4 (.lst [V.str "process", V.str "net", V.str "channel", V.str "row"]) L4 = some (.lst [V.str "process", V.str "net", V.str "channel", V.str "row"]) := upd_same
        generalize upd H4 L4 (.lst [V.str "process", V.str "net", V.str "channel", V.str "row"]) = H5 at g4 ha a3 a4 ⊢
        refine ⟨_, rfl, .inl ⟨rfl, _, SqL.of a3⟩, L3, _, .bl true, 0, .bl true, rfl, rfl, SqL.of a3, rfl, rfl, rfl, rfl, (fun m z h1 h2 => by match m, h1, h2 with  | m + 0, h1, _ => omega), L4, _, _, _, rfl, rfl, SqL.of a4, (by rw [atI_nat' (j := 0) rfl]; rfl), ?_⟩
        have gT := (gA.trans (g1.trans (g2.trans (g3.trans g4))))
        refine ⟨_, rfl, (by show 2 ≤ sizeLine; decide), fun t ht => ?_⟩
        exact kq t _ (live_none gT ht) (gT.trans (Grow.mine gT.sub ht)) upd_same
      · have gA : Grow No I H' I (upd H' a (ExV (.ref (He.ga X.K "NoNet")) (none) a)) := Grow.mine sb ha0
        have ha : upd H' a (ExV (.ref (He.ga X.K "NoNet")) (none) a) a = some (ExV (.ref (He.ga X.K "NoNet")) (none) a) := upd_same
        unfold keepD
        dsimp only
        generalize upd H' a (ExV (.ref (He.ga X.K "NoNet")) (none) a) = H1 at gA ha ⊢
        refine ⟨_, rfl, rfl, _, rfl, iteF ?_⟩
        refine ⟨_, rfl, a, He.ga X.K "NoNet", none, .ref (He.ga X.K "NoProcess"), _, false, rfl, ha, (fun _ z => nomatch z), T.xf_NoNet, .own _, T.ki_NoNet_NoProcess, _, rfl, a, He.ga X.K "NoNet", none, .ref (He.ga X.K "NoNet"), _, true, rfl, ha, (fun _ z => nomatch z), T.xf_NoNet, .own _, T.ki_NoNet_NoNet, _, rfl, a, He.ga X.K "NoNet", none, .ref (He.ga X.K "NoChannel"), _, false, rfl, ha, (fun _ z => nomatch z), T.xf_NoNet, .own _, T.ki_NoNet_NoChannel, (by show 3 ≤ sizeLine; decide), fun L1 hL1 => ?_⟩
        have g1 : Grow No I H1 I (upd H1 L1 (.lst [V.bl false, V.bl true, V.bl false])) := Grow.mine gA.sub hL1
        have ha := g1.same _ _ ha
        have a1 : upd H1 L1 (.lst [V.bl false, V.bl true, V.bl false]) L1 = some (.lst [V.bl false, V.bl true, V.bl false]) := upd_same
        generalize upd H1 L1 (.lst [V.bl false, V.bl true, V.bl false]) = H2 at g1 ha a1 ⊢
        refine ⟨_, rfl, _, rfl, a, He.ga X.K "NoNet", none, .ref (He.ga X.K "NoRow"), _, false, rfl, ha, (fun _ z => nomatch z), T.xf_NoNet, .own _, T.ki_NoNet_NoRow, (by show 1 ≤ sizeLine; decide), fun L2 hL2 => ?_⟩
        have g2 : Grow No I H2 I (upd H2 L2 (.lst [V.bl false])) := Grow.mine g1.sub hL2
        have ha := g2.same _ _ ha
        have a1 := g2.same _ _ a1
        have a2 : upd H2 L2 (.lst [V.bl false]) L2 = some (.lst [V.bl false]) := upd_same
        generalize upd H2 L2 (.lst [V.bl false]) = H3 at g2 ha a1 a2 ⊢
        refine ⟨L1, L2, _, _, rfl, rfl, a1, a2, (by show 4 ≤ sizeLine; decide), fun L3 hL3 => ?_⟩
        have g3 : Grow No I H3 I (upd H3 L3 (.lst [V.bl false, V.bl true, V.bl false, V.bl false])) := Grow.mine g2.sub hL3
        have ha := g3.same _ _ ha
        have a3 : upd H3 L3 (.lst [V.bl false, V.bl true, V.bl false, V.bl false]) L3 = some (.lst [V.bl false, V.bl true, V.bl false, V.bl false]) := upd_same
        have e3 : upd H3 L3 (.lst ([V.bl false, V.bl true, V.bl false] ++ [V.bl false])) = upd H3 L3 (.lst [V.bl false, V.bl true, V.bl false, V.bl false]) := rfl
        rw [e3]
        generalize upd H3 L3 (.lst [V.bl false, V.bl true, V.bl false, V.bl false]) = H4 at g3 ha a3 ⊢
        refine ⟨_, rfl, .inl ⟨rfl, _, SqL.of a3⟩, L3, _, _, rfl, rfl, SqL.of a3, rfl, rfl, rfl, _, rfl, ?_⟩
        refine iteF ⟨_, rfl, a, He.ga X.K "NoNet", none, .ty "ValueError", _, true, rfl, ha, (fun _ z => nomatch z), T.xf_NoNet, .ty _, T.ki_NoNet_ValueError, true, rfl, iteF ?_⟩
        refine ⟨(by show 4 ≤ sizeLine; decide), fun L4 hL4 => ?_⟩
        have g4 : Grow No I H4 I (upd H4 L4 (.lst [V.str "process", V.str "net", V.str "channel", V.str "row"])) := Grow.mine g3.sub hL4
        have ha := g4.same _ _ ha
        have a3 := g4.same _ _ a3
        have a4 : upd H4 L4 (.lst [V.str "process", V.str "net", V.str "channel", V.str "row"]) L4 = some (.lst [V.str "process", V.str "net", V.str "channel", V.str "row"]) := upd_same
        generalize upd H4 L4 (.lst [V.str "process", V.str "net", V.str "channel", V.str "row"]) = H5 at g4 ha a3 a4 ⊢
        refine ⟨_, rfl, .inl ⟨rfl, _, SqL.of a3⟩, L3, _, .bl true, 1, .bl true, rfl, rfl, SqL.of a3, rfl, rfl, rfl, rfl, (fun m z h1 h2 => by match m, h1, h2 with | 0, _, h2 => cases h2; rfl | m + 1, h1, _ => omega), L4, _, _, _, rfl, rfl, SqL.of a4, (by rw [atI_nat' (j := 1) rfl]; rfl), ?_⟩
        have gT := (gA.trans (g1.trans (g2.trans (g3.trans g4))))
        refine ⟨_, rfl, (by show 2 ≤ sizeLine; decide), fun t ht => ?_⟩
        exact kq t _ (live_none gT ht) (gT.trans (Grow.mine gT.sub ht)) upd_same
/-! ### the same, for the calculus -/
def wd {K : PySem.W.Frag} (e : Er) : Option (Tx × Dk K) := match e with
  | ⟨c, []⟩ => if c = "NoProcess" then some (tx [112, 114, 111, 99, 101, 115, 115], dk .non) else if c = "NoNet" then some (tx [110, 101, 116], dk .non) else none
  | _ => none
theorem word_ok {K : PySem.W.Frag} {mg : Str → Option Value} (T : Txt K mg) : WordOk K (TTw K) wd := by
  refine ⟨fun tl H Q h => h _ fun e p I1 H1 hp sb k I2 H2 d g hd => ?_⟩
  have fin : ∀ {t : Addr} {H3 : Hp} {s : Str} {l : List Nat} {u : V} {x : Dk K}, p = (⟨l⟩, x) → s = mk l → l.length ≤ 100000 → Rep.is I2 u x → H2 t = none → Grow No I2 H2 I2 H3 → H3 t = some (.tup [.str s, u]) → Q (.ref t) H3 := fun {t H3 s l u x} ep es hl hx n0 g2 ht => by
    subst ep es
    have gg := (g.trans g2).give' (l := t) (live_none g n0) (g.sub.free n0) ht
    exact k _ _ _ gg ⟨t, _, _, rfl, upd_same, ⟨rfl, hl⟩, Rep.mono (Same.up (g.sub.free n0)) hx⟩
  obtain ⟨cls, fs⟩ := e
  match fs, hd, hp with
  | [], hd, hp =>
    have hd : d = none := hd
    subst hd
    have hp : (if cls = "NoProcess" then some (tx [112, 114, 111, 99, 101, 115, 115], dk .non) else if cls = "NoNet" then some (tx [110, 101, 116], dk .non) else none) = some p := hp
    by_cases c0 : cls = "NoProcess"
    · rw [if_pos c0] at hp
      have ep := (Option.some.inj hp).symm
      subst c0
      exact ⟨T.em_NoProcess_OrderError, I2, g.sub, .inl (⟨rfl, rfl, fun t H3 n0 g2 ht => fin ep rfl (by decide) .non n0 g2 ht⟩)⟩
    by_cases c1 : cls = "NoNet"
    · rw [if_neg c0, if_pos c1] at hp
      have ep := (Option.some.inj hp).symm
      subst c1
      exact ⟨T.em_NoNet_OrderError, I2, g.sub, .inr (⟨rfl, rfl, fun t H3 n0 g2 ht => fin ep rfl (by decide) .non n0 g2 ht⟩)⟩
    · rw [if_neg c0, if_neg c1] at hp
      cases hp
  | [_], hd, hp => cases hp
  | _ :: _ :: _, hd, hp => cases hp
end Nw

namespace Nw
open PySem PySem.Spec PyProof.Rows L2
abbrev tbW (K : PySem.W.Frag) : List (Addr × Str) := [(He.tabOf K (He.codeOf K ("law", none)), "law.<locals>.<lambda>")]
section
variable {P : Program} {w : World} {K : PySem.W.Frag} {mg : Str → Option Value} {base : Heap}
def F_law (script1 : (Scr K)) : DW Bool := needD ((-(2 ^ 62) ≤ ((3 : Int) + (min (Scr.n script1 : Int) (6 : Int))) ∧ ((3 : Int) + (min (Scr.n script1 : Int) (6 : Int))) < 2 ^ 62)) <| loopP (rng 0 ((3 : Int) + (min (Scr.n script1 : Int) (6 : Int)))) (fun (x42 : Int) (s24 : Unit) next47 brk48 => bindD (Nw.F_l_channels ) fun x51 => bindP x51 fun channels_here54 => bindD (okX ((Nw.F_Net (K := K)) (dk (K := K) (.sq false (List.map Dk.d (List.map (fun x : (T3 Sg Tx Tx) => dk (K := K) (.sq true [((fun x : Sg => dk (K := K) (.str [x.c])) x.a).d, ((fun x : Tx => dk (K := K) (.str x.l)) x.b).d, ((fun x : Tx => dk (K := K) (.str x.l)) x.c).d])) channels_here54)))))) fun x56 => needD ((Nw.F_l_all_names channels_here54).isSome = true) <| bindP (x56, ((Nw.F_l_all_names channels_here54).getD default)) fun x62 => loopP (rng 0 (2 : Int)) (fun (x270 : Int) (s250 : (Option Tx) × (Option Tx) × (Option Int)) next275 brk276 => bindD (F_pick x62.2) fun x279 => bindD (F_pick x62.2) fun x282 => bindP (x279, x282) fun x287 => bindD (F_next (6 : Int)) fun r294 => bindP ((1 : Int) + r294) fun most299 => needD (((Nw.F_l_relays (K := K)) channels_here54 x287.1 x287.2 most299).isSome = true) <| bindP (((Nw.F_l_relays (K := K)) channels_here54 x287.1 x287.2 most299).getD default) fun due302 => bindD (okX ((Nw.F_Net_relays (K := K)) x62.1 (dk (K := K) (.str (x287.1 : Tx).l)) (dk (K := K) (.str (x287.2 : Tx).l)) (dk (K := K) (.int most299)))) fun found304 => needD ((((!true) = false → fitR K found304 = true)) ∧ (((!true) = false → fitR K due302 = true))) <| if ((!true) || (!decide ((reprT K found304) = (reprT K due302)))) = true then ((pureD false)) else (needD (found304.length < 16777216) <| bindP (found304 ++ [(tx [120])]) fun found311 => bindD (okX ((Nw.F_Net_relays (K := K)) x62.1 (dk (K := K) (.str (x287.1 : Tx).l)) (dk (K := K) (.str (x287.2 : Tx).l)) (dk (K := K) (.int most299)))) fun x312 => needD (fitR K x312 = true) <| needD (fitR K due302 = true) <| if (!decide ((reprT K x312) = (reprT K due302))) = true then ((pureD false)) else (next275 ((some x287.1), (some x287.2), (some most299))))) (fun (s68 : (Option Tx) × (Option Tx) × (Option Int)) => bindD ((Nw.F_l_no_process (K := K)) ) fun x89 => bindD (F_pick ([(dk (K := K) (.int (0 : Int))), (dk (K := K) (.int (7 : Int))), (dk (K := K) (.int (-1 : Int))), (dk (K := K) .non), (dk (K := K) (.bl true)), (dk (K := K) (.bl false)), (dk (K := K) (.str [Sg.c (sgn 51)])), (dk (K := K) (.sq false (List.map Dk.d ([] : List (Dk K))))), (dk (K := K) (.int ((10 : Int) ^ ((30 : Int)).toNat))), (dk (K := K) (.sq true (List.map Dk.d (⟨[(dk (K := K) (.int (2 : Int)))]⟩ : Tup (Dk K)).l)))] : List (Dk K))) fun x92 => bindP (x89, x92) fun x97 => bindD (F_word (wd (K := K)) ((Nw.F_Net_relays (K := K)) x62.1 x97.1 x97.1 x97.2)) fun x102 => bindP ([x102] : List (Tx × (Dk K))) fun words105 => needD ((s68.1).isSome = true) <| bindD (F_word (wd (K := K)) ((Nw.F_Net_relays (K := K)) x62.1 (dk (K := K) (.str (((s68.1).getD default) : Tx).l)) x97.1 x97.2)) fun x108 => needD (words105.length < 16777216) <| bindP (words105 ++ [x108]) fun words112 => needD (((s68.2.1).isSome = true) ∧ ((s68.2.2).isSome = true)) <| bindD (F_word (wd (K := K)) ((Nw.F_Net_relays (K := K)) x62.1 x97.1 (dk (K := K) (.str (((s68.2.1).getD default) : Tx).l)) (dk (K := K) (.int ((s68.2.2).getD default))))) fun x115 => needD (words112.length < 16777216) <| bindP (words112 ++ [x115]) fun words119 => needD (((-(2 ^ 63) ≤ (3 : Int) ∧ (3 : Int) < 2 ^ 63 ∧ ([((tx [112, 114, 111, 99, 101, 115, 115]), (dk (K := K) .non))] : List (Tx × (Dk K))).length * ((3 : Int)).toNat ≤ 16777216)) ∧ (fitE K words119 = true) ∧ (fitE K (List.replicate ((3 : Int)).toNat ([((tx [112, 114, 111, 99, 101, 115, 115]), (dk (K := K) .non))] : List (Tx × (Dk K)))).flatten = true)) <| if (!(eqP K words119 (List.replicate ((3 : Int)).toNat ([((tx [112, 114, 111, 99, 101, 115, 115]), (dk (K := K) .non))] : List (Tx × (Dk K)))).flatten)) = true then ((pureD false)) else (needD (((s68.1).isSome = true) ∧ ((s68.2.1).isSome = true)) <| bindD (F_word (wd (K := K)) ((Nw.F_Net_relays (K := K)) x62.1 (dk (K := K) (.str (((s68.1).getD default) : Tx).l)) (dk (K := K) (.str (((s68.2.1).getD default) : Tx).l)) x97.2)) fun x126 => needD ((fitE K x126 = true) ∧ (fitE K ((tx [110, 101, 116]), (dk (K := K) .non)) = true)) <| if (!(eqP K x126 ((tx [110, 101, 116]), (dk (K := K) .non)))) = true then ((pureD false)) else (needD (((s68.1).isSome = true) ∧ ((s68.2.1).isSome = true)) <| bindD (F_word (wd (K := K)) ((Nw.F_Net_best (K := K)) x62.1 (dk (K := K) (.str (((s68.1).getD default) : Tx).l)) (dk (K := K) (.str (((s68.2.1).getD default) : Tx).l)) x97.2)) fun x136 => needD ((fitE K x136 = true) ∧ (fitE K ((tx [110, 101, 116]), (dk (K := K) .non)) = true)) <| if (!(eqP K x136 ((tx [110, 101, 116]), (dk (K := K) .non)))) = true then ((pureD false)) else (needD ((s68.2.1).isSome = true) <| bindD (F_word (wd (K := K)) ((Nw.F_Net_best (K := K)) x62.1 x97.1 (dk (K := K) (.str (((s68.2.1).getD default) : Tx).l)) x97.2)) fun x145 => needD ((fitE K x145 = true) ∧ (fitE K ((tx [112, 114, 111, 99, 101, 115, 115]), (dk (K := K) .non)) = true)) <| if (!(eqP K x145 ((tx [112, 114, 111, 99, 101, 115, 115]), (dk (K := K) .non)))) = true then ((pureD false)) else (bindD (Nw.F_l_strange channels_here54) fun x153 => needD (((s68.2.1).isSome = true) ∧ ((s68.1).isSome = true)) <| loopP ([(x153, ((s68.2.1).getD default)), (((s68.1).getD default), x153), (x153, x153)] : List (Tx × Tx)) (fun (x230 : (Tx × Tx)) (s198 : (List (Tx × (Dk K)))) next235 brk236 => bindD (F_word (wd (K := K)) ((Nw.F_Net_relays (K := K)) x62.1 (dk (K := K) (.str (x230.1 : Tx).l)) (dk (K := K) (.str (x230.2 : Tx).l)) x97.2)) fun x239 => needD (s198.length < 16777216) <| bindP (s198 ++ [x239]) fun words243 => needD ((s68.2.2).isSome = true) <| bindD (F_word (wd (K := K)) ((Nw.F_Net_best (K := K)) x62.1 (dk (K := K) (.str (x230.1 : Tx).l)) (dk (K := K) (.str (x230.2 : Tx).l)) (dk (K := K) (.int ((s68.2.2).getD default))))) fun x245 => needD (words243.length < 16777216) <| bindP (words243 ++ [x245]) fun words249 => next235 words249) (fun (s161 : (List (Tx × (Dk K)))) => needD (((-(2 ^ 63) ≤ (6 : Int) ∧ (6 : Int) < 2 ^ 63 ∧ ([((tx [112, 114, 111, 99, 101, 115, 115]), (dk (K := K) .non))] : List (Tx × (Dk K))).length * ((6 : Int)).toNat ≤ 16777216)) ∧ (fitE K s161 = true) ∧ (fitE K (List.replicate ((6 : Int)).toNat ([((tx [112, 114, 111, 99, 101, 115, 115]), (dk (K := K) .non))] : List (Tx × (Dk K)))).flatten = true)) <| if (!(eqP K s161 (List.replicate ((6 : Int)).toNat ([((tx [112, 114, 111, 99, 101, 115, 115]), (dk (K := K) .non))] : List (Tx × (Dk K)))).flatten)) = true then ((pureD false)) else (next47 ())) ([] : List (Tx × (Dk K)))))))) ((none : Option Tx), (none : Option Tx), (none : Option Int))) (fun (s5 : Unit) => (pureD true)) ()
def sp_law (K : PySem.W.Frag) : Sp := fun vs H Q _ => ∃ (I : Hp) (a : Addr) (ns : List Int), vs = [.ref a] ∧ Same I H ∧ noTb I ∧ LamX.Tabs (tbW K) H ∧ SqL K I a (ns.map V.int) ∧ ns.length ≤ 63 ∧ ∀ H', Q (.bl true) H'
theorem ok_law (T : Txt K mg) {fd : FuncData} (F : FunD K "law" "law" (defArgs s_law) (defBody s_law) (defScope s_law) [] [] (He.ga K "law") fd) (G_l_begun : Ok P w K mg base CX0 1 (He.ga K "_law_begun") ["_law_script"] (sp_l_begun K)) (G_l_channels : Ok P w K mg base CX0 4 (He.ga K "_law_channels") ["_law_draw"] (sp_l_channels K)) (G_l_all_names : Ok P w K mg base CX0 1 (He.ga K "_law_all_names") ["_law_channels_here"] (sp_l_all_names K)) (GX_Net__init : Ok P w K mg base (L2.CX P w) 3 (He.ma K (He.ga K "Net") "__init__") ["self", "channels"] (fun vs H Q E => sp_Net__init K vs H Q E ∨ spb_Net__init K vs H Q E)) (G_l_pick : Ok P w K mg base CX0 2 (He.ga K "_law_pick") ["_law_draw", "_law_some_here"] (sp_l_pick K)) (G_l_next : Ok P w K mg base CX0 1 (He.ga K "_law_next") ["_law_draw", "_law_many"] (sp_l_next K)) (G_l_relays : Ok P w K mg base CX0 3 (He.ga K "_law_relays") ["_law_channels_here", "_law_source", "_law_target", "_law_most"] (sp_l_relays K)) (GX_Net_relays : Ok P w K mg base (L2.CX P w) 4 (He.ma K (He.ga K "Net") "relays") ["self", "source", "target", "most"] (fun vs H Q E => sp_Net_relays K vs H Q E ∨ spb_Net_relays K vs H Q E)) (GX_Net_best : Ok P w K mg base (L2.CX P w) 5 (He.ma K (He.ga K "Net") "best") ["self", "source", "target", "most"] (fun vs H Q E => sp_Net_best K vs H Q E ∨ spb_Net_best K vs H Q E)) (G_l_no_process : Ok P w K mg base CX0 3 (He.ga K "_law_no_process") ["_law_draw"] (sp_l_no_process K)) (G_l_strange : Ok P w K mg base CX0 3 (He.ga K "_law_strange") ["_law_draw", "_law_channels_here"] (sp_l_strange K)) (TB : LamX.TabB base mg (He.codeOf K ("law", none)) (He.tabOf K (He.codeOf K ("law", none)))) (F_l_word : FnAt K "_law_word" "_law_word" s_l_word (He.ga K "_law_word")) (law_holds : ∀ m, m ≤ 63 → (Nw.F_law (K := K)) ⟨m⟩ 0 (fun b _ => b = true)) : FnG P w K mg base CX0 10 (He.ga K "law") fd ["_law_script"] (sp_law K) := by
  obtain ⟨fdX_Net_relays, FX_Net_relays, bX_Net_relays, _⟩ := GX_Net_relays.ok
  obtain ⟨fdX_Net_best, FX_Net_best, bX_Net_best, _⟩ := GX_Net_best.ok
  refine fngL_of F sc_law (fun vs H Q E h => ?_) (fun cdv A outer s H vs Q E hc hr hgd h => ?_)
  · obtain ⟨_, _, _, rfl, _⟩ := h
    rfl
  · obtain ⟨I, a, ns, rfl, sb, hnt, hTb, hS, hl, k0⟩ := h
    refine ⟨_, (pss_cons (ps_set (i := 1) sc_law.nd rfl (Or.inl rfl) (pe_callC G_l_begun (hr.mono (by decide)) T.g__law_begun (pa_cons (pv 0) pa_nil)))
      (pss_cons (ps_for PassesOwn.never rfl (pi_range1 rfl T.b_range (pa_cons (pe_op op_add pe_int (pe_callB (call_min2 rfl) (by rfl) T.b_min (by decide +kernel) (pa_cons (pe_callB call_len_seq (by rfl) T.b_len (by decide +kernel) (pa_cons (pv 0) pa_nil)) (pa_cons pe_int pa_nil)))) pa_nil)) (pg_name (i := 2) sc_law.nd rfl (Or.inl rfl)) (pss_cons (ps_set (i := 3) sc_law.nd rfl (Or.inl rfl) (pe_callC G_l_channels (hr.mono (by decide)) T.g__law_channels (pa_cons (pv 1) pa_nil)))
      (pss_cons (ps_asg (pe_tup (pa_cons (pe_makeX T.mk_Net GX_Net__init (hr.mono (by decide)) T.g_Net passN (pa_cons (pv 3) pa_nil)) (pa_cons (pe_callC G_l_all_names (hr.mono (by decide)) T.g__law_all_names (pa_cons (pv 3) pa_nil)) pa_nil))) (pg_tup (by rfl) (pgs_cons (pg_name (i := 12) sc_law.nd rfl (Or.inr rfl)) (pgs_cons (pg_name (i := 4) sc_law.nd rfl (Or.inl rfl)) pgs_nil))))
      (pss_cons (ps_for PassesOwn.never rfl (pi_range1 rfl T.b_range (pa_cons pe_int pa_nil)) (pg_name (i := 5) sc_law.nd rfl (Or.inl rfl)) (pss_cons (ps_asg (pe_tup (pa_cons (pe_callC G_l_pick (hr.mono (by decide)) T.g__law_pick (pa_cons (pv 1) (pa_cons (pv 4) pa_nil))) (pa_cons (pe_callC G_l_pick (hr.mono (by decide)) T.g__law_pick (pa_cons (pv 1) (pa_cons (pv 4) pa_nil))) pa_nil))) (pg_tup (by rfl) (pgs_cons (pg_name (i := 15) sc_law.nd rfl (Or.inr rfl)) (pgs_cons (pg_name (i := 16) sc_law.nd rfl (Or.inr rfl)) pgs_nil))))
      (pss_cons (ps_set (i := 11) sc_law.nd rfl (Or.inr rfl) (pe_op op_add pe_int (pe_callC G_l_next (hr.mono (by decide)) T.g__law_next (pa_cons (pv 1) (pa_cons pe_int pa_nil)))))
      (pss_cons (ps_set (i := 6) sc_law.nd rfl (Or.inl rfl) (pe_callC G_l_relays (hr.mono (by decide)) T.g__law_relays (pa_cons (pv 3) (pa_cons (pv 15) (pa_cons (pv 16) (pa_cons (pv 11) pa_nil))))))
      (pss_cons (ps_set (i := 7) sc_law.nd rfl (Or.inl rfl) (pe_meth (pv 12) T.cl_Net T.m_Net_relays FX_Net_relays (hr.mono (by decide)) bX_Net_relays .nil passN (pa_cons (pv 15) (pa_cons (pv 16) (pa_cons (pv 11) pa_nil)))))
      (pss_cons (ps_if (PW.pt (pw_or (pt_not (pt_val (pe_callB call_isi (by rfl) T.b_isinstance (by decide +kernel) (pa_cons (pv 7) (pa_cons (pe_bltn (v := .ty "list") rfl T.b_list (by decide +kernel) rfl) pa_nil))))) (pw_or1 (pt_cmpR op_ne (pe_callB (call_reprD hgd (un70 hr)) (by rfl) T.b_repr (by decide +kernel) (pa_cons (pv 7) pa_nil)) (pe_callB (call_reprD hgd (un70 hr)) (by rfl) T.b_repr (by decide +kernel) (pa_cons (pv 6) pa_nil)) (nomark _))))) (pss_one (ps_ret pe_bl)) pss_nil)
      (pss_cons (ps_expr (pe_bm PySem.F.plainAttrs_list PySem.F.slot_list_append PySem.F.type_list_append mt_append (pv 7) (pa_cons pe_str pa_nil)))
      (pss_one (ps_if (pt_cmpR op_ne (pe_callB (call_reprD hgd (un70 hr)) (by rfl) T.b_repr (by decide +kernel) (pa_cons (pe_meth (pv 12) T.cl_Net T.m_Net_relays FX_Net_relays (hr.mono (by decide)) bX_Net_relays .nil passN (pa_cons (pv 15) (pa_cons (pv 16) (pa_cons (pv 11) pa_nil)))) pa_nil)) (pe_callB (call_reprD hgd (un70 hr)) (by rfl) T.b_repr (by decide +kernel) (pa_cons (pv 6) pa_nil)) (nomark _)) (pss_one (ps_ret pe_bl)) pss_nil)))))))))
      (pss_cons (ps_asg (pe_tup (pa_cons (pe_callC G_l_no_process (hr.mono (by decide)) T.g__law_no_process (pa_cons (pv 1) pa_nil)) (pa_cons (pe_callC G_l_pick (hr.mono (by decide)) T.g__law_pick (pa_cons (pv 1) (pa_cons (pe_lst (pa_cons pe_int (pa_cons pe_int (pa_cons (pe_un un_neg pe_int) (pa_cons pe_non (pa_cons pe_bl (pa_cons pe_bl (pa_cons pe_str (pa_cons (pe_lst pa_nil) (pa_cons (pe_op op_pow pe_int pe_int) (pa_cons (pe_tup (pa_cons pe_int pa_nil)) pa_nil))))))))))) pa_nil))) pa_nil))) (pg_tup (by rfl) (pgs_cons (pg_name (i := 13) sc_law.nd rfl (Or.inr rfl)) (pgs_cons (pg_name (i := 10) sc_law.nd rfl (Or.inr rfl)) pgs_nil))))
      (pss_cons (ps_set (i := 8) sc_law.nd rfl (Or.inl rfl) (pe_lst (pa_cons (pe_told (k := 7) (t := _) F_l_word sc_l_word T.g__law_word (fun _ => gives_l_word T rfl rfl) TB hc rfl (hr.mono (by decide)) (LamX.lamS_by (show LamX.lamSB (defScope s_law) _ = true by decide +kernel)) (fun A outer s H E f c2 hr => (pe_meth (pv 12) T.cl_Net T.m_Net_relays FX_Net_relays (hr.mono (by decide)) bX_Net_relays .nil passE (pa_cons (pv 13) (pa_cons (pv 13) (pa_cons (pv 10) pa_nil)))))) pa_nil)))
      (pss_cons (ps_expr (pe_bm PySem.F.plainAttrs_list PySem.F.slot_list_append PySem.F.type_list_append mt_append (pv 8) (pa_cons (pe_told (k := 7) (t := _) F_l_word sc_l_word T.g__law_word (fun _ => gives_l_word T rfl rfl) TB hc rfl (hr.mono (by decide)) (LamX.lamS_by (show LamX.lamSB (defScope s_law) _ = true by decide +kernel)) (fun A outer s H E f c2 hr => (pe_meth (pv 12) T.cl_Net T.m_Net_relays FX_Net_relays (hr.mono (by decide)) bX_Net_relays .nil passE (pa_cons (pv 15) (pa_cons (pv 13) (pa_cons (pv 10) pa_nil)))))) pa_nil)))
      (pss_cons (ps_expr (pe_bm PySem.F.plainAttrs_list PySem.F.slot_list_append PySem.F.type_list_append mt_append (pv 8) (pa_cons (pe_told (k := 7) (t := _) F_l_word sc_l_word T.g__law_word (fun _ => gives_l_word T rfl rfl) TB hc rfl (hr.mono (by decide)) (LamX.lamS_by (show LamX.lamSB (defScope s_law) _ = true by decide +kernel)) (fun A outer s H E f c2 hr => (pe_meth (pv 12) T.cl_Net T.m_Net_relays FX_Net_relays (hr.mono (by decide)) bX_Net_relays .nil passE (pa_cons (pv 13) (pa_cons (pv 16) (pa_cons (pv 11) pa_nil)))))) pa_nil)))
      (pss_cons (ps_if (pt_cmpR (op_neD hr.units) (pv 8) (pe_op op_rep (pe_lst (pa_cons (pe_tup (pa_cons pe_str (pa_cons pe_non pa_nil))) pa_nil)) pe_int) (nomark _)) (pss_one (ps_ret pe_bl)) pss_nil)
      (pss_cons (ps_if (pt_cmpR (op_neD hr.units) (pe_told (k := 7) (t := _) F_l_word sc_l_word T.g__law_word (fun _ => gives_l_word T rfl rfl) TB hc rfl (hr.mono (by decide)) (LamX.lamS_by (show LamX.lamSB (defScope s_law) _ = true by decide +kernel)) (fun A outer s H E f c2 hr => (pe_meth (pv 12) T.cl_Net T.m_Net_relays FX_Net_relays (hr.mono (by decide)) bX_Net_relays .nil passE (pa_cons (pv 15) (pa_cons (pv 16) (pa_cons (pv 10) pa_nil)))))) (pe_tup (pa_cons pe_str (pa_cons pe_non pa_nil))) (nomark _)) (pss_one (ps_ret pe_bl)) pss_nil)
      (pss_cons (ps_if (pt_cmpR (op_neD hr.units) (pe_told (k := 7) (t := _) F_l_word sc_l_word T.g__law_word (fun _ => gives_l_word T rfl rfl) TB hc rfl (hr.mono (by decide)) (LamX.lamS_by (show LamX.lamSB (defScope s_law) _ = true by decide +kernel)) (fun A outer s H E f c2 hr => (pe_meth (pv 12) T.cl_Net T.m_Net_best FX_Net_best (hr.mono (by decide)) bX_Net_best .nil passE (pa_cons (pv 15) (pa_cons (pv 16) (pa_cons (pv 10) pa_nil)))))) (pe_tup (pa_cons pe_str (pa_cons pe_non pa_nil))) (nomark _)) (pss_one (ps_ret pe_bl)) pss_nil)
      (pss_cons (ps_if (pt_cmpR (op_neD hr.units) (pe_told (k := 7) (t := _) F_l_word sc_l_word T.g__law_word (fun _ => gives_l_word T rfl rfl) TB hc rfl (hr.mono (by decide)) (LamX.lamS_by (show LamX.lamSB (defScope s_law) _ = true by decide +kernel)) (fun A outer s H E f c2 hr => (pe_meth (pv 12) T.cl_Net T.m_Net_best FX_Net_best (hr.mono (by decide)) bX_Net_best .nil passE (pa_cons (pv 13) (pa_cons (pv 16) (pa_cons (pv 10) pa_nil)))))) (pe_tup (pa_cons pe_str (pa_cons pe_non pa_nil))) (nomark _)) (pss_one (ps_ret pe_bl)) pss_nil)
      (pss_cons (ps_par (i := 9) (j := 8) (by rfl) sc_law.nd rfl rfl (by decide) rfl rfl (pa_cons (pe_callC G_l_strange (hr.mono (by decide)) T.g__law_strange (pa_cons (pv 1) (pa_cons (pv 3) pa_nil))) (pa_cons (pe_lst pa_nil) pa_nil)) (by rfl))
      (pss_cons (ps_for PassesOwn.never rfl (pi_list (pe_lst (pa_cons (pe_tup (pa_cons (pv 9) (pa_cons (pv 16) pa_nil))) (pa_cons (pe_tup (pa_cons (pv 15) (pa_cons (pv 9) pa_nil))) (pa_cons (pe_tup (pa_cons (pv 9) (pa_cons (pv 9) pa_nil))) pa_nil))))) (pg_name (i := 14) sc_law.nd rfl (Or.inr rfl)) (pss_cons (ps_expr (pe_bm PySem.F.plainAttrs_list PySem.F.slot_list_append PySem.F.type_list_append mt_append (pv 8) (pa_cons (pe_told (k := 7) (t := _) F_l_word sc_l_word T.g__law_word (fun _ => gives_l_word T rfl rfl) TB hc rfl (hr.mono (by decide)) (LamX.lamS_by (show LamX.lamSB (defScope s_law) _ = true by decide +kernel)) (fun A outer s H E f c2 hr => (pe_meth (pv 12) T.cl_Net T.m_Net_relays FX_Net_relays (hr.mono (by decide)) bX_Net_relays .nil passE (pa_cons (pe_ix (ix_tupK (K := K) rfl) (pv 14) pe_int (fun _ _ => rfl)) (pa_cons (pe_ix (ix_tupK (K := K) rfl) (pv 14) pe_int (fun _ _ => rfl)) (pa_cons (pv 10) pa_nil)))))) pa_nil)))
      (pss_one (ps_expr (pe_bm PySem.F.plainAttrs_list PySem.F.slot_list_append PySem.F.type_list_append mt_append (pv 8) (pa_cons (pe_told (k := 7) (t := _) F_l_word sc_l_word T.g__law_word (fun _ => gives_l_word T rfl rfl) TB hc rfl (hr.mono (by decide)) (LamX.lamS_by (show LamX.lamSB (defScope s_law) _ = true by decide +kernel)) (fun A outer s H E f c2 hr => (pe_meth (pv 12) T.cl_Net T.m_Net_best FX_Net_best (hr.mono (by decide)) bX_Net_best .nil passE (pa_cons (pe_ix (ix_tupK (K := K) rfl) (pv 14) pe_int (fun _ _ => rfl)) (pa_cons (pe_ix (ix_tupK (K := K) rfl) (pv 14) pe_int (fun _ _ => rfl)) (pa_cons (pv 11) pa_nil)))))) pa_nil))))))
      (pss_one (ps_if (pt_cmpR (op_neD hr.units) (pv 8) (pe_op op_rep (pe_lst (pa_cons (pe_tup (pa_cons pe_str (pa_cons pe_non pa_nil))) pa_nil)) pe_int) (nomark _)) (pss_one (ps_ret pe_bl)) pss_nil))))))))))))))))
      (pss_one (ps_ret pe_bl)))), ?_⟩
    refine ⟨_, rfl, I, a, ns, rfl, sb, hS, hl, fun D I1 H1 g1 d1 => ?_⟩
    have s0 : LSt (tbW K) D 0 I1 H1 := ⟨d1, g1.noTb hnt, tabs_keep hTb g1 fun _ _ _ _ z => z⟩
    obtain ⟨v2, h_v2⟩ : ∃ v2 : V, v2 = .ref a := ⟨_, rfl⟩
    have h_script1 : Rep.is I1 v2 (⟨ns.length⟩ : Scr K) := ⟨a, _, h_v2, sqL_up hS g1.view, by rw [List.length_map]⟩
    have e := law_holds ns.length hl
    revert h_script1 e
    rw [← h_v2]
    generalize (⟨ns.length⟩ : Scr K) = script1
    intro h_script1 e
    have k : ∀ (y : Bool), y = true → ∀ v (I' H' : Hp), Rep.is I' v y → Q v H' := fun y e v I' H' r => by rw [show v = V.bl y from r, e]; exact k0 H'
    clear k0
    unfold Nw.F_law at e
    have lf := lfr s0
    have df := lf.toDFr
    have h := (stnL s0).rep h_script1
    have r_script1 := rep_last h
    obtain ⟨q3, e⟩ := e
    refine d_fors (S := Unit) (fun (z : Unit) (σ : L2.St) (a : Amb) => ∃ u0 : Option V, ∃ u1 : Option V, ∃ u2 : Option V, ∃ u3 : Option V, ∃ u4 : Option V, ∃ u5 : Option V, ∃ u6 : Option V, ∃ u7 : Option V, ∃ u8 : Option V, ∃ u9 : Option V, ∃ u10 : Option V, ∃ u11 : Option V, ∃ u12 : Option V, ∃ u13 : Option V, ∃ u14 : Option V, σ = [some v2, some (.ref D.d), u14, u0, u2, u3, u7, u8, u11, u12, u10, u6, u1, u9, u13, u4, u5] ∧ (∀ I, a.Γ I → Rep.is I v2 (script1 : (Scr K))) ∧ a.Ω = []) h (ei_rng1 (ep_op (os_II rfl) ep_int (ep_b2 c_min2 (ep_b1 c_lenScr (ep_var rfl fun I γ => r_script1 I γ)) ep_int)) (q3)) e (fun I1 => ⟨_, _, _, _, _, _, _, _, _, _, _, _, _, _, _, rfl, fun I γ => r_script1 I (And.left γ), rfl⟩) ?_ ?_
    · rintro s5 σ2 a2 n2 I1 H1 e ⟨u7, u8, u9, u10, u11, u12, u13, u14, u15, u16, u17, u18, u19, u20, u21, rfl, rr22, o⟩ h
      have r_23 : ∀ I, Amb.Γ _ I → Rep.is I v2 (script1 : (Scr K)) := fun I γ => rr22 I γ
      exact st_ret h ep_bl (fun v I1 H1 h r => k _ e v I1 H1 r)
    · rintro x42 s24 σ2 a2 n2 Iv45 tl I1 H1 v N hx ⟨u25, u26, u27, u28, u29, u30, u31, u32, u33, u34, u35, u36, u37, u38, u39, rfl, rr40, o⟩ vw44 e h hr kN49 kB50
      have r_41 : ∀ I, Amb.Γ _ I → Rep.is I v2 (script1 : (Scr K)) := fun I γ => rr40 I γ
      refine bd_name n2 I1 H1 v h hr _ fun σ3 a3 hz h => ?_
      obtain ⟨v43, rfl, rfl⟩ := hz
      have r_46 := rep_last h
      refine ho_asgs ?_
      refine d_callD (F := (fun z : Unit => Nw.F_l_channels)) df (dr_v rfl) h ea_nil e fun x51 v52 n2 I1 H1 e h => ?_
      have r_t53 := rep_last h
      refine d_sets h (ep_cv fun I γ => r_t53 I γ) e fun channels_here54 v55 I1 H1 e h => ?_
      have r_channels_here54 := rep_last h
      refine ho_asgs ?_
      refine hoA0 lin_tup ?_
      refine o_make_Net T h (ep_cx (ep_cx (ep_var rfl fun I γ => r_channels_here54 I γ) (cv_map (fun _ => cv_pr3 (fun _ => cv_sg) (fun _ => cv_str) (fun _ => cv_str)))) cv_lst) e fun x56 v57 I1 H1 e h => ?_
      have r_t58 := rep_last h
      obtain ⟨q59, e⟩ := e
      refine e_p h (ep_tup2 (ea_cons (ep_cv fun I γ => r_t58 I γ) (ea_cons (ep_call (F := (fun z : (List (T3 Sg Tx Tx)) × Unit => Nw.F_l_all_names z.1)) (ea_cons (ep_var rfl fun I γ => r_channels_here54 I (And.left γ)) ea_nil) (someD (q59))) ea_nil))) fun v60 I1 H1 h => ?_
      have r_t61 := rep_last h
      refine d_asgs h (ep_cv fun I γ => r_t61 I γ) (fun x => bd_2 (x := x)) e fun x62 σ2 a2 I1 H1 e z h => ?_
      obtain ⟨v63, v64, rfl, rfl⟩ := z
      have r_65 := rep_last2 h
      have r_66 := rep_last h
      refine d_fors (S := (Option Tx) × (Option Tx) × (Option Int)) (fun (z : (Option Tx) × (Option Tx) × (Option Int)) (σ : L2.St) (a : Amb) => ∃ w0 : Option V, ∃ w1 : Option V, ∃ w2 : Option V, ∃ u0 : Option V, ∃ u1 : Option V, ∃ u2 : Option V, σ = [some v2, some (.ref D.d), some v43, some v55, some v64, u2, u0, u1, u36, u37, u35, w2, some v63, u34, u38, w0, w1] ∧ (∀ I, a.Γ I → Rep.is I v2 (script1 : (Scr K)) ∧ Same Iv45 I ∧ Rep.is I v43 (x42 : Int) ∧ Rep.is I v52 (x51 : (List (T3 Sg Tx Tx))) ∧ Rep.is I v55 (channels_here54 : (List (T3 Sg Tx Tx))) ∧ Rep.is I v57 (x56 : (NetV K)) ∧ Rep.is I v60 ((x56, ((Nw.F_l_all_names channels_here54).getD default)) : ((NetV K) × (List Tx))) ∧ Rep.is I v63 (x62.1 : (NetV K)) ∧ Rep.is I v64 (x62.2 : (List Tx)) ∧ LateR I w0 (z.1 : Option Tx) ∧ LateR I w1 (z.2.1 : Option Tx) ∧ LateR I w2 (z.2.2 : Option Int)) ∧ a.Ω = []) h (ei_rng1 ep_int ⟨by decide, by decide⟩) e (fun I1 => ⟨_, _, _, _, _, _, rfl, fun I γ => ⟨r_41 I (And.left (And.left (And.left (And.left (And.left (And.left (And.left (And.left γ)))))))), vw44 I (And.left (And.left (And.left (And.left (And.left (And.left (And.left (And.left γ)))))))), r_46 I (And.left (And.left (And.left (And.left (And.left (And.left (And.left γ))))))), r_t53 I (And.left (And.left (And.left (And.left (And.left (And.left γ)))))), r_channels_here54 I (And.left (And.left (And.left (And.left (And.left γ))))), r_t58 I (And.left (And.left (And.left (And.left γ)))), r_t61 I (And.left (And.left (And.left γ))), r_65 I (And.left γ), r_66 I (And.left γ), trivial, trivial, trivial⟩, o⟩) ?_ ?_
      · rintro s68 σ2 a2 n2 I1 H1 e ⟨v70, v71, v72, u73, u74, u75, rfl, rr76, o⟩ h
        have r_77 : ∀ I, Amb.Γ _ I → Rep.is I v2 (script1 : (Scr K)) := fun I γ => (rr76 I γ).1
        have r_78 : ∀ I, Amb.Γ _ I → Same Iv45 I := fun I γ => (rr76 I γ).2.1
        have r_79 : ∀ I, Amb.Γ _ I → Rep.is I v43 (x42 : Int) := fun I γ => (rr76 I γ).2.2.1
        have r_80 : ∀ I, Amb.Γ _ I → Rep.is I v52 (x51 : (List (T3 Sg Tx Tx))) := fun I γ => (rr76 I γ).2.2.2.1
        have r_81 : ∀ I, Amb.Γ _ I → Rep.is I v55 (channels_here54 : (List (T3 Sg Tx Tx))) := fun I γ => (rr76 I γ).2.2.2.2.1
        have r_82 : ∀ I, Amb.Γ _ I → Rep.is I v57 (x56 : (NetV K)) := fun I γ => (rr76 I γ).2.2.2.2.2.1
        have r_83 : ∀ I, Amb.Γ _ I → Rep.is I v60 ((x56, ((Nw.F_l_all_names channels_here54).getD default)) : ((NetV K) × (List Tx))) := fun I γ => (rr76 I γ).2.2.2.2.2.2.1
        have r_84 : ∀ I, Amb.Γ _ I → Rep.is I v63 (x62.1 : (NetV K)) := fun I γ => (rr76 I γ).2.2.2.2.2.2.2.1
        have r_85 : ∀ I, Amb.Γ _ I → Rep.is I v64 (x62.2 : (List Tx)) := fun I γ => (rr76 I γ).2.2.2.2.2.2.2.2.1
        have r_86 : ∀ I, Amb.Γ _ I → LateR I v70 (s68.1 : Option Tx) := fun I γ => (rr76 I γ).2.2.2.2.2.2.2.2.2.1
        have r_87 : ∀ I, Amb.Γ _ I → LateR I v71 (s68.2.1 : Option Tx) := fun I γ => (rr76 I γ).2.2.2.2.2.2.2.2.2.2.1
        have r_88 : ∀ I, Amb.Γ _ I → LateR I v72 (s68.2.2 : Option Int) := fun I γ => (rr76 I γ).2.2.2.2.2.2.2.2.2.2.2
        refine ho_asgs ?_
        refine hoA0 lin_tup ?_
        refine d_callD (F := (fun z : Unit => (Nw.F_l_no_process (K := K)))) df (dr_v rfl) h ea_nil e fun x89 v90 n2 I1 H1 e h => ?_
        have r_t91 := rep_last h
        refine hoA1 lin_tup ?_
        refine d_pickL df (dr_v rfl) h (EvP.rl (ep_lst (el_cons (ep_cx ep_int cv_int) (el_cons (ep_cx ep_int cv_int) (el_cons (ep_cx (ep_neg ep_int) cv_int) (el_cons (ep_cx ep_non cv_non) (el_cons (ep_cx ep_bl cv_bl) (el_cons (ep_cx ep_bl cv_bl) (el_cons (ep_cx (ep_sgc rfl) cv_sg) (el_cons (ep_cx (ep_lst el_nil (by show 0 ≤ 16777216; decide)) cv_lst) (el_cons (ep_cx (ep_op (os_IC ⟨by decide, by decide, by decide⟩ rfl) ep_int ep_int) cv_int) (el_cons (ep_cx (ep_tupn (el_cons (ep_cx ep_int cv_int) el_nil) (by show 1 ≤ 16777216; decide)) cv_tup) el_nil)))))))))) (by show 10 ≤ 16777216; decide))) e fun x92 v93 n2 I1 H1 e h => ?_
        have r_t94 := rep_last h
        refine e_p h (ep_tup2 (ea_cons (ep_cv fun I γ => r_t91 I (And.left γ)) (ea_cons (ep_cv fun I γ => r_t94 I γ) ea_nil))) fun v95 I1 H1 h => ?_
        have r_t96 := rep_last h
        refine d_asgs h (ep_cv fun I γ => r_t96 I γ) (fun x => bd_2 (x := x)) e fun x97 σ2 a2 I1 H1 e z h => ?_
        obtain ⟨v98, v99, rfl, rfl⟩ := z
        have r_100 := rep_last2 h
        have r_101 := rep_last h
        refine ho_asgs ?_
        refine hoA0 lin_lst ?_
        refine d_told lf (word_ok T) h (ex_methW (C := He.ga K "Net") (F := (fun z : (NetV K) × (Dk K) × (Dk K) × (Dk K) × Unit => (Nw.F_Net_relays (K := K)) z.1 z.2.1 z.2.2.1 z.2.2.2.1)) (show ("relays" : Str) ∉ (["by_letter"] : List Str) by decide) (ep_var rfl fun I γ => r_84 I (And.left (And.left (And.left (And.left (And.left γ)))))) (ea_cons (ep_var rfl fun I γ => r_100 I γ) (ea_cons (ep_var rfl fun I γ => r_100 I γ) (ea_cons (ep_var rfl fun I γ => r_101 I γ) ea_nil)))) e fun x102 v103 n2 I1 H1 e h => ?_
        have r_t104 := rep_last h
        refine hd_newNs h (en_lst (el_cons (ep_cv fun I γ => r_t104 I γ) el_nil) (by show 1 ≤ 16777216; decide)) e fun words105 p106 I1 H1 e h => ?_
        have o := o_own h o
        refine d_appDs (j := 0) rfl h (o_get o rfl) ?_
        obtain ⟨q107, e⟩ := e
        refine d_told lf (word_ok T) h (ex_methW (C := He.ga K "Net") (F := (fun z : (NetV K) × (Dk K) × (Dk K) × (Dk K) × Unit => (Nw.F_Net_relays (K := K)) z.1 z.2.1 z.2.2.1 z.2.2.2.1)) (show ("relays" : Str) ∉ (["by_letter"] : List Str) by decide) (ep_var rfl fun I γ => r_84 I (And.left (And.left (And.left (And.left (And.left (And.left γ))))))) (ea_cons (ep_cx (ep_late rfl (fun I γ => r_86 I (And.left (And.left (And.left (And.left (And.left (And.left γ))))))) (q107)) cv_str) (ea_cons (ep_var rfl fun I γ => r_100 I (And.left γ)) (ea_cons (ep_var rfl fun I γ => r_101 I (And.left γ)) ea_nil)))) e fun x108 v109 n2 I1 H1 e h => ?_
        have r_t110 := rep_last h
        obtain ⟨q111, e⟩ := e
        refine f_app2 h (o_get (j := 0) o rfl) (r_t110 _ h.γ) (q111) e fun words112 I1 H1 e h => ?_
        have o := o_set (j := 0) h o
        refine d_appDs (j := 0) rfl h (o_get o rfl) ?_
        obtain ⟨⟨q113, q114⟩, e⟩ := e
        refine d_told lf (word_ok T) h (ex_methW (C := He.ga K "Net") (F := (fun z : (NetV K) × (Dk K) × (Dk K) × (Dk K) × Unit => (Nw.F_Net_relays (K := K)) z.1 z.2.1 z.2.2.1 z.2.2.2.1)) (show ("relays" : Str) ∉ (["by_letter"] : List Str) by decide) (ep_var rfl fun I γ => r_84 I (And.left (And.left (And.left (And.left (And.left (And.left (And.left γ)))))))) (ea_cons (ep_var rfl fun I γ => r_100 I (And.left (And.left γ))) (ea_cons (ep_cx (ep_late rfl (fun I γ => r_87 I (And.left (And.left (And.left (And.left (And.left (And.left (And.left γ)))))))) (q113)) cv_str) (ea_cons (ep_cx (ep_late rfl (fun I γ => r_88 I (And.left (And.left (And.left (And.left (And.left (And.left (And.left γ)))))))) (q114)) cv_int) ea_nil)))) e fun x115 v116 n2 I1 H1 e h => ?_
        have r_t117 := rep_last h
        obtain ⟨q118, e⟩ := e
        refine f_app2 h (o_get (j := 0) o rfl) (r_t117 _ h.γ) (q118) e fun words119 I1 H1 e h => ?_
        have o := o_set (j := 0) h o
        obtain ⟨⟨q120, q121, q122⟩, e⟩ := e
        refine d_ifs h (eb_test (ep_op (os_nePL (K := K) (q121) (q122)) (ep_own rfl (o_get (j := 0) o rfl)) (EvP.rl (ep_mulL (q120) (EvP.rl (ep_lst (el_cons (ep_tup2 (ea_cons (ep_txc (by rfl) (by decide)) (ea_cons (ep_cx ep_non cv_non) ea_nil))) el_nil) (by show 1 ≤ 16777216; decide))) ep_int)))) e (fun c123 e I1 H1 h => ?_) (fun c123 e I1 H1 h => ?_)
        · exact st_ret h ep_bl (fun v I1 H1 h r => k _ e v I1 H1 r)
        · refine next_of ?_
          refine ho_ifs ?_
          refine ho_op1 ?_
          obtain ⟨⟨q124, q125⟩, e⟩ := e
          refine d_told lf (word_ok T) h (ex_methW (C := He.ga K "Net") (F := (fun z : (NetV K) × (Dk K) × (Dk K) × (Dk K) × Unit => (Nw.F_Net_relays (K := K)) z.1 z.2.1 z.2.2.1 z.2.2.2.1)) (show ("relays" : Str) ∉ (["by_letter"] : List Str) by decide) (ep_var rfl fun I γ => r_84 I (And.left (And.left (And.left (And.left (And.left (And.left (And.left (And.left γ))))))))) (ea_cons (ep_cx (ep_late rfl (fun I γ => r_86 I (And.left (And.left (And.left (And.left (And.left (And.left (And.left (And.left γ))))))))) (q124)) cv_str) (ea_cons (ep_cx (ep_late rfl (fun I γ => r_87 I (And.left (And.left (And.left (And.left (And.left (And.left (And.left (And.left γ))))))))) (q125)) cv_str) (ea_cons (ep_var rfl fun I γ => r_101 I (And.left (And.left (And.left γ)))) ea_nil)))) e fun x126 v127 n2 I1 H1 e h => ?_
          have r_t128 := rep_last h
          obtain ⟨⟨q129, q130⟩, e⟩ := e
          refine e_p h (ep_op (os_neP (K := K) (q129) (q130)) (ep_cv fun I γ => r_t128 I γ) (ep_tup2 (ea_cons (ep_txc (by rfl) (by decide)) (ea_cons (ep_cx ep_non cv_non) ea_nil)))) fun v131 I1 H1 h => ?_
          have r_t132 := rep_last h
          refine d_ifs h (eb_test (ep_cv fun I γ => r_t132 I γ)) e (fun c133 e I1 H1 h => ?_) (fun c133 e I1 H1 h => ?_)
          · exact st_ret h ep_bl (fun v I1 H1 h r => k _ e v I1 H1 r)
          · refine next_of ?_
            refine ho_ifs ?_
            refine ho_op1 ?_
            obtain ⟨⟨q134, q135⟩, e⟩ := e
            refine d_told lf (word_ok T) h (ex_meth (C := He.ga K "Net") (F := (fun z : (NetV K) × (Dk K) × (Dk K) × (Dk K) × Unit => (Nw.F_Net_best (K := K)) z.1 z.2.1 z.2.2.1 z.2.2.2.1)) (show ("best" : Str) ∉ (["by_letter"] : List Str) by decide) (ep_var rfl fun I γ => r_84 I (And.left (And.left (And.left (And.left (And.left (And.left (And.left (And.left (And.left (And.left γ))))))))))) (ea_cons (ep_cx (ep_late rfl (fun I γ => r_86 I (And.left (And.left (And.left (And.left (And.left (And.left (And.left (And.left (And.left (And.left γ))))))))))) (q134)) cv_str) (ea_cons (ep_cx (ep_late rfl (fun I γ => r_87 I (And.left (And.left (And.left (And.left (And.left (And.left (And.left (And.left (And.left (And.left γ))))))))))) (q135)) cv_str) (ea_cons (ep_var rfl fun I γ => r_101 I (And.left (And.left (And.left (And.left (And.left γ)))))) ea_nil)))) e fun x136 v137 n2 I1 H1 e h => ?_
            have r_t138 := rep_last h
            obtain ⟨⟨q139, q140⟩, e⟩ := e
            refine e_p h (ep_op (os_neP (K := K) (q139) (q140)) (ep_cv fun I γ => r_t138 I γ) (ep_tup2 (ea_cons (ep_txc (by rfl) (by decide)) (ea_cons (ep_cx ep_non cv_non) ea_nil)))) fun v141 I1 H1 h => ?_
            have r_t142 := rep_last h
            refine d_ifs h (eb_test (ep_cv fun I γ => r_t142 I γ)) e (fun c143 e I1 H1 h => ?_) (fun c143 e I1 H1 h => ?_)
            · exact st_ret h ep_bl (fun v I1 H1 h r => k _ e v I1 H1 r)
            · refine next_of ?_
              refine ho_ifs ?_
              refine ho_op1 ?_
              obtain ⟨q144, e⟩ := e
              refine d_told lf (word_ok T) h (ex_meth (C := He.ga K "Net") (F := (fun z : (NetV K) × (Dk K) × (Dk K) × (Dk K) × Unit => (Nw.F_Net_best (K := K)) z.1 z.2.1 z.2.2.1 z.2.2.2.1)) (show ("best" : Str) ∉ (["by_letter"] : List Str) by decide) (ep_var rfl fun I γ => r_84 I (And.left (And.left (And.left (And.left (And.left (And.left (And.left (And.left (And.left (And.left (And.left (And.left γ))))))))))))) (ea_cons (ep_var rfl fun I γ => r_100 I (And.left (And.left (And.left (And.left (And.left (And.left (And.left γ)))))))) (ea_cons (ep_cx (ep_late rfl (fun I γ => r_87 I (And.left (And.left (And.left (And.left (And.left (And.left (And.left (And.left (And.left (And.left (And.left (And.left γ))))))))))))) (q144)) cv_str) (ea_cons (ep_var rfl fun I γ => r_101 I (And.left (And.left (And.left (And.left (And.left (And.left (And.left γ)))))))) ea_nil)))) e fun x145 v146 n2 I1 H1 e h => ?_
              have r_t147 := rep_last h
              obtain ⟨⟨q148, q149⟩, e⟩ := e
              refine e_p h (ep_op (os_neP (K := K) (q148) (q149)) (ep_cv fun I γ => r_t147 I γ) (ep_tup2 (ea_cons (ep_txc (by rfl) (by decide)) (ea_cons (ep_cx ep_non cv_non) ea_nil)))) fun v150 I1 H1 h => ?_
              have r_t151 := rep_last h
              refine d_ifs h (eb_test (ep_cv fun I γ => r_t151 I γ)) e (fun c152 e I1 H1 h => ?_) (fun c152 e I1 H1 h => ?_)
              · exact st_ret h ep_bl (fun v I1 H1 h r => k _ e v I1 H1 r)
              · refine next_of ?_
                refine ho_par2_0s ?_
                refine d_callD (F := (fun z : (List (T3 Sg Tx Tx)) × Unit => Nw.F_l_strange z.1)) df (dr_v rfl) h (ea_cons (ep_var rfl fun I γ => r_81 I (And.left (And.left (And.left (And.left (And.left (And.left (And.left (And.left (And.left (And.left (And.left (And.left (And.left (And.left γ))))))))))))))) ea_nil) e fun x153 v154 n2 I1 H1 e h => ?_
                have r_t155 := rep_last h
                refine ho_par2N1s (α := (Tx × (Dk K))) h fun p156 H1 h => ?_
                have o := o_own h o
                refine par2_dones ?_
                obtain ⟨⟨q158, q159⟩, e⟩ := e
                refine d_fors (S := (List (Tx × (Dk K)))) (fun (z : (List (Tx × (Dk K)))) (σ : L2.St) (a : Amb) => ∃ w0 : Addr, ∃ u0 : Option V, σ = [some v2, some (.ref D.d), some v43, some v55, some v64, u75, u73, u74, some (.ref w0), some v154, some v99, v72, some v63, some v98, u0, v70, v71] ∧ (∀ I, a.Γ I → Rep.is I v2 (script1 : (Scr K)) ∧ Same Iv45 I ∧ Rep.is I v43 (x42 : Int) ∧ Rep.is I v52 (x51 : (List (T3 Sg Tx Tx))) ∧ Rep.is I v55 (channels_here54 : (List (T3 Sg Tx Tx))) ∧ Rep.is I v57 (x56 : (NetV K)) ∧ Rep.is I v60 ((x56, ((Nw.F_l_all_names channels_here54).getD default)) : ((NetV K) × (List Tx))) ∧ Rep.is I v63 (x62.1 : (NetV K)) ∧ Rep.is I v64 (x62.2 : (List Tx)) ∧ LateR I v70 (s68.1 : Option Tx) ∧ LateR I v71 (s68.2.1 : Option Tx) ∧ LateR I v72 (s68.2.2 : Option Int) ∧ Rep.is I v90 (x89 : (Dk K)) ∧ Rep.is I v93 (x92 : (Dk K)) ∧ Rep.is I v95 ((x89, x92) : ((Dk K) × (Dk K))) ∧ Rep.is I v98 (x97.1 : (Dk K)) ∧ Rep.is I v99 (x97.2 : (Dk K)) ∧ Rep.is I v103 (x102 : (Tx × (Dk K))) ∧ Rep.is I v109 (x108 : (Tx × (Dk K))) ∧ Rep.is I v116 (x115 : (Tx × (Dk K))) ∧ Rep.is I v127 (x126 : (Tx × (Dk K))) ∧ Rep.is I v131 ((!(eqP K x126 ((tx [110, 101, 116]), (dk (K := K) .non)))) : Bool) ∧ Rep.is I v137 (x136 : (Tx × (Dk K))) ∧ Rep.is I v141 ((!(eqP K x136 ((tx [110, 101, 116]), (dk (K := K) .non)))) : Bool) ∧ Rep.is I v146 (x145 : (Tx × (Dk K))) ∧ Rep.is I v150 ((!(eqP K x145 ((tx [112, 114, 111, 99, 101, 115, 115]), (dk (K := K) .non)))) : Bool) ∧ Rep.is I v154 (x153 : Tx) ∧ Rep.is I v154 (x153 : Tx)) ∧ a.Ω = [lcell w0 (z : (List (Tx × (Dk K)))), lcell p106 (words119 : (List (Tx × (Dk K))))]) h (ei_list (ep_lst (el_cons (ep_tup2 (ea_cons (ep_var rfl fun I γ => r_t155 I γ) (ea_cons (ep_late rfl (fun I γ => r_87 I (And.left (And.left (And.left (And.left (And.left (And.left (And.left (And.left (And.left (And.left (And.left (And.left (And.left (And.left (And.left γ)))))))))))))))) (q158)) ea_nil))) (el_cons (ep_tup2 (ea_cons (ep_late rfl (fun I γ => r_86 I (And.left (And.left (And.left (And.left (And.left (And.left (And.left (And.left (And.left (And.left (And.left (And.left (And.left (And.left (And.left γ)))))))))))))))) (q159)) (ea_cons (ep_var rfl fun I γ => r_t155 I γ) ea_nil))) (el_cons (ep_tup2 (ea_cons (ep_var rfl fun I γ => r_t155 I γ) (ea_cons (ep_var rfl fun I γ => r_t155 I γ) ea_nil))) el_nil))) (by show 3 ≤ 16777216; decide))) e (fun I1 => ⟨p156, _, rfl, fun I γ => ⟨r_77 I (And.left (And.left (And.left (And.left (And.left (And.left (And.left (And.left (And.left (And.left (And.left (And.left (And.left (And.left (And.left (And.left γ)))))))))))))))), r_78 I (And.left (And.left (And.left (And.left (And.left (And.left (And.left (And.left (And.left (And.left (And.left (And.left (And.left (And.left (And.left (And.left γ)))))))))))))))), r_79 I (And.left (And.left (And.left (And.left (And.left (And.left (And.left (And.left (And.left (And.left (And.left (And.left (And.left (And.left (And.left (And.left γ)))))))))))))))), r_80 I (And.left (And.left (And.left (And.left (And.left (And.left (And.left (And.left (And.left (And.left (And.left (And.left (And.left (And.left (And.left (And.left γ)))))))))))))))), r_81 I (And.left (And.left (And.left (And.left (And.left (And.left (And.left (And.left (And.left (And.left (And.left (And.left (And.left (And.left (And.left (And.left γ)))))))))))))))), r_82 I (And.left (And.left (And.left (And.left (And.left (And.left (And.left (And.left (And.left (And.left (And.left (And.left (And.left (And.left (And.left (And.left γ)))))))))))))))), r_83 I (And.left (And.left (And.left (And.left (And.left (And.left (And.left (And.left (And.left (And.left (And.left (And.left (And.left (And.left (And.left (And.left γ)))))))))))))))), r_84 I (And.left (And.left (And.left (And.left (And.left (And.left (And.left (And.left (And.left (And.left (And.left (And.left (And.left (And.left (And.left (And.left γ)))))))))))))))), r_85 I (And.left (And.left (And.left (And.left (And.left (And.left (And.left (And.left (And.left (And.left (And.left (And.left (And.left (And.left (And.left (And.left γ)))))))))))))))), r_86 I (And.left (And.left (And.left (And.left (And.left (And.left (And.left (And.left (And.left (And.left (And.left (And.left (And.left (And.left (And.left (And.left γ)))))))))))))))), r_87 I (And.left (And.left (And.left (And.left (And.left (And.left (And.left (And.left (And.left (And.left (And.left (And.left (And.left (And.left (And.left (And.left γ)))))))))))))))), r_88 I (And.left (And.left (And.left (And.left (And.left (And.left (And.left (And.left (And.left (And.left (And.left (And.left (And.left (And.left (And.left (And.left γ)))))))))))))))), r_t91 I (And.left (And.left (And.left (And.left (And.left (And.left (And.left (And.left (And.left (And.left (And.left (And.left (And.left (And.left (And.left γ))))))))))))))), r_t94 I (And.left (And.left (And.left (And.left (And.left (And.left (And.left (And.left (And.left (And.left (And.left (And.left (And.left (And.left γ)))))))))))))), r_t96 I (And.left (And.left (And.left (And.left (And.left (And.left (And.left (And.left (And.left (And.left (And.left (And.left (And.left γ))))))))))))), r_100 I (And.left (And.left (And.left (And.left (And.left (And.left (And.left (And.left (And.left (And.left (And.left γ))))))))))), r_101 I (And.left (And.left (And.left (And.left (And.left (And.left (And.left (And.left (And.left (And.left (And.left γ))))))))))), r_t104 I (And.left (And.left (And.left (And.left (And.left (And.left (And.left (And.left (And.left (And.left γ)))))))))), r_t110 I (And.left (And.left (And.left (And.left (And.left (And.left (And.left (And.left (And.left γ))))))))), r_t117 I (And.left (And.left (And.left (And.left (And.left (And.left (And.left (And.left γ)))))))), r_t128 I (And.left (And.left (And.left (And.left (And.left (And.left (And.left γ))))))), r_t132 I (And.left (And.left (And.left (And.left (And.left (And.left γ)))))), r_t138 I (And.left (And.left (And.left (And.left (And.left γ))))), r_t142 I (And.left (And.left (And.left (And.left γ)))), r_t147 I (And.left (And.left (And.left γ))), r_t151 I (And.left (And.left γ)), r_t155 I (And.left γ), r_t155 I (And.left γ)⟩, o⟩) ?_ ?_
                · rintro s161 σ2 a2 n2 I1 H1 e ⟨p163, u164, rfl, rr165, o⟩ h
                  have r_166 : ∀ I, Amb.Γ _ I → Rep.is I v2 (script1 : (Scr K)) := fun I γ => (rr165 I γ).1
                  have r_167 : ∀ I, Amb.Γ _ I → Same Iv45 I := fun I γ => (rr165 I γ).2.1
                  have r_168 : ∀ I, Amb.Γ _ I → Rep.is I v43 (x42 : Int) := fun I γ => (rr165 I γ).2.2.1
                  have r_169 : ∀ I, Amb.Γ _ I → Rep.is I v52 (x51 : (List (T3 Sg Tx Tx))) := fun I γ => (rr165 I γ).2.2.2.1
                  have r_170 : ∀ I, Amb.Γ _ I → Rep.is I v55 (channels_here54 : (List (T3 Sg Tx Tx))) := fun I γ => (rr165 I γ).2.2.2.2.1
                  have r_171 : ∀ I, Amb.Γ _ I → Rep.is I v57 (x56 : (NetV K)) := fun I γ => (rr165 I γ).2.2.2.2.2.1
                  have r_172 : ∀ I, Amb.Γ _ I → Rep.is I v60 ((x56, ((Nw.F_l_all_names channels_here54).getD default)) : ((NetV K) × (List Tx))) := fun I γ => (rr165 I γ).2.2.2.2.2.2.1
                  have r_173 : ∀ I, Amb.Γ _ I → Rep.is I v63 (x62.1 : (NetV K)) := fun I γ => (rr165 I γ).2.2.2.2.2.2.2.1
                  have r_174 : ∀ I, Amb.Γ _ I → Rep.is I v64 (x62.2 : (List Tx)) := fun I γ => (rr165 I γ).2.2.2.2.2.2.2.2.1
                  have r_175 : ∀ I, Amb.Γ _ I → LateR I v70 (s68.1 : Option Tx) := fun I γ => (rr165 I γ).2.2.2.2.2.2.2.2.2.1
                  have r_176 : ∀ I, Amb.Γ _ I → LateR I v71 (s68.2.1 : Option Tx) := fun I γ => (rr165 I γ).2.2.2.2.2.2.2.2.2.2.1
                  have r_177 : ∀ I, Amb.Γ _ I → LateR I v72 (s68.2.2 : Option Int) := fun I γ => (rr165 I γ).2.2.2.2.2.2.2.2.2.2.2.1
                  have r_178 : ∀ I, Amb.Γ _ I → Rep.is I v90 (x89 : (Dk K)) := fun I γ => (rr165 I γ).2.2.2.2.2.2.2.2.2.2.2.2.1
                  have r_179 : ∀ I, Amb.Γ _ I → Rep.is I v93 (x92 : (Dk K)) := fun I γ => (rr165 I γ).2.2.2.2.2.2.2.2.2.2.2.2.2.1
                  have r_180 : ∀ I, Amb.Γ _ I → Rep.is I v95 ((x89, x92) : ((Dk K) × (Dk K))) := fun I γ => (rr165 I γ).2.2.2.2.2.2.2.2.2.2.2.2.2.2.1
                  have r_181 : ∀ I, Amb.Γ _ I → Rep.is I v98 (x97.1 : (Dk K)) := fun I γ => (rr165 I γ).2.2.2.2.2.2.2.2.2.2.2.2.2.2.2.1
                  have r_182 : ∀ I, Amb.Γ _ I → Rep.is I v99 (x97.2 : (Dk K)) := fun I γ => (rr165 I γ).2.2.2.2.2.2.2.2.2.2.2.2.2.2.2.2.1
                  have r_183 : ∀ I, Amb.Γ _ I → Rep.is I v103 (x102 : (Tx × (Dk K))) := fun I γ => (rr165 I γ).2.2.2.2.2.2.2.2.2.2.2.2.2.2.2.2.2.1
                  have r_184 : ∀ I, Amb.Γ _ I → Rep.is I v109 (x108 : (Tx × (Dk K))) := fun I γ => (rr165 I γ).2.2.2.2.2.2.2.2.2.2.2.2.2.2.2.2.2.2.1
                  have r_185 : ∀ I, Amb.Γ _ I → Rep.is I v116 (x115 : (Tx × (Dk K))) := fun I γ => (rr165 I γ).2.2.2.2.2.2.2.2.2.2.2.2.2.2.2.2.2.2.2.1
                  have r_186 : ∀ I, Amb.Γ _ I → Rep.is I v127 (x126 : (Tx × (Dk K))) := fun I γ => (rr165 I γ).2.2.2.2.2.2.2.2.2.2.2.2.2.2.2.2.2.2.2.2.1
                  have r_187 : ∀ I, Amb.Γ _ I → Rep.is I v131 ((!(eqP K x126 ((tx [110, 101, 116]), (dk (K := K) .non)))) : Bool) := fun I γ => (rr165 I γ).2.2.2.2.2.2.2.2.2.2.2.2.2.2.2.2.2.2.2.2.2.1
                  have r_188 : ∀ I, Amb.Γ _ I → Rep.is I v137 (x136 : (Tx × (Dk K))) := fun I γ => (rr165 I γ).2.2.2.2.2.2.2.2.2.2.2.2.2.2.2.2.2.2.2.2.2.2.1
                  have r_189 : ∀ I, Amb.Γ _ I → Rep.is I v141 ((!(eqP K x136 ((tx [110, 101, 116]), (dk (K := K) .non)))) : Bool) := fun I γ => (rr165 I γ).2.2.2.2.2.2.2.2.2.2.2.2.2.2.2.2.2.2.2.2.2.2.2.1
                  have r_190 : ∀ I, Amb.Γ _ I → Rep.is I v146 (x145 : (Tx × (Dk K))) := fun I γ => (rr165 I γ).2.2.2.2.2.2.2.2.2.2.2.2.2.2.2.2.2.2.2.2.2.2.2.2.1
                  have r_191 : ∀ I, Amb.Γ _ I → Rep.is I v150 ((!(eqP K x145 ((tx [112, 114, 111, 99, 101, 115, 115]), (dk (K := K) .non)))) : Bool) := fun I γ => (rr165 I γ).2.2.2.2.2.2.2.2.2.2.2.2.2.2.2.2.2.2.2.2.2.2.2.2.2.1
                  have r_192 : ∀ I, Amb.Γ _ I → Rep.is I v154 (x153 : Tx) := fun I γ => (rr165 I γ).2.2.2.2.2.2.2.2.2.2.2.2.2.2.2.2.2.2.2.2.2.2.2.2.2.2.1
                  have r_193 : ∀ I, Amb.Γ _ I → Rep.is I v154 (x153 : Tx) := fun I γ => (rr165 I γ).2.2.2.2.2.2.2.2.2.2.2.2.2.2.2.2.2.2.2.2.2.2.2.2.2.2.2
                  obtain ⟨⟨q194, q195, q196⟩, e⟩ := e
                  refine d_if h (eb_test (ep_op (os_nePL (K := K) (q195) (q196)) (ep_own rfl (o_get (j := 0) o rfl)) (EvP.rl (ep_mulL (q194) (EvP.rl (ep_lst (el_cons (ep_tup2 (ea_cons (ep_txc (by rfl) (by decide)) (ea_cons (ep_cx ep_non cv_non) ea_nil))) el_nil) (by show 1 ≤ 16777216; decide))) ep_int)))) e (fun c197 e I1 H1 h => ?_) (fun c197 e I1 H1 h => ?_)
                  · exact st_ret h ep_bl (fun v I1 H1 h r => k _ e v I1 H1 r)
                  · refine kN49 _ _ _ _ _ _ e ?_ ?_ (h.pick o [] (by decide) rfl)
                    · exact ⟨_, _, _, _, _, _, _, _, _, _, _, _, _, _, _, rfl, fun I γ => r_166 I γ, rfl⟩
                    · exact fun I γ => r_167 I γ
                · rintro x230 s198 σ2 a2 n2 Iv233 tl I1 H1 v N hx ⟨p199, u200, rfl, rr201, o⟩ vw232 e h hr kN237 kB238
                  have r_202 : ∀ I, Amb.Γ _ I → Rep.is I v2 (script1 : (Scr K)) := fun I γ => (rr201 I γ).1
                  have r_203 : ∀ I, Amb.Γ _ I → Same Iv45 I := fun I γ => (rr201 I γ).2.1
                  have r_204 : ∀ I, Amb.Γ _ I → Rep.is I v43 (x42 : Int) := fun I γ => (rr201 I γ).2.2.1
                  have r_205 : ∀ I, Amb.Γ _ I → Rep.is I v52 (x51 : (List (T3 Sg Tx Tx))) := fun I γ => (rr201 I γ).2.2.2.1
                  have r_206 : ∀ I, Amb.Γ _ I → Rep.is I v55 (channels_here54 : (List (T3 Sg Tx Tx))) := fun I γ => (rr201 I γ).2.2.2.2.1
                  have r_207 : ∀ I, Amb.Γ _ I → Rep.is I v57 (x56 : (NetV K)) := fun I γ => (rr201 I γ).2.2.2.2.2.1
                  have r_208 : ∀ I, Amb.Γ _ I → Rep.is I v60 ((x56, ((Nw.F_l_all_names channels_here54).getD default)) : ((NetV K) × (List Tx))) := fun I γ => (rr201 I γ).2.2.2.2.2.2.1
                  have r_209 : ∀ I, Amb.Γ _ I → Rep.is I v63 (x62.1 : (NetV K)) := fun I γ => (rr201 I γ).2.2.2.2.2.2.2.1
                  have r_210 : ∀ I, Amb.Γ _ I → Rep.is I v64 (x62.2 : (List Tx)) := fun I γ => (rr201 I γ).2.2.2.2.2.2.2.2.1
                  have r_211 : ∀ I, Amb.Γ _ I → LateR I v70 (s68.1 : Option Tx) := fun I γ => (rr201 I γ).2.2.2.2.2.2.2.2.2.1
                  have r_212 : ∀ I, Amb.Γ _ I → LateR I v71 (s68.2.1 : Option Tx) := fun I γ => (rr201 I γ).2.2.2.2.2.2.2.2.2.2.1
                  have r_213 : ∀ I, Amb.Γ _ I → LateR I v72 (s68.2.2 : Option Int) := fun I γ => (rr201 I γ).2.2.2.2.2.2.2.2.2.2.2.1
                  have r_214 : ∀ I, Amb.Γ _ I → Rep.is I v90 (x89 : (Dk K)) := fun I γ => (rr201 I γ).2.2.2.2.2.2.2.2.2.2.2.2.1
                  have r_215 : ∀ I, Amb.Γ _ I → Rep.is I v93 (x92 : (Dk K)) := fun I γ => (rr201 I γ).2.2.2.2.2.2.2.2.2.2.2.2.2.1
                  have r_216 : ∀ I, Amb.Γ _ I → Rep.is I v95 ((x89, x92) : ((Dk K) × (Dk K))) := fun I γ => (rr201 I γ).2.2.2.2.2.2.2.2.2.2.2.2.2.2.1
                  have r_217 : ∀ I, Amb.Γ _ I → Rep.is I v98 (x97.1 : (Dk K)) := fun I γ => (rr201 I γ).2.2.2.2.2.2.2.2.2.2.2.2.2.2.2.1
                  have r_218 : ∀ I, Amb.Γ _ I → Rep.is I v99 (x97.2 : (Dk K)) := fun I γ => (rr201 I γ).2.2.2.2.2.2.2.2.2.2.2.2.2.2.2.2.1
                  have r_219 : ∀ I, Amb.Γ _ I → Rep.is I v103 (x102 : (Tx × (Dk K))) := fun I γ => (rr201 I γ).2.2.2.2.2.2.2.2.2.2.2.2.2.2.2.2.2.1
                  have r_220 : ∀ I, Amb.Γ _ I → Rep.is I v109 (x108 : (Tx × (Dk K))) := fun I γ => (rr201 I γ).2.2.2.2.2.2.2.2.2.2.2.2.2.2.2.2.2.2.1
                  have r_221 : ∀ I, Amb.Γ _ I → Rep.is I v116 (x115 : (Tx × (Dk K))) := fun I γ => (rr201 I γ).2.2.2.2.2.2.2.2.2.2.2.2.2.2.2.2.2.2.2.1
                  have r_222 : ∀ I, Amb.Γ _ I → Rep.is I v127 (x126 : (Tx × (Dk K))) := fun I γ => (rr201 I γ).2.2.2.2.2.2.2.2.2.2.2.2.2.2.2.2.2.2.2.2.1
                  have r_223 : ∀ I, Amb.Γ _ I → Rep.is I v131 ((!(eqP K x126 ((tx [110, 101, 116]), (dk (K := K) .non)))) : Bool) := fun I γ => (rr201 I γ).2.2.2.2.2.2.2.2.2.2.2.2.2.2.2.2.2.2.2.2.2.1
                  have r_224 : ∀ I, Amb.Γ _ I → Rep.is I v137 (x136 : (Tx × (Dk K))) := fun I γ => (rr201 I γ).2.2.2.2.2.2.2.2.2.2.2.2.2.2.2.2.2.2.2.2.2.2.1
                  have r_225 : ∀ I, Amb.Γ _ I → Rep.is I v141 ((!(eqP K x136 ((tx [110, 101, 116]), (dk (K := K) .non)))) : Bool) := fun I γ => (rr201 I γ).2.2.2.2.2.2.2.2.2.2.2.2.2.2.2.2.2.2.2.2.2.2.2.1
                  have r_226 : ∀ I, Amb.Γ _ I → Rep.is I v146 (x145 : (Tx × (Dk K))) := fun I γ => (rr201 I γ).2.2.2.2.2.2.2.2.2.2.2.2.2.2.2.2.2.2.2.2.2.2.2.2.1
                  have r_227 : ∀ I, Amb.Γ _ I → Rep.is I v150 ((!(eqP K x145 ((tx [112, 114, 111, 99, 101, 115, 115]), (dk (K := K) .non)))) : Bool) := fun I γ => (rr201 I γ).2.2.2.2.2.2.2.2.2.2.2.2.2.2.2.2.2.2.2.2.2.2.2.2.2.1
                  have r_228 : ∀ I, Amb.Γ _ I → Rep.is I v154 (x153 : Tx) := fun I γ => (rr201 I γ).2.2.2.2.2.2.2.2.2.2.2.2.2.2.2.2.2.2.2.2.2.2.2.2.2.2.1
                  have r_229 : ∀ I, Amb.Γ _ I → Rep.is I v154 (x153 : Tx) := fun I γ => (rr201 I γ).2.2.2.2.2.2.2.2.2.2.2.2.2.2.2.2.2.2.2.2.2.2.2.2.2.2.2
                  refine bd_name n2 I1 H1 v h hr _ fun σ3 a3 hz h => ?_
                  obtain ⟨v231, rfl, rfl⟩ := hz
                  have r_234 := rep_last h
                  refine d_appDs (j := 0) rfl h (o_get o rfl) ?_
                  refine d_told lf (word_ok T) h (ex_methW (C := He.ga K "Net") (F := (fun z : (NetV K) × (Dk K) × (Dk K) × (Dk K) × Unit => (Nw.F_Net_relays (K := K)) z.1 z.2.1 z.2.2.1 z.2.2.2.1)) (show ("relays" : Str) ∉ (["by_letter"] : List Str) by decide) (ep_var rfl fun I γ => r_209 I (And.left γ)) (ea_cons (ep_cx (ep_op os_ix20 (ep_var rfl fun I γ => r_234 I γ) ep_int) cv_str) (ea_cons (ep_cx (ep_op os_ix21 (ep_var rfl fun I γ => r_234 I γ) ep_int) cv_str) (ea_cons (ep_var rfl fun I γ => r_218 I (And.left γ)) ea_nil)))) e fun x239 v240 n2 I1 H1 e h => ?_
                  have r_t241 := rep_last h
                  obtain ⟨q242, e⟩ := e
                  refine f_app2 h (o_get (j := 0) o rfl) (r_t241 _ h.γ) (q242) e fun words243 I1 H1 e h => ?_
                  have o := o_set (j := 0) h o
                  refine d_appD (j := 0) rfl h (o_get o rfl) ?_
                  obtain ⟨q244, e⟩ := e
                  refine d_told lf (word_ok T) h (ex_meth (C := He.ga K "Net") (F := (fun z : (NetV K) × (Dk K) × (Dk K) × (Dk K) × Unit => (Nw.F_Net_best (K := K)) z.1 z.2.1 z.2.2.1 z.2.2.2.1)) (show ("best" : Str) ∉ (["by_letter"] : List Str) by decide) (ep_var rfl fun I γ => r_209 I (And.left (And.left γ))) (ea_cons (ep_cx (ep_op os_ix20 (ep_var rfl fun I γ => r_234 I (And.left γ)) ep_int) cv_str) (ea_cons (ep_cx (ep_op os_ix21 (ep_var rfl fun I γ => r_234 I (And.left γ)) ep_int) cv_str) (ea_cons (ep_cx (ep_late rfl (fun I γ => r_213 I (And.left (And.left γ))) (q244)) cv_int) ea_nil)))) e fun x245 v246 n2 I1 H1 e h => ?_
                  have r_t247 := rep_last h
                  obtain ⟨q248, e⟩ := e
                  refine f_app2 h (o_get (j := 0) o rfl) (r_t247 _ h.γ) (q248) e fun words249 I1 H1 e h => ?_
                  have o := o_set (j := 0) h o
                  refine kN237 _ _ _ _ _ _ e ?_ ?_ h
                  · exact ⟨p199, _, rfl, fun I γ => ⟨r_202 I (And.left (And.left (And.left γ))), r_203 I (And.left (And.left (And.left γ))), r_204 I (And.left (And.left (And.left γ))), r_205 I (And.left (And.left (And.left γ))), r_206 I (And.left (And.left (And.left γ))), r_207 I (And.left (And.left (And.left γ))), r_208 I (And.left (And.left (And.left γ))), r_209 I (And.left (And.left (And.left γ))), r_210 I (And.left (And.left (And.left γ))), r_211 I (And.left (And.left (And.left γ))), r_212 I (And.left (And.left (And.left γ))), r_213 I (And.left (And.left (And.left γ))), r_214 I (And.left (And.left (And.left γ))), r_215 I (And.left (And.left (And.left γ))), r_216 I (And.left (And.left (And.left γ))), r_217 I (And.left (And.left (And.left γ))), r_218 I (And.left (And.left (And.left γ))), r_219 I (And.left (And.left (And.left γ))), r_220 I (And.left (And.left (And.left γ))), r_221 I (And.left (And.left (And.left γ))), r_222 I (And.left (And.left (And.left γ))), r_223 I (And.left (And.left (And.left γ))), r_224 I (And.left (And.left (And.left γ))), r_225 I (And.left (And.left (And.left γ))), r_226 I (And.left (And.left (And.left γ))), r_227 I (And.left (And.left (And.left γ))), r_228 I (And.left (And.left (And.left γ))), r_229 I (And.left (And.left (And.left γ)))⟩, o⟩
                  · exact fun I γ => vw232 I (And.left (And.left (And.left γ)))
      · rintro x270 s250 σ2 a2 n2 Iv273 tl I1 H1 v N hx ⟨v251, v252, v253, u254, u255, u256, rfl, rr257, o⟩ vw272 e h hr kN277 kB278
        have r_258 : ∀ I, Amb.Γ _ I → Rep.is I v2 (script1 : (Scr K)) := fun I γ => (rr257 I γ).1
        have r_259 : ∀ I, Amb.Γ _ I → Same Iv45 I := fun I γ => (rr257 I γ).2.1
        have r_260 : ∀ I, Amb.Γ _ I → Rep.is I v43 (x42 : Int) := fun I γ => (rr257 I γ).2.2.1
        have r_261 : ∀ I, Amb.Γ _ I → Rep.is I v52 (x51 : (List (T3 Sg Tx Tx))) := fun I γ => (rr257 I γ).2.2.2.1
        have r_262 : ∀ I, Amb.Γ _ I → Rep.is I v55 (channels_here54 : (List (T3 Sg Tx Tx))) := fun I γ => (rr257 I γ).2.2.2.2.1
        have r_263 : ∀ I, Amb.Γ _ I → Rep.is I v57 (x56 : (NetV K)) := fun I γ => (rr257 I γ).2.2.2.2.2.1
        have r_264 : ∀ I, Amb.Γ _ I → Rep.is I v60 ((x56, ((Nw.F_l_all_names channels_here54).getD default)) : ((NetV K) × (List Tx))) := fun I γ => (rr257 I γ).2.2.2.2.2.2.1
        have r_265 : ∀ I, Amb.Γ _ I → Rep.is I v63 (x62.1 : (NetV K)) := fun I γ => (rr257 I γ).2.2.2.2.2.2.2.1
        have r_266 : ∀ I, Amb.Γ _ I → Rep.is I v64 (x62.2 : (List Tx)) := fun I γ => (rr257 I γ).2.2.2.2.2.2.2.2.1
        have r_267 : ∀ I, Amb.Γ _ I → LateR I v251 (s250.1 : Option Tx) := fun I γ => (rr257 I γ).2.2.2.2.2.2.2.2.2.1
        have r_268 : ∀ I, Amb.Γ _ I → LateR I v252 (s250.2.1 : Option Tx) := fun I γ => (rr257 I γ).2.2.2.2.2.2.2.2.2.2.1
        have r_269 : ∀ I, Amb.Γ _ I → LateR I v253 (s250.2.2 : Option Int) := fun I γ => (rr257 I γ).2.2.2.2.2.2.2.2.2.2.2
        refine bd_name n2 I1 H1 v h hr _ fun σ3 a3 hz h => ?_
        obtain ⟨v271, rfl, rfl⟩ := hz
        have r_274 := rep_last h
        refine ho_asgs ?_
        refine hoA0 lin_tup ?_
        refine d_pickL df (dr_v rfl) h (EvP.rl (ep_var rfl fun I γ => r_266 I (And.left γ))) e fun x279 v280 n2 I1 H1 e h => ?_
        have r_t281 := rep_last h
        refine hoA1 lin_tup ?_
        refine d_pickL df (dr_v rfl) h (EvP.rl (ep_var rfl fun I γ => r_266 I (And.left (And.left γ)))) e fun x282 v283 n2 I1 H1 e h => ?_
        have r_t284 := rep_last h
        refine e_p h (ep_tup2 (ea_cons (ep_cv fun I γ => r_t281 I (And.left γ)) (ea_cons (ep_cv fun I γ => r_t284 I γ) ea_nil))) fun v285 I1 H1 h => ?_
        have r_t286 := rep_last h
        refine d_asgs h (ep_cv fun I γ => r_t286 I γ) (fun x => bd_2 (x := x)) e fun x287 σ2 a2 I1 H1 e z h => ?_
        obtain ⟨v288, v289, rfl, rfl⟩ := z
        have r_290 := rep_last2 h
        have r_291 := rep_last h
        refine ho_asgs ?_
        refine ho_op1 ?_
        refine e_p h ep_int fun v292 I1 H1 h => ?_
        have r_t293 := rep_last h
        refine ho_op2 ?_
        refine d_next df (dr_v rfl) h ep_int e fun r294 v295 n2 I1 H1 e h => ?_
        have r_t296 := rep_last h
        refine e_p h (ep_op (os_II rfl) (ep_cv fun I γ => r_t293 I (And.left γ)) (ep_cv fun I γ => r_t296 I γ)) fun v297 I1 H1 h => ?_
        have r_t298 := rep_last h
        refine d_sets h (ep_cv fun I γ => r_t298 I γ) e fun most299 v300 I1 H1 e h => ?_
        have r_most299 := rep_last h
        obtain ⟨q301, e⟩ := e
        refine d_sets h (ep_call (F := (fun z : (List (T3 Sg Tx Tx)) × Tx × Tx × Int × Unit => (Nw.F_l_relays (K := K)) z.1 z.2.1 z.2.2.1 z.2.2.2.1)) (ea_cons (ep_var rfl fun I γ => r_262 I (And.left (And.left (And.left (And.left (And.left (And.left (And.left (And.left (And.left (And.left γ))))))))))) (ea_cons (ep_var rfl fun I γ => r_290 I (And.left (And.left (And.left (And.left γ))))) (ea_cons (ep_var rfl fun I γ => r_291 I (And.left (And.left (And.left (And.left γ))))) (ea_cons (ep_var rfl fun I γ => r_most299 I γ) ea_nil)))) (someD (q301))) e fun due302 v303 I1 H1 e h => ?_
        have r_due302 := rep_last h
        refine asg_methNs (C := He.ga K "Net") (F := (fun z : (NetV K) × (Dk K) × (Dk K) × (Dk K) × Unit => (Nw.F_Net_relays (K := K)) z.1 z.2.1 z.2.2.1 z.2.2.2.1)) (show ("relays" : Str) ∉ (["by_letter"] : List Str) by decide) h (ep_var rfl fun I γ => r_265 I (And.left (And.left (And.left (And.left (And.left (And.left (And.left (And.left (And.left (And.left (And.left γ)))))))))))) (ea_cons (ep_cx (ep_var rfl fun I γ => r_290 I (And.left (And.left (And.left (And.left (And.left γ)))))) cv_str) (ea_cons (ep_cx (ep_var rfl fun I γ => r_291 I (And.left (And.left (And.left (And.left (And.left γ)))))) cv_str) (ea_cons (ep_cx (ep_var rfl fun I γ => r_most299 I (And.left γ)) cv_int) ea_nil))) e fun found304 p305 I1 H1 e h => ?_
        have o := o_own h o
        obtain ⟨⟨q307, q308⟩, e⟩ := e
        refine d_ifs h (eb_or (eb_not (eb_val (ep_isiR (ep_own rfl (o_get (j := 0) o rfl))))) (fun c306 => (eb_test (ep_op os_ne' (ep_b1 (c_reprL (q307 c306)) (ep_own rfl (o_get (j := 0) o rfl))) (ep_b1 (c_reprL (q308 c306)) (EvP.rl (ep_var rfl fun I γ => r_due302 I γ))))))) e (fun c309 e I1 H1 h => ?_) (fun c309 e I1 H1 h => ?_)
        · exact st_ret h ep_bl (fun v I1 H1 h r => k _ e v I1 H1 r)
        · refine next_of ?_
          obtain ⟨q310, e⟩ := e
          refine d_apps h rfl (o_get (j := 0) o rfl) (ep_txc (by rfl) (by decide)) (q310) e fun found311 I1 H1 e h => ?_
          have o := o_set (j := 0) h o
          refine ho_if ?_
          refine ho_op1 ?_
          refine hoA0 lin_cb ?_
          refine o_methW (C := He.ga K "Net") (F := (fun z : (NetV K) × (Dk K) × (Dk K) × (Dk K) × Unit => (Nw.F_Net_relays (K := K)) z.1 z.2.1 z.2.2.1 z.2.2.2.1)) (show ("relays" : Str) ∉ (["by_letter"] : List Str) by decide) h (ep_var rfl fun I γ => r_265 I (And.left (And.left (And.left (And.left (And.left (And.left (And.left (And.left (And.left (And.left (And.left γ)))))))))))) (ea_cons (ep_cx (ep_var rfl fun I γ => r_290 I (And.left (And.left (And.left (And.left (And.left γ)))))) cv_str) (ea_cons (ep_cx (ep_var rfl fun I γ => r_291 I (And.left (And.left (And.left (And.left (And.left γ)))))) cv_str) (ea_cons (ep_cx (ep_var rfl fun I γ => r_most299 I (And.left γ)) cv_int) ea_nil))) e fun x312 v313 I1 H1 e h => ?_
          have r_t314 := rep_last h
          obtain ⟨q315, e⟩ := e
          refine e_p h (ep_b1 (c_reprL (q315)) (EvP.rl (ep_cv fun I γ => r_t314 I γ))) fun v316 I1 H1 h => ?_
          have r_t317 := rep_last h
          obtain ⟨q318, e⟩ := e
          refine e_p h (ep_op os_ne' (ep_cv fun I γ => r_t317 I γ) (ep_b1 (c_reprL (q318)) (EvP.rl (ep_var rfl fun I γ => r_due302 I (And.left (And.left γ)))))) fun v319 I1 H1 h => ?_
          have r_t320 := rep_last h
          refine d_if h (eb_test (ep_cv fun I γ => r_t320 I γ)) e (fun c321 e I1 H1 h => ?_) (fun c321 e I1 H1 h => ?_)
          · exact st_ret h ep_bl (fun v I1 H1 h r => k _ e v I1 H1 r)
          · refine kN277 _ _ _ _ _ _ e ?_ ?_ (h.pick o [] (by decide) rfl)
            · exact ⟨_, _, _, _, _, _, rfl, fun I γ => ⟨r_258 I (And.left (And.left (And.left (And.left (And.left (And.left (And.left (And.left (And.left (And.left (And.left (And.left (And.left (And.left γ)))))))))))))), r_259 I (And.left (And.left (And.left (And.left (And.left (And.left (And.left (And.left (And.left (And.left (And.left (And.left (And.left (And.left γ)))))))))))))), r_260 I (And.left (And.left (And.left (And.left (And.left (And.left (And.left (And.left (And.left (And.left (And.left (And.left (And.left (And.left γ)))))))))))))), r_261 I (And.left (And.left (And.left (And.left (And.left (And.left (And.left (And.left (And.left (And.left (And.left (And.left (And.left (And.left γ)))))))))))))), r_262 I (And.left (And.left (And.left (And.left (And.left (And.left (And.left (And.left (And.left (And.left (And.left (And.left (And.left (And.left γ)))))))))))))), r_263 I (And.left (And.left (And.left (And.left (And.left (And.left (And.left (And.left (And.left (And.left (And.left (And.left (And.left (And.left γ)))))))))))))), r_264 I (And.left (And.left (And.left (And.left (And.left (And.left (And.left (And.left (And.left (And.left (And.left (And.left (And.left (And.left γ)))))))))))))), r_265 I (And.left (And.left (And.left (And.left (And.left (And.left (And.left (And.left (And.left (And.left (And.left (And.left (And.left (And.left γ)))))))))))))), r_266 I (And.left (And.left (And.left (And.left (And.left (And.left (And.left (And.left (And.left (And.left (And.left (And.left (And.left (And.left γ)))))))))))))), ⟨_, rfl, r_290 I (And.left (And.left (And.left (And.left (And.left (And.left (And.left (And.left γ))))))))⟩, ⟨_, rfl, r_291 I (And.left (And.left (And.left (And.left (And.left (And.left (And.left (And.left γ))))))))⟩, ⟨_, rfl, r_most299 I (And.left (And.left (And.left (And.left γ))))⟩⟩, rfl⟩
            · exact fun I γ => vw272 I (And.left (And.left (And.left (And.left (And.left (And.left (And.left (And.left (And.left (And.left (And.left (And.left (And.left (And.left γ))))))))))))))
end
end Nw

namespace Nw
open PySem PySem.Spec PyProof.Rows L2
def abcd (c : Nat) : Bool := decide (c ∈ [97, 98, 99, 100])
def pairOf (c : Nat) (x : Ch) : Tx × Tx := if abcd c = true then (x.b, x.c) else (x.c, x.b)
def stepOf (cs : List Ch) (c : Nat) (p : Tx) : Option Tx := match cs.find? (fun x => decide (x.a.c = lo1 c)) with
  | none => none
  | some x => if (pairOf c x).1 = p then some (pairOf c x).2 else none
def runS {α S : Type} (step : α → S → Option S) : List α → S → Option S
  | [], s => some s
  | x :: xs, s => match step x s with
    | none => none
    | some s' => runS step xs s'
theorem loop_run {α S β : Type} {body : α → S → (S → β) → (S → β) → β} {rest : S → β} {step : α → S → Option S} {stop : β} (Inv : S → Prop) : ∀ {xs : List α}, (∀ x ∈ xs, ∀ s, Inv s → ∀ next brk, body x s next brk = (match step x s with | none => stop | some s' => next s')) →
    (∀ x ∈ xs, ∀ s s', Inv s → step x s = some s' → Inv s') → ∀ s, Inv s → loopP xs body rest s = (match runS step xs s with | none => stop | some s' => rest s')
  | [], _, _, s, _ => rfl
  | x :: xs, hb, hi, s, h => by
    show body x s (loopP xs body rest) rest = _
    rw [hb x (List.mem_cons_self ..) s h]
    unfold runS
    cases e : step x s with
    | none => rfl
    | some s' => exact loop_run Inv (fun y hy => hb y (List.mem_cons_of_mem _ hy)) (fun y hy => hi y (List.mem_cons_of_mem _ hy)) s' (hi x (List.mem_cons_self ..) s s' h e)
def walkW (cs : List Ch) (l : List Nat) (p : Tx) : Option Tx := runS (fun g : Sg => stepOf cs g.c) (sgL l) p
theorem loop_names {β : Type} {body : Ch → List Tx → (List Tx → Option β) → (List Tx → Option β) → Option β} {rest : List Tx → Option β}
    (hb : ∀ x s next brk, s.length ≤ 100 → body x s next brk = next (s ++ [x.b, x.c].filterMap fun t => if (!decide (t ∈ s)) = true then some t else none)) :
    ∀ (cs : List Ch) (s : List Tx), (∀ c ∈ cs, c.b ≠ c.c) → s.length + 2 * cs.length ≤ 100 → loopP cs body rest s = rest ((namesN cs).foldl addL s)
  | [], _, _, _ => rfl
  | c :: cs, s, h, hl => by
    rw [List.length_cons] at hl
    show body c s (loopP cs body rest) rest = rest (([c.b, c.c] ++ namesN cs).foldl addL s)
    have hne := h c (List.mem_cons_self ..)
    have e : (s ++ [c.b, c.c].filterMap fun t => if (!decide (t ∈ s)) = true then some t else none) = [c.b, c.c].foldl addL s := by
      have a1 : ∀ (L : List Tx) (t : Tx), addL L t = if t ∈ L then L else L ++ [t] := fun L t => by
        unfold addL
        by_cases z : t ∈ L
        · simp [z]
        · simp [z]
      rw [List.foldl_cons, List.foldl_cons, List.foldl_nil, a1, a1]
      by_cases h1 : c.b ∈ s <;> by_cases h2 : c.c ∈ s <;> simp [h1, h2, hne.symm]
    rw [hb c s _ _ (by omega), e, List.foldl_append]
    have hl2 := foldl_addL_len [c.b, c.c] s
    exact loop_names hb cs _ (fun x hx => h x (List.mem_cons_of_mem _ hx)) (by rw [show [c.b, c.c].length = 2 from rfl] at hl2; omega)
theorem all_names_eq {cs : List Ch} (h : ∀ c ∈ cs, c.b ≠ c.c) (hl : cs.length ≤ 4) : F_l_all_names cs = some (srtT (distinct (namesN cs))) := by
  unfold F_l_all_names
  show loopP cs _ _ [] = _
  rw [loop_names (fun x s next brk hs => ?_) cs [] h (by show 0 + _ ≤ _; omega)]
  · have z := foldl_addL_len (namesN cs) []
    rw [namesN_len, List.length_nil] at z
    show needP _ _ = _
    rw [need_p ⟨by omega, by rw [List.length_map]; omega⟩, List.map_id' _]
    rfl
  · have z := List.length_filterMap_le (fun t => if (!decide (t ∈ s)) = true then some t else none) [x.b, x.c]
    rw [need_p ⟨(by show 2 ≤ 16777216; decide), by
      have z2 : [x.b, x.c].length = 2 := rfl
      show s.length + (List.filterMap (fun t => if (!decide (t ∈ s)) = true then some t else none) [x.b, x.c]).length ≤ _
      omega⟩]
    rfl
section
variable {K : PySem.W.Frag}
theorem key_sg (x y : Sg) : decide (KeyT.k x = KeyT.k y) = decide (x.c = y.c) := by
  rw [decide_eq_decide]
  exact ⟨fun h => by rw [KeyT.inj h], fun h => by rw [Sg.ext h]⟩
theorem ends_eq {cs : List Ch} (nd : (cs.map (·.a)).Nodup) (hl : cs.length ≤ 4) : F_l_ends_by cs = some ⟨cs.map fun x => (x.a, (x.b, x.c))⟩ := by
  unfold F_l_ends_by
  rw [need_p (by omega), ofL_nd]
  rw [List.map_map]
  have e : ((fun q : Sg × Tx × Tx => KeyT.k q.1) ∘ fun x : Ch => (x.a, (x.b, x.c))) = (fun x : Sg => KeyT.k x) ∘ fun x : Ch => x.a := rfl
  rw [e, ← List.map_map, nodup_map_inj fun x y h => KeyT.inj h]
  exact nd
theorem ends_get (cs : List Ch) (c : Nat) : (⟨cs.map fun x => (x.a, (x.b, x.c))⟩ : Dc Sg (Tx × Tx)).get? (sgn c) = (cs.find? fun x => decide (x.a.c = c)).map fun x => (x.b, x.c) := by
  rw [get_map (fun x : Ch => x.a) (fun x : Ch => (x.b, x.c))]
  congr 2
  funext x
  exact key_sg _ _
theorem shT_pr {l : List Nat} (h : isPr l = true) : shT l = true := by
  rw [isPr, Bool.and_eq_true] at h
  refine List.all_eq_true.mpr fun c hc => decide_eq_true ?_
  have := of_decide_eq_true (List.all_eq_true.mp h.2 c hc)
  omega
theorem pairOf_mem (c : Nat) (x : Ch) : ((pairOf c x).1 = x.b ∧ (pairOf c x).2 = x.c) ∨ ((pairOf c x).1 = x.c ∧ (pairOf c x).2 = x.b) := by
  unfold pairOf
  cases abcd c with
  | true => exact .inl ⟨rfl, rfl⟩
  | false => exact .inr ⟨rfl, rfl⟩
theorem stepOf_mem {cs : List Ch} {c : Nat} {p q : Tx} (h : stepOf cs c p = some q) : ∃ x ∈ cs, q = x.b ∨ q = x.c := by
  unfold stepOf at h
  cases hf : cs.find? fun x => decide (x.a.c = lo1 c) with
  | none => rw [hf] at h; cases h
  | some x =>
    rw [hf] at h
    dsimp only at h
    refine ⟨x, List.mem_of_find?_eq_some hf, ?_⟩
    by_cases hq : (pairOf c x).1 = p
    · rw [if_pos hq] at h
      cases h
      rcases pairOf_mem c x with z | z
      · exact .inr z.2
      · exact .inl z.2
    · rw [if_neg hq] at h
      cases h
theorem law_walked {cs : List Ch} (nd : (cs.map (·.a)).Nodup) (hl : cs.length ≤ 4) (ok : ∀ x ∈ cs, shT x.b.l = true ∧ shT x.c.l = true) (l : List Nat) (p : Option Tx) (h : ∀ c ∈ l, c < 128) (hp : ∀ q, p = some q → shT q.l = true) (hne : p = none → l ≠ []) : F_l_walked (K := K) cs ⟨l⟩ p = some (p.bind (walkW cs l)) := by
  unfold F_l_walked
  rw [ends_eq nd hl]
  refine (need_p rfl).trans ?_
  show loopP (sgL l) _ _ p = _
  have z := loop_run (xs := sgL l) (body := fun (x34 : Sg) (s23 : (Option Tx)) next39 brk40 => needP (Sg.c x34 < 128) <| if (!(Dc.get? (⟨cs.map fun x => (x.a, (x.b, x.c))⟩ : Dc Sg (Tx × Tx)) (sgn (lo1 (Sg.c x34)))).isSome) = true then ((some (none : Option Tx))) else (needP ((Sg.c x34 < 128) ∧ ((Dc.get? (⟨cs.map fun x => (x.a, (x.b, x.c))⟩ : Dc Sg (Tx × Tx)) (sgn (lo1 (Sg.c x34)))).isSome = true)) <| bindP ((Dc.get? (⟨cs.map fun x => (x.a, (x.b, x.c))⟩ : Dc Sg (Tx × Tx)) (sgn (lo1 (Sg.c x34)))).getD default) fun pair47 => bindP (if (decide (Sg.c x34 ∈ ((tx [97, 98, 99, 100]) : Tx).l)) = true then pair47 else ((pair47).2, (pair47).1)) fun x50 => needP ((EqD.sh K (some x50.1) = true) ∧ (EqD.sh K s23 = true)) <| if (!(decide ((some x50.1) = s23))) = true then ((some (none : Option Tx))) else (bindP (some x50.2) fun process58 => next39 process58)))
    (rest := fun s11 => some s11) (step := fun g s => match s with | none => none | some q => (stepOf cs g.c q).map some) (stop := some none) (fun s => ∀ q, s = some q → shT q.l = true) (fun x hx s hs next brk => ?_) (fun x hx s s' hs e => ?_) p hp
  · refine z.trans ?_
    have e : ∀ (xs : List Sg) (p : Tx), runS (fun (g : Sg) (s : Option Tx) => match s with | none => none | some q => (stepOf cs g.c q).map some) xs (some p) = (runS (fun g : Sg => stepOf cs g.c) xs p).map some := by
      intro xs
      induction xs with
      | nil => intro p; rfl
      | cons g xs ih =>
        intro p
        unfold runS
        dsimp only
        cases stepOf cs g.c p with
        | none => rfl
        | some q => exact ih q
    cases p with
    | some p =>
      rw [e]
      show _ = some (walkW cs l p)
      unfold walkW
      cases runS (fun g : Sg => stepOf cs g.c) (sgL l) p <;> rfl
    | none =>
      cases l with
      | nil => exact absurd rfl (hne rfl)
      | cons c l => rfl
  · have hc : x.c < 128 := h _ (mem_sgL hx)
    rw [need_p hc, ends_get]
    cases hf : cs.find? fun y => decide (y.a.c = lo1 x.c) with
    | none =>
      cases s with
      | none => rfl
      | some q =>
        dsimp only
        rw [show stepOf cs x.c q = none by unfold stepOf; rw [hf]]
        rfl
    | some y =>
      have hm := ok y (List.mem_of_find?_eq_some hf)
      dsimp only
      rw [if_neg (by exact fun z => nomatch z), need_p ⟨hc, rfl⟩]
      have hq1 : shT (pairOf x.c y).1.l = true := by
        rcases pairOf_mem x.c y with z | z <;> rw [z.1]
        · exact hm.1
        · exact hm.2
      show needP ((EqD.sh K (some (pairOf x.c y).1) = true) ∧ (EqD.sh K s = true)) (if (!(decide (some (pairOf x.c y).1 = s))) = true then some none else next (some (pairOf x.c y).2)) = _
      cases s with
      | none =>
        rw [need_p ⟨hq1, rfl⟩]
        rfl
      | some q =>
      rw [need_p ⟨hq1, hs q rfl⟩]
      dsimp only
      rw [show stepOf cs x.c q = if (pairOf x.c y).1 = q then some (pairOf x.c y).2 else none by unfold stepOf; rw [hf]]
      by_cases hq : (pairOf x.c y).1 = q
      · rw [decide_eq_true (by rw [hq]), if_pos hq]; rfl
      · rw [decide_eq_false (fun z => hq (Option.some.inj z)), if_neg hq]; rfl
  · cases s with
    | none => cases e
    | some q =>
    dsimp only at e
    cases hst : stepOf cs x.c q with
    | none => rw [hst] at e; cases e
    | some r =>
      rw [hst] at e
      cases e
      obtain ⟨y, hy, z⟩ := stepOf_mem hst
      intro q' eq'
      cases eq'
      rcases z with z | z <;> rw [z]
      · exact (ok y hy).1
      · exact (ok y hy).2
def isProc (n : NetV K) : Dt → Bool
  | .str l => decide (tx l ∈ namesN n.cs)
  | _ => false
theorem mem_procs (n : NetV K) (x : Tx) : x ∈ srtT (distinct (namesN n.cs)) ↔ x ∈ namesN n.cs := (srtT_perm _).mem_iff.trans mem_distinct
theorem need_process_run (n : NetV K) (d : Dt) : Run (F_Net_need_process (K := K) n ⟨d⟩) (if isProc n d = true then .ok () else .error ⟨"NoProcess", []⟩) := by
  unfold F_Net_need_process F_Net_processes
  cases d with
  | str l =>
    refine run_need ⟨fun _ => rfl, fun _ => rfl⟩ ?_
    show Run (if (false || !decide (tx l ∈ srtT (distinct (namesN n.cs)))) = true then _ else _) (if decide (tx l ∈ namesN n.cs) = true then _ else _)
    have e : decide (tx l ∈ srtT (distinct (namesN n.cs))) = decide (tx l ∈ namesN n.cs) := decide_eq_decide.mpr (mem_procs n _)
    rw [e]
    cases decide (tx l ∈ namesN n.cs) <;> exact run_pure
  | _ => exact run_need ⟨fun z => (nomatch z), fun _ => rfl⟩ run_pure
def chD (c : Ch) : Dt := .sq true [.str [c.a.c], .str c.b.l, .str c.c.l]
theorem wordE (t : List Nat) : eqP K (((tx t), dk (K := K) .non) : Tx × Dk K) ((tx t), dk (K := K) .non) = true := by
  show PyData.eqv (.tuple [.str (mk t), .none]) (.tuple [.str (mk t), .none]) = true
  unfold PyData.eqv
  simp [PyData.eqvAll, PyData.eqv]
theorem wordF {t : List Nat} (h : shT t = true) : fitE K (((tx t), dk (K := K) .non) : Tx × Dk K) = true := by
  unfold fitE SeqAt.shaped
  rw [show (RepD.py K ((tx t, dk (K := K) .non) : Tx × Dk K)) = .tuple [.str (mk t), .none] from rfl, show RepD.fit K ((tx t, dk (K := K) .non) : Tx × Dk K) = true from rfl, Bool.true_and, Bool.and_eq_true]
  refine ⟨?_, ?_⟩
  · simp only [PyData.canLay0, PyData.canLayAll0, Bool.and_true]
    exact shT_lay h
  · rw [depth_tup]
    simp [PyData.depthAll, PyData.depth]
theorem wordsE (ts : List (List Nat)) : eqP K (ts.map fun t => ((tx t), dk (K := K) .non)) (ts.map fun t => ((tx t), dk (K := K) .non)) = true := by
  show PyData.eqv (.list _) (.list _) = true
  unfold PyData.eqv
  rw [List.map_map]
  induction ts with
  | nil => rfl
  | cons t ts ih =>
    rw [List.map_cons]
    simp only [PyData.eqvAll, Bool.and_eq_true]
    exact ⟨wordE t, ih⟩
theorem wordsF {ts : List (List Nat)} (h : ts.all shT = true) : fitE K (ts.map fun t => ((tx t), dk (K := K) .non)) = true := by
  unfold fitE SeqAt.shaped
  rw [Bool.and_eq_true, Bool.and_eq_true]
  refine ⟨?_, ?_, ?_⟩
  · show List.all _ _ = true
    rw [List.all_map]
    exact List.all_eq_true.mpr fun _ _ => rfl
  · show PyData.canLayAll0 _ = true
    rw [List.map_map]
    induction ts with
    | nil => rfl
    | cons t ts ih =>
      rw [List.all_cons, Bool.and_eq_true] at h
      rw [List.map_cons]
      simp only [PyData.canLayAll0, Bool.and_eq_true]
      refine ⟨?_, ih h.2⟩
      show PyData.canLay0 (.tuple [.str (mk t), .none]) = true
      simp only [PyData.canLay0, PyData.canLayAll0, Bool.and_true]
      exact shT_lay h.1
  · show decide ((PyData.list _).depth ≤ 64) = true
    rw [depth_lst, List.map_map]
    refine decide_eq_true ?_
    have z : PyData.depthAll (ts.map ((RepD.py K) ∘ fun t => (((tx t), dk (K := K) .non) : Tx × Dk K))) ≤ 1 := by
      clear h
      induction ts with
      | nil => simp [PyData.depthAll]
      | cons t ts ih =>
        rw [List.map_cons]
        simp only [PyData.depthAll]
        have : (((RepD.py K) ∘ fun t => (((tx t), dk (K := K) .non) : Tx × Dk K)) t).depth = 1 := by
          show (PyData.tuple [.str (mk t), .none]).depth = 1
          rw [depth_tup]
          simp [PyData.depthAll, PyData.depth]
        omega
    omega
theorem nm_ok {cs : List Ch} (h : ChsOk cs) : ∀ x ∈ cs, shT x.b.l = true ∧ shT x.c.l = true := fun x hx => ⟨shT_pr (h.each x hx).1.b, shT_pr (h.each x hx).1.c⟩
theorem walkW_sh {cs : List Ch} (ok : ∀ x ∈ cs, shT x.b.l = true ∧ shT x.c.l = true) : ∀ (l : List Nat) (p q : Tx), shT p.l = true → walkW cs l p = some q → shT q.l = true
  | [], p, q, hp, e => by cases e; exact hp
  | c :: l, p, q, hp, e => by
    unfold walkW at e
    rw [show sgL (c :: l) = ⟨c⟩ :: sgL l from rfl] at e
    unfold runS at e
    cases hst : stepOf cs c p with
    | none => rw [hst] at e; cases e
    | some r =>
      rw [hst] at e
      have e : walkW cs l r = some q := e
      obtain ⟨y, hy, z⟩ := stepOf_mem hst
      refine walkW_sh ok l r q ?_ e
      rcases z with z | z <;> rw [z]
      · exact (ok y hy).1
      · exact (ok y hy).2
theorem ChsOk.ltr {cs : List Ch} (h : ChsOk cs) : ∀ x ∈ cs, isLtr x.a.c = true := fun x hx => (h.each x hx).1.a
theorem byL_ok {cs : List Ch} (h : ChsOk cs) : ((byL cs).map (·.a)).Nodup ∧ (byL cs).length ≤ 4 := by
  have p := byL_perm h.ltr
  exact ⟨((p.map (·.a)).nodup_iff).mpr h.nd, by rw [p.length_eq]; exact h.few⟩
def netC (K : PySem.W.Frag) {cs : List Ch} (h : ChsOk cs) : NetV K := ⟨byL cs, (byL_ok h).1, (byL_ok h).2⟩
theorem chD_isChn {c : Ch} (h : ChOk c ∧ c.b ≠ c.c) : (chD c).isChn = true := by
  show (isLtr c.a.c && (isPr c.b.l && (isPr c.c.l && !decide (tx c.b.l = tx c.c.l)))) = true
  rw [h.1.a, h.1.b, h.1.c, decide_eq_false (show ¬ tx c.b.l = tx c.c.l from h.2)]
  rfl
theorem chD_map (cs : List Ch) : (cs.map chD).map Dt.chn = cs := by
  rw [List.map_map]
  exact List.map_id' _
theorem chD_net {cs : List Ch} (h : ChsOk cs) : netB (cs.map chD) = true := by
  unfold netB
  rw [Bool.and_eq_true, Bool.and_eq_true]
  refine ⟨decide_eq_true ⟨?_, by rw [List.length_map]; exact h.few⟩, ?_, decide_eq_true ?_⟩
  · rw [List.length_map]
    have := h.ne
    cases cs with
    | nil => exact absurd rfl this
    | cons c cs => rw [List.length_cons]; omega
  · rw [List.all_map]
    exact List.all_eq_true.mpr fun c hc => chD_isChn (h.each c hc)
  · rw [List.map_map]
    exact h.nd
theorem netV_ext {n n2 : NetV K} (h : n.cs = n2.cs) : n = n2 := by
  cases n
  cases n2
  cases h
  rfl
theorem net_runD {d : Dt} (hl : d.items.length ≤ 1000) (h : d.isNet = true) : Run (F_Net (⟨d⟩ : Dk K)) (.ok (netOf d h)) := fun n M e => ⟨hl, by rw [dif_pos (show (⟨d⟩ : Dk K).d.isNet = true from h)]; exact e⟩
theorem net_run {cs : List Ch} (h : ChsOk cs) {d : Dk K} (hd : d.d = .sq false (cs.map chD)) : Run (F_Net d) (.ok (netC K h)) := by
  obtain ⟨d⟩ := d
  have hd : d = .sq false (cs.map chD) := hd
  subst hd
  have z := net_runD (K := K) (d := .sq false (cs.map chD)) (by show (cs.map chD).length ≤ 1000; rw [List.length_map]; have := h.few; omega) (chD_net h)
  have e : netOf (K := K) (.sq false (cs.map chD)) (chD_net h) = netC K h := netV_ext (by show byL ((cs.map chD).map Dt.chn) = byL cs; rw [chD_map])
  rw [e] at z
  exact z
theorem find_uniq {cs : List Ch} (nd : (cs.map (·.a)).Nodup) {x : Ch} (hx : x ∈ cs) : (cs.find? fun y => decide (y.a.c = x.a.c)) = some x := by
  induction cs with
  | nil => cases hx
  | cons y cs ih =>
    rw [List.map_cons, List.nodup_cons] at nd
    rcases List.mem_cons.mp hx with rfl | hx
    · rw [List.find?_cons_of_pos (by exact decide_eq_true rfl)]
    · rw [List.find?_cons_of_neg, ih nd.2 hx]
      intro e
      have e := of_decide_eq_true e
      exact nd.1 (by rw [show y.a = x.a from Sg.ext e]; exact List.mem_map_of_mem hx)
theorem find_perm {cs ds : List Ch} (p : ds.Perm cs) (nd : (cs.map (·.a)).Nodup) (c : Nat) : (ds.find? fun y => decide (y.a.c = c)) = cs.find? fun y => decide (y.a.c = c) := by
  have nd2 : (ds.map (·.a)).Nodup := ((p.map (·.a)).nodup_iff).mpr nd
  cases h : cs.find? fun y => decide (y.a.c = c) with
  | none =>
    refine List.find?_eq_none.mpr fun x hx => ?_
    exact List.find?_eq_none.mp h x (p.mem_iff.mp hx)
  | some x =>
    have hx := List.mem_of_find?_eq_some h
    have hc : x.a.c = c := by simpa using List.find?_some h
    subst hc
    exact find_uniq nd2 (p.mem_iff.mpr hx)
theorem stepOf_byL {cs : List Ch} (h : ChsOk cs) (c : Nat) (p : Tx) : stepOf (byL cs) c p = stepOf cs c p := by
  unfold stepOf
  rw [find_perm (byL_perm h.ltr) h.nd]
theorem walkW_byL {cs : List Ch} (h : ChsOk cs) (l : List Nat) (p : Tx) : walkW (byL cs) l p = walkW cs l p := by
  unfold walkW
  rw [show (fun g : Sg => stepOf (byL cs) g.c) = fun g : Sg => stepOf cs g.c from funext fun g => funext fun q => stepOf_byL h g.c q]
theorem namesN_byL {cs : List Ch} (h : ChsOk cs) (t : Tx) : t ∈ namesN (byL cs) ↔ t ∈ namesN cs := by
  have pm := byL_perm h.ltr
  unfold namesN
  rw [List.mem_flatMap, List.mem_flatMap]
  exact ⟨fun ⟨c, h1, h2⟩ => ⟨c, pm.mem_iff.mp h1, h2⟩, fun ⟨c, h1, h2⟩ => ⟨c, pm.mem_iff.mpr h1, h2⟩⟩
theorem names_pr {cs : List Ch} (h : ChsOk cs) {t : Tx} (m : t ∈ namesN cs) : isPr t.l = true := by
  obtain ⟨c, hc, m⟩ := List.mem_flatMap.mp m
  simp only [List.mem_cons, List.not_mem_nil, or_false] at m
  rcases m with rfl | rfl
  · exact (h.each c hc).1.b
  · exact (h.each c hc).1.c
abbrev namesS (cs : List Ch) : List Tx := srtT (distinct (namesN cs))
theorem namesS_mem {cs : List Ch} {t : Tx} : t ∈ namesS cs ↔ t ∈ namesN cs := (srtT_perm _).mem_iff.trans mem_distinct
theorem namesS_len {cs : List Ch} (h : ChsOk cs) : (namesS cs).length ≤ 8 := by
  have z := distinct_len (namesN cs)
  rw [namesN_len] at z
  have := h.few
  show (srtT _).length ≤ 8
  rw [(srtT_perm _).length_eq]
  omega
theorem namesS_ne {cs : List Ch} (h : ChsOk cs) : namesS cs ≠ [] := by
  have := h.ne
  cases cs with
  | nil => exact absurd rfl this
  | cons c cs => exact List.ne_nil_of_mem (namesS_mem.mpr (List.mem_flatMap.mpr ⟨c, List.mem_cons_self .., List.mem_cons_self ..⟩))
theorem l_names {cs : List Ch} (h : ChsOk cs) : F_l_all_names cs = some (namesS cs) := all_names_eq (fun c hc => (h.each c hc).2) h.few
theorem proc_in {cs : List Ch} (h : ChsOk cs) {t : Tx} (m : t ∈ namesS cs) : isProc (netC K h) (.str t.l) = true := decide_eq_true ((namesN_byL h _).mpr (namesS_mem.mp m))
theorem proc_out {cs : List Ch} (h : ChsOk cs) {t : Tx} (m : t ∉ namesS cs) : isProc (netC K h) (.str t.l) = false := decide_eq_false fun z => m (namesS_mem.mpr ((namesN_byL h _).mp z))
def noPr : Dt → Bool
  | .str l => !isPr l
  | _ => true
theorem proc_no {cs : List Ch} (h : ChsOk cs) {d : Dt} (m : noPr d = true) : isProc (netC K h) d = false := by
  cases d with
  | str l =>
    refine decide_eq_false fun z => ?_
    have := names_pr h ((namesN_byL h _).mp z)
    have m : (!isPr l) = true := m
    rw [show isPr l = true from this] at m
    cases m
  | _ => rfl
theorem wp_joinC {α S : Type} {P : α → Prop} {c c2 : Nat} {body : (S → DW α) → DW α} {rest : S → DW α} (Q : S → Prop) (h1 : ∀ nx : S → DW α, (∀ p, Q p → Wp (nx p) c2 P) → Wp (body nx) c P) (h2 : ∀ p, Q p → Wp (rest p) c2 P) : Wp (joinP body rest) c P := h1 rest h2
theorem not_t {b : Bool} {p : Prop} (h : b = true) (e : (!b) = true) : p := by
  rw [h] at e
  cases e
theorem pick_all {α : Type} {xs : List α} {p : α → Bool} (h : xs.all p = true) (ne : xs ≠ []) (hl : xs.length ≤ 1000000) : Wp (F_pick xs) 1 fun x => p x = true := wp_mono (wp_pick ne hl) (Nat.le_refl _) fun x hx => List.all_eq_true.mp h x hx
theorem wp_no_process : Wp (F_l_no_process (K := K)) 1 fun d => noPr d.d = true := by
  unfold F_l_no_process
  exact wp_le (c1 := 1 + 0) (wp_bind (pick_all (p := fun d => noPr d.d) rfl (by exact fun z => nomatch z) (by show 11 ≤ 1000000; decide)) fun x hx => wp_pure hx) (by decide)
theorem nodup_le {α : Type} [DecidableEq α] : ∀ {xs ys : List α}, xs.Nodup → (∀ x ∈ xs, x ∈ ys) → xs.length ≤ ys.length
  | [], _, _, _ => Nat.zero_le _
  | x :: xs, ys, nd, h => by
    obtain ⟨h1, h2⟩ := List.nodup_cons.mp nd
    have hx := h x (List.mem_cons_self ..)
    have z := nodup_le (ys := ys.erase x) h2 fun y hy => (List.mem_erase_of_ne (fun e => h1 (by rw [← e]; exact hy))).mpr (h y (List.mem_cons_of_mem _ hy))
    rw [List.length_erase_of_mem hx] at z
    have := List.length_pos_of_mem hx
    rw [List.length_cons]
    omega
theorem wp_strange {cs : List Ch} (h : ChsOk cs) : Wp (F_l_strange cs) 1 fun t => t ∉ namesS cs := by
  unfold F_l_strange
  rw [l_names h]
  have hl := namesS_len h
  have hp : ∀ x ∈ namesS cs, x.l.length ≤ 6 := fun x hx => by
    have z := names_pr h (namesS_mem.mp hx)
    rw [isPr, Bool.and_eq_true] at z
    have := of_decide_eq_true z.1
    omega
  simp only [bindP]
  simp only [Option.getD_some]
  generalize namesS cs = ns at hl hp ⊢
  refine wp_need rfl (wp_need ⟨by omega, fun x hx => ?_, ?_⟩ (wp_need ?_ (wp_le (c1 := 1 + 0) (wp_bind (wp_pick ?_ ?_) fun x hx => wp_pure ?_) (by decide))))
  · have h1 : (cutL x.l none (some (5 : Int))).length ≤ x.l.length := cutL_le
    have h2 := hp x hx
    show (cutL x.l none (some (5 : Int))).length + 1 ≤ 100000
    omega
  · rw [List.length_map]
    show 10 + ns.length ≤ _
    omega
  · rw [List.length_append, List.length_map]
    show 10 + ns.length ≤ _
    omega
  · intro e
    have z := List.filterMap_eq_nil_iff.mp e
    have w := nodup_le (xs := ([(tx [113]), (tx [114, 114]), (tx [122, 122, 122, 122, 122, 122]), (tx [113, 114, 115]), (tx [120]), (tx [121, 121]), (tx [120, 121, 122]), (tx [119, 119, 119, 119]), (tx [118, 118]), (tx [117])] : List Tx)) (ys := ns) (by decide) fun x hx => by
      have := z x (List.mem_append_left _ hx)
      by_cases hm : x ∈ ns
      · exact hm
      · simp [hm] at this
    have w : 10 ≤ ns.length := w
    omega
  · refine Nat.le_trans (List.length_filterMap_le ..) ?_
    rw [List.length_append, List.length_map]
    show 10 + ns.length ≤ _
    omega
  · obtain ⟨y, _, e⟩ := List.mem_filterMap.mp hx
    by_cases hm : y ∈ ns
    · simp [hm] at e
    · have e : some y = some x := by simpa [hm] using e
      cases e
      exact hm
theorem names_sh {cs : List Ch} (h : ChsOk cs) {b : Tx} (hb : b ∈ namesS cs) : shT b.l = true := shT_pr (names_pr h (namesS_mem.mp hb))
theorem chn_d (cs : List Ch) : (dk (K := K) (.sq false (List.map Dk.d (List.map (fun x : (T3 Sg Tx Tx) => dk (K := K) (.sq true [((fun x : Sg => dk (K := K) (.str [x.c])) x.a).d, ((fun x : Tx => dk (K := K) (.str x.l)) x.b).d, ((fun x : Tx => dk (K := K) (.str x.l)) x.c).d])) cs)))).d = .sq false (cs.map chD) := by
  show Dt.sq false (List.map Dk.d (List.map _ cs)) = _
  rw [List.map_map]
  rfl
/-! ### relays, plainly -/
theorem loop_rel {α S β : Type} {body : α → S → (S → β) → (S → β) → β} {rest : S → β} {r : β} (Inv : Nat → S → Prop) : ∀ (xs : List α) (k : Nat) (s : S), Inv k s → (∀ i x s, xs[i]? = some x → Inv (k + i) s → ∃ s', Inv (k + i + 1) s' ∧ ∀ next brk, body x s next brk = next s') → (∀ s, Inv (k + xs.length) s → rest s = r) → loopP xs body rest s = r
  | [], k, s, h, _, hr => hr s h
  | x :: xs, k, s, h, hb, hr => by
    obtain ⟨s', h', e⟩ := hb 0 x s rfl h
    show body x s (loopP xs body rest) rest = r
    rw [e]
    exact loop_rel Inv xs (k + 1) s' h' (fun i y s hy hi => by
      obtain ⟨s2, h2, e2⟩ := hb (i + 1) y s hy (by rw [show k + (i + 1) = k + 1 + i by omega]; exact hi)
      exact ⟨s2, by rw [show k + 1 + i + 1 = k + (i + 1) + 1 by omega]; exact h2, e2⟩) fun s hs => hr s (by rw [show k + (x :: xs).length = k + 1 + xs.length by rw [List.length_cons]; omega]; exact hs)
theorem needD_eq {β : Type} {p : Prop} {r : DW β} (hp : p) : needD p r = r := funext fun n => funext fun M => propext ⟨fun h => h.2, fun h => ⟨hp, h⟩⟩
def stepsB (ds : List Ch) (q : Tx × Tx) : List (Tx × Tx) := (ds.filter fun x => decide (x.c = q.2)).map fun x => (tx (q.1.l ++ [up1 x.a.c]), x.b)
def layB (ds : List Ch) (qs : List (Tx × Tx)) : List (Tx × Tx) := qs.flatMap (stepsB ds)
def lay (ds : List Ch) (t : Tx) : Nat → List (Tx × Tx)
  | 0 => [(tx [], t)]
  | k + 1 => layB ds (lay ds t k)
def rowsAt (s : Tx) (qs : List (Tx × Tx)) : List Tx := qs.filterMap fun q => if decide (q.2 = s) = true then some q.1 else none
def fnd (ds : List Ch) (s t : Tx) : Nat → List Tx
  | 0 => []
  | k + 1 => fnd ds s t k ++ rowsAt s (lay ds t (k + 1))
/-! how many there are -/
theorem flatMap_le {α β : Type} {f : α → List β} {k : Nat} : ∀ {l : List α}, (∀ x ∈ l, (f x).length ≤ k) → (l.flatMap f).length ≤ l.length * k
  | [], _ => Nat.zero_le _
  | x :: l, h => by
    rw [List.flatMap_cons, List.length_append, List.length_cons, Nat.add_mul, Nat.one_mul]
    have h1 := h x (List.mem_cons_self ..)
    have h2 := flatMap_le (f := f) (k := k) (l := l) fun y hy => h y (List.mem_cons_of_mem _ hy)
    omega
theorem filter_two {ds : List Ch} {p r : Tx} (h : p ≠ r) : (ds.filter fun x => decide (x.c = p)).length + (ds.filter fun x => decide (x.c = r)).length ≤ ds.length := by
  induction ds with
  | nil => exact Nat.le_refl _
  | cons x ds ih =>
    rw [List.length_cons]
    by_cases h1 : x.c = p
    · rw [List.filter_cons_of_pos (by exact decide_eq_true h1), List.filter_cons_of_neg (by simpa using fun e => h (h1.symm.trans e)), List.length_cons]
      omega
    · rw [List.filter_cons_of_neg (by simpa using h1)]
      by_cases h2 : x.c = r
      · rw [List.filter_cons_of_pos (by exact decide_eq_true h2), List.length_cons]
        omega
      · rw [List.filter_cons_of_neg (by simpa using h2)]
        omega
theorem stepsB_len (ds : List Ch) (q : Tx × Tx) : (stepsB ds q).length = (ds.filter fun x => decide (x.c = q.2)).length := List.length_map ..
theorem two_le {ds : List Ch} (hl : ds.length ≤ 4) (ne : ∀ x ∈ ds, x.b ≠ x.c) (q : Tx × Tx) : ((stepsB ds q).flatMap (stepsB ds)).length ≤ 4 := by
  have z := flatMap_le (f := stepsB ds) (k := 4 - (stepsB ds q).length) (l := stepsB ds q) fun y hy => by
    rw [stepsB_len, stepsB_len]
    unfold stepsB at hy
    obtain ⟨x, hx, rfl⟩ := List.mem_map.mp hy
    obtain ⟨hx, hc⟩ := List.mem_filter.mp hx
    have hc := of_decide_eq_true hc
    have := filter_two (ds := ds) (p := q.2) (r := x.b) fun e => ne x hx (e.symm.trans hc.symm)
    show (ds.filter fun y => decide (y.c = x.b)).length ≤ _
    omega
  have h1 : (stepsB ds q).length ≤ 4 := by
    rw [stepsB_len]
    exact Nat.le_trans (List.length_filter_le ..) hl
  generalize (stepsB ds q).length = d at z h1
  have : d = 0 ∨ d = 1 ∨ d = 2 ∨ d = 3 ∨ d = 4 := by omega
  rcases this with rfl | rfl | rfl | rfl | rfl <;> omega
theorem lay_two {ds : List Ch} (hl : ds.length ≤ 4) (ne : ∀ x ∈ ds, x.b ≠ x.c) (t : Tx) (k : Nat) : (lay ds t (k + 2)).length ≤ (lay ds t k).length * 4 := by
  show ((lay ds t k).flatMap (stepsB ds) |>.flatMap (stepsB ds)).length ≤ _
  rw [List.flatMap_assoc]
  exact flatMap_le fun q _ => two_le hl ne q
theorem lay_len {ds : List Ch} (hl : ds.length ≤ 4) (ne : ∀ x ∈ ds, x.b ≠ x.c) (t : Tx) {k : Nat} (hk : k ≤ 6) : (lay ds t k).length ≤ 64 := by
  have h0 : (lay ds t 0).length = 1 := rfl
  have h1 : (lay ds t 1).length ≤ (lay ds t 0).length * 4 := flatMap_le fun q _ => by
    rw [stepsB_len]
    exact Nat.le_trans (List.length_filter_le ..) hl
  have h2 : (lay ds t 2).length ≤ (lay ds t 0).length * 4 := lay_two hl ne t 0
  have h3 : (lay ds t 3).length ≤ (lay ds t 1).length * 4 := lay_two hl ne t 1
  have h4 : (lay ds t 4).length ≤ (lay ds t 2).length * 4 := lay_two hl ne t 2
  have h5 : (lay ds t 5).length ≤ (lay ds t 3).length * 4 := lay_two hl ne t 3
  have h6 : (lay ds t 6).length ≤ (lay ds t 4).length * 4 := lay_two hl ne t 4
  have : k = 0 ∨ k = 1 ∨ k = 2 ∨ k = 3 ∨ k = 4 ∨ k = 5 ∨ k = 6 := by omega
  rcases this with rfl | rfl | rfl | rfl | rfl | rfl | rfl <;> omega
theorem rowsAt_len (s : Tx) (qs : List (Tx × Tx)) : (rowsAt s qs).length ≤ qs.length := List.length_filterMap_le ..
theorem fnd_len {ds : List Ch} (hl : ds.length ≤ 4) (ne : ∀ x ∈ ds, x.b ≠ x.c) (s t : Tx) : ∀ {k : Nat}, k ≤ 6 → (fnd ds s t k).length ≤ 64 * k
  | 0, _ => Nat.zero_le _
  | k + 1, h => by
    show (fnd ds s t k ++ rowsAt s (lay ds t (k + 1))).length ≤ _
    rw [List.length_append]
    have h1 := fnd_len hl ne s t (k := k) (by omega)
    have h2 := rowsAt_len s (lay ds t (k + 1))
    have h3 := lay_len hl ne t (k := k + 1) h
    omega
/-! what the rows are -/
structure QOk (cs : List Ch) (t : Tx) (k : Nat) (q : Tx × Tx) : Prop where
  len : q.1.l.length = k
  sg : ∀ c ∈ q.1.l, 65 ≤ c ∧ c ≤ 68
  way : walkW cs q.1.l t = some q.2
theorem runS_app {α S : Type} {step : α → S → Option S} : ∀ {xs ys : List α} {s : S}, runS step (xs ++ ys) s = (runS step xs s).bind (runS step ys)
  | [], _, _ => rfl
  | x :: xs, ys, s => by
    show runS step (x :: (xs ++ ys)) s = _
    unfold runS
    cases step x s with
    | none => rfl
    | some s' => exact runS_app
theorem walkW_snoc (cs : List Ch) (l : List Nat) (c : Nat) (t : Tx) : walkW cs (l ++ [c]) t = (walkW cs l t).bind (stepOf cs c) := by
  unfold walkW
  rw [show sgL (l ++ [c]) = sgL l ++ sgL [c] from List.map_append .., runS_app]
  congr 1
  funext s
  rw [show sgL [c] = [⟨c⟩] from rfl]
  unfold runS
  dsimp only
  cases stepOf cs c s <;> rfl
theorem step_up {cs : List Ch} {c : Nat} (hc : isLtr c = true) (p : Tx) : stepOf cs (up1 c) p = ((cs.find? fun x => decide (x.a.c = c)).bind fun x => if x.c = p then some x.b else none) := by
  have h := of_decide_eq_true hc
  have h4 : c = 97 ∨ c = 98 ∨ c = 99 ∨ c = 100 := by omega
  have e : lo1 (up1 c) = c ∧ abcd (up1 c) = false := by rcases h4 with rfl | rfl | rfl | rfl <;> exact ⟨rfl, rfl⟩
  unfold stepOf pairOf
  rw [e.1, e.2]
  cases cs.find? fun x => decide (x.a.c = c) <;> rfl
theorem find_filter {cs : List Ch} (nd : (cs.map (·.a)).Nodup) (c : Nat) : (cs.filter fun x => decide (x.a.c = c)) = (cs.find? fun x => decide (x.a.c = c)).toList := by
  induction cs with
  | nil => rfl
  | cons x cs ih =>
    rw [List.map_cons, List.nodup_cons] at nd
    by_cases h : x.a.c = c
    · rw [List.filter_cons_of_pos (by exact decide_eq_true h), List.find?_cons_of_pos (by exact decide_eq_true h)]
      have e : (cs.filter fun x => decide (x.a.c = c)) = [] := List.filter_eq_nil_iff.mpr fun y hy z => nd.1 (by
        have z := of_decide_eq_true z
        rw [show x.a = y.a from Sg.ext (h.trans z.symm)]
        exact List.mem_map_of_mem hy)
      rw [e]
      rfl
    · rw [List.filter_cons_of_neg (by simpa using h), List.find?_cons_of_neg (by simpa using h)]
      exact ih nd.2
/-- the law's steps at a process, and the net's channels -/
theorem steps_eq {cs : List Ch} (nd : (cs.map (·.a)).Nodup) (r : List Nat) (p : Tx) : ∀ {ls : List Nat}, (∀ c ∈ ls, isLtr c = true) →
    ((sgL (ls.map up1)).filterMap fun g : Sg => if (stepOf cs g.c p).isSome = true then some g else none).map (fun g : Sg => tx (r ++ [g.c])) = ((ls.flatMap fun c => cs.filter fun x => decide (x.a.c = c)).filter fun x => decide (x.c = p)).map fun x => tx (r ++ [up1 x.a.c])
  | [], _ => rfl
  | c :: ls, h => by
    have ih := steps_eq nd r p (ls := ls) fun y hy => h y (List.mem_cons_of_mem _ hy)
    rw [List.flatMap_cons, List.filter_append, List.map_append, ← ih]
    show ((sgn (up1 c) :: sgL (ls.map up1)).filterMap _).map _ = _
    rw [List.filterMap_cons]
    rw [show (sgn (up1 c)).c = up1 c from rfl, step_up (h c (List.mem_cons_self ..)) p, find_filter nd]
    cases e : cs.find? fun x => decide (x.a.c = c) with
    | none => rfl
    | some x =>
      have hx : x.a.c = c := by simpa using List.find?_some e
      by_cases hp : x.c = p
      · have e1 : ((some x).bind fun x => if x.c = p then some x.b else none) = some x.b := if_pos hp
        rw [e1]
        show tx (r ++ [up1 c]) :: _ = List.map _ (List.filter _ [x]) ++ _
        rw [List.filter_cons_of_pos (by exact decide_eq_true hp)]
        show tx (r ++ [up1 c]) :: _ = tx (r ++ [up1 x.a.c]) :: _
        rw [hx]
        rfl
      · have e1 : ((some x).bind fun x => if x.c = p then some x.b else none) = none := if_neg hp
        rw [e1]
        show _ = List.map _ (List.filter _ [x]) ++ _
        rw [List.filter_cons_of_neg (by simpa using hp)]
        rfl
theorem lay_ok {cs : List Ch} (h : ChsOk cs) (t : Tx) : ∀ (k : Nat), ∀ q ∈ lay (byL cs) t k, QOk cs t k q
  | 0, q, hq => by
    rw [List.mem_singleton.mp hq]
    exact ⟨rfl, fun _ z => (nomatch z), rfl⟩
  | k + 1, q, hq => by
    obtain ⟨q0, hq0, hq⟩ := List.mem_flatMap.mp hq
    obtain ⟨x, hx, rfl⟩ := List.mem_map.mp hq
    obtain ⟨hx, hc⟩ := List.mem_filter.mp hx
    have hc := of_decide_eq_true hc
    have i := lay_ok h t k q0 hq0
    have hm := (byL_perm h.ltr).mem_iff.mp hx
    have ha := h.ltr x hm
    refine ⟨?_, fun c hc => ?_, ?_⟩
    · show (q0.1.l ++ [up1 x.a.c]).length = _
      rw [List.length_append, i.len]
      rfl
    · rcases List.mem_append.mp hc with hc | hc
      · exact i.sg c hc
      · rw [List.mem_singleton.mp hc]
        have z := of_decide_eq_true ha
        have h4 : x.a.c = 97 ∨ x.a.c = 98 ∨ x.a.c = 99 ∨ x.a.c = 100 := by omega
        rcases h4 with e | e | e | e <;> rw [e] <;> decide
    · show walkW cs (q0.1.l ++ [up1 x.a.c]) t = some x.b
      rw [walkW_snoc, i.way]
      show stepOf cs (up1 x.a.c) q0.2 = _
      rw [step_up ha, find_uniq h.nd hm]
      show (if x.c = q0.2 then some x.b else none) = _
      rw [if_pos hc]
end
end Nw

namespace Nw
open PySem PySem.Spec PyProof.Rows L2
section
variable {K : PySem.W.Frag}
theorem Run.congr {α : Type} {m m' : DW α} {r : α} (e : m = m') (h : Run m' r) : Run m r := e ▸ h
theorem take_snoc {α : Type} {l : List α} {j : Nat} {q : α} (h : l[j]? = some q) : l.take (j + 1) = l.take j ++ [q] := by
  rw [List.take_succ, h]
  rfl
theorem fm_congr {α β : Type} {f g : α → Option β} : ∀ {l : List α}, (∀ x ∈ l, f x = g x) → l.filterMap f = l.filterMap g
  | [], _ => rfl
  | x :: l, h => by
    rw [List.filterMap_cons, List.filterMap_cons, h x (List.mem_cons_self ..), fm_congr fun y hy => h y (List.mem_cons_of_mem _ hy)]
theorem rng_lt6 {m : Int} {i : Nat} {x : Int} (hm : m ≤ 6) (h : (rng 0 m)[i]? = some x) : i < 6 := by
  have := (List.getElem?_eq_some_iff.mp h).1
  unfold rng at this
  rw [List.length_map, List.length_range] at this
  omega
theorem rng_len0 {m : Int} (hm : 0 ≤ m) : 0 + (rng 0 m).length = m.toNat := by
  unfold rng
  rw [List.length_map, List.length_range]
  omega
theorem stepsB_snoc {ds : List Ch} {q : Tx × Tx} {j : Nat} {x : Ch} (h : ds[j]? = some x) : stepsB (ds.take (j + 1)) q = stepsB (ds.take j) q ++ (if x.c = q.2 then [(tx (q.1.l ++ [up1 x.a.c]), x.b)] else []) := by
  unfold stepsB
  rw [take_snoc h, List.filter_append, List.map_append]
  by_cases hc : x.c = q.2
  · rw [if_pos hc, List.filter_cons_of_pos (by exact decide_eq_true hc)]
    rfl
  · rw [if_neg hc, List.filter_cons_of_neg (by simpa using hc)]
    rfl
theorem byL_ne {cs : List Ch} (h : ChsOk cs) : ∀ x ∈ byL cs, x.b ≠ x.c := fun x hx => (h.each x ((byL_perm h.ltr).mem_iff.mp hx)).2
theorem byL_lt {cs : List Ch} (h : ChsOk cs) : ∀ x ∈ byL cs, x.a.c < 128 := fun x hx => by
  have := of_decide_eq_true (h.ltr x ((byL_perm h.ltr).mem_iff.mp hx))
  omega
/-! the program -/
theorem relays_run {cs : List Ch} (h : ChsOk cs) {s t : Tx} (hs : s ∈ namesS cs) (ht : t ∈ namesS cs) {m : Int} (hm : 1 ≤ m ∧ m ≤ 6) : Run (F_Net_relays (netC K h) (dk (K := K) (.str s.l)) (dk (K := K) (.str t.l)) (dk (K := K) (.int m))) (.ok (fnd (byL cs) s t m.toNat)) := by
  have hl := (byL_ok h).2
  have hne := byL_ne h
  have hlt := byL_lt h
  have p1 := need_process_run (netC K h) (.str s.l)
  rw [proc_in h hs] at p1
  have p2 := need_process_run (netC K h) (.str t.l)
  rw [proc_in h ht] at p2
  unfold F_Net_relays
  refine run_okE p1 (run_okE p2 (run_need ⟨fun _ => rfl, fun _ _ => rfl⟩ ?_))
  have e0 : ((!(F_is_number (dk (K := K) (.int m)))) || (!((decide ((1 : Int) ≤ (Dt.num (Dk.d (dk (K := K) (.int m)))))) && (decide ((Dt.num (Dk.d (dk (K := K) (.int m)))) ≤ (6 : Int)))))) = false := by
    show (!(true && !false) || !(decide (1 ≤ m) && decide (m ≤ 6))) = false
    rw [decide_eq_true hm.1, decide_eq_true hm.2]
    rfl
  rw [e0, if_neg Bool.false_ne_true]
  refine run_need rfl (run_need ⟨rfl, by show -(2 ^ 62) ≤ m; omega, by show m < 2 ^ 62; omega⟩ ?_)
  have ev : Dc.vals (netC K h).netF = byL cs := netD_vals _
  rw [ev]
  have ok := lay_ok h t
  have lens := fun {k : Nat} (hk : k ≤ 6) => lay_len hl hne t hk
  have fls := fun {k : Nat} (hk : k ≤ 6) => fnd_len hl hne s t hk
  generalize byL cs = ds at hl hne hlt ok lens fls ⊢
  refine Run.congr (loop_rel (r := pureD (.ok (fnd ds s t m.toNat))) (fun i z => z = (lay ds t i, fnd ds s t i)) (rng 0 m) 0 _ rfl (fun i x z hx hz => ?_) (fun z hz => ?_)) run_pure
  · have hi := rng_lt6 hm.2 hx
    rw [Nat.zero_add] at hz
    subst hz
    refine ⟨(lay ds t (i + 1), fnd ds s t (i + 1)), by rw [Nat.zero_add], fun next brk => ?_⟩
    refine loop_rel (fun j (l : List (Tx × Tx)) => l = ((lay ds t i).take j).flatMap (stepsB ds)) (lay ds t i) 0 _ rfl (fun j q l hq hl2 => ?_) (fun l hl2 => ?_)
    · have hqm := List.mem_of_getElem? hq
      have qo := ok i q hqm
      rw [Nat.zero_add] at hl2
      have hll : l.length ≤ 256 := by
        rw [hl2]
        have z := flatMap_le (f := stepsB ds) (k := 4) (l := (lay ds t i).take j) fun q _ => by
          rw [stepsB_len]
          exact Nat.le_trans (List.length_filter_le ..) hl
        have z2 := lens (k := i) (by omega)
        have z3 : ((lay ds t i).take j).length ≤ (lay ds t i).length := List.length_take_le' ..
        omega
      refine ⟨l ++ stepsB ds q, ?_, fun nx bk => ?_⟩
      · rw [Nat.zero_add, take_snoc hq, List.flatMap_append, hl2]
        simp only [List.flatMap_cons, List.flatMap_nil, List.append_nil]
      · refine loop_rel (fun a (l2 : List (Tx × Tx)) => l2 = l ++ stepsB (ds.take a) q) ds 0 _ (List.append_nil l).symm (fun a x l2 hx h2 => ?_) (fun l2 h2 => ?_)
        · rw [Nat.zero_add] at h2 ⊢
          have hs2 := stepsB_snoc (q := q) hx
          have hl3 : (stepsB (ds.take a) q).length ≤ 4 := by
            rw [stepsB_len]
            refine Nat.le_trans (List.length_filter_le ..) (Nat.le_trans (List.length_take_le' ..) hl)
          by_cases hc : x.c = q.2
          · refine ⟨l2 ++ [(tx (q.1.l ++ [up1 x.a.c]), x.b)], ?_, fun nx bk => ?_⟩
            · rw [hs2, if_pos hc, h2, List.append_assoc]
            · rw [decide_eq_true hc, if_pos rfl, needD_eq ⟨hlt x (List.mem_of_getElem? hx), by show q.1.l.length + 1 ≤ _; rw [qo.len]; omega, by rw [h2, List.length_append]; omega⟩]
              rfl
          · refine ⟨l2, ?_, fun nx bk => ?_⟩
            · rw [hs2, if_neg hc, List.append_nil]
              exact h2
            · rw [decide_eq_false hc]
              rfl
        · rw [h2, Nat.zero_add, List.take_length]
    · rw [Nat.zero_add, List.take_length] at hl2
      subst hl2
      have z1 := lens (k := i + 1) (by omega)
      have z2 := fls (k := i) (by omega)
      have z3 := rowsAt_len s (lay ds t (i + 1))
      refine (needD_eq ⟨?_, fun _ _ => rfl, ?_⟩).trans rfl
      · show (lay ds t (i + 1)).length ≤ _
        omega
      · show (fnd ds s t i).length + (rowsAt s (lay ds t (i + 1))).length ≤ _
        omega
  · rw [hz, rng_len0 (by omega)]
def badN : Dt → Bool
  | .int m => !(decide (1 ≤ m) && decide (m ≤ 6))
  | _ => true
theorem relays_np1 {n : NetV K} {x y z : Dk K} (hx : isProc n x.d = false) : Run (F_Net_relays n x y z) (.error ⟨"NoProcess", []⟩) := by
  have p := need_process_run n x.d
  rw [hx] at p
  unfold F_Net_relays
  exact run_errE p
theorem relays_np2 {n : NetV K} {x y z : Dk K} (hx : isProc n x.d = true) (hy : isProc n y.d = false) : Run (F_Net_relays n x y z) (.error ⟨"NoProcess", []⟩) := by
  have p := need_process_run n x.d
  rw [hx] at p
  have p2 := need_process_run n y.d
  rw [hy] at p2
  unfold F_Net_relays
  exact run_okE p (run_errE p2)
theorem relays_nn {n : NetV K} {x y z : Dk K} (hx : isProc n x.d = true) (hy : isProc n y.d = true) (hz : badN z.d = true) : Run (F_Net_relays n x y z) (.error ⟨"NoNet", []⟩) := by
  have p := need_process_run n x.d
  rw [hx] at p
  have p2 := need_process_run n y.d
  rw [hy] at p2
  unfold F_Net_relays
  refine run_okE p (run_okE p2 ?_)
  obtain ⟨d⟩ := z
  cases d with
  | int m =>
    refine run_need ⟨fun _ => rfl, fun _ _ => rfl⟩ ?_
    have hz : (!(decide (1 ≤ m) && decide (m ≤ 6))) = true := hz
    show Run (if ((!(true && !false)) || (!((decide ((1 : Int) ≤ m)) && (decide (m ≤ (6 : Int)))))) = true then _ else _) _
    rw [hz]
    exact run_pure
  | _ => exact run_need ⟨fun e => Bool.noConfusion (show true = false from e), fun e => Bool.noConfusion (show true = false from e)⟩ run_pure
theorem best_err {n : NetV K} {x y z : Dk K} {er : Er} (h : Run (F_Net_relays n x y z) (.error er)) : Run (F_Net_best n x y z) (.error er) := by
  unfold F_Net_best
  exact run_errE h
/-! the law's own -/
theorem walked_q {cs : List Ch} (h : ChsOk cs) {t : Tx} (ht : t ∈ namesS cs) {k : Nat} {q : Tx × Tx} (hq : QOk cs t k q) : F_l_walked (K := K) cs q.1 (some t) = some (some q.2) := by
  have z := law_walked (K := K) h.nd h.few (nm_ok h) q.1.l (some t) (fun c hc => by have := hq.sg c hc; omega) (fun q e => by cases e; exact names_sh h ht) (fun z => nomatch z)
  rw [show (some t : Option Tx).bind (walkW cs q.1.l) = walkW cs q.1.l t from rfl, hq.way] at z
  exact z
theorem walked_s {cs : List Ch} (h : ChsOk cs) {t : Tx} (ht : t ∈ namesS cs) {k : Nat} {q : Tx × Tx} (hq : QOk cs t k q) {c : Nat} (hc : c < 128) : F_l_walked (K := K) cs (tx (q.1.l ++ [c])) (some t) = some (stepOf cs c q.2) := by
  have z := law_walked (K := K) h.nd h.few (nm_ok h) (q.1.l ++ [c]) (some t) (fun d hd => by
    rcases List.mem_append.mp hd with hd | hd
    · have := hq.sg d hd
      omega
    · rw [List.mem_singleton.mp hd]
      exact hc) (fun q e => by cases e; exact names_sh h ht) (fun z => nomatch z)
  rw [show (some t : Option Tx).bind (walkW cs (q.1.l ++ [c])) = walkW cs (q.1.l ++ [c]) t from rfl, walkW_snoc, hq.way] at z
  exact z
theorem steps_q {cs : List Ch} (h : ChsOk cs) (q : Tx × Tx) : ((sgL ((tx [65, 66, 67, 68]) : Tx).l).filterMap fun g : Sg => if (stepOf cs g.c q.2).isSome = true then some g else none).map (fun g : Sg => tx (q.1.l ++ [g.c])) = (stepsB (byL cs) q).map (·.1) := by
  have z := steps_eq h.nd q.1.l q.2 (ls := [97, 98, 99, 100]) (by decide)
  refine z.trans ?_
  unfold stepsB byL
  rw [List.map_map]
  rfl
theorem relays_law {cs : List Ch} (h : ChsOk cs) {s t : Tx} (hs : s ∈ namesS cs) (ht : t ∈ namesS cs) {m : Int} (hm : 1 ≤ m ∧ m ≤ 6) : F_l_relays (K := K) cs s t m = some (fnd (byL cs) s t m.toNat) := by
  have hl := (byL_ok h).2
  have hne := byL_ne h
  have ok := lay_ok h t
  have lens := fun {k : Nat} (hk : k ≤ 6) => lay_len hl hne t hk
  have fls := fun {k : Nat} (hk : k ≤ 6) => fnd_len hl hne s t hk
  have ws := fun {k : Nat} {q : Tx × Tx} (hq : QOk cs t k q) => walked_q (K := K) h ht hq
  have wn := fun {k : Nat} {q : Tx × Tx} (hq : QOk cs t k q) {c : Nat} (hc : c < 128) => walked_s (K := K) h ht hq hc
  have sq := steps_q h
  have shq : ∀ {k : Nat} {q : Tx × Tx}, QOk cs t k q → shT q.2.l = true := fun {k} {q} hq => walkW_sh (nm_ok h) q.1.l t q.2 (names_sh h ht) hq.way
  unfold F_l_relays
  refine (need_p ⟨by omega, by omega⟩).trans ?_
  generalize byL cs = ds at hl hne ok lens fls sq ⊢
  refine loop_rel (fun i (z : List Tx × List Tx) => z = ((lay ds t i).map (·.1), fnd ds s t i)) (rng 0 m) 0 _ rfl (fun i x z hx hz => ?_) (fun z hz => ?_)
  · have hi := rng_lt6 hm.2 hx
    rw [Nat.zero_add] at hz
    subst hz
    refine ⟨((lay ds t (i + 1)).map (·.1), fnd ds s t (i + 1)), by rw [Nat.zero_add], fun next brk => ?_⟩
    refine loop_rel (fun j (z : List Tx × Option Tx) => z.1 = (((lay ds t i).take j).flatMap (stepsB ds)).map (·.1)) ((lay ds t i).map (·.1)) 0 ([], none) rfl (fun j x z hx hz => ?_) (fun z hz => ?_)
    · rw [List.getElem?_map] at hx
      obtain ⟨q, hq, rfl⟩ := Option.map_eq_some_iff.mp hx
      have hqm := List.mem_of_getElem? hq
      have qo := ok i q hqm
      rw [Nat.zero_add] at hz
      have hll : z.1.length ≤ 256 := by
        rw [hz, List.length_map]
        have z := flatMap_le (f := stepsB ds) (k := 4) (l := (lay ds t i).take j) fun q _ => by
          rw [stepsB_len]
          exact Nat.le_trans (List.length_filter_le ..) hl
        have z2 := lens (k := i) (by omega)
        have z3 : ((lay ds t i).take j).length ≤ (lay ds t i).length := List.length_take_le' ..
        omega
      refine ⟨(z.1 ++ (stepsB ds q).map (·.1), some q.1), ?_, fun nx bk => ?_⟩
      · show z.1 ++ _ = _
        rw [Nat.zero_add, take_snoc hq, List.flatMap_append, List.map_append, hz]
        simp only [List.flatMap_cons, List.flatMap_nil, List.append_nil]
      · have hlt : ∀ x ∈ sgL ((tx [65, 66, 67, 68]) : Tx).l, x.c < 128 := by decide
        have n1 : ∀ x ∈ sgL ((tx [65, 66, 67, 68]) : Tx).l, (F_l_walked (K := K) cs (tx (q.1.l ++ ((tx [Sg.c x]) : Tx).l)) (some t)).isSome = true := fun x hx => by
          rw [show F_l_walked (K := K) cs (tx (q.1.l ++ ((tx [Sg.c x]) : Tx).l)) (some t) = some (stepOf cs x.c q.2) from wn qo (hlt x hx)]
          rfl
        refine (need_p ⟨fun x _ => by show q.1.l.length + 1 ≤ _; rw [qo.len]; omega, n1⟩).trans ?_
        have ef : (sgL ((tx [65, 66, 67, 68]) : Tx).l).filterMap (fun x : Sg => if (((F_l_walked (K := K) cs (tx (q.1.l ++ ((tx [Sg.c x]) : Tx).l)) (some t)).getD default).isSome) = true then some x else none) = (sgL ((tx [65, 66, 67, 68]) : Tx).l).filterMap fun g : Sg => if (stepOf cs g.c q.2).isSome = true then some g else none := fm_congr fun x hx => by
          rw [show F_l_walked (K := K) cs (tx (q.1.l ++ ((tx [Sg.c x]) : Tx).l)) (some t) = some (stepOf cs x.c q.2) from wn qo (hlt x hx)]
          rfl
        rw [ef]
        have e4 : ((sgL ((tx [65, 66, 67, 68]) : Tx).l).filterMap fun g : Sg => if (stepOf cs g.c q.2).isSome = true then some g else none).length ≤ 4 := List.length_filterMap_le ..
        have eq2 := sq q
        generalize ((sgL ((tx [65, 66, 67, 68]) : Tx).l).filterMap fun g : Sg => if (stepOf cs g.c q.2).isSome = true then some g else none) = st at e4 eq2 ⊢
        simp only [bindP]
        refine (need_p ⟨by omega, fun x _ => by show q.1.l.length + 1 ≤ _; rw [qo.len]; omega, by rw [List.length_map]; omega⟩).trans ?_
        rw [← eq2]
    · rw [Nat.zero_add, List.length_map, List.take_length] at hz
      obtain ⟨l, o⟩ := z
      have hz : l = (lay ds t (i + 1)).map (·.1) := hz
      subst hz
      have z1 := lens (k := i + 1) (by omega)
      have z2 := fls (k := i) (by omega)
      have z3 := rowsAt_len s (lay ds t (i + 1))
      have ew : ∀ x ∈ (lay ds t (i + 1)).map (·.1), ∃ q, QOk cs t (i + 1) q ∧ x = q.1 := fun x hx => by
        obtain ⟨q, hq, rfl⟩ := List.mem_map.mp hx
        exact ⟨q, ok _ q hq, rfl⟩
      have er : ((lay ds t (i + 1)).map (·.1)).filterMap (fun x74 : Tx => if (decide ((((Nw.F_l_walked (K := K)) cs x74 (some t)).getD default) = (some s))) = true then some x74 else none) = rowsAt s (lay ds t (i + 1)) := by
        rw [List.filterMap_map]
        refine fm_congr fun q hq => ?_
        show (if (decide ((((Nw.F_l_walked (K := K)) cs q.1 (some t)).getD default) = (some s))) = true then some q.1 else none) = _
        rw [ws (ok _ q hq)]
        show (if decide (some q.2 = some s) = true then some q.1 else none) = if decide (q.2 = s) = true then some q.1 else none
        rw [show decide (some q.2 = some s) = decide (q.2 = s) from decide_eq_decide.mpr ⟨fun e => Option.some.inj e, fun e => congrArg some e⟩]
      have n1 : ((lay ds t (i + 1)).map (·.1)).length ≤ 16777216 := by
        rw [List.length_map]
        omega
      have n2 : ∀ x ∈ (lay ds t (i + 1)).map (·.1), ((Nw.F_l_walked (K := K)) cs x (some t)).isSome = true := fun x hx => by
        obtain ⟨q, hq, rfl⟩ := ew x hx
        rw [ws hq]
        rfl
      have n3 : ∀ x ∈ (lay ds t (i + 1)).map (·.1), EqD.sh K (((Nw.F_l_walked (K := K)) cs x (some t)).getD default) = true := fun x hx => by
        obtain ⟨q, hq, rfl⟩ := ew x hx
        rw [ws hq]
        exact shq hq
      have n4 : (fnd ds s t i).length + (((lay ds t (i + 1)).map (·.1)).filterMap (fun x74 : Tx => if (decide ((((Nw.F_l_walked (K := K)) cs x74 (some t)).getD default) = (some s))) = true then some x74 else none)).length ≤ 16777216 := by
        rw [er]
        omega
      refine (need_p ⟨n1, n2, n3, fun x hx => names_sh h hs, n4⟩).trans ?_
      show next ((lay ds t (i + 1)).map (·.1), fnd ds s t i ++ ((lay ds t (i + 1)).map (·.1)).filterMap (fun x74 : Tx => if (decide ((((Nw.F_l_walked (K := K)) cs x74 (some t)).getD default) = (some s))) = true then some x74 else none)) = _
      rw [er]
      rfl
  · rw [hz, rng_len0 (by omega)]
/-! rows shown -/
theorem fnd_ok {cs : List Ch} (h : ChsOk cs) (s t : Tx) : ∀ {k : Nat}, k ≤ 6 → ∀ x ∈ fnd (byL cs) s t k, x.l.length ≤ 6 ∧ ∀ c ∈ x.l, 65 ≤ c ∧ c ≤ 68
  | 0, _, _, hx => nomatch hx
  | k + 1, hk, x, hx => by
    rcases List.mem_append.mp hx with hx | hx
    · exact fnd_ok h s t (k := k) (by omega) x hx
    · obtain ⟨q, hq, e⟩ := List.mem_filterMap.mp hx
      have qo := lay_ok h t (k + 1) q hq
      split at e
      · cases e
        exact ⟨by rw [qo.len]; exact hk, qo.sg⟩
      · cases e
theorem fit_rows {xs : List Tx} (hl : xs.length ≤ 400) (h : ∀ x ∈ xs, x.l.length ≤ 6 ∧ ∀ c ∈ x.l, 65 ≤ c ∧ c ≤ 68) : fitR K xs = true := by
  have g : (xs.all (RepD.fit K)) = true ∧ PyData.canLayAll0 (xs.map (RepD.py K)) = true ∧ PyData.showableAll (xs.map (RepD.py K)) = true ∧ PyData.depthAll (xs.map (RepD.py K)) ≤ 1 ∧ rmAll (xs.map (RepD.py K)) ≤ xs.length * 64 := by
    clear hl
    induction xs with
    | nil => exact ⟨rfl, rfl, rfl, by simp [PyData.depthAll], by simp [rmAll]⟩
    | cons x xs ih =>
      obtain ⟨i1, i2, i3, i4, i5⟩ := ih fun y hy => h y (List.mem_cons_of_mem _ hy)
      obtain ⟨h1, h2⟩ := h x (List.mem_cons_self ..)
      have ex : RepD.py K x = .str (mk x.l) := rfl
      have el : PyData.strOk (mk x.l) = true := shT_lay (List.all_eq_true.mpr fun c hc => decide_eq_true (by have := h2 c hc; omega))
      rw [List.map_cons, ex]
      refine ⟨?_, ?_, ?_, ?_, ?_⟩
      · rw [List.all_cons, i1]
        rfl
      · simp only [PyData.canLayAll0, PyData.canLay0, Bool.and_eq_true]
        exact ⟨el, i2⟩
      · simp only [PyData.showableAll, PyData.showable, Bool.and_eq_true]
        exact ⟨trivial, i3⟩
      · simp only [PyData.depthAll, PyData.depth]
        omega
      · simp only [rmAll, rm]
        rw [mk_len, List.length_cons]
        omega
  obtain ⟨g1, g2, g3, g4, g5⟩ := g
  have e : RepD.py K xs = .list (xs.map (RepD.py K)) := rfl
  unfold fitR
  rw [e]
  simp only [PyData.canLay0, PyData.showable, PyData.depth, rm, Bool.and_eq_true, decide_eq_true_eq]
  refine ⟨g1, g2, g3, ?_, ?_⟩
  · first | omega | exact decide_eq_true (by omega)
  · first | omega | exact decide_eq_true (by omega)
end
end Nw

namespace Nw
open PySem PySem.Spec PyProof.Rows L2
section
variable {K : PySem.W.Frag}
theorem wp_far : Wp (F_pick ([(dk (K := K) (.int (0 : Int))), (dk (K := K) (.int (7 : Int))), (dk (K := K) (.int (-1 : Int))), (dk (K := K) .non), (dk (K := K) (.bl true)), (dk (K := K) (.bl false)), (dk (K := K) (.str [Sg.c (sgn 51)])), (dk (K := K) (.sq false (List.map Dk.d ([] : List (Dk K))))), (dk (K := K) (.int ((10 : Int) ^ ((30 : Int)).toNat))), (dk (K := K) (.sq true (List.map Dk.d (⟨[(dk (K := K) (.int (2 : Int)))]⟩ : Tup (Dk K)).l)))] : List (Dk K))) 1 fun d => badN d.d = true :=
  pick_all (p := fun d : Dk K => badN d.d) rfl (by exact fun z => (nomatch z)) (by show 10 ≤ 1000000; decide)
theorem law_holds : ∀ m ≤ 63, F_law (K := K) ⟨m⟩ 0 (fun b _ => b = true) := by
  intro m hm
  refine wp_run (c := 4000) ?_ (by decide)
  unfold F_law
  simp only [bindP]
  have hn : (3 : Int) + (min (Scr.n (⟨m⟩ : Scr K) : Int) (6 : Int)) ≤ 9 := by omega
  have hn0 : 0 ≤ (3 : Int) + (min (Scr.n (⟨m⟩ : Scr K) : Int) (6 : Int)) := by
    show 0 ≤ (3 : Int) + (min (m : Int) (6 : Int))
    omega
  generalize (3 : Int) + (min (Scr.n (⟨m⟩ : Scr K) : Int) (6 : Int)) = tn at hn hn0 ⊢
  refine wp_need ⟨by omega, by omega⟩ ?_
  have hlen : (rng 0 tn).length ≤ 9 := by
    unfold rng
    rw [List.length_map, List.length_range]
    omega
  refine wp_le (wp_loop (fun _ _ => True) (c := 120) (cr := 0) _ 0 _ (fun s _ => wp_pure rfl) (fun i x s next brk cn hx _ hcn hnext _ => ?_) trivial) (show _ ≤ 4000 by omega)
  refine wp_bind' law_channels (by omega) fun cs h => ?_
  refine wp_bindR (run_okX (net_run h (chn_d cs))) ?_
  rw [l_names h]
  refine wp_need rfl ?_
  simp only [Option.getD_some]
  refine wp_le (wp_loop (fun i (s : Option Tx × Option Tx × Option Int) => 0 < i → ∃ a ∈ namesS cs, ∃ b ∈ namesS cs, ∃ mo : Int, (1 ≤ mo ∧ mo ≤ 6) ∧ s = (some a, some b, some mo)) (c := 3) (cr := 5 + cn) _ 0 _ (fun s hs => ?_) (fun j y s nx bk cm hy hs hcm hnx _ => ?_) (fun z => absurd z (by decide))) ?_
  · obtain ⟨a, ha, b, hb, mo, hmo, rfl⟩ := hs (by decide)
    refine wp_bind' wp_no_process (by omega) fun odd hp => ?_
    refine wp_bind' wp_far (by omega) fun far hf => ?_
    dsimp only
    simp only [Option.getD_some]
    have pa : isProc (netC K h) (dk (K := K) (.str a.l)).d = true := proc_in h ha
    have pb : isProc (netC K h) (dk (K := K) (.str b.l)).d = true := proc_in h hb
    have po : isProc (netC K h) odd.d = false := proc_no h hp
    refine wp_bindR (run_wordE (relays_np1 po) rfl) ?_
    refine wp_need rfl ?_
    refine wp_bindR (run_wordE (relays_np2 pa po) rfl) ?_
    refine wp_need (by show 1 < 16777216; decide) ?_
    refine wp_need ⟨rfl, rfl⟩ ?_
    refine wp_bindR (run_wordE (relays_np1 po) rfl) ?_
    refine wp_need (by show 2 < 16777216; decide) ?_
    refine wp_need ⟨⟨by decide, by decide, by show 1 * 3 ≤ 16777216; decide⟩, wordsF (ts := [[112, 114, 111, 99, 101, 115, 115], [112, 114, 111, 99, 101, 115, 115], [112, 114, 111, 99, 101, 115, 115]]) rfl, wordsF (ts := [[112, 114, 111, 99, 101, 115, 115], [112, 114, 111, 99, 101, 115, 115], [112, 114, 111, 99, 101, 115, 115]]) rfl⟩ ?_
    refine wp_if (fun e => not_t (wordsE (K := K) [[112, 114, 111, 99, 101, 115, 115], [112, 114, 111, 99, 101, 115, 115], [112, 114, 111, 99, 101, 115, 115]]) e) fun _ => ?_
    refine wp_need ⟨rfl, rfl⟩ ?_
    refine wp_bindR (run_wordE (relays_nn pa pb hf) rfl) ?_
    refine wp_need ⟨wordF rfl, wordF rfl⟩ (wp_if (fun e => not_t (wordE _) e) fun _ => ?_)
    refine wp_need ⟨rfl, rfl⟩ ?_
    refine wp_bindR (run_wordE (best_err (relays_nn pa pb hf)) rfl) ?_
    refine wp_need ⟨wordF rfl, wordF rfl⟩ (wp_if (fun e => not_t (wordE _) e) fun _ => ?_)
    refine wp_need rfl ?_
    refine wp_bindR (run_wordE (best_err (relays_np1 po)) rfl) ?_
    refine wp_need ⟨wordF rfl, wordF rfl⟩ (wp_if (fun e => not_t (wordE _) e) fun _ => ?_)
    refine wp_bind' (wp_strange h) (by omega) fun t ht => ?_
    refine wp_need ⟨rfl, rfl⟩ ?_
    have pt : isProc (netC K h) (dk (K := K) (.str t.l)).d = false := proc_out h ht
    have all : ∀ x ∈ ([(t, b), (a, t), (t, t)] : List (Tx × Tx)), ∀ z : Dk K, Run (F_Net_relays (netC K h) (dk (K := K) (.str x.1.l)) (dk (K := K) (.str x.2.l)) z) (.error ⟨"NoProcess", []⟩) := fun x hx z => by
      simp only [List.mem_cons, List.not_mem_nil, or_false] at hx
      rcases hx with rfl | rfl | rfl
      · exact relays_np1 pt
      · exact relays_np2 pa pt
      · exact relays_np1 pt
    refine wp_le (wp_loop (fun i (s : List (Tx × Dk K)) => s = List.replicate (2 * i) ((tx [112, 114, 111, 99, 101, 115, 115]), (dk (K := K) .non))) (c := 0) (cr := cn) _ 0 _ (fun s hs => ?_) (fun i x s nx bk cm hxi hs hcm hnx _ => ?_) rfl) (show _ * 0 + cn ≤ _ by omega)
    · subst hs
      refine wp_need ⟨⟨by decide, by decide, by show 1 * 6 ≤ 16777216; decide⟩, wordsF (ts := List.replicate 6 [112, 114, 111, 99, 101, 115, 115]) rfl, wordsF (ts := List.replicate 6 [112, 114, 111, 99, 101, 115, 115]) rfl⟩ ?_
      exact wp_if (fun e => not_t (wordsE (K := K) (List.replicate 6 [112, 114, 111, 99, 101, 115, 115])) e) fun _ => hnext _ trivial
    · have hxm := List.mem_of_getElem? hxi
      have hi := (List.getElem?_eq_some_iff.mp hxi).1
      have hi : i < 3 := hi
      rw [Nat.zero_add] at hs
      refine wp_bindR (run_wordE (all x hxm _) rfl) ?_
      refine wp_need (by rw [hs, List.length_replicate]; omega) ?_
      refine wp_need rfl ?_
      refine wp_bindR (run_wordE (best_err (all x hxm _)) rfl) ?_
      refine wp_need (by rw [hs, List.length_append, List.length_replicate]; show 2 * i + 1 < _; omega) ?_
      refine wp_le (hnx _ ?_) (by omega)
      rw [Nat.zero_add, hs, show 2 * (i + 1) = 2 * i + 1 + 1 by omega, List.replicate_succ', List.replicate_succ']
  · refine wp_bind' (wp_pick (namesS_ne h) (by have := namesS_len h; omega)) (by omega) fun a ha => ?_
    refine wp_bind' (wp_pick (namesS_ne h) (by have := namesS_len h; omega)) (by omega) fun b hb => ?_
    refine wp_bind' (wp_next (by decide) (by decide)) (by omega) fun r hr => ?_
    have hmo : 1 ≤ 1 + r ∧ 1 + r ≤ 6 := by omega
    generalize 1 + r = mo at hmo ⊢
    have el : F_l_relays (K := K) cs a b mo = some (fnd (byL cs) a b mo.toNat) := relays_law h ha hb hmo
    rw [el]
    refine wp_need rfl ?_
    simp only [Option.getD_some]
    have R := relays_run (K := K) h ha hb hmo
    have fl := fnd_len (byL_ok h).2 (byL_ne h) a b (k := mo.toNat) (by omega)
    have ft : fitR K (fnd (byL cs) a b mo.toNat) = true := fit_rows (by omega) (fnd_ok h a b (by omega))
    generalize fnd (byL cs) a b mo.toNat = rows at R fl ft ⊢
    refine wp_bindR (run_okX R) ?_
    refine wp_need ⟨fun _ => ft, fun _ => ft⟩ ?_
    refine wp_if (fun e => ?_) fun _ => ?_
    · have e : (!decide (reprT K rows = reprT K rows)) = true := e
      exact not_t (decide_eq_true rfl) e
    refine wp_need (by omega) ?_
    refine wp_bindR (run_okX R) ?_
    refine wp_need ft (wp_need ft (wp_if (fun e => not_t (decide_eq_true rfl) e) fun _ => ?_))
    exact wp_le (hnx _ fun _ => ⟨a, ha, b, hb, mo, hmo, rfl⟩) (by omega)
  · show 2 * 3 + (5 + cn) ≤ _
    omega
end
end Nw
namespace Nw
open PySem PySem.Spec PyProof.Rows L2
def d_l_next : He.DefD := ⟨("_law_next", none), "_law_next", "_law_next", defArgs s_l_next, defBody s_l_next, defScope s_l_next, [], []⟩
def d_l_begun : He.DefD := ⟨("_law_begun", none), "_law_begun", "_law_begun", defArgs s_l_begun, defBody s_l_begun, defScope s_l_begun, [], []⟩
def d_l_pick : He.DefD := ⟨("_law_pick", none), "_law_pick", "_law_pick", defArgs s_l_pick, defBody s_l_pick, defScope s_l_pick, [], []⟩
def d_l_shuffled : He.DefD := ⟨("_law_shuffled", none), "_law_shuffled", "_law_shuffled", defArgs s_l_shuffled, defBody s_l_shuffled, defScope s_l_shuffled, [], []⟩
def d_l_some : He.DefD := ⟨("_law_some", none), "_law_some", "_law_some", defArgs s_l_some, defBody s_l_some, defScope s_l_some, [], []⟩
def d_is_process : He.DefD := ⟨("is_process", none), "is_process", "is_process", defArgs s_is_process, defBody s_is_process, defScope s_is_process, [], []⟩
def d_is_channel : He.DefD := ⟨("is_channel", none), "is_channel", "is_channel", defArgs s_is_channel, defBody s_is_channel, defScope s_is_channel, [], []⟩
def d_Net__init : He.DefD := ⟨("Net", some "__init__"), "__init__", "Net.__init__", defArgs s_Net__init, defBody s_Net__init, defScope s_Net__init, [], []⟩
def d_Net_channels : He.DefD := ⟨("Net", some "channels"), "channels", "Net.channels", defArgs s_Net_channels, defBody s_Net_channels, defScope s_Net_channels, [], []⟩
def d_Net_processes : He.DefD := ⟨("Net", some "processes"), "processes", "Net.processes", defArgs s_Net_processes, defBody s_Net_processes, defScope s_Net_processes, [], []⟩
def d_Net_need_process : He.DefD := ⟨("Net", some "need_process"), "need_process", "Net.need_process", defArgs s_Net_need_process, defBody s_Net_need_process, defScope s_Net_need_process, [], []⟩
def d_l_ends_by : He.DefD := ⟨("_law_ends_by", none), "_law_ends_by", "_law_ends_by", defArgs s_l_ends_by, defBody s_l_ends_by, defScope s_l_ends_by, [], []⟩
def d_l_walked : He.DefD := ⟨("_law_walked", none), "_law_walked", "_law_walked", defArgs s_l_walked, defBody s_l_walked, defScope s_l_walked, [], []⟩
def d_l_processes : He.DefD := ⟨("_law_processes", none), "_law_processes", "_law_processes", defArgs s_l_processes, defBody s_l_processes, defScope s_l_processes, [], []⟩
def d_l_channels : He.DefD := ⟨("_law_channels", none), "_law_channels", "_law_channels", defArgs s_l_channels, defBody s_l_channels, defScope s_l_channels, [], []⟩
def d_l_all_names : He.DefD := ⟨("_law_all_names", none), "_law_all_names", "_law_all_names", defArgs s_l_all_names, defBody s_l_all_names, defScope s_l_all_names, [], []⟩
def d_l_no_process : He.DefD := ⟨("_law_no_process", none), "_law_no_process", "_law_no_process", defArgs s_l_no_process, defBody s_l_no_process, defScope s_l_no_process, [], []⟩
def d_l_strange : He.DefD := ⟨("_law_strange", none), "_law_strange", "_law_strange", defArgs s_l_strange, defBody s_l_strange, defScope s_l_strange, [], []⟩
def d_is_number : He.DefD := ⟨("is_number", none), "is_number", "is_number", defArgs s_is_number, defBody s_is_number, defScope s_is_number, [], []⟩
def d_is_part : He.DefD := ⟨("is_part", none), "is_part", "is_part", defArgs s_is_part, defBody s_is_part, defScope s_is_part, [], []⟩
def d_Net_relays : He.DefD := ⟨("Net", some "relays"), "relays", "Net.relays", defArgs s_Net_relays, defBody s_Net_relays, defScope s_Net_relays, [], []⟩
def d_Net_best : He.DefD := ⟨("Net", some "best"), "best", "Net.best", defArgs s_Net_best, defBody s_Net_best, defScope s_Net_best, [], []⟩
def d_l_relays : He.DefD := ⟨("_law_relays", none), "_law_relays", "_law_relays", defArgs s_l_relays, defBody s_l_relays, defScope s_l_relays, [], []⟩
def d_law : He.DefD := ⟨("law", none), "law", "law", defArgs s_law, defBody s_law, defScope s_law, [], []⟩
def d_l_word : He.DefD := ⟨("_law_word", none), "_law_word", "_law_word", defArgs s_l_word, defBody s_l_word, defScope s_l_word, [], []⟩
def fn : List He.DefD := [d_l_next, d_l_begun, d_l_pick, d_l_shuffled, d_l_some, d_is_process, d_is_channel, d_Net__init, d_Net_need_process, d_l_ends_by, d_l_walked, d_l_processes, d_l_channels, d_l_all_names, d_l_no_process, d_l_strange, d_is_number, d_is_part, d_Net_relays, d_Net_best, d_l_relays, d_law, d_l_word]
def gs : List GetD := [(("Net", "channels"), d_Net_channels), (("Net", "processes"), d_Net_processes)]
def tf : List He.Defn := [("law", none)]
def fa : List He.Fa := [.free "abs", .free "all", .free "any", .free "bool", .free "dict", .free "int", .free "isinstance", .free "len", .free "list", .free "min", .free "property", .free "range", .free "repr", .free "set", .free "sorted", .free "str", .free "tuple", .free "ValueError", .glo "_wall", .glo "is_number", .glo "is_process", .glo "is_channel", .glo "is_part", .glo "_law_begun", .glo "_law_next", .glo "_law_pick", .glo "_law_shuffled", .glo "_law_some", .glo "_law_processes", .glo "_law_channels", .glo "_law_ends_by", .glo "_law_walked", .glo "_law_all_names", .glo "_law_relays", .glo "_law_no_process", .glo "_law_word", .glo "_law_strange", .glo "law", .glo "OrderError", .glo "NoRow", .exc "NoRow", .glo "NoNet", .exc "NoNet", .glo "NoProcess", .exc "NoProcess", .glo "NoChannel", .exc "NoChannel", .glo "Net", .cls "Net", .mkr "Net", .meth "Net" "need_process", .meth "Net" "need_letter_of", .meth "Net" "walked", .meth "Net" "walk", .meth "Net" "relays", .meth "Net" "best", .noat "Net" "by_letter", .str "LINKS" "abcd", .str "SIGNS" "abcdefghijklmnopqrstuvwxyz", .int "MOST_CHANNELS" 4, .int "MOST_SIGNS" 6, .int "MOST_RELAYED" 6, .exm "NoProcess" "OrderError" true, .exm "NoNet" "OrderError" true, .exm "NoChannel" "OrderError" true, .exm "NoRow" "OrderError" true]
def loose : List Str := (["_wall", "OrderError", "NoRow", "NoNet", "NoProcess", "NoChannel", "is_number", "LINKS", "SIGNS", "MOST_CHANNELS", "MOST_SIGNS", "MOST_RELAYED", "is_process", "is_channel", "is_part", "Net", "_law_begun", "_law_next", "_law_pick", "_law_shuffled", "_law_some", "_law_processes", "_law_channels", "_law_ends_by", "_law_walked", "_law_all_names", "_law_relays", "_law_no_process", "_law_word", "_law_strange"] : List Str)
def ex (K : PySem.W.Frag) : Bool := (insB K (He.ga K "Net") && (exfB K (He.ga K "NoProcess") && (exfB K (He.ga K "NoNet") && (exfB K (He.ga K "NoChannel") && (exfB K (He.ga K "NoRow") && (decide (PySem.W.kitOne K (.ref (He.ga K "NoProcess")) (.ref (He.ga K "NoProcess")) = some true) && (decide (PySem.W.kitOne K (.ref (He.ga K "NoProcess")) (.ref (He.ga K "NoNet")) = some false) && (decide (PySem.W.kitOne K (.ref (He.ga K "NoProcess")) (.ref (He.ga K "NoChannel")) = some false) && (decide (PySem.W.kitOne K (.ref (He.ga K "NoProcess")) (.ref (He.ga K "NoRow")) = some false) && (decide (PySem.W.kitOne K (.ref (He.ga K "NoNet")) (.ref (He.ga K "NoProcess")) = some false) && (decide (PySem.W.kitOne K (.ref (He.ga K "NoNet")) (.ref (He.ga K "NoNet")) = some true) && (decide (PySem.W.kitOne K (.ref (He.ga K "NoNet")) (.ref (He.ga K "NoChannel")) = some false) && (decide (PySem.W.kitOne K (.ref (He.ga K "NoNet")) (.ref (He.ga K "NoRow")) = some false) && (decide (PySem.W.kitOne K (.ref (He.ga K "NoProcess")) (.type "ValueError") = some true) && (decide (PySem.W.kitOne K (.ref (He.ga K "NoNet")) (.type "ValueError") = some true) && (propB K (He.ga K "Net") "channels" && propB K (He.ga K "Net") "processes"))))))))))))))))
abbrev R : PySem.W.OpenRow := PySem.W.OpenLaw.row PySem.Challenge.rw_newsinorder_k64_relays_listed
abbrev hk : PySem.W.Hook := hookP 5 fa fn tf ex gs
def ob (s : PySem.W.SharedT) : AlP := obsP 5 fa fn tf ex gs (HandSHeadRun.getT s)
theorem ob_eq (s : PySem.W.SharedT) : ob s = hk.obs s.abs := obsP_eq (HandSHeadRun.getT_eq s)

theorem run (w : World) : HandSHeadRun.RunEq R (PySem.W.view R.prog [34]) hk ob 20000 loose w := by
  intro os
  kernel_rfl
theorem facts {P : Program} {w : World} {K : PySem.W.Frag} {h : Heap} {mg : Str → Option Value} {f : Addr} (X : K.In h) (G : h.Ns mainGlobals mg) (hfa : mg ("law" : Str) = some (.ref f)) (c : SaysP fa fn tf ex gs h K) :
    ∃ fd : FuncData, (∀ (s : Shared) (v : Value), BindsTo s fd ⟨[v], []⟩ [("_law_script", v)]) ∧ ∀ base : Heap, K.In base → base.Ns mainGlobals mg → (∀ p ∈ tf.map (He.cT K), LamX.TabB base mg p.1 p.2) → FnG P w K mg base CX0 10 f fd ["_law_script"] (sp_law K) := by
  have cm := c.more
  unfold ex at cm
  rw [Bool.and_eq_true, Bool.and_eq_true, Bool.and_eq_true, Bool.and_eq_true, Bool.and_eq_true, Bool.and_eq_true, Bool.and_eq_true, Bool.and_eq_true, Bool.and_eq_true, Bool.and_eq_true, Bool.and_eq_true, Bool.and_eq_true, Bool.and_eq_true, Bool.and_eq_true, Bool.and_eq_true, Bool.and_eq_true] at cm
  obtain ⟨i_0, i_1, i_2, i_3, i_4, i_5, i_6, i_7, i_8, i_9, i_10, i_11, i_12, i_13, i_14, i_15, i_16⟩ := cm
  have x_0 : mg "abs" = none := He.free_ok X G (c.d.fact 0 (f := .free "abs") rfl)
  have x_1 : mg "all" = none := He.free_ok X G (c.d.fact 1 (f := .free "all") rfl)
  have x_2 : mg "any" = none := He.free_ok X G (c.d.fact 2 (f := .free "any") rfl)
  have x_3 : mg "bool" = none := He.free_ok X G (c.d.fact 3 (f := .free "bool") rfl)
  have x_4 : mg "dict" = none := He.free_ok X G (c.d.fact 4 (f := .free "dict") rfl)
  have x_5 : mg "int" = none := He.free_ok X G (c.d.fact 5 (f := .free "int") rfl)
  have x_6 : mg "isinstance" = none := He.free_ok X G (c.d.fact 6 (f := .free "isinstance") rfl)
  have x_7 : mg "len" = none := He.free_ok X G (c.d.fact 7 (f := .free "len") rfl)
  have x_8 : mg "list" = none := He.free_ok X G (c.d.fact 8 (f := .free "list") rfl)
  have x_9 : mg "min" = none := He.free_ok X G (c.d.fact 9 (f := .free "min") rfl)
  have x_10 : mg "property" = none := He.free_ok X G (c.d.fact 10 (f := .free "property") rfl)
  have x_11 : mg "range" = none := He.free_ok X G (c.d.fact 11 (f := .free "range") rfl)
  have x_12 : mg "repr" = none := He.free_ok X G (c.d.fact 12 (f := .free "repr") rfl)
  have x_13 : mg "set" = none := He.free_ok X G (c.d.fact 13 (f := .free "set") rfl)
  have x_14 : mg "sorted" = none := He.free_ok X G (c.d.fact 14 (f := .free "sorted") rfl)
  have x_15 : mg "str" = none := He.free_ok X G (c.d.fact 15 (f := .free "str") rfl)
  have x_16 : mg "tuple" = none := He.free_ok X G (c.d.fact 16 (f := .free "tuple") rfl)
  have x_17 : mg "ValueError" = none := He.free_ok X G (c.d.fact 17 (f := .free "ValueError") rfl)
  have x_18 : mg "_wall" = some (.ref (He.ga K "_wall")) := He.glo_ok X G (c.d.fact 18 (f := .glo "_wall") rfl)
  have x_19 : mg "is_number" = some (.ref (He.ga K "is_number")) := He.glo_ok X G (c.d.fact 19 (f := .glo "is_number") rfl)
  have x_20 : mg "is_process" = some (.ref (He.ga K "is_process")) := He.glo_ok X G (c.d.fact 20 (f := .glo "is_process") rfl)
  have x_21 : mg "is_channel" = some (.ref (He.ga K "is_channel")) := He.glo_ok X G (c.d.fact 21 (f := .glo "is_channel") rfl)
  have x_22 : mg "is_part" = some (.ref (He.ga K "is_part")) := He.glo_ok X G (c.d.fact 22 (f := .glo "is_part") rfl)
  have x_23 : mg "_law_begun" = some (.ref (He.ga K "_law_begun")) := He.glo_ok X G (c.d.fact 23 (f := .glo "_law_begun") rfl)
  have x_24 : mg "_law_next" = some (.ref (He.ga K "_law_next")) := He.glo_ok X G (c.d.fact 24 (f := .glo "_law_next") rfl)
  have x_25 : mg "_law_pick" = some (.ref (He.ga K "_law_pick")) := He.glo_ok X G (c.d.fact 25 (f := .glo "_law_pick") rfl)
  have x_26 : mg "_law_shuffled" = some (.ref (He.ga K "_law_shuffled")) := He.glo_ok X G (c.d.fact 26 (f := .glo "_law_shuffled") rfl)
  have x_27 : mg "_law_some" = some (.ref (He.ga K "_law_some")) := He.glo_ok X G (c.d.fact 27 (f := .glo "_law_some") rfl)
  have x_28 : mg "_law_processes" = some (.ref (He.ga K "_law_processes")) := He.glo_ok X G (c.d.fact 28 (f := .glo "_law_processes") rfl)
  have x_29 : mg "_law_channels" = some (.ref (He.ga K "_law_channels")) := He.glo_ok X G (c.d.fact 29 (f := .glo "_law_channels") rfl)
  have x_30 : mg "_law_ends_by" = some (.ref (He.ga K "_law_ends_by")) := He.glo_ok X G (c.d.fact 30 (f := .glo "_law_ends_by") rfl)
  have x_31 : mg "_law_walked" = some (.ref (He.ga K "_law_walked")) := He.glo_ok X G (c.d.fact 31 (f := .glo "_law_walked") rfl)
  have x_32 : mg "_law_all_names" = some (.ref (He.ga K "_law_all_names")) := He.glo_ok X G (c.d.fact 32 (f := .glo "_law_all_names") rfl)
  have x_33 : mg "_law_relays" = some (.ref (He.ga K "_law_relays")) := He.glo_ok X G (c.d.fact 33 (f := .glo "_law_relays") rfl)
  have x_34 : mg "_law_no_process" = some (.ref (He.ga K "_law_no_process")) := He.glo_ok X G (c.d.fact 34 (f := .glo "_law_no_process") rfl)
  have x_35 : mg "_law_word" = some (.ref (He.ga K "_law_word")) := He.glo_ok X G (c.d.fact 35 (f := .glo "_law_word") rfl)
  have x_36 : mg "_law_strange" = some (.ref (He.ga K "_law_strange")) := He.glo_ok X G (c.d.fact 36 (f := .glo "_law_strange") rfl)
  have x_37 : mg "law" = some (.ref (He.ga K "law")) := He.glo_ok X G (c.d.fact 37 (f := .glo "law") rfl)
  have x_38 : mg "OrderError" = some (.ref (He.ga K "OrderError")) := He.glo_ok X G (c.d.fact 38 (f := .glo "OrderError") rfl)
  have x_39 : mg "NoRow" = some (.ref (He.ga K "NoRow")) := He.glo_ok X G (c.d.fact 39 (f := .glo "NoRow") rfl)
  have x_40 : PySem.W.excIn K (He.ga K "NoRow") He.veBase "ValueError.__new__" = true ∧ PySem.W.keepIn K (.ref (He.ga K "NoRow")) = true ∧ PySem.W.subIn K (.ref (He.ga K "NoRow")) (.type "BaseException") = some true ∧ PySem.W.typeIn K (.ref (He.ga K "NoRow")) = some (.type "type") := He.exc_ok (c.d.fact 40 (f := .exc "NoRow") rfl)
  have x_41 : mg "NoNet" = some (.ref (He.ga K "NoNet")) := He.glo_ok X G (c.d.fact 41 (f := .glo "NoNet") rfl)
  have x_42 : PySem.W.excIn K (He.ga K "NoNet") He.veBase "ValueError.__new__" = true ∧ PySem.W.keepIn K (.ref (He.ga K "NoNet")) = true ∧ PySem.W.subIn K (.ref (He.ga K "NoNet")) (.type "BaseException") = some true ∧ PySem.W.typeIn K (.ref (He.ga K "NoNet")) = some (.type "type") := He.exc_ok (c.d.fact 42 (f := .exc "NoNet") rfl)
  have x_43 : mg "NoProcess" = some (.ref (He.ga K "NoProcess")) := He.glo_ok X G (c.d.fact 43 (f := .glo "NoProcess") rfl)
  have x_44 : PySem.W.excIn K (He.ga K "NoProcess") He.veBase "ValueError.__new__" = true ∧ PySem.W.keepIn K (.ref (He.ga K "NoProcess")) = true ∧ PySem.W.subIn K (.ref (He.ga K "NoProcess")) (.type "BaseException") = some true ∧ PySem.W.typeIn K (.ref (He.ga K "NoProcess")) = some (.type "type") := He.exc_ok (c.d.fact 44 (f := .exc "NoProcess") rfl)
  have x_45 : mg "NoChannel" = some (.ref (He.ga K "NoChannel")) := He.glo_ok X G (c.d.fact 45 (f := .glo "NoChannel") rfl)
  have x_46 : PySem.W.excIn K (He.ga K "NoChannel") He.veBase "ValueError.__new__" = true ∧ PySem.W.keepIn K (.ref (He.ga K "NoChannel")) = true ∧ PySem.W.subIn K (.ref (He.ga K "NoChannel")) (.type "BaseException") = some true ∧ PySem.W.typeIn K (.ref (He.ga K "NoChannel")) = some (.type "type") := He.exc_ok (c.d.fact 46 (f := .exc "NoChannel") rfl)
  have x_47 : mg "Net" = some (.ref (He.ga K "Net")) := He.glo_ok X G (c.d.fact 47 (f := .glo "Net") rfl)
  have x_48 : Cls K (He.ga K "Net") := He.cls_ok (c.d.fact 48 (f := .cls "Net") rfl)
  have x_49 : Mk K (He.ga K "Net") (He.ma K (He.ga K "Net") "__init__") := He.mkr_ok (c.d.fact 49 (f := .mkr "Net") rfl)
  have x_50 : Meth K (He.ga K "Net") "need_process" (He.ma K (He.ga K "Net") "need_process") := He.meth_ok (c.d.fact 50 (f := .meth "Net" "need_process") rfl)
  have x_51 : Meth K (He.ga K "Net") "need_letter_of" (He.ma K (He.ga K "Net") "need_letter_of") := He.meth_ok (c.d.fact 51 (f := .meth "Net" "need_letter_of") rfl)
  have x_52 : Meth K (He.ga K "Net") "walked" (He.ma K (He.ga K "Net") "walked") := He.meth_ok (c.d.fact 52 (f := .meth "Net" "walked") rfl)
  have x_53 : Meth K (He.ga K "Net") "walk" (He.ma K (He.ga K "Net") "walk") := He.meth_ok (c.d.fact 53 (f := .meth "Net" "walk") rfl)
  have x_54 : Meth K (He.ga K "Net") "relays" (He.ma K (He.ga K "Net") "relays") := He.meth_ok (c.d.fact 54 (f := .meth "Net" "relays") rfl)
  have x_55 : Meth K (He.ga K "Net") "best" (He.ma K (He.ga K "Net") "best") := He.meth_ok (c.d.fact 55 (f := .meth "Net" "best") rfl)
  have x_56 : NoAttr K (He.ga K "Net") "by_letter" := He.noat_ok (c.d.fact 56 (f := .noat "Net" "by_letter") rfl)
  have x_57 : ∃ t, mg "LINKS" = some (.str "abcd" t) := He.str_ok X G (c.d.fact 57 (f := .str "LINKS" "abcd") rfl)
  have x_58 : ∃ t, mg "SIGNS" = some (.str "abcdefghijklmnopqrstuvwxyz" t) := He.str_ok X G (c.d.fact 58 (f := .str "SIGNS" "abcdefghijklmnopqrstuvwxyz") rfl)
  have x_59 : ∃ t, mg "MOST_CHANNELS" = some (.int 4 t) := He.int_ok X G (c.d.fact 59 (f := .int "MOST_CHANNELS" 4) rfl)
  have x_60 : ∃ t, mg "MOST_SIGNS" = some (.int 6 t) := He.int_ok X G (c.d.fact 60 (f := .int "MOST_SIGNS" 6) rfl)
  have x_61 : ∃ t, mg "MOST_RELAYED" = some (.int 6 t) := He.int_ok X G (c.d.fact 61 (f := .int "MOST_RELAYED" 6) rfl)
  have x_62 : PySem.W.exmOne K (.ref (He.ga K "NoProcess")) (.ref (He.ga K "OrderError")) = some true := He.exm_ok (c.d.fact 62 (f := .exm "NoProcess" "OrderError" true) rfl)
  have x_63 : PySem.W.exmOne K (.ref (He.ga K "NoNet")) (.ref (He.ga K "OrderError")) = some true := He.exm_ok (c.d.fact 63 (f := .exm "NoNet" "OrderError" true) rfl)
  have x_64 : PySem.W.exmOne K (.ref (He.ga K "NoChannel")) (.ref (He.ga K "OrderError")) = some true := He.exm_ok (c.d.fact 64 (f := .exm "NoChannel" "OrderError" true) rfl)
  have x_65 : PySem.W.exmOne K (.ref (He.ga K "NoRow")) (.ref (He.ga K "OrderError")) = some true := He.exm_ok (c.d.fact 65 (f := .exm "NoRow" "OrderError" true) rfl)
  have x_66 : InsF K (He.ga K "Net") := insB_ok i_0
  have x_67 : ExF K (He.ga K "NoProcess") := exfB_ok i_1
  have x_68 : ExF K (He.ga K "NoNet") := exfB_ok i_2
  have x_69 : ExF K (He.ga K "NoChannel") := exfB_ok i_3
  have x_70 : ExF K (He.ga K "NoRow") := exfB_ok i_4
  have x_71 : PySem.W.kitOne K (.ref (He.ga K "NoProcess")) (.ref (He.ga K "NoProcess")) = some true := of_decide_eq_true i_5
  have x_72 : PySem.W.kitOne K (.ref (He.ga K "NoProcess")) (.ref (He.ga K "NoNet")) = some false := of_decide_eq_true i_6
  have x_73 : PySem.W.kitOne K (.ref (He.ga K "NoProcess")) (.ref (He.ga K "NoChannel")) = some false := of_decide_eq_true i_7
  have x_74 : PySem.W.kitOne K (.ref (He.ga K "NoProcess")) (.ref (He.ga K "NoRow")) = some false := of_decide_eq_true i_8
  have x_75 : PySem.W.kitOne K (.ref (He.ga K "NoNet")) (.ref (He.ga K "NoProcess")) = some false := of_decide_eq_true i_9
  have x_76 : PySem.W.kitOne K (.ref (He.ga K "NoNet")) (.ref (He.ga K "NoNet")) = some true := of_decide_eq_true i_10
  have x_77 : PySem.W.kitOne K (.ref (He.ga K "NoNet")) (.ref (He.ga K "NoChannel")) = some false := of_decide_eq_true i_11
  have x_78 : PySem.W.kitOne K (.ref (He.ga K "NoNet")) (.ref (He.ga K "NoRow")) = some false := of_decide_eq_true i_12
  have x_79 : PySem.W.kitOne K (.ref (He.ga K "NoProcess")) (.type "ValueError") = some true := of_decide_eq_true i_13
  have x_80 : PySem.W.kitOne K (.ref (He.ga K "NoNet")) (.type "ValueError") = some true := of_decide_eq_true i_14
  have x_81 : PropOf K (He.ga K "Net") "channels" (propAt K (He.ga K "Net") "channels") (propGet K (He.ga K "Net") "channels") := propB_ok i_15
  have x_82 : PropOf K (He.ga K "Net") "processes" (propAt K (He.ga K "Net") "processes") (propGet K (He.ga K "Net") "processes") := propB_ok i_16
  have T : Txt K mg := ⟨x_0, x_1, x_2, x_3, x_4, x_5, x_6, x_7, x_8, x_9, x_10, x_11, x_12, x_13, x_14, x_15, x_16, x_17, x_18, x_19, x_20, x_21, x_22, x_23, x_24, x_25, x_26, x_27, x_28, x_29, x_30, x_31, x_32, x_33, x_34, x_35, x_36, x_37, x_38, x_39, x_40, x_41, x_42, x_43, x_44, x_45, x_46, x_47, x_48, x_49, x_50, x_51, x_52, x_53, x_54, x_55, x_56, x_57, x_58, x_59, x_60, x_61, x_62, x_63, x_64, x_65, x_66, x_67, x_68, x_69, x_70, x_71, x_72, x_73, x_74, x_75, x_76, x_77, x_78, x_79, x_80, x_81, x_82⟩
  have F_Net_channels : FnAt K "channels" "Net.channels" s_Net_channels (propGet K (He.ga K "Net") "channels") := c.get 0 (d := (("Net", "channels"), d_Net_channels)) rfl
  have F_Net_processes : FnAt K "processes" "Net.processes" s_Net_processes (propGet K (He.ga K "Net") "processes") := c.get 1 (d := (("Net", "processes"), d_Net_processes)) rfl
  have F_l_next : FnAt K "_law_next" "_law_next" s_l_next (He.ga K "_law_next") := c.d.def_ 0 (d := d_l_next) rfl
  have F_l_begun : FnAt K "_law_begun" "_law_begun" s_l_begun (He.ga K "_law_begun") := c.d.def_ 1 (d := d_l_begun) rfl
  have F_l_pick : FnAt K "_law_pick" "_law_pick" s_l_pick (He.ga K "_law_pick") := c.d.def_ 2 (d := d_l_pick) rfl
  have F_l_shuffled : FnAt K "_law_shuffled" "_law_shuffled" s_l_shuffled (He.ga K "_law_shuffled") := c.d.def_ 3 (d := d_l_shuffled) rfl
  have F_l_some : FnAt K "_law_some" "_law_some" s_l_some (He.ga K "_law_some") := c.d.def_ 4 (d := d_l_some) rfl
  have F_is_process : FnAt K "is_process" "is_process" s_is_process (He.ga K "is_process") := c.d.def_ 5 (d := d_is_process) rfl
  have F_is_channel : FnAt K "is_channel" "is_channel" s_is_channel (He.ga K "is_channel") := c.d.def_ 6 (d := d_is_channel) rfl
  have F_Net__init : FnAt K "__init__" "Net.__init__" s_Net__init (He.ma K (He.ga K "Net") "__init__") := c.d.def_ 7 (d := d_Net__init) rfl
  have F_Net_need_process : FnAt K "need_process" "Net.need_process" s_Net_need_process (He.ma K (He.ga K "Net") "need_process") := c.d.def_ 8 (d := d_Net_need_process) rfl
  have F_l_ends_by : FnAt K "_law_ends_by" "_law_ends_by" s_l_ends_by (He.ga K "_law_ends_by") := c.d.def_ 9 (d := d_l_ends_by) rfl
  have F_l_walked : FnAt K "_law_walked" "_law_walked" s_l_walked (He.ga K "_law_walked") := c.d.def_ 10 (d := d_l_walked) rfl
  have F_l_processes : FnAt K "_law_processes" "_law_processes" s_l_processes (He.ga K "_law_processes") := c.d.def_ 11 (d := d_l_processes) rfl
  have F_l_channels : FnAt K "_law_channels" "_law_channels" s_l_channels (He.ga K "_law_channels") := c.d.def_ 12 (d := d_l_channels) rfl
  have F_l_all_names : FnAt K "_law_all_names" "_law_all_names" s_l_all_names (He.ga K "_law_all_names") := c.d.def_ 13 (d := d_l_all_names) rfl
  have F_l_no_process : FnAt K "_law_no_process" "_law_no_process" s_l_no_process (He.ga K "_law_no_process") := c.d.def_ 14 (d := d_l_no_process) rfl
  have F_l_strange : FnAt K "_law_strange" "_law_strange" s_l_strange (He.ga K "_law_strange") := c.d.def_ 15 (d := d_l_strange) rfl
  have F_is_number : FnAt K "is_number" "is_number" s_is_number (He.ga K "is_number") := c.d.def_ 16 (d := d_is_number) rfl
  have F_is_part : FnAt K "is_part" "is_part" s_is_part (He.ga K "is_part") := c.d.def_ 17 (d := d_is_part) rfl
  have F_Net_relays : FnAt K "relays" "Net.relays" s_Net_relays (He.ma K (He.ga K "Net") "relays") := c.d.def_ 18 (d := d_Net_relays) rfl
  have F_Net_best : FnAt K "best" "Net.best" s_Net_best (He.ma K (He.ga K "Net") "best") := c.d.def_ 19 (d := d_Net_best) rfl
  have F_l_relays : FnAt K "_law_relays" "_law_relays" s_l_relays (He.ga K "_law_relays") := c.d.def_ 20 (d := d_l_relays) rfl
  have F_l_word : FnAt K "_law_word" "_law_word" s_l_word (He.ga K "_law_word") := c.d.def_ 22 (d := d_l_word) rfl
  obtain ⟨fd, F⟩ := c.d.def_ 21 (d := d_law) rfl
  have e := hfa.symm.trans T.g_law
  cases e
  have b := FunD.bindsA (ps := ["_law_script"]) F fun _ _ _ _ _ _ us hl => match us, hl with | [_], _ => rfl
  refine ⟨fd, fun s v => b s [v] rfl, fun base _ _ TBs => ?_⟩
  have TB : LamX.TabB base mg (He.codeOf K ("law", none)) (He.tabOf K (He.codeOf K ("law", none))) := TBs _ (List.mem_map_of_mem (f := He.cT K) (List.mem_cons_self ..))
  have O_l_next := ok_l_next (P := P) (w := w) (base := base) T F_l_next 
  have O_l_begun := ok_l_begun (P := P) (w := w) (base := base) T F_l_begun 
  have O_l_pick := ok_l_pick (P := P) (w := w) (base := base) T F_l_pick O_l_next
  have O_l_shuffled := ok_l_shuffled (P := P) (w := w) (base := base) T F_l_shuffled O_l_next
  have O_l_some := ok_l_some (P := P) (w := w) (base := base) T F_l_some O_l_shuffled O_l_next
  have O_is_process := ok_is_process (P := P) (w := w) (base := base) T F_is_process 
  have O_is_channel := ok_is_channel (P := P) (w := w) (base := base) T F_is_channel O_is_process
  have O_Net__init := ok_Net__init (P := P) (w := w) (base := base) T F_Net__init 
  have OB_Net__init := okb_Net__init (P := P) (w := w) (base := base) T F_Net__init O_is_channel
  have OX_Net__init := (O_Net__init.toX (CX' := L2.CX P w)).or OB_Net__init
  have O_Net_channels := ok_Net_channels (P := P) (w := w) (base := base) T F_Net_channels 
  have O_Net_processes := ok_Net_processes (P := P) (w := w) (base := base) T F_Net_processes 
  have O_Net_need_process := ok_Net_need_process (P := P) (w := w) (base := base) T F_Net_need_process 
  have OB_Net_need_process := okb_Net_need_process (P := P) (w := w) (base := base) T F_Net_need_process O_Net_processes
  have OX_Net_need_process := (O_Net_need_process.toX (CX' := L2.CX P w)).or OB_Net_need_process
  have O_l_ends_by := ok_l_ends_by (P := P) (w := w) (base := base) T F_l_ends_by 
  have O_l_walked := ok_l_walked (P := P) (w := w) (base := base) T F_l_walked O_l_ends_by
  have O_l_processes := ok_l_processes (P := P) (w := w) (base := base) T F_l_processes O_l_next O_l_pick O_l_shuffled
  have O_l_channels := ok_l_channels (P := P) (w := w) (base := base) T F_l_channels O_l_processes O_l_next O_l_some O_l_shuffled
  have O_l_all_names := ok_l_all_names (P := P) (w := w) (base := base) T F_l_all_names 
  have O_l_no_process := ok_l_no_process (P := P) (w := w) (base := base) T F_l_no_process O_l_pick
  have O_l_strange := ok_l_strange (P := P) (w := w) (base := base) T F_l_strange O_l_all_names O_l_pick
  have O_is_number := ok_is_number (P := P) (w := w) (base := base) T F_is_number 
  have O_is_part := ok_is_part (P := P) (w := w) (base := base) T F_is_part 
  have O_Net_relays := ok_Net_relays (P := P) (w := w) (base := base) T F_Net_relays 
  have OB_Net_relays := okb_Net_relays (P := P) (w := w) (base := base) T F_Net_relays OX_Net_need_process O_is_number
  have OX_Net_relays := (O_Net_relays.toX (CX' := L2.CX P w)).or OB_Net_relays
  have O_Net_best := ok_Net_best (P := P) (w := w) (base := base) T F_Net_best 
  have OB_Net_best := okb_Net_best (P := P) (w := w) (base := base) T F_Net_best OX_Net_relays O_is_part
  have OX_Net_best := (O_Net_best.toX (CX' := L2.CX P w)).or OB_Net_best
  have O_l_relays := ok_l_relays (P := P) (w := w) (base := base) T F_l_relays O_l_walked
  exact ok_law T F O_l_begun O_l_channels O_l_all_names OX_Net__init O_l_pick O_l_next O_l_relays OX_Net_relays OX_Net_best O_l_no_process O_l_strange TB F_l_word law_holds
end Nw
open PySem PySem.W PySem.Calls PyProof.Rows
theorem PySem.Challenge.cw_newsinorder_k64_relays_listed_holds : PySem.Challenge.rw_newsinorder_k64_relays_listed.Holds := by
  w_on; o_law
  refine HandSHeadRun.head_any (r := OpenLaw.row PySem.Challenge.rw_newsinorder_k64_relays_listed) (q := view (OpenLaw.row PySem.Challenge.rw_newsinorder_k64_relays_listed).prog [34]) (H := Nw.hk) (ob := Nw.ob) (M := 20000) (loose := Nw.loose) (d := HandSHeadRun.topDef (OpenLaw.row PySem.Challenge.rw_newsinorder_k64_relays_listed).prog 34) (kwd := []) Nw.ob_eq
    (by kernel_rfl) (fun s => by kernel_rfl) Nw.run (by kernel_rfl) (by kernel_rfl) (by kernel_rfl) (by rfl) (by first | assumption | decide +kernel) (by decide +kernel) ⟨rfl, rfl, rfl, rfl, rfl, by decide +kernel⟩ ?hw ?hc
  case hw => w_witness2
  case hc =>
    refine Nw.walk_ofGT (l := PySem.Challenge.rw_newsinorder_k64_relays_listed) (n := 63) (k := 10) (x := "_law_script") rfl (by decide) (by kernel_rfl) ⟨rfl, by decide, by decide⟩ ?F
    intro w mg fa h Y G hmg0
    obtain ⟨K, KX, c⟩ := Y
    have hmg : mg ("law" : PySem.Str) = some (.ref fa) := by
      have e : (HandSHeadRun.topDef (OpenLaw.row PySem.Challenge.rw_newsinorder_k64_relays_listed).prog 34).name = ("law" : PySem.Str) := by kernel_rfl
      rw [← e]
      exact hmg0
    obtain ⟨fd, hb, hF⟩ := Nw.facts (P := (PySem.Challenge.rw_newsinorder_k64_relays_listed).prog) (w := w) KX G hmg c
    exact ⟨K, fd, Nw.tf.map (He.cT K), Nw.sp_law K, KX, fun p hp => by
        obtain ⟨q, hq, rfl⟩ := List.mem_map.mp hp
        exact c.empty q hq, fun p hp => by
        obtain ⟨q, hq, rfl⟩ := List.mem_map.mp hp
        exact c.out q hq, fun p hp => by
        obtain ⟨q, hq, rfl⟩ := List.mem_map.mp hp
        exact c.hd q hq, hb, fun H a ns hl hT hS => ⟨Nw.noT H, a, ns, rfl, Nw.noT_sub, Nw.noT_tb, fun p hp => by
          rw [List.mem_singleton] at hp
          subst hp
          exact LamX.TabS.nil (hT (He.cT K ("law", none)) (List.mem_map_of_mem (f := He.cT K) (List.mem_cons_self ..))), Nw.noT_seq hS, hl, fun _ => rfl⟩, hF⟩