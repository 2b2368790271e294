import PyProof.Rows.All
import Wide.All
import OpenK.AllK
import Wide.FinOn
import HandS.ForMost
import HandS.ForExc
import HandS.Defaults
import HandS.IsInst
import HandS.More
import HandS.Zip
import HandS.TupAny
import HandS.TupMul
import HandS.Conv
import HandS.Style
import HandS.Finally
import HandS.TryMany
import HandS.ExcInit
import HandS.ExcIs
import HandS.ExcField
import HandS.MakeKwOnly
import HandS.DeepEq
import HandS.Codes
import HandS.Flow
import HandS.Evl
import HandS.HeadHook2
import HandS.HeadHook3
import HandS.ClsMeth
import HandS.HeadHook4
import KE.KStateDown
import Lean
import HandS.Base
import HandS.Call
import HandS.Ends
import HandS.Words
import HandS.WordsExc
import HandS.Head0
import HandS.Head1
import HandS.Head2
import HandS.HeadEnd
import HandS.HeadHook1
import HandS.Rev
import KE.KDictZip
import HandS.ListItems
import KE.KItemsList
import HandS.Walk
import KE.KDictKeyed
import HandS.SetKeys
import OpenK.KOps
import HandS.ExcBuiltin
import KE.KExcInit
import HandS.WordsDict
import KE.GoesEnum
import KE.GoesMore
import HandS.Iter
import HandS.HotCalls
import HandS.Small
import HandS.OwnEq
import HandS.ListEq
import HandS.DictEq
import PyProof.InstNe
import KE.DataCmp
import HandS.Dict
import PyProof.DictUpdate
import PySem.Challenge.RW_leastmaker_k69_makers_by_turns
set_option Elab.async false
set_option linter.all false
set_option maxRecDepth 100000
set_option maxHeartbeats 4000000
namespace LM
open PySem PySem.Spec PyProof.Rows L2
/-- a def of the top, as it stands behind it -/
structure Df (K : PySem.W.Frag) (mg : Str → Option Value) (nm : Str) (st : Stmt) : Prop where
  g : mg nm = some (.ref (He.ga K nm))
  d : ∃ fd, FunD K nm nm (defArgs st) (defBody st) (defScope st) [] [] (He.ga K nm) fd
/-- a def that keeps a promise -/
structure OkF (P : Program) (w : World) (K : PySem.W.Frag) (mg : Str → Option Value) (base : Heap) (CX : CXT) (k : Nat) (nm : Str) (ps : List Str) (sp : Sp) : Prop where
  g : mg nm = some (.ref (He.ga K nm))
  kp : PySem.W.keepIn K (.ref (He.ga K nm)) = true
  f : ∃ fd, Binds K fd ps [] ∧ FnOk P w K mg base CX k (He.ga K nm) fd ps sp
section
variable {P : Program} {w : World} {K : PySem.W.Frag} {mg : Str → Option Value} {base : Heap}
theorem OkF.mono {CX : CXT} {j k : Nat} {nm : Str} {ps : List Str} {sp : Sp} (O : OkF P w K mg base CX j nm ps sp) (h : j ≤ k) : OkF P w K mg base CX k nm ps sp := by
  obtain ⟨g, kp, fd, b, F⟩ := O
  exact ⟨g, kp, fd, b, F.mono h⟩
theorem OkF.imp {CX : CXT} {k : Nat} {nm : Str} {ps : List Str} {sp sp' : Sp} (O : OkF P w K mg base CX k nm ps sp) (h : ∀ vs H Q E, sp' vs H Q E → sp vs H Q E) : OkF P w K mg base CX k nm ps sp' := by
  obtain ⟨g, kp, fd, b, F⟩ := O
  exact ⟨g, kp, fd, b, F.imp h⟩
/-- how the arguments of such a def bind -/
def BindN (nm : Str) (st : Stmt) (ps : List Str) : Prop := ∀ (kV doc pm : Value) (an : Option Addr) (cdv ct : Value) (us : List Value), us.length = ps.length →
  bindArgs (PySem.W.fnOf nm nm (defArgs st) (defBody st) (defScope st) .none kV doc pm an cdv ct) ⟨us, []⟩ = pure (ps.zip us)
/-- a def that lets nothing out -/
theorem okF0 {k : Nat} {nm : Str} {st : Stmt} {N ps : List Str} {sp : Sp} (D : Df K mg nm st) (S : FnScope N ps (defScope st)) (hb : BindN nm st ps) (len : ∀ vs H Q E, sp vs H Q E → vs.length = ps.length)
    (body : ∀ (cdv : Value) (A : Around) (outer : List Env) (s : Shared) (H : Hp) (vs : List V) (Q : VK) (E : XK), Room k (A.deeper (envOfC nm (defScope st) s.heap.objs.size (He.ga K nm) cdv)) → sp vs H Q E →
      ∃ t, PSs (cxOf CX0 P w K mg base N nm (defScope st) (He.ga K nm) cdv A outer s H E).nox (defBody st) t ∧ t { nx := fun _ H' => Q .non H', rt := Q } (start N vs) H) : OkF P w K mg base CX0 (k + 1) nm ps sp := by
  obtain ⟨g, fd, F⟩ := D
  refine ⟨g, F.kp, fd, F.bindsN hb, F.ok S len fun cdv A outer s H vs Q E hr hs => ?_⟩
  obtain ⟨t, h, q⟩ := body cdv A outer s H vs Q E hr hs
  exact ⟨t, h.nox, q⟩
/-- a def that may raise -/
theorem okFX {k : Nat} {nm : Str} {st : Stmt} {N ps : List Str} {sp : Sp} (D : Df K mg nm st) (S : FnScope N ps (defScope st)) (hb : BindN nm st ps) (len : ∀ vs H Q E, sp vs H Q E → vs.length = ps.length)
    (body : ∀ (cdv : Value) (A : Around) (outer : List Env) (s : Shared) (H : Hp) (vs : List V) (Q : VK) (E : XK), Room k (A.deeper (envOfC nm (defScope st) s.heap.objs.size (He.ga K nm) cdv)) → sp vs H Q E →
      ∃ t, PSs (cxOf (L2.CX P w) P w K mg base N nm (defScope st) (He.ga K nm) cdv A outer s H E) (defBody st) t ∧ t { nx := fun _ H' => Q .non H', rt := Q } (start N vs) H) : OkF P w K mg base (L2.CX P w) (k + 1) nm ps sp := by
  obtain ⟨g, fd, F⟩ := D
  exact ⟨g, F.kp, fd, F.bindsN hb, F.ok S len body⟩
end
section
variable {X : Cx} {CX : CXT} {k : Nat} {nm : Str} {ps : List Str} {sp : Sp} {E : XK} {p pos : Pos} {e : Expr} {es : List Expr} {t : TA}
theorem pe_callF (O : OkF X.prog X.w X.K X.mg X.base CX k nm ps sp) (hr : Room k X.A) (hg : Gl X nm) (hx : Passes CX X E) (ha : PA X (e :: es) t) (hdb : (nm == ("__debug__" : Str)) = false := by decide)
    (he : starEach (e :: es) X.env = (false, eval e X.env) :: starEach es X.env := by rfl) (hpl : (backTo pos (starEach es X.env)).any (·.1) = false := by rfl) : PE X (.Call (.Name nm p) (e :: es) [] pos) (tCall sp [] E t) := by
  obtain ⟨g, kp, fd, b, F⟩ := O
  exact pe_call F hr hg g kp b .nil hx ha hdb he hpl
end
def rLenS (K : PySem.W.Frag) : List V → Hp → VK → Prop := fun xs H Q => ∃ p ys, xs = [.ref p] ∧ (SqL K H p ys ∨ SqT K H p ys) ∧ Q (.int ys.length) H
def rListS (K : PySem.W.Frag) : List V → Hp → VK → Prop := fun xs H Q => ∃ p ys, xs = [.ref p] ∧ (SqL K H p ys ∨ SqT K H p ys) ∧ ∀ l, H l = none → Q (.ref l) (upd H l (.lst ys))
def rTupS (K : PySem.W.Frag) : List V → Hp → VK → Prop := fun xs H Q => ∃ p ys, xs = [.ref p] ∧ ((SqL K H p ys ∧ ∀ l, H l = none → Q (.ref l) (upd H l (.tup ys))) ∨ (SqT K H p ys ∧ Q (.ref p) H))
theorem iteD {p : Prop} [Decidable p] {A B : Prop} (h1 : p → A) (h2 : ¬ p → B) : if decide p = true then A else B := by
  by_cases h : p
  · rw [if_pos (decide_eq_true h)]; exact h1 h
  · rw [decide_eq_false h, if_neg Bool.false_ne_true]; exact h2 h
theorem iteN {p : Prop} [Decidable p] {A B : Prop} (h1 : ¬ p → A) (h2 : p → B) : if (!decide p) = true then A else B := by
  by_cases h : p
  · rw [decide_eq_true h, if_neg (by decide)]; exact h2 h
  · rw [decide_eq_false h, if_pos (by decide)]; exact h1 h
theorem iteB {b : Bool} {A B : Prop} (h1 : b = true → A) (h2 : b = false → B) : if b = true then A else B := by
  cases b with
  | true => rw [if_pos rfl]; exact h1 rfl
  | false => rw [if_neg Bool.false_ne_true]; exact h2 rfl
theorem okF_absurd {P : Program} {w : World} {K : PySem.W.Frag} {mg : Str → Option Value} {base : Heap} {CX : CXT} {k : Nat} {nm : Str} {st : Stmt} {ps : List Str} {sp : Sp} (D : Df K mg nm st) (hb : BindN nm st ps) (h : ∀ vs H Q E, ¬ sp vs H Q E) :
    OkF P w K mg base CX k nm ps sp := by
  obtain ⟨g, fd, F⟩ := D
  exact ⟨g, F.kp, fd, F.bindsN hb, fun vs H Q E z => (h vs H Q E z).elim, fun _ _ _ H _ _ vs Q E _ _ _ _ z => (h vs H Q E z).elim⟩
/-! ### heaps: what is kept -/
/-- all but the objects of S is as it was -/
def Ch (S : List Addr) (H H' : Hp) : Prop := ∀ a o, a ∉ S → H a = some o → H' a = some o
theorem Ch.refl {S : List Addr} {H : Hp} : Ch S H H := fun _ _ _ h => h
theorem Ch.trans {S : List Addr} {H H1 H2 : Hp} (a : Ch S H H1) (b : Ch S H1 H2) : Ch S H H2 := fun c o n h => b c o n (a c o n h)
theorem Ch.sub {S S' : List Addr} {H H' : Hp} (a : Ch S H H') (h : ∀ x, x ∈ S → x ∈ S') : Ch S' H H' := fun c o n e => a c o (fun z => n (h c z)) e
theorem Ch.of0 {S : List Addr} {H H' : Hp} (a : Ch [] H H') : Ch S H H' := a.sub fun x h => by simp at h
theorem Ch.new {S : List Addr} {H : Hp} {p : Addr} {o : HO} (h : H p = none) : Ch S H (upd H p o) := fun a u _ e => by
  rw [upd_ne (ne_of_none e h)]; exact e
theorem Ch.put {S : List Addr} {H : Hp} {p : Addr} {o : HO} (h : p ∈ S) : Ch S H (upd H p o) := fun a u n e => by
  rw [upd_ne (fun z => n (by rw [z]; exact h))]; exact e
theorem Ch.free {H H' : Hp} {a : Addr} (c : Ch [] H H') (h : H' a = none) : H a = none := by
  cases e : H a with
  | none => rfl
  | some o => rw [c a o (by simp) e] at h; cases h
/-- an object that is new since H may change -/
theorem Ch.mut {S : List Addr} {H H' : Hp} {p : Addr} {o : HO} (c : Ch S H H') (h : H p = none) : Ch S H (upd H' p o) := fun a u n e => by
  rw [upd_ne (ne_of_none e h)]; exact c a u n e
/-! ### data that never changes -/
inductive Dt where
  | non | bl (b : Bool) | int (i : Int) | str (x : Str) | tup (ds : List Dt)
mutual
/-- v stands for d in H -/
inductive DR (K : PySem.W.Frag) (H : Hp) : V → Dt → Prop
  | non : DR K H .non .non
  | bl (b : Bool) : DR K H (.bl b) (.bl b)
  | int (i : Int) : DR K H (.int i) (.int i)
  | str (x : Str) : DR K H (.str x) (.str x)
  | tup {a : Addr} {xs : List V} {ds : List Dt} : SqT K H a xs → DRs K H xs ds → DR K H (.ref a) (.tup ds)
inductive DRs (K : PySem.W.Frag) (H : Hp) : List V → List Dt → Prop
  | nil : DRs K H [] []
  | cons {v : V} {vs : List V} {d : Dt} {ds : List Dt} : DR K H v d → DRs K H vs ds → DRs K H (v :: vs) (d :: ds)
end
/-- tuples stay -/
def Ts (H H' : Hp) : Prop := ∀ a u, Rd H a (.tup u) → Rd H' a (.tup u)
theorem Ts.refl {H : Hp} : Ts H H := fun _ _ h => h
theorem Ts.trans {H H1 H2 : Hp} (a : Ts H H1) (b : Ts H1 H2) : Ts H H2 := fun c u h => b c u (a c u h)
theorem Ts.of {H H' : Hp} (c : Ch [] H H') : Ts H H' := fun a u h => by
  rcases h with h | ⟨o, h⟩
  · exact .inl (c a _ (by simp) h)
  · exact .inr ⟨o, c a _ (by simp) h⟩
/-- what may be written is no tuple -/
def NoTup : Option HO → Prop
  | some (.tup _) => False
  | some (.frz _ _) => False
  | _ => True
theorem Ts.upd {H : Hp} {p : Addr} {o : HO} (h : NoTup (H p)) : Ts H (upd H p o) := fun a u r => by
  rcases r with r | ⟨b, r⟩
  · refine .inl ?_
    by_cases e : a = p
    · rw [e] at r; rw [r] at h; exact h.elim
    · rw [upd_ne e]; exact r
  · refine .inr ⟨b, ?_⟩
    by_cases e : a = p
    · rw [e] at r; rw [r] at h; exact h.elim
    · rw [upd_ne e]; exact r
theorem Ts.ch {S : List Addr} {H H' : Hp} (c : Ch S H H') (h : ∀ p ∈ S, NoTup (H p)) : Ts H H' := fun a u r => by
  rcases r with r | ⟨b, r⟩
  · refine .inl (c a _ (fun m => ?_) r)
    have z := h a m
    rw [r] at z
    exact z
  · refine .inr ⟨b, c a _ (fun m => ?_) r⟩
    have z := h a m
    rw [r] at z
    exact z
theorem Ts.sq {K : PySem.W.Frag} {H H' : Hp} {a : Addr} {xs : List V} (t : Ts H H') (h : SqT K H a xs) : SqT K H' a xs := by
  rcases h with h | h
  · exact .inl (t a xs h)
  · exact .inr h
mutual
theorem DR.ts {K : PySem.W.Frag} {H H' : Hp} (t : Ts H H') : ∀ {v : V} {d : Dt}, DR K H v d → DR K H' v d
  | _, _, .non => .non
  | _, _, .bl b => .bl b
  | _, _, .int i => .int i
  | _, _, .str x => .str x
  | _, _, .tup h hs => .tup (t.sq h) (DRs.ts t hs)
theorem DRs.ts {K : PySem.W.Frag} {H H' : Hp} (t : Ts H H') : ∀ {vs : List V} {ds : List Dt}, DRs K H vs ds → DRs K H' vs ds
  | _, _, .nil => .nil
  | _, _, .cons h hs => .cons (DR.ts t h) (DRs.ts t hs)
end
section
variable {K : PySem.W.Frag} {H H' : Hp} {v : V} {vs : List V} {d : Dt} {ds : List Dt}
theorem DR.ch (c : Ch [] H H') (h : DR K H v d) : DR K H' v d := h.ts (.of c)
theorem DRs.ch (c : Ch [] H H') (h : DRs K H vs ds) : DRs K H' vs ds := h.ts (.of c)
theorem DR.int_inv {i : Int} (h : DR K H v (.int i)) : v = .int i := by cases h; rfl
theorem DR.bl_inv {b : Bool} (h : DR K H v (.bl b)) : v = .bl b := by cases h; rfl
theorem DR.str_inv {x : Str} (h : DR K H v (.str x)) : v = .str x := by cases h; rfl
theorem DR.non_inv (h : DR K H v .non) : v = .non := by cases h; rfl
theorem DR.tup_inv (h : DR K H v (.tup ds)) : ∃ a xs, v = .ref a ∧ SqT K H a xs ∧ DRs K H xs ds := by
  cases h with
  | tup h hs => exact ⟨_, _, rfl, h, hs⟩
theorem DRs.len : ∀ {vs : List V} {ds : List Dt}, DRs K H vs ds → vs.length = ds.length
  | _, _, .nil => rfl
  | _, _, .cons _ t => by rw [List.length_cons, List.length_cons, DRs.len t]
theorem DRs.get : ∀ {vs : List V} {ds : List Dt} {i : Nat} {d : Dt}, DRs K H vs ds → ds[i]? = some d → ∃ v, vs[i]? = some v ∧ DR K H v d
  | _, _, _, _, .nil, e => by simp at e
  | _, _, 0, d, .cons h _, e => by
    simp at e; subst e; exact ⟨_, rfl, h⟩
  | _, _, i + 1, d, .cons _ t, e => by
    obtain ⟨v, h1, h2⟩ := DRs.get (i := i) (d := d) t (by simpa using e)
    exact ⟨v, by simpa using h1, h2⟩
theorem DRs.getv : ∀ {vs : List V} {ds : List Dt} {i : Nat} {v : V}, DRs K H vs ds → vs[i]? = some v → ∃ d, ds[i]? = some d ∧ DR K H v d
  | _, _, _, _, .nil, e => by simp at e
  | _, _, 0, d, .cons h _, e => by
    simp at e; subst e; exact ⟨_, rfl, h⟩
  | _, _, i + 1, d, .cons _ t, e => by
    obtain ⟨v, h1, h2⟩ := DRs.getv (i := i) t (by simpa using e)
    exact ⟨v, by simpa using h1, h2⟩
theorem DRs.app : ∀ {vs vs' : List V} {ds ds' : List Dt}, DRs K H vs ds → DRs K H vs' ds' → DRs K H (vs ++ vs') (ds ++ ds')
  | _, _, _, _, .nil, s => s
  | _, _, _, _, .cons h t, s => .cons h (DRs.app t s)
theorem DRs.snoc (h : DRs K H vs ds) (g : DR K H v d) : DRs K H (vs ++ [v]) (ds ++ [d]) := h.app (.cons g .nil)
theorem DRs.take : ∀ {vs : List V} {ds : List Dt} (n : Nat), DRs K H vs ds → DRs K H (vs.take n) (ds.take n)
  | _, _, 0, _ => .nil
  | _, _, _ + 1, .nil => .nil
  | _, _, n + 1, .cons h t => .cons h (DRs.take n t)
theorem DRs.drop : ∀ {vs : List V} {ds : List Dt} (n : Nat), DRs K H vs ds → DRs K H (vs.drop n) (ds.drop n)
  | _, _, 0, h => h
  | _, _, _ + 1, .nil => .nil
  | _, _, n + 1, .cons h t => DRs.drop n t
theorem DRs.revAux : ∀ {vs vs' : List V} {ds ds' : List Dt}, DRs K H vs ds → DRs K H vs' ds' → DRs K H (vs.reverseAux vs') (ds.reverseAux ds')
  | _, _, _, _, .nil, s => s
  | _, _, _, _, .cons h t, s => by
    have q := DRs.revAux t (.cons h s)
    exact q
theorem DRs.reverse (h : DRs K H vs ds) : DRs K H vs.reverse ds.reverse := h.revAux .nil
/-- a tuple at a place -/
theorem DR.sq {a : Addr} (h : DR K H (.ref a) (.tup ds)) : ∃ xs, SqT K H a xs ∧ DRs K H xs ds := by
  obtain ⟨b, xs, e, s, r⟩ := h.tup_inv
  cases e
  exact ⟨xs, s, r⟩
/-- a new tuple -/
theorem DR.new {p : Addr} (h : DRs K H vs ds) (hp : H p = none) : DR K (upd H p (.tup vs)) (.ref p) (.tup ds) :=
  .tup (SqT.of upd_same) (h.ch (.new hp))
end
mutual
def Dt.py : Dt → PyData
  | .non => .none
  | .bl b => .bool b
  | .int i => .int i
  | .str x => .str x
  | .tup ds => .tuple (Dt.pys ds)
def Dt.pys : List Dt → List PyData
  | [] => []
  | d :: ds => d.py :: Dt.pys ds
end
mutual
theorem DR.dp {K : PySem.W.Frag} {H : Hp} : ∀ {v : V} {d : Dt}, DR K H v d → Dp K H v d.py
  | _, _, .non => .non
  | _, _, .bl b => .bl b
  | _, _, .int i => .int i
  | _, _, .str x => .str x
  | _, _, .tup h hs => .tup h (DRs.dp hs)
theorem DRs.dp {K : PySem.W.Frag} {H : Hp} : ∀ {vs : List V} {ds : List Dt}, DRs K H vs ds → DpAll K H vs (Dt.pys ds)
  | _, _, .nil => .nil
  | _, _, .cons h hs => .cons (DR.dp h) (DRs.dp hs)
end
/-! ### a test by what it leaves -/
def TtP (t : TT) (σ : L2.St) (H : Hp) (R : Bool → Hp → Prop) : Prop := ∀ Q : Bool → Hp → Prop, (∀ b H', R b H' → Q b H') → t σ H Q
section
variable {t u : TT} {σ : L2.St} {H : Hp} {R R1 : Bool → Hp → Prop} {Q : Bool → Hp → Prop} {D : Ends} {ts us : TS}
theorem tt_use (h : TtP t σ H R) (k : ∀ b H', R b H' → Q b H') : t σ H Q := h Q k
theorem if_use (R : Bool → Hp → Prop) (h : TtP t σ H R) (k1 : ∀ H', R true H' → ts D σ H') (k2 : ∀ H', R false H' → us D σ H') : tIfS t ts us D σ H := by
  refine h _ fun b H' r => ?_
  refine iteB (fun e => ?_) (fun e => ?_)
  · subst e; exact k1 H' r
  · subst e; exact k2 H' r
theorem tt_or (h1 : TtP t σ H R1) (k1 : ∀ H', R1 true H' → R true H') (k2 : ∀ H', R1 false H' → TtP u σ H' R) : TtP (tOr t u) σ H R := fun Q q => h1 _ fun b H' r => by
  refine iteB (fun e => ?_) (fun e => ?_)
  · subst e; exact q _ _ (k1 H' r)
  · subst e; exact k2 H' r Q q
theorem tt_and (h1 : TtP t σ H R1) (k1 : ∀ H', R1 false H' → R false H') (k2 : ∀ H', R1 true H' → TtP u σ H' R) : TtP (tAnd t u) σ H R := fun Q q => h1 _ fun b H' r => by
  refine iteB (fun e => ?_) (fun e => ?_)
  · subst e; exact k2 H' r Q q
  · subst e; exact q _ _ (k1 H' r)
theorem tt_not (h : TtP t σ H fun b H' => R (!b) H') : TtP (tNot t) σ H R := fun Q q => h _ fun b H' r => q _ _ r
/-- the test's answer is b, the heap as it is -/
def Is (b : Bool) (H : Hp) : Bool → Hp → Prop := fun c H' => c = b ∧ H' = H
end
end LM
set_option Elab.async false
set_option linter.all false
set_option maxRecDepth 100000
set_option maxHeartbeats 4000000
namespace LM
open PySem PySem.Spec PyProof.Rows L2
def top (i : Nat) : Stmt := PySem.Challenge.pw_leastmaker_k69_makers_by_turns.main.body.getD i (.Pass ⟨0, 0, 0, 0⟩)
/-- built-in names that the top leaves alone -/
structure Bn (mg : Str → Option Value) : Prop where
  b_len : mg "len" = none
  b_range : mg "range" = none
  b_isinstance : mg "isinstance" = none
  b_tuple : mg "tuple" = none
  b_bool : mg "bool" = none
  b_int : mg "int" = none
  b_str : mg "str" = none
  b_list : mg "list" = none
  b_dict : mg "dict" = none
  b_enumerate : mg "enumerate" = none
  b_reversed : mg "reversed" = none
  b_zip : mg "zip" = none
  b_all : mg "all" = none
  b_max : mg "max" = none
end LM
set_option Elab.async false
set_option linter.all false
set_option maxRecDepth 100000
set_option maxHeartbeats 4000000
/-! what the head is asked beyond the kit's facts -/
namespace LM
open PySem PySem.Spec PyProof.Rows L2
def ptL : List (Str × Nat) := [("in", 0), ("num", 0), ("yes", 0), ("no", 0), ("plus", 1), ("least", 2), ("most", 2), ("atmost", 2), ("not", 1), ("both", 2), ("either", 2), ("if", 3)]
def lkN (z : Str) : List (Str × Nat) → Option Nat
  | [] => none
  | (k, n) :: r => if z = k then some n else lkN z r
def rowB (e : DictEntry) (q : Str × Nat) : Bool := (match e.key with
  | .str x _ => decide (x = q.1)
  | _ => false) && (match e.val with
  | .int i _ => decide (i = (q.2 : Int))
  | _ => false)
def rowsB : List DictEntry → List (Str × Nat) → Bool
  | [], [] => true
  | e :: es, q :: qs => rowB e q && rowsB es qs
  | _, _ => false
def tabB (K : PySem.W.Frag) (a : Addr) (qs : List (Str × Nat)) : Bool := match K.lookup a with
  | some ⟨_, _, .dict es _, _⟩ => rowsB es.toList qs
  | _ => false
def oexB (K : PySem.W.Frag) (C : Addr) : Bool := (match K.lookup C with
  | some ⟨.type c, _, .cls cd, sl⟩ => (match cd.mro, sl.toList with
    | .ref C' :: bm, [_, _, _, _, some (.builtin n), _] => decide (c = "type") && (C' == C && (decide (n = "ValueError.__new__") && (!cd.hasDel && (cd.hasDict && PySem.HandSPX.refsVE bm))))
    | _, _ => false)
  | _ => false) && (He.eqO (PySem.W.findIn K (.ref C) "__setattr__") (some (some (.builtin "object.__setattr__"))) && (decide (PySem.W.subIn K (.ref C) (.type "BaseException") = some true) && (decide (PySem.W.typeIn K (.ref C) = some (.type "type")) && PySem.W.keepIn K (.ref C))))
def refsIE : List Value → Bool
  | .ref _ :: l => refsIE l
  | l => l == [.type "IndexError", .type "LookupError", .type "Exception", .type "BaseException", .type "object"]
def oexTB (K : PySem.W.Frag) (C : Addr) : Bool := (match K.lookup C with
  | some ⟨.type c, _, .cls cd, sl⟩ => (match cd.mro, sl.toList with
    | .ref C' :: bm, [_, _, _, _, some (.builtin n), _] => decide (c = "type") && (C' == C && (decide (n = "IndexError.__new__") && (!cd.hasDel && (cd.hasDict && refsIE bm))))
    | _, _ => false)
  | _ => false) && (He.eqO (PySem.W.findIn K (.ref C) "__setattr__") (some (some (.builtin "object.__setattr__"))) && (decide (PySem.W.subIn K (.ref C) (.type "BaseException") = some true) && (decide (PySem.W.typeIn K (.ref C) = some (.type "type")) && PySem.W.keepIn K (.ref C))))
def excCB (K : PySem.W.Frag) (D : Addr) : Bool := He.eqO (PySem.W.findIn K (.ref D) "__getattribute__") (some (some (.builtin "BaseException.__getattribute__"))) && (He.eqO (PySem.W.findIn K (.ref D) "__getattr__") (some none) && (decide (PySem.W.subIn K (.ref D) (.type "BaseException") = some true) && (PySem.W.hasDictIn K D &&
  (He.eqO (PySem.W.findIn K (.ref D) "__class__") (some (some (.builtin "object.__class__"))) && (He.eqO (PySem.W.specialIn K (.builtin "object.__class__") "__get__") (some (some (.builtin "getset_descriptor.__get__"))) && (decide (PySem.W.takesIn K (.builtin "object.__class__") = some true) && decide (PySem.W.mroIn K D (.type "object") = some true)))))))
/-- its own __init__ -/
def iniB (K : PySem.W.Frag) (x : Str) : Bool := He.eqO (PySem.W.findIn K (.ref (He.ga K x)) "__init__") (some (some (.ref (He.ma K (He.ga K x) "__init__")))) && decide (PySem.W.typeIn K (.ref (He.ma K (He.ga K x) "__init__")) = some (.type "function"))
def noB (K : PySem.W.Frag) (x : Str) (fs : List Str) : Bool := fs.all fun f => He.eqO (PySem.W.findIn K (.ref (He.ga K x)) f) (some none)
def sortNm : List Str := ["NoHead", "NoProgram", "NoText", "NoStock", "NoAnswer", "NoInputs", "Clash", "NoRow", "NoQuestion", "NoDoer", "NotKept", "NoName"]
def srtB (K : PySem.W.Frag) (nm : Str) : Bool := sortNm.all fun x => decide (PySem.W.kitOne K (.ref (He.ga K nm)) (.ref (He.ga K x)) = some (decide (x = nm)))
def fndB (r : Option PySem.W.CFound) (u : Value) : Bool := match r with
  | some (.val v) => decide (v = u)
  | _ => false
def ebB (K : PySem.W.Frag) (x : Str) : Bool := PySem.W.readsIn K (He.ga K x) (.type "type") && (He.eqO (PySem.W.specialIn K (.ref (He.ga K x)) "__getattribute__") (some (some (.builtin "type.__getattribute__"))) && fndB (PySem.W.findCls K (.ref (He.ga K x)) (.type "type") "__init__") (.builtin "ValueError.__init__"))
def ieB (K : PySem.W.Frag) : Bool := fndB (PySem.W.findCls K (.type "IndexError") (.type "type") "__init__") (.builtin "IndexError.__init__")
/-- nested data of the top -/
def intAt (i : Int) (v : Value) : Bool := match v with
  | .int j _ => decide (j = i)
  | _ => false
def strAt (x : Str) (v : Value) : Bool := match v with
  | .str y _ => decide (y = x)
  | _ => false
def allAt : List (Value → Bool) → List Value → Bool
  | [], [] => true
  | f :: fs, v :: vs => f v && allAt fs vs
  | _, _ => false
def tupAt (K : PySem.W.Frag) (fs : List (Value → Bool)) (v : Value) : Bool := match v with
  | .ref a => (match K.lookup a with
    | some ⟨.type c, _, .seq its _, _⟩ => decide (c = "tuple") && (decide (its.size ≤ sizeLine) && allAt fs its.toList)
    | _ => false)
  | _ => false
def stockB (K : PySem.W.Frag) (v : Value) : Bool := tupAt K [tupAt K [tupAt K [intAt 0, intAt 1], tupAt K [intAt 1, intAt 1]], tupAt K [tupAt K [intAt 1, intAt 1], tupAt K [intAt (-1), intAt 1]], tupAt K [tupAt K [strAt "least", intAt 1], tupAt K [strAt "most", intAt 1], tupAt K [strAt "atmost", intAt 1], tupAt K [strAt "if", intAt 1]]] v
/-- the class at C, for isinstance, == and != -/
def mkcB (K : PySem.W.Frag) (C : Addr) : Bool := He.eqO (PySem.W.findIn K (.ref C) "__class__") (some (some (.builtin "object.__class__"))) && (He.eqO (PySem.W.specialIn K (.builtin "object.__class__") "__get__") (some (some (.builtin "getset_descriptor.__get__"))) && (decide (PySem.W.takesIn K (.builtin "object.__class__") = some true) && (decide (PySem.W.mroIn K C (.type "object") = some true) &&
  (He.eqO (PySem.W.findIn K (.ref C) "__ne__") (some (some (.builtin "object.__ne__"))) && (decide (PySem.W.kitOne K (.type "dict") (.ref C) = some false) && (decide (PySem.W.kitOne K (.type "int") (.ref C) = some false) && decide (PySem.W.kitOne K (.type "NoneType") (.ref C) = some false)))))))
def rootsY (g : Addr → Option Obj) (n : Nat) : List Addr := PySem.cStatics :: He.asD g n
abbrev AlY : Type := He.AlT × Bool
def fragY (g : Addr → Option Obj) (n : Nat) : PySem.W.Frag := He.frG g (rootsY g n)
def lookY (n : Nat) (fa : List He.Fa) (fn : List He.DefD) (ts : List He.Tab) (ex : PySem.W.Frag → Bool) (g : Addr → Option Obj) : AlY :=
  (He.obsT fa fn ts (fragY g n), ex (fragY g n))
structure SaysY (fa : List He.Fa) (fn : List He.DefD) (ts : List He.Tab) (ex : PySem.W.Frag → Bool) (w : World) (K : PySem.W.Frag) : Prop where
  t : He.SaysT fa fn ts w K
  more : ex K = true
def hookY (n : Nat) (fa : List He.Fa) (fn : List He.DefD) (ts : List He.Tab) (ex : PySem.W.Frag → Bool) : PySem.W.Hook where
  α := AlY
  obs := fun s => lookY n fa fn ts ex s.heap.get?
  val := fun w => (He.valT fn ts w, true)
  says := fun w h => ∃ K : PySem.W.Frag, K.In h ∧ SaysY fa fn ts ex w K
  of := fun _ s e => ⟨fragY s.heap.get? n, He.frG_in, congrArg (fun z : AlY => z.1) e, congrArg (fun z : AlY => z.2) e⟩
  keeps := fun _ _ _ ⟨K, hK, c⟩ k => ⟨K, PySem.W.Frag.In.keeps hK k, c⟩
theorem lookY_eq {n : Nat} {fa : List He.Fa} {fn : List He.DefD} {ts : List He.Tab} {ex : PySem.W.Frag → Bool} {g : Addr → Option Obj} {s : Shared} (h : ∀ a, g a = s.heap.get? a) : lookY n fa fn ts ex g = (hookY n fa fn ts ex).obs s := by
  obtain rfl : g = s.heap.get? := funext h
  rfl
end LM
set_option Elab.async false
set_option linter.all false
set_option maxRecDepth 100000
set_option maxHeartbeats 0
namespace LM
open PySem PySem.Spec PyProof.Rows L2
def fnL : List He.DefD := [⟨("is_whole", none), "is_whole", "is_whole", defArgs (top 21), defBody (top 21), defScope (top 21), [], []⟩,
  ⟨("has_form", none), "has_form", "has_form", defArgs (top 22), defBody (top 22), defScope (top 22), [], []⟩,
  ⟨("parts_of", none), "parts_of", "parts_of", defArgs (top 23), defBody (top 23), defScope (top 23), [], []⟩,
  ⟨("knots", none), "knots", "knots", defArgs (top 24), defBody (top 24), defScope (top 24), [], []⟩,
  ⟨("own_kind", none), "own_kind", "own_kind", defArgs (top 25), defBody (top 25), defScope (top 25), [], []⟩,
  ⟨("parts_due", none), "parts_due", "parts_due", defArgs (top 26), defBody (top 26), defScope (top 26), [], []⟩,
  ⟨("kind_of", none), "kind_of", "kind_of", defArgs (top 27), defBody (top 27), defScope (top 27), [], []⟩,
  ⟨("is_of", none), "is_of", "is_of", defArgs (top 37), defBody (top 37), defScope (top 37), [], []⟩,
  ⟨("are_of", none), "are_of", "are_of", defArgs (top 38), defBody (top 38), defScope (top 38), [], []⟩,
  ⟨("look_wish", none), "look_wish", "look_wish", defArgs (top 39), defBody (top 39), defScope (top 39), [], []⟩,
  ⟨("_law_cell", none), "_law_cell", "_law_cell", defArgs (top 42), defBody (top 42), defScope (top 42), [], []⟩,
  ⟨("_law_flow", none), "_law_flow", "_law_flow", defArgs (top 43), defBody (top 43), defScope (top 43), [], []⟩,
  ⟨("_law_draw", none), "_law_draw", "_law_draw", defArgs (top 44), defBody (top 44), defScope (top 44), [], []⟩,
  ⟨("_law_numeral", none), "_law_numeral", "_law_numeral", defArgs (top 45), defBody (top 45), defScope (top 45), [], []⟩,
  ⟨("_law_leaf", none), "_law_leaf", "_law_leaf", defArgs (top 46), defBody (top 46), defScope (top 46), [], []⟩,
  ⟨("_law_made", none), "_law_made", "_law_made", defArgs (top 47), defBody (top 47), defScope (top 47), [], []⟩,
  ⟨("_law_has_form", none), "_law_has_form", "_law_has_form", defArgs (top 48), defBody (top 48), defScope (top 48), [], []⟩,
  ⟨("_law_parts", none), "_law_parts", "_law_parts", defArgs (top 49), defBody (top 49), defScope (top 49), [], []⟩,
  ⟨("_law_knots", none), "_law_knots", "_law_knots", defArgs (top 50), defBody (top 50), defScope (top 50), [], []⟩,
  ⟨("_law_own", none), "_law_own", "_law_own", defArgs (top 51), defBody (top 51), defScope (top 51), [], []⟩,
  ⟨("_law_wrong", none), "_law_wrong", "_law_wrong", defArgs (top 52), defBody (top 52), defScope (top 52), [], []⟩,
  ⟨("_law_replaced", none), "_law_replaced", "_law_replaced", defArgs (top 53), defBody (top 53), defScope (top 53), [], []⟩,
  ⟨("_law_alike", none), "_law_alike", "_law_alike", defArgs (top 54), defBody (top 54), defScope (top 54), [], []⟩,
  ⟨("_law_sorts", none), "_law_sorts", "_law_sorts", defArgs (top 55), defBody (top 55), defScope (top 55), [], []⟩,
  ⟨("_law_due_kind", none), "_law_due_kind", "_law_due_kind", defArgs (top 56), defBody (top 56), defScope (top 56), [], []⟩,
  ⟨("_law_bad_knot", none), "_law_bad_knot", "_law_bad_knot", defArgs (top 57), defBody (top 57), defScope (top 57), [], []⟩,
  ⟨("_law_small_wish", none), "_law_small_wish", "_law_small_wish", defArgs (top 58), defBody (top 58), defScope (top 58), [], []⟩,
  ⟨("_law_head", none), "_law_head", "_law_head", defArgs (top 59), defBody (top 59), defScope (top 59), [], []⟩,
  ⟨("_law_near_inputs", none), "_law_near_inputs", "_law_near_inputs", defArgs (top 60), defBody (top 60), defScope (top 60), [], []⟩,
  ⟨("_law_example", none), "_law_example", "_law_example", defArgs (top 61), defBody (top 61), defScope (top 61), [], []⟩,
  ⟨("_law_is_of", none), "_law_is_of", "_law_is_of", defArgs (top 62), defBody (top 62), defScope (top 62), [], []⟩,
  ⟨("_law_examples_due", none), "_law_examples_due", "_law_examples_due", defArgs (top 63), defBody (top 63), defScope (top 63), [], []⟩,
  ⟨("_law_maker_said", none), "_law_maker_said", "_law_maker_said", defArgs (top 64), defBody (top 64), defScope (top 64), [], []⟩,
  ⟨("_law_maker_due", none), "_law_maker_due", "_law_maker_due", defArgs (top 65), defBody (top 65), defScope (top 65), [], []⟩,
  ⟨("_law_stands", none), "_law_stands", "_law_stands", defArgs (top 66), defBody (top 66), defScope (top 66), [], []⟩,
  ⟨("_law_new_model", none), "_law_new_model", "_law_new_model", defArgs (top 67), defBody (top 67), defScope (top 67), [], []⟩,
  ⟨("_law_bad_example", none), "_law_bad_example", "_law_bad_example", defArgs (top 68), defBody (top 68), defScope (top 68), [], []⟩,
  ⟨("_law_deed", none), "_law_deed", "_law_deed", defArgs (top 69), defBody (top 69), defScope (top 69), [], []⟩,
  ⟨("_law_has_room", none), "_law_has_room", "_law_has_room", defArgs (top 70), defBody (top 70), defScope (top 70), [], []⟩,
  ⟨("_law_same", none), "_law_same", "_law_same", defArgs (top 71), defBody (top 71), defScope (top 71), [], []⟩,
  ⟨("_law_alike_right", none), "_law_alike_right", "_law_alike_right", defArgs (top 72), defBody (top 72), defScope (top 72), [], []⟩,
  ⟨("_law_begun", none), "_law_begun", "_law_begun", defArgs (top 73), defBody (top 73), defScope (top 73), [], []⟩,
  ⟨("law", none), "law", "law", defArgs (top 74), defBody (top 74), defScope (top 74), [], []⟩,
  ⟨("Maker", some "__init__"), "__init__", "Maker.__init__", defArgs (inClass (top 40) 0), defBody (inClass (top 40) 0), defScope (inClass (top 40) 0), [], [("stock", .glo "STOCK"), ("most", .int 5)]⟩,
  ⟨("Maker", some "__len__"), "__len__", "Maker.__len__", defArgs (inClass (top 40) 1), defBody (inClass (top 40) 1), defScope (inClass (top 40) 1), [], []⟩,
  ⟨("Maker", some "__eq__"), "__eq__", "Maker.__eq__", defArgs (inClass (top 40) 2), defBody (inClass (top 40) 2), defScope (inClass (top 40) 2), [], []⟩,
  ⟨("Maker", some "begin"), "begin", "Maker.begin", defArgs (inClass (top 40) 3), defBody (inClass (top 40) 3), defScope (inClass (top 40) 3), [], []⟩,
  ⟨("Maker", some "keep"), "keep", "Maker.keep", defArgs (inClass (top 40) 4), defBody (inClass (top 40) 4), defScope (inClass (top 40) 4), [], []⟩,
  ⟨("Maker", some "wish"), "wish", "Maker.wish", defArgs (inClass (top 40) 5), defBody (inClass (top 40) 5), defScope (inClass (top 40) 5), [], []⟩,
  ⟨("Maker", some "examples"), "examples", "Maker.examples", defArgs (inClass (top 40) 6), defBody (inClass (top 40) 6), defScope (inClass (top 40) 6), [], []⟩,
  ⟨("Maker", some "look_examples"), "look_examples", "Maker.look_examples", defArgs (inClass (top 40) 7), defBody (inClass (top 40) 7), defScope (inClass (top 40) 7), [], []⟩,
  ⟨("Maker", some "back"), "back", "Maker.back", defArgs (inClass (top 40) 8), defBody (inClass (top 40) 8), defScope (inClass (top 40) 8), [], []⟩,
  ⟨("Maker", some "kept"), "kept", "Maker.kept", defArgs (inClass (top 40) 9), defBody (inClass (top 40) 9), defScope (inClass (top 40) 9), [], []⟩,
  ⟨("Maker", some "log"), "log", "Maker.log", defArgs (inClass (top 40) 13), defBody (inClass (top 40) 13), defScope (inClass (top 40) 13), [], []⟩,
  ⟨("Maker", some "is_busy"), "is_busy", "Maker.is_busy", defArgs (inClass (top 40) 14), defBody (inClass (top 40) 14), defScope (inClass (top 40) 14), [], []⟩,
  ⟨("NoInputs", some "__init__"), "__init__", "NoInputs.__init__", defArgs (inClass (top 8) 0), defBody (inClass (top 8) 0), defScope (inClass (top 8) 0), [], []⟩,
  ⟨("Clash", some "__init__"), "__init__", "Clash.__init__", defArgs (inClass (top 9) 0), defBody (inClass (top 9) 0), defScope (inClass (top 9) 0), [], []⟩,
  ⟨("NoProgram", some "__init__"), "__init__", "NoProgram.__init__", defArgs (inClass (top 4) 0), defBody (inClass (top 4) 0), defScope (inClass (top 4) 0), [], []⟩,
  ⟨("NotKept", some "__init__"), "__init__", "NotKept.__init__", defArgs (inClass (top 13) 0), defBody (inClass (top 13) 0), defScope (inClass (top 13) 0), [], []⟩]
def faL : List He.Fa := [.glo "is_whole", .glo "has_form", .glo "parts_of", .glo "knots", .glo "own_kind", .glo "parts_due", .glo "kind_of", .glo "is_of", .glo "are_of", .glo "look_wish", .glo "_law_cell", .glo "_law_flow", .glo "_law_draw", .glo "_law_numeral", .glo "_law_leaf", .glo "_law_made", .glo "_law_has_form", .glo "_law_parts", .glo "_law_knots", .glo "_law_own", .glo "_law_wrong", .glo "_law_replaced", .glo "_law_alike", .glo "_law_sorts", .glo "_law_due_kind", .glo "_law_bad_knot", .glo "_law_small_wish", .glo "_law_head", .glo "_law_near_inputs", .glo "_law_example", .glo "_law_is_of", .glo "_law_examples_due", .glo "_law_maker_said", .glo "_law_maker_due", .glo "_law_stands", .glo "_law_new_model", .glo "_law_bad_example", .glo "_law_deed", .glo "_law_has_room", .glo "_law_same", .glo "_law_alike_right", .glo "_law_begun", .glo "law", .meth "Maker" "__len__", .meth "Maker" "__eq__", .meth "Maker" "begin", .meth "Maker" "keep", .meth "Maker" "wish", .meth "Maker" "examples", .meth "Maker" "look_examples", .meth "Maker" "back", .meth "Maker" "kept", .meth "Maker" "log", .meth "Maker" "is_busy", .cls "Maker", .mkr "Maker", .glo "Maker", .noat "Maker" "head", .noat "Maker" "stock", .noat "Maker" "most", .noat "Maker" "things", .noat "Maker" "came", .noat "Maker" "written", .noat "Maker" "busy", .free "len", .free "range", .free "isinstance", .free "tuple", .free "bool", .free "int", .free "str", .free "list", .free "dict", .free "enumerate", .free "reversed", .free "zip", .free "all", .free "max", .free "min", .free "IndexError", .glo "NoHead", .glo "NoProgram", .glo "NoText", .glo "NoStock", .glo "NoAnswer", .glo "NoInputs", .glo "Clash", .glo "NoRow", .glo "NoQuestion", .glo "NoDoer", .glo "NotKept", .glo "NoName", .glo "MakeError", .glo "NUMBERED", .glo "OF_NUMS", .glo "OF_TRUTHS", .glo "TELL_NUMS", .glo "PARTS", .glo "STOCK", .exm "NoInputs" "MakeError" true, .exm "Clash" "MakeError" true, .exm "NoProgram" "MakeError" true, .exm "NotKept" "MakeError" false, .exm "NotKept" "NotKept" true]
def tsL : List He.Tab := [((fun K => He.ga K "PARTS"), ["in", "num", "yes", "no", "plus", "least", "most", "atmost", "not", "both", "either", "if"])]
def exL (K : PySem.W.Frag) : Bool := [He.tupB K "NUMBERED" [.str "in", .str "num", .str "plus"], He.tupB K "OF_NUMS" [.str "plus", .str "least", .str "most", .str "atmost"], He.tupB K "OF_TRUTHS" [.str "not", .str "both", .str "either"], He.tupB K "TELL_NUMS" [.str "num", .str "plus", .str "least", .str "most"], tabB K (He.ga K "PARTS") ptL, oexB K (He.ga K "NoInputs"), excCB K (He.ga K "NoInputs"), xfB K (He.ga K "NoInputs"), iniB K "NoInputs", srtB K "NoInputs", noB K "NoInputs" ["at"], oexB K (He.ga K "Clash"), excCB K (He.ga K "Clash"), xfB K (He.ga K "Clash"), iniB K "Clash", srtB K "Clash", noB K "Clash" ["at", "number"], oexB K (He.ga K "NoProgram"), excCB K (He.ga K "NoProgram"), xfB K (He.ga K "NoProgram"), iniB K "NoProgram", srtB K "NoProgram", noB K "NoProgram" ["word", "at"], oexTB K (He.ga K "NotKept"), xfB K (He.ga K "NotKept"), iniB K "NotKept", noB K "NotKept" ["number"], ieB K, mkcB K (He.ga K "Maker"), stockB K (.ref (He.ga K "STOCK")), ebB K "MakeError"].all id
abbrev RL : PySem.W.OpenRow := PySem.W.OpenLaw.row PySem.Challenge.rw_leastmaker_k69_makers_by_turns
abbrev hkL : PySem.W.Hook := hookY 4 faL fnL tsL exL
def obL (s : PySem.W.SharedT) : AlY := lookY 4 faL fnL tsL exL (HandSHeadRun.getT s)
theorem obL_eq (s : PySem.W.SharedT) : obL s = hkL.obs s.abs := lookY_eq (HandSHeadRun.getT_eq s)
def namesL0 : List PySem.Str := ["_wall", "__name__", "MakeError", "NoHead", "NoProgram", "NoText", "NoStock", "NoAnswer", "NoInputs", "Clash", "NoRow", "NoQuestion", "NoDoer", "NotKept", "NoName", "PARTS", "NUMBERED", "OF_NUMS", "OF_TRUTHS", "TELL_NUMS", "is_whole", "has_form", "parts_of", "knots", "own_kind", "parts_due", "kind_of", "STOCK", "MOST", "YES"]
def namesL1 : List PySem.Str := ["told_is", "all_of", "here", "wish_of", "is_of", "are_of", "look_wish", "Maker", "_law_cell", "_law_flow", "_law_draw", "_law_numeral", "_law_leaf", "_law_made", "_law_has_form", "_law_parts", "_law_knots", "_law_own", "_law_wrong", "_law_replaced", "_law_alike", "_law_sorts", "_law_due_kind", "_law_bad_knot", "_law_small_wish", "_law_head", "_law_near_inputs", "_law_example", "_law_is_of", "_law_examples_due"]
def namesL2 : List PySem.Str := ["_law_maker_said", "_law_maker_due", "_law_stands", "_law_new_model", "_law_bad_example", "_law_deed", "_law_has_room", "_law_same", "_law_alike_right", "_law_begun"]
def namesL : List PySem.Str := namesL0 ++ namesL1 ++ namesL2
theorem runL_false (w : World) : HandSHeadRun.RunEq RL (PySem.W.view RL.prog [74]) hkL obL 20000 namesL (w.withFollow "special-get-raises" false) := by
  intro os
  kernel_rfl
theorem runL_true (w : World) : HandSHeadRun.RunEq RL (PySem.W.view RL.prog [74]) hkL obL 20000 namesL (w.withFollow "special-get-raises" true) := by
  intro os
  kernel_rfl
theorem runL (w : World) : HandSHeadRun.RunEq RL (PySem.W.view RL.prog [74]) hkL obL 20000 namesL w := by
  have e := World.withFollow_self w "special-get-raises"
  cases hb : w.params.followText "special-get-raises" with
  | false => rw [hb] at e; have h := runL_false w; rw [e] at h; exact h
  | true => rw [hb] at e; have h := runL_true w; rw [e] at h; exact h
end LM
set_option Elab.async false
set_option linter.all false
set_option maxRecDepth 100000
set_option maxHeartbeats 4000000
namespace LM
open PySem PySem.Spec PyProof.Rows
open Sem (wp)
/-! ### list(it), it any iterator that is walked, whatever it says of its length -/
/-- asked for a hint, the iterator at J says something and nothing changes -/
def HintOk (prog : Program) (w : World) (A : Around) (J : Addr) (St : Nat → Shared → Prop) : Prop :=
  ∀ (s : Shared) (Q : Bool → Shared → Prop) (E : Value → Shared → Prop), St 0 s → (∀ b tk, s.toks ≤ tk → Q b { s with toks := tk }) → wpAny (model prog w) A (Builtin.List.listLengthHint (.ref J)) Q E s
section
variable {prog : Program} {w : World} {A : Around} {s : Shared} {R : Result → Shared → Prop}
variable {J : Addr} {fp wr : List Addr} {G : Array GenState → Array GenState → Prop} {n : Nat} {P : Nat → Value → Prop} {St : Nat → Shared → Prop}
/-- what a codes' end asks -/
def Fn (prog : Program) (w : World) (A : Around) (R : Result → Shared → Prop) : Fin → Shared → Prop := fun fin t => match fin with
  | .done f => R (.ok f) t
  | .again c' => c'.quiet = true ∧ codeAny (model prog w) A c' R t
theorem ext_iter {T : String} (W : WalksS prog w A.in1 J fp wr G n P St) (hT : ∀ i t, St i t → t.TypeIs (.ref J) T) (nl : (Value.type T == Value.type "list") = false) (nt : (Value.type T == Value.type "tuple") = false)
    (hi : HintOk prog w A.in1 J St) (L : Addr) (res : Value) (c₀ : Nat) (h0 : St 0 s) (hL : L ∉ fp) (hJ : J ∈ fp) (eL : s.heap.get? L = some { cls := .type "list", data := .seq #[] c₀ })
    (hR : ∀ t acc c, Moved (L :: wr) G s t → t.heap.get? L = some { cls := .type "list", dict := none, data := .seq acc c, slots := #[] } → ItemsOf P acc n → R (.ok (.ret res)) t) (hn : n ≤ sizeLine) :
    wpAny (model prog w) A.in1 (Builtin.List.listExtendWith (.ref L) (.ref J) res) (Fn prog w A R) (fun e t => R (.error e) t) s := by
  have nLJ : L ≠ J := fun e => hL (e ▸ hJ)
  unfold Builtin.List.listExtendWith
  refine wpAny_bind (wpAny_typeOf (hT 0 _ h0) ?_)
  have same : Builtin.List.listSameRef (.ref L) (.ref J) = false := by simp [Builtin.List.listSameRef, nLJ]
  simp only [same, nl, nt, Bool.or_false, Bool.false_eq_true, if_false]
  refine wpAny_bind (W.self 0 _ _ _ h0 ?_)
  refine wpAny_bind (wpAny_holding ?_)
  refine hi _ _ _ h0 fun b tk htk => ?_
  have h0' : St 0 { s with toks := tk } := W.frame 0 s s.heap tk h0 htk fun _ _ _ e => e
  have mv : Moved (L :: wr) G s { s with toks := tk } := ⟨fun _ _ _ e => e, W.grefl _, rfl, rfl, htk⟩
  have loop : ∀ (t : Shared) (c : Nat), Moved (L :: wr) G s t → St 0 t → t.heap.get? L = some { cls := .type "list", dict := none, data := .seq #[] c, slots := #[] } →
      codeAny (model prog w) A (.builtin "list.extend.loop" ⟨[.ref L, .ref J, res], []⟩) R t := fun t c m h1 e1 =>
    codeAny_extend_loopS W hn L hL res n 0 t #[] c rfl (Nat.zero_le _) h1 e1 (ItemsOf.nil P) fun t2 acc c2 m2 e2 ha => hR t2 acc c2 (Moved.trans W.gtrans m m2) e2 ha
  refine wpAny_ite_split (fun _ => ?_) (fun _ => wpAny_pure ⟨plainId_quiet F.plain_extend_loop _, loop _ c₀ mv h0' eL⟩)
  · refine wpAny_bind (wpAny_rule ?_)
    refine wpAny_bind ?_
    show wpAny _ A.in1 (updateSeq L (·.push .none) >>= fun _ => updateSeq L (·.pop)) _ _ _
    refine wpAny_bind (wpAny_updateSeq eL rfl ?_)
    have e2 := Heap.get?_update_self (Obj.mapSeq (·.push Value.none)) eL rfl
    refine wpAny_updateSeq (hz := by seq_fits) e2 rfl ?_
    have e3 := Heap.get?_update_self (Obj.mapSeq (·.pop)) e2 rfl
    have off : ∀ b o, b ≠ L → s.heap.get? b = some o → ((s.heap.update L (Obj.mapSeq (·.push Value.none))).update L (Obj.mapSeq (·.pop))).get? b = some o := fun b o hb e =>
      (Heap.get?_update_other _ _ (Ne.symm hb)).trans ((Heap.get?_update_other _ _ (Ne.symm hb)).trans e)
    exact wpAny_pure ⟨plainId_quiet F.plain_extend_loop _, loop _ _ (mv.then_heap (Nat.le_refl _) fun b o hb e => off b o (fun z => hb (z ▸ List.mem_cons_self)) e)
      (W.frame 0 s _ tk h0 htk fun b hb o e => off b o (fun z => hL (z ▸ hb)) e) e3⟩
theorem init_iter {T : String} (W : WalksS prog w A.in1 J fp wr G n P St) (hT : ∀ i t, St i t → t.TypeIs (.ref J) T) (nl : (Value.type T == Value.type "list") = false) (nt : (Value.type T == Value.type "tuple") = false)
    (hi : HintOk prog w A.in1 J St) (L : Addr) (h0 : St 0 s) (hL : L ∉ fp) (hJ : J ∈ fp) (eL : s.heap.get? L = some { cls := .type "list", data := .seq #[] })
    (hR : ∀ t acc c, Moved (L :: wr) G s t → t.heap.get? L = some { cls := .type "list", dict := none, data := .seq acc c, slots := #[] } → ItemsOf P acc n → R (.ok (.ret .none)) t) (hn : n ≤ sizeLine) :
    wpAny (model prog w) A.in1 (Builtin.«list.__init__» ⟨[.ref L, .ref J], []⟩) (Fn prog w A R) (fun e t => R (.error e) t) s := by
  show wpAny _ A.in1 (do let old ← Builtin.List.listItems (.ref L); Builtin.List.listUpdate (.ref L) (fun _ => #[]); letGo old.toList.reverse; Builtin.List.listExtendWith (.ref L) (.ref J) .none) _ _ s
  refine wpAny_bind ?_
  unfold Builtin.List.listItems
  refine wpAny_bind (wpAny_seqItems eL rfl (wpAny_pure ?_))
  show wpAny _ A.in1 (updateSeq L (fun _ => #[]) >>= fun _ => letGo (#[] : Array Value).toList.reverse >>= fun _ => Builtin.List.listExtendWith (.ref L) (.ref J) .none) _ _ s
  refine wpAny_bind (wpAny_updateSeq eL rfl ?_)
  have e2 := Heap.get?_update_self (Obj.mapSeq (fun _ => (#[] : Array Value))) eL rfl
  have off : ∀ b o, b ≠ L → s.heap.get? b = some o → (s.heap.update L (Obj.mapSeq (fun _ => (#[] : Array Value)))).get? b = some o := fun b o hb e => (Heap.get?_update_other _ _ (Ne.symm hb)).trans e
  refine wpAny_bind (wpAny_letGo ?_)
  refine ext_iter (T := T) W hT nl nt hi L .none _ (W.frame 0 s _ s.toks h0 (Nat.le_refl _) fun b hb o e => off b o (fun z => hL (z ▸ hb)) e) hL hJ e2 (fun t acc c m e ha => ?_) hn
  exact hR t acc c (Moved.trans W.gtrans ((Moved.refl W.grefl).then_heap (Nat.le_refl _) fun b o hb e => off b o (fun z => hb (z ▸ List.mem_cons_self)) e) m) e ha
theorem list_iter {T : String} {E Q : Value → Shared → Prop} (W : WalksS prog w A.in1.in1 J fp wr G n P St) (hT : ∀ i t, St i t → t.TypeIs (.ref J) T) (nl : (Value.type T == Value.type "list") = false) (nt : (Value.type T == Value.type "tuple") = false)
    (hi : HintOk prog w A.in1.in1 J St) (h0 : St 0 s) (hfp : ∀ b ∈ fp, b < s.heap.objs.size) (hJ : J ∈ fp)
    (hQ : ∀ t acc c, Moved (s.heap.objs.size :: wr) G { s with heap := s.heap.push { cls := .type "list", data := .seq #[] } } t → t.heap.get? s.heap.objs.size = some { cls := .type "list", dict := none, data := .seq acc c, slots := #[] } → ItemsOf P acc n → Q (.ref s.heap.objs.size) t)
    (hn : n ≤ sizeLine) : wpAny (model prog w) A (call (.type "list") [.ref J]) Q E s := by
  have hL : s.heap.objs.size ∉ fp := fun hm => Nat.lt_irrefl _ (hfp _ hm)
  refine callType_codes (Q₁ := fun obj t => obj = .ref s.heap.objs.size ∧ t = { s with heap := s.heap.push { cls := .type "list", data := .seq #[] } }) F.called_list (F.typeCall_list_1 _) F.entry_list_init
    (code_list_new _ ⟨rfl, rfl⟩) fun obj t ht => ?_
  obtain ⟨rfl, rfl⟩ := ht
  have eL : (s.heap.push { cls := .type "list", data := .seq #[] }).get? s.heap.objs.size = some { cls := .type "list", data := .seq #[] } := Heap.get?_push_size _ rfl
  refine ⟨⟨_, eL, rfl⟩, F.args_list_init_2 _ _, ?_⟩
  exact init_iter (T := T) (R := wants (fun r t => r = .none ∧ Q (.ref s.heap.objs.size) t) E) W hT nl nt hi _ (W.frame 0 s _ s.toks h0 (Nat.le_refl _) fun b _ o e => Heap.get?_push_of_some _ e) hL hJ eL (fun t acc c m e ha => ⟨rfl, hQ t acc c m e ha⟩) hn
end
/-! ### reversed(tuple) -/
section
variable {prog : Program} {w : World} {A : Around}
theorem rt_nolen : typeLookup (.type "reversed") "__len__" = pure none := by rw [typeLookup_type, builtinLookup_eq_fast] <;> kernel_rfl
theorem rt_hint : typeLookup (.type "reversed") "__length_hint__" = pure (some (.builtin "reversed.__length_hint__")) := by rw [typeLookup_type, builtinLookup_eq_fast] <;> kernel_rfl
theorem rt_hint_slot : Slot "reversed" "__length_hint__" "reversed.__length_hint__" :=
  .of (owner := "reversed") (n := "__length_hint__") rt_hint (by decide +kernel) (by decide +kernel) (by decide +kernel) (by first | exact .inl (by decide +kernel) | exact .inr (by decide +kernel)) (by rw [isSubtype_type] <;> kernel_rfl)
theorem rt_hint_entry : entryFor table "reversed.__length_hint__" = some Builtin.«reversed.__length_hint__» := entryFor_of_tree (by kernel_rfl)
theorem rt_hint_args (a : Value) : argsOk "reversed.__length_hint__" ⟨[a], []⟩ := by
  unfold argsOk
  rw [signature?_of (id := "reversed.__length_hint__") (n := ['_', '_', 't', 'n', 'i', 'h', '_', 'h', 't', 'g', 'n', 'e', 'l', '_', '_']) (o := ['d', 'e', 's', 'r', 'e', 'v', 'e', 'r']) (by kernel_rfl) RT.owner_rt] <;> kernel_rfl
theorem rt_hint_run {J t : Addr} {i : Int} {items : Array Value} {s : Shared} {Q E : Value → Shared → Prop} (hJ : RT.IsRt s.heap J t i) (ht : IsTup s.heap t items) (hz : items.size ≤ sizeLine)
    (q : ∀ (k : Int) u tk, 0 ≤ k → k ≤ items.size → s.toks ≤ tk → Q (.int k u) { s with toks := tk }) (hi : -1 ≤ i) (hi2 : i < items.size) : wpAny (model prog w) A (call (.builtin "reversed.__length_hint__") [.ref J]) Q E s := by
  obtain ⟨o, ho, hc, hd⟩ := id hJ
  refine wpAny_call_entry rt_hint_slot hJ.typeIs rt_hint_entry ?_ (rt_hint_args _)
  unfold Builtin.«reversed.__length_hint__»
  refine wpAny_bind (wpAny_of_eq (a := Value.ref J) rfl ?_)
  try dsimp only
  refine wpAny_bind (wpAny_field ho hd (x := .ref t) rfl ?_)
  try dsimp only
  refine wpAny_ite_split (fun z => absurd z (by simp)) (fun _ => ?_)
  refine wpAny_bind (len_tuple ht (by rw [sizeLine_eq] at hz; omega) ?_)
  refine wpAny_bind (m := asInt? _) (wpAny_pure ?_)
  try dsimp only
  refine wpAny_bind (wpAny_field (s := { s with toks := s.toks + 1 + 1 }) ho hd (x := rawInt i) rfl ?_)
  show wpAny _ _ (if ((items.size : Nat) : Int) < i + 1 then _ else _) _ _ _
  rw [if_neg (by omega)]
  unfold retInt
  refine wpAny_bind (wpAny_mkInt ?_)
  exact wpAny_pure ⟨_, rfl, q _ _ _ (by omega) (by omega) (by show s.toks ≤ s.toks + 1 + 1 + 1; omega)⟩
theorem rt_says {J t : Addr} {items : Array Value} {s : Shared} {Q : Bool → Shared → Prop} {E : Value → Shared → Prop} {i : Int} (hJ : RT.IsRt s.heap J t i) (ht : IsTup s.heap t items) (hz : items.size ≤ sizeLine) (hi : -1 ≤ i) (hi2 : i < items.size)
    (q : ∀ b tk, s.toks ≤ tk → Q b { s with toks := tk }) : wpAny (model prog w) A (Builtin.List.listLengthHint (.ref J)) Q E s := by
  have hT := hJ.typeIs
  unfold Builtin.List.listLengthHint
  refine wpAny_bind (wpAny_specialOf hT rt_nolen ?_)
  show wpAny _ A (specialOf (Value.ref J) (Str.ofString "__length_hint__") >>= _) _ _ _
  refine wpAny_bind (wpAny_specialOf hT rt_hint ?_)
  generalize hid : ("reversed.__length_hint__" : String) = id0
  wp_delta
  rw [show splitId id0 = some ("reversed", "__length_hint__") from by subst hid; decide +kernel]
  subst hid
  refine wpAny_bind (wpAny_isInstance (b := true) hT (by rw [isSubtype_type] <;> kernel_rfl) ?_)
  refine wpAny_ite_split (fun z => absurd z (by decide)) (fun _ => ?_)
  refine wpAny_ite_split (fun z => absurd z (by decide +kernel)) (fun _ => ?_)
  refine wpAny_bind (wpAny_rule ?_)
  rw [rt_hint_slot.bind]
  refine wpAny_bind (wpAny_pure ?_)
  try dsimp only
  refine wpAny_bind (wpAny_attempt (rt_hint_run hJ ht hz (fun k u tk h0 h1 h2 => ?_) hi hi2))
  try dsimp only
  refine wpAny_bind (m := asInt? _) (wpAny_pure ?_)
  try dsimp only
  rw [sizeLine_eq] at hz
  have f1 : Builtin.List.listFitsIndex k = true := by simp [Builtin.List.listFitsIndex]; omega
  have f2 : Builtin.List.listTooLong k.toNat = false := by simp [Builtin.List.listTooLong, sizeLine]; omega
  rw [f1, f2, if_neg (by decide), if_neg (by omega), if_neg (by decide)]
  exact wpAny_pure (q _ _ h2)
/-- reversed(t) is walked -/
theorem rt_walks {J t : Addr} {items : Array Value} (hh : A.handled = none) (ne : t ≠ J) (hz : items.size ≤ sizeLine) :
    WalksS prog w A J [J, t] [J] (fun a b => b = a) items.size (fun i v => items[items.size - 1 - i]? = some v) (fun i s => i ≤ items.size ∧ RT.IsRt s.heap J t ((items.size : Int) - 1 - (i : Int)) ∧ IsTup s.heap t items) where
  sub := fun b hb => by rw [List.mem_singleton.mp hb]; exact List.mem_cons_self
  grefl := fun _ => rfl
  gtrans := fun _ _ _ h1 h2 => h2.trans h1
  frame := fun i s h' tk st _ hk => ⟨st.1, st.2.1.at fun o e => hk J (by simp) o e, let ⟨o, ho, r⟩ := st.2.2; ⟨o, hk t (by simp) o ho, r⟩⟩
  item := fun i s Q E hi st hQ => by
    obtain ⟨_, h1, h2⟩ := st
    have e : ((items.size : Int) - 1 - (i : Int)) = ((items.size - 1 - i : Nat) : Int) := by omega
    rw [e] at h1
    have hx : items[items.size - 1 - i]? = some items[items.size - 1 - i] := Array.getElem?_eq_getElem (by omega)
    refine RT.next_rt_item h1 h2 hx hz fun h' x' sb => hQ _ _ hx ⟨hi, ?_, ?_⟩ ⟨fun b o hb q => sb.extBut b o (fun z => hb (by rw [z]; exact List.mem_cons_self)) q, rfl, rfl, rfl, Nat.le_succ _⟩
    · have e2 : ((items.size : Int) - 1 - ((i + 1 : Nat) : Int)) = ((items.size - 1 - i : Nat) : Int) - 1 := by omega
      show RT.IsRt h' J t ((items.size : Int) - 1 - ((i + 1 : Nat) : Int))
      rw [e2]
      exact x'
    · obtain ⟨o, ho, r⟩ := h2
      exact ⟨o, sb.extBut t o ne ho, r⟩
  done := fun s Q E st hQ => by
    obtain ⟨_, h1, h2⟩ := st
    have e : ((items.size : Int) - 1 - (items.size : Int)) = -1 := by omega
    rw [e] at h1
    exact RT.next_rt_end hh h1 fun h' eb => hQ _ ⟨fun b o hb q => eb b o (fun z => hb (by rw [z]; exact List.mem_cons_self)) q, rfl, rfl, rfl, Nat.le_refl _⟩
  self := fun i s Q E st hQ => RT.iter_rt st.2.1 hQ
end
section
open L2
/-- list(reversed(t)), t a tuple: a new list -/
def tLstRev (K : PySem.W.Frag) (te : TE) : TE := fun σ H Q => te σ H fun v H1 => ∃ (a : Addr) (xs : List V), v = .ref a ∧ SqT K H1 a xs ∧ ∀ q, H1 q = none → Q (.ref q) (upd H1 q (.lst xs.reverse))
theorem pe_lstRev {X : Cx} {e : Expr} {te : TE} {p p2 pos pos2 : Pos} (hc : X.calm = true) (hg : Gl X "list") (hm : X.mg "list" = none) (hg2 : Gl X "reversed") (hm2 : X.mg "reversed" = none) (he : PE X e te)
    (hs : starEach [e] X.env = (false, eval e X.env) :: starEach [] X.env := by rfl)
    (hs2 : starEach [.Call (.Name "reversed" p2) [e] [] pos2] X.env = (false, eval (.Call (.Name "reversed" p2) [e] [] pos2) X.env) :: starEach [] X.env := by rfl) :
    PE X (.Call (.Name "list" p) [.Call (.Name "reversed" p2) [e] [] pos2] [] pos) (tLstRev X.K te) := by
  refine ⟨fun pins s σ H Q I h => ?_⟩
  have hv : bootBuiltins "list" = some (.type "list") := by decide +kernel
  refine Call_ (ld_blt I hg hm hv (callWith_type1 (args_cons (Call_ (ld_blt I hg2 hm2 boot_reversed (callWith_type1 (args_cons (thn (he.run pins s σ H _ I h) fun u s1 ⟨v, H1, I1, r1, q1⟩ => args_nil ?_) hs) hs rfl))) hs2) hs2 rfl))
  obtain ⟨a, xs, rfl, hq, q⟩ := q1
  obtain rfl : u = Value.ref a := r1
  obtain ⟨its, rv, pl, hz⟩ := I1.tuple hq
  have ln := rv.length
  have l63 := line63
  have hz2 : its.toArray.size ≤ sizeLine := by rw [List.size_toArray, ← ln]; exact hz
  refine RT.call_reversed_tup pl (fun A E Q k => len_tuple pl (by simp only [List.size_toArray] <;> omega) k) (args_nil ?_)
  generalize hs2 : ({ s1 with heap := s1.heap.push (RT.rtObj a ((its.toArray.size : Int) - 1)), toks := s1.toks + 1 + 1 } : Shared) = s2
  have kp : ∀ b o, s1.heap.get? b = some o → s2.heap.get? b = some o := fun b o e => by rw [← hs2]; exact Heap.get?_push_of_some _ e
  have hJ : RT.IsRt s2.heap s1.heap.objs.size a ((its.toArray.size : Int) - 1) := by rw [← hs2]; exact ⟨_, Heap.get?_push_size _ rfl, rfl, rfl⟩
  have ht : IsTup s2.heap a its.toArray := pl.keeps kp
  obtain ⟨ol, hol, _⟩ := id pl
  have ne : a ≠ s1.heap.objs.size := Nat.ne_of_lt (Heap.lt_size hol)
  have sz : s1.heap.objs.size < s2.heap.objs.size := Heap.lt_size hJ.choose_spec.1
  have h0 : RT.IsRt s2.heap s1.heap.objs.size a ((its.toArray.size : Int) - 1 - ((0 : Nat) : Int)) := by rw [show ((its.toArray.size : Int) - 1 - ((0 : Nat) : Int)) = (its.toArray.size : Int) - 1 from by omega]; exact hJ
  refine list_iter (T := "reversed") (rt_walks (I1.ok.hd hc) ne hz2) (fun i t st => st.2.1.typeIs) (by decide) (by decide) (fun t Q' E' st qq => ?_) ⟨Nat.zero_le _, h0, ht⟩ (fun b hb => ?_) (by simp) (fun t acc c m eL hi => ?_) hz2
  · exact rt_says (i := (its.toArray.size : Int) - 1 - ((0 : Nat) : Int)) st.2.1 st.2.2 hz2 (by omega) (by omega) qq
  · rcases List.mem_cons.mp hb with z | hb
    · rw [z]; exact sz
    · rw [List.mem_singleton.mp hb]; exact Heap.lt_size (kp _ _ hol)
  · have et : t = { s1 with heap := t.heap, toks := t.toks } := by
      have e := Moved.eq_with m
      rw [← hs2] at e
      exact e
    have kp2 : ∀ b o, s1.heap.get? b = some o → t.heap.get? b = some o := fun b o e => m.heap b o (fun z => by
      rcases List.mem_cons.mp z with z | z
      · have := Heap.lt_size (kp b o e); rw [z] at this; exact Nat.lt_irrefl _ this
      · have := Heap.lt_size e; rw [List.mem_singleton.mp z] at this; exact Nat.lt_irrefl _ this) (Heap.get?_push_of_some _ (kp b o e))
    have le : s1.heap.objs.size ≤ s2.heap.objs.size := Nat.le_of_lt sz
    rw [et]
    exact ⟨.ref s2.heap.objs.size, _, I1.laid (t' := t.toks) (o := .lst xs.reverse) kp2 le ⟨by rw [List.length_reverse]; exact hz, acc.toList, c, RT.vals_rev rv hi, by rw [Array.toArray_toList]; exact eL⟩, rfl, q _ (I1.hok.fresh le)⟩
end
end LM
set_option Elab.async false
set_option linter.all false
set_option maxRecDepth 100000
set_option maxHeartbeats 4000000
namespace LM
open PySem PySem.Spec PyProof.Rows
open Sem (wp)
/-! ### list(it), what is drawn told by the heap -/
/-- J, of type T, is drawn from: St what is true behind the items so far, Dn behind the end; L the list that is made -/
structure Wk (prog : Program) (w : World) (A : Around) (J L : Addr) (T : String) (n : Nat) (St Dn : List Value → Shared → Prop) : Prop where
  typ : ∀ acc s, St acc s → s.TypeIs (.ref J) T
  frame : ∀ acc (s : Shared) h' tk, St acc s → s.toks ≤ tk → (∀ b o, b ≠ L → s.heap.get? b = some o → h'.get? b = some o) → (∃ o, h'.get? L = some o) → St acc { s with heap := h', toks := tk }
  item : ∀ acc (s : Shared) oL (Q : Option Value → Shared → Prop) (E : Value → Shared → Prop), acc.length < n → St acc s → s.heap.get? L = some oL → (∀ v s', St (acc ++ [v]) s' → s'.heap.get? L = some oL → Q (some v) s') → wpAny (model prog w) A (pyNext (.ref J)) Q E s
  done : ∀ acc (s : Shared) oL (Q : Option Value → Shared → Prop) (E : Value → Shared → Prop), acc.length = n → St acc s → s.heap.get? L = some oL → (∀ s', Dn acc s' → s'.heap.get? L = some oL → Q none s') → wpAny (model prog w) A (pyNext (.ref J)) Q E s
  self : ∀ acc (s : Shared) (Q : Value → Shared → Prop) (E : Value → Shared → Prop), St acc s → Q (.ref J) s → wpAny (model prog w) A (pyIter (.ref J)) Q E s
section
variable {prog : Program} {w : World} {A : Around} {s : Shared} {R : Result → Shared → Prop}
variable {J L : Addr} {T : String} {n : Nat} {St Dn : List Value → Shared → Prop}
theorem wk_loop (W : Wk prog w A.in1 J L T n St Dn) (hn : n ≤ sizeLine) (res : Value)
    (hR : ∀ t acc c, acc.length = n → Dn acc t → t.heap.get? L = some { cls := .type "list", dict := none, data := .seq acc.toArray c, slots := #[] } → R (.ok (.ret res)) t) :
    ∀ (k : Nat) (acc : List Value) (s : Shared) (c : Nat), acc.length + k = n → St acc s → s.heap.get? L = some { cls := .type "list", dict := none, data := .seq acc.toArray c, slots := #[] } →
      codeAny (model prog w) A (.builtin "list.extend.loop" ⟨[.ref L, .ref J, res], []⟩) R s
  | 0, acc, s, c, hk, h0, eL => by
    refine codeAny_builtin F.entry_extend_loop ?_
    rw [Around.under_plainId F.plain_extend_loop _]
    show wpAny _ A.in1 (pyNext (.ref J) >>= _) _ _ s
    exact wpAny_bind (W.done acc s _ _ _ (by omega) h0 eL fun t ht e => wpAny_pure (hR t acc c (by omega) ht e))
  | k + 1, acc, s, c, hk, h0, eL => by
    refine codeAny_builtin F.entry_extend_loop ?_
    rw [Around.under_plainId F.plain_extend_loop _]
    show wpAny _ A.in1 (pyNext (.ref J) >>= _) _ _ s
    refine wpAny_bind (W.item acc s _ _ _ (by omega) h0 eL fun v t ht e => ?_)
    show wpAny _ A.in1 (updateSeq L (·.push v) >>= _) _ _ _
    refine wpAny_bind ?_
    have e2 := Heap.get?_update_self (Obj.mapSeq (·.push v)) e rfl
    have e3 : (acc.toArray.push v) = (acc ++ [v]).toArray := by simp
    obtain ⟨c2, e4⟩ : ∃ c2, (t.heap.update L (Obj.mapSeq (·.push v))).get? L = some { cls := .type "list", dict := none, data := .seq (acc ++ [v]).toArray c2, slots := #[] } := by
      rw [← e3]
      exact ⟨_, e2⟩
    refine wpAny_updateSeq e rfl (wpAny_pure ⟨plainId_quiet F.plain_extend_loop _, ?_⟩) (by rw [List.size_toArray]; omega) (by rw [Array.size_push, List.size_toArray]; omega)
    exact wk_loop W hn res hR k (acc ++ [v]) _ c2 (by rw [List.length_append, List.length_singleton]; omega) (W.frame _ t _ t.toks ht (Nat.le_refl _) (fun b o hb q => (Heap.get?_update_other _ _ (Ne.symm hb)).trans q) ⟨_, e2⟩) e4
theorem wk_ext (W : Wk prog w A.in1 J L T n St Dn) (nl : (Value.type T == Value.type "list") = false) (nt : (Value.type T == Value.type "tuple") = false) (nJ : L ≠ J)
    (hi : HintOk prog w A.in1 J fun _ t => St [] t) (res : Value) (c₀ : Nat) (h0 : St [] s) (eL : s.heap.get? L = some { cls := .type "list", data := .seq #[] c₀ })
    (hR : ∀ t acc c, acc.length = n → Dn acc t → t.heap.get? L = some { cls := .type "list", dict := none, data := .seq acc.toArray c, slots := #[] } → R (.ok (.ret res)) t) (hn : n ≤ sizeLine) :
    wpAny (model prog w) A.in1 (Builtin.List.listExtendWith (.ref L) (.ref J) res) (Fn prog w A R) (fun e t => R (.error e) t) s := by
  unfold Builtin.List.listExtendWith
  refine wpAny_bind (wpAny_typeOf (W.typ [] _ h0) ?_)
  have same : Builtin.List.listSameRef (.ref L) (.ref J) = false := by simp [Builtin.List.listSameRef, nJ]
  simp only [same, nl, nt, Bool.or_false, Bool.false_eq_true, if_false]
  refine wpAny_bind (W.self [] _ _ _ h0 ?_)
  refine wpAny_bind (wpAny_holding ?_)
  refine hi _ _ _ h0 fun b tk htk => ?_
  have go : ∀ (h : Heap) (c : Nat), (∀ b o, b ≠ L → s.heap.get? b = some o → h.get? b = some o) → h.get? L = some { cls := .type "list", dict := none, data := .seq (([] : List Value)).toArray c, slots := #[] } →
      codeAny (model prog w) A (.builtin "list.extend.loop" ⟨[.ref L, .ref J, res], []⟩) R { s with heap := h, toks := tk } := fun h c hk e => wk_loop W hn res hR n [] _ c (by simp) (W.frame [] s h tk h0 htk hk ⟨_, e⟩) e
  refine wpAny_ite_split (fun _ => ?_) (fun _ => wpAny_pure ⟨plainId_quiet F.plain_extend_loop _, go s.heap c₀ (fun b o _ q => q) eL⟩)
  refine wpAny_bind (wpAny_rule ?_)
  refine wpAny_bind ?_
  show wpAny _ A.in1 (updateSeq L (·.push .none) >>= fun _ => updateSeq L (·.pop)) _ _ _
  refine wpAny_bind (wpAny_updateSeq eL rfl ?_)
  have e2 := Heap.get?_update_self (Obj.mapSeq (·.push Value.none)) eL rfl
  refine wpAny_updateSeq (hz := by seq_fits) e2 rfl ?_
  have e3 := Heap.get?_update_self (Obj.mapSeq (·.pop)) e2 rfl
  exact wpAny_pure ⟨plainId_quiet F.plain_extend_loop _, go _ _ (fun b o hb q => (Heap.get?_update_other _ _ (Ne.symm hb)).trans ((Heap.get?_update_other _ _ (Ne.symm hb)).trans q)) e3⟩
theorem wk_init (W : Wk prog w A.in1 J L T n St Dn) (nl : (Value.type T == Value.type "list") = false) (nt : (Value.type T == Value.type "tuple") = false) (nJ : L ≠ J)
    (hi : HintOk prog w A.in1 J fun _ t => St [] t) (h0 : St [] s) (eL : s.heap.get? L = some { cls := .type "list", data := .seq #[] })
    (hR : ∀ t acc c, acc.length = n → Dn acc t → t.heap.get? L = some { cls := .type "list", dict := none, data := .seq acc.toArray c, slots := #[] } → R (.ok (.ret .none)) t) (hn : n ≤ sizeLine) :
    wpAny (model prog w) A.in1 (Builtin.«list.__init__» ⟨[.ref L, .ref J], []⟩) (Fn prog w A R) (fun e t => R (.error e) t) s := by
  show wpAny _ A.in1 (do let old ← Builtin.List.listItems (.ref L); Builtin.List.listUpdate (.ref L) (fun _ => #[]); letGo old.toList.reverse; Builtin.List.listExtendWith (.ref L) (.ref J) .none) _ _ s
  refine wpAny_bind ?_
  unfold Builtin.List.listItems
  refine wpAny_bind (wpAny_seqItems eL rfl (wpAny_pure ?_))
  show wpAny _ A.in1 (updateSeq L (fun _ => #[]) >>= fun _ => letGo (#[] : Array Value).toList.reverse >>= fun _ => Builtin.List.listExtendWith (.ref L) (.ref J) .none) _ _ s
  refine wpAny_bind (wpAny_updateSeq eL rfl ?_)
  have e2 := Heap.get?_update_self (Obj.mapSeq (fun _ => (#[] : Array Value))) eL rfl
  refine wpAny_bind (wpAny_letGo ?_)
  exact wk_ext W nl nt nJ hi .none _ (W.frame [] s _ s.toks h0 (Nat.le_refl _) (fun b o hb q => (Heap.get?_update_other _ _ (Ne.symm hb)).trans q) ⟨_, e2⟩) e2 hR hn
theorem wk_list {E Q : Value → Shared → Prop} (W : Wk prog w A.in1.in1 J s.heap.objs.size T n St Dn) (nl : (Value.type T == Value.type "list") = false) (nt : (Value.type T == Value.type "tuple") = false) (nJ : s.heap.objs.size ≠ J)
    (hi : HintOk prog w A.in1.in1 J fun _ t => St [] t) (h0 : St [] { s with heap := s.heap.push { cls := .type "list", data := .seq #[] } })
    (hQ : ∀ t acc c, acc.length = n → Dn acc t → t.heap.get? s.heap.objs.size = some { cls := .type "list", dict := none, data := .seq acc.toArray c, slots := #[] } → Q (.ref s.heap.objs.size) t)
    (hn : n ≤ sizeLine) : wpAny (model prog w) A (call (.type "list") [.ref J]) Q E s := by
  refine callType_codes (Q₁ := fun obj t => obj = .ref s.heap.objs.size ∧ t = { s with heap := s.heap.push { cls := .type "list", data := .seq #[] } }) F.called_list (F.typeCall_list_1 _) F.entry_list_init
    (code_list_new _ ⟨rfl, rfl⟩) fun obj t ht => ?_
  obtain ⟨rfl, rfl⟩ := ht
  have eL : (s.heap.push { cls := .type "list", data := .seq #[] }).get? s.heap.objs.size = some { cls := .type "list", data := .seq #[] } := Heap.get?_push_size _ rfl
  refine ⟨⟨_, eL, rfl⟩, F.args_list_init_2 _ _, ?_⟩
  exact wk_init (R := wants (fun r t => r = .none ∧ Q (.ref s.heap.objs.size) t) E) W nl nt nJ hi h0 eL (fun t acc c ha hd e => ⟨rfl, hQ t acc c ha hd e⟩) hn
end
/-! ### a zip of two tuples whose last pair is still out -/
section
variable {prog : Program} {w : World} {A : Around} {E : Value → Shared → Prop} {s : Shared}
variable {z TI TO T i1 i2 l1 l2 : Addr} {f : Bool} {oT : Obj} {k : Nat} {xs ys : Array Value} {x y : Value}
theorem zipH_item {Q : Value → Shared → Prop} (D : ZipApart z TI TO i1 i2 l1 l2) (hz : IsZipHeld s.heap z TI TO T f) (hT : s.heap.get? T = some oT) (hTI : IsPair s.heap TI (.ref i1) (.ref i2))
    (h1 : s.heap.IsTupleIter i1 l1 k) (h2 : s.heap.IsTupleIter i2 l2 k) (hl1 : s.heap.IsTuple l1 xs) (hl2 : s.heap.IsTuple l2 ys) (hx : xs[k]? = some x) (hy : ys[k]? = some y)
    (hQ : ∀ h', IsZipHeld h' z TI TO T true → h'.IsTupleIter i1 l1 (k + 1) → h'.IsTupleIter i2 l2 (k + 1) → IsPair h' s.heap.objs.size x y → (∀ c o, c ≠ z → c ≠ i1 → c ≠ i2 → s.heap.get? c = some o → h'.get? c = some o) → Q (.ref s.heap.objs.size) { s with heap := h' }) :
    wpAny (model prog w) A (Builtin.«zip.__next__» ⟨[.ref z], []⟩) (fun fin s' => ∃ v, fin = .done (.ret v) ∧ Q v s') E s := by
  show wpAny _ _ (field (.ref z) 2 >>= _) _ _ _
  refine wpAny_bind (wpAny_field hz rfl (x := .bool false) rfl ?_)
  show wpAny _ _ (field (.ref z) 3 >>= _) _ _ _
  refine wpAny_bind (wpAny_field hz rfl (x := .ref TI) rfl ?_)
  refine wpAny_bind (wpAny_seqItems hTI rfl ?_)
  show wpAny _ _ (Builtin.SmallTypes.ownedTupleIsFree (.ref z) >>= _) _ _ _
  refine wpAny_bind (wpAny_tupleHeld_zip hz hT fun g1 z1 b1 => ?_)
  simp only [Bool.false_eq_true, if_false]
  refine wpAny_bind ?_
  rw [← Array.forIn_toList]
  simp only [List.forIn_cons, List.forIn_nil]
  refine wpAny_bind (wpAny_bind (wpAny_holding ?_))
  show wpAny _ _ (Builtin.SmallTypes.nextOf (.ref i1) >>= _) _ _ _
  refine wpAny_bind (RZ.nextOf_tuple_item (s := { s with heap := g1 }) (h1.extBut b1.extBut D.i1z) (hl1.extBut b1.extBut D.l1z) hx fun g2 a2 b2 => wpAny_pure ?_)
  refine wpAny_pure ?_
  refine wpAny_bind (wpAny_bind (wpAny_holding ?_))
  show wpAny _ _ (Builtin.SmallTypes.nextOf (.ref i2) >>= _) _ _ _
  refine wpAny_bind (RZ.nextOf_tuple_item (s := { s with heap := g2 }) ((h2.extBut b1.extBut D.i2z).extBut b2.extBut D.i12.symm) ((hl2.extBut b1.extBut D.l2z).extBut b2.extBut D.l2i1) hy fun g3 a3 b3 => wpAny_pure ?_)
  refine wpAny_pure (wpAny_pure ?_)
  show wpAny _ _ (newTuple [x, y] >>= _) _ _ _
  refine wpAny_bind (wpAny_newTuple ?_)
  have sz : g3.objs.size = s.heap.objs.size := by rw [b3.1, b2.1, b1.1]
  have z3 : IsZipHeld g3 z TI TO T true := b3.extBut _ _ D.i2z.symm (b2.extBut _ _ D.i1z.symm z1)
  have up : ∀ c o, c ≠ z → c ≠ i1 → c ≠ i2 → s.heap.get? c = some o → g3.get? c = some o := fun c o n1 n2 n3 e => b3.extBut _ _ n3 (b2.extBut _ _ n2 (b1.extBut _ _ n1 e))
  have a2' : g3.IsTupleIter i1 l1 (k + 1) := a2.extBut b3.extBut D.i12
  refine wpAny_pure ⟨_, rfl, ?_⟩
  show Q (.ref g3.objs.size) _
  have pr : IsPair (g3.push { cls := .type "tuple", data := .seq #[x, y] }) g3.objs.size x y := Heap.get?_push_size _ rfl
  rw [sz] at pr ⊢
  exact hQ _ (Heap.get?_push_of_some _ z3) (a2'.at fun o e => Heap.get?_push_of_some _ e) (a3.at fun o e => Heap.get?_push_of_some _ e) pr fun c o n1 n2 n3 e => Heap.get?_push_of_some _ (up c o n1 n2 n3 e)
theorem zipH_end {Q : Fin → Shared → Prop} (hh : A.handled = none) (D : ZipApart z TI TO i1 i2 l1 l2) (hz : IsZipHeld s.heap z TI TO T f) (hT : s.heap.get? T = some oT) (hTI : IsPair s.heap TI (.ref i1) (.ref i2))
    (h1 : s.heap.IsTupleIter i1 l1 k) (hl1 : s.heap.IsTuple l1 xs) (hx : xs[k]? = none)
    (hE : ∀ h' e, (∀ c o, c ≠ z → c ≠ i1 → c ≠ i2 → s.heap.get? c = some o → h'.get? c = some o) → (∃ o, h'.get? e = some o ∧ o.cls = .type "StopIteration") → E (.ref e) { s with heap := h' }) :
    wpAny (model prog w) A (Builtin.«zip.__next__» ⟨[.ref z], []⟩) Q E s := by
  show wpAny _ _ (field (.ref z) 2 >>= _) _ _ _
  refine wpAny_bind (wpAny_field hz rfl (x := .bool false) rfl ?_)
  show wpAny _ _ (field (.ref z) 3 >>= _) _ _ _
  refine wpAny_bind (wpAny_field hz rfl (x := .ref TI) rfl ?_)
  refine wpAny_bind (wpAny_seqItems hTI rfl ?_)
  show wpAny _ _ (Builtin.SmallTypes.ownedTupleIsFree (.ref z) >>= _) _ _ _
  refine wpAny_bind (wpAny_tupleHeld_zip hz hT fun g1 z1 b1 => ?_)
  simp only [Bool.false_eq_true, if_false]
  refine wpAny_bind ?_
  rw [← Array.forIn_toList]
  simp only [List.forIn_cons, List.forIn_nil]
  refine wpAny_bind (wpAny_bind (wpAny_holding ?_))
  show wpAny _ _ (Builtin.SmallTypes.nextOf (.ref i1) >>= _) _ _ _
  exact wpAny_bind (RZ.nextOf_tuple_end (s := { s with heap := g1 }) hh (h1.extBut b1.extBut D.i1z) (hl1.extBut b1.extBut D.l1z) hx fun g2 e b2 he => hE g2 e (fun c o n1 n2 _ q => b2 _ _ n2 (b1.extBut _ _ n1 q)) he)
theorem zip_nolen : typeLookup (.type "zip") "__len__" = pure none := by rw [typeLookup_type, builtinLookup_eq_fast] <;> kernel_rfl
theorem zip_nohint : typeLookup (.type "zip") "__length_hint__" = pure none := by rw [typeLookup_type, builtinLookup_eq_fast] <;> kernel_rfl
theorem zip_says {St : Nat → Shared → Prop} (hT : ∀ t, St 0 t → t.TypeIs (.ref z) "zip") : HintOk prog w A z St := fun s Q E h0 q => by
  unfold Builtin.List.listLengthHint
  refine wpAny_bind (wpAny_specialOf (hT s h0) zip_nolen ?_)
  show wpAny _ A (specialOf (Value.ref z) (Str.ofString "__length_hint__") >>= _) _ _ _
  refine wpAny_bind (wpAny_specialOf (hT s h0) zip_nohint ?_)
  exact wpAny_pure (q _ _ (Nat.le_refl _))
/-- the pairs made so far -/
structure Prs (h : Heap) (lo : Addr) (xs ys : Array Value) (acc : List Value) (ts : List Addr) : Prop where
  acc : acc = ts.map Value.ref
  nd : ts.Nodup
  hi : ∀ t ∈ ts, lo < t
  at_ : ∀ (j : Nat) (t : Addr), ts[j]? = some t → ∃ x y, xs[j]? = some x ∧ ys[j]? = some y ∧ IsPair h t x y
theorem Prs.keep {h h' : Heap} {lo : Addr} {acc : List Value} {ts : List Addr} (p : Prs h lo xs ys acc ts) (k : ∀ t ∈ ts, ∀ o, h.get? t = some o → h'.get? t = some o) : Prs h' lo xs ys acc ts :=
  ⟨p.acc, p.nd, p.hi, fun j t e => let ⟨x, y, a, b, c⟩ := p.at_ j t e; ⟨x, y, a, b, k t (List.mem_of_getElem? e) _ c⟩⟩
theorem Prs.lt {h : Heap} {lo : Addr} {acc : List Value} {ts : List Addr} (p : Prs h lo xs ys acc ts) : ∀ t ∈ ts, t < h.objs.size := fun t ht => by
  obtain ⟨j, e⟩ := List.getElem?_of_mem ht
  obtain ⟨x, y, _, _, c⟩ := p.at_ j t e
  exact Heap.lt_size c
theorem Prs.snoc {h : Heap} {lo t : Addr} {acc : List Value} {ts : List Addr} (p : Prs h lo xs ys acc ts) (hx : xs[acc.length]? = some x) (hy : ys[acc.length]? = some y) (ht : IsPair h t x y) (hl : lo < t) (hn : t ∉ ts) : Prs h lo xs ys (acc ++ [.ref t]) (ts ++ [t]) := by
  have el : acc.length = ts.length := by rw [p.acc, List.length_map]
  refine ⟨by rw [p.acc, List.map_append] <;> rfl, List.nodup_append.mpr ⟨p.nd, (by simp), fun a ha b hb => ?_⟩, fun u hu => ?_, fun j u e => ?_⟩
  · rw [List.mem_singleton.mp hb]
    exact fun z => hn (z ▸ ha)
  · rcases List.mem_append.mp hu with hu | hu
    · exact p.hi u hu
    · rw [List.mem_singleton.mp hu]; exact hl
  · by_cases hj : j < ts.length
    · rw [List.getElem?_append_left hj] at e
      exact p.at_ j u e
    · rw [List.getElem?_append_right (by omega)] at e
      have e0 : j - ts.length = 0 := by
        cases q : j - ts.length with
        | zero => rfl
        | succ m => rw [q] at e; simp at e
      rw [e0] at e
      have eu : t = u := by simpa using e
      have ej : j = acc.length := by omega
      subst eu
      rw [ej]
      exact ⟨x, y, hx, hy, ht⟩
/-- behind some draws -/
structure ZSt (s0 : Shared) (L z TI TO i1 i2 l1 l2 : Addr) (xs ys : Array Value) (acc : List Value) (s : Shared) : Prop where
  eq : s = { s0 with heap := s.heap, toks := s.toks }
  kp : ∀ b o, b ≠ z → b ≠ TO → b ≠ i1 → b ≠ i2 → s0.heap.get? b = some o → s.heap.get? b = some o
  hTI : IsPair s.heap TI (.ref i1) (.ref i2)
  h1 : s.heap.IsTupleIter i1 l1 acc.length
  h2 : s.heap.IsTupleIter i2 l2 acc.length
  hl1 : s.heap.IsTuple l1 xs
  hl2 : s.heap.IsTuple l2 ys
  hL : ∃ o, s.heap.get? L = some o
  hO : ∃ o, s.heap.get? TO = some o
  ps : ∃ ts, Prs s.heap L xs ys acc ts ∧ (∀ t ∈ ts, t ≠ z ∧ t ≠ TO ∧ t ≠ i1 ∧ t ≠ i2 ∧ t ≠ L)
  hz : (IsZip s.heap z TI TO .none ∧ ∃ a b, IsPair s.heap TO a b) ∨ ∃ T f oT, IsZipHeld s.heap z TI TO T f ∧ s.heap.get? T = some oT ∧ T ≠ z ∧ T ≠ i1 ∧ T ≠ i2 ∧ T ≠ L
structure ZDn (s0 : Shared) (L z TO i1 i2 : Addr) (xs ys : Array Value) (acc : List Value) (s : Shared) : Prop where
  eq : s = { s0 with heap := s.heap, toks := s.toks }
  kp : ∀ b o, b ≠ z → b ≠ TO → b ≠ i1 → b ≠ i2 → s0.heap.get? b = some o → s.heap.get? b = some o
  ps : ∃ ts, Prs s.heap L xs ys acc ts
theorem wk_zip {s0 : Shared} {L : Addr} (hh : A.handled = none) (D : ZipApart z TI TO i1 i2 l1 l2) (hsz : xs.size = ys.size) (nz : L ≠ z) (nI : L ≠ TI) (nO : L ≠ TO) (n1 : L ≠ i1) (n2 : L ≠ i2) (m1 : L ≠ l1) (m2 : L ≠ l2) (h0 : s0.heap.get? L = none) :
    Wk prog w A z L "zip" xs.size (ZSt s0 L z TI TO i1 i2 l1 l2 xs ys) (ZDn s0 L z TO i1 i2 xs ys) where
  typ := fun acc s st => by
    rcases st.hz with ⟨h, _⟩ | ⟨_, _, _, h, _⟩
    · exact ⟨_, h, rfl⟩
    · exact ⟨_, h, rfl⟩
  frame := fun acc s h' tk st ht k kL => by
    have low : ∀ b, b ≠ L → ∀ o, s.heap.get? b = some o → h'.get? b = some o := fun b hb o e => k b o hb e
    obtain ⟨ts, p, hp⟩ := st.ps
    refine ⟨by rw [st.eq], fun b o a1 a2 a3 a4 e => ?_, low _ (Ne.symm nI) _ st.hTI, st.h1.at fun o e => low _ (Ne.symm n1) o e, st.h2.at fun o e => low _ (Ne.symm n2) o e, ?_, ?_, kL, (let ⟨o, e⟩ := st.hO; ⟨o, low _ (Ne.symm nO) o e⟩), ⟨ts, p.keep fun t ht o e => low t (hp t ht).2.2.2.2 o e, hp⟩, ?_⟩
    · exact low b (fun q => by rw [q, h0] at e; cases e) o (st.kp b o a1 a2 a3 a4 e)
    · obtain ⟨o, e, r⟩ := st.hl1; exact ⟨o, low _ (Ne.symm m1) o e, r⟩
    · obtain ⟨o, e, r⟩ := st.hl2; exact ⟨o, low _ (Ne.symm m2) o e, r⟩
    · rcases st.hz with ⟨h, a, b, q⟩ | ⟨T, f, oT, h, q, r1, r2, r3, r4⟩
      · exact .inl ⟨low _ (Ne.symm nz) _ h, a, b, low _ (Ne.symm nO) _ q⟩
      · exact .inr ⟨T, f, oT, low _ (Ne.symm nz) _ h, low _ r4 _ q, r1, r2, r3, r4⟩
  item := fun acc s oL Q E hlt st eL hQ => by
    have ex := Array.getElem?_eq_getElem hlt
    have ey := Array.getElem?_eq_getElem (xs := ys) (i := acc.length) (by omega)
    have lt : ∀ {c o}, s.heap.get? c = some o → s.heap.objs.size ≠ c := fun e => Nat.ne_of_gt (Heap.lt_size e)
    obtain ⟨ts, p, hp⟩ := st.ps
    obtain ⟨_, q1, _⟩ := id st.h1
    obtain ⟨_, q2, _⟩ := id st.h2
    have new : s.heap.objs.size ∉ ts := fun hm => Nat.lt_irrefl _ (p.lt _ hm)
    have fin : ∀ (h' : Heap) (T : Addr) (f : Bool) (oT : Obj), IsZipHeld h' z TI TO T f → h'.get? T = some oT → T ≠ z → T ≠ i1 → T ≠ i2 → T ≠ L → h'.IsTupleIter i1 l1 (acc.length + 1) → h'.IsTupleIter i2 l2 (acc.length + 1) → IsPair h' s.heap.objs.size xs[acc.length] ys[acc.length] →
        (∀ c o, c ≠ z → c ≠ TO → c ≠ i1 → c ≠ i2 → s.heap.get? c = some o → h'.get? c = some o) → s.heap.objs.size ≠ z → s.heap.objs.size ≠ TO → (∃ o, h'.get? TO = some o) → Q (some (.ref s.heap.objs.size)) { s with heap := h' } := fun h' T f oT a1 a2 r1 r2 r3 r4 b1 b2 b3 k nz' nO' eO => by
      refine hQ _ _ ⟨by rw [st.eq], fun b o c1 c2 c3 c4 e => k b o c1 c2 c3 c4 (st.kp b o c1 c2 c3 c4 e), k _ _ D.TIz D.TITO D.TIi1 D.TIi2 st.hTI, by rw [List.length_append]; exact b1, by rw [List.length_append]; exact b2, ?_, ?_, ⟨oL, k _ _ nz nO n1 n2 eL⟩, eO, ⟨ts ++ [s.heap.objs.size], ?_, fun t ht => ?_⟩, .inr ⟨T, f, oT, a1, a2, r1, r2, r3, r4⟩⟩ (k _ _ nz nO n1 n2 eL)
      · obtain ⟨o, e, r⟩ := st.hl1; exact ⟨o, k _ o D.l1z D.l1TO D.l1i1 D.l1i2 e, r⟩
      · obtain ⟨o, e, r⟩ := st.hl2; exact ⟨o, k _ o D.l2z D.l2TO D.l2i1 D.l2i2 e, r⟩
      · exact (p.keep fun t ht o e => k t o (hp t ht).1 (hp t ht).2.1 (hp t ht).2.2.1 (hp t ht).2.2.2.1 e).snoc ex ey b3 (Heap.lt_size eL) new
      · rcases List.mem_append.mp ht with ht | ht
        · exact hp t ht
        · rw [List.mem_singleton.mp ht]
          exact ⟨nz', nO', lt q1, lt q2, lt eL⟩
    rcases st.hz with ⟨h, a, b, q⟩ | ⟨T, f, oT, h, q, r1, r2, r3, r4⟩
    · refine RZ.pyNext_zipT_item D h st.hTI q st.h1 st.h2 st.hl1 st.hl2 ex ey fun h' a1 a2 a3 a4 a5 a6 a7 => ?_
      exact fin h' s.heap.objs.size false _ a1 a5 (lt h) (lt q1) (lt q2) (lt eL) a3 a4 a5 a7 (lt h) (lt q) ⟨_, a2⟩
    · have hTy : s.TypeIs (.ref z) "zip" := ⟨_, h, rfl⟩
      unfold pyNext
      refine wpAny_bind (wpAny_attempt (wpAny_callSpecial?_slot (name := Str.ofString "__next__") hTy F.slot_zip_next (wpAny_call_entry F.slot_zip_next hTy F.entry_zip_next (zipH_item D h q st.hTI st.h1 st.h2 st.hl1 st.hl2 ex ey fun h' a1 a3 a4 a5 a7 => ?_) (F.args_zip_next_1 _))))
      obtain ⟨oO, eO⟩ := st.hO
      exact wpAny_pure (fin h' T true oT a1 (a7 _ _ r1 r2 r3 q) r1 r2 r3 r4 a3 a4 a5 (fun c o c1 _ c3 c4 e => a7 c o c1 c3 c4 e) (lt h) (lt eO) ⟨oO, a7 _ _ D.TOz D.TOi1 D.TOi2 eO⟩)
  done := fun acc s oL Q E hl st eL hQ => by
    have ex : xs[acc.length]? = none := Array.getElem?_eq_none (by omega)
    obtain ⟨ts, p, hp⟩ := st.ps
    have fin : ∀ h' : Heap, (∀ c o, c ≠ z → c ≠ TO → c ≠ i1 → c ≠ i2 → s.heap.get? c = some o → h'.get? c = some o) → Q none { s with heap := h' } := fun h' k =>
      hQ _ ⟨by rw [st.eq], fun b o c1 c2 c3 c4 e => k b o c1 c2 c3 c4 (st.kp b o c1 c2 c3 c4 e), ts, p.keep fun t ht o e => k t o (hp t ht).1 (hp t ht).2.1 (hp t ht).2.2.1 (hp t ht).2.2.2.1 e⟩ (k _ _ nz nO n1 n2 eL)
    rcases st.hz with ⟨h, a, b, q⟩ | ⟨T, f, oT, h, q, r1, r2, r3, r4⟩
    · exact RZ.pyNext_zipT_end hh D h st.hTI q st.h1 st.h2 st.hl1 st.hl2 (.inl ex) fun h' k => fin h' k
    · have hTy : s.TypeIs (.ref z) "zip" := ⟨_, h, rfl⟩
      unfold pyNext
      refine wpAny_bind (wpAny_attempt (wpAny_callSpecial?_slot (name := Str.ofString "__next__") hTy F.slot_zip_next (wpAny_call_entry F.slot_zip_next hTy F.entry_zip_next (zipH_end hh D h q st.hTI st.h1 st.hl1 ex fun h' e k he => ?_) (F.args_zip_next_1 _))))
      obtain ⟨o, ho, hc⟩ := he
      refine wpAny_bind (wpAny_isInstance (T := "StopIteration") (b := true) ⟨o, ho, hc⟩ isSubtype_stop ?_)
      exact wpAny_pure (fin _ fun c o c1 _ c3 c4 e => k c o c1 c3 c4 e)
  self := fun acc s Q E st hQ => by
    have hT : s.TypeIs (.ref z) "zip" := by
      rcases st.hz with ⟨h, _⟩ | ⟨_, _, _, h, _⟩
      · exact ⟨_, h, rfl⟩
      · exact ⟨_, h, rfl⟩
    refine wpAny_pyIter_slot hT F.slot_zip_iter (wpAny_call_entry F.slot_zip_iter hT F.entry_zip_iter ?_ (F.args_zip_iter_1 _))
    show wpAny _ _ (ret (.ref z)) _ _ s
    exact wpAny_pure ⟨_, rfl, "zip", _, hT, F.slot_zip_next.lookup, hQ⟩
end
/-! ### new pairs tracked -/
section
open L2
/-- pairs laid at their places -/
def layP : Hp → List Addr → List (V × V) → Hp
  | H, t :: ts, q :: qs => layP (upd H t (.tup [q.1, q.2])) ts qs
  | H, _, _ => H
theorem layP_off {b : Addr} : ∀ {ts : List Addr} {qs : List (V × V)} {H : Hp}, b ∉ ts → layP H ts qs b = H b
  | [], _, _, _ => rfl
  | _ :: _, [], _, _ => rfl
  | t :: ts, q :: qs, H, h => by
    show layP (upd H t (.tup [q.1, q.2])) ts qs b = H b
    rw [layP_off fun z => h (List.mem_cons_of_mem _ z), upd_ne (fun z => h (by rw [z]; exact List.mem_cons_self))]
theorem layP_at : ∀ {ts : List Addr} {qs : List (V × V)} {H : Hp}, ts.Nodup → ∀ {j : Nat} {t : Addr} {q : V × V}, ts[j]? = some t → qs[j]? = some q → layP H ts qs t = some (.tup [q.1, q.2])
  | [], _, _, _, j, t, q, e, _ => by simp at e
  | _ :: _, [], _, _, j, t, q, _, e => by simp at e
  | u :: ts, p :: qs, H, nd, 0, t, q, e, e2 => by
    have n := List.nodup_cons.mp nd
    simp at e e2
    subst e; subst e2
    show layP (upd H u (.tup [p.1, p.2])) ts qs u = _
    rw [layP_off n.1, upd_same]
  | u :: ts, p :: qs, H, nd, j + 1, t, q, e, e2 => by
    have n := List.nodup_cons.mp nd
    exact layP_at (H := upd H u (.tup [p.1, p.2])) n.2 (by simpa using e) (by simpa using e2)
/-- new pairs and a list of them -/
theorem pairs_laid {X : Cx} {pins : List (Addr × Obj)} {σ : L2.St} {H : Hp} {s : Shared} {h' : Heap} {tk : Nat} {L : Addr} {qs : List (V × V)} {ts : List Addr} {c : Nat} (I : Inv X pins σ H s) (k : ∀ b o, s.heap.get? b = some o → h'.get? b = some o) (hL : s.heap.objs.size ≤ L)
    (eL : h'.get? L = some { cls := .type "list", dict := none, data := .seq (ts.map Value.ref).toArray c, slots := #[] }) (nd : ts.Nodup) (hi : ∀ t ∈ ts, L < t) (len : ts.length = qs.length) (hz : qs.length ≤ sizeLine)
    (at_ : ∀ (j : Nat) (t : Addr) (q : V × V), ts[j]? = some t → qs[j]? = some q → ∃ x y, RelV q.1 x ∧ RelV q.2 y ∧ IsPair h' t x y) :
    ∃ H' : Hp, (∀ b o, H b = some o → H' b = some o) ∧ H L = none ∧ H' L = some (.lst (ts.map V.ref)) ∧ Paired (fun (t : Addr) (q : V × V) => H' t = some (.tup [q.1, q.2])) ts qs ∧ Inv X pins σ H' { s with heap := h', toks := tk } := by
  have lo : ∀ t ∈ ts, s.heap.objs.size ≤ t := fun t ht => Nat.le_trans hL (Nat.le_of_lt (hi t ht))
  have nL : L ∉ ts := fun z => Nat.lt_irrefl _ (hi L z)
  have fresh : ∀ t ∈ ts, H t = none := fun t ht => I.hok.fresh (lo t ht)
  have fL : H L = none := I.hok.fresh hL
  have old : ∀ b, b ∉ ts → b ≠ L → layP (upd H L (.lst (ts.map V.ref))) ts qs b = H b := fun b n1 n2 => by rw [layP_off n1, upd_ne n2]
  have kp : ∀ b u, H b = some u → layP (upd H L (.lst (ts.map V.ref))) ts qs b = some u := fun b u e => by
    rw [old b (fun z => by rw [fresh b z] at e; cases e) (fun z => by rw [z, fL] at e; cases e)]
    exact e
  have eL' : layP (upd H L (.lst (ts.map V.ref))) ts qs L = some (.lst (ts.map V.ref)) := by rw [layP_off nL, upd_same]
  have low : ∀ b o, s.heap.get? b = some o → b ∉ ts ∧ b ≠ L := fun b o e => ⟨fun z => absurd (Heap.lt_size e) (Nat.not_lt.mpr (lo b z)), fun z => absurd (Heap.lt_size e) (Nat.not_lt.mpr (z ▸ hL))⟩
  have pr : ∀ {as : List Addr} {ps : List (V × V)} {G : Hp}, as.length = ps.length → as.Nodup → (∀ (j : Nat) (t : Addr) (q : V × V), as[j]? = some t → ps[j]? = some q → G t = some (.tup [q.1, q.2])) → Paired (fun (t : Addr) (q : V × V) => G t = some (.tup [q.1, q.2])) as ps := by
    intro as
    induction as with
    | nil =>
      intro ps G e _ _
      cases ps with
      | nil => exact .nil
      | cons a b => cases e
    | cons a as ih =>
      intro ps G e n f
      cases ps with
      | nil => cases e
      | cons q ps =>
        exact .cons (f 0 a q rfl rfl) (ih (Nat.succ.inj e) (List.nodup_cons.mp n).2 fun j t q e1 e2 => f (j + 1) t q (by simpa using e1) (by simpa using e2))
  refine ⟨layP (upd H L (.lst (ts.map V.ref))) ts qs, kp, fL, eL', pr len nd fun j t q e1 e2 => layP_at nd e1 e2, ?_⟩
  refine I.call' (ch := []) rfl ⟨fun b o q _ _ _ => k b o q, fun b o q _ _ _ => ⟨o.slots, k b o q⟩, fun b o q n _ => ?_, fun b o q _ => ⟨o, k b o q⟩, fun b xs q => kp b _ q, fun b o u q => kp b _ q, fun b ps q => ⟨#[], by rw [kp b _ q] <;> simp⟩⟩ (fun b u q => ?_) I.bare fun b z => by simp at z
  · obtain ⟨n1, n2⟩ := low b o q
    rw [old b n1 n2]
    exact n
  · by_cases hb : b ∈ ts
    · obtain ⟨j, e1⟩ := List.getElem?_of_mem hb
      have hj : j < qs.length := by
        have := (List.getElem?_eq_some_iff.mp e1).1
        omega
      have e2 : qs[j]? = some qs[j] := List.getElem?_eq_getElem hj
      rw [layP_at nd e1 e2] at q
      cases q
      obtain ⟨x, y, r1, r2, p⟩ := at_ j b _ e1 e2
      exact ⟨by show 2 ≤ sizeLine; decide, [x, y], .cons r1 (.cons r2 .nil), ⟨_, p, rfl, _, rfl⟩⟩
    · by_cases hb2 : b = L
      · rw [hb2] at q ⊢
        rw [eL'] at q
        cases q
        exact ⟨by rw [List.length_map]; omega, ts.map Value.ref, c, LiI.vals_refs ts, eL⟩
      · rw [old b hb hb2] at q
        exact (I.hok b u q).stay (fun d v _ y => k d v y) (fun d y => kp d _ y) fun d xs y => kp d _ y
/-- list(zip(t, u)), t and u tuples of one length: a new list of new pairs -/
def tLstZip (K : PySem.W.Frag) (ta : TA) : TE := fun σ H Q => ta σ H fun vs H1 => ∃ (a b : Addr) (xs ys : List V), vs = [.ref a, .ref b] ∧ SqT K H1 a xs ∧ SqT K H1 b ys ∧ xs.length = ys.length ∧
  ∀ (H' : Hp) (p : Addr) (ts : List Addr), (∀ b o, H1 b = some o → H' b = some o) → H1 p = none → H' p = some (.lst (ts.map V.ref)) → Paired (fun (t : Addr) (q : V × V) => H' t = some (.tup [q.1, q.2])) ts (xs.zip ys) → Q (.ref p) H'
theorem pe_lstZip {X : Cx} {e e2 : Expr} {ta : TA} {p p2 pos pos2 : Pos} (hc : X.calm = true) (hg : Gl X "list") (hm : X.mg "list" = none) (hg2 : Gl X "zip") (hm2 : X.mg "zip" = none) (ha : PA X [e, e2] ta)
    (hs : starEach [e, e2] X.env = (false, eval e X.env) :: starEach [e2] X.env := by rfl) (hpl : (backTo pos2 (starEach [e2] X.env)).any (·.1) = false := by rfl)
    (hs2 : starEach [.Call (.Name "zip" p2) [e, e2] [] pos2] X.env = (false, eval (.Call (.Name "zip" p2) [e, e2] [] pos2) X.env) :: starEach [] X.env := by rfl) :
    PE X (.Call (.Name "list" p) [.Call (.Name "zip" p2) [e, e2] [] pos2] [] pos) (tLstZip X.K ta) := by
  refine ⟨fun pins s σ H Q I h => ?_⟩
  have hv : bootBuiltins "list" = some (.type "list") := by decide +kernel
  refine Call_ (ld_blt I hg hm hv (callWith_type1 (args_cons (Call_ (ld_blt I hg2 hm2 boot_zip (callWith_type1 (thn (ha.run pos2 pins s σ H _ I h) fun us s1 ⟨vs, H1, I1, r1, q1⟩ => ?_) hs hpl))) hs2) hs2 rfl))
  obtain ⟨a, b, xs, ys, rfl, hqx, hqy, hl, q⟩ := q1
  cases r1 with
  | cons r rr =>
  cases rr with
  | cons r' rr =>
  cases rr
  cases r
  cases r'
  obtain ⟨its, rv, pl, hz⟩ := I1.tuple hqx
  obtain ⟨its2, rv2, pl2, hz2⟩ := I1.tuple hqy
  have ln := rv.length
  have ln2 := rv2.length
  obtain ⟨o1, ho1, _⟩ := id pl
  obtain ⟨o2, ho2, _⟩ := id pl2
  refine RZ.call_zipT (show s1.heap.IsTuple a its.toArray from pl) (show s1.heap.IsTuple b its2.toArray from pl2) fun h' g1 g2 g3 g4 g5 g6 kp => args_nil ?_
  have D := PySem.W.ktu_apart s1.heap.objs.size a b (Heap.lt_size ho1) (Heap.lt_size ho2)
  have hsz : its.toArray.size = its2.toArray.size := by rw [List.size_toArray, List.size_toArray]; omega
  have nx : ∀ {c : Addr} {o : Obj}, h'.get? c = some o → h'.objs.size ≠ c := fun e => Nat.ne_of_gt (Heap.lt_size e)
  have t1 : h'.IsTuple a its.toArray := let ⟨o, e, r⟩ := pl; ⟨o, kp a o e, r⟩
  have t2 : h'.IsTuple b its2.toArray := let ⟨o, e, r⟩ := pl2; ⟨o, kp b o e, r⟩
  have nL : h'.get? h'.objs.size = none := by
    cases q : h'.get? h'.objs.size with
    | none => rfl
    | some o => exact absurd (Heap.lt_size q) (Nat.lt_irrefl _)
  have gh : ({ s1 with heap := h' } : Shared).heap = h' := rfl
  have up : ∀ c o, h'.get? c = some o → (h'.push { cls := .type "list", data := .seq #[] }).get? c = some o := fun c o e => Heap.get?_push_of_some _ e
  have hn : its.toArray.size ≤ sizeLine := by rw [List.size_toArray, ← ln]; exact hz
  obtain ⟨oi1, ei1, _⟩ := id g4
  obtain ⟨oi2, ei2, _⟩ := id g5
  refine wk_list (s := { s1 with heap := h' }) (wk_zip (s0 := { s1 with heap := h' }) (I1.ok.hd hc) D hsz (nx g1) (nx g2) (nx g3) (nx ei1) (nx ei2) (nx (kp a _ ho1)) (nx (kp b _ ho2)) nL) (by decide) (by decide) (nx g1)
    (zip_says fun t st => by
      rcases st.hz with ⟨h, _⟩ | ⟨_, _, _, h, _⟩
      · exact ⟨_, h, rfl⟩
      · exact ⟨_, h, rfl⟩)
    ⟨rfl, fun c o _ _ _ _ e => up c o e, up _ _ g2, g4.at fun o e => up _ o e, g5.at fun o e => up _ o e, (let ⟨o, e, r⟩ := t1; ⟨o, up _ o e, r⟩), (let ⟨o, e, r⟩ := t2; ⟨o, up _ o e, r⟩), ⟨_, Heap.get?_push_size _ rfl⟩, ⟨_, up _ _ g3⟩, ⟨[], ⟨rfl, List.nodup_nil, fun t ht => by simp at ht, fun j t e => by simp at e⟩, fun t ht => by simp at ht⟩, .inl ⟨up _ _ g1, _, _, up _ _ g3⟩⟩
    (fun t acc c hacc hd eL => ?_) hn
  obtain ⟨ts, p⟩ := hd.ps
  have et : t = { s1 with heap := t.heap, toks := t.toks } := hd.eq
  have low : ∀ c o, s1.heap.get? c = some o → t.heap.get? c = some o := fun c o e => by
    have lt := Heap.lt_size e
    exact hd.kp c o (Nat.ne_of_lt (Nat.lt_of_lt_of_le lt (Nat.le_add_right _ _))) (Nat.ne_of_lt (Nat.lt_of_lt_of_le lt (Nat.le_add_right _ _))) (Nat.ne_of_lt lt) (Nat.ne_of_lt (Nat.lt_of_lt_of_le lt (Nat.le_add_right _ _))) (kp c o e)
  have e1 := p.acc
  rw [e1] at eL
  have lts : ts.length = (xs.zip ys).length := by
    rw [List.length_zip, ← hl, Nat.min_self, ln]
    rw [e1, List.length_map, List.size_toArray] at hacc
    exact hacc
  obtain ⟨H', k1, k2, k3, k4, J⟩ := pairs_laid (tk := t.toks) (qs := xs.zip ys) I1 low (by show s1.heap.objs.size ≤ h'.objs.size; omega) eL p.nd p.hi lts (by rw [List.length_zip]; omega) fun j u qq f1 f2 => by
    obtain ⟨x, y, x1, y1, pr⟩ := p.at_ j u f1
    obtain ⟨w1, w2⟩ := List.getElem?_zip_eq_some.mp f2
    obtain ⟨x', x2, rx⟩ := LiI.paired_get rv w1
    obtain ⟨y', y2, ry⟩ := LiI.paired_get rv2 w2
    rw [List.getElem?_toArray] at x1 y1
    rw [x2] at x1
    rw [y2] at y1
    cases x1
    cases y1
    exact ⟨_, _, rx, ry, pr⟩
  rw [et]
  exact ⟨.ref h'.objs.size, H', J, rfl, q H' _ ts k1 k2 k3 k4⟩
end
end LM
set_option Elab.async false
set_option linter.all false
set_option maxRecDepth 100000
set_option maxHeartbeats 4000000
namespace LM
open PySem PySem.Spec PyProof.Rows
open Sem (wp)
/-! ### tuple(d.items()) -/
section
variable {prog : Program} {w : World} {K : Type} [DecidableEq K] {knd : KeyKind prog w K} {A : Around} {E : Value → Shared → Prop} {s : Shared} {r d : Addr} {kvs : List (K × Value)} {ep : Nat}
theorem new_tupItems {Q : Value → Shared → Prop} (hh : A.handled = none) (hv : s.heap.IsItemsView r d) (hm : s.heap.DictAt knd d kvs ep) (hn : kvs.length ≤ sizeLine)
    (h : ∀ (h' : Heap) (tk : Nat) (ts : List Addr), (∀ b o, s.heap.get? b = some o → h'.get? b = some o) → ts.length = kvs.length → PySem.W.KdxG knd kvs s.heap.objs.size h' ts →
      Q (.ref h'.objs.size) { s with heap := h'.push { cls := .type "tuple", data := .seq (ts.map Value.ref).toArray }, toks := tk }) :
    codeAny (model prog w) A (.call (.builtin "tuple.__new__") ⟨[.type "tuple", .ref r], []⟩) (wants Q E) s := by
  refine codeAny_of_tree ?_
  show wpAny _ A.in1 (do checkBuiltinCall "tuple.__new__" ⟨[.type "tuple", .ref r], []⟩; again (.builtin "tuple.__new__" ⟨[.type "tuple", .ref r], []⟩)) _ _ s
  refine wpAny_bind (wpAny_of_eq (F.newCall_tuple_1 _) (wpAny_pure ⟨plainId_quiet F.plain_tuple_new _, codeAny_builtin F.entry_tuple_new ?_⟩))
  rw [Around.under_plainId F.plain_tuple_new _]
  have q1 := sub_tuple_self
  have q2 := init_tuple_lookup
  have q3 := madeHere_tuple
  have hT : s.TypeIs (.ref r) "dict_items" := hv.typeIs
  have hh1 : A.in1.handled = none := hh
  wp_walk using wpAny_typeOf hT, PySem.W.kdx_collect (A := A.in1) (knd := knd) (kvs := kvs) (ep := ep) hh1 hv hm hn
  intro h' tk ts kp hl hG
  show wpAny _ _ (Builtin.Tuple.tupleExact (ts.map Value.ref).toArray >>= fun v => ret v) _ _ _
  unfold Builtin.Tuple.tupleExact
  refine wpAny_bind (wpAny_newObj_type ?_ (by show (ts.map Value.ref).toArray.size ≤ sizeLine; rw [List.size_toArray, List.length_map, hl]; exact hn))
  exact wpAny_pure (h h' tk ts kp hl hG)
theorem call_tupItems {Q : Value → Shared → Prop} (hh : A.handled = none) (hv : s.heap.IsItemsView r d) (hm : s.heap.DictAt knd d kvs ep) (hn : kvs.length ≤ sizeLine)
    (h : ∀ (h' : Heap) (tk : Nat) (ts : List Addr), (∀ b o, s.heap.get? b = some o → h'.get? b = some o) → ts.length = kvs.length → PySem.W.KdxG knd kvs s.heap.objs.size h' ts →
      Q (.ref h'.objs.size) { s with heap := h'.push { cls := .type "tuple", data := .seq (ts.map Value.ref).toArray }, toks := tk }) :
    wpAny (model prog w) A (call (.type "tuple") [.ref r]) Q E s := by
  refine callType_codes (Q₁ := fun obj t => t.TypeIs obj "tuple" ∧ Q obj t) F.called_tuple (F.typeCall_tuple_1 _) F.entry_object_init
    (new_tupItems (A := A.in1) hh hv hm hn fun h' tk ts a b c => ⟨⟨_, Heap.get?_push_size _ rfl, rfl⟩, h h' tk ts a b c⟩) fun obj t ht => ?_
  exact ⟨ht.1, F.args_object_init_2 obj _, object_init_meets F.called_tuple.init.lookup F.called_tuple.made (by decide) prog w A.in1 _ t ⟨ht.1, rfl, ht.2⟩⟩
end
section
open L2
/-- new pairs -/
theorem pairs_only {X : Cx} {pins : List (Addr × Obj)} {σ : L2.St} {H : Hp} {s : Shared} {h' : Heap} {tk : Nat} {qs : List (V × V)} {ts : List Addr} (I : Inv X pins σ H s) (k : ∀ b o, s.heap.get? b = some o → h'.get? b = some o)
    (nd : ts.Nodup) (lo : ∀ t ∈ ts, s.heap.objs.size ≤ t) (len : ts.length = qs.length) (at_ : ∀ (j : Nat) (t : Addr) (q : V × V), ts[j]? = some t → qs[j]? = some q → ∃ x y, RelV q.1 x ∧ RelV q.2 y ∧ IsTup h' t #[x, y]) :
    ∃ H' : Hp, (∀ b o, H b = some o → H' b = some o) ∧ (∀ (j : Nat) (t : Addr) (q : V × V), ts[j]? = some t → qs[j]? = some q → H' t = some (.tup [q.1, q.2])) ∧ (∀ b, b ∉ ts → H' b = H b) ∧ Inv X pins σ H' { s with heap := h', toks := tk } := by
  have fresh : ∀ t ∈ ts, H t = none := fun t ht => I.hok.fresh (lo t ht)
  have kp : ∀ b u, H b = some u → layP H ts qs b = some u := fun b u e => by
    rw [layP_off fun z => by rw [fresh b z] at e; cases e]
    exact e
  refine ⟨layP H ts qs, kp, fun j t q e1 e2 => layP_at nd e1 e2, fun b hb => layP_off hb, ?_⟩
  refine I.call' (ch := []) rfl ⟨fun b o q _ _ _ => k b o q, fun b o q _ _ _ => ⟨o.slots, k b o q⟩, fun b o q n _ => ?_, fun b o q _ => ⟨o, k b o q⟩, fun b xs q => kp b _ q, fun b o u q => kp b _ q, fun b ps q => ⟨#[], by rw [kp b _ q] <;> simp⟩⟩ (fun b u q => ?_) I.bare fun b z => by simp at z
  · rw [layP_off fun z => absurd (Heap.lt_size q) (Nat.not_lt.mpr (lo b z))]
    exact n
  · by_cases hb : b ∈ ts
    · obtain ⟨j, e1⟩ := List.getElem?_of_mem hb
      have hj : j < qs.length := by
        have := (List.getElem?_eq_some_iff.mp e1).1
        omega
      have e2 : qs[j]? = some qs[j] := List.getElem?_eq_getElem hj
      rw [layP_at nd e1 e2] at q
      cases q
      obtain ⟨x, y, r1, r2, p⟩ := at_ j b _ e1 e2
      exact ⟨by show 2 ≤ sizeLine; decide, [x, y], .cons r1 (.cons r2 .nil), p⟩
    · rw [layP_off hb] at q
      exact (I.hok b u q).stay (fun d v _ y => k d v y) (fun d y => kp d _ y) fun d xs y => kp d _ y
/-- tuple(d.items()), d a dict: a new tuple of new pairs -/
def rItemsT : V → Hp → VK → Prop := fun x H Q => ∃ (d : Addr) (kvs : List (Key × V)), x = .ref d ∧ H d = some (.dK kvs) ∧
  ∀ (H1 : Hp) (p : Addr) (ts : List Addr), (∀ b o, H b = some o → H1 b = some o) → ts.length = kvs.length → (∀ (j : Nat) (t : Addr) (q : Key × V), ts[j]? = some t → kvs[j]? = some q → H1 t = some (.tup [kV q.1, q.2])) → H1 p = none → Q (.ref p) (upd H1 p (.tup (ts.map V.ref)))
def tTupItems (te : TE) : TE := fun σ H Q => te σ H fun x H1 => rItemsT x H1 Q
theorem pe_tupItems {X : Cx} {e : Expr} {te : TE} {p apos cpos pos : Pos} (hc : X.calm = true) (he : PE X e te) (hg : Gl X "tuple") (hm : X.mg "tuple" = none) (hbase : attributeBase e "items" X.env (eval e X.env) = eval e X.env := by rfl) (hline : (apos.endLine == cpos.line) = true := by rfl)
    (hs : starEach [.Call (.Attribute e "items" apos) [] [] cpos] X.env = (false, eval (.Call (.Attribute e "items" apos) [] [] cpos) X.env) :: starEach [] X.env := by rfl) :
    PE X (.Call (.Name "tuple" p) [.Call (.Attribute e "items" apos) [] [] cpos] [] pos) (tTupItems te) := by
  refine ⟨fun pins s σ H Q I hq => ?_⟩
  refine wpAny_Call_Name_kw (ld_blt I hg hm boot_tuple ?_)
  refine PyProof.Rows.callWith_type1 ?_ hs rfl
  rw [hs]
  show wpAny _ _ (spliced ((false, eval (.Call (.Attribute e "items" apos) [] [] cpos) X.env) :: backTo pos (starEach [] X.env))) _ _ s
  refine Calls.spliced_cons ?_
  refine wpAny_Call_method (T := "dict") (id := "dict.items") hbase rfl hline F.plainAttrs_dict F.slot_dict_items F.type_dict_items (thn (he.run pins s σ H _ I hq) fun u s1 ⟨x, H1, I1, rx, d, kvs, ex, hd, q⟩ => ?_)
  subst ex
  obtain rfl : u = Value.ref d := rx
  obtain ⟨hz, hs0, vs, kv, hdo⟩ := I1.hok d _ hd
  obtain ⟨ep, hat⟩ := hdo.dictAt
  have lk : kvs.length = vs.length := Paired.length kv
  refine ⟨hdo.typeIs, hdo.mapOf.noDict, ?_⟩
  show wpAny _ _ (callWith cpos (.builtin "dict.items") [.ref d] [] []) _ X.xe s1
  refine method_meetsIn F.slot_dict_items F.entry_dict_items rfl (PySem.evalArgs_none ⟨rfl, hdo.typeIs, F.args_dict_items_1 _, _, meets_dict_items (mixKind X.prog X.w) d hs0, ⟨vs, hdo⟩, ?_⟩)
  refine Calls.spliced_nil ?_
  refine call_tupItems (knd := mixKind X.prog X.w) (kvs := vs) (ep := ep) (I1.ok.hd hc) ⟨_, Heap.get?_push_size _ rfl, rfl, rfl⟩ (hat.push _) (by omega) fun h' tk ts kp hl hG => ?_
  have kp1 : ∀ b o, s1.heap.get? b = some o → h'.get? b = some o := fun b o e => kp b o (Heap.get?_push_of_some _ e)
  have nd : ts.Nodup := List.Pairwise.imp (fun {a b} (h : a < b) => Nat.ne_of_lt h) hG.rise
  have lo : ∀ t ∈ ts, s1.heap.objs.size ≤ t := fun t ht => Nat.le_of_lt (Nat.lt_trans (by rw [Heap.size_push]; exact Nat.lt_succ_self _) (hG.above t ht))
  obtain ⟨H', k1, k2, k3, J⟩ := pairs_only (tk := tk) (qs := kvs.map fun q => (kV q.1, q.2)) I1 kp1 nd lo (by rw [List.length_map]; omega) fun j t q e1 e2 => by
    rw [List.getElem?_map] at e2
    obtain ⟨kq, e3, rfl⟩ := Option.map_eq_some_iff.mp e2
    obtain ⟨key, k', x, f1, f2, f3⟩ := hG.pairs j t e1
    obtain ⟨qv, g1, g2, g3⟩ := LiI.paired_get kv e3
    rw [f1] at g1
    cases g1
    have rk : RelV (kV kq.1) key := by
      rw [g2]
      exact relV_key (show keyIs k' key = true from f2)
    exact ⟨key, x, rk, g3, ⟨_, f3, rfl, _, rfl⟩⟩
  have fr : H' h'.objs.size = none := J.hok.fresh (Nat.le_refl _)
  refine ⟨.ref h'.objs.size, upd H' h'.objs.size (.tup (ts.map V.ref)), J.laid (t' := tk) (fun c o e => Heap.get?_push_of_some _ e) (Nat.le_refl _) (show ObjOk X.prog X.w _ _ _ (.tup (ts.map V.ref)) from ⟨by rw [List.length_map]; omega, ts.map Value.ref, LiI.vals_refs ts, IsTup.new _ _⟩), rfl, ?_⟩
  exact q H' _ ts k1 (by omega) (fun j t q e1 e2 => k2 j t (kV q.1, q.2) e1 (by rw [List.getElem?_map, e2] <;> rfl)) fr
end
end LM
set_option Elab.async false
set_option linter.all false
set_option maxRecDepth 100000
set_option maxHeartbeats 4000000
namespace LM
open PySem PySem.Spec PyProof.Rows L2
/-! ### tuple * 1 is the tuple -/
theorem tup_once (l : Addr) (items : Array Value) (n : Nat) (dd : Option Addr) (sl : Array (Option Value)) (u : Tok) :
    Meets (Builtin.«tuple.__mul__» ⟨[.ref l, .int 1 u], []⟩) (fun _ R s => s.heap.get? l = some { cls := .type "tuple", dict := dd, data := .seq items n, slots := sl } ∧ R (.ok (.ret (.ref l))) s) :=
  .of_wp fun prog w A R s h => by
    obtain ⟨hp, g, d, tk, os⟩ := s
    obtain ⟨hl, h⟩ := h
    have f1 := AutoSeq1.idx_int
    wp_walk using wpAny_loadPart' hl
    exact ⟨_, rfl, h⟩
def rRepA (K : PySem.W.Frag) : R2 := fun x y H Q => ∃ (l : Addr) (k : Int) (xs : List V), x = .ref l ∧ y = .int k ∧ SqT K H l xs ∧ xs ≠ [] ∧ 1 ≤ k ∧ k ≤ 1000 ∧ xs.length ≤ 1000 ∧
  (k = 1 → Q (.ref l) H) ∧ (2 ≤ k → ∀ p, H p = none → Q (.ref p) (upd H p (.tup (List.replicate k.toNat xs).flatten)))
theorem op_repA {X : Cx} : OpR X (binaryOp .Mult) (rRepA X.K) := by
  intro pins s σ H x y v u Q I rx ry h
  obtain ⟨l, k, xs, rfl, rfl, hT, hne, h1, h2, hz, q1, q2⟩ := h
  by_cases hk : k = 1
  · subst hk
    cases rx
    obtain ⟨t, rfl⟩ := ry
    obtain ⟨its, r, ⟨⟨cls, dd, data, sl⟩, ho, hc, n, hd⟩, hs⟩ := I.tuple hT
    simp only at hc hd
    subst hc hd
    refine wpAny_binaryOp_repeat_ref (T := "tuple") (U := "int") (by decide) ⟨_, ho, rfl⟩ (fun s' => typeIs_int s' 1 t) noFill_tuple_mul F.fills_int_mul F.slot_int_rmul repeat_tuple F.slot_int_index.lookup
      (call_meets F.slot_int_rmul (typeIs_int s 1 t) F.entry_int_rmul (F.args_int_rmul_2 _ _) (int_rmul_tuple 1 t l its.toArray n dd sl) ⟨ho, rfl, ⟨_, ho, rfl⟩, call_meets F.slot_tuple_mul ⟨_, ho, rfl⟩ F.entry_tuple_mul (F.args_tuple_mul_2 _ _) (tup_once l its.toArray n dd sl t) ⟨ho, ?_⟩⟩)
    exact ⟨.ref l, H, I, rfl, q1 rfl⟩
  · exact op_repT pins s σ H _ _ v u Q I rx ry ⟨l, k, xs, rfl, rfl, hT, hne, by omega, h2, hz, q2 (by omega)⟩
/-! ### d[key], d a written dict -/
theorem ix_kd {X : Cx} {d : Addr} {es : Array DictEntry} {n : Nat} (D : KDict X.K X.w d es n) : IxR X (fun x y H Q => ∃ (z : Str) (u0 : Value) (v0 : V), x = .ref d ∧ y = .str z ∧ PySem.W.nsIn X.K d z = some (some u0) ∧ RelV v0 u0 ∧ Q v0 H) := by
  intro value slice pins s σ H x y v u Q I rx ry h hs
  obtain ⟨z, u0, v0, rfl, rfl, e, r, q⟩ := h
  cases rx
  obtain ⟨t, rfl⟩ := ry
  exact tail_any (kd_type D I) PySem.F.slot_dict_getitem.lookup (wpAny_getItem_of (PySem.strKind_is X.prog X.w z t) (PySem.W.mapOf_K (prog := X.prog) I.kIn D.at_ D.lit) (PySem.W.find_K D.at_ e) ⟨v0, H, I.tok _, r, q⟩) hs
/-- a written dict of numbers by words: got k, the number at k or none -/
structure Wd (K : PySem.W.Frag) (w : World) (d : Addr) (got : Str → Option Nat) : Prop where
  kd : ∃ es n, KDict K w d es n
  yes : ∀ z m, got z = some m → ∃ u, PySem.W.nsIn K d z = some (some u) ∧ RelV (.int (m : Int)) u
  no : ∀ z, got z = none → PySem.W.nsIn K d z = some none
def rWdIx (d : Addr) (got : Str → Option Nat) : R2 := fun x y H Q => ∃ (z : Str) (m : Nat), x = .ref d ∧ y = .str z ∧ got z = some m ∧ Q (.int (m : Int)) H
def rWdNot (d : Addr) (got : Str → Option Nat) : R2 := fun x y H Q => ∃ z : Str, x = .str z ∧ y = .ref d ∧ Q (.bl (got z).isNone) H
theorem ix_wd {X : Cx} {d : Addr} {got : Str → Option Nat} (D : Wd X.K X.w d got) : IxR X (rWdIx d got) := by
  obtain ⟨es, n, D1⟩ := D.kd
  intro value slice pins s σ H x y v u Q I rx ry h hs
  obtain ⟨z, m, rfl, rfl, e, q⟩ := h
  obtain ⟨u0, e1, r1⟩ := D.yes z m e
  exact ix_kd D1 value slice pins s σ H _ _ v u Q I rx ry ⟨z, u0, _, rfl, rfl, e1, r1, q⟩ hs
theorem op_wdNot {X : Cx} {d : Addr} {got : Str → Option Nat} (D : Wd X.K X.w d got) : OpR X (compareOp .NotIn) (rWdNot d got) := by
  obtain ⟨es, n, D1⟩ := D.kd
  intro pins s σ H x y v u Q I rx ry h
  obtain ⟨z, rfl, rfl, q⟩ := h
  cases e : got z with
  | none =>
    rw [e] at q
    exact op_notIn_kd D1 pins s σ H _ _ v u Q I rx ry ⟨z, none, rfl, rfl, D.no z e, q⟩
  | some m =>
    rw [e] at q
    obtain ⟨u0, e1, r1⟩ := D.yes z m e
    exact op_notIn_kd D1 pins s σ H _ _ v u Q I rx ry ⟨z, some u0, rfl, rfl, e1, q⟩
/-! ### try: s; return e  finally: suite -/
/-- tb: the statement ahead, te: the value, tf: the suite behind the value, tfs: the suite with an error in flight -/
def tTwoFin (tb : WX → TS) (te : WX → TE) (tf tfs : TS) (Wout : WX) : TS := fun D σ H =>
  tb (wFin tfs Wout) { nx := fun σ1 H1 => te (wFin tfs Wout) σ1 H1 fun v H2 => tf { D with nx := fun _ H3 => D.rt v H3 } σ1 H2, rt := fun _ _ => False } σ H
theorem ps_twoFin {X : Cx} {b : Stmt} {e : Expr} {f₀ : Stmt} {fs : List Stmt} {rp pos : Pos} {tb : WX → TS} {te : WX → TE} {tf tfs : TS} {Wout : WX} (hs : X.stack = X.env :: X.outer) (hf : X.env.frame = some X.env.locals) (hex : X.ex = []) (tk : Takes X Wout)
    (hb : ∀ (W : WX) (pn : List (Addr × Obj)) (xe : Value → Shared → Prop), Takes (X.tr pn xe) W → PassesOwn (model X.prog X.w) X.A X.env xe → PS (X.tr pn xe) b (tb W))
    (he : ∀ (W : WX) (pn : List (Addr × Obj)) (xe : Value → Shared → Prop), Takes (X.tr pn xe) W → PassesOwn (model X.prog X.w) X.A X.env xe → PE (X.tr pn xe) e (te W))
    (hfin : PSs X.nox (f₀ :: fs) tf) (hsu : ∀ (a : Addr) (pn : List (Addr × Obj)), PSs (X.suite a pn) (f₀ :: fs) tfs) : PS X (.Try [b, .Return (some e) rp] [] [] (f₀ :: fs) pos) (tTwoFin tb te tf tfs Wout) := by
  refine ⟨fun pins s σ H D I h => ?_⟩
  have ok := I.ok
  have meet : ∀ u s', XE (X.tr (X.pn ++ pins) (fun x s₁ => wpAny (model X.prog X.w) X.A (noteFrame x X.env) (fun _ s₂ => FinallyRaised X.prog X.w X.A X.xe X.env (f₀ :: fs) (SP X pins D) x s₂) (FinallyRaised X.prog X.w X.A X.xe X.env (f₀ :: fs) (SP X pins D)) s₁)) (wFin tfs Wout) u s' → _ := fun u s' xx => fin_exc hs hf hex ok tk hsu xx
  refine wpAny_Try_finally (wpAny_execs_cons ?_)
  refine wpAny_mono ((hb (wFin tfs Wout) (X.pn ++ pins) _ (fun u s' xx => meet u s' xx) PassesOwn.looking).run [] s σ H _ (I.toTry _) h) (fun g s1 z => ?_) (fun x s1 hx => hx)
  cases g with
  | ret u =>
    obtain ⟨_, _, _, _, _, q⟩ := z
    exact False.elim q
  | brk =>
    obtain ⟨_, _, _, q⟩ := z
    exact False.elim q
  | cont =>
    obtain ⟨_, _, _, q⟩ := z
    exact False.elim q
  | next =>
    obtain ⟨σ1, H1, J1, q1⟩ := z
    refine wpAny_execs_cons (wpAny_Return_some ?_)
    refine wpAny_mono ((he (wFin tfs Wout) (X.pn ++ pins) _ (fun u s' xx => meet u s' xx) PassesOwn.looking).run [] s1 σ1 H1 _ J1 q1) (fun u s2 z => ?_) (fun x s2 hx => hx)
    obtain ⟨v, H2, I2, r2, q2⟩ := z
    exact fin_ret hfin (I2.ofTry ok) r2 q2
/-! ### list.count of a truth value in a list of truth values -/
def isB (c : Bool) (v : Value) : Bool := match v with
  | .bool b => b == c
  | _ => false
theorem bl_vals : ∀ {bs : List Bool} {us : List Value}, Vals (bs.map V.bl) us → us = bs.map Value.bool
  | [], us, h => by cases h; rfl
  | b :: bs, us, h => by
    cases h with
    | cons h1 h2 =>
      cases h1
      rw [bl_vals h2]
      rfl
theorem cnt_bl (c : Bool) : ∀ bs : List Bool, (bs.map Value.bool).countP (isB c) = bs.count c
  | [] => rfl
  | b :: bs => by
    rw [List.map_cons, List.countP_cons, List.count_cons, cnt_bl c bs]
    rfl
def rCntB (K : PySem.W.Frag) : V → List V → Hp → VK → Prop := fun x xs H Q => ∃ (p : Addr) (bs : List Bool) (c : Bool), x = .ref p ∧ xs = [.bl c] ∧ SqL K H p (bs.map V.bl) ∧ Q (.int (bs.count c : Nat)) H
theorem mt_cntB {X : Cx} : MtR X "list.count" (rCntB X.K) := by
  intro pins s σ H x xs v us Q I rx rxs h
  obtain ⟨p, bs, c, rfl, rfl, hs, q⟩ := h
  cases rx
  obtain ⟨u, rfl, ru⟩ := rxs.one
  cases ru
  obtain ⟨its, rv, ⟨⟨cls, dd, data, sl⟩, n, ho, hc, hdn, hd⟩, hlen⟩ := I.list hs
  simp only at hc hd
  subst hc hd
  have hi := bl_vals rv
  subst hi
  refine call_meets PySem.F.slot_list_count ⟨_, ho, rfl⟩ PySem.F.entry_list_count (PySem.F.args_list_count_2 _ _)
    (SeqAt.list_countAt p (bs.map Value.bool).toArray n dd sl (.bool c) (isB c)) ⟨ho, fun y hy => ?_, ?_⟩
  · have hy' : y ∈ bs.map Value.bool := by simpa using hy
    obtain ⟨b, _, rfl⟩ := List.mem_map.mp hy'
    exact SeqAt.EqAt.bool_bool b c
  · refine ⟨.int (bs.count c : Nat), H, I.tok _, ⟨s.toks, ?_⟩, q⟩
    show Value.int (((bs.map Value.bool).toArray.toList.countP (isB c) : Nat) : Int) s.toks = _
    rw [show (bs.map Value.bool).toArray.toList = bs.map Value.bool from rfl, cnt_bl]
/-! ### x is True, whatever x is -/
def Dt.isB : Dt → Bool → Bool
  | .bl a, b => decide (a = b)
  | _, _ => false
def rIsA (K : PySem.W.Frag) : R2 := fun x y H Q => ∃ (b : Bool) (d : Dt), y = .bl b ∧ DR K H x d ∧ Q (.bl (d.isB b)) H
theorem op_isA {X : Cx} : OpR X (compareOp .Is) (rIsA X.K) := by
  intro pins s σ H x y v u Q I rx ry h
  obtain ⟨b, d, rfl, rd, q⟩ := h
  cases (show u = Value.bool b from ry)
  have other : ∀ (z : Value), PySem.plainIs z (.bool b) = true → z ≠ .bool b → Q (.bl false) H → wpAny (model X.prog X.w) X.A (compareOp .Is z (.bool b)) (EP X pins σ Q) X.xe s := fun z hp hne q =>
    wpAny_is_other hp hne ⟨.bl false, H, I, rfl, q⟩
  cases rd with
  | bl a => exact op_isBl pins s σ H (.bl a) (.bl b) _ _ Q I rx ry ⟨a, b, rfl, rfl, q⟩
  | non => cases rx; exact other _ rfl (by simp) q
  | int i => obtain ⟨t, rfl⟩ := rx; exact other _ rfl (by simp) q
  | str i => obtain ⟨t, rfl⟩ := rx; exact other _ rfl (by simp) q
  | tup h hs => cases rx; exact other _ rfl (by simp) q
/-! ### a walk over zip of two tuples -/
theorem walk_zipT {K : PySem.W.Frag} {a b : Addr} {xs ys : List V} {n : Nat} (hn : n = min xs.length ys.length) : Walk (RZ.ItzT K a b) n (fun H => SqT K H a xs ∧ SqT K H b ys) (YPair (fun i => xs[i]?) (fun i => ys[i]?)) := by
  subst hn
  refine ⟨fun i G hi g => ?_, fun G g => ⟨xs, ys, g.1, g.2, by omega⟩, fun i G v G' _ g y => ?_⟩
  · exact ⟨xs, ys, xs[i]'(by omega), ys[i]'(by omega), g.1, g.2, List.getElem?_eq_getElem _, List.getElem?_eq_getElem _⟩
  · obtain ⟨T, x, z, e1, e2, e3, e4, e5⟩ := y
    exact ⟨T, x, z, e1, e2, e3, e4 xs g.1, e5 ys g.2⟩
end LM
set_option Elab.async false
set_option linter.all false
set_option maxRecDepth 100000
set_option maxHeartbeats 4000000
namespace LM
open PySem PySem.Spec PyProof.Rows L2
/-! ### B.__init__(self, ..), B an own class over ValueError -/
theorem pe_baseInit {X : Cx} {e : Expr} {es : List Expr} {ta : TA} {B : Str} {CB : Addr} {mc : Value} {p1 p2 pos : Pos} {pl : Sem Bool} (hg : Gl X B) (hm : X.mg B = some (.ref CB)) (r : ClX.CRead X.K CB mc) (f : PySem.W.findCls X.K (.ref CB) mc "__init__" = some (.val (.builtin "ValueError.__init__"))) (ha : PA X (e :: es) ta) (hdb : (B == ("__debug__" : Str)) = false := by decide)
    (hc : eval (.Call (.Attribute (.Name B p1) "__init__" p2) (e :: es) [] pos) X.env = (do
      let ov ← eval (.Name B p1) X.env
      standAt p2.atName
      let (f, first) ← holding [ov] (getMethod ov "__init__" pl)
      callWith pos f first (backTo pos (starEach (e :: es) X.env)) (backToKw pos (keywordEach [] X.env))) := by rfl)
    (he : starEach (e :: es) X.env = (false, eval e X.env) :: starEach es X.env := by rfl) (hpl : (backTo pos (starEach es X.env)).any (·.1) = false := by rfl) :
    PE X (.Call (.Attribute (.Name B p1) "__init__" p2) (e :: es) [] pos) (tVeI X.K ta) := by
  refine ⟨fun pins s σ H Q I h => ?_⟩
  refine PySem.W.methodCall_KW (ld_glob I hg hm ?_ hdb) hc
  refine PySem.W.method_cls I.kIn r.ga (PySem.W.cls_value I.kIn r.rd f (by decide) ?_)
  show wpAny _ _ (callWith pos (Value.builtin "ValueError.__init__") [] (backTo pos (starEach (e :: es) X.env)) []) _ _ _
  refine PyProof.Rows.callWith_method1 (thn (ha.run pos pins _ σ H _ (I.tok _) h) fun us s1 ⟨vs, H1, I1, r1, a, C, ws, ev, hl, T, ea, q⟩ => ?_) he hpl
  subst ev
  cases r1 with
  | @cons _ u0 _ ur ra rw' =>
    obtain rfl : u0 = Value.ref a := ra
    exact oinit_ok T I1 ea (by rw [← Paired.length rw', sizeLine_eq]; omega) fun s' J => ⟨.non, H1, J, rfl, q⟩
end LM
set_option Elab.async false
set_option linter.all false
set_option maxRecDepth 100000
set_option maxHeartbeats 4000000
namespace LM
open PySem PySem.Spec PyProof.Rows L2
/-! ### kinds and programs -/
inductive Kd where
  | num | truth
  deriving DecidableEq
def Kd.s : Kd → Str
  | .num => "num"
  | .truth => "truth"
theorem s_num : ¬ (("truth" : Str) = "num") := by decide +kernel
theorem s_tru : ¬ (("num" : Str) = "truth") := by decide +kernel
theorem Kd.s_inj : ∀ {a b : Kd}, a.s = b.s → a = b
  | .num, .num, _ => rfl
  | .truth, .truth, _ => rfl
  | .num, .truth, h => (s_tru h).elim
  | .truth, .num, h => (s_num h).elim
theorem Kd.eq_num {k : Kd} (h : V.str k.s = V.str "num") : k = .num := Kd.s_inj (by injection h)
theorem Kd.eq_tru {k : Kd} (h : V.str k.s = V.str "truth") : k = .truth := Kd.s_inj (by injection h)
def ksD (ks : List Kd) : Dt := .tup (ks.map fun k => .str k.s)
inductive Bop where
  | least | most | atmost | both | either
def Bop.s : Bop → Str
  | .least => "least" | .most => "most" | .atmost => "atmost" | .both => "both" | .either => "either"
def Bop.ins : Bop → Kd
  | .least => .num | .most => .num | .atmost => .num | .both => .truth | .either => .truth
def Bop.out : Bop → Kd
  | .least => .num | .most => .num | .atmost => .truth | .both => .truth | .either => .truth
inductive Pg where
  | inp (k : Nat) | num (c : Int) | yes | no | plus (c : Int) (a : Pg) | bin (o : Bop) (a b : Pg) | not (a : Pg) | ite (p a b : Pg)
def Pg.dt : Pg → Dt
  | .inp k => .tup [.str "in", .int (k : Int)]
  | .num c => .tup [.str "num", .int c]
  | .yes => .tup [.str "yes"]
  | .no => .tup [.str "no"]
  | .plus c a => .tup [.str "plus", .int c, a.dt]
  | .bin o a b => .tup [.str o.s, a.dt, b.dt]
  | .not a => .tup [.str "not", a.dt]
  | .ite p a b => .tup [.str "if", p.dt, a.dt, b.dt]
/-- of a kind, by the inputs' kinds -/
inductive Wt (ks : List Kd) : Pg → Kd → Prop
  | inp {k : Nat} {t : Kd} : ks[k]? = some t → Wt ks (.inp k) t
  | num (c : Int) : Wt ks (.num c) .num
  | yes : Wt ks .yes .truth
  | no : Wt ks .no .truth
  | plus (c : Int) {a : Pg} : Wt ks a .num → Wt ks (.plus c a) .num
  | bin (o : Bop) {a b : Pg} : Wt ks a o.ins → Wt ks b o.ins → Wt ks (.bin o a b) o.out
  | not {a : Pg} : Wt ks a .truth → Wt ks (.not a) .truth
  | ite {p a b : Pg} {t : Kd} : Wt ks p .truth → Wt ks a t → Wt ks b t → Wt ks (.ite p a b) t
/-- its knots -/
def Pg.size : Pg → Nat
  | .plus _ a => a.size + 1
  | .bin _ a b => a.size + b.size + 1
  | .not a => a.size + 1
  | .ite p a b => p.size + a.size + b.size + 1
  | _ => 1
def Pg.depth : Pg → Nat
  | .plus _ a => a.depth + 1
  | .bin _ a b => max a.depth b.depth + 1
  | .not a => a.depth + 1
  | .ite p a b => max p.depth (max a.depth b.depth) + 1
  | _ => 1
theorem Pg.size_pos : ∀ p : Pg, 1 ≤ p.size
  | .inp _ => Nat.le_refl _ | .num _ => Nat.le_refl _ | .yes => Nat.le_refl _ | .no => Nat.le_refl _
  | .plus _ a => Nat.le_add_left _ _ | .bin _ a b => Nat.le_add_left _ _ | .not a => Nat.le_add_left _ _ | .ite p a b => Nat.le_add_left _ _
/-- a small program of a kind -/
structure Sm (ks : List Kd) (t : Kd) (n m : Nat) (p : Pg) : Prop where
  wt : Wt ks p t
  sz : p.size ≤ n
  dp : p.depth ≤ m
/-! ### what a word makes -/
inductive Shp where
  | plus | bin (o : Bop) | not | ite (t : Kd)
def Shp.w : Shp → Str
  | .plus => "plus" | .bin o => o.s | .not => "not" | .ite _ => "if"
def Shp.ps : Shp → List Kd
  | .plus => [.num] | .bin o => [o.ins, o.ins] | .not => [.truth] | .ite t => [.truth, t, t]
def Shp.kd : Shp → Kd
  | .plus => .num | .bin o => o.out | .not => .truth | .ite t => t
def Shp.sort : Shp → Str
  | .plus => "any" | .bin .least => "cmp" | .bin .most => "cmp" | .bin .atmost => "cmp" | .bin _ => "any" | .not => "any" | .ite _ => "if"
def Shp.isPlus : Shp → Bool
  | .plus => true | _ => false
theorem Shp.plus_iff : ∀ {s : Shp}, (decide (V.str s.w = V.str "plus")) = s.isPlus
  | .plus => by decide +kernel
  | .bin .least => by decide +kernel
  | .bin .most => by decide +kernel
  | .bin .atmost => by decide +kernel
  | .bin .both => by decide +kernel
  | .bin .either => by decide +kernel
  | .not => by decide +kernel
  | .ite t => by cases t <;> decide +kernel
/-- the items ahead of the parts -/
def Shp.hd (s : Shp) (c : Int) : List Dt := .str s.w :: (if s.isPlus = true then [.int c] else [])
theorem shp_made {ks : List Kd} {m n : Nat} : ∀ (s : Shp) (c : Int) (ps : List Pg), Paired (fun p t => Wt ks p t ∧ p.depth ≤ m) ps s.ps → (ps.map Pg.size).sum ≤ n →
    ∃ p : Pg, p.dt = .tup (s.hd c ++ ps.map Pg.dt) ∧ Sm ks s.kd (n + 1) (m + 1) p := by
  intro s c ps h hn
  cases s with
  | plus =>
    cases h with
    | cons h1 h2 => cases h2; exact ⟨.plus c _, rfl, .plus c h1.1, (by simpa [Pg.size] using hn), (by simpa [Pg.depth] using h1.2)⟩
  | not =>
    cases h with
    | cons h1 h2 => cases h2; exact ⟨.not _, rfl, .not h1.1, (by simpa [Pg.size] using hn), (by simpa [Pg.depth] using h1.2)⟩
  | bin o =>
    cases h with
    | cons h1 h2 =>
      cases h2 with
      | cons h2 h3 =>
        cases h3
        exact ⟨.bin o _ _, rfl, .bin o h1.1 h2.1, (by simp [Pg.size] at hn ⊢; omega), (by have := h1.2; have := h2.2; simp only [Pg.depth]; omega)⟩
  | ite t =>
    cases h with
    | cons h1 h2 =>
      cases h2 with
      | cons h2 h3 =>
        cases h3 with
        | cons h3 h4 =>
          cases h4
          exact ⟨.ite _ _ _, rfl, .ite h1.1 h2.1 h3.1, (by simp [Pg.size] at hn ⊢; omega), (by have := h1.2; have := h2.2; have := h3.2; simp only [Pg.depth]; omega)⟩
end LM
set_option Elab.async false
set_option linter.all false
set_option maxRecDepth 100000
set_option maxHeartbeats 4000000
namespace LM
open PySem PySem.Spec PyProof.Rows L2
/-! ### what built-in operations do on data -/
def Dt.isTup : Dt → Bool
  | .tup _ => true | _ => false
def Dt.isBl : Dt → Bool
  | .bl _ => true | _ => false
def Dt.isInt : Dt → Bool
  | .bl _ => true | .int _ => true | _ => false
def Dt.isStr : Dt → Bool
  | .str _ => true | _ => false
def Dt.ty : Dt → String
  | .non => "NoneType" | .bl _ => "bool" | .int _ => "int" | .str _ => "str" | .tup _ => "tuple"
section
variable {K : PySem.W.Frag} {H : Hp} {v : V} {d : Dt} {Q : VK}
theorem DR.tyx (h : DR K H v d) : TyX K H v (.type d.ty) := by
  cases h with
  | non => exact .base .non
  | bl b => exact .base (.bl b)
  | int i => exact .base (.int i)
  | str x => exact .base (.str x)
  | tup h hs =>
    rcases h with (h | ⟨o, h⟩) | ⟨o, its, n, h, hc, _⟩
    · exact .base (.tup h)
    · exact .fTuple h
    · exact .kTuple h hc
theorem isi_of {T : String} {b : Bool} (h : DR K H v d) (e : kitB d.ty T = some b) (q : Q (.bl b) H) : rIsi K [v, .ty T] H Q := ⟨v, _, _, _, b, rfl, .ty T, h.tyx, kit_ty e, q⟩
theorem isi_tuple (h : DR K H v d) (q : Q (.bl d.isTup) H) : rIsi K [v, .ty "tuple"] H Q := isi_of h (by cases d <;> (dsimp only [Dt.ty, Dt.isTup, Dt.isBl, Dt.isInt, Dt.isStr]; decide +kernel)) q
theorem isi_bool (h : DR K H v d) (q : Q (.bl d.isBl) H) : rIsi K [v, .ty "bool"] H Q := isi_of h (by cases d <;> (dsimp only [Dt.ty, Dt.isTup, Dt.isBl, Dt.isInt, Dt.isStr]; decide +kernel)) q
theorem isi_int (h : DR K H v d) (q : Q (.bl d.isInt) H) : rIsi K [v, .ty "int"] H Q := isi_of h (by cases d <;> (dsimp only [Dt.ty, Dt.isTup, Dt.isBl, Dt.isInt, Dt.isStr]; decide +kernel)) q
theorem isi_str (h : DR K H v d) (q : Q (.bl d.isStr) H) : rIsi K [v, .ty "str"] H Q := isi_of h (by cases d <;> (dsimp only [Dt.ty, Dt.isTup, Dt.isBl, Dt.isInt, Dt.isStr]; decide +kernel)) q
/-- an item of a tuple -/
theorem ix_dt {ds : List Dt} {n : Nat} (h : DR K H v (.tup ds)) (e : ds[n]? = some d) (q : ∀ x, DR K H x d → Q x H) : rIxT K v (.int (n : Int)) H Q := by
  obtain ⟨a, xs, rfl, s, r⟩ := h.tup_inv
  obtain ⟨x, hx, hr⟩ := r.get e
  exact ⟨a, xs, _, x, rfl, rfl, s, atI_nat hx, q x hr⟩
theorem len_dt {ds : List Dt} (h : DR K H v (.tup ds)) (q : Q (.int (ds.length : Int)) H) : rLenS K [v] H Q := by
  obtain ⟨a, xs, rfl, s, r⟩ := h.tup_inv
  refine ⟨a, xs, rfl, .inr s, ?_⟩
  rw [r.len]
  exact q
def cutD (ds : List Dt) (lo hi : Option Int) : List Dt := (ds.drop (HT.sIx ds.length 0 lo)).take (HT.sIx ds.length ds.length hi - HT.sIx ds.length 0 lo)
theorem sl_dt {ds : List Dt} {lo hi : Option Int} (h : DR K H v (.tup ds)) (q : ∀ x H', Ch [] H H' → DR K H' x (.tup (cutD ds lo hi)) → Q x H') : rSlA K v lo hi H Q := by
  obtain ⟨a, xs, rfl, s, r⟩ := h.tup_inv
  have e := r.len
  refine ⟨a, xs, rfl, s, fun ⟨h1, h2⟩ => ?_, fun _ p hp => ?_⟩
  · refine q _ _ .refl ?_
    have : cutD ds lo hi = ds := by
      unfold cutD
      rw [← e, h1, h2, List.drop_zero, Nat.sub_zero, e, List.take_length]
    rw [this]
    exact .tup s r
  · refine q _ _ (.new hp) (.new ?_ hp)
    unfold cutV cutD
    rw [← e]
    exact (r.drop _).take _
theorem cat_dt {ds es : List Dt} {u : V} (h : DR K H v (.tup ds)) (g : DR K H u (.tup es)) (hl : ds.length + es.length ≤ 100000) (q : ∀ x H', Ch [] H H' → DR K H' x (.tup (ds ++ es)) → Q x H') : rCatA K v u H Q := by
  obtain ⟨a, xs, rfl, s, r⟩ := h.tup_inv
  obtain ⟨b, ys, rfl, s', r'⟩ := g.tup_inv
  refine ⟨a, b, xs, ys, rfl, rfl, s, s', by rw [r.len, r'.len]; exact Evl.sz_of hl, fun e => ?_, fun _ e => ?_, fun _ _ p hp => ?_⟩
  · subst e
    have : ds = [] := List.length_eq_zero_iff.mp r.len.symm
    subst this
    exact q _ _ .refl (.tup s' r')
  · subst e
    have : es = [] := List.length_eq_zero_iff.mp r'.len.symm
    subst this
    rw [List.append_nil] at q
    exact q _ _ .refl (.tup s r)
  · exact q _ _ (.new hp) (.new (r.app r') hp)
/-- a display of data -/
theorem tup_dt {xs : List V} {ds : List Dt} (r : DRs K H xs ds) (hl : xs.length ≤ 1000) (q : ∀ x H', Ch [] H H' → DR K H' x (.tup ds) → Q x H') : xs.length ≤ sizeLine ∧ ∀ p, H p = none → Q (.ref p) (upd H p (.tup xs)) :=
  ⟨Nat.le_of_lt (small1000 hl), fun p hp => q _ _ (.new hp) (.new r hp)⟩
end
/-! ### kinds of things -/
/-- whether a thing has a kind -/
def KdOf : Kd → Dt → Bool
  | .num, .int _ => true | .truth, .bl _ => true | _, _ => false
def AreOf (ks : List Kd) (ds : List Dt) : Prop := Paired (fun k d => KdOf k d = true) ks ds
theorem pair_len {α β : Type} {R : α → β → Prop} : ∀ {xs : List α} {ys : List β}, Paired R xs ys → xs.length = ys.length
  | _, _, .nil => rfl
  | _, _, .cons _ t => by rw [List.length_cons, List.length_cons, pair_len t]
theorem pair_at {α β : Type} {R : α → β → Prop} : ∀ {xs : List α} {ys : List β} {i : Nat} {x : α} {y : β}, Paired R xs ys → xs[i]? = some x → ys[i]? = some y → R x y
  | _, _, _, _, _, .nil, e, _ => by simp at e
  | _, _, 0, x, y, .cons h _, e, f => by
    simp at e f; subst e; subst f; exact h
  | _, _, i + 1, x, y, .cons _ t, e, f => pair_at (i := i) t (by simpa using e) (by simpa using f)
end LM
set_option Elab.async false
set_option linter.all false
set_option maxRecDepth 100000
set_option maxHeartbeats 4000000
namespace LM
open PySem PySem.Spec PyProof.Rows L2
/-! ### dicts whose keys are tuples of any data -/
mutual
def nk : Dt → NestedKey
  | .non => .none
  | .bl b => .num (if b = true then 1 else 0)
  | .int i => .num i
  | .str x => .text x
  | .tup ds => .tup (nks ds)
def nks : List Dt → List NestedKey
  | [] => []
  | d :: ds => nk d :: nks ds
end
section
variable {X : Cx} {pins : List (Addr × Obj)} {σ : L2.St} {H : Hp} {s : Shared}
mutual
theorem nk_is (I : Inv X pins σ H s) : ∀ {v : V} {d : Dt} {u : Value}, DR X.K H v d → RelV v u → NestedIs s.heap (nk d) u
  | _, _, u, .non, r => by cases r; exact .none
  | _, _, u, .bl b, r => by cases r; exact .bool rfl
  | _, _, u, .int i, r => by obtain ⟨t, rfl⟩ := r; exact .int i t
  | _, _, u, .str x, r => by obtain ⟨t, rfl⟩ := r; exact .text x t
  | _, _, u, .tup h hs, r => by
    cases r
    obtain ⟨its, rv, ⟨o, ho, hc, n, hd⟩, _⟩ := I.tuple h
    exact .tup ho hc hd (nks_is I hs rv)
theorem nks_is (I : Inv X pins σ H s) : ∀ {vs : List V} {ds : List Dt} {us : List Value}, DRs X.K H vs ds → Vals vs us → NestedAll s.heap (nks ds) us
  | _, _, us, .nil, r => by cases r; exact .nil
  | _, _, us, .cons h hs, r => by
    cases r with
    | cons r1 r2 => exact .cons (nk_is I h r1) (nks_is I hs r2)
end
end
abbrev Nent := NestedKey × Addr × V
def kdIs (P : Program) (w : World) (d : Addr) (xs : List Nent) (h : Heap) : Prop := ∃ ws : List (NestedKey × Addr × Value), Paired (fun (p : Nent) (q : NestedKey × Addr × Value) => p.1 = q.1 ∧ p.2.1 = q.2.1 ∧ RelV p.2.2 q.2.2) xs ws ∧
  ∃ o es ep, h.get? d = some o ∧ o.ExactDict ∧ o.data = .dict es ep ∧ es.toList = ws.map (entryOfKey (nestedKind P w)) ∧ (ws.map (·.1)).Nodup
/-- such a dict at d -/
def kdHO (P : Program) (w : World) (d : Addr) (xs : List Nent) : HO := .ext fun h => (d == sysModules) = false ∧ kdIs P w d xs h
theorem kd_ok {P : Program} {w : World} {H : Hp} {h : Heap} {d : Addr} {xs : List Nent} (hd : (d == sysModules) = false) (k : kdIs P w d xs h) : ObjOk P w H h d (kdHO P w d xs) := by
  obtain ⟨ws, p, o, es, ep, e, r⟩ := id k
  refine ⟨⟨hd, k⟩, ⟨o, e⟩, fun h1 h2 ⟨a, ws, p, o, es, ep, e, r⟩ kp => ⟨a, ws, p, o, es, ep, kp o e, r⟩⟩
/-- a dict of such keys at d, maybe new -/
def NAt (P : Program) (w : World) (H : Hp) (d : Addr) (xs : List Nent) : Prop := (xs = [] ∧ H d = some (.dK [])) ∨ H d = some (kdHO P w d xs)
theorem prd_snoc {α β : Type} {R : α → β → Prop} : ∀ {xs : List α} {ys : List β}, Paired R xs ys → ∀ {x : α} {y : β}, R x y → Paired R (xs ++ [x]) (ys ++ [y])
  | _, _, .nil, _, _, h => .cons h .nil
  | _, _, .cons a t, _, _, h => .cons a (prd_snoc t h)
theorem hu9 {A : Around} {k : Nat} (hr : Room k A) : A.units + 9 < cLine := Nat.lt_of_le_of_lt (Nat.add_le_add_left (by decide : 9 ≤ 64) _) hr.units
theorem nat_is {X : Cx} {pins : List (Addr × Obj)} {σ : L2.St} {H : Hp} {s : Shared} {d : Addr} {xs : List Nent} (I : Inv X pins σ H s) (h : NAt X.prog X.w H d xs) : (d == sysModules) = false ∧ kdIs X.prog X.w d xs s.heap := by
  rcases h with ⟨rfl, h⟩ | h
  · obtain ⟨_, hd, vs, kv, o, es, ep, e, hx, hdat, _, hes, _⟩ := I.hok d _ h
    cases kv
    refine ⟨hd, [], .nil, o, es, ep, e, hx, hdat, ?_, List.nodup_nil⟩
    cases q : es.toList with
    | nil => rfl
    | cons a b => rw [q] at hes; cases hes
  · exact (I.hok d _ h).1
theorem NAt.mut {P : Program} {w : World} {H : Hp} {d : Addr} {xs : List Nent} (h : NAt P w H d xs) : Mut (H d) := by
  rcases h with ⟨_, h⟩ | h
  · rw [h]; exact True.intro
  · rw [h]; exact True.intro
def lookN : List Nent → NestedKey → Option V
  | [], _ => none
  | p :: r, k => if p.1 = k then some p.2.2 else lookN r k
theorem look_at {xs : List Nent} {ws : List (NestedKey × Addr × Value)} (p : Paired (fun (p : Nent) (q : NestedKey × Addr × Value) => p.1 = q.1 ∧ p.2.1 = q.2.1 ∧ RelV p.2.2 q.2.2) xs ws) (k : NestedKey) :
    (lookN xs k = none ∧ atKey ws k = none) ∨ ∃ v q, lookN xs k = some v ∧ atKey ws k = some q ∧ RelV v q.2 := by
  induction p with
  | nil => exact .inl ⟨rfl, rfl⟩
  | @cons a b xs ws h t ih =>
    obtain ⟨h1, h2, h3⟩ := h
    by_cases e : a.1 = k
    · refine .inr ⟨a.2.2, b.2, if_pos e, ?_, h3⟩
      show ((b :: ws).find? fun x => decide (x.1 = k)).map (·.2) = _
      rw [List.find?_cons, show decide (b.1 = k) = true from decide_eq_true (h1 ▸ e)]
      rfl
    · have e2 : lookN (a :: xs) k = lookN xs k := if_neg e
      have e3 : atKey (b :: ws) k = atKey ws k := by
        show ((b :: ws).find? fun x => decide (x.1 = k)).map (·.2) = _
        rw [List.find?_cons, show decide (b.1 = k) = false from decide_eq_false (h1 ▸ e)]
        rfl
      rw [e2, e3]
      exact ih
/-- d.setdefault(y, z), y a tuple -/
def tSetN (P : Program) (w : World) (K : PySem.W.Frag) (td ty tx : TE) : TE := fun σ H Q => td σ H fun x H1 => ∃ (a : Addr) (xs0 : List Nent), x = .ref a ∧ NAt P w H1 a xs0 ∧ ty σ H1 fun y H2 => tx σ H2 fun z H3 => ∃ (b : Addr) (d : Dt) (xs : List Nent), y = .ref b ∧ DR K H3 (.ref b) d ∧ (nk d).depth ≤ 8 ∧ NAt P w H3 a xs ∧ xs.length ≤ 1000 ∧
  (∀ p ∈ xs, ∃ d', DR K H3 (.ref p.2.1) d' ∧ p.1 = nk d' ∧ p.1.depth ≤ 8) ∧ (∀ v, lookN xs (nk d) = some v → Q v H3) ∧ (lookN xs (nk d) = none → Q z (upd H3 a (kdHO P w a (xs ++ [(nk d, b, z)]))))
theorem pe_setN {X : Cx} {o e f : Expr} {td ty tx : TE} {apos cpos : Pos} (hu : X.A.units + 9 < cLine) (ho : PE X o td) (he : PE X e ty) (hf : PE X f tx) (m : M2 X o "setdefault" apos e f cpos) : PE X (.Call (.Attribute o "setdefault" apos) [e, f] [] cpos) (tSetN X.prog X.w X.K td ty tx) := by
  refine ⟨fun pins s σ H Q I h => ?_⟩
  refine wpAny_Call_method m.base m.few m.line PySem.F.plainAttrs_dict PySem.F.slot_dict_setdefault PySem.F.type_dict_setdefault (thn (ho.run pins s σ H _ I h) fun u s1 ⟨x, H1, I1, rx, a, xs0, ex, d0, q1⟩ => ?_)
  subst ex
  obtain rfl : u = Value.ref a := rx
  obtain ⟨hsm, ws0, _, o0, es0, ep0, e0, hx0, hd0, _⟩ := nat_is I1 d0
  refine ⟨⟨o0, e0, hx0.1⟩, fun b eb => ?_, ?_⟩
  · cases eb
    exact ⟨o0, e0, hx0.2.1⟩
  rw [m.trees]
  refine Calls.callWith_builtin rfl (Calls.evalArgs_plain (Calls.spliced_cons (thn (he.run pins s1 σ H1 _ I1 q1) fun iv s2 ⟨y, H2, I2, ry, q2⟩ =>
    Calls.spliced_cons (thn (hf.run pins s2 σ H2 _ I2 q2) fun fv s3 ⟨z, H3, I3, rz, b, d, xs, ey, rd, dep, na, hl, hks, q3, q4⟩ => Calls.spliced_nil ?_))))
  subst ey
  obtain rfl : iv = Value.ref b := ry
  obtain ⟨hsm3, ws, pw, o3, es, ep, e3, hx3, hd3, hes, hnd⟩ := nat_is I3 na
  have lws : xs.length = ws.length := Paired.length pw
  have hks' : ∀ q ∈ ws, (nestedKind X.prog X.w).is s3.heap q.1 q.2.1 := fun q hq => by
    obtain ⟨j, ej⟩ := List.getElem?_of_mem hq
    have hj : j < xs.length := by
      have := (List.getElem?_eq_some_iff.mp ej).1
      omega
    have ex := List.getElem?_eq_getElem hj
    obtain ⟨q', eq', r1, r2, r3⟩ := LiI.paired_get pw ex
    rw [ej] at eq'
    cases eq'
    obtain ⟨d', rd', hk', hdep⟩ := hks _ (List.getElem_mem hj)
    rw [← r1, ← r2]
    refine ⟨?_, hdep⟩
    rw [hk']
    exact nk_is I3 rd' rfl
  refine call_setdefault_heap (knd := nestedKind X.prog X.w) (k := nk d) (xs := ws) (show X.A.in1.units + 8 < cLine from ?_) ⟨nk_is I3 rd rfl, dep⟩ hsm3 ⟨o3, es, ep, e3, hx3, hd3, hes, hks', hnd⟩ (fun p hp => ?_) (fun hn h' hm' hs => ?_) (by rw [sizeLine_eq]; omega)
  · show X.A.units + 1 + 8 < cLine
    omega
  · rcases look_at pw (nk d) with ⟨n1, n2⟩ | ⟨v, q, n1, n2, r⟩
    · rw [n2] at hp; cases hp
    · rw [n2] at hp
      cases hp
      exact ⟨v, H3, I3.tok _, r, q3 v n1⟩
  · rcases look_at pw (nk d) with ⟨n1, n2⟩ | ⟨v, q, n1, n2, r⟩
    · obtain ⟨o4, es4, ep4, e4, hx4, hd4, hes4, _, hnd4⟩ := id hm'
      have kd : kdIs X.prog X.w a (xs ++ [(nk d, b, z)]) h' := by
        refine ⟨storedH ws (nk d) b fv, ?_, o4, es4, ep4, e4, hx4, hd4, hes4, hnd4⟩
        rw [storedH_new n2]
        exact prd_snoc pw ⟨rfl, rfl, rz⟩
      exact ⟨z, _, d_write I3 na.mut hs ⟨o4, e4⟩ (kd_ok hsm3 kd), rz, q4 n1⟩
    · rw [n2] at hn; cases hn
end LM
set_option Elab.async false
set_option linter.all false
set_option maxRecDepth 100000
set_option maxHeartbeats 4000000
namespace LM
open PySem PySem.Spec PyProof.Rows L2
/-! ### words and forms -/
/-- how many parts behind a word -/
def ptW (z : Str) : Option Nat :=
  if z = "in" then some 0 else if z = "num" then some 0 else if z = "yes" then some 0 else if z = "no" then some 0 else if z = "plus" then some 1 else if z = "least" then some 2 else if z = "most" then some 2 else
  if z = "atmost" then some 2 else if z = "not" then some 1 else if z = "both" then some 2 else if z = "either" then some 2 else if z = "if" then some 3 else none
/-- whether a text is one of some -/
def oneOf (z : Str) (ws : List Str) : Bool := inV (.str z) (ws.map V.str)
def numbered (z : Str) : Bool := oneOf z ["in", "num", "plus"]
def numHd : List Dt → Bool
  | d :: _ => KdOf .num d
  | [] => false
def hasForm : Dt → Bool
  | .tup (.str z :: r) => match ptW z with
    | none => false
    | some m => if numbered z = true then decide (r.length = m + 1) && numHd r else decide (r.length = m)
  | _ => false
theorem form_eq {z : Str} {r : List Dt} {m : Nat} (hm : ptW z = some m) : hasForm (.tup (.str z :: r)) = if numbered z = true then decide (r.length = m + 1) && numHd r else decide (r.length = m) := by
  unfold hasForm
  dsimp only
  rw [hm]
def many : Dt → Nat
  | .tup (.str z :: _) => (ptW z).getD 0
  | _ => 0
def itemsD : Dt → List Dt
  | .tup ds => ds
  | _ => []
def partsD (d : Dt) : List Dt := (itemsD d).drop ((itemsD d).length - many d)
mutual
/-- the knots below a place -/
def kn : Dt → List Dt
  | .tup ds => .tup ds :: (if hasForm (.tup ds) = true then knD (ds.length - many (.tup ds)) ds else [])
  | d => [d]
def knD : Nat → List Dt → List Dt
  | _, [] => []
  | 0, d :: ds => kn d ++ knD 0 ds
  | n + 1, _ :: ds => knD n ds
end
theorem knD_drop : ∀ (n : Nat) (ds : List Dt), knD n ds = ((ds.drop n).map kn).flatten
  | _, [] => by simp [knD]
  | 0, d :: ds => by
    have ih := knD_drop 0 ds
    rw [knD, ih]
    simp
  | n + 1, d :: ds => by
    have ih := knD_drop n ds
    rw [knD, ih]
    simp
theorem kn_eq (d : Dt) : kn d = d :: (if hasForm d = true then ((partsD d).map kn).flatten else []) := by
  cases d with
  | tup ds =>
    rw [kn]
    unfold partsD itemsD
    rw [knD_drop]
  | non => rfl
  | bl b => rfl
  | int i => rfl
  | str x => rfl
theorem kn_pos (d : Dt) : 1 ≤ (kn d).length := by rw [kn_eq]; simp
mutual
/-- how deep -/
def Dt.dep : Dt → Nat
  | .tup ds => Dt.deps ds + 1
  | _ => 1
def Dt.deps : List Dt → Nat
  | [] => 0
  | d :: ds => max d.dep (Dt.deps ds)
end
theorem deps_mem : ∀ {ds : List Dt} {d : Dt}, d ∈ ds → d.dep ≤ Dt.deps ds
  | e :: ds, d, h => by
    rw [Dt.deps]
    rcases List.mem_cons.mp h with h | h
    · subst h; exact Nat.le_max_left _ _
    · exact Nat.le_trans (deps_mem h) (Nat.le_max_right _ _)
theorem parts_dep {d e : Dt} (h : e ∈ partsD d) (hf : hasForm d = true) : e.dep + 1 ≤ d.dep := by
  cases d with
  | tup ds =>
    rw [Dt.dep]
    exact Nat.succ_le_succ (deps_mem (List.mem_of_mem_drop h))
  | non => cases hf
  | bl b => cases hf
  | int i => cases hf
  | str x => cases hf
/-! ### well-formed programs -/
theorem wm_in : ptW "in" = some 0 := by decide +kernel
theorem wm_num : ptW "num" = some 0 := by decide +kernel
theorem wm_yes : ptW "yes" = some 0 := by decide +kernel
theorem wm_no : ptW "no" = some 0 := by decide +kernel
theorem wm_plus : ptW "plus" = some 1 := by decide +kernel
theorem wm_not : ptW "not" = some 1 := by decide +kernel
theorem wm_if : ptW "if" = some 3 := by decide +kernel
theorem wm_bop (o : Bop) : ptW o.s = some 2 := by cases o <;> decide +kernel
theorem nb_in : numbered "in" = true := by decide +kernel
theorem nb_num : numbered "num" = true := by decide +kernel
theorem nb_yes : numbered "yes" = false := by decide +kernel
theorem nb_no : numbered "no" = false := by decide +kernel
theorem nb_plus : numbered "plus" = true := by decide +kernel
theorem nb_not : numbered "not" = false := by decide +kernel
theorem nb_if : numbered "if" = false := by decide +kernel
theorem nb_bop (o : Bop) : numbered o.s = false := by cases o <;> decide +kernel
def Pg.parts : Pg → List Pg
  | .plus _ a => [a] | .bin _ a b => [a, b] | .not a => [a] | .ite p a b => [p, a, b] | _ => []
/-- the word, the number -/
def Pg.word : Pg → Str
  | .inp _ => "in" | .num _ => "num" | .yes => "yes" | .no => "no" | .plus _ _ => "plus" | .bin o _ _ => o.s | .not _ => "not" | .ite _ _ _ => "if"
def Pg.own : Pg → List Dt
  | .inp k => [.int (k : Int)] | .num c => [.int c] | .plus c _ => [.int c] | _ => []
theorem Pg.dt_eq : ∀ p : Pg, p.dt = .tup (.str p.word :: (p.own ++ p.parts.map Pg.dt))
  | .inp _ => rfl | .num _ => rfl | .yes => rfl | .no => rfl | .plus _ _ => rfl | .bin _ _ _ => rfl | .not _ => rfl | .ite _ _ _ => rfl
theorem Pg.pt : ∀ p : Pg, ptW p.word = some p.parts.length
  | .inp _ => wm_in | .num _ => wm_num | .yes => wm_yes | .no => wm_no | .plus _ _ => wm_plus | .bin o _ _ => wm_bop o | .not _ => wm_not | .ite _ _ _ => wm_if
theorem Pg.form (p : Pg) : hasForm p.dt = true := by
  have e := p.pt
  rw [p.dt_eq]
  unfold hasForm
  dsimp only
  rw [e]
  cases p with
  | inp k => exact (if_pos nb_in).trans rfl
  | num c => exact (if_pos nb_num).trans rfl
  | yes => exact (if_neg (fun z => Bool.false_ne_true ((nb_yes).symm.trans z))).trans rfl
  | no => exact (if_neg (fun z => Bool.false_ne_true ((nb_no).symm.trans z))).trans rfl
  | plus c a => exact (if_pos nb_plus).trans rfl
  | bin o a b => exact (if_neg (fun z => Bool.false_ne_true ((nb_bop o).symm.trans z))).trans rfl
  | not a => exact (if_neg (fun z => Bool.false_ne_true ((nb_not).symm.trans z))).trans rfl
  | ite a b c => exact (if_neg (fun z => Bool.false_ne_true ((nb_if).symm.trans z))).trans rfl
theorem Pg.partsD (p : Pg) : LM.partsD p.dt = p.parts.map Pg.dt := by
  have e := p.pt
  unfold LM.partsD
  rw [p.dt_eq]
  dsimp only [many, itemsD]
  rw [e]
  have : (Dt.str p.word :: (p.own ++ p.parts.map Pg.dt)).length - p.parts.length = p.own.length + 1 := by
    rw [List.length_cons, List.length_append, List.length_map]
    omega
  dsimp only [Option.getD]
  rw [this]
  simp
/-- all the programs within -/
def Pg.subs : Pg → List Pg
  | .plus c a => .plus c a :: a.subs
  | .bin o a b => .bin o a b :: (a.subs ++ b.subs)
  | .not a => .not a :: a.subs
  | .ite p a b => .ite p a b :: (p.subs ++ (a.subs ++ b.subs))
  | p => [p]
theorem Pg.kn : ∀ p : Pg, LM.kn p.dt = p.subs.map Pg.dt
  | .inp k => by rw [kn_eq, Pg.form, Pg.partsD]; rfl
  | .num c => by rw [kn_eq, Pg.form, Pg.partsD]; rfl
  | .yes => by rw [kn_eq, Pg.form, Pg.partsD]; rfl
  | .no => by rw [kn_eq, Pg.form, Pg.partsD]; rfl
  | .plus c a => by
    have h1 := Pg.kn a
    rw [kn_eq, Pg.form, Pg.partsD, Pg.subs]
    simp [Pg.parts, h1]
  | .not a => by
    have h1 := Pg.kn a
    rw [kn_eq, Pg.form, Pg.partsD, Pg.subs]
    simp [Pg.parts, h1]
  | .bin o a b => by
    have h1 := Pg.kn a
    have h2 := Pg.kn b
    rw [kn_eq, Pg.form, Pg.partsD, Pg.subs]
    simp [Pg.parts, h1, h2]
  | .ite p a b => by
    have h1 := Pg.kn p
    have h2 := Pg.kn a
    have h3 := Pg.kn b
    rw [kn_eq, Pg.form, Pg.partsD, Pg.subs]
    simp [Pg.parts, h1, h2, h3]
theorem Pg.subs_len : ∀ p : Pg, p.subs.length = p.size
  | .inp _ => rfl | .num _ => rfl | .yes => rfl | .no => rfl
  | .plus _ a => by rw [Pg.subs, List.length_cons, Pg.subs_len a]; rfl
  | .not a => by rw [Pg.subs, List.length_cons, Pg.subs_len a]; rfl
  | .bin _ a b => by rw [Pg.subs, List.length_cons, List.length_append, Pg.subs_len a, Pg.subs_len b]; rfl
  | .ite p a b => by rw [Pg.subs, List.length_cons, List.length_append, List.length_append, Pg.subs_len p, Pg.subs_len a, Pg.subs_len b, Pg.size]; omega
theorem Pg.dep : ∀ p : Pg, p.dt.dep ≤ p.depth + 1
  | .inp _ => by simp [Pg.dt, Dt.dep, Dt.deps, Pg.depth] | .num _ => by simp [Pg.dt, Dt.dep, Dt.deps, Pg.depth] | .yes => by simp [Pg.dt, Dt.dep, Dt.deps, Pg.depth] | .no => by simp [Pg.dt, Dt.dep, Dt.deps, Pg.depth]
  | .plus c a => by have := Pg.dep a; simp [Pg.dt, Dt.dep, Dt.deps, Pg.depth]; omega
  | .not a => by have := Pg.dep a; simp [Pg.dt, Dt.dep, Dt.deps, Pg.depth]; omega
  | .bin o a b => by have := Pg.dep a; have := Pg.dep b; simp [Pg.dt, Dt.dep, Dt.deps, Pg.depth]; omega
  | .ite p a b => by have := Pg.dep p; have := Pg.dep a; have := Pg.dep b; simp [Pg.dt, Dt.dep, Dt.deps, Pg.depth]; omega
/-- every part has its kind -/
theorem Wt.subs {ks : List Kd} : ∀ {p : Pg} {t : Kd}, Wt ks p t → ∀ q ∈ p.subs, ∃ u, Wt ks q u
  | _, _, .inp h, q, hq => by simp [Pg.subs] at hq; subst hq; exact ⟨_, .inp h⟩
  | _, _, .num c, q, hq => by simp [Pg.subs] at hq; subst hq; exact ⟨_, .num c⟩
  | _, _, .yes, q, hq => by simp [Pg.subs] at hq; subst hq; exact ⟨_, .yes⟩
  | _, _, .no, q, hq => by simp [Pg.subs] at hq; subst hq; exact ⟨_, .no⟩
  | _, _, .plus c h, q, hq => by
    rcases List.mem_cons.mp hq with e | e
    · subst e; exact ⟨_, .plus c h⟩
    · exact Wt.subs h q e
  | _, _, .not h, q, hq => by
    rcases List.mem_cons.mp hq with e | e
    · subst e; exact ⟨_, .not h⟩
    · exact Wt.subs h q e
  | _, _, .bin o h1 h2, q, hq => by
    rcases List.mem_cons.mp hq with e | e
    · subst e; exact ⟨_, .bin o h1 h2⟩
    · rcases List.mem_append.mp e with e | e
      · exact Wt.subs h1 q e
      · exact Wt.subs h2 q e
  | _, _, .ite h1 h2 h3, q, hq => by
    rcases List.mem_cons.mp hq with e | e
    · subst e; exact ⟨_, .ite h1 h2 h3⟩
    · rcases List.mem_append.mp e with e | e
      · exact Wt.subs h1 q e
      · rcases List.mem_append.mp e with e | e
        · exact Wt.subs h2 q e
        · exact Wt.subs h3 q e
/-- the kinds of the parts -/
def Pg.dues : Pg → Kd → List Kd
  | .plus _ _, _ => [.num] | .bin o _ _, _ => [o.ins, o.ins] | .not _, _ => [.truth] | .ite _ _ _, t => [.truth, t, t] | _, _ => []
theorem Wt.parts {ks : List Kd} {p : Pg} {t : Kd} (h : Wt ks p t) : Paired (fun q u => Wt ks q u) p.parts (p.dues t) := by
  cases h with
  | inp h => exact .nil
  | num c => exact .nil
  | yes => exact .nil
  | no => exact .nil
  | plus c h => exact .cons h .nil
  | not h => exact .cons h .nil
  | bin o h1 h2 => exact .cons h1 (.cons h2 .nil)
  | ite h1 h2 h3 => exact .cons h1 (.cons h2 (.cons h3 .nil))
end LM
set_option Elab.async false
set_option linter.all false
set_option maxRecDepth 100000
set_option maxHeartbeats 4000000
namespace LM
open PySem PySem.Spec PyProof.Rows L2
/-! ### several clauses, each with its name -/
/-- the ends of a suite that let the name go -/
def letGo1 (i : Nat) (D : Ends) : Ends := { nx := fun τ G => D.nx (τ.set i none) G, rt := D.rt, bk := fun τ G => D.bk (τ.set i none) G, ct := fun τ G => D.ct (τ.set i none) G }
/-- one clause after the other: the class of each, its suite -/
def wNamed (K : PySem.W.Frag) (i : Nat) (Wo : WX) (D : Ends) : List (Value × (Addr → Value → Option Addr → TS)) → WX
  | [] => Wo
  | q :: r => fun cls d τ G => ∃ b, PySem.W.exmOne K cls q.1 = some b ∧ (b = true → ∀ a, G a = none → q.2 a cls d (letGo1 i D) (τ.set i (some (.ref a))) G) ∧ (b = false → wNamed K i Wo D r cls d τ G)
inductive Named (X : Cx) (n : Str) : List ExceptHandler → List (Value × (Addr → Value → Option Addr → TS)) → Prop
  | nil : Named X n [] []
  | cons {y : Str} {c : Value} {ts : Addr → Value → Option Addr → TS} {b1 : Stmt} {bs : List Stmt} {p1 p2 : Pos} {hs : List ExceptHandler} {l : List (Value × (Addr → Value → Option Addr → TS))} (nc : Names X y c)
      (su : ∀ (a : Addr) (oe : Obj) (cls : Value) (d : Option Addr) (pn : List (Addr × Obj)), Zc cls d oe → (∃ vs, oe.data = .fields vs) → PSs (X.suite a ((a, oe) :: pn)) (b1 :: bs) (ts a cls d)) (r : Named X n hs l) :
      Named X n (.ExceptHandler (some (.Name y p1)) (some n) (b1 :: bs) p2 :: hs) ((c, ts) :: l)
section
variable {X : Cx} {n : Str} {i : Nat} {body : List Stmt} {h1 : ExceptHandler} {hs : List ExceptHandler} {l : List (Value × (Addr → Value → Option Addr → TS))} {pos : Pos} {tb : WX → TS} {Wo : WX}
theorem ps_try_named (st : X.stack = X.env :: X.outer) (fr : X.env.frame = some X.env.locals) (nd : X.N.Nodup) (ni : X.N[i]? = some n) (nl : X.env.kindOf n = some .local) (tk : Takes X Wo)
    (hb : ∀ (W : WX) (pn : List (Addr × Obj)) (xe : Value → Shared → Prop), Takes (X.tr pn xe) W → PassesOwn (model X.prog X.w) X.A X.env xe → PSs (X.tr pn xe) body (tb W)) (hh : Named X n (h1 :: hs) l) :
    PS X (.Try body (h1 :: hs) [] [] pos) (fun D σ H => tb (wNamed X.K i Wo D l) D σ H) := by
  refine ⟨fun pins s σ H D I rd => ?_⟩
  have ok := I.ok
  have frs1 : X.A.frames = some (X.env :: X.outer) := by rw [ok.frames, st]
  have loc : Loc X.env.scope n := .inl nl
  refine wpAny_Try_except ?_
  refine wpAny_mono ((hb (wNamed X.K i Wo D l) (X.pn ++ pins) (fun e t1 => wpAny (model X.prog X.w) X.A (noteFrame e X.env) (fun _ t2 => wpAny (model X.prog X.w) X.A (setFlight e none) (fun _ t3 =>
    wpAny (model X.prog X.w) X.A (handleBy e X.env (h1 :: hs)) (SP X pins D) X.xe t3) X.xe t2) X.xe t1) (fun u t xx => ?_) PassesOwn.looking).run [] s σ H D (I.toTry _) rd) (fun f t z => ?_) (fun e t he => he)
  · obtain ⟨a, B, sI, pins', τ, G, cls, d, rfl, J', nb, up, sky, na, os, ag, w⟩ := xx
    have J : Inv X pins τ G sI := J'.ofTry ok
    have sky2 : Sky B (X.env :: X.outer) a (Zc cls d) X.env.locals t.heap := by rw [← st]; exact sky
    show wpAny (model X.prog X.w) X.A (noteFrame (.ref a) X.env) _ _ _
    refine Sky.land Zc.steady frs1 fr sky2 fun g3 fl3 up3 => ?_
    have J3 : Inv X pins τ G { t with heap := g3 } := J.landed nb fl3.1 (up.trans up3) os ag
    obtain ⟨oe3, vs3, at3, hz3, dat3⟩ := fl3.there
    have apart : ∀ {g : Heap} {o : Obj} {vs : Array Value}, g.FunFrames B (X.env :: X.outer) → g.get? a = some o → o.data = .fields vs → a ∉ frs (X.env :: X.outer) := fun {g o vs} ff e dd hm => by
      obtain ⟨_, o2, e2, nf⟩ := ff.mem hm
      rw [e] at e2
      cases e2
      exact nf _ dd
    have off := apart fl3.2.2.1 at3 dat3
    have offL : a ≠ X.env.locals := fun z => off (List.mem_filterMap.mpr ⟨X.env, List.mem_cons_self, by rw [fr, z]⟩)
    have offF : a ∉ X.fs := fun hm => by
      obtain ⟨e, he, q⟩ := List.mem_filterMap.mp hm
      exact off (List.mem_filterMap.mpr ⟨e, List.mem_cons_of_mem _ he, q⟩)
    have S3 := J3.suite at3 dat3 na offL offF
    have clauses : ∀ {ks : List ExceptHandler} {m : List (Value × (Addr → Value → Option Addr → TS))}, Named X n ks m → wNamed X.K i Wo D m cls d τ G → wpAny (model X.prog X.w) X.A (handleBy (.ref a) X.env ks) (SP X pins D) X.xe { t with heap := g3 } := by
      intro ks m hk
      induction hk with
      | nil =>
        intro w
        refine wpAny_handleBy_nil ?_
        obtain ⟨k1, k2, k3, oe, vs, T, oT, ts', he, hz, hd, e1, hr⟩ := id fl3
        unfold PySem.passOn
        refine wpAny_bind (wpAny_field he hd e1 ?_)
        rw [if_neg (show ¬ ((Value.ref T == Value.none) = true) from by simp)]
        have onward : wpAny (model X.prog X.w) X.A (setFlight (.ref a) X.env.frame) (fun _ t4 => wpAny (model X.prog X.w) X.A (throw (.ref a) : Sem Flow) (SP X pins D) X.xe t4) X.xe { t with heap := g3 } := by
          rw [fr]
          refine HandSPX.setFlight_upZ fl3 fun g4 hh4 up4 => wpAny_throw (tk _ _ ?_)
          exact ⟨a, B, sI, pins, τ, G, cls, d, rfl, J, nb, (up.trans up3).trans up4, .inr (.inr (by rw [st]; exact hh4)), na, os, ag, w⟩
        first
          | exact wpAny_bind (wpAny_pure (wpAny_bind onward))
          | exact wpAny_bind onward
      | @cons y c ts b1 bs p1 p2 hs2 l2 nc su r ih =>
        intro w
        obtain ⟨b, e1, yes, no⟩ := w
        refine wpAny_handleBy_cons (codeAny_handlers_test ?_) (by intro q; cases q)
        have LT : PySem.W.Looks (model X.prog X.w) g3 (typeOf (.ref a)) cls := fun A Q E s k q => wpAny_typeOf_ref (k _ _ at3) (by rw [hz3.1]; exact q)
        have LM := PySem.W.exm_one (M := model X.prog X.w) (J3.kIn) LT e1
        have named : ∀ {Q : Value → Shared → Prop} {E : Value → Shared → Prop}, Q c { t with heap := g3 } → wpAny (model X.prog X.w) (X.A.mark (some (.ref a))) (eval (.Name y p1) X.env) Q E { t with heap := g3 } := fun {Q E} q => by
          obtain ⟨hg, hdbg, hm | ⟨hm, hv, hnn⟩⟩ := nc
          · exact ld_glob (X := X.suite a ((a, oe3) :: (X.pn ++ pins))) S3 hg hm q hdbg
          · exact ld_blt (X := X.suite a ((a, oe3) :: (X.pn ++ pins))) S3 hg hm hv q hnn hdbg
        refine named (LM.here ?_)
        cases b with
        | false =>
          show wpAny _ X.A (handleBy (.ref a) X.env hs2) _ _ _
          exact ih (no rfl)
        | true =>
          refine codeAny_handlers_suite_as ?_
          refine HandSPX.lands_againZ fl3 fun g4 fl4 up4 => ?_
          have J4 : Inv X pins τ G { t with heap := g4 } := J.landed nb fl4.1 ((up.trans up3).trans up4) os ag
          obtain ⟨oe4, vs4, at4, hz4, dat4⟩ := fl4.there
          have S4 := J4.suite at4 dat4 na offL offF
          refine store_ok (X := X.suite a ((a, oe4) :: (X.pn ++ pins))) (v := .ref a) S4 nd ni loc rfl (fun s5 S5 => ?_) (.inr nl)
          refine wpAny_mono ((su a oe4 cls d (X.pn ++ pins) hz4 ⟨_, dat4⟩).run [] s5 _ G _ S5 (yes rfl a na)) (fun f s6 hsp => ?_) (fun _ _ z => False.elim z)
          have over : ∀ {τ6 : L2.St} {G6 : Hp} {Q : Shared → Prop}, Inv (X.suite a ((a, oe4) :: (X.pn ++ pins))) [] τ6 G6 s6 → (∀ s7, Inv X pins (τ6.set i none) G6 s7 → Q s7) →
              wpAny (model X.prog X.w) X.A (do bindName X.env n .none; unbindBehindTheSuite X.env n p2) (fun _ s7 => Q s7) X.xe s6 := fun {τ6 G6 Q} S6 hq => gone_ok (S6.unsuite ok) nd ni nl hq
          cases f with
          | next =>
            obtain ⟨τ6, G6, S6, q6⟩ := hsp
            exact over S6 fun s7 J7 => ⟨_, _, J7, q6⟩
          | brk =>
            obtain ⟨τ6, G6, S6, q6⟩ := hsp
            exact over S6 fun s7 J7 => ⟨_, _, J7, q6⟩
          | cont =>
            obtain ⟨τ6, G6, S6, q6⟩ := hsp
            exact over S6 fun s7 J7 => ⟨_, _, J7, q6⟩
          | ret u =>
            obtain ⟨v6, τ6, G6, S6, r6, q6⟩ := hsp
            exact over S6 fun s7 J7 => ⟨_, _, _, J7, r6, q6⟩
    exact clauses hh w
  · cases f with
    | next =>
      obtain ⟨τ, G, J', q⟩ := z
      exact wpAny_execs_nil ⟨τ, G, J'.ofTry ok, q⟩
    | brk =>
      obtain ⟨τ, G, J', q⟩ := z
      exact ⟨τ, G, J'.ofTry ok, q⟩
    | cont =>
      obtain ⟨τ, G, J', q⟩ := z
      exact ⟨τ, G, J'.ofTry ok, q⟩
    | ret u =>
      obtain ⟨v, τ, G, J', r, q⟩ := z
      exact ⟨v, τ, G, J'.ofTry ok, r, q⟩
end
/-! ### methods that keep a promise -/
structure OkM (P : Program) (w : World) (K : PySem.W.Frag) (mg : Str → Option Value) (base : Heap) (CX : CXT) (k : Nat) (C : Addr) (m : Str) (ps : List Str) (sp : Sp) : Prop where
  c : Cls K C
  f : ∃ f fd, Meth K C m f ∧ Binds K fd ps [] ∧ FnOk P w K mg base CX k f fd ps sp
theorem OkM.mono {P : Program} {w : World} {K : PySem.W.Frag} {mg : Str → Option Value} {base : Heap} {CX : CXT} {j k : Nat} {C : Addr} {m : Str} {ps : List Str} {sp : Sp} (O : OkM P w K mg base CX j C m ps sp) (h : j ≤ k) : OkM P w K mg base CX k C m ps sp := by
  obtain ⟨c, f, fd, M, b, F⟩ := O
  exact ⟨c, f, fd, M, b, F.mono h⟩
section
variable {X : Cx} {CX : CXT} {k : Nat} {C : Addr} {m : Str} {ps : List Str} {sp : Sp} {E : XK} {p pos apos : Pos} {o e : Expr} {es : List Expr} {ta : TE} {t : TA} {pl : Sem Bool}
theorem pe_methF (he : PE X o ta) (O : OkM X.prog X.w X.K X.mg X.base CX k C m ps sp) (hr : Room k X.A) (hx : Passes CX X E) (ha : PA X (e :: es) t)
    (hst : starEach (e :: es) X.env = (false, eval e X.env) :: starEach es X.env := by rfl) (hpl : (backTo pos (starEach es X.env)).any (·.1) = false := by rfl)
    (ht : eval (.Call (.Attribute o m apos) (e :: es) [] pos) X.env = (do
      let ov ← eval o X.env
      standAt apos.atName
      let (f, first) ← holding [ov] (getMethod ov m pl)
      callWith pos f first (backTo pos (starEach (e :: es) X.env)) (backToKw pos (keywordEach [] X.env))) := by rfl) : PE X (.Call (.Attribute o m apos) (e :: es) [] pos) (tMeth C m sp [] E ta t) := by
  obtain ⟨c, f, fd, M, b, F⟩ := O
  exact pe_meth (pl := pl) he c M F hr b .nil hx ha hst hpl ht
theorem pe_methF0 (he : PE X o ta) (O : OkM X.prog X.w X.K X.mg X.base CX k C m ps sp) (hr : Room k X.A) (hx : Passes CX X E)
    (ht : eval (.Call (.Attribute o m apos) [] [] pos) X.env = (do
      let ov ← eval o X.env
      standAt apos.atName
      let (f, first) ← holding [ov] (getMethod ov m pl)
      callWith pos f first (backTo pos (starEach [] X.env)) (backToKw pos (keywordEach [] X.env))) := by rfl) : PE X (.Call (.Attribute o m apos) [] [] pos) (tMeth C m sp [] E ta tNil) := by
  obtain ⟨c, f, fd, M, b, F⟩ := O
  exact pe_meth0 (pl := pl) he c M F hr b .nil hx ht
/-- within a try: what it raises is wished for at the slots as they stand -/
def tMethT (C : Addr) (m : Str) (sp : Sp) (E : L2.St → XK) (ta : TE) (t : TA) : TE := fun σ H Q => ta σ H fun x H1 => ∃ a dx fs, x = .ref a ∧ H1 a = some (.ins C dx fs) ∧ fs.lookup m = none ∧ t σ H1 fun vs H2 => sp (x :: vs) H2 Q (E σ)
theorem pe_methT {E : L2.St → XK} (he : PE X o ta) (O : OkM X.prog X.w X.K X.mg X.base CX k C m ps sp) (hr : Room k X.A) (hx : ∀ σ, PassesAt CX X σ (E σ)) (ha : PA X (e :: es) t)
    (hst : starEach (e :: es) X.env = (false, eval e X.env) :: starEach es X.env := by rfl) (hpl : (backTo pos (starEach es X.env)).any (·.1) = false := by rfl)
    (ht : eval (.Call (.Attribute o m apos) (e :: es) [] pos) X.env = (do
      let ov ← eval o X.env
      standAt apos.atName
      let (f, first) ← holding [ov] (getMethod ov m pl)
      callWith pos f first (backTo pos (starEach (e :: es) X.env)) (backToKw pos (keywordEach [] X.env))) := by rfl) : PE X (.Call (.Attribute o m apos) (e :: es) [] pos) (tMethT C m sp E ta t) := by
  obtain ⟨c, f, fd, M, b, F⟩ := O
  refine ⟨fun pins s σ H Q I h => ?_⟩
  refine PySem.W.methodCall_KW (pl := pl) (thn (he.run pins s σ H _ I h) fun u s1 ⟨x, H1, I1, rx, a, dx, fs, ex, ea, ln, q⟩ => ?_) ht
  subst ex
  obtain rfl : u = Value.ref a := rx
  refine getmeth_ok I1 ea c M ln ?_
  refine PySem.W.callWith_K (first := [.ref a]) (h₀ := X.base) I.ok.mod.kin M.kp (thn (ha.run pos pins s1 σ H1 _ I1 q) fun us s2 ⟨vs, H2, I2, r, q2⟩ => ⟨I2.kIn, ?_⟩) hst hpl
  exact run_fnS (us := .ref a :: us) (vs := .ref a :: vs) F hr b (hx σ) I2 (.cons rfl r) q2
/-- len(o), o an own instance whose __len__ keeps a promise -/
def rLenOwn (C : Addr) (sp : Sp) : List V → Hp → VK → Prop := fun xs H Q => ∃ (a dx : Addr) (fs : List (Str × V)), xs = [.ref a] ∧ H a = some (.ins C dx fs) ∧ sp [.ref a] H (fun v H' => ∃ n : Nat, v = .int (n : Int) ∧ (n : Int) < 2 ^ 63 ∧ Q v H') E0
theorem call_lenOwn {k : Nat} (O : OkM X.prog X.w X.K X.mg X.base CX0 k C "__len__" ps sp) (hr : Room (k + 1) X.A) : CallR X (.builtin "len") (rLenOwn C sp) := by
  intro pins s σ H xs us Q I r h
  obtain ⟨a, dx, fs, rfl, ea, h⟩ := h
  obtain ⟨u, rfl, ru⟩ := vals1 r
  obtain rfl : u = Value.ref a := ru
  obtain ⟨c, f, fd, M, b, F⟩ := O
  obtain ⟨mA, O1, _, _, _, _⟩ := ins_get I.hok ea
  obtain ⟨od, J, _⟩ := O1.look
  obtain ⟨m, fr⟩ := I.fr
  refine PySem.W.len_K fr I.ok.mod.kin J M.at_ M.fn ?_
  have hl : ([Value.ref a] ++ ([] : List Value)).length = ps.length := F.len _ _ _ _ h
  refine wpAny_call (codeAny_mono (F.run X.A.in1 X.stack s H ⟨[.ref a], []⟩ [.ref a] [.ref a] _ E0 hr.in1 I.env0.in1 (b s [.ref a] I.kIn hl) (.cons rfl .nil) h) fun r2 s2 hq => ?_)
  cases r2 with
  | error e => exact hq.elim
  | ok fl =>
    cases fl with
    | ret u =>
      obtain ⟨v, H', I2, rv, n, rfl, hn, q⟩ := I.after hq
      obtain ⟨t, rfl⟩ := rv
      exact ⟨⟨Int.natCast_nonneg n, hn⟩, ⟨.int (n : Int), H', I2.tok _, ⟨s2.toks, rfl⟩, q⟩⟩
    | next => exact False.elim hq
    | brk => exact False.elim hq
    | cont => exact False.elim hq
end
end LM
set_option Elab.async false
set_option linter.all false
set_option maxRecDepth 100000
set_option maxHeartbeats 4000000
/-! own errors under another built-in class than ValueError: made by their own __init__ -/
namespace LMX
open PySem PySem.W PySem.Calls PyProof.Rows PySem.HandSPX Builtin Builtin.ObjectAttr
/-- own classes, then a built-in one's mro -/
def refsT (tl : List Value) : List Value → Bool
  | .ref _ :: l => refsT tl l
  | l => l == tl
/-- what is asked of the built-in class -/
structure ExT (tl : List Value) (B nw ini : String) : Prop where
  st : ∀ v : Value, refuseLoop v "__setattr__" tl = pure ()
  ob : tl.contains (.type "object") = true
  base : ExcBaseFacts B nw ini tl
  ne : tl.isEmpty = false
section
variable {tl : List Value} {B nw ini : String}
theorem refsT_cases (l : List Value) (e : refsT tl l = true) : (∃ c r, l = .ref c :: r ∧ refsT tl r = true) ∨ l = tl := by
  unfold refsT at e
  split at e
  · exact .inl ⟨_, _, rfl, e⟩
  · exact .inr (beq_iff_eq.mp e)
theorem refsT_pass (F : ExT tl B nw ini) (v : Value) : ∀ l : List Value, refsT tl l = true → refuseLoop v "__setattr__" l = pure () := by
  intro l
  induction l with
  | nil =>
    intro e
    rcases refsT_cases [] e with ⟨_, _, z, _⟩ | z
    · cases z
    · rw [z]; exact F.st v
  | cons a r ih =>
    intro e
    rcases refsT_cases (a :: r) e with ⟨c, r', z, h⟩ | z
    · injection z with z1 z2
      subst z1 z2
      rw [refuseLoop_ref]
      exact ih h
    · rw [z]; exact F.st v
theorem refsT_has (X : String) : ∀ l : List Value, refsT tl l = true → l.contains (.type X) = tl.contains (.type X) := by
  intro l
  induction l with
  | nil =>
    intro e
    rcases refsT_cases [] e with ⟨_, _, z, _⟩ | z
    · cases z
    · rw [← z]
  | cons a r ih =>
    intro e
    rcases refsT_cases (a :: r) e with ⟨c, r', z, h⟩ | z
    · injection z with z1 z2
      subst z1 z2
      rw [List.contains_cons, ih h]
      rfl
    · rw [← z]
theorem refsT_ne (F : ExT tl B nw ini) {l : List Value} (e : refsT tl l = true) : l.isEmpty = false := by
  cases l with
  | nil =>
    rcases refsT_cases [] e with ⟨_, _, z, _⟩ | z
    · cases z
    · rw [z]; exact F.ne
  | cons _ _ => rfl
end
section
variable {tl : List Value} {B nw ini : String}
variable {prog : Program} {w : World} {A : Around} {R : Result → Shared → Prop} {hp : Heap} {g : Array GenState} {d : Drawn} {t : Nat} {os : OsState}
/-- self.name = u, the error having no dict yet -/
theorem setT {K : W.Frag} {name : Str} {tk : Tok} {u : Value} {x C : Addr} {fv : Array Value} {cd : ClassData} (F : ExT tl B nw ini)
    (kin : K.In hp) (at1 : hp.get? x = some { cls := .ref C, data := .fields fv }) (hc : W.clsIn K C = some cd) (mr : refsT tl cd.mro = true) (dct : cd.hasDict = true) (no : W.findIn K (.ref C) name = some none)
    (nx : ∀ h' tk' dx, (∀ b o, b ≠ x → hp.get? b = some o → h'.get? b = some o) → hp.objs.size ≤ dx → dx ≠ x → h'.get? x = some { cls := .ref C, dict := some dx, data := .fields fv } → h'.Ns1 dx (fun y => if y = name then some u else none) → R (.ok (.ret .none)) ⟨h', g, d, tk', os⟩) :
    codeAny (model prog w) A (.call (.builtin "object.__setattr__") ⟨[.ref x, .str name tk, u], []⟩) R ⟨hp, g, d, t, os⟩ := by
  have J : W.InstAt hp x { cls := .ref C, data := .fields fv } C none := ⟨at1, rfl, rfl, trivial⟩
  have so := PySem.F.store_object
  have n0 := refsT_ne F mr
  have o0 : cd.mro.contains (.type "object") = true := (refsT_has "object" _ mr).trans F.ob
  have x0 : x ≠ hp.objs.size := Nat.ne_of_lt (Heap.lt_size at1)
  have isO : W.Looks (model prog w) hp (isInstance (.ref x) (.type "object")) true :=
    J.type.andThen (W.looks_mroIn kin (by unfold W.mroIn; rw [hc, Option.bind_some, if_neg (by rw [n0]; decide), o0]))
  refine codeAny_call_builtin so.slot.plain so.entry ?_
  refine @W.check_slot (model prog w) _ _ ⟨hp, g, d, t, os⟩ "object.__setattr__" "object" "__setattr__" (.ref x) [.str name tk, u] [] _ so.kind so.split isO (so.args (.ref x) (.str name tk) u) ?_
  have lm : W.Looks (model prog w) hp (mroOf (.ref C)) cd.mro := (W.looks_clsIn kin hc).andThen .now
  have ln : W.Looks (model prog w) hp (storeTaker? none) none := .now
  have lc : W.Looks (model prog w) hp (classData C) cd := W.looks_clsIn kin hc
  rw [W.osa_eq, refuse_eq]
  refine wpAny_bind (wpAny_bind (J.type.at (wpAny_bind (lm.at ?_))))
  rw [refsT_pass F _ _ mr]
  refine wpAny_pure (wpAny_bind (J.type.at (wpAny_bind ((W.looks_findIn kin no).at (wpAny_bind (ln.at ?_))))))
  show wpAny _ _ (storeInOwnDict (.ref x) (.ref C) (.str name tk) name u false) _ _ _
  obtain ⟨q1, q2, q3, q4, q5, hd, q6, q7, q8, q9, q10⟩ := cd
  dsimp only at dct
  subst dct
  unfold storeInOwnDict ownDictForStores
  repeat (first | with_reducible refine store_in_new ?_ ?_ | with_reducible refine wpAny_loadPart_at at1 ?_ | with_reducible refine lc.at ?_ | wp_step)
  · exact ⟨_, #[], _, (Heap.get?_update_ne _ _ _ _ x0.symm).trans (Heap.get?_push_at rfl rfl), rfl, fun e z => absurd z (by simp), fun _ => rfl⟩
  · intro h1 tk1 hn1 same
    have x1 : (hp.push { cls := .type "dict", data := .dict #[] }).get? x = some { cls := .ref C, data := .fields fv } := Heap.get?_push_of_some _ at1
    refine nx h1 tk1 hp.objs.size (fun b o nb eb => ?_) (Nat.le_refl _) x0.symm ?_ hn1
    · exact (same.2 b (Nat.ne_of_lt (Heap.lt_size eb))).trans ((Heap.get?_update_ne _ _ _ _ nb).trans (Heap.get?_push_of_some _ eb))
    · exact (same.2 x x0).trans (Heap.get?_update_self _ x1 rfl)
end
end LMX
namespace LM
open PySem PySem.Spec PyProof.Rows L2
/-- what the written part says of the class -/
structure OexT (K : PySem.W.Frag) (tl : List Value) (nw : String) (C : Addr) : Prop where
  cls : ∃ a1 a2 a3 a4 bm a5 a6 a7 a8 a9 c0 c1 c2 c3 c5, K.lookup C = some (excClassObj a1 a2 C a3 a4 bm true a5 a6 a7 a8 a9 c0 c1 c2 c3 c5 nw) ∧ LMX.refsT tl bm = true
  sa : PySem.W.findIn K (.ref C) "__setattr__" = some (some (.builtin "object.__setattr__"))
  exC : PySem.W.subIn K (.ref C) (.type "BaseException") = some true
  tyC : PySem.W.typeIn K (.ref C) = some (.type "type")
  kC : PySem.W.keepIn K (.ref C) = true
section
variable {tl : List Value} {B nw ini : String} {X : Cx} {pins : List (Addr × Obj)} {σ : L2.St} {H : Hp} {s : Shared} {a C dx : Addr} {f : Str} {y : V} {u : Value} {fs : List (Str × V)} {E : Value → Shared → Prop} {A : Around}
/-- self.f = y, the first one -/
theorem ost_newT {Q : Unit → Shared → Prop} (F : LMX.ExT tl B nw ini) (T : OexT X.K tl nw C) (I : Inv X pins σ H s) (e : H a = some (exo a C none)) (no : PySem.W.findIn X.K (.ref C) f = some none) (ry : RelV y u)
    (nx : ∀ dx s', H dx = none → dx ≠ a → Inv X pins σ (upd (upd H dx (exd dx [(f, y)])) a (exo a C (some dx))) s' → Q () s') : wpAny (model X.prog X.w) A (setAttr (.ref a) f u) Q E s := by
  obtain ⟨a1, a2, a3, a4, bm, a5, a6, a7, a8, a9, c0, c1, c2, c3, c5, hC, hbm⟩ := T.cls
  have hcl : PySem.W.clsIn X.K C = some { name := a1, bases := a4, mro := .ref C :: bm, ns := a3, qualname := a2, hasDict := true, slotNames := a5, subclasses := a6, abstract := a7, collection := a8, hasDel := false } := by unfold PySem.W.clsIn; rw [hC] <;> rfl
  obtain ⟨t1, ho⟩ := exo_at I.hok e
  obtain ⟨hp, g, d, t, os⟩ := s
  refine PySem.W.set_plain I.kIn (ox := { cls := .ref C, dict := none, data := .fields #[.ref t1, .none, .none, .none, .bool false, .none] }) (od := none) ⟨ho, rfl, rfl, trivial⟩ T.sa ?_
  refine LMX.setT F I.kIn ho hcl (show LMX.refsT tl (.ref C :: bm) = true from hbm) rfl no (fun h1 tk1 dx k dn dne hx hn => ?_)
  have hnd : H dx = none := I.hok.fresh dn
  have nd : ∀ {b : Addr} {o : Obj}, hp.get? b = some o → b ≠ dx := fun {b o} z => Nat.ne_of_lt (Nat.lt_of_lt_of_le (Heap.lt_size z) dn)
  have na : ∀ {b : Addr}, H b = none → b ≠ a := fun {b} n z => by rw [z, e] at n; cases n
  have st : Un X.fs [] H (upd (upd H dx (exd dx [(f, y)])) a (exo a C (some dx))) hp h1 := {
    keep := fun b o z n _ _ => k b o (na n) z
    slot := fun b o z n _ _ => ⟨o.slots, k b o (na n) z⟩
    free := fun b o z n _ => by rw [upd_ne (na n), upd_ne (nd z)]; exact n
    there := fun b o z _ => by
      by_cases hb : b = a
      · rw [hb]; exact ⟨_, hx⟩
      · exact ⟨o, k b o hb z⟩
    tups := fun b xs z => by rw [upd_ne (at_ne e z exo_tup), upd_ne (ne_of_none z hnd)]; exact z
    frzs := fun b o v z => by rw [upd_ne (at_ne e z exo_frz), upd_ne (ne_of_none z hnd)]; exact z
    tbls := fun b ps z => ⟨#[], by rw [upd_ne (at_ne e z exo_tbl), upd_ne (ne_of_none z hnd), z]; simp⟩ }
  refine nx dx _ hnd dne (I.un (t' := tk1) st fun b o z => ?_)
  by_cases hb : b = a
  · subst hb
    rw [upd_same] at z
    cases z
    exact exo_ok hx
  · rw [upd_ne hb] at z
    by_cases hd : b = dx
    · subst hd
      rw [upd_same] at z
      cases z
      exact exd_ok hn (relO_put (fs := []) ry fun g => True.intro)
    · rw [upd_ne hd] at z
      refine (I.hok b o z).stay (fun c v hc r => k c v ?_ r) (fun c hc => ?_) (fun c xs hc => ?_)
      · rcases hc with hc | hc
        · rw [hc]; exact hb
        · exact at_ne e hc exo_own
      · rw [upd_ne (at_ne e hc exo_own), upd_ne (ne_of_none hc hnd)]; exact hc
      · rw [upd_ne (at_ne e hc exo_tup), upd_ne (ne_of_none hc hnd)]; exact hc
/-- B.__init__(self, ..) -/
theorem oinitT {us : List Value} {Q : Value → Shared → Prop} (F : LMX.ExT tl B nw ini) (T : OexT X.K tl nw C) (I : Inv X pins σ H s) (e : H a = some (exo a C none)) (hl : us.length ≤ sizeLine) (nx : ∀ s', Inv X pins σ H s' → Q .none s') :
    wpAny (model X.prog X.w) A (call (.builtin ini) (.ref a :: us)) Q E s := by
  obtain ⟨a1, a2, a3, a4, bm, a5, a6, a7, a8, a9, c0, c1, c2, c3, c5, hC, hbm⟩ := T.cls
  obtain ⟨t1, ho⟩ := exo_at I.hok e
  obtain ⟨hp, g, d, t, os⟩ := s
  refine wpAny_call (PySem.HandSPX.init_base F.base (fun Y => LMX.refsT_has Y bm hbm) (I.kIn _ _ hC) ho hl fun h1 t2 k hx => ?_)
  have J := I.write (t' := t) (x := a) (e := a) (o := exo a C none) (by rw [e]; exact True.intro) (.inl rfl) k ⟨_, hx⟩ (exo_ok hx)
  have same : upd H a (exo a C none) = H := by
    funext b
    by_cases hb : b = a
    · rw [hb, upd_same]; exact e.symm
    · exact upd_ne hb
  rw [same] at J
  exact nx _ J
end
/-- B.__init__(self, ..) -/
def tIniT (K : PySem.W.Frag) (tl : List Value) (nw : String) (ta : TA) : TE := fun σ H Q => ta σ H fun vs H1 => ∃ (a C : Addr) (ws : List V), vs = .ref a :: ws ∧ ws.length ≤ 1000 ∧ OexT K tl nw C ∧ H1 a = some (exo a C none) ∧ Q .non H1
/-- self.f = e, the first field -/
def tOstT (K : PySem.W.Frag) (tl : List Value) (nw : String) (f : Str) (to te : TE) : TS := fun D σ H => te σ H fun y H1 => to σ H1 fun x H2 => ∃ a C : Addr, x = .ref a ∧ OexT K tl nw C ∧ PySem.W.findIn K (.ref C) f = some none ∧
  H2 a = some (exo a C none) ∧ ∀ dx, H2 dx = none → dx ≠ a → D.nx σ (upd (upd H2 dx (exd dx [(f, y)])) a (exo a C (some dx)))
section
variable {tl : List Value} {B nw ini : String} {X : Cx} {o e : Expr} {es : List Expr} {to te : TE} {ta : TA} {f : Str} {p p' p1 p2 pos : Pos} {x : Str}
theorem ty_IE : typeOf (.type "IndexError") = pure (.type "type") := by kernel_rfl
abbrev ieTl : List Value := [.type "IndexError", .type "LookupError", .type "Exception", .type "BaseException", .type "object"]
theorem ie_facts : LMX.ExT ieTl "IndexError" "IndexError.__new__" "IndexError.__init__" := ⟨fun v => PySem.F.store_IndexError.passes v, by decide +kernel, PySem.F.excBase_IndexError, rfl⟩
/-- IndexError.__init__(self, ..) -/
theorem pe_iniIE {pl : Sem Bool} (hg : Gl X "IndexError") (hm : X.mg "IndexError" = none) (hv : PySem.W.findCls X.K (.type "IndexError") (.type "type") "__init__" = some (.val (.builtin "IndexError.__init__"))) (ha : PA X (e :: es) ta)
    (hc : eval (.Call (.Attribute (.Name "IndexError" p1) "__init__" p2) (e :: es) [] pos) X.env = (do
      let it ← eval (.Name "IndexError" p1) X.env
      standAt p2.atName
      let (m, own) ← holding [it] (getMethod it "__init__" pl)
      callWith pos m own (backTo pos (starEach (e :: es) X.env)) (backToKw pos (keywordEach [] X.env))) := by rfl)
    (he : starEach (e :: es) X.env = (false, eval e X.env) :: starEach es X.env := by rfl) (hpl : (backTo pos (starEach es X.env)).any (·.1) = false := by rfl) :
    PE X (.Call (.Attribute (.Name "IndexError" p1) "__init__" p2) (e :: es) [] pos) (tIniT X.K ieTl "IndexError.__new__" ta) := by
  refine ⟨fun pins s σ H Q I h => ?_⟩
  refine PySem.W.methodCall_KW (ld_blt I hg hm PyProof.Rows.Boot.«IndexError» ?_ (by decide) (by decide)) hc
  obtain ⟨m, fr⟩ := I.fr
  refine PySem.W.method_type fr I.ok.mod.kin ty_IE (by decide +kernel) hv (by decide +kernel) ?_
  show wpAny _ _ (callWith pos (Value.builtin "IndexError.__init__") [] (backTo pos (starEach (e :: es) X.env)) []) _ _ _
  refine PyProof.Rows.callWith_method1 (thn (ha.run pos pins _ σ H _ (I.tok _) h) fun us s1 ⟨vs, H1, I1, r1, a, C, ws, ev, hl, T, ea, q⟩ => ?_) he hpl
  subst ev
  cases r1 with
  | @cons _ u0 _ ur ra rw' =>
    obtain rfl : u0 = Value.ref a := ra
    have small : ur.length ≤ sizeLine := by
      have := Paired.length rw'
      rw [sizeLine_eq]
      omega
    exact oinitT ie_facts T I1 ea small fun s2 J => ⟨.non, H1, J, rfl, q⟩
theorem ps_ostT (F : LMX.ExT tl B nw ini) (ho : PE X o to) (he : PE X e te) (hs : swapsWith e (some (.Attribute o f p')) pos.line X.env = pure false := by rfl) : PS X (.Assign [.Attribute o f p'] e pos) (tOstT X.K tl nw f to te) := by
  refine ⟨fun pins s σ H D I h => ?_⟩
  refine plainObj_wpAny_Assign_Attribute (thn (he.run pins s σ H _ I h) fun v s1 ⟨y, H1, I1, r1, q1⟩ => ?_) hs
  refine thn (ho.run pins s1 σ H1 _ I1 q1) fun u s2 ⟨x, H2, I2, r2, a, C, ex, T, no, ea, q⟩ => ?_
  subst ex
  obtain rfl : u = Value.ref a := r2
  exact ost_newT F T I2 ea no r1 fun dx s3 n ne J => ⟨σ, _, J, q dx n ne⟩
/-- C(e, ..), C's own __init__ keeping sp -/
theorem pmk_oexT {CX : CXT} {C fI : Addr} {k : Nat} {fd : FuncData} {ps : List Str} {sp : Sp} {ds : List Value} {dvs : List V} (F : LMX.ExT tl B nw ini) (T : OexT X.K tl nw C) (iC : PySem.W.findIn X.K (.ref C) "__init__" = some (some (.ref fI))) (tI : PySem.W.typeIn X.K (.ref fI) = some (.type "function"))
    (F1 : FnOk X.prog X.w X.K X.mg X.base CX k fI fd ps sp) (hr : Room (k + 1) X.A) (hb : Binds X.K fd ps ds) (hd : Vals dvs ds) (hx : Passes CX X (fun _ _ _ => False)) (hg : Gl X x) (hm : X.mg x = some (.ref C)) (ha : PA X (e :: es) ta)
    (hdb : (x == ("__debug__" : Str)) = false := by decide) (he : starEach (e :: es) X.env = (false, eval e X.env) :: starEach es X.env := by rfl) (hpl : (backTo pos (starEach es X.env)).any (·.1) = false := by rfl) :
    PMk X (.Call (.Name x p) (e :: es) [] pos) (tMkO C sp dvs ta) := by
  intro pins s σ H Q I h
  obtain ⟨a1, a2, a3, a4, bm, a5, a6, a7, a8, a9, c0, c1, c2, c3, c5, hC, hbm⟩ := T.cls
  refine wpAny_Call_Name_kw (ld_glob I hg hm ?_ hdb)
  refine PySem.W.callWith_K (h₀ := X.base) I.ok.mod.kin T.kC (thn (ha.run pos pins s σ H _ I h) fun us s1 ⟨vs, H1, I1, r1, hz, q1⟩ => ⟨I1.kIn, ?_⟩) he hpl
  show wpAny _ _ (call (.ref C) us) _ _ _
  obtain ⟨hp, g, dr, tk, os⟩ := s1
  have above : hp.objs.size ≤ hp.objs.size + 1 := Nat.le_succ _
  have none1 : H1 (hp.objs.size + 1) = none := I1.hok.fresh above
  have hq := q1 (hp.objs.size + 1) none1
  have kk : ∀ b o, hp.get? b = some o → ((hp.push (PySem.W.kdv_tup us)).push (PySem.HandSPX.excO C hp.objs.size)).get? b = some o := fun b o z => Heap.get?_push_of_some _ (Heap.get?_push_of_some _ z)
  have hget : ((hp.push (PySem.W.kdv_tup us)).push (PySem.HandSPX.excO C hp.objs.size)).get? (hp.objs.size + 1) = some (PySem.HandSPX.excO C hp.objs.size) := by heap_get
  have I2 : Inv X pins σ (upd H1 (hp.objs.size + 1) (exo (hp.objs.size + 1) C none)) ⟨(hp.push (PySem.W.kdv_tup us)).push (PySem.HandSPX.excO C hp.objs.size), g, dr, tk, os⟩ := I1.laid (t' := tk) kk above (exo_ok hget)
  have r2 : Vals (V.ref (hp.objs.size + 1) :: (vs ++ dvs)) (Value.ref (hp.objs.size + 1) :: (us ++ ds)) := .cons rfl (r1.append hd)
  have hl : (Value.ref (hp.objs.size + 1) :: us ++ ds).length = ps.length := by
    have z := r2.length
    rw [F1.len _ _ _ _ hq] at z
    exact z.symm
  have hus : us.length ≤ sizeLine := by
    have := Paired.length r1
    rw [sizeLine_eq]
    omega
  refine wpAny_call (PySem.HandSPX.call_own F.base (fun Y => LMX.refsT_has Y bm hbm) (I1.kIn _ _ hC) (PySem.W.looks_findIn I1.kIn iC) (fun self => PySem.W.bind_fn I1.kIn self tI) hus (codeAny_mono (F1.run _ X.stack _ _ ⟨Value.ref (hp.objs.size + 1) :: us, []⟩ (Value.ref (hp.objs.size + 1) :: (us ++ ds)) _ _ (fun _ _ _ => False) (hr.make C us []) (I2.env0.make C us []) (hb _ (Value.ref (hp.objs.size + 1) :: us) I2.kIn hl) r2 hq) fun r s2 z => ?_))
  cases r with
  | error er => exact hx pins σ _ _ er s2 I2 z
  | ok fl =>
    cases fl with
    | ret u =>
      obtain ⟨v, H2, os2, bare2, un2, hok2, rv, ev, d, fs, ea, ed, hd1, q2⟩ := z
      subst ev
      obtain ⟨h2, g2, d2, t2, os'⟩ := s2
      exact ⟨rv, mk_end (raises_own T.exC T.tyC) I1 above kk un2 hok2 os2 bare2 ea ed hd1 q2⟩
    | next => exact False.elim z
    | brk => exact False.elim z
    | cont => exact False.elim z
end
end LM
set_option Elab.async false
set_option linter.all false
set_option maxRecDepth 100000
set_option maxHeartbeats 4000000
/-! what the head is asked beyond the kit's facts -/
namespace LM
open PySem PySem.Spec PyProof.Rows L2
theorem ba2 {a b : Bool} (h : (a && b) = true) : a = true ∧ b = true := Bool.and_eq_true_iff.mp h
/-! ### a table of texts and numbers -/
theorem ptW_eq (z : Str) : ptW z = lkN z ptL := rfl
theorem rowB_ok {e : DictEntry} {q : Str × Nat} (h : rowB e q = true) : (∃ t, e.key = .str q.1 t) ∧ ∃ t, e.val = .int (q.2 : Int) t := by
  obtain ⟨h1, h2⟩ := ba2 h
  refine ⟨?_, ?_⟩
  · cases q1 : e.key with
    | str x t =>
      rw [q1] at h1
      exact ⟨t, by rw [show x = q.1 from of_decide_eq_true h1]⟩
    | _ => rw [q1] at h1; cases h1
  · cases q1 : e.val with
    | int i t =>
      rw [q1] at h2
      exact ⟨t, by rw [show i = (q.2 : Int) from of_decide_eq_true h2]⟩
    | _ => rw [q1] at h2; cases h2
theorem rows_find (z : Str) : ∀ {es : List DictEntry} {qs : List (Str × Nat)}, rowsB es qs = true → (∀ n, lkN z qs = some n → ∃ e, es.find? (·.key.isStr z) = some e ∧ ∃ t, e.val = .int (n : Int) t) ∧ (lkN z qs = none → es.find? (·.key.isStr z) = none) ∧ es.any (·.refKey) = false
  | [], [], _ => ⟨fun n h => by (cases h), fun _ => rfl, rfl⟩
  | [], _ :: _, h => by cases h
  | _ :: _, [], h => by cases h
  | e :: es, (k, m) :: qs, h => by
    obtain ⟨h1, h2⟩ := ba2 (show (rowB e (k, m) && rowsB es qs) = true from h)
    obtain ⟨⟨t, ek⟩, ⟨u, ev⟩⟩ := rowB_ok h1
    obtain ⟨i1, i2, i3⟩ := rows_find z h2
    have kk : e.key.isStr z = (k == z) := by rw [ek]; rfl
    have ar : (e :: es).any (·.refKey) = false := by
      rw [List.any_cons, i3]
      have : e.refKey = false := by unfold DictEntry.refKey; rw [ek]
      rw [this]
      rfl
    refine ⟨fun n hn => ?_, fun hn => ?_, ar⟩
    · rw [List.find?_cons]
      unfold lkN at hn
      by_cases c : z = k
      · rw [if_pos c] at hn
        have e1 : e.key.isStr z = true := by rw [kk, c]; exact beq_self_eq_true k
        rw [e1]
        exact ⟨e, rfl, u, by rw [ev]; cases hn; rfl⟩
      · rw [if_neg c] at hn
        have e1 : e.key.isStr z = false := by
          rw [kk]
          exact beq_eq_false_iff_ne.mpr fun q => c q.symm
        rw [e1]
        exact i1 n hn
    · rw [List.find?_cons]
      unfold lkN at hn
      by_cases c : z = k
      · rw [if_pos c] at hn; cases hn
      · rw [if_neg c] at hn
        have e1 : e.key.isStr z = false := by
          rw [kk]
          exact beq_eq_false_iff_ne.mpr fun q => c q.symm
        rw [e1]
        exact i2 hn
theorem wd_of {K : PySem.W.Frag} {w : World} {a : Addr} (kd : ∃ es n, KDict K w a es n) (h : tabB K a ptL = true) : Wd K w a ptW := by
  unfold tabB at h
  obtain ⟨es, n, D⟩ := kd
  have hl := D.at_
  rw [hl] at h
  have h' : rowsB es.toList ptL = true := h
  refine ⟨⟨es, n, D⟩, fun z m hz => ?_, fun z hz => ?_⟩
  · obtain ⟨e, he, t, ev⟩ := (rows_find z h').1 m (by rw [← ptW_eq]; exact hz)
    refine ⟨e.val, ?_, ?_⟩
    · unfold PySem.W.nsIn
      rw [hl]
      dsimp only
      rw [he]
    · rw [ev]
      exact ⟨t, rfl⟩
  · have he := (rows_find z h').2.1 (by rw [← ptW_eq]; exact hz)
    unfold PySem.W.nsIn
    rw [hl]
    dsimp only
    rw [he]
    dsimp only
    rw [(rows_find z h').2.2]
    rfl
/-! ### errors -/
theorem oexB_ok {K : PySem.W.Frag} {C : Addr} (h : oexB K C = true) : OexC K C := by
  obtain ⟨h0, h⟩ := ba2 h
  obtain ⟨h1, h⟩ := ba2 h
  obtain ⟨h2, h⟩ := ba2 h
  obtain ⟨h3, h4⟩ := ba2 h
  refine ⟨?_, He.eqO_ok h1, of_decide_eq_true h2, of_decide_eq_true h3, h4⟩
  split at h0
  · rename_i c dd cd sl ho
    split at h0
    · rename_i C' bm k0 k1 k2 k3 n k5 hm hs
      obtain ⟨a1, h0⟩ := ba2 h0
      obtain ⟨a2, h0⟩ := ba2 h0
      obtain ⟨a3, h0⟩ := ba2 h0
      obtain ⟨a4, h0⟩ := ba2 h0
      obtain ⟨a5, a6⟩ := ba2 h0
      have e1 := of_decide_eq_true a1
      have e2 := beq_iff_eq.mp a2
      have e3 := of_decide_eq_true a3
      obtain ⟨nm, bs, mro, ns, qn, hd, sn, sub, ab, col, del⟩ := cd
      dsimp only at hm a4 a5
      have e4 : del = false := by cases del <;> first | rfl | cases a4
      have e5 : hd = true := a5
      subst e1 e2 e3 e4 e5
      have hsl : sl = #[k0, k1, k2, k3, some (.builtin "ValueError.__new__"), k5] := by
        obtain ⟨l⟩ := sl
        simp only at hs
        rw [hs]
      subst hsl hm
      exact ⟨nm, qn, ns, bs, bm, sn, sub, ab, col, dd, k0, k1, k2, k3, k5, ho, a6⟩
    · cases h0
  · cases h0
theorem refsIE_eq : ∀ l : List Value, refsIE l = LMX.refsT ieTl l := by
  intro l
  induction l with
  | nil => rfl
  | cons a l ih => cases a <;> first | rfl | exact ih
theorem oexTB_ok {K : PySem.W.Frag} {C : Addr} (h : oexTB K C = true) : OexT K ieTl "IndexError.__new__" C := by
  obtain ⟨h0, h⟩ := ba2 h
  obtain ⟨h1, h⟩ := ba2 h
  obtain ⟨h2, h⟩ := ba2 h
  obtain ⟨h3, h4⟩ := ba2 h
  refine ⟨?_, He.eqO_ok h1, of_decide_eq_true h2, of_decide_eq_true h3, h4⟩
  split at h0
  · rename_i c dd cd sl ho
    split at h0
    · rename_i C' bm k0 k1 k2 k3 n k5 hm hs
      obtain ⟨a1, h0⟩ := ba2 h0
      obtain ⟨a2, h0⟩ := ba2 h0
      obtain ⟨a3, h0⟩ := ba2 h0
      obtain ⟨a4, h0⟩ := ba2 h0
      obtain ⟨a5, a6⟩ := ba2 h0
      have e1 := of_decide_eq_true a1
      have e2 := beq_iff_eq.mp a2
      have e3 := of_decide_eq_true a3
      obtain ⟨nm, bs, mro, ns, qn, hd, sn, sub, ab, col, del⟩ := cd
      dsimp only at hm a4 a5
      have e4 : del = false := by cases del <;> first | rfl | cases a4
      have e5 : hd = true := a5
      subst e1 e2 e3 e4 e5
      have hsl : sl = #[k0, k1, k2, k3, some (.builtin "IndexError.__new__"), k5] := by
        obtain ⟨l⟩ := sl
        simp only at hs
        rw [hs]
      subst hsl hm
      exact ⟨nm, qn, ns, bs, bm, sn, sub, ab, col, dd, k0, k1, k2, k3, k5, ho, by rw [← refsIE_eq]; exact a6⟩
    · cases h0
  · cases h0
theorem excCB_ok {K : PySem.W.Frag} {D : Addr} (h : excCB K D = true) : ExcC K D := by
  obtain ⟨h1, h⟩ := ba2 h
  obtain ⟨h2, h⟩ := ba2 h
  obtain ⟨h3, h⟩ := ba2 h
  obtain ⟨h4, h⟩ := ba2 h
  obtain ⟨h5, h⟩ := ba2 h
  obtain ⟨h6, h⟩ := ba2 h
  obtain ⟨h7, h8⟩ := ba2 h
  exact ⟨He.eqO_ok h1, He.eqO_ok h2, of_decide_eq_true h3, h4, He.eqO_ok h5, He.eqO_ok h6, of_decide_eq_true h7, of_decide_eq_true h8⟩
theorem iniB_ok {K : PySem.W.Frag} {x : Str} (h : iniB K x = true) : PySem.W.findIn K (.ref (He.ga K x)) "__init__" = some (some (.ref (He.ma K (He.ga K x) "__init__"))) ∧ PySem.W.typeIn K (.ref (He.ma K (He.ga K x) "__init__")) = some (.type "function") := by
  obtain ⟨h1, h2⟩ := ba2 h
  exact ⟨He.eqO_ok h1, of_decide_eq_true h2⟩
theorem noB_ok {K : PySem.W.Frag} {x : Str} {fs : List Str} (h : noB K x fs = true) : ∀ f ∈ fs, PySem.W.findIn K (.ref (He.ga K x)) f = some none := fun f hf => He.eqO_ok (List.all_eq_true.mp h f hf)
theorem srtB_all {K : PySem.W.Frag} {nm : Str} (h : srtB K nm = true) : ∀ x ∈ sortNm, PySem.W.kitOne K (.ref (He.ga K nm)) (.ref (He.ga K x)) = some (decide (x = nm)) := fun x hx => of_decide_eq_true (List.all_eq_true.mp h x hx)
theorem fndB_ok {r : Option PySem.W.CFound} {u : Value} (h : fndB r u = true) : r = some (.val u) := by
  unfold fndB at h
  split at h
  · rw [of_decide_eq_true h]
  · cases h
theorem ieB_ok {K : PySem.W.Frag} (h : ieB K = true) : PySem.W.findCls K (.type "IndexError") (.type "type") "__init__" = some (.val (.builtin "IndexError.__init__")) := fndB_ok h
/-! ### nested data of the top -/
def DtAt (K : PySem.W.Frag) (f : Value → Bool) (d : Dt) : Prop := ∀ v, f v = true → ∀ H : Hp, ∃ x, RelV x v ∧ DR K H x d ∧ ∀ a, v = .ref a → x = .ref a
theorem DtAt.int {K : PySem.W.Frag} {i : Int} : DtAt K (intAt i) (.int i) := fun v h H => by
  cases v with
  | int j t =>
    have e : j = i := of_decide_eq_true (show decide (j = i) = true from h)
    subst e
    exact ⟨.int j, ⟨t, rfl⟩, .int j, fun a z => by cases z⟩
  | _ => cases h
theorem DtAt.str {K : PySem.W.Frag} {x : Str} : DtAt K (strAt x) (.str x) := fun v h H => by
  cases v with
  | str y t =>
    have e : y = x := of_decide_eq_true (show decide (y = x) = true from h)
    subst e
    exact ⟨.str y, ⟨t, rfl⟩, .str y, fun a z => by cases z⟩
  | _ => cases h
inductive DtsAt (K : PySem.W.Frag) : List (Value → Bool) → List Dt → Prop
  | nil : DtsAt K [] []
  | cons {f : Value → Bool} {d : Dt} {fs : List (Value → Bool)} {ds : List Dt} : DtAt K f d → DtsAt K fs ds → DtsAt K (f :: fs) (d :: ds)
theorem allAt_ok {K : PySem.W.Frag} {fs : List (Value → Bool)} {ds : List Dt} (h : DtsAt K fs ds) : ∀ {vs : List Value}, allAt fs vs = true → ∀ H : Hp, ∃ xs, Vals xs vs ∧ DRs K H xs ds := by
  induction h with
  | nil =>
    intro vs hv H
    cases vs with
    | nil => exact ⟨[], .nil, .nil⟩
    | cons _ _ => cases hv
  | @cons f d fs ds h1 _ ih =>
    intro vs hv H
    cases vs with
    | nil => cases hv
    | cons v vs =>
      obtain ⟨a1, a2⟩ := ba2 (show (f v && allAt fs vs) = true from hv)
      obtain ⟨x, r1, d1, _⟩ := h1 v a1 H
      obtain ⟨xs, r2, d2⟩ := ih a2 H
      exact ⟨x :: xs, .cons r1 r2, .cons d1 d2⟩
theorem DtAt.tup {K : PySem.W.Frag} {fs : List (Value → Bool)} {ds : List Dt} (hs : DtsAt K fs ds) : DtAt K (tupAt K fs) (.tup ds) := fun v h H => by
  cases v with
  | ref a =>
    have h' : (match K.lookup a with
      | some ⟨.type c, _, .seq its _, _⟩ => decide (c = "tuple") && (decide (its.size ≤ sizeLine) && allAt fs its.toList)
      | _ => false) = true := h
    split at h'
    · rename_i c dd its n sl ho
      obtain ⟨h1, h2⟩ := ba2 h'
      obtain ⟨h3, h4⟩ := ba2 h2
      obtain ⟨xs, rx, rd⟩ := allAt_ok hs h4 H
      exact ⟨.ref a, rfl, .tup (.inr ⟨_, its, n, ho, congrArg Value.type (of_decide_eq_true h1), rfl, of_decide_eq_true h3, rx⟩) rd, fun b z => by cases z; rfl⟩
    · cases h'
  | _ => cases h
def stockDt : Dt := .tup [.tup [.tup [.int 0, .int 1], .tup [.int 1, .int 1]], .tup [.tup [.int 1, .int 1], .tup [.int (-1), .int 1]], .tup [.tup [.str "least", .int 1], .tup [.str "most", .int 1], .tup [.str "atmost", .int 1], .tup [.str "if", .int 1]]]
theorem stock_at {K : PySem.W.Frag} {a : Addr} (h : stockB K (.ref a) = true) (H : Hp) : DR K H (.ref a) stockDt := by
  have two : ∀ {f g : Value → Bool} {d e : Dt}, DtAt K f d → DtAt K g e → DtAt K (tupAt K [f, g]) (.tup [d, e]) := fun a b => .tup (.cons a (.cons b .nil))
  have t : DtAt K (stockB K) stockDt := .tup (.cons (two (two .int .int) (two .int .int)) (.cons (two (two .int .int) (two .int .int)) (.cons (.tup (.cons (two .str .int) (.cons (two .str .int) (.cons (two .str .int) (.cons (two .str .int) .nil))))) .nil)))
  obtain ⟨x, _, d, e⟩ := t _ h H
  rw [e a rfl] at d
  exact d
/-! ### the Hook: as the kit's, the statics' record too -/
end LM
set_option Elab.async false
set_option linter.all false
set_option maxRecDepth 100000
set_option maxHeartbeats 4000000
namespace LM
open PySem PySem.Spec PyProof.Rows L2
section
variable {P : Program} {w : World} {K : PySem.W.Frag} {mg : Str → Option Value} {base : Heap}
/-! ### cells and draws: any numbers -/
def spCell (K : PySem.W.Frag) : Sp := fun vs H Q _ => ∃ (a : Addr) (ns : List Int) (k : Int), vs = [.ref a, .int k] ∧ SqL K H a (ns.map V.int) ∧ 0 ≤ k ∧ k < 1000 ∧ ∀ c : Int, Q (.int c) H
theorem at_ints {ns : List Int} {i : Int} (h0 : 0 ≤ i) (h1 : i < ns.length) : ∃ z, atI (ns.map V.int) i = some (V.int z) := by
  obtain ⟨n, rfl⟩ : ∃ n : Nat, i = (n : Int) := ⟨i.toNat, by omega⟩
  have hn : n < ns.length := by omega
  refine ⟨ns[n], atI_nat ?_⟩
  rw [List.getElem?_map, List.getElem?_eq_getElem hn]
  rfl
theorem sc_cell : FnScope ["_law_script", "_law_k", "_law_number"] ["_law_script", "_law_k"] (defScope (top 42)) := ⟨rfl, rfl, rfl, by decide +kernel, rfl, by decide +kernel, by decide +kernel⟩
theorem ok_cell (D : Df K mg "_law_cell" (top 42)) (T : Bn mg) : OkF P w K mg base CX0 1 "_law_cell" ["_law_script", "_law_k"] (spCell K) := by
  refine okF0 D sc_cell (fun _ _ _ _ _ _ us hl => match us, hl with | [_, _], _ => rfl) (fun vs H Q E h => ?_) (fun cdv A outer s H vs Q E hr h => ?_)
  · obtain ⟨a, ns, k, rfl, _⟩ := h
    rfl
  · obtain ⟨a, ns, k, rfl, hS, k0, k1, q⟩ := h
    have nd := sc_cell.nd
    refine ⟨_, (pss_cons (ps_if (pt_cmpR op_lt (pv 1) (pe_callB (r := rLenS K) call_len_seq (by rfl) T.b_len PySem.boot_len (pa_cons (pv 0) pa_nil)) (nomark _)) (pss_one (ps_ret (pe_ix (r := rIxL K) ix_list (pv 0) (pv 1) (fun _ _ => rfl)))) pss_nil)
  (pss_cons (ps_set (i := 2) nd rfl (Or.inl rfl) (pe_op op_add (pe_op op_mul (pv 1) pe_int) pe_int))
  (pss_cons (ps_if (pt_cmpR op_gt (pe_callB (r := rLenS K) call_len_seq (by rfl) T.b_len PySem.boot_len (pa_cons (pv 0) pa_nil)) pe_int (nomark _)) (pss_one (ps_set (i := 2) nd rfl (Or.inl rfl) (pe_op op_add (pe_op op_mul (pe_op op_mod (pe_ix (r := rIxL K) ix_list (pv 0) (pe_op op_mod (pe_op op_mul (pv 1) pe_int) (pe_callB (r := rLenS K) call_len_seq (by rfl) T.b_len PySem.boot_len (pa_cons (pv 0) pa_nil))) (fun _ _ => rfl)) pe_int) pe_int) (pe_op op_mul (pv 1) pe_int)))) pss_nil)
  (pss_one (ps_ret (pe_op op_mul (pe_op op_mod (pv 2) pe_int) pe_int)))))), ?_⟩
    refine ⟨_, rfl, _, rfl, _, _, rfl, .inl hS, _, _, rfl, rfl, _, rfl, ?_⟩
    refine iteD (fun c => ?_) (fun c => ?_)
    · rw [List.length_map] at c
      obtain ⟨z, hz⟩ := at_ints k0 c
      exact ⟨_, rfl, _, rfl, _, _, _, _, rfl, rfl, hS, hz, q z⟩
    · refine ⟨_, rfl, _, _, rfl, rfl, .inl ⟨by omega, by omega⟩, _, _, rfl, rfl, ?_⟩
      refine ⟨_, rfl, _, _, rfl, .inl hS, _, _, rfl, rfl, _, rfl, ?_⟩
      refine iteD (fun c2 => ?_) (fun c2 => ?_)
      · rw [List.length_map] at c2
        obtain ⟨z, hz⟩ := at_ints (ns := ns) (i := k * 7 % (ns.length : Int)) (Int.emod_nonneg _ (by omega)) (Int.emod_lt_of_pos _ c2)
        refine ⟨_, rfl, _, rfl, _, _, rfl, rfl, .inl ⟨by omega, by omega⟩, _, rfl, _, _, rfl, .inl hS, _, _, rfl, rfl, (by rw [List.length_map]; exact c2), _, _, _, _, rfl, rfl, hS, (by rw [List.length_map]; exact hz), ?_⟩
        refine ⟨_, _, rfl, rfl, (by show (0 : Int) < _; decide), _, _, rfl, rfl, .inl ⟨by omega, by omega⟩, _, rfl, _, _, rfl, rfl, .inl ⟨by omega, by omega⟩, _, _, rfl, rfl, ?_⟩
        exact ⟨_, rfl, _, _, rfl, rfl, (by show (0 : Int) < _; decide), _, _, rfl, rfl, .inr ⟨by decide, by decide⟩, q _⟩
      · exact ⟨_, rfl, _, _, rfl, rfl, (by show (0 : Int) < _; decide), _, _, rfl, rfl, .inr ⟨by decide, by decide⟩, q _⟩
/-- a flow stands at F -/
def FlAt (H : Hp) (F : Addr) : Prop := ∃ a b c : Int, H F = some (.lst [.int a, .int b, .int c]) ∧ -(2 ^ 64) < c ∧ c < 2 ^ 64
theorem FlAt.ch {S : List Addr} {H H' : Hp} {F : Addr} (f : FlAt H F) (c : Ch S H H') (h : F ∉ S) : FlAt H' F := by
  obtain ⟨a, b, z, e, l⟩ := f
  exact ⟨a, b, z, c F _ h e, l⟩
theorem FlAt.noTup {H : Hp} {F : Addr} (f : FlAt H F) : NoTup (H F) := by
  obtain ⟨a, b, z, e, l⟩ := f
  rw [e]; trivial
def spFlow (K : PySem.W.Frag) : Sp := fun vs H Q _ => ∃ (a : Addr) (ns : List Int) (k : Int), vs = [.ref a, .int k] ∧ SqL K H a (ns.map V.int) ∧ 0 ≤ k ∧ k < 1000 ∧ ∀ (F : Addr) (H' : Hp), H F = none → Ch [] H H' → FlAt H' F → Q (.ref F) H'
theorem sc_flow : FnScope ["_law_script", "_law_k", "_law_cell_here", "_law_own_here"] ["_law_script", "_law_k"] (defScope (top 43)) := ⟨rfl, rfl, rfl, by decide +kernel, rfl, by decide +kernel, by decide +kernel⟩
theorem ok_flow (D : Df K mg "_law_flow" (top 43)) (T : Bn mg) (O__law_cell : OkF P w K mg base CX0 1 "_law_cell" ["_law_script", "_law_k"] (spCell K)) : OkF P w K mg base CX0 2 "_law_flow" ["_law_script", "_law_k"] (spFlow K) := by
  refine okF0 D sc_flow (fun _ _ _ _ _ _ us hl => match us, hl with | [_, _], _ => rfl) (fun vs H Q E h => ?_) (fun cdv A outer s H vs Q E hr h => ?_)
  · obtain ⟨a, ns, k, rfl, _⟩ := h
    rfl
  · obtain ⟨a, ns, k, rfl, hS, k0, k1, q⟩ := h
    have nd := sc_flow.nd
    refine ⟨_, (pss_cons (ps_set (i := 2) nd rfl (Or.inl rfl) (pe_callF O__law_cell (hr.mono (by omega)) rfl pass0 (pa_cons (pv 0) (pa_cons (pv 1) pa_nil))))
  (pss_cons (ps_set (i := 3) nd rfl (Or.inl rfl) pe_int)
  (pss_cons (ps_if (pt_cmpR op_ge (pv 2) (pe_op op_pow pe_int pe_int) (nomark _)) (pss_one (ps_set (i := 3) nd rfl (Or.inl rfl) (pv 2))) pss_nil)
  (pss_one (ps_ret (pe_lst (pa_cons (pv 3) (pa_cons pe_int (pa_cons (pe_op op_add (pe_op op_mod (pv 2) pe_int) (pe_op op_mul pe_int (pv 1))) pa_nil))))))))), ?_⟩
    refine ⟨_, rfl, _, rfl, a, ns, k, rfl, hS, k0, k1, fun c => ?_⟩
    have last : ∀ (z : Int) (σ : L2.St), σ[1]? = some (some (.int k)) → σ[2]? = some (some (.int c)) → σ[3]? = some (some (.int z)) →
        (tRet (tLst (tCons (tVar 3) (tCons (tC (.int 0)) (tCons (tOp (rI0 fun i j => .int (i + j)) (tOp (rI (fun _ j => 0 < j) fun i j => .int (i % j)) (tVar 2) (tC (.int 2147483629))) (tOp (rI CMul fun i j => .int (i * j)) (tC (.int 40692)) (tVar 1))) tNil))))) { nx := fun _ H' => Q .non H', rt := Q } σ H := by
      intro z σ h1 h2 h3
      refine ⟨_, h3, _, h2, _, _, rfl, rfl, (by show (0 : Int) < _; decide), _, h1, _, _, rfl, rfl, .inl ⟨by decide, by decide⟩, _, _, rfl, rfl, (by show 3 ≤ sizeLine; decide), fun p hp => ?_⟩
      have hm := Int.emod_nonneg c (show (2147483629 : Int) ≠ 0 by decide)
      have hm2 := Int.emod_lt_of_pos c (show (0 : Int) < 2147483629 by decide)
      exact q p _ hp (.new hp) ⟨_, _, _, upd_same, by omega, by omega⟩
    refine ⟨_, rfl, _, _, rfl, rfl, ⟨by decide, by decide, by decide⟩, _, _, rfl, rfl, _, rfl, ?_⟩
    refine iteD (fun _ => ?_) (fun _ => ?_)
    · exact ⟨_, rfl, last _ _ rfl rfl rfl⟩
    · exact last _ _ rfl rfl rfl
/-- a draw below m: some number, the flow some flow, nothing else changed -/
def spDraw : Sp := fun vs H Q _ => ∃ (F : Addr) (m : Int), vs = [.ref F, .int m] ∧ FlAt H F ∧ 0 < m ∧ m < 1073741824 ∧ ∀ (d : Int) (H' : Hp), 0 ≤ d → d < m → Ch [F] H H' → FlAt H' F → Q (.int d) H'
theorem sc_draw : FnScope ["_law_flow_here", "_law_many", "_law_digit", "_law_number"] ["_law_flow_here", "_law_many"] (defScope (top 44)) := ⟨rfl, rfl, rfl, by decide +kernel, rfl, by decide +kernel, by decide +kernel⟩
theorem ok_draw (D : Df K mg "_law_draw" (top 44)) : OkF P w K mg base CX0 1 "_law_draw" ["_law_flow_here", "_law_many"] spDraw := by
  refine okF0 D sc_draw (fun _ _ _ _ _ _ us hl => match us, hl with | [_, _], _ => rfl) (fun vs H Q E h => ?_) (fun cdv A outer s H vs Q E hr h => ?_)
  · obtain ⟨F, m, rfl, _⟩ := h
    rfl
  · obtain ⟨F, m, rfl, ⟨a, b, c, hF, c0, c1⟩, m0, m1, q⟩ := h
    have nd := sc_draw.nd
    have m2 : m ≠ 0 := by omega
    refine ⟨_, (pss_cons (ps_if (pt_cmpR op_gt (pe_ix (r := rIxL K) ix_list (pv 0) pe_int (fun _ _ => rfl)) pe_int (nomark _)) (pss_cons (ps_set (i := 2) nd rfl (Or.inl rfl) (pe_op op_mod (pe_ix (r := rIxL K) ix_list (pv 0) pe_int (fun _ _ => rfl)) (pv 1)))
  (pss_cons (ps_asg (pe_op op_fdiv (pe_ix (r := rIxL K) ix_list (pv 0) pe_int (fun _ _ => rfl)) (pv 1)) (pg_sub (pv 0) pe_int set_list))
  (pss_one (ps_ret (pv 2))))) pss_nil)
  (pss_cons (ps_asg (pe_op op_add (pe_ix (r := rIxL K) ix_list (pv 0) pe_int (fun _ _ => rfl)) pe_int) (pg_sub (pv 0) pe_int set_list))
  (pss_cons (ps_set (i := 3) nd rfl (Or.inl rfl) (pe_op op_mod (pe_op op_add (pe_op op_add (pe_op op_mul (pe_ix (r := rIxL K) ix_list (pv 0) pe_int (fun _ _ => rfl)) (pe_op op_add pe_int (pe_op op_mul pe_int (pe_ix (r := rIxL K) ix_list (pv 0) pe_int (fun _ _ => rfl))))) (pe_op op_mul pe_int (pe_ix (r := rIxL K) ix_list (pv 0) pe_int (fun _ _ => rfl)))) pe_int) pe_int))
  (pss_cons (ps_set (i := 3) nd rfl (Or.inl rfl) (pe_op op_mod (pe_op op_mul (pv 3) (pv 3)) pe_int))
  (pss_one (ps_ret (pe_op op_mod (pe_op op_fdiv (pe_op op_mod (pe_op op_mul (pe_op op_add (pv 3) pe_int) (pe_op op_add (pv 3) pe_int)) pe_int) pe_int) (pv 1)))))))), ?_⟩
    have L : ∀ (x y z : Int) (H' : Hp), H' F = some (.lst [.int x, .int y, .int z]) → SqL K H' F [.int x, .int y, .int z] := fun x y z H' e => SqL.of e
    refine ⟨_, rfl, _, _, _, _, rfl, rfl, L _ _ _ _ hF, rfl, _, _, rfl, rfl, _, rfl, ?_⟩
    refine iteD (fun c2 => ?_) (fun c2 => ?_)
    · refine ⟨_, rfl, _, _, _, _, rfl, rfl, L _ _ _ _ hF, rfl, _, rfl, _, _, rfl, rfl, m0, ?_⟩
      refine ⟨_, rfl, _, _, _, _, rfl, rfl, L _ _ _ _ hF, rfl, _, rfl, _, _, rfl, rfl, ⟨m0, m1⟩, _, rfl, F, _, _, _, rfl, rfl, hF, rfl, ?_⟩
      exact ⟨_, rfl, q _ _ (Int.emod_nonneg _ m2) (Int.emod_lt_of_pos _ m0) (.put (by simp)) ⟨_, _, _, upd_same, c0, c1⟩⟩
    · refine ⟨_, rfl, _, _, _, _, rfl, rfl, L _ _ _ _ hF, rfl, _, _, rfl, rfl, _, rfl, F, _, _, _, rfl, rfl, hF, rfl, ?_⟩
      have hF2 : upd H F (.lst [.int a, .int (b + 1), .int c]) F = some (.lst [.int a, .int (b + 1), .int c]) := upd_same
      refine ⟨_, rfl, _, _, _, _, rfl, rfl, L _ _ _ _ hF2, rfl, _, rfl, _, _, _, _, rfl, rfl, L _ _ _ _ hF2, rfl, _, _, rfl, rfl, .inl ⟨by decide, by decide⟩, _, _, rfl, rfl, _, _, rfl, rfl, .inl ⟨c0, c1⟩, _, rfl, _, _, _, _, rfl, rfl, L _ _ _ _ hF2, rfl, _, _, rfl, rfl, .inl ⟨by decide, by decide⟩, _, _, rfl, rfl, _, _, rfl, rfl, _, _, rfl, rfl, (by show (0 : Int) < _; decide), ?_⟩
      generalize hn : (c * (48271 + 2 * (b + 1)) + 7919 * (b + 1) + 1) % 2147483629 = n
      have n0 : 0 ≤ n := by rw [← hn]; exact Int.emod_nonneg _ (by decide)
      have n1 : n < 2147483629 := by rw [← hn]; exact Int.emod_lt_of_pos _ (by decide)
      refine ⟨_, rfl, _, rfl, _, _, rfl, rfl, .inl ⟨by omega, by omega⟩, _, _, rfl, rfl, (by show (0 : Int) < _; decide), ?_⟩
      generalize hk : n * n % 2147483587 = k
      have k0 : 0 ≤ k := by rw [← hk]; exact Int.emod_nonneg _ (by decide)
      have k1 : k < 2147483587 := by rw [← hk]; exact Int.emod_lt_of_pos _ (by decide)
      refine ⟨_, rfl, _, _, rfl, rfl, _, rfl, _, _, rfl, rfl, _, _, rfl, rfl, .inl ⟨by omega, by omega⟩, _, _, rfl, rfl, (by show (0 : Int) < _; decide), _, _, rfl, rfl, ⟨by decide, by decide⟩, _, rfl, _, _, rfl, rfl, m0, ?_⟩
      exact q _ _ (Int.emod_nonneg _ m2) (Int.emod_lt_of_pos _ m0) (.put (by simp)) ⟨_, _, _, hF2, c0, c1⟩
end
end LM
set_option Elab.async false
set_option linter.all false
set_option maxRecDepth 100000
set_option maxHeartbeats 4000000
namespace LM
open PySem PySem.Spec PyProof.Rows L2
section
variable {P : Program} {w : World} {K : PySem.W.Frag} {mg : Str → Option Value} {base : Heap}
/-! ### numbers, leaves, programs: any -/
def spNumeral : Sp := fun vs H Q _ => ∃ F : Addr, vs = [.ref F] ∧ FlAt H F ∧ ∀ (d : Int) (H' : Hp), Ch [F] H H' → FlAt H' F → Q (.int d) H'
theorem fl_ne {H : Hp} {F p : Addr} (f : FlAt H F) (h : H p = none) : p ≠ F := by
  obtain ⟨a, b, c, e, _⟩ := f
  exact (ne_of_none e h).symm
theorem in1 {F p : Addr} (h : p ≠ F) : p ∉ [F] := by simpa using h
theorem atI_lt {α : Type} {xs : List α} {i : Int} (h0 : 0 ≤ i) (h1 : i < xs.length) : ∃ v, atI xs i = some v ∧ v ∈ xs := by
  obtain ⟨n, rfl⟩ : ∃ n : Nat, i = (n : Int) := ⟨i.toNat, by omega⟩
  have hn : n < xs.length := by omega
  exact ⟨xs[n], atI_nat (List.getElem?_eq_getElem hn), List.getElem_mem hn⟩
theorem sc_numeral : FnScope ["_law_flow_here"] ["_law_flow_here"] (defScope (top 45)) := ⟨rfl, rfl, rfl, by decide +kernel, rfl, by decide +kernel, by decide +kernel⟩
theorem ok_numeral (D : Df K mg "_law_numeral" (top 45)) (O__law_draw : OkF P w K mg base CX0 1 "_law_draw" ["_law_flow_here", "_law_many"] spDraw) : OkF P w K mg base CX0 2 "_law_numeral" ["_law_flow_here"] spNumeral := by
  refine okF0 D sc_numeral (fun _ _ _ _ _ _ us hl => match us, hl with | [_], _ => rfl) (fun vs H Q E h => ?_) (fun cdv A outer s H vs Q E hr h => ?_)
  · obtain ⟨F, rfl, _⟩ := h
    rfl
  · obtain ⟨F, rfl, f0, q⟩ := h
    have nd := sc_numeral.nd
    refine ⟨_, (pss_one (ps_ret (pe_ix (r := rIxL K) ix_list (pe_lst (pa_cons (pe_callF O__law_draw (hr.mono (by omega)) rfl pass0 (pa_cons (pv 0) (pa_cons pe_int pa_nil))) (pa_cons (pe_op op_sub pe_int (pe_callF O__law_draw (hr.mono (by omega)) rfl pass0 (pa_cons (pv 0) (pa_cons pe_int pa_nil)))) (pa_cons (pe_op op_sub (pe_callF O__law_draw (hr.mono (by omega)) rfl pass0 (pa_cons (pv 0) (pa_cons pe_int pa_nil))) pe_int) pa_nil)))) (pe_callF O__law_draw (hr.mono (by omega)) rfl pass0 (pa_cons (pv 0) (pa_cons pe_int pa_nil))) (fun _ _ => rfl)))), ?_⟩
    refine ⟨_, rfl, F, _, rfl, f0, by decide, by decide, fun d1 H1 _ _ c1 f1 => ?_⟩
    refine ⟨_, rfl, F, _, rfl, f1, by decide, by decide, fun d2 H2 _ _ c2 f2 => ⟨_, _, rfl, rfl, ?_⟩⟩
    refine ⟨_, rfl, F, _, rfl, f2, by decide, by decide, fun d3 H3 _ _ c3 f3 => ⟨_, _, rfl, rfl, ?_⟩⟩
    refine ⟨by show 3 ≤ sizeLine; decide, fun p hp => ?_⟩
    have np := fl_ne f3 hp
    refine ⟨_, rfl, F, _, rfl, f3.ch (.new (S := []) hp) (by simp), by decide, by decide, fun d4 H4 a4 b4 c4 f4 => ?_⟩
    have hl : SqL K H4 p [.int d1, .int (0 - d2), .int (d3 - 1000)] := SqL.of (c4 p _ (in1 np) upd_same)
    have fin : ∀ z : Int, Q (.int z) H4 := fun z => q z H4 (c1.trans (c2.trans (c3.trans (Ch.trans (.new hp) c4)))) f4
    have h4 : d4 = 0 ∨ d4 = 1 ∨ d4 = 2 := by omega
    rcases h4 with rfl | rfl | rfl
    · exact ⟨_, _, _, _, rfl, rfl, hl, rfl, fin _⟩
    · exact ⟨_, _, _, _, rfl, rfl, hl, rfl, fin _⟩
    · exact ⟨_, _, _, _, rfl, rfl, hl, rfl, fin _⟩
/-- a world: kinds, and how many comparisons, ifs, others are left -/
abbrev woL (v : V) (a b c : Int) : List (Key × V) := [(.inr "kinds", v), (.inr "cmp", .int a), (.inr "if", .int b), (.inr "any", .int c)]
def WoAt (K : PySem.W.Frag) (H : Hp) (W : Addr) (ks : List Kd) : Prop := ∃ (v : V) (a b c : Int), H W = some (.dK (woL v a b c)) ∧ DR K H v (ksD ks) ∧ ks.length ≤ 1000
theorem WoAt.ch {S : List Addr} {H H' : Hp} {W : Addr} {ks : List Kd} (f : WoAt K H W ks) (c : Ch S H H') (h : W ∉ S) (t : Ts H H') : WoAt K H' W ks := by
  obtain ⟨v, a, b, z, e, r, l⟩ := f
  exact ⟨v, a, b, z, c W _ h e, r.ts t, l⟩
theorem WoAt.noTup {H : Hp} {W : Addr} {ks : List Kd} (f : WoAt K H W ks) : NoTup (H W) := by
  obtain ⟨v, a, b, z, e, r, l⟩ := f
  rw [e]; trivial
theorem WoAt.ne {H : Hp} {W F : Addr} {ks : List Kd} (f : WoAt K H W ks) (g : FlAt H F) : W ≠ F := by
  obtain ⟨v, a, b, z, e, r, l⟩ := f
  obtain ⟨a', b', c', e', _⟩ := g
  exact ne_of e e' (by intro z; cases z)
/-- a dict that says the kinds -/
def KdsAt (K : PySem.W.Frag) (H : Hp) (W : Addr) (ks : List Kd) : Prop := ∃ (v : V) (kvs : List (Key × V)), H W = some (.dK kvs) ∧ valV kvs (.inr "kinds") = some v ∧ DR K H v (ksD ks) ∧ ks.length ≤ 1000
theorem WoAt.kds {H : Hp} {W : Addr} {ks : List Kd} (f : WoAt K H W ks) : KdsAt K H W ks := by
  obtain ⟨v, a, b, z, e, r, l⟩ := f
  exact ⟨v, _, e, rfl, r, l⟩
theorem KdsAt.ch {S : List Addr} {H H' : Hp} {W : Addr} {ks : List Kd} (f : KdsAt K H W ks) (c : Ch S H H') (h : W ∉ S) (t : Ts H H') : KdsAt K H' W ks := by
  obtain ⟨v, kvs, e, z, r, l⟩ := f
  exact ⟨v, kvs, c W _ h e, z, r.ts t, l⟩
theorem KdsAt.ne {H : Hp} {W F : Addr} {ks : List Kd} (f : KdsAt K H W ks) (g : FlAt H F) : W ≠ F := by
  obtain ⟨v, kvs, e, _⟩ := f
  obtain ⟨a', b', c', e', _⟩ := g
  exact ne_of e e' (by intro z; cases z)
theorem ts_fl {H H' : Hp} {F : Addr} (f : FlAt H F) (c : Ch [F] H H') : Ts H H' := .ch c fun p hp => by
  have e : p = F := by simpa using hp
  rw [e]; exact f.noTup
/-- what a maker of programs leaves: a program of the kind, at most so large, so deep -/
def Gives (K : PySem.W.Frag) (ks : List Kd) (t : Kd) (n m : Nat) (S : List Addr) (F : Addr) (H : Hp) (Q : VK) : Prop :=
  ∀ (p : Pg) (v : V) (H' : Hp), Sm ks t n m p → Ch S H H' → Ts H H' → FlAt H' F → DR K H' v p.dt → Q v H'
def spLeaf (K : PySem.W.Frag) : Sp := fun vs H Q _ => ∃ (F W : Addr) (ks : List Kd) (t : Kd), vs = [.ref F, .ref W, .str t.s] ∧ FlAt H F ∧ KdsAt K H W ks ∧ Gives K ks t 1 1 [F] F H Q
theorem sc_leaf : FnScope ["_law_flow_here", "_law_world", "_law_kind", "_law_some", "_law_number", "_law_form", "_law_k"] ["_law_flow_here", "_law_world", "_law_kind"] (defScope (top 46)) := ⟨rfl, rfl, rfl, by decide +kernel, rfl, by decide +kernel, by decide +kernel⟩
theorem ok_leaf (D : Df K mg "_law_leaf" (top 46)) (T : Bn mg) (O__law_draw : OkF P w K mg base CX0 1 "_law_draw" ["_law_flow_here", "_law_many"] spDraw) (O__law_numeral : OkF P w K mg base CX0 2 "_law_numeral" ["_law_flow_here"] spNumeral) :
    OkF P w K mg base CX0 3 "_law_leaf" ["_law_flow_here", "_law_world", "_law_kind"] (spLeaf K) := by
  refine okF0 D sc_leaf (fun _ _ _ _ _ _ us hl => match us, hl with | [_, _, _], _ => rfl) (fun vs H Q E h => ?_) (fun cdv A outer s H vs Q E hr h => ?_)
  · obtain ⟨F, W, ks, t, rfl, _⟩ := h
    rfl
  · obtain ⟨F, W, ks, t, rfl, f0, w0, q⟩ := h
    have nd := sc_leaf.nd
    have hu := hu_of hr
    refine ⟨_, (pss_cons (ps_setLc (i := 3) (own := [("_law_k", 6)]) rfl nd rfl rfl (sw_true rfl rfl rfl (by decide +kernel)) (pi_range1 rfl T.b_range (pa_cons (pe_callB (r := rLenS K) call_len_seq (by rfl) T.b_len PySem.boot_len (pa_cons (pe_dget hu (pv 1) pe_str (fun _ _ => rfl)) pa_nil)) pa_nil)) (blkOk_by (own := [("_law_k", 6)]) (N := ["_law_flow_here", "_law_world", "_law_kind", "_law_some", "_law_number", "_law_form", "_law_k"]) (sc := defScope (top 46)) (by decide +kernel)) (fun _ _ _ _ _ => (pg_name (i := 6) nd rfl (Or.inl rfl))) (fun _ _ _ _ _ => pts_one (pt_cmpR op_eq (pe_ix (r := rIxT K) ix_tup (pe_dget hu (pv 1) pe_str (fun _ _ => rfl)) (pv 6) (fun _ _ => rfl)) (pv 2) (nomark _))) (fun _ _ _ _ _ => (pe_tup (pa_cons pe_str (pa_cons (pv 6) pa_nil)))))
  (pss_cons (ps_par (i := 4) (j := 5) rfl nd rfl rfl (by decide) rfl rfl (pa_cons (pe_callF O__law_numeral (hr.mono (by omega)) rfl pass0 (pa_cons (pv 0) pa_nil)) (pa_cons (pe_callF O__law_draw (hr.mono (by omega)) rfl pass0 (pa_cons (pv 0) (pa_cons pe_int pa_nil))) pa_nil)) (by rfl))
  (pss_cons (ps_if (PW.pt (pw_and (pt_cmpR op_gt (pe_callB (r := rLenS K) call_len_seq (by rfl) T.b_len PySem.boot_len (pa_cons (pv 3) pa_nil)) pe_int (nomark _)) (pw_and1 (pt_cmpR op_gt (pv 5) pe_int (nomark _))))) (pss_one (ps_ret (pe_ix (r := rIxL K) ix_list (pv 3) (pe_callF O__law_draw (hr.mono (by omega)) rfl pass0 (pa_cons (pv 0) (pa_cons (pe_callB (r := rLenS K) call_len_seq (by rfl) T.b_len PySem.boot_len (pa_cons (pv 3) pa_nil)) pa_nil))) (fun _ _ => rfl)))) pss_nil)
  (pss_cons (ps_if (pt_cmpR op_eq (pv 2) pe_str (nomark _)) (pss_one (ps_ret (pe_tup (pa_cons pe_str (pa_cons (pv 4) pa_nil))))) pss_nil)
  (pss_one (ps_ret (pe_ix (r := rIxL K) ix_list (pe_lst (pa_cons (pe_tup (pa_cons pe_str pa_nil)) (pa_cons (pe_tup (pa_cons pe_str pa_nil)) pa_nil))) (pe_callF O__law_draw (hr.mono (by omega)) rfl pass0 (pa_cons (pv 0) (pa_cons pe_int pa_nil))) (fun _ _ => rfl)))))))), ?_⟩
    obtain ⟨v, kvs, hW, hkk, rK, lk⟩ := id w0
    obtain ⟨ka, kxs, rfl, hkS, hkD⟩ := rK.tup_inv
    have hkl : kxs.length = ks.length := by rw [hkD.len, List.length_map]
    have gW : ∀ H', H' W = some (.dK kvs) → DGet H' W (.str "kinds") (some (.ref ka)) := fun H' e => by
      have := DGet.k (k := Sum.inr "kinds") e
      rw [hkk] at this
      exact this
    -- the comprehension's range
    refine ⟨_, rfl, _, _, rfl, gW _ hW, _, _, rfl, .inr hkS, _, rfl, by omega, by omega, fun D hD => ?_⟩
    have nDW : W ≠ D := ne_of_none hW hD
    have nDF : D ≠ F := fl_ne f0 hD
    refine lc_range (lo := 0) (n := ((kxs.length : Int)).toNat) (fun i H' => Ch [] H H' ∧ ∃ (xs : List V) (is : List Nat), H' D = some (.lst xs) ∧ xs.length ≤ i ∧ DRs K H' xs (is.map fun k => (Pg.inp k).dt) ∧ ∀ k ∈ is, ks[k]? = some t) ?_ ?_ ?_
    · exact ⟨.new hD, [], [], upd_same, Nat.le_refl _, .nil, fun k h => by simp at h⟩
    · rintro i H' hi ⟨c, xs, is, hD', hl, hr', hk⟩
      have hi' : i < ks.length := by omega
      obtain ⟨kv, hkv, hkr⟩ := hkD.get (i := i) (d := .str (ks[i]).s) (by rw [List.getElem?_map, List.getElem?_eq_getElem hi']; rfl)
      have ekv := hkr.str_inv
      subst ekv
      refine ⟨rfl, ?_⟩
      refine ⟨_, rfl, _, _, rfl, gW _ (c W _ (by simp) hW), _, rfl, _, _, _, _, rfl, rfl, (Ts.of c).sq hkS, (by rw [Int.zero_add]; exact atI_nat hkv), _, rfl, rfl, _, rfl, ?_⟩
      refine iteD (fun e => ?_) (fun e => ?_)
      · have ek : ks[i] = t := Kd.s_inj (by injection e)
        refine ⟨_, rfl, (by show 2 ≤ sizeLine; decide), fun p hp => ?_⟩
        have npD : p ≠ D := fun z => by rw [z, hD'] at hp; cases hp
        refine ⟨xs, (by rw [upd_ne npD.symm]; exact hD'), small1000 (by omega), ?_⟩
        refine ⟨(c.trans (.new hp)).mut hD, xs ++ [.ref p], is ++ [i], upd_same, (by simp; omega), ?_, fun k hk' => ?_⟩
        · rw [List.map_append]
          have t1 : Ts H' (upd (upd H' p (.tup [.str "in", .int (0 + (i : Int))])) D (.lst (xs ++ [.ref p]))) := (Ts.of (.new hp)).trans (.upd (by rw [upd_ne npD.symm, hD']; trivial))
          refine (hr'.ts t1).app (.cons (.tup (SqT.of (by rw [upd_ne npD]; exact upd_same)) ?_) .nil)
          rw [Int.zero_add]
          exact .cons (.str _) (.cons (.int _) .nil)
        · rcases List.mem_append.mp hk' with h | h
          · exact hk k h
          · have : k = i := by simpa using h
            rw [this, List.getElem?_eq_getElem hi', ek]
      · exact ⟨c, xs, is, hD', by omega, hr', hk⟩
    · rintro H1 ⟨c1, xs, is, hD1, hl, hr1, hk⟩
      have f1 := f0.ch c1 (by simp)
      have w1 := w0.ch c1 (by simp) (.of c1)
      have nDF1 : D ≠ F := nDF
      -- number, form
      refine ⟨_, rfl, F, rfl, f1, fun c H2 c2 f2 => ?_⟩
      refine ⟨_, rfl, F, _, rfl, f2, by decide, by decide, fun d H3 d0 d1 c3 f3 => ?_⟩
      refine ⟨_, _, rfl, ?_⟩
      have c13 : Ch [F] H1 H3 := c2.trans c3
      have hD3 : H3 D = some (.lst xs) := c13 D _ (in1 nDF) hD1
      have t3 : Ts H1 H3 := (ts_fl f1 c2).trans (ts_fl f2 c3)
      have cH3 : Ch [F] H H3 := (Ch.of0 c1).trans c13
      have tH3 : Ts H H3 := (Ts.of c1).trans t3
      -- the last two ways
      have leafs : ∀ (H' : Hp), H' = H3 → (tSeq (tIfS (tTest (tOp rEq (tVar 2) (tC (.str "num")))) (tRet (tTup (tCons (tC (.str "num")) (tCons (tVar 4) tNil)))) tNext) (tRet (tOp (rIxL K) (tLst (tCons (tTup (tCons (tC (.str "yes")) tNil)) (tCons (tTup (tCons (tC (.str "no")) tNil)) tNil))) (tCall spDraw [] E0 (tCons (tVar 0) (tCons (tC (.int 2)) tNil))))))
          { nx := fun _ H' => Q .non H', rt := Q } [some (.ref F), some (.ref W), some (.str t.s), some (.ref D), some (.int c), some (.int d), none] H' := by
        rintro H' rfl
        refine ⟨_, rfl, rfl, _, rfl, ?_⟩
        refine iteD (fun e => ?_) (fun e => ?_)
        · have et := Kd.eq_num e
          subst et
          refine ⟨_, rfl, (by show 2 ≤ sizeLine; decide), fun p hp => ?_⟩
          exact q (.num c) _ _ ⟨.num c, Nat.le_refl _, Nat.le_refl _⟩ (cH3.trans (.new hp)) (tH3.trans (.of (.new hp))) (f3.ch (.new (S := []) hp) (by simp)) (.new (.cons (.str _) (.cons (.int _) .nil)) hp)
        · have et : t = .truth := by cases t with
            | num => exact (e rfl).elim
            | truth => rfl
          subst et
          refine ⟨(by show 1 ≤ sizeLine; decide), fun p1 hp1 => ?_⟩
          refine ⟨(by show 1 ≤ sizeLine; decide), fun p2 hp2 => ?_⟩
          refine ⟨(by show 2 ≤ sizeLine; decide), fun p3 hp3 => ?_⟩
          have n21 : p1 ≠ p2 := ne_of_none upd_same hp2
          have k12 : Ch [] H' (upd (upd (upd H' p1 (.tup [.str "yes"])) p2 (.tup [.str "no"])) p3 (.lst [.ref p1, .ref p2])) := (Ch.new hp1).trans ((Ch.new hp2).trans (.new hp3))
          have f4 := f3.ch k12 (by simp)
          have y1 : DR K (upd (upd (upd H' p1 (.tup [.str "yes"])) p2 (.tup [.str "no"])) p3 (.lst [.ref p1, .ref p2])) (.ref p1) Pg.yes.dt := (DR.new (.cons (.str _) .nil) hp1).ch ((Ch.new hp2).trans (.new hp3))
          have y2 : DR K (upd (upd (upd H' p1 (.tup [.str "yes"])) p2 (.tup [.str "no"])) p3 (.lst [.ref p1, .ref p2])) (.ref p2) Pg.no.dt := (DR.new (.cons (.str _) .nil) hp2).ch (.new hp3)
          have n3F : p3 ≠ F := fl_ne (f3.ch (Ch.trans (S := []) (Ch.new hp1) (.new hp2)) (by simp)) hp3
          refine ⟨_, rfl, F, _, rfl, f4, by decide, by decide, fun d' H5 e0 e1 c5 f5 => ?_⟩
          have h5 := c5 p3 _ (in1 n3F) upd_same
          have t5 := ts_fl f4 c5
          have cH5 : Ch [F] H H5 := cH3.trans ((Ch.of0 k12).trans c5)
          have tH5 : Ts H H5 := tH3.trans ((Ts.of k12).trans t5)
          have hd : d' = 0 ∨ d' = 1 := by omega
          rcases hd with rfl | rfl
          · exact ⟨_, _, _, _, rfl, rfl, SqL.of h5, rfl, q .yes _ _ ⟨.yes, Nat.le_refl _, Nat.le_refl _⟩ cH5 tH5 f5 (y1.ts t5)⟩
          · exact ⟨_, _, _, _, rfl, rfl, SqL.of h5, rfl, q .no _ _ ⟨.no, Nat.le_refl _, Nat.le_refl _⟩ cH5 tH5 f5 (y2.ts t5)⟩
      -- an input
      refine ⟨_, rfl, _, _, rfl, .inl (SqL.of hD3), _, _, rfl, rfl, _, rfl, ?_⟩
      refine iteD (fun l0 => ?_) (fun l0 => ?_)
      · refine ⟨_, rfl, _, _, rfl, rfl, _, rfl, ?_⟩
        refine iteD (fun dp => ?_) (fun dp => ?_)
        · refine ⟨_, rfl, _, rfl, _, rfl, _, _, rfl, .inl (SqL.of hD3), F, _, rfl, f3, l0, ?_, fun d' H5 e0 e1 c5 f5 => ?_⟩
          · have := hkl
            omega
          · have t5 := ts_fl f3 c5
            have h5 := c5 D _ (in1 nDF) hD3
            obtain ⟨n, rfl⟩ : ∃ n : Nat, d' = (n : Int) := ⟨d'.toNat, by omega⟩
            have hn : n < xs.length := by omega
            obtain ⟨dd, hdd, hdr⟩ := hr1.getv (i := n) (List.getElem?_eq_getElem hn)
            rw [List.getElem?_map] at hdd
            obtain ⟨kk, hkk, ek⟩ := Option.map_eq_some_iff.mp hdd
            refine ⟨_, _, _, _, rfl, rfl, SqL.of h5, atI_nat (List.getElem?_eq_getElem hn), ?_⟩
            refine q (.inp kk) _ _ ⟨.inp (hk kk (List.mem_of_getElem? hkk)), Nat.le_refl _, Nat.le_refl _⟩ (cH3.trans c5) (tH3.trans t5) f5 ?_
            rw [ek]
            exact hdr.ts (t3.trans t5)
        · exact leafs _ rfl
      · exact leafs _ rfl
end
end LM
set_option Elab.async false
set_option linter.all false
set_option maxRecDepth 100000
set_option maxHeartbeats 4000000
namespace LM
open PySem PySem.Spec PyProof.Rows L2
def wordsOf : Kd → List Str
  | .num => ["plus", "least", "most", "plus", "if"]
  | .truth => ["atmost", "not", "both", "either", "atmost", "if"]
theorem words_shp : ∀ (t : Kd) (x : Str), x ∈ wordsOf t → ∃ s : Shp, s.w = x ∧ s.kd = t := by
  intro t x h
  cases t with
  | num =>
    simp only [wordsOf, List.mem_cons, List.not_mem_nil, or_false] at h
    rcases h with rfl | rfl | rfl | rfl | rfl
    · exact ⟨.plus, rfl, rfl⟩
    · exact ⟨.bin .least, rfl, rfl⟩
    · exact ⟨.bin .most, rfl, rfl⟩
    · exact ⟨.plus, rfl, rfl⟩
    · exact ⟨.ite .num, rfl, rfl⟩
  | truth =>
    simp only [wordsOf, List.mem_cons, List.not_mem_nil, or_false] at h
    rcases h with rfl | rfl | rfl | rfl | rfl | rfl
    · exact ⟨.bin .atmost, rfl, rfl⟩
    · exact ⟨.not, rfl, rfl⟩
    · exact ⟨.bin .both, rfl, rfl⟩
    · exact ⟨.bin .either, rfl, rfl⟩
    · exact ⟨.bin .atmost, rfl, rfl⟩
    · exact ⟨.ite .truth, rfl, rfl⟩
def partsV (s : Shp) (p1 p2 p3 p4 : Addr) : V := match s with
  | .plus => .ref p1 | .not => .ref p2 | .bin .both => .ref p3 | .bin .either => .ref p4 | _ => .non
def Shp.isIf : Shp → Bool
  | .ite _ => true | _ => false
theorem Shp.if_iff : ∀ {s : Shp}, (decide (V.str s.w = V.str "if")) = s.isIf
  | .plus => by decide +kernel
  | .bin .least => by decide +kernel
  | .bin .most => by decide +kernel
  | .bin .atmost => by decide +kernel
  | .bin .both => by decide +kernel
  | .bin .either => by decide +kernel
  | .not => by decide +kernel
  | .ite t => by cases t <;> decide +kernel
theorem parts_get (p1 p2 p3 p4 : Addr) : ∀ s : Shp, (valV (mergeK [] [(Sum.inr "plus", V.ref p1), (Sum.inr "not", V.ref p2), (Sum.inr "both", V.ref p3), (Sum.inr "either", V.ref p4)]) (Sum.inr s.w : Key)).getD .non = partsV s p1 p2 p3 p4
  | .plus => rfl
  | .bin .least => rfl
  | .bin .most => rfl
  | .bin .atmost => rfl
  | .bin .both => rfl
  | .bin .either => rfl
  | .not => rfl
  | .ite t => rfl
theorem sort_get : ∀ s : Shp, (valV (mergeK [] [(Sum.inr "least", V.str "cmp"), (Sum.inr "most", V.str "cmp"), (Sum.inr "atmost", V.str "cmp"), (Sum.inr "if", V.str "if")]) (Sum.inr s.w : Key)).getD (.str "any") = .str s.sort
  | .plus => rfl
  | .bin .least => rfl
  | .bin .most => rfl
  | .bin .atmost => rfl
  | .bin .both => rfl
  | .bin .either => rfl
  | .not => rfl
  | .ite t => rfl
theorem world_get (v : V) (a b c : Int) : ∀ s : Shp, ∃ z, valV (woL v a b c) (Sum.inr s.sort : Key) = some (.int z)
  | .plus => ⟨_, rfl⟩
  | .bin .least => ⟨_, rfl⟩
  | .bin .most => ⟨_, rfl⟩
  | .bin .atmost => ⟨_, rfl⟩
  | .bin .both => ⟨_, rfl⟩
  | .bin .either => ⟨_, rfl⟩
  | .not => ⟨_, rfl⟩
  | .ite t => ⟨_, rfl⟩
theorem world_put (v : V) (a b c z : Int) : ∀ s : Shp, ∃ a' b' c' : Int, putK (woL v a b c) (Sum.inr s.sort : Key) (.int z) = woL v a' b' c'
  | .plus => ⟨_, _, _, rfl⟩
  | .bin .least => ⟨_, _, _, rfl⟩
  | .bin .most => ⟨_, _, _, rfl⟩
  | .bin .atmost => ⟨_, _, _, rfl⟩
  | .bin .both => ⟨_, _, _, rfl⟩
  | .bin .either => ⟨_, _, _, rfl⟩
  | .not => ⟨_, _, _, rfl⟩
  | .ite t => ⟨_, _, _, rfl⟩
def hdV (s : Shp) (c : Int) : List V := .str s.w :: (if s.isPlus = true then [.int c] else [])
theorem hd_r {K : PySem.W.Frag} {H : Hp} (s : Shp) (c : Int) : DRs K H (hdV s c) (s.hd c) := by
  unfold hdV Shp.hd
  cases s.isPlus with
  | true => exact .cons (.str _) (.cons (.int _) .nil)
  | false => exact .cons (.str _) .nil
theorem hdV_len (s : Shp) (c : Int) : (hdV s c).length ≤ 2 := by
  unfold hdV
  cases s.isPlus with
  | true => exact Nat.le_refl _
  | false => exact Nat.le_succ _
theorem Shp.ps_len (s : Shp) : 1 ≤ s.ps.length ∧ s.ps.length ≤ 3 := by
  cases s <;> simp [Shp.ps]
theorem paired_snoc {α β : Type} {R : α → β → Prop} : ∀ {xs : List α} {ys : List β} {x : α} {y : β}, Paired R xs ys → R x y → Paired R (xs ++ [x]) (ys ++ [y])
  | _, _, _, _, .nil, r => .cons r .nil
  | _, _, _, _, .cons h t, r => .cons h (paired_snoc t r)
theorem take_one {α : Type} {l : List α} {i : Nat} {x : α} (h : l[i]? = some x) : l.take (i + 1) = l.take i ++ [x] := by
  rw [List.take_add_one, h]; rfl
section
variable {P : Program} {w : World} {K : PySem.W.Frag} {mg : Str → Option Value} {base : Heap}
def spMade (K : PySem.W.Frag) (n : Nat) : Sp := fun vs H Q _ => ∃ (F W : Addr) (ks : List Kd) (t : Kd) (room down : Int), vs = [.ref F, .ref W, .str t.s, .int room, .int down] ∧ FlAt H F ∧ WoAt K H W ks ∧ 1 ≤ room ∧ room ≤ 1000 ∧ 0 ≤ down ∧ down < n ∧
  ∀ (p : Pg) (v : V) (H' : Hp), Sm ks t room.toNat (down.toNat + 1) p → Ch [F, W] H H' → Ts H H' → FlAt H' F → WoAt K H' W ks → DR K H' v p.dt → Q v H'
theorem sc_made : FnScope ["_law_flow_here", "_law_world", "_law_kind", "_law_room", "_law_down", "_law_words", "_law_word", "_law_parts_here", "_law_sort", "_law_left", "_law_found", "_law_k", "_law_one", "_law_share"] ["_law_flow_here", "_law_world", "_law_kind", "_law_room", "_law_down"] (defScope (top 47)) := ⟨rfl, rfl, rfl, by decide +kernel, rfl, by decide +kernel, by decide +kernel⟩
theorem Sm.up {ks : List Kd} {t : Kd} {n m n' m' : Nat} {p : Pg} (h : Sm ks t n m p) (a : n ≤ n') (b : m ≤ m') : Sm ks t n' m' p := ⟨h.wt, Nat.le_trans h.sz a, Nat.le_trans h.dp b⟩
theorem ok_made (D : Df K mg "_law_made" (top 47)) (T : Bn mg) (O__law_draw : OkF P w K mg base CX0 1 "_law_draw" ["_law_flow_here", "_law_many"] spDraw) (O__law_numeral : OkF P w K mg base CX0 2 "_law_numeral" ["_law_flow_here"] spNumeral)
    (O__law_leaf : OkF P w K mg base CX0 3 "_law_leaf" ["_law_flow_here", "_law_world", "_law_kind"] (spLeaf K)) : ∀ n : Nat, OkF P w K mg base CX0 (4 + n) "_law_made" ["_law_flow_here", "_law_world", "_law_kind", "_law_room", "_law_down"] (spMade K n) := by
  have hb : BindN "_law_made" (top 47) ["_law_flow_here", "_law_world", "_law_kind", "_law_room", "_law_down"] := fun _ _ _ _ _ _ us hl => match us, hl with | [_, _, _, _, _], _ => rfl
  intro n
  induction n with
  | zero =>
    refine okF_absurd D hb fun vs H Q E h => ?_
    obtain ⟨F, W, ks, t, room, down, _, _, _, _, _, d0, d1, _⟩ := h
    omega
  | succ n ih =>
  have O__law_made := ih
  refine (okF0 (k := 4 + n) D sc_made hb (fun vs H Q E h => ?_) (fun cdv A outer s H vs Q E hr h => ?_)).mono (by omega)
  · obtain ⟨F, W, ks, t, room, down, rfl, _⟩ := h
    rfl
  · obtain ⟨F, W, ks, t, room, down, rfl, f0, w0, r0, r1, d0, d1, q⟩ := h
    have nd := sc_made.nd
    have hu := hu_of hr
    have nWF : W ≠ F := w0.ne f0
    refine ⟨_, (pss_cons (ps_set (i := 5) nd rfl (Or.inl rfl) (pe_lst (pa_cons pe_str (pa_cons pe_str (pa_cons pe_str (pa_cons pe_str (pa_cons pe_str pa_nil)))))))
  (Evl.pss_cut (ps_if (pt_cmpR op_eq (pv 2) pe_str (nomark _)) (pss_one (ps_set (i := 5) nd rfl (Or.inl rfl) (pe_lst (pa_cons pe_str (pa_cons pe_str (pa_cons pe_str (pa_cons pe_str (pa_cons pe_str (pa_cons pe_str pa_nil))))))))) pss_nil)
  (pss_cons (ps_set (i := 6) nd rfl (Or.inl rfl) (pe_ix (r := rIxL K) ix_list (pv 5) (pe_callF O__law_draw (hr.mono (by omega)) rfl pass0 (pa_cons (pv 0) (pa_cons (pe_callB (r := rLenS K) call_len_seq (by rfl) T.b_len PySem.boot_len (pa_cons (pv 5) pa_nil)) pa_nil))) (fun _ _ => rfl)))
  (pss_cons (ps_set (i := 7) nd rfl (Or.inl rfl) (pe_dget1 hu (pe_disp (pps_cons pe_str (pe_lst (pa_cons pe_str pa_nil)) (pps_cons pe_str (pe_lst (pa_cons pe_str pa_nil)) (pps_cons pe_str (pe_lst (pa_cons pe_str (pa_cons pe_str pa_nil))) (pps_cons pe_str (pe_lst (pa_cons pe_str (pa_cons pe_str pa_nil))) pps_nil)))) (by rfl) (by rfl) (fun z => by cases z) (by decide)) (pv 6) ⟨rfl, rfl, rfl, rfl⟩))
  (Evl.pss_cut (ps_if (pt_cmpR op_isN (pv 7) pe_non (nomark _)) (pss_one (ps_set (i := 7) nd rfl (Or.inl rfl) (pe_lst (pa_cons pe_str (pa_cons pe_str pa_nil))))) pss_nil)
  (Evl.pss_cut (ps_if (pt_cmpR op_eq (pv 6) pe_str (nomark _)) (pss_one (ps_set (i := 7) nd rfl (Or.inl rfl) (pe_lst (pa_cons pe_str (pa_cons (pv 2) (pa_cons (pv 2) pa_nil)))))) pss_nil)
  (pss_cons (ps_set (i := 8) nd rfl (Or.inl rfl) (pe_dget2 hu (pe_disp (pps_cons pe_str pe_str (pps_cons pe_str pe_str (pps_cons pe_str pe_str (pps_cons pe_str pe_str pps_nil)))) (by rfl) (by rfl) (fun z => by cases z) (by decide)) (pv 6) pe_str ⟨rfl, rfl, rfl, rfl⟩))
  (pss_cons (ps_if (PW.pt (pw_or (pt_cmpR op_le (pv 3) (pe_callB (r := rLenS K) call_len_seq (by rfl) T.b_len PySem.boot_len (pa_cons (pv 7) pa_nil)) (nomark _)) (pw_or (pt_cmpR op_eq (pv 4) pe_int (nomark _)) (pw_or (pt_cmpR op_eq (pe_dget hu (pv 1) (pv 8) (fun _ _ => rfl)) pe_int (nomark _)) (pw_or1 (pt_cmpR op_eq (pe_callF O__law_draw (hr.mono (by omega)) rfl pass0 (pa_cons (pv 0) (pa_cons (pe_op op_add pe_int (pv 3)) pa_nil))) pe_int (nomark _))))))) (pss_one (ps_ret (pe_callF O__law_leaf (hr.mono (by omega)) rfl pass0 (pa_cons (pv 0) (pa_cons (pv 1) (pa_cons (pv 2) pa_nil)))))) pss_nil)
  (pss_cons (ps_dput hu (pv 1) (pv 8) (pe_op op_sub (pe_dget hu (pv 1) (pv 8) (fun _ _ => rfl)) pe_int) rfl)
  (pss_cons (ps_par (i := 9) (j := 10) rfl nd rfl rfl (by decide) rfl rfl (pa_cons (pe_op op_sub (pv 3) pe_int) (pa_cons (pe_lst (pa_cons (pv 6) pa_nil)) pa_nil)) (by rfl))
  (Evl.pss_cut (ps_if (pt_cmpR op_eq (pv 6) pe_str (nomark _)) (pss_one (ps_expr (pe_bm PySem.F.plainAttrs_list PySem.F.slot_list_append PySem.F.type_list_append mt_append (pv 10) (pa_cons (pe_callF O__law_numeral (hr.mono (by omega)) rfl pass0 (pa_cons (pv 0) pa_nil)) pa_nil)))) pss_nil)
  (pss_cons (ps_for PassesOwn.never rfl (pi_enum (by rfl) T.b_enumerate (pa_cons (pv 7) pa_nil)) (pg_tup rfl (pgs_cons (pg_name (i := 11) nd rfl (Or.inl rfl)) (pgs_cons (pg_name (i := 12) nd rfl (Or.inl rfl)) pgs_nil))) (pss_cons (ps_set (i := 13) nd rfl (Or.inl rfl) (pe_op op_add pe_int (pe_callF O__law_draw (hr.mono (by omega)) rfl pass0 (pa_cons (pv 0) (pa_cons (pe_op op_sub (pv 9) (pe_op op_sub (pe_op op_sub (pe_callB (r := rLenS K) call_len_seq (by rfl) T.b_len PySem.boot_len (pa_cons (pv 7) pa_nil)) (pv 11)) pe_int)) pa_nil)))))
  (pss_cons (ps_set (i := 9) nd rfl (Or.inl rfl) (pe_op op_sub (pv 9) (pv 13)))
  (pss_one (ps_expr (pe_bm PySem.F.plainAttrs_list PySem.F.slot_list_append PySem.F.type_list_append mt_append (pv 10) (pa_cons (pe_callF O__law_made (hr.mono (by omega)) rfl pass0 (pa_cons (pv 0) (pa_cons (pv 1) (pa_cons (pv 12) (pa_cons (pv 13) (pa_cons (pe_op op_sub (pv 4) pe_int) pa_nil)))))) pa_nil)))))))
  (pss_one (ps_ret (pe_callTy (r := rTupS K) call_tuple_of (by rfl) T.b_tuple (by decide +kernel) (pa_cons (pv 10) pa_nil)))))))))))))))), ?_⟩
    -- the words
    refine ⟨(by show 5 ≤ sizeLine; decide), fun B1 hB1 => ?_⟩
    refine ⟨fun σ' H' => ∃ B : Addr, σ' = [some (.ref F), some (.ref W), some (.str t.s), some (.int room), some (.int down), some (.ref B), none, none, none, none, none, none, none, none] ∧ H B = none ∧ H' B = some (.lst ((wordsOf t).map V.str)) ∧ Ch [] H H', ?_, ?_⟩
    · refine ⟨_, rfl, rfl, _, rfl, ?_⟩
      refine iteD (fun e => ?_) (fun e => ?_)
      · have et := Kd.eq_tru e
        subst et
        refine ⟨(by show 6 ≤ sizeLine; decide), fun B2 hB2 => ?_⟩
        exact ⟨B2, rfl, (Ch.new (S := []) hB1).free hB2, upd_same, (Ch.new hB1).trans (.new hB2)⟩
      · have et : t = .num := by cases t with
          | num => rfl
          | truth => exact (e rfl).elim
        subst et
        exact ⟨B1, rfl, hB1, upd_same, .new hB1⟩
    rintro σ1 H1 ⟨B, rfl, nB, hB, c1⟩
    have f1 := f0.ch c1 (by simp)
    have w1 := w0.ch c1 (by simp) (.of c1)
    have nBF : B ≠ F := fl_ne f0 nB
    -- the word
    refine ⟨_, rfl, _, rfl, _, rfl, _, _, rfl, .inl (SqL.of hB), F, _, rfl, f1, ?_, ?_, fun d H2 e0 e1 c2 f2 => ?_⟩
    · cases t <;> decide
    · cases t <;> decide
    have hB2 := c2 B _ (in1 nBF) hB
    obtain ⟨x, hx, hxm⟩ := atI_lt (xs := (wordsOf t).map V.str) e0 (by simpa using e1)
    obtain ⟨x', hx', rfl⟩ := List.mem_map.mp hxm
    obtain ⟨s, rfl, est⟩ := words_shp t x' hx'
    refine ⟨_, _, _, _, rfl, rfl, SqL.of hB2, hx, ?_⟩
    have w2 : WoAt K H2 W ks := w1.ch c2 (by simpa using nWF) (ts_fl f1 c2)
    have C2 : Ch [F] H H2 := (Ch.of0 c1).trans c2
    have T2 : Ts H H2 := (Ts.of c1).trans (ts_fl f1 c2)
    -- the table of the parts
    intro p hp
    refine ⟨(by show 1 ≤ sizeLine; decide), fun p1 h1 => ?_⟩
    refine ⟨(by show 1 ≤ sizeLine; decide), fun p2 h2 => ?_⟩
    refine ⟨(by show 2 ≤ sizeLine; decide), fun p3 h3 => ?_⟩
    refine ⟨(by show 2 ≤ sizeLine; decide), fun p4 h4 => ?_⟩
    have k5 : Ch [] H2 (upd (upd (upd (upd (upd H2 p (.dK [])) p1 (.lst [.str "num"])) p2 (.lst [.str "truth"])) p3 (.lst [.str "truth", .str "truth"])) p4 (.lst [.str "truth", .str "truth"])) := (Ch.new hp).trans ((Ch.new h1).trans ((Ch.new h2).trans ((Ch.new h3).trans (.new h4))))
    generalize hH3 : upd (upd (upd (upd (upd H2 p (.dK [])) p1 (.lst [.str "num"])) p2 (.lst [.str "truth"])) p3 (.lst [.str "truth", .str "truth"])) p4 (.lst [.str "truth", .str "truth"]) = H3 at k5 ⊢
    have g0 : H3 p = some (.dK []) := by rw [← hH3]; exact ((Ch.new (S := []) h1).trans ((Ch.new h2).trans ((Ch.new h3).trans (.new h4)))) p _ (by simp) upd_same
    have g1 : H3 p1 = some (.lst [.str "num"]) := by rw [← hH3]; exact ((Ch.new (S := []) h2).trans ((Ch.new h3).trans (.new h4))) p1 _ (by simp) upd_same
    have g2 : H3 p2 = some (.lst [.str "truth"]) := by rw [← hH3]; exact ((Ch.new (S := []) h3).trans (.new h4)) p2 _ (by simp) upd_same
    have g3 : H3 p3 = some (.lst [.str "truth", .str "truth"]) := by rw [← hH3]; exact (Ch.new (S := []) h4) p3 _ (by simp) upd_same
    have g4 : H3 p4 = some (.lst [.str "truth", .str "truth"]) := by rw [← hH3]; exact upd_same
    refine ⟨g0, [(.inr "plus", .ref p1), (.inr "not", .ref p2), (.inr "both", .ref p3), (.inr "either", .ref p4)], rfl, (by show 4 ≤ 15; decide), ?_⟩
    have k6 : Ch [] H2 (upd H3 p (.dK (mergeK [] [(.inr "plus", .ref p1), (.inr "not", .ref p2), (.inr "both", .ref p3), (.inr "either", .ref p4)]))) := k5.mut hp
    refine ⟨_, rfl, .inl ⟨_, .inl upd_same⟩, _, rfl, _, DGet.k (k := Sum.inr s.w) upd_same, ?_⟩
    rw [parts_get]
    have np : ∀ {z : Addr} {l : List V}, H3 z = some (.lst l) → upd H3 p (.dK (mergeK [] [(.inr "plus", .ref p1), (.inr "not", .ref p2), (.inr "both", .ref p3), (.inr "either", .ref p4)])) z = some (.lst l) := fun {z l} e => by
      rw [upd_ne (ne_of e g0 (by intro z; cases z))]; exact e
    generalize hH4 : upd H3 p (.dK (mergeK [] [(.inr "plus", .ref p1), (.inr "not", .ref p2), (.inr "both", .ref p3), (.inr "either", .ref p4)])) = H4 at k6 np ⊢
    -- if it has none: two numbers
    refine ⟨fun σ' H' => ∃ v7 : V, σ' = [some (.ref F), some (.ref W), some (.str t.s), some (.int room), some (.int down), some (.ref B), some (.str s.w), some v7, none, none, none, none, none, none] ∧ Ch [] H2 H' ∧
      (s.isIf = false → ∃ PL : Addr, v7 = .ref PL ∧ H2 PL = none ∧ H' PL = some (.lst (s.ps.map fun k => V.str k.s))), ?_, ?_⟩
    · refine ⟨_, rfl, rfl, _, rfl, ?_⟩
      refine iteD (fun e => ?_) (fun e => ?_)
      · refine ⟨(by show 2 ≤ sizeLine; decide), fun p5 h5 => ?_⟩
        refine ⟨.ref p5, rfl, k6.trans (.new h5), fun ei => ⟨p5, rfl, k6.free h5, ?_⟩⟩
        rw [upd_same]
        cases s with
        | plus => cases e
        | not => cases e
        | ite t => cases ei
        | bin o => cases o with
          | least => rfl
          | most => rfl
          | atmost => rfl
          | both => cases e
          | either => cases e
      · refine ⟨_, rfl, k6, fun ei => ?_⟩
        have fr : ∀ {z : Addr} {S : List Addr} {G : Hp}, Ch [] H2 G → G z = none → H2 z = none := fun c e => c.free e
        have n1 : H2 p1 = none := (Ch.new (S := []) hp).free h1
        have n2 : H2 p2 = none := (Ch.trans (S := []) (Ch.new hp) (.new h1)).free h2
        have n3 : H2 p3 = none := (Ch.trans (S := []) (Ch.trans (Ch.new hp) (.new h1)) (.new h2)).free h3
        have n4 : H2 p4 = none := (Ch.trans (S := []) (Ch.trans (Ch.trans (Ch.new hp) (.new h1)) (.new h2)) (.new h3)).free h4
        cases s with
        | plus => exact ⟨p1, rfl, n1, np g1⟩
        | not => exact ⟨p2, rfl, n2, np g2⟩
        | ite t => cases ei
        | bin o => cases o with
          | least => exact (e rfl).elim
          | most => exact (e rfl).elim
          | atmost => exact (e rfl).elim
          | both => exact ⟨p3, rfl, n3, np g3⟩
          | either => exact ⟨p4, rfl, n4, np g4⟩
    rintro σ2 H5 ⟨v7, rfl, c5, hv7⟩
    -- an if
    refine ⟨fun σ' H' => ∃ PL : Addr, σ' = [some (.ref F), some (.ref W), some (.str t.s), some (.int room), some (.int down), some (.ref B), some (.str s.w), some (.ref PL), none, none, none, none, none, none] ∧ Ch [] H2 H' ∧
      H2 PL = none ∧ H' PL = some (.lst (s.ps.map fun k => V.str k.s)), ?_, ?_⟩
    · refine ⟨_, rfl, rfl, _, rfl, ?_⟩
      rw [Shp.if_iff]
      refine iteB (fun e => ?_) (fun e => ?_)
      · refine ⟨_, rfl, _, rfl, (by show 3 ≤ sizeLine; decide), fun p5 h5 => ?_⟩
        refine ⟨p5, rfl, c5.trans (.new h5), c5.free h5, ?_⟩
        rw [upd_same]
        cases s with
        | plus => cases e
        | not => cases e
        | bin o => cases e
        | ite t' =>
          have : t' = t := est
          subst this
          rfl
      · obtain ⟨PL, rfl, n, h⟩ := hv7 e
        exact ⟨PL, rfl, c5, n, h⟩
    rintro σ3 H6 ⟨PL, rfl, c6, nPL, hPL⟩
    have nPF : PL ≠ F := fl_ne f2 nPL
    -- the sort
    intro p' hp'
    refine ⟨upd_same, [(.inr "least", .str "cmp"), (.inr "most", .str "cmp"), (.inr "atmost", .str "cmp"), (.inr "if", .str "if")], rfl, (by decide), ?_⟩
    refine ⟨_, rfl, .inl ⟨_, .inl upd_same⟩, _, rfl, _, DGet.k (k := Sum.inr s.w) upd_same, ?_⟩
    rw [sort_get]
    have c7 : Ch [] H6 (upd (upd H6 p' (.dK [])) p' (.dK (mergeK [] [(.inr "least", .str "cmp"), (.inr "most", .str "cmp"), (.inr "atmost", .str "cmp"), (.inr "if", .str "if")]))) := (Ch.new hp').mut hp'
    generalize upd (upd H6 p' (.dK [])) p' (.dK (mergeK [] [(.inr "least", .str "cmp"), (.inr "most", .str "cmp"), (.inr "atmost", .str "cmp"), (.inr "if", .str "if")])) = H7 at c7 ⊢
    have k7 : Ch [] H2 H7 := c6.trans c7
    have hPL7 := c7 PL _ (by simp) hPL
    have f7 := f2.ch k7 (by simp)
    have w7 := w2.ch k7 (by simp) (.of k7)
    have C7 : Ch [F] H H7 := C2.trans (.of0 k7)
    have T7 : Ts H H7 := T2.trans (.of k7)
    -- is it to be a leaf?
    dsimp only [gName, tSeq]
    refine if_use (fun b H' => Ch [F] H7 H' ∧ FlAt H' F ∧ (b = false → (s.ps.length : Int) < room ∧ down ≠ 0)) ?_ ?_ ?_
    · refine tt_or (R1 := Is (decide (room ≤ ((s.ps.map fun k => V.str k.s).length : Int))) H7) (fun Q q => ⟨_, rfl, _, rfl, _, _, rfl, .inl (SqL.of hPL7), _, _, rfl, rfl, _, rfl, q _ _ ⟨rfl, rfl⟩⟩) ?_ ?_
      · rintro H' ⟨_, rfl⟩
        exact ⟨.refl, f7, fun z => by cases z⟩
      rintro H' ⟨e1, rfl⟩
      refine tt_or (R1 := Is (decide (V.int down = V.int 0)) H') (fun Q q => ⟨_, rfl, rfl, _, rfl, q _ _ ⟨rfl, rfl⟩⟩) ?_ ?_
      · rintro H' ⟨_, rfl⟩
        exact ⟨.refl, f7, fun z => by cases z⟩
      rintro H' ⟨e2, rfl⟩
      obtain ⟨va, a, b, c, hW, rK, lk⟩ := id w7
      obtain ⟨z, hz⟩ := world_get va a b c s
      have gz : DGet H' W (.str s.sort) (some (.int z)) := by rw [← hz]; exact DGet.k (k := Sum.inr s.sort) hW
      refine tt_or (R1 := Is (decide (V.int z = V.int 0)) H') (fun Q q => ⟨_, rfl, _, rfl, _, _, rfl, gz, rfl, _, rfl, q _ _ ⟨rfl, rfl⟩⟩) ?_ ?_
      · rintro H' ⟨_, rfl⟩
        exact ⟨.refl, f7, fun z => by cases z⟩
      rintro H' ⟨e3, rfl⟩
      refine fun Q q => ⟨_, rfl, _, rfl, _, _, rfl, rfl, F, _, rfl, f7, by omega, by omega, fun d' H8 _ _ c8 f8 => ⟨rfl, _, rfl, q _ _ ⟨c8, f8, fun _ => ⟨?_, ?_⟩⟩⟩⟩
      · have := of_decide_eq_false e1.symm
        rw [List.length_map] at this
        omega
      · intro hd
        rw [hd] at e2
        exact absurd e2.symm (by simp)
    · rintro H8 ⟨c8, f8, _⟩
      have w8 : WoAt K H8 W ks := w7.ch c8 (by simpa using nWF) (ts_fl f7 c8)
      refine ⟨_, rfl, _, rfl, _, rfl, F, W, ks, t, rfl, f8, w8.kds, fun pg v H9 sm c9 t9 f9 r9 => ?_⟩
      refine q pg v H9 (sm.up (by omega) (by omega)) ((C7.trans (c8.trans c9)).sub (by simp)) (T7.trans ((ts_fl f7 c8).trans t9)) f9 (w8.ch c9 (by simpa using nWF) t9) r9
    rintro H8 ⟨c8, f8, hc8⟩
    obtain ⟨hroom, hdown⟩ := hc8 rfl
    have w8 : WoAt K H8 W ks := w7.ch c8 (by simpa using nWF) (ts_fl f7 c8)
    have hPL8 := c8 PL _ (in1 nPF) hPL7
    -- one less
    obtain ⟨va, a, b, c, hW, rK, lk⟩ := id w8
    obtain ⟨z, hz⟩ := world_get va a b c s
    have gz : DGet H8 W (.str s.sort) (some (.int z)) := by rw [← hz]; exact DGet.k (k := Sum.inr s.sort) hW
    obtain ⟨a', b', c', hput⟩ := world_put va a b c (z - 1) s
    refine ⟨_, rfl, _, rfl, _, _, rfl, gz, _, _, rfl, rfl, _, rfl, _, rfl, W, _, rfl, DPut.k (k := Sum.inr s.sort) hW (by show 4 < sizeLine; decide), ?_⟩
    rw [hput]
    have t9 : Ts H8 (upd H8 W (.dK (woL va a' b' c'))) := .upd w8.noTup
    have w9 : WoAt K (upd H8 W (.dK (woL va a' b' c'))) W ks := ⟨va, a', b', c', upd_same, rK.ts t9, lk⟩
    have c9 : Ch [F, W] H8 (upd H8 W (.dK (woL va a' b' c'))) := .put (by simp)
    have f9 : FlAt (upd H8 W (.dK (woL va a' b' c'))) F := f8.ch (.put (S := [W]) (by simp)) (by simpa using nWF.symm)
    have nPW : PL ≠ W := ne_of hPL8 hW (by intro z; cases z)
    have hPL9 : upd H8 W (.dK (woL va a' b' c')) PL = some (.lst (s.ps.map fun k => V.str k.s)) := by rw [upd_ne nPW]; exact hPL8
    generalize upd H8 W (.dK (woL va a' b' c')) = H9 at t9 w9 c9 f9 hPL9 ⊢
    have C9 : Ch [F, W] H H9 := (C7.trans c8).sub (by simp) |>.trans c9
    have T9 : Ts H H9 := T7.trans ((ts_fl f7 c8).trans t9)
    -- left, found
    refine ⟨_, rfl, _, _, rfl, rfl, _, rfl, (by show 1 ≤ sizeLine; decide), fun G hG => ⟨_, _, rfl, ?_⟩⟩
    have nGF : G ≠ F := fl_ne f9 hG
    have nGW : G ≠ W := by
      obtain ⟨_, _, _, _, e, _, _⟩ := id w9
      exact (ne_of_none e hG).symm
    have nGP : G ≠ PL := (ne_of_none hPL9 hG).symm
    have cG : Ch [] H9 (upd H9 G (.lst [.str s.w])) := .new hG
    have tG : Ts H9 (upd H9 G (.lst [.str s.w])) := .of cG
    have hG10 : upd H9 G (.lst [.str s.w]) G = some (.lst [.str s.w]) := upd_same
    have fG := f9.ch cG (by simp)
    have wG := w9.ch cG (by simp) tG
    have pG := cG PL _ (by simp) hPL9
    generalize upd H9 G (.lst [.str s.w]) = H10 at cG tG hG10 fG wG pG ⊢
    refine ⟨fun σ' H' => ∃ c : Int, σ' = [some (.ref F), some (.ref W), some (.str t.s), some (.int room), some (.int down), some (.ref B), some (.str s.w), some (.ref PL), some (.str s.sort), some (.int (room - 1)), some (.ref G), none, none, none] ∧
      H' G = some (.lst (hdV s c)) ∧ Ch [F, G] H10 H' ∧ Ts H10 H' ∧ FlAt H' F, ?_, ?_⟩
    · refine ⟨_, rfl, rfl, _, rfl, ?_⟩
      rw [Shp.plus_iff]
      refine iteB (fun e => ?_) (fun e => ?_)
      · refine ⟨_, rfl, .inl ⟨rfl, _, SqL.of hG10⟩, _, rfl, F, rfl, fG, fun cc H11 c11 f11 => ?_⟩
        have h11 := c11 G _ (in1 nGF) hG10
        have t11 := ts_fl fG c11
        refine ⟨G, _, _, rfl, rfl, h11, (by show 1 < sizeLine; decide), cc, rfl, ?_, (c11.sub (by simp)).trans (.put (by simp)), t11.trans (.upd (by rw [h11]; trivial)), f11.ch (.put (S := [G]) (by simp)) (by simpa using nGF.symm)⟩
        rw [upd_same]
        unfold hdV
        rw [e]
        rfl
      · refine ⟨0, rfl, ?_, .refl, .refl, fG⟩
        rw [hG10]
        unfold hdV
        rw [e]
        rfl
    rintro σ4 H11 ⟨cc, rfl, hG11, c11, t11, f11⟩
    have w11 : WoAt K H11 W ks := wG.ch c11 (by simp [nWF, nGW.symm]) t11
    have p11 := c11 PL _ (by simp [nPF, nGP.symm]) pG
    have C11 : Ch [F, W, G] H10 H11 := c11.sub (by intro x h; simp at h ⊢; rcases h with h | h <;> simp [h])
    -- the parts
    refine ⟨_, rfl, PL, _, rfl, SqL.of p11, ?_⟩
    refine for_it (walk_enum (K := K) (a := PL) (xs := s.ps.map fun k => V.str k.s)) (fun i σ' H' => ∃ (pgs : List Pg) (xs : List V) (left : Int) (u1 u2 u3 : Option V),
        σ' = [some (.ref F), some (.ref W), some (.str t.s), some (.int room), some (.int down), some (.ref B), some (.str s.w), some (.ref PL), some (.str s.sort), some (.int left), some (.ref G), u1, u2, u3] ∧
        H' G = some (.lst (hdV s cc ++ xs)) ∧ DRs K H' xs (pgs.map Pg.dt) ∧ Paired (fun p k => Wt ks p k ∧ p.depth ≤ down.toNat) pgs (s.ps.take i) ∧ pgs.length = i ∧ ((pgs.map Pg.size).sum : Int) + left ≤ room - 1 ∧ (s.ps.length : Int) - i ≤ left ∧ left ≤ room ∧
        Ch [F, W, G] H10 H' ∧ Ts H10 H' ∧ FlAt H' F ∧ WoAt K H' W ks ∧ H' PL = some (.lst (s.ps.map fun k => V.str k.s))) ?_ ?_ ?_ ?_
    · exact ⟨[], [], room - 1, none, none, none, rfl, by rw [List.append_nil]; exact hG11, .nil, .nil, rfl, by simp, by simp; omega, by omega, C11, t11, f11, w11, p11⟩
    · rintro i σ' H' _ ⟨_, _, _, _, _, _, _, _, _, _, _, _, _, _, _, _, _, _, h⟩
      exact SqL.of h
    · rintro i x σ' H' H'' hi ⟨pgs, xs, left, u1, u2, u3, rfl, hg, hr', hp', hl', hs1, hs2, hs3, C', T', f', w', pl⟩ ⟨TT, x1, x2, rfl, hT, rfl, h1, h2⟩
      rw [List.length_map] at hi
      have e1 := Option.some.inj h1
      subst e1
      have h2' : (List.map (fun k => V.str k.s) s.ps)[i]? = some x2 := h2
      rw [List.getElem?_map, List.getElem?_eq_getElem hi] at h2'
      have e2 := Option.some.inj h2'
      subst e2
      have nTG : TT ≠ G := (ne_of_none hg hT).symm
      have cT : Ch [] H' (upd H' TT (.tup [.int (i : Nat), .str (s.ps[i]).s])) := .new hT
      have tT : Ts H' (upd H' TT (.tup [.int (i : Nat), .str (s.ps[i]).s])) := .of cT
      refine ⟨TT, _, rfl, SqT.of upd_same, rfl, _, _, rfl, _, _, rfl, rfl, ?_⟩
      generalize upd H' TT (.tup [.int (i : Nat), .str (s.ps[i]).s]) = Ha at cT tT ⊢
      have fa := f'.ch cT (by simp)
      have wa := w'.ch cT (by simp) tT
      have pa := cT PL _ (by simp) pl
      have ga := cT G _ (by simp) hg
      refine ⟨_, rfl, _, rfl, _, rfl, _, _, rfl, .inl (SqL.of pa), _, rfl, _, _, rfl, rfl, _, _, rfl, rfl, _, _, rfl, rfl, F, _, rfl, fa, ?_, ?_, fun d' Hb e0 e1 cb fb => ?_⟩
      · simp only [List.length_map]
        omega
      · simp only [List.length_map]
        omega
      simp only [List.length_map] at e1
      have tb := ts_fl fa cb
      have wb : WoAt K Hb W ks := wa.ch cb (by simpa using nWF) tb
      have gb := cb G _ (in1 nGF) ga
      refine ⟨_, _, rfl, rfl, _, rfl, _, rfl, _, _, rfl, rfl, ?_⟩
      refine ⟨_, rfl, .inl ⟨rfl, _, SqL.of gb⟩, _, rfl, _, rfl, _, rfl, _, rfl, _, rfl, _, _, rfl, rfl, F, W, ks, _, _, _, rfl, fb, wb, by omega, by omega, by omega, by omega, fun pg v Hc sm cc' tc fc wc rc => ?_⟩
      have gc := cc' G _ (by simp [nGF, nGW]) gb
      have pc := cc' PL _ (by simp [nPF, nPW]) (cb PL _ (in1 nPF) pa)
      have hxl : xs.length ≤ 3 := by
        rw [hr'.len, List.length_map, hl']
        have := s.ps_len
        omega
      refine ⟨G, _, _, rfl, rfl, gc, ?_, ?_⟩
      · rw [List.length_append]
        have := hdV_len s cc
        exact small1000 (by omega)
      have tu : Ts Hc (upd Hc G (.lst (hdV s cc ++ xs ++ [v]))) := .upd (by rw [gc]; trivial)
      refine ⟨pgs ++ [pg], xs ++ [v], left - (1 + d'), _, _, _, rfl, by rw [← List.append_assoc]; exact upd_same, ?_, ?_, by simp [hl'], ?_, by push_cast; omega, by omega, ?_, ?_, ?_, ?_, ?_⟩
      · rw [List.map_append]
        exact (hr'.ts (tT.trans (tb.trans (tc.trans tu)))).app (.cons (rc.ts tu) .nil)
      · rw [take_one (List.getElem?_eq_getElem hi)]
        exact paired_snoc hp' ⟨sm.wt, by have := sm.dp; omega⟩
      · have := sm.sz
        simp only [List.map_append, List.sum_append, List.map_cons, List.map_nil, List.sum_cons, List.sum_nil]
        push_cast
        omega
      · refine (C'.trans (.of0 cT)).trans ?_
        refine (cb.sub (by intro x h; simp at h ⊢; simp [h])).trans ?_
        refine (cc'.sub (by intro x h; simp at h ⊢; rcases h with h | h <;> simp [h])).trans (.put (by simp))
      · exact T'.trans (tT.trans (tb.trans (tc.trans tu)))
      · exact fc.ch (.put (S := [G]) (by simp)) (by simpa using nGF.symm)
      · exact wc.ch (.put (S := [G]) (by simp)) (by simpa using nGW.symm) tu
      · rw [upd_ne nGP.symm]
        exact pc
    · rintro σ' H' ⟨pgs, xs, left, u1, u2, u3, rfl, hg, hr', hp', hl', hs1, hs2, hs3, C', T', f', w', pl⟩
      rw [List.length_map] at hp' hs2
      rw [List.take_length] at hp'
      refine ⟨_, rfl, _, _, rfl, .inl ⟨SqL.of hg, fun l hl => ?_⟩⟩
      obtain ⟨pg, epg, smp⟩ := shp_made (m := down.toNat) (n := (pgs.map Pg.size).sum) s cc pgs hp' (Nat.le_refl _)
      have cl : Ch [] H' (upd H' l (.tup (hdV s cc ++ xs))) := .new hl
      have CE : Ch [F, W] H9 H' := fun x o hx ho => by
        have n1 : x ≠ G := fun z => by rw [z, hG] at ho; cases ho
        exact C' x o (by simp at hx ⊢; exact ⟨hx.1, hx.2, n1⟩) (cG x o (by simp) ho)
      rw [est] at smp
      refine q pg _ _ (smp.up ?_ (by omega)) ((C9.trans CE).trans (.of0 cl)) (T9.trans (tG.trans (T'.trans (.of cl)))) (f'.ch cl (by simp)) (w'.ch cl (by simp) (.of cl)) ?_
      · have : ((pgs.map Pg.size).sum : Int) ≤ room - 1 := by
          have := s.ps_len
          omega
        omega
      · rw [epg]
        exact .new ((hd_r s cc).app hr') hl
end
end LM
set_option Elab.async false
set_option linter.all false
set_option maxRecDepth 100000
set_option maxHeartbeats 4000000
namespace LM
open PySem PySem.Spec PyProof.Rows L2
def hdD (ks : List Kd) (t : Kd) : Dt := .tup [ksD ks, .str t.s]
section
variable {P : Program} {w : World} {K : PySem.W.Frag} {mg : Str → Option Value} {base : Heap}
/-! ### wishes -/
def spSmall (K : PySem.W.Frag) : Sp := fun vs H Q _ => ∃ (F : Addr) (kv : V) (ks : List Kd) (t : Kd), vs = [.ref F, kv, .str t.s] ∧ FlAt H F ∧ DR K H kv (ksD ks) ∧ ks.length ≤ 10 ∧ Gives K (ks ++ [t]) .truth 10 6 [F] F H Q
theorem sc_small : FnScope ["_law_flow_here", "_law_kinds", "_law_kind", "_law_world"] ["_law_flow_here", "_law_kinds", "_law_kind"] (defScope (top 58)) := ⟨rfl, rfl, rfl, by decide +kernel, rfl, by decide +kernel, by decide +kernel⟩
theorem ksD_snoc (ks : List Kd) (t : Kd) : (ks.map fun k => Dt.str k.s) ++ [.str t.s] = (ks ++ [t]).map fun k => Dt.str k.s := by rw [List.map_append]; rfl
theorem ok_small (D : Df K mg "_law_small_wish" (top 58)) (O__law_draw : OkF P w K mg base CX0 1 "_law_draw" ["_law_flow_here", "_law_many"] spDraw) (O__law_made : OkF P w K mg base CX0 10 "_law_made" ["_law_flow_here", "_law_world", "_law_kind", "_law_room", "_law_down"] (spMade K 6)) :
    OkF P w K mg base CX0 11 "_law_small_wish" ["_law_flow_here", "_law_kinds", "_law_kind"] (spSmall K) := by
  refine okF0 D sc_small (fun _ _ _ _ _ _ us hl => match us, hl with | [_, _, _], _ => rfl) (fun vs H Q E h => ?_) (fun cdv A outer s H vs Q E hr h => ?_)
  · obtain ⟨F, kv, ks, t, rfl, _⟩ := h
    rfl
  · obtain ⟨F, kv, ks, t, rfl, f0, rk, lk, q⟩ := h
    have nd := sc_small.nd
    refine ⟨_, (pss_cons (ps_set (i := 3) nd rfl (Or.inl rfl) (pe_disp (pps_cons pe_str (pe_op (r := rCatA K) op_catA (pv 1) (pe_tup (pa_cons (pv 2) pa_nil))) (pps_cons pe_str pe_int (pps_cons pe_str pe_int (pps_cons pe_str pe_int pps_nil)))) (by rfl) (by rfl) (fun z => by cases z) (by decide)))
  (pss_one (ps_ret (pe_callF O__law_made (hr.mono (by omega)) rfl pass0 (pa_cons (pv 0) (pa_cons (pv 3) (pa_cons pe_str (pa_cons (pe_op op_add pe_int (pe_callF O__law_draw (hr.mono (by omega)) rfl pass0 (pa_cons (pv 0) (pa_cons pe_int pa_nil)))) (pa_cons pe_int pa_nil))))))))), ?_⟩
    intro W hW
    have c1 : Ch [] H (upd H W (.dK [])) := .new hW
    have hw1 : upd H W (.dK []) W = some (.dK []) := upd_same
    generalize upd H W (.dK []) = H1 at c1 hw1 ⊢
    refine ⟨_, rfl, _, rfl, (by show 1 ≤ sizeLine; decide), fun p1 hp1 => ?_⟩
    have c2 : Ch [] H1 (upd H1 p1 (.tup [.str t.s])) := .new hp1
    refine cat_dt (ds := ks.map fun (k : Kd) => Dt.str k.s) (es := [Dt.str t.s]) ((rk.ch c1).ch c2) (.new (.cons (.str _) .nil) hp1) (by simp; omega) fun x H3 c3 rx => ?_
    rw [ksD_snoc] at rx
    have c13 : Ch [] H1 H3 := c2.trans c3
    refine ⟨c13 W _ (by simp) hw1, [(.inr "kinds", x), (.inr "cmp", .int 3), (.inr "if", .int 2), (.inr "any", .int 99)], rfl, (by show 4 ≤ 15; decide), ?_⟩
    have nW : NoTup (H3 W) := by rw [c13 W _ (by simp) hw1]; trivial
    have t4 : Ts H3 (upd H3 W (.dK (woL x 3 2 99))) := .upd nW
    have c4 : Ch [] H (upd H3 W (.dK (woL x 3 2 99))) := (c1.trans c13).mut hW
    have w4 : WoAt K (upd H3 W (.dK (woL x 3 2 99))) W (ks ++ [t]) := ⟨x, 3, 2, 99, upd_same, DR.ts t4 rx, by simp; omega⟩
    have f4 := f0.ch c4 (by simp)
    have t04 : Ts H (upd H3 W (.dK (woL x 3 2 99))) := .of c4
    show _
    generalize hH4 : upd H3 W (.dK (mergeK [] [(.inr "kinds", x), (.inr "cmp", .int 3), (.inr "if", .int 2), (.inr "any", .int 99)])) = H4
    have e4 : upd H3 W (.dK (woL x 3 2 99)) = H4 := hH4
    rw [e4] at t4 c4 w4 f4 t04
    refine ⟨_, rfl, _, rfl, _, rfl, F, _, rfl, f4, by decide, by decide, fun d H5 e0 e1 c5 f5 => ?_⟩
    have nWF : W ≠ F := fl_ne f0 hW
    have t5 := ts_fl f4 c5
    refine ⟨_, _, rfl, rfl, F, W, ks ++ [t], .truth, 2 + d, 5, rfl, f5, w4.ch c5 (by simpa using nWF) t5, by omega, by omega, by omega, by decide, fun p v H6 sm c6 t6 f6 w6 r6 => ?_⟩
    refine q p v H6 (sm.up (by omega) (by decide)) ?_ (t04.trans (t5.trans t6)) f6 r6
    intro a o ha he
    have nWa : a ≠ W := fun z => by rw [z, hW] at he; cases he
    exact c6 a o (by simp at ha ⊢; exact ⟨ha, nWa⟩) (c5 a o ha (c4 a o (by simp) he))
/-! ### heads -/
def spHead (K : PySem.W.Frag) : Sp := fun vs H Q _ => ∃ F : Addr, vs = [.ref F] ∧ FlAt H F ∧ ∀ (ks : List Kd) (t : Kd) (v : V) (H' : Hp), ks.length ≤ 2 → Ch [F] H H' → Ts H H' → FlAt H' F → DR K H' v (hdD ks t) → Q v H'
theorem three_kd {d : Int} (h0 : 0 ≤ d) (h1 : d < 3) : ∃ t : Kd, atI [V.str "num", V.str "truth", V.str "num"] d = some (.str t.s) := by
  have : d = 0 ∨ d = 1 ∨ d = 2 := by omega
  rcases this with rfl | rfl | rfl
  · exact ⟨.num, rfl⟩
  · exact ⟨.truth, rfl⟩
  · exact ⟨.num, rfl⟩
theorem sc_head : FnScope ["_law_flow_here", "_law_kinds", "_law_k"] ["_law_flow_here"] (defScope (top 59)) := ⟨rfl, rfl, rfl, by decide +kernel, rfl, by decide +kernel, by decide +kernel⟩
theorem drs_kds {K : PySem.W.Frag} {H : Hp} : ∀ ks : List Kd, DRs K H (ks.map fun k => V.str k.s) (ks.map fun k => Dt.str k.s)
  | [] => .nil
  | k :: ks => .cons (.str _) (drs_kds ks)
theorem ok_head (D : Df K mg "_law_head" (top 59)) (T : Bn mg) (O__law_draw : OkF P w K mg base CX0 1 "_law_draw" ["_law_flow_here", "_law_many"] spDraw) : OkF P w K mg base CX0 2 "_law_head" ["_law_flow_here"] (spHead K) := by
  refine okF0 D sc_head (fun _ _ _ _ _ _ us hl => match us, hl with | [_], _ => rfl) (fun vs H Q E h => ?_) (fun cdv A outer s H vs Q E hr h => ?_)
  · obtain ⟨F, rfl, _⟩ := h
    rfl
  · obtain ⟨F, rfl, f0, q⟩ := h
    have nd := sc_head.nd
    refine ⟨_, (pss_cons (ps_set (i := 1) nd rfl (Or.inl rfl) (pe_callTy (r := rTupS K) call_tuple_of (by rfl) T.b_tuple (by decide +kernel) (pa_cons (pe_lc (own := [("_law_k", 2)]) (tt := tYes) rfl nd (pi_range1 rfl T.b_range (pa_cons (pe_callF O__law_draw (hr.mono (by omega)) rfl pass0 (pa_cons (pv 0) (pa_cons pe_int pa_nil))) pa_nil)) (blkOk_by (own := [("_law_k", 2)]) (N := ["_law_flow_here", "_law_kinds", "_law_k"]) (sc := defScope (top 59)) (by decide +kernel)) (fun _ _ _ _ _ => (pg_name (i := 2) nd rfl (Or.inl rfl))) (fun _ _ _ _ _ => pts_nil) (fun _ _ _ _ _ => (pe_ix (r := rIxL K) ix_list (pe_lst (pa_cons pe_str (pa_cons pe_str (pa_cons pe_str pa_nil)))) (pe_callF O__law_draw (hr.mono (by omega)) rfl pass0 (pa_cons (pv 0) (pa_cons pe_int pa_nil))) (fun _ _ => rfl)))) pa_nil)))
  (pss_one (ps_ret (pe_tup (pa_cons (pv 1) (pa_cons (pe_ix (r := rIxL K) ix_list (pe_lst (pa_cons pe_str (pa_cons pe_str (pa_cons pe_str pa_nil)))) (pe_callF O__law_draw (hr.mono (by omega)) rfl pass0 (pa_cons (pv 0) (pa_cons pe_int pa_nil))) (fun _ _ => rfl)) pa_nil)))))), ?_⟩
    -- one kind by a draw
    refine ⟨_, rfl, F, _, rfl, f0, by decide, by decide, fun d H1 e0 e1 c1 f1 => ?_⟩
    refine ⟨_, rfl, by omega, by omega, fun L hL => ?_⟩
    have nLF : L ≠ F := fl_ne f1 hL
    refine lc_range (lo := 0) (n := d.toNat) (fun i H' => Ch [F] H1 H' ∧ Ts H1 H' ∧ FlAt H' F ∧ ∃ ks : List Kd, ks.length = i ∧ H' L = some (.lst (ks.map fun k => .str k.s))) ?_ ?_ ?_
    · exact ⟨.new hL, .of (.new hL), f1.ch (.new (S := []) hL) (by simp), [], rfl, upd_same⟩
    · rintro i H' hi ⟨c, tt, f, ks, hk, hl⟩
      refine ⟨rfl, ?_⟩
      refine ⟨(by show 3 ≤ sizeLine; decide), fun p hp => ?_⟩
      have npF : p ≠ F := fl_ne f hp
      have npL : p ≠ L := fun z => by rw [z, hl] at hp; cases hp
      have fp := f.ch (.new (S := []) hp (o := .lst [.str "num", .str "truth", .str "num"])) (by simp)
      refine ⟨_, rfl, F, _, rfl, fp, by decide, by decide, fun d' H2 a0 a1 c2 f2 => ?_⟩
      obtain ⟨t, ht⟩ := three_kd a0 a1
      have hL2 := c2 L _ (in1 nLF) (by rw [upd_ne npL.symm]; exact hl)
      refine ⟨p, _, _, _, rfl, rfl, SqL.of (c2 p _ (in1 npF) upd_same), ht, _, hL2, ?_, ?_⟩
      · rw [List.length_map]
        exact small1000 (by omega)
      · refine ⟨((c.trans (.new hp)).trans c2).mut hL, ?_, f2.ch (.put (S := [L]) (by simp)) (by simpa using nLF.symm), ks ++ [t], by simp [hk], ?_⟩
        · exact (tt.trans (.of (.new hp))).trans ((ts_fl fp c2).trans (.upd (by rw [hL2]; trivial)))
        · rw [List.map_append]
          exact upd_same
    · rintro H2 ⟨c2, t2, f2, ks, hk, hl⟩
      refine ⟨L, _, rfl, .inl ⟨SqL.of hl, fun p hp => ?_⟩⟩
      have c3 : Ch [] H2 (upd H2 p (.tup (ks.map fun k => .str k.s))) := .new hp
      have r3 : DR K (upd H2 p (.tup (ks.map fun k => .str k.s))) (.ref p) (ksD ks) := .new (drs_kds ks) hp
      have f3 := f2.ch c3 (by simp)
      have t3 := Ts.of c3
      show _
      generalize upd H2 p (.tup (ks.map fun k => .str k.s)) = H3 at c3 r3 f3 t3 ⊢
      refine ⟨_, rfl, (by show 3 ≤ sizeLine; decide), fun p' hp' => ?_⟩
      have npF : p' ≠ F := fl_ne f3 hp'
      have c4 : Ch [] H3 (upd H3 p' (.lst [.str "num", .str "truth", .str "num"])) := .new hp'
      have f4 := f3.ch c4 (by simp)
      refine ⟨_, rfl, F, _, rfl, f4, by decide, by decide, fun d' H5 a0 a1 c5 f5 => ?_⟩
      obtain ⟨t, ht⟩ := three_kd a0 a1
      have t5 := ts_fl f4 c5
      refine ⟨p', _, _, _, rfl, rfl, SqL.of (c5 p' _ (in1 npF) upd_same), ht, ?_⟩
      refine tup_dt (ds := [ksD ks, .str t.s]) (.cons ((r3.ch c4).ts t5) (.cons (.str _) .nil)) (by show 2 ≤ 1000; decide) fun x H6 c6 r6 => ?_
      exact q ks t x H6 (by omega) (c1.trans (c2.trans ((Ch.of0 (c3.trans c4)).trans (c5.trans (.of0 c6))))) ((ts_fl f0 c1).trans (t2.trans (t3.trans ((Ts.of c4).trans (t5.trans (.of c6)))))) (f5.ch c6 (by simp)) r6
end
end LM
set_option Elab.async false
set_option linter.all false
set_option maxRecDepth 100000
set_option maxHeartbeats 4000000
namespace LM
open PySem PySem.Spec PyProof.Rows L2
mutual
def Dt.ok : Dt → Bool
  | .non => true | .bl _ => true | .int _ => true
  | .str x => PyData.canLay0 (.str x)
  | .tup ds => Dt.oks ds
def Dt.oks : List Dt → Bool
  | [] => true
  | d :: ds => d.ok && Dt.oks ds
end
mutual
theorem Dt.lay : ∀ d : Dt, PyData.canLay0 d.py = d.ok
  | .non => rfl
  | .bl _ => rfl
  | .int _ => rfl
  | .str _ => rfl
  | .tup ds => Dt.lays ds
theorem Dt.lays : ∀ ds : List Dt, PyData.canLayAll0 (Dt.pys ds) = Dt.oks ds
  | [] => rfl
  | d :: ds => by
    show (PyData.canLay0 d.py && PyData.canLayAll0 (Dt.pys ds)) = (d.ok && Dt.oks ds)
    rw [Dt.lay d, Dt.lays ds]
end
mutual
def Dt.lv : Dt → Nat
  | .tup ds => Dt.lvs ds + 1
  | .non => 0 | .bl _ => 0 | .int _ => 0 | .str _ => 0
def Dt.lvs : List Dt → Nat
  | [] => 0
  | d :: ds => max d.lv (Dt.lvs ds)
end
mutual
theorem Dt.lv_py : ∀ d : Dt, PyData.depth d.py = d.lv
  | .non => rfl
  | .bl _ => rfl
  | .int _ => rfl
  | .str _ => rfl
  | .tup ds => by
    show PyData.depthAll (Dt.pys ds) + 1 = Dt.lvs ds + 1
    rw [Dt.lvs_py ds]
theorem Dt.lvs_py : ∀ ds : List Dt, PyData.depthAll (Dt.pys ds) = Dt.lvs ds
  | [] => rfl
  | d :: ds => by
    show max (PyData.depth d.py) (PyData.depthAll (Dt.pys ds)) = max d.lv (Dt.lvs ds)
    rw [Dt.lv_py d, Dt.lvs_py ds]
end
/-- data that == may hold -/
structure Shd (d : Dt) : Prop where
  ok : d.ok = true
  lv : d.lv ≤ 60
theorem Shd.s {d : Dt} (h : Shd d) : SeqAt.shaped d.py = true := by
  have e := h.lv
  show (PyData.canLay0 d.py && decide (PyData.depth d.py ≤ 64)) = true
  rw [Dt.lay, Dt.lv_py, h.ok, decide_eq_true (by omega)]
  rfl
theorem Dt.oks_all {ds : List Dt} (h : ∀ d ∈ ds, Shd d) : Dt.oks ds = true ∧ Dt.lvs ds ≤ 60 := by
  induction ds with
  | nil => exact ⟨rfl, Nat.zero_le _⟩
  | cons d ds ih =>
    obtain ⟨h1, h2⟩ := h d List.mem_cons_self
    obtain ⟨h3, h4⟩ := ih fun e he => h e (List.mem_cons_of_mem _ he)
    refine ⟨by show (d.ok && Dt.oks ds) = true; rw [h1, h3]; rfl, ?_⟩
    show max d.lv (Dt.lvs ds) ≤ 60
    omega
theorem shd_list {ds : List Dt} (h : ∀ d ∈ ds, Shd d) : SeqAt.shaped (.list (Dt.pys ds)) = true := by
  obtain ⟨h1, h2⟩ := Dt.oks_all h
  show (PyData.canLayAll0 (Dt.pys ds) && decide (PyData.depthAll (Dt.pys ds) + 1 ≤ 64)) = true
  rw [Dt.lays, Dt.lvs_py, h1, decide_eq_true (by omega)]
  rfl
/-- plain things, or a tuple of such -/
def OkL (ds : List Dt) : Prop := ∀ d ∈ ds, d.ok = true ∧ d.lv ≤ 1
theorem OkL.app {xs ys : List Dt} (h : OkL xs) (g : OkL ys) : OkL (xs ++ ys) := fun d hd => by
  rcases List.mem_append.mp hd with hd | hd
  · exact h d hd
  · exact g d hd
theorem OkL.one {d : Dt} (h : d.ok = true ∧ d.lv ≤ 1) : OkL [d] := fun e he => by
  rw [List.mem_singleton.mp he]
  exact h
theorem OkL.all : ∀ {ds : List Dt}, OkL ds → Dt.oks ds = true ∧ Dt.lvs ds ≤ 1
  | [], _ => ⟨rfl, Nat.zero_le _⟩
  | d :: ds, h => by
    obtain ⟨h1, h2⟩ := h d List.mem_cons_self
    obtain ⟨h3, h4⟩ := OkL.all fun e he => h e (List.mem_cons_of_mem _ he)
    refine ⟨by show (d.ok && Dt.oks ds) = true; rw [h1, h3]; rfl, ?_⟩
    show max d.lv (Dt.lvs ds) ≤ 1
    omega
theorem shd_pair {i a : Dt} (h : i.ok = true ∧ i.lv ≤ 2) (g : a.ok = true ∧ a.lv ≤ 1) : Shd (.tup [i, a]) := by
  refine ⟨?_, ?_⟩
  · show (i.ok && (a.ok && true)) = true
    rw [h.1, g.1]
    rfl
  · show max i.lv (max a.lv 0) + 1 ≤ 60
    omega
theorem OkL.pair {is : List Dt} {a : Dt} (h : OkL is) (g : a.ok = true ∧ a.lv ≤ 1) : Shd (.tup [.tup is, a]) := by
  obtain ⟨h1, h2⟩ := h.all
  exact shd_pair ⟨h1, by show Dt.lvs is + 1 ≤ 2; omega⟩ g
end LM
set_option Elab.async false
set_option linter.all false
set_option maxRecDepth 100000
set_option maxHeartbeats 4000000
namespace LM
open PySem PySem.Spec PyProof.Rows L2
section
variable {P : Program} {w : World} {K : PySem.W.Frag} {mg : Str → Option Value} {base : Heap}
/-! ### inputs, examples -/
def spNear (K : PySem.W.Frag) : Sp := fun vs H Q _ => ∃ (F : Addr) (kv : V) (ks : List Kd), vs = [.ref F, kv] ∧ FlAt H F ∧ DR K H kv (ksD ks) ∧ ks.length ≤ 10 ∧ ∀ (ds : List Dt) (v : V) (H' : Hp), AreOf ks ds → Ch [F] H H' → Ts H H' → FlAt H' F → DR K H' v (.tup ds) → Q v H'
theorem sc_near : FnScope ["_law_flow_here", "_law_kinds", "_law_found", "_law_kind", "_law_number"] ["_law_flow_here", "_law_kinds"] (defScope (top 60)) := ⟨rfl, rfl, rfl, by decide +kernel, rfl, by decide +kernel, by decide +kernel⟩
theorem drs_kd {K : PySem.W.Frag} {H : Hp} {xs : List V} : ∀ {ks : List Kd}, DRs K H xs (ks.map fun k => Dt.str k.s) → xs = ks.map fun k => V.str k.s := by
  intro ks
  induction ks generalizing xs with
  | nil => intro h; cases h; rfl
  | cons k ks ih =>
    intro h
    cases h with
    | cons h1 h2 => rw [h1.str_inv, ih h2]; rfl
theorem ok_near (D : Df K mg "_law_near_inputs" (top 60)) (T : Bn mg) (O__law_draw : OkF P w K mg base CX0 1 "_law_draw" ["_law_flow_here", "_law_many"] spDraw) : OkF P w K mg base CX0 2 "_law_near_inputs" ["_law_flow_here", "_law_kinds"] (spNear K) := by
  refine okF0 D sc_near (fun _ _ _ _ _ _ us hl => match us, hl with | [_, _], _ => rfl) (fun vs H Q E h => ?_) (fun cdv A outer s H vs Q E hr h => ?_)
  · obtain ⟨F, kv, ks, rfl, _⟩ := h
    rfl
  · obtain ⟨F, kv, ks, rfl, f0, rk, lk, q⟩ := h
    have nd := sc_near.nd
    obtain ⟨ka, kxs, rfl, hkS, hkD⟩ := rk.tup_inv
    have hkx := drs_kd hkD
    subst hkx
    refine ⟨_, (pss_cons (ps_set (i := 2) nd rfl (Or.inl rfl) (pe_lst pa_nil))
  (pss_cons (ps_for PassesOwn.never rfl (pi_tup (pv 1)) (pg_name (i := 3) nd rfl (Or.inl rfl)) (pss_cons (ps_set (i := 4) nd rfl (Or.inl rfl) (pe_op op_sub (pe_callF O__law_draw (hr.mono (by omega)) rfl pass0 (pa_cons (pv 0) (pa_cons pe_int pa_nil))) pe_int))
  (pss_one (ps_expr (pe_bm PySem.F.plainAttrs_list PySem.F.slot_list_append PySem.F.type_list_append mt_append (pv 2) (pa_cons (pe_ix (r := rIxL K) ix_list (pe_lst (pa_cons (pv 4) (pa_cons (pe_cmpR op_eq (pe_callF O__law_draw (hr.mono (by omega)) rfl pass0 (pa_cons (pv 0) (pa_cons pe_int pa_nil))) pe_int (nomark _)) pa_nil))) (pe_callTy call_int1 (by rfl) T.b_int (by decide +kernel) (pa_cons (pe_cmpR op_eq (pv 3) pe_str (nomark _)) pa_nil)) (fun _ _ => rfl)) pa_nil))))))
  (pss_one (ps_ret (pe_callTy (r := rTupS K) call_tuple_of (by rfl) T.b_tuple (by decide +kernel) (pa_cons (pv 2) pa_nil)))))), ?_⟩
    refine ⟨(by show 0 ≤ sizeLine; decide), fun L hL => ?_⟩
    have nLF : L ≠ F := fl_ne f0 hL
    refine ⟨_, rfl, ka, rfl, ⟨_, (Ts.of (.new hL)).sq hkS⟩, ?_⟩
    refine for_it (walk_tup (K := K) (a := ka) (xs := ks.map fun k => V.str k.s)) (fun i σ' H' => ∃ (xs : List V) (ds : List Dt) (u1 u2 : Option V), σ' = [some (.ref F), some (.ref ka), some (.ref L), u1, u2] ∧ H' L = some (.lst xs) ∧ xs.length = i ∧ DRs K H' xs ds ∧ AreOf (ks.take i) ds ∧ Ch [F] H H' ∧ Ts H H' ∧ FlAt H' F) ?_ ?_ ?_ ?_
    · exact ⟨[], [], none, none, rfl, upd_same, rfl, .nil, .nil, .new hL, .of (.new hL), f0.ch (.new (S := []) hL) (by simp)⟩
    · rintro i σ' H' _ ⟨_, _, _, _, _, _, _, _, _, _, t, _⟩
      exact t.sq hkS
    · rintro i x σ' Hx H' hi ⟨xs, ds, u1, u2, rfl, hl, hx, hr', ha, c, t, f⟩ ⟨rfl, hx1⟩
      rw [List.length_map] at hi
      rw [List.getElem?_map, List.getElem?_eq_getElem hi] at hx1
      have ex := Option.some.inj hx1
      subst ex
      refine ⟨_, rfl, F, _, rfl, f, by decide, by decide, fun d H1 e0 e1 c1 f1 => ⟨_, _, rfl, rfl, ?_⟩⟩
      have hl1 := c1 L _ (in1 nLF) hl
      refine ⟨_, rfl, .inl ⟨rfl, _, SqL.of hl1⟩, _, rfl, _, rfl, F, _, rfl, f1, by decide, by decide, fun d2 H2 a0 a1 c2 f2 => ⟨rfl, (by show 2 ≤ sizeLine; decide), fun p hp => ?_⟩⟩
      have hl2 := c2 L _ (in1 nLF) hl1
      have npL : p ≠ L := fun z => by rw [z, hl2] at hp; cases hp
      refine ⟨_, rfl, rfl, .inr ⟨_, rfl, ?_⟩⟩
      have hlp : upd H2 p (.lst [.int (d - 2), .bl (decide (V.int d2 = V.int 0))]) L = some (.lst xs) := by rw [upd_ne npL.symm]; exact hl2
      have T2 : Ts H' (upd H2 p (.lst [.int (d - 2), .bl (decide (V.int d2 = V.int 0))])) := (ts_fl f c1).trans ((ts_fl f1 c2).trans (.of (.new hp)))
      have C2 : Ch [F] H (upd H2 p (.lst [.int (d - 2), .bl (decide (V.int d2 = V.int 0))])) := c.trans (c1.trans (c2.trans (.new hp)))
      have F2 : FlAt (upd H2 p (.lst [.int (d - 2), .bl (decide (V.int d2 = V.int 0))])) F := f2.ch (.new (S := []) hp) (by simp)
      have S2 : SqL K (upd H2 p (.lst [.int (d - 2), .bl (decide (V.int d2 = V.int 0))])) p [.int (d - 2), .bl (decide (V.int d2 = V.int 0))] := SqL.of upd_same
      generalize upd H2 p (.lst [.int (d - 2), .bl (decide (V.int d2 = V.int 0))]) = H3 at hlp T2 C2 F2 S2 ⊢
      have go : ∀ (x : V) (dd : Dt), KdOf (ks[i]) dd = true → DR K H3 x dd → ∃ l xs' y, V.ref L = .ref l ∧ [x] = [y] ∧ H3 l = some (.lst xs') ∧ xs'.length < sizeLine ∧ (∃ (xs : List V) (ds : List Dt) (w1 w2 : Option V), [some (V.ref F), some (.ref ka), some (.ref L), some (.str (ks[i]).s), some (.int (d - 2))] = [some (.ref F), some (.ref ka), some (.ref L), w1, w2] ∧ upd H3 l (.lst (xs' ++ [y])) L = some (.lst xs) ∧ xs.length = i + 1 ∧ DRs K (upd H3 l (.lst (xs' ++ [y]))) xs ds ∧ AreOf (ks.take (i + 1)) ds ∧ Ch [F] H (upd H3 l (.lst (xs' ++ [y]))) ∧ Ts H (upd H3 l (.lst (xs' ++ [y]))) ∧ FlAt (upd H3 l (.lst (xs' ++ [y]))) F) := by
        intro x dd hk hx'
        have tl : Ts H3 (upd H3 L (.lst (xs ++ [x]))) := .upd (by rw [hlp]; trivial)
        refine ⟨L, xs, x, rfl, rfl, hlp, small1000 (by omega), xs ++ [x], ds ++ [dd], _, _, rfl, upd_same, by simp [hx], (hr'.ts (T2.trans tl)).snoc (hx'.ts tl), ?_, C2.mut hL, (t.trans T2).trans tl, F2.ch (.put (S := [L]) (by simp)) (by simpa using nLF.symm)⟩
        rw [take_one (List.getElem?_eq_getElem hi)]
        exact paired_snoc ha hk
      by_cases hk : ks[i] = .truth
      · have e1 : decide (V.str (ks[i]).s = V.str "truth") = true := by rw [hk]; exact decide_eq_true rfl
        rw [e1]
        exact ⟨p, _, _, _, rfl, rfl, S2, rfl, go _ (.bl _) (by rw [hk]; rfl) (.bl _)⟩
      · have hk' : ks[i] = .num := by
          cases h : ks[i] with
          | num => rfl
          | truth => exact (hk h).elim
        have e1 : decide (V.str (ks[i]).s = V.str "truth") = false := decide_eq_false fun z => hk (Kd.eq_tru z)
        rw [e1]
        exact ⟨p, _, _, _, rfl, rfl, S2, rfl, go _ (.int _) (by rw [hk']; rfl) (.int _)⟩
    · rintro σ' H' ⟨xs, ds, u1, u2, rfl, hl, hx, hr', ha, c, t, f⟩
      rw [List.length_map, List.take_length] at ha
      refine ⟨_, rfl, L, _, rfl, .inl ⟨SqL.of hl, fun p hp => ?_⟩⟩
      exact q ds _ _ ha (c.trans (.new hp)) (t.trans (.of (.new hp))) (f.ch (.new (S := []) hp) (by simp)) (.new hr' hp)
/-- an example of a head -/
def spExample (K : PySem.W.Frag) : Sp := fun vs H Q _ => ∃ (F : Addr) (hv : V) (ks : List Kd) (t : Kd), vs = [.ref F, hv] ∧ FlAt H F ∧ DR K H hv (hdD ks t) ∧ ks.length ≤ 10 ∧ ∀ (ds : List Dt) (a : Dt) (v : V) (H' : Hp), AreOf ks ds → KdOf t a = true → Ch [F] H H' → Ts H H' → FlAt H' F → DR K H' v (.tup [.tup ds, a]) → Q v H'
theorem sc_example : FnScope ["_law_flow_here", "_law_head_here"] ["_law_flow_here", "_law_head_here"] (defScope (top 61)) := ⟨rfl, rfl, rfl, by decide +kernel, rfl, by decide +kernel, by decide +kernel⟩
theorem ok_example (D : Df K mg "_law_example" (top 61)) (O__law_near_inputs : OkF P w K mg base CX0 2 "_law_near_inputs" ["_law_flow_here", "_law_kinds"] (spNear K)) : OkF P w K mg base CX0 3 "_law_example" ["_law_flow_here", "_law_head_here"] (spExample K) := by
  refine okF0 D sc_example (fun _ _ _ _ _ _ us hl => match us, hl with | [_, _], _ => rfl) (fun vs H Q E h => ?_) (fun cdv A outer s H vs Q E hr h => ?_)
  · obtain ⟨F, hv, ks, t, rfl, _⟩ := h
    rfl
  · obtain ⟨F, hv, ks, t, rfl, f0, rh, lk, q⟩ := h
    have nd := sc_example.nd
    refine ⟨_, (pss_one (ps_ret (pe_tup (pa_cons (pe_callF O__law_near_inputs (hr.mono (by omega)) rfl pass0 (pa_cons (pv 0) (pa_cons (pe_ix (r := rIxT K) ix_tup (pv 1) pe_int (fun _ _ => rfl)) pa_nil))) (pa_cons (pe_ix (r := rIxT K) ix_tup (pe_callF O__law_near_inputs (hr.mono (by omega)) rfl pass0 (pa_cons (pv 0) (pa_cons (pe_tup (pa_cons (pe_ix (r := rIxT K) ix_tup (pv 1) pe_int (fun _ _ => rfl)) pa_nil)) pa_nil))) pe_int (fun _ _ => rfl)) pa_nil))))), ?_⟩
    refine ⟨_, rfl, _, rfl, ?_⟩
    refine ix_dt (n := 0) rh rfl fun kv rk => ?_
    refine ⟨F, kv, ks, rfl, f0, rk, lk, fun ds v1 H1 a1 c1 t1 f1 r1 => ?_⟩
    refine ⟨_, rfl, _, rfl, ?_⟩
    refine ix_dt (n := 1) (rh.ts t1) rfl fun tv rt => ?_
    have et := rt.str_inv
    subst et
    refine ⟨(by show 1 ≤ sizeLine; decide), fun p hp => ?_⟩
    have c2 : Ch [] H1 (upd H1 p (.tup [.str t.s])) := .new hp
    have rk2 : DR K (upd H1 p (.tup [.str t.s])) (.ref p) (ksD [t]) := .new (.cons (.str _) .nil) hp
    refine ⟨F, .ref p, [t], rfl, f1.ch c2 (by simp), rk2, by show 1 ≤ 10; decide, fun es v3 H3 a3 c3 t3 f3 r3 => ?_⟩
    have f2 := f1.ch c2 (by simp)
    cases a3 with
    | cons h1 h2 =>
      cases h2
      refine ix_dt (n := 0) r3 rfl fun av ra => ?_
      refine tup_dt (.cons ((r1.ch c2).ts t3) (.cons ra .nil)) (by show 2 ≤ 1000; decide) fun v4 H4 c4 r4 => ?_
      exact q ds _ v4 H4 a1 h1 (c1.trans ((Ch.of0 c2).trans (c3.trans (.of0 c4)))) (t1.trans ((Ts.of c2).trans (t3.trans (.of c4)))) (f3.ch c4 (by simp)) r4
/-- the law's look at a kind -/
def spIsOf (K : PySem.W.Frag) : Sp := fun vs H Q _ => ∃ (t : Kd) (v : V) (d : Dt), vs = [.str t.s, v] ∧ DR K H v d ∧ Q (.bl (KdOf t d)) H
theorem sc_isof : FnScope ["_law_kind", "_law_thing"] ["_law_kind", "_law_thing"] (defScope (top 62)) := ⟨rfl, rfl, rfl, by decide +kernel, rfl, by decide +kernel, by decide +kernel⟩
theorem ok_isof (D : Df K mg "_law_is_of" (top 62)) (T : Bn mg) : OkF P w K mg base CX0 1 "_law_is_of" ["_law_kind", "_law_thing"] (spIsOf K) := by
  refine okF0 D sc_isof (fun _ _ _ _ _ _ us hl => match us, hl with | [_, _], _ => rfl) (fun vs H Q E h => ?_) (fun cdv A outer s H vs Q E hr h => ?_)
  · obtain ⟨t, v, d, rfl, _⟩ := h
    rfl
  · obtain ⟨t, v, d, rfl, rd, q⟩ := h
    refine ⟨_, (pss_cons (ps_if (pt_cmpR op_eq (pv 0) pe_str (nomark _)) (pss_one (ps_ret (pe_callB (r := rIsi K) call_isi (by rfl) T.b_isinstance (by decide +kernel) (pa_cons (pv 1) (pa_cons (pe_bltn (v := .ty "bool") (by rfl) T.b_bool (by decide +kernel) rfl) pa_nil))))) pss_nil)
  (pss_one (ps_ret (pe_and (pe_callB (r := rIsi K) call_isi (by rfl) T.b_isinstance (by decide +kernel) (pa_cons (pv 1) (pa_cons (pe_bltn (v := .ty "int") (by rfl) T.b_int (by decide +kernel) rfl) pa_nil))) (pe_one (pe_not (pe_callB (r := rIsi K) call_isi (by rfl) T.b_isinstance (by decide +kernel) (pa_cons (pv 1) (pa_cons (pe_bltn (v := .ty "bool") (by rfl) T.b_bool (by decide +kernel) rfl) pa_nil))))))))), ?_⟩
    refine ⟨_, rfl, rfl, _, rfl, ?_⟩
    refine iteD (fun e => ?_) (fun e => ?_)
    · have et := Kd.eq_tru e
      subst et
      refine ⟨_, rfl, ?_⟩
      refine isi_bool rd ?_
      have : d.isBl = KdOf .truth d := by cases d <;> rfl
      rw [this]
      exact q
    · have et : t = .num := by cases t with
        | num => rfl
        | truth => exact (e rfl).elim
      subst et
      refine ⟨_, rfl, ?_⟩
      dsimp only [tCons, tC, tNil]
      refine isi_int rd ?_
      refine ⟨_, rfl, ?_⟩
      refine iteB (fun e1 => ?_) (fun e1 => ?_)
      · refine ⟨_, rfl, ?_⟩
        dsimp only [tCons, tC, tNil]
        refine isi_bool rd ?_
        refine ⟨_, rfl, ?_⟩
        have : (!d.isBl) = KdOf .num d := by cases d <;> first | rfl | cases e1
        rw [this]
        exact q
      · have : false = KdOf .num d := by cases d <;> first | rfl | cases e1
        rw [this]
        exact q
/-- a pair that may be none of the head's -/
def spPair (K : PySem.W.Frag) (F : Addr) (H : Hp) (Q : VK) : Prop := ∀ (i a : Dt) (v : V) (H' : Hp), Shd (.tup [i, a]) → Ch [F] H H' → Ts H H' → FlAt H' F → DR K H' v (.tup [i, a]) → Q v H'
def spBad (K : PySem.W.Frag) : Sp := fun vs H Q _ => ∃ (F : Addr) (hv : V) (ks : List Kd) (t : Kd), vs = [.ref F, hv] ∧ FlAt H F ∧ DR K H hv (hdD ks t) ∧ ks.length ≤ 10 ∧ spPair K F H Q
theorem cutD_len (ds : List Dt) (lo hi : Option Int) : (cutD ds lo hi).length ≤ ds.length := by
  unfold cutD
  rw [List.length_take, List.length_drop]
  omega
theorem OkL.cut {ds : List Dt} {lo hi : Option Int} (h : OkL ds) : OkL (cutD ds lo hi) := fun d hd => h d (List.mem_of_mem_drop (List.mem_of_mem_take hd))
theorem kd_okl {t : Kd} {a : Dt} (h : KdOf t a = true) : a.ok = true ∧ a.lv ≤ 1 := by
  cases t <;> cases a <;> first | exact ⟨rfl, Nat.zero_le _⟩ | cases h
theorem okL_are : ∀ {ks : List Kd} {is : List Dt}, AreOf ks is → OkL is
  | _, _, .nil => fun d hd => by cases hd
  | _, _, .cons h r => fun d hd => by
    rcases List.mem_cons.mp hd with rfl | hd
    · exact kd_okl h
    · exact okL_are r d hd
theorem odd_ok : ∀ d ∈ ([.non, .bl true, .int 1, .str "num", .tup [], .int 0, .bl false] : List Dt), d.ok = true ∧ d.lv ≤ 1 := by
  intro d hd
  simp only [List.mem_cons, List.not_mem_nil, or_false] at hd
  rcases hd with rfl | rfl | rfl | rfl | rfl | rfl | rfl <;> exact ⟨by decide +kernel, by decide +kernel⟩
theorem odd_ok2 : ∀ d ∈ ([.non, .int 5, .str "inputs", .bl true] : List Dt), d.ok = true ∧ d.lv ≤ 2 := by
  intro d hd
  simp only [List.mem_cons, List.not_mem_nil, or_false] at hd
  rcases hd with rfl | rfl | rfl | rfl <;> exact ⟨by decide +kernel, by decide +kernel⟩
theorem sc_bad : FnScope ["_law_flow_here", "_law_head_here", "_law_inputs", "_law_answer", "_law_form", "_law_at", "_law_odd"] ["_law_flow_here", "_law_head_here"] (defScope (top 68)) := ⟨rfl, rfl, rfl, by decide +kernel, rfl, by decide +kernel, by decide +kernel⟩
theorem ok_bad (D : Df K mg "_law_bad_example" (top 68)) (T : Bn mg) (O__law_draw : OkF P w K mg base CX0 1 "_law_draw" ["_law_flow_here", "_law_many"] spDraw) (O__law_example : OkF P w K mg base CX0 3 "_law_example" ["_law_flow_here", "_law_head_here"] (spExample K)) :
    OkF P w K mg base CX0 4 "_law_bad_example" ["_law_flow_here", "_law_head_here"] (spBad K) := by
  refine okF0 D sc_bad (fun _ _ _ _ _ _ us hl => match us, hl with | [_, _], _ => rfl) (fun vs H Q E h => ?_) (fun cdv A outer s H vs Q E hr h => ?_)
  · obtain ⟨F, hv, ks, t, rfl, _⟩ := h
    rfl
  · obtain ⟨F, hv, ks, t, rfl, f0, rh, lk, q⟩ := h
    have nd := sc_bad.nd
    refine ⟨_, (pss_cons (ps_asg (pe_callF O__law_example (hr.mono (by omega)) rfl pass0 (pa_cons (pv 0) (pa_cons (pv 1) pa_nil))) (pg_tup rfl (pgs_cons (pg_name (i := 2) nd rfl (Or.inl rfl)) (pgs_cons (pg_name (i := 3) nd rfl (Or.inl rfl)) pgs_nil))))
  (pss_cons (ps_par (i := 4) (j := 5) rfl nd rfl rfl (by decide) rfl rfl (pa_cons (pe_callF O__law_draw (hr.mono (by omega)) rfl pass0 (pa_cons (pv 0) (pa_cons pe_int pa_nil))) (pa_cons (pe_callF O__law_draw (hr.mono (by omega)) rfl pass0 (pa_cons (pv 0) (pa_cons (pe_op op_add (pe_callB (r := rLenS K) call_len_seq (by rfl) T.b_len PySem.boot_len (pa_cons (pv 2) pa_nil)) pe_int) pa_nil))) pa_nil)) (by rfl))
  (pss_cons (ps_set (i := 6) nd rfl (Or.inl rfl) (pe_ix (r := rIxL K) ix_list (pe_lst (pa_cons pe_non (pa_cons pe_bl (pa_cons pe_int (pa_cons pe_str (pa_cons (pe_tup pa_nil) (pa_cons pe_int (pa_cons pe_bl pa_nil)))))))) (pe_callF O__law_draw (hr.mono (by omega)) rfl pass0 (pa_cons (pv 0) (pa_cons pe_int pa_nil))) (fun _ _ => rfl)))
  (pss_cons (ps_if (pt_cmpR op_eq (pv 4) pe_int (nomark _)) (pss_one (ps_ret (pe_tup (pa_cons (pe_op (r := rCatA K) op_catA (pe_op (r := rCatA K) op_catA (pe_slice (r := rSlA K) sl_tupA (pv 2) po_none (po_some (pv 5))) (pe_tup (pa_cons (pv 6) pa_nil))) (pe_slice (r := rSlA K) sl_tupA (pv 2) (po_some (pe_op op_add (pv 5) pe_int)) po_none)) (pa_cons (pv 3) pa_nil))))) pss_nil)
  (pss_cons (ps_if (pt_cmpR op_eq (pv 4) pe_int (nomark _)) (pss_one (ps_ret (pe_tup (pa_cons (pe_op (r := rCatA K) op_catA (pe_op (r := rCatA K) op_catA (pe_slice (r := rSlA K) sl_tupA (pv 2) po_none (po_some (pv 5))) (pe_tup (pa_cons (pv 6) pa_nil))) (pe_slice (r := rSlA K) sl_tupA (pv 2) (po_some (pv 5)) po_none)) (pa_cons (pv 3) pa_nil))))) pss_nil)
  (pss_cons (ps_if (pt_cmpR op_eq (pv 4) pe_int (nomark _)) (pss_one (ps_ret (pe_tup (pa_cons (pe_op (r := rCatA K) op_catA (pe_slice (r := rSlA K) sl_tupA (pv 2) po_none (po_some (pv 5))) (pe_slice (r := rSlA K) sl_tupA (pv 2) (po_some (pe_op op_add (pv 5) pe_int)) po_none)) (pa_cons (pv 3) pa_nil))))) pss_nil)
  (pss_cons (ps_if (pt_cmpR op_eq (pv 4) pe_int (nomark _)) (pss_one (ps_ret (pe_tup (pa_cons (pe_ix (r := rIxL K) ix_list (pe_lst (pa_cons pe_non (pa_cons pe_int (pa_cons pe_str (pa_cons pe_bl pa_nil))))) (pe_callF O__law_draw (hr.mono (by omega)) rfl pass0 (pa_cons (pv 0) (pa_cons pe_int pa_nil))) (fun _ _ => rfl)) (pa_cons (pv 3) pa_nil))))) pss_nil)
  (pss_one (ps_ret (pe_tup (pa_cons (pv 2) (pa_cons (pv 6) pa_nil)))))))))))), ?_⟩
    refine ⟨_, rfl, _, rfl, F, hv, ks, t, rfl, f0, rh, lk, fun ds a v H1 ha hk c1 t1 f1 r1 => ?_⟩
    obtain ⟨pa, pxs, rfl, pS, pD⟩ := r1.tup_inv
    cases pD with
    | cons d1 pD =>
    cases pD with
    | cons d2 pD =>
    cases pD
    rename_i iv av
    have ldk : ds.length ≤ 10 := by rw [← pair_len ha]; exact lk
    refine ⟨pa, _, rfl, pS, rfl, _, _, rfl, _, _, rfl, rfl, ?_⟩
    refine ⟨_, rfl, F, _, rfl, f1, by decide, by decide, fun fo H2 e0 e1 c2 f2 => ?_⟩
    have t2 := ts_fl f1 c2
    have d1' := d1.ts t2
    refine ⟨_, rfl, _, rfl, ?_⟩
    dsimp only [tNil]
    refine len_dt d1' ?_
    refine ⟨_, _, rfl, rfl, F, _, rfl, f2, by omega, by omega, fun at_ H3 a0 a1 c3 f3 => ⟨_, _, rfl, ?_⟩⟩
    have t3 := ts_fl f2 c3
    -- the odd thing
    refine ⟨(by show 0 ≤ sizeLine; decide), fun p0 h0 => ⟨(by show 7 ≤ sizeLine; decide), fun p1 h1 => ?_⟩⟩
    have c4 : Ch [] H3 (upd (upd H3 p0 (.tup [])) p1 (.lst [.non, .bl true, .int 1, .str "num", .ref p0, .int 0, .bl false])) := (Ch.new h0).trans (.new h1)
    have f4 := f3.ch c4 (by simp)
    have n1F : p1 ≠ F := fl_ne (f3.ch (.new (S := []) h0) (by simp)) h1
    have r0 : DR K (upd (upd H3 p0 (.tup [])) p1 (.lst [.non, .bl true, .int 1, .str "num", .ref p0, .int 0, .bl false])) (.ref p0) (.tup []) := DR.ch (.new h1) (.new .nil h0)
    have hl4 : upd (upd H3 p0 (.tup [])) p1 (.lst [.non, .bl true, .int 1, .str "num", .ref p0, .int 0, .bl false]) p1 = some (.lst [.non, .bl true, .int 1, .str "num", .ref p0, .int 0, .bl false]) := upd_same
    have tf := Ts.of c4
    generalize upd (upd H3 p0 (.tup [])) p1 (.lst [.non, .bl true, .int 1, .str "num", .ref p0, .int 0, .bl false]) = H4 at c4 f4 r0 hl4 tf ⊢
    refine ⟨_, rfl, F, _, rfl, f4, by decide, by decide, fun od H5 o0 o1 c5 f5 => ?_⟩
    have t5 := ts_fl f4 c5
    have hl5 := c5 p1 _ (in1 n1F) hl4
    have rows : DRs K H5 [.non, .bl true, .int 1, .str "num", .ref p0, .int 0, .bl false] [.non, .bl true, .int 1, .str "num", .tup [], .int 0, .bl false] :=
      .cons .non (.cons (.bl _) (.cons (.int _) (.cons (.str _) (.cons (r0.ts t5) (.cons (.int _) (.cons (.bl _) .nil))))))
    obtain ⟨on, rfl⟩ : ∃ n : Nat, od = (n : Int) := ⟨od.toNat, by omega⟩
    have hon : on < 7 := by omega
    obtain ⟨odv, hodv⟩ : ∃ x, ([V.non, .bl true, .int 1, .str "num", .ref p0, .int 0, .bl false] : List V)[on]? = some x := ⟨_, List.getElem?_eq_getElem (by simpa using hon)⟩
    obtain ⟨odd, hodd, rod⟩ := rows.getv hodv
    have kod := odd_ok _ (List.mem_of_getElem? hodd)
    have kds := okL_are ha
    have kan := kd_okl hk
    refine ⟨p1, _, _, odv, rfl, rfl, SqL.of hl5, atI_nat hodv, ?_⟩
    have T15 : Ts H1 H5 := t2.trans (t3.trans (tf.trans t5))
    have C05 : Ch [F] H H5 := c1.trans (c2.trans (c3.trans ((Ch.of0 c4).trans c5)))
    have T05 : Ts H H5 := t1.trans T15
    have e1' := d1.ts T15
    have e2' := d2.ts T15
    have fin : ∀ (i : Dt) (x y : V) (b : Dt) (H6 : Hp), Shd (.tup [i, b]) → Ch [] H5 H6 → DR K H6 x i → DR K H6 y b → ∀ p, H6 p = none → Q (.ref p) (upd H6 p (.tup [x, y])) := fun i x y b H6 hs c6 rx ry p hp =>
      q i b _ _ hs (C05.trans ((Ch.of0 c6).trans (.new hp))) (T05.trans ((Ts.of c6).trans (.of (.new hp)))) ((f5.ch c6 (by simp)).ch (.new (S := []) hp) (by simp)) (.new (.cons rx (.cons ry .nil)) hp)
    have z2 : (2 : Nat) ≤ sizeLine := by decide
    have cutting : ∀ {lo hi : Option Int} {xs : List Dt} {v : V} {G : Hp} {Q' : VK}, DR K G v (.tup xs) → (∀ x H', Ch [] G H' → DR K H' x (.tup (cutD xs lo hi)) → Q' x H') → rSlA K v lo hi G Q' := fun r k => sl_dt r k
    dsimp only [gName, tSeq, List.set]
    -- the forms
    refine ⟨_, rfl, rfl, _, rfl, iteD (fun _ => ?_) (fun _ => ?_)⟩
    · refine ⟨_, rfl, _, rfl, _, rfl, ?_⟩
      refine sl_dt e1' fun x6 H6 c6 r6 => ?_
      refine ⟨_, rfl, (by show 1 ≤ sizeLine; decide), fun p7 hp7 => ?_⟩
      refine cat_dt (r6.ch (.new hp7)) (.new (.cons ((rod.ch c6)) .nil) hp7) (by have := cutD_len ds none (some at_); simp; omega) fun x8 H8 c8 r8 => ?_
      have c68 : Ch [] H5 H8 := c6.trans ((Ch.new hp7).trans c8)
      refine ⟨_, rfl, _, rfl, _, _, rfl, rfl, _, rfl, ?_⟩
      dsimp only [tNoPart]
      refine sl_dt (e1'.ch c68) fun x9 H9 c9 r9 => ?_
      refine cat_dt (r8.ch c9) r9 (by have := cutD_len ds none (some at_); have := cutD_len ds (some (at_ + 1)) none; simp; omega) fun x10 H10 c10 r10 => ?_
      exact ⟨_, rfl, z2, fin _ _ _ _ H10 (((kds.cut.app (.one kod)).app kds.cut).pair kan) (c68.trans (c9.trans c10)) r10 (e2'.ch (c68.trans (c9.trans c10)))⟩
    refine ⟨_, rfl, rfl, _, rfl, iteD (fun _ => ?_) (fun _ => ?_)⟩
    · refine ⟨_, rfl, _, rfl, _, rfl, ?_⟩
      refine sl_dt e1' fun x6 H6 c6 r6 => ?_
      refine ⟨_, rfl, (by show 1 ≤ sizeLine; decide), fun p7 hp7 => ?_⟩
      refine cat_dt (r6.ch (.new hp7)) (.new (.cons ((rod.ch c6)) .nil) hp7) (by have := cutD_len ds none (some at_); simp; omega) fun x8 H8 c8 r8 => ?_
      have c68 : Ch [] H5 H8 := c6.trans ((Ch.new hp7).trans c8)
      refine ⟨_, rfl, _, rfl, _, rfl, ?_⟩
      dsimp only [tNoPart]
      refine sl_dt (e1'.ch c68) fun x9 H9 c9 r9 => ?_
      refine cat_dt (r8.ch c9) r9 (by have := cutD_len ds none (some at_); have := cutD_len ds (some at_) none; simp; omega) fun x10 H10 c10 r10 => ?_
      exact ⟨_, rfl, z2, fin _ _ _ _ H10 (((kds.cut.app (.one kod)).app kds.cut).pair kan) (c68.trans (c9.trans c10)) r10 (e2'.ch (c68.trans (c9.trans c10)))⟩
    refine ⟨_, rfl, rfl, _, rfl, iteD (fun _ => ?_) (fun _ => ?_)⟩
    · refine ⟨_, rfl, _, rfl, _, rfl, ?_⟩
      refine sl_dt e1' fun x6 H6 c6 r6 => ?_
      refine ⟨_, rfl, _, rfl, _, _, rfl, rfl, _, rfl, ?_⟩
      dsimp only [tNoPart]
      refine sl_dt (e1'.ch c6) fun x9 H9 c9 r9 => ?_
      refine cat_dt (r6.ch c9) r9 (by have := cutD_len ds none (some at_); have := cutD_len ds (some (at_ + 1)) none; omega) fun x10 H10 c10 r10 => ?_
      exact ⟨_, rfl, z2, fin _ _ _ _ H10 ((kds.cut.app kds.cut).pair kan) (c6.trans (c9.trans c10)) r10 (e2'.ch (c6.trans (c9.trans c10)))⟩
    refine ⟨_, rfl, rfl, _, rfl, iteD (fun _ => ?_) (fun _ => ?_)⟩
    · refine ⟨(by show 4 ≤ sizeLine; decide), fun p6 hp6 => ?_⟩
      have n6F : p6 ≠ F := fl_ne f5 hp6
      have f6 := f5.ch (.new (S := []) hp6 (o := .lst [.non, .int 5, .str "inputs", .bl true])) (by simp)
      refine ⟨_, rfl, F, _, rfl, f6, by decide, by decide, fun od2 H7 o20 o21 c7 f7 => ?_⟩
      have t7 := ts_fl f6 c7
      have hl7 := c7 p6 _ (in1 n6F) upd_same
      obtain ⟨n2, rfl⟩ : ∃ n : Nat, od2 = (n : Int) := ⟨od2.toNat, by omega⟩
      have hn2 : n2 < 4 := by omega
      have rows2 : DRs K H7 [.non, .int 5, .str "inputs", .bl true] [.non, .int 5, .str "inputs", .bl true] := .cons .non (.cons (.int _) (.cons (.str _) (.cons (.bl _) .nil)))
      obtain ⟨ov, hov⟩ : ∃ x, ([V.non, .int 5, .str "inputs", .bl true] : List V)[n2]? = some x := ⟨_, List.getElem?_eq_getElem (by simpa using hn2)⟩
      obtain ⟨od', hod', rod'⟩ := rows2.getv hov
      have kod2 := odd_ok2 _ (List.mem_of_getElem? hod')
      refine ⟨p6, _, _, ov, rfl, rfl, SqL.of hl7, atI_nat hov, _, rfl, z2, fun p hp => ?_⟩
      exact q od' a _ _ (shd_pair kod2 kan) (C05.trans ((Ch.new hp6).trans (c7.trans (.new hp)))) (T05.trans ((Ts.of (.new hp6)).trans (t7.trans (.of (.new hp))))) (f7.ch (.new (S := []) hp) (by simp))
        (.new (.cons rod' (.cons ((e2'.ch (.new hp6)).ts t7) .nil)) hp)
    · exact ⟨_, rfl, _, rfl, z2, fin _ _ _ _ H5 (kds.pair kod) .refl e1' rod⟩
end
end LM
set_option Elab.async false
set_option linter.all false
set_option maxRecDepth 100000
set_option maxHeartbeats 4000000
namespace LM
open PySem PySem.Spec PyProof.Rows L2
/-- what the top has written of tables -/
structure Tp (K : PySem.W.Frag) (w : World) (mg : Str → Option Value) : Prop extends Bn mg where
  g_PARTS : mg "PARTS" = some (.ref (He.ga K "PARTS"))
  W_PARTS : Wd K w (He.ga K "PARTS") ptW
  g_NUMBERED : mg "NUMBERED" = some (.ref (He.ga K "NUMBERED"))
  s_NUMBERED : ∀ H, SqT K H (He.ga K "NUMBERED") [.str "in", .str "num", .str "plus"]
  g_OF_NUMS : mg "OF_NUMS" = some (.ref (He.ga K "OF_NUMS"))
  s_OF_NUMS : ∀ H, SqT K H (He.ga K "OF_NUMS") [.str "plus", .str "least", .str "most", .str "atmost"]
  g_OF_TRUTHS : mg "OF_TRUTHS" = some (.ref (He.ga K "OF_TRUTHS"))
  s_OF_TRUTHS : ∀ H, SqT K H (He.ga K "OF_TRUTHS") [.str "not", .str "both", .str "either"]
  g_TELL_NUMS : mg "TELL_NUMS" = some (.ref (He.ga K "TELL_NUMS"))
  s_TELL_NUMS : ∀ H, SqT K H (He.ga K "TELL_NUMS") [.str "num", .str "plus", .str "least", .str "most"]
section
variable {P : Program} {w : World} {K : PySem.W.Frag} {mg : Str → Option Value} {base : Heap}
/-! ### forms -/
def spData (K : PySem.W.Frag) (f : Dt → Bool) : Sp := fun vs H Q _ => ∃ (v : V) (d : Dt), vs = [v] ∧ DR K H v d ∧ Q (.bl (f d)) H
theorem sc_whole : FnScope ["thing"] ["thing"] (defScope (top 21)) := ⟨rfl, rfl, rfl, by decide +kernel, rfl, by decide +kernel, by decide +kernel⟩
theorem ok_whole (D : Df K mg "is_whole" (top 21)) (T : Tp K w mg) : OkF P w K mg base CX0 1 "is_whole" ["thing"] (spData K (KdOf .num)) := by
  refine okF0 D sc_whole (fun _ _ _ _ _ _ us hl => match us, hl with | [_], _ => rfl) (fun vs H Q E h => ?_) (fun cdv A outer s H vs Q E hr h => ?_)
  · obtain ⟨v, d, rfl, _⟩ := h
    rfl
  · obtain ⟨v, d, rfl, rd, q⟩ := h
    refine ⟨_, (pss_one (ps_ret (pe_and (pe_callB (r := rIsi K) call_isi (by rfl) T.b_isinstance (by decide +kernel) (pa_cons (pv 0) (pa_cons (pe_bltn (v := .ty "int") (by rfl) T.b_int (by decide +kernel) rfl) pa_nil))) (pe_one (pe_not (pe_callB (r := rIsi K) call_isi (by rfl) T.b_isinstance (by decide +kernel) (pa_cons (pv 0) (pa_cons (pe_bltn (v := .ty "bool") (by rfl) T.b_bool (by decide +kernel) rfl) pa_nil)))))))), ?_⟩
    refine ⟨_, rfl, ?_⟩
    dsimp only [tCons, tC, tNil]
    refine isi_int rd ?_
    refine ⟨_, rfl, ?_⟩
    refine iteB (fun e1 => ?_) (fun e1 => ?_)
    · refine ⟨_, rfl, ?_⟩
      dsimp only [tCons, tC, tNil]
      refine isi_bool rd ?_
      refine ⟨_, rfl, ?_⟩
      have : (!d.isBl) = KdOf .num d := by cases d <;> first | rfl | cases e1
      rw [this]
      exact q
    · have : false = KdOf .num d := by cases d <;> first | rfl | cases e1
      rw [this]
      exact q
theorem str_all (ws : List Str) : (ws.map V.str).all flatV = true := by
  rw [List.all_eq_true]
  intro v hv
  obtain ⟨x, _, rfl⟩ := List.mem_map.mp hv
  rfl
/-- x in a table of texts -/
theorem in_tab {H : Hp} {a : Addr} {z : Str} {ws : List Str} {Q : VK} (s : SqT K H a (ws.map V.str)) (q : Q (.bl (oneOf z ws)) H) : rIn K false (.str z) (.ref a) H Q := ⟨a, ws.map V.str, rfl, .inr s, rfl, str_all ws, q⟩
theorem sc_form : FnScope ["knot"] ["knot"] (defScope (top 22)) := ⟨rfl, rfl, rfl, by decide +kernel, rfl, by decide +kernel, by decide +kernel⟩
theorem ok_form (D : Df K mg "has_form" (top 22)) (T : Tp K w mg) (O_is_whole : OkF P w K mg base CX0 1 "is_whole" ["thing"] (spData K (KdOf .num))) : OkF P w K mg base CX0 2 "has_form" ["knot"] (spData K hasForm) := by
  refine okF0 D sc_form (fun _ _ _ _ _ _ us hl => match us, hl with | [_], _ => rfl) (fun vs H Q E h => ?_) (fun cdv A outer s H vs Q E hr h => ?_)
  · obtain ⟨v, d, rfl, _⟩ := h
    rfl
  · obtain ⟨v, d, rfl, rd, q⟩ := h
    have nd := sc_form.nd
    refine ⟨_, (pss_cons (ps_if (PW.pt (pw_or (pt_not (pt_val (pe_callB (r := rIsi K) call_isi (by rfl) T.b_isinstance (by decide +kernel) (pa_cons (pv 0) (pa_cons (pe_bltn (v := .ty "tuple") (by rfl) T.b_tuple (by decide +kernel) rfl) pa_nil))) (by intro _; rfl))) (pw_or (pt_cmpR op_eq (pe_callB (r := rLenS K) call_len_seq (by rfl) T.b_len PySem.boot_len (pa_cons (pv 0) pa_nil)) pe_int (nomark _)) (pw_or (pt_not (pt_val (pe_callB (r := rIsi K) call_isi (by rfl) T.b_isinstance (by decide +kernel) (pa_cons (pe_ix (r := rIxT K) ix_tup (pv 0) pe_int (fun _ _ => rfl)) (pa_cons (pe_bltn (v := .ty "str") (by rfl) T.b_str (by decide +kernel) rfl) pa_nil))) (by intro _; rfl))) (pw_or1 (pt_cmpR (r := rWdNot (He.ga K "PARTS") ptW) (op_wdNot T.W_PARTS) (pe_ix (r := rIxT K) ix_tup (pv 0) pe_int (fun _ _ => rfl)) (pe_glob (v := .ref (He.ga K "PARTS")) rfl T.g_PARTS rfl) rfl)))))) (pss_one (ps_ret pe_bl)) pss_nil)
  (pss_cons (ps_if (pt_cmpR (r := rIn K false) op_in_seq (pe_ix (r := rIxT K) ix_tup (pv 0) pe_int (fun _ _ => rfl)) (pe_glob (v := .ref (He.ga K "NUMBERED")) rfl T.g_NUMBERED rfl) rfl) (pss_one (ps_ret (pe_and (pe_cmpR op_eq (pe_callB (r := rLenS K) call_len_seq (by rfl) T.b_len PySem.boot_len (pa_cons (pv 0) pa_nil)) (pe_op op_add pe_int (pe_ix (r := rWdIx (He.ga K "PARTS") ptW) (ix_wd T.W_PARTS) (pe_glob (v := .ref (He.ga K "PARTS")) rfl T.g_PARTS rfl) (pe_ix (r := rIxT K) ix_tup (pv 0) pe_int (fun _ _ => rfl)) (fun _ _ => rfl))) (nomark _)) (pe_one (pe_callF O_is_whole (hr.mono (by omega)) rfl pass0 (pa_cons (pe_ix (r := rIxT K) ix_tup (pv 0) pe_int (fun _ _ => rfl)) pa_nil)))))) pss_nil)
  (pss_one (ps_ret (pe_cmpR op_eq (pe_callB (r := rLenS K) call_len_seq (by rfl) T.b_len PySem.boot_len (pa_cons (pv 0) pa_nil)) (pe_op op_add pe_int (pe_ix (r := rWdIx (He.ga K "PARTS") ptW) (ix_wd T.W_PARTS) (pe_glob (v := .ref (He.ga K "PARTS")) rfl T.g_PARTS rfl) (pe_ix (r := rIxT K) ix_tup (pv 0) pe_int (fun _ _ => rfl)) (fun _ _ => rfl))) (nomark _)))))), ?_⟩
    refine ⟨_, rfl, ?_⟩
    dsimp only [tCons, tC, tNil]
    refine isi_tuple rd ?_
    have no : hasForm d = false → Q (.bl false) H := fun e => by rw [← e]; exact q
    refine ⟨_, rfl, ?_⟩
    refine iteB (fun e1 => ?_) (fun e1 => ?_)
    · refine no ?_
      cases d with
      | tup ds => cases e1
      | non => rfl
      | bl b => rfl
      | int i => rfl
      | str x => rfl
    obtain ⟨ds, rfl⟩ : ∃ ds, d = .tup ds := by
      cases d with
      | tup ds => exact ⟨ds, rfl⟩
      | non => cases e1
      | bl b => cases e1
      | int i => cases e1
      | str x => cases e1
    refine ⟨_, rfl, ?_⟩
    dsimp only [tNil]
    refine len_dt rd ?_
    refine ⟨rfl, _, rfl, ?_⟩
    refine iteD (fun e2 => ?_) (fun e2 => ?_)
    · refine no ?_
      cases ds with
      | nil => rfl
      | cons a b =>
        have e3 : ((b.length + 1 : Nat) : Int) = 0 := by injection e2
        omega
    obtain ⟨x, r, rfl⟩ : ∃ x r, ds = x :: r := by
      cases ds with
      | nil => exact (e2 rfl).elim
      | cons a b => exact ⟨a, b, rfl⟩
    refine ⟨_, rfl, ?_⟩
    dsimp only [tC]
    refine ix_dt (n := 0) rd rfl fun y ry => ?_
    dsimp only [tCons, tC, tNil]
    refine isi_str ry ?_
    refine ⟨_, rfl, ?_⟩
    refine iteB (fun e3 => ?_) (fun e3 => ?_)
    · refine no ?_
      cases x with
      | str z => cases e3
      | non => rfl
      | bl b => rfl
      | int i => rfl
      | tup x => rfl
    obtain ⟨z, rfl⟩ : ∃ z, x = .str z := by
      cases x with
      | str z => exact ⟨z, rfl⟩
      | non => cases e3
      | bl b => cases e3
      | int i => cases e3
      | tup x => cases e3
    have hz : ∀ {R : VK}, R (.str z) H → rIxT K v (.int 0) H R := fun k => ix_dt (n := 0) rd rfl fun y ry => by
      rw [ry.str_inv]; exact k
    refine ⟨_, rfl, ?_⟩
    dsimp only [tC]
    refine hz ?_
    refine ⟨z, rfl, rfl, _, rfl, ?_⟩
    refine iteB (fun e4 => ?_) (fun e4 => ?_)
    · refine no ?_
      unfold hasForm
      dsimp only
      rw [Option.isNone_iff_eq_none.mp e4]
    obtain ⟨m, hm⟩ : ∃ m, ptW z = some m := by
      cases h : ptW z with
      | none => rw [h] at e4; cases e4
      | some m => exact ⟨m, rfl⟩
    refine ⟨_, rfl, ?_⟩
    dsimp only [tC]
    refine hz ?_
    refine in_tab (ws := ["in", "num", "plus"]) (T.s_NUMBERED _) ?_
    refine ⟨_, rfl, ?_⟩
    have hf := form_eq (r := r) hm
    refine iteB (fun e5 => ?_) (fun e5 => ?_)
    · rw [hf, if_pos (show numbered z = true from e5)] at q
      refine ⟨_, rfl, ?_⟩
      dsimp only [tNil]
      refine len_dt rd ?_
      refine ⟨_, rfl, ?_⟩
      dsimp only [tC]
      refine hz ?_
      refine ⟨z, m, rfl, rfl, hm, _, _, rfl, rfl, rfl, _, rfl, ?_⟩
      refine iteB (fun e6 => ?_) (fun e6 => ?_)
      · have e7 : r.length = m + 1 := by
          have e7 : V.int ((r.length + 1 : Nat) : Int) = V.int (2 + (m : Int)) := of_decide_eq_true e6
          injection e7 with e8
          omega
        obtain ⟨y, r', rfl⟩ : ∃ y r', r = y :: r' := by
          cases r with
          | nil => simp at e7
          | cons a b => exact ⟨a, b, rfl⟩
        refine ⟨_, rfl, ?_⟩
        dsimp only [tC]
        refine ix_dt (n := 1) rd rfl fun y' ry' => ?_
        refine ⟨y', y, rfl, ry', ?_⟩
        rw [decide_eq_true e7, Bool.true_and] at q
        exact q
      · have e7 : ¬ r.length = m + 1 := fun z => by
          have e8 : V.int ((r.length + 1 : Nat) : Int) = V.int (2 + (m : Int)) := by rw [z]; congr 1; omega
          have e9 := of_decide_eq_false e6
          exact e9 e8
        rw [decide_eq_false e7, Bool.false_and] at q
        exact q
    · rw [hf, if_neg (by rw [show numbered z = false from e5]; decide)] at q
      refine ⟨_, rfl, ?_⟩
      dsimp only [tNil]
      refine len_dt rd ?_
      refine ⟨_, rfl, ?_⟩
      dsimp only [tC]
      refine hz ?_
      refine ⟨z, m, rfl, rfl, hm, _, _, rfl, rfl, rfl, ?_⟩
      have e7 : decide (V.int (((Dt.str z :: r).length : Nat) : Int) = V.int (1 + (m : Int))) = decide (r.length = m) := by
        by_cases h : r.length = m
        · rw [decide_eq_true h]
          refine decide_eq_true ?_
          rw [List.length_cons, h]
          congr 1
          omega
        · rw [decide_eq_false h]
          refine decide_eq_false fun z => h ?_
          injection z with z
          rw [List.length_cons] at z
          omega
      rw [← e7] at q
      exact q
theorem hasForm_inv {d : Dt} (h : hasForm d = true) : ∃ (z : Str) (r : List Dt) (m : Nat), d = .tup (.str z :: r) ∧ ptW z = some m ∧ m ≤ r.length := by
  cases d with
  | tup ds =>
    cases ds with
    | nil => cases h
    | cons x r =>
      cases x with
      | str z =>
        cases hp : ptW z with
        | none =>
          unfold hasForm at h
          dsimp only at h
          rw [hp] at h
          cases h
        | some m =>
          refine ⟨z, r, m, rfl, hp, ?_⟩
          unfold hasForm at h
          dsimp only at h
          rw [hp] at h
          dsimp only at h
          by_cases hn : numbered z = true
          · rw [if_pos hn] at h
            have := of_decide_eq_true (Bool.and_eq_true_iff.mp h).1
            omega
          · rw [if_neg hn] at h
            have := of_decide_eq_true h
            omega
      | non => cases h
      | bl b => cases h
      | int i => cases h
      | tup x => cases h
  | non => cases h
  | bl b => cases h
  | int i => cases h
  | str x => cases h
/-- the parts -/
def spPartsOf (K : PySem.W.Frag) : Sp := fun vs H Q _ => ∃ (v : V) (d : Dt), vs = [v] ∧ DR K H v d ∧ hasForm d = true ∧ ∀ (x : V) (H' : Hp), Ch [] H H' → DR K H' x (.tup (partsD d)) → Q x H'
theorem sc_parts_of : FnScope ["knot"] ["knot"] (defScope (top 23)) := ⟨rfl, rfl, rfl, by decide +kernel, rfl, by decide +kernel, by decide +kernel⟩
theorem ok_parts_of (D : Df K mg "parts_of" (top 23)) (T : Tp K w mg) : OkF P w K mg base CX0 1 "parts_of" ["knot"] (spPartsOf K) := by
  refine okF0 D sc_parts_of (fun _ _ _ _ _ _ us hl => match us, hl with | [_], _ => rfl) (fun vs H Q E h => ?_) (fun cdv A outer s H vs Q E hr h => ?_)
  · obtain ⟨v, d, rfl, _⟩ := h
    rfl
  · obtain ⟨v, d, rfl, rd, hf, q⟩ := h
    obtain ⟨z, r, m, rfl, hm, hl⟩ := hasForm_inv hf
    refine ⟨_, (pss_one (ps_ret (pe_slice (r := rSlA K) sl_tupA (pv 0) (po_some (pe_op op_sub (pe_callB (r := rLenS K) call_len_seq (by rfl) T.b_len PySem.boot_len (pa_cons (pv 0) pa_nil)) (pe_ix (r := rWdIx (He.ga K "PARTS") ptW) (ix_wd T.W_PARTS) (pe_glob (v := .ref (He.ga K "PARTS")) rfl T.g_PARTS rfl) (pe_ix (r := rIxT K) ix_tup (pv 0) pe_int (fun _ _ => rfl)) (fun _ _ => rfl)))) po_none))), ?_⟩
    have hz : ∀ {R : VK}, R (.str z) H → rIxT K v (.int 0) H R := fun k => ix_dt (n := 0) rd rfl fun y ry => by
      rw [ry.str_inv]; exact k
    refine ⟨_, rfl, _, rfl, ?_⟩
    dsimp only [tNil]
    refine len_dt rd ?_
    refine ⟨_, rfl, ?_⟩
    dsimp only [tC]
    refine hz ?_
    refine ⟨z, m, rfl, rfl, hm, _, _, rfl, rfl, _, rfl, ?_⟩
    refine sl_dt rd fun x H' c rx => q x H' c ?_
    have e : cutD (.str z :: r) (some ((((Dt.str z :: r).length : Nat) : Int) - (m : Int))) none = partsD (.tup (.str z :: r)) := by
      unfold cutD partsD itemsD many
      dsimp only
      rw [hm]
      dsimp only [Option.getD]
      have e1 : HT.sIx (Dt.str z :: r).length 0 (some ((((Dt.str z :: r).length : Nat) : Int) - (m : Int))) = (Dt.str z :: r).length - m := by
        have e2 : (((Dt.str z :: r).length : Nat) : Int) - (m : Int) = (((Dt.str z :: r).length - m : Nat) : Int) := by
          rw [List.length_cons]
          omega
        rw [e2, HT.sIx_nat]
        omega
      rw [e1, HT.sIx_none, List.take_of_length_le (by rw [List.length_drop]; exact Nat.le_refl _)]
    rw [← e]
    exact rx
end
end LM
set_option Elab.async false
set_option linter.all false
set_option maxRecDepth 100000
set_option maxHeartbeats 4000000
namespace LM
open PySem PySem.Spec PyProof.Rows L2
section
variable {P : Program} {w : World} {K : PySem.W.Frag} {mg : Str → Option Value} {base : Heap}
/-! ### knots -/
/-- a new list of data -/
def NewL (K : PySem.W.Frag) (H : Hp) (ds : List Dt) (Q : VK) : Prop := ∀ (L : Addr) (xs : List V) (H' : Hp), H L = none → Ch [] H H' → H' L = some (.lst xs) → DRs K H' xs ds → Q (.ref L) H'
def spKnots (K : PySem.W.Frag) : Sp := fun vs H Q _ => ∃ (v : V) (d : Dt), vs = [v] ∧ DR K H v d ∧ (kn d).length ≤ 1000 ∧ NewL K H (kn d) Q
theorem sc_knots : FnScope ["program", "found", "left", "knot"] ["program"] (defScope (top 24)) := ⟨rfl, rfl, rfl, by decide +kernel, rfl, by decide +kernel, by decide +kernel⟩
def knAll (es : List Dt) : List Dt := (es.map kn).flatten
theorem knAll_snoc (es : List Dt) (e : Dt) : knAll (es ++ [e]) = knAll es ++ kn e := by simp [knAll]
theorem knAll_app (es fs : List Dt) : knAll (es ++ fs) = knAll es ++ knAll fs := by simp [knAll]
theorem knAll_len (es : List Dt) : es.length ≤ (knAll es).length := by
  induction es with
  | nil => exact Nat.zero_le _
  | cons e es ih =>
    have := kn_pos e
    have h : knAll (e :: es) = kn e ++ knAll es := by simp [knAll]
    rw [h, List.length_append, List.length_cons]
    omega
theorem knAll_rev (es : List Dt) : (knAll es.reverse).length = (knAll es).length := by
  induction es with
  | nil => rfl
  | cons e es ih =>
    have h : knAll (e :: es) = kn e ++ knAll es := by simp [knAll]
    rw [List.reverse_cons, knAll_snoc, h, List.length_append, List.length_append, ih, Nat.add_comm]
theorem ok_knots (D : Df K mg "knots" (top 24)) (T : Tp K w mg) (O_has_form : OkF P w K mg base CX0 2 "has_form" ["knot"] (spData K hasForm)) (O_parts_of : OkF P w K mg base CX0 1 "parts_of" ["knot"] (spPartsOf K)) :
    OkF P w K mg base CX0 3 "knots" ["program"] (spKnots K) := by
  refine okF0 D sc_knots (fun _ _ _ _ _ _ us hl => match us, hl with | [_], _ => rfl) (fun vs H Q E h => ?_) (fun cdv A outer s H vs Q E hr h => ?_)
  · obtain ⟨v, d, rfl, _⟩ := h
    rfl
  · obtain ⟨v, d, rfl, rd, hz, q⟩ := h
    have nd := sc_knots.nd
    refine ⟨_, (pss_cons (ps_set (i := 1) nd rfl (Or.inl rfl) (pe_lst pa_nil))
  (pss_cons (ps_set (i := 2) nd rfl (Or.inl rfl) (pe_lst (pa_cons (pv 0) pa_nil)))
  (pss_cons (ps_while PassesOwn.never (pt_cmpR op_gt (pe_callB (r := rLenS K) call_len_seq (by rfl) T.b_len PySem.boot_len (pa_cons (pv 2) pa_nil)) pe_int (nomark _)) (pss_cons (ps_set (i := 3) nd rfl (Or.inl rfl) (pe_bm0 PySem.F.plainAttrs_list PySem.F.slot_list_pop PySem.F.type_list_pop mt_pop (pv 2)))
  (pss_cons (ps_expr (pe_bm PySem.F.plainAttrs_list PySem.F.slot_list_append PySem.F.type_list_append mt_append (pv 1) (pa_cons (pv 3) pa_nil)))
  (pss_one (ps_if (pt_val (pe_callF O_has_form (hr.mono (by omega)) rfl pass0 (pa_cons (pv 3) pa_nil)) (by intro _; rfl)) (pss_one (ps_expr (pe_bm PySem.F.plainAttrs_list PySem.F.slot_list_extend PySem.F.type_list_extend mt_extend (pv 2) (pa_cons (pe_lstRev rfl rfl T.b_list rfl T.b_reversed (pe_callF O_parts_of (hr.mono (by omega)) rfl pass0 (pa_cons (pv 3) pa_nil))) pa_nil)))) pss_nil)))))
  (pss_one (ps_ret (pv 1)))))), ?_⟩
    refine ⟨(by show 0 ≤ sizeLine; decide), fun L hL => ?_⟩
    refine ⟨_, rfl, (by show 1 ≤ sizeLine; decide), fun M hM => ?_⟩
    have nML : M ≠ L := fun z => by rw [z, upd_same] at hM; cases hM
    have hM0 : H M = none := (Ch.new (S := []) hL).free hM
    refine ⟨fun m σ' H' => ∃ (xs ys : List V) (ds es : List Dt) (u : Option V), σ' = [some v, some (.ref L), some (.ref M), u] ∧ H' L = some (.lst xs) ∧ H' M = some (.lst ys) ∧ DRs K H' xs ds ∧ DRs K H' ys es ∧ ds ++ knAll es.reverse = kn d ∧ Ch [] H H' ∧ m = (knAll es).length, ⟨_, [], [v], [], [d], none, rfl, ?_, upd_same, .nil, ?_, ?_, ?_, rfl⟩, ?_⟩
    · rw [upd_ne nML.symm]; exact upd_same
    · exact .cons (rd.ch ((Ch.new hL).trans (.new hM))) .nil
    · simp [knAll]
    · exact (Ch.new hL).trans (.new hM)
    rintro m σ' H' ⟨xs, ys, ds, es, u, rfl, hl, hm, rx, ry, hk, c, rfl⟩
    have tot : ds.length + (knAll es).length = (kn d).length := by
      rw [← hk, List.length_append, knAll_rev]
    have les := knAll_len es
    refine ⟨_, rfl, _, _, rfl, .inl (SqL.of hm), _, _, rfl, rfl, _, rfl, ?_⟩
    refine iteD (fun e1 => ?_) (fun e1 => ?_)
    · -- a turn
      have ly := ry.len
      obtain ⟨es', e, rfl⟩ : ∃ es' e, es = es' ++ [e] := by
        rcases List.eq_nil_or_concat es with h | ⟨a, b, h⟩
        · subst h
          have : ys.length = 0 := by rw [ly]; rfl
          omega
        · exact ⟨a, b, by rw [h, List.concat_eq_append]⟩
      refine ⟨fun σ2 H2 => ∃ m', m' < (knAll (es' ++ [e])).length ∧ ∃ (xs ys : List V) (ds es : List Dt) (u : Option V), σ2 = [some v, some (.ref L), some (.ref M), u] ∧ H2 L = some (.lst xs) ∧ H2 M = some (.lst ys) ∧ DRs K H2 xs ds ∧ DRs K H2 ys es ∧ ds ++ knAll es.reverse = kn d ∧ Ch [] H H2 ∧ m' = (knAll es).length, fun _ _ h => h, ?_⟩
      have lys : ys.length = es'.length + 1 := by rw [ly, List.length_append]; rfl
      obtain ⟨yv, hyv⟩ : ∃ yv, ys[ys.length - 1]? = some yv := ⟨_, List.getElem?_eq_getElem (by omega)⟩
      obtain ⟨e', he', re⟩ := ry.getv hyv
      have ee : e' = e := by
        rw [show ys.length - 1 = es'.length from by omega, List.getElem?_append_right (Nat.le_refl _), Nat.sub_self] at he'
        exact (Option.some.inj he').symm
      subst ee
      have rdl : DRs K H' ys.dropLast es' := by
        have := ry.take es'.length
        rw [List.take_append_of_le_length (Nat.le_refl _), List.take_length] at this
        rw [List.dropLast_eq_take, show ys.length - 1 = es'.length from by omega]
        exact this
      refine ⟨_, rfl, .inl ⟨rfl, _, SqL.of hm⟩, M, ys, yv, rfl, rfl, hm, hyv, ?_⟩
      have t1 : Ts H' (upd H' M (.lst ys.dropLast)) := .upd (by rw [hm]; trivial)
      have c1 : Ch [] H (upd H' M (.lst ys.dropLast)) := c.mut hM0
      have hl1 : upd H' M (.lst ys.dropLast) L = some (.lst xs) := by rw [upd_ne nML.symm]; exact hl
      have hm1 : upd H' M (.lst ys.dropLast) M = some (.lst ys.dropLast) := upd_same
      generalize upd H' M (.lst ys.dropLast) = H1 at t1 c1 hl1 hm1 ⊢
      have lx := rx.len
      refine ⟨_, rfl, .inl ⟨rfl, _, SqL.of hl1⟩, _, rfl, L, xs, yv, rfl, rfl, hl1, small1000 (by omega), ?_⟩
      have t2 : Ts H1 (upd H1 L (.lst (xs ++ [yv]))) := .upd (by rw [hl1]; trivial)
      have c2 : Ch [] H (upd H1 L (.lst (xs ++ [yv]))) := c1.mut hL
      have hl2 : upd H1 L (.lst (xs ++ [yv])) L = some (.lst (xs ++ [yv])) := upd_same
      have hm2 : upd H1 L (.lst (xs ++ [yv])) M = some (.lst ys.dropLast) := by rw [upd_ne nML]; exact hm1
      generalize upd H1 L (.lst (xs ++ [yv])) = H2 at t2 c2 hl2 hm2 ⊢
      have re2 := (re.ts t1).ts t2
      have rx2 : DRs K H2 (xs ++ [yv]) (ds ++ [e']) := ((rx.ts t1).ts t2).snoc re2
      have rl2 := (rdl.ts t1).ts t2
      have hk2 : ds ++ (kn e' ++ knAll es'.reverse) = kn d := by
        rw [← hk, List.reverse_append]
        simp [knAll]
      refine ⟨_, rfl, yv, e', rfl, re2, _, rfl, ?_⟩
      have big : (knAll (es' ++ [e'])).length = (knAll es').length + (kn e').length := by rw [knAll_snoc, List.length_append]
      refine iteB (fun e3 => ?_) (fun e3 => ?_)
      · refine ⟨_, rfl, .inl ⟨rfl, _, SqL.of hm2⟩, _, rfl, yv, e', rfl, re2, e3, fun x3 H3 c3 r3 => ?_⟩
        obtain ⟨pa, pxs, rfl, pS, pD⟩ := r3.tup_inv
        refine ⟨pa, pxs, rfl, pS, fun R hR => ?_⟩
        have c4 : Ch [] H2 (upd H3 R (.lst pxs.reverse)) := c3.trans (.new hR)
        have t4 := Ts.of c4
        have hl4 := c4 L _ (by simp) hl2
        have hm4 := c4 M _ (by simp) hm2
        have nRM : M ≠ R := ne_of_none (c3 M _ (by simp) hm2) hR
        have nRL : L ≠ R := ne_of_none (c3 L _ (by simp) hl2) hR
        have hR4 : upd H3 R (.lst pxs.reverse) R = some (.lst pxs.reverse) := upd_same
        have pD4 : DRs K (upd H3 R (.lst pxs.reverse)) pxs.reverse (partsD e').reverse := (pD.ch (.new hR)).reverse
        generalize upd H3 R (.lst pxs.reverse) = H4 at c4 t4 hl4 hm4 hR4 pD4 ⊢
        have lp : pxs.length = (partsD e').length := pD.len
        have les' := knAll_len es'
        have lk : (partsD e').length ≤ (knAll (partsD e')).length := knAll_len _
        have ek : kn e' = e' :: knAll (partsD e') := by rw [kn_eq, if_pos e3]; rfl
        have lke : (kn e').length = (knAll (partsD e')).length + 1 := by rw [ek, List.length_cons]
        refine ⟨M, R, _, _, rfl, rfl, hm4, hR4, Nat.le_of_lt (small1000 (by rw [List.length_dropLast, List.length_reverse]; omega)), ?_⟩
        have t5 : Ts H4 (upd H4 M (.lst (ys.dropLast ++ pxs.reverse))) := .upd (by rw [hm4]; trivial)
        refine ⟨_, ?_, xs ++ [yv], _, ds ++ [e'], es' ++ (partsD e').reverse, _, rfl, ?_, upd_same, (rx2.ts t4).ts t5, ((rl2.ts t4).ts t5).app (pD4.ts t5), ?_, (c2.trans c4).mut hM0, rfl⟩
        · rw [big, knAll_app, List.length_append, knAll_rev, lke]
          omega
        · rw [upd_ne nML.symm]; exact hl4
        · rw [List.reverse_append, List.reverse_reverse, knAll_app, ← hk2, ek]
          simp
      · have ek : kn e' = [e'] := by rw [kn_eq, if_neg (by rw [e3]; exact Bool.false_ne_true)]
        refine ⟨_, ?_, xs ++ [yv], ys.dropLast, ds ++ [e'], es', _, rfl, hl2, hm2, rx2, rl2, ?_, c2, rfl⟩
        · rw [big, ek, List.length_singleton]
          omega
        · rw [← hk2, ek]
          simp
    · -- the end
      have ly := ry.len
      have e0 : es = [] := List.length_eq_zero_iff.mp (by omega)
      subst e0
      refine ⟨_, rfl, ?_⟩
      have : ds = kn d := by rw [← hk]; simp [knAll]
      rw [this] at rx
      exact q L xs H' hL c hl rx
end
end LM
set_option Elab.async false
set_option linter.all false
set_option maxRecDepth 100000
set_option maxHeartbeats 4000000
namespace LM
open PySem PySem.Spec PyProof.Rows L2
/-! ### the law's forms -/
def w12 : List Str := ["in", "num", "yes", "no", "plus", "least", "most", "atmost", "not", "both", "either", "if"]
theorem words12 (z : Str) : z ∈ w12 ∨ z ∉ w12 := Classical.em _
theorem pt_none {z : Str} (h : z ∉ w12) : ptW z = none := by
  simp only [w12, List.mem_cons, List.not_mem_nil, or_false, not_or] at h
  obtain ⟨h1, h2, h3, h4, h5, h6, h7, h8, h9, h10, h11, h12⟩ := h
  unfold ptW
  rw [if_neg h1, if_neg h2, if_neg h3, if_neg h4, if_neg h5, if_neg h6, if_neg h7, if_neg h8, if_neg h9, if_neg h10, if_neg h11, if_neg h12]
theorem oneOf_no {z : Str} : ∀ {ws : List Str}, z ∉ ws → oneOf z ws = false
  | [], _ => rfl
  | y :: ws, h => by
    have h1 : ¬ z = y := fun e => h (by rw [e]; exact List.mem_cons_self)
    have ih := oneOf_no (ws := ws) fun e => h (List.mem_cons_of_mem _ e)
    show ((y == z) || oneOf z ws) = false
    rw [ih, Bool.or_false]
    exact beq_eq_false_iff_ne.mpr (Ne.symm h1)
def ldic : List (Key × V) := [(.inr "in", .int 0), (.inr "num", .int 0), (.inr "yes", .int 0), (.inr "no", .int 0), (.inr "plus", .int 1), (.inr "not", .int 1), (.inr "if", .int 3)]
def lmany (z : Str) : Nat := if z ∈ w12 then (ptW z).getD 0 else 2
theorem ldic_get (z : Str) : (valV (mergeK [] ldic) (.inr z)).getD (.int 2) = .int (lmany z : Nat) := by
  by_cases h : z ∈ w12
  · simp only [w12, List.mem_cons, List.not_mem_nil, or_false] at h
    rcases h with rfl | rfl | rfl | rfl | rfl | rfl | rfl | rfl | rfl | rfl | rfl | rfl <;> decide +kernel
  · have e : lmany z = 2 := if_neg h
    rw [e]
    simp only [w12, List.mem_cons, List.not_mem_nil, or_false, not_or] at h
    obtain ⟨h1, h2, h3, h4, h5, h6, h7, h8, h9, h10, h11, h12⟩ := h
    have e2 : mergeK [] ldic = ldic := by decide +kernel
    rw [e2]
    have ne : ∀ {y : Str}, ¬ z = y → ¬ ((Sum.inr y : Key) = Sum.inr z) := fun h e => h (by injection e with e; exact e.symm)
    unfold ldic valV
    simp [ne h1, ne h2, ne h3, ne h4, ne h5, ne h9, ne h12]
def lw9 : List Str := ["yes", "no", "not", "if", "least", "most", "atmost", "both", "either"]
theorem lform_eq (z : Str) (r : List Dt) : (if numbered z = true then decide (r.length = lmany z + 1) && numHd r else oneOf z lw9 && decide (r.length = lmany z)) = hasForm (.tup (.str z :: r)) := by
  by_cases h : z ∈ w12
  · have e : lmany z = (ptW z).getD 0 := if_pos h
    simp only [w12, List.mem_cons, List.not_mem_nil, or_false] at h
    have go : ∀ {m : Nat} {b : Bool}, ptW z = some m → numbered z = b → (b = false → oneOf z lw9 = true) → (if numbered z = true then decide (r.length = lmany z + 1) && numHd r else oneOf z lw9 && decide (r.length = lmany z)) = hasForm (.tup (.str z :: r)) := fun {m b} hm hb ho => by
      rw [form_eq hm, e, hm]
      cases b with
      | true => rw [if_pos hb, if_pos hb]; rfl
      | false =>
        have hn : ¬ numbered z = true := by rw [hb]; exact Bool.false_ne_true
        rw [if_neg hn, if_neg hn, ho rfl, Bool.true_and]
        rfl
    rcases h with rfl | rfl | rfl | rfl | rfl | rfl | rfl | rfl | rfl | rfl | rfl | rfl
    · exact go wm_in nb_in (fun h => by cases h)
    · exact go wm_num nb_num (fun h => by cases h)
    · exact go wm_yes nb_yes (fun _ => by decide +kernel)
    · exact go wm_no nb_no (fun _ => by decide +kernel)
    · exact go wm_plus nb_plus (fun h => by cases h)
    · exact go (wm_bop .least) (nb_bop .least) (fun _ => by decide +kernel)
    · exact go (wm_bop .most) (nb_bop .most) (fun _ => by decide +kernel)
    · exact go (wm_bop .atmost) (nb_bop .atmost) (fun _ => by decide +kernel)
    · exact go wm_not nb_not (fun _ => by decide +kernel)
    · exact go (wm_bop .both) (nb_bop .both) (fun _ => by decide +kernel)
    · exact go (wm_bop .either) (nb_bop .either) (fun _ => by decide +kernel)
    · exact go wm_if nb_if (fun _ => by decide +kernel)
  · have e1 : numbered z = false := oneOf_no fun e => h (by
      simp only [List.mem_cons, List.not_mem_nil, or_false] at e
      rcases e with rfl | rfl | rfl <;> decide +kernel)
    have e2 : oneOf z lw9 = false := oneOf_no fun e => h (by
      simp only [lw9, List.mem_cons, List.not_mem_nil, or_false] at e
      rcases e with rfl | rfl | rfl | rfl | rfl | rfl | rfl | rfl | rfl <;> decide +kernel)
    rw [if_neg (by rw [e1]; exact Bool.false_ne_true), e2, Bool.false_and]
    unfold hasForm
    dsimp only
    rw [pt_none h]
section
variable {P : Program} {w : World} {K : PySem.W.Frag} {mg : Str → Option Value} {base : Heap}
/-- as spData, the heap may grow -/
def spDataN (K : PySem.W.Frag) (f : Dt → Bool) : Sp := fun vs H Q _ => ∃ (v : V) (d : Dt), vs = [v] ∧ DR K H v d ∧ ∀ H', Ch [] H H' → Q (.bl (f d)) H'
theorem sc_lform : FnScope ["_law_knot", "_law_many", "_law_words"] ["_law_knot"] (defScope (top 48)) := ⟨rfl, rfl, rfl, by decide +kernel, rfl, by decide +kernel, by decide +kernel⟩
theorem ok_lform (D : Df K mg "_law_has_form" (top 48)) (T : Bn mg) : OkF P w K mg base CX0 1 "_law_has_form" ["_law_knot"] (spDataN K hasForm) := by
  refine okF0 D sc_lform (fun _ _ _ _ _ _ us hl => match us, hl with | [_], _ => rfl) (fun vs H Q E h => ?_) (fun cdv A outer s H vs Q E hr h => ?_)
  · obtain ⟨v, d, rfl, _⟩ := h
    rfl
  · obtain ⟨v, d, rfl, rd, q⟩ := h
    have nd := sc_lform.nd
    have hu := hu_of hr
    refine ⟨_, (pss_cons (ps_if (PW.pt (pw_or (pt_not (pt_val (pe_callB (r := rIsi K) call_isi (by rfl) T.b_isinstance (by decide +kernel) (pa_cons (pv 0) (pa_cons (pe_bltn (v := .ty "tuple") (by rfl) T.b_tuple (by decide +kernel) rfl) pa_nil))) (by intro _; rfl))) (pw_or (pt_cmpR op_eq (pe_callB (r := rLenS K) call_len_seq (by rfl) T.b_len PySem.boot_len (pa_cons (pv 0) pa_nil)) pe_int (nomark _)) (pw_or1 (pt_not (pt_val (pe_callB (r := rIsi K) call_isi (by rfl) T.b_isinstance (by decide +kernel) (pa_cons (pe_ix (r := rIxT K) ix_tup (pv 0) pe_int (fun _ _ => rfl)) (pa_cons (pe_bltn (v := .ty "str") (by rfl) T.b_str (by decide +kernel) rfl) pa_nil))) (by intro _; rfl))))))) (pss_one (ps_ret pe_bl)) pss_nil)
  (pss_cons (ps_set (i := 1) nd rfl (Or.inl rfl) (pe_dget2 hu (pe_disp (pps_cons pe_str pe_int (pps_cons pe_str pe_int (pps_cons pe_str pe_int (pps_cons pe_str pe_int (pps_cons pe_str pe_int (pps_cons pe_str pe_int (pps_cons pe_str pe_int pps_nil))))))) (by rfl) (by rfl) (fun z => by cases z) (by decide)) (pe_ix (r := rIxT K) ix_tup (pv 0) pe_int (fun _ _ => rfl)) pe_int ⟨rfl, rfl, rfl, rfl⟩))
  (pss_cons (ps_if (pt_cmpR (r := rIn K false) op_in_seq (pe_ix (r := rIxT K) ix_tup (pv 0) pe_int (fun _ _ => rfl)) (pe_tup (pa_cons pe_str (pa_cons pe_str (pa_cons pe_str pa_nil)))) rfl) (pss_one (ps_ret (pe_and (pe_cmpR op_eq (pe_callB (r := rLenS K) call_len_seq (by rfl) T.b_len PySem.boot_len (pa_cons (pv 0) pa_nil)) (pe_op op_add (pv 1) pe_int) (nomark _)) (pe_and (pe_callB (r := rIsi K) call_isi (by rfl) T.b_isinstance (by decide +kernel) (pa_cons (pe_ix (r := rIxT K) ix_tup (pv 0) pe_int (fun _ _ => rfl)) (pa_cons (pe_bltn (v := .ty "int") (by rfl) T.b_int (by decide +kernel) rfl) pa_nil))) (pe_one (pe_not (pe_callB (r := rIsi K) call_isi (by rfl) T.b_isinstance (by decide +kernel) (pa_cons (pe_ix (r := rIxT K) ix_tup (pv 0) pe_int (fun _ _ => rfl)) (pa_cons (pe_bltn (v := .ty "bool") (by rfl) T.b_bool (by decide +kernel) rfl) pa_nil))))))))) pss_nil)
  (pss_cons (ps_set (i := 2) nd rfl (Or.inl rfl) (pe_tup (pa_cons pe_str (pa_cons pe_str (pa_cons pe_str (pa_cons pe_str (pa_cons pe_str (pa_cons pe_str (pa_cons pe_str (pa_cons pe_str (pa_cons pe_str pa_nil)))))))))))
  (pss_one (ps_ret (pe_and (pe_cmpR (r := rIn K false) op_in_seq (pe_ix (r := rIxT K) ix_tup (pv 0) pe_int (fun _ _ => rfl)) (pv 2) rfl) (pe_one (pe_cmpR op_eq (pe_callB (r := rLenS K) call_len_seq (by rfl) T.b_len PySem.boot_len (pa_cons (pv 0) pa_nil)) (pe_op op_add (pv 1) pe_int) (nomark _)))))))))), ?_⟩
    refine ⟨_, rfl, ?_⟩
    dsimp only [tCons, tC, tNil]
    refine isi_tuple rd ?_
    have no : hasForm d = false → Q (.bl false) H := fun e => by rw [← e]; exact q _ .refl
    refine ⟨_, rfl, ?_⟩
    refine iteB (fun e1 => ?_) (fun e1 => ?_)
    · refine no ?_
      cases d with
      | tup ds => cases e1
      | non => rfl
      | bl b => rfl
      | int i => rfl
      | str x => rfl
    obtain ⟨ds, rfl⟩ : ∃ ds, d = .tup ds := by
      cases d with
      | tup ds => exact ⟨ds, rfl⟩
      | non => cases e1
      | bl b => cases e1
      | int i => cases e1
      | str x => cases e1
    refine ⟨_, rfl, ?_⟩
    dsimp only [tNil]
    refine len_dt rd ?_
    refine ⟨rfl, _, rfl, ?_⟩
    refine iteD (fun e2 => ?_) (fun e2 => ?_)
    · refine no ?_
      cases ds with
      | nil => rfl
      | cons a b =>
        have e3 : ((b.length + 1 : Nat) : Int) = 0 := by injection e2
        omega
    obtain ⟨x, r, rfl⟩ : ∃ x r, ds = x :: r := by
      cases ds with
      | nil => exact (e2 rfl).elim
      | cons a b => exact ⟨a, b, rfl⟩
    refine ⟨_, rfl, ?_⟩
    dsimp only [tC]
    refine ix_dt (n := 0) rd rfl fun y ry => ?_
    dsimp only [tCons, tC, tNil]
    refine isi_str ry ?_
    refine ⟨_, rfl, ?_⟩
    refine iteB (fun e3 => ?_) (fun e3 => ?_)
    · refine no ?_
      cases x with
      | str z => cases e3
      | non => rfl
      | bl b => rfl
      | int i => rfl
      | tup x => rfl
    obtain ⟨z, rfl⟩ : ∃ z, x = .str z := by
      cases x with
      | str z => exact ⟨z, rfl⟩
      | non => cases e3
      | bl b => cases e3
      | int i => cases e3
      | tup x => cases e3
    rw [← lform_eq] at q
    clear no
    -- how many
    intro p hp
    refine ⟨upd_same, ldic, rfl, (by show 7 ≤ 15; decide), ?_⟩
    have c1 : Ch [] H (upd (upd H p (.dK [])) p (.dK (mergeK [] ldic))) := (Ch.new hp).mut hp
    have e4 : upd (upd H p (.dK [])) p (.dK (mergeK [] ldic)) p = some (.dK (mergeK [] ldic)) := upd_same
    generalize upd (upd H p (.dK [])) p (.dK (mergeK [] ldic)) = H1 at c1 e4 ⊢
    have rd1 := rd.ch c1
    have hz : ∀ {G : Hp} {R : VK}, Ch [] H1 G → R (.str z) G → rIxT K v (.int 0) G R := fun cg k => ix_dt (n := 0) (rd1.ch cg) rfl fun y ry => by
      rw [ry.str_inv]; exact k
    refine ⟨_, rfl, .inl ⟨_, .inl e4⟩, _, rfl, ?_⟩
    dsimp only [tC]
    refine hz .refl ?_
    refine ⟨_, DGet.k (k := Sum.inr z) e4, ?_⟩
    rw [ldic_get]
    dsimp only [gName, tSeq, List.set]
    refine ⟨_, rfl, ?_⟩
    dsimp only [tC]
    refine hz .refl ?_
    refine ⟨(by show 3 ≤ sizeLine; decide), fun p2 hp2 => ?_⟩
    have c2 : Ch [] H1 (upd H1 p2 (.tup [.str "in", .str "num", .str "plus"])) := .new hp2
    have s2 : SqT K (upd H1 p2 (.tup [.str "in", .str "num", .str "plus"])) p2 ((["in", "num", "plus"] : List Str).map V.str) := SqT.of upd_same
    generalize upd H1 p2 (.tup [.str "in", .str "num", .str "plus"]) = H2 at c2 s2 ⊢
    refine in_tab s2 ?_
    refine ⟨_, rfl, ?_⟩
    refine iteB (fun e5 => ?_) (fun e5 => ?_)
    · rw [if_pos (show numbered z = true from e5)] at q
      refine ⟨_, rfl, ?_⟩
      dsimp only [tNil]
      refine len_dt (rd1.ch c2) ?_
      refine ⟨_, rfl, _, _, rfl, rfl, rfl, _, rfl, ?_⟩
      have e7 : decide (V.int (((Dt.str z :: r).length : Nat) : Int) = V.int ((lmany z : Int) + 2)) = decide (r.length = lmany z + 1) := by
        by_cases h : r.length = lmany z + 1
        · rw [decide_eq_true h]
          refine decide_eq_true ?_
          rw [List.length_cons, h]
          congr 1
        · rw [decide_eq_false h]
          refine decide_eq_false fun z => h ?_
          injection z with z
          rw [List.length_cons] at z
          omega
      rw [e7]
      refine iteB (fun e6 => ?_) (fun e6 => ?_)
      · rw [e6, Bool.true_and] at q
        have e8 := of_decide_eq_true e6
        obtain ⟨y, r', rfl⟩ : ∃ y r', r = y :: r' := by
          cases r with
          | nil => simp at e8
          | cons a b => exact ⟨a, b, rfl⟩
        refine ⟨_, rfl, ?_⟩
        dsimp only [tC]
        refine ix_dt (n := 1) (rd1.ch c2) rfl fun y' ry' => ?_
        dsimp only [tCons, tC, tNil]
        refine isi_int ry' ?_
        refine ⟨_, rfl, ?_⟩
        refine iteB (fun e9 => ?_) (fun e9 => ?_)
        · refine ⟨_, rfl, ?_⟩
          dsimp only [tC]
          refine ix_dt (n := 1) (rd1.ch c2) rfl fun y' ry' => ?_
          dsimp only [tCons, tC, tNil]
          refine isi_bool ry' ?_
          refine ⟨_, rfl, ?_⟩
          have : (!y.isBl) = numHd (y :: r') := by cases y <;> first | rfl | cases e9
          rw [this]
          exact q _ (c1.trans c2)
        · have : false = numHd (y :: r') := by cases y <;> first | rfl | cases e9
          rw [this]
          exact q _ (c1.trans c2)
      · rw [e6, Bool.false_and] at q
        exact q _ (c1.trans c2)
    · rw [if_neg (by rw [show numbered z = false from e5]; exact Bool.false_ne_true)] at q
      refine ⟨(by show 9 ≤ sizeLine; decide), fun p3 hp3 => ?_⟩
      have c3 : Ch [] H2 (upd H2 p3 (.tup [.str "yes", .str "no", .str "not", .str "if", .str "least", .str "most", .str "atmost", .str "both", .str "either"])) := .new hp3
      have s3 : SqT K (upd H2 p3 (.tup [.str "yes", .str "no", .str "not", .str "if", .str "least", .str "most", .str "atmost", .str "both", .str "either"])) p3 (lw9.map V.str) := SqT.of upd_same
      generalize upd H2 p3 (.tup [.str "yes", .str "no", .str "not", .str "if", .str "least", .str "most", .str "atmost", .str "both", .str "either"]) = H3 at c3 s3 ⊢
      refine ⟨_, rfl, ?_⟩
      dsimp only [tC]
      refine hz (c2.trans c3) ?_
      refine ⟨_, rfl, ?_⟩
      refine in_tab s3 ?_
      refine ⟨_, rfl, ?_⟩
      have c4 := c1.trans (c2.trans c3)
      refine iteB (fun e6 => ?_) (fun e6 => ?_)
      · rw [e6, Bool.true_and] at q
        refine ⟨_, rfl, ?_⟩
        dsimp only [tNil]
        refine len_dt (rd.ch c4) ?_
        refine ⟨_, rfl, _, _, rfl, rfl, rfl, ?_⟩
        have e7 : decide (V.int (((Dt.str z :: r).length : Nat) : Int) = V.int ((lmany z : Int) + 1)) = decide (r.length = lmany z) := by
          by_cases h : r.length = lmany z
          · rw [decide_eq_true h]
            refine decide_eq_true ?_
            rw [List.length_cons, h]
            congr 1
          · rw [decide_eq_false h]
            refine decide_eq_false fun z => h ?_
            injection z with z
            rw [List.length_cons] at z
            omega
        rw [← e7] at q
        exact q _ c4
      · rw [e6, Bool.false_and] at q
        exact q _ c4
end
end LM
set_option Elab.async false
set_option linter.all false
set_option maxRecDepth 100000
set_option maxHeartbeats 4000000
namespace LM
open PySem PySem.Spec PyProof.Rows L2
theorem oneOf_iff {z : Str} : ∀ {ws : List Str}, oneOf z ws = true ↔ z ∈ ws
  | [] => by simp [oneOf, inV]
  | y :: ws => by
    have ih := oneOf_iff (z := z) (ws := ws)
    have e : oneOf z (y :: ws) = ((y == z) || oneOf z ws) := rfl
    rw [e, Bool.or_eq_true, ih, List.mem_cons, beq_iff_eq]
    exact ⟨fun h => h.elim (fun h => .inl h.symm) .inr, fun h => h.elim (fun h => .inl h.symm) .inr⟩
/-- a form's lengths -/
theorem form_len {z : Str} {r : List Dt} (h : hasForm (.tup (.str z :: r)) = true) : ∃ m, ptW z = some m ∧ r.length = m + (if numbered z = true then 1 else 0) := by
  obtain ⟨z', r', m, e, hm, hl⟩ := hasForm_inv h
  cases e
  rw [form_eq hm] at h
  refine ⟨m, hm, ?_⟩
  by_cases hn : numbered z = true
  · rw [if_pos hn] at h ⊢
    exact of_decide_eq_true (Bool.and_eq_true_iff.mp h).1
  · rw [if_neg hn] at h ⊢
    exact of_decide_eq_true h
theorem parts_none {z : Str} {r : List Dt} (h : hasForm (.tup (.str z :: r)) = true) (ho : oneOf z ["in", "num"] = true) : partsD (.tup (.str z :: r)) = [] := by
  have hz := oneOf_iff.mp ho
  unfold partsD many itemsD
  have e : (ptW z).getD 0 = 0 := by
    rcases List.mem_cons.mp hz with e | hz
    · rw [e]; decide +kernel
    · rw [List.mem_singleton.mp hz]; decide +kernel
  dsimp only
  rw [e, Nat.sub_zero, List.drop_length]
theorem parts_cut {z : Str} {r : List Dt} (h : hasForm (.tup (.str z :: r)) = true) (ho : oneOf z ["in", "num"] = false) : partsD (.tup (.str z :: r)) = (Dt.str z :: r).drop (1 + (if z = "plus" then 1 else 0)) := by
  obtain ⟨m, hm, hl⟩ := form_len h
  unfold partsD many itemsD
  dsimp only
  rw [hm]
  dsimp only [Option.getD]
  have e : (Dt.str z :: r).length - m = 1 + (if z = "plus" then 1 else 0) := by
    rw [List.length_cons, hl]
    by_cases hp : z = "plus"
    · have hn : numbered z = true := by rw [hp]; exact nb_plus
      rw [if_pos hp, if_pos hn]
      omega
    · have hn : ¬ numbered z = true := fun q => by
        have q' := oneOf_iff.mp q
        have no : z ∉ (["in", "num"] : List Str) := fun w => by rw [oneOf_iff.mpr w] at ho; cases ho
        simp only [List.mem_cons, List.not_mem_nil, or_false, not_or] at q' no
        rcases q' with q' | q' | q'
        · exact no.1 q'
        · exact no.2 q'
        · exact hp q'
      rw [if_neg hp, if_neg hn]
      omega
  rw [e]
section
variable {P : Program} {w : World} {K : PySem.W.Frag} {mg : Str → Option Value} {base : Heap}
theorem sc_lparts : FnScope ["_law_knot"] ["_law_knot"] (defScope (top 49)) := ⟨rfl, rfl, rfl, by decide +kernel, rfl, by decide +kernel, by decide +kernel⟩
theorem ok_lparts (D : Df K mg "_law_parts" (top 49)) (T : Bn mg) : OkF P w K mg base CX0 1 "_law_parts" ["_law_knot"] (spPartsOf K) := by
  refine okF0 D sc_lparts (fun _ _ _ _ _ _ us hl => match us, hl with | [_], _ => rfl) (fun vs H Q E h => ?_) (fun cdv A outer s H vs Q E hr h => ?_)
  · obtain ⟨v, d, rfl, _⟩ := h
    rfl
  · obtain ⟨v, d, rfl, rd, hf, q⟩ := h
    obtain ⟨z, r, m, rfl, hm, hl⟩ := hasForm_inv hf
    refine ⟨_, (pss_cons (ps_if (pt_cmpR (r := rIn K false) op_in_seq (pe_ix (r := rIxT K) ix_tup (pv 0) pe_int (fun _ _ => rfl)) (pe_tup (pa_cons pe_str (pa_cons pe_str pa_nil))) rfl) (pss_one (ps_ret (pe_tup pa_nil))) pss_nil)
  (pss_one (ps_ret (pe_slice (r := rSlA K) sl_tupA (pv 0) (po_some (pe_op op_add pe_int (pe_callTy call_int1 (by rfl) T.b_int (by decide +kernel) (pa_cons (pe_cmpR op_eq (pe_ix (r := rIxT K) ix_tup (pv 0) pe_int (fun _ _ => rfl)) pe_str (nomark _)) pa_nil)))) po_none)))), ?_⟩
    have hz : ∀ {G : Hp} {R : VK}, Ch [] H G → R (.str z) G → rIxT K v (.int 0) G R := fun cg k => ix_dt (n := 0) (rd.ch cg) rfl fun y ry => by
      rw [ry.str_inv]; exact k
    refine ⟨_, rfl, ?_⟩
    dsimp only [tC]
    refine hz .refl ?_
    refine ⟨(by show 2 ≤ sizeLine; decide), fun p2 hp2 => ?_⟩
    have c2 : Ch [] H (upd H p2 (.tup [.str "in", .str "num"])) := .new hp2
    have s2 : SqT K (upd H p2 (.tup [.str "in", .str "num"])) p2 ((["in", "num"] : List Str).map V.str) := SqT.of upd_same
    generalize upd H p2 (.tup [.str "in", .str "num"]) = H2 at c2 s2 ⊢
    refine in_tab s2 ?_
    refine ⟨_, rfl, ?_⟩
    refine iteB (fun e => ?_) (fun e => ?_)
    · refine tup_dt (K := K) (ds := []) .nil (by show 0 ≤ 1000; decide) fun x H3 c3 r3 => q x H3 (c2.trans c3) ?_
      rw [parts_none hf e]
      exact r3
    · refine ⟨_, rfl, _, rfl, ?_⟩
      dsimp only [tC]
      refine hz c2 ?_
      refine ⟨rfl, .inr ⟨_, rfl, ?_⟩⟩
      refine ⟨_, _, rfl, rfl, _, rfl, ?_⟩
      dsimp only [tNoPart]
      refine sl_dt (rd.ch c2) fun x H3 c3 r3 => q x H3 (c2.trans c3) ?_
      rw [parts_cut hf e]
      have e3 : cutD (Dt.str z :: r) (some (1 + (if decide (V.str z = V.str "plus") = true then 1 else 0 : Int))) none = (Dt.str z :: r).drop (1 + (if z = "plus" then 1 else 0)) := by
        have e4 : (1 + (if decide (V.str z = V.str "plus") = true then 1 else 0 : Int)) = ((1 + (if z = "plus" then 1 else 0) : Nat) : Int) := by
          by_cases hp : z = "plus"
          · rw [if_pos hp, if_pos (decide_eq_true (by rw [hp]))]; rfl
          · rw [if_neg hp, if_neg (by rw [decide_eq_false (fun q => hp (by injection q))]; exact Bool.false_ne_true)]; rfl
        have e5 : 1 + (if z = "plus" then 1 else 0) ≤ (Dt.str z :: r).length := by
          by_cases hp : z = "plus"
          · rw [if_pos hp]
            rw [hp, wm_plus] at hm
            cases hm
            rw [List.length_cons]
            omega
          · rw [if_neg hp, List.length_cons]
            omega
        unfold cutD
        rw [e4, HT.sIx_nat, HT.sIx_none, Nat.min_eq_left e5, List.take_of_length_le (by rw [List.length_drop]; exact Nat.le_refl _)]
      rw [← e3]
      exact r3
/-- the law's knots, of trees less deep than n -/
def spLKnots (K : PySem.W.Frag) (n : Nat) : Sp := fun vs H Q _ => ∃ (v : V) (d : Dt), vs = [v] ∧ DR K H v d ∧ d.dep ≤ n ∧ (kn d).length ≤ 1000 ∧ NewL K H (kn d) Q
theorem sc_lknots : FnScope ["_law_program", "_law_found", "_law_part"] ["_law_program"] (defScope (top 50)) := ⟨rfl, rfl, rfl, by decide +kernel, rfl, by decide +kernel, by decide +kernel⟩
theorem dep_pos (d : Dt) : 1 ≤ d.dep := by cases d <;> simp [Dt.dep]
theorem knAll_take {ps : List Dt} (i : Nat) : (knAll (ps.take i)).length ≤ (knAll ps).length := by
  have e : knAll ps = knAll (ps.take i) ++ knAll (ps.drop i) := by rw [← knAll_app, List.take_append_drop]
  rw [e, List.length_append]
  exact Nat.le_add_right _ _
theorem ok_lknots (D : Df K mg "_law_knots" (top 50)) (T : Bn mg) (O__law_has_form : OkF P w K mg base CX0 1 "_law_has_form" ["_law_knot"] (spDataN K hasForm)) (O__law_parts : OkF P w K mg base CX0 1 "_law_parts" ["_law_knot"] (spPartsOf K)) :
    ∀ n : Nat, OkF P w K mg base CX0 (2 + n) "_law_knots" ["_law_program"] (spLKnots K n) := by
  have hb : BindN "_law_knots" (top 50) ["_law_program"] := fun _ _ _ _ _ _ us hl => match us, hl with | [_], _ => rfl
  intro n
  induction n with
  | zero =>
    refine okF_absurd D hb fun vs H Q E h => ?_
    obtain ⟨v, d, _, _, hd, _⟩ := h
    have := dep_pos d
    omega
  | succ n ih =>
  have O__law_knots := ih
  refine (okF0 (k := 2 + n) D sc_lknots hb (fun vs H Q E h => ?_) (fun cdv A outer s H vs Q E hr h => ?_)).mono (by omega)
  · obtain ⟨v, d, rfl, _⟩ := h
    rfl
  · obtain ⟨v, d, rfl, rd, hdep, hz, q⟩ := h
    have nd := sc_lknots.nd
    refine ⟨_, (pss_cons (ps_set (i := 1) nd rfl (Or.inl rfl) (pe_lst (pa_cons (pv 0) pa_nil)))
  (pss_cons (ps_if (pt_val (pe_callF O__law_has_form (hr.mono (by omega)) rfl pass0 (pa_cons (pv 0) pa_nil)) (by intro _; rfl)) (pss_one (ps_for PassesOwn.never rfl (pi_tup (pe_callF O__law_parts (hr.mono (by omega)) rfl pass0 (pa_cons (pv 0) pa_nil))) (pg_name (i := 2) nd rfl (Or.inl rfl)) (pss_one (ps_expr (pe_bm PySem.F.plainAttrs_list PySem.F.slot_list_extend PySem.F.type_list_extend mt_extend (pv 1) (pa_cons (pe_callF O__law_knots (hr.mono (by omega)) rfl pass0 (pa_cons (pv 2) pa_nil)) pa_nil)))))) pss_nil)
  (pss_one (ps_ret (pv 1))))), ?_⟩
    refine ⟨_, rfl, (by show 1 ≤ sizeLine; decide), fun L hL => ?_⟩
    have c0 : Ch [] H (upd H L (.lst [v])) := .new hL
    have hl0 : upd H L (.lst [v]) L = some (.lst [v]) := upd_same
    generalize upd H L (.lst [v]) = H0 at c0 hl0 ⊢
    refine ⟨_, rfl, v, d, rfl, rd.ch c0, fun H1 c1 => ⟨_, rfl, ?_⟩⟩
    have hl1 := c1 L _ (by simp) hl0
    have c01 := c0.trans c1
    refine iteB (fun e => ?_) (fun e => ?_)
    · have ek : kn d = d :: knAll (partsD d) := by rw [kn_eq, if_pos e]; rfl
      have lk : (kn d).length = (knAll (partsD d)).length + 1 := by rw [ek, List.length_cons]
      refine ⟨_, rfl, v, d, rfl, rd.ch c01, e, fun x2 H2 c2 r2 => ?_⟩
      obtain ⟨pa, pxs, rfl, pS, pD⟩ := r2.tup_inv
      have lp := pD.len
      have hl2 := c2 L _ (by simp) hl1
      have c02 := c01.trans c2
      refine ⟨pa, rfl, ⟨_, pS⟩, ?_⟩
      refine for_it (walk_tup (K := K) (a := pa) (xs := pxs)) (fun i σ' H' => ∃ (xs : List V) (u : Option V), σ' = [some v, some (.ref L), u] ∧ H' L = some (.lst xs) ∧ DRs K H' xs (d :: knAll ((partsD d).take i)) ∧ Ch [] H H' ∧ Ts H2 H') ?_ ?_ ?_ ?_
      · exact ⟨[v], none, rfl, hl2, .cons (rd.ch c02) .nil, c02, .refl⟩
      · rintro i σ' H' _ ⟨_, _, _, _, _, _, t⟩
        exact t.sq pS
      · rintro i x σ' Hx H' hi ⟨xs, u, rfl, hl, hx, c, t⟩ ⟨rfl, hx1⟩
        obtain ⟨e', he', re⟩ := pD.getv hx1
        have re' := re.ts t
        have hm : e' ∈ partsD d := List.mem_of_getElem? he'
        have htk : (partsD d).take (i + 1) = (partsD d).take i ++ [e'] := take_one he'
        have big := knAll_take (ps := partsD d) (i + 1)
        rw [htk, knAll_snoc, List.length_append] at big
        have hxl := hx.len
        rw [List.length_cons] at hxl
        refine ⟨_, rfl, .inl ⟨rfl, _, SqL.of hl⟩, _, rfl, x, e', rfl, re', ?_, ?_, fun M ys H3 hM c3 hm3 r3 => ?_⟩
        · have := parts_dep hm e
          omega
        · omega
        · have hl3 := c3 L _ (by simp) hl
          have t3 := Ts.of c3
          have ly := r3.len
          refine ⟨L, M, _, _, rfl, rfl, hl3, hm3, Nat.le_of_lt (small1000 (by omega)), ?_⟩
          have t4 : Ts H3 (upd H3 L (.lst (xs ++ ys))) := .upd (by rw [hl3]; trivial)
          refine ⟨_, _, rfl, upd_same, ?_, (c.trans c3).mut hL, (t.trans t3).trans t4⟩
          rw [htk, knAll_snoc]
          exact ((hx.ts t3).ts t4).app (r3.ts t4)
      · rintro σ' H' ⟨xs, u, rfl, hl, hx, c, t⟩
        refine ⟨_, rfl, ?_⟩
        rw [lp, List.take_length] at hx
        refine q L xs H' hL c hl ?_
        rw [ek]
        exact hx
    · refine ⟨_, rfl, ?_⟩
      refine q L [v] H1 hL c01 hl1 ?_
      rw [kn_eq, if_neg (by rw [e]; exact Bool.false_ne_true)]
      exact .cons (rd.ch c01) .nil
end
end LM
set_option Elab.async false
set_option linter.all false
set_option maxRecDepth 100000
set_option maxHeartbeats 4000000
namespace LM
open PySem PySem.Spec PyProof.Rows L2
/-! ### the first of a row -/
open Classical in
noncomputable def firstI {α : Type} (P : α → Prop) : Nat → List α → Option Nat
  | _, [] => none
  | n, x :: l => if P x then some n else firstI P (n + 1) l
section
variable {α : Type} {P : α → Prop}
theorem firstI_yes {n : Nat} {x : α} {l : List α} (h : P x) : firstI P n (x :: l) = some n := by
  unfold firstI
  rw [if_pos h]
theorem firstI_past {n : Nat} {x : α} {l : List α} (h : ¬ P x) : firstI P n (x :: l) = firstI P (n + 1) l := by
  conv => lhs; unfold firstI
  rw [if_neg h]
theorem firstI_at : ∀ {l : List α} {n i : Nat} {x : α}, (∀ y ∈ l.take i, ¬ P y) → l[i]? = some x → P x → firstI P n l = some (n + i)
  | [], _, _, _, _, e, _ => by simp at e
  | y :: l, n, 0, x, _, e, p => by
    simp at e
    subst e
    exact firstI_yes p
  | y :: l, n, i + 1, x, h, e, p => by
    rw [firstI_past (h y (by simp)), firstI_at (i := i) (x := x) (fun z hz => h z (by simp [hz])) (by simpa using e) p]
    congr 1
    omega
theorem firstI_no : ∀ {l : List α} {n : Nat}, (∀ y ∈ l, ¬ P y) → firstI P n l = none
  | [], _, _ => rfl
  | y :: l, n, h => by
    rw [firstI_past (h y List.mem_cons_self)]
    exact firstI_no fun z hz => h z (List.mem_cons_of_mem _ hz)
theorem firstI_none : ∀ {l : List α} {n : Nat}, firstI P n l = none → ∀ y ∈ l, ¬ P y
  | [], _, _ => fun y hy => by cases hy
  | x :: l, n, h => fun y hy => by
    by_cases c : P x
    · rw [firstI_yes c] at h; cases h
    · rw [firstI_past c] at h
      rcases List.mem_cons.mp hy with rfl | hy
      · exact c
      · exact firstI_none h y hy
theorem firstI_lt : ∀ {l : List α} {n m : Nat}, firstI P n l = some m → n ≤ m ∧ m < n + l.length
  | [], _, _, h => by cases h
  | x :: l, n, m, h => by
    by_cases c : P x
    · rw [firstI_yes c] at h
      injection h with h
      subst h
      exact ⟨Nat.le_refl _, by rw [List.length_cons]; omega⟩
    · rw [firstI_past c] at h
      have := firstI_lt h
      rw [List.length_cons]
      omega
end
/-! ### what is amiss in a program -/
def NoForm (d : Dt) : Prop := hasForm d = false
def BadIn (n : Nat) (d : Dt) : Prop := ∃ k : Int, d = .tup [.str "in", .int k] ∧ ¬ (0 ≤ k ∧ k < (n : Int))
/-- the kind of a knot by itself -/
def Pg.knd (ks : List Kd) : Pg → Kd
  | .inp k => ks.getD k .num | .num _ => .num | .yes => .truth | .no => .truth | .plus _ _ => .num | .bin o _ _ => o.out | .not _ => .truth | .ite _ a _ => a.knd ks
/-- the kinds due of the parts -/
def Pg.duesK (ks : List Kd) : Pg → List Kd
  | .plus _ _ => [.num] | .bin o _ _ => [o.ins, o.ins] | .not _ => [.truth] | .ite _ a _ => [.truth, a.knd ks, a.knd ks] | _ => []
def BadK (ks : List Kd) (q : Pg) : Prop := q.parts.map (Pg.knd ks) ≠ q.duesK ks
/-- its inputs are there -/
def InR (n : Nat) (p : Pg) : Prop := ∀ k, .inp k ∈ p.subs → k < n
/-- what is told of data as a program: what is amiss, or its kind -/
inductive WrongIs (ks : List Kd) (d : Dt) : Sum (Str × Nat) Kd → Prop
  | form {i : Nat} : firstI NoForm 0 (kn d) = some i → WrongIs ks d (.inl ("form", i))
  | input {i : Nat} : firstI NoForm 0 (kn d) = none → firstI (BadIn ks.length) 0 (kn d) = some i → WrongIs ks d (.inl ("input", i))
  | kind {p : Pg} {i : Nat} : d = p.dt → InR ks.length p → firstI (BadK ks) 0 p.subs = some i → WrongIs ks d (.inl ("kind", i))
  | good {p : Pg} {t : Kd} : d = p.dt → Wt ks p t → WrongIs ks d (.inr t)
theorem subs_self (p : Pg) : p ∈ p.subs := by cases p <;> simp [Pg.subs]
theorem parts_subs : ∀ {p q r : Pg}, q ∈ p.parts → r ∈ q.subs → r ∈ p.subs
  | .plus c a, q, r, h, g => by simp [Pg.parts] at h; subst h; simp [Pg.subs, g]
  | .not a, q, r, h, g => by simp [Pg.parts] at h; subst h; simp [Pg.subs, g]
  | .bin o a b, q, r, h, g => by
    simp [Pg.parts] at h
    rcases h with rfl | rfl <;> simp [Pg.subs, g]
  | .ite p a b, q, r, h, g => by
    simp [Pg.parts] at h
    rcases h with rfl | rfl | rfl <;> simp [Pg.subs, g]
  | .inp _, _, _, h, _ => by simp [Pg.parts] at h
  | .num _, _, _, h, _ => by simp [Pg.parts] at h
  | .yes, _, _, h, _ => by simp [Pg.parts] at h
  | .no, _, _, h, _ => by simp [Pg.parts] at h
theorem InR.part {n : Nat} {p q : Pg} (h : InR n p) (hq : q ∈ p.parts) : InR n q := fun k hk => h k (parts_subs hq hk)
theorem subs_sub : ∀ {p q r : Pg}, q ∈ p.subs → r ∈ q.subs → r ∈ p.subs
  | .plus c a, q, r, h, g => by
    rcases List.mem_cons.mp h with rfl | h
    · exact g
    · exact List.mem_cons_of_mem _ (subs_sub h g)
  | .not a, q, r, h, g => by
    rcases List.mem_cons.mp h with rfl | h
    · exact g
    · exact List.mem_cons_of_mem _ (subs_sub h g)
  | .bin o a b, q, r, h, g => by
    rcases List.mem_cons.mp h with rfl | h
    · exact g
    · refine List.mem_cons_of_mem _ (List.mem_append.mpr ?_)
      rcases List.mem_append.mp h with h | h
      · exact .inl (subs_sub h g)
      · exact .inr (subs_sub h g)
  | .ite p a b, q, r, h, g => by
    rcases List.mem_cons.mp h with rfl | h
    · exact g
    · refine List.mem_cons_of_mem _ (List.mem_append.mpr ?_)
      rcases List.mem_append.mp h with h | h
      · exact .inl (subs_sub h g)
      · refine .inr (List.mem_append.mpr ?_)
        rcases List.mem_append.mp h with h | h
        · exact .inl (subs_sub h g)
        · exact .inr (subs_sub h g)
  | .inp _, q, r, h, g => by simp [Pg.subs] at h; subst h; exact g
  | .num _, q, r, h, g => by simp [Pg.subs] at h; subst h; exact g
  | .yes, q, r, h, g => by simp [Pg.subs] at h; subst h; exact g
  | .no, q, r, h, g => by simp [Pg.subs] at h; subst h; exact g
theorem InR.sub {n : Nat} {p q : Pg} (h : InR n p) (hq : q ∈ p.subs) : InR n q := fun k hk => h k (subs_sub hq hk)
theorem Wt.knd {ks : List Kd} : ∀ {p : Pg} {t : Kd}, Wt ks p t → p.knd ks = t
  | _, _, .inp h => by unfold Pg.knd; rw [List.getD_eq_getElem?_getD, h]; rfl
  | _, _, .num _ => rfl
  | _, _, .yes => rfl
  | _, _, .no => rfl
  | _, _, .plus _ _ => rfl
  | _, _, .bin _ _ _ => rfl
  | _, _, .not _ => rfl
  | _, _, .ite _ h _ => by unfold Pg.knd; exact Wt.knd h
/-- where nothing is amiss it has its kind -/
theorem wt_of {ks : List Kd} : ∀ {p : Pg}, InR ks.length p → (∀ q ∈ p.subs, ¬ BadK ks q) → Wt ks p (p.knd ks)
  | .inp k, hi, _ => by
    have hk := hi k (by simp [Pg.subs])
    refine .inp ?_
    unfold Pg.knd
    rw [List.getD_eq_getElem?_getD, List.getElem?_eq_getElem hk]
    rfl
  | .num c, _, _ => .num c
  | .yes, _, _ => .yes
  | .no, _, _ => .no
  | .plus c a, hi, hb => by
    have ha := wt_of (hi.part (q := a) (by simp [Pg.parts])) fun q hq => hb q (parts_subs (q := a) (by simp [Pg.parts]) hq)
    have h0 := hb _ (subs_self _)
    unfold BadK at h0
    have h1 : [a.knd ks] = [Kd.num] := Classical.not_not.mp h0
    injection h1 with h1
    rw [h1] at ha
    exact .plus c ha
  | .not a, hi, hb => by
    have ha := wt_of (hi.part (q := a) (by simp [Pg.parts])) fun q hq => hb q (parts_subs (q := a) (by simp [Pg.parts]) hq)
    have h0 := hb _ (subs_self _)
    unfold BadK at h0
    have h1 : [a.knd ks] = [Kd.truth] := Classical.not_not.mp h0
    injection h1 with h1
    rw [h1] at ha
    exact .not ha
  | .bin o a b, hi, hb => by
    have ha := wt_of (hi.part (q := a) (by simp [Pg.parts])) fun q hq => hb q (parts_subs (q := a) (by simp [Pg.parts]) hq)
    have hb' := wt_of (hi.part (q := b) (by simp [Pg.parts])) fun q hq => hb q (parts_subs (q := b) (by simp [Pg.parts]) hq)
    have h0 := hb _ (subs_self _)
    unfold BadK at h0
    have h1 : [a.knd ks, b.knd ks] = [o.ins, o.ins] := Classical.not_not.mp h0
    injection h1 with h1 h2
    injection h2 with h2
    rw [h1] at ha
    rw [h2] at hb'
    exact .bin o ha hb'
  | .ite p a b, hi, hb => by
    have hp := wt_of (hi.part (q := p) (by simp [Pg.parts])) fun q hq => hb q (parts_subs (q := p) (by simp [Pg.parts]) hq)
    have ha := wt_of (hi.part (q := a) (by simp [Pg.parts])) fun q hq => hb q (parts_subs (q := a) (by simp [Pg.parts]) hq)
    have hb' := wt_of (hi.part (q := b) (by simp [Pg.parts])) fun q hq => hb q (parts_subs (q := b) (by simp [Pg.parts]) hq)
    have h0 := hb _ (subs_self _)
    unfold BadK at h0
    have h1 : [p.knd ks, a.knd ks, b.knd ks] = [Kd.truth, a.knd ks, a.knd ks] := Classical.not_not.mp h0
    injection h1 with h1 h2
    injection h2 with h2 h3
    injection h3 with h3
    rw [h1] at hp
    rw [h3] at hb'
    exact .ite hp ha hb'
/-! ### data all of whose knots have a form -/
theorem ptW_inv {z : Str} {m : Nat} (h : ptW z = some m) : (z = "in" ∧ m = 0) ∨ (z = "num" ∧ m = 0) ∨ (z = "yes" ∧ m = 0) ∨ (z = "no" ∧ m = 0) ∨ (z = "plus" ∧ m = 1) ∨ (∃ o : Bop, z = o.s ∧ m = 2) ∨ (z = "not" ∧ m = 1) ∨ (z = "if" ∧ m = 3) := by
  unfold ptW at h
  by_cases c1 : z = "in"
  · rw [if_pos c1] at h; cases h; exact .inl ⟨c1, rfl⟩
  rw [if_neg c1] at h
  by_cases c2 : z = "num"
  · rw [if_pos c2] at h; cases h; exact .inr (.inl ⟨c2, rfl⟩)
  rw [if_neg c2] at h
  by_cases c3 : z = "yes"
  · rw [if_pos c3] at h; cases h; exact .inr (.inr (.inl ⟨c3, rfl⟩))
  rw [if_neg c3] at h
  by_cases c4 : z = "no"
  · rw [if_pos c4] at h; cases h; exact .inr (.inr (.inr (.inl ⟨c4, rfl⟩)))
  rw [if_neg c4] at h
  by_cases c5 : z = "plus"
  · rw [if_pos c5] at h; cases h; exact .inr (.inr (.inr (.inr (.inl ⟨c5, rfl⟩))))
  rw [if_neg c5] at h
  have bop : ∀ (o : Bop), z = o.s → m = 2 → (z = "in" ∧ m = 0) ∨ (z = "num" ∧ m = 0) ∨ (z = "yes" ∧ m = 0) ∨ (z = "no" ∧ m = 0) ∨ (z = "plus" ∧ m = 1) ∨ (∃ o : Bop, z = o.s ∧ m = 2) ∨ (z = "not" ∧ m = 1) ∨ (z = "if" ∧ m = 3) := fun o e1 e2 => .inr (.inr (.inr (.inr (.inr (.inl ⟨o, e1, e2⟩)))))
  by_cases c6 : z = "least"
  · rw [if_pos c6] at h; cases h; exact bop .least c6 rfl
  rw [if_neg c6] at h
  by_cases c7 : z = "most"
  · rw [if_pos c7] at h; cases h; exact bop .most c7 rfl
  rw [if_neg c7] at h
  by_cases c8 : z = "atmost"
  · rw [if_pos c8] at h; cases h; exact bop .atmost c8 rfl
  rw [if_neg c8] at h
  by_cases c9 : z = "not"
  · rw [if_pos c9] at h; cases h; exact .inr (.inr (.inr (.inr (.inr (.inr (.inl ⟨c9, rfl⟩))))))
  rw [if_neg c9] at h
  by_cases c10 : z = "both"
  · rw [if_pos c10] at h; cases h; exact bop .both c10 rfl
  rw [if_neg c10] at h
  by_cases c11 : z = "either"
  · rw [if_pos c11] at h; cases h; exact bop .either c11 rfl
  rw [if_neg c11] at h
  by_cases c12 : z = "if"
  · rw [if_pos c12] at h; cases h; exact .inr (.inr (.inr (.inr (.inr (.inr (.inr ⟨c12, rfl⟩))))))
  rw [if_neg c12] at h
  cases h
theorem numHd_inv {r : List Dt} (h : numHd r = true) : ∃ (c : Int) (r' : List Dt), r = .int c :: r' := by
  cases r with
  | nil => cases h
  | cons x r' =>
    have : KdOf .num x = true := h
    cases x with
    | int c => exact ⟨c, r', rfl⟩
    | non => cases this
    | bl b => cases this
    | str s => cases this
    | tup ds => cases this
/-- a knot of a form, in all ways -/
inductive Formed : Dt → List Dt → Prop
  | inp (k : Int) : Formed (.tup [.str "in", .int k]) []
  | num (c : Int) : Formed (.tup [.str "num", .int c]) []
  | yes : Formed (.tup [.str "yes"]) []
  | no : Formed (.tup [.str "no"]) []
  | plus (c : Int) (a : Dt) : Formed (.tup [.str "plus", .int c, a]) [a]
  | bin (o : Bop) (a b : Dt) : Formed (.tup [.str o.s, a, b]) [a, b]
  | not (a : Dt) : Formed (.tup [.str "not", a]) [a]
  | ite (p a b : Dt) : Formed (.tup [.str "if", p, a, b]) [p, a, b]
theorem len0 {α : Type} {l : List α} (h : l.length = 0) : l = [] := List.length_eq_zero_iff.mp h
theorem len1 {α : Type} {l : List α} (h : l.length = 1) : ∃ a, l = [a] := List.length_eq_one_iff.mp h
theorem len2 {α : Type} {l : List α} (h : l.length = 2) : ∃ a b, l = [a, b] := by
  match l, h with
  | [a, b], _ => exact ⟨a, b, rfl⟩
theorem len3 {α : Type} {l : List α} (h : l.length = 3) : ∃ a b c, l = [a, b, c] := by
  match l, h with
  | [a, b, c], _ => exact ⟨a, b, c, rfl⟩
theorem partsD_of {z : Str} {r : List Dt} {m : Nat} (h : ptW z = some m) : partsD (.tup (.str z :: r)) = (Dt.str z :: r).drop (r.length + 1 - m) := by
  unfold partsD itemsD many
  dsimp only
  rw [h]
  rfl
theorem formed_of {d : Dt} (h : hasForm d = true) : Formed d (partsD d) := by
  cases d with
  | tup ds =>
    cases ds with
    | nil => cases h
    | cons x r =>
      cases x with
      | str z =>
        cases hp : ptW z with
        | none =>
          unfold hasForm at h
          dsimp only at h
          rw [hp] at h
          cases h
        | some m =>
          have hf := form_eq (r := r) hp
          rw [hf] at h
          have pd := partsD_of (r := r) hp
          rcases ptW_inv hp with ⟨rfl, rfl⟩ | ⟨rfl, rfl⟩ | ⟨rfl, rfl⟩ | ⟨rfl, rfl⟩ | ⟨rfl, rfl⟩ | ⟨o, rfl, rfl⟩ | ⟨rfl, rfl⟩ | ⟨rfl, rfl⟩
          · rw [if_pos nb_in] at h
            obtain ⟨h1, h2⟩ := Bool.and_eq_true_iff.mp h
            obtain ⟨c, r', rfl⟩ := numHd_inv h2
            obtain rfl := len0 (l := r') (by have := of_decide_eq_true h1; simpa using this)
            rw [pd]; exact .inp c
          · rw [if_pos nb_num] at h
            obtain ⟨h1, h2⟩ := Bool.and_eq_true_iff.mp h
            obtain ⟨c, r', rfl⟩ := numHd_inv h2
            obtain rfl := len0 (l := r') (by have := of_decide_eq_true h1; simpa using this)
            rw [pd]; exact .num c
          · rw [if_neg (by rw [nb_yes]; decide)] at h
            obtain rfl := len0 (of_decide_eq_true h)
            rw [pd]; exact .yes
          · rw [if_neg (by rw [nb_no]; decide)] at h
            obtain rfl := len0 (of_decide_eq_true h)
            rw [pd]; exact .no
          · rw [if_pos nb_plus] at h
            obtain ⟨h1, h2⟩ := Bool.and_eq_true_iff.mp h
            obtain ⟨c, r', rfl⟩ := numHd_inv h2
            obtain ⟨a, rfl⟩ := len1 (l := r') (by have := of_decide_eq_true h1; simpa using this)
            rw [pd]; exact .plus c a
          · rw [if_neg (by rw [nb_bop]; decide)] at h
            obtain ⟨a, b, rfl⟩ := len2 (of_decide_eq_true h)
            rw [pd]; exact .bin o a b
          · rw [if_neg (by rw [nb_not]; decide)] at h
            obtain ⟨a, rfl⟩ := len1 (of_decide_eq_true h)
            rw [pd]; exact .not a
          · rw [if_neg (by rw [nb_if]; decide)] at h
            obtain ⟨a, b, c, rfl⟩ := len3 (of_decide_eq_true h)
            rw [pd]; exact .ite a b c
      | non => cases h
      | bl b => cases h
      | int i => cases h
      | tup x => cases h
  | non => cases h
  | bl b => cases h
  | int i => cases h
  | str x => cases h
theorem kn_part {d e f : Dt} (hf : hasForm d = true) (he : e ∈ partsD d) (h : f ∈ kn e) : f ∈ kn d := by
  rw [kn_eq, if_pos hf]
  exact List.mem_cons_of_mem _ (List.mem_flatten.mpr ⟨kn e, List.mem_map.mpr ⟨e, he, rfl⟩, h⟩)
theorem kn_self (d : Dt) : d ∈ kn d := by rw [kn_eq]; exact List.mem_cons_self
/-- it is a program -/
theorem pg_of {n : Nat} : ∀ (m : Nat) {d : Dt}, d.dep ≤ m → (∀ e ∈ kn d, ¬ NoForm e) → (∀ e ∈ kn d, ¬ BadIn n e) → ∃ p : Pg, d = p.dt ∧ InR n p
  | 0, d, hm, _, _ => by cases d <;> (unfold Dt.dep at hm; omega)
  | m + 1, d, hm, h1, h2 => by
    have hf : hasForm d = true := by
      have := h1 d (kn_self d)
      unfold NoForm at this
      cases q : hasForm d with
      | true => rfl
      | false => exact (this q).elim
    have part : ∀ e ∈ partsD d, ∃ p : Pg, e = p.dt ∧ InR n p := fun e he => by
      have := parts_dep he hf
      exact pg_of m (by omega) (fun f hfe => h1 f (kn_part hf he hfe)) (fun f hfe => h2 f (kn_part hf he hfe))
    have b2 := h2 d (kn_self d)
    have fm := formed_of hf
    generalize partsD d = pp at fm part
    cases fm with
    | inp k =>
      have hk : 0 ≤ k ∧ k < (n : Int) := Classical.byContradiction fun z => b2 ⟨k, rfl, z⟩
      obtain ⟨j, rfl⟩ : ∃ j : Nat, k = (j : Int) := ⟨k.toNat, by omega⟩
      exact ⟨.inp j, rfl, fun i hi => by simp [Pg.subs] at hi; omega⟩
    | num c => exact ⟨.num c, rfl, fun i hi => by simp [Pg.subs] at hi⟩
    | yes => exact ⟨.yes, rfl, fun i hi => by simp [Pg.subs] at hi⟩
    | no => exact ⟨.no, rfl, fun i hi => by simp [Pg.subs] at hi⟩
    | plus c a =>
      obtain ⟨p, rfl, hp⟩ := part a (by simp)
      exact ⟨.plus c p, rfl, fun i hi => by simp [Pg.subs] at hi; exact hp i hi⟩
    | not a =>
      obtain ⟨p, rfl, hp⟩ := part a (by simp)
      exact ⟨.not p, rfl, fun i hi => by simp [Pg.subs] at hi; exact hp i hi⟩
    | bin o a b =>
      obtain ⟨p, rfl, hp⟩ := part a (by simp)
      obtain ⟨q, rfl, hq⟩ := part b (by simp)
      exact ⟨.bin o p q, rfl, fun i hi => by simp [Pg.subs] at hi; exact hi.elim (hp i) (hq i)⟩
    | ite a b c =>
      obtain ⟨p, rfl, hp⟩ := part a (by simp)
      obtain ⟨q, rfl, hq⟩ := part b (by simp)
      obtain ⟨r, rfl, hr⟩ := part c (by simp)
      exact ⟨.ite p q r, rfl, fun i hi => by simp [Pg.subs] at hi; exact hi.elim (hp i) fun h => h.elim (hq i) (hr i)⟩
/-- something is told of all data -/
theorem wrong_any (ks : List Kd) (d : Dt) : ∃ r, WrongIs ks d r := by
  cases h1 : firstI NoForm 0 (kn d) with
  | some i => exact ⟨_, .form h1⟩
  | none =>
    cases h2 : firstI (BadIn ks.length) 0 (kn d) with
    | some i => exact ⟨_, .input h1 h2⟩
    | none =>
      obtain ⟨p, rfl, hi⟩ := pg_of d.dep (Nat.le_refl _) (firstI_none h1) (firstI_none h2)
      cases h3 : firstI (BadK ks) 0 p.subs with
      | some i => exact ⟨_, .kind rfl hi h3⟩
      | none => exact ⟨_, .good rfl (wt_of hi (firstI_none h3))⟩
/-- where it has its kind, inputs are there, no knot is amiss -/
theorem Wt.inR {ks : List Kd} {p : Pg} {t : Kd} (h : Wt ks p t) : InR ks.length p := fun k hk => by
  obtain ⟨u, hu⟩ := h.subs _ hk
  cases hu with
  | inp h => exact (List.getElem?_eq_some_iff.mp h).1
theorem Wt.dues {ks : List Kd} {p : Pg} {t : Kd} (h : Wt ks p t) : ¬ BadK ks p := by
  unfold BadK
  intro z
  refine z ?_
  cases h with
  | inp h => rfl
  | num c => rfl
  | yes => rfl
  | no => rfl
  | plus c h => show [_] = _; rw [h.knd]; rfl
  | not h => show [_] = _; rw [h.knd]; rfl
  | bin o h1 h2 => show [_, _] = _; rw [h1.knd, h2.knd]; rfl
  | ite h1 h2 h3 => show [_, _, _] = [_, _, _]; rw [h1.knd, h2.knd, h3.knd]
theorem Wt.none {ks : List Kd} {p : Pg} {t : Kd} (h : Wt ks p t) : firstI (BadK ks) 0 p.subs = none := firstI_no fun q hq => by
  obtain ⟨u, hu⟩ := h.subs q hq
  exact hu.dues
/-! ### what is told is one -/
theorem pg_formed {p : Pg} : ∀ e ∈ kn p.dt, ¬ NoForm e := fun e he z => by
  rw [Pg.kn] at he
  obtain ⟨q, _, rfl⟩ := List.mem_map.mp he
  unfold NoForm at z
  rw [Pg.form] at z
  cases z
theorem pg_inputs {n : Nat} {p : Pg} (h : InR n p) : ∀ e ∈ kn p.dt, ¬ BadIn n e := fun e he ⟨k, z, hk⟩ => by
  rw [Pg.kn] at he
  obtain ⟨q, hq, rfl⟩ := List.mem_map.mp he
  rw [q.dt_eq] at z
  injection z with z
  injection z with z1 z2
  injection z1 with z1
  cases q with
  | inp j =>
    have hj := h j hq
    injection z2 with z2
    injection z2 with z2
    omega
  | num c => exact absurd z1 (by (try dsimp only [Pg.word]); decide +kernel)
  | yes => exact absurd z1 (by (try dsimp only [Pg.word]); decide +kernel)
  | no => exact absurd z1 (by (try dsimp only [Pg.word]); decide +kernel)
  | plus c a => exact absurd z1 (by (try dsimp only [Pg.word]); decide +kernel)
  | not a => exact absurd z1 (by (try dsimp only [Pg.word]); decide +kernel)
  | ite a b c => exact absurd z1 (by (try dsimp only [Pg.word]); decide +kernel)
  | bin o a b => exact absurd z1 (by cases o <;> ((try dsimp only [Pg.word, Bop.s]); decide +kernel))
section
variable {ks : List Kd} {d : Dt} {r : Sum (Str × Nat) Kd}
theorem wrong_form (h : WrongIs ks d r) {i : Nat} (e : firstI NoForm 0 (kn d) = some i) : r = .inl ("form", i) := by
  cases h with
  | form f => rw [f] at e; cases e; rfl
  | input f _ => rw [f] at e; cases e
  | kind hd _ _ => subst hd; rw [firstI_no pg_formed] at e; cases e
  | good hd _ => subst hd; rw [firstI_no pg_formed] at e; cases e
theorem wrong_input (h : WrongIs ks d r) (e0 : firstI NoForm 0 (kn d) = none) {i : Nat} (e : firstI (BadIn ks.length) 0 (kn d) = some i) : r = .inl ("input", i) := by
  cases h with
  | form f => rw [f] at e0; cases e0
  | input _ f => rw [f] at e; cases e; rfl
  | kind hd hi _ => subst hd; rw [firstI_no (pg_inputs hi)] at e; cases e
  | good hd w => subst hd; rw [firstI_no (pg_inputs w.inR)] at e; cases e
theorem wrong_rest (h : WrongIs ks d r) (e0 : firstI NoForm 0 (kn d) = none) (e1 : firstI (BadIn ks.length) 0 (kn d) = none) : ∃ p : Pg, d = p.dt ∧ InR ks.length p ∧ ((∃ i, r = .inl ("kind", i) ∧ firstI (BadK ks) 0 p.subs = some i) ∨ (r = .inr (p.knd ks) ∧ firstI (BadK ks) 0 p.subs = none ∧ Wt ks p (p.knd ks))) := by
  cases h with
  | form f => rw [f] at e0; cases e0
  | input _ f => rw [f] at e1; cases e1
  | kind hd hi f => exact ⟨_, hd, hi, .inl ⟨_, rfl, f⟩⟩
  | good hd w => exact ⟨_, hd, w.inR, .inr ⟨by rw [w.knd], w.none, by rw [w.knd]; exact w⟩⟩
end
theorem form_in {r : List Dt} (h : hasForm (.tup (.str "in" :: r)) = true) : ∃ k : Int, r = [.int k] := by
  rw [form_eq wm_in, if_pos nb_in] at h
  obtain ⟨h1, h2⟩ := Bool.and_eq_true_iff.mp h
  obtain ⟨c, r', rfl⟩ := numHd_inv h2
  obtain rfl := len0 (l := r') (by have := of_decide_eq_true h1; simpa using this)
  exact ⟨c, rfl⟩
end LM
set_option Elab.async false
set_option linter.all false
set_option maxRecDepth 100000
set_option maxHeartbeats 4000000
namespace LM
open PySem PySem.Spec PyProof.Rows L2
/-! ### kinds of programs -/
theorem vs_inj {a b : Str} (h : V.str a = V.str b) : a = b := by injection h
theorem w_if : ∀ {p : Pg}, p.word = "if" → ∃ a b c, p = .ite a b c
  | .ite a b c, _ => ⟨a, b, c, rfl⟩
  | .inp _, h => absurd h (by (try dsimp only [Pg.word, Bop.s, Bop.out, Bop.ins, Pg.dues, List.map, Kd.s]); decide +kernel) | .num _, h => absurd h (by (try dsimp only [Pg.word, Bop.s, Bop.out, Bop.ins, Pg.dues, List.map, Kd.s]); decide +kernel) | .yes, h => absurd h (by (try dsimp only [Pg.word, Bop.s, Bop.out, Bop.ins, Pg.dues, List.map, Kd.s]); decide +kernel) | .no, h => absurd h (by (try dsimp only [Pg.word, Bop.s, Bop.out, Bop.ins, Pg.dues, List.map, Kd.s]); decide +kernel)
  | .plus _ _, h => absurd h (by (try dsimp only [Pg.word, Bop.s, Bop.out, Bop.ins, Pg.dues, List.map, Kd.s]); decide +kernel) | .not _, h => absurd h (by (try dsimp only [Pg.word, Bop.s, Bop.out, Bop.ins, Pg.dues, List.map, Kd.s]); decide +kernel)
  | .bin o _ _, h => absurd h (by cases o <;> ((try dsimp only [Pg.word, Bop.s, Bop.out, Bop.ins, Pg.dues, List.map, Kd.s]); decide +kernel))
theorem w_in : ∀ {p : Pg}, p.word = "in" → ∃ k, p = .inp k
  | .inp k, _ => ⟨k, rfl⟩
  | .ite _ _ _, h => absurd h (by (try dsimp only [Pg.word, Bop.s, Bop.out, Bop.ins, Pg.dues, List.map, Kd.s]); decide +kernel) | .num _, h => absurd h (by (try dsimp only [Pg.word, Bop.s, Bop.out, Bop.ins, Pg.dues, List.map, Kd.s]); decide +kernel) | .yes, h => absurd h (by (try dsimp only [Pg.word, Bop.s, Bop.out, Bop.ins, Pg.dues, List.map, Kd.s]); decide +kernel) | .no, h => absurd h (by (try dsimp only [Pg.word, Bop.s, Bop.out, Bop.ins, Pg.dues, List.map, Kd.s]); decide +kernel)
  | .plus _ _, h => absurd h (by (try dsimp only [Pg.word, Bop.s, Bop.out, Bop.ins, Pg.dues, List.map, Kd.s]); decide +kernel) | .not _, h => absurd h (by (try dsimp only [Pg.word, Bop.s, Bop.out, Bop.ins, Pg.dues, List.map, Kd.s]); decide +kernel)
  | .bin o _ _, h => absurd h (by cases o <;> ((try dsimp only [Pg.word, Bop.s, Bop.out, Bop.ins, Pg.dues, List.map, Kd.s]); decide +kernel))
def tells : List Str := ["num", "plus", "least", "most"]
theorem w_tells {ks : List Kd} {p : Pg} (n1 : p.word ≠ "if") (n2 : p.word ≠ "in") : oneOf p.word tells = decide (p.knd ks = .num) := by
  have y : ∀ z : Str, oneOf z tells = true → oneOf z tells = decide (Kd.num = Kd.num) := fun z h => h
  have n : ∀ z : Str, oneOf z tells = false → oneOf z tells = decide (Kd.truth = Kd.num) := fun z h => h
  cases p with
  | inp k => exact (n2 rfl).elim
  | ite a b c => exact (n1 rfl).elim
  | num c => exact y "num" (by decide +kernel)
  | yes => exact n "yes" (by decide +kernel)
  | no => exact n "no" (by decide +kernel)
  | plus c a => exact y "plus" (by decide +kernel)
  | not a => exact n "not" (by decide +kernel)
  | bin o a b => cases o with
    | least => exact y "least" (by decide +kernel)
    | most => exact y "most" (by decide +kernel)
    | atmost => exact n "atmost" (by decide +kernel)
    | both => exact n "both" (by decide +kernel)
    | either => exact n "either" (by decide +kernel)
theorem w_nums {p : Pg} : oneOf p.word ["plus", "least", "most", "atmost"] = true → ∃ n, ∀ ks, p.duesK ks = List.replicate n .num ∧ p.parts.length = n ∧ 1 ≤ n ∧ n ≤ 2 := by
  intro h
  cases p with
  | plus c a => exact ⟨1, fun t => ⟨rfl, rfl, by decide, by decide⟩⟩
  | bin o a b => cases o with
    | least => exact ⟨2, fun t => ⟨rfl, rfl, by decide, by decide⟩⟩
    | most => exact ⟨2, fun t => ⟨rfl, rfl, by decide, by decide⟩⟩
    | atmost => exact ⟨2, fun t => ⟨rfl, rfl, by decide, by decide⟩⟩
    | both => exact absurd h (by (try dsimp only [Pg.word, Bop.s, Bop.out, Bop.ins, Pg.dues, List.map, Kd.s]); decide +kernel)
    | either => exact absurd h (by (try dsimp only [Pg.word, Bop.s, Bop.out, Bop.ins, Pg.dues, List.map, Kd.s]); decide +kernel)
  | inp k => exact absurd h (by (try dsimp only [Pg.word, Bop.s, Bop.out, Bop.ins, Pg.dues, List.map, Kd.s]); decide +kernel)
  | num k => exact absurd h (by (try dsimp only [Pg.word, Bop.s, Bop.out, Bop.ins, Pg.dues, List.map, Kd.s]); decide +kernel)
  | yes => exact absurd h (by (try dsimp only [Pg.word, Bop.s, Bop.out, Bop.ins, Pg.dues, List.map, Kd.s]); decide +kernel)
  | no => exact absurd h (by (try dsimp only [Pg.word, Bop.s, Bop.out, Bop.ins, Pg.dues, List.map, Kd.s]); decide +kernel)
  | not a => exact absurd h (by (try dsimp only [Pg.word, Bop.s, Bop.out, Bop.ins, Pg.dues, List.map, Kd.s]); decide +kernel)
  | ite a b c => exact absurd h (by (try dsimp only [Pg.word, Bop.s, Bop.out, Bop.ins, Pg.dues, List.map, Kd.s]); decide +kernel)
theorem w_truths {p : Pg} : oneOf p.word ["not", "both", "either"] = true → ∃ n, ∀ ks, p.duesK ks = List.replicate n .truth ∧ p.parts.length = n ∧ 1 ≤ n ∧ n ≤ 2 := by
  intro h
  cases p with
  | not a => exact ⟨1, fun t => ⟨rfl, rfl, by decide, by decide⟩⟩
  | bin o a b => cases o with
    | both => exact ⟨2, fun t => ⟨rfl, rfl, by decide, by decide⟩⟩
    | either => exact ⟨2, fun t => ⟨rfl, rfl, by decide, by decide⟩⟩
    | least => exact absurd h (by (try dsimp only [Pg.word, Bop.s, Bop.out, Bop.ins, Pg.dues, List.map, Kd.s]); decide +kernel)
    | most => exact absurd h (by (try dsimp only [Pg.word, Bop.s, Bop.out, Bop.ins, Pg.dues, List.map, Kd.s]); decide +kernel)
    | atmost => exact absurd h (by (try dsimp only [Pg.word, Bop.s, Bop.out, Bop.ins, Pg.dues, List.map, Kd.s]); decide +kernel)
  | inp k => exact absurd h (by (try dsimp only [Pg.word, Bop.s, Bop.out, Bop.ins, Pg.dues, List.map, Kd.s]); decide +kernel)
  | num k => exact absurd h (by (try dsimp only [Pg.word, Bop.s, Bop.out, Bop.ins, Pg.dues, List.map, Kd.s]); decide +kernel)
  | yes => exact absurd h (by (try dsimp only [Pg.word, Bop.s, Bop.out, Bop.ins, Pg.dues, List.map, Kd.s]); decide +kernel)
  | no => exact absurd h (by (try dsimp only [Pg.word, Bop.s, Bop.out, Bop.ins, Pg.dues, List.map, Kd.s]); decide +kernel)
  | plus c a => exact absurd h (by (try dsimp only [Pg.word, Bop.s, Bop.out, Bop.ins, Pg.dues, List.map, Kd.s]); decide +kernel)
  | ite a b c => exact absurd h (by (try dsimp only [Pg.word, Bop.s, Bop.out, Bop.ins, Pg.dues, List.map, Kd.s]); decide +kernel)
theorem w_rest {p : Pg} (h1 : oneOf p.word ["plus", "least", "most", "atmost"] = false) (h2 : oneOf p.word ["not", "both", "either"] = false) (h3 : p.word ≠ "if") (ks : List Kd) : p.duesK ks = [] ∧ p.parts = [] := by
  cases p with
  | inp k => exact ⟨rfl, rfl⟩
  | num k => exact ⟨rfl, rfl⟩
  | yes => exact ⟨rfl, rfl⟩
  | no => exact ⟨rfl, rfl⟩
  | not a => exact absurd h2 (by (try dsimp only [Pg.word, Bop.s, Bop.out, Bop.ins, Pg.dues, List.map, Kd.s]); decide +kernel)
  | plus c a => exact absurd h1 (by (try dsimp only [Pg.word, Bop.s, Bop.out, Bop.ins, Pg.dues, List.map, Kd.s]); decide +kernel)
  | ite a b c => exact (h3 rfl).elim
  | bin o a b => cases o with
    | least => exact absurd h1 (by (try dsimp only [Pg.word, Bop.s, Bop.out, Bop.ins, Pg.dues, List.map, Kd.s]); decide +kernel)
    | most => exact absurd h1 (by (try dsimp only [Pg.word, Bop.s, Bop.out, Bop.ins, Pg.dues, List.map, Kd.s]); decide +kernel)
    | atmost => exact absurd h1 (by (try dsimp only [Pg.word, Bop.s, Bop.out, Bop.ins, Pg.dues, List.map, Kd.s]); decide +kernel)
    | both => exact absurd h2 (by (try dsimp only [Pg.word, Bop.s, Bop.out, Bop.ins, Pg.dues, List.map, Kd.s]); decide +kernel)
    | either => exact absurd h2 (by (try dsimp only [Pg.word, Bop.s, Bop.out, Bop.ins, Pg.dues, List.map, Kd.s]); decide +kernel)
theorem strs_shaped (ws : List Kd) : PyData.canLayAll0 (Dt.pys (ws.map fun k => Dt.str k.s)) = true ∧ PyData.depthAll (Dt.pys (ws.map fun k => Dt.str k.s)) = 0 := by
  induction ws with
  | nil => exact ⟨rfl, rfl⟩
  | cons w ws ih =>
    obtain ⟨h1, h2⟩ := ih
    refine ⟨?_, ?_⟩
    · show (PyData.canLay0 (.str w.s) && PyData.canLayAll0 (Dt.pys (ws.map fun k => Dt.str k.s))) = true
      rw [h1]
      cases w <;> decide +kernel
    · show max 0 (PyData.depthAll (Dt.pys (ws.map fun k => Dt.str k.s))) = 0
      rw [h2]
      rfl
theorem kds_shapedT (ws : List Kd) : SeqAt.shaped (Dt.tup (ws.map fun k => Dt.str k.s)).py = true := by
  obtain ⟨h1, h2⟩ := strs_shaped ws
  show (PyData.canLayAll0 (Dt.pys (ws.map fun k => Dt.str k.s)) && decide (PyData.depthAll (Dt.pys (ws.map fun k => Dt.str k.s)) + 1 ≤ 64)) = true
  rw [h1, h2]
  rfl
theorem kds_shapedL (ws : List Kd) : SeqAt.shaped (.list (Dt.pys (ws.map fun k => Dt.str k.s))) = true := by
  obtain ⟨h1, h2⟩ := strs_shaped ws
  show (PyData.canLayAll0 (Dt.pys (ws.map fun k => Dt.str k.s)) && decide (PyData.depthAll (Dt.pys (ws.map fun k => Dt.str k.s)) + 1 ≤ 64)) = true
  rw [h1, h2]
  rfl
theorem kds_eqv : ∀ {ws us : List Kd}, PyData.eqvAll (Dt.pys (ws.map fun k => Dt.str k.s)) (Dt.pys (us.map fun k => Dt.str k.s)) = true ↔ ws = us
  | [], [] => ⟨fun _ => rfl, fun _ => rfl⟩
  | [], _ :: _ => ⟨fun h => by (cases h), fun h => by (cases h)⟩
  | _ :: _, [] => ⟨fun h => by (cases h), fun h => by (cases h)⟩
  | w :: ws, u :: us => by
    have ih := kds_eqv (ws := ws) (us := us)
    show (PyData.eqv (.str w.s) (.str u.s) && PyData.eqvAll _ _) = true ↔ _
    rw [Bool.and_eq_true, ih]
    have e : PyData.eqv (.str w.s) (.str u.s) = true ↔ w = u := by
      cases w <;> cases u <;> first | exact ⟨fun _ => rfl, fun _ => by decide +kernel⟩ | exact ⟨fun z => absurd z (by decide +kernel), fun z => by cases z⟩
    rw [e]
    exact ⟨fun ⟨x, y⟩ => by rw [x, y], fun z => by injection z with x y; exact ⟨x, y⟩⟩
/-- equal data: != says no -/
theorem ne_same {K : PySem.W.Frag} {H : Hp} {x y : V} {d : PyData} {Q : VK} (hx : Dp K H x d) (hy : Dp K H y d) (h : SeqAt.shaped d = true) (q : Q (.bl false) H) : rNeD K x y H Q := by
  refine ⟨d, d, hx, hy, h, h, ?_⟩
  rw [SeqAt.eqv_refl d (Bool.and_eq_true_iff.mp h).1]
  exact q
section
variable {P : Program} {w : World} {K : PySem.W.Frag} {mg : Str → Option Value} {base : Heap}
section
variable {H : Hp} {v : V} {p : Pg} {R : VK}
theorem ix_word (r : DR K H v p.dt) (k : R (.str p.word) H) : rIxT K v (.int 0) H R := by
  rw [p.dt_eq] at r
  exact ix_dt (n := 0) r rfl fun y ry => by rw [ry.str_inv]; exact k
end
def spOwn (K : PySem.W.Frag) : Sp := fun vs H Q _ => ∃ (kv v : V) (ks : List Kd) (p : Pg), vs = [kv, v] ∧ DR K H kv (ksD ks) ∧ DR K H v p.dt ∧ InR ks.length p ∧ Q (.str (p.knd ks).s) H
theorem sc_own : FnScope ["kinds", "knot"] ["kinds", "knot"] (defScope (top 25)) := ⟨rfl, rfl, rfl, by decide +kernel, rfl, by decide +kernel, by decide +kernel⟩
theorem ok_own (D : Df K mg "own_kind" (top 25)) (T : Tp K w mg) : OkF P w K mg base CX0 1 "own_kind" ["kinds", "knot"] (spOwn K) := by
  refine okF0 D sc_own (fun _ _ _ _ _ _ us hl => match us, hl with | [_, _], _ => rfl) (fun vs H Q E h => ?_) (fun cdv A outer s H vs Q E hr h => ?_)
  · obtain ⟨kv, v, ks, p, rfl, _⟩ := h
    rfl
  · obtain ⟨kv, v, ks, p, rfl, rk, rp, wt, q⟩ := h
    have nd := sc_own.nd
    refine ⟨_, (pss_cons (ps_while PassesOwn.never (pt_cmpR op_eq (pe_ix (r := rIxT K) ix_tup (pv 1) pe_int (fun _ _ => rfl)) pe_str (nomark _)) (pss_one (ps_set (i := 1) nd rfl (Or.inl rfl) (pe_ix (r := rIxT K) ix_tup (pv 1) pe_int (fun _ _ => rfl)))))
  (pss_cons (ps_if (pt_cmpR op_eq (pe_ix (r := rIxT K) ix_tup (pv 1) pe_int (fun _ _ => rfl)) pe_str (nomark _)) (pss_one (ps_ret (pe_ix (r := rIxT K) ix_tup (pv 0) (pe_ix (r := rIxT K) ix_tup (pv 1) pe_int (fun _ _ => rfl)) (fun _ _ => rfl)))) pss_nil)
  (pss_one (ps_ret (pe_ifExp (pt_cmpR (r := rIn K false) op_in_seq (pe_ix (r := rIxT K) ix_tup (pv 1) pe_int (fun _ _ => rfl)) (pe_glob (v := .ref (He.ga K "TELL_NUMS")) rfl T.g_TELL_NUMS rfl) rfl) pe_str pe_str))))), ?_⟩
    refine ⟨fun m σ' H' => ∃ (v' : V) (p' : Pg), σ' = [some kv, some v'] ∧ H' = H ∧ DR K H v' p'.dt ∧ (InR ks.length p' ∧ p'.knd ks = p.knd ks) ∧ m = p'.size, ⟨_, v, p, rfl, rfl, rp, ⟨wt, rfl⟩, rfl⟩, ?_⟩
    rintro m σ' H' ⟨v', p', rfl, rfl, rp', ⟨wt', ek⟩, rfl⟩
    refine ⟨_, rfl, ?_⟩
    dsimp only [tC]
    refine ix_word rp' ?_
    refine ⟨rfl, _, rfl, ?_⟩
    refine iteD (fun e => ?_) (fun e => ?_)
    · obtain ⟨a, b, c, rfl⟩ := w_if (vs_inj e)
      refine ⟨fun σ2 H2 => ∃ m', m' < (Pg.ite a b c).size ∧ ∃ (v' : V) (p' : Pg), σ2 = [some kv, some v'] ∧ H2 = H' ∧ DR K H' v' p'.dt ∧ (InR ks.length p' ∧ p'.knd ks = p.knd ks) ∧ m' = p'.size, fun _ _ h => h, ?_⟩
      refine ⟨_, rfl, ?_⟩
      dsimp only [tC]
      refine ix_dt (n := 2) rp' rfl fun y ry => ?_
      have wb : InR ks.length b := wt'.part (by simp [Pg.parts])
      exact ⟨b.size, (by show b.size < a.size + b.size + c.size + 1; omega), y, b, rfl, rfl, ry, ⟨wb, ek⟩, rfl⟩
    · refine ⟨_, rfl, ?_⟩
      dsimp only [tC]
      refine ix_word rp' ?_
      refine ⟨rfl, _, rfl, ?_⟩
      refine iteD (fun e2 => ?_) (fun e2 => ?_)
      · obtain ⟨k, rfl⟩ := w_in (vs_inj e2)
        refine ⟨_, rfl, _, rfl, ?_⟩
        dsimp only [tC]
        refine ix_dt (n := 1) rp' rfl fun y ry => ?_
        rw [ry.int_inv]
        have hk1 := wt' k (by simp [Pg.subs])
        have hk : ks[k]? = some ((Pg.inp k).knd ks) := by unfold Pg.knd; rw [List.getD_eq_getElem?_getD, List.getElem?_eq_getElem hk1]; rfl
        refine ix_dt (n := k) rk (by rw [List.getElem?_map, hk]; rfl) fun y ry => ?_
        rw [ry.str_inv, ek]
        exact q
      · refine ⟨_, rfl, ?_⟩
        dsimp only [tC]
        refine ix_word rp' ?_
        refine in_tab (ws := tells) (T.s_TELL_NUMS _) ?_
        refine ⟨_, rfl, ?_⟩
        rw [w_tells (ks := ks) (fun z => e (by rw [z])) (fun z => e2 (by rw [z])), ek]
        cases hkn : p.knd ks with
        | num => rw [hkn] at q; exact q
        | truth => rw [hkn] at q; exact q
def spDue (K : PySem.W.Frag) : Sp := fun vs H Q _ => ∃ (kv v : V) (ks : List Kd) (p : Pg), vs = [kv, v] ∧ DR K H kv (ksD ks) ∧ DR K H v p.dt ∧ InR ks.length p ∧ ∀ (x : V) (H' : Hp), Ch [] H H' → DR K H' x (.tup ((p.duesK ks).map fun k => .str k.s)) → Q x H'
theorem sc_due : FnScope ["kinds", "knot", "kind"] ["kinds", "knot"] (defScope (top 26)) := ⟨rfl, rfl, rfl, by decide +kernel, rfl, by decide +kernel, by decide +kernel⟩
theorem rep_strs {H : Hp} {x : Str} : ∀ n, DRs K H (List.replicate n [V.str x]).flatten (List.replicate n (Dt.str x))
  | 0 => .nil
  | n + 1 => .cons (.str x) (rep_strs n)
theorem ok_due (D : Df K mg "parts_due" (top 26)) (T : Tp K w mg) (O_own_kind : OkF P w K mg base CX0 1 "own_kind" ["kinds", "knot"] (spOwn K)) : OkF P w K mg base CX0 2 "parts_due" ["kinds", "knot"] (spDue K) := by
  refine okF0 D sc_due (fun _ _ _ _ _ _ us hl => match us, hl with | [_, _], _ => rfl) (fun vs H Q E h => ?_) (fun cdv A outer s H vs Q E hr h => ?_)
  · obtain ⟨kv, v, ks, p, rfl, _⟩ := h
    rfl
  · obtain ⟨kv, v, ks, p, rfl, rk, rp, wt, q⟩ := h
    have nd := sc_due.nd
    refine ⟨_, (pss_cons (ps_if (pt_cmpR (r := rIn K false) op_in_seq (pe_ix (r := rIxT K) ix_tup (pv 1) pe_int (fun _ _ => rfl)) (pe_glob (v := .ref (He.ga K "OF_NUMS")) rfl T.g_OF_NUMS rfl) rfl) (pss_one (ps_ret (pe_op (r := rRepA K) op_repA (pe_tup (pa_cons pe_str pa_nil)) (pe_ix (r := rWdIx (He.ga K "PARTS") ptW) (ix_wd T.W_PARTS) (pe_glob (v := .ref (He.ga K "PARTS")) rfl T.g_PARTS rfl) (pe_ix (r := rIxT K) ix_tup (pv 1) pe_int (fun _ _ => rfl)) (fun _ _ => rfl))))) pss_nil)
  (pss_cons (ps_if (pt_cmpR (r := rIn K false) op_in_seq (pe_ix (r := rIxT K) ix_tup (pv 1) pe_int (fun _ _ => rfl)) (pe_glob (v := .ref (He.ga K "OF_TRUTHS")) rfl T.g_OF_TRUTHS rfl) rfl) (pss_one (ps_ret (pe_op (r := rRepA K) op_repA (pe_tup (pa_cons pe_str pa_nil)) (pe_ix (r := rWdIx (He.ga K "PARTS") ptW) (ix_wd T.W_PARTS) (pe_glob (v := .ref (He.ga K "PARTS")) rfl T.g_PARTS rfl) (pe_ix (r := rIxT K) ix_tup (pv 1) pe_int (fun _ _ => rfl)) (fun _ _ => rfl))))) pss_nil)
  (pss_cons (ps_if (pt_cmpR op_eq (pe_ix (r := rIxT K) ix_tup (pv 1) pe_int (fun _ _ => rfl)) pe_str (nomark _)) (pss_cons (ps_set (i := 2) nd rfl (Or.inl rfl) (pe_callF O_own_kind (hr.mono (by omega)) rfl pass0 (pa_cons (pv 0) (pa_cons (pe_ix (r := rIxT K) ix_tup (pv 1) pe_int (fun _ _ => rfl)) pa_nil))))
  (pss_one (ps_ret (pe_tup (pa_cons pe_str (pa_cons (pv 2) (pa_cons (pv 2) pa_nil))))))) pss_nil)
  (pss_one (ps_ret (pe_tup pa_nil)))))), ?_⟩
    -- copies of one kind
    have rep : ∀ (k : Kd) (n : Nat) (R : VK), (∀ (x : V) (H' : Hp), Ch [] H H' → DR K H' x (.tup (List.replicate n (Dt.str k.s))) → R x H') → 1 ≤ n → n ≤ 2 → ∀ (p1 : Addr), H p1 = none → rRepA K (.ref p1) (.int (n : Int)) (upd H p1 (.tup [.str k.s])) R := by
      intro k n R kq n1 n2 p1 hp1
      refine ⟨p1, n, [.str k.s], rfl, rfl, SqT.of upd_same, by simp, by omega, by omega, by show 1 ≤ 1000; decide, fun e => ?_, fun e p2 hp2 => ?_⟩
      · have : n = 1 := by omega
        subst this
        exact kq _ _ (.new hp1) (.new (.cons (.str _) .nil) hp1)
      · rw [Int.toNat_natCast]
        exact kq _ _ ((Ch.new hp1).trans (.new hp2)) (.new (rep_strs n) hp2)
    have wp := p.pt
    refine ⟨_, rfl, ?_⟩
    dsimp only [tC]
    refine ix_word rp ?_
    refine in_tab (ws := ["plus", "least", "most", "atmost"]) (T.s_OF_NUMS _) ?_
    refine ⟨_, rfl, ?_⟩
    refine iteB (fun e => ?_) (fun e => ?_)
    · obtain ⟨n, hn⟩ := w_nums e
      obtain ⟨h1, h2, h3, h4⟩ := hn ks
      refine ⟨(by show 1 ≤ sizeLine; decide), fun p1 hp1 => ?_⟩
      refine ⟨_, rfl, ?_⟩
      dsimp only [tC]
      refine ix_word (rp.ch (.new hp1)) ?_
      refine ⟨_, _, rfl, rfl, wp, ?_⟩
      rw [h2]
      refine rep .num n _ (fun x H' c r => q x H' c ?_) h3 h4 p1 hp1
      rw [h1, List.map_replicate]
      exact r
    refine ⟨_, rfl, ?_⟩
    dsimp only [tC]
    refine ix_word rp ?_
    refine in_tab (ws := ["not", "both", "either"]) (T.s_OF_TRUTHS _) ?_
    refine ⟨_, rfl, ?_⟩
    refine iteB (fun e2 => ?_) (fun e2 => ?_)
    · obtain ⟨n, hn⟩ := w_truths e2
      obtain ⟨h1, h2, h3, h4⟩ := hn ks
      refine ⟨(by show 1 ≤ sizeLine; decide), fun p1 hp1 => ?_⟩
      refine ⟨_, rfl, ?_⟩
      dsimp only [tC]
      refine ix_word (rp.ch (.new hp1)) ?_
      refine ⟨_, _, rfl, rfl, wp, ?_⟩
      rw [h2]
      refine rep .truth n _ (fun x H' c r => q x H' c ?_) h3 h4 p1 hp1
      rw [h1, List.map_replicate]
      exact r
    refine ⟨_, rfl, ?_⟩
    dsimp only [tC]
    refine ix_word rp ?_
    refine ⟨rfl, _, rfl, ?_⟩
    refine iteD (fun e3 => ?_) (fun e3 => ?_)
    · obtain ⟨a, b, c, rfl⟩ := w_if (vs_inj e3)
      have wb : InR ks.length b := wt.part (by simp [Pg.parts])
      refine ⟨_, rfl, _, rfl, ?_⟩
      dsimp only [tC]
      refine ix_dt (n := 2) rp rfl fun y ry => ?_
      refine ⟨kv, y, ks, b, rfl, rk, ry, wb, ?_⟩
      refine ⟨_, rfl, _, rfl, ?_⟩
      refine tup_dt (K := K) (ds := [.str "truth", .str (b.knd ks).s, .str (b.knd ks).s]) (.cons (.str _) (.cons (.str _) (.cons (.str _) .nil))) (by show 3 ≤ 1000; decide) fun x H' c r => q x H' c r
    · refine tup_dt (K := K) (ds := []) .nil (by show 0 ≤ 1000; decide) fun x H' c r => q x H' c ?_
      rw [(w_rest e e2 (fun z => e3 (by rw [z])) ks).1]
      exact r
end
end LM
set_option Elab.async false
set_option linter.all false
set_option maxRecDepth 100000
set_option maxHeartbeats 4000000
namespace LM
open PySem PySem.Spec PyProof.Rows L2
/-! ### errors of the program -/
structure OkX (P : Program) (w : World) (K : PySem.W.Frag) (mg : Str → Option Value) (base : Heap) (k : Nat) (x : Str) (C : Addr) (ps : List Str) (sp : Sp) : Prop where
  T : OexC K C
  g : mg x = some (.ref C)
  f : ∃ fI fd, PySem.W.findIn K (.ref C) "__init__" = some (some (.ref fI)) ∧ PySem.W.typeIn K (.ref fI) = some (.type "function") ∧ Binds K fd ps [] ∧ FnOk P w K mg base CX0 k fI fd ps sp
theorem OkX.mono {P : Program} {w : World} {K : PySem.W.Frag} {mg : Str → Option Value} {base : Heap} {j k : Nat} {x : Str} {C : Addr} {ps : List Str} {sp : Sp} (O : OkX P w K mg base j x C ps sp) (h : j ≤ k) : OkX P w K mg base k x C ps sp := by
  obtain ⟨T, g, fI, fd, i, t, b, F⟩ := O
  exact ⟨T, g, fI, fd, i, t, b, F.mono h⟩
theorem pmk_okX {X : Cx} {k : Nat} {x : Str} {C : Addr} {ps : List Str} {sp : Sp} {p pos : Pos} {e : Expr} {es : List Expr} {ta : TA} (O : OkX X.prog X.w X.K X.mg X.base k x C ps sp) (hr : Room (k + 1) X.A) (hg : Gl X x) (ha : PA X (e :: es) ta) (hdb : (x == ("__debug__" : Str)) = false := by decide)
    (he : starEach (e :: es) X.env = (false, eval e X.env) :: starEach es X.env := by rfl) (hpl : (backTo pos (starEach es X.env)).any (·.1) = false := by rfl) : PMk X (.Call (.Name x p) (e :: es) [] pos) (tMkO C sp [] ta) := by
  obtain ⟨T, g, fI, fd, i, t, b, F⟩ := O
  exact pmk_oex T i t F hr b .nil pass0 hg g ha hdb he hpl
/-- a class of errors as it stands -/
structure DfX (K : PySem.W.Frag) (mg : Str → Option Value) (x qual : Str) (st : Stmt) (C : Addr) (fs : List Str) : Prop where
  T : OexC K C
  g : mg x = some (.ref C)
  f : ∃ fI fd, PySem.W.findIn K (.ref C) "__init__" = some (some (.ref fI)) ∧ PySem.W.typeIn K (.ref fI) = some (.type "function") ∧ FunD K "__init__" qual (defArgs st) (defBody st) (defScope st) [] [] fI fd
  no : ∀ f ∈ fs, PySem.W.findIn K (.ref C) f = some none
/-- their base -/
structure Eb (K : PySem.W.Frag) (mg : Str → Option Value) (CB : Addr) : Prop where
  g : mg "MakeError" = some (.ref CB)
  r : ClX.CRead K CB (.type "type")
  f : PySem.W.findCls K (.ref CB) (.type "type") "__init__" = some (.val (.builtin "ValueError.__init__"))
section
variable {P : Program} {w : World} {K : PySem.W.Frag} {mg : Str → Option Value} {base : Heap}
def spErr1N (f : Str) (C : Addr) : Sp := fun vs H Q _ => ∃ (a : Addr) (v : V), vs = [.ref a, v] ∧ H a = some (exo a C none) ∧ ∀ dx, H dx = none → dx ≠ a → Q .non (upd (upd H dx (exd dx [(f, v)])) a (exo a C (some dx)))
def spErr2N (f g : Str) (C : Addr) : Sp := fun vs H Q _ => ∃ (a : Addr) (v u : V), vs = [.ref a, v, u] ∧ H a = some (exo a C none) ∧ ∀ dx, H dx = none → dx ≠ a → Q .non (upd (upd (upd H dx (exd dx [(f, v)])) a (exo a C (some dx))) dx (exd dx [(g, u), (f, v)]))
abbrev spErr1 (C : Addr) : Sp := spErr1N "at" C
abbrev spErr2 (C : Addr) : Sp := spErr2N "at" "number" C
/-- of a word and a place -/
abbrev spErrP (C : Addr) : Sp := spErr2N "word" "at" C
theorem sc_noin : FnScope ["self", "at"] ["self", "at"] (defScope (inClass (top 8) 0)) := ⟨rfl, rfl, rfl, by decide +kernel, rfl, by decide +kernel, by decide +kernel⟩
theorem ok_noin {C CB : Addr} (B : Eb K mg CB) (D : DfX K mg "NoInputs" "NoInputs.__init__" (inClass (top 8) 0) C ["at"]) : OkX P w K mg base 1 "NoInputs" C ["self", "at"] (spErr1 C) := by
  obtain ⟨T, g, ⟨fI, fd, i, t, F⟩, no⟩ := D
  refine ⟨T, g, fI, fd, i, t, F.bindsN (fun _ _ _ _ _ _ us hl => match us, hl with | [_, _], _ => rfl), F.ok sc_noin (fun vs H Q E h => ?_) (fun cdv A outer s H vs Q E hr h => ?_)⟩
  · obtain ⟨a, v, rfl, _⟩ := h
    rfl
  · obtain ⟨a, v, rfl, ea, q⟩ := h
    refine ⟨_, (pss_cons (ps_expr (pe_baseInit rfl B.g B.r B.f (pa_cons (pv 0) (pa_cons (pv 1) pa_nil))))
  (pss_one (ps_ost (pv 0) (pv 1)))), ?_⟩
    refine ⟨_, rfl, _, rfl, a, C, [v], rfl, (by show 1 ≤ 1000; decide), T, ea, ?_⟩
    exact ⟨_, rfl, _, rfl, a, C, rfl, T, no _ (by simp), .inl ⟨ea, fun dx n ne => q dx n ne⟩⟩
theorem sc_clash2 : FnScope ["self", "at", "number"] ["self", "at", "number"] (defScope (inClass (top 9) 0)) := ⟨rfl, rfl, rfl, by decide +kernel, rfl, by decide +kernel, by decide +kernel⟩
theorem ok_clashE {C CB : Addr} (B : Eb K mg CB) (D : DfX K mg "Clash" "Clash.__init__" (inClass (top 9) 0) C ["at", "number"]) : OkX P w K mg base 1 "Clash" C ["self", "at", "number"] (spErr2 C) := by
  obtain ⟨T, g, ⟨fI, fd, i, t, F⟩, no⟩ := D
  refine ⟨T, g, fI, fd, i, t, F.bindsN (fun _ _ _ _ _ _ us hl => match us, hl with | [_, _, _], _ => rfl), F.ok sc_clash2 (fun vs H Q E h => ?_) (fun cdv A outer s H vs Q E hr h => ?_)⟩
  · obtain ⟨a, v, u, rfl, _⟩ := h
    rfl
  · obtain ⟨a, v, u, rfl, ea, q⟩ := h
    refine ⟨_, (pss_cons (ps_expr (pe_baseInit rfl B.g B.r B.f (pa_cons (pv 0) (pa_cons (pv 1) (pa_cons (pv 2) pa_nil)))))
  (pss_cons (ps_ost (pv 0) (pv 1))
  (pss_one (ps_ost (pv 0) (pv 2))))), ?_⟩
    refine ⟨_, rfl, _, rfl, _, rfl, a, C, [v, u], rfl, (by show 2 ≤ 1000; decide), T, ea, ?_⟩
    refine ⟨_, rfl, _, rfl, a, C, rfl, T, no _ (by simp), .inl ⟨ea, fun dx n ne => ?_⟩⟩
    refine ⟨_, rfl, _, rfl, a, C, rfl, T, no _ (by simp), .inr ⟨dx, [("at", v)], upd_same, ?_, (by show 1 ≤ 900; decide), q dx n ne⟩⟩
    rw [upd_ne ne]
    exact upd_same
theorem sc_noprog : FnScope ["self", "word", "at"] ["self", "word", "at"] (defScope (inClass (top 4) 0)) := ⟨rfl, rfl, rfl, by decide +kernel, rfl, by decide +kernel, by decide +kernel⟩
theorem ok_noprog {C CB : Addr} (B : Eb K mg CB) (D : DfX K mg "NoProgram" "NoProgram.__init__" (inClass (top 4) 0) C ["word", "at"]) : OkX P w K mg base 1 "NoProgram" C ["self", "word", "at"] (spErrP C) := by
  obtain ⟨T, g, ⟨fI, fd, i, t, F⟩, no⟩ := D
  refine ⟨T, g, fI, fd, i, t, F.bindsN (fun _ _ _ _ _ _ us hl => match us, hl with | [_, _, _], _ => rfl), F.ok sc_noprog (fun vs H Q E h => ?_) (fun cdv A outer s H vs Q E hr h => ?_)⟩
  · obtain ⟨a, v, u, rfl, _⟩ := h
    rfl
  · obtain ⟨a, v, u, rfl, ea, q⟩ := h
    refine ⟨_, (pss_cons (ps_expr (pe_baseInit rfl B.g B.r B.f (pa_cons (pv 0) (pa_cons (pv 1) (pa_cons (pv 2) pa_nil)))))
  (pss_cons (ps_ost (pv 0) (pv 1))
  (pss_one (ps_ost (pv 0) (pv 2))))), ?_⟩
    refine ⟨_, rfl, _, rfl, _, rfl, a, C, [v, u], rfl, (by show 2 ≤ 1000; decide), T, ea, ?_⟩
    refine ⟨_, rfl, _, rfl, a, C, rfl, T, no _ (by simp), .inl ⟨ea, fun dx n ne => ?_⟩⟩
    refine ⟨_, rfl, _, rfl, a, C, rfl, T, no _ (by simp), .inr ⟨dx, [("word", v)], upd_same, ?_, (by show 1 ≤ 900; decide), q dx n ne⟩⟩
    rw [upd_ne ne]
    exact upd_same
/-- a class of errors under IndexError, as it stands -/
structure DfXT (K : PySem.W.Frag) (mg : Str → Option Value) (tl : List Value) (nw : String) (x qual : Str) (st : Stmt) (C : Addr) (fs : List Str) : Prop where
  T : OexT K tl nw C
  g : mg x = some (.ref C)
  f : ∃ fI fd, PySem.W.findIn K (.ref C) "__init__" = some (some (.ref fI)) ∧ PySem.W.typeIn K (.ref fI) = some (.type "function") ∧ FunD K "__init__" qual (defArgs st) (defBody st) (defScope st) [] [] fI fd
  no : ∀ f ∈ fs, PySem.W.findIn K (.ref C) f = some none
structure OkXT (P : Program) (w : World) (K : PySem.W.Frag) (mg : Str → Option Value) (base : Heap) (tl : List Value) (nw : String) (k : Nat) (x : Str) (C : Addr) (ps : List Str) (sp : Sp) : Prop where
  T : OexT K tl nw C
  g : mg x = some (.ref C)
  f : ∃ fI fd, PySem.W.findIn K (.ref C) "__init__" = some (some (.ref fI)) ∧ PySem.W.typeIn K (.ref fI) = some (.type "function") ∧ Binds K fd ps [] ∧ FnOk P w K mg base CX0 k fI fd ps sp
theorem pmk_okXT {X : Cx} {tl : List Value} {B nw ini : String} {k : Nat} {x : Str} {C : Addr} {ps : List Str} {sp : Sp} {p pos : Pos} {e : Expr} {es : List Expr} {ta : TA} (F0 : LMX.ExT tl B nw ini) (O : OkXT X.prog X.w X.K X.mg X.base tl nw k x C ps sp) (hr : Room (k + 1) X.A) (hg : Gl X x) (ha : PA X (e :: es) ta) (hdb : (x == ("__debug__" : Str)) = false := by decide)
    (he : starEach (e :: es) X.env = (false, eval e X.env) :: starEach es X.env := by rfl) (hpl : (backTo pos (starEach es X.env)).any (·.1) = false := by rfl) : PMk X (.Call (.Name x p) (e :: es) [] pos) (tMkO C sp [] ta) := by
  obtain ⟨T, g, fI, fd, i, t, b, F⟩ := O
  exact pmk_oexT F0 T i t F hr b .nil pass0 hg g ha hdb he hpl
theorem sc_notk : FnScope ["self", "number"] ["self", "number"] (defScope (inClass (top 13) 0)) := ⟨rfl, rfl, rfl, by decide +kernel, rfl, by decide +kernel, by decide +kernel⟩
theorem ok_notk {C : Addr} (gI : mg "IndexError" = none) (vI : PySem.W.findCls K (.type "IndexError") (.type "type") "__init__" = some (.val (.builtin "IndexError.__init__"))) (D : DfXT K mg ieTl "IndexError.__new__" "NotKept" "NotKept.__init__" (inClass (top 13) 0) C ["number"]) :
    OkXT P w K mg base ieTl "IndexError.__new__" 1 "NotKept" C ["self", "number"] (spErr1N "number" C) := by
  obtain ⟨T, g, ⟨fI, fd, i, t, F⟩, no⟩ := D
  refine ⟨T, g, fI, fd, i, t, F.bindsN (fun _ _ _ _ _ _ us hl => match us, hl with | [_, _], _ => rfl), F.ok sc_notk (fun vs H Q E h => ?_) (fun cdv A outer s H vs Q E hr h => ?_)⟩
  · obtain ⟨a, v, rfl, _⟩ := h
    rfl
  · obtain ⟨a, v, rfl, ea, q⟩ := h
    refine ⟨_, (pss_cons (ps_expr (pe_iniIE (by rfl) gI vI (pa_cons (pv 0) (pa_cons (pv 1) pa_nil))))
  (pss_one (ps_ostT ie_facts (pv 0) (pv 1)))), ?_⟩
    refine ⟨_, rfl, _, rfl, a, C, [v], rfl, (by show 1 ≤ 1000; decide), T, ea, ?_⟩
    exact ⟨_, rfl, _, rfl, a, C, rfl, T, no _ (by simp), ea, fun dx n ne => q dx n ne⟩
/-- what is raised -/
def Raised (H : Hp) (E : XK) (C : Addr) (fs : List (Str × V)) : Prop := ∀ (H' : Hp) (d : Addr), Ch [] H H' → H' d = some (.xd fs) → E (.ref C) (some d) H'
theorem raise1 {f : Str} {C : Addr} {v : V} {H : Hp} {E : XK} (r : Raised H E C [(f, v)]) : tMkO C (spErr1N f C) [] (fun _ G Q => Q [v] G) [] H fun cls d G => E cls d G := by
  refine ⟨by show 1 ≤ 1000; decide, fun a ha => ⟨a, v, rfl, upd_same, fun dx n ne => ⟨rfl, dx, [(f, v)], upd_same, ?_, ?_, ?_⟩⟩⟩
  · rw [upd_ne ne]; exact upd_same
  · exact (Ch.new (S := []) ha).free n
  · refine r _ dx (fun b o _ e => ?_) upd_same
    have nb : b ≠ a := ne_of_none e ha
    have nd : b ≠ dx := ne_of_none e ((Ch.new (S := []) ha).free n)
    rw [upd_ne nd, del_ne nb, upd_ne nb, upd_ne nd, upd_ne nb]
    exact e
theorem raise2 {f g : Str} {C : Addr} {v u : V} {H : Hp} {E : XK} (r : Raised H E C [(g, u), (f, v)]) : tMkO C (spErr2N f g C) [] (fun _ G Q => Q [v, u] G) [] H fun cls d G => E cls d G := by
  refine ⟨by show 2 ≤ 1000; decide, fun a ha => ⟨a, v, u, rfl, upd_same, fun dx n ne => ⟨rfl, dx, [(g, u), (f, v)], ?_, upd_same, ?_, ?_⟩⟩⟩
  · rw [upd_ne (Ne.symm ne)]; exact upd_same
  · exact (Ch.new (S := []) ha).free n
  · refine r _ dx (fun b o _ e => ?_) upd_same
    have nb : b ≠ a := ne_of_none e ha
    have nd : b ≠ dx := ne_of_none e ((Ch.new (S := []) ha).free n)
    rw [upd_ne nd, del_ne nb, upd_ne nd, upd_ne nb, upd_ne nd, upd_ne nb]
    exact e
end
end LM
set_option Elab.async false
set_option linter.all false
set_option maxRecDepth 100000
set_option maxHeartbeats 4000000
namespace LM
open PySem PySem.Spec PyProof.Rows L2
theorem Raised.ch {H H' : Hp} {E : XK} {C : Addr} {fs : List (Str × V)} (r : Raised H E C fs) (c : Ch [] H H') : Raised H' E C fs := fun G d cg e => r G d (c.trans cg) e
section
variable {P : Program} {w : World} {K : PySem.W.Frag} {mg : Str → Option Value} {base : Heap}
/-! ### kind_of -/
abbrev errP (w : Str) (i : Nat) : List (Str × V) := [("at", .int (i : Int)), ("word", .str w)]
def spKind (K : PySem.W.Frag) (CP : Addr) : Sp := fun vs H Q E => ∃ (kv v : V) (ks : List Kd) (d : Dt) (r : Sum (Str × Nat) Kd), vs = [kv, v] ∧ DR K H kv (ksD ks) ∧ DR K H v d ∧ WrongIs ks d r ∧ (kn d).length ≤ 1000 ∧ ks.length ≤ 1000 ∧
  (∀ w i, r = .inl (w, i) → Raised H E CP (errP w i)) ∧ (∀ t, r = .inr t → ∀ H', Ch [] H H' → Q (.str t.s) H')
theorem sc_kind : FnScope ["kinds", "program", "found", "at", "knot", "part"] ["kinds", "program"] (defScope (top 27)) := ⟨rfl, rfl, rfl, by decide +kernel, rfl, by decide +kernel, by decide +kernel⟩
theorem kds_len (ks : List Kd) : (ks.map fun k => Dt.str k.s).length = ks.length := List.length_map _
theorem parts_small (p : Pg) : p.parts.length ≤ 3 := by cases p <;> simp [Pg.parts]
theorem ok_kind {CP : Addr} (D : Df K mg "kind_of" (top 27)) (T : Tp K w mg) (O_knots : OkF P w K mg base CX0 3 "knots" ["program"] (spKnots K)) (O_has_form : OkF P w K mg base CX0 2 "has_form" ["knot"] (spData K hasForm)) (O_parts_of : OkF P w K mg base CX0 1 "parts_of" ["knot"] (spPartsOf K))
    (O_own_kind : OkF P w K mg base CX0 1 "own_kind" ["kinds", "knot"] (spOwn K)) (O_parts_due : OkF P w K mg base CX0 2 "parts_due" ["kinds", "knot"] (spDue K)) (O_NoProgram : OkX P w K mg base 1 "NoProgram" CP ["self", "word", "at"] (spErrP CP)) : OkF P w K mg base (L2.CX P w) 4 "kind_of" ["kinds", "program"] (spKind K CP) := by
  refine okFX D sc_kind (fun _ _ _ _ _ _ us hl => match us, hl with | [_, _], _ => rfl) (fun vs H Q E h => ?_) (fun cdv A outer s H vs Q E hr h => ?_)
  · obtain ⟨kv, v, ks, d, r, rfl, _⟩ := h
    rfl
  · obtain ⟨kv, v, ks, d, r, rfl, rk, rp, wr, lkn, lk, qx, q⟩ := h
    have nd := sc_kind.nd
    refine ⟨_, (pss_cons (ps_set (i := 2) nd rfl (Or.inl rfl) (pe_callF O_knots (hr.mono (by omega)) rfl pass0 (pa_cons (pv 1) pa_nil)))
  (pss_cons (ps_for (passes_of rfl) rfl (pi_enum (by rfl) T.b_enumerate (pa_cons (pv 2) pa_nil)) (pg_tup rfl (pgs_cons (pg_name (i := 3) nd rfl (Or.inl rfl)) (pgs_cons (pg_name (i := 4) nd rfl (Or.inl rfl)) pgs_nil))) (pss_one (ps_if (pt_not (pt_val (pe_callF O_has_form (hr.mono (by omega)) rfl pass0 (pa_cons (pv 4) pa_nil)) (by intro _; rfl))) (pss_one (ps_raise rfl (takes_of rfl rfl rfl rfl) (pmk_okX O_NoProgram (hr.mono (by omega)) rfl (pa_cons pe_str (pa_cons (pv 3) pa_nil))))) pss_nil)))
  (pss_cons (ps_for (passes_of rfl) rfl (pi_enum (by rfl) T.b_enumerate (pa_cons (pv 2) pa_nil)) (pg_tup rfl (pgs_cons (pg_name (i := 3) nd rfl (Or.inl rfl)) (pgs_cons (pg_name (i := 4) nd rfl (Or.inl rfl)) pgs_nil))) (pss_one (ps_if (PW.pt (pw_and (pt_cmpR op_eq (pe_ix (r := rIxT K) ix_tup (pv 4) pe_int (fun _ _ => rfl)) pe_str (nomark _)) (pw_and1 (pt_not (pt_chain op_le op_lt pe_int (pe_ix (r := rIxT K) ix_tup (pv 4) pe_int (fun _ _ => rfl)) (pe_callB (r := rLenS K) call_len_seq (by rfl) T.b_len PySem.boot_len (pa_cons (pv 0) pa_nil))))))) (pss_one (ps_raise rfl (takes_of rfl rfl rfl rfl) (pmk_okX O_NoProgram (hr.mono (by omega)) rfl (pa_cons pe_str (pa_cons (pv 3) pa_nil))))) pss_nil)))
  (pss_cons (ps_for (passes_of rfl) rfl (pi_enum (by rfl) T.b_enumerate (pa_cons (pv 2) pa_nil)) (pg_tup rfl (pgs_cons (pg_name (i := 3) nd rfl (Or.inl rfl)) (pgs_cons (pg_name (i := 4) nd rfl (Or.inl rfl)) pgs_nil))) (pss_one (ps_if (pt_cmpR (r := rNeD K) (op_neD hr.units) (pe_callTy (r := rTupS K) call_tuple_of (by rfl) T.b_tuple (by decide +kernel) (pa_cons (pe_lc (own := [("part", 5)]) (tt := tYes) rfl nd (pi_tup (pe_callF O_parts_of (hr.mono (by omega)) rfl pass0 (pa_cons (pv 4) pa_nil))) (blkOk_by (own := [("part", 5)]) (N := ["kinds", "program", "found", "at", "knot", "part"]) (sc := defScope (top 27)) (by decide +kernel)) (fun _ _ _ _ _ => (pg_name (i := 5) nd rfl (Or.inl rfl))) (fun _ _ _ _ _ => pts_nil) (fun _ _ _ _ _ => (pe_callF O_own_kind (hr.mono (by omega)) rfl pass0 (pa_cons (pv 0) (pa_cons (pv 5) pa_nil))))) pa_nil)) (pe_callF O_parts_due (hr.mono (by omega)) rfl pass0 (pa_cons (pv 0) (pa_cons (pv 4) pa_nil))) (nomark _)) (pss_one (ps_raise rfl (takes_of rfl rfl rfl rfl) (pmk_okX O_NoProgram (hr.mono (by omega)) rfl (pa_cons pe_str (pa_cons (pv 3) pa_nil))))) pss_nil)))
  (pss_one (ps_ret (pe_callF O_own_kind (hr.mono (by omega)) rfl pass0 (pa_cons (pv 0) (pa_cons (pv 1) pa_nil))))))))), ?_⟩
    refine ⟨_, rfl, v, d, rfl, rp, lkn, fun L xs H1 hL c1 hl1 rx1 => ?_⟩
    have lx : xs.length = (kn d).length := rx1.len
    -- forms
    refine ⟨_, rfl, L, xs, rfl, SqL.of hl1, ?_⟩
    refine for_it (walk_enum (K := K) (a := L) (xs := xs)) (fun i σ' H' => ∃ u1 u2 : Option V, σ' = [some kv, some v, some (.ref L), u1, u2, none] ∧ Ch [] H1 H' ∧ ∀ e ∈ (kn d).take i, ¬ NoForm e) ⟨none, none, rfl, .refl, by simp⟩ ?_ ?_ ?_
    · rintro i σ' H' _ ⟨_, _, _, c, _⟩
      exact SqL.of (c L _ (by simp) hl1)
    · rintro i x σ' Hx H' hi ⟨u1, u2, rfl, c, ok⟩ ⟨TT, xi, y, rfl, hT, rfl, ex, ey⟩
      have ex' := Option.some.inj ex
      subst ex'
      obtain ⟨e, he, rd⟩ := rx1.getv ey
      have c2 : Ch [] H1 (upd Hx TT (.tup [.int (i : Nat), y])) := c.trans (.new hT)
      refine ⟨TT, _, rfl, SqT.of upd_same, rfl, _, _, rfl, _, _, rfl, rfl, ?_⟩
      refine ⟨_, rfl, y, e, rfl, rd.ch c2, ?_⟩
      refine ⟨_, rfl, ?_⟩
      refine iteB (fun z => ?_) (fun z => ?_)
      · have bad : NoForm e := by unfold NoForm; simpa using z
        have hr1 := wrong_form wr (by have := firstI_at (n := 0) ok he bad; rwa [Nat.zero_add] at this)
        refine ⟨_, rfl, ?_⟩
        exact raise2 ((qx _ _ hr1).ch (c1.trans c2))
      · refine ⟨_, _, rfl, c2, fun f hf => ?_⟩
        rw [take_one he] at hf
        rcases List.mem_append.mp hf with hf | hf
        · exact ok f hf
        · rw [List.mem_singleton.mp hf]
          unfold NoForm
          simpa using z
    rintro σ1 H2 ⟨u1, u2, rfl, c2, ok1⟩
    rw [lx, List.take_length] at ok1
    have e0 := firstI_no (n := 0) ok1
    have hl2 := c2 L _ (by simp) hl1
    have rx2 := rx1.ch c2
    have c02 := c1.trans c2
    have rk2 := rk.ch c02
    -- inputs
    refine ⟨_, rfl, L, xs, rfl, SqL.of hl2, ?_⟩
    refine for_it (walk_enum (K := K) (a := L) (xs := xs)) (fun i σ' H' => ∃ u1 u2 : Option V, σ' = [some kv, some v, some (.ref L), u1, u2, none] ∧ Ch [] H2 H' ∧ ∀ e ∈ (kn d).take i, ¬ BadIn ks.length e) ⟨u1, u2, rfl, .refl, by simp⟩ ?_ ?_ ?_
    · rintro i σ' H' _ ⟨_, _, _, c, _⟩
      exact SqL.of (c L _ (by simp) hl2)
    · rintro i x σ' Hx H' hi ⟨u1, u2, rfl, c, ok⟩ ⟨TT, xi, y, rfl, hT, rfl, ex, ey⟩
      have ex' := Option.some.inj ex
      subst ex'
      obtain ⟨e, he, rd⟩ := rx2.getv ey
      have fe : hasForm e = true := by
        have := ok1 e (List.mem_of_getElem? he)
        unfold NoForm at this
        simpa using this
      obtain ⟨z, rr, m, rfl, _, _⟩ := hasForm_inv fe
      have c3 : Ch [] H2 (upd Hx TT (.tup [.int (i : Nat), y])) := c.trans (.new hT)
      refine ⟨TT, _, rfl, SqT.of upd_same, rfl, _, _, rfl, _, _, rfl, rfl, ?_⟩
      generalize upd Hx TT (.tup [.int (i : Nat), y]) = H3 at c3 ⊢
      have rd3 := rd.ch c3
      have next : ¬ BadIn ks.length (.tup (.str z :: rr)) → ∀ e ∈ (kn d).take (i + 1), ¬ BadIn ks.length e := fun hb f hf => by
        rw [take_one he] at hf
        rcases List.mem_append.mp hf with hf | hf
        · exact ok f hf
        · rw [List.mem_singleton.mp hf]; exact hb
      refine ⟨_, rfl, ?_⟩
      dsimp only [tC]
      refine ix_dt (n := 0) rd3 rfl fun y0 ry0 => ?_
      rw [ry0.str_inv]
      refine ⟨rfl, _, rfl, ?_⟩
      refine iteD (fun ez => ?_) (fun ez => ?_)
      · have ez' : z = "in" := by injection ez
        subst ez'
        obtain ⟨k, rfl⟩ := form_in fe
        have bad : ¬ (0 ≤ k ∧ k < (ks.length : Int)) → r = .inl ("input", i) := fun hk => by
          have := firstI_at (n := 0) ok he (show BadIn ks.length _ from ⟨k, rfl, hk⟩)
          rw [Nat.zero_add] at this
          exact wrong_input wr e0 this
        refine ⟨_, rfl, ?_⟩
        dsimp only [tC]
        refine ix_dt (n := 1) rd3 rfl fun y1 ry1 => ?_
        rw [ry1.int_inv]
        refine ⟨_, _, rfl, rfl, _, rfl, ?_⟩
        refine iteD (fun hk0 => ?_) (fun hk0 => ?_)
        · refine ⟨_, rfl, ?_⟩
          dsimp only [tNil]
          refine len_dt (rk2.ch c3) ?_
          refine ⟨_, _, rfl, rfl, _, rfl, ?_⟩
          rw [kds_len]
          refine iteN (fun hk1 => ?_) (fun hk1 => ?_)
          · refine ⟨_, rfl, ?_⟩
            exact raise2 ((qx _ _ (bad fun h => hk1 h.2)).ch (c02.trans c3))
          · exact ⟨_, _, rfl, c3, next fun ⟨k', hk', hb⟩ => by injection hk' with hk'; injection hk' with _ hk'; injection hk' with hk'; injection hk' with hk'; subst hk'; exact hb ⟨hk0, hk1⟩⟩
        · refine ⟨_, rfl, ?_⟩
          refine iteB (b := !false) (fun _ => ?_) (fun z => by cases z)
          refine ⟨_, rfl, ?_⟩
          exact raise2 ((qx _ _ (bad fun h => hk0 h.1)).ch (c02.trans c3))
      · refine ⟨_, _, rfl, c3, next fun ⟨k', hk', hb⟩ => ez ?_⟩
        injection hk' with hk'
        injection hk' with hk'
        injection hk' with hk'
        rw [hk']
    rintro σ2 H3 ⟨u3, u4, rfl, c3, ok2⟩
    rw [lx, List.take_length] at ok2
    have e1 := firstI_no (n := 0) ok2
    obtain ⟨p, rfl, hir, hrest⟩ := wrong_rest wr e0 e1
    clear wr e0 e1 ok1 ok2
    have hl3 := c3 L _ (by simp) hl2
    have rx3 := rx2.ch c3
    have c03 := c02.trans c3
    have rk3 := rk.ch c03
    -- kinds
    refine ⟨_, rfl, L, xs, rfl, SqL.of hl3, ?_⟩
    refine for_it (walk_enum (K := K) (a := L) (xs := xs)) (fun i σ' H' => ∃ u1 u2 : Option V, σ' = [some kv, some v, some (.ref L), u1, u2, none] ∧ Ch [] H3 H' ∧ ∀ e ∈ p.subs.take i, ¬ BadK ks e) ⟨u3, u4, rfl, .refl, by simp⟩ ?_ ?_ ?_
    · rintro i σ' H' _ ⟨_, _, _, c, _⟩
      exact SqL.of (c L _ (by simp) hl3)
    · rintro i x σ' Hx H' hi ⟨u1, u2, rfl, c, ok⟩ ⟨TT, xi, y, rfl, hT, rfl, ex, ey⟩
      have ex' := Option.some.inj ex
      subst ex'
      obtain ⟨e, he, rd⟩ := rx3.getv ey
      rw [Pg.kn, List.getElem?_map] at he
      obtain ⟨p', hp', rfl⟩ := Option.map_eq_some_iff.mp he
      have hir' := hir.sub (List.mem_of_getElem? hp')
      have c4 : Ch [] H3 (upd Hx TT (.tup [.int (i : Nat), y])) := c.trans (.new hT)
      refine ⟨TT, _, rfl, SqT.of upd_same, rfl, _, _, rfl, _, _, rfl, rfl, ?_⟩
      generalize upd Hx TT (.tup [.int (i : Nat), y]) = H4 at c4 ⊢
      refine ⟨_, rfl, y, p'.dt, rfl, rd.ch c4, Pg.form p', fun x5 H5 c5 r5 => ?_⟩
      rw [Pg.partsD] at r5
      obtain ⟨pa, pxs, rfl, pS, pD⟩ := r5.tup_inv
      have lp : pxs.length = p'.parts.length := by rw [pD.len, List.length_map]
      have lp3 := parts_small p'
      refine ⟨pa, rfl, ⟨_, pS⟩, fun Dd hDd => ?_⟩
      refine lc_tup (K := K) (a := pa) (xs := pxs) (fun i H' => Ch [] H5 H' ∧ ∃ us : List V, us.length = i ∧ H' Dd = some (.lst us) ∧ DRs K H' us (((p'.parts.map (Pg.knd ks)).take i).map fun k => .str k.s)) ?_ ?_ ?_ ?_
      · exact ⟨.new hDd, [], rfl, upd_same, .nil⟩
      · rintro i H' _ ⟨c, _⟩
        exact (Ts.of c).sq pS
      · rintro j xj H6 hj ⟨c6, us, lus, hus, rus⟩
        refine ⟨rfl, ?_⟩
        obtain ⟨dj, hdj, rj⟩ := pD.getv hj
        rw [List.getElem?_map] at hdj
        obtain ⟨qj, hqj, rfl⟩ := Option.map_eq_some_iff.mp hdj
        refine ⟨_, rfl, _, rfl, kv, xj, ks, qj, rfl, rk.ch (c03.trans (c4.trans (c5.trans c6))), rj.ch c6, hir'.part (List.mem_of_getElem? hqj), ?_⟩
        have hj2 := (List.getElem?_eq_some_iff.mp hj).1
        refine ⟨us, hus, small1000 (by omega), c6.mut hDd, us ++ [.str (qj.knd ks).s], by rw [List.length_append, lus]; rfl, upd_same, ?_⟩
        have t6 : Ts H6 (upd H6 Dd (.lst (us ++ [.str (qj.knd ks).s]))) := .upd (by rw [hus]; trivial)
        have hkj : (p'.parts.map (Pg.knd ks))[j]? = some (qj.knd ks) := by rw [List.getElem?_map, hqj]; rfl
        rw [take_one hkj, List.map_append]
        exact (rus.ts t6).snoc (.str _)
      · rintro H6 ⟨c6, us, lus, hus, rus⟩
        have ldu : (p'.parts.map (Pg.knd ks)).length = pxs.length := by rw [lp, List.length_map]
        rw [← ldu, List.take_length] at rus
        refine ⟨Dd, us, rfl, .inl ⟨SqL.of hus, fun p7 hp7 => ?_⟩⟩
        have r7 : DR K (upd H6 p7 (.tup us)) (.ref p7) (.tup ((p'.parts.map (Pg.knd ks)).map fun k => .str k.s)) := .new rus hp7
        have c7 : Ch [] H6 (upd H6 p7 (.tup us)) := .new hp7
        generalize upd H6 p7 (.tup us) = H7 at r7 c7 ⊢
        have c37 := c4.trans (c5.trans (c6.trans c7))
        have c07 := c03.trans c37
        refine ⟨_, rfl, _, rfl, kv, y, ks, p', rfl, rk.ch c07, rd.ch c37, hir', fun x8 H8 c8 r8 => ?_⟩
        refine ⟨_, _, (r7.ch c8).dp, r8.dp, kds_shapedT _, kds_shapedT _, _, rfl, ?_⟩
        refine iteB (fun ne => ?_) (fun eq => ?_)
        · have bad : BadK ks p' := fun z => by
            rw [z] at ne
            have : PyData.eqv (Dt.tup ((p'.duesK ks).map fun k => Dt.str k.s)).py (Dt.tup ((p'.duesK ks).map fun k => Dt.str k.s)).py = true := kds_eqv.mpr rfl
            rw [this] at ne
            cases ne
          have hf := firstI_at (n := 0) ok hp' bad
          rw [Nat.zero_add] at hf
          have hr1 : r = .inl ("kind", i) := by
            rcases hrest with ⟨i', e1, e2⟩ | ⟨_, e2, _⟩
            · rw [hf] at e2; cases e2; exact e1
            · rw [hf] at e2; cases e2
          refine ⟨_, rfl, ?_⟩
          exact raise2 ((qx _ _ hr1).ch (c07.trans c8))
        · refine ⟨_, _, rfl, c37.trans c8, fun f hf => ?_⟩
          rw [take_one hp'] at hf
          rcases List.mem_append.mp hf with hf | hf
          · exact ok f hf
          · rw [List.mem_singleton.mp hf]
            unfold BadK
            intro z
            have eq2 : PyData.eqv (Dt.tup ((p'.parts.map (Pg.knd ks)).map fun k => Dt.str k.s)).py (Dt.tup ((p'.duesK ks).map fun k => Dt.str k.s)).py = true := by
              cases hq : PyData.eqv (Dt.tup ((p'.parts.map (Pg.knd ks)).map fun k => Dt.str k.s)).py (Dt.tup ((p'.duesK ks).map fun k => Dt.str k.s)).py with
              | true => rfl
              | false => rw [hq] at eq; cases eq
            exact z (kds_eqv.mp eq2)
    rintro σ3 H4 ⟨u5, u6, rfl, c4, ok3⟩
    have c04 := c03.trans c4
    have lsub : xs.length = p.subs.length := by rw [lx, Pg.kn, List.length_map]
    rw [lsub, List.take_length] at ok3
    have hr1 : r = .inr (p.knd ks) := by
      rcases hrest with ⟨i', e1, e2⟩ | ⟨e1, _, _⟩
      · rw [firstI_no ok3] at e2; cases e2
      · exact e1
    exact ⟨_, rfl, _, rfl, kv, v, ks, p, rfl, rk.ch c04, rp.ch c04, hir, q _ hr1 H4 c04⟩
end
end LM
set_option Elab.async false
set_option linter.all false
set_option maxRecDepth 100000
set_option maxHeartbeats 4000000
namespace LM
open PySem PySem.Spec PyProof.Rows L2
section
variable {P : Program} {w : World} {K : PySem.W.Frag} {mg : Str → Option Value} {base : Heap}
/-! ### the maker's looks -/
theorem sc_pis : FnScope ["kind", "thing"] ["kind", "thing"] (defScope (top 37)) := ⟨rfl, rfl, rfl, by decide +kernel, rfl, by decide +kernel, by decide +kernel⟩
theorem ok_pis (D : Df K mg "is_of" (top 37)) (O_is_whole : OkF P w K mg base CX0 1 "is_whole" ["thing"] (spData K (KdOf .num))) : OkF P w K mg base CX0 2 "is_of" ["kind", "thing"] (spIsOf K) := by
  refine okF0 D sc_pis (fun _ _ _ _ _ _ us hl => match us, hl with | [_, _], _ => rfl) (fun vs H Q E h => ?_) (fun cdv A outer s H vs Q E hr h => ?_)
  · obtain ⟨t, v, d, rfl, _⟩ := h
    rfl
  · obtain ⟨t, v, d, rfl, rd, q⟩ := h
    refine ⟨_, (pss_cons (ps_if (pt_cmpR op_eq (pv 0) pe_str (nomark _)) (pss_one (ps_ret (pe_callF O_is_whole (hr.mono (by omega)) rfl pass0 (pa_cons (pv 1) pa_nil)))) pss_nil)
  (pss_one (ps_ret (pe_or (pe_cmpR (r := rIsA K) op_isA (pv 1) pe_bl (nomark _)) (pe_one (pe_cmpR (r := rIsA K) op_isA (pv 1) pe_bl (nomark _))))))), ?_⟩
    refine ⟨_, rfl, rfl, _, rfl, ?_⟩
    refine iteD (fun e => ?_) (fun e => ?_)
    · have et := Kd.eq_num e
      subst et
      exact ⟨_, rfl, v, d, rfl, rd, q⟩
    · have et : t = .truth := by cases t with
        | truth => rfl
        | num => exact (e rfl).elim
      subst et
      refine ⟨_, rfl, true, d, rfl, rd, ?_⟩
      refine ⟨_, rfl, ?_⟩
      refine iteB (fun e1 => ?_) (fun e1 => ?_)
      · have : true = KdOf .truth d := by cases d <;> first | rfl | cases e1
        rw [this]
        exact q
      · refine ⟨_, rfl, false, d, rfl, rd, ?_⟩
        have : d.isB false = KdOf .truth d := by
          cases d with
          | bl a => cases a with
            | true => cases e1
            | false => rfl
          | non => rfl
          | int i => rfl
          | str i => rfl
          | tup i => rfl
        rw [this]
        exact q
def areOf : List Kd → List Dt → Bool
  | [], [] => true
  | k :: ks, d :: ds => KdOf k d && areOf ks ds
  | _, _ => false
theorem areOf_iff : ∀ {ks : List Kd} {ds : List Dt}, areOf ks ds = true ↔ AreOf ks ds
  | [], [] => ⟨fun _ => .nil, fun _ => rfl⟩
  | [], _ :: _ => ⟨fun h => (by cases h), fun h => by cases h⟩
  | _ :: _, [] => ⟨fun h => (by cases h), fun h => by cases h⟩
  | k :: ks, d :: ds => by
    have ih := areOf_iff (ks := ks) (ds := ds)
    have e : areOf (k :: ks) (d :: ds) = (KdOf k d && areOf ks ds) := rfl
    rw [e, Bool.and_eq_true, ih]
    exact ⟨fun h => .cons h.1 h.2, fun h => by cases h with | cons a b => exact ⟨a, b⟩⟩
theorem areOf_snoc {k : Kd} {d : Dt} : ∀ {ks : List Kd} {ds : List Dt}, ks.length = ds.length → areOf (ks ++ [k]) (ds ++ [d]) = (areOf ks ds && KdOf k d)
  | [], [], _ => by simp [areOf]
  | a :: ks, b :: ds, h => by
    have ih := areOf_snoc (k := k) (d := d) (ks := ks) (ds := ds) (by simpa using h)
    show (KdOf a b && areOf (ks ++ [k]) (ds ++ [d])) = ((KdOf a b && areOf ks ds) && KdOf k d)
    rw [ih, Bool.and_assoc]
/-- whether inputs are a head's -/
def inOk (ks : List Kd) : Dt → Bool
  | .tup ds => areOf ks ds
  | _ => false
def spAreOf (K : PySem.W.Frag) : Sp := fun vs H Q _ => ∃ (kv v : V) (ks : List Kd) (d : Dt), vs = [kv, v] ∧ DR K H kv (ksD ks) ∧ DR K H v d ∧ ks.length ≤ 1000 ∧ ∀ H', Ch [] H H' → Q (.bl (inOk ks d)) H'
theorem sc_are : FnScope ["kinds", "things", "kind", "thing"] ["kinds", "things"] (defScope (top 38)) := ⟨rfl, rfl, rfl, by decide +kernel, rfl, by decide +kernel, by decide +kernel⟩
theorem ok_are (D : Df K mg "are_of" (top 38)) (T : Bn mg) (O_is_of : OkF P w K mg base CX0 2 "is_of" ["kind", "thing"] (spIsOf K)) : OkF P w K mg base CX0 3 "are_of" ["kinds", "things"] (spAreOf K) := by
  refine okF0 D sc_are (fun _ _ _ _ _ _ us hl => match us, hl with | [_, _], _ => rfl) (fun vs H Q E h => ?_) (fun cdv A outer s H vs Q E hr h => ?_)
  · obtain ⟨kv, v, ks, d, rfl, _⟩ := h
    rfl
  · obtain ⟨kv, v, ks, d, rfl, rk, rd, lk, q⟩ := h
    have nd := sc_are.nd
    refine ⟨_, (pss_cons (ps_if (PW.pt (pw_or (pt_not (pt_val (pe_callB (r := rIsi K) call_isi (by rfl) T.b_isinstance (by decide +kernel) (pa_cons (pv 1) (pa_cons (pe_bltn (v := .ty "tuple") (by rfl) T.b_tuple (by decide +kernel) rfl) pa_nil))) (by intro _; rfl))) (pw_or1 (pt_cmpR op_ne (pe_callB (r := rLenS K) call_len_seq (by rfl) T.b_len PySem.boot_len (pa_cons (pv 1) pa_nil)) (pe_callB (r := rLenS K) call_len_seq (by rfl) T.b_len PySem.boot_len (pa_cons (pv 0) pa_nil)) (nomark _))))) (pss_one (ps_ret pe_bl)) pss_nil)
  (pss_one (ps_ret (pe_callB (by exact cr_all rfl) (by rfl) T.b_all (by decide +kernel) (pa_cons (pe_lc (own := [("kind", 2), ("thing", 3)]) (tt := tYes) (g := (gTup K 2 (gCons (gName 2) (gCons (gName 3) gNil)))) rfl nd (RZ.pi_zipA (by rfl) T.b_zip (pa_cons (pv 0) (pa_cons (pv 1) pa_nil))) (blkOk_by (own := [("kind", 2), ("thing", 3)]) (N := ["kinds", "things", "kind", "thing"]) (sc := defScope (top 38)) (by decide +kernel)) (fun _ _ _ _ _ => (pg_tup rfl (pgs_cons (pg_name (i := 2) nd rfl (Or.inl rfl)) (pgs_cons (pg_name (i := 3) nd rfl (Or.inl rfl)) pgs_nil)))) (fun _ _ _ _ _ => pts_nil) (fun _ _ _ _ _ => (pe_callF O_is_of (hr.mono (by omega)) rfl pass0 (pa_cons (pv 2) (pa_cons (pv 3) pa_nil))))) pa_nil))))), ?_⟩
    refine ⟨_, rfl, ?_⟩
    dsimp only [tCons, tC, tNil]
    refine isi_tuple rd ?_
    refine ⟨_, rfl, ?_⟩
    refine iteB (fun e1 => ?_) (fun e1 => ?_)
    · have : inOk ks d = false := by cases d <;> first | rfl | cases e1
      rw [this] at q
      exact q H .refl
    obtain ⟨ds, rfl⟩ : ∃ ds, d = .tup ds := by
      cases d with
      | tup ds => exact ⟨ds, rfl⟩
      | non => cases e1
      | bl b => cases e1
      | int i => cases e1
      | str x => cases e1
    refine ⟨_, rfl, ?_⟩
    dsimp only [tNil]
    refine len_dt rd ?_
    refine ⟨_, rfl, ?_⟩
    dsimp only [tNil]
    refine len_dt rk ?_
    refine ⟨rfl, _, rfl, ?_⟩
    rw [kds_len]
    refine iteN (fun e2 => ?_) (fun e2 => ?_)
    · have : inOk ks (.tup ds) = false := by
        cases h : inOk ks (.tup ds) with
        | false => rfl
        | true => exact (e2 (by rw [pair_len (areOf_iff.mp h)])).elim
      rw [this] at q
      exact q H .refl
    have el : ds.length = ks.length := by
      have : ((ds.length : Nat) : Int) = ((ks.length : Nat) : Int) := by injection e2
      omega
    obtain ⟨ka, kxs, rfl, kS, kD⟩ := rk.tup_inv
    obtain ⟨da, dxs, rfl, dS, dD⟩ := rd.tup_inv
    have lk2 : kxs.length = ks.length := by rw [kD.len, kds_len]
    have ld2 : dxs.length = ds.length := dD.len
    have hkx := drs_kd kD
    refine ⟨_, rfl, _, rfl, ka, da, kxs, dxs, rfl, .inr ⟨kS, dS, fun L hL => ?_⟩⟩
    refine lc_it (walk_zipT (K := K) (a := ka) (b := da) (xs := kxs) (ys := dxs) (n := ks.length) (by omega)) (fun i H' => Ch [] H H' ∧ ∃ bs : List Bool, bs.length = i ∧ H' L = some (.lst (bs.map V.bl)) ∧ bs.all id = areOf (ks.take i) (ds.take i)) ?_ ?_ ?_ ?_
    · exact ⟨.new hL, [], rfl, upd_same, rfl⟩
    · rintro i H' _ ⟨c, _⟩
      exact ⟨(Ts.of c).sq kS, (Ts.of c).sq dS⟩
    · rintro i x Hx H' hi ⟨c, bs, lbs, hbs, hall⟩ ⟨TT, xk, xd, rfl, hT, rfl, ek, ed⟩
      have c2 : Ch [] H (upd Hx TT (.tup [xk, xd])) := c.trans (.new hT)
      have hkx' : kxs[i]? = some (V.str (ks[i]).s) := by rw [hkx, List.getElem?_map, List.getElem?_eq_getElem hi]; rfl
      have ek' : V.str (ks[i]).s = xk := Option.some.inj (hkx'.symm.trans ek)
      subst ek'
      obtain ⟨d, hd, rd'⟩ := dD.getv ed
      have hb2 := (Ch.new (S := []) (o := .tup [V.str (ks[i]).s, xd]) hT) L _ (by simp) hbs
      refine ⟨TT, _, rfl, SqT.of upd_same, rfl, _, _, rfl, _, _, rfl, rfl, rfl, ?_⟩
      refine ⟨_, rfl, _, rfl, ks[i], xd, d, rfl, rd'.ch c2, ?_⟩
      refine ⟨_, hb2, small1000 (by rw [List.length_map]; omega), c2.mut hL, bs ++ [KdOf ks[i] d], by rw [List.length_append, lbs]; rfl, ?_, ?_⟩
      · rw [upd_same, List.map_append]
        rfl
      · rw [take_one (List.getElem?_eq_getElem hi), take_one hd, areOf_snoc (by rw [List.length_take, List.length_take, el]), ← hall, List.all_append]
        simp
    · rintro H' ⟨c, bs, lbs, hbs, hall⟩
      refine ⟨L, bs, rfl, SqL.of hbs, ?_⟩
      rw [List.take_length, ← el, List.take_length] at hall
      rw [hall]
      exact q H' c
/-- what a wish is refused with -/
def wishRes : Sum (Str × Nat) Kd → Option (Str × Nat)
  | .inl x => some x
  | .inr .num => some ("kind", 0)
  | .inr .truth => none
/-- a wish of the head's kinds is looked at -/
def spLook (K : PySem.W.Frag) (CP : Addr) : Sp := fun vs H Q E => ∃ (hv v : V) (ks : List Kd) (t : Kd) (d : Dt) (r : Sum (Str × Nat) Kd), vs = [hv, v] ∧ DR K H hv (hdD ks t) ∧ DR K H v d ∧ WrongIs (ks ++ [t]) d r ∧ (kn d).length ≤ 1000 ∧ ks.length ≤ 900 ∧ (∀ w i, wishRes r = some (w, i) → Raised H E CP (errP w i)) ∧ (wishRes r = none → ∀ H', Ch [] H H' → Q .non H')
theorem sc_look : FnScope ["head", "program", "kinds", "kind"] ["head", "program"] (defScope (top 39)) := ⟨rfl, rfl, rfl, by decide +kernel, rfl, by decide +kernel, by decide +kernel⟩
theorem ok_look {CP : Addr} (D : Df K mg "look_wish" (top 39)) (O_kind_of : OkF P w K mg base (L2.CX P w) 4 "kind_of" ["kinds", "program"] (spKind K CP)) (O_NoProgram : OkX P w K mg base 1 "NoProgram" CP ["self", "word", "at"] (spErrP CP)) : OkF P w K mg base (L2.CX P w) 5 "look_wish" ["head", "program"] (spLook K CP) := by
  refine okFX D sc_look (fun _ _ _ _ _ _ us hl => match us, hl with | [_, _], _ => rfl) (fun vs H Q E h => ?_) (fun cdv A outer s H vs Q E hr h => ?_)
  · obtain ⟨hv, v, ks, t, d, r, rfl, _⟩ := h
    rfl
  · obtain ⟨hv, v, ks, t, d, r, rfl, rh, rp, wr, sz, lk, qx, q⟩ := h
    have nd := sc_look.nd
    obtain ⟨ha, hxs, rfl, hS, hD⟩ := rh.tup_inv
    cases hD with
    | cons h1 hD =>
    cases hD with
    | cons h2 hD =>
    cases hD
    rename_i kv tv
    have ht := h2.str_inv
    subst ht
    refine ⟨_, (pss_cons (ps_asg (pv 0) (pg_tup rfl (pgs_cons (pg_name (i := 2) nd rfl (Or.inl rfl)) (pgs_cons (pg_name (i := 3) nd rfl (Or.inl rfl)) pgs_nil))))
  (pss_one (ps_if (pt_cmpR op_ne (pe_callF O_kind_of (hr.mono (by omega)) rfl (L2.passes_call (takes_of rfl rfl rfl rfl) fun _ _ _ _ h => h) (pa_cons (pe_op (r := rCatA K) op_catA (pv 2) (pe_tup (pa_cons (pv 3) pa_nil))) (pa_cons (pv 1) pa_nil))) pe_str (nomark _)) (pss_one (ps_raise rfl (takes_of rfl rfl rfl rfl) (pmk_okX O_NoProgram (hr.mono (by omega)) rfl (pa_cons pe_str (pa_cons pe_int pa_nil))))) pss_nil))), ?_⟩
    refine ⟨_, rfl, ha, _, rfl, hS, rfl, _, _, rfl, _, _, rfl, rfl, ?_⟩
    refine ⟨_, rfl, _, rfl, (by show 1 ≤ sizeLine; decide), fun p1 hp1 => ?_⟩
    have c1 : Ch [] H (upd H p1 (.tup [.str t.s])) := .new hp1
    refine cat_dt (ds := ks.map fun (k : Kd) => Dt.str k.s) (es := [Dt.str t.s]) (h1.ch c1) (.new (.cons (.str _) .nil) hp1) (by simp; omega) fun x H2 c2 r2 => ?_
    rw [ksD_snoc] at r2
    have c12 := c1.trans c2
    refine ⟨_, rfl, x, v, ks ++ [t], d, r, rfl, r2, rp.ch c12, wr, sz, (by rw [List.length_append, List.length_singleton]; omega), fun w i hw => ?_, fun u hu H3 c3 => ?_⟩
    · subst hw
      exact (qx w i rfl).ch c12
    · subst hu
      refine ⟨rfl, _, rfl, ?_⟩
      cases u with
      | num =>
        refine iteN (fun _ => ?_) (fun e => absurd e (by decide +kernel))
        exact raise2 ((qx _ _ rfl).ch (c12.trans c3))
      | truth =>
        refine iteN (fun e => absurd rfl e) (fun _ => ?_)
        exact q rfl H3 (c12.trans c3)
end
end LM
set_option Elab.async false
set_option linter.all false
set_option maxRecDepth 100000
set_option maxHeartbeats 4000000
namespace LM
open PySem PySem.Spec PyProof.Rows L2
/-! ### the maker's record -/
/-- what a maker is made of: the head, the stock, the most -/
structure Hd where
  h : V
  st : V
  far : Int
instance : CoeOut Hd V := ⟨Hd.h⟩
def mF (hv : Hd) (_sv : V) (TH : Addr) (came : Int) (WR : Addr) (b : Bool) : List (Str × V) := [("head", hv.h), ("stock", hv.st), ("most", .int hv.far), ("things", .ref TH), ("came", .int came), ("written", .ref WR), ("busy", .bl b)]
section
variable {hv : Hd} {sv : V} {TH WR : Addr} {came c2 : Int} {b b2 : Bool}
theorem lk_here {k : Str} {v : V} {r : List (Str × V)} : List.lookup k ((k, v) :: r) = some v := by
  have e : (k == k) = true := beq_self_eq_true k
  simp only [List.lookup, e]
theorem lk_past {k g : Str} {v : V} {r : List (Str × V)} (h : (k == g) = false) : List.lookup k ((g, v) :: r) = List.lookup k r := by
  simp only [List.lookup, h]
theorem put_here {f : Str} {v x : V} {r : List (Str × V)} : putF f v ((f, x) :: r) = (f, v) :: r := if_pos rfl
theorem put_past {f g : Str} {v x : V} {r : List (Str × V)} (h : ¬ g = f) : putF f v ((g, x) :: r) = (g, x) :: putF f v r := if_neg h
theorem mF_head : (mF hv sv TH came WR b).lookup ("head" : Str) = some hv.h := lk_here
theorem mF_stock : (mF hv sv TH came WR b).lookup ("stock" : Str) = some hv.st := (lk_past (by decide +kernel)).trans lk_here
theorem mF_most : (mF hv sv TH came WR b).lookup ("most" : Str) = some (.int hv.far) := (lk_past (by decide +kernel)).trans ((lk_past (by decide +kernel)).trans lk_here)
theorem mF_things : (mF hv sv TH came WR b).lookup ("things" : Str) = some (.ref TH) := (lk_past (by decide +kernel)).trans ((lk_past (by decide +kernel)).trans ((lk_past (by decide +kernel)).trans lk_here))
theorem mF_came : (mF hv sv TH came WR b).lookup ("came" : Str) = some (.int came) := (lk_past (by decide +kernel)).trans ((lk_past (by decide +kernel)).trans ((lk_past (by decide +kernel)).trans ((lk_past (by decide +kernel)).trans lk_here)))
theorem mF_written : (mF hv sv TH came WR b).lookup ("written" : Str) = some (.ref WR) := (lk_past (by decide +kernel)).trans ((lk_past (by decide +kernel)).trans ((lk_past (by decide +kernel)).trans ((lk_past (by decide +kernel)).trans ((lk_past (by decide +kernel)).trans lk_here))))
theorem mF_busy : (mF hv sv TH came WR b).lookup ("busy" : Str) = some (.bl b) := (lk_past (by decide +kernel)).trans ((lk_past (by decide +kernel)).trans ((lk_past (by decide +kernel)).trans ((lk_past (by decide +kernel)).trans ((lk_past (by decide +kernel)).trans ((lk_past (by decide +kernel)).trans lk_here)))))
theorem mF_no {m : Str} (h1 : (m == "head") = false) (h2 : (m == "stock") = false) (h3 : (m == "most") = false) (h4 : (m == "things") = false) (h5 : (m == "came") = false) (h6 : (m == "written") = false) (h7 : (m == "busy") = false) : (mF hv sv TH came WR b).lookup m = none :=
  (lk_past h1).trans ((lk_past h2).trans ((lk_past h3).trans ((lk_past h4).trans ((lk_past h5).trans ((lk_past h6).trans ((lk_past h7).trans rfl))))))
theorem mF_len : (mF hv sv TH came WR b).length < 1000 := by show 7 < 1000; decide
theorem put_busy : putF ("busy" : Str) (.bl b2) (mF hv sv TH came WR b) = mF hv sv TH came WR b2 :=
  (put_past (by decide +kernel)).trans (congrArg _ ((put_past (by decide +kernel)).trans (congrArg _ ((put_past (by decide +kernel)).trans (congrArg _ ((put_past (by decide +kernel)).trans (congrArg _ ((put_past (by decide +kernel)).trans (congrArg _ ((put_past (by decide +kernel)).trans (congrArg _ put_here)))))))))))
theorem put_came : putF ("came" : Str) (.int c2) (mF hv sv TH came WR b) = mF hv sv TH c2 WR b :=
  (put_past (by decide +kernel)).trans (congrArg _ ((put_past (by decide +kernel)).trans (congrArg _ ((put_past (by decide +kernel)).trans (congrArg _ ((put_past (by decide +kernel)).trans (congrArg _ put_here)))))))
theorem mF_new : putF "busy" (.bl b) (putF "written" (.ref WR) (putF "came" (.int came) (putF "things" (.ref TH) (putF "most" (.int hv.far) (putF "stock" hv.st (putF "head" hv.h [])))))) = mF hv sv TH came WR b := by
  have e1 : putF "head" hv.h [] = ([("head", hv.h)] : List (Str × V)) := rfl
  have e2 : putF "stock" hv.st ([("head", hv.h)] : List (Str × V)) = ([("head", hv.h), ("stock", hv.st)] : List (Str × V)) := (put_past (by decide +kernel)).trans rfl
  have e3 : putF "most" (.int hv.far) ([("head", hv.h), ("stock", hv.st)] : List (Str × V)) = ([("head", hv.h), ("stock", hv.st), ("most", .int hv.far)] : List (Str × V)) := (put_past (by decide +kernel)).trans (congrArg _ ((put_past (by decide +kernel)).trans rfl))
  have e4 : putF "things" (.ref TH) ([("head", hv.h), ("stock", hv.st), ("most", .int hv.far)] : List (Str × V)) = ([("head", hv.h), ("stock", hv.st), ("most", .int hv.far), ("things", .ref TH)] : List (Str × V)) := (put_past (by decide +kernel)).trans (congrArg _ ((put_past (by decide +kernel)).trans (congrArg _ ((put_past (by decide +kernel)).trans rfl))))
  have e5 : putF "came" (.int came) ([("head", hv.h), ("stock", hv.st), ("most", .int hv.far), ("things", .ref TH)] : List (Str × V)) = ([("head", hv.h), ("stock", hv.st), ("most", .int hv.far), ("things", .ref TH), ("came", .int came)] : List (Str × V)) :=
    (put_past (by decide +kernel)).trans (congrArg _ ((put_past (by decide +kernel)).trans (congrArg _ ((put_past (by decide +kernel)).trans (congrArg _ ((put_past (by decide +kernel)).trans rfl))))))
  have e6 : putF "written" (.ref WR) ([("head", hv.h), ("stock", hv.st), ("most", .int hv.far), ("things", .ref TH), ("came", .int came)] : List (Str × V)) = ([("head", hv.h), ("stock", hv.st), ("most", .int hv.far), ("things", .ref TH), ("came", .int came), ("written", .ref WR)] : List (Str × V)) :=
    (put_past (by decide +kernel)).trans (congrArg _ ((put_past (by decide +kernel)).trans (congrArg _ ((put_past (by decide +kernel)).trans (congrArg _ ((put_past (by decide +kernel)).trans (congrArg _ ((put_past (by decide +kernel)).trans rfl))))))))
  rw [e1, e2, e3, e4, e5, e6]
  exact (put_past (by decide +kernel)).trans (congrArg _ ((put_past (by decide +kernel)).trans (congrArg _ ((put_past (by decide +kernel)).trans (congrArg _ ((put_past (by decide +kernel)).trans (congrArg _ ((put_past (by decide +kernel)).trans (congrArg _ ((put_past (by decide +kernel)).trans rfl))))))))))
end
/-! ### what is kept -/
/-- numbers and things -/
inductive KvR (K : PySem.W.Frag) (H : Hp) : List (Key × V) → List (Int × Dt) → Prop
  | nil : KvR K H [] []
  | cons {i : Int} {v : V} {d : Dt} {kvs : List (Key × V)} {es : List (Int × Dt)} : DR K H v d → KvR K H kvs es → KvR K H ((.inl i, v) :: kvs) ((i, d) :: es)
section
variable {K : PySem.W.Frag} {H H' : Hp} {kvs : List (Key × V)} {es : List (Int × Dt)}
theorem KvR.ts (t : Ts H H') (h : KvR K H kvs es) : KvR K H' kvs es := by
  induction h with
  | nil => exact .nil
  | cons r _ ih => exact .cons (r.ts t) ih
theorem KvR.len (h : KvR K H kvs es) : kvs.length = es.length := by
  induction h with
  | nil => rfl
  | cons _ _ ih => rw [List.length_cons, List.length_cons, ih]
theorem KvR.snoc {i : Int} {v : V} {d : Dt} (h : KvR K H kvs es) (r : DR K H v d) : KvR K H (kvs ++ [(.inl i, v)]) (es ++ [(i, d)]) := by
  induction h with
  | nil => exact .cons r .nil
  | cons a _ ih => exact .cons a ih
theorem KvR.get (h : KvR K H kvs es) : ∀ {j : Nat} {k : Key} {v : V}, kvs[j]? = some (k, v) → ∃ i d, k = .inl i ∧ es[j]? = some (i, d) ∧ DR K H v d := by
  induction h with
  | nil => intro j k v e; simp at e
  | @cons i v d kvs es r _ ih =>
    intro j k v' e
    cases j with
    | zero =>
      simp at e
      obtain ⟨rfl, rfl⟩ := e
      exact ⟨i, d, rfl, rfl, r⟩
    | succ j => exact ih (by simpa using e)
theorem KvR.none {i : Int} (h : KvR K H kvs es) (n : ∀ e ∈ es, e.1 ≠ i) : (kvs.any fun kv => decide (kv.1 = (.inl i : Key))) = false := by
  induction h with
  | nil => rfl
  | @cons j u d kvs es r _ ih =>
    have n1 : ¬ (Sum.inl j : Key) = Sum.inl i := fun z => n _ List.mem_cons_self (by injection z)
    rw [List.any_cons, ih fun e he => n e (List.mem_cons_of_mem _ he), decide_eq_false n1]
    rfl
/-- a number that is not there yet is put at the end -/
theorem KvR.put {i : Int} {v : V} (h : KvR K H kvs es) (n : ∀ e ∈ es, e.1 ≠ i) : putK kvs (.inl i) v = kvs ++ [(.inl i, v)] := by
  unfold putK
  rw [h.none n, if_neg Bool.false_ne_true]
end
/-! ### the maker -/
structure MkA (K : PySem.W.Frag) (H : Hp) (C M TH WR : Addr) (hv : Hd) (es : List (Int × Dt)) (came : Int) (lg : List Dt) (b : Bool) : Prop where
  ex : ∃ (dx : Addr) (sv : V) (kvs : List (Key × V)) (lgs : List V), H M = some (.ins C dx (mF hv sv TH came WR b)) ∧ H TH = some (.dK kvs) ∧ H WR = some (.lst lgs) ∧ KvR K H kvs es ∧ DRs K H lgs lg
section
variable {K : PySem.W.Frag} {H H' : Hp} {C M TH WR : Addr} {hv : Hd} {es : List (Int × Dt)} {came : Int} {lg : List Dt} {b : Bool}
theorem MkA.ch {S : List Addr} (m : MkA K H C M TH WR hv es came lg b) (c : Ch S H H') (t : Ts H H') (n1 : M ∉ S) (n2 : TH ∉ S) (n3 : WR ∉ S) : MkA K H' C M TH WR hv es came lg b := by
  obtain ⟨dx, sv, kvs, lgs, e1, e2, e3, r1, r2⟩ := m.ex
  exact ⟨dx, sv, kvs, lgs, c M _ n1 e1, c TH _ n2 e2, c WR _ n3 e3, r1.ts t, r2.ts t⟩
theorem MkA.ch0 (m : MkA K H C M TH WR hv es came lg b) (c : Ch [] H H') : MkA K H' C M TH WR hv es came lg b := m.ch c (.of c) (by simp) (by simp) (by simp)
theorem MkA.ne (m : MkA K H C M TH WR hv es came lg b) : M ≠ TH ∧ M ≠ WR ∧ TH ≠ WR := by
  obtain ⟨dx, sv, kvs, lgs, e1, e2, e3, _⟩ := m.ex
  exact ⟨ne_of e1 e2 (by intro z; cases z), ne_of e1 e3 (by intro z; cases z), ne_of e2 e3 (by intro z; cases z)⟩
theorem MkA.noTup (m : MkA K H C M TH WR hv es came lg b) : ∀ p ∈ [M, TH, WR], NoTup (H p) := by
  obtain ⟨dx, sv, kvs, lgs, e1, e2, e3, _⟩ := m.ex
  intro p hp
  simp only [List.mem_cons, List.not_mem_nil, or_false] at hp
  rcases hp with rfl | rfl | rfl
  · rw [e1]; trivial
  · rw [e2]; trivial
  · rw [e3]; trivial
end
/-- what the top has written of the class -/
structure Mt (K : PySem.W.Frag) (C : Addr) : Prop where
  cl : Cls K C
  n_head : NoAttr K C "head"
  n_stock : NoAttr K C "stock"
  n_most : NoAttr K C "most"
  n_things : NoAttr K C "things"
  n_came : NoAttr K C "came"
  n_written : NoAttr K C "written"
  n_busy : NoAttr K C "busy"
/-- a method as it stands -/
structure DfM (K : PySem.W.Frag) (C : Addr) (m qual : Str) (st : Stmt) : Prop where
  d : ∃ f fd, Meth K C m f ∧ FunD K m qual (defArgs st) (defBody st) (defScope st) [] [] f fd
def BindM (m qual : Str) (st : Stmt) (ps : List Str) : Prop := ∀ (kV doc pm : Value) (an : Option Addr) (cdv ct : Value) (us : List Value), us.length = ps.length →
  bindArgs (PySem.W.fnOf m qual (defArgs st) (defBody st) (defScope st) .none kV doc pm an cdv ct) ⟨us, []⟩ = pure (ps.zip us)
section
variable {P : Program} {w : World} {K : PySem.W.Frag} {mg : Str → Option Value} {base : Heap}
theorem okM0 {k : Nat} {C : Addr} {m qual : Str} {st : Stmt} {N ps : List Str} {sp : Sp} (c : Cls K C) (D : DfM K C m qual st) (S : FnScope N ps (defScope st)) (hb : BindM m qual st ps) (len : ∀ vs H Q E, sp vs H Q E → vs.length = ps.length)
    (body : ∀ (f : Addr) (cdv : Value) (A : Around) (outer : List Env) (s : Shared) (H : Hp) (vs : List V) (Q : VK) (E : XK), Room k (A.deeper (envOfC qual (defScope st) s.heap.objs.size f cdv)) → sp vs H Q E →
      ∃ t, PSs (cxOf CX0 P w K mg base N qual (defScope st) f cdv A outer s H E).nox (defBody st) t ∧ t { nx := fun _ H' => Q .non H', rt := Q } (start N vs) H) : OkM P w K mg base CX0 (k + 1) C m ps sp := by
  obtain ⟨f, fd, M, F⟩ := D
  refine ⟨c, f, fd, M, F.bindsN hb, F.ok S len fun cdv A outer s H vs Q E hr hs => ?_⟩
  obtain ⟨t, h, q⟩ := body f cdv A outer s H vs Q E hr hs
  exact ⟨t, h.nox, q⟩
theorem okMX {k : Nat} {C : Addr} {m qual : Str} {st : Stmt} {N ps : List Str} {sp : Sp} (c : Cls K C) (D : DfM K C m qual st) (S : FnScope N ps (defScope st)) (hb : BindM m qual st ps) (len : ∀ vs H Q E, sp vs H Q E → vs.length = ps.length)
    (body : ∀ (f : Addr) (cdv : Value) (A : Around) (outer : List Env) (s : Shared) (H : Hp) (vs : List V) (Q : VK) (E : XK), Room k (A.deeper (envOfC qual (defScope st) s.heap.objs.size f cdv)) → sp vs H Q E →
      ∃ t, PSs (cxOf (L2.CX P w) P w K mg base N qual (defScope st) f cdv A outer s H E) (defBody st) t ∧ t { nx := fun _ H' => Q .non H', rt := Q } (start N vs) H) : OkM P w K mg base (L2.CX P w) (k + 1) C m ps sp := by
  obtain ⟨f, fd, M, F⟩ := D
  exact ⟨c, f, fd, M, F.bindsN hb, F.ok S len (body f)⟩
/-! ### begin, keep, and the looks from outside -/
def spBegin (K : PySem.W.Frag) (C : Addr) : Sp := fun vs H Q _ => ∃ (M TH WR : Addr) (hv : Hd) (es : List (Int × Dt)) (came : Int) (lg : List Dt) (b : Bool) (wd : Str), vs = [.ref M, .str wd] ∧ MkA K H C M TH WR hv es came lg b ∧ lg.length ≤ 1000 ∧
  ∀ H', Ch [M, TH, WR] H H' → Ts H H' → MkA K H' C M TH WR hv es came (lg ++ [.tup [.str "in", .str wd]]) true → Q .non H'
/-- a note is written -/
theorem MkA.note {H : Hp} {C M TH WR dx : Addr} {hv : Hd} {sv : V} {es : List (Int × Dt)} {came : Int} {lg : List Dt} {b : Bool} {kvs : List (Key × V)} {lgs : List V} {x y : Str} {p : Addr} (e1 : H M = some (.ins C dx (mF hv sv TH came WR b))) (e2 : H TH = some (.dK kvs)) (e3 : H WR = some (.lst lgs)) (r1 : KvR K H kvs es) (r2 : DRs K H lgs lg) (hp : H p = none) :
    Ch [M, TH, WR] H (upd (upd H p (.tup [.str x, .str y])) WR (.lst (lgs ++ [.ref p]))) ∧ Ts H (upd (upd H p (.tup [.str x, .str y])) WR (.lst (lgs ++ [.ref p]))) ∧ MkA K (upd (upd H p (.tup [.str x, .str y])) WR (.lst (lgs ++ [.ref p]))) C M TH WR hv es came (lg ++ [.tup [.str x, .str y]]) b := by
  have c1 : Ch [] H (upd H p (.tup [.str x, .str y])) := .new hp
  have t1 := Ts.of c1
  have hw := c1 WR _ (by simp) e3
  have t2 : Ts (upd H p (.tup [.str x, .str y])) (upd (upd H p (.tup [.str x, .str y])) WR (.lst (lgs ++ [.ref p]))) := .upd (by rw [hw]; trivial)
  have n1 : M ≠ WR := ne_of e1 e3 (by intro z; cases z)
  have n2 : TH ≠ WR := ne_of e2 e3 (by intro z; cases z)
  refine ⟨(Ch.of0 c1).trans (.put (by simp)), t1.trans t2, dx, sv, kvs, _, ?_, ?_, upd_same, r1.ts (t1.trans t2), ?_⟩
  · rw [upd_ne n1]; exact c1 M _ (by simp) e1
  · rw [upd_ne n2]; exact c1 TH _ (by simp) e2
  · exact (r2.ts (t1.trans t2)).snoc (DR.ts t2 (.new (.cons (.str _) (.cons (.str _) .nil)) hp))
theorem sc_begin : FnScope ["self", "word"] ["self", "word"] (defScope (inClass (top 40) 3)) := ⟨rfl, rfl, rfl, by decide +kernel, rfl, by decide +kernel, by decide +kernel⟩
/-- self.busy = .. -/
theorem MkA.busy {H : Hp} {C M TH WR dx : Addr} {hv : Hd} {sv : V} {es : List (Int × Dt)} {came : Int} {lg : List Dt} {b b2 : Bool} {kvs : List (Key × V)} {lgs : List V} (e1 : H M = some (.ins C dx (mF hv sv TH came WR b))) (e2 : H TH = some (.dK kvs)) (e3 : H WR = some (.lst lgs)) (r1 : KvR K H kvs es) (r2 : DRs K H lgs lg) :
    Ch [M, TH, WR] H (upd H M (.ins C dx (mF hv sv TH came WR b2))) ∧ Ts H (upd H M (.ins C dx (mF hv sv TH came WR b2))) ∧ upd H M (.ins C dx (mF hv sv TH came WR b2)) M = some (.ins C dx (mF hv sv TH came WR b2)) ∧ upd H M (.ins C dx (mF hv sv TH came WR b2)) TH = some (.dK kvs) ∧ upd H M (.ins C dx (mF hv sv TH came WR b2)) WR = some (.lst lgs) ∧
      KvR K (upd H M (.ins C dx (mF hv sv TH came WR b2))) kvs es ∧ DRs K (upd H M (.ins C dx (mF hv sv TH came WR b2))) lgs lg := by
  have t1 : Ts H (upd H M (.ins C dx (mF hv sv TH came WR b2))) := .upd (by rw [e1]; trivial)
  refine ⟨.put (by simp), t1, upd_same, ?_, ?_, r1.ts t1, r2.ts t1⟩
  · rw [upd_ne (ne_of e2 e1 (by intro z; cases z))]; exact e2
  · rw [upd_ne (ne_of e3 e1 (by intro z; cases z))]; exact e3
theorem ok_begin {C : Addr} (T : Mt K C) (D : DfM K C "begin" "Maker.begin" (inClass (top 40) 3)) : OkM P w K mg base CX0 1 C "begin" ["self", "word"] (spBegin K C) := by
  refine okM0 T.cl D sc_begin (fun _ _ _ _ _ _ us hl => match us, hl with | [_, _], _ => rfl) (fun vs H Q E h => ?_) (fun f cdv A outer s H vs Q E hr h => ?_)
  · obtain ⟨M, TH, WR, hv, es, came, lg, b, wd, rfl, _⟩ := h
    rfl
  · obtain ⟨M, TH, WR, hv, es, came, lg, b, wd, rfl, m, ll, q⟩ := h
    obtain ⟨dx, sv, kvs, lgs, e1, e2, e3, r1, r2⟩ := m.ex
    refine ⟨_, (pss_cons (ps_fld (pv 0) pe_bl rfl)
  (pss_one (ps_expr (pe_bm PySem.F.plainAttrs_list PySem.F.slot_list_append PySem.F.type_list_append mt_append (pe_fld (pv 0) rfl) (pa_cons (pe_tup (pa_cons pe_str (pa_cons (pv 1) pa_nil))) pa_nil))))), ?_⟩
    refine ⟨_, rfl, M, C, dx, _, rfl, e1, T.cl, T.n_busy, mF_len, ?_⟩
    rw [put_busy]
    obtain ⟨c1, t1, e1', e2', e3', r1', r2'⟩ := MkA.busy (b2 := true) e1 e2 e3 r1 r2
    generalize upd H M (.ins C dx (mF hv sv TH came WR true)) = H1 at c1 t1 e1' e2' e3' r1' r2' ⊢
    refine ⟨_, rfl, M, C, dx, _, _, rfl, e1', T.cl, T.n_written, mF_written, .inl ⟨rfl, _, SqL.of e3'⟩, ?_⟩
    refine ⟨_, rfl, (by show 2 ≤ sizeLine; decide), fun p hp => ?_⟩
    obtain ⟨c2, t2, m2⟩ := MkA.note (x := "in") (y := wd) e1' e2' e3' r1' r2' hp
    refine ⟨WR, lgs, .ref p, rfl, rfl, (Ch.new (S := []) hp) WR _ (by simp) e3', small1000 (by rw [r2'.len]; omega), ?_⟩
    exact q _ (c1.trans c2) (t1.trans t2) m2
def spKeep (K : PySem.W.Frag) (C : Addr) : Sp := fun vs H Q _ => ∃ (M TH WR : Addr) (hv : Hd) (v : V) (es : List (Int × Dt)) (came : Int) (lg : List Dt) (b : Bool) (d : Dt), vs = [.ref M, v] ∧ MkA K H C M TH WR hv es came lg b ∧ DR K H v d ∧ es.length ≤ 1000 ∧ (∀ e ∈ es, e.1 ≠ came) ∧
  ∀ H', Ch [M, TH, WR] H H' → Ts H H' → MkA K H' C M TH WR hv (es ++ [(came, d)]) (came + 1) lg b → Q (.int came) H'
theorem sc_keep : FnScope ["self", "thing"] ["self", "thing"] (defScope (inClass (top 40) 4)) := ⟨rfl, rfl, rfl, by decide +kernel, rfl, by decide +kernel, by decide +kernel⟩
theorem ok_keep {C : Addr} (T : Mt K C) (D : DfM K C "keep" "Maker.keep" (inClass (top 40) 4)) : OkM P w K mg base CX0 1 C "keep" ["self", "thing"] (spKeep K C) := by
  refine okM0 T.cl D sc_keep (fun _ _ _ _ _ _ us hl => match us, hl with | [_, _], _ => rfl) (fun vs H Q E h => ?_) (fun f cdv A outer s H vs Q E hr h => ?_)
  · obtain ⟨M, TH, WR, hv, v, es, came, lg, b, d, rfl, _⟩ := h
    rfl
  · obtain ⟨M, TH, WR, hv, v, es, came, lg, b, d, rfl, m, rd, le, fresh, q⟩ := h
    have hu := hu_of hr
    obtain ⟨dx, sv, kvs, lgs, e1, e2, e3, r1, r2⟩ := m.ex
    refine ⟨_, (pss_cons (ps_dput hu (pe_fld (pv 0) rfl) (pe_fld (pv 0) rfl) (pv 1) rfl)
  (pss_cons (ps_fldaug (pv 0) pe_int in_add)
  (pss_one (ps_ret (pe_op op_sub (pe_fld (pv 0) rfl) pe_int))))), ?_⟩
    refine ⟨_, rfl, _, rfl, M, C, dx, _, _, rfl, e1, T.cl, T.n_things, mF_things, _, rfl, M, C, dx, _, _, rfl, e1, T.cl, T.n_came, mF_came, ?_⟩
    have put := r1.put (v := v) fresh
    refine ⟨TH, _, rfl, DPut.k (k := .inl came) e2 (small1000 (by rw [r1.len]; omega)), ?_⟩
    rw [put]
    have t1 : Ts H (upd H TH (.dK (kvs ++ [(.inl came, v)]))) := .upd (by rw [e2]; trivial)
    have c1 : Ch [M, TH, WR] H (upd H TH (.dK (kvs ++ [(.inl came, v)]))) := .put (by simp)
    have e1' : upd H TH (.dK (kvs ++ [(.inl came, v)])) M = some (.ins C dx (mF hv sv TH came WR b)) := by rw [upd_ne (ne_of e1 e2 (by intro z; cases z))]; exact e1
    have e3' : upd H TH (.dK (kvs ++ [(.inl came, v)])) WR = some (.lst lgs) := by rw [upd_ne (ne_of e3 e2 (by intro z; cases z))]; exact e3
    have e2' : upd H TH (.dK (kvs ++ [(.inl came, v)])) TH = some (.dK (kvs ++ [(.inl came, v)])) := upd_same
    generalize upd H TH (.dK (kvs ++ [(.inl came, v)])) = H1 at t1 c1 e1' e2' e3' ⊢
    refine ⟨_, rfl, M, C, dx, _, _, rfl, e1', T.cl, T.n_came, mF_came, _, _, rfl, rfl, _, _, e1', mF_len, ?_⟩
    rw [put_came]
    have t2 : Ts H1 (upd H1 M (.ins C dx (mF hv sv TH (came + 1) WR b))) := .upd (by rw [e1']; trivial)
    refine ⟨_, rfl, M, C, dx, _, _, rfl, upd_same, T.cl, T.n_came, mF_came, _, _, rfl, rfl, ?_⟩
    have ec : came + 1 - 1 = came := by omega
    show Q (.int (came + 1 - 1)) _
    rw [ec]
    refine q _ (c1.trans (.put (by simp))) (t1.trans t2) ⟨dx, sv, _, lgs, upd_same, ?_, ?_, ((r1.ts t1).ts t2).snoc ((rd.ts t1).ts t2), (r2.ts t1).ts t2⟩
    · rw [upd_ne (ne_of e2' e1' (by intro z; cases z))]; exact e2'
    · rw [upd_ne (ne_of e3' e1' (by intro z; cases z))]; exact e3'
def spNone (K : PySem.W.Frag) (C : Addr) (f : List (Int × Dt) → List Dt → Bool → Hp → VK → Prop) : Sp := fun vs H Q _ => ∃ (M TH WR : Addr) (hv : Hd) (es : List (Int × Dt)) (came : Int) (lg : List Dt) (b : Bool), vs = [.ref M] ∧ MkA K H C M TH WR hv es came lg b ∧ es.length ≤ 1000 ∧ lg.length ≤ 1000 ∧ f es lg b H Q
/-- a new dict of what is kept -/
def spKept (K : PySem.W.Frag) (C : Addr) : Sp := spNone K C fun es lg b H Q => ∀ (p : Addr) (kvs : List (Key × V)) (H' : Hp), H p = none → Ch [] H H' → H' p = some (.dK kvs) → KvR K H' kvs es → Q (.ref p) H'
def spLog (K : PySem.W.Frag) (C : Addr) : Sp := spNone K C fun es lg b H Q => NewL K H lg Q
def spBusy (K : PySem.W.Frag) (C : Addr) : Sp := spNone K C fun es lg b H Q => Q (.bl b) H
def spLen (K : PySem.W.Frag) (C : Addr) : Sp := spNone K C fun es lg b H Q => Q (.int (es.length : Nat)) H
theorem sc_kept : FnScope ["self"] ["self"] (defScope (inClass (top 40) 9)) := ⟨rfl, rfl, rfl, by decide +kernel, rfl, by decide +kernel, by decide +kernel⟩
theorem ok_kept {C : Addr} (T : Bn mg) (U : Mt K C) (D : DfM K C "kept" "Maker.kept" (inClass (top 40) 9)) : OkM P w K mg base CX0 1 C "kept" ["self"] (spKept K C) := by
  refine okM0 U.cl D sc_kept (fun _ _ _ _ _ _ us hl => match us, hl with | [_], _ => rfl) (fun vs H Q E h => ?_) (fun f cdv A outer s H vs Q E hr h => ?_)
  · obtain ⟨M, TH, WR, hv, es, came, lg, b, rfl, _⟩ := h
    rfl
  · obtain ⟨M, TH, WR, hv, es, came, lg, b, rfl, m, le, ll, q⟩ := h
    obtain ⟨dx, sv, kvs, lgs, e1, e2, e3, r1, r2⟩ := m.ex
    refine ⟨_, (pss_one (ps_ret (pe_callTy call_dictD (by rfl) T.b_dict (by decide +kernel) (pa_cons (pe_fld (pv 0) rfl) pa_nil)))), ?_⟩
    refine ⟨_, rfl, M, C, dx, _, _, rfl, e1, U.cl, U.n_things, mF_things, TH, kvs, rfl, .inl e2, fun p hp => ?_⟩
    exact q p kvs _ hp (.new hp) upd_same (r1.ts (.of (.new hp)))
theorem sc_log : FnScope ["self"] ["self"] (defScope (inClass (top 40) 13)) := ⟨rfl, rfl, rfl, by decide +kernel, rfl, by decide +kernel, by decide +kernel⟩
theorem ok_log {C : Addr} (T : Bn mg) (U : Mt K C) (D : DfM K C "log" "Maker.log" (inClass (top 40) 13)) : OkM P w K mg base CX0 1 C "log" ["self"] (spLog K C) := by
  refine okM0 U.cl D sc_log (fun _ _ _ _ _ _ us hl => match us, hl with | [_], _ => rfl) (fun vs H Q E h => ?_) (fun f cdv A outer s H vs Q E hr h => ?_)
  · obtain ⟨M, TH, WR, hv, es, came, lg, b, rfl, _⟩ := h
    rfl
  · obtain ⟨M, TH, WR, hv, es, came, lg, b, rfl, m, le, ll, q⟩ := h
    obtain ⟨dx, sv, kvs, lgs, e1, e2, e3, r1, r2⟩ := m.ex
    refine ⟨_, (pss_one (ps_ret (pe_callTy (r := rListS K) call_list_of (by rfl) T.b_list (by decide +kernel) (pa_cons (pe_fld (pv 0) rfl) pa_nil)))), ?_⟩
    refine ⟨_, rfl, M, C, dx, _, _, rfl, e1, U.cl, U.n_written, mF_written, WR, lgs, rfl, .inl (SqL.of e3), fun p hp => ?_⟩
    exact q p lgs _ hp (.new hp) upd_same (r2.ch (.new hp))
theorem sc_isbusy : FnScope ["self"] ["self"] (defScope (inClass (top 40) 14)) := ⟨rfl, rfl, rfl, by decide +kernel, rfl, by decide +kernel, by decide +kernel⟩
theorem ok_isbusy {C : Addr} (U : Mt K C) (D : DfM K C "is_busy" "Maker.is_busy" (inClass (top 40) 14)) : OkM P w K mg base CX0 1 C "is_busy" ["self"] (spBusy K C) := by
  refine okM0 U.cl D sc_isbusy (fun _ _ _ _ _ _ us hl => match us, hl with | [_], _ => rfl) (fun vs H Q E h => ?_) (fun f cdv A outer s H vs Q E hr h => ?_)
  · obtain ⟨M, TH, WR, hv, es, came, lg, b, rfl, _⟩ := h
    rfl
  · obtain ⟨M, TH, WR, hv, es, came, lg, b, rfl, m, le, ll, q⟩ := h
    obtain ⟨dx, sv, kvs, lgs, e1, e2, e3, r1, r2⟩ := m.ex
    refine ⟨_, (pss_one (ps_ret (pe_fld (pv 0) rfl))), ?_⟩
    exact ⟨_, rfl, M, C, dx, _, _, rfl, e1, U.cl, U.n_busy, mF_busy, q⟩
theorem sc_mlen : FnScope ["self"] ["self"] (defScope (inClass (top 40) 1)) := ⟨rfl, rfl, rfl, by decide +kernel, rfl, by decide +kernel, by decide +kernel⟩
theorem ok_mlen {C : Addr} (T : Bn mg) (U : Mt K C) (D : DfM K C "__len__" "Maker.__len__" (inClass (top 40) 1)) : OkM P w K mg base CX0 1 C "__len__" ["self"] (spLen K C) := by
  refine okM0 U.cl D sc_mlen (fun _ _ _ _ _ _ us hl => match us, hl with | [_], _ => rfl) (fun vs H Q E h => ?_) (fun f cdv A outer s H vs Q E hr h => ?_)
  · obtain ⟨M, TH, WR, hv, es, came, lg, b, rfl, _⟩ := h
    rfl
  · obtain ⟨M, TH, WR, hv, es, came, lg, b, rfl, m, le, ll, q⟩ := h
    obtain ⟨dx, sv, kvs, lgs, e1, e2, e3, r1, r2⟩ := m.ex
    refine ⟨_, (pss_one (ps_ret (pe_callB call_lenD (by rfl) T.b_len PySem.boot_len (pa_cons (pe_fld (pv 0) rfl) pa_nil)))), ?_⟩
    refine ⟨_, rfl, M, C, dx, _, _, rfl, e1, U.cl, U.n_things, mF_things, TH, kvs, rfl, e2, ?_⟩
    rw [r1.len]
    exact q
end
end LM
set_option Elab.async false
set_option linter.all false
set_option maxRecDepth 100000
set_option maxHeartbeats 4000000
namespace LM
open PySem PySem.Spec PyProof.Rows L2
/-! ### try: statements  finally: suite -/
def tBodyFin (tb : WX → TS) (tf tfs : TS) (Wout : WX) : TS := fun D σ H => tb (wFin tfs Wout) { nx := fun σ1 H1 => tf D σ1 H1, rt := fun _ _ => False } σ H
theorem ps_bodyFin {X : Cx} {bs : List Stmt} {f₀ : Stmt} {fs : List Stmt} {pos : Pos} {tb : WX → TS} {tf tfs : TS} {Wout : WX} (hs : X.stack = X.env :: X.outer) (hf : X.env.frame = some X.env.locals) (hex : X.ex = []) (tk : Takes X Wout)
    (hb : ∀ (W : WX) (pn : List (Addr × Obj)) (xe : Value → Shared → Prop), Takes (X.tr pn xe) W → PassesOwn (model X.prog X.w) X.A X.env xe → PSs (X.tr pn xe) bs (tb W))
    (hfin : PSs X.nox (f₀ :: fs) tf) (hsu : ∀ (a : Addr) (pn : List (Addr × Obj)), PSs (X.suite a pn) (f₀ :: fs) tfs) : PS X (.Try bs [] [] (f₀ :: fs) pos) (tBodyFin tb tf tfs Wout) := by
  refine ⟨fun pins s σ H D I h => ?_⟩
  have ok := I.ok
  refine wpAny_Try_finally ?_
  refine wpAny_mono ((hb (wFin tfs Wout) (X.pn ++ pins) _ (fun u s1 xx => fin_exc hs hf hex ok tk hsu xx) PassesOwn.looking).run [] s σ H _ (I.toTry _) h) (fun g s1 z => ?_) (fun x s1 hx => hx)
  cases g with
  | ret u =>
    obtain ⟨_, _, _, _, _, q⟩ := z
    exact False.elim q
  | brk =>
    obtain ⟨_, _, _, q⟩ := z
    exact False.elim q
  | cont =>
    obtain ⟨_, _, _, q⟩ := z
    exact False.elim q
  | next =>
    obtain ⟨σ1, H1, J1, q1⟩ := z
    refine wpAny_execs_nil ?_
    refine wpAny_mono (hfin.run pins s1 σ1 H1 D ((J1.ofTry ok).wish _) q1) (fun g s2 q => ?_) fun _ _ z => False.elim z
    have q2 : SP X pins D g s2 := q.unwish
    cases g <;> exact q2
end LM
set_option Elab.async false
set_option linter.all false
set_option maxRecDepth 100000
set_option maxHeartbeats 4000000
namespace LM
open PySem PySem.Spec PyProof.Rows L2
section
variable {P : Program} {w : World} {K : PySem.W.Frag} {mg : Str → Option Value} {base : Heap}
/-! ### a new maker -/
/-- how a class is called whose __init__ has defaults -/
structure OkI (P : Program) (w : World) (K : PySem.W.Frag) (mg : Str → Option Value) (base : Heap) (k : Nat) (x : Str) (C : Addr) (ps : List Str) (dvs : List V) (sp : Sp) : Prop where
  g : mg x = some (.ref C)
  f : ∃ f fd ds, Mk K C f ∧ Binds K fd ps ds ∧ Vals dvs ds ∧ FnOk P w K mg base CX0 k f fd ps sp
theorem OkI.mono {j k : Nat} {x : Str} {C : Addr} {ps : List Str} {dvs : List V} {sp : Sp} (O : OkI P w K mg base j x C ps dvs sp) (h : j ≤ k) : OkI P w K mg base k x C ps dvs sp := by
  obtain ⟨g, f, fd, ds, M, b, v, F⟩ := O
  exact ⟨g, f, fd, ds, M, b, v, F.mono h⟩
theorem pe_makeI {X : Cx} {k : Nat} {x : Str} {C : Addr} {ps : List Str} {dvs : List V} {sp : Sp} {p pos : Pos} {e : Expr} {es : List Expr} {t : TA} (O : OkI X.prog X.w X.K X.mg X.base k x C ps dvs sp) (hr : Room (k + 1) X.A) (hg : Gl X x) (ha : PA X (e :: es) t) (hdb : (x == ("__debug__" : Str)) = false := by decide)
    (he : starEach (e :: es) X.env = (false, eval e X.env) :: starEach es X.env := by rfl) (hpl : (backTo pos (starEach es X.env)).any (·.1) = false := by rfl) : PE X (.Call (.Name x p) (e :: es) [] pos) (tMake C sp dvs E0 t) := by
  obtain ⟨g, f, fd, ds, M, b, v, F⟩ := O
  exact pe_make M F hr hg g b v pass0 ha hdb he hpl
def spInit (K : PySem.W.Frag) (C : Addr) : Sp := fun vs H Q _ => ∃ (M dx : Addr) (hv : Hd), vs = [.ref M, hv.h, hv.st, .int hv.far] ∧ H M = some (.ins C dx []) ∧
  ∀ (TH WR : Addr) (H' : Hp), H TH = none → H WR = none → Ch [M] H H' → Ts H H' → MkA K H' C M TH WR hv [] 0 [] false → Q .non H'
theorem sc_init : FnScope ["self", "head", "stock", "most"] ["self", "head", "stock", "most"] (defScope (inClass (top 40) 0)) := ⟨rfl, rfl, rfl, by decide +kernel, rfl, by decide +kernel, by decide +kernel⟩
/-- the class as it stands: __init__ with its defaults -/
structure DfI (K : PySem.W.Frag) (mg : Str → Option Value) (C : Addr) : Prop where
  g : mg "Maker" = some (.ref C)
  d : ∃ f fd, Mk K C f ∧ FunD K "__init__" "Maker.__init__" (defArgs (inClass (top 40) 0)) (defBody (inClass (top 40) 0)) (defScope (inClass (top 40) 0)) [] [("stock", .ref (He.ga K "STOCK")), ("most", .int 5)] f fd
theorem fn_init {C f : Addr} {fd : FuncData} (T : Mt K C) (F : FunD K "__init__" "Maker.__init__" (defArgs (inClass (top 40) 0)) (defBody (inClass (top 40) 0)) (defScope (inClass (top 40) 0)) [] [("stock", .ref (He.ga K "STOCK")), ("most", .int 5)] f fd) : FnOk P w K mg base CX0 1 f fd ["self", "head", "stock", "most"] (spInit K C) := by
  refine F.ok sc_init (fun vs H Q E h => ?_) (fun cdv A outer s H vs Q E hr h => ?_)
  · obtain ⟨M, dx, hv, rfl, _⟩ := h
    rfl
  · obtain ⟨M, dx, hv, rfl, e0, q⟩ := h
    refine ⟨_, (pss_cons (ps_fld (pv 0) (pv 1) rfl)
  (pss_cons (ps_fld (pv 0) (pv 2) rfl)
  (pss_cons (ps_fld (pv 0) (pv 3) rfl)
  (pss_cons (ps_fld (pv 0) pe_dnewK rfl)
  (pss_cons (ps_fld (pv 0) pe_int rfl)
  (pss_cons (ps_fld (pv 0) (pe_lst pa_nil) rfl)
  (pss_one (ps_fld (pv 0) pe_bl rfl)))))))), ?_⟩
    refine ⟨_, rfl, _, rfl, M, C, dx, _, rfl, e0, T.cl, T.n_head, (by show 0 < 1000; decide), ?_⟩
    have S1 : ∀ (G : Hp) (fs : List (Str × V)), G M = some (.ins C dx fs) → ∀ fs', Ch [M] G (upd G M (.ins C dx fs')) ∧ Ts G (upd G M (.ins C dx fs')) ∧ upd G M (.ins C dx fs') M = some (.ins C dx fs') := fun G fs e fs' => ⟨.put (by simp), .upd (by rw [e]; trivial), upd_same⟩
    obtain ⟨c1, t1, e1⟩ := S1 _ _ e0 (putF "head" hv.h [])
    generalize upd H M (.ins C dx (putF "head" hv.h [])) = H1 at c1 t1 e1 ⊢
    refine ⟨_, rfl, _, rfl, M, C, dx, _, rfl, e1, T.cl, T.n_stock, (by show 1 < 1000; decide), ?_⟩
    obtain ⟨c2, t2, e2⟩ := S1 _ _ e1 (putF "stock" hv.st (putF "head" hv.h []))
    generalize upd H1 M (.ins C dx (putF "stock" hv.st (putF "head" hv.h []))) = H2 at c2 t2 e2 ⊢
    refine ⟨_, rfl, _, rfl, M, C, dx, _, rfl, e2, T.cl, T.n_most, (by show 2 < 1000; decide), ?_⟩
    obtain ⟨c3, t3, e3⟩ := S1 _ _ e2 (putF "most" (.int hv.far) (putF "stock" hv.st (putF "head" hv.h [])))
    generalize upd H2 M (.ins C dx (putF "most" (.int hv.far) (putF "stock" hv.st (putF "head" hv.h [])))) = H3 at c3 t3 e3 ⊢
    intro TH hTH
    have c4 : Ch [] H3 (upd H3 TH (.dK [])) := .new hTH
    have e4 := c4 M _ (by simp) e3
    have eTH4 : upd H3 TH (.dK []) TH = some (.dK []) := upd_same
    generalize upd H3 TH (.dK []) = H4 at c4 e4 eTH4 ⊢
    refine ⟨_, rfl, M, C, dx, _, rfl, e4, T.cl, T.n_things, (by show 3 < 1000; decide), ?_⟩
    have nTM : TH ≠ M := ne_of eTH4 e4 (by intro z; cases z)
    obtain ⟨c5, t5, e5⟩ := S1 _ _ e4 (putF "things" (.ref TH) (putF "most" (.int hv.far) (putF "stock" hv.st (putF "head" hv.h []))))
    have eTH5 := c5 TH _ (by simpa using nTM) eTH4
    generalize upd H4 M (.ins C dx (putF "things" (.ref TH) (putF "most" (.int hv.far) (putF "stock" hv.st (putF "head" hv.h []))))) = H5 at c5 t5 e5 eTH5 ⊢
    refine ⟨_, rfl, M, C, dx, _, rfl, e5, T.cl, T.n_came, (by show 4 < 1000; decide), ?_⟩
    obtain ⟨c6, t6, e6⟩ := S1 _ _ e5 (putF "came" (.int 0) (putF "things" (.ref TH) (putF "most" (.int hv.far) (putF "stock" hv.st (putF "head" hv.h [])))))
    have eTH6 := c6 TH _ (by simpa using nTM) eTH5
    generalize upd H5 M (.ins C dx (putF "came" (.int 0) (putF "things" (.ref TH) (putF "most" (.int hv.far) (putF "stock" hv.st (putF "head" hv.h [])))))) = H6 at c6 t6 e6 eTH6 ⊢
    refine ⟨(by show 0 ≤ sizeLine; decide), fun WR hWR => ?_⟩
    have c7 : Ch [] H6 (upd H6 WR (.lst [])) := .new hWR
    have e7 := c7 M _ (by simp) e6
    have eTH7 := c7 TH _ (by simp) eTH6
    have eWR7 : upd H6 WR (.lst []) WR = some (.lst []) := upd_same
    generalize upd H6 WR (.lst []) = H7 at c7 e7 eTH7 eWR7 ⊢
    have nWM : WR ≠ M := ne_of eWR7 e7 (by intro z; cases z)
    refine ⟨_, rfl, M, C, dx, _, rfl, e7, T.cl, T.n_written, (by show 5 < 1000; decide), ?_⟩
    obtain ⟨c8, t8, e8⟩ := S1 _ _ e7 (putF "written" (.ref WR) (putF "came" (.int 0) (putF "things" (.ref TH) (putF "most" (.int hv.far) (putF "stock" hv.st (putF "head" hv.h []))))))
    have eTH8 := c8 TH _ (by simpa using nTM) eTH7
    have eWR8 := c8 WR _ (by simpa using nWM) eWR7
    generalize upd H7 M (.ins C dx (putF "written" (.ref WR) (putF "came" (.int 0) (putF "things" (.ref TH) (putF "most" (.int hv.far) (putF "stock" hv.st (putF "head" hv.h []))))))) = H8 at c8 t8 e8 eTH8 eWR8 ⊢
    refine ⟨_, rfl, M, C, dx, _, rfl, e8, T.cl, T.n_busy, (by show 6 < 1000; decide), ?_⟩
    rw [mF_new (sv := .non)]
    obtain ⟨c9, t9, e9⟩ := S1 _ _ e8 (mF hv .non TH 0 WR false)
    have eTH9 := c9 TH _ (by simpa using nTM) eTH8
    have eWR9 := c9 WR _ (by simpa using nWM) eWR8
    generalize upd H8 M (.ins C dx (mF hv .non TH 0 WR false)) = H9 at c9 t9 e9 eTH9 eWR9 ⊢
    have c03 := c1.trans (c2.trans c3)
    have old : ∀ {G : Hp} {a : Addr} {o' : HO}, Ch [M] H G → G M = some o' → G a = none → H a = none := fun {G a o'} c e g => by
      cases q : H a with
      | none => rfl
      | some o =>
        have z : a ≠ M := fun z => by rw [z, e] at g; cases g
        rw [c a o (by simpa using z) q] at g
        cases g
    refine q TH WR H9 ?_ ?_ (c03.trans ((Ch.of0 c4).trans (c5.trans (c6.trans ((Ch.of0 c7).trans (c8.trans c9)))))) (t1.trans (t2.trans (t3.trans ((Ts.of c4).trans (t5.trans (t6.trans ((Ts.of c7).trans (t8.trans t9)))))))) ⟨dx, .non, [], [], e9, eTH9, eWR9, .nil, .nil⟩
    · exact old c03 e3 hTH
    · exact old (c03.trans ((Ch.of0 c4).trans (c5.trans c6))) e6 hWR
theorem ok_init {C : Addr} (T : Mt K C) (D : DfI K mg C) : OkI P w K mg base 1 "Maker" C ["self", "head", "stock", "most"] [.ref (He.ga K "STOCK"), .int 5] (spInit K C) := by
  obtain ⟨g, f, fd, M, F⟩ := D
  obtain ⟨ds, hv, hb⟩ := F.binds0 (ps := ["self", "head", "stock", "most"]) 2 (by simp) rfl (fun D doc pm an cdv ct us ks h1 h2 => match us, ks, h1, h2 with
    | [_, _], [_, _], _, _ => ⟨_, _, _, _, _, _, rfl, rfl, _, _, _, _, _, _, rfl, rfl, rfl⟩)
  exact ⟨g, f, fd, ds, M, hb, hv, fn_init T F⟩
/-- the class called with its stock and its most by name, the most first -/
def gsw {α : Type} (us _mv ws : List α) : List α := match ws with
  | [a, b] => us ++ [b, a]
  | _ => us
structure OkK (P : Program) (w : World) (K : PySem.W.Frag) (mg : Str → Option Value) (base : Heap) (k : Nat) (x : Str) (C : Addr) (ps ks : List Str) (gV : List V → List V → List V) (sp : Sp) : Prop where
  g : mg x = some (.ref C)
  f : ∃ f fd g, Mk K C f ∧ KBn K fd ps 2 ks g gV ∧ FnOk P w K mg base CX0 k f fd ps sp
theorem OkK.mono {j k : Nat} {x : Str} {C : Addr} {ps ks : List Str} {gV : List V → List V → List V} {sp : Sp} (O : OkK P w K mg base j x C ps ks gV sp) (h : j ≤ k) : OkK P w K mg base k x C ps ks gV sp := by
  obtain ⟨g, f, fd, gg, M, b, F⟩ := O
  exact ⟨g, f, fd, gg, M, b, F.mono h⟩
theorem pe_makeKK {X : Cx} {k : Nat} {x : Str} {C : Addr} {ps ks : List Str} {gV : List V → List V → List V} {sp : Sp} {p pos : Pos} {e : Expr} {es : List Expr} {kws : List Keyword} {t tk : TA} (O : OkK X.prog X.w X.K X.mg X.base k x C ps ks gV sp) (hr : Room (k + 1) X.A) (hg : Gl X x) (ha : PA X (e :: es) t) (hkw : PK X kws tk)
    (hall : (backToKw pos (keywordEach kws X.env)).all (·.1.isSome) = true := by rfl) (hks : (backToKw pos (keywordEach kws X.env)).filterMap (·.1) = ks := by rfl) (hdb : (x == ("__debug__" : Str)) = false := by decide)
    (he : starEach (e :: es) X.env = (false, eval e X.env) :: starEach es X.env := by rfl) (hpl : ((backTo pos (starEach (e :: es) X.env)).any (·.1) || (backToKw pos (keywordEach kws X.env)).any (·.1.isNone)) = false := by rfl) :
    PE X (.Call (.Name x p) (e :: es) kws pos) (tMakeK C 1 ks.length sp gV E0 t tk) := by
  obtain ⟨g, f, fd, gg, M, b, F⟩ := O
  exact pe_makeK M F hr hg g b pass0 ha hkw hall hks hdb he hpl
theorem ok_initK {C : Addr} (T : Mt K C) (D : DfI K mg C) : OkK P w K mg base 1 "Maker" C ["self", "head", "stock", "most"] ["most", "stock"] (fun vs zs => gsw vs [] zs) (spInit K C) := by
  obtain ⟨g, f, fd, M, F⟩ := D
  have rel : ∀ {vs mz zs : List V} {us mv ws : List Value}, Vals vs us → Vals mz mv → Vals zs ws → Vals (gsw vs mz zs) (gsw us mv ws) := by
    intro vs mz zs us mv ws r1 _ r3
    cases r3 with
    | nil => exact r1
    | cons a r3 =>
      cases r3 with
      | nil => exact r1
      | cons b r3 =>
        cases r3 with
        | nil => exact r1.append (.cons b (.cons a .nil))
        | cons _ _ => exact r1
  obtain ⟨mv, hb⟩ := F.kbinds0 (ps := ["self", "head", "stock", "most"]) 2 ["most", "stock"] [] (fun {α} => gsw) (by simp) (by simp) rel (fun D doc pm an cdv ct us mv ws h1 h2 h3 => match us, mv, ws, h1, h2, h3 with
    | [_, _], [], [_, _], _, _, _ => rfl)
  exact ⟨g, f, fd, _, M, hb, fn_init T F⟩
/-! ### a wish is kept -/
def wishD (p : Pg) : Dt := .tup [.str "wish", p.dt]
def noteD (x y : Str) : Dt := .tup [.str x, .str y]
/-- the log behind a word -/
def logD (lg : List Dt) (wd : Str) : List Dt := lg ++ [noteD "in" wd] ++ [noteD "out" wd]
theorem no_begin {hv : Hd} {sv : V} {TH WR : Addr} {came : Int} {b : Bool} : (mF hv sv TH came WR b).lookup ("begin" : Str) = none := mF_no (by decide +kernel) (by decide +kernel) (by decide +kernel) (by decide +kernel) (by decide +kernel) (by decide +kernel) (by decide +kernel)
theorem no_keep {hv : Hd} {sv : V} {TH WR : Addr} {came : Int} {b : Bool} : (mF hv sv TH came WR b).lookup ("keep" : Str) = none := mF_no (by decide +kernel) (by decide +kernel) (by decide +kernel) (by decide +kernel) (by decide +kernel) (by decide +kernel) (by decide +kernel)
/-- self.busy = False; self.written.append(('out', wd)) -/
theorem fin_suite {H : Hp} {C M TH WR : Addr} {hv : Hd} {es : List (Int × Dt)} {came : Int} {lg : List Dt} {b : Bool} {wd : Str} {D : Ends} {σ : L2.St} (T : Mt K C) (m : MkA K H C M TH WR hv es came lg b) (ll : lg.length ≤ 1000) (hσ : σ[0]? = some (some (.ref M)))
    (q : ∀ H', Ch [M, TH, WR] H H' → Ts H H' → MkA K H' C M TH WR hv es came (lg ++ [noteD "out" wd]) false → D.nx σ H') :
    (tSeq (sFld K (tVar 0) (tC (.bl false)) "busy") (tDrop (tBM K "list" rAppend (tFld K (tVar 0) "written") (tCons (tTup (tCons (tC (.str "out")) (tCons (tC (.str wd)) tNil))) tNil)))) D σ H := by
  obtain ⟨dx, sv, kvs, lgs, e1, e2, e3, r1, r2⟩ := m.ex
  refine ⟨_, hσ, M, C, dx, _, rfl, e1, T.cl, T.n_busy, mF_len, ?_⟩
  rw [put_busy]
  obtain ⟨c1, t1, e1', e2', e3', r1', r2'⟩ := MkA.busy (b2 := false) e1 e2 e3 r1 r2
  generalize upd H M (.ins C dx (mF hv sv TH came WR false)) = H1 at c1 t1 e1' e2' e3' r1' r2' ⊢
  refine ⟨_, hσ, M, C, dx, _, _, rfl, e1', T.cl, T.n_written, mF_written, .inl ⟨rfl, _, SqL.of e3'⟩, ?_⟩
  refine ⟨(by show 2 ≤ sizeLine; decide), fun p hp => ?_⟩
  obtain ⟨c2, t2, m2⟩ := MkA.note (x := "out") (y := wd) e1' e2' e3' r1' r2' hp
  refine ⟨WR, lgs, .ref p, rfl, rfl, (Ch.new (S := []) hp) WR _ (by simp) e3', small1000 (by rw [r2'.len]; omega), ?_⟩
  exact q _ (c1.trans c2) (t1.trans t2) m2
/-- raised, and the maker as it stands then -/
def RaisedM (K : PySem.W.Frag) (H : Hp) (E : XK) (C M TH WR : Addr) (hv : Hd) (es : List (Int × Dt)) (came : Int) (lg : List Dt) (CE : Addr) (fs : List (Str × V)) : Prop := ∀ (H' : Hp) (d : Addr), Ch [M, TH, WR] H H' → Ts H H' → MkA K H' C M TH WR hv es came lg false → H' d = some (.xd fs) → E (.ref CE) (some d) H'
abbrev finT (K : PySem.W.Frag) (wd : Str) : TS := tSeq (sFld K (tVar 0) (tC (.bl false)) "busy") (tDrop (tBM K "list" rAppend (tFld K (tVar 0) "written") (tCons (tTup (tCons (tC (.str "out")) (tCons (tC (.str wd)) tNil))) tNil)))
/-- a suite behind what is raised -/
theorem rz_of {H H1 : Hp} {E : XK} {C M TH WR : Addr} {hv : Hd} {es : List (Int × Dt)} {came : Int} {lg : List Dt} {wd : Str} {σ : L2.St} {CE : Addr} {fs : List (Str × V)} (T : Mt K C) (c1 : Ch [M, TH, WR] H H1) (t1 : Ts H H1) (m1 : MkA K H1 C M TH WR hv es came (lg ++ [noteD "in" wd]) true) (ll : lg.length ≤ 900) (hσ : σ[0]? = some (some (.ref M)))
    (r : RaisedM K H E C M TH WR hv es came (logD lg wd) CE fs) : ∀ (H2 : Hp) (d : Addr), Ch [] H1 H2 → H2 d = some (.xd fs) → WE (wFin (finT K wd) (fun cls d _ H => E cls d H)) σ (.ref CE) (some d) H2 := by
  intro H2 d c2 hd
  have m2 := m1.ch0 c2
  obtain ⟨dx2, sv2, kvs2, lgs2, g1, g2, g3, _, _⟩ := m2.ex
  refine fin_suite T m2 (by rw [List.length_append, List.length_singleton]; omega) hσ fun H3 c3 t3 m3 => ?_
  refine r H3 d (c1.trans ((Ch.of0 c2).trans c3)) (t1.trans ((Ts.of c2).trans t3)) (by unfold logD; exact m3) (c3 d _ ?_ hd)
  have n1 : d ≠ M := ne_of hd g1 (by intro z; cases z)
  have n2 : d ≠ TH := ne_of hd g2 (by intro z; cases z)
  have n3 : d ≠ WR := ne_of hd g3 (by intro z; cases z)
  simp [n1, n2, n3]
/-- within a try: a def that may raise -/
theorem pe_callFT {X : Cx} {CX : CXT} {k : Nat} {x : Str} {ps : List Str} {sp : Sp} {E : L2.St → XK} {p pos : Pos} {e : Expr} {es : List Expr} {t : TA} (O : OkF X.prog X.w X.K X.mg X.base CX k x ps sp) (hr : Room k X.A) (hg : Gl X x) (hx : ∀ σ, PassesAt CX X σ (E σ)) (ha : PA X (e :: es) t)
    (hdb : (x == ("__debug__" : Str)) = false := by decide) (he : starEach (e :: es) X.env = (false, eval e X.env) :: starEach es X.env := by rfl) (hpl : (backTo pos (starEach es X.env)).any (·.1) = false := by rfl) : PE X (.Call (.Name x p) (e :: es) [] pos) (tCallS sp E t) := by
  obtain ⟨g, kp, fd, b, F⟩ := O
  exact pe_callS F hr hg g kp b hx ha hdb he hpl
def wishDt (d : Dt) : Dt := .tup [.str "wish", d]
def spWish (K : PySem.W.Frag) (C CP : Addr) : Sp := fun vs H Q E => ∃ (M TH WR : Addr) (hv : Hd) (v : V) (ks : List Kd) (t : Kd) (d : Dt) (r : Sum (Str × Nat) Kd) (es : List (Int × Dt)) (came : Int) (lg : List Dt) (b : Bool), vs = [.ref M, v] ∧ MkA K H C M TH WR hv es came lg b ∧ DR K H hv (hdD ks t) ∧ DR K H v d ∧ WrongIs (ks ++ [t]) d r ∧ (kn d).length ≤ 1000 ∧ ks.length ≤ 900 ∧
  es.length ≤ 900 ∧ lg.length ≤ 900 ∧ (∀ e ∈ es, e.1 ≠ came) ∧ (∀ w i, wishRes r = some (w, i) → RaisedM K H E C M TH WR hv es came (logD lg "wish") CP (errP w i)) ∧
  (wishRes r = none → ∀ H', Ch [M, TH, WR] H H' → Ts H H' → MkA K H' C M TH WR hv (es ++ [(came, wishDt d)]) (came + 1) (logD lg "wish") false → Q (.int came) H')
theorem sc_wish : FnScope ["self", "program"] ["self", "program"] (defScope (inClass (top 40) 5)) := ⟨rfl, rfl, rfl, by decide +kernel, rfl, by decide +kernel, by decide +kernel⟩
theorem ok_wish {C CP : Addr} (T : Mt K C) (D : DfM K C "wish" "Maker.wish" (inClass (top 40) 5)) (O_begin : OkM P w K mg base CX0 1 C "begin" ["self", "word"] (spBegin K C)) (O_keep : OkM P w K mg base CX0 1 C "keep" ["self", "thing"] (spKeep K C))
    (O_look_wish : OkF P w K mg base (L2.CX P w) 5 "look_wish" ["head", "program"] (spLook K CP)) : OkM P w K mg base (L2.CX P w) 6 C "wish" ["self", "program"] (spWish K C CP) := by
  refine okMX T.cl D sc_wish (fun _ _ _ _ _ _ us hl => match us, hl with | [_, _], _ => rfl) (fun vs H Q E h => ?_) (fun f cdv A outer s H vs Q E hr h => ?_)
  · obtain ⟨M, TH, WR, hv, v, ks, t, d, r, es, came, lg, b, rfl, _⟩ := h
    rfl
  · obtain ⟨M, TH, WR, hv, v, ks, t, d, r, es, came, lg, b, rfl, m, rh, rp, wr, sz, lk, le, ll, fresh, qx, q⟩ := h
    refine ⟨_, (pss_cons (ps_expr (pe_methF (pv 0) O_begin (hr.mono (by omega)) pass0 (pa_cons pe_str pa_nil)))
  (pss_one (ps_twoFin (tb := fun W => tDrop (tCallS (spLook K CP) (fun σ => WE W σ) (tCons (tFld K (tVar 0) "head") (tCons (tVar 1) tNil)))) (te := fun _ => tMeth C "keep" (spKeep K C) [] E0 (tVar 0) (tCons (tTup (tCons (tC (.str "wish")) (tCons (tVar 1) tNil))) tNil)) (tfs := tSeq (sFld K (tVar 0) (tC (.bl false)) "busy") (tDrop (tBM K "list" rAppend (tFld K (tVar 0) "written") (tCons (tTup (tCons (tC (.str "out")) (tCons (tC (.str "wish")) tNil))) tNil)))) (Wout := fun cls d _ H => E cls d H) rfl rfl rfl (takes_of rfl rfl rfl rfl) (fun W pn xe tk _ => (ps_expr (pe_callFT (E := fun σ => WE W σ) O_look_wish (hr.mono (by omega)) rfl (fun σ => passAt tk σ) (pa_cons (pe_fld (pv 0) rfl) (pa_cons (pv 1) pa_nil))))) (fun W pn xe tk _ => (pe_methF (pv 0) O_keep (hr.mono (by omega)) pass0 (pa_cons (pe_tup (pa_cons pe_str (pa_cons (pv 1) pa_nil))) pa_nil))) (pss_cons (ps_fld (pv 0) pe_bl rfl)
  (pss_one (ps_expr (pe_bm PySem.F.plainAttrs_list PySem.F.slot_list_append PySem.F.type_list_append mt_append (pe_fld (pv 0) rfl) (pa_cons (pe_tup (pa_cons pe_str (pa_cons pe_str pa_nil))) pa_nil))))) (fun a pn => (pss_cons (ps_fld (pv 0) pe_bl rfl)
  (pss_one (ps_expr (pe_bm PySem.F.plainAttrs_list PySem.F.slot_list_append PySem.F.type_list_append mt_append (pe_fld (pv 0) rfl) (pa_cons (pe_tup (pa_cons pe_str (pa_cons pe_str pa_nil))) pa_nil))))))))), ?_⟩
    obtain ⟨dx, sv, kvs, lgs, e1, e2, e3, r1, r2⟩ := m.ex
    refine ⟨_, rfl, M, dx, _, rfl, e1, no_begin, ?_⟩
    refine ⟨M, TH, WR, hv, es, came, lg, b, "wish", rfl, m, by omega, fun H1 c1 t1 m1 => ?_⟩
    have rh1 := rh.ts t1
    have rp1 := rp.ts t1
    obtain ⟨dx1, sv1, kvs1, lgs1, f1, f2, f3, _, _⟩ := m1.ex
    refine ⟨_, rfl, M, C, dx1, _, _, rfl, f1, T.cl, T.n_head, mF_head, _, rfl, hv, v, ks, t, d, r, rfl, rh1, rp1, wr, sz, lk, fun w i hw => ?_, fun hw H2 c2 => ?_⟩
    · exact rz_of T c1 t1 m1 ll rfl (qx w i hw)
    have m2 := m1.ch0 c2
    have rp2 := rp1.ch c2
    obtain ⟨dx2, sv2, kvs2, lgs2, g1, g2, g3, _, _⟩ := m2.ex
    refine ⟨_, rfl, M, dx2, _, rfl, g1, no_keep, ?_⟩
    refine ⟨_, rfl, (by show 2 ≤ sizeLine; decide), fun p3 hp3 => ?_⟩
    have c3 : Ch [] H2 (upd H2 p3 (.tup [.str "wish", v])) := .new hp3
    have r3 : DR K (upd H2 p3 (.tup [.str "wish", v])) (.ref p3) (wishDt d) := .new (.cons (.str _) (.cons rp2 .nil)) hp3
    generalize upd H2 p3 (.tup [.str "wish", v]) = H3 at c3 r3 ⊢
    have m3 := m2.ch0 c3
    refine ⟨M, TH, WR, hv, .ref p3, es, came, _, true, wishDt d, rfl, m3, r3, by omega, fresh, fun H4 c4 t4 m4 => ?_⟩
    refine fin_suite T m4 (by rw [List.length_append, List.length_singleton]; omega) rfl fun H5 c5 t5 m5 => ?_
    refine q hw H5 (c1.trans ((Ch.of0 c2).trans ((Ch.of0 c3).trans (c4.trans c5)))) (t1.trans ((Ts.of c2).trans ((Ts.of c3).trans (t4.trans t5)))) ?_
    unfold logD
    exact m5
/-! ### one is taken back -/
def dropE (es : List (Int × Dt)) (i : Int) : List (Int × Dt) := es.filter fun e => decide (e.1 ≠ i)
theorem KvR.drop {K : PySem.W.Frag} {H : Hp} {kvs : List (Key × V)} {es : List (Int × Dt)} (h : KvR K H kvs es) (i : Int) : KvR K H (dropK kvs (.inl i)) (dropE es i) := by
  induction h with
  | nil => exact .nil
  | @cons j v d kvs es r _ ih =>
    unfold dropK dropE at ih ⊢
    rw [List.filter_cons, List.filter_cons]
    by_cases z : j = i
    · have h1 : decide ((Sum.inl j : Key) ≠ Sum.inl i) = false := by rw [z]; simp
      have h2 : decide (j ≠ i) = false := by rw [z]; simp
      rw [h1, h2]
      exact ih
    · have h1 : decide ((Sum.inl j : Key) ≠ Sum.inl i) = true := by simp [z]
      have h2 : decide (j ≠ i) = true := by simp [z]
      rw [h1, h2]
      exact .cons r ih
theorem KvR.has {K : PySem.W.Frag} {H : Hp} {kvs : List (Key × V)} {es : List (Int × Dt)} (h : KvR K H kvs es) (i : Int) : ((∃ e ∈ es, e.1 = i) ∧ ∃ v, valV kvs (.inl i) = some v) ∨ ((∀ e ∈ es, e.1 ≠ i) ∧ valV kvs (.inl i) = Option.none) := by
  induction h with
  | nil => exact .inr ⟨(fun e he => by cases he), rfl⟩
  | @cons j v d kvs es r _ ih =>
    by_cases z : j = i
    · exact .inl ⟨⟨_, List.mem_cons_self, z⟩, v, valV_pos (by rw [z])⟩
    · have zz : ¬ (Sum.inl j : Key) = Sum.inl i := fun q => z (by injection q)
      rcases ih with ⟨⟨e, he, h1⟩, u, hu⟩ | ⟨h1, h2⟩
      · exact .inl ⟨⟨e, List.mem_cons_of_mem _ he, h1⟩, u, by rw [valV_neg zz]; exact hu⟩
      · refine .inr ⟨fun e he => ?_, by rw [valV_neg zz]; exact h2⟩
        rcases List.mem_cons.mp he with rfl | he
        · exact z
        · exact h1 e he
/-- a number is no more kept -/
theorem MkA.drop {H : Hp} {C M TH WR : Addr} {hv : Hd} {es : List (Int × Dt)} {came : Int} {lg : List Dt} {b : Bool} (m : MkA K H C M TH WR hv es came lg b) (i : Int) {kvs : List (Key × V)} (e : H TH = some (.dK kvs)) : MkA K (upd H TH (.dK (dropK kvs (.inl i)))) C M TH WR hv (dropE es i) came lg b ∧ Ch [M, TH, WR] H (upd H TH (.dK (dropK kvs (.inl i)))) ∧ Ts H (upd H TH (.dK (dropK kvs (.inl i)))) := by
  obtain ⟨dx, sv, kvs', lgs, e1, e2, e3, r1, r2⟩ := m.ex
  rw [e] at e2
  injection e2 with e2
  injection e2 with e2
  subst e2
  have t1 : Ts H (upd H TH (.dK (dropK kvs (.inl i)))) := .upd (by rw [e]; trivial)
  refine ⟨⟨dx, sv, _, lgs, ?_, upd_same, ?_, (r1.drop i).ts t1, r2.ts t1⟩, .put (by simp), t1⟩
  · rw [upd_ne (ne_of e1 e (by intro z; cases z))]; exact e1
  · rw [upd_ne (ne_of e3 e (by intro z; cases z))]; exact e3
def spBack (K : PySem.W.Frag) (C CN : Addr) : Sp := fun vs H Q E => ∃ (M TH WR : Addr) (hv : Hd) (es : List (Int × Dt)) (came : Int) (lg : List Dt) (b : Bool) (i : Int), vs = [.ref M, .int i] ∧ MkA K H C M TH WR hv es came lg b ∧ lg.length ≤ 900 ∧
  ((∀ e ∈ es, e.1 ≠ i) → RaisedM K H E C M TH WR hv es came (logD lg "back") CN [("number", .int i)]) ∧
  ((∃ e ∈ es, e.1 = i) → ∀ H', Ch [M, TH, WR] H H' → Ts H H' → MkA K H' C M TH WR hv (dropE es i) came (logD lg "back") false → Q .non H')
theorem sc_back : FnScope ["self", "number"] ["self", "number"] (defScope (inClass (top 40) 8)) := ⟨rfl, rfl, rfl, by decide +kernel, rfl, by decide +kernel, by decide +kernel⟩
theorem ok_back {C CN : Addr} (T : Mt K C) (D : DfM K C "back" "Maker.back" (inClass (top 40) 8)) (O_begin : OkM P w K mg base CX0 1 C "begin" ["self", "word"] (spBegin K C)) (O_NotKept : OkXT P w K mg base ieTl "IndexError.__new__" 1 "NotKept" CN ["self", "number"] (spErr1N "number" CN)) :
    OkM P w K mg base (L2.CX P w) 3 C "back" ["self", "number"] (spBack K C CN) := by
  refine okMX T.cl D sc_back (fun _ _ _ _ _ _ us hl => match us, hl with | [_, _], _ => rfl) (fun vs H Q E h => ?_) (fun f cdv A outer s H vs Q E hr h => ?_)
  · obtain ⟨M, TH, WR, hv, es, came, lg, b, i, rfl, _⟩ := h
    rfl
  · obtain ⟨M, TH, WR, hv, es, came, lg, b, i, rfl, m, ll, qx, q⟩ := h
    have hu := hu_of hr
    refine ⟨_, (pss_cons (ps_expr (pe_methF (pv 0) O_begin (hr.mono (by omega)) pass0 (pa_cons pe_str pa_nil)))
  (pss_one (ps_bodyFin (tb := fun W => tSeq (tIfS (tB (tDNotIn (tVar 1) (tFld K (tVar 0) "things"))) (fun D σ H => (tMkO CN (spErr1N "number" CN) [] (tCons (tVar 1) tNil)) σ H fun cls d H1 => W cls d σ H1) tNext) (tDrop (tDPop1 (tFld K (tVar 0) "things") (tVar 1)))) (tfs := finT K "back") (Wout := fun cls d _ H => E cls d H) rfl rfl rfl (takes_of rfl rfl rfl rfl) (fun W pn xe tk _ => (pss_cons (ps_if (pt_cmp (pc_dnotin hu (pv 1) (pe_fld (pv 0) rfl))) (pss_one (ps_raise rfl tk (pmk_okXT ie_facts O_NotKept (hr.mono (by omega)) rfl (pa_cons (pv 1) pa_nil)))) pss_nil)
  (pss_one (ps_expr (pe_dpop1 (pe_fld (pv 0) rfl) (pv 1) ⟨rfl, rfl, rfl, rfl⟩))))) (pss_cons (ps_fld (pv 0) pe_bl rfl)
  (pss_one (ps_expr (pe_bm PySem.F.plainAttrs_list PySem.F.slot_list_append PySem.F.type_list_append mt_append (pe_fld (pv 0) rfl) (pa_cons (pe_tup (pa_cons pe_str (pa_cons pe_str pa_nil))) pa_nil))))) (fun a pn => (pss_cons (ps_fld (pv 0) pe_bl rfl)
  (pss_one (ps_expr (pe_bm PySem.F.plainAttrs_list PySem.F.slot_list_append PySem.F.type_list_append mt_append (pe_fld (pv 0) rfl) (pa_cons (pe_tup (pa_cons pe_str (pa_cons pe_str pa_nil))) pa_nil))))))))), ?_⟩
    obtain ⟨dx, sv, kvs, lgs, e1, e2, e3, r1, r2⟩ := m.ex
    refine ⟨_, rfl, M, dx, _, rfl, e1, no_begin, ?_⟩
    refine ⟨M, TH, WR, hv, es, came, lg, b, "back", rfl, m, by omega, fun H1 c1 t1 m1 => ?_⟩
    obtain ⟨dx1, sv1, kvs1, lgs1, f1, f2, f3, k1, k2⟩ := m1.ex
    refine ⟨_, rfl, _, rfl, M, C, dx1, _, _, rfl, f1, T.cl, T.n_things, mF_things, TH, _, rfl, DGet.k (k := .inl i) f2, _, rfl, ?_⟩
    rcases k1.has i with ⟨he, u, hu2⟩ | ⟨hn, hu2⟩
    · rw [hu2]
      refine iteB (fun z => by cases z) (fun _ => ?_)
      refine ⟨_, rfl, M, C, dx1, _, _, rfl, f1, T.cl, T.n_things, mF_things, TH, rfl, .inl ⟨_, .inl f2⟩, _, rfl, kvs1, .inl i, u, f2, rfl, hu2, ?_⟩
      obtain ⟨m2, c2, t2⟩ := m1.drop i f2
      refine fin_suite T m2 (by rw [List.length_append, List.length_singleton]; omega) rfl fun H3 c3 t3 m3 => ?_
      exact q he H3 (c1.trans (c2.trans c3)) (t1.trans (t2.trans t3)) (by unfold logD; exact m3)
    · rw [hu2]
      refine iteB (fun _ => ?_) (fun z => by cases z)
      refine ⟨_, rfl, ?_⟩
      exact raise1 (rz_of T c1 t1 m1 ll rfl (qx hn))
end
end LM
set_option Elab.async false
set_option linter.all false
set_option maxRecDepth 100000
set_option maxHeartbeats 4000000
namespace LM
open PySem PySem.Spec PyProof.Rows L2
open Classical
/-! ### examples: what clashes -/
/-- inputs, answer, number -/
abbrev Ent := Dt × Dt × Int
noncomputable def firstOf (acc : List Ent) (i : Dt) : Option Ent := acc.find? fun e => decide (e.1 = i)
/-- the first that clashes, and with whom -/
noncomputable def lookRes (came : Int) : List Ent → Nat → List (Dt × Dt) → Option (Nat × Int)
  | _, _, [] => none
  | acc, n, (i, a) :: r => match firstOf acc i with
    | some e => if e.2.1 = a then lookRes came (acc ++ [(i, a, came + n)]) (n + 1) r else some (n, e.2.2)
    | none => lookRes came (acc ++ [(i, a, came + n)]) (n + 1) r
/-- no two of them clash -/
def Calm (acc : List Ent) : Prop := ∀ e ∈ acc, ∀ f ∈ acc, e.1 = f.1 → e.2.1 = f.2.1
theorem firstOf_some {acc : List Ent} {i : Dt} {e : Ent} (h : firstOf acc i = some e) : e ∈ acc ∧ e.1 = i := ⟨List.mem_of_find?_eq_some h, of_decide_eq_true (List.find?_some (p := fun e : Ent => decide (e.1 = i)) h)⟩
theorem firstOf_none {acc : List Ent} {i : Dt} (h : firstOf acc i = none) : ∀ e ∈ acc, e.1 ≠ i := fun e he z => by
  have := List.find?_eq_none.mp h e he
  exact this (decide_eq_true z)
theorem Calm.snoc {acc : List Ent} {i a : Dt} {n : Int} (c : Calm acc) (h : ∀ e ∈ acc, e.1 = i → e.2.1 = a) : Calm (acc ++ [(i, a, n)]) := by
  intro e he f hf z
  rcases List.mem_append.mp he with he | he
  · rcases List.mem_append.mp hf with hf | hf
    · exact c e he f hf z
    · rw [List.mem_singleton.mp hf] at z ⊢
      exact h e he z
  · rw [List.mem_singleton.mp he] at z ⊢
    rcases List.mem_append.mp hf with hf | hf
    · exact (h f hf z.symm).symm
    · rw [List.mem_singleton.mp hf]
/-- the first of all that clash is the first of all with the inputs -/
theorem clash_first {acc : List Ent} {i a : Dt} (c : Calm acc) : (acc.find? fun e => decide (e.1 = i ∧ e.2.1 ≠ a)) = match firstOf acc i with
    | some e => if e.2.1 = a then none else some e
    | none => none := by
  cases h : firstOf acc i with
  | none =>
    dsimp only
    refine List.find?_eq_none.mpr fun e he z => ?_
    exact firstOf_none h e he (of_decide_eq_true z).1
  | some e =>
    obtain ⟨he, hi⟩ := firstOf_some h
    dsimp only
    by_cases q : e.2.1 = a
    · rw [if_pos q]
      refine List.find?_eq_none.mpr fun f hf z => ?_
      have z := of_decide_eq_true z
      exact z.2 ((c f hf e he (z.1.trans hi.symm)).trans q)
    · rw [if_neg q]
      have all : ∀ f ∈ acc, (decide (f.1 = i ∧ f.2.1 ≠ a)) = decide (f.1 = i) := fun f hf => by
        by_cases z : f.1 = i
        · rw [decide_eq_true z]
          exact decide_eq_true ⟨z, fun w => q ((c e he f hf (hi.trans z.symm)).trans w)⟩
        · rw [decide_eq_false z]
          exact decide_eq_false fun w => z w.1
      have : ∀ {l : List Ent}, (∀ f ∈ l, f ∈ acc) → (l.find? fun e => decide (e.1 = i ∧ e.2.1 ≠ a)) = l.find? fun e => decide (e.1 = i) := by
        intro l
        induction l with
        | nil => intro _; rfl
        | cons x l ih =>
          intro hl
          rw [List.find?_cons, List.find?_cons, all x (hl x List.mem_cons_self), ih fun f hf => hl f (List.mem_cons_of_mem _ hf)]
      rw [this fun f hf => hf]
      exact h
theorem calm_next {came : Int} {acc : List Ent} {n : Nat} {i a : Dt} {r : List (Dt × Dt)} {o : Option (Nat × Int)} (c : Calm acc) (h : lookRes came acc n ((i, a) :: r) = o) :
    (∃ e, firstOf acc i = some e ∧ e.2.1 ≠ a ∧ o = some (n, e.2.2)) ∨ ((∀ e, firstOf acc i = some e → e.2.1 = a) ∧ Calm (acc ++ [(i, a, came + n)]) ∧ lookRes came (acc ++ [(i, a, came + n)]) (n + 1) r = o) := by
  unfold lookRes at h
  cases hf : firstOf acc i with
  | none =>
    rw [hf] at h
    exact .inr ⟨fun e z => (by cases z), c.snoc fun e he z => (firstOf_none hf e he z).elim, h⟩
  | some e =>
    rw [hf] at h
    dsimp only at h
    obtain ⟨he, hi⟩ := firstOf_some hf
    by_cases q : e.2.1 = a
    · rw [if_pos q] at h
      exact .inr ⟨fun f z => by cases z; exact q, c.snoc fun f hff z => (c f hff e he (z.trans hi.symm)).trans q, h⟩
    · rw [if_neg q] at h
      exact .inl ⟨e, rfl, q, h.symm⟩
/-- behind all without a clash -/
theorem calm_all {came : Int} : ∀ {r : List (Dt × Dt)} {acc : List Ent} {n : Nat}, Calm acc → lookRes came acc n r = none → ∃ more : List Ent, more.length = r.length ∧ Calm (acc ++ more) ∧ ∀ (j : Nat) (x : Dt × Dt), r[j]? = some x → more[j]? = some (x.1, x.2, came + (n : Int) + (j : Int))
  | [], acc, n, c, _ => ⟨[], rfl, by rw [List.append_nil]; exact c, fun j x h => by simp at h⟩
  | (i, a) :: r, acc, n, c, h => by
    rcases calm_next c h with w | w
    · obtain ⟨e, _, _, z⟩ := w
      cases z
    · obtain ⟨_, c2, h2⟩ := w
      obtain ⟨more, l, c3, hm⟩ := calm_all (r := r) c2 h2
      refine ⟨(i, a, came + n) :: more, by rw [List.length_cons, l]; rfl, by rw [List.append_assoc] at c3; exact c3, fun j x hx => ?_⟩
      cases j with
      | zero =>
        simp at hx
        subst hx
        simp
      | succ j =>
        have := hm j x (by simpa using hx)
        rw [List.getElem?_cons_succ, this]
        congr 3
        push_cast
        omega
/-! ### what is kept -/
def exD (i a : Dt) : Dt := .tup [.str "example", i, a]
def entOf (e : Int × Dt) : Option Ent := match e.2 with
  | .tup [.str z, i, a] => if z = "example" then some (i, a, e.1) else none
  | _ => none
def entsOf (es : List (Int × Dt)) : List Ent := es.filterMap entOf
theorem entOf_ex {n : Int} {i a : Dt} : entOf (n, exD i a) = some (i, a, n) := by
  unfold entOf exD
  dsimp only
  rw [if_pos rfl]
theorem entOf_wish {n : Int} {d : Dt} : entOf (n, .tup [.str "wish", d]) = none := rfl
/-- the things kept are wishes and examples of the head -/
def Fit (ks : List Kd) (t : Kd) (es : List (Int × Dt)) : Prop := ∀ e ∈ es, (∃ p : Pg, e.2 = .tup [.str "wish", p.dt] ∧ Wt (ks ++ [t]) p .truth ∧ p.depth ≤ 12 ∧ p.size ≤ 1000) ∨ ∃ (i : List Dt) (a : Dt), e.2 = exD (.tup i) a ∧ AreOf ks i ∧ KdOf t a = true
theorem entsOf_snoc (es : List (Int × Dt)) (e : Int × Dt) : entsOf (es ++ [e]) = entsOf es ++ (match entOf e with | some x => [x] | none => []) := by
  unfold entsOf
  rw [List.filterMap_append]
  congr 1
  cases h : entOf e with
  | none => simp [h]
  | some x => simp [h]
theorem Fit.ents {ks : List Kd} {t : Kd} {es : List (Int × Dt)} (f : Fit ks t es) : ∀ e ∈ entsOf es, ∃ i : List Dt, e.1 = .tup i ∧ AreOf ks i ∧ KdOf t e.2.1 = true := by
  intro e he
  obtain ⟨x, hx, hxe⟩ := List.mem_filterMap.mp he
  rcases f x hx with ⟨p, hp, _⟩ | ⟨i, a, hi, h1, h2⟩
  · obtain ⟨n, d⟩ := x
    dsimp only at hp
    subst hp
    cases hxe
  · obtain ⟨n, d⟩ := x
    dsimp only at hi
    subst hi
    rw [entOf_ex] at hxe
    cases hxe
    exact ⟨i, rfl, h1, h2⟩
/-! ### typed inputs: equal keys are equal -/
theorem kd_cases {t : Kd} {d : Dt} (h : KdOf t d = true) : (t = .num ∧ ∃ i, d = .int i) ∨ (t = .truth ∧ ∃ b, d = .bl b) := by
  cases t with
  | num => cases d <;> first | exact .inl ⟨rfl, _, rfl⟩ | cases h
  | truth => cases d <;> first | exact .inr ⟨rfl, _, rfl⟩ | cases h
theorem nk_kd {t : Kd} {d e : Dt} (h1 : KdOf t d = true) (h2 : KdOf t e = true) (h : nk d = nk e) : d = e := by
  rcases kd_cases h1 with ⟨rfl, i, rfl⟩ | ⟨rfl, b, rfl⟩
  · rcases kd_cases h2 with ⟨_, j, rfl⟩ | ⟨z, _⟩
    · injection h with h; rw [h]
    · cases z
  · rcases kd_cases h2 with ⟨z, _⟩ | ⟨_, c, rfl⟩
    · cases z
    · cases b <;> cases c <;> first | rfl | (injection h with h; cases h)
theorem nks_kds : ∀ {ks : List Kd} {ds es : List Dt}, AreOf ks ds → AreOf ks es → nks ds = nks es → ds = es
  | _, _, _, .nil, .nil, _ => rfl
  | _, _, _, .cons a s, .cons b t, h => by
    rw [nks, nks] at h
    injection h with h1 h2
    rw [nk_kd a b h1, nks_kds s t h2]
theorem nk_ins {ks : List Kd} {ds es : List Dt} (a : AreOf ks ds) (b : AreOf ks es) (h : nk (.tup ds) = nk (.tup es)) : (Dt.tup ds) = .tup es := by
  rw [nk, nk] at h
  injection h with h
  rw [nks_kds a b h]
theorem nk_depth {ks : List Kd} {ds : List Dt} (a : AreOf ks ds) : (nk (.tup ds)).depth ≤ 8 := by
  have : ∀ {ks : List Kd} {ds : List Dt}, AreOf ks ds → NestedKey.depthAll (nks ds) ≤ 1 := by
    intro ks ds a
    induction a with
    | nil => decide
    | @cons k d ks ds h _ ih =>
      rcases kd_cases h with ⟨rfl, i, rfl⟩ | ⟨rfl, b, rfl⟩
      · show max 0 (NestedKey.depthAll (nks ds)) ≤ 1
        omega
      · show max 0 (NestedKey.depthAll (nks ds)) ≤ 1
        omega
  have h := this a
  show NestedKey.depthAll (nks ds) + 1 ≤ 8
  omega
end LM
set_option Elab.async false
set_option linter.all false
set_option maxRecDepth 100000
set_option maxHeartbeats 4000000
namespace LM
open PySem PySem.Spec PyProof.Rows L2
/-! ### the examples looked at -/
def exOk (ks : List Kd) (t : Kd) (x : Dt × Dt) : Bool := inOk ks x.1 && KdOf t x.2
def firstBad (ks : List Kd) (t : Kd) : Nat → List (Dt × Dt) → Option Nat
  | _, [] => none
  | n, x :: r => if exOk ks t x = true then firstBad ks t (n + 1) r else some n
def pairD (x : Dt × Dt) : Dt := .tup [x.1, x.2]
theorem firstBad_skip {ks : List Kd} {t : Kd} : ∀ {n i : Nat} {l : List (Dt × Dt)}, (∀ x ∈ l.take i, exOk ks t x = true) → firstBad ks t n l = firstBad ks t (n + (l.take i).length) (l.drop i)
  | n, 0, l, _ => by simp
  | n, i + 1, [], _ => by simp
  | n, i + 1, x :: l, h => by
    have h1 : exOk ks t x = true := h x (by simp)
    have ih := firstBad_skip (n := n + 1) (i := i) (l := l) (fun y hy => h y (by simp [hy]))
    show (if exOk ks t x = true then firstBad ks t (n + 1) l else some n) = _
    rw [if_pos h1, ih]
    simp only [List.take_succ_cons, List.length_cons, List.drop_succ_cons]
    congr 1
    omega
theorem firstBad_at {ks : List Kd} {t : Kd} {i : Nat} {l : List (Dt × Dt)} {x : Dt × Dt} (h : ∀ y ∈ l.take i, exOk ks t y = true) (hx : l[i]? = some x) (hb : exOk ks t x = false) : firstBad ks t 0 l = some i := by
  obtain ⟨hi, hx2⟩ := List.getElem?_eq_some_iff.mp hx
  rw [firstBad_skip h, List.drop_eq_getElem_cons hi, hx2]
  show (if exOk ks t x = true then _ else some _) = _
  rw [hb, if_neg Bool.false_ne_true, List.length_take]
  congr 1
  omega
theorem firstBad_no {ks : List Kd} {t : Kd} {l : List (Dt × Dt)} (h : ∀ x ∈ l, exOk ks t x = true) : ∀ n, firstBad ks t n l = none := by
  induction l with
  | nil => intro n; rfl
  | cons x l ih =>
    intro n
    show (if exOk ks t x = true then firstBad ks t (n + 1) l else some n) = none
    rw [if_pos (h x List.mem_cons_self)]
    exact ih (fun y hy => h y (List.mem_cons_of_mem _ hy)) (n + 1)
theorem exOk_tup {ks : List Kd} {t : Kd} {x : Dt × Dt} (h : exOk ks t x = true) : ∃ i : List Dt, x.1 = .tup i ∧ AreOf ks i ∧ KdOf t x.2 = true := by
  obtain ⟨h1, h2⟩ := Bool.and_eq_true_iff.mp h
  obtain ⟨i, a⟩ := x
  cases i with
  | tup ds => exact ⟨ds, rfl, areOf_iff.mp h1, h2⟩
  | non => cases h1
  | bl b => cases h1
  | int b => cases h1
  | str b => cases h1
end LM
set_option Elab.async false
set_option linter.all false
set_option maxRecDepth 100000
set_option maxHeartbeats 4000000
namespace LMX
open PySem
/-- enumerate(v), v whatever begins -/
theorem enum_one_meets {v : Value} {o : Obj} {G : Heap → Prop} (B : Begins v o G) :
    Meets (Builtin.«enumerate.__new__» ⟨[.type "enumerate", v], []⟩) (fun _ R s => G s.heap ∧
      R (.ok (.ret (.ref (s.heap.push o).objs.size))) { s with heap := (s.heap.push o).push { cls := .type "enumerate", data := .fields #[.none, .bool false, .ref s.heap.objs.size, rawInt 0, .none, .none] } }) :=
  .of_wp fun prog w A R s h => by
    obtain ⟨hp, gs, dr, tk, os⟩ := s
    obtain ⟨h1, h⟩ := h
    have hsub := sub_enumerate
    have it : ∀ {A' : Around} {E : Value → Shared → Prop} {Q : Value → Shared → Prop}, Q (.ref hp.objs.size) ⟨hp.push o, gs, dr, tk, os⟩ → wpAny (model prog w) A' (pyIter v) Q E ⟨hp, gs, dr, tk, os⟩ :=
      fun q => B.iter prog w _ _ _ _ h1 q
    wp_walk using it
    refine wpAny_stack_any fun st => wpAny_pure ?_
    split
    · rename_i c _ _ _ _ _
      cases (c == Value.type "enumerate")
      · wp_walk using it
        exact ⟨_, rfl, h⟩
      · wp_walk using it
        exact ⟨_, rfl, h⟩
    · wp_walk using it
      exact ⟨_, rfl, h⟩
section
variable {prog : Program} {w : World} {A : Around} {E : Value → Shared → Prop} {s : Shared}
theorem enum_one {v : Value} {o : Obj} {G : Heap → Prop} {Q : Value → Shared → Prop} (B : Begins v o G) (h1 : G s.heap)
    (nx : ∀ h2, IsEnum h2 (s.heap.objs.size + 1) s.heap.objs.size 0 .none → h2.get? s.heap.objs.size = some o → (∀ b u, s.heap.get? b = some u → h2.get? b = some u) → Q (.ref (s.heap.objs.size + 1)) { s with heap := h2 }) :
    wpAny (model prog w) A (call (.type "enumerate") [v]) Q E s := by
  refine callType_new F.called_enumerate (by decide) (F.typeCall_enumerate_1 _) (F.newCall_enumerate_1 _) (fun obj => F.args_object_init_2 obj _) F.entry_enumerate_new (enum_one_meets B) ⟨h1, ?_⟩
  have z : (s.heap.push o).objs.size = s.heap.objs.size + 1 := Heap.size_push ..
  show _ ∧ _
  rw [z]
  have he : IsEnum ((s.heap.push o).push { cls := .type "enumerate", data := .fields #[.none, .bool false, .ref s.heap.objs.size, rawInt 0, .none, .none] }) (s.heap.objs.size + 1) s.heap.objs.size 0 .none := by
    have q := Heap.get?_push_size (s.heap.push o) (o := { cls := .type "enumerate", data := .fields #[.none, .bool false, .ref s.heap.objs.size, rawInt 0, .none, .none] }) rfl
    rw [z] at q
    exact q
  exact ⟨⟨_, he, rfl⟩, nx _ he (Heap.get?_push_of_some _ (Heap.get?_push_size _ B.free)) fun b u y => Heap.get?_push_of_some _ (Heap.get?_push_of_some _ y)⟩
end
end LMX
namespace LM
open PySem PySem.Spec PyProof.Rows L2
/-- the tuple at a, each item in a new pair with its number -/
def Itet (K : PySem.W.Frag) (a : Addr) : It :=
  ⟨fun i H => ∃ (xs : List V) (x : V), SqT K H a xs ∧ xs[i]? = some x, fun i H v H' => ∃ T x, v = .ref T ∧ H T = none ∧ H' = upd H T (.tup [.int (i : Nat), x]) ∧ ∀ xs, SqT K H a xs → xs[i]? = some x, fun i H => ∃ xs : List V, SqT K H a xs ∧ xs.length ≤ i⟩
theorem turn_enumT {P : Program} {w : World} {K : PySem.W.Frag} {elts : List Expr} {kk : Nat} {tpos : Pos} (a e it : Addr) (nat : a ≠ it) (nae : a ≠ e) :
    Turn P w K (.Tuple elts kk tpos) (Itet K a) [e, it] e (fun i h => (∃ old, IsEnum h e it ((i : Nat) : Int) old) ∧ h.IsTupleIter it a i ∧ e ≠ it) where
  mem := by simp
  obj := fun i h st b hb => by
    obtain ⟨⟨old, he⟩, ⟨o, ho, hc, hd⟩, _⟩ := st
    have e1 : b = e ∨ b = it := by simpa using hb
    rcases e1 with z | z
    · rw [z]; exact ⟨_, he, fun v q => nomatch q⟩
    · rw [z]; exact ⟨o, ho, fun v q => by rw [hd] at q; cases q⟩
  keep := fun i h h2 st k => let ⟨⟨old, he⟩, hi, hne⟩ := st; ⟨⟨old, k e (by simp) _ he⟩, hi.at fun o q => k it (by simp) o q, hne⟩
  item := by
    intro X hP hw hK hc i pins s σ H E I hf st hg
    subst hP hw hK
    obtain ⟨⟨old, he⟩, hit, hne⟩ := st
    obtain ⟨xs, x, hq, hx⟩ := hg
    obtain ⟨its, rv, p, hz⟩ := I.tuple hq
    obtain ⟨u, hu, ru⟩ := rv.get hx
    have hel : e < s.heap.objs.size := Heap.lt_size he
    have hil : it < s.heap.objs.size := by obtain ⟨_, q, _⟩ := hit; exact Heap.lt_size q
    have p' : s.heap.IsTuple a its.toArray := p
    have hil2 : i < its.toArray.size := by
      have := (List.getElem?_eq_some_iff.mp hu).1
      simpa using this
    have D := Draws.tuple (prog := X.prog) (w := X.w) (A := X.A.in1) (by exact I.ok.hd hc) it a nat its.toArray
    refine wpAny_pyNext_enum_itemD D he ⟨hit, p'⟩ hil2 hne (by simp [hne, Ne.symm nae]) fun y h1 tk hy ho ⟨hit1, _⟩ hT hsz hk => ?_
    have ey : y = u := by
      have : its[i]? = some y := by simpa using hy
      rw [hu] at this
      exact (Option.some.inj this).symm
    subst ey
    refine ⟨_, rfl, wpAny_letOwnedTupleGo_enum (s := { s with heap := h1, toks := tk + 1 }) ho fun h2 he1 sb => ?_⟩
    have hT2 : h2.get? s.heap.objs.size = some { cls := .type "tuple", data := .seq #[.int i tk, y] } := (sb.2 _ (Nat.ne_of_gt hel)).trans hT
    have new : ObjOk X.prog X.w (upd H s.heap.objs.size (.tup [.int (i : Nat), x])) h2 s.heap.objs.size (.tup [.int (i : Nat), x]) :=
      ⟨by show 2 ≤ sizeLine; decide, [.int i tk, y], .cons ⟨_, rfl⟩ (.cons ru .nil), ⟨_, hT2, rfl, _, rfl⟩⟩
    have I1 : Inv X pins σ (upd H s.heap.objs.size (.tup [.int (i : Nat), x])) { s with heap := h2, toks := tk + 1 } :=
      I.turnedNew (ch := [e, it]) (fun b ob hb q => (sb.2 b (fun z => hb (by simp [z]))).trans (hk b ob (fun z => hb (by simp [z])) (fun z => hb (by simp [z])) q)) hf (Nat.le_refl _) new
    refine ⟨.ref s.heap.objs.size, _, I1, rfl, ⟨_, x, rfl, I.hok.fresh (Nat.le_refl _), rfl, fun ys hy => by rw [I.tuple_inj hy hq]; exact hx⟩, ⟨⟨y, ?_⟩, hit1.at fun o q => (sb.2 it (Ne.symm hne)).trans q, hne⟩, fun b hb => ?_⟩
    · have e2 : ((i + 1 : Nat) : Int) = (i : Int) + 1 := by omega
      rw [e2]; exact he1
    · have hb2 : b < s.heap.objs.size := by
        have e1 : b = e ∨ b = it := by simpa using hb
        rcases e1 with z | z
        · rw [z]; exact hel
        · rw [z]; exact hil
      rw [upd_ne (Nat.ne_of_lt hb2)]
      exact (hf b hb).1
  done := by
    intro X hP hw hK hc i pins s σ H E I hf st hg
    subst hP hw hK
    obtain ⟨⟨old, he⟩, hit, hne⟩ := st
    obtain ⟨xs, hq, hx⟩ := hg
    obtain ⟨its, rv, p, hz⟩ := I.tuple hq
    obtain ⟨f0, f1, f2, f3, f4, f5⟩ := hf it (by simp)
    have hl := rv.length
    have p' : s.heap.IsTuple a its.toArray := p
    have hT : s.TypeIs (.ref e) "enumerate" := ⟨_, he, rfl⟩
    unfold pyNext
    refine wpAny_bind (wpAny_attempt (wpAny_callSpecial?_slot (name := Str.ofString "__next__") hT F.slot_enumerate_next
      (wpAny_call_entry F.slot_enumerate_next hT F.entry_enumerate_next ?_ (F.args_enumerate_next_1 _))))
    show wpAny _ _ (field (.ref e) 2 >>= _) _ _ _
    refine wpAny_bind (wpAny_field he rfl (x := .ref it) rfl ?_)
    refine wpAny_bind (wpAny_nextOf_tuple_end (by exact I.ok.hd hc) hit p' (by simp; omega) fun h1 x he1 hx1 => ?_)
    obtain ⟨o, ho, hcl⟩ := hx1
    refine wpAny_bind (wpAny_isInstance (T := "StopIteration") (b := true) ⟨o, ho, hcl⟩ isSubtype_stop ?_)
    refine wpAny_pure ?_
    exact ⟨rfl, I.turned (t' := s.toks) (fun b o hb q => he1 b o hb q) f0 f1 f3 f4 f5⟩
  self := fun A i s Q E st h => let ⟨⟨_, he⟩, _⟩ := st; wpAny_pyIter_enum he h
/-- a list or (t) a tuple at a place -/
def Sq2 (K : PySem.W.Frag) (t : Bool) (H : Hp) (a : Addr) (xs : List V) : Prop := if t = true then SqT K H a xs else SqL K H a xs
def Ite2 (K : PySem.W.Frag) (t : Bool) (a : Addr) : It := if t = true then Itet K a else Ite K a
def Itl2 (K : PySem.W.Frag) (t : Bool) (a : Addr) : It := if t = true then Itt K a else Itl K a
def iEnum2 (K : PySem.W.Frag) (ta : TA) : TI := fun σ H R => ta σ H fun vs H1 => ∃ t a xs, vs = [.ref a] ∧ Sq2 K t H1 a xs ∧ R (Ite2 K t a) H1
theorem pi_enum2 {X : Cx} {e : Expr} {ta : TA} {p pos tpos : Pos} {elts : List Expr} {kk : Nat} (hg : Gl X "enumerate") (hm : X.mg "enumerate" = none) (ha : PA X [e] ta) (hs : starEach [e] X.env = [(false, eval e X.env)] := by rfl) :
    PI X (.Tuple elts kk tpos) (.Call (.Name "enumerate" p) [e] [] pos) (iEnum2 X.K ta) := by
  refine ⟨fun pins s σ H R I h => ?_⟩
  refine Call_ (ld_blt I hg hm boot_enumerate (PyProof.Rows.callWith_type1 (thn (ha.run pos pins s σ H _ I h) fun us s1 ⟨vs, H1, I1, r1, q1⟩ => ?_) hs rfl))
  obtain ⟨t, a, xs, ex, hq, q⟩ := q1
  subst ex
  cases r1 with
  | cons r rr =>
  cases rr
  cases r
  have fpk : ∀ b, (b = s1.heap.objs.size + 1 ∨ b = s1.heap.objs.size) → s1.heap.objs.size ≤ b := fun b hb => by
    rcases hb with z | z
    · rw [z]; exact Nat.le_add_right _ _
    · rw [z]; exact Nat.le_refl _
  cases t with
  | false =>
    have hq' : SqL X.K H1 a xs := hq
    obtain ⟨its, rv, p', hz⟩ := I1.list hq'
    refine call_enumerate_list p'.isList fun h1 he hit hsz hk => wpAny_pyIter_enum he ?_
    have I2 : Inv X pins σ H1 { s1 with heap := h1 } := I1.kept (t' := s1.toks) hk
    refine ⟨s1.heap.objs.size + 1, [s1.heap.objs.size + 1, s1.heap.objs.size], _, _, H1, rfl, I2, turn_enum a (s1.heap.objs.size + 1) s1.heap.objs.size, ⟨⟨.none, he⟩, hit, Nat.succ_ne_self _⟩, fun b hb => ?_, q⟩
    have hle := fpk b (by simpa using hb)
    exact I1.fpOk hle (I1.hok.fresh hle)
  | true =>
    have hq' : SqT X.K H1 a xs := hq
    obtain ⟨its, rv, p', hz⟩ := I1.tuple hq'
    have p2 : s1.heap.IsTuple a its.toArray := p'
    have al : a < s1.heap.objs.size := by obtain ⟨_, z, _⟩ := p2; exact Heap.lt_size z
    refine LMX.enum_one (begins_tuple a its.toArray) p2 fun h1 he hit hk => wpAny_pyIter_enum he ?_
    have I2 : Inv X pins σ H1 { s1 with heap := h1 } := I1.kept (t' := s1.toks) hk
    refine ⟨s1.heap.objs.size + 1, [s1.heap.objs.size + 1, s1.heap.objs.size], _, _, H1, rfl, I2, turn_enumT a (s1.heap.objs.size + 1) s1.heap.objs.size (Nat.ne_of_lt al) (Nat.ne_of_lt (Nat.lt_succ_of_lt al)), ⟨⟨.none, he⟩, ⟨_, hit, rfl, rfl⟩, Nat.succ_ne_self _⟩, fun b hb => ?_, q⟩
    have hle := fpk b (by simpa using hb)
    exact I1.fpOk hle (I1.hok.fresh hle)
/-- for x in a list or a tuple -/
def iSeq2 (K : PySem.W.Frag) (tl : TE) : TI := fun σ H R => tl σ H fun x H1 => ∃ t a, x = .ref a ∧ (∃ xs, Sq2 K t H1 a xs) ∧ R (Itl2 K t a) H1
theorem pi_seq2 {X : Cx} {tg l : Expr} {tl : TE} (hl : PE X l tl) : PI X tg l (iSeq2 X.K tl) := by
  refine ⟨fun pins s σ H R I h => ?_⟩
  refine thn (hl.run pins s σ H _ I h) fun v s1 ⟨x, H1, I1, r1, q1⟩ => ?_
  obtain ⟨t, a, ex, ⟨xs, hq⟩, q⟩ := q1
  subst ex
  cases r1
  have I2 : ∀ (o : Obj), Inv X pins σ H1 { s1 with heap := s1.heap.push o } := fun o => I1.kept (t' := s1.toks) fun b u z => Heap.get?_push_of_some _ z
  have fp : ∀ b, b ∈ [s1.heap.objs.size] → _ := fun b hb => by
    obtain rfl : b = s1.heap.objs.size := by simpa using hb
    exact I1.fpOk (Nat.le_refl _) (I1.hok.fresh (Nat.le_refl _))
  cases t with
  | false =>
    have hq' : SqL X.K H1 a xs := hq
    obtain ⟨its, rv, p, hz⟩ := I1.list hq'
    exact wpAny_pyIter_list p.isList ⟨s1.heap.objs.size, [s1.heap.objs.size], _, _, H1, rfl, I2 _, turn_list a _, ⟨_, Heap.get?_push_size _ rfl, rfl, rfl⟩, fp, q⟩
  | true =>
    have hq' : SqT X.K H1 a xs := hq
    obtain ⟨its, rv, p, hz⟩ := I1.tuple hq'
    exact wpAny_pyIter_tuple (show s1.heap.IsTuple a its.toArray from p) ⟨s1.heap.objs.size, [s1.heap.objs.size], _, _, H1, rfl, I2 _, turn_tuple a _, ⟨_, Heap.get?_push_size _ rfl, rfl, rfl⟩, fp, q⟩
theorem walk_enum2 {K : PySem.W.Frag} {t : Bool} {a : Addr} {xs : List V} : Walk (Ite2 K t a) xs.length (fun H => Sq2 K t H a xs) (YPair (fun i => some (.int (i : Nat))) (fun i => xs[i]?)) := by
  cases t with
  | false => exact walk_enum (K := K) (a := a) (xs := xs)
  | true =>
    refine ⟨fun i G hi g => ?_, fun G g => ⟨xs, g, Nat.le_refl _⟩, fun i G v G' _ g y => ?_⟩
    · exact ⟨xs, xs[i], g, List.getElem?_eq_getElem hi⟩
    · obtain ⟨T, x, e1, e2, e3, e4⟩ := y
      exact ⟨T, _, x, e1, e2, e3, rfl, e4 xs g⟩
theorem walk_seq2 {K : PySem.W.Frag} {t : Bool} {a : Addr} {xs : List V} : Walk (Itl2 K t a) xs.length (fun H => Sq2 K t H a xs) (YAt xs) := by
  cases t with
  | false => exact walk_list (K := K) (a := a) (xs := xs)
  | true => exact walk_tup (K := K) (a := a) (xs := xs)
/-- an item of a list or a tuple -/
def rIx2 (K : PySem.W.Frag) : R2 := fun x y H Q => rIxL K x y H Q ∨ rIxT K x y H Q
theorem ix_seq2 {X : Cx} : IxR X (rIx2 X.K) := by
  intro value slice pins s σ H x y v u Q I rx ry h hs
  rcases h with h | h
  · exact ix_list value slice pins s σ H x y v u Q I rx ry h hs
  · exact ix_tup value slice pins s σ H x y v u Q I rx ry h hs
/-- such a row stays -/
def LAt (K : PySem.W.Frag) (t : Bool) (H : Hp) (a : Addr) (xs : List V) : Prop := if t = true then SqT K H a xs else H a = some (.lst xs)
section
variable {K : PySem.W.Frag} {H H' : Hp} {t : Bool} {a : Addr} {xs : List V}
theorem LAt.sq (h : LAt K t H a xs) : Sq2 K t H a xs := by
  cases t with
  | false => exact SqL.of (show H a = some (.lst xs) from h)
  | true => exact h
theorem LAt.ch {S : List Addr} (h : LAt K t H a xs) (c : Ch S H H') (ts : Ts H H') (n : t = false → a ∉ S) : LAt K t H' a xs := by
  cases t with
  | false => exact c a _ (n rfl) (show H a = some (.lst xs) from h)
  | true => exact ts.sq (show SqT K H a xs from h)
theorem LAt.ne {b : Addr} (h : LAt K t H a xs) (hb : H b = none) (e : t = false) : a ≠ b := by
  subst e
  exact ne_of_none (show H a = some (.lst xs) from h) hb
theorem LAt.ch0 (h : LAt K t H a xs) (c : Ch [] H H') : LAt K t H' a xs := h.ch c (.of c) (by simp)
theorem LAt.or (h : LAt K t H a xs) : SqL K H a xs ∨ SqT K H a xs := by
  cases t with
  | false => exact .inl (SqL.of (show H a = some (.lst xs) from h))
  | true => exact .inr h
theorem LAt.ix {i : Int} {y : V} {Q : VK} (h : LAt K t H a xs) (e : atI xs i = some y) (q : Q y H) : rIx2 K (.ref a) (.int i) H Q := by
  rcases h.or with s | s
  · exact .inl ⟨a, xs, i, y, rfl, rfl, s, e, q⟩
  · exact .inr ⟨a, xs, i, y, rfl, rfl, s, e, q⟩
end
end LM
set_option Elab.async false
set_option linter.all false
set_option maxRecDepth 100000
set_option maxHeartbeats 4000000
namespace LM
open PySem PySem.Spec PyProof.Rows L2
/-! ### what the dict of known inputs holds -/
structure KnRel (K : PySem.W.Frag) (ks : List Kd) (H : Hp) (xs : List Nent) (acc : List Ent) : Prop where
  keys : ∀ p ∈ xs, ∃ d', DR K H (.ref p.2.1) d' ∧ p.1 = nk d' ∧ p.1.depth ≤ 8
  none_ : ∀ i : List Dt, AreOf ks i → firstOf acc (.tup i) = none → lookN xs (nk (.tup i)) = none
  some_ : ∀ (i : List Dt) (e : Ent), AreOf ks i → firstOf acc (.tup i) = some e → ∃ q, lookN xs (nk (.tup i)) = some (.ref q) ∧ DR K H (.ref q) (.tup [e.2.1, .int e.2.2])
  len : xs.length ≤ acc.length
theorem KnRel.ts {K : PySem.W.Frag} {ks : List Kd} {H H' : Hp} {xs : List Nent} {acc : List Ent} (r : KnRel K ks H xs acc) (t : Ts H H') : KnRel K ks H' xs acc :=
  ⟨fun p hp => let ⟨d, a, b⟩ := r.keys p hp; ⟨d, a.ts t, b⟩, r.none_, fun i e a f => let ⟨q, x, y⟩ := r.some_ i e a f; ⟨q, x, y.ts t⟩, r.len⟩
open Classical in
theorem firstOf_snoc (acc : List Ent) (x : Ent) (j : Dt) : (firstOf acc j = none → x.1 = j → firstOf (acc ++ [x]) j = some x) ∧ (firstOf acc j = none → x.1 ≠ j → firstOf (acc ++ [x]) j = none) ∧ ∀ e, firstOf acc j = some e → firstOf (acc ++ [x]) j = some e := by
  have e0 : firstOf (acc ++ [x]) j = (firstOf acc j).or (firstOf [x] j) := List.find?_append
  have e1 : x.1 = j → firstOf [x] j = some x := fun h => by
    unfold firstOf
    rw [List.find?_cons, decide_eq_true h]
  have e2 : x.1 ≠ j → firstOf [x] j = none := fun h => by
    unfold firstOf
    rw [List.find?_cons, decide_eq_false h]
    rfl
  exact ⟨fun a b => by rw [e0, a, e1 b]; rfl, fun a b => by rw [e0, a, e2 b]; rfl, fun e a => by rw [e0, a]; rfl⟩
theorem lookN_snoc (p : Nent) (k : NestedKey) : ∀ xs : List Nent, (lookN xs k = none → p.1 = k → lookN (xs ++ [p]) k = some p.2.2) ∧ (lookN xs k = none → p.1 ≠ k → lookN (xs ++ [p]) k = none) ∧ ∀ v, lookN xs k = some v → lookN (xs ++ [p]) k = some v
  | [] => ⟨fun _ h => if_pos h, fun _ h => if_neg h, fun v h => by cases h⟩
  | q :: xs => by
    obtain ⟨i1, i2, i3⟩ := lookN_snoc p k xs
    by_cases h : q.1 = k
    · have e1 : lookN (q :: xs) k = some q.2.2 := if_pos h
      have e2 : lookN (q :: xs ++ [p]) k = some q.2.2 := if_pos h
      refine ⟨fun z => ?_, fun z => ?_, fun v z => ?_⟩
      · rw [e1] at z; cases z
      · rw [e1] at z; cases z
      · rw [e1] at z; rw [e2, z]
    · have e1 : lookN (q :: xs) k = lookN xs k := if_neg h
      have e2 : lookN (q :: xs ++ [p]) k = lookN (xs ++ [p]) k := if_neg h
      rw [e1, e2]
      exact ⟨i1, i2, i3⟩
theorem KnRel.old {K : PySem.W.Frag} {ks : List Kd} {H : Hp} {xs : List Nent} {acc : List Ent} {i : List Dt} {a : Dt} {n : Int} (r : KnRel K ks H xs acc) {e : Ent} (h : firstOf acc (.tup i) = some e) : KnRel K ks H xs (acc ++ [(.tup i, a, n)]) := by
  refine ⟨r.keys, fun j hj hn => ?_, fun j f hj hf => ?_, by have := r.len; rw [List.length_append]; omega⟩
  · cases q : firstOf acc (.tup j) with
    | none => exact r.none_ j hj q
    | some g => rw [(firstOf_snoc acc _ _).2.2 g q] at hn; cases hn
  · cases q : firstOf acc (.tup j) with
    | some g =>
      rw [(firstOf_snoc acc _ _).2.2 g q] at hf
      cases hf
      exact r.some_ j _ hj q
    | none =>
      by_cases z : (Dt.tup i) = .tup j
      · rw [z, q] at h; cases h
      · rw [(firstOf_snoc acc _ _).2.1 q z] at hf; cases hf
theorem KnRel.new {K : PySem.W.Frag} {ks : List Kd} {H : Hp} {xs : List Nent} {acc : List Ent} {i : List Dt} {a : Dt} {n : Int} {b q : Addr} (r : KnRel K ks H xs acc) (h : firstOf acc (.tup i) = none) (ai : AreOf ks i) (rb : DR K H (.ref b) (.tup i)) (rq : DR K H (.ref q) (.tup [a, .int n])) :
    KnRel K ks H (xs ++ [(nk (.tup i), b, .ref q)]) (acc ++ [(.tup i, a, n)]) := by
  refine ⟨fun p hp => ?_, fun j hj hn => ?_, fun j f hj hf => ?_, by have := r.len; rw [List.length_append, List.length_append]; simp; omega⟩
  · rcases List.mem_append.mp hp with hp | hp
    · exact r.keys p hp
    · rw [List.mem_singleton.mp hp]
      exact ⟨.tup i, rb, rfl, nk_depth ai⟩
  · cases w : firstOf acc (.tup j) with
    | some g => rw [(firstOf_snoc acc _ _).2.2 g w] at hn; cases hn
    | none =>
      by_cases z : (Dt.tup i) = .tup j
      · rw [(firstOf_snoc acc (.tup i, a, n) _).1 w z] at hn; cases hn
      · exact (lookN_snoc _ _ xs).2.1 (r.none_ j hj w) fun w2 => z (nk_ins ai hj w2)
  · cases w : firstOf acc (.tup j) with
    | some g =>
      rw [(firstOf_snoc acc _ _).2.2 g w] at hf
      cases hf
      obtain ⟨q', x, y⟩ := r.some_ j _ hj w
      exact ⟨q', (lookN_snoc _ _ xs).2.2 _ x, y⟩
    | none =>
      by_cases z : (Dt.tup i) = .tup j
      · rw [(firstOf_snoc acc (.tup i, a, n) _).1 w z] at hf
        cases hf
        refine ⟨q, ?_, rq⟩
        rw [← z]
        exact (lookN_snoc _ _ xs).1 (r.none_ i ai h) rfl
      · rw [(firstOf_snoc acc _ _).2.1 w z] at hf; cases hf
theorem NAt.noTup {P : Program} {w : World} {H : Hp} {d : Addr} {xs : List Nent} (h : NAt P w H d xs) : NoTup (H d) := by
  rcases h with ⟨_, h⟩ | h
  · rw [h]; trivial
  · rw [h]; trivial
theorem NAt.ch {P : Program} {w : World} {H H' : Hp} {d : Addr} {xs : List Nent} {S : List Addr} (h : NAt P w H d xs) (c : Ch S H H') (n : d ∉ S) : NAt P w H' d xs := by
  rcases h with ⟨z, h⟩ | h
  · exact .inl ⟨z, c d _ n h⟩
  · exact .inr (c d _ n h)
/-- one setdefault: the keys as they are known, and what stands behind -/
theorem kn_step {P : Program} {w : World} {K : PySem.W.Frag} {ks : List Kd} {H : Hp} {NK b q : Addr} {xn : List Nent} {acc : List Ent} {i : List Dt} {a : Dt} {n : Int} {Q : VK} (kr : KnRel K ks H xn acc) (na : NAt P w H NK xn) (ai : AreOf ks i) (rb : DR K H (.ref b) (.tup i)) (rq : DR K H (.ref q) (.tup [a, .int n])) (le : acc.length ≤ 1000)
    (old : ∀ (e : Ent) (p : Addr), firstOf acc (.tup i) = some e → DR K H (.ref p) (.tup [e.2.1, .int e.2.2]) → KnRel K ks H xn (acc ++ [(.tup i, a, n)]) → Q (.ref p) H)
    (new : ∀ (xn' : List Nent) (H' : Hp), firstOf acc (.tup i) = none → Ch [NK] H H' → Ts H H' → NAt P w H' NK xn' → KnRel K ks H' xn' (acc ++ [(.tup i, a, n)]) → Q (.ref q) H') :
    ∃ (b' : Addr) (d : Dt) (xs : List Nent), V.ref b = .ref b' ∧ DR K H (.ref b') d ∧ (nk d).depth ≤ 8 ∧ NAt P w H NK xs ∧ xs.length ≤ 1000 ∧
      (∀ p ∈ xs, ∃ d', DR K H (.ref p.2.1) d' ∧ p.1 = nk d' ∧ p.1.depth ≤ 8) ∧ (∀ v, lookN xs (nk d) = some v → Q v H) ∧ (lookN xs (nk d) = none → Q (.ref q) (upd H NK (kdHO P w NK (xs ++ [(nk d, b', .ref q)])))) := by
  refine ⟨b, .tup i, xn, rfl, rb, nk_depth ai, na, by have := kr.len; omega, kr.keys, fun v hv => ?_, fun hn => ?_⟩
  · cases h : firstOf acc (.tup i) with
    | none => rw [kr.none_ i ai h] at hv; cases hv
    | some e =>
      obtain ⟨p, hp, rp⟩ := kr.some_ i e ai h
      rw [hp] at hv
      cases hv
      exact old e p h rp (kr.old h)
  · cases h : firstOf acc (.tup i) with
    | some e =>
      obtain ⟨p, hp, _⟩ := kr.some_ i e ai h
      rw [hp] at hn
      cases hn
    | none =>
      have t : Ts H (upd H NK (kdHO P w NK (xn ++ [(nk (.tup i), b, .ref q)]))) := .upd na.noTup
      exact new _ _ h (.put (by simp)) t (.inr upd_same) ((kr.new h ai rb rq).ts t)
theorem setN_imp {P : Program} {w : World} {K : PySem.W.Frag} {H : Hp} {NK : Addr} {y z : V} {R Q : VK} (h : ∃ (b' : Addr) (d : Dt) (xs : List Nent), y = .ref b' ∧ DR K H (.ref b') d ∧ (nk d).depth ≤ 8 ∧ NAt P w H NK xs ∧ xs.length ≤ 1000 ∧
      (∀ p ∈ xs, ∃ d', DR K H (.ref p.2.1) d' ∧ p.1 = nk d' ∧ p.1.depth ≤ 8) ∧ (∀ v, lookN xs (nk d) = some v → R v H) ∧ (lookN xs (nk d) = none → R z (upd H NK (kdHO P w NK (xs ++ [(nk d, b', z)]))))) (k : ∀ v G, R v G → Q v G) :
    ∃ (b' : Addr) (d : Dt) (xs : List Nent), y = .ref b' ∧ DR K H (.ref b') d ∧ (nk d).depth ≤ 8 ∧ NAt P w H NK xs ∧ xs.length ≤ 1000 ∧
      (∀ p ∈ xs, ∃ d', DR K H (.ref p.2.1) d' ∧ p.1 = nk d' ∧ p.1.depth ≤ 8) ∧ (∀ v, lookN xs (nk d) = some v → Q v H) ∧ (lookN xs (nk d) = none → Q z (upd H NK (kdHO P w NK (xs ++ [(nk d, b', z)])))) := by
  obtain ⟨b, d, xs, h1, h2, h3, h4, h5, h6, h7, h8⟩ := h
  exact ⟨b, d, xs, h1, h2, h3, h4, h5, h6, fun v hv => k _ _ (h7 v hv), fun hn => k _ _ (h8 hn)⟩
/-- what one setdefault leaves -/
def StepR (P : Program) (w : World) (K : PySem.W.Frag) (ks : List Kd) (H : Hp) (NK : Addr) (acc : List Ent) (ins : List Dt) (a : Dt) (n : Int) : VK := fun v G => ∃ (p : Addr) (e : Ent) (xk : List Nent), v = .ref p ∧ Ch [NK] H G ∧ Ts H G ∧ NAt P w G NK xk ∧ KnRel K ks G xk (acc ++ [(.tup ins, a, n)]) ∧
  DR K G (.ref p) (.tup [e.2.1, .int e.2.2]) ∧ (firstOf acc (.tup ins) = some e ∨ (firstOf acc (.tup ins) = none ∧ e = (.tup ins, a, n)))
open Classical in
theorem lookRes_cons {came m : Int} {acc : List Ent} {n : Nat} {i a : Dt} {r : List (Dt × Dt)} {e : Ent} (h : firstOf acc i = some e ∨ (firstOf acc i = none ∧ e = (i, a, m))) : (e.2.1 ≠ a → lookRes came acc n ((i, a) :: r) = some (n, e.2.2)) ∧ (e.2.1 = a → lookRes came acc n ((i, a) :: r) = lookRes came (acc ++ [(i, a, came + n)]) (n + 1) r) := by
  conv => lhs; rw [lookRes]
  conv => rhs; rw [lookRes]
  rcases h with h | ⟨h, rfl⟩
  · rw [h]
    exact ⟨fun z => if_neg z, fun z => if_pos z⟩
  · rw [h]
    exact ⟨fun z => absurd rfl z, fun _ => rfl⟩
/-- two answers of one kind, as values -/
theorem kd_vals {K : PySem.W.Frag} {H : Hp} {t : Kd} {v u : V} {d e : Dt} (h1 : KdOf t d = true) (h2 : KdOf t e = true) (r1 : DR K H v d) (r2 : DR K H u e) : scal v u = true ∧ (v = u ↔ d = e) := by
  rcases kd_cases h1 with ⟨rfl, i, rfl⟩ | ⟨rfl, b, rfl⟩
  · rcases kd_cases h2 with ⟨_, j, rfl⟩ | ⟨z, _⟩
    · rw [r1.int_inv, r2.int_inv]
      exact ⟨rfl, ⟨fun h => by injection h with h; rw [h], fun h => by injection h with h; rw [h]⟩⟩
    · cases z
  · rcases kd_cases h2 with ⟨z, _⟩ | ⟨_, c, rfl⟩
    · cases z
    · rw [r1.bl_inv, r2.bl_inv]
      exact ⟨rfl, ⟨fun h => by injection h with h; rw [h], fun h => by injection h with h; rw [h]⟩⟩
section
variable {P : Program} {w : World} {K : PySem.W.Frag} {mg : Str → Option Value} {base : Heap}
def spLookEx (K : PySem.W.Frag) (C CI CC : Addr) : Sp := fun vs H Q E => ∃ (M TH WR L : Addr) (hv : Hd) (ks : List Kd) (t : Kd) (es : List (Int × Dt)) (came : Int) (lg : List Dt) (b : Bool) (tp : Bool) (xs : List V) (sm : List (Dt × Dt)), vs = [.ref M, .ref L] ∧ MkA K H C M TH WR hv es came lg b ∧ DR K H hv (hdD ks t) ∧ LAt K tp H L xs ∧ DRs K H xs (sm.map pairD) ∧
  sm.length ≤ 200 ∧ es.length ≤ 200 ∧ ks.length ≤ 200 ∧ Fit ks t es ∧
  (∀ n, firstBad ks t 0 sm = some n → Raised H E CI [("at", .int (n : Int))]) ∧
  (firstBad ks t 0 sm = none → ∀ n m, lookRes came (entsOf es) 0 sm = some (n, m) → Raised H E CC [("number", .int m), ("at", .int (n : Int))]) ∧
  (firstBad ks t 0 sm = none → lookRes came (entsOf es) 0 sm = none → ∀ H', Ch [] H H' → Q .non H')
theorem sc_lookex : FnScope ["self", "some", "kinds", "kind", "at", "inputs", "answer", "known", "number", "thing", "due"] ["self", "some"] (defScope (inClass (top 40) 7)) := ⟨rfl, rfl, rfl, by decide +kernel, rfl, by decide +kernel, by decide +kernel⟩
theorem ok_lookex {C CI CC : Addr} (T : Bn mg) (U : Mt K C) (D : DfM K C "look_examples" "Maker.look_examples" (inClass (top 40) 7)) (O_are_of : OkF P w K mg base CX0 3 "are_of" ["kinds", "things"] (spAreOf K)) (O_is_of : OkF P w K mg base CX0 2 "is_of" ["kind", "thing"] (spIsOf K))
    (O_NoInputs : OkX P w K mg base 1 "NoInputs" CI ["self", "at"] (spErr1 CI)) (O_Clash : OkX P w K mg base 1 "Clash" CC ["self", "at", "number"] (spErr2 CC)) : OkM P w K mg base (L2.CX P w) 4 C "look_examples" ["self", "some"] (spLookEx K C CI CC) := by
  refine okMX U.cl D sc_lookex (fun _ _ _ _ _ _ us hl => match us, hl with | [_, _], _ => rfl) (fun vs H Q E h => ?_) (fun f cdv A outer s H vs Q E hr h => ?_)
  · obtain ⟨M, TH, WR, L, hv, ks, t, es, came, lg, b, tp, xs, sm, rfl, _⟩ := h
    rfl
  · obtain ⟨M, TH, WR, L, hv, ks, t, es, came, lg, b, tp, xs, sm, rfl, m, rh, hL, rx, ls, le, lk, fit, q1, q2, q3⟩ := h
    have nd := sc_lookex.nd
    have hu9' := hu9 hr
    obtain ⟨dx, sv, kvs, lgs, e1, e2, e3, r1, r2⟩ := m.ex
    obtain ⟨hh, st0, far0⟩ := hv
    have rh0 : DR K H hh (hdD ks t) := rh
    obtain ⟨ha, hxs, rfl, hS, hD⟩ := rh0.tup_inv
    cases hD with
    | cons h1 hD =>
    cases hD with
    | cons h2 hD =>
    cases hD
    rename_i kv tv
    have ht := h2.str_inv
    subst ht
    refine ⟨_, (pss_cons (ps_asg (pe_fld (pv 0) rfl) (pg_tup rfl (pgs_cons (pg_name (i := 2) nd rfl (Or.inl rfl)) (pgs_cons (pg_name (i := 3) nd rfl (Or.inl rfl)) pgs_nil))))
  (pss_cons (ps_for (passes_of rfl) rfl (pi_enum2 (by rfl) T.b_enumerate (pa_cons (pv 1) pa_nil)) (pg_tup rfl (pgs_cons (pg_name (i := 4) nd rfl (Or.inl rfl)) (pgs_cons (pg_tup rfl (pgs_cons (pg_name (i := 5) nd rfl (Or.inl rfl)) (pgs_cons (pg_name (i := 6) nd rfl (Or.inl rfl)) pgs_nil))) pgs_nil))) (pss_one (ps_if (PW.pt (pw_or (pt_not (pt_val (pe_callF O_are_of (hr.mono (by omega)) rfl pass0 (pa_cons (pv 2) (pa_cons (pv 5) pa_nil))) (by intro _; rfl))) (pw_or1 (pt_not (pt_val (pe_callF O_is_of (hr.mono (by omega)) rfl pass0 (pa_cons (pv 3) (pa_cons (pv 6) pa_nil))) (by intro _; rfl)))))) (pss_one (ps_raise rfl (takes_of rfl rfl rfl rfl) (pmk_okX O_NoInputs (hr.mono (by omega)) rfl (pa_cons (pv 4) pa_nil)))) pss_nil)))
  (pss_cons (ps_set (i := 7) nd rfl (Or.inl rfl) pe_dnewK)
  (pss_cons (ps_lock (ps_for (passes_of rfl) rfl (pi_items (pe_fld (pv 0) rfl)) (pg_tup rfl (pgs_cons (pg_name (i := 8) nd rfl (Or.inl rfl)) (pgs_cons (pg_name (i := 9) nd rfl (Or.inl rfl)) pgs_nil))) (pss_one (ps_if (pt_cmpR op_eq (pe_ix (r := rIxT K) ix_tup (pv 9) pe_int (fun _ _ => rfl)) pe_str (nomark _)) (pss_one (ps_expr (pe_setN hu9' (pv 7) (pe_ix (r := rIxT K) ix_tup (pv 9) pe_int (fun _ _ => rfl)) (pe_tup (pa_cons (pe_ix (r := rIxT K) ix_tup (pv 9) pe_int (fun _ _ => rfl)) (pa_cons (pv 8) pa_nil))) ⟨rfl, rfl, rfl, rfl⟩))) pss_nil))))
  (pss_one (ps_for (passes_of rfl) rfl (pi_enum2 (by rfl) T.b_enumerate (pa_cons (pv 1) pa_nil)) (pg_tup rfl (pgs_cons (pg_name (i := 4) nd rfl (Or.inl rfl)) (pgs_cons (pg_tup rfl (pgs_cons (pg_name (i := 5) nd rfl (Or.inl rfl)) (pgs_cons (pg_name (i := 6) nd rfl (Or.inl rfl)) pgs_nil))) pgs_nil))) (pss_cons (ps_asg (pe_setN hu9' (pv 7) (pv 5) (pe_tup (pa_cons (pv 6) (pa_cons (pe_op op_add (pe_fld (pv 0) rfl) (pv 4)) pa_nil))) ⟨rfl, rfl, rfl, rfl⟩) (pg_tup rfl (pgs_cons (pg_name (i := 10) nd rfl (Or.inl rfl)) (pgs_cons (pg_name (i := 8) nd rfl (Or.inl rfl)) pgs_nil))))
  (pss_one (ps_if (pt_cmpR op_ne (pv 10) (pv 6) (nomark _)) (pss_one (ps_raise rfl (takes_of rfl rfl rfl rfl) (pmk_okX O_Clash (hr.mono (by omega)) rfl (pa_cons (pv 4) (pa_cons (pv 8) pa_nil))))) pss_nil))))))))), ?_⟩
    refine ⟨_, rfl, M, C, dx, _, _, rfl, e1, U.cl, U.n_head, mF_head, ha, _, rfl, hS, rfl, _, _, rfl, _, _, rfl, rfl, ?_⟩
    -- the first loop: kinds of the inputs
    refine ⟨_, rfl, tp, L, xs, rfl, hL.sq, ?_⟩
    refine for_it (walk_enum2 (K := K) (t := tp) (a := L) (xs := xs)) (fun i σ' H' => ∃ u1 u2 u3 : Option V, σ' = [some (.ref M), some (.ref L), some kv, some (.str t.s), u1, u2, u3, none, none, none, none] ∧ Ch [] H H' ∧ ∀ x ∈ sm.take i, exOk ks t x = true) ⟨none, none, none, rfl, .refl, by simp⟩ ?_ ?_ ?_
    · rintro i σ' H' _ ⟨_, _, _, _, c, _⟩
      exact (hL.ch0 c).sq
    · rintro i x σ' Hx H' hi ⟨u1, u2, u3, rfl, c, hok⟩ ⟨TT, xi, y, rfl, hT, rfl, ex, ey⟩
      have ex' := Option.some.inj ex
      subst ex'
      obtain ⟨d, hd, rd⟩ := rx.getv ey
      rw [List.getElem?_map] at hd
      obtain ⟨pr, hpr, rfl⟩ := Option.map_eq_some_iff.mp hd
      have c2 : Ch [] H (upd Hx TT (.tup [.int (i : Nat), y])) := c.trans (.new hT)
      have sT : SqT K (upd Hx TT (.tup [.int (i : Nat), y])) TT [.int (i : Nat), y] := SqT.of upd_same
      generalize upd Hx TT (.tup [.int (i : Nat), y]) = H1 at c2 sT ⊢
      obtain ⟨pa, pxs, rfl, pS, pD⟩ := (rd.ch c2).tup_inv
      cases pD with
      | cons d1 pD =>
      cases pD with
      | cons d2 pD =>
      cases pD
      rename_i iv av
      refine ⟨TT, _, rfl, sT, rfl, _, _, rfl, _, _, rfl, pa, _, rfl, pS, rfl, _, _, rfl, _, _, rfl, rfl, rfl, ?_⟩
      refine ⟨_, rfl, _, rfl, kv, iv, ks, pr.1, rfl, h1.ch c2, d1, by omega, fun H2 c3 => ?_⟩
      have c23 := c2.trans c3
      have bad : exOk ks t pr = false → (tMkO CI (spErr1 CI) [] (tCons (tVar 4) tNil)) [some (.ref M), some (.ref L), some kv, some (.str t.s), some (.int (i : Nat)), some iv, some av, none, none, none, none] H2 fun cls d H' => E cls d H' := fun hb => by
        refine ⟨_, rfl, ?_⟩
        exact raise1 ((q1 i (firstBad_at hok hpr hb)).ch c23)
      refine ⟨_, rfl, ?_⟩
      refine iteB (fun eb => ?_) (fun eb => ?_)
      · refine bad ?_
        show (inOk ks pr.1 && KdOf t pr.2) = false
        have : inOk ks pr.1 = false := by simpa using eb
        rw [this, Bool.false_and]
      refine ⟨_, rfl, _, rfl, t, av, pr.2, rfl, d2.ch c3, ?_⟩
      refine ⟨_, rfl, ?_⟩
      refine iteB (fun eb2 => ?_) (fun eb2 => ?_)
      · refine bad ?_
        show (inOk ks pr.1 && KdOf t pr.2) = false
        have : KdOf t pr.2 = false := by simpa using eb2
        rw [this, Bool.and_false]
      refine ⟨_, _, _, rfl, c23, fun x hx => ?_⟩
      rw [take_one hpr] at hx
      rcases List.mem_append.mp hx with hx | hx
      · exact hok x hx
      · rw [List.mem_singleton.mp hx]
        show (inOk ks pr.1 && KdOf t pr.2) = true
        have w1 : inOk ks pr.1 = true := by simpa using eb
        have w2 : KdOf t pr.2 = true := by simpa using eb2
        rw [w1, w2]
        rfl
    rintro σ1 H1 ⟨u1, u2, u3, rfl, c1, hok⟩
    have lx : xs.length = sm.length := by rw [rx.len, List.length_map]
    rw [lx, List.take_length] at hok
    have nobad := firstBad_no hok 0
    have q2' := q2 nobad
    have q3' := q3 nobad
    clear q1 q2 q3
    -- a new dict
    intro NK hNK
    have c2 : Ch [] H1 (upd H1 NK (.dK [])) := .new hNK
    have eNK : upd H1 NK (.dK []) NK = some (.dK []) := upd_same
    have nK0 : H NK = none := c1.free hNK
    generalize upd H1 NK (.dK []) = H2 at c2 eNK ⊢
    have c02 := c1.trans c2
    have e1' := c02 M _ (by simp) e1
    have e2' := c02 TH _ (by simp) e2
    have r1' := r1.ts (.of c02)
    have nTN : TH ≠ NK := ne_of_none e2 nK0
    have nMN : M ≠ NK := ne_of_none e1 nK0
    have nLN : tp = false → L ≠ NK := hL.ne nK0
    dsimp only [gName, tSeq, List.set]
    -- what is kept
    refine ⟨TH, _, e2', trivial, fun od => ?_⟩
    have t3 : Ts H2 (upd H2 TH (.frz od (.dK kvs))) := .upd (by rw [e2']; trivial)
    have e1l : upd H2 TH (.frz od (.dK kvs)) M = some (.ins C dx (mF ⟨.ref ha, st0, far0⟩ sv TH came WR b)) := by rw [upd_ne (ne_of e1 e2 (by intro z; cases z))]; exact e1'
    refine ⟨_, rfl, M, C, dx, _, _, rfl, e1l, U.cl, U.n_things, mF_things, TH, od, kvs, rfl, upd_same, ?_⟩
    refine for_it (walk_items (d := TH) (o := od) (kvs := kvs)) (fun i σ' H' => ∃ (u1 u2 u3 u4 u5 : Option V) (xn : List Nent), σ' = [some (.ref M), some (.ref L), some kv, some (.str t.s), u1, u2, u3, some (.ref NK), u4, u5, none] ∧ H' TH = some (.frz od (.dK kvs)) ∧ (∀ a o, a ≠ NK → a ≠ TH → H2 a = some o → H' a = some o) ∧ Ts H2 H' ∧ NAt P w H' NK xn ∧ KnRel K ks H' xn (entsOf (es.take i))) ?_ ?_ ?_ ?_
    · refine ⟨u1, u2, u3, none, none, [], rfl, upd_same, fun a o _ n2 e => by rw [upd_ne n2]; exact e, t3, .inl ⟨rfl, ?_⟩, ⟨fun p hp => by simp at hp, fun _ _ _ => rfl, fun i e _ h => (by cases h), Nat.zero_le _⟩⟩
      rw [upd_ne (Ne.symm nTN)]
      exact eNK
    · rintro i σ' H' _ ⟨_, _, _, _, _, _, _, h, _⟩
      exact h
    · rintro i x σ' Hx H' hi ⟨u1, u2, u3, u4, u5, xn, rfl, hTH, hk, ht, na, kr⟩ ⟨TT, xi, y, rfl, hT, rfl, ex, ey⟩
      obtain ⟨kq, hkq⟩ : ∃ kq, kvs[i]? = some kq := ⟨_, List.getElem?_eq_getElem hi⟩
      have ex2 : (kvs[i]?.map fun kv => kV kv.1) = some xi := ex
      have ey2 : (kvs[i]?.map Prod.snd) = some y := ey
      rw [hkq] at ex2 ey2
      have ex' : kV kq.1 = xi := Option.some.inj ex2
      have ey' : kq.2 = y := Option.some.inj ey2
      subst ex'
      subst ey'
      obtain ⟨num, d, hkn, hes, rd⟩ := r1'.get (k := kq.1) (v := kq.2) hkq
      have ct : Ch [] Hx (upd Hx TT (.tup [kV kq.1, kq.2])) := .new hT
      have sT : SqT K (upd Hx TT (.tup [kV kq.1, kq.2])) TT [kV kq.1, kq.2] := SqT.of upd_same
      have naT : NAt P w (upd Hx TT (.tup [kV kq.1, kq.2])) NK xn := by
        rcases na with ⟨z, na⟩ | na
        · exact .inl ⟨z, ct NK _ (by simp) na⟩
        · exact .inr (ct NK _ (by simp) na)
      have hTH' := ct TH _ (by simp) hTH
      have rdx := (rd.ts ht).ts (.of ct)
      have krT := kr.ts (.of ct)
      have hkT : ∀ a o, a ≠ NK → a ≠ TH → H2 a = some o → upd Hx TT (.tup [kV kq.1, kq.2]) a = some o := fun a o n1 n2 e => ct a o (by simp) (hk a o n1 n2 e)
      have htT := ht.trans (.of ct)
      generalize upd Hx TT (.tup [kV kq.1, kq.2]) = H3 at ct sT naT hTH' rdx krT hkT htT ⊢
      rw [hkn] at sT
      refine ⟨TT, _, rfl, sT, rfl, _, _, rfl, _, _, rfl, rfl, ?_⟩
      rcases fit _ (List.mem_of_getElem? hes) with ⟨p, hp, _⟩ | ⟨ins, ans, hex, ha1, ha2⟩
      · dsimp only at hp
        subst hp
        refine ⟨_, rfl, ?_⟩
        dsimp only [tC]
        refine ix_dt (n := 0) rdx rfl fun y0 ry0 => ?_
        rw [ry0.str_inv]
        refine ⟨rfl, _, rfl, ?_⟩
        refine iteD (fun z => absurd z (by decide +kernel)) (fun _ => ?_)
        refine ⟨_, _, _, _, _, xn, rfl, hTH', hkT, htT, naT, ?_⟩
        rw [take_one hes, entsOf_snoc, entOf_wish, List.append_nil]
        exact krT
      · dsimp only at hex
        subst hex
        have hi2 : ∀ {n : Nat} {z : Dt} {R : VK}, ([Dt.str "example", .tup ins, ans] : List Dt)[n]? = some z → (∀ y, DR K H3 y z → R y H3) → rIxT K kq.2 (.int (n : Int)) H3 R := fun e k => ix_dt rdx e k
        refine ⟨_, rfl, ?_⟩
        dsimp only [tC]
        refine hi2 (n := 0) rfl fun y0 ry0 => ?_
        rw [ry0.str_inv]
        refine ⟨rfl, _, rfl, ?_⟩
        refine iteD (fun _ => ?_) (fun z => absurd rfl z)
        refine ⟨_, rfl, NK, xn, rfl, naT, _, rfl, ?_⟩
        dsimp only [tC]
        refine hi2 (n := 1) rfl fun y1 ry1 => ?_
        refine ⟨_, rfl, ?_⟩
        dsimp only [tC]
        refine hi2 (n := 2) rfl fun y2 ry2 => ?_
        refine ⟨_, rfl, (by show 2 ≤ sizeLine; decide), fun q5 hq5 => ?_⟩
        obtain ⟨b1, bxs, rfl, _, _⟩ := ry1.tup_inv
        have c5 : Ch [] H3 (upd H3 q5 (.tup [y2, kV (Sum.inl num)])) := .new hq5
        have rq : DR K (upd H3 q5 (.tup [y2, kV (Sum.inl num)])) (.ref q5) (.tup [ans, .int num]) := .new (.cons ry2 (.cons (.int _) .nil)) hq5
        generalize upd H3 q5 (.tup [y2, kV (Sum.inl num)]) = H5 at c5 rq ⊢
        have eents : entsOf (es.take (i + 1)) = entsOf (es.take i) ++ [(.tup ins, ans, num)] := by rw [take_one hes, entsOf_snoc, entOf_ex]
        have lents : (entsOf (es.take i)).length ≤ 200 := by
          have h1 : (entsOf (es.take i)).length ≤ (es.take i).length := List.length_filterMap_le _ _
          rw [List.length_take] at h1
          omega
        have hTH5 := c5 TH _ (by simp) hTH'
        refine kn_step (Q := fun _ G => ∃ (w1 w2 w3 w4 w5 : Option V) (xm : List Nent), [some (.ref M), some (.ref L), some kv, some (.str t.s), u1, u2, u3, some (.ref NK), some (kV (Sum.inl num)), some kq.2, none] = [some (.ref M), some (.ref L), some kv, some (.str t.s), w1, w2, w3, some (.ref NK), w4, w5, none] ∧ G TH = some (.frz od (.dK kvs)) ∧
          (∀ a o, a ≠ NK → a ≠ TH → H2 a = some o → G a = some o) ∧ Ts H2 G ∧ NAt P w G NK xm ∧ KnRel K ks G xm (entsOf (es.take (i + 1)))) (krT.ts (.of c5)) (naT.ch c5 (by simp)) ha1 (ry1.ch c5) rq (by omega) (fun e p _ _ kr' => ?_) (fun xn' H6 _ c6 t6 na6 kr6 => ?_)
        · refine ⟨_, _, _, _, _, xn, rfl, hTH5, fun a o n1 n2 e => c5 a o (by simp) (hkT a o n1 n2 e), htT.trans (.of c5), naT.ch c5 (by simp), ?_⟩
          rw [eents]
          exact kr'
        · refine ⟨_, _, _, _, _, xn', rfl, c6 TH _ (by simpa using nTN) hTH5, fun a o n1 n2 e => c6 a o (by simpa using n1) (c5 a o (by simp) (hkT a o n1 n2 e)), (htT.trans (.of c5)).trans t6, na6, ?_⟩
          rw [eents]
          exact kr6
    rintro σ3 H3 ⟨v1, v2, v3, v4, v5, xn, rfl, hTH3, hk3, ht3, na3, kr3⟩
    rw [r1.len, List.take_length] at kr3
    refine ⟨hTH3, ?_⟩
    -- behind the lock
    have t4 : Ts H3 (upd H3 TH (.dK kvs)) := by
      intro a u h
      rcases h with h | ⟨o, h⟩
      · refine .inl ?_
        by_cases z : a = TH
        · rw [z, hTH3] at h; cases h
        · rw [upd_ne z]; exact h
      · refine .inr ⟨o, ?_⟩
        by_cases z : a = TH
        · rw [z, hTH3] at h; cases h
        · rw [upd_ne z]; exact h
    have na4 : NAt P w (upd H3 TH (.dK kvs)) NK xn := by
      rcases na3 with ⟨z, h⟩ | h
      · exact .inl ⟨z, by rw [upd_ne (Ne.symm nTN)]; exact h⟩
      · exact .inr (by rw [upd_ne (Ne.symm nTN)]; exact h)
    have c4 : Ch [NK] H2 (upd H3 TH (.dK kvs)) := fun a o n e => by
      by_cases z : a = TH
      · rw [z] at e ⊢
        rw [e2'] at e
        cases e
        exact upd_same
      · rw [upd_ne z]
        exact hk3 a o (by simpa using n) z e
    have kr4 := kr3.ts t4
    have t24 := ht3.trans t4
    generalize upd H3 TH (.dK kvs) = H4 at c4 na4 kr4 t24 ⊢
    have c04 : Ch [] H H4 := fun a o _ e => c4 a o (by
      have : a ≠ NK := ne_of_none e nK0
      simpa using this) (c02 a o (by simp) e)
    have e1f := c04 M _ (by simp) e1
    have hLf := hL.ch0 c04
    have rxf := rx.ch c04
    -- the second look: clashes
    refine ⟨_, rfl, tp, L, xs, rfl, hLf.sq, ?_⟩
    refine for_it (walk_enum2 (K := K) (t := tp) (a := L) (xs := xs)) (fun i σ' H' => ∃ (u1 u2 u3 u4 u5 u6 : Option V) (xn : List Nent) (acc : List Ent), σ' = [some (.ref M), some (.ref L), some kv, some (.str t.s), u1, u2, u3, some (.ref NK), u4, u5, u6] ∧ Ch [NK] H4 H' ∧ Ts H4 H' ∧ NAt P w H' NK xn ∧ KnRel K ks H' xn acc ∧ acc.length ≤ 200 + i ∧ (∀ e ∈ acc, KdOf t e.2.1 = true) ∧
      lookRes came (entsOf es) 0 sm = lookRes came acc i (sm.drop i)) ?_ ?_ ?_ ?_
    · refine ⟨v1, v2, v3, v4, v5, none, xn, entsOf es, rfl, .refl, .refl, na4, kr4, ?_, fun e he => ?_, rfl⟩
      · have h1 : (entsOf es).length ≤ es.length := List.length_filterMap_le _ _
        omega
      · obtain ⟨_, _, _, h⟩ := fit.ents e he
        exact h
    · rintro i σ' H' _ ⟨_, _, _, _, _, _, _, _, _, c, ts, _⟩
      exact (hLf.ch c ts fun z => by simpa using nLN z).sq
    · rintro i x σ' Hx H' hi ⟨u1, u2, u3, u4, u5, u6, xm, acc, rfl, c, ts, na, kr, la, ty, hres⟩ ⟨TT, xi, y, rfl, hT, rfl, ex, ey⟩
      have ex' := Option.some.inj ex
      subst ex'
      obtain ⟨d, hd, rd⟩ := rxf.getv ey
      rw [List.getElem?_map] at hd
      obtain ⟨pr, hpr, rfl⟩ := Option.map_eq_some_iff.mp hd
      obtain ⟨ins, ei, ai, ak⟩ := exOk_tup (hok pr (List.mem_of_getElem? hpr))
      have ct : Ch [] Hx (upd Hx TT (.tup [.int (i : Nat), y])) := .new hT
      have sT : SqT K (upd Hx TT (.tup [.int (i : Nat), y])) TT [.int (i : Nat), y] := SqT.of upd_same
      have c5 : Ch [NK] H4 (upd Hx TT (.tup [.int (i : Nat), y])) := c.trans (.new hT)
      have ts5 := ts.trans (.of ct)
      have naT := na.ch ct (by simp)
      have krT := kr.ts (.of ct)
      generalize upd Hx TT (.tup [.int (i : Nat), y]) = H5 at ct sT c5 ts5 naT krT ⊢
      obtain ⟨pa, pxs, rfl, pS, pD⟩ := (rd.ts ts5).tup_inv
      cases pD with
      | cons d1 pD =>
      cases pD with
      | cons d2 pD =>
      cases pD
      rename_i iv av
      rw [ei] at d1
      obtain ⟨ib, ixs, rfl, iS, iD⟩ := d1.tup_inv
      refine ⟨TT, _, rfl, sT, rfl, _, _, rfl, _, _, rfl, pa, _, rfl, pS, rfl, _, _, rfl, _, _, rfl, rfl, rfl, ?_⟩
      have e1g := c5 M _ (by simpa using nMN) e1f
      refine ⟨_, rfl, NK, xm, rfl, naT, _, rfl, _, rfl, _, rfl, M, C, dx, _, _, rfl, e1g, U.cl, U.n_came, mF_came, _, rfl, _, _, rfl, rfl, (by show 2 ≤ sizeLine; decide), fun q6 hq6 => ?_⟩
      have c6 : Ch [] H5 (upd H5 q6 (.tup [av, .int (came + (i : Nat))])) := .new hq6
      have rq : DR K (upd H5 q6 (.tup [av, .int (came + (i : Nat))])) (.ref q6) (.tup [pr.2, .int (came + (i : Nat))]) := .new (.cons d2 (.cons (.int _) .nil)) hq6
      have gen6 : ∃ G, G = upd H5 q6 (.tup [av, .int (came + (i : Nat))]) := ⟨_, rfl⟩
      obtain ⟨G6, hG6⟩ := gen6
      rw [← hG6] at c6 rq
      rw [show upd H5 q6 (.tup [av, (fun i j => V.int (i + j)) came (i : Nat)]) = G6 from hG6.symm]
      have kst := kn_step (Q := StepR P w K ks G6 NK acc ins pr.2 (came + (i : Nat)))
        (krT.ts (.of c6)) (naT.ch c6 (by simp)) ai (d1.ch c6) rq (by have := lx; omega) (fun e p hf rp kr' => ⟨p, e, _, rfl, .refl, .refl, naT.ch c6 (by simp), kr', rp, .inl hf⟩) (fun xn' H7 hf c7 t7 na7 kr7 => ⟨q6, _, xn', rfl, c7, t7, na7, kr7, rq.ts t7, .inr ⟨hf, rfl⟩⟩)
      obtain ⟨b', d', xs', h1, h2, h3, h4, h5, h6, h7, h8⟩ := kst
      refine ⟨b', d', xs', h1, h2, h3, h4, h5, h6, fun v hv => ?_, fun hn => ?_⟩
      · have r := h7 v hv
        clear h7 h8 hv
        obtain ⟨p, e, xk, hv, c7, t7, na7, kr7, rp, he⟩ := r
        rw [hv]
        have tyE : KdOf t e.2.1 = true := by
          rcases he with he | ⟨_, rfl⟩
          · exact ty e (List.mem_of_find?_eq_some he)
          · exact ak
        obtain ⟨ra, rxs, rz, rS, rD⟩ := rp.tup_inv
        cases rz
        cases rD with
        | cons f1 rD =>
        cases rD with
        | cons f2 rD =>
        cases rD
        rename_i dv nv
        have hn := f2.int_inv
        subst hn
        have c57 : Ch [NK] H4 G6 := (c5.trans c6.of0).trans c7
        have t57 := ts5.trans (Ts.trans (.of c6) t7)
        have hk := kd_vals tyE ak f1 (((d2.ch c6)).ts t7)
        have hstep := lookRes_cons (came := came) (n := i) (a := pr.2) (r := sm.drop (i + 1)) he
        have hd : sm.drop i = (.tup ins, pr.2) :: sm.drop (i + 1) := by
          obtain ⟨hi2, hx2⟩ := List.getElem?_eq_some_iff.mp hpr
          rw [List.drop_eq_getElem_cons hi2, hx2, ← ei]
        rw [← hd] at hstep
        refine ⟨p, _, rfl, rS, rfl, _, _, rfl, _, _, rfl, rfl, ?_⟩
        refine ⟨_, rfl, _, rfl, hk.1, _, rfl, ?_⟩
        refine iteN (fun ne => ?_) (fun eq => ?_)
        · have ne2 : e.2.1 ≠ pr.2 := fun z => ne (hk.2.mpr z)
          refine ⟨_, rfl, _, rfl, ?_⟩
          refine raise2 ((q2' i e.2.2 (hres.trans (hstep.1 ne2))).ch fun a o _ ea => c57 a o (by
            have : a ≠ NK := ne_of_none ea nK0
            simpa using this) (c04 a o (by simp) ea))
        · have eq2 : e.2.1 = pr.2 := hk.2.mp eq
          refine ⟨_, _, _, _, _, _, xk, _, rfl, c57, t57, na7, kr7, ?_, fun f hf => ?_, hres.trans (hstep.2 eq2)⟩
          · rw [List.length_append]
            show _ + 1 ≤ _
            omega
          · rcases List.mem_append.mp hf with hf | hf
            · exact ty f hf
            · rw [List.mem_singleton.mp hf]
              exact ak
      · have r := h8 hn
        clear h7 h8 hn
        obtain ⟨p, e, xk, hv, c7, t7, na7, kr7, rp, he⟩ := r
        cases hv
        have tyE : KdOf t e.2.1 = true := by
          rcases he with he | ⟨_, rfl⟩
          · exact ty e (List.mem_of_find?_eq_some he)
          · exact ak
        obtain ⟨ra, rxs, rz, rS, rD⟩ := rp.tup_inv
        cases rz
        cases rD with
        | cons f1 rD =>
        cases rD with
        | cons f2 rD =>
        cases rD
        rename_i dv nv
        have hn := f2.int_inv
        subst hn
        have c57 : Ch [NK] H4 _ := (c5.trans c6.of0).trans c7
        have t57 := ts5.trans (Ts.trans (.of c6) t7)
        have hk := kd_vals tyE ak f1 (((d2.ch c6)).ts t7)
        have hstep := lookRes_cons (came := came) (n := i) (a := pr.2) (r := sm.drop (i + 1)) he
        have hd : sm.drop i = (.tup ins, pr.2) :: sm.drop (i + 1) := by
          obtain ⟨hi2, hx2⟩ := List.getElem?_eq_some_iff.mp hpr
          rw [List.drop_eq_getElem_cons hi2, hx2, ← ei]
        rw [← hd] at hstep
        refine ⟨q6, _, rfl, rS, rfl, _, _, rfl, _, _, rfl, rfl, ?_⟩
        refine ⟨_, rfl, _, rfl, hk.1, _, rfl, ?_⟩
        refine iteN (fun ne => ?_) (fun eq => ?_)
        · have ne2 : e.2.1 ≠ pr.2 := fun z => ne (hk.2.mpr z)
          refine ⟨_, rfl, _, rfl, ?_⟩
          refine raise2 ((q2' i e.2.2 (hres.trans (hstep.1 ne2))).ch fun a o _ ea => c57 a o (by
            have : a ≠ NK := ne_of_none ea nK0
            simpa using this) (c04 a o (by simp) ea))
        · have eq2 : e.2.1 = pr.2 := hk.2.mp eq
          refine ⟨_, _, _, _, _, _, xk, _, rfl, c57, t57, na7, kr7, ?_, fun f hf => ?_, hres.trans (hstep.2 eq2)⟩
          · rw [List.length_append]
            show _ + 1 ≤ _
            omega
          · rcases List.mem_append.mp hf with hf | hf
            · exact ty f hf
            · rw [List.mem_singleton.mp hf]
              exact ak
    · rintro σ5 H5 ⟨u1, u2, u3, u4, u5, u6, xm, acc, rfl, c, ts, na, kr, la, ty, hres⟩
      rw [lx, List.drop_length] at hres
      exact q3' hres H5 fun a o _ ea => c a o (by
        have : a ≠ NK := ne_of_none ea nK0
        simpa using this) (c04 a o (by simp) ea)
end
end LM
set_option Elab.async false
set_option linter.all false
set_option maxRecDepth 100000
set_option maxHeartbeats 4000000
namespace LM
open PySem PySem.Spec PyProof.Rows L2
/-- examples, numbered on -/
def numEx (came : Int) : List (Dt × Dt) → List (Int × Dt)
  | [] => []
  | x :: r => (came, exD x.1 x.2) :: numEx (came + 1) r
theorem numEx_len : ∀ (l : List (Dt × Dt)) (c : Int), (numEx c l).length = l.length
  | [], _ => rfl
  | _ :: l, c => congrArg Nat.succ (numEx_len l (c + 1))
theorem numEx_snoc (x : Dt × Dt) : ∀ (l : List (Dt × Dt)) (c : Int), numEx c (l ++ [x]) = numEx c l ++ [(c + (l.length : Int), exD x.1 x.2)]
  | [], c => by show [(c, _)] = [(c + ((0 : Nat) : Int), _)]; rw [Int.natCast_zero, Int.add_zero]
  | y :: l, c => by
    show _ :: numEx (c + 1) (l ++ [x]) = _ :: (numEx (c + 1) l ++ _)
    rw [numEx_snoc x l (c + 1), List.length_cons, Int.add_assoc, Int.add_comm 1, Int.natCast_succ]
theorem numEx_lt : ∀ (l : List (Dt × Dt)) (c : Int), ∀ e ∈ numEx c l, e.1 < c + (l.length : Int)
  | [], c => fun e he => by cases he
  | y :: l, c => fun e he => by
    rcases List.mem_cons.mp he with rfl | he
    · rw [List.length_cons, Int.natCast_succ]
      show c < _
      omega
    · have := numEx_lt l (c + 1) e he
      rw [List.length_cons, Int.natCast_succ]
      omega
section
variable {P : Program} {w : World} {K : PySem.W.Frag} {mg : Str → Option Value} {base : Heap}
def spExs (K : PySem.W.Frag) (C CI CC : Addr) : Sp := fun vs H Q E => ∃ (M TH WR L : Addr) (hv : Hd) (ks : List Kd) (t : Kd) (es : List (Int × Dt)) (came : Int) (lg : List Dt) (b : Bool) (tp : Bool) (xs : List V) (sm : List (Dt × Dt)), vs = [.ref M, .ref L] ∧ MkA K H C M TH WR hv es came lg b ∧ DR K H hv (hdD ks t) ∧ LAt K tp H L xs ∧ (tp = false → L ∉ [M, TH, WR]) ∧ DRs K H xs (sm.map pairD) ∧
  sm.length ≤ 200 ∧ es.length ≤ 200 ∧ ks.length ≤ 200 ∧ lg.length ≤ 900 ∧ Fit ks t es ∧ (∀ e ∈ es, e.1 < came) ∧
  (∀ n, firstBad ks t 0 sm = some n → RaisedM K H E C M TH WR hv es came (logD lg "examples") CI [("at", .int (n : Int))]) ∧
  (firstBad ks t 0 sm = none → ∀ n m, lookRes came (entsOf es) 0 sm = some (n, m) → RaisedM K H E C M TH WR hv es came (logD lg "examples") CC [("number", .int m), ("at", .int (n : Int))]) ∧
  (firstBad ks t 0 sm = none → lookRes came (entsOf es) 0 sm = none → ∀ D H', Ch [M, TH, WR] H H' → Ts H H' → MkA K H' C M TH WR hv (es ++ numEx came sm) (came + (sm.length : Int)) (logD lg "examples") false → H D = none → H' D = some (.lst ((numEx came sm).map fun e => .int e.1)) → Q (.ref D) H')
theorem sc_exs : FnScope ["self", "some", "inputs", "answer"] ["self", "some"] (defScope (inClass (top 40) 6)) := ⟨rfl, rfl, rfl, by decide +kernel, rfl, by decide +kernel, by decide +kernel⟩
theorem ok_exs {C CI CC : Addr} (T : Bn mg) (U : Mt K C) (D : DfM K C "examples" "Maker.examples" (inClass (top 40) 6)) (O_begin : OkM P w K mg base CX0 1 C "begin" ["self", "word"] (spBegin K C)) (O_keep : OkM P w K mg base CX0 1 C "keep" ["self", "thing"] (spKeep K C))
    (O_look_examples : OkM P w K mg base (L2.CX P w) 4 C "look_examples" ["self", "some"] (spLookEx K C CI CC)) : OkM P w K mg base (L2.CX P w) 5 C "examples" ["self", "some"] (spExs K C CI CC) := by
  refine okMX U.cl D sc_exs (fun _ _ _ _ _ _ us hl => match us, hl with | [_, _], _ => rfl) (fun vs H Q E h => ?_) (fun f cdv A outer s H vs Q E hr h => ?_)
  · obtain ⟨M, TH, WR, L, hv, ks, t, es, came, lg, b, tp, xs, sm, rfl, _⟩ := h
    rfl
  · obtain ⟨M, TH, WR, L, hv, ks, t, es, came, lg, b, tp, xs, sm, rfl, m, rh, hL, nLW, rx, ls, le, lk, ll, fit, fresh, q1, q2, q3⟩ := h
    have nd := sc_exs.nd
    refine ⟨_, (pss_cons (ps_expr (pe_methF (pv 0) O_begin (hr.mono (by omega)) pass0 (pa_cons pe_str pa_nil)))
  (pss_one (ps_twoFin (tb := fun W => tDrop (tMethT C "look_examples" (spLookEx K C CI CC) (fun σ => WE W σ) (tVar 0) (tCons (tVar 1) tNil))) (te := fun _ => tLc (iSeq2 K (tVar 1)) (gTup K 2 (gCons (gName 2) (gCons (gName 3) gNil))) tYes (tMeth C "keep" (spKeep K C) [] E0 (tVar 0) (tCons (tTup (tCons (tC (.str "example")) (tCons (tVar 2) (tCons (tVar 3) tNil)))) tNil)) [2, 3]) (tfs := tSeq (sFld K (tVar 0) (tC (.bl false)) "busy") (tDrop (tBM K "list" rAppend (tFld K (tVar 0) "written") (tCons (tTup (tCons (tC (.str "out")) (tCons (tC (.str "examples")) tNil))) tNil)))) (Wout := fun cls d _ H => E cls d H) rfl rfl rfl (takes_of rfl rfl rfl rfl) (fun W pn xe tk _ => (ps_expr (pe_methT (E := fun σ => WE W σ) (pv 0) O_look_examples (hr.mono (by omega)) (fun σ => passAt tk σ) (pa_cons (pv 1) pa_nil)))) (fun W pn xe tk _ => (pe_lc (own := [("inputs", 2), ("answer", 3)]) (tt := tYes) (g := (gTup K 2 (gCons (gName 2) (gCons (gName 3) gNil)))) rfl nd (pi_seq2 (pv 1)) (blkOk_by (own := [("inputs", 2), ("answer", 3)]) (N := ["self", "some", "inputs", "answer"]) (sc := defScope (inClass (top 40) 6)) (by decide +kernel)) (fun _ _ _ _ _ => (pg_tup rfl (pgs_cons (pg_name (i := 2) nd rfl (Or.inl rfl)) (pgs_cons (pg_name (i := 3) nd rfl (Or.inl rfl)) pgs_nil)))) (fun _ _ _ _ _ => pts_nil) (fun _ _ _ _ _ => (pe_methF (pv 0) O_keep (hr.mono (by omega)) pass0 (pa_cons (pe_tup (pa_cons pe_str (pa_cons (pv 2) (pa_cons (pv 3) pa_nil)))) pa_nil))))) (pss_cons (ps_fld (pv 0) pe_bl rfl)
  (pss_one (ps_expr (pe_bm PySem.F.plainAttrs_list PySem.F.slot_list_append PySem.F.type_list_append mt_append (pe_fld (pv 0) rfl) (pa_cons (pe_tup (pa_cons pe_str (pa_cons pe_str pa_nil))) pa_nil))))) (fun a pn => (pss_cons (ps_fld (pv 0) pe_bl rfl)
  (pss_one (ps_expr (pe_bm PySem.F.plainAttrs_list PySem.F.slot_list_append PySem.F.type_list_append mt_append (pe_fld (pv 0) rfl) (pa_cons (pe_tup (pa_cons pe_str (pa_cons pe_str pa_nil))) pa_nil))))))))), ?_⟩
    obtain ⟨dx, sv, kvs, lgs, e1, e2, e3, r1, r2⟩ := m.ex
    refine ⟨_, rfl, M, dx, _, rfl, e1, no_begin, ?_⟩
    refine ⟨M, TH, WR, hv, es, came, lg, b, "examples", rfl, m, by omega, fun H1 c1 t1 m1 => ?_⟩
    have rh1 := rh.ts t1
    have rx1 := rx.ts t1
    have hL1 := hL.ch c1 t1 nLW
    obtain ⟨dx1, sv1, kvs1, lgs1, f1, f2, f3, _, _⟩ := m1.ex
    have no_look : (mF hv sv1 TH came WR true).lookup ("look_examples" : Str) = none := mF_no (by decide +kernel) (by decide +kernel) (by decide +kernel) (by decide +kernel) (by decide +kernel) (by decide +kernel) (by decide +kernel)
    refine ⟨_, rfl, M, dx1, _, rfl, f1, no_look, ?_⟩
    refine ⟨_, rfl, ?_⟩
    refine ⟨M, TH, WR, L, hv, ks, t, es, came, _, true, tp, xs, sm, rfl, m1, rh1, hL1, rx1, ls, le, lk, fit, fun n hn => rz_of U c1 t1 m1 ll rfl (q1 n hn), fun hb n z hn => rz_of U c1 t1 m1 ll rfl (q2 hb n z hn), fun hb hn H2 c2 => ?_⟩
    have m2 := m1.ch0 c2
    have rx2 := rx1.ch c2
    have hL2 := hL1.ch0 c2
    have c02 := c1.trans (Ch.of0 c2)
    have t02 := t1.trans (.of c2)
    clear q1 q2
    obtain ⟨dx2, sv2, kvs2, lgs2, g1, g2, g3, _, _⟩ := m2.ex
    refine ⟨_, rfl, tp, L, rfl, ⟨xs, hL2.sq⟩, fun DD hDD => ?_⟩
    have nD1 : DD ≠ M := Ne.symm (ne_of_none g1 hDD)
    have nD2 : DD ≠ TH := Ne.symm (ne_of_none g2 hDD)
    have nD3 : DD ≠ WR := Ne.symm (ne_of_none g3 hDD)
    have hD0 : H DD = none := by
      cases z : H DD with
      | none => rfl
      | some o => rw [c02 DD o (by simp [nD1, nD2, nD3]) z] at hDD; cases hDD
    have lx : xs.length = sm.length := by rw [rx.len, List.length_map]
    refine lc_it (walk_seq2 (K := K) (t := tp) (a := L) (xs := xs)) (fun i H' => Ch [M, TH, WR] H H' ∧ Ts H H' ∧ MkA K H' C M TH WR hv (es ++ numEx came (sm.take i)) (came + (i : Int)) (lg ++ [noteD "in" "examples"]) true ∧ H' DD = some (.lst ((numEx came (sm.take i)).map fun e => .int e.1))) ?_ ?_ ?_ ?_
    · have cD : Ch [] H2 (upd H2 DD (.lst [])) := .new hDD
      refine ⟨c02.trans (Ch.of0 cD), t02.trans (.of cD), ?_, upd_same⟩
      have := m2.ch0 cD
      rw [List.take_zero]
      show MkA K _ C M TH WR hv (es ++ []) (came + ((0 : Nat) : Int)) _ true
      rw [List.append_nil, Int.natCast_zero, Int.add_zero]
      exact this
    · rintro i H' _ ⟨c, t, _⟩
      exact (hL.ch c t nLW).sq
    · rintro i x H3' H3 hlt ⟨c3, t3, m3, hD3⟩ ⟨eH3, hi⟩
      subst eH3
      obtain ⟨d, hd, rd⟩ := rx.getv hi
      rw [List.getElem?_map] at hd
      obtain ⟨pr, hpr, rfl⟩ := Option.map_eq_some_iff.mp hd
      have hil := (List.getElem?_eq_some_iff.mp hpr).1
      obtain ⟨pa, pxs, rfl, pS, pD⟩ := (rd.ts t3).tup_inv
      cases pD with
      | cons d1 pD =>
      cases pD with
      | cons d2 pD =>
      cases pD
      rename_i iv av
      refine ⟨pa, _, rfl, pS, rfl, _, _, rfl, _, _, rfl, rfl, rfl, ?_⟩
      obtain ⟨dx3, sv3, kvs3, lgs3, k1, k2, k3, _, _⟩ := m3.ex
      refine ⟨_, rfl, M, dx3, _, rfl, k1, no_keep, ?_⟩
      refine ⟨_, rfl, _, rfl, (by show 3 ≤ sizeLine; decide), fun p3 hp3 => ?_⟩
      have c4 : Ch [] H3 (upd H3 p3 (.tup [.str "example", iv, av])) := .new hp3
      have r4 : DR K (upd H3 p3 (.tup [.str "example", iv, av])) (.ref p3) (exD pr.1 pr.2) := .new (.cons (.str _) (.cons d1 (.cons d2 .nil))) hp3
      generalize upd H3 p3 (.tup [.str "example", iv, av]) = H4 at c4 r4 ⊢
      have m4 := m3.ch0 c4
      have hD4 := c4 DD _ (by simp) hD3
      have lt : (sm.take i).length = i := by rw [List.length_take]; omega
      refine ⟨M, TH, WR, hv, .ref p3, _, _, _, true, exD pr.1 pr.2, rfl, m4, r4, ?_, ?_, fun H5 c5 t5 m5 => ?_⟩
      · rw [List.length_append, numEx_len, lt]
        omega
      · intro e he
        rcases List.mem_append.mp he with he | he
        · have := fresh e he
          omega
        · have := numEx_lt _ _ e he
          rw [lt] at this
          omega
      have hD5 := c5 DD _ (by simp [nD1, nD2, nD3]) hD4
      have nT5 : NoTup (H5 DD) := by rw [hD5]; trivial
      have lz : ((numEx came (sm.take i)).map fun e => V.int e.1).length = i := by rw [List.length_map, numEx_len, lt]
      refine ⟨_, hD5, small1000 (by omega), ?_⟩
      have eN : numEx came (sm.take (i + 1)) = numEx came (sm.take i) ++ [(came + (i : Int), exD pr.1 pr.2)] := by rw [take_one hpr, numEx_snoc, lt]
      have t6 : Ts H5 (upd H5 DD (.lst (((numEx came (sm.take i)).map fun e => V.int e.1) ++ [.int (came + (i : Int))]))) := .upd nT5
      refine ⟨?_, t3.trans ((Ts.of c4).trans (t5.trans t6)), ?_, ?_⟩
      · intro a o na ea
        have n : a ≠ DD := ne_of_none ea hD0
        rw [upd_ne n]
        exact c5 a o na (c4 a o (by simp) (c3 a o na ea))
      · rw [eN, ← List.append_assoc]
        have z : came + ((i + 1 : Nat) : Int) = came + (i : Int) + 1 := by omega
        rw [z]
        exact m5.ch (S := [DD]) (.put (by simp)) t6 (by simp [Ne.symm nD1]) (by simp [Ne.symm nD2]) (by simp [Ne.symm nD3])
      · rw [upd_same, eN, List.map_append]
        rfl
    · rintro H3 ⟨c3, t3, m3, hD3⟩
      rw [lx, List.take_length] at m3 hD3
      refine fin_suite U m3 (by rw [List.length_append, List.length_singleton]; omega) rfl fun H4 c4 t4 m4 => ?_
      refine q3 hb hn DD H4 (c3.trans c4) (t3.trans t4) (by unfold logD; exact m4) hD0 (c4 DD _ (by simp [nD1, nD2, nD3]) hD3)
end
end LM
set_option Elab.async false
set_option linter.all false
set_option maxRecDepth 100000
namespace LM
open PySem PySem.Spec PyProof.Rows L2
/-! ### the program's equality on inputs and answers -/
theorem kd_of {t : Kd} {a : Dt} (h : KdOf t a = true) : (t = .num ∧ ∃ i, a = .int i) ∨ (t = .truth ∧ ∃ b, a = .bl b) := by
  cases t <;> cases a <;> first | exact .inl ⟨rfl, _, rfl⟩ | exact .inr ⟨rfl, _, rfl⟩ | cases h
theorem eqv_kd {t : Kd} {a b : Dt} (h1 : KdOf t a = true) (h2 : KdOf t b = true) : PyData.eqv a.py b.py = true ↔ a = b := by
  rcases kd_of h1 with ⟨rfl, i, rfl⟩ | ⟨rfl, i, rfl⟩
  · rcases kd_of h2 with ⟨_, j, rfl⟩ | ⟨z, _⟩
    · show ((i == j) = true) ↔ _
      exact ⟨fun z => by rw [beq_iff_eq.mp z], fun z => by injection z with z; exact beq_iff_eq.mpr z⟩
    · cases z
  · rcases kd_of h2 with ⟨z, _⟩ | ⟨_, j, rfl⟩
    · cases z
    · show ((i == j) = true) ↔ _
      exact ⟨fun z => by rw [beq_iff_eq.mp z], fun z => by injection z with z; exact beq_iff_eq.mpr z⟩
theorem eqv_inss : ∀ {ks : List Kd} {is js : List Dt}, AreOf ks is → AreOf ks js → (PyData.eqvAll (Dt.pys is) (Dt.pys js) = true ↔ is = js)
  | _, _, _, .nil, .nil => ⟨fun _ => rfl, fun _ => rfl⟩
  | _, _, _, .cons h1 r1, .cons h2 r2 => by
    have a := eqv_kd h1 h2
    have b := eqv_inss r1 r2
    show (PyData.eqv _ _ && PyData.eqvAll _ _) = true ↔ _
    rw [Bool.and_eq_true, a, b]
    exact ⟨fun ⟨x, y⟩ => by rw [x, y], fun z => by injection z with x y; exact ⟨x, y⟩⟩
theorem eqv_ins {ks : List Kd} {is js : List Dt} (a : AreOf ks is) (b : AreOf ks js) : PyData.eqv (Dt.tup is).py (Dt.tup js).py = true ↔ is = js := eqv_inss a b
theorem shaped_inss : ∀ {ks : List Kd} {is : List Dt}, AreOf ks is → PyData.canLayAll0 (Dt.pys is) = true ∧ PyData.depthAll (Dt.pys is) = 0
  | _, _, .nil => ⟨rfl, rfl⟩
  | _, _, .cons h r => by
    obtain ⟨a, b⟩ := shaped_inss r
    rcases kd_of h with ⟨_, i, rfl⟩ | ⟨_, i, rfl⟩
    · exact ⟨by show (true && _) = true; rw [a]; rfl, by show max 0 _ = 0; rw [b]; rfl⟩
    · exact ⟨by show (true && _) = true; rw [a]; rfl, by show max 0 _ = 0; rw [b]; rfl⟩
theorem shaped_ins {ks : List Kd} {is : List Dt} (a : AreOf ks is) : SeqAt.shaped (Dt.tup is).py = true := by
  obtain ⟨x, y⟩ := shaped_inss a
  show (PyData.canLayAll0 (Dt.pys is) && decide (PyData.depthAll (Dt.pys is) + 1 ≤ 64)) = true
  rw [x, y]
  rfl
end LM
set_option Elab.async false
set_option linter.all false
set_option maxRecDepth 100000
set_option maxHeartbeats 4000000
namespace LM
open PySem PySem.Spec PyProof.Rows L2
theorem Dt.tup_of {d : Dt} (h : d.isTup = true) : ∃ ds, d = .tup ds := by
  cases d with
  | tup ds => exact ⟨ds, rfl⟩
  | non => cases h
  | bl b => cases h
  | int i => cases h
  | str x => cases h
open Classical in
theorem clash_at {acc : List Ent} {i a : Dt} {j : Nat} {e : Ent} (c : Calm acc) (hj : acc[j]? = some e) (hn : ∀ f ∈ acc.take j, ¬ (f.1 = i ∧ f.2.1 ≠ a)) (h1 : e.1 = i) (h2 : e.2.1 ≠ a) : firstOf acc i = some e := by
  obtain ⟨hjl, hje⟩ := List.getElem?_eq_some_iff.mp hj
  have e0 : acc = acc.take j ++ e :: acc.drop (j + 1) := by
    rw [← hje, ← List.drop_eq_getElem_cons hjl, List.take_append_drop]
  have hf : (acc.find? fun e => decide (e.1 = i ∧ e.2.1 ≠ a)) = some e := by
    rw [e0, List.find?_append, List.find?_eq_none.mpr fun f hf z => hn f hf (of_decide_eq_true z), List.find?_cons, decide_eq_true (⟨h1, h2⟩ : e.1 = i ∧ e.2.1 ≠ a)]
    rfl
  rw [clash_first c] at hf
  cases q : firstOf acc i with
  | none => rw [q] at hf; cases hf
  | some g =>
    rw [q] at hf
    dsimp only at hf
    by_cases z : g.2.1 = a
    · rw [if_pos z] at hf; cases hf
    · rw [if_neg z] at hf; exact hf
theorem lookRes_next {came : Int} {acc : List Ent} {n : Nat} {i a : Dt} {r : List (Dt × Dt)} (h : ∀ e ∈ acc, e.1 = i → e.2.1 = a) : lookRes came acc n ((i, a) :: r) = lookRes came (acc ++ [(i, a, came + n)]) (n + 1) r := by
  cases q : firstOf acc i with
  | none => exact (lookRes_cons (e := (i, a, 0)) (.inr ⟨q, rfl⟩)).2 rfl
  | some e => exact (lookRes_cons (m := 0) (.inl q)).2 (h e (firstOf_some q).1 (firstOf_some q).2)
theorem ts_thaw {H : Hp} {d : Addr} {od : Obj} {kvs : List (Key × V)} (h : H d = some (.frz od (.dK kvs))) : Ts H (upd H d (.dK kvs)) := by
  intro a u r
  rcases r with r | ⟨o, r⟩
  · refine .inl ?_
    by_cases z : a = d
    · rw [z, h] at r; cases r
    · rw [upd_ne z]; exact r
  · refine .inr ⟨o, ?_⟩
    by_cases z : a = d
    · rw [z, h] at r; cases r
    · rw [upd_ne z]; exact r
theorem numEx_ents : ∀ (l : List (Dt × Dt)) (c : Int), ∀ e ∈ entsOf (numEx c l), ∃ x ∈ l, e.1 = x.1 ∧ e.2.1 = x.2
  | [], _ => fun e he => by cases he
  | y :: l, c => fun e he => by
    have h0 : entsOf (numEx c (y :: l)) = (y.1, y.2, c) :: entsOf (numEx (c + 1) l) := by
      show entsOf ((c, exD y.1 y.2) :: numEx (c + 1) l) = _
      unfold entsOf
      rw [List.filterMap_cons, entOf_ex]
    rw [h0] at he
    rcases List.mem_cons.mp he with rfl | he
    · exact ⟨y, List.mem_cons_self, rfl, rfl⟩
    · obtain ⟨x, hx, h⟩ := numEx_ents l (c + 1) e he
      exact ⟨x, List.mem_cons_of_mem _ hx, h⟩
/-- an example with its number ahead -/
def entD (e : Ent) : Dt := .tup [.int e.2.2, e.1, e.2.1]
section
variable {P : Program} {w : World} {K : PySem.W.Frag} {mg : Str → Option Value} {base : Heap}
def spExDue (K : PySem.W.Frag) : Sp := fun vs H Q _ => ∃ (hv : V) (TH L : Addr) (ks : List Kd) (t : Kd) (kvs : List (Key × V)) (es : List (Int × Dt)) (came : Int) (tp : Bool) (xs : List V) (sm : List (Dt × Dt)), vs = [hv, .ref TH, .int came, .ref L] ∧ H TH = some (.dK kvs) ∧ KvR K H kvs es ∧ DR K H hv (hdD ks t) ∧ LAt K tp H L xs ∧ DRs K H xs (sm.map pairD) ∧
  sm.length ≤ 200 ∧ es.length ≤ 200 ∧ ks.length ≤ 200 ∧ Fit ks t es ∧ Calm (entsOf es) ∧
  (∀ n, firstBad ks t 0 sm = some n → ∀ v H', Ch [] H H' → DR K H' v (.tup [.str "no inputs", .int (n : Int)]) → Q v H') ∧
  (firstBad ks t 0 sm = none → ∀ n m, lookRes came (entsOf es) 0 sm = some (n, m) → ∀ v H', Ch [] H H' → DR K H' v (.tup [.str "clash", .int (n : Int), .int m]) → Q v H') ∧
  (firstBad ks t 0 sm = none → lookRes came (entsOf es) 0 sm = none → ∀ H', Ch [] H H' → Q .non H')
theorem sc_exdue : FnScope ["_law_head_here", "_law_kept", "_law_came", "_law_some", "_law_at", "_law_inputs", "_law_answer", "_law_some_kinds", "_law_number", "_law_ahead", "_law_other", "_law_due", "_law_kind", "_law_thing", "_law_k"] ["_law_head_here", "_law_kept", "_law_came", "_law_some"] (defScope (top 63)) := ⟨rfl, rfl, rfl, by decide +kernel, rfl, by decide +kernel, by decide +kernel⟩
theorem ok_exdue (D : Df K mg "_law_examples_due" (top 63)) (T : Bn mg) (O__law_is_of : OkF P w K mg base CX0 1 "_law_is_of" ["_law_kind", "_law_thing"] (spIsOf K)) : OkF P w K mg base CX0 2 "_law_examples_due" ["_law_head_here", "_law_kept", "_law_came", "_law_some"] (spExDue K) := by
  refine okF0 D sc_exdue (fun _ _ _ _ _ _ us hl => match us, hl with | [_, _, _, _], _ => rfl) (fun vs H Q E h => ?_) (fun cdv A outer s H vs Q E hr h => ?_)
  · obtain ⟨hv, TH, L, ks, t, kvs, es, came, tp, xs, sm, rfl, _⟩ := h
    rfl
  · obtain ⟨hv, TH, L, ks, t, kvs, es, came, tp, xs, sm, rfl, hTH, kvr, rh, hL, rx, ls, le, lk, fit, calm, q1, q2, q3⟩ := h
    have nd := sc_exdue.nd
    have lx : xs.length = sm.length := by rw [rx.len, List.length_map]
    refine ⟨_, (pss_cons (ps_for PassesOwn.never rfl (pi_enum2 (by rfl) T.b_enumerate (pa_cons (pv 3) pa_nil)) (pg_tup rfl (pgs_cons (pg_name (i := 4) nd rfl (Or.inl rfl)) (pgs_cons (pg_tup rfl (pgs_cons (pg_name (i := 5) nd rfl (Or.inl rfl)) (pgs_cons (pg_name (i := 6) nd rfl (Or.inl rfl)) pgs_nil))) pgs_nil))) (pss_cons (ps_if (PW.pt (pw_or (pt_not (pt_val (pe_callB (r := rIsi K) call_isi (by rfl) T.b_isinstance (by decide +kernel) (pa_cons (pv 5) (pa_cons (pe_bltn (v := .ty "tuple") (by rfl) T.b_tuple (by decide +kernel) rfl) pa_nil))) (by intro _; rfl))) (pw_or1 (pt_cmpR op_ne (pe_callB (r := rLenS K) call_len_seq (by rfl) T.b_len PySem.boot_len (pa_cons (pv 5) pa_nil)) (pe_callB (r := rLenS K) call_len_seq (by rfl) T.b_len PySem.boot_len (pa_cons (pe_ix (r := rIxT K) ix_tup (pv 0) pe_int (fun _ _ => rfl)) pa_nil)) (nomark _))))) (pss_one (ps_ret (pe_tup (pa_cons pe_str (pa_cons (pv 4) pa_nil))))) pss_nil)
  (pss_cons (ps_set (i := 7) nd rfl (Or.inl rfl) (pe_op (r := rCatA K) op_catA (pe_ix (r := rIxT K) ix_tup (pv 0) pe_int (fun _ _ => rfl)) (pe_tup (pa_cons (pe_ix (r := rIxT K) ix_tup (pv 0) pe_int (fun _ _ => rfl)) pa_nil))))
  (pss_one (ps_if (pt_not (pt_val (pe_callB (by exact cr_all rfl) (by rfl) T.b_all (by decide +kernel) (pa_cons (pe_lc (own := [("_law_kind", 12), ("_law_thing", 13)]) (tt := tYes) (g := (gTup K 2 (gCons (gName 12) (gCons (gName 13) gNil)))) rfl nd (RZ.pi_zipA (by rfl) T.b_zip (pa_cons (pv 7) (pa_cons (pe_op (r := rCatA K) op_catA (pv 5) (pe_tup (pa_cons (pv 6) pa_nil))) pa_nil))) (blkOk_by (own := [("_law_kind", 12), ("_law_thing", 13)]) (N := ["_law_head_here", "_law_kept", "_law_came", "_law_some", "_law_at", "_law_inputs", "_law_answer", "_law_some_kinds", "_law_number", "_law_ahead", "_law_other", "_law_due", "_law_kind", "_law_thing", "_law_k"]) (sc := defScope (top 63)) (by decide +kernel)) (fun _ _ _ _ _ => (pg_tup rfl (pgs_cons (pg_name (i := 12) nd rfl (Or.inl rfl)) (pgs_cons (pg_name (i := 13) nd rfl (Or.inl rfl)) pgs_nil)))) (fun _ _ _ _ _ => pts_nil) (fun _ _ _ _ _ => (pe_callF O__law_is_of (hr.mono (by omega)) rfl pass0 (pa_cons (pv 12) (pa_cons (pv 13) pa_nil))))) pa_nil)) (by intro _; rfl))) (pss_one (ps_ret (pe_tup (pa_cons pe_str (pa_cons (pv 4) pa_nil))))) pss_nil)))))
  (pss_cons (ps_lock (ps_setLc (i := 9) (own := [("_law_number", 8), ("_law_thing", 13)]) (g := (gTup K 2 (gCons (gName 8) (gCons (gName 13) gNil)))) rfl nd rfl rfl (sw_true rfl rfl rfl (by decide +kernel)) (pi_items (pv 1)) (blkOk_by (own := [("_law_number", 8), ("_law_thing", 13)]) (N := ["_law_head_here", "_law_kept", "_law_came", "_law_some", "_law_at", "_law_inputs", "_law_answer", "_law_some_kinds", "_law_number", "_law_ahead", "_law_other", "_law_due", "_law_kind", "_law_thing", "_law_k"]) (sc := defScope (top 63)) (by decide +kernel)) (fun _ _ _ _ _ => (pg_tup rfl (pgs_cons (pg_name (i := 8) nd rfl (Or.inl rfl)) (pgs_cons (pg_name (i := 13) nd rfl (Or.inl rfl)) pgs_nil)))) (fun _ _ _ _ _ => pts_one (pt_cmpR op_eq (pe_ix (r := rIxT K) ix_tup (pv 13) pe_int (fun _ _ => rfl)) pe_str (nomark _))) (fun _ _ _ _ _ => (pe_tup (pa_cons (pv 8) (pa_cons (pe_ix (r := rIxT K) ix_tup (pv 13) pe_int (fun _ _ => rfl)) (pa_cons (pe_ix (r := rIxT K) ix_tup (pv 13) pe_int (fun _ _ => rfl)) pa_nil)))))))
  (pss_cons (ps_for PassesOwn.never rfl (pi_enum2 (by rfl) T.b_enumerate (pa_cons (pv 3) pa_nil)) (pg_tup rfl (pgs_cons (pg_name (i := 4) nd rfl (Or.inl rfl)) (pgs_cons (pg_tup rfl (pgs_cons (pg_name (i := 5) nd rfl (Or.inl rfl)) (pgs_cons (pg_name (i := 6) nd rfl (Or.inl rfl)) pgs_nil))) pgs_nil))) (pss_one (ps_for PassesOwn.never rfl (pi_list (pe_op op_cat (pv 9) (pe_lc (own := [("_law_k", 14)]) (tt := tYes) rfl nd (pi_range1 rfl T.b_range (pa_cons (pv 4) pa_nil)) (blkOk_by (own := [("_law_k", 14)]) (N := ["_law_head_here", "_law_kept", "_law_came", "_law_some", "_law_at", "_law_inputs", "_law_answer", "_law_some_kinds", "_law_number", "_law_ahead", "_law_other", "_law_due", "_law_kind", "_law_thing", "_law_k"]) (sc := defScope (top 63)) (by decide +kernel)) (fun _ _ _ _ _ => (pg_name (i := 14) nd rfl (Or.inl rfl))) (fun _ _ _ _ _ => pts_nil) (fun _ _ _ _ _ => (pe_tup (pa_cons (pe_op op_add (pv 2) (pv 14)) (pa_cons (pe_ix (r := rIxT K) ix_tup (pe_ix (r := rIx2 K) ix_seq2 (pv 3) (pv 14) (fun _ _ => rfl)) pe_int (fun _ _ => rfl)) (pa_cons (pe_ix (r := rIxT K) ix_tup (pe_ix (r := rIx2 K) ix_seq2 (pv 3) (pv 14) (fun _ _ => rfl)) pe_int (fun _ _ => rfl)) pa_nil)))))))) (pg_tup rfl (pgs_cons (pg_name (i := 8) nd rfl (Or.inl rfl)) (pgs_cons (pg_name (i := 10) nd rfl (Or.inl rfl)) (pgs_cons (pg_name (i := 11) nd rfl (Or.inl rfl)) pgs_nil)))) (pss_one (ps_if (PW.pt (pw_and (pt_cmpR (r := rEqD K) (op_eqD hr.units) (pv 10) (pv 5) (nomark _)) (pw_and1 (pt_cmpR op_ne (pv 11) (pv 6) (nomark _))))) (pss_one (ps_ret (pe_tup (pa_cons pe_str (pa_cons (pv 4) (pa_cons (pv 8) pa_nil)))))) pss_nil)))))
  (pss_one (ps_ret pe_non))))), ?_⟩
    -- kinds of the inputs
    refine ⟨_, rfl, tp, L, xs, rfl, hL.sq, ?_⟩
    refine for_it (walk_enum2 (K := K) (t := tp) (a := L) (xs := xs)) (fun i σ' H' => ∃ u4 u5 u6 u7 u12 u13 : Option V, σ' = [some hv, some (.ref TH), some (.int came), some (.ref L), u4, u5, u6, u7, none, none, none, none, u12, u13, none] ∧ Ch [] H H' ∧ ∀ x ∈ sm.take i, exOk ks t x = true) ⟨none, none, none, none, none, none, rfl, .refl, by simp⟩ ?_ ?_ ?_
    · rintro i σ' H' _ ⟨_, _, _, _, _, _, _, c, _⟩
      exact (hL.ch0 c).sq
    · rintro i x σ' Hx H' hi ⟨u4, u5, u6, u7, u12, u13, rfl, c, hok⟩ ⟨TT, xi, y, rfl, hT, rfl, ex, ey⟩
      have ex' := Option.some.inj ex
      subst ex'
      obtain ⟨d, hd, rd⟩ := rx.getv ey
      rw [List.getElem?_map] at hd
      obtain ⟨pr, hpr, rfl⟩ := Option.map_eq_some_iff.mp hd
      have c2 : Ch [] H (upd Hx TT (.tup [.int (i : Nat), y])) := c.trans (.new hT)
      have sT : SqT K (upd Hx TT (.tup [.int (i : Nat), y])) TT [.int (i : Nat), y] := SqT.of upd_same
      generalize upd Hx TT (.tup [.int (i : Nat), y]) = H1 at c2 sT ⊢
      obtain ⟨pa, pxs, rfl, pS, pD⟩ := (rd.ch c2).tup_inv
      cases pD with
      | cons d1 pD =>
      cases pD with
      | cons d2 pD =>
      cases pD
      rename_i iv av
      obtain ⟨ins, ans⟩ := pr
      dsimp only at d1 d2
      have rh1 := rh.ch c2
      have bad : exOk ks t (ins, ans) = false → ∀ v H', Ch [] H H' → DR K H' v (.tup [.str "no inputs", .int (i : Int)]) → Q v H' := fun hb => q1 i (firstBad_at hok hpr hb)
      refine ⟨TT, _, rfl, sT, rfl, _, _, rfl, _, _, rfl, pa, _, rfl, pS, rfl, _, _, rfl, _, _, rfl, rfl, rfl, ?_⟩
      refine ⟨_, rfl, ?_⟩
      dsimp only [tCons, tC, tNil]
      refine isi_tuple d1 ?_
      refine ⟨_, rfl, ?_⟩
      have ret : exOk ks t (ins, ans) = false → ∀ σ : L2.St, σ[4]? = some (some (V.int (i : Int))) → ∀ H2, Ch [] H H2 → ∀ D : Ends, D.rt = Q → (tRet (tTup (tCons (tC (.str "no inputs")) (tCons (tVar 4) tNil)))) D σ H2 := by
        intro hb σ hσ H2 c3 D hD
        refine ⟨_, hσ, (by show 2 ≤ sizeLine; decide), fun p hp => ?_⟩
        rw [hD]
        exact bad hb _ _ (c3.trans (.new hp)) (.new (.cons (.str _) (.cons (.int _) .nil)) hp)
      refine iteB (fun e1 => ?_) (fun e1 => ?_)
      · refine ret ?_ _ rfl H1 c2 _ rfl
        show (inOk ks ins && KdOf t ans) = false
        have : inOk ks ins = false := by cases ins <;> first | rfl | cases e1
        rw [this, Bool.false_and]
      obtain ⟨is, rfl⟩ := Dt.tup_of (d := ins) (by simpa using e1)
      refine ⟨_, rfl, ?_⟩
      dsimp only [tNil]
      refine len_dt d1 ?_
      refine ⟨_, rfl, ?_⟩
      dsimp only [tNil, tC]
      refine ix_dt (n := 0) rh1 rfl fun y0 ry0 => ?_
      refine len_dt ry0 ?_
      refine ⟨rfl, _, rfl, ?_⟩
      rw [kds_len]
      refine iteN (fun e2 => ?_) (fun e2 => ?_)
      · refine ret ?_ _ rfl H1 c2 _ rfl
        show (inOk ks (.tup is) && KdOf t ans) = false
        have : inOk ks (.tup is) = false := by
          cases h : inOk ks (.tup is) with
          | false => rfl
          | true => exact (e2 (by rw [pair_len (areOf_iff.mp h)])).elim
        rw [this, Bool.false_and]
      have el : is.length = ks.length := by
        have : ((is.length : Nat) : Int) = ((ks.length : Nat) : Int) := by injection e2
        omega
      refine ⟨_, rfl, ?_⟩
      dsimp only [tC]
      refine ix_dt (n := 0) rh1 rfl fun y1 ry1 => ?_
      refine ⟨_, rfl, ?_⟩
      dsimp only [tC]
      refine ix_dt (n := 1) rh1 rfl fun y2 ry2 => ?_
      refine ⟨(by show 1 ≤ sizeLine; decide), fun p1 hp1 => ?_⟩
      have c3 : Ch [] H1 (upd H1 p1 (.tup [y2])) := .new hp1
      refine cat_dt (ds := ks.map fun (k : Kd) => Dt.str k.s) (es := [Dt.str t.s]) (ry1.ch c3) (.new (.cons ry2 .nil) hp1) (by simp; omega) fun x7 H3 c4 r7 => ?_
      rw [ksD_snoc] at r7
      have c24 := c2.trans (c3.trans c4)
      have d1' := d1.ch (c3.trans c4)
      have d2' := d2.ch (c3.trans c4)
      clear ry0 ry1 ry2 rh1 c3 c4
      refine ⟨_, rfl, ?_⟩
      refine ⟨_, rfl, ?_⟩
      dsimp only [tNil]
      refine ⟨_, rfl, (by show 1 ≤ sizeLine; decide), fun p2 hp2 => ?_⟩
      have c5 : Ch [] H3 (upd H3 p2 (.tup [av])) := .new hp2
      refine cat_dt (ds := is) (es := [ans]) (d1'.ch c5) (.new (.cons d2' .nil) hp2) (by simp; omega) fun x8 H4 c6 r8 => ?_
      have c26 := c24.trans (c5.trans c6)
      obtain ⟨ka, kxs, rfl, kS, kD⟩ := (r7.ch (c5.trans c6)).tup_inv
      obtain ⟨da, dxs, rfl, dS, dD⟩ := r8.tup_inv
      have lk2 : kxs.length = (ks ++ [t]).length := by rw [kD.len, kds_len]
      have ld2 : dxs.length = (is ++ [ans]).length := dD.len
      have hkx := drs_kd kD
      have elT : (is ++ [ans]).length = (ks ++ [t]).length := by rw [List.length_append, List.length_append, el]; rfl
      refine ⟨ka, da, kxs, dxs, rfl, .inr ⟨kS, dS, fun LL hLL => ?_⟩⟩
      refine lc_it (walk_zipT (K := K) (a := ka) (b := da) (xs := kxs) (ys := dxs) (n := (ks ++ [t]).length) (by omega)) (fun i H' => Ch [] H4 H' ∧ ∃ bs : List Bool, bs.length = i ∧ H' LL = some (.lst (bs.map V.bl)) ∧ bs.all id = areOf ((ks ++ [t]).take i) ((is ++ [ans]).take i)) ?_ ?_ ?_ ?_
      · exact ⟨.new hLL, [], rfl, upd_same, rfl⟩
      · rintro i H' _ ⟨c, _⟩
        exact ⟨(Ts.of c).sq kS, (Ts.of c).sq dS⟩
      · rintro i x Hx H' hi ⟨c, bs, lbs, hbs, hall⟩ ⟨TT, xk, xd, rfl, hT, rfl, ek, ed⟩
        have c2 : Ch [] H4 (upd Hx TT (.tup [xk, xd])) := c.trans (.new hT)
        have hkx' : kxs[i]? = some (V.str ((ks ++ [t])[i]).s) := by rw [hkx, List.getElem?_map, List.getElem?_eq_getElem hi]; rfl
        have ek' : V.str ((ks ++ [t])[i]).s = xk := Option.some.inj (hkx'.symm.trans ek)
        subst ek'
        obtain ⟨d, hd, rd'⟩ := dD.getv ed
        have hb2 := (Ch.new (S := []) (o := .tup [V.str ((ks ++ [t])[i]).s, xd]) hT) LL _ (by simp) hbs
        refine ⟨TT, _, rfl, SqT.of upd_same, rfl, _, _, rfl, _, _, rfl, rfl, rfl, ?_⟩
        refine ⟨_, rfl, _, rfl, (ks ++ [t])[i], xd, d, rfl, rd'.ch c2, ?_⟩
        have l200 : (ks ++ [t]).length ≤ 201 := by rw [List.length_append, List.length_singleton]; omega
        refine ⟨_, hb2, small1000 (by rw [List.length_map]; omega), c2.mut hLL, bs ++ [KdOf ((ks ++ [t])[i]) d], by rw [List.length_append, lbs]; rfl, ?_, ?_⟩
        · rw [upd_same, List.map_append]
          rfl
        · rw [take_one (List.getElem?_eq_getElem hi), take_one hd, areOf_snoc (by rw [List.length_take, List.length_take, elT]), ← hall, List.all_append]
          simp
      · rintro H5 ⟨c7, bs, lbs, hbs, hall⟩
        refine ⟨LL, bs, rfl, SqL.of hbs, ?_⟩
        rw [List.take_length, ← elT, List.take_length, areOf_snoc el.symm] at hall
        rw [hall]
        refine ⟨_, rfl, ?_⟩
        refine iteB (fun e3 => ?_) (fun e3 => ?_)
        · refine ret ?_ _ rfl H5 (c26.trans c7) _ rfl
          show (areOf ks is && KdOf t ans) = false
          rw [Bool.not_eq_true'] at e3
          exact e3
        refine ⟨_, _, _, _, _, _, rfl, c26.trans c7, fun x hx => ?_⟩
        rw [take_one hpr] at hx
        rcases List.mem_append.mp hx with hx | hx
        · exact hok x hx
        · rw [List.mem_singleton.mp hx]
          show (areOf ks is && KdOf t ans) = true
          rw [Bool.not_eq_false'] at e3
          exact e3
    rintro σ1 H1 ⟨u4, u5, u6, u7, u12, u13, rfl, c1, hok⟩
    rw [lx, List.take_length] at hok
    have nobad := firstBad_no hok 0
    have q2' := q2 nobad
    have q3' := q3 nobad
    clear q1 q2 q3
    have hTH1 := c1 TH _ (by simp) hTH
    have kvr1 := kvr.ts (.of c1)
    -- the examples ahead
    refine ⟨TH, _, hTH1, trivial, fun od => ?_⟩
    have t2 : Ts H1 (upd H1 TH (.frz od (.dK kvs))) := .upd (by rw [hTH1]; trivial)
    have kvr2 := kvr1.ts t2
    have e2 : upd H1 TH (.frz od (.dK kvs)) TH = some (.frz od (.dK kvs)) := upd_same
    refine ⟨_, rfl, TH, od, kvs, rfl, e2, fun DD hDD => ?_⟩
    have hk2 : ∀ a o, a ≠ TH → H1 a = some o → upd H1 TH (.frz od (.dK kvs)) a = some o := fun a o n e => by rw [upd_ne n]; exact e
    generalize upd H1 TH (.frz od (.dK kvs)) = H2 at t2 kvr2 e2 hDD hk2 ⊢
    have nDT : DD ≠ TH := Ne.symm (ne_of_none e2 hDD)
    refine lc_it (walk_items (d := TH) (o := od) (kvs := kvs)) (fun i H' => Ch [] H2 H' ∧ ∃ us : List V, H' DD = some (.lst us) ∧ us.length ≤ i ∧ DRs K H' us ((entsOf (es.take i)).map entD)) ?_ ?_ ?_ ?_
    · exact ⟨.new hDD, [], upd_same, Nat.le_refl _, .nil⟩
    · rintro i H' _ ⟨c, _⟩
      exact c TH _ (by simp) e2
    · rintro i x Hx H' hi ⟨c, us, hus, lus, rus⟩ ⟨TT, xi, y, rfl, hT, rfl, ex, ey⟩
      obtain ⟨kq, hkq⟩ : ∃ kq, kvs[i]? = some kq := ⟨_, List.getElem?_eq_getElem hi⟩
      have ex2 : (kvs[i]?.map fun kv => kV kv.1) = some xi := ex
      have ey2 : (kvs[i]?.map Prod.snd) = some y := ey
      rw [hkq] at ex2 ey2
      have ex' : kV kq.1 = xi := Option.some.inj ex2
      have ey' : kq.2 = y := Option.some.inj ey2
      subst ex'
      subst ey'
      obtain ⟨num, d, hkn, hes, rd⟩ := kvr2.get (k := kq.1) (v := kq.2) hkq
      have ct : Ch [] Hx (upd Hx TT (.tup [kV kq.1, kq.2])) := .new hT
      have sT : SqT K (upd Hx TT (.tup [kV kq.1, kq.2])) TT [kV kq.1, kq.2] := SqT.of upd_same
      have c3 := c.trans ct
      have rdx := rd.ch c3
      have hus3 := ct DD _ (by simp) hus
      have rus3 := rus.ch ct
      generalize upd Hx TT (.tup [kV kq.1, kq.2]) = H3 at ct sT c3 rdx hus3 rus3 ⊢
      rw [hkn] at sT
      refine ⟨TT, _, rfl, sT, rfl, _, _, rfl, _, _, rfl, rfl, rfl, ?_⟩
      have li : i < es.length := (List.getElem?_eq_some_iff.mp hes).1
      rcases fit _ (List.mem_of_getElem? hes) with ⟨p, hp, _⟩ | ⟨ins, ans, hex, ha1, ha2⟩
      · dsimp only at hp
        subst hp
        refine ⟨_, rfl, ?_⟩
        dsimp only [tC]
        refine ix_dt (n := 0) rdx rfl fun y0 ry0 => ?_
        rw [ry0.str_inv]
        refine ⟨rfl, _, rfl, ?_⟩
        refine iteD (fun z => absurd z (by decide +kernel)) (fun _ => ?_)
        refine ⟨c3, us, hus3, by omega, ?_⟩
        rw [take_one hes, entsOf_snoc, entOf_wish, List.append_nil]
        exact rus3
      · dsimp only at hex
        subst hex
        refine ⟨_, rfl, ?_⟩
        dsimp only [tC]
        refine ix_dt (n := 0) rdx rfl fun y0 ry0 => ?_
        rw [ry0.str_inv]
        refine ⟨rfl, _, rfl, ?_⟩
        refine iteD (fun _ => ?_) (fun z => absurd rfl z)
        refine ⟨_, rfl, _, rfl, ?_⟩
        dsimp only [tC]
        refine ix_dt (n := 1) rdx rfl fun y1 ry1 => ?_
        refine ⟨_, rfl, ?_⟩
        dsimp only [tC]
        refine ix_dt (n := 2) rdx rfl fun y2 ry2 => ?_
        refine ⟨(by show 3 ≤ sizeLine; decide), fun q5 hq5 => ?_⟩
        have c5 : Ch [] H3 (upd H3 q5 (.tup [kV (Sum.inl num), y1, y2])) := .new hq5
        have rq : DR K (upd H3 q5 (.tup [kV (Sum.inl num), y1, y2])) (.ref q5) (entD (.tup ins, ans, num)) := .new (.cons (.int _) (.cons ry1 (.cons ry2 .nil))) hq5
        have hus5 := c5 DD _ (by simp) hus3
        have rus5 := rus3.ch c5
        generalize upd H3 q5 (.tup [kV (Sum.inl num), y1, y2]) = H5 at c5 rq hus5 rus5 ⊢
        have t5 : Ts H5 (upd H5 DD (.lst (us ++ [.ref q5]))) := .upd (by rw [hus5]; trivial)
        refine ⟨us, hus5, small1000 (by omega), (c3.trans c5).mut hDD, us ++ [.ref q5], upd_same, by rw [List.length_append, List.length_singleton]; omega, ?_⟩
        rw [take_one hes, entsOf_snoc, entOf_ex, List.map_append]
        exact (rus5.ts t5).snoc (rq.ts t5)
    rintro H3 ⟨c3, us, hus, lus, rus⟩
    rw [kvr.len, List.take_length] at rus
    rw [kvr.len] at lus
    refine ⟨c3 TH _ (by simp) e2, ?_⟩
    have t4 : Ts H3 (upd H3 TH (.dK kvs)) := ts_thaw (c3 TH _ (by simp) e2)
    have c14 : Ch [] H1 (upd H3 TH (.dK kvs)) := fun a o _ e => by
      by_cases z : a = TH
      · rw [z] at e ⊢
        rw [hTH1] at e
        cases e
        exact upd_same
      · rw [upd_ne z]
        exact c3 a o (by simp) (hk2 a o z e)
    have hus4 : upd H3 TH (.dK kvs) DD = some (.lst us) := by rw [upd_ne nDT]; exact hus
    have rus4 := rus.ts t4
    have c04 := c1.trans c14
    generalize upd H3 TH (.dK kvs) = H4 at c14 c04 hus4 rus4 ⊢
    have hL4 := hL.ch0 c04
    have rx4 := rx.ch c04
    -- every one against all ahead
    refine ⟨_, rfl, tp, L, xs, rfl, hL4.sq, ?_⟩
    refine for_it (walk_enum2 (K := K) (t := tp) (a := L) (xs := xs)) (fun i σ' H' => ∃ u4 u5 u6 u8 u10 u11 : Option V, σ' = [some hv, some (.ref TH), some (.int came), some (.ref L), u4, u5, u6, u7, u8, some (.ref DD), u10, u11, u12, u13, none] ∧ Ch [] H4 H' ∧ Calm (entsOf es ++ entsOf (numEx came (sm.take i))) ∧
      lookRes came (entsOf es) 0 sm = lookRes came (entsOf es ++ entsOf (numEx came (sm.take i))) i (sm.drop i)) ?_ ?_ ?_ ?_
    · exact ⟨u4, u5, u6, none, none, none, rfl, .refl, by rw [List.take_zero]; show Calm (_ ++ []); rw [List.append_nil]; exact calm, by rw [List.take_zero]; show _ = lookRes came (_ ++ []) 0 sm; rw [List.append_nil]⟩
    · rintro i σ' H' _ ⟨_, _, _, _, _, _, _, c, _⟩
      exact (hL4.ch0 c).sq
    · rintro i x σ' Hx H' hi ⟨u4, u5, u6, u8, u10, u11, rfl, c, cm, hres⟩ ⟨TT, xi, y, rfl, hT, rfl, ex, ey⟩
      have ex' := Option.some.inj ex
      subst ex'
      obtain ⟨d, hd, rd⟩ := rx4.getv ey
      rw [List.getElem?_map] at hd
      obtain ⟨pr, hpr, rfl⟩ := Option.map_eq_some_iff.mp hd
      obtain ⟨ins, ei, ai, ak⟩ := exOk_tup (hok pr (List.mem_of_getElem? hpr))
      obtain ⟨insd, ans⟩ := pr
      dsimp only at ei ai ak
      subst ei
      have hil := (List.getElem?_eq_some_iff.mp hpr).1
      have c5 : Ch [] H4 (upd Hx TT (.tup [.int (i : Nat), y])) := c.trans (.new hT)
      have sT : SqT K (upd Hx TT (.tup [.int (i : Nat), y])) TT [.int (i : Nat), y] := SqT.of upd_same
      generalize upd Hx TT (.tup [.int (i : Nat), y]) = H5 at c5 sT ⊢
      obtain ⟨pa, pxs, rfl, pS, pD⟩ := (rd.ch c5).tup_inv
      cases pD with
      | cons d1 pD =>
      cases pD with
      | cons d2 pD =>
      cases pD
      rename_i iv av
      dsimp only at d1 d2
      refine ⟨TT, _, rfl, sT, rfl, _, _, rfl, _, _, rfl, pa, _, rfl, pS, rfl, _, _, rfl, _, _, rfl, rfl, rfl, ?_⟩
      refine ⟨_, rfl, ?_⟩
      refine ⟨_, rfl, _, rfl, by omega, by omega, fun LL hLL => ?_⟩
      refine lc_range (lo := 0) (n := i) (fun k H' => Ch [] H5 H' ∧ ∃ ws : List V, H' LL = some (.lst ws) ∧ ws.length ≤ k ∧ DRs K H' ws ((entsOf (numEx came (sm.take k))).map entD)) ?_ ?_ ?_
      · exact ⟨.new hLL, [], upd_same, Nat.le_refl _, .nil⟩
      · rintro k H6 hk ⟨c6, ws, hws, lws, rws⟩
        refine ⟨rfl, ?_⟩
        obtain ⟨pk, hpk⟩ : ∃ pk, sm[k]? = some pk := ⟨_, List.getElem?_eq_getElem (by omega)⟩
        obtain ⟨xk, hxk, rxk⟩ := (rx4.ch (c5.trans c6)).get (i := k) (d := pairD pk) (by rw [List.getElem?_map, hpk]; rfl)
        have sL6 := hL4.ch0 (c5.trans c6)
        refine ⟨_, rfl, _, rfl, _, _, rfl, rfl, ?_⟩
        rw [Int.zero_add]
        refine ⟨_, rfl, _, rfl, sL6.ix (atI_nat hxk) ?_⟩
        dsimp only [tC]
        refine ix_dt (n := 0) rxk rfl fun y1 ry1 => ?_
        refine ⟨_, rfl, _, rfl, sL6.ix (atI_nat hxk) ?_⟩
        dsimp only [tC]
        refine ix_dt (n := 1) rxk rfl fun y2 ry2 => ?_
        refine ⟨(by show 3 ≤ sizeLine; decide), fun q7 hq7 => ?_⟩
        have c7 : Ch [] H6 (upd H6 q7 (.tup [.int (came + (k : Int)), y1, y2])) := .new hq7
        have rq : DR K (upd H6 q7 (.tup [.int (came + (k : Int)), y1, y2])) (.ref q7) (entD (pk.1, pk.2, came + (k : Int))) := .new (.cons (.int _) (.cons ry1 (.cons ry2 .nil))) hq7
        have hws7 := c7 LL _ (by simp) hws
        have rws7 := rws.ch c7
        generalize upd H6 q7 (.tup [.int (came + (k : Int)), y1, y2]) = H7 at c7 rq hws7 rws7 ⊢
        have t7 : Ts H7 (upd H7 LL (.lst (ws ++ [.ref q7]))) := .upd (by rw [hws7]; trivial)
        refine ⟨ws, hws7, small1000 (by omega), (c6.trans c7).mut hLL, ws ++ [.ref q7], upd_same, by rw [List.length_append, List.length_singleton]; omega, ?_⟩
        have lt : (sm.take k).length = k := by rw [List.length_take]; omega
        rw [take_one hpk, numEx_snoc, lt, entsOf_snoc, entOf_ex, List.map_append]
        exact (rws7.ts t7).snoc (rq.ts t7)
      · rintro H6 ⟨c6, ws, hws, lws, rws⟩
        have c46 := c5.trans c6
        have hus6 := c46 DD _ (by simp) hus4
        refine ⟨DD, LL, us, ws, rfl, rfl, hus6, hws, Nat.le_of_lt (small1000 (by omega)), fun p8 hp8 => ?_⟩
        have c8 : Ch [] H6 (upd H6 p8 (.lst (us ++ ws))) := .new hp8
        have h8 : upd H6 p8 (.lst (us ++ ws)) p8 = some (.lst (us ++ ws)) := upd_same
        have r8 : DRs K (upd H6 p8 (.lst (us ++ ws))) (us ++ ws) ((entsOf es ++ entsOf (numEx came (sm.take i))).map entD) := by
          rw [List.map_append]
          exact ((rus4.ch c46).app rws).ch c8
        have d1' := d1.ch (c6.trans c8)
        have d2' := d2.ch (c6.trans c8)
        have c48 := c46.trans c8
        generalize upd H6 p8 (.lst (us ++ ws)) = H8 at c8 h8 r8 d1' d2' c48 ⊢
        have tyA : ∀ e ∈ entsOf es ++ entsOf (numEx came (sm.take i)), ∃ is : List Dt, e.1 = .tup is ∧ AreOf ks is ∧ KdOf t e.2.1 = true := by
          intro e he
          rcases List.mem_append.mp he with he | he
          · exact fit.ents e he
          · obtain ⟨x, hx, e1, e2⟩ := numEx_ents _ _ e he
            obtain ⟨is, h1, h2, h3⟩ := exOk_tup (hok x (List.mem_of_mem_take hx))
            exact ⟨is, e1.trans h1, h2, e2 ▸ h3⟩
        generalize hacc : entsOf es ++ entsOf (numEx came (sm.take i)) = acc at cm hres r8 tyA
        have lacc : (us ++ ws).length = acc.length := by rw [r8.len, List.length_map]
        refine ⟨p8, rfl, ⟨_, SqL.of h8⟩, ?_⟩
        refine for_it (walk_list (K := K) (a := p8) (xs := us ++ ws)) (fun j σ' H' => ∃ w8 w10 w11 : Option V, σ' = [some hv, some (.ref TH), some (.int came), some (.ref L), some (.int (i : Nat)), some iv, some av, u7, w8, some (.ref DD), w10, w11, u12, u13, none] ∧ Ch [] H8 H' ∧ ∀ f ∈ acc.take j, ¬ (f.1 = .tup ins ∧ f.2.1 ≠ ans)) ⟨u8, u10, u11, rfl, .refl, by simp⟩ ?_ ?_ ?_
        · rintro j σ' H' _ ⟨_, _, _, _, c, _⟩
          exact SqL.of (c p8 _ (by simp) h8)
        · rintro j x σ' H9 H' hj ⟨w8, w10, w11, rfl, c9, hno⟩ ⟨rfl, ex⟩
          obtain ⟨de, hde, rde⟩ := (r8.ch c9).getv ex
          rw [List.getElem?_map] at hde
          obtain ⟨e, hej, rfl⟩ := Option.map_eq_some_iff.mp hde
          obtain ⟨is, ei1, ei2, ei3⟩ := tyA e (List.mem_of_getElem? hej)
          obtain ⟨qa, qxs, rfl, qS, qD⟩ := rde.tup_inv
          cases qD with
          | cons g1 qD =>
          cases qD with
          | cons g2 qD =>
          cases qD with
          | cons g3 qD =>
          cases qD
          rename_i nv ov dv
          have hn := g1.int_inv
          subst hn
          rw [ei1] at g2
          refine ⟨qa, _, rfl, qS, rfl, _, _, rfl, _, _, rfl, _, _, rfl, rfl, ?_⟩
          have hk := kd_vals ei3 ak g3 (d2'.ch c9)
          have next : ¬ (e.1 = .tup ins ∧ e.2.1 ≠ ans) → ∀ f ∈ acc.take (j + 1), ¬ (f.1 = .tup ins ∧ f.2.1 ≠ ans) := fun hne f hf => by
            rw [take_one hej] at hf
            rcases List.mem_append.mp hf with hf | hf
            · exact hno f hf
            · rw [List.mem_singleton.mp hf]; exact hne
          refine ⟨_, rfl, _, rfl, (Dt.tup is).py, (Dt.tup ins).py, g2.dp, (d1'.ch c9).dp, shaped_ins ei2, shaped_ins ai, _, rfl, ?_⟩
          refine iteB (fun q1 => ?_) (fun q1 => ?_)
          · have eis := (eqv_ins ei2 ai).mp q1
            refine ⟨_, rfl, _, rfl, hk.1, _, rfl, ?_⟩
            refine iteN (fun ne => ?_) (fun eq => ?_)
            · have ne2 : e.2.1 ≠ ans := fun z => ne (hk.2.mpr z)
              have hf := clash_at cm hej hno (by rw [ei1, eis]) ne2
              have hstep := (lookRes_cons (came := came) (n := i) (a := ans) (r := sm.drop (i + 1)) (m := 0) (.inl hf)).1 ne2
              have hd : sm.drop i = (.tup ins, ans) :: sm.drop (i + 1) := by
                obtain ⟨hi2, hx2⟩ := List.getElem?_eq_some_iff.mp hpr
                rw [List.drop_eq_getElem_cons hi2, hx2]
              rw [← hd] at hstep
              refine ⟨_, rfl, _, rfl, (by show 3 ≤ sizeLine; decide), fun p9 hp9 => ?_⟩
              exact q2' i e.2.2 (hres.trans hstep) _ _ ((c04.trans (c48.trans c9)).trans (.new hp9)) (.new (.cons (.str _) (.cons (.int _) (.cons (.int _) .nil))) hp9)
            · exact ⟨_, _, _, rfl, c9, next fun z => z.2 (hk.2.mp eq)⟩
          · refine iteB (fun z => by cases z) (fun _ => ?_)
            refine ⟨_, _, _, rfl, c9, next fun z => ?_⟩
            rw [ei1] at z
            have : is = ins := by injection z.1
            rw [(eqv_ins ei2 ai).mpr this] at q1
            cases q1
        · rintro σ9 H9 ⟨w8, w10, w11, rfl, c9, hno⟩
          rw [lacc, List.take_length] at hno
          have hall : ∀ e ∈ acc, e.1 = .tup ins → e.2.1 = ans := fun e he h1 => by
            by_cases z : e.2.1 = ans
            · exact z
            · exact (hno e he ⟨h1, z⟩).elim
          have lt : (sm.take i).length = i := by rw [List.length_take]; omega
          have hd : sm.drop i = (.tup ins, ans) :: sm.drop (i + 1) := by
            obtain ⟨hi2, hx2⟩ := List.getElem?_eq_some_iff.mp hpr
            rw [List.drop_eq_getElem_cons hi2, hx2]
          have hnx : entsOf es ++ entsOf (numEx came (sm.take (i + 1))) = acc ++ [(.tup ins, ans, came + (i : Int))] := by
            rw [take_one hpr, numEx_snoc, lt, entsOf_snoc, entOf_ex, ← List.append_assoc, hacc]
          refine ⟨_, _, _, _, _, _, rfl, c48.trans c9, ?_, ?_⟩
          · rw [hnx]
            exact cm.snoc hall
          · rw [hnx, hres, hd]
            exact lookRes_next hall
    · rintro σ5 H5 ⟨u4, u5, u6, u8, u10, u11, rfl, c, cm, hres⟩
      rw [lx, List.drop_length] at hres
      exact q3' hres H5 (c04.trans c)
end
end LM
set_option Elab.async false
set_option linter.all false
set_option maxRecDepth 100000
set_option maxHeartbeats 4000000
/-! a caught error with fields: isinstance, and as an argument of a def -/
namespace LMH
open PySem PySem.Spec PySem.Calls PyProof.Rows PySem.W
section
variable {p : Program} {w : World} {R : Around} {F : Value → Shared → Prop} {σ : Shared} {N : Frag} {z C : Addr} {oz oy : Obj}
/-- its class by its name, the error having a dict -/
theorem clsE {Z : Option Value → Shared → Prop} (T : L2.ExcC N C) (inn : N.In σ.heap) (at1 : InstAt σ.heap z oz C (some oy))
    (nx : Z (some (.ref C)) { σ with toks := σ.toks + 1 }) : wpAny (model p w) R (getAttr? (.ref z) "__class__") Z F σ := by
  obtain ⟨b1, b2, b3, b4, b5, b6, b7, b8⟩ := T
  have iss : (clsIn N C).isSome = true := by
    obtain ⟨k, hk, _⟩ := any_some b4
    rw [hk]; rfl
  have fnd := findObj_data (od := oy) iss b5 b6 b7
  obtain ⟨h0, g0, d0, t0, o0⟩ := σ
  have ty0 := at1.type (M := model p w)
  have lk1 := looks_findIn (M := model p w) inn b1
  have lk2 := looks_findIn (M := model p w) inn b2
  have lk3 := looks_find (M := model p w) inn at1 fnd
  have isb : Looks (model p w) h0 (isInstance (Value.ref z) (Value.type "BaseException")) true :=
    ty0.andThen (looks_subIn inn b3)
  have n0 : (false && onTheHeap (Value.builtin "BaseException.__getattribute__")) = false := rfl
  have n2 : (Value.builtin "BaseException.__getattribute__" == Value.builtin "object.__getattribute__") = false := by
    decide +kernel
  have n1 : (onTheHeap (Value.ref C) && Value.builtin "BaseException.__getattribute__" == Value.builtin "object.__getattribute__") = false := by rw [n2]; rfl
  unfold getAttr? getAttrBy? getAttrBy
  refine wpAny_bind (wpAny_mkText (wpAny_bind ?_))
  refine wpAny_attempt (wpAny_holding (wpAny_bind (ty0.at ?_)))
  refine wpAny_bind (lk1.at ?_)
  show wpAny _ _ (ite _ _ _) _ _ _
  rw [n1, if_neg Bool.false_ne_true]
  unfold getAttrByItsOwn hookBefore
  refine wpAny_bind ?_
  rw [if_pos (show onTheHeap (.ref C) = true from rfl)]
  refine lk2.at (wpAny_bind (wpAny_attempt (wpAny_holding ?_)))
  unfold callGetattribute
  rw [n0, if_neg Bool.false_ne_true]
  unfold boundAndCalled
  rw [PySem.F.excAttr_ValueError.ga.bind (.ref z)]
  refine wpAny_bind (wpAny_pure ?_)
  show wpAny _ _ (call _ [_, .str "__class__" t0]) _ _ _
  refine wpAny_call (codeAny_call_builtin PySem.F.excAttr_ValueError.ga.plain PySem.F.entry_bexc_ga ?_)
  refine @check_slot (model p w) _ _ ⟨h0, g0, d0, t0 + 1, o0⟩ "BaseException.__getattribute__" "BaseException" "__getattribute__" (.ref z) [.str "__class__" t0] [] _ (by decide +kernel) (by decide +kernel) isb
    (PySem.F.args_bexc_ga (.ref z) (.str "__class__" t0)) ?_
  unfold Builtin.«object.__getattribute__»
  refine wpAny_bind (wpAny_of_eq (a := ((Value.ref z : Value), [Value.str "__class__" t0])) ?_ ?_)
  · first | rfl | (simp only [slotArgs]; rfl)
  refine wpAny_bind (wpAny_pure (wpAny_bind (ty0.at ?_)))
  refine wpAny_bind (lk3.at ?_)
  show wpAny _ _ (holding [Value.builtin "object.__class__"] _ >>= ret) _ _ _
  refine wpAny_bind (wpAny_holding (wpAny_call ?_))
  refine class_get (s := ⟨h0, g0, d0, t0 + 1, o0⟩) (ox := oz) (od := some oy) inn at1 b8 (wpAny_pure ?_)
  show wpAny _ _ (handedOut (.ref C)) _ _ _
  rw [handedOut_of (v := .ref C) rfl]
  first
    | exact wpAny_pure (wpAny_pure nx)
    | exact wpAny_pure nx
    | exact wpAny_pure (wpAny_bind (wpAny_pure (wpAny_pure nx)))
/-- what isinstance asks of it -/
theorem kitE (T : L2.ExcC N C) : KitX N (.ref z) (.ref C) (fun h => InstAt h z oz C (some oy)) := by
  obtain ⟨k, hk, _⟩ := any_some T.hd
  have isC : ∃ q1 q2 q3 q4, N.lookup C = some ⟨q1, q2, .cls q3, q4⟩ := by
    unfold clsIn at hk
    split at hk
    · rename_i q1 q2 q3 q4 e
      exact ⟨q1, q2, q3, q4, e⟩
    · cases hk
  obtain ⟨q1, q2, q3, q4, hl⟩ := isC
  refine ⟨fun _ _ _ i => i.type, fun _ _ inn _ A' Q' E' s' keep q => ?_, fun h tp dd its n sl inn ht => ?_, fun inn i nx => clsE T inn i nx⟩
  · unfold isType loadHead
    exact wpAny_bind (wpAny_loadPart (keep _ _ (inn _ _ hl)) (wpAny_pure q))
  · refine Bool.eq_false_iff.mpr fun e => ?_
    obtain rfl : C = tp := Value.ref.inj (beq_iff_eq.mp e)
    cases (inn _ _ hl).symm.trans ht
end
end LMH
namespace LM
open PySem PySem.Spec PyProof.Rows L2 L2H
/-- isinstance(e, c), e the caught error, of class cls, its dict at d -/
def rIsD (K : PySem.W.Frag) (a : Addr) (cls : Value) (d : Option Addr) : List V → Hp → VK → Prop := fun xs H Q => ∃ (c : V) (cv : Value) (b : Bool) (fs : List (Str × V)) (D dx : Addr), cls = .ref D ∧ d = some dx ∧ ExcC K D ∧ xs = [.ref a, c] ∧ (∀ u, RelV c u → u = cv) ∧ PySem.W.kitOne K (.ref D) cv = some b ∧ H dx = some (.xd fs) ∧ Q (.bl b) H
theorem call_isD {X : Cx} {a : Addr} {cls : Value} {d : Option Addr} {oe : Obj} (hz : Zc cls d oe) (hf : ∃ vs, oe.data = .fields vs) (hp : (a, oe) ∈ X.pn) : CallR X (.builtin "isinstance") (rIsD X.K a cls d) := by
  rintro pins s σ H xs us Q I r ⟨c, cv, b, fs, D, dx, rfl, rfl, C, rfl, hcv, e, hx, q⟩
  obtain ⟨u1, u2, rfl, r1, r2⟩ := vals2 r
  obtain rfl : u1 = Value.ref a := r1
  obtain rfl := hcv _ r2
  have at1 := (I.pin (a, oe) (List.mem_append_left _ hp)).1
  obtain ⟨mA, hns, _⟩ := (show ObjOk X.prog X.w H s.heap dx (.xd fs) from I.hok dx _ hx)
  obtain ⟨od, ho, _⟩ := lookIn_ns hns
  obtain ⟨vs, hv⟩ := hf
  have J : PySem.W.InstAt s.heap a oe D (some od) := ⟨at1, hz.1, by unfold PySem.W.notCls; rw [hv] <;> rfl, by rw [hz.2]; exact ho⟩
  exact PySem.W.kia_one (LMH.kitE C) I.kIn J e (fun z => nomatch z) fun tk => ⟨.bl b, H, I.tok tk, rfl, q⟩
/-! ### a def that is told the error -/
/-- told: where it stands, its class, its dict -/
abbrev SpE := Addr → Value → Option Addr → Sp
structure FnE (P : Program) (w : World) (K : PySem.W.Frag) (mg : Str → Option Value) (base : Heap) (k : Nat) (f : Addr) (fd : FuncData) (ps : List Str) (sp : SpE) : Prop where
  len : ∀ a cls d vs H Q E, sp a cls d vs H Q E → vs.length = ps.length
  run : ∀ (A : Around) (outer : List Env) (s : Shared) (H : Hp) (args : Args) (us : List Value) (vs : List V) (Q : VK) (E : XK) (p : Addr × Obj) (cls : Value) (d : Option Addr), Zc cls d p.2 → (∃ vs, p.2.data = .fields vs) → RoomH k A → PinOk outer H s p → Env0 P w K mg base A outer s H → BindsTo s fd args (ps.zip us) → Vals vs us → sp p.1 cls d vs H Q E →
    codeAny (model P w) A (.call (.ref f) args) (CR CX0 outer P w H s Q E) s
theorem fnE_of {P : Program} {w : World} {K : PySem.W.Frag} {mg : Str → Option Value} {base : Heap} {k : Nat} {f : Addr} {fd : FuncData} {x qual : Str} {params : Arguments} {body : List Stmt} {scope : Scope} {dvs : List V} {kws : List (Str × V)} {N ps : List Str} {sp : SpE}
    (G : FunD K x qual params body scope dvs kws f fd) (S : FnScope N ps scope) (len : ∀ a cls d vs H Q E, sp a cls d vs H Q E → vs.length = ps.length)
    (hb : ∀ (cdv : Value) (A : Around) (outer : List Env) (s : Shared) (H : Hp) (vs : List V) (Q : VK) (E : XK) (p : Addr × Obj) (cls : Value) (d : Option Addr), Zc cls d p.2 → (∃ vs, p.2.data = .fields vs) → RoomH k (A.deeper (envOfC qual scope s.heap.objs.size f cdv)) → sp p.1 cls d vs H Q E →
      ∃ t, PSs (cxH CX0 P w K mg base N qual scope f cdv A outer s H E p) body t ∧ t { nx := fun _ H' => Q .non H', rt := Q } (L2.start N vs) H) : FnE P w K mg base (k + 1) f fd ps sp := by
  obtain ⟨oc, od, dV, kV, doc, pm, an, cdv, ct, osl, rfl, lk, hcd, _, _⟩ := G.ex
  refine ⟨len, fun A outer s H args us vs Q E p cls d hz hf hr pin e0 bd r rd => ?_⟩
  have inn : K.In s.heap := e0.mod.kin.keeps fun b o e => (e0.bs b o e).1
  have nl : s.heap.NoLimit := e0.mod.nolimit.keeps fun b o e => (e0.bs b o e).1
  refine codeAny_call_function hr.depth (inn _ _ lk) rfl S.co S.gen rfl (PySem.W.codeRec_of inn hcd) (bd _ _ _ _ ?_)
  refine wpAny_newFunctionEnv_cells S.kind (fun y hy => ?_) fun env he s1 x => ?_
  · obtain ⟨n, v⟩ := y
    rcases S.par n (List.of_mem_zip hy).1 with q | q
    · exact .inl q
    · exact .inr ⟨q, PySem.W.cellsFrom_some _ _ _ (.inl q)⟩
  subst he
  refine ⟨nl.keeps x.toInCall.keep, codeAny_func ?_⟩
  obtain ⟨t, ht, hq⟩ := hb cdv A outer s H vs Q E p cls d hz hf (hr.deeper _) rd
  have J := inv_startH (CX := CX0) (E := E) S pin e0 (len _ _ _ _ _ _ _ rd) r x
  refine wpAny_mono (ht.run [] s1 _ H _ J hq) (fun fl s2 z => ?_) fun e s2 z => z
  cases fl with
  | ret u =>
    obtain ⟨v, τ, H2, J2, rv, q⟩ := z
    exact ⟨v, H2, J2.os, J2.bare, J2.base, J2.hok, rv, q⟩
  | next =>
    obtain ⟨τ, H2, J2, q⟩ := z
    exact ⟨.non, H2, J2.os, J2.bare, J2.base, J2.hok, rfl, q⟩
  | brk =>
    obtain ⟨_, _, _, q⟩ := z
    exact q.elim
  | cont =>
    obtain ⟨_, _, _, q⟩ := z
    exact q.elim
structure OkE (P : Program) (w : World) (K : PySem.W.Frag) (mg : Str → Option Value) (base : Heap) (k : Nat) (x : Str) (ps : List Str) (sp : SpE) : Prop where
  ok : ∃ f fd, mg x = some (.ref f) ∧ PySem.W.keepIn K (.ref f) = true ∧ Binds K fd ps [] ∧ FnE P w K mg base k f fd ps sp
def tCallE (sp : SpE) (a : Addr) (cls : Value) (d : Option Addr) (t : TA) : TE := fun σ H Q => t σ H fun vs H1 => sp a cls d vs H1 Q E0
theorem pe_callE {X : Cx} {k : Nat} {x : Str} {ps : List Str} {sp : SpE} {a : Addr} {oe : Obj} {q pos : Pos} {e : Expr} {es : List Expr} {t : TA} (O : OkE X.prog X.w X.K X.mg X.base k x ps sp) (hr : RoomH k X.A) (hg : Gl X x) {cls : Value} {d : Option Addr} (hz : Zc cls d oe) (hf : ∃ vs, oe.data = .fields vs) (hp : (a, oe) ∈ X.pn)
    (ha : PA X (e :: es) t) (hdb : (x == ("__debug__" : Str)) = false := by decide) (he : starEach (e :: es) X.env = (false, eval e X.env) :: starEach es X.env := by rfl) (hpl : (backTo pos (starEach es X.env)).any (·.1) = false := by rfl) :
    PE X (.Call (.Name x q) (e :: es) [] pos) (tCallE sp a cls d t) := by
  obtain ⟨f, fd, hm, hk, hb, F⟩ := O.ok
  refine ⟨fun pins s σ H Q I h => ?_⟩
  refine wpAny_Call_Name_kw (ld_glob I hg hm ?_ hdb)
  refine PySem.W.callWith_K (h₀ := X.base) I.ok.mod.kin hk (thn (ha.run pos pins s σ H _ I h) fun us s1 ⟨vs, H1, J, r, rd⟩ => ⟨J.kIn, ?_⟩) he hpl
  have hl : us.length = ps.length := by rw [← r.length]; exact F.len _ _ _ _ _ _ _ rd
  have b := hb s1 us J.kIn (by rw [List.append_nil]; exact hl)
  rw [List.append_nil] at b
  obtain ⟨P1, P2, P3, P4, P5⟩ := J.pin (a, oe) (List.mem_append_left _ hp)
  have pin : PinOk X.stack H1 s1 (a, oe) := ⟨P1, P2, fun hm => (List.mem_cons.mp (J.stkSub a hm)).elim P3 P4, P5⟩
  refine wpAny_call (codeAny_mono (F.run X.A X.stack s1 H1 ⟨us, []⟩ us vs Q E0 (a, oe) cls d hz hf hr pin J.env0 b r rd) fun rr s' hq => ?_)
  cases rr with
  | error e =>
    first
      | exact False.elim hq
      | exact pass0 _ _ _ _ _ _ J hq
  | ok fl =>
    cases fl with
    | ret u => exact J.after hq
    | next => exact hq.elim
    | brk => exact hq.elim
    | cont => exact hq.elim
end LM
set_option Elab.async false
set_option linter.all false
set_option maxRecDepth 100000
set_option maxHeartbeats 4000000
namespace LM
open PySem PySem.Spec PyProof.Rows L2 L2H
def sortNames : List Str := ["NoHead", "NoProgram", "NoText", "NoStock", "NoAnswer", "NoInputs", "Clash", "NoRow", "NoQuestion", "NoDoer", "NotKept", "NoName"]
/-- of the twelve, it is just one -/
structure SortC (K : PySem.W.Frag) (D : Addr) (nm : Str) : Prop where
  k : ∀ x ∈ sortNames, PySem.W.kitOne K (.ref D) (.ref (He.ga K x)) = some (decide (x = nm))
structure Xs (K : PySem.W.Frag) (mg : Str → Option Value) : Prop extends Bn mg where
  gs : ∀ x ∈ sortNames, mg x = some (.ref (He.ga K x))
theorem Xs.g_NoHead {K : PySem.W.Frag} {mg : Str → Option Value} (T : Xs K mg) : mg "NoHead" = some (.ref (He.ga K "NoHead")) := T.gs _ (by decide +kernel)
theorem Xs.g_NoProgram {K : PySem.W.Frag} {mg : Str → Option Value} (T : Xs K mg) : mg "NoProgram" = some (.ref (He.ga K "NoProgram")) := T.gs _ (by decide +kernel)
theorem Xs.g_NoText {K : PySem.W.Frag} {mg : Str → Option Value} (T : Xs K mg) : mg "NoText" = some (.ref (He.ga K "NoText")) := T.gs _ (by decide +kernel)
theorem Xs.g_NoStock {K : PySem.W.Frag} {mg : Str → Option Value} (T : Xs K mg) : mg "NoStock" = some (.ref (He.ga K "NoStock")) := T.gs _ (by decide +kernel)
theorem Xs.g_NoAnswer {K : PySem.W.Frag} {mg : Str → Option Value} (T : Xs K mg) : mg "NoAnswer" = some (.ref (He.ga K "NoAnswer")) := T.gs _ (by decide +kernel)
theorem Xs.g_NoInputs {K : PySem.W.Frag} {mg : Str → Option Value} (T : Xs K mg) : mg "NoInputs" = some (.ref (He.ga K "NoInputs")) := T.gs _ (by decide +kernel)
theorem Xs.g_Clash {K : PySem.W.Frag} {mg : Str → Option Value} (T : Xs K mg) : mg "Clash" = some (.ref (He.ga K "Clash")) := T.gs _ (by decide +kernel)
theorem Xs.g_NoRow {K : PySem.W.Frag} {mg : Str → Option Value} (T : Xs K mg) : mg "NoRow" = some (.ref (He.ga K "NoRow")) := T.gs _ (by decide +kernel)
theorem Xs.g_NoQuestion {K : PySem.W.Frag} {mg : Str → Option Value} (T : Xs K mg) : mg "NoQuestion" = some (.ref (He.ga K "NoQuestion")) := T.gs _ (by decide +kernel)
theorem Xs.g_NoDoer {K : PySem.W.Frag} {mg : Str → Option Value} (T : Xs K mg) : mg "NoDoer" = some (.ref (He.ga K "NoDoer")) := T.gs _ (by decide +kernel)
theorem Xs.g_NotKept {K : PySem.W.Frag} {mg : Str → Option Value} (T : Xs K mg) : mg "NotKept" = some (.ref (He.ga K "NotKept")) := T.gs _ (by decide +kernel)
theorem Xs.g_NoName {K : PySem.W.Frag} {mg : Str → Option Value} (T : Xs K mg) : mg "NoName" = some (.ref (He.ga K "NoName")) := T.gs _ (by decide +kernel)
section
variable {P : Program} {w : World} {K : PySem.W.Frag} {mg : Str → Option Value} {base : Heap}
def spSorts (K : PySem.W.Frag) : SpE := fun a cls d vs H Q _ => ∃ (D dx : Addr) (fs : List (Str × V)) (nm : Str), vs = [.ref a] ∧ cls = .ref D ∧ d = some dx ∧ ExcC K D ∧ SortC K D nm ∧ H dx = some (.xd fs) ∧ ∀ p H', Ch [] H H' → H' p = some (.lst ((sortNames.map fun x => decide (x = nm)).map V.bl)) → Q (.ref p) H'
theorem sc_sorts : FnScope ["_law_e", "_law_found"] ["_law_e"] (defScope (top 55)) := ⟨rfl, rfl, rfl, by decide +kernel, rfl, by decide +kernel, by decide +kernel⟩
theorem is_one {K : PySem.W.Frag} {a D dx : Addr} {nm x : Str} {fs : List (Str × V)} {H : Hp} {Q : VK} (C : ExcC K D) (S : SortC K D nm) (hx : x ∈ sortNames) (hd : H dx = some (.xd fs)) (q : Q (.bl (decide (x = nm))) H) : rIsD K a (.ref D) (some dx) [.ref a, .ref (He.ga K x)] H Q :=
  ⟨_, .ref (He.ga K x), _, fs, D, dx, rfl, rfl, C, rfl, fun u r => r, S.k x hx, hd, q⟩
theorem is_at {K : PySem.W.Frag} {a D dx : Addr} {nm x : Str} {fs : List (Str × V)} {H : Hp} {Q : VK} {i : Nat} {σ : L2.St} (hσ : σ[i]? = some (some (V.ref a))) (C : ExcC K D) (S : SortC K D nm) (hx : x ∈ sortNames) (hd : H dx = some (.xd fs)) (q : Q (.bl (decide (x = nm))) H) :
    tCB (rIsD K a (.ref D) (some dx)) (tCons (tVar i) (tCons (tC (V.ref (He.ga K x))) tNil)) σ H Q := ⟨_, hσ, is_one C S hx hd q⟩
def sort8 (nm : Str) : List V := [.bl (decide (("NoHead" : Str) = nm)), .bl (decide (("NoProgram" : Str) = nm)), .bl (decide (("NoText" : Str) = nm)), .bl (decide (("NoStock" : Str) = nm)), .bl (decide (("NoAnswer" : Str) = nm)), .bl (decide (("NoInputs" : Str) = nm)), .bl (decide (("Clash" : Str) = nm)), .bl (decide (("NoRow" : Str) = nm))]
theorem ok_sorts (D0 : Df K mg "_law_sorts" (top 55)) (T : Xs K mg) : OkE P w K mg base 1 "_law_sorts" ["_law_e"] (spSorts K) := by
  obtain ⟨g, fd, F⟩ := D0
  refine ⟨He.ga K "_law_sorts", fd, g, F.kp, F.bindsN (fun _ _ _ _ _ _ us hl => match us, hl with | [_], _ => rfl), fnE_of F sc_sorts (fun a cls d vs H Q E h => ?_) (fun cdv A outer s H vs Q E p cls d hz hf hr h => ?_)⟩
  · obtain ⟨_, _, _, _, rfl, _⟩ := h
    rfl
  · obtain ⟨DD, dx, fs, nm, rfl, e1, e2, C, S, hd, q⟩ := h
    have nd := sc_sorts.nd
    refine ⟨_, (pss_cons (ps_set (i := 1) nd rfl (Or.inl rfl) (pe_lst (pa_cons (pe_callB (r := rIsD K p.1 cls d) (call_isD hz hf (List.mem_singleton.mpr rfl)) (by rfl) T.b_isinstance (by decide +kernel) (pa_cons (pv 0) (pa_cons (pe_glob (v := .ref (He.ga K "NoHead")) rfl T.g_NoHead rfl) pa_nil))) (pa_cons (pe_callB (r := rIsD K p.1 cls d) (call_isD hz hf (List.mem_singleton.mpr rfl)) (by rfl) T.b_isinstance (by decide +kernel) (pa_cons (pv 0) (pa_cons (pe_glob (v := .ref (He.ga K "NoProgram")) rfl T.g_NoProgram rfl) pa_nil))) (pa_cons (pe_callB (r := rIsD K p.1 cls d) (call_isD hz hf (List.mem_singleton.mpr rfl)) (by rfl) T.b_isinstance (by decide +kernel) (pa_cons (pv 0) (pa_cons (pe_glob (v := .ref (He.ga K "NoText")) rfl T.g_NoText rfl) pa_nil))) (pa_cons (pe_callB (r := rIsD K p.1 cls d) (call_isD hz hf (List.mem_singleton.mpr rfl)) (by rfl) T.b_isinstance (by decide +kernel) (pa_cons (pv 0) (pa_cons (pe_glob (v := .ref (He.ga K "NoStock")) rfl T.g_NoStock rfl) pa_nil))) pa_nil))))))
  (pss_cons (ps_set (i := 1) nd rfl (Or.inl rfl) (pe_op op_cat (pv 1) (pe_lst (pa_cons (pe_callB (r := rIsD K p.1 cls d) (call_isD hz hf (List.mem_singleton.mpr rfl)) (by rfl) T.b_isinstance (by decide +kernel) (pa_cons (pv 0) (pa_cons (pe_glob (v := .ref (He.ga K "NoAnswer")) rfl T.g_NoAnswer rfl) pa_nil))) (pa_cons (pe_callB (r := rIsD K p.1 cls d) (call_isD hz hf (List.mem_singleton.mpr rfl)) (by rfl) T.b_isinstance (by decide +kernel) (pa_cons (pv 0) (pa_cons (pe_glob (v := .ref (He.ga K "NoInputs")) rfl T.g_NoInputs rfl) pa_nil))) (pa_cons (pe_callB (r := rIsD K p.1 cls d) (call_isD hz hf (List.mem_singleton.mpr rfl)) (by rfl) T.b_isinstance (by decide +kernel) (pa_cons (pv 0) (pa_cons (pe_glob (v := .ref (He.ga K "Clash")) rfl T.g_Clash rfl) pa_nil))) (pa_cons (pe_callB (r := rIsD K p.1 cls d) (call_isD hz hf (List.mem_singleton.mpr rfl)) (by rfl) T.b_isinstance (by decide +kernel) (pa_cons (pv 0) (pa_cons (pe_glob (v := .ref (He.ga K "NoRow")) rfl T.g_NoRow rfl) pa_nil))) pa_nil)))))))
  (pss_one (ps_ret (pe_op op_cat (pv 1) (pe_lst (pa_cons (pe_callB (r := rIsD K p.1 cls d) (call_isD hz hf (List.mem_singleton.mpr rfl)) (by rfl) T.b_isinstance (by decide +kernel) (pa_cons (pv 0) (pa_cons (pe_glob (v := .ref (He.ga K "NoQuestion")) rfl T.g_NoQuestion rfl) pa_nil))) (pa_cons (pe_callB (r := rIsD K p.1 cls d) (call_isD hz hf (List.mem_singleton.mpr rfl)) (by rfl) T.b_isinstance (by decide +kernel) (pa_cons (pv 0) (pa_cons (pe_glob (v := .ref (He.ga K "NoDoer")) rfl T.g_NoDoer rfl) pa_nil))) (pa_cons (pe_callB (r := rIsD K p.1 cls d) (call_isD hz hf (List.mem_singleton.mpr rfl)) (by rfl) T.b_isinstance (by decide +kernel) (pa_cons (pv 0) (pa_cons (pe_glob (v := .ref (He.ga K "NotKept")) rfl T.g_NotKept rfl) pa_nil))) (pa_cons (pe_callB (r := rIsD K p.1 cls d) (call_isD hz hf (List.mem_singleton.mpr rfl)) (by rfl) T.b_isinstance (by decide +kernel) (pa_cons (pv 0) (pa_cons (pe_glob (v := .ref (He.ga K "NoName")) rfl T.g_NoName rfl) pa_nil))) pa_nil)))))))))), ?_⟩
    subst e1 e2
    refine is_at (x := "NoHead") rfl C S (by decide +kernel) hd ?_
    refine is_at (x := "NoProgram") rfl C S (by decide +kernel) hd ?_
    refine is_at (x := "NoText") rfl C S (by decide +kernel) hd ?_
    refine is_at (x := "NoStock") rfl C S (by decide +kernel) hd ?_
    refine ⟨(by show 4 ≤ sizeLine; decide), fun q1 hq1 => ?_⟩
    have c1 : Ch [] H (upd H q1 (.lst [.bl (decide (("NoHead" : Str) = nm)), .bl (decide (("NoProgram" : Str) = nm)), .bl (decide (("NoText" : Str) = nm)), .bl (decide (("NoStock" : Str) = nm))])) := .new hq1
    have l1 : upd H q1 (.lst [.bl (decide (("NoHead" : Str) = nm)), .bl (decide (("NoProgram" : Str) = nm)), .bl (decide (("NoText" : Str) = nm)), .bl (decide (("NoStock" : Str) = nm))]) q1 = _ := upd_same
    generalize upd H q1 (.lst [.bl (decide (("NoHead" : Str) = nm)), .bl (decide (("NoProgram" : Str) = nm)), .bl (decide (("NoText" : Str) = nm)), .bl (decide (("NoStock" : Str) = nm))]) = H1 at c1 l1 ⊢
    have hd1 := c1 dx _ (by simp) hd
    refine ⟨_, rfl, ?_⟩
    refine is_at (x := "NoAnswer") rfl C S (by decide +kernel) hd1 ?_
    refine is_at (x := "NoInputs") rfl C S (by decide +kernel) hd1 ?_
    refine is_at (x := "Clash") rfl C S (by decide +kernel) hd1 ?_
    refine is_at (x := "NoRow") rfl C S (by decide +kernel) hd1 ?_
    refine ⟨(by show 4 ≤ sizeLine; decide), fun q2 hq2 => ?_⟩
    have c2 : Ch [] H1 (upd H1 q2 (.lst [.bl (decide (("NoAnswer" : Str) = nm)), .bl (decide (("NoInputs" : Str) = nm)), .bl (decide (("Clash" : Str) = nm)), .bl (decide (("NoRow" : Str) = nm))])) := .new hq2
    have l2 : upd H1 q2 (.lst [.bl (decide (("NoAnswer" : Str) = nm)), .bl (decide (("NoInputs" : Str) = nm)), .bl (decide (("Clash" : Str) = nm)), .bl (decide (("NoRow" : Str) = nm))]) q2 = _ := upd_same
    generalize upd H1 q2 (.lst [.bl (decide (("NoAnswer" : Str) = nm)), .bl (decide (("NoInputs" : Str) = nm)), .bl (decide (("Clash" : Str) = nm)), .bl (decide (("NoRow" : Str) = nm))]) = H2 at c2 l2 ⊢
    refine ⟨q1, q2, _, _, rfl, rfl, c2 q1 _ (by simp) l1, l2, (by show 8 ≤ sizeLine; decide), fun q3 hq3 => ?_⟩
    have c3 : Ch [] H2 (upd H2 q3 (.lst (sort8 nm))) := .new hq3
    have l3 : upd H2 q3 (.lst (sort8 nm)) q3 = some (.lst (sort8 nm)) := upd_same
    rw [show ([V.bl (decide (("NoHead" : Str) = nm)), .bl (decide (("NoProgram" : Str) = nm)), .bl (decide (("NoText" : Str) = nm)), .bl (decide (("NoStock" : Str) = nm))] ++ [.bl (decide (("NoAnswer" : Str) = nm)), .bl (decide (("NoInputs" : Str) = nm)), .bl (decide (("Clash" : Str) = nm)), .bl (decide (("NoRow" : Str) = nm))]) = sort8 nm from rfl]
    generalize upd H2 q3 (.lst (sort8 nm)) = H3 at c3 l3 ⊢
    have hd3 := (c2.trans c3) dx _ (by simp) hd1
    refine ⟨_, rfl, ?_⟩
    refine is_at (x := "NoQuestion") rfl C S (by decide +kernel) hd3 ?_
    refine is_at (x := "NoDoer") rfl C S (by decide +kernel) hd3 ?_
    refine is_at (x := "NotKept") rfl C S (by decide +kernel) hd3 ?_
    refine is_at (x := "NoName") rfl C S (by decide +kernel) hd3 ?_
    refine ⟨(by show 4 ≤ sizeLine; decide), fun q4 hq4 => ?_⟩
    refine ⟨q3, q4, _, _, rfl, rfl, (Ch.new (S := []) hq4) q3 _ (by simp) l3, upd_same, (by show 12 ≤ sizeLine; decide), fun q5 hq5 => ?_⟩
    exact q q5 _ (c1.trans (c2.trans (c3.trans ((Ch.new hq4).trans (.new hq5))))) upd_same
end
end LM
set_option Elab.async false
set_option linter.all false
set_option maxRecDepth 100000
set_option maxHeartbeats 4000000
namespace LM
open PySem PySem.Spec PyProof.Rows L2 L2H
theorem roomH_mark {k : Nat} {A : Around} {h : Option Value} (r : Room k A) : RoomH k (A.mark h) := ⟨(roomH_of r).dp, (roomH_of r).un⟩
/-- the numbers told -/
def told (came : Int) (sm : List (Dt × Dt)) : Dt := .tup ((numEx came sm).map fun e => .int e.1)
/-- an error of the program as its class stands -/
structure XcF (K : PySem.W.Frag) (D CM : Addr) (nm : Str) : Prop where
  exc : ExcC K D
  srt : SortC K D nm
  xf : XfC K D
  exm : PySem.W.exmOne K (.ref D) (.ref CM) = some true
theorem drs_ints {K : PySem.W.Frag} {H : Hp} : ∀ l : List (Int × Dt), DRs K H (l.map fun e => V.int e.1) (l.map fun e => Dt.int e.1)
  | [] => .nil
  | e :: l => .cons (.int _) (drs_ints l)
theorem sort_cnt : ∀ x ∈ sortNames, (sortNames.map fun y => decide (y = x)).count true = 1 := by decide +kernel
/-- isinstance(e, X) and _law_sorts(e).count(True) == 1 -/
theorem sort_test {K : PySem.W.Frag} {a D dx : Addr} {nm x : Str} {fs : List (Str × V)} {H : Hp} {Q : Bool → Hp → Prop} {σ : L2.St} (hσ : σ[5]? = some (some (V.ref a))) (C : ExcC K D) (S : SortC K D nm) (hx : x ∈ sortNames) (hd : H dx = some (.xd fs))
    (q0 : decide (x = nm) = false → Q false H) (q1 : decide (x = nm) = true → ∀ H', Ch [] H H' → Q true H') :
    (tAnd (tB (tCB (rIsD K a (.ref D) (some dx)) (tCons (tVar 5) (tCons (tC (.ref (He.ga K x))) tNil)))) (tTest (tOp rEq (tBM K "list" (rCntB K) (tCallE (spSorts K) a (.ref D) (some dx) (tCons (tVar 5) tNil)) (tCons (tC (.bl true)) tNil)) (tC (.int 1))))) σ H Q := by
  refine is_at (i := 5) hσ C S hx hd ?_
  refine ⟨_, rfl, ?_⟩
  refine iteB (fun e => ?_) (fun e => ?_)
  · refine ⟨_, hσ, ?_⟩
    refine ⟨D, dx, fs, nm, rfl, rfl, rfl, C, S, hd, fun p H' c hl => ⟨.inl ⟨rfl, _, SqL.of hl⟩, p, _, true, rfl, rfl, SqL.of hl, ?_⟩⟩
    have hnm : nm ∈ sortNames := (of_decide_eq_true e) ▸ hx
    rw [sort_cnt nm hnm]
    exact ⟨rfl, _, rfl, q1 e H' c⟩
  · exact q0 e
section
variable {P : Program} {w : World} {K : PySem.W.Frag} {mg : Str → Option Value} {base : Heap}
/-- what is left behind an answer -/
abbrev SaidK (K : PySem.W.Frag) (H : Hp) (Q : VK) (C M TH WR : Addr) (hv : Hd) (es : List (Int × Dt)) (came : Int) (lg : List Dt) (d : Dt) : Prop := ∀ u H', Ch [M, TH, WR] H H' → Ts H H' → MkA K H' C M TH WR hv es came lg false → DR K H' u d → Q u H'
def spSaidW (K : PySem.W.Frag) (C : Addr) : Sp := fun vs H Q _ => ∃ (M TH WR : Addr) (hv : Hd) (v : V) (ks : List Kd) (t : Kd) (d : Dt) (r : Sum (Str × Nat) Kd) (es : List (Int × Dt)) (came : Int) (lg : List Dt) (b : Bool), vs = [.ref M, .str "wish", v] ∧ MkA K H C M TH WR hv es came lg b ∧ DR K H hv (hdD ks t) ∧ DR K H v d ∧ WrongIs (ks ++ [t]) d r ∧ (kn d).length ≤ 1000 ∧ ks.length ≤ 900 ∧
  es.length ≤ 900 ∧ lg.length ≤ 900 ∧ (∀ e ∈ es, e.1 ≠ came) ∧ (∀ x i, wishRes r = some (x, i) → SaidK K H Q C M TH WR hv es came (logD lg "wish") (.tup [.str "no program", .str x, .int (i : Int)])) ∧
  (wishRes r = none → SaidK K H Q C M TH WR hv (es ++ [(came, wishDt d)]) (came + 1) (logD lg "wish") (.tup [.str "told", .int came]))
def spSaidE (K : PySem.W.Frag) (C : Addr) : Sp := fun vs H Q _ => ∃ (M TH WR L : Addr) (hv : Hd) (ks : List Kd) (t : Kd) (es : List (Int × Dt)) (came : Int) (lg : List Dt) (b : Bool) (tp : Bool) (xs : List V) (sm : List (Dt × Dt)), vs = [.ref M, .str "examples", .ref L] ∧ MkA K H C M TH WR hv es came lg b ∧ DR K H hv (hdD ks t) ∧ LAt K tp H L xs ∧ (tp = false → L ∉ [M, TH, WR]) ∧ DRs K H xs (sm.map pairD) ∧
  sm.length ≤ 200 ∧ es.length ≤ 200 ∧ ks.length ≤ 200 ∧ lg.length ≤ 900 ∧ Fit ks t es ∧ (∀ e ∈ es, e.1 < came) ∧
  (∀ n, firstBad ks t 0 sm = some n → SaidK K H Q C M TH WR hv es came (logD lg "examples") (.tup [.str "no inputs", .int (n : Int)])) ∧
  (firstBad ks t 0 sm = none → ∀ n m, lookRes came (entsOf es) 0 sm = some (n, m) → SaidK K H Q C M TH WR hv es came (logD lg "examples") (.tup [.str "clash", .int (n : Int), .int m])) ∧
  (firstBad ks t 0 sm = none → lookRes came (entsOf es) 0 sm = none → SaidK K H Q C M TH WR hv (es ++ numEx came sm) (came + (sm.length : Int)) (logD lg "examples") (.tup [.str "told", told came sm]))
def spSaidB (K : PySem.W.Frag) (C : Addr) : Sp := fun vs H Q _ => ∃ (M TH WR : Addr) (hv : Hd) (es : List (Int × Dt)) (came : Int) (lg : List Dt) (b : Bool) (i : Int), vs = [.ref M, .str "back", .int i] ∧ MkA K H C M TH WR hv es came lg b ∧ lg.length ≤ 900 ∧
  ((∀ e ∈ es, e.1 ≠ i) → SaidK K H Q C M TH WR hv es came (logD lg "back") (.tup [.str "not kept", .int i])) ∧ ((∃ e ∈ es, e.1 = i) → SaidK K H Q C M TH WR hv (dropE es i) came (logD lg "back") (.tup [.str "told", .non]))
def spSaid (K : PySem.W.Frag) (C : Addr) : Sp := fun vs H Q E => spSaidW K C vs H Q E ∨ spSaidE K C vs H Q E ∨ spSaidB K C vs H Q E
theorem sc_said : FnScope ["_law_maker", "_law_word", "_law_thing", "_law_found", "_law_some", "_law_e"] ["_law_maker", "_law_word", "_law_thing"] (defScope (top 64)) := ⟨rfl, rfl, rfl, by decide +kernel, rfl, by decide +kernel, by decide +kernel⟩
theorem ok_said {C CP CI CC CM CN : Addr} (D : Df K mg "_law_maker_said" (top 64)) (T : Xs K mg) (gM : mg "MakeError" = some (.ref CM)) (gN : mg "NotKept" = some (.ref CN)) (fP : XcF K CP CM "NoProgram") (fI : XcF K CI CM "NoInputs") (fC : XcF K CC CM "Clash")
    (fN : PySem.W.exmOne K (.ref CN) (.ref CM) = some false ∧ PySem.W.exmOne K (.ref CN) (.ref CN) = some true) (XP : XfC K CP ∧ PySem.W.findIn K (.ref CP) "word" = some none ∧ PySem.W.findIn K (.ref CP) "at" = some none) (XN : XfC K CN ∧ PySem.W.findIn K (.ref CN) "number" = some none)
    (XI : XfC K CI ∧ PySem.W.findIn K (.ref CI) "at" = some none) (XC : XfC K CC ∧ PySem.W.findIn K (.ref CC) "at" = some none ∧ PySem.W.findIn K (.ref CC) "number" = some none)
    (O_wish : OkM P w K mg base (L2.CX P w) 6 C "wish" ["self", "program"] (spWish K C CP)) (O_back : OkM P w K mg base (L2.CX P w) 3 C "back" ["self", "number"] (spBack K C CN)) (O_examples : OkM P w K mg base (L2.CX P w) 5 C "examples" ["self", "some"] (spExs K C CI CC)) (O__law_sorts : OkE P w K mg base 1 "_law_sorts" ["_law_e"] (spSorts K)) :
    OkF P w K mg base CX0 7 "_law_maker_said" ["_law_maker", "_law_word", "_law_thing"] (spSaid K C) := by
  refine okF0 D sc_said (fun _ _ _ _ _ _ us hl => match us, hl with | [_, _, _], _ => rfl) (fun vs H Q E h => ?_) (fun cdv A outer s H vs Q E hr h => ?_)
  · rcases h with ⟨_, _, _, _, _, _, _, _, _, _, _, _, _, rfl, _⟩ | ⟨_, _, _, _, _, _, _, _, _, _, _, _, _, _, rfl, _⟩ | ⟨_, _, _, _, _, _, _, _, _, rfl, _⟩
    · rfl
    · rfl
    · rfl
  · have nd := sc_said.nd
    refine ⟨_, (pss_cons (ps_set (i := 3) nd rfl (Or.inl rfl) (pe_tup (pa_cons pe_str pa_nil)))
  (pss_cons (ps_try_named (i := 5) (n := "_law_e") (tb := (fun W => tSeq (tIfS (tTest (tOp rEq (tVar 1) (tC (.str "wish")))) (tAsg (tTup (tCons (tC (.str "told")) (tCons (tMethT C "wish" (spWish K C CP) (fun σ => WE W σ) (tVar 0) (tCons (tVar 2) tNil)) tNil))) (gName 3)) tNext) (tSeq (tIfS (tTest (tOp rEq (tVar 1) (tC (.str "examples")))) (tSeq (tAsg (tMethT C "examples" (spExs K C CI CC) (fun σ => WE W σ) (tVar 0) (tCons (tVar 2) tNil)) (gName 4)) (tSeq (tAsg (tIf (tB (tCB (rIsi K) (tCons (tVar 4) (tCons (tC (.ty "list")) tNil)))) (tTup (tCons (tC (.str "told")) (tCons (tCB (rTupS K) (tCons (tVar 4) tNil)) tNil))) (tTup (tCons (tC (.str "other")) tNil))) (gName 3)) (tDrop (tBM0 K "list" rClear (tVar 4))))) tNext) (tIfS (tTest (tOp rEq (tVar 1) (tC (.str "back")))) (tAsg (tTup (tCons (tC (.str "told")) (tCons (tMethT C "back" (spBack K C CN) (fun σ => WE W σ) (tVar 0) (tCons (tVar 2) tNil)) tNil))) (gName 3)) tNext)))) (Wo := fun _ _ _ _ => False) (l := [(.ref CM, (fun a cls d => tSeq (tIfS (tAnd (tB (tCB (rIsD K a cls d) (tCons (tVar 5) (tCons (tC (.ref (He.ga K "NoProgram"))) tNil)))) (tTest (tOp rEq (tBM K "list" (rCntB K) (tCallE (spSorts K) a cls d (tCons (tVar 5) tNil)) (tCons (tC (.bl true)) tNil)) (tC (.int 1))))) (tAsg (tTup (tCons (tC (.str "no program")) (tCons (tXf a cls d CP "word" (tVar 5)) (tCons (tXf a cls d CP "at" (tVar 5)) tNil)))) (gName 3)) tNext) (tSeq (tIfS (tAnd (tB (tCB (rIsD K a cls d) (tCons (tVar 5) (tCons (tC (.ref (He.ga K "NoInputs"))) tNil)))) (tTest (tOp rEq (tBM K "list" (rCntB K) (tCallE (spSorts K) a cls d (tCons (tVar 5) tNil)) (tCons (tC (.bl true)) tNil)) (tC (.int 1))))) (tAsg (tTup (tCons (tC (.str "no inputs")) (tCons (tXf a cls d CI "at" (tVar 5)) tNil))) (gName 3)) tNext) (tIfS (tAnd (tB (tCB (rIsD K a cls d) (tCons (tVar 5) (tCons (tC (.ref (He.ga K "Clash"))) tNil)))) (tTest (tOp rEq (tBM K "list" (rCntB K) (tCallE (spSorts K) a cls d (tCons (tVar 5) tNil)) (tCons (tC (.bl true)) tNil)) (tC (.int 1))))) (tAsg (tTup (tCons (tC (.str "clash")) (tCons (tXf a cls d CC "at" (tVar 5)) (tCons (tXf a cls d CC "number" (tVar 5)) tNil)))) (gName 3)) tNext)))), (.ref CN, (fun a cls d => tAsg (tTup (tCons (tC (.str "not kept")) (tCons (tXf a cls d CN "number" (tVar 5)) tNil))) (gName 3)))]) rfl rfl nd rfl rfl takes_none5 (fun W pn xe tk _ => (pss_cons (ps_if (pt_cmpR op_eq (pv 1) pe_str (nomark _)) (pss_one (ps_set (i := 3) nd rfl (Or.inl rfl) (pe_tup (pa_cons pe_str (pa_cons (pe_methT (E := fun σ => WE W σ) (pv 0) O_wish (hr.mono (by omega)) (fun σ => passAt tk σ) (pa_cons (pv 2) pa_nil)) pa_nil))))) pss_nil)
  (pss_cons (ps_if (pt_cmpR op_eq (pv 1) pe_str (nomark _)) (pss_cons (ps_set (i := 4) nd rfl (Or.inl rfl) (pe_methT (E := fun σ => WE W σ) (pv 0) O_examples (hr.mono (by omega)) (fun σ => passAt tk σ) (pa_cons (pv 2) pa_nil)))
  (pss_cons (ps_set (i := 3) nd rfl (Or.inl rfl) (pe_ifExp (pt_val (pe_callB (r := rIsi K) call_isi (by rfl) T.b_isinstance (by decide +kernel) (pa_cons (pv 4) (pa_cons (pe_bltn (v := .ty "list") (by rfl) T.b_list (by decide +kernel) rfl) pa_nil))) (by intro _; rfl)) (pe_tup (pa_cons pe_str (pa_cons (pe_callTy (r := rTupS K) call_tuple_of (by rfl) T.b_tuple (by decide +kernel) (pa_cons (pv 4) pa_nil)) pa_nil))) (pe_tup (pa_cons pe_str pa_nil))))
  (pss_one (ps_expr (pe_bm0 PySem.F.plainAttrs_list PySem.F.slot_list_clear PySem.F.type_list_clear mt_clear (pv 4)))))) pss_nil)
  (pss_one (ps_if (pt_cmpR op_eq (pv 1) pe_str (nomark _)) (pss_one (ps_set (i := 3) nd rfl (Or.inl rfl) (pe_tup (pa_cons pe_str (pa_cons (pe_methT (E := fun σ => WE W σ) (pv 0) O_back (hr.mono (by omega)) (fun σ => passAt tk σ) (pa_cons (pv 2) pa_nil)) pa_nil))))) pss_nil))))) (.cons ⟨rfl, by decide, .inl gM⟩ (fun a oe cls d pn hz hf => (pss_cons (ps_if (PW.pt (pw_and (pt_val (pe_callB (r := rIsD K a cls d) (call_isD hz hf List.mem_cons_self) (by rfl) T.b_isinstance (by decide +kernel) (pa_cons (pv 5) (pa_cons (pe_glob (v := .ref (He.ga K "NoProgram")) rfl T.g_NoProgram rfl) pa_nil))) (by intro _; rfl)) (pw_and1 (pt_cmpR op_eq (pe_bm PySem.F.plainAttrs_list PySem.F.slot_list_count PySem.F.type_list_count mt_cntB (pe_callE O__law_sorts (roomH_mark (hr.mono (by omega))) (by rfl) hz hf List.mem_cons_self (pa_cons (pv 5) pa_nil)) (pa_cons pe_bl pa_nil)) pe_int (nomark _))))) (pss_one (ps_set (i := 3) nd rfl (Or.inl rfl) (pe_tup (pa_cons pe_str (pa_cons (pe_xf XP.1 XP.2.1 hz hf (pv 5)) (pa_cons (pe_xf XP.1 XP.2.2 hz hf (pv 5)) pa_nil)))))) pss_nil)
  (pss_cons (ps_if (PW.pt (pw_and (pt_val (pe_callB (r := rIsD K a cls d) (call_isD hz hf List.mem_cons_self) (by rfl) T.b_isinstance (by decide +kernel) (pa_cons (pv 5) (pa_cons (pe_glob (v := .ref (He.ga K "NoInputs")) rfl T.g_NoInputs rfl) pa_nil))) (by intro _; rfl)) (pw_and1 (pt_cmpR op_eq (pe_bm PySem.F.plainAttrs_list PySem.F.slot_list_count PySem.F.type_list_count mt_cntB (pe_callE O__law_sorts (roomH_mark (hr.mono (by omega))) (by rfl) hz hf List.mem_cons_self (pa_cons (pv 5) pa_nil)) (pa_cons pe_bl pa_nil)) pe_int (nomark _))))) (pss_one (ps_set (i := 3) nd rfl (Or.inl rfl) (pe_tup (pa_cons pe_str (pa_cons (pe_xf XI.1 XI.2 hz hf (pv 5)) pa_nil))))) pss_nil)
  (pss_one (ps_if (PW.pt (pw_and (pt_val (pe_callB (r := rIsD K a cls d) (call_isD hz hf List.mem_cons_self) (by rfl) T.b_isinstance (by decide +kernel) (pa_cons (pv 5) (pa_cons (pe_glob (v := .ref (He.ga K "Clash")) rfl T.g_Clash rfl) pa_nil))) (by intro _; rfl)) (pw_and1 (pt_cmpR op_eq (pe_bm PySem.F.plainAttrs_list PySem.F.slot_list_count PySem.F.type_list_count mt_cntB (pe_callE O__law_sorts (roomH_mark (hr.mono (by omega))) (by rfl) hz hf List.mem_cons_self (pa_cons (pv 5) pa_nil)) (pa_cons pe_bl pa_nil)) pe_int (nomark _))))) (pss_one (ps_set (i := 3) nd rfl (Or.inl rfl) (pe_tup (pa_cons pe_str (pa_cons (pe_xf XC.1 XC.2.1 hz hf (pv 5)) (pa_cons (pe_xf XC.1 XC.2.2 hz hf (pv 5)) pa_nil)))))) pss_nil))))) (.cons ⟨rfl, by decide, .inl gN⟩ (fun a oe cls d pn hz hf => (pss_one (ps_set (i := 3) nd rfl (Or.inl rfl) (pe_tup (pa_cons pe_str (pa_cons (pe_xf XN.1 XN.2 hz hf (pv 5)) pa_nil)))))) .nil)))
  (pss_one (ps_ret (pv 3))))), ?_⟩
    rcases h with h | h | h
    · obtain ⟨M, TH, WR, hv, v, ks, t, d, r, es, came, lg, b, rfl, m, rh, rp, wr, sz, lk, le, ll, fresh, qx, q⟩ := h
      refine ⟨(by show 1 ≤ sizeLine; decide), fun p0 hp0 => ?_⟩
      have c0 : Ch [] H (upd H p0 (.tup [.str "other"])) := .new hp0
      generalize upd H p0 (.tup [.str "other"]) = H1 at c0 ⊢
      have m1 := m.ch0 c0
      obtain ⟨dx, sv, kvs, lgs, e1, e2, e3, r1, r2⟩ := m1.ex
      refine ⟨_, rfl, rfl, _, rfl, ?_⟩
      refine iteD (fun _ => ?_) (fun z => absurd rfl z)
      refine ⟨_, rfl, M, dx, _, rfl, e1, mF_no (by decide +kernel) (by decide +kernel) (by decide +kernel) (by decide +kernel) (by decide +kernel) (by decide +kernel) (by decide +kernel), _, rfl, ?_⟩
      refine ⟨M, TH, WR, hv, v, ks, t, d, r, es, came, lg, b, rfl, m1, rh.ch c0, rp.ch c0, wr, sz, lk, le, ll, fresh, fun x i hx => ?_, fun hx H2 c2 t2 m2 => ?_⟩
      · intro H2 d c2 t2 m2 hd
        refine ⟨true, fP.exm, fun _ a ha => ?_, fun z => by cases z⟩
        dsimp only
        refine sort_test (x := "NoProgram") rfl fP.exc fP.srt (by decide +kernel) hd (fun z => absurd z (by decide +kernel)) (fun _ H3 c3 => ?_)
        have hd3 := c3 d _ (by simp) hd
        refine ⟨_, rfl, rfl, rfl, d, _, _, rfl, hd3, rfl, _, rfl, rfl, rfl, d, _, _, rfl, hd3, rfl, (by show 3 ≤ sizeLine; decide), fun p4 hp4 => ?_⟩
        have c4 : Ch [] H3 (upd H3 p4 (.tup [.str "no program", .str x, .int (i : Int)])) := .new hp4
        have r4 : DR K (upd H3 p4 (.tup [.str "no program", .str x, .int (i : Int)])) (.ref p4) (.tup [.str "no program", .str x, .int (i : Int)]) := .new (.cons (.str _) (.cons (.str _) (.cons (.int _) .nil))) hp4
        generalize upd H3 p4 (.tup [.str "no program", .str x, .int (i : Int)]) = H4 at c4 r4 ⊢
        have hd4 := c4 d _ (by simp) hd3
        refine sort_test (x := "NoInputs") rfl fP.exc fP.srt (by decide +kernel) hd4 (fun _ => ?_) (fun z => absurd z (by decide +kernel))
        refine sort_test (x := "Clash") rfl fP.exc fP.srt (by decide +kernel) hd4 (fun _ => ?_) (fun z => absurd z (by decide +kernel))
        refine ⟨_, rfl, ?_⟩
        exact qx x i hx _ _ ((Ch.of0 c0).trans (c2.trans (.of0 (c3.trans c4)))) ((Ts.of c0).trans (t2.trans (.of (c3.trans c4)))) (m2.ch0 (c3.trans c4)) r4
      refine ⟨(by show 2 ≤ sizeLine; decide), fun p3 hp3 => ?_⟩
      have c3 : Ch [] H2 (upd H2 p3 (.tup [.str "told", .int came])) := .new hp3
      have r3 : DR K (upd H2 p3 (.tup [.str "told", .int came])) (.ref p3) (.tup [.str "told", .int came]) := .new (.cons (.str _) (.cons (.int _) .nil)) hp3
      generalize upd H2 p3 (.tup [.str "told", .int came]) = H3 at c3 r3 ⊢
      refine ⟨_, rfl, rfl, _, rfl, ?_⟩
      refine iteD (fun z => absurd z (by decide +kernel)) (fun _ => ?_)
      refine ⟨_, rfl, rfl, _, rfl, ?_⟩
      refine iteD (fun z => absurd z (by decide +kernel)) (fun _ => ?_)
      refine ⟨_, rfl, ?_⟩
      exact q hx _ _ ((Ch.of0 c0).trans (c2.trans (.of0 c3))) ((Ts.of c0).trans (t2.trans (.of c3))) (m2.ch0 c3) r3
    · obtain ⟨M, TH, WR, L, hv, ks, t, es, came, lg, b, tp, xs, sm, rfl, m, rh, hL, nLW, rx, ls, le, lk, ll, fit, fresh, q1, q2, q3⟩ := h
      refine ⟨(by show 1 ≤ sizeLine; decide), fun p0 hp0 => ?_⟩
      have c0 : Ch [] H (upd H p0 (.tup [.str "other"])) := .new hp0
      have r0 : DR K (upd H p0 (.tup [.str "other"])) (.ref p0) (.tup [.str "other"]) := .new (.cons (.str _) .nil) hp0
      generalize upd H p0 (.tup [.str "other"]) = H1 at c0 r0 ⊢
      have m1 := m.ch0 c0
      obtain ⟨dx, sv, kvs, lgs, e1, e2, e3, r1, r2⟩ := m1.ex
      refine ⟨_, rfl, rfl, _, rfl, ?_⟩
      refine iteD (fun z => absurd z (by decide +kernel)) (fun _ => ?_)
      refine ⟨_, rfl, rfl, _, rfl, ?_⟩
      refine iteD (fun _ => ?_) (fun z => absurd rfl z)
      refine ⟨_, rfl, M, dx, _, rfl, e1, mF_no (by decide +kernel) (by decide +kernel) (by decide +kernel) (by decide +kernel) (by decide +kernel) (by decide +kernel) (by decide +kernel), _, rfl, ?_⟩
      refine ⟨M, TH, WR, L, hv, ks, t, es, came, lg, b, tp, xs, sm, rfl, m1, rh.ch c0, hL.ch0 c0, nLW, rx.ch c0, ls, le, lk, ll, fit, fresh, fun n hn => ?_, fun hb n z hn => ?_, fun hb hn DD H2 c2 t2 m2 hD1 hD2 => ?_⟩
      · intro H2 d c2 t2 m2 hd
        refine ⟨true, fI.exm, fun _ a ha => ?_, fun z => by cases z⟩
        dsimp only
        refine sort_test (x := "NoProgram") rfl fI.exc fI.srt (by decide +kernel) hd (fun _ => ?_) (fun z => absurd z (by decide +kernel))
        refine sort_test (x := "NoInputs") rfl fI.exc fI.srt (by decide +kernel) hd (fun z => absurd z (by decide +kernel)) (fun _ H3 c3 => ?_)
        have hd3 := c3 d _ (by simp) hd
        refine ⟨_, rfl, rfl, rfl, d, _, _, rfl, hd3, rfl, (by show 2 ≤ sizeLine; decide), fun p4 hp4 => ?_⟩
        have c4 : Ch [] H3 (upd H3 p4 (.tup [.str "no inputs", .int (n : Int)])) := .new hp4
        have r4 : DR K (upd H3 p4 (.tup [.str "no inputs", .int (n : Int)])) (.ref p4) (.tup [.str "no inputs", .int (n : Int)]) := .new (.cons (.str _) (.cons (.int _) .nil)) hp4
        generalize upd H3 p4 (.tup [.str "no inputs", .int (n : Int)]) = H4 at c4 r4 ⊢
        have hd4 := c4 d _ (by simp) hd3
        refine sort_test (x := "Clash") rfl fI.exc fI.srt (by decide +kernel) hd4 (fun _ => ?_) (fun z => absurd z (by decide +kernel))
        refine ⟨_, rfl, ?_⟩
        exact q1 n hn _ _ ((Ch.of0 c0).trans (c2.trans (.of0 (c3.trans c4)))) ((Ts.of c0).trans (t2.trans (.of (c3.trans c4)))) (m2.ch0 (c3.trans c4)) r4
      · intro H2 d c2 t2 m2 hd
        refine ⟨true, fC.exm, fun _ a ha => ?_, fun z => by cases z⟩
        dsimp only
        refine sort_test (x := "NoProgram") rfl fC.exc fC.srt (by decide +kernel) hd (fun _ => ?_) (fun z => absurd z (by decide +kernel))
        refine sort_test (x := "NoInputs") rfl fC.exc fC.srt (by decide +kernel) hd (fun _ => ?_) (fun z => absurd z (by decide +kernel))
        refine sort_test (x := "Clash") rfl fC.exc fC.srt (by decide +kernel) hd (fun z => absurd z (by decide +kernel)) (fun _ H3 c3 => ?_)
        have hd3 := c3 d _ (by simp) hd
        refine ⟨_, rfl, rfl, rfl, d, _, _, rfl, hd3, rfl, _, rfl, rfl, rfl, d, _, _, rfl, hd3, rfl, (by show 3 ≤ sizeLine; decide), fun p4 hp4 => ?_⟩
        have c4 : Ch [] H3 (upd H3 p4 (.tup [.str "clash", .int (n : Int), .int z])) := .new hp4
        have r4 : DR K (upd H3 p4 (.tup [.str "clash", .int (n : Int), .int z])) (.ref p4) (.tup [.str "clash", .int (n : Int), .int z]) := .new (.cons (.str _) (.cons (.int _) (.cons (.int _) .nil))) hp4
        refine ⟨_, rfl, ?_⟩
        exact q2 hb n z hn _ _ ((Ch.of0 c0).trans (c2.trans (.of0 (c3.trans c4)))) ((Ts.of c0).trans (t2.trans (.of (c3.trans c4)))) (m2.ch0 (c3.trans c4)) r4
      · have rI : DRs K H2 ((numEx came sm).map fun e => V.int e.1) ((numEx came sm).map fun e => Dt.int e.1) := drs_ints _
        have isl : ∀ {R : VK}, R (.bl true) H2 → rIsi K [.ref DD, .ty "list"] H2 R := fun r => ⟨_, _, _, _, true, rfl, .ty "list", .base (.lst hD2), kit_ty (by decide +kernel), r⟩
        refine ⟨_, rfl, ?_⟩
        dsimp only [tCons, tC, tNil]
        refine isl ?_
        refine ⟨_, rfl, ?_⟩
        refine iteB (fun _ => ?_) (fun z => by cases z)
        refine ⟨_, rfl, DD, _, rfl, .inl ⟨SqL.of hD2, fun p7 hp7 => ?_⟩⟩
        have c7 : Ch [] H2 (upd H2 p7 (.tup ((numEx came sm).map fun e => V.int e.1))) := .new hp7
        have r7 : DR K (upd H2 p7 (.tup ((numEx came sm).map fun e => V.int e.1))) (.ref p7) (told came sm) := .new rI hp7
        have hD7 := c7 DD _ (by simp) hD2
        generalize upd H2 p7 (.tup ((numEx came sm).map fun e => V.int e.1)) = H7 at c7 r7 hD7 ⊢
        refine ⟨(by show 2 ≤ sizeLine; decide), fun p8 hp8 => ?_⟩
        have c8 : Ch [] H7 (upd H7 p8 (.tup [.str "told", .ref p7])) := .new hp8
        have r8 : DR K (upd H7 p8 (.tup [.str "told", .ref p7])) (.ref p8) (.tup [.str "told", told came sm]) := .new (.cons (.str _) (.cons r7 .nil)) hp8
        have hD8 := c8 DD _ (by simp) hD7
        generalize upd H7 p8 (.tup [.str "told", .ref p7]) = H8 at c8 r8 hD8 ⊢
        refine ⟨_, rfl, .inl ⟨rfl, _, SqL.of hD8⟩, DD, _, rfl, rfl, hD8, ?_⟩
        refine ⟨_, rfl, rfl, _, rfl, ?_⟩
        refine iteD (fun z => absurd z (by decide +kernel)) (fun _ => ?_)
        refine ⟨_, rfl, ?_⟩
        have t9 : Ts H8 (upd H8 DD (.lst [])) := .upd (by rw [hD8]; trivial)
        have c9 : Ch [DD] H8 (upd H8 DD (.lst [])) := .put (by simp)
        have m8 := m2.ch0 (c7.trans c8)
        have hD0 : H DD = none := by
          cases z : H DD with
          | none => rfl
          | some o => rw [c0 DD o (by simp) z] at hD1; cases hD1
        obtain ⟨dx8, sv8, kvs8, lgs8, g1, g2, g3, _, _⟩ := m8.ex
        have n1 : M ≠ DD := fun z => by rw [z, hD8] at g1; cases g1
        have n2 : TH ≠ DD := fun z => by rw [z, hD8] at g2; cases g2
        have n3 : WR ≠ DD := fun z => by
          rw [z] at e3
          rw [e3] at hD1
          cases hD1
        refine q3 hb hn _ _ (fun a o na ea => ?_) ((Ts.of c0).trans (t2.trans ((Ts.of (c7.trans c8)).trans t9))) (m8.ch c9 t9 (by simpa using n1) (by simpa using n2) (by simpa using n3)) (r8.ts t9)
        have nd : a ≠ DD := ne_of_none ea hD0
        exact c9 a o (by simpa using nd) ((c7.trans c8) a o (by simp) (c2 a o na (c0 a o (by simp) ea)))
    · obtain ⟨M, TH, WR, hv, es, came, lg, b, i, rfl, m, ll, qx, q⟩ := h
      refine ⟨(by show 1 ≤ sizeLine; decide), fun p0 hp0 => ?_⟩
      have c0 : Ch [] H (upd H p0 (.tup [.str "other"])) := .new hp0
      generalize upd H p0 (.tup [.str "other"]) = H1 at c0 ⊢
      have m1 := m.ch0 c0
      obtain ⟨dx, sv, kvs, lgs, e1, e2, e3, r1, r2⟩ := m1.ex
      refine ⟨_, rfl, rfl, _, rfl, ?_⟩
      refine iteD (fun z => absurd z (by decide +kernel)) (fun _ => ?_)
      refine ⟨_, rfl, rfl, _, rfl, ?_⟩
      refine iteD (fun z => absurd z (by decide +kernel)) (fun _ => ?_)
      refine ⟨_, rfl, rfl, _, rfl, ?_⟩
      refine iteD (fun _ => ?_) (fun z => absurd rfl z)
      refine ⟨_, rfl, M, dx, _, rfl, e1, mF_no (by decide +kernel) (by decide +kernel) (by decide +kernel) (by decide +kernel) (by decide +kernel) (by decide +kernel) (by decide +kernel), _, rfl, ?_⟩
      refine ⟨M, TH, WR, hv, es, came, lg, b, i, rfl, m1, ll, fun hx => ?_, fun hx H2 c2 t2 m2 => ?_⟩
      · intro H2 d c2 t2 m2 hd
        refine ⟨false, fN.1, (fun z => by cases z), fun _ => ⟨true, fN.2, fun _ a ha => ?_, fun z => by cases z⟩⟩
        dsimp only
        refine ⟨_, rfl, rfl, rfl, d, _, _, rfl, hd, rfl, (by show 2 ≤ sizeLine; decide), fun p4 hp4 => ?_⟩
        have c4 : Ch [] H2 (upd H2 p4 (.tup [.str "not kept", .int i])) := .new hp4
        have r4 : DR K (upd H2 p4 (.tup [.str "not kept", .int i])) (.ref p4) (.tup [.str "not kept", .int i]) := .new (.cons (.str _) (.cons (.int _) .nil)) hp4
        refine ⟨_, rfl, ?_⟩
        exact qx hx _ _ ((Ch.of0 c0).trans (c2.trans (.of0 c4))) ((Ts.of c0).trans (t2.trans (.of c4))) (m2.ch0 c4) r4
      · refine ⟨(by show 2 ≤ sizeLine; decide), fun p3 hp3 => ?_⟩
        have c3 : Ch [] H2 (upd H2 p3 (.tup [.str "told", .non])) := .new hp3
        have r3 : DR K (upd H2 p3 (.tup [.str "told", .non])) (.ref p3) (.tup [.str "told", .non]) := .new (.cons (.str _) (.cons .non .nil)) hp3
        refine ⟨_, rfl, ?_⟩
        exact q hx _ _ ((Ch.of0 c0).trans (c2.trans (.of0 c3))) ((Ts.of c0).trans (t2.trans (.of c3))) (m2.ch0 c3) r3
end
end LM
set_option Elab.async false
set_option linter.all false
set_option maxRecDepth 100000
set_option maxHeartbeats 4000000
namespace LM
open PySem PySem.Spec PyProof.Rows L2
section
variable {P : Program} {w : World} {K : PySem.W.Frag} {mg : Str → Option Value} {base : Heap}
/-! ### the law's kinds -/
def spLOwn (K : PySem.W.Frag) (n : Nat) : Sp := fun vs H Q _ => ∃ (kv v : V) (ks : List Kd) (p : Pg), vs = [kv, v] ∧ DR K H kv (ksD ks) ∧ DR K H v p.dt ∧ InR ks.length p ∧ p.depth ≤ n ∧ ∀ H', Ch [] H H' → Q (.str (p.knd ks).s) H'
theorem sc_lown : FnScope ["_law_kinds", "_law_knot"] ["_law_kinds", "_law_knot"] (defScope (top 51)) := ⟨rfl, rfl, rfl, by decide +kernel, rfl, by decide +kernel, by decide +kernel⟩
theorem depth_pos (p : Pg) : 1 ≤ p.depth := by cases p <;> simp [Pg.depth]
theorem ok_lown (D : Df K mg "_law_own" (top 51)) (T : Bn mg) : ∀ n : Nat, OkF P w K mg base CX0 (1 + n) "_law_own" ["_law_kinds", "_law_knot"] (spLOwn K n) := by
  have hb : BindN "_law_own" (top 51) ["_law_kinds", "_law_knot"] := fun _ _ _ _ _ _ us hl => match us, hl with | [_, _], _ => rfl
  intro n
  induction n with
  | zero =>
    refine okF_absurd D hb fun vs H Q E h => ?_
    obtain ⟨kv, v, ks, p, _, _, _, _, hd, _⟩ := h
    have := depth_pos p
    omega
  | succ n ih =>
  have O__law_own := ih
  refine (okF0 (k := 1 + n) D sc_lown hb (fun vs H Q E h => ?_) (fun cdv A outer s H vs Q E hr h => ?_)).mono (by omega)
  · obtain ⟨kv, v, ks, p, rfl, _⟩ := h
    rfl
  · obtain ⟨kv, v, ks, p, rfl, rk, rp, wt, hd, q⟩ := h
    have nd := sc_lown.nd
    refine ⟨_, (pss_cons (ps_if (pt_cmpR op_eq (pe_ix (r := rIxT K) ix_tup (pv 1) pe_int (fun _ _ => rfl)) pe_str (nomark _)) (pss_one (ps_ret (pe_callF O__law_own (hr.mono (by omega)) rfl pass0 (pa_cons (pv 0) (pa_cons (pe_ix (r := rIxT K) ix_tup (pv 1) pe_int (fun _ _ => rfl)) pa_nil))))) pss_nil)
  (pss_cons (ps_if (pt_cmpR op_eq (pe_ix (r := rIxT K) ix_tup (pv 1) pe_int (fun _ _ => rfl)) pe_str (nomark _)) (pss_one (ps_ret (pe_ix (r := rIxT K) ix_tup (pv 0) (pe_ix (r := rIxT K) ix_tup (pv 1) pe_int (fun _ _ => rfl)) (fun _ _ => rfl)))) pss_nil)
  (pss_one (ps_ret (pe_ix (r := rIxL K) ix_list (pe_lst (pa_cons pe_str (pa_cons pe_str pa_nil))) (pe_callTy call_int1 (by rfl) T.b_int (by decide +kernel) (pa_cons (pe_cmpR (r := rIn K false) op_in_seq (pe_ix (r := rIxT K) ix_tup (pv 1) pe_int (fun _ _ => rfl)) (pe_tup (pa_cons pe_str (pa_cons pe_str (pa_cons pe_str (pa_cons pe_str pa_nil))))) rfl) pa_nil)) (fun _ _ => rfl)))))), ?_⟩
    refine ⟨_, rfl, ?_⟩
    dsimp only [tC]
    refine ix_word rp ?_
    refine ⟨rfl, _, rfl, ?_⟩
    refine iteD (fun e => ?_) (fun e => ?_)
    · obtain ⟨a, b, c, rfl⟩ := w_if (vs_inj e)
      have wb : InR ks.length b := wt.part (by simp [Pg.parts])
      refine ⟨_, rfl, _, rfl, ?_⟩
      dsimp only [tC]
      refine ix_dt (n := 2) rp rfl fun y ry => ?_
      exact ⟨kv, y, ks, b, rfl, rk, ry, wb, (by simp only [Pg.depth] at hd; omega), q⟩
    refine ⟨_, rfl, ?_⟩
    dsimp only [tC]
    refine ix_word rp ?_
    refine ⟨rfl, _, rfl, ?_⟩
    refine iteD (fun e2 => ?_) (fun e2 => ?_)
    · obtain ⟨k, rfl⟩ := w_in (vs_inj e2)
      refine ⟨_, rfl, _, rfl, ?_⟩
      dsimp only [tC]
      refine ix_dt (n := 1) rp rfl fun y ry => ?_
      rw [ry.int_inv]
      have hk1 := wt k (by simp [Pg.subs])
      have hk : ks[k]? = some ((Pg.inp k).knd ks) := by unfold Pg.knd; rw [List.getD_eq_getElem?_getD, List.getElem?_eq_getElem hk1]; rfl
      refine ix_dt (n := k) rk (by rw [List.getElem?_map, hk]; rfl) fun y ry => ?_
      rw [ry.str_inv]
      exact q H .refl
    refine ⟨(by show 2 ≤ sizeLine; decide), fun p1 hp1 => ?_⟩
    refine ⟨_, rfl, ?_⟩
    dsimp only [tC]
    refine ix_word (rp.ch (.new hp1)) ?_
    refine ⟨(by show 4 ≤ sizeLine; decide), fun p2 hp2 => ?_⟩
    have hl : upd (upd H p1 (.lst [.str "truth", .str "num"])) p2 (.tup [.str "num", .str "plus", .str "least", .str "most"]) p1 = some (.lst [.str "truth", .str "num"]) := by
      rw [upd_ne (fun z => by rw [← z, upd_same] at hp2; cases hp2)]; exact upd_same
    refine in_tab (ws := tells) (SqT.of upd_same) ?_
    rw [w_tells (ks := ks) (fun z => e (by rw [z])) (fun z => e2 (by rw [z]))]
    refine .inr ⟨_, rfl, ?_⟩
    have c := (Ch.new (S := []) (o := .lst [.str "truth", .str "num"]) hp1).trans (.new (o := .tup [.str "num", .str "plus", .str "least", .str "most"]) hp2)
    cases hkn : p.knd ks with
    | num => rw [hkn] at q; exact ⟨p1, _, _, _, rfl, rfl, SqL.of hl, rfl, q _ c⟩
    | truth => rw [hkn] at q; exact ⟨p1, _, _, _, rfl, rfl, SqL.of hl, rfl, q _ c⟩
def spLWrong (K : PySem.W.Frag) : Sp := fun vs H Q _ => ∃ (kv v : V) (ks : List Kd) (d : Dt) (r : Sum (Str × Nat) Kd), vs = [kv, v] ∧ DR K H kv (ksD ks) ∧ DR K H v d ∧ WrongIs ks d r ∧ (kn d).length ≤ 1000 ∧ d.dep ≤ 12 ∧ ks.length ≤ 1000 ∧
  (∀ w i, r = .inl (w, i) → ∀ (x : V) (H' : Hp), Ch [] H H' → DR K H' x (.tup [.str w, .int (i : Int)]) → Q x H') ∧ (∀ t, r = .inr t → ∀ H', Ch [] H H' → Q .non H')
theorem sc_lwrong : FnScope ["_law_kinds", "_law_program", "_law_found", "_law_at", "_law_knot", "_law_own_here", "_law_due", "_law_part"] ["_law_kinds", "_law_program"] (defScope (top 52)) := ⟨rfl, rfl, rfl, by decide +kernel, rfl, by decide +kernel, by decide +kernel⟩
theorem subs_depth : ∀ {p q : Pg}, q ∈ p.subs → q.depth ≤ p.depth
  | .inp _, q, h => by simp [Pg.subs] at h; subst h; exact Nat.le_refl _
  | .num _, q, h => by simp [Pg.subs] at h; subst h; exact Nat.le_refl _
  | .yes, q, h => by simp [Pg.subs] at h; subst h; exact Nat.le_refl _
  | .no, q, h => by simp [Pg.subs] at h; subst h; exact Nat.le_refl _
  | .plus c a, q, h => by
    rcases List.mem_cons.mp h with e | e
    · subst e; exact Nat.le_refl _
    · have := subs_depth e; simp only [Pg.depth]; omega
  | .not a, q, h => by
    rcases List.mem_cons.mp h with e | e
    · subst e; exact Nat.le_refl _
    · have := subs_depth e; simp only [Pg.depth]; omega
  | .bin o a b, q, h => by
    rcases List.mem_cons.mp h with e | e
    · subst e; exact Nat.le_refl _
    · rcases List.mem_append.mp e with e | e
      · have := subs_depth e; simp only [Pg.depth]; omega
      · have := subs_depth e; simp only [Pg.depth]; omega
  | .ite a b c, q, h => by
    rcases List.mem_cons.mp h with e | e
    · subst e; exact Nat.le_refl _
    · rcases List.mem_append.mp e with e | e
      · have := subs_depth e; simp only [Pg.depth]; omega
      · rcases List.mem_append.mp e with e | e
        · have := subs_depth e; simp only [Pg.depth]; omega
        · have := subs_depth e; simp only [Pg.depth]; omega
theorem part_depth {p : Pg} : ∀ q ∈ p.parts, q.depth ≤ p.depth := by
  intro q hq
  cases p <;> simp only [Pg.parts, List.mem_cons, List.not_mem_nil, or_false] at hq
  · subst hq; simp only [Pg.depth]; omega
  · rcases hq with rfl | rfl <;> (simp only [Pg.depth]; omega)
  · subst hq; simp only [Pg.depth]; omega
  · rcases hq with rfl | rfl | rfl <;> (simp only [Pg.depth]; omega)
theorem strs_dps {H : Hp} : ∀ ws : List Str, DpAll K H (ws.map V.str) (Dt.pys (ws.map Dt.str))
  | [] => .nil
  | w :: ws => .cons (.str w) (strs_dps ws)
theorem drs_strs {H : Hp} {us : List V} : ∀ {ws : List Str}, DRs K H us (ws.map Dt.str) → us = ws.map V.str := by
  intro ws
  induction ws generalizing us with
  | nil => intro h; cases h; rfl
  | cons w ws ih =>
    intro h
    cases h with
    | cons h1 h2 => rw [h1.str_inv, ih h2]; rfl
theorem depth_dep : ∀ p : Pg, p.depth ≤ p.dt.dep
  | .inp _ => by simp [Pg.dt, Dt.dep, Pg.depth] | .num _ => by simp [Pg.dt, Dt.dep, Pg.depth] | .yes => by simp [Pg.dt, Dt.dep, Pg.depth] | .no => by simp [Pg.dt, Dt.dep, Pg.depth]
  | .plus c a => by have := depth_dep a; simp [Pg.dt, Dt.dep, Dt.deps, Pg.depth]; omega
  | .not a => by have := depth_dep a; simp [Pg.dt, Dt.dep, Dt.deps, Pg.depth]; omega
  | .bin o a b => by have := depth_dep a; have := depth_dep b; simp [Pg.dt, Dt.dep, Dt.deps, Pg.depth]; omega
  | .ite p a b => by have := depth_dep p; have := depth_dep a; have := depth_dep b; simp [Pg.dt, Dt.dep, Dt.deps, Pg.depth]; omega
theorem ok_lwrong (D : Df K mg "_law_wrong" (top 52)) (T : Bn mg) (O__law_knots : OkF P w K mg base CX0 14 "_law_knots" ["_law_program"] (spLKnots K 12)) (O__law_has_form : OkF P w K mg base CX0 1 "_law_has_form" ["_law_knot"] (spDataN K hasForm)) (O__law_parts : OkF P w K mg base CX0 1 "_law_parts" ["_law_knot"] (spPartsOf K))
    (O__law_own : OkF P w K mg base CX0 13 "_law_own" ["_law_kinds", "_law_knot"] (spLOwn K 12)) : OkF P w K mg base CX0 15 "_law_wrong" ["_law_kinds", "_law_program"] (spLWrong K) := by
  refine okF0 D sc_lwrong (fun _ _ _ _ _ _ us hl => match us, hl with | [_, _], _ => rfl) (fun vs H Q E h => ?_) (fun cdv A outer s H vs Q E hr h => ?_)
  · obtain ⟨kv, v, ks, d, r, rfl, _⟩ := h
    rfl
  · obtain ⟨kv, v, ks, d, r, rfl, rk, rp, wr, lkn, dpt, lk, qx, q⟩ := h
    have nd := sc_lwrong.nd
    have told : ∀ (w : Str) (i : Nat) (H2 : Hp) (σ : L2.St) (n : Nat), r = .inl (w, i) → Ch [] H H2 → σ[n]? = some (some (V.int (i : Int))) → ∀ D : Ends, D.rt = Q → (tRet (tTup (tCons (tC (.str w)) (tCons (tVar n) tNil)))) D σ H2 := by
      intro w i H2 σ n hr1 c hσ D hD
      refine ⟨_, hσ, (by show 2 ≤ sizeLine; decide), fun p hp => ?_⟩
      rw [hD]
      exact qx w i hr1 _ _ (c.trans (.new hp)) (.new (.cons (.str _) (.cons (.int _) .nil)) hp)
    refine ⟨_, (pss_cons (ps_set (i := 2) nd rfl (Or.inl rfl) (pe_callF O__law_knots (hr.mono (by omega)) rfl pass0 (pa_cons (pv 1) pa_nil)))
  (pss_cons (ps_for PassesOwn.never rfl (pi_enum (by rfl) T.b_enumerate (pa_cons (pv 2) pa_nil)) (pg_tup rfl (pgs_cons (pg_name (i := 3) nd rfl (Or.inl rfl)) (pgs_cons (pg_name (i := 4) nd rfl (Or.inl rfl)) pgs_nil))) (pss_one (ps_if (pt_not (pt_val (pe_callF O__law_has_form (hr.mono (by omega)) rfl pass0 (pa_cons (pv 4) pa_nil)) (by intro _; rfl))) (pss_one (ps_ret (pe_tup (pa_cons pe_str (pa_cons (pv 3) pa_nil))))) pss_nil)))
  (pss_cons (ps_for PassesOwn.never rfl (pi_enum (by rfl) T.b_enumerate (pa_cons (pv 2) pa_nil)) (pg_tup rfl (pgs_cons (pg_name (i := 3) nd rfl (Or.inl rfl)) (pgs_cons (pg_name (i := 4) nd rfl (Or.inl rfl)) pgs_nil))) (pss_one (ps_if (PW.pt (pw_and (pt_cmpR op_eq (pe_ix (r := rIxT K) ix_tup (pv 4) pe_int (fun _ _ => rfl)) pe_str (nomark _)) (pw_and1 (PW.pt (pw_or (pt_cmpR op_lt (pe_ix (r := rIxT K) ix_tup (pv 4) pe_int (fun _ _ => rfl)) pe_int (nomark _)) (pw_or1 (pt_cmpR op_ge (pe_ix (r := rIxT K) ix_tup (pv 4) pe_int (fun _ _ => rfl)) (pe_callB (r := rLenS K) call_len_seq (by rfl) T.b_len PySem.boot_len (pa_cons (pv 0) pa_nil)) (nomark _)))))))) (pss_one (ps_ret (pe_tup (pa_cons pe_str (pa_cons (pv 3) pa_nil))))) pss_nil)))
  (pss_cons (ps_for PassesOwn.never rfl (pi_enum (by rfl) T.b_enumerate (pa_cons (pv 2) pa_nil)) (pg_tup rfl (pgs_cons (pg_name (i := 3) nd rfl (Or.inl rfl)) (pgs_cons (pg_name (i := 4) nd rfl (Or.inl rfl)) pgs_nil))) (pss_cons (ps_setLc (i := 5) (own := [("_law_part", 7)]) (tt := tYes) rfl nd rfl rfl (sw_true rfl rfl rfl (by decide +kernel)) (pi_tup (pe_callF O__law_parts (hr.mono (by omega)) rfl pass0 (pa_cons (pv 4) pa_nil))) (blkOk_by (own := [("_law_part", 7)]) (N := ["_law_kinds", "_law_program", "_law_found", "_law_at", "_law_knot", "_law_own_here", "_law_due", "_law_part"]) (sc := defScope (top 52)) (by decide +kernel)) (fun _ _ _ _ _ => (pg_name (i := 7) nd rfl (Or.inl rfl))) (fun _ _ _ _ _ => pts_nil) (fun _ _ _ _ _ => (pe_callF O__law_own (hr.mono (by omega)) rfl pass0 (pa_cons (pv 0) (pa_cons (pv 7) pa_nil)))))
  (pss_cons (ps_set (i := 6) nd rfl (Or.inl rfl) (pe_op op_rep (pe_lst (pa_cons pe_str pa_nil)) (pe_callB (r := rLenS K) call_len_seq (by rfl) T.b_len PySem.boot_len (pa_cons (pv 5) pa_nil))))
  (Evl.pss_cut (ps_if (pt_cmpR (r := rIn K false) op_in_seq (pe_ix (r := rIxT K) ix_tup (pv 4) pe_int (fun _ _ => rfl)) (pe_tup (pa_cons pe_str (pa_cons pe_str (pa_cons pe_str (pa_cons pe_str pa_nil))))) rfl) (pss_one (ps_set (i := 6) nd rfl (Or.inl rfl) (pe_op op_rep (pe_lst (pa_cons pe_str pa_nil)) (pe_callB (r := rLenS K) call_len_seq (by rfl) T.b_len PySem.boot_len (pa_cons (pv 5) pa_nil))))) pss_nil)
  (Evl.pss_cut (ps_if (pt_cmpR op_eq (pe_ix (r := rIxT K) ix_tup (pv 4) pe_int (fun _ _ => rfl)) pe_str (nomark _)) (pss_one (ps_set (i := 6) nd rfl (Or.inl rfl) (pe_lst (pa_cons pe_str (pa_cons (pe_ix (r := rIxL K) ix_list (pv 5) pe_int (fun _ _ => rfl)) (pa_cons (pe_ix (r := rIxL K) ix_list (pv 5) pe_int (fun _ _ => rfl)) pa_nil)))))) pss_nil)
  (pss_one (ps_if (pt_cmpR (r := rNeD K) (op_neD hr.units) (pv 5) (pv 6) (nomark _)) (pss_one (ps_ret (pe_tup (pa_cons pe_str (pa_cons (pv 3) pa_nil))))) pss_nil)))))))
  (pss_one (ps_ret pe_non)))))), ?_⟩
    refine ⟨_, rfl, v, d, rfl, rp, dpt, lkn, fun L xs H1 hL c1 hl1 rx1 => ?_⟩
    have lx : xs.length = (kn d).length := rx1.len
    -- forms
    refine ⟨_, rfl, L, xs, rfl, SqL.of hl1, ?_⟩
    refine for_it (walk_enum (K := K) (a := L) (xs := xs)) (fun i σ' H' => ∃ u1 u2 : Option V, σ' = [some kv, some v, some (.ref L), u1, u2, none, none, none] ∧ Ch [] H1 H' ∧ ∀ e ∈ (kn d).take i, ¬ NoForm e) ⟨none, none, rfl, .refl, by simp⟩ ?_ ?_ ?_
    · rintro i σ' H' _ ⟨_, _, _, c, _⟩
      exact SqL.of (c L _ (by simp) hl1)
    · rintro i x σ' Hx H' hi ⟨u1, u2, rfl, c, ok⟩ ⟨TT, xi, y, rfl, hT, rfl, ex, ey⟩
      have ex' := Option.some.inj ex
      subst ex'
      obtain ⟨e, he, rd⟩ := rx1.getv ey
      have c2 : Ch [] H1 (upd Hx TT (.tup [.int (i : Nat), y])) := c.trans (.new hT)
      refine ⟨TT, _, rfl, SqT.of upd_same, rfl, _, _, rfl, _, _, rfl, rfl, ?_⟩
      refine ⟨_, rfl, y, e, rfl, rd.ch c2, fun H' c3 => ?_⟩
      refine ⟨_, rfl, ?_⟩
      refine iteB (fun z => ?_) (fun z => ?_)
      · have bad : NoForm e := by unfold NoForm; simpa using z
        have hr1 := wrong_form wr (by have := firstI_at (n := 0) ok he bad; rwa [Nat.zero_add] at this)
        exact told _ _ _ _ 3 hr1 (c1.trans (c2.trans c3)) rfl _ rfl
      · refine ⟨_, _, rfl, c2.trans c3, fun f hf => ?_⟩
        rw [take_one he] at hf
        rcases List.mem_append.mp hf with hf | hf
        · exact ok f hf
        · rw [List.mem_singleton.mp hf]
          unfold NoForm
          simpa using z
    rintro σ1 H2 ⟨u1, u2, rfl, c2, ok1⟩
    rw [lx, List.take_length] at ok1
    have e0 := firstI_no (n := 0) ok1
    have hl2 := c2 L _ (by simp) hl1
    have rx2 := rx1.ch c2
    have c02 := c1.trans c2
    have rk2 := rk.ch c02
    -- inputs
    refine ⟨_, rfl, L, xs, rfl, SqL.of hl2, ?_⟩
    refine for_it (walk_enum (K := K) (a := L) (xs := xs)) (fun i σ' H' => ∃ u1 u2 : Option V, σ' = [some kv, some v, some (.ref L), u1, u2, none, none, none] ∧ Ch [] H2 H' ∧ ∀ e ∈ (kn d).take i, ¬ BadIn ks.length e) ⟨u1, u2, rfl, .refl, by simp⟩ ?_ ?_ ?_
    · rintro i σ' H' _ ⟨_, _, _, c, _⟩
      exact SqL.of (c L _ (by simp) hl2)
    · rintro i x σ' Hx H' hi ⟨u1, u2, rfl, c, ok⟩ ⟨TT, xi, y, rfl, hT, rfl, ex, ey⟩
      have ex' := Option.some.inj ex
      subst ex'
      obtain ⟨e, he, rd⟩ := rx2.getv ey
      have fe : hasForm e = true := by
        have := ok1 e (List.mem_of_getElem? he)
        unfold NoForm at this
        simpa using this
      obtain ⟨z, rr, m, rfl, _, _⟩ := hasForm_inv fe
      have c3 : Ch [] H2 (upd Hx TT (.tup [.int (i : Nat), y])) := c.trans (.new hT)
      refine ⟨TT, _, rfl, SqT.of upd_same, rfl, _, _, rfl, _, _, rfl, rfl, ?_⟩
      generalize upd Hx TT (.tup [.int (i : Nat), y]) = H3 at c3 ⊢
      have rd3 := rd.ch c3
      have next : ¬ BadIn ks.length (.tup (.str z :: rr)) → ∀ e ∈ (kn d).take (i + 1), ¬ BadIn ks.length e := fun hb f hf => by
        rw [take_one he] at hf
        rcases List.mem_append.mp hf with hf | hf
        · exact ok f hf
        · rw [List.mem_singleton.mp hf]; exact hb
      refine ⟨_, rfl, ?_⟩
      dsimp only [tC]
      refine ix_dt (n := 0) rd3 rfl fun y0 ry0 => ?_
      rw [ry0.str_inv]
      refine ⟨rfl, _, rfl, ?_⟩
      refine iteD (fun ez => ?_) (fun ez => ?_)
      · have ez' : z = "in" := by injection ez
        subst ez'
        obtain ⟨k, rfl⟩ := form_in fe
        have bad : ¬ (0 ≤ k ∧ k < (ks.length : Int)) → r = .inl ("input", i) := fun hk => by
          have := firstI_at (n := 0) ok he (show BadIn ks.length _ from ⟨k, rfl, hk⟩)
          rw [Nat.zero_add] at this
          exact wrong_input wr e0 this
        have hy : ∀ {R : VK}, R (.int k) H3 → rIxT K y (.int 1) H3 R := fun h => ix_dt (n := 1) rd3 rfl fun y1 ry1 => by rw [ry1.int_inv]; exact h
        refine ⟨_, rfl, ?_⟩
        dsimp only [tC]
        refine hy ?_
        refine ⟨_, _, rfl, rfl, _, rfl, ?_⟩
        refine iteD (fun hk0 => ?_) (fun hk0 => ?_)
        · exact told _ _ _ _ 3 (bad fun h => by omega) (c02.trans c3) rfl _ rfl
        refine ⟨_, rfl, ?_⟩
        dsimp only [tC]
        refine hy ?_
        refine ⟨_, rfl, ?_⟩
        dsimp only [tNil]
        refine len_dt (rk2.ch c3) ?_
        refine ⟨_, _, rfl, rfl, _, rfl, ?_⟩
        rw [kds_len]
        refine iteD (fun hk1 => ?_) (fun hk1 => ?_)
        · exact told _ _ _ _ 3 (bad fun h => by omega) (c02.trans c3) rfl _ rfl
        · exact ⟨_, _, rfl, c3, next fun ⟨k', hk', hb⟩ => by injection hk' with hk'; injection hk' with _ hk'; injection hk' with hk'; injection hk' with hk'; subst hk'; exact hb ⟨by omega, by omega⟩⟩
      · refine ⟨_, _, rfl, c3, next fun ⟨k', hk', hb⟩ => ez ?_⟩
        injection hk' with hk'
        injection hk' with hk'
        injection hk' with hk'
        rw [hk']
    rintro σ2 H3 ⟨u3, u4, rfl, c3, ok2⟩
    rw [lx, List.take_length] at ok2
    have e1 := firstI_no (n := 0) ok2
    obtain ⟨p, rfl, hir, hrest⟩ := wrong_rest wr e0 e1
    clear wr e0 e1 ok1 ok2
    have hl3 := c3 L _ (by simp) hl2
    have rx3 := rx2.ch c3
    have c03 := c02.trans c3
    have rk3 := rk.ch c03
    -- the third loop: kinds
    refine ⟨_, rfl, L, xs, rfl, SqL.of hl3, ?_⟩
    refine for_it (walk_enum (K := K) (a := L) (xs := xs)) (fun i σ' H' => ∃ u1 u2 u3 u4 : Option V, σ' = [some kv, some v, some (.ref L), u1, u2, u3, u4, none] ∧ Ch [] H3 H' ∧ ∀ e ∈ p.subs.take i, ¬ BadK ks e) ⟨u3, u4, none, none, rfl, .refl, by simp⟩ ?_ ?_ ?_
    · rintro i σ' H' _ ⟨_, _, _, _, _, c, _⟩
      exact SqL.of (c L _ (by simp) hl3)
    · rintro i x σ' Hx H' hi ⟨u1, u2, u5, u6, rfl, c, ok⟩ ⟨TT, xi, y, rfl, hT, rfl, ex, ey⟩
      have ex' := Option.some.inj ex
      subst ex'
      obtain ⟨e, he, rd⟩ := rx3.getv ey
      rw [Pg.kn, List.getElem?_map] at he
      obtain ⟨p', hp', rfl⟩ := Option.map_eq_some_iff.mp he
      have hsub := List.mem_of_getElem? hp'
      have hir' := hir.sub hsub
      have hdp := subs_depth hsub
      have hd0 := depth_dep p
      have c4 : Ch [] H3 (upd Hx TT (.tup [.int (i : Nat), y])) := c.trans (.new hT)
      refine ⟨TT, _, rfl, SqT.of upd_same, rfl, _, _, rfl, _, _, rfl, rfl, ?_⟩
      generalize upd Hx TT (.tup [.int (i : Nat), y]) = H4 at c4 ⊢
      refine ⟨_, rfl, y, p'.dt, rfl, rd.ch c4, Pg.form p', fun x5 H5 c5 r5 => ?_⟩
      rw [Pg.partsD] at r5
      obtain ⟨pa, pxs, rfl, pS, pD⟩ := r5.tup_inv
      have lp : pxs.length = p'.parts.length := by rw [pD.len, List.length_map]
      have lp3 := parts_small p'
      refine ⟨pa, rfl, ⟨_, pS⟩, fun Dd hDd => ?_⟩
      refine lc_tup (K := K) (a := pa) (xs := pxs) (fun i H' => Ch [] H5 H' ∧ ∃ us : List V, us.length = i ∧ H' Dd = some (.lst us) ∧ DRs K H' us (((p'.parts.map (Pg.knd ks)).take i).map fun k => .str k.s)) ?_ ?_ ?_ ?_
      · exact ⟨.new hDd, [], rfl, upd_same, .nil⟩
      · rintro i H' _ ⟨c, _⟩
        exact (Ts.of c).sq pS
      · rintro j xj H6 hj ⟨c6, us, lus, hus, rus⟩
        refine ⟨rfl, ?_⟩
        obtain ⟨dj, hdj, rj⟩ := pD.getv hj
        rw [List.getElem?_map] at hdj
        obtain ⟨qj, hqj, rfl⟩ := Option.map_eq_some_iff.mp hdj
        have hqm := List.mem_of_getElem? hqj
        have hkj : (p'.parts.map (Pg.knd ks))[j]? = some (qj.knd ks) := by rw [List.getElem?_map, hqj]; rfl
        refine ⟨_, rfl, _, rfl, kv, xj, ks, qj, rfl, rk.ch (c03.trans (c4.trans (c5.trans c6))), rj.ch c6, hir'.part hqm, (by have := part_depth qj hqm; omega), fun H7 c7 => ?_⟩
        have hj2 := (List.getElem?_eq_some_iff.mp hj).1
        have hus7 := c7 Dd _ (by simp) hus
        refine ⟨us, hus7, small1000 (by omega), (c6.trans c7).mut hDd, us ++ [.str (qj.knd ks).s], by rw [List.length_append, lus]; rfl, upd_same, ?_⟩
        have t6 : Ts H7 (upd H7 Dd (.lst (us ++ [.str (qj.knd ks).s]))) := .upd (by rw [hus7]; trivial)
        rw [take_one hkj, List.map_append]
        exact ((rus.ch c7).ts t6).snoc (.str _)
      · rintro H6 ⟨c6, us, lus, hus, rus⟩
        have ldu : (p'.parts.map (Pg.knd ks)).length = pxs.length := by rw [lp, List.length_map]
        rw [← ldu, List.take_length] at rus
        have hru : us = (p'.parts.map (Pg.knd ks)).map fun k => V.str k.s := by
          have := drs_strs (ws := (p'.parts.map (Pg.knd ks)).map Kd.s) (us := us) (K := K) (H := H6) (by rw [List.map_map]; exact rus)
          rw [this, List.map_map]
          rfl
        have c46 := c4.trans (c5.trans c6)
        -- as many truths
        refine ⟨(by show 1 ≤ sizeLine; decide), fun q1 hq1 => ?_⟩
        have hus1 := (Ch.new (S := []) (o := .lst [.str "truth"]) hq1) Dd _ (by simp) hus
        refine ⟨_, rfl, Dd, us, rfl, .inl (SqL.of hus1), ?_⟩
        refine ⟨q1, _, _, rfl, rfl, upd_same, by omega, by omega, ?_, fun q2 hq2 => ?_⟩
        · rw [sizeLine_eq, Int.toNat_natCast]
          show 1 * us.length ≤ _
          omega
        have c7 : Ch [] H6 (upd (upd H6 q1 (.lst [.str "truth"])) q2 (.lst (List.replicate ((us.length : Nat) : Int).toNat [V.str "truth"]).flatten)) := (Ch.new hq1).trans (.new hq2)
        have e7 : upd (upd H6 q1 (.lst [.str "truth"])) q2 (.lst (List.replicate ((us.length : Nat) : Int).toNat [V.str "truth"]).flatten) q2 = some (.lst (List.replicate us.length (V.str "truth"))) := by
          rw [upd_same, Int.toNat_natCast]
          congr 2
          simp
        have nq2 : H6 q2 = none := (Ch.new (S := []) (o := .lst [.str "truth"]) hq1).free hq2
        generalize upd (upd H6 q1 (.lst [.str "truth"])) q2 (.lst (List.replicate ((us.length : Nat) : Int).toNat [V.str "truth"]).flatten) = H7 at c7 e7 ⊢
        have hus7 := c7 Dd _ (by simp) hus
        have c37 := c46.trans c7
        have ry7 := rd.ch c37
        -- what is due
        have lus2 : us.length = (p'.duesK ks).length := by rw [hru, List.length_map, List.length_map]; cases p' <;> rfl
        refine ⟨fun σ' H' => ∃ (Du : Addr) (us0 : List V), σ' = [some kv, some v, some (.ref L), some (.int (i : Nat)), some y, some (.ref Dd), some (.ref Du), none] ∧ H6 Du = none ∧ Ch [] H6 H' ∧ H' Du = some (.lst us0) ∧ (p'.word ≠ "if" → us0 = (p'.duesK ks).map fun k => V.str k.s), ?_, ?_⟩
        · refine ⟨_, rfl, ?_⟩
          dsimp only [tC]
          refine ix_word ry7 ?_
          refine ⟨(by show 4 ≤ sizeLine; decide), fun p8 hp8 => ?_⟩
          have c8 : Ch [] H7 (upd H7 p8 (.tup [.str "plus", .str "least", .str "most", .str "atmost"])) := .new hp8
          have s8 : SqT K (upd H7 p8 (.tup [.str "plus", .str "least", .str "most", .str "atmost"])) p8 ((["plus", "least", "most", "atmost"] : List Str).map V.str) := SqT.of upd_same
          generalize upd H7 p8 (.tup [.str "plus", .str "least", .str "most", .str "atmost"]) = H8 at c8 s8 ⊢
          refine in_tab s8 ?_
          refine ⟨_, rfl, ?_⟩
          have e8 := c8 q2 _ (by simp) e7
          have hus8 := c8 Dd _ (by simp) hus7
          refine iteB (fun e => ?_) (fun e => ?_)
          · obtain ⟨n, hn⟩ := w_nums e
            obtain ⟨h1, h2, h3, h4⟩ := hn ks
            refine ⟨(by show 1 ≤ sizeLine; decide), fun q3 hq3 => ?_⟩
            have hus9 := (Ch.new (S := []) (o := .lst [.str "num"]) hq3) Dd _ (by simp) hus8
            refine ⟨_, rfl, Dd, us, rfl, .inl (SqL.of hus9), ?_⟩
            refine ⟨q3, _, _, rfl, rfl, upd_same, by omega, by omega, ?_, fun q4 hq4 => ?_⟩
            · rw [sizeLine_eq, Int.toNat_natCast]
              show 1 * us.length ≤ _
              omega
            have c9 := (Ch.new (S := []) (o := .lst [.str "num"]) hq3).trans (.new (o := .lst (List.replicate ((us.length : Nat) : Int).toNat [V.str "num"]).flatten) hq4)
            refine ⟨q4, _, rfl, (c7.trans c8).free ((Ch.new (S := []) (o := .lst [.str "num"]) hq3).free hq4), c7.trans (c8.trans c9), upd_same, fun _ => ?_⟩
            rw [Int.toNat_natCast, lus2, h1, List.length_replicate, List.map_replicate]
            simp [Kd.s]
          · refine ⟨q2, _, rfl, nq2, c7.trans c8, e8, fun hni => ?_⟩
            rw [lus2]
            cases e2 : oneOf p'.word ["not", "both", "either"] with
            | true =>
              obtain ⟨n, hn⟩ := w_truths e2
              rw [(hn ks).1, List.length_replicate, List.map_replicate]
              rfl
            | false =>
              rw [(w_rest e e2 hni ks).1]
              rfl
        rintro σ9 H9 ⟨Du, us0, rfl, nDu, c9, eDu, hne⟩
        have hus9 := c9 Dd _ (by simp) hus
        refine ⟨fun σ' H' => ∃ Du : Addr, σ' = [some kv, some v, some (.ref L), some (.int (i : Nat)), some y, some (.ref Dd), some (.ref Du), none] ∧ Ch [] H6 H' ∧ H' Du = some (.lst ((p'.duesK ks).map fun k => V.str k.s)), ?_, ?_⟩
        · refine ⟨_, rfl, ?_⟩
          dsimp only [tC]
          refine ix_word (rd.ch (c46.trans c9)) ?_
          refine ⟨rfl, _, rfl, ?_⟩
          refine iteD (fun e => ?_) (fun e => ?_)
          · obtain ⟨a, b, c', rfl⟩ := w_if (vs_inj e)
            have hus10 : us = [.str (a.knd ks).s, .str (b.knd ks).s, .str (c'.knd ks).s] := hru
            rw [hus10] at hus9
            refine ⟨_, rfl, Dd, _, _, _, rfl, rfl, SqL.of hus9, rfl, _, rfl, Dd, _, _, _, rfl, rfl, SqL.of hus9, rfl, (by show 3 ≤ sizeLine; decide), fun q5 hq5 => ?_⟩
            refine ⟨q5, rfl, c9.trans (.new hq5), ?_⟩
            rw [upd_same]
            rfl
          · refine ⟨Du, rfl, c9, ?_⟩
            rw [eDu, hne (fun z => e (by rw [z]))]
        rintro σ10 H10 ⟨Du, rfl, c10, eDu⟩
        have hus10 := c10 Dd _ (by simp) hus
        refine ⟨_, rfl, _, rfl, ?_⟩
        have dp : ∀ {a : Addr} (ws : List Kd), H10 a = some (.lst (ws.map fun k => V.str k.s)) → Dp K H10 (.ref a) (.list (Dt.pys (ws.map fun k => Dt.str k.s))) := fun {a} ws e => by
          refine .lst (SqL.of e) ?_
          have := strs_dps (K := K) (H := H10) (ws.map Kd.s)
          rw [List.map_map, List.map_map] at this
          exact this
        rw [hru] at hus10
        refine ⟨_, _, dp _ hus10, dp _ eDu, kds_shapedL _, kds_shapedL _, _, rfl, ?_⟩
        have ee : PyData.eqv (.list (Dt.pys ((p'.parts.map (Pg.knd ks)).map fun k => Dt.str k.s))) (.list (Dt.pys ((p'.duesK ks).map fun k => Dt.str k.s))) = true ↔ p'.parts.map (Pg.knd ks) = p'.duesK ks := kds_eqv
        refine iteB (fun ne => ?_) (fun eq => ?_)
        · have bad : BadK ks p' := fun z => by
            rw [ee.mpr z] at ne
            cases ne
          have hf := firstI_at (n := 0) ok hp' bad
          rw [Nat.zero_add] at hf
          have hr1 : r = .inl ("kind", i) := by
            rcases hrest with ⟨i', e1, e2⟩ | ⟨_, e2, _⟩
            · rw [hf] at e2; cases e2; exact e1
            · rw [hf] at e2; cases e2
          exact told _ _ _ _ 3 hr1 (c03.trans (c46.trans c10)) rfl _ rfl
        · refine ⟨_, _, _, _, rfl, c46.trans c10, fun f hf => ?_⟩
          rw [take_one hp'] at hf
          rcases List.mem_append.mp hf with hf | hf
          · exact ok f hf
          · rw [List.mem_singleton.mp hf]
            unfold BadK
            intro z
            refine z (ee.mp ?_)
            cases hq : PyData.eqv (.list (Dt.pys ((p'.parts.map (Pg.knd ks)).map fun k => Dt.str k.s))) (.list (Dt.pys ((p'.duesK ks).map fun k => Dt.str k.s))) with
            | true => rfl
            | false => rw [hq] at eq; cases eq
    rintro σ3 H4 ⟨u5, u6, u7, u8, rfl, c4, ok3⟩
    have lsub : xs.length = p.subs.length := by rw [lx, Pg.kn, List.length_map]
    rw [lsub, List.take_length] at ok3
    have hr1 : r = .inr (p.knd ks) := by
      rcases hrest with ⟨i', e1, e2⟩ | ⟨e1, _, _⟩
      · rw [firstI_no ok3] at e2; cases e2
      · exact e1
    exact q _ hr1 H4 (c03.trans c4)
/-- what is due of data as a program -/
def dueD : Sum (Str × Nat) Kd → Dt
  | .inl (w, i) => .tup [.str "no program", .str w, .int (i : Int)]
  | .inr t => .tup [.str "kind", .str t.s]
def spDueKind (K : PySem.W.Frag) : Sp := fun vs H Q _ => ∃ (kv v : V) (ks : List Kd) (d : Dt) (r : Sum (Str × Nat) Kd), vs = [kv, v] ∧ DR K H kv (ksD ks) ∧ DR K H v d ∧ WrongIs ks d r ∧ (kn d).length ≤ 1000 ∧ d.dep ≤ 12 ∧ ks.length ≤ 1000 ∧ ∀ (x : V) (H' : Hp), Ch [] H H' → DR K H' x (dueD r) → Q x H'
theorem sc_duekind : FnScope ["_law_kinds", "_law_program", "_law_wrong_here"] ["_law_kinds", "_law_program"] (defScope (top 56)) := ⟨rfl, rfl, rfl, by decide +kernel, rfl, by decide +kernel, by decide +kernel⟩
theorem ok_duekind (D : Df K mg "_law_due_kind" (top 56)) (O__law_wrong : OkF P w K mg base CX0 15 "_law_wrong" ["_law_kinds", "_law_program"] (spLWrong K)) (O__law_own : OkF P w K mg base CX0 13 "_law_own" ["_law_kinds", "_law_knot"] (spLOwn K 12)) : OkF P w K mg base CX0 16 "_law_due_kind" ["_law_kinds", "_law_program"] (spDueKind K) := by
  refine okF0 D sc_duekind (fun _ _ _ _ _ _ us hl => match us, hl with | [_, _], _ => rfl) (fun vs H Q E h => ?_) (fun cdv A outer s H vs Q E hr h => ?_)
  · obtain ⟨kv, v, ks, d, r, rfl, _⟩ := h
    rfl
  · obtain ⟨kv, v, ks, d, r, rfl, rk, rp, wr, sz, dpt, lk, q⟩ := h
    have nd := sc_duekind.nd
    refine ⟨_, (pss_cons (ps_set (i := 2) nd rfl (Or.inl rfl) (pe_callF O__law_wrong (hr.mono (by omega)) rfl pass0 (pa_cons (pv 0) (pa_cons (pv 1) pa_nil))))
  (pss_cons (ps_if (pt_cmpR op_isN (pv 2) pe_non (nomark _)) (pss_one (ps_ret (pe_tup (pa_cons pe_str (pa_cons (pe_callF O__law_own (hr.mono (by omega)) rfl pass0 (pa_cons (pv 0) (pa_cons (pv 1) pa_nil))) pa_nil))))) pss_nil)
  (pss_one (ps_ret (pe_op (r := rCatA K) op_catA (pe_tup (pa_cons pe_str pa_nil)) (pv 2)))))), ?_⟩
    refine ⟨_, rfl, _, rfl, kv, v, ks, d, r, rfl, rk, rp, wr, sz, dpt, lk, fun w i hw x H1 c1 r1 => ?_, fun u hu H1 c1 => ?_⟩
    · subst hw
      obtain ⟨xa, xxs, rfl, _, _⟩ := r1.tup_inv
      refine ⟨_, rfl, rfl, _, rfl, ?_⟩
      refine iteD (fun e => by cases e) (fun _ => ?_)
      refine ⟨(by show 1 ≤ sizeLine; decide), fun p1 hp1 => ?_⟩
      have c2 : Ch [] H1 (upd H1 p1 (.tup [.str "no program"])) := .new hp1
      refine ⟨_, rfl, ?_⟩
      refine cat_dt (ds := [.str "no program"]) (es := [.str w, .int (i : Int)]) (.new (.cons (.str _) .nil) hp1) (r1.ch c2) (by simp) fun x3 H3 c3 r3 => ?_
      exact q x3 H3 (c1.trans (c2.trans c3)) r3
    · subst hu
      refine ⟨_, rfl, rfl, _, rfl, ?_⟩
      refine iteD (fun _ => ?_) (fun e => (e rfl).elim)
      obtain ⟨p, rfl, wt⟩ : ∃ p, d = Pg.dt p ∧ Wt ks p u := by
        cases wr with
        | good h1 h2 => exact ⟨_, h1, h2⟩
      refine ⟨_, rfl, _, rfl, kv, v, ks, p, rfl, rk.ch c1, rp.ch c1, wt.inR, (by have := depth_dep p; omega), fun H2 c2 => ?_⟩
      rw [wt.knd]
      exact tup_dt (K := K) (ds := [.str "kind", .str u.s]) (.cons (.str _) (.cons (.str _) .nil)) (by show 2 ≤ 1000; decide) fun x H3 c3 r3 => q x H3 (c1.trans (c2.trans c3)) r3
end
end LM
set_option Elab.async false
set_option linter.all false
set_option maxRecDepth 100000
set_option maxHeartbeats 4000000
namespace LM
open PySem PySem.Spec PyProof.Rows L2 L2H
/-- the model's dict -/
def mdF (hv : Hd) (KD : Addr) (came : Int) (LD : Addr) : List (Key × V) := [(.inr "head", hv.h), (.inr "kept", .ref KD), (.inr "came", .int came), (.inr "log", .ref LD), (.inr "shop", hv.st), (.inr "far", .int hv.far)]
/-- the model as it stands -/
structure MdA (K : PySem.W.Frag) (H : Hp) (MD KD LD : Addr) (hv : Hd) (es : List (Int × Dt)) (came : Int) (lg : List Dt) : Prop where
  ex : ∃ (kvs : List (Key × V)) (lgs : List V), H MD = some (.dK (mdF hv KD came LD)) ∧ H KD = some (.dK kvs) ∧ H LD = some (.lst lgs) ∧ KvR K H kvs es ∧ DRs K H lgs lg ∧ MD ≠ KD
section
variable {K : PySem.W.Frag} {H H' : Hp} {MD KD LD : Addr} {hv : Hd} {es : List (Int × Dt)} {came : Int} {lg : List Dt}
theorem MdA.ch {S : List Addr} (m : MdA K H MD KD LD hv es came lg) (c : Ch S H H') (t : Ts H H') (n1 : MD ∉ S) (n2 : KD ∉ S) (n3 : LD ∉ S) : MdA K H' MD KD LD hv es came lg := by
  obtain ⟨kvs, lgs, e1, e2, e3, r1, r2, n⟩ := m.ex
  exact ⟨kvs, lgs, c MD _ n1 e1, c KD _ n2 e2, c LD _ n3 e3, r1.ts t, r2.ts t, n⟩
theorem MdA.ch0 (m : MdA K H MD KD LD hv es came lg) (c : Ch [] H H') : MdA K H' MD KD LD hv es came lg := m.ch c (.of c) (by simp) (by simp) (by simp)
/-- a line more in the log -/
theorem MdA.note (m : MdA K H MD KD LD hv es came lg) {lgs : List V} (eL : H LD = some (.lst lgs)) {v : V} {d : Dt} (r : DR K H v d) : MdA K (upd H LD (.lst (lgs ++ [v]))) MD KD LD hv es came (lg ++ [d]) ∧ Ch [MD, KD, LD] H (upd H LD (.lst (lgs ++ [v]))) ∧ Ts H (upd H LD (.lst (lgs ++ [v]))) := by
  obtain ⟨kvs, lgs', e1, e2, e3, r1, r2, n⟩ := m.ex
  rw [e3] at eL
  injection eL with eL
  injection eL with eL
  subst eL
  have t : Ts H (upd H LD (.lst (lgs' ++ [v]))) := .upd (by rw [e3]; trivial)
  have n1 : MD ≠ LD := ne_of e1 e3 (by intro z; cases z)
  have n2 : KD ≠ LD := ne_of e2 e3 (by intro z; cases z)
  exact ⟨⟨kvs, lgs' ++ [v], by rw [upd_ne n1]; exact e1, by rw [upd_ne n2]; exact e2, upd_same, r1.ts t, (r2.snoc r).ts t, n⟩, .put (by simp), t⟩
/-- a thing more is kept -/
theorem MdA.put (m : MdA K H MD KD LD hv es came lg) {kvs : List (Key × V)} (eK : H KD = some (.dK kvs)) {i : Int} {v : V} {d : Dt} (r : DR K H v d) (fresh : ∀ e ∈ es, e.1 ≠ i) : MdA K (upd H KD (.dK (putK kvs (.inl i) v))) MD KD LD hv (es ++ [(i, d)]) came lg ∧ Ch [MD, KD, LD] H (upd H KD (.dK (putK kvs (.inl i) v))) ∧ Ts H (upd H KD (.dK (putK kvs (.inl i) v))) := by
  obtain ⟨kvs', lgs, e1, e2, e3, r1, r2, n⟩ := m.ex
  rw [e2] at eK
  injection eK with eK
  injection eK with eK
  subst eK
  rw [r1.put (v := v) fresh]
  have t : Ts H (upd H KD (.dK (kvs' ++ [(.inl i, v)]))) := .upd (by rw [e2]; trivial)
  have n2 : LD ≠ KD := ne_of e3 e2 (by intro z; cases z)
  exact ⟨⟨_, lgs, by rw [upd_ne n]; exact e1, upd_same, by rw [upd_ne n2]; exact e3, (r1.snoc r).ts t, r2.ts t, n⟩, .put (by simp), t⟩
/-- the count is set -/
theorem MdA.setc (m : MdA K H MD KD LD hv es came lg) (c2 : Int) : MdA K (upd H MD (.dK (putK (mdF hv KD came LD) (.inr "came") (.int c2)))) MD KD LD hv es c2 lg ∧ Ch [MD, KD, LD] H (upd H MD (.dK (putK (mdF hv KD came LD) (.inr "came") (.int c2)))) ∧ Ts H (upd H MD (.dK (putK (mdF hv KD came LD) (.inr "came") (.int c2)))) := by
  obtain ⟨kvs, lgs, e1, e2, e3, r1, r2, n⟩ := m.ex
  have ep : putK (mdF hv KD came LD) (.inr "came") (.int c2) = mdF hv KD c2 LD := rfl
  rw [ep]
  have t : Ts H (upd H MD (.dK (mdF hv KD c2 LD))) := .upd (by rw [e1]; trivial)
  have n2 : LD ≠ MD := ne_of e3 e1 (by intro z; cases z)
  exact ⟨⟨kvs, lgs, upd_same, by rw [upd_ne n.symm]; exact e2, by rw [upd_ne n2]; exact e3, r1.ts t, r2.ts t, n⟩, .put (by simp), t⟩
/-- a number is no more kept -/
theorem MdA.drop (m : MdA K H MD KD LD hv es came lg) (i : Int) {kvs : List (Key × V)} (e : H KD = some (.dK kvs)) : MdA K (upd H KD (.dK (dropK kvs (.inl i)))) MD KD LD hv (dropE es i) came lg ∧ Ch [MD, KD, LD] H (upd H KD (.dK (dropK kvs (.inl i)))) ∧ Ts H (upd H KD (.dK (dropK kvs (.inl i)))) := by
  obtain ⟨kvs', lgs, e1, e2, e3, r1, r2, n⟩ := m.ex
  rw [e] at e2
  injection e2 with e2
  injection e2 with e2
  subst e2
  have t1 : Ts H (upd H KD (.dK (dropK kvs (.inl i)))) := .upd (by rw [e]; trivial)
  have n2 : LD ≠ KD := ne_of e3 e (by intro z; cases z)
  exact ⟨⟨_, lgs, by rw [upd_ne n]; exact e1, upd_same, by rw [upd_ne n2]; exact e3, (r1.drop i).ts t1, r2.ts t1, n⟩, .put (by simp), t1⟩
end
theorem rg_num : ∀ (l : List (Dt × Dt)) (c : Int), ((numEx c l).map fun e => V.int e.1) = (List.range l.length).map fun i => V.int (c + (i : Nat))
  | [], _ => rfl
  | _ :: l, c => by
    show V.int c :: ((numEx (c + 1) l).map fun e => V.int e.1) = _
    rw [rg_num l (c + 1), List.length_cons, List.range_succ_eq_map, List.map_cons, List.map_map]
    congr 1
    · show V.int c = V.int (c + ((0 : Nat) : Int))
      rw [Int.natCast_zero, Int.add_zero]
    · refine List.map_congr_left fun i _ => ?_
      show V.int (c + 1 + (i : Int)) = V.int (c + ((i + 1 : Nat) : Int))
      congr 1
      omega
theorem rgV_num (l : List (Dt × Dt)) (c : Int) : rgV c (c + (l.length : Int)) = (numEx c l).map fun e => V.int e.1 := by
  rw [rg_num]
  unfold rgV
  have : (c + (l.length : Int) - c).toNat = l.length := by omega
  rw [this]
theorem md_log {H : Hp} {MD KD LD : Addr} {hv : Hd} {came : Int} (e : H MD = some (.dK (mdF hv KD came LD))) : DGet H MD (.str "log") (some (.ref LD)) := .inl ⟨_, .inr "log", .inl e, rfl, rfl⟩
theorem md_kept {H : Hp} {MD KD LD : Addr} {hv : Hd} {came : Int} (e : H MD = some (.dK (mdF hv KD came LD))) : DGet H MD (.str "kept") (some (.ref KD)) := .inl ⟨_, .inr "kept", .inl e, rfl, rfl⟩
theorem md_came {H : Hp} {MD KD LD : Addr} {hv : Hd} {came : Int} (e : H MD = some (.dK (mdF hv KD came LD))) : DGet H MD (.str "came") (some (.int came)) := .inl ⟨_, .inr "came", .inl e, rfl, rfl⟩
theorem md_head {H : Hp} {MD KD LD : Addr} {hv : Hd} {came : Int} (e : H MD = some (.dK (mdF hv KD came LD))) : DGet H MD (.str "head") (some hv.h) := .inl ⟨_, .inr "head", .inl e, rfl, rfl⟩
theorem due_log {K : PySem.W.Frag} {H : Hp} {MD KD LD : Addr} {hv : Hd} {es : List (Int × Dt)} {came : Int} {lg : List Dt} {D : Ends} {σ : L2.St} {x wd : Str} (m : MdA K H MD KD LD hv es came lg) (h0 : σ[0]? = some (some (V.ref MD))) (h1 : σ[1]? = some (some (V.str wd))) (ll : lg.length ≤ 999)
    (q : ∀ H', Ch [MD, KD, LD] H H' → Ts H H' → MdA K H' MD KD LD hv es came (lg ++ [noteD x wd]) → D.nx σ H') : tDrop (tBM K "list" rAppend (tDGet (tVar 0) (tC (.str "log"))) (tCons (tTup (tCons (tC (.str x)) (tCons (tVar 1) tNil))) tNil)) D σ H := by
  obtain ⟨kvs, lgs, e1, e2, e3, r1, r2, n⟩ := m.ex
  refine ⟨_, h0, MD, _, rfl, md_log e1, .inl ⟨rfl, _, SqL.of e3⟩, ?_⟩
  refine ⟨_, h1, (by show 2 ≤ sizeLine; decide), fun p hp => ?_⟩
  have c : Ch [] H (upd H p (.tup [.str x, .str wd])) := .new hp
  have r : DR K (upd H p (.tup [.str x, .str wd])) (.ref p) (noteD x wd) := .new (.cons (.str _) (.cons (.str _) .nil)) hp
  have e3' := c LD _ (by simp) e3
  have m' := m.ch0 c
  generalize upd H p (.tup [.str x, .str wd]) = H1 at c r e3' m' ⊢
  obtain ⟨m2, c2, t2⟩ := m'.note e3' r
  refine ⟨LD, lgs, .ref p, rfl, rfl, e3', small1000 (by rw [r2.len]; omega), ?_⟩
  exact q _ ((Ch.of0 c).trans c2) ((Ts.of c).trans t2) m2
section
variable {P : Program} {w : World} {K : PySem.W.Frag} {mg : Str → Option Value} {base : Heap}
/-- what is left behind an answer -/
abbrev DueK (K : PySem.W.Frag) (H : Hp) (Q : VK) (MD KD LD : Addr) (hv : Hd) (es : List (Int × Dt)) (came : Int) (lg : List Dt) (d : Dt) : Prop := ∀ u H', Ch [MD, KD, LD] H H' → Ts H H' → MdA K H' MD KD LD hv es came lg → DR K H' u d → Q u H'
def spDueW (K : PySem.W.Frag) : Sp := fun vs H Q _ => ∃ (MD KD LD : Addr) (hv : Hd) (v : V) (ks : List Kd) (t : Kd) (d : Dt) (r : Sum (Str × Nat) Kd) (es : List (Int × Dt)) (came : Int) (lg : List Dt), vs = [.ref MD, .str "wish", v] ∧ MdA K H MD KD LD hv es came lg ∧ DR K H hv (hdD ks t) ∧ DR K H v d ∧ WrongIs (ks ++ [t]) d r ∧ (kn d).length ≤ 1000 ∧ d.dep ≤ 12 ∧ ks.length ≤ 900 ∧
  es.length ≤ 900 ∧ lg.length ≤ 900 ∧ (∀ e ∈ es, e.1 ≠ came) ∧ (∀ x i, wishRes r = some (x, i) → DueK K H Q MD KD LD hv es came (logD lg "wish") (.tup [.str "no program", .str x, .int (i : Int)])) ∧
  (wishRes r = none → DueK K H Q MD KD LD hv (es ++ [(came, wishDt d)]) (came + 1) (logD lg "wish") (.tup [.str "told", .int came]))
def spDueE (K : PySem.W.Frag) : Sp := fun vs H Q _ => ∃ (MD KD LD L : Addr) (hv : Hd) (ks : List Kd) (t : Kd) (es : List (Int × Dt)) (came : Int) (lg : List Dt) (tp : Bool) (xs : List V) (sm : List (Dt × Dt)), vs = [.ref MD, .str "examples", .ref L] ∧ MdA K H MD KD LD hv es came lg ∧ DR K H hv (hdD ks t) ∧ LAt K tp H L xs ∧ (tp = false → L ∉ [MD, KD, LD]) ∧ DRs K H xs (sm.map pairD) ∧
  sm.length ≤ 200 ∧ es.length ≤ 200 ∧ ks.length ≤ 200 ∧ lg.length ≤ 900 ∧ 0 ≤ came ∧ came ≤ 10000 ∧ Fit ks t es ∧ Calm (entsOf es) ∧ (∀ e ∈ es, e.1 < came) ∧
  (∀ n, firstBad ks t 0 sm = some n → DueK K H Q MD KD LD hv es came (logD lg "examples") (.tup [.str "no inputs", .int (n : Int)])) ∧
  (firstBad ks t 0 sm = none → ∀ n m, lookRes came (entsOf es) 0 sm = some (n, m) → DueK K H Q MD KD LD hv es came (logD lg "examples") (.tup [.str "clash", .int (n : Int), .int m])) ∧
  (firstBad ks t 0 sm = none → lookRes came (entsOf es) 0 sm = none → DueK K H Q MD KD LD hv (es ++ numEx came sm) (came + (sm.length : Int)) (logD lg "examples") (.tup [.str "told", told came sm]))
def spDueB (K : PySem.W.Frag) : Sp := fun vs H Q _ => ∃ (MD KD LD : Addr) (hv : Hd) (es : List (Int × Dt)) (came : Int) (lg : List Dt) (i : Int), vs = [.ref MD, .str "back", .int i] ∧ MdA K H MD KD LD hv es came lg ∧ lg.length ≤ 900 ∧
  ((∀ e ∈ es, e.1 ≠ i) → DueK K H Q MD KD LD hv es came (logD lg "back") (.tup [.str "not kept", .int i])) ∧ ((∃ e ∈ es, e.1 = i) → DueK K H Q MD KD LD hv (dropE es i) came (logD lg "back") (.tup [.str "told", .non]))
def spMDue (K : PySem.W.Frag) : Sp := fun vs H Q E => spDueW K vs H Q E ∨ spDueE K vs H Q E ∨ spDueB K vs H Q E
theorem due_is {w : Str} {i : Nat} : PyData.eqv (dueD (.inl (w, i))).py (Dt.tup [.str "kind", .str "num"]).py = false := by
  show (PyData.eqv (Dt.str "no program").py (Dt.str "kind").py && PyData.eqvAll (Dt.pys [.str w, .int (i : Int)]) (Dt.pys [.str "num"])) = false
  rw [show PyData.eqv (Dt.str "no program").py (Dt.str "kind").py = false from by decide +kernel, Bool.false_and]
theorem wrong_lay {ks : List Kd} {d : Dt} {r : Sum (Str × Nat) Kd} (h : WrongIs ks d r) : ∀ {w : Str} {i : Nat}, r = .inl (w, i) → PyData.canLay0 (.str w) = true := by
  intro w i e
  cases h with
  | form _ => cases e; decide +kernel
  | input _ _ => cases e; decide +kernel
  | kind _ _ _ => cases e; decide +kernel
  | good _ _ => cases e
theorem lay_noprog : PyData.canLay0 (.str "no program") = true := by decide +kernel
theorem due_shd {w : Str} {i : Nat} (h : PyData.canLay0 (.str w) = true) : SeqAt.shaped (dueD (.inl (w, i))).py = true := by
  show ((PyData.canLay0 (.str "no program") && (PyData.canLay0 (.str w) && true)) && decide (max 0 (max 0 (max 0 0)) + 1 ≤ 64)) = true
  rw [h, lay_noprog]
  rfl
theorem sc_mdue : FnScope ["_law_model", "_law_word", "_law_thing", "_law_kept", "_law_came", "_law_head_here", "_law_due", "_law_k", "_law_inputs", "_law_answer"] ["_law_model", "_law_word", "_law_thing"] (defScope (top 65)) := ⟨rfl, rfl, rfl, by decide +kernel, rfl, by decide +kernel, by decide +kernel⟩
theorem ok_mdue (D : Df K mg "_law_maker_due" (top 65)) (T : Bn mg) (O__law_due_kind : OkF P w K mg base CX0 16 "_law_due_kind" ["_law_kinds", "_law_program"] (spDueKind K)) (O__law_examples_due : OkF P w K mg base CX0 2 "_law_examples_due" ["_law_head_here", "_law_kept", "_law_came", "_law_some"] (spExDue K)) :
    OkF P w K mg base CX0 17 "_law_maker_due" ["_law_model", "_law_word", "_law_thing"] (spMDue K) := by
  refine okF0 D sc_mdue (fun _ _ _ _ _ _ us hl => match us, hl with | [_, _, _], _ => rfl) (fun vs H Q E h => ?_) (fun cdv A outer s H vs Q E hr h => ?_)
  · rcases h with ⟨_, _, _, _, _, _, _, _, _, _, _, _, rfl, _⟩ | ⟨_, _, _, _, _, _, _, _, _, _, _, _, _, rfl, _⟩ | ⟨_, _, _, _, _, _, _, _, rfl, _⟩
    · rfl
    · rfl
    · rfl
  · have nd := sc_mdue.nd
    have hu := hu_of hr
    refine ⟨_, (pss_cons (ps_expr (pe_bm PySem.F.plainAttrs_list PySem.F.slot_list_append PySem.F.type_list_append mt_append (pe_dget hu (pv 0) pe_str (fun _ _ => rfl)) (pa_cons (pe_tup (pa_cons pe_str (pa_cons (pv 1) pa_nil))) pa_nil)))
  (pss_cons (ps_expr (pe_bm PySem.F.plainAttrs_list PySem.F.slot_list_append PySem.F.type_list_append mt_append (pe_dget hu (pv 0) pe_str (fun _ _ => rfl)) (pa_cons (pe_tup (pa_cons pe_str (pa_cons (pv 1) pa_nil))) pa_nil)))
  (pss_cons (ps_par3 (i := 3) (j := 4) (l := 5) rfl nd rfl rfl rfl (by decide) (by decide) (by decide) rfl rfl rfl (pa_cons (pe_dget hu (pv 0) pe_str (fun _ _ => rfl)) (pa_cons (pe_dget hu (pv 0) pe_str (fun _ _ => rfl)) (pa_cons (pe_dget hu (pv 0) pe_str (fun _ _ => rfl)) pa_nil))) (by rfl))
  (pss_cons (ps_if (pt_cmpR op_eq (pv 1) pe_str (nomark _)) (pss_cons (ps_set (i := 6) nd rfl (Or.inl rfl) (pe_callF O__law_due_kind (hr.mono (by omega)) rfl pass0 (pa_cons (pe_op (r := rCatA K) op_catA (pe_ix (r := rIxT K) ix_tup (pv 5) pe_int (fun _ _ => rfl)) (pe_tup (pa_cons (pe_ix (r := rIxT K) ix_tup (pv 5) pe_int (fun _ _ => rfl)) pa_nil))) (pa_cons (pv 2) pa_nil))))
  (pss_cons (ps_if (pt_cmpR (r := rEqD K) (op_eqD hr.units) (pv 6) (pe_tup (pa_cons pe_str (pa_cons pe_str pa_nil))) (nomark _)) (pss_one (ps_set (i := 6) nd rfl (Or.inl rfl) (pe_tup (pa_cons pe_str (pa_cons pe_str (pa_cons pe_int pa_nil)))))) pss_nil)
  (pss_cons (ps_if (pt_cmpR op_ne (pe_ix (r := rIxT K) ix_tup (pv 6) pe_int (fun _ _ => rfl)) pe_str (nomark _)) (pss_one (ps_ret (pv 6))) pss_nil)
  (pss_cons (ps_asg (pe_tup (pa_cons (pe_tup (pa_cons pe_str (pa_cons (pv 2) pa_nil))) (pa_cons (pe_op op_add (pv 4) pe_int) pa_nil))) (pg_tup rfl (pgs_cons (pg_sub (pv 3) (pv 4) (set_dict hu)) (pgs_cons (pg_sub (pv 0) pe_str (set_dict hu)) pgs_nil))))
  (pss_one (ps_ret (pe_tup (pa_cons pe_str (pa_cons (pv 4) pa_nil))))))))) pss_nil)
  (pss_cons (ps_if (pt_cmpR op_eq (pv 1) pe_str (nomark _)) (pss_cons (ps_set (i := 6) nd rfl (Or.inl rfl) (pe_callF O__law_examples_due (hr.mono (by omega)) rfl pass0 (pa_cons (pv 5) (pa_cons (pv 3) (pa_cons (pv 4) (pa_cons (pv 2) pa_nil))))))
  (pss_cons (ps_if (pt_cmpR op_notN (pv 6) pe_non (nomark _)) (pss_one (ps_ret (pv 6))) pss_nil)
  (pss_cons (ps_for PassesOwn.never rfl (pi_enum2 (by rfl) T.b_enumerate (pa_cons (pv 2) pa_nil)) (pg_tup rfl (pgs_cons (pg_name (i := 7) nd rfl (Or.inl rfl)) (pgs_cons (pg_tup rfl (pgs_cons (pg_name (i := 8) nd rfl (Or.inl rfl)) (pgs_cons (pg_name (i := 9) nd rfl (Or.inl rfl)) pgs_nil))) pgs_nil))) (pss_one (ps_asg (pe_tup (pa_cons pe_str (pa_cons (pv 8) (pa_cons (pv 9) pa_nil)))) (pg_sub (pv 3) (pe_op op_add (pv 4) (pv 7)) (set_dict hu)))))
  (pss_cons (ps_asg (pe_op op_add (pv 4) (pe_callB (r := rLenS K) call_len_seq (by rfl) T.b_len PySem.boot_len (pa_cons (pv 2) pa_nil))) (pg_sub (pv 0) pe_str (set_dict hu)))
  (pss_one (ps_ret (pe_tup (pa_cons pe_str (pa_cons (pe_tupRg rfl (by rfl) T.b_tuple (prg_2 rfl T.b_range (pv 4) (pe_op op_add (pv 4) (pe_callB (r := rLenS K) call_len_seq (by rfl) T.b_len PySem.boot_len (pa_cons (pv 2) pa_nil))))) pa_nil))))))))) pss_nil)
  (pss_cons (ps_if (pt_cmp (pc_dnotin hu (pv 2) (pv 3))) (pss_one (ps_ret (pe_tup (pa_cons pe_str (pa_cons (pv 2) pa_nil))))) pss_nil)
  (pss_cons (ps_expr (pe_dpop1 (pv 3) (pv 2) ⟨rfl, rfl, rfl, rfl⟩))
  (pss_one (ps_ret (pe_tup (pa_cons pe_str (pa_cons pe_non pa_nil)))))))))))), ?_⟩
    rcases h with h | h | h
    · obtain ⟨MD, KD, LD, hv, v, ks, t, d, r, es, came, lg, rfl, m, rh, rp, wr, sz, dep, lk, le, ll, fresh, qx, q⟩ := h
      refine due_log m rfl rfl (by omega) fun H1 c1 t1 m1 => ?_
      refine due_log m1 rfl rfl (by rw [List.length_append, List.length_singleton]; omega) fun H2 c2 t2 m2 => ?_
      obtain ⟨kvs, lgs, e1, e2, e3, r1, r2, n⟩ := m2.ex
      refine ⟨_, rfl, MD, _, rfl, md_kept e1, _, rfl, MD, _, rfl, md_came e1, _, rfl, MD, _, rfl, md_head e1, _, _, _, rfl, ?_⟩
      have t02 := t1.trans t2
      have rh2 := rh.ts t02
      have rp2 := rp.ts t02
      refine ⟨_, rfl, rfl, _, rfl, ?_⟩
      refine iteD (fun _ => ?_) (fun z => absurd rfl z)
      refine ⟨_, rfl, ?_⟩
      dsimp only [tC]
      refine ix_dt (n := 0) rh2 rfl fun y1 ry1 => ?_
      refine ⟨_, rfl, ?_⟩
      dsimp only [tC]
      refine ix_dt (n := 1) rh2 rfl fun y2 ry2 => ?_
      refine ⟨(by show 1 ≤ sizeLine; decide), fun p1 hp1 => ?_⟩
      have c3 : Ch [] H2 (upd H2 p1 (.tup [y2])) := .new hp1
      refine cat_dt (ds := ks.map fun (k : Kd) => Dt.str k.s) (es := [Dt.str t.s]) (ry1.ch c3) (.new (.cons ry2 .nil) hp1) (by simp; omega) fun x7 H3 c4 r7 => ?_
      rw [ksD_snoc] at r7
      have c34 := c3.trans c4
      refine ⟨_, rfl, ?_⟩
      refine ⟨x7, v, ks ++ [t], d, r, rfl, r7, rp2.ch c34, wr, sz, dep, (by rw [List.length_append, List.length_singleton]; omega), fun x8 H4 c5 r8 => ?_⟩
      have c25 := c34.trans c5
      refine ⟨_, rfl, (by show 2 ≤ sizeLine; decide), fun p2 hp2 => ?_⟩
      have c6 : Ch [] H4 (upd H4 p2 (.tup [.str "kind", .str "num"])) := .new hp2
      have r6 : DR K (upd H4 p2 (.tup [.str "kind", .str "num"])) (.ref p2) (.tup [.str "kind", .str "num"]) := .new (.cons (.str _) (.cons (.str _) .nil)) hp2
      have r8' := r8.ch c6
      have c26 := c25.trans c6
      generalize upd H4 p2 (.tup [.str "kind", .str "num"]) = H5 at c6 r6 r8' c26 ⊢
      clear r8 r7 c34 c3 c4 c5 c25
      rcases r with ⟨x, i⟩ | u
      · refine ⟨_, _, r8'.dp, r6.dp, due_shd (wrong_lay wr rfl), by decide +kernel, _, rfl, ?_⟩
        rw [due_is]
        refine iteB (fun e => by cases e) (fun _ => ?_)
        refine ⟨_, rfl, ?_⟩
        dsimp only [tC]
        refine ix_dt (n := 0) r8' rfl fun y3 ry3 => ?_
        rw [ry3.str_inv]
        refine ⟨rfl, _, rfl, ?_⟩
        refine iteN (fun _ => ?_) (fun z => absurd z (by decide +kernel))
        refine ⟨_, rfl, ?_⟩
        exact qx x i rfl _ _ (c1.trans (c2.trans (.of0 c26))) (t02.trans (.of c26)) (m2.ch0 c26) r8'
      cases u with
      | num =>
        refine ⟨_, _, r8'.dp, r6.dp, by decide +kernel, by decide +kernel, _, rfl, ?_⟩
        refine iteB (fun _ => ?_) (fun e => absurd e (by decide +kernel))
        refine ⟨(by show 3 ≤ sizeLine; decide), fun p9 hp9 => ?_⟩
        have c9 : Ch [] H5 (upd H5 p9 (.tup [.str "no program", .str "kind", .int 0])) := .new hp9
        have r9 : DR K (upd H5 p9 (.tup [.str "no program", .str "kind", .int 0])) (.ref p9) (.tup [.str "no program", .str "kind", .int ((0 : Nat) : Int)]) := .new (.cons (.str _) (.cons (.str _) (.cons (.int _) .nil))) hp9
        refine ⟨_, rfl, ?_⟩
        dsimp only [tC]
        refine ix_dt (n := 0) r9 rfl fun y3 ry3 => ?_
        rw [ry3.str_inv]
        refine ⟨rfl, _, rfl, ?_⟩
        refine iteN (fun _ => ?_) (fun z => absurd z (by decide +kernel))
        refine ⟨_, rfl, ?_⟩
        have c29 := c26.trans c9
        exact qx "kind" 0 rfl _ _ (c1.trans (c2.trans (.of0 c29))) (t02.trans (.of c29)) (m2.ch0 c29) r9
      | truth =>
      refine ⟨_, _, r8'.dp, r6.dp, by decide +kernel, by decide +kernel, _, rfl, ?_⟩
      refine iteB (fun e => absurd e (by decide +kernel)) (fun _ => ?_)
      refine ⟨_, rfl, ?_⟩
      dsimp only [tC]
      refine ix_dt (n := 0) r8' rfl fun y3 ry3 => ?_
      rw [ry3.str_inv]
      refine ⟨rfl, _, rfl, ?_⟩
      refine iteN (fun z => absurd rfl z) (fun _ => ?_)
      have m5 := m2.ch0 c26
      have rp5 := rp2.ch c26
      refine ⟨_, rfl, (by show 2 ≤ sizeLine; decide), fun p3 hp3 => ?_⟩
      have c7 : Ch [] H5 (upd H5 p3 (.tup [.str "wish", v])) := .new hp3
      have r3 : DR K (upd H5 p3 (.tup [.str "wish", v])) (.ref p3) (wishDt d) := .new (.cons (.str _) (.cons rp5 .nil)) hp3
      generalize upd H5 p3 (.tup [.str "wish", v]) = H6 at c7 r3 ⊢
      refine ⟨_, rfl, _, _, rfl, rfl, (by show 2 ≤ sizeLine; decide), fun p4 hp4 => ?_⟩
      have c8 : Ch [] H6 (upd H6 p4 (.tup [.ref p3, .int (came + 1)])) := .new hp4
      have s4 : SqT K (upd H6 p4 (.tup [.ref p3, .int (came + 1)])) p4 [.ref p3, .int (came + 1)] := SqT.of upd_same
      have r3' := r3.ch c8
      have m7 := m5.ch0 (c7.trans c8)
      have c28 := c26.trans (c7.trans c8)
      show gTup K _ _ _ _ (upd H6 p4 (.tup [.ref p3, .int (came + 1)])) _
      generalize upd H6 p4 (.tup [.ref p3, .int (came + 1)]) = H7 at c8 s4 r3' m7 c28 ⊢
      obtain ⟨kvs7, lgs7, g1, g2, g3, _, _, _⟩ := m7.ex
      refine ⟨p4, _, rfl, s4, rfl, _, _, rfl, ?_⟩
      have lk7 : kvs7.length < sizeLine := small1000 (by
        obtain ⟨kv', _, _, e, _, r, _⟩ := m7.ex
        rw [g2] at e
        injection e with e
        injection e with e
        subst e
        rw [r.len]
        omega)
      refine ⟨_, rfl, _, rfl, KD, _, rfl, DPut.k (k := .inl came) g2 lk7, ?_⟩
      obtain ⟨m8, c9, t9⟩ := m7.put g2 r3' fresh
      generalize upd H7 KD (.dK (putK kvs7 (.inl came) (.ref p3))) = H8 at m8 c9 t9 ⊢
      obtain ⟨kvs8, lgs8, f1, f2, f3, _, _, _⟩ := m8.ex
      refine ⟨_, _, rfl, _, rfl, MD, _, rfl, DPut.k (k := .inr "came") f1 (by show 6 < sizeLine; decide), rfl, ?_⟩
      obtain ⟨m9, c10, t10⟩ := m8.setc (came + 1)
      generalize upd H8 MD (.dK (putK (mdF hv KD came LD) (.inr "came") (.int (came + 1)))) = H9 at m9 c10 t10 ⊢
      refine ⟨_, rfl, (by show 2 ≤ sizeLine; decide), fun p5 hp5 => ?_⟩
      have c11 : Ch [] H9 (upd H9 p5 (.tup [.str "told", .int came])) := .new hp5
      refine q rfl _ _ (c1.trans (c2.trans ((Ch.of0 c28).trans (c9.trans (c10.trans (.of0 c11)))))) (t02.trans ((Ts.of c28).trans (t9.trans (t10.trans (.of c11))))) (m9.ch0 c11) (.new (.cons (.str _) (.cons (.int _) .nil)) hp5)
    · obtain ⟨MD, KD, LD, L, hv, ks, t, es, came, lg, tp, xs, sm, rfl, m, rh, hL, nLD, rx, ls, le, lk, ll, cm0, cm1, fit, calm, fresh, q1, q2, q3⟩ := h
      obtain ⟨kvs0, lgs0, i1, i2, i3, _, _, _⟩ := m.ex
      refine due_log m rfl rfl (by omega) fun H1 c1 t1 m1 => ?_
      refine due_log m1 rfl rfl (by rw [List.length_append, List.length_singleton]; omega) fun H2 c2 t2 m2 => ?_
      obtain ⟨kvs, lgs, e1, e2, e3, r1, r2, n⟩ := m2.ex
      refine ⟨_, rfl, MD, _, rfl, md_kept e1, _, rfl, MD, _, rfl, md_came e1, _, rfl, MD, _, rfl, md_head e1, _, _, _, rfl, ?_⟩
      have t02 := t1.trans t2
      have c02 := c1.trans c2
      have rh2 := rh.ts t02
      have rx2 := rx.ts t02
      have hL2 := hL.ch c02 t02 nLD
      refine ⟨_, rfl, rfl, _, rfl, ?_⟩
      refine iteD (fun z => absurd z (by decide +kernel)) (fun _ => ?_)
      refine ⟨_, rfl, rfl, _, rfl, ?_⟩
      refine iteD (fun _ => ?_) (fun z => absurd rfl z)
      refine ⟨_, rfl, _, rfl, _, rfl, _, rfl, ?_⟩
      refine ⟨hv, KD, L, ks, t, kvs, es, came, tp, xs, sm, rfl, e2, r1, rh2, hL2, rx2, ls, le, lk, fit, calm, fun n hn v H3 c3 r3 => ?_, fun hb n z hn v H3 c3 r3 => ?_, fun hb hn H3 c3 => ?_⟩
      · obtain ⟨b3, _, rfl, _, _⟩ := r3.tup_inv
        refine ⟨_, rfl, rfl, _, rfl, ?_⟩
        refine iteN (fun _ => ?_) (fun z => by cases z)
        exact ⟨_, rfl, q1 n hn _ _ (c02.trans (.of0 c3)) (t02.trans (.of c3)) (m2.ch0 c3) r3⟩
      · obtain ⟨b3, _, rfl, _, _⟩ := r3.tup_inv
        refine ⟨_, rfl, rfl, _, rfl, ?_⟩
        refine iteN (fun _ => ?_) (fun z => by cases z)
        exact ⟨_, rfl, q2 hb n z hn _ _ (c02.trans (.of0 c3)) (t02.trans (.of c3)) (m2.ch0 c3) r3⟩
      · refine ⟨_, rfl, rfl, _, rfl, ?_⟩
        refine iteN (fun z => absurd rfl z) (fun _ => ?_)
        have hL3 := hL2.ch0 c3
        have c03 := c02.trans (.of0 c3)
        have t03 := t02.trans (.of c3)
        have m3 := m2.ch0 c3
        have rx3 := rx.ts t03
        have lx : xs.length = sm.length := by rw [rx.len, List.length_map]
        clear q1 q2
        refine ⟨_, rfl, tp, L, xs, rfl, hL3.sq, ?_⟩
        refine for_it (walk_enum2 (K := K) (t := tp) (a := L) (xs := xs)) (fun i σ' H' => ∃ u7 u8 u9 : Option V, σ' = [some (.ref MD), some (.str "examples"), some (.ref L), some (.ref KD), some (.int came), some hv.h, some .non, u7, u8, u9] ∧ Ch [MD, KD, LD] H H' ∧ Ts H H' ∧ MdA K H' MD KD LD hv (es ++ numEx came (sm.take i)) came (lg ++ [noteD "in" "examples"] ++ [noteD "out" "examples"])) ?_ ?_ ?_ ?_
        · refine ⟨none, none, none, rfl, c03, t03, ?_⟩
          rw [List.take_zero]
          show MdA K H3 MD KD LD hv (es ++ []) came _
          rw [List.append_nil]
          exact m3
        · rintro i σ' H' _ ⟨_, _, _, _, c, t, _⟩
          exact (hL.ch c t nLD).sq
        · rintro i x σ' Hx H' hi ⟨u7, u8, u9, rfl, c, ts, mi⟩ ⟨TT, xi, y, rfl, hT, rfl, ex, ey⟩
          have ex' := Option.some.inj ex
          subst ex'
          obtain ⟨d, hd, rd⟩ := rx.getv ey
          rw [List.getElem?_map] at hd
          obtain ⟨pr, hpr, rfl⟩ := Option.map_eq_some_iff.mp hd
          have hil := (List.getElem?_eq_some_iff.mp hpr).1
          have lt : (sm.take i).length = i := by rw [List.length_take]; omega
          have c4 : Ch [] Hx (upd Hx TT (.tup [.int (i : Nat), y])) := .new hT
          have sT : SqT K (upd Hx TT (.tup [.int (i : Nat), y])) TT [.int (i : Nat), y] := SqT.of upd_same
          have m4 := mi.ch0 c4
          have t4 := ts.trans (.of c4)
          have c04 := c.trans (.of0 c4)
          generalize upd Hx TT (.tup [.int (i : Nat), y]) = H4 at c4 sT m4 t4 c04 ⊢
          obtain ⟨pa, pxs, rfl, pS, pD⟩ := (rd.ts t4).tup_inv
          cases pD with
          | cons d1 pD =>
          cases pD with
          | cons d2 pD =>
          cases pD
          rename_i iv av
          refine ⟨TT, _, rfl, sT, rfl, _, _, rfl, _, _, rfl, pa, _, rfl, pS, rfl, _, _, rfl, _, _, rfl, rfl, rfl, ?_⟩
          refine ⟨_, rfl, _, rfl, (by show 3 ≤ sizeLine; decide), fun p5 hp5 => ?_⟩
          have c5 : Ch [] H4 (upd H4 p5 (.tup [.str "example", iv, av])) := .new hp5
          have r5 : DR K (upd H4 p5 (.tup [.str "example", iv, av])) (.ref p5) (exD pr.1 pr.2) := .new (.cons (.str _) (.cons d1 (.cons d2 .nil))) hp5
          generalize upd H4 p5 (.tup [.str "example", iv, av]) = H5 at c5 r5 ⊢
          have m5 := m4.ch0 c5
          obtain ⟨kvs5, lgs5, f1, f2, f3, fr, _, _⟩ := m5.ex
          have fl : kvs5.length < sizeLine := small1000 (by rw [fr.len, List.length_append, numEx_len, lt]; omega)
          have fresh5 : ∀ e ∈ es ++ numEx came (sm.take i), e.1 ≠ came + (i : Int) := fun e he => by
            rcases List.mem_append.mp he with he | he
            · have := fresh e he
              omega
            · have := numEx_lt _ _ e he
              rw [lt] at this
              omega
          obtain ⟨m6, c6, t6⟩ := m5.put f2 r5 fresh5
          refine ⟨_, rfl, _, rfl, _, rfl, _, _, rfl, rfl, KD, _, rfl, DPut.k (k := .inl (came + (i : Int))) f2 fl, ?_⟩
          refine ⟨_, _, _, rfl, c04.trans ((Ch.of0 c5).trans c6), t4.trans ((Ts.of c5).trans t6), ?_⟩
          rw [take_one hpr, numEx_snoc, lt, ← List.append_assoc]
          exact m6
        · rintro σ4 H4 ⟨u7, u8, u9, rfl, c4, t4, m4⟩
          rw [lx, List.take_length] at m4
          have hL4 := hL.ch c4 t4 nLD
          obtain ⟨kvs4, lgs4, f1, f2, f3, fr, _, _⟩ := m4.ex
          refine ⟨_, rfl, _, rfl, L, xs, rfl, hL4.or, _, _, rfl, rfl, ?_⟩
          rw [lx]
          refine ⟨_, rfl, MD, _, rfl, DPut.k (k := .inr "came") f1 (by show 6 < sizeLine; decide), ?_⟩
          obtain ⟨m5, c5, t5⟩ := m4.setc (came + (sm.length : Int))
          have hL5 := hL4.ch c5 t5 nLD
          rw [show ((fun i j => V.int (i + j)) came (sm.length : Int)) = V.int (came + (sm.length : Int)) from rfl]
          generalize upd H4 MD (.dK (putK (mdF hv KD came LD) (.inr "came") (.int (came + (sm.length : Int))))) = H5 at m5 c5 t5 hL5 ⊢
          refine ⟨_, rfl, _, rfl, _, rfl, L, xs, rfl, hL5.or, _, _, rfl, rfl, _, _, rfl, rfl, ?_⟩
          rw [lx]
          refine ⟨RgOk.of_le cm0 (by omega) (by omega) (by omega), fun p6 hp6 => ?_⟩
          rw [rgV_num]
          have c6 : Ch [] H5 (upd H5 p6 (.tup ((numEx came sm).map fun e => V.int e.1))) := .new hp6
          have r6 : DR K (upd H5 p6 (.tup ((numEx came sm).map fun e => V.int e.1))) (.ref p6) (told came sm) := .new (drs_ints _) hp6
          generalize upd H5 p6 (.tup ((numEx came sm).map fun e => V.int e.1)) = H6 at c6 r6 ⊢
          refine ⟨(by show 2 ≤ sizeLine; decide), fun p7 hp7 => ?_⟩
          have c7 : Ch [] H6 (upd H6 p7 (.tup [.str "told", .ref p6])) := .new hp7
          exact q3 hb hn _ _ (c4.trans (c5.trans (.of0 (c6.trans c7)))) (t4.trans (t5.trans (.of (c6.trans c7)))) (m5.ch0 (c6.trans c7)) (.new (.cons (.str _) (.cons r6 .nil)) hp7)
    · obtain ⟨MD, KD, LD, hv, es, came, lg, i, rfl, m, ll, qx, q⟩ := h
      refine due_log m rfl rfl (by omega) fun H1 c1 t1 m1 => ?_
      refine due_log m1 rfl rfl (by rw [List.length_append, List.length_singleton]; omega) fun H2 c2 t2 m2 => ?_
      obtain ⟨kvs, lgs, e1, e2, e3, r1, r2, n⟩ := m2.ex
      refine ⟨_, rfl, MD, _, rfl, md_kept e1, _, rfl, MD, _, rfl, md_came e1, _, rfl, MD, _, rfl, md_head e1, _, _, _, rfl, ?_⟩
      refine ⟨_, rfl, rfl, _, rfl, ?_⟩
      refine iteD (fun z => absurd z (by decide +kernel)) (fun _ => ?_)
      refine ⟨_, rfl, rfl, _, rfl, ?_⟩
      refine iteD (fun z => absurd z (by decide +kernel)) (fun _ => ?_)
      refine ⟨_, rfl, _, rfl, KD, _, rfl, DGet.k (k := .inl i) e2, _, rfl, ?_⟩
      rcases r1.has i with ⟨he, u, hu2⟩ | ⟨hn, hu2⟩
      · rw [hu2]
        refine iteB (fun z => by cases z) (fun _ => ?_)
        refine ⟨_, rfl, KD, rfl, .inl ⟨_, .inl e2⟩, _, rfl, kvs, .inl i, u, e2, rfl, hu2, ?_⟩
        obtain ⟨m3, c3, t3⟩ := m2.drop i e2
        generalize upd H2 KD (.dK (dropK kvs (.inl i))) = H3 at m3 c3 t3 ⊢
        refine ⟨(by show 2 ≤ sizeLine; decide), fun p5 hp5 => ?_⟩
        have c4 : Ch [] H3 (upd H3 p5 (.tup [.str "told", .non])) := .new hp5
        exact q he _ _ (c1.trans (c2.trans (c3.trans (.of0 c4)))) (t1.trans (t2.trans (t3.trans (.of c4)))) (m3.ch0 c4) (.new (.cons (.str _) (.cons .non .nil)) hp5)
      · rw [hu2]
        refine iteB (fun _ => ?_) (fun z => by cases z)
        refine ⟨_, rfl, (by show 2 ≤ sizeLine; decide), fun p5 hp5 => ?_⟩
        have c4 : Ch [] H2 (upd H2 p5 (.tup [.str "not kept", .int i])) := .new hp5
        exact qx hn _ _ (c1.trans (c2.trans (.of0 c4))) (t1.trans (t2.trans (.of c4))) (m2.ch0 c4) (.new (.cons (.str _) (.cons (.int _) .nil)) hp5)
end
end LM
set_option Elab.async false
set_option linter.all false
set_option maxRecDepth 100000
set_option maxHeartbeats 4000000
namespace LM
open PySem PySem.Spec PyProof.Rows L2
mutual
def Dt.sz : Dt → Nat
  | .tup ds => Dt.szs ds + 1
  | .non => 1 | .bl _ => 1 | .int _ => 1 | .str _ => 1
def Dt.szs : List Dt → Nat
  | [] => 0
  | d :: ds => d.sz + Dt.szs ds
end
theorem Dt.szs_app : ∀ xs ys : List Dt, Dt.szs (xs ++ ys) = Dt.szs xs + Dt.szs ys
  | [], ys => by show Dt.szs ys = 0 + _; rw [Nat.zero_add]
  | x :: xs, ys => by
    show x.sz + Dt.szs (xs ++ ys) = x.sz + Dt.szs xs + Dt.szs ys
    rw [Dt.szs_app xs ys, Nat.add_assoc]
theorem Dt.sz_pos (d : Dt) : 1 ≤ d.sz := by cases d <;> simp [Dt.sz]
theorem Dt.szs_len : ∀ xs : List Dt, xs.length ≤ Dt.szs xs
  | [] => Nat.le_refl _
  | x :: xs => by
    have h1 := Dt.sz_pos x
    have h2 := Dt.szs_len xs
    show xs.length + 1 ≤ x.sz + Dt.szs xs
    omega
/-- the same data twice -/
def twin (d : Dt) : Dt := .tup [d, d]
theorem drs_zip {K : PySem.W.Frag} {H : Hp} : ∀ {ds : List Dt} {xs ys : List V} {ts : List Addr}, Paired (fun (t : Addr) (q : V × V) => H t = some (.tup [q.1, q.2])) ts (xs.zip ys) → DRs K H xs ds → DRs K H ys ds → DRs K H (ts.map V.ref) (ds.map twin)
  | [], _, _, _, p, .nil, .nil => by cases p; exact .nil
  | _ :: _, _, _, _, p, .cons a r, .cons b s => by
    cases p with
    | cons h p => exact .cons (.tup (SqT.of h) (.cons a (.cons b .nil))) (drs_zip p r s)
theorem flat_eq {K : PySem.W.Frag} {H : Hp} {v u : V} {e : Dt} (h : e.isTup = false) (a : DR K H v e) (b : DR K H u e) : v = u ∧ scal v u = true := by
  cases a with
  | tup _ _ => cases h
  | non => cases b; exact ⟨rfl, rfl⟩
  | bl x => cases b; exact ⟨rfl, rfl⟩
  | int i => cases b; exact ⟨rfl, rfl⟩
  | str x => cases b; exact ⟨rfl, rfl⟩
section
variable {P : Program} {w : World} {K : PySem.W.Frag} {mg : Str → Option Value} {base : Heap}
def spAlike (K : PySem.W.Frag) : Sp := fun vs H Q _ => ∃ (v u : V) (d : Dt), vs = [v, u] ∧ DR K H v d ∧ DR K H u d ∧ d.sz ≤ 1000000 ∧ ∀ H', Ch [] H H' → Q (.bl true) H'
theorem sc_alike : FnScope ["_law_found", "_law_due", "_law_left", "_law_one", "_law_other"] ["_law_found", "_law_due"] (defScope (top 54)) := ⟨rfl, rfl, rfl, by decide +kernel, rfl, by decide +kernel, by decide +kernel⟩
theorem ok_alike (D : Df K mg "_law_alike" (top 54)) (T : Bn mg) : OkF P w K mg base CX0 1 "_law_alike" ["_law_found", "_law_due"] (spAlike K) := by
  refine okF0 D sc_alike (fun _ _ _ _ _ _ us hl => match us, hl with | [_, _], _ => rfl) (fun vs H Q E h => ?_) (fun cdv A outer s H vs Q E hr h => ?_)
  · obtain ⟨v, u, d, rfl, _⟩ := h
    rfl
  · obtain ⟨v, u, d, rfl, rv, ru, hz, q⟩ := h
    have nd := sc_alike.nd
    refine ⟨_, (pss_cons (ps_set (i := 2) nd rfl (Or.inl rfl) (pe_lst (pa_cons (pe_tup (pa_cons (pv 0) (pa_cons (pv 1) pa_nil))) pa_nil)))
  (pss_cons (ps_while PassesOwn.never (pt_cmpR op_gt (pe_callB (r := rLenS K) call_len_seq (by rfl) T.b_len PySem.boot_len (pa_cons (pv 2) pa_nil)) pe_int (nomark _)) (pss_cons (ps_asg (pe_bm0 PySem.F.plainAttrs_list PySem.F.slot_list_pop PySem.F.type_list_pop mt_pop (pv 2)) (pg_tup rfl (pgs_cons (pg_name (i := 3) nd rfl (Or.inl rfl)) (pgs_cons (pg_name (i := 4) nd rfl (Or.inl rfl)) pgs_nil))))
  (pss_cons (ps_if (pt_cmpR op_ne (pe_callB (r := rIsi K) call_isi (by rfl) T.b_isinstance (by decide +kernel) (pa_cons (pv 3) (pa_cons (pe_bltn (v := .ty "tuple") (by rfl) T.b_tuple (by decide +kernel) rfl) pa_nil))) (pe_callB (r := rIsi K) call_isi (by rfl) T.b_isinstance (by decide +kernel) (pa_cons (pv 4) (pa_cons (pe_bltn (v := .ty "tuple") (by rfl) T.b_tuple (by decide +kernel) rfl) pa_nil))) (nomark _)) (pss_one (ps_ret pe_bl)) pss_nil)
  (pss_cons (ps_if (pt_cmpR op_ne (pe_callB (r := rIsi K) call_isi (by rfl) T.b_isinstance (by decide +kernel) (pa_cons (pv 3) (pa_cons (pe_bltn (v := .ty "bool") (by rfl) T.b_bool (by decide +kernel) rfl) pa_nil))) (pe_callB (r := rIsi K) call_isi (by rfl) T.b_isinstance (by decide +kernel) (pa_cons (pv 4) (pa_cons (pe_bltn (v := .ty "bool") (by rfl) T.b_bool (by decide +kernel) rfl) pa_nil))) (nomark _)) (pss_one (ps_ret pe_bl)) pss_nil)
  (pss_one (ps_if (pt_val (pe_callB (r := rIsi K) call_isi (by rfl) T.b_isinstance (by decide +kernel) (pa_cons (pv 4) (pa_cons (pe_bltn (v := .ty "tuple") (by rfl) T.b_tuple (by decide +kernel) rfl) pa_nil))) (by intro _; rfl)) (pss_cons (ps_if (pt_cmpR op_ne (pe_callB (r := rLenS K) call_len_seq (by rfl) T.b_len PySem.boot_len (pa_cons (pv 3) pa_nil)) (pe_callB (r := rLenS K) call_len_seq (by rfl) T.b_len PySem.boot_len (pa_cons (pv 4) pa_nil)) (nomark _)) (pss_one (ps_ret pe_bl)) pss_nil)
  (pss_one (ps_expr (pe_bm PySem.F.plainAttrs_list PySem.F.slot_list_extend PySem.F.type_list_extend mt_extend (pv 2) (pa_cons (pe_lstZip rfl (by rfl) T.b_list (by rfl) T.b_zip (pa_cons (pv 3) (pa_cons (pv 4) pa_nil))) pa_nil))))) (pss_one (ps_if (PW.pt (pw_or (pt_cmpR op_ne (pe_callB (r := rIsi K) call_isi (by rfl) T.b_isinstance (by decide +kernel) (pa_cons (pv 3) (pa_cons (pe_bltn (v := .ty "str") (by rfl) T.b_str (by decide +kernel) rfl) pa_nil))) (pe_callB (r := rIsi K) call_isi (by rfl) T.b_isinstance (by decide +kernel) (pa_cons (pv 4) (pa_cons (pe_bltn (v := .ty "str") (by rfl) T.b_str (by decide +kernel) rfl) pa_nil))) (nomark _)) (pw_or1 (pt_cmpR op_ne (pv 3) (pv 4) (nomark _))))) (pss_one (ps_ret pe_bl)) pss_nil))))))))
  (pss_one (ps_ret pe_bl)))), ?_⟩
    refine ⟨_, rfl, _, rfl, (by show 2 ≤ sizeLine; decide), fun p1 hp1 => ?_⟩
    have c1 : Ch [] H (upd H p1 (.tup [v, u])) := .new hp1
    have r1 : DR K (upd H p1 (.tup [v, u])) (.ref p1) (twin d) := .new (.cons rv (.cons ru .nil)) hp1
    generalize upd H p1 (.tup [v, u]) = H1 at c1 r1 ⊢
    refine ⟨(by show 1 ≤ sizeLine; decide), fun M hM => ?_⟩
    have hM0 : H M = none := c1.free hM
    have c2 : Ch [] H1 (upd H1 M (.lst [.ref p1])) := .new hM
    have hm1 : upd H1 M (.lst [.ref p1]) M = some (.lst [.ref p1]) := upd_same
    have r2 := r1.ch c2
    have c02 := c1.trans c2
    refine ⟨fun m σ' H' => ∃ (ys : List V) (es : List Dt) (u3 u4 : Option V), σ' = [some v, some u, some (.ref M), u3, u4] ∧ H' M = some (.lst ys) ∧ DRs K H' ys (es.map twin) ∧ Ch [] H H' ∧ m = Dt.szs es ∧ Dt.szs es ≤ 1000000, ⟨_, [.ref p1], [d], none, none, rfl, hm1, .cons r2 .nil, c02, rfl, ?_⟩, ?_⟩
    · show d.sz + 0 ≤ _
      omega
    rintro m σ' H' ⟨ys, es, u3, u4, rfl, hm, ry, c, rfl, hz2⟩
    have ly := ry.len
    rw [List.length_map] at ly
    have les := Dt.szs_len es
    refine ⟨_, rfl, _, _, rfl, .inl (SqL.of hm), _, _, rfl, rfl, _, rfl, ?_⟩
    refine iteD (fun e1 => ?_) (fun e1 => ?_)
    · -- a turn
      obtain ⟨es', e, rfl⟩ : ∃ es' e, es = es' ++ [e] := by
        rcases List.eq_nil_or_concat es with h | ⟨a, b, h⟩
        · subst h
          have : ys.length = 0 := by rw [ly]; rfl
          omega
        · exact ⟨a, b, by rw [h, List.concat_eq_append]⟩
      refine ⟨fun σ2 H2 => ∃ m', m' < Dt.szs (es' ++ [e]) ∧ ∃ (ys : List V) (es : List Dt) (u3 u4 : Option V), σ2 = [some v, some u, some (.ref M), u3, u4] ∧ H2 M = some (.lst ys) ∧ DRs K H2 ys (es.map twin) ∧ Ch [] H H2 ∧ m' = Dt.szs es ∧ Dt.szs es ≤ 1000000, fun _ _ h => h, ?_⟩
      have big : Dt.szs (es' ++ [e]) = Dt.szs es' + e.sz := by rw [Dt.szs_app]; rfl
      have lys : ys.length = es'.length + 1 := by rw [ly, List.length_append]; rfl
      obtain ⟨yv, hyv⟩ : ∃ yv, ys[ys.length - 1]? = some yv := ⟨_, List.getElem?_eq_getElem (by omega)⟩
      obtain ⟨e', he', re⟩ := ry.getv hyv
      have ee : e' = twin e := by
        rw [List.map_append, show ys.length - 1 = (es'.map twin).length from by rw [List.length_map]; omega, List.getElem?_append_right (Nat.le_refl _), Nat.sub_self] at he'
        exact (Option.some.inj he').symm
      subst ee
      have rdl : DRs K H' ys.dropLast (es'.map twin) := by
        have := ry.take es'.length
        rw [List.map_append, List.take_append_of_le_length (by rw [List.length_map]; exact Nat.le_refl _), show es'.length = (es'.map twin).length from (List.length_map ..).symm, List.take_length] at this
        rw [List.dropLast_eq_take, show ys.length - 1 = (es'.map twin).length from by rw [List.length_map]; omega]
        exact this
      refine ⟨_, rfl, .inl ⟨rfl, _, SqL.of hm⟩, M, ys, yv, rfl, rfl, hm, hyv, ?_⟩
      have t1 : Ts H' (upd H' M (.lst ys.dropLast)) := .upd (by rw [hm]; trivial)
      have c3 : Ch [] H (upd H' M (.lst ys.dropLast)) := c.mut hM0
      have hm2 : upd H' M (.lst ys.dropLast) M = some (.lst ys.dropLast) := upd_same
      have rdl2 := rdl.ts t1
      have re2 := re.ts t1
      generalize upd H' M (.lst ys.dropLast) = H2 at t1 c3 hm2 rdl2 re2 ⊢
      obtain ⟨pa, pxs, rfl, pS, pD⟩ := re2.tup_inv
      cases pD with
      | cons d1 pD =>
      cases pD with
      | cons d2 pD =>
      cases pD
      rename_i xa xb
      refine ⟨pa, _, rfl, pS, rfl, _, _, rfl, _, _, rfl, rfl, ?_⟩
      refine ⟨_, rfl, ?_⟩
      dsimp only [tCons, tC, tNil]
      refine isi_tuple d1 ?_
      refine ⟨_, rfl, ?_⟩
      dsimp only [tCons, tC, tNil]
      refine isi_tuple d2 ?_
      refine ⟨rfl, _, rfl, ?_⟩
      refine iteN (fun z => absurd rfl z) (fun _ => ?_)
      refine ⟨_, rfl, ?_⟩
      dsimp only [tCons, tC, tNil]
      refine isi_bool d1 ?_
      refine ⟨_, rfl, ?_⟩
      dsimp only [tCons, tC, tNil]
      refine isi_bool d2 ?_
      refine ⟨rfl, _, rfl, ?_⟩
      refine iteN (fun z => absurd rfl z) (fun _ => ?_)
      refine ⟨_, rfl, ?_⟩
      dsimp only [tCons, tC, tNil]
      refine isi_tuple d2 ?_
      refine ⟨_, rfl, ?_⟩
      refine iteB (fun e2 => ?_) (fun e2 => ?_)
      · obtain ⟨ds, rfl⟩ := Dt.tup_of e2
        refine ⟨_, rfl, ?_⟩
        dsimp only [tNil]
        refine len_dt d1 ?_
        refine ⟨_, rfl, ?_⟩
        dsimp only [tNil]
        refine len_dt d2 ?_
        refine ⟨rfl, _, rfl, ?_⟩
        refine iteN (fun z => absurd rfl z) (fun _ => ?_)
        obtain ⟨qa, xs, rfl, sa, ra⟩ := d1.tup_inv
        obtain ⟨qb, zs, rfl, sb, rb⟩ := d2.tup_inv
        refine ⟨_, rfl, .inl ⟨rfl, _, SqL.of hm2⟩, _, rfl, _, rfl, qa, qb, xs, zs, rfl, sa, sb, by rw [ra.len, rb.len], fun H3 R ts keep hR0 hR prs => ?_⟩
        have c4 : Ch [] H2 H3 := fun a o _ ea => keep a o ea
        have hm3 := c4 M _ (by simp) hm2
        have rz := drs_zip prs (ra.ch c4) (rb.ch c4)
        have lts : ts.length = ds.length := by
          have := rz.len
          rw [List.length_map, List.length_map] at this
          exact this
        have esz : (Dt.tup ds).sz = Dt.szs ds + 1 := rfl
        have l1 := Dt.szs_len es'
        have l2 := Dt.szs_len ds
        refine ⟨M, R, _, _, rfl, rfl, hm3, hR, ?_, ?_⟩
        · rw [List.length_dropLast, List.length_map, lts]
          exact Nat.le_trans (m := 1000000) (by omega) (by decide)
        have t5 : Ts H3 (upd H3 M (.lst (ys.dropLast ++ ts.map V.ref))) := .upd (by rw [hm3]; trivial)
        refine ⟨_, ?_, _, es' ++ ds, _, _, rfl, upd_same, ?_, (c3.trans c4).mut hM0, rfl, ?_⟩
        · rw [big, Dt.szs_app, esz]
          omega
        · rw [List.map_append]
          exact ((rdl2.ch c4).ts t5).app (rz.ts t5)
        · rw [Dt.szs_app]
          rw [big, esz] at hz2
          omega
      · obtain ⟨exy, esc⟩ := flat_eq e2 d1 d2
        refine ⟨_, rfl, ?_⟩
        dsimp only [tCons, tC, tNil]
        refine isi_str d1 ?_
        refine ⟨_, rfl, ?_⟩
        dsimp only [tCons, tC, tNil]
        refine isi_str d2 ?_
        refine ⟨rfl, _, rfl, ?_⟩
        refine iteN (fun z => absurd rfl z) (fun _ => ?_)
        refine ⟨_, rfl, _, rfl, esc, _, rfl, ?_⟩
        refine iteN (fun z => absurd exy z) (fun _ => ?_)
        refine ⟨_, ?_, _, es', _, _, rfl, hm2, rdl2, c3, rfl, ?_⟩
        · have := Dt.sz_pos e
          rw [big]
          omega
        · rw [big] at hz2
          omega
    · -- the end
      exact q H' c
end
end LM
set_option Elab.async false
set_option linter.all false
set_option maxRecDepth 100000
set_option maxHeartbeats 4000000
namespace LM
open PySem PySem.Spec PyProof.Rows L2
/-- the same plain data at both -/
def Twin (K : PySem.W.Frag) (H : Hp) (x y : V) : Prop := ∃ d : PyData, Dp K H x d ∧ Dp K H y d ∧ SeqAt.shaped d = true
/-- dict == dict, equal plain data under equal keys -/
def rEqTw (K : PySem.W.Frag) : R2 := fun x y H Q => EqR K H (Twin K H) x y ∧ Q (.bl true) H
theorem op_eqTw {X : Cx} (hu : X.A.units + 100 < cLine) : OpR X (compareOp .Eq) (rEqTw X.K) := by
  rintro pins s σ H x y v u Q I rx ry ⟨h, q⟩
  refine eqR_run I (A := X.A) (by omega) (fun a b p r ⟨d, h1, h2, sd⟩ ra rb E2 Q2 q2 => ?_) h rx ry _ _ ⟨.bl true, H, I, rfl, q⟩
  obtain ⟨as, r1⟩ := Dp.reads I d a p h1 ra
  obtain ⟨bs, r2⟩ := Dp.reads I d b r h2 rb
  have e := SeqAt.eqAt_reads d d X.A.in1 s p r as bs r1 r2 (SeqAt.canLay_of_shaped sd) (SeqAt.canLay_of_shaped sd) (SeqAt.room_of_shaped sd (by show X.A.units + 1 + 64 < cLine; omega))
  rw [SeqAt.eqv_refl d (SeqAt.canLay_of_shaped sd)] at e
  exact e.eqP E2 Q2 q2
end LM
set_option Elab.async false
set_option linter.all false
set_option maxRecDepth 100000
set_option maxHeartbeats 4000000
namespace LM
open PySem PySem.Spec PyProof.Rows L2
theorem pg_lv : ∀ p : Pg, p.dt.ok = true ∧ p.dt.lv ≤ p.depth
  | .inp _ => ⟨by show (PyData.canLay0 (.str "in") && (true && true)) = true; decide +kernel, Nat.le_refl _⟩ | .num _ => ⟨by show (PyData.canLay0 (.str "num") && (true && true)) = true; decide +kernel, Nat.le_refl _⟩ | .yes => ⟨by decide +kernel, Nat.le_refl _⟩ | .no => ⟨by decide +kernel, Nat.le_refl _⟩
  | .plus _ a => by
    obtain ⟨x, y⟩ := pg_lv a
    refine ⟨?_, ?_⟩
    · show (PyData.canLay0 (.str "plus") && (true && (a.dt.ok && true))) = true
      rw [x]
      decide +kernel
    · show max 0 (max 0 (max a.dt.lv 0)) + 1 ≤ a.depth + 1
      omega
  | .not a => by
    obtain ⟨x, y⟩ := pg_lv a
    refine ⟨?_, ?_⟩
    · show (PyData.canLay0 (.str "not") && ((a.dt.ok && true))) = true
      rw [x]
      decide +kernel
    · show max 0 (max a.dt.lv 0) + 1 ≤ a.depth + 1
      omega
  | .bin o a b => by
    obtain ⟨x, y⟩ := pg_lv a
    obtain ⟨z, u⟩ := pg_lv b
    refine ⟨?_, ?_⟩
    · show (PyData.canLay0 (.str o.s) && ((a.dt.ok && (b.dt.ok && true)))) = true
      rw [x, z]
      cases o <;> decide +kernel
    · show max 0 (max a.dt.lv (max b.dt.lv 0)) + 1 ≤ max a.depth b.depth + 1
      omega
  | .ite p a b => by
    obtain ⟨x, y⟩ := pg_lv a
    obtain ⟨z, u⟩ := pg_lv b
    obtain ⟨r, q⟩ := pg_lv p
    refine ⟨?_, ?_⟩
    · show (PyData.canLay0 (.str "if") && (p.dt.ok && ((a.dt.ok && (b.dt.ok && true))))) = true
      rw [x, z, r]
      decide +kernel
    · show max 0 (max p.dt.lv (max a.dt.lv (max b.dt.lv 0))) + 1 ≤ max p.depth (max a.depth b.depth) + 1
      omega
theorem pg_sz : ∀ p : Pg, p.dt.sz ≤ 4 * p.size
  | .inp _ => by show 1 + (1 + 0) + 1 ≤ 4 * 1; decide
  | .num _ => by show 1 + (1 + 0) + 1 ≤ 4 * 1; decide
  | .yes => by show 1 + 0 + 1 ≤ 4 * 1; decide
  | .no => by show 1 + 0 + 1 ≤ 4 * 1; decide
  | .plus _ a => by
    have := pg_sz a
    show 1 + (1 + (a.dt.sz + 0)) + 1 ≤ 4 * (a.size + 1)
    omega
  | .not a => by
    have := pg_sz a
    show 1 + (a.dt.sz + 0) + 1 ≤ 4 * (a.size + 1)
    omega
  | .bin _ a b => by
    have := pg_sz a
    have := pg_sz b
    show 1 + (a.dt.sz + (b.dt.sz + 0)) + 1 ≤ 4 * (a.size + b.size + 1)
    omega
  | .ite p a b => by
    have := pg_sz p
    have := pg_sz a
    have := pg_sz b
    show 1 + (p.dt.sz + (a.dt.sz + (b.dt.sz + 0))) + 1 ≤ 4 * (p.size + a.size + b.size + 1)
    omega
theorem kd_sz {t : Kd} {a : Dt} (h : KdOf t a = true) : a.sz = 1 ∧ a.lv = 0 ∧ a.ok = true := by
  rcases kd_of h with ⟨_, i, rfl⟩ | ⟨_, i, rfl⟩ <;> exact ⟨rfl, rfl, rfl⟩
theorem areOf_sz : ∀ {ks : List Kd} {is : List Dt}, AreOf ks is → Dt.szs is = ks.length ∧ Dt.lvs is = 0 ∧ Dt.oks is = true
  | _, _, .nil => ⟨rfl, rfl, rfl⟩
  | _, _, .cons (l₁ := l1) (l₂ := l2) (a := k) (b := d) h r => by
    obtain ⟨a, b, c⟩ := areOf_sz r
    obtain ⟨e, f, g⟩ := kd_sz h
    refine ⟨?_, ?_, ?_⟩
    · show d.sz + Dt.szs l2 = l1.length + 1
      omega
    · show max d.lv (Dt.lvs l2) = 0
      rw [b, f]
      rfl
    · show (d.ok && Dt.oks l2) = true
      rw [c, g]
      rfl
theorem Fit.shd {ks : List Kd} {t : Kd} {es : List (Int × Dt)} (f : Fit ks t es) (lk : ks.length ≤ 200) : ∀ e ∈ es, e.2.sz ≤ 4002 ∧ Shd e.2 := by
  intro e he
  rcases f e he with ⟨p, hp, _, h1, h2⟩ | ⟨i, a, hi, h1, h2⟩
  · rw [hp]
    have a1 := pg_sz p
    obtain ⟨a2, a3⟩ := pg_lv p
    refine ⟨?_, ?_, ?_⟩
    · show 1 + (p.dt.sz + 0) + 1 ≤ 4002
      omega
    · show (PyData.canLay0 (.str "wish") && (p.dt.ok && true)) = true
      rw [a2]
      decide +kernel
    · show max 0 (max p.dt.lv 0) + 1 ≤ 60
      omega
  · rw [hi]
    obtain ⟨b1, b2, b5⟩ := areOf_sz h1
    obtain ⟨b3, b4, b6⟩ := kd_sz h2
    refine ⟨?_, ?_, ?_⟩
    · show 1 + (Dt.szs i + 1 + (a.sz + 0)) + 1 ≤ 4002
      omega
    · show (PyData.canLay0 (.str "example") && (Dt.oks i && (a.ok && true))) = true
      rw [b5, b6]
      decide +kernel
    · show max 0 (max (Dt.lvs i + 1) (max a.lv 0)) + 1 ≤ 60
      omega
theorem note_shd {x y : Str} (hx : PyData.canLay0 (.str x) = true) (hy : PyData.canLay0 (.str y) = true) : Shd (noteD x y) := by
  refine ⟨?_, ?_⟩
  · show (PyData.canLay0 (.str x) && (PyData.canLay0 (.str y) && true)) = true
    rw [hx, hy]
    rfl
  · show max 0 (max 0 0) + 1 ≤ 60
    decide
/-- a pair of items() -/
def itD (e : Int × Dt) : Dt := .tup [.int e.1, e.2]
theorem its_sz : ∀ {es : List (Int × Dt)}, (∀ e ∈ es, e.2.sz ≤ 4002) → Dt.szs (es.map itD) ≤ 4004 * es.length
  | [], _ => Nat.le_refl _
  | e :: es, h => by
    have h1 := h e List.mem_cons_self
    have h2 := its_sz fun f hf => h f (List.mem_cons_of_mem _ hf)
    show (1 + (e.2.sz + 0) + 1) + Dt.szs (es.map itD) ≤ 4004 * (es.length + 1)
    omega
theorem kv_items {K : PySem.W.Frag} {H1 : Hp} : ∀ {kvs : List (Key × V)} {es : List (Int × Dt)} {ts : List Addr}, KvR K H1 kvs es → ts.length = kvs.length → (∀ (j : Nat) (t : Addr) (q : Key × V), ts[j]? = some t → kvs[j]? = some q → H1 t = some (.tup [kV q.1, q.2])) → DRs K H1 (ts.map V.ref) (es.map itD)
  | _, _, [], .nil, _, _ => .nil
  | _, _, _ :: _, .nil, l, _ => by cases l
  | _, _, [], .cons _ _, l, _ => by cases l
  | _, _, t :: ts, .cons r rs, l, at_ => .cons (.tup (SqT.of (at_ 0 t _ rfl rfl)) (.cons (.int _) (.cons r .nil))) (kv_items rs (by simpa using l) fun j t q e1 e2 => at_ (j + 1) t q (by simpa using e1) (by simpa using e2))
theorem KvR.twin {K : PySem.W.Frag} {H : Hp} : ∀ {kvs lvs : List (Key × V)} {es : List (Int × Dt)}, KvR K H kvs es → KvR K H lvs es → (es.map (·.1)).Nodup → (∀ e ∈ es, Shd e.2) → ∀ p ∈ kvs, ∃ u, valV lvs p.1 = some u ∧ Twin K H p.2 u
  | _, _, _, .nil, _, _, _ => fun p hp => by cases hp
  | _, _, _, .cons (i := i) (v := v) r rs, .cons (v := u) q qs, nd, dp => fun p hp => by
    rw [List.map_cons, List.nodup_cons] at nd
    rcases List.mem_cons.mp hp with rfl | hp
    · refine ⟨u, ?_, _, r.dp, q.dp, (dp _ List.mem_cons_self).s⟩
      unfold valV
      simp
    · obtain ⟨x, h1, h2⟩ := KvR.twin rs qs nd.2 (fun e he => dp e (List.mem_cons_of_mem _ he)) p hp
      refine ⟨x, ?_, h2⟩
      obtain ⟨j, hj⟩ := List.getElem?_of_mem hp
      obtain ⟨k, d, ek, ed, _⟩ := rs.get (j := j) (k := p.1) (v := p.2) hj
      have ne : ¬ ((Sum.inl i : Key) = p.1) := fun z => by
        rw [ek] at z
        injection z with z
        exact nd.1 (List.mem_map.mpr ⟨_, List.mem_of_getElem? ed, z.symm⟩)
      rw [← h1]
      unfold valV
      simp [ne]
section
variable {P : Program} {w : World} {K : PySem.W.Frag} {mg : Str → Option Value} {base : Heap}
/-- maker and model hold the same -/
def spStands (K : PySem.W.Frag) (C : Addr) : Sp := fun vs H Q _ => ∃ (M TH WR MD KD LD : Addr) (hv hw : Hd) (ks : List Kd) (t : Kd) (es : List (Int × Dt)) (came cm2 : Int) (lg : List Dt), vs = [.ref M, .ref MD] ∧ MkA K H C M TH WR hv es came lg false ∧ MdA K H MD KD LD hw es cm2 lg ∧ es.length ≤ 200 ∧ lg.length ≤ 100 ∧ ks.length ≤ 200 ∧ Fit ks t es ∧ (es.map (·.1)).Nodup ∧ (∀ d ∈ lg, Shd d) ∧ ∀ H', Ch [] H H' → Q (.bl true) H'
theorem sc_stands : FnScope ["_law_maker", "_law_model", "_law_kept", "_law_log"] ["_law_maker", "_law_model"] (defScope (top 66)) := ⟨rfl, rfl, rfl, by decide +kernel, rfl, by decide +kernel, by decide +kernel⟩
theorem ok_stands {C : Addr} (D : Df K mg "_law_stands" (top 66)) (T : Bn mg) (O_kept : OkM P w K mg base CX0 1 C "kept" ["self"] (spKept K C)) (O_log : OkM P w K mg base CX0 1 C "log" ["self"] (spLog K C)) (O_is_busy : OkM P w K mg base CX0 1 C "is_busy" ["self"] (spBusy K C))
    (O___len__ : OkM P w K mg base CX0 1 C "__len__" ["self"] (spLen K C)) (O__law_alike : OkF P w K mg base CX0 1 "_law_alike" ["_law_found", "_law_due"] (spAlike K)) : OkF P w K mg base CX0 3 "_law_stands" ["_law_maker", "_law_model"] (spStands K C) := by
  refine okF0 D sc_stands (fun _ _ _ _ _ _ us hl => match us, hl with | [_, _], _ => rfl) (fun vs H Q E h => ?_) (fun cdv A outer s H vs Q E hr h => ?_)
  · obtain ⟨M, TH, WR, MD, KD, LD, hv, hw, ks, t, es, came, cm2, lg, rfl, _⟩ := h
    rfl
  · obtain ⟨M, TH, WR, MD, KD, LD, hv, hw, ks, t, es, came, cm2, lg, rfl, m, d, le, ll, lk, fit, nod, sh, q⟩ := h
    have nd := sc_stands.nd
    have hu := hu_of hr
    have hu1 : (A.deeper (envOfC "_law_stands" (defScope (top 66)) s.heap.objs.size (He.ga K "_law_stands") cdv)).units + 100 < cLine := by have := hr.un; omega
    refine ⟨_, (pss_cons (ps_par (i := 2) (j := 3) rfl nd rfl rfl (by decide) rfl rfl (pa_cons (pe_methF0 (pv 0) O_kept (hr.mono (by omega)) pass0) (pa_cons (pe_methF0 (pv 0) O_log (hr.mono (by omega)) pass0) pa_nil)) (by rfl))
  (pss_cons (ps_if (PW.pt (pw_or (pt_not (pt_val (pe_callB (r := rIsi K) call_isi (by rfl) T.b_isinstance (by decide +kernel) (pa_cons (pv 2) (pa_cons (pe_bltn (v := .ty "dict") (by rfl) T.b_dict (by decide +kernel) rfl) pa_nil))) (by intro _; rfl))) (pw_or (pt_not (pt_val (pe_callB (r := rIsi K) call_isi (by rfl) T.b_isinstance (by decide +kernel) (pa_cons (pv 3) (pa_cons (pe_bltn (v := .ty "list") (by rfl) T.b_list (by decide +kernel) rfl) pa_nil))) (by intro _; rfl))) (pw_or1 (pt_cmpR op_notBl (pe_methF0 (pv 0) O_is_busy (hr.mono (by omega)) pass0) pe_bl (nomark _)))))) (pss_one (ps_ret pe_bl)) pss_nil)
  (pss_cons (ps_if (PW.pt (pw_or (pt_cmpR (r := rNeD K) (op_neD hr.units) (pv 3) (pe_dget hu (pv 1) pe_str (fun _ _ => rfl)) (nomark _)) (pw_or1 (pt_cmpR op_ne (pe_callB (r := rLenOwn C (spLen K C)) (call_lenOwn O___len__ (hr.mono (by omega))) (by rfl) T.b_len PySem.boot_len (pa_cons (pv 0) pa_nil)) (pe_callB call_lenD (by rfl) T.b_len PySem.boot_len (pa_cons (pe_dget hu (pv 1) pe_str (fun _ _ => rfl)) pa_nil)) (nomark _))))) (pss_one (ps_ret pe_bl)) pss_nil)
  (pss_cons (ps_if (pt_not (pt_val (pe_callF O__law_alike (hr.mono (by omega)) rfl pass0 (pa_cons (pe_tupItems rfl (pv 2) (by rfl) T.b_tuple) (pa_cons (pe_tupItems rfl (pe_dget hu (pv 1) pe_str (fun _ _ => rfl)) (by rfl) T.b_tuple) pa_nil))) (by intro _; rfl))) (pss_one (ps_ret pe_bl)) pss_nil)
  (pss_cons (ps_expr (pe_dclear (pv 2)))
  (pss_cons (ps_expr (pe_bm0 PySem.F.plainAttrs_list PySem.F.slot_list_clear PySem.F.type_list_clear mt_clear (pv 3)))
  (pss_one (ps_ret (pe_and (pe_cmpR (r := rEqTw K) (op_eqTw hu1) (pe_methF0 (pv 0) O_kept (hr.mono (by omega)) pass0) (pe_dget hu (pv 1) pe_str (fun _ _ => rfl)) (nomark _)) (pe_one (pe_cmpR (r := rEqD K) (op_eqD hr.units) (pe_methF0 (pv 0) O_log (hr.mono (by omega)) pass0) (pe_dget hu (pv 1) pe_str (fun _ _ => rfl)) (nomark _)))))))))))), ?_⟩
    obtain ⟨dx, sv, kvs0, lgs0, e1, e2, e3, r1, r2⟩ := m.ex
    refine ⟨_, rfl, M, dx, _, rfl, e1, mF_no (by decide +kernel) (by decide +kernel) (by decide +kernel) (by decide +kernel) (by decide +kernel) (by decide +kernel) (by decide +kernel), ?_⟩
    refine ⟨M, TH, WR, hv, es, came, lg, false, rfl, m, by omega, by omega, fun pk kvs H1 hpk c1 epk rk => ?_⟩
    have m1 := m.ch0 c1
    obtain ⟨dx1, sv1, _, _, f1, _, _, _, _⟩ := m1.ex
    refine ⟨_, rfl, M, dx1, _, rfl, f1, mF_no (by decide +kernel) (by decide +kernel) (by decide +kernel) (by decide +kernel) (by decide +kernel) (by decide +kernel) (by decide +kernel), ?_⟩
    refine ⟨M, TH, WR, hv, es, came, lg, false, rfl, m1, by omega, by omega, ?_⟩
    intro pl xl H2 hpl c2 epl rl
    refine ⟨_, _, rfl, ?_⟩
    have m2 := m1.ch0 c2
    have epk2 := c2 pk _ (by simp) epk
    have rk2 := rk.ts (.of c2)
    have c02 := c1.trans c2
    have d2 := d.ch0 c02
    have isd : ∀ {R : VK}, R (.bl true) H2 → rIsi K [.ref pk, .ty "dict"] H2 R := fun r => ⟨_, _, _, _, true, rfl, .ty "dict", .base (.dK epk2), kit_ty (by decide +kernel), r⟩
    have isl : ∀ {R : VK}, R (.bl true) H2 → rIsi K [.ref pl, .ty "list"] H2 R := fun r => ⟨_, _, _, _, true, rfl, .ty "list", .base (.lst epl), kit_ty (by decide +kernel), r⟩
    refine ⟨_, rfl, ?_⟩
    dsimp only [tCons, tC, tNil]
    refine isd ?_
    refine ⟨_, rfl, ?_⟩
    refine iteB (fun z => by cases z) (fun _ => ?_)
    refine ⟨_, rfl, ?_⟩
    dsimp only [tCons, tC, tNil]
    refine isl ?_
    refine ⟨_, rfl, ?_⟩
    refine iteB (fun z => by cases z) (fun _ => ?_)
    obtain ⟨dx2, sv2, kvs2, lgs2, g1, g2, g3, s1, s2⟩ := m2.ex
    refine ⟨_, rfl, M, dx2, _, rfl, g1, mF_no (by decide +kernel) (by decide +kernel) (by decide +kernel) (by decide +kernel) (by decide +kernel) (by decide +kernel) (by decide +kernel), ?_⟩
    refine ⟨M, TH, WR, hv, es, came, lg, false, rfl, m2, by omega, by omega, ?_⟩
    refine ⟨false, false, rfl, rfl, _, rfl, ?_⟩
    refine iteN (fun z => absurd rfl z) (fun _ => ?_)
    obtain ⟨kvD, lgD, h1, h2, h3, w1, w2, _⟩ := d2.ex
    refine ⟨_, rfl, _, rfl, MD, _, rfl, md_log h1, ?_⟩
    refine ne_same (d := .list (Dt.pys lg)) (.lst (SqL.of epl) rl.dp) (.lst (SqL.of h3) w2.dp) (shd_list sh) ?_
    refine ⟨_, rfl, ?_⟩
    refine iteB (fun z => by cases z) (fun _ => ?_)
    refine ⟨_, rfl, M, dx2, _, rfl, g1, M, TH, WR, hv, es, came, lg, false, rfl, m2, by omega, by omega, es.length, rfl, by omega, ?_⟩
    refine ⟨_, rfl, MD, _, rfl, md_kept h1, KD, kvD, rfl, h2, ?_⟩
    rw [w1.len]
    refine ⟨rfl, _, rfl, ?_⟩
    refine iteN (fun z => absurd rfl z) (fun _ => ?_)
    have fsz := fit.shd lk
    have isz : (Dt.tup (es.map itD)).sz ≤ 1000000 := by
      have := its_sz fun e he => (fsz e he).1
      show Dt.szs (es.map itD) + 1 ≤ _
      omega
    refine ⟨_, rfl, pk, kvs, rfl, epk2, fun H3 p1 ts1 k3 lt1 at1 hp1 => ?_⟩
    have c3 : Ch [] H2 H3 := fun a o _ e => k3 a o e
    have c4 : Ch [] H3 (upd H3 p1 (.tup (ts1.map V.ref))) := .new hp1
    have r4 : DR K (upd H3 p1 (.tup (ts1.map V.ref))) (.ref p1) (.tup (es.map itD)) := .new (kv_items (rk2.ts (.of c3)) lt1 at1) hp1
    have c24 := c3.trans c4
    generalize upd H3 p1 (.tup (ts1.map V.ref)) = H4 at c4 r4 c24 ⊢
    have d4 := d2.ch0 c24
    obtain ⟨kvD4, lgD4, i1, i2, i3, w14, w24, _⟩ := d4.ex
    refine ⟨_, rfl, MD, _, rfl, md_kept i1, KD, kvD4, rfl, i2, fun H5 p2 ts2 k5 lt2 at2 hp2 => ?_⟩
    have c5 : Ch [] H4 H5 := fun a o _ e => k5 a o e
    have c6 : Ch [] H5 (upd H5 p2 (.tup (ts2.map V.ref))) := .new hp2
    have r6 : DR K (upd H5 p2 (.tup (ts2.map V.ref))) (.ref p2) (.tup (es.map itD)) := .new (kv_items (w14.ts (.of c5)) lt2 at2) hp2
    have c46 := c5.trans c6
    generalize upd H5 p2 (.tup (ts2.map V.ref)) = H6 at c6 r6 c46 ⊢
    refine ⟨_, _, _, rfl, r4.ch c46, r6, isz, fun H7 c7 => ?_⟩
    refine ⟨_, rfl, ?_⟩
    refine iteB (fun z => by cases z) (fun _ => ?_)
    have c27 := c24.trans (c46.trans c7)
    have epk7 := c27 pk _ (by simp) epk2
    have epl7 := c27 pl _ (by simp) epl
    have m7 := m2.ch0 c27
    have d7 := d2.ch0 c27
    have pk0 : H pk = none := hpk
    have pl0 : H pl = none := c1.free hpl
    have c07 := c02.trans c27
    refine ⟨_, rfl, .inr (.inr (.inl ⟨rfl, .inl ⟨_, epk7⟩⟩)), pk, kvs, rfl, rfl, epk7, ?_⟩
    have c08 : Ch [] H (upd H7 pk (.dK [])) := c07.mut pk0
    have epl8 : upd H7 pk (.dK []) pl = some (.lst xl) := by rw [upd_ne (ne_of epl7 epk7 (by intro z; cases z))]; exact epl7
    generalize upd H7 pk (.dK []) = H8 at c08 epl8 ⊢
    refine ⟨_, rfl, .inl ⟨rfl, _, SqL.of epl8⟩, pl, _, rfl, rfl, epl8, ?_⟩
    have c09 : Ch [] H (upd H8 pl (.lst [])) := c08.mut pl0
    generalize upd H8 pl (.lst []) = H9 at c09 ⊢
    have m9 := m.ch0 c09
    have d9 := d.ch0 c09
    obtain ⟨dx9, sv9, _, _, y1, _, _, _, _⟩ := m9.ex
    refine ⟨_, rfl, M, dx9, _, rfl, y1, mF_no (by decide +kernel) (by decide +kernel) (by decide +kernel) (by decide +kernel) (by decide +kernel) (by decide +kernel) (by decide +kernel), ?_⟩
    refine ⟨M, TH, WR, hv, es, came, lg, false, rfl, m9, by omega, by omega, fun pk2 kvs9 H10 hpk2 c10 epk10 rk10 => ?_⟩
    have m10 := m9.ch0 c10
    have d10 := d9.ch0 c10
    obtain ⟨kvD10, lgD10, z1, z2, z3, v1, v2, _⟩ := d10.ex
    refine ⟨_, rfl, MD, _, rfl, md_kept z1, .inr ⟨pk2, KD, kvs9, kvD10, rfl, rfl, epk10, z2, by rw [rk10.len, v1.len], KvR.twin rk10 v1 nod fun e he => (fsz e he).2⟩, ?_⟩
    refine ⟨true, rfl, ?_⟩
    refine iteB (fun _ => ?_) (fun z => by cases z)
    obtain ⟨dx10, sv10, _, _, x1, _, _, _, _⟩ := m10.ex
    refine ⟨_, rfl, M, dx10, _, rfl, x1, mF_no (by decide +kernel) (by decide +kernel) (by decide +kernel) (by decide +kernel) (by decide +kernel) (by decide +kernel) (by decide +kernel), ?_⟩
    refine ⟨M, TH, WR, hv, es, came, lg, false, rfl, m10, by omega, by omega, ?_⟩
    intro pl2 xl2 H11 hpl2 c11 epl11 rl11
    have d11 := d10.ch0 c11
    obtain ⟨kvD11, lgD11, j1, j2, j3, k1, k2, _⟩ := d11.ex
    refine ⟨_, rfl, MD, _, rfl, md_log j1, .list (Dt.pys lg), .list (Dt.pys lg), .lst (SqL.of epl11) rl11.dp, .lst (SqL.of j3) k2.dp, shd_list sh, shd_list sh, ?_⟩
    have ee : PyData.eqv (.list (Dt.pys lg)) (.list (Dt.pys lg)) = true := SeqAt.eqv_refl _ (SeqAt.canLay_of_shaped (shd_list sh))
    rw [ee]
    exact q _ (c09.trans (c10.trans c11))
end
end LM
set_option Elab.async false
set_option linter.all false
set_option maxRecDepth 100000
set_option maxHeartbeats 4000000
namespace LM
open PySem PySem.Spec PyProof.Rows L2
/-! ### what is kept, in plain data -/
structure Pu (ks : List Kd) (t : Kd) (es : List (Int × Dt)) (came : Int) (lg : List Dt) (n : Nat) : Prop where
  lk : ks.length ≤ 2
  fit : Fit ks t es
  calm : Calm (entsOf es)
  lt : ∀ e ∈ es, e.1 < came
  nod : (es.map (·.1)).Nodup
  c0 : 0 ≤ came
  c1 : came ≤ 6 * n
  le : es.length ≤ 6 * n
  ll : lg.length ≤ 2 * n
  sh : ∀ d ∈ lg, Shd d
theorem numEx_mem : ∀ {l : List (Dt × Dt)} {c : Int} {e : Int × Dt}, e ∈ numEx c l → c ≤ e.1 ∧ ∃ x ∈ l, e.2 = exD x.1 x.2
  | [], _, _, he => by cases he
  | y :: l, c, e, he => by
    rcases List.mem_cons.mp he with rfl | he
    · exact ⟨Int.le_refl _, y, List.mem_cons_self, rfl⟩
    · obtain ⟨h1, x, h2, h3⟩ := numEx_mem he
      exact ⟨by omega, x, List.mem_cons_of_mem _ h2, h3⟩
theorem numEx_nod : ∀ (l : List (Dt × Dt)) (c : Int), ((numEx c l).map (·.1)).Nodup
  | [], _ => .nil
  | y :: l, c => by
    show (c :: (numEx (c + 1) l).map (·.1)).Nodup
    rw [List.nodup_cons]
    refine ⟨fun h => ?_, numEx_nod l (c + 1)⟩
    obtain ⟨e, he, h⟩ := List.mem_map.mp h
    have := (numEx_mem he).1
    omega
theorem calm_num {came : Int} : ∀ {sm : List (Dt × Dt)} {acc : List Ent} {n : Nat}, Calm acc → lookRes came acc n sm = none → Calm (acc ++ entsOf (numEx (came + (n : Int)) sm))
  | [], acc, n, c, _ => by
    show Calm (acc ++ [])
    rw [List.append_nil]
    exact c
  | (i, a) :: r, acc, n, c, h => by
    rcases calm_next c h with ⟨e, _, _, z⟩ | ⟨_, c2, h2⟩
    · cases z
    · have ih := calm_num c2 h2
      have e0 : came + ((n + 1 : Nat) : Int) = came + (n : Int) + 1 := by omega
      rw [e0, List.append_assoc] at ih
      have e1 : entsOf (numEx (came + (n : Int)) ((i, a) :: r)) = (i, a, came + (n : Int)) :: entsOf (numEx (came + (n : Int) + 1) r) := by
        show entsOf ((came + (n : Int), exD i a) :: numEx (came + (n : Int) + 1) r) = _
        unfold entsOf
        rw [List.filterMap_cons, entOf_ex]
      rw [e1]
      exact ih
theorem firstBad_all {ks : List Kd} {t : Kd} : ∀ {l : List (Dt × Dt)} {n : Nat}, firstBad ks t n l = none → ∀ x ∈ l, exOk ks t x = true
  | [], _, _ => fun x hx => by cases hx
  | y :: l, n, h => fun x hx => by
    unfold firstBad at h
    by_cases z : exOk ks t y = true
    · rw [if_pos z] at h
      rcases List.mem_cons.mp hx with rfl | hx
      · exact z
      · exact firstBad_all h x hx
    · rw [if_neg z] at h
      cases h
theorem logD_len (lg : List Dt) (wd : Str) : (logD lg wd).length = lg.length + 2 := by
  unfold logD
  rw [List.length_append, List.length_append]
  rfl
theorem logD_shd {lg : List Dt} {wd : Str} (h : ∀ d ∈ lg, Shd d) (hw : PyData.canLay0 (.str wd) = true) : ∀ d ∈ logD lg wd, Shd d := fun d hd => by
  unfold logD at hd
  rcases List.mem_append.mp hd with hd | hd
  · rcases List.mem_append.mp hd with hd | hd
    · exact h d hd
    · rw [List.mem_singleton.mp hd]
      exact note_shd (by decide +kernel) hw
  · rw [List.mem_singleton.mp hd]
    exact note_shd (by decide +kernel) hw
section
variable {ks : List Kd} {t : Kd} {es : List (Int × Dt)} {came : Int} {lg : List Dt} {n : Nat}
theorem Pu.up (p : Pu ks t es came lg n) : Pu ks t es came lg (n + 1) := ⟨p.lk, p.fit, p.calm, p.lt, p.nod, p.c0, by have := p.c1; omega, by have := p.le; omega, by have := p.ll; omega, p.sh⟩
/-- a deed that is refused -/
theorem Pu.no (p : Pu ks t es came lg n) {wd : Str} (hw : PyData.canLay0 (.str wd) = true) : Pu ks t es came (logD lg wd) (n + 1) :=
  ⟨p.lk, p.fit, p.calm, p.lt, p.nod, p.c0, by have := p.c1; omega, by have := p.le; omega, by have := p.ll; rw [logD_len]; omega, logD_shd p.sh hw⟩
theorem Pu.wish (p : Pu ks t es came lg n) {q : Pg} (w : Wt (ks ++ [t]) q .truth) (h1 : q.depth ≤ 12) (h2 : q.size ≤ 1000) : Pu ks t (es ++ [(came, wishD q)]) (came + 1) (logD lg "wish") (n + 1) := by
  obtain ⟨lk, fit, calm, lt, nod, c0, c1, le, ll, sh⟩ := p
  refine ⟨lk, fun e he => ?_, ?_, fun e he => ?_, ?_, by omega, by omega, by rw [List.length_append, List.length_singleton]; omega, by rw [logD_len]; omega, logD_shd sh (by decide +kernel)⟩
  · rcases List.mem_append.mp he with he | he
    · exact fit e he
    · rw [List.mem_singleton.mp he]
      exact .inl ⟨q, rfl, w, h1, h2⟩
  · have e1 : entOf (came, wishD q) = none := entOf_wish
    rw [entsOf_snoc, e1, List.append_nil]
    exact calm
  · rcases List.mem_append.mp he with he | he
    · have := lt e he
      omega
    · rw [List.mem_singleton.mp he]
      show came < came + 1
      omega
  · rw [List.map_append, List.nodup_append]
    refine ⟨nod, by simp, fun a ha b hb => ?_⟩
    obtain ⟨e, he, rfl⟩ := List.mem_map.mp ha
    have := lt e he
    simp at hb
    omega
/-- one is taken back -/
theorem Pu.back (p : Pu ks t es came lg n) (i : Int) : Pu ks t (dropE es i) came (logD lg "back") (n + 1) := by
  obtain ⟨lk, fit, calm, lt, nod, c0, c1, le, ll, sh⟩ := p
  have sub : ∀ e, e ∈ dropE es i → e ∈ es := fun e he => (List.mem_filter.mp he).1
  have sube : ∀ e, e ∈ entsOf (dropE es i) → e ∈ entsOf es := fun e he => by
    obtain ⟨x, hx, hx2⟩ := List.mem_filterMap.mp he
    exact List.mem_filterMap.mpr ⟨x, sub x hx, hx2⟩
  have hl : (dropE es i).length ≤ es.length := List.length_filter_le _ _
  exact ⟨lk, fun e he => fit e (sub e he), fun e he f hf => calm e (sube e he) f (sube f hf), fun e he => lt e (sub e he), nod.sublist (List.filter_sublist.map _), c0, by omega, by omega, by rw [logD_len]; omega, logD_shd sh (by decide +kernel)⟩
theorem Pu.exs (p : Pu ks t es came lg n) {sm : List (Dt × Dt)} (hb : firstBad ks t 0 sm = none) (hr : lookRes came (entsOf es) 0 sm = none) (hl : sm.length ≤ 6) : Pu ks t (es ++ numEx came sm) (came + (sm.length : Int)) (logD lg "examples") (n + 1) := by
  obtain ⟨lk, fit, calm, lt, nod, c0, c1, le, ll, sh⟩ := p
  refine ⟨lk, fun e he => ?_, ?_, fun e he => ?_, ?_, by omega, by omega, by rw [List.length_append, numEx_len]; omega, by rw [logD_len]; omega, logD_shd sh (by decide +kernel)⟩
  · rcases List.mem_append.mp he with he | he
    · exact fit e he
    · obtain ⟨_, x, hx, e1⟩ := numEx_mem he
      obtain ⟨i, h1, h2, h3⟩ := exOk_tup (firstBad_all hb x hx)
      exact .inr ⟨i, x.2, by rw [e1, h1], h2, h3⟩
  · have := calm_num (n := 0) calm hr
    rw [Int.natCast_zero, Int.add_zero] at this
    have e1 : entsOf (es ++ numEx came sm) = entsOf es ++ entsOf (numEx came sm) := List.filterMap_append
    rw [e1]
    exact this
  · rcases List.mem_append.mp he with he | he
    · have := lt e he
      omega
    · exact numEx_lt _ _ e he
  · rw [List.map_append, List.nodup_append]
    refine ⟨nod, numEx_nod _ _, fun a ha b hb => ?_⟩
    obtain ⟨e, he, rfl⟩ := List.mem_map.mp ha
    obtain ⟨f, hf, rfl⟩ := List.mem_map.mp hb
    have := lt e he
    have := (numEx_mem hf).1
    omega
end
/-! ### maker and model, side by side -/
structure Bo (K : PySem.W.Frag) (H : Hp) (C F M TH WR MD KD LD : Addr) (hv : Hd) (ks : List Kd) (t : Kd) (es : List (Int × Dt)) (came : Int) (lg : List Dt) : Prop where
  fl : FlAt H F
  mkk : MkA K H C M TH WR hv es came lg false
  md : MdA K H MD KD LD hv es came lg
  hd : DR K H hv (hdD ks t)
  nd : [F, M, TH, WR, MD, KD, LD].Nodup
section
variable {K : PySem.W.Frag} {H H' : Hp} {C F M TH WR MD KD LD : Addr} {hv : Hd} {ks : List Kd} {t : Kd} {es : List (Int × Dt)} {came : Int} {lg : List Dt}
theorem Bo.ch {S : List Addr} (b : Bo K H C F M TH WR MD KD LD hv ks t es came lg) (c : Ch S H H') (ts : Ts H H') (n : ∀ x ∈ [F, M, TH, WR, MD, KD, LD], x ∉ S) : Bo K H' C F M TH WR MD KD LD hv ks t es came lg := by
  obtain ⟨fl, mk, md, hd, nd⟩ := b
  exact ⟨fl.ch c (n F (by simp)), mk.ch c ts (n M (by simp)) (n TH (by simp)) (n WR (by simp)), md.ch c ts (n MD (by simp)) (n KD (by simp)) (n LD (by simp)), hd.ts ts, nd⟩
theorem Bo.ch0 (b : Bo K H C F M TH WR MD KD LD hv ks t es came lg) (c : Ch [] H H') : Bo K H' C F M TH WR MD KD LD hv ks t es came lg := b.ch c (.of c) (by simp)
theorem Bo.chF (b : Bo K H C F M TH WR MD KD LD hv ks t es came lg) (c : Ch [F] H H') (f : FlAt H' F) : Bo K H' C F M TH WR MD KD LD hv ks t es came lg := by
  have ts := ts_fl b.fl c
  obtain ⟨fl, mk, md, hd, nd⟩ := b
  have nd' := nd
  simp only [List.nodup_cons, List.mem_cons, List.not_mem_nil, or_false, not_or] at nd'
  obtain ⟨⟨n1, n2, n3, n4, n5, n6⟩, _⟩ := nd'
  exact ⟨f, mk.ch c ts (by simpa using Ne.symm n1) (by simpa using Ne.symm n2) (by simpa using Ne.symm n3), md.ch c ts (by simpa using Ne.symm n4) (by simpa using Ne.symm n5) (by simpa using Ne.symm n6), hd.ts ts, nd⟩
/-- what changes in all -/
abbrev Mu (F M TH WR MD KD LD : Addr) : List Addr := [F, M, TH, WR, MD, KD, LD]
theorem Bo.step {es2 : List (Int × Dt)} {came2 : Int} {lg2 : List Dt} {H1 H2 : Hp} (b : Bo K H C F M TH WR MD KD LD hv ks t es came lg) (c1 : Ch [M, TH, WR] H H1) (t1 : Ts H H1) (m1 : MkA K H1 C M TH WR hv es2 came2 lg2 false) (c2 : Ch [MD, KD, LD] H1 H2) (t2 : Ts H1 H2) (m2 : MdA K H2 MD KD LD hv es2 came2 lg2) :
    Bo K H2 C F M TH WR MD KD LD hv ks t es2 came2 lg2 ∧ Ch (Mu F M TH WR MD KD LD) H H2 ∧ Ts H H2 := by
  have nd' := b.nd
  simp only [List.nodup_cons, List.mem_cons, List.not_mem_nil, or_false, not_or] at nd'
  obtain ⟨⟨n1, n2, n3, n4, n5, n6⟩, ⟨a1, a2, a3, a4, a5⟩, ⟨b1, b2, b3, b4⟩, ⟨d1, d2, d3⟩, ⟨e1, e2⟩, f1, _⟩ := nd'
  refine ⟨⟨(b.fl.ch c1 (by simp [n1, n2, n3])).ch c2 (by simp [n4, n5, n6]), m1.ch c2 t2 (by simp [a3, a4, a5]) (by simp [b2, b3, b4]) (by simp [d1, d2, d3]), m2, (b.hd.ts t1).ts t2, b.nd⟩, ?_, t1.trans t2⟩
  exact (c1.sub (by simp +contextual)).trans (c2.sub (by simp +contextual))
theorem Bo.mid {H1 : Hp} (b : Bo K H C F M TH WR MD KD LD hv ks t es came lg) (c1 : Ch [M, TH, WR] H H1) (t1 : Ts H H1) : MdA K H1 MD KD LD hv es came lg := by
  have nd' := b.nd
  simp only [List.nodup_cons, List.mem_cons, List.not_mem_nil, or_false, not_or] at nd'
  obtain ⟨⟨n1, n2, n3, n4, n5, n6⟩, ⟨a1, a2, a3, a4, a5⟩, ⟨b1, b2, b3, b4⟩, ⟨d1, d2, d3⟩, ⟨e1, e2⟩, f1, _⟩ := nd'
  exact b.md.ch c1 t1 (by simp [Ne.symm a3, Ne.symm b2, Ne.symm d1]) (by simp [Ne.symm a4, Ne.symm b3, Ne.symm d2]) (by simp [Ne.symm a5, Ne.symm b4, Ne.symm d3])
theorem Bo.step2 {es2 : List (Int × Dt)} {came2 : Int} {lg2 : List Dt} {H1 H2 : Hp} (b : Bo K H C F M TH WR MD KD LD hv ks t es came lg) (c1 : Ch [MD, KD, LD] H H1) (t1 : Ts H H1) (m1 : MdA K H1 MD KD LD hv es2 came2 lg2) (c2 : Ch [M, TH, WR] H1 H2) (t2 : Ts H1 H2) (m2 : MkA K H2 C M TH WR hv es2 came2 lg2 false) :
    Bo K H2 C F M TH WR MD KD LD hv ks t es2 came2 lg2 ∧ Ch (Mu F M TH WR MD KD LD) H H2 ∧ Ts H H2 := by
  have nd' := b.nd
  simp only [List.nodup_cons, List.mem_cons, List.not_mem_nil, or_false, not_or] at nd'
  obtain ⟨⟨n1, n2, n3, n4, n5, n6⟩, ⟨a1, a2, a3, a4, a5⟩, ⟨b1, b2, b3, b4⟩, ⟨d1, d2, d3⟩, ⟨e1, e2⟩, f1, _⟩ := nd'
  refine ⟨⟨(b.fl.ch c1 (by simp [n4, n5, n6])).ch c2 (by simp [n1, n2, n3]), m2, m1.ch c2 t2 (by simp [Ne.symm a3, Ne.symm b2, Ne.symm d1]) (by simp [Ne.symm a4, Ne.symm b3, Ne.symm d2]) (by simp [Ne.symm a5, Ne.symm b4, Ne.symm d3]), (b.hd.ts t1).ts t2, b.nd⟩, ?_, t1.trans t2⟩
  exact (c1.sub (by simp +contextual)).trans (c2.sub (by simp +contextual))
theorem Bo.mid2 {H1 : Hp} (b : Bo K H C F M TH WR MD KD LD hv ks t es came lg) (c1 : Ch [MD, KD, LD] H H1) (t1 : Ts H H1) : MkA K H1 C M TH WR hv es came lg false := by
  have nd' := b.nd
  simp only [List.nodup_cons, List.mem_cons, List.not_mem_nil, or_false, not_or] at nd'
  obtain ⟨⟨n1, n2, n3, n4, n5, n6⟩, ⟨a1, a2, a3, a4, a5⟩, ⟨b1, b2, b3, b4⟩, ⟨d1, d2, d3⟩, ⟨e1, e2⟩, f1, _⟩ := nd'
  exact b.mkk.ch c1 t1 (by simp [a3, a4, a5]) (by simp [b2, b3, b4]) (by simp [d1, d2, d3])
/-- what stands behind a deed that both were told -/
abbrev Both (K : PySem.W.Frag) (H : Hp) (C F M TH WR MD KD LD : Addr) (hv : Hd) (ks : List Kd) (t : Kd) (n : Nat) (Q : V → V → Hp → Prop) : Prop :=
  ∀ es2 came2 lg2 u u2 d H2, Pu ks t es2 came2 lg2 (n + 1) → Bo K H2 C F M TH WR MD KD LD hv ks t es2 came2 lg2 → Ch (Mu F M TH WR MD KD LD) H H2 → Ts H H2 → DR K H2 u d → DR K H2 u2 d → Shd d → d.sz ≤ 1000 → Q u u2 H2
/-- a wish told to both -/
theorem deed_w {v : V} {p : Dt} {r : Sum (Str × Nat) Kd} {n : Nat} {Q : V → V → Hp → Prop} {Q1 : VK} (k1 : ∀ u H1, Ch [M, TH, WR] H H1 → spMDue K [.ref MD, .str "wish", v] H1 (Q u) E0 → Q1 u H1) (b : Bo K H C F M TH WR MD KD LD hv ks t es came lg) (pu : Pu ks t es came lg n) (hn : n ≤ 25) (rp : DR K H v p) (wr : WrongIs (ks ++ [t]) p r) (sz : (kn p).length ≤ 1000) (dp : p.dep ≤ 12)
    (q : Both K H C F M TH WR MD KD LD hv ks t n (fun u u2 H' => Q u u2 H')) :
    spSaid K C [.ref M, .str "wish", v] H Q1 E0 := by
  have a1 := pu.lk
  have a2 := pu.le
  have a3 := pu.ll
  have a4 := pu.lt
  refine .inl ⟨M, TH, WR, hv, v, ks, t, p, r, es, came, lg, false, rfl, b.mkk, b.hd, rp, wr, sz, by omega, by omega, by omega, fun e he => by have := a4 e he; omega, fun x i hx u H1 c1 t1 m1 r1 => ?_, fun hx u H1 c1 t1 m1 r1 => ?_⟩
  · refine k1 _ _ c1 ?_
    refine .inl ⟨MD, KD, LD, hv, v, ks, t, p, r, es, came, lg, rfl, b.mid c1 t1, b.hd.ts t1, rp.ts t1, wr, sz, dp, by omega, by omega, by omega, fun e he => by have := a4 e he; omega, fun x' i' hx' u2 H2 c2 t2 m2 r2 => ?_, fun hx' => ?_⟩
    · rw [hx] at hx'
      cases hx'
      obtain ⟨b2, c12, t12⟩ := b.step c1 t1 m1 c2 t2 m2
      have lw : PyData.canLay0 (.str x) = true := by
        cases r with
        | inl y => cases hx; exact wrong_lay wr rfl
        | inr y =>
          cases y with
          | num => cases hx; decide +kernel
          | truth => cases hx
      refine q es came _ u u2 _ H2 (pu.no (by decide +kernel)) b2 c12 t12 (r1.ts t2) r2 ⟨?_, by show max 0 (max 0 (max 0 0)) + 1 ≤ 60; decide⟩ (by show 1 + (1 + (1 + 0)) + 1 ≤ 1000; decide)
      show (PyData.canLay0 (.str "no program") && (PyData.canLay0 (.str x) && (true && true))) = true
      rw [lw, lay_noprog]
      rfl
    · rw [hx] at hx'; cases hx'
  · refine k1 _ _ c1 ?_
    refine .inl ⟨MD, KD, LD, hv, v, ks, t, p, r, es, came, lg, rfl, b.mid c1 t1, b.hd.ts t1, rp.ts t1, wr, sz, dp, by omega, by omega, by omega, fun e he => by have := a4 e he; omega, fun x' i' hx' => ?_, fun hx' u2 H2 c2 t2 m2 r2 => ?_⟩
    · rw [hx] at hx'; cases hx'
    · obtain ⟨b2, c12, t12⟩ := b.step c1 t1 m1 c2 t2 m2
      obtain ⟨g, rfl, wt⟩ : ∃ g : Pg, p = g.dt ∧ Wt (ks ++ [t]) g .truth := by
        cases wr with
        | form _ => cases hx
        | input _ _ => cases hx
        | kind _ _ _ => cases hx
        | @good g u h1 h2 =>
          cases u with
          | num => cases hx
          | truth => exact ⟨g, h1, h2⟩
      refine q _ _ _ u u2 _ H2 (pu.wish wt (by have := depth_dep g; omega) (by rw [Pg.kn, List.length_map, Pg.subs_len] at sz; exact sz)) b2 c12 t12 (r1.ts t2) r2 ⟨by show (PyData.canLay0 (.str "told") && (true && true)) = true; decide +kernel, by show max 0 (max 0 0) + 1 ≤ 60; decide⟩ (by show 1 + (1 + 0) + 1 ≤ 1000; decide)
theorem told_shd (came : Int) (sm : List (Dt × Dt)) : Shd (.tup [.str "told", told came sm]) ∧ (Dt.tup [.str "told", told came sm]).sz ≤ sm.length + 10 := by
  have h : ∀ (l : List (Dt × Dt)) (c : Int), Dt.oks ((numEx c l).map fun e => .int e.1) = true ∧ Dt.lvs ((numEx c l).map fun e => .int e.1) = 0 ∧ Dt.szs ((numEx c l).map fun e => .int e.1) = l.length := by
    intro l
    induction l with
    | nil => intro c; exact ⟨rfl, rfl, rfl⟩
    | cons x l ih =>
      intro c
      obtain ⟨h1, h2, h3⟩ := ih (c + 1)
      refine ⟨by show (true && Dt.oks _) = true; rw [h1]; rfl, by show max 0 (Dt.lvs _) = 0; rw [h2]; rfl, by show 1 + Dt.szs _ = l.length + 1; rw [h3]; omega⟩
  obtain ⟨h1, h2, h3⟩ := h sm came
  refine ⟨⟨?_, ?_⟩, ?_⟩
  · show (PyData.canLay0 (.str "told") && (Dt.oks _ && true)) = true
    rw [h1]
    decide +kernel
  · show max 0 (max (Dt.lvs _ + 1) 0) + 1 ≤ 60
    rw [h2]
    decide
  · show 1 + ((Dt.szs _ + 1) + 0) + 1 ≤ _
    rw [h3]
    omega
/-- examples told to both -/
theorem deed_e {L : Addr} {tp : Bool} {xs : List V} {sm : List (Dt × Dt)} {n : Nat} {Q : V → V → Hp → Prop} {Q1 : VK} (k1 : ∀ u H1, Ch [M, TH, WR] H H1 → spMDue K [.ref MD, .str "examples", .ref L] H1 (Q u) E0 → Q1 u H1) (b : Bo K H C F M TH WR MD KD LD hv ks t es came lg) (pu : Pu ks t es came lg n) (hn : n ≤ 25) (hL : LAt K tp H L xs)
    (nL : tp = false → L ∉ [MD, KD, LD]) (nL2 : tp = false → L ∉ [M, TH, WR]) (rx : DRs K H xs (sm.map pairD)) (hs : sm.length ≤ 6)
    (q : Both K H C F M TH WR MD KD LD hv ks t n (fun u u2 H' => Q u u2 H')) :
    spSaid K C [.ref M, .str "examples", .ref L] H Q1 E0 := by
  have a1 := pu.lk
  have a2 := pu.le
  have a3 := pu.ll
  have a4 := pu.lt
  have a5 := pu.c0
  have a6 := pu.c1
  refine .inr (.inl ⟨M, TH, WR, L, hv, ks, t, es, came, lg, false, tp, xs, sm, rfl, b.mkk, b.hd, hL, nL2, rx, by omega, by omega, by omega, by omega, pu.fit, a4, fun k hk u H1 c1 t1 m1 r1 => ?_, fun hb k z hk u H1 c1 t1 m1 r1 => ?_, fun hb hk u H1 c1 t1 m1 r1 => ?_⟩)
  · refine k1 _ _ c1 ?_
    refine .inr (.inl ⟨MD, KD, LD, L, hv, ks, t, es, came, lg, tp, xs, sm, rfl, b.mid c1 t1, b.hd.ts t1, hL.ch c1 t1 nL2, nL, rx.ts t1, by omega, by omega, by omega, by omega, a5, by omega, pu.fit, pu.calm, a4, fun k2 hk2 u2 H2 c2 t2 m2 r2 => ?_, fun hb => ?_, fun hb => ?_⟩)
    · rw [hk] at hk2
      cases hk2
      obtain ⟨b2, c12, t12⟩ := b.step c1 t1 m1 c2 t2 m2
      exact q es came _ u u2 _ H2 (pu.no (by decide +kernel)) b2 c12 t12 (r1.ts t2) r2 ⟨by show (PyData.canLay0 (.str "no inputs") && (true && true)) = true; decide +kernel, by show max 0 (max 0 0) + 1 ≤ 60; decide⟩ (by show 1 + (1 + 0) + 1 ≤ 1000; decide)
    · rw [hk] at hb; cases hb
    · rw [hk] at hb; cases hb
  · refine k1 _ _ c1 ?_
    refine .inr (.inl ⟨MD, KD, LD, L, hv, ks, t, es, came, lg, tp, xs, sm, rfl, b.mid c1 t1, b.hd.ts t1, hL.ch c1 t1 nL2, nL, rx.ts t1, by omega, by omega, by omega, by omega, a5, by omega, pu.fit, pu.calm, a4, fun k2 hk2 => ?_, fun _ k2 z2 hk2 u2 H2 c2 t2 m2 r2 => ?_, fun _ hk2 => ?_⟩)
    · rw [hb] at hk2; cases hk2
    · rw [hk] at hk2
      cases hk2
      obtain ⟨b2, c12, t12⟩ := b.step c1 t1 m1 c2 t2 m2
      exact q es came _ u u2 _ H2 (pu.no (by decide +kernel)) b2 c12 t12 (r1.ts t2) r2 ⟨by show (PyData.canLay0 (.str "clash") && (true && (true && true))) = true; decide +kernel, by show max 0 (max 0 (max 0 0)) + 1 ≤ 60; decide⟩ (by show 1 + (1 + (1 + 0)) + 1 ≤ 1000; decide)
    · rw [hk] at hk2; cases hk2
  · refine k1 _ _ c1 ?_
    refine .inr (.inl ⟨MD, KD, LD, L, hv, ks, t, es, came, lg, tp, xs, sm, rfl, b.mid c1 t1, b.hd.ts t1, hL.ch c1 t1 nL2, nL, rx.ts t1, by omega, by omega, by omega, by omega, a5, by omega, pu.fit, pu.calm, a4, fun k2 hk2 => ?_, fun _ k2 z2 hk2 => ?_, fun _ _ u2 H2 c2 t2 m2 r2 => ?_⟩)
    · rw [hb] at hk2; cases hk2
    · rw [hk] at hk2; cases hk2
    · obtain ⟨b2, c12, t12⟩ := b.step c1 t1 m1 c2 t2 m2
      obtain ⟨s1, s2⟩ := told_shd came sm
      exact q (es ++ numEx came sm) _ _ u u2 _ H2 (pu.exs hb hk hs) b2 c12 t12 (r1.ts t2) r2 s1 (by omega)
/-- one taken back by both -/
theorem deed_b {i : Int} {n : Nat} {Q : V → V → Hp → Prop} {Q1 : VK} (k1 : ∀ u H1, Ch [M, TH, WR] H H1 → spMDue K [.ref MD, .str "back", .int i] H1 (Q u) E0 → Q1 u H1) (b : Bo K H C F M TH WR MD KD LD hv ks t es came lg) (pu : Pu ks t es came lg n) (hn : n ≤ 25)
    (q : Both K H C F M TH WR MD KD LD hv ks t n (fun u u2 H' => Q u u2 H')) :
    spSaid K C [.ref M, .str "back", .int i] H Q1 E0 := by
  have a3 := pu.ll
  refine .inr (.inr ⟨M, TH, WR, hv, es, came, lg, false, i, rfl, b.mkk, by omega, fun hk u H1 c1 t1 m1 r1 => ?_, fun hk u H1 c1 t1 m1 r1 => ?_⟩)
  · refine k1 _ _ c1 ?_
    refine .inr (.inr ⟨MD, KD, LD, hv, es, came, lg, i, rfl, b.mid c1 t1, by omega, fun _ u2 H2 c2 t2 m2 r2 => ?_, fun ⟨e, he, h⟩ => absurd h (hk e he)⟩)
    obtain ⟨b2, c12, t12⟩ := b.step c1 t1 m1 c2 t2 m2
    exact q es came _ u u2 _ H2 (pu.no (by decide +kernel)) b2 c12 t12 (r1.ts t2) r2 ⟨by show (PyData.canLay0 (.str "not kept") && (true && true)) = true; decide +kernel, by show max 0 (max 0 0) + 1 ≤ 60; decide⟩ (by show 1 + (1 + 0) + 1 ≤ 1000; decide)
  · refine k1 _ _ c1 ?_
    refine .inr (.inr ⟨MD, KD, LD, hv, es, came, lg, i, rfl, b.mid c1 t1, by omega, fun h => ?_, fun _ u2 H2 c2 t2 m2 r2 => ?_⟩)
    · obtain ⟨e, he, h2⟩ := hk
      exact absurd h2 (h e he)
    · obtain ⟨b2, c12, t12⟩ := b.step c1 t1 m1 c2 t2 m2
      exact q _ came _ u u2 _ H2 (pu.back i) b2 c12 t12 (r1.ts t2) r2 ⟨by show (PyData.canLay0 (.str "told") && (true && true)) = true; decide +kernel, by show max 0 (max 0 0) + 1 ≤ 60; decide⟩ (by show 1 + (1 + 0) + 1 ≤ 1000; decide)
end
section
variable {P : Program} {w : World} {K : PySem.W.Frag} {mg : Str → Option Value} {base : Heap}
/-! ### a new model -/
def mdF0 (v : V) (KD LD : Addr) : List (Key × V) := [(.inr "head", v), (.inr "kept", .ref KD), (.inr "came", .int 0), (.inr "log", .ref LD)]
def spNewMd (K : PySem.W.Frag) : Sp := fun vs H Q _ => ∃ (hv : V), vs = [hv] ∧ ∀ (MD KD LD : Addr) (H' : Hp), H MD = none → H KD = none → H LD = none → Ch [] H H' → H' MD = some (.dK (mdF0 hv KD LD)) → H' KD = some (.dK []) → H' LD = some (.lst []) → MD ≠ KD → Q (.ref MD) H'
theorem sc_newmd : FnScope ["_law_head_here"] ["_law_head_here"] (defScope (top 67)) := ⟨rfl, rfl, rfl, by decide +kernel, rfl, by decide +kernel, by decide +kernel⟩
theorem ok_newmd (D : Df K mg "_law_new_model" (top 67)) : OkF P w K mg base CX0 1 "_law_new_model" ["_law_head_here"] (spNewMd K) := by
  refine okF0 D sc_newmd (fun _ _ _ _ _ _ us hl => match us, hl with | [_], _ => rfl) (fun vs H Q E h => ?_) (fun cdv A outer s H vs Q E hr h => ?_)
  · obtain ⟨hv, rfl, _⟩ := h
    rfl
  · obtain ⟨hv, rfl, q⟩ := h
    refine ⟨_, (pss_one (ps_ret (pe_disp (pps_cons pe_str (pv 0) (pps_cons pe_str pe_dnewK (pps_cons pe_str pe_int (pps_cons pe_str (pe_lst pa_nil) pps_nil)))) (by rfl) (by rfl) (fun z => by cases z) (by decide)))), ?_⟩
    intro MD hMD
    have c1 : Ch [] H (upd H MD (.dK [])) := .new hMD
    have e1 : upd H MD (.dK []) MD = some (.dK []) := upd_same
    generalize upd H MD (.dK []) = H1 at c1 e1 ⊢
    refine ⟨_, rfl, fun KD hKD => ?_⟩
    have c2 : Ch [] H1 (upd H1 KD (.dK [])) := .new hKD
    have e2 : upd H1 KD (.dK []) KD = some (.dK []) := upd_same
    have hKD0 := c1.free hKD
    have n1 : KD ≠ MD := (ne_of_none e1 hKD).symm
    have e12 := c2 MD _ (by simp) e1
    generalize upd H1 KD (.dK []) = H2 at c2 e2 e12 ⊢
    refine ⟨(by show 0 ≤ sizeLine; decide), fun LD hLD => ?_⟩
    have c3 : Ch [] H2 (upd H2 LD (.lst [])) := .new hLD
    have e3 : upd H2 LD (.lst []) LD = some (.lst []) := upd_same
    have hLD0 := (c1.trans c2).free hLD
    have e13 := c3 MD _ (by simp) e12
    have e23 := c3 KD _ (by simp) e2
    generalize upd H2 LD (.lst []) = H3 at c3 e3 e13 e23 ⊢
    refine ⟨e13, [(.inr "head", hv), (.inr "kept", .ref KD), (.inr "came", .int 0), (.inr "log", .ref LD)], rfl, (by show 4 ≤ 15; decide), ?_⟩
    have ep : mergeK [] [(.inr "head", hv), (.inr "kept", .ref KD), (.inr "came", .int 0), (.inr "log", .ref LD)] = mdF0 hv KD LD := rfl
    rw [ep]
    refine q MD KD LD _ hMD hKD0 hLD0 ((c1.trans (c2.trans c3)).mut hMD) upd_same ?_ ?_ n1.symm
    · rw [upd_ne n1]; exact e23
    · rw [upd_ne (ne_of e3 e13 (by intro z; cases z))]; exact e3
end
end LM
set_option Elab.async false
set_option linter.all false
set_option maxRecDepth 100000
set_option maxHeartbeats 4000000
namespace LM
open PySem PySem.Spec PyProof.Rows L2
/-! ### a knot of a program replaced -/
theorem cutD_take {ds : List Dt} {m : Nat} (h : m ≤ ds.length) : cutD ds none (some (m : Int)) = ds.take m := by
  unfold cutD
  rw [HT.sIx_none, HT.sIx_nat, List.drop_zero, Nat.sub_zero, Nat.min_eq_left h]
theorem deps_app : ∀ xs ys : List Dt, Dt.deps (xs ++ ys) = max (Dt.deps xs) (Dt.deps ys)
  | [], ys => by show Dt.deps ys = max 0 _; omega
  | x :: xs, ys => by
    show max x.dep (Dt.deps (xs ++ ys)) = max (max x.dep (Dt.deps xs)) _
    rw [deps_app xs ys]
    omega
theorem szs_mem : ∀ {ds : List Dt} {d : Dt}, d ∈ ds → d.sz ≤ Dt.szs ds
  | e :: ds, d, h => by
    show d.sz ≤ e.sz + Dt.szs ds
    rcases List.mem_cons.mp h with rfl | h
    · omega
    · have := szs_mem h
      omega
/-- its items: what stands ahead of the parts, and the parts -/
theorem form_cut {d : Dt} (h : hasForm d = true) : ∃ ds : List Dt, ∃ m : Nat, d = .tup ds ∧ m ≤ ds.length ∧ partsD d = ds.drop m ∧ ds.length - (partsD d).length = m := by
  cases d with
  | tup ds =>
    have hm : many (.tup ds) ≤ ds.length := by
      obtain ⟨z, r, m, e, h1, h2⟩ := hasForm_inv h
      injection e with e
      rw [e]
      show (ptW z).getD 0 ≤ _
      rw [h1, List.length_cons]
      show m ≤ _
      omega
    refine ⟨ds, ds.length - many (.tup ds), rfl, Nat.sub_le _ _, rfl, ?_⟩
    show ds.length - (ds.drop (ds.length - many (.tup ds))).length = _
    rw [List.length_drop]
    omega
  | non => cases h
  | bl b => cases h
  | int i => cases h
  | str x => cases h
section
variable {P : Program} {w : World} {K : PySem.W.Frag} {mg : Str → Option Value} {base : Heap}
def spRepl (K : PySem.W.Frag) (n : Nat) : Sp := fun vs H Q _ => ∃ (v nv : V) (L : Addr) (k : Int) (d e : Dt), vs = [v, .ref L, nv] ∧ DR K H v d ∧ H L = some (.lst [.int k]) ∧ DR K H nv e ∧ d.dep ≤ n ∧ d.sz ≤ 1000 ∧
  ∀ (x : V) (d' : Dt) (k' : Int) (H' : Hp), Ch [L] H H' → Ts H H' → H' L = some (.lst [.int k']) → DR K H' x d' → d'.dep ≤ d.dep + e.dep → d'.sz ≤ d.sz * e.sz → Q x H'
theorem sc_repl : FnScope ["_law_program", "_law_left", "_law_new", "_law_parts_here", "_law_head_here", "_law_part"] ["_law_program", "_law_left", "_law_new"] (defScope (top 53)) := ⟨rfl, rfl, rfl, by decide +kernel, rfl, by decide +kernel, by decide +kernel⟩
theorem ok_repl (D : Df K mg "_law_replaced" (top 53)) (T : Bn mg) (O__law_has_form : OkF P w K mg base CX0 1 "_law_has_form" ["_law_knot"] (spDataN K hasForm)) (O__law_parts : OkF P w K mg base CX0 1 "_law_parts" ["_law_knot"] (spPartsOf K)) :
    ∀ n : Nat, OkF P w K mg base CX0 (2 + n) "_law_replaced" ["_law_program", "_law_left", "_law_new"] (spRepl K n) := by
  have hb : BindN "_law_replaced" (top 53) ["_law_program", "_law_left", "_law_new"] := fun _ _ _ _ _ _ us hl => match us, hl with | [_, _, _], _ => rfl
  intro n
  induction n with
  | zero =>
    refine okF_absurd D hb fun vs H Q E h => ?_
    obtain ⟨v, nv, L, k, d, e, _, _, _, _, hd, _⟩ := h
    have := dep_pos d
    omega
  | succ n ih =>
  have O__law_replaced := ih
  refine (okF0 (k := 2 + n) D sc_repl hb (fun vs H Q E h => ?_) (fun cdv A outer s H vs Q E hr h => ?_)).mono (by omega)
  · obtain ⟨v, nv, L, k, d, e, rfl, _⟩ := h
    rfl
  · obtain ⟨v, nv, L, k, d, e, rfl, rd, hL, re, hdep, hsz, q⟩ := h
    have nd := sc_repl.nd
    refine ⟨_, (pss_cons (ps_asg (pe_op op_sub (pe_ix (r := rIxL K) ix_list (pv 1) pe_int (fun _ _ => rfl)) pe_int) (pg_sub (pv 1) pe_int set_list))
  (pss_cons (ps_if (pt_cmpR op_eq (pe_ix (r := rIxL K) ix_list (pv 1) pe_int (fun _ _ => rfl)) (pe_op op_sub pe_int pe_int) (nomark _)) (pss_one (ps_ret (pv 2))) pss_nil)
  (pss_cons (ps_if (pt_not (pt_val (pe_callF O__law_has_form (hr.mono (by omega)) rfl pass0 (pa_cons (pv 0) pa_nil)) (by intro _; rfl))) (pss_one (ps_ret (pv 0))) pss_nil)
  (pss_cons (ps_set (i := 3) nd rfl (Or.inl rfl) (pe_callF O__law_parts (hr.mono (by omega)) rfl pass0 (pa_cons (pv 0) pa_nil)))
  (pss_cons (ps_set (i := 4) nd rfl (Or.inl rfl) (pe_slice (r := rSlA K) sl_tupA (pv 0) po_none (po_some (pe_op op_sub (pe_callB (r := rLenS K) call_len_seq (by rfl) T.b_len PySem.boot_len (pa_cons (pv 0) pa_nil)) (pe_callB (r := rLenS K) call_len_seq (by rfl) T.b_len PySem.boot_len (pa_cons (pv 3) pa_nil))))))
  (pss_one (ps_ret (pe_op (r := rCatA K) op_catA (pv 4) (pe_callTy (r := rTupS K) call_tuple_of (by rfl) T.b_tuple (by decide +kernel) (pa_cons (pe_lc (own := [("_law_part", 5)]) (tt := tYes) rfl nd (pi_tup (pv 3)) (blkOk_by (own := [("_law_part", 5)]) (N := ["_law_program", "_law_left", "_law_new", "_law_parts_here", "_law_head_here", "_law_part"]) (sc := defScope (top 53)) (by decide +kernel)) (fun _ _ _ _ _ => (pg_name (i := 5) nd rfl (Or.inl rfl))) (fun _ _ _ _ _ => pts_nil) (fun _ _ _ _ _ => (pe_callF O__law_replaced (hr.mono (by omega)) rfl pass0 (pa_cons (pv 5) (pa_cons (pv 1) (pa_cons (pv 2) pa_nil)))))) pa_nil)))))))))), ?_⟩
    have z1 := d.sz_pos
    have z2 := e.sz_pos
    have m1 : d.sz ≤ d.sz * e.sz := Nat.le_mul_of_pos_right _ (by omega)
    have m2 : e.sz ≤ d.sz * e.sz := Nat.le_mul_of_pos_left _ (by omega)
    refine ⟨_, rfl, _, _, _, _, rfl, rfl, SqL.of hL, rfl, _, _, rfl, rfl, _, rfl, L, _, _, _, rfl, rfl, hL, rfl, ?_⟩
    have c1 : Ch [L] H (upd H L (.lst [.int (k - 1)])) := .put (by simp)
    have t1 : Ts H (upd H L (.lst [.int (k - 1)])) := .upd (by rw [hL]; trivial)
    have hL1 : upd H L (.lst [.int (k - 1)]) L = some (.lst [.int (k - 1)]) := upd_same
    show (tSeq _ _) _ _ (upd H L (.lst [.int (k - 1)]))
    generalize upd H L (.lst [.int (k - 1)]) = H1 at c1 t1 hL1 ⊢
    refine ⟨_, rfl, _, _, _, _, rfl, rfl, SqL.of hL1, rfl, _, _, rfl, rfl, rfl, _, rfl, ?_⟩
    refine iteD (fun _ => ?_) (fun _ => ?_)
    · refine ⟨_, rfl, ?_⟩
      exact q _ _ _ _ c1 t1 hL1 (re.ts t1) (by omega) m2
    have rd1 := rd.ts t1
    have re1 := re.ts t1
    refine ⟨_, rfl, v, d, rfl, rd1, fun H2 c2 => ⟨_, rfl, ?_⟩⟩
    have hL2 := c2 L _ (by simp) hL1
    have c02 := c1.trans (Ch.of0 c2)
    have t02 := t1.trans (.of c2)
    refine iteB (fun e1 => ?_) (fun e1 => ?_)
    · refine ⟨_, rfl, ?_⟩
      exact q _ _ _ _ c02 t02 hL2 (rd.ts t02) (by omega) m1
    have hf : hasForm d = true := by simpa using e1
    refine ⟨_, rfl, v, d, rfl, rd.ts t02, hf, fun x3 H3 c3 r3 => ?_⟩
    have hL3 := c3 L _ (by simp) hL2
    have c03 := c02.trans (Ch.of0 c3)
    have t03 := t02.trans (.of c3)
    obtain ⟨ds, m, rfl, hm, ep, em⟩ := form_cut hf
    have rd3 := rd.ts t03
    have lps := congrArg List.length ep
    rw [List.length_drop] at lps
    refine ⟨_, rfl, _, rfl, ?_⟩
    dsimp only [tNil]
    refine len_dt rd3 ?_
    refine ⟨_, rfl, ?_⟩
    dsimp only [tNil]
    refine len_dt r3 ?_
    refine ⟨_, _, rfl, rfl, _, rfl, ?_⟩
    have ei : ((ds.length : Nat) : Int) - ((partsD (.tup ds)).length : Nat) = ((m : Nat) : Int) := by omega
    rw [ei]
    refine sl_dt rd3 fun x4 H4 c4 r4 => ?_
    rw [cutD_take hm] at r4
    have hL4 := c4 L _ (by simp) hL3
    have c04 := c03.trans (Ch.of0 c4)
    have t04 := t03.trans (.of c4)
    obtain ⟨pa, pxs, rfl, pS, pD⟩ := (r3.ch c4).tup_inv
    have lp : pxs.length = (partsD (.tup ds)).length := pD.len
    refine ⟨_, rfl, _, rfl, pa, rfl, ⟨_, pS⟩, fun DD hDD => ?_⟩
    have nDL : L ≠ DD := ne_of_none hL4 hDD
    have re4 := re.ts t04
    refine lc_tup (K := K) (a := pa) (xs := pxs) (fun i H' => Ch [L] H4 H' ∧ Ts H4 H' ∧ ∃ (us : List V) (es : List Dt) (k' : Int), H' L = some (.lst [.int k']) ∧ us.length = i ∧ H' DD = some (.lst us) ∧ DRs K H' us es ∧ Dt.szs es ≤ Dt.szs ((partsD (.tup ds)).take i) * e.sz ∧ Dt.deps es ≤ Dt.deps ((partsD (.tup ds)).take i) + e.dep) ?_ ?_ ?_ ?_
    · exact ⟨.new hDD, .of (.new hDD), [], [], _, by rw [upd_ne nDL]; exact hL4, rfl, upd_same, .nil, by show 0 ≤ _; omega, by show 0 ≤ _; omega⟩
    · rintro i H' _ ⟨_, t, _⟩
      exact t.sq pS
    · rintro i x Hx hi ⟨c, t, us, es, k', hLx, lus, hus, rus, s1, s2⟩
      refine ⟨rfl, ?_⟩
      obtain ⟨di, hdi, ri⟩ := pD.getv hi
      have hmem : di ∈ partsD (.tup ds) := List.mem_of_getElem? hdi
      have dd := parts_dep hmem hf
      have hin : di ∈ ds := by rw [ep] at hmem; exact List.mem_of_mem_drop hmem
      have ssz : di.sz ≤ Dt.szs ds := szs_mem hin
      have ssd : (Dt.tup ds).sz = Dt.szs ds + 1 := rfl
      refine ⟨_, rfl, _, rfl, _, rfl, x, nv, L, k', di, e, rfl, ri.ts t, hLx, re4.ts t, by omega, by omega, fun y d' k2 H5 c5 t5 hL5 r5 b1 b2 => ?_⟩
      have hi2 := (List.getElem?_eq_some_iff.mp hi).1
      have hl5 : H5 DD = some (.lst us) := c5 DD _ (by simpa using nDL.symm) hus
      have lds : pxs.length ≤ 1000 := by
        have := Dt.szs_len ds
        omega
      refine ⟨us, hl5, small1000 (by omega), ?_⟩
      have t6 : Ts H5 (upd H5 DD (.lst (us ++ [y]))) := .upd (by rw [hl5]; trivial)
      refine ⟨(c.trans c5).mut hDD, (t.trans t5).trans t6, us ++ [y], es ++ [d'], k2, by rw [upd_ne nDL]; exact hL5, by rw [List.length_append, lus]; rfl, upd_same, ((rus.ts t5).ts t6).snoc (r5.ts t6), ?_, ?_⟩
      · rw [take_one hdi, Dt.szs_app, Dt.szs_app, Nat.add_mul]
        have a1 : Dt.szs [d'] = d'.sz + 0 := rfl
        have a2 : Dt.szs [di] = di.sz + 0 := rfl
        rw [a1, a2, Nat.add_zero, Nat.add_zero]
        omega
      · rw [take_one hdi, deps_app, deps_app]
        have a1 : Dt.deps [d'] = max d'.dep 0 := rfl
        have a2 : Dt.deps [di] = max di.dep 0 := rfl
        rw [a1, a2]
        omega
    · rintro H5 ⟨c, t, us, es, k', hL5, lus, hus, rus, s1, s2⟩
      rw [lp, List.take_length] at s1 s2
      refine ⟨DD, us, rfl, .inl ⟨SqL.of hus, fun p7 hp7 => ?_⟩⟩
      have c7 : Ch [] H5 (upd H5 p7 (.tup us)) := .new hp7
      have r7 : DR K (upd H5 p7 (.tup us)) (.ref p7) (.tup es) := .new rus hp7
      have hL7 := c7 L _ (by simp) hL5
      generalize upd H5 p7 (.tup us) = H7 at c7 r7 hL7 ⊢
      have ssd : (Dt.tup ds).sz = Dt.szs ds + 1 := rfl
      have sdd : (Dt.tup ds).dep = Dt.deps ds + 1 := rfl
      have e0 : Dt.szs ds = Dt.szs (ds.take m) + Dt.szs (partsD (.tup ds)) := by rw [ep, ← Dt.szs_app, List.take_append_drop]
      have e2 : Dt.deps ds = max (Dt.deps (ds.take m)) (Dt.deps (partsD (.tup ds))) := by rw [ep, ← deps_app, List.take_append_drop]
      have lds := Dt.szs_len ds
      have les : es.length ≤ 1000 := by
        have h1 := rus.len
        rw [← h1, lus]
        omega
      refine cat_dt (ds := ds.take m) (es := es) ((r4.ts t).ch c7) r7 (by rw [List.length_take]; omega) fun x8 H8 c8 r8 => ?_
      have hL8 := c8 L _ (by simp) hL7
      refine q x8 _ k' H8 (c04.trans (c.trans (Ch.of0 (c7.trans c8)))) (t04.trans (t.trans (.of (c7.trans c8)))) hL8 r8 ?_ ?_
      · show Dt.deps (ds.take m ++ es) + 1 ≤ _
        rw [deps_app, sdd]
        omega
      · show Dt.szs (ds.take m ++ es) + 1 ≤ _
        rw [Dt.szs_app, ssd, e0]
        have a1 : Dt.szs (ds.take m) ≤ Dt.szs (ds.take m) * e.sz := Nat.le_mul_of_pos_right _ (by omega)
        have a2 : (Dt.szs (ds.take m) + Dt.szs (partsD (.tup ds)) + 1) * e.sz = Dt.szs (ds.take m) * e.sz + Dt.szs (partsD (.tup ds)) * e.sz + e.sz := by rw [Nat.add_mul, Nat.add_mul, Nat.one_mul]
        rw [a2]
        omega
end
end LM
set_option Elab.async false
set_option linter.all false
set_option maxRecDepth 100000
set_option maxHeartbeats 4000000
namespace LM
open PySem PySem.Spec PyProof.Rows L2
/-! ### displays of data -/
section
variable {K : PySem.W.Frag} {σ : L2.St} {H : Hp}
/-- from any later heap it gives the data d -/
def Yd (K : PySem.W.Frag) (te : TE) (σ : L2.St) (H : Hp) (d : Dt) : Prop := ∀ (H' : Hp), Ch [] H H' → ∀ (Q : VK), (∀ x H'', Ch [] H' H'' → DR K H'' x d → Q x H'') → te σ H' Q
def Yds (K : PySem.W.Frag) (ta : TA) (σ : L2.St) (H : Hp) (ds : List Dt) : Prop := ∀ (H' : Hp), Ch [] H H' → ∀ (Q : List V → Hp → Prop), (∀ xs H'', Ch [] H' H'' → DRs K H'' xs ds → Q xs H'') → ta σ H' Q
theorem Yd.c {v : V} {d : Dt} (r : ∀ G, DR K G v d) : Yd K (tC v) σ H d := fun H' _ Q q => q v H' .refl (r H')
theorem Yd.int {i : Int} : Yd K (tC (.int i)) σ H (.int i) := .c fun _ => .int i
theorem Yd.str {i : Str} : Yd K (tC (.str i)) σ H (.str i) := .c fun _ => .str i
theorem Yd.bl {i : Bool} : Yd K (tC (.bl i)) σ H (.bl i) := .c fun _ => .bl i
theorem Yd.non : Yd K (tC .non) σ H .non := .c fun _ => .non
theorem Yd.var {i : Nat} {v : V} {d : Dt} (h : σ[i]? = some (some v)) (r : DR K H v d) : Yd K (tVar i) σ H d := fun H' c Q q => ⟨v, h, q v H' .refl (r.ch c)⟩
theorem Yds.nil : Yds K tNil σ H [] := fun H' _ Q q => q [] H' .refl .nil
theorem Yds.cons {te : TE} {ta : TA} {d : Dt} {ds : List Dt} (h : Yd K te σ H d) (hs : Yds K ta σ H ds) : Yds K (tCons te ta) σ H (d :: ds) :=
  fun H' c Q q => h H' c _ fun x H1 c1 r1 => hs H1 (c.trans c1) _ fun xs H2 c2 r2 => q _ H2 (c1.trans c2) (.cons (r1.ch c2) r2)
theorem Yd.tup {ta : TA} {ds : List Dt} (h : Yds K ta σ H ds) (hl : ds.length ≤ 100) : Yd K (tTup ta) σ H (.tup ds) :=
  fun H' c Q q => h H' c _ fun xs H1 c1 r1 => tup_dt r1 (by rw [r1.len]; omega) fun x H2 c2 r2 => q x H2 (c1.trans c2) r2
/-- not deep, not large -/
def Bk (d : Dt) : Prop := d.dep ≤ 4 ∧ d.sz ≤ 20
/-- a list of such -/
theorem lst_step {es : List Dt} {ta : TA} {Q : VK} (y : Yds K ta σ H es) (hl : es.length ≤ 100) (b2 : ∀ d ∈ es, Bk d)
    (q : ∀ (L' : Addr) (ws : List V) (fs : List Dt) (H' : Hp), fs.length = es.length → Ch [] H H' → H' L' = some (.lst ws) → DRs K H' ws fs → (∀ d ∈ fs, Bk d) → Q (.ref L') H') : tLst ta σ H Q := by
  refine y H .refl _ fun xs H1 c1 r1 => ⟨Nat.le_of_lt (small1000 (by rw [r1.len]; omega)), fun p hp => ?_⟩
  exact q p xs es _ rfl (c1.trans (.new hp)) upd_same (r1.ch (.new hp)) b2
/-- a list of such, behind another -/
theorem cat_step {i : Nat} {L : Addr} {vs : List V} {ds es : List Dt} {ta : TA} {Q : VK} (hσ : σ[i]? = some (some (V.ref L))) (hL : H L = some (.lst vs)) (r : DRs K H vs ds) (y : Yds K ta σ H es) (hl : ds.length ≤ 100 ∧ es.length ≤ 100) (b1 : ∀ d ∈ ds, Bk d) (b2 : ∀ d ∈ es, Bk d)
    (q : ∀ (L' : Addr) (ws : List V) (fs : List Dt) (H' : Hp), fs.length = ds.length + es.length → Ch [] H H' → H' L' = some (.lst ws) → DRs K H' ws fs → (∀ d ∈ fs, Bk d) → Q (.ref L') H') : tOp rCat (tVar i) (tLst ta) σ H Q := by
  refine ⟨_, hσ, y H .refl _ fun xs H1 c1 r1 => ⟨Nat.le_of_lt (small1000 (by rw [r1.len]; omega)), fun p hp => ?_⟩⟩
  have c2 : Ch [] H1 (upd H1 p (.lst xs)) := .new hp
  have e2 : upd H1 p (.lst xs) p = some (.lst xs) := upd_same
  have r2 := r1.ch c2
  generalize upd H1 p (.lst xs) = H2 at c2 e2 r2 ⊢
  refine ⟨L, p, vs, xs, rfl, rfl, (c1.trans c2) L _ (by simp) hL, e2, Nat.le_of_lt (small1000 (by rw [r.len, r1.len]; omega)), fun p3 hp3 => ?_⟩
  have c3 : Ch [] H2 (upd H2 p3 (.lst (vs ++ xs))) := .new hp3
  refine q p3 (vs ++ xs) (ds ++ es) _ (List.length_append ..) (c1.trans (c2.trans c3)) upd_same (((r.ch (c1.trans c2)).app r2).ch c3) fun d hd => ?_
  rcases List.mem_append.mp hd with hd | hd
  · exact b1 d hd
  · exact b2 d hd
/-- as a statement, and what follows -/
theorem seq_lst {es : List Dt} {ta : TA} {i : Nat} {rest : TS} {D : Ends} (y : Yds K ta σ H es) (hl : es.length ≤ 100) (b2 : ∀ d ∈ es, Bk d)
    (q : ∀ (L' : Addr) (ws : List V) (fs : List Dt) (H' : Hp), fs.length = es.length → Ch [] H H' → H' L' = some (.lst ws) → DRs K H' ws fs → (∀ d ∈ fs, Bk d) → rest D (σ.set i (some (.ref L'))) H') : tSeq (tAsg (tLst ta) (gName i)) rest D σ H :=
  lst_step (Q := fun x H1 => rest D (σ.set i (some x)) H1) y hl b2 q
theorem seq_cat {i j : Nat} {L : Addr} {vs : List V} {ds es : List Dt} {ta : TA} {rest : TS} {D : Ends} (hσ : σ[i]? = some (some (V.ref L))) (hL : H L = some (.lst vs)) (r : DRs K H vs ds) (y : Yds K ta σ H es) (hl : ds.length ≤ 100 ∧ es.length ≤ 100) (b1 : ∀ d ∈ ds, Bk d) (b2 : ∀ d ∈ es, Bk d)
    (q : ∀ (L' : Addr) (ws : List V) (fs : List Dt) (H' : Hp), fs.length = ds.length + es.length → Ch [] H H' → H' L' = some (.lst ws) → DRs K H' ws fs → (∀ d ∈ fs, Bk d) → rest D (σ.set j (some (.ref L'))) H') : tSeq (tAsg (tOp rCat (tVar i) (tLst ta)) (gName j)) rest D σ H :=
  cat_step (Q := fun x H1 => rest D (σ.set j (some x)) H1) hσ hL r y hl b1 b2 q
end
section
variable {P : Program} {w : World} {K : PySem.W.Frag} {mg : Str → Option Value} {base : Heap}
/-! ### a bad knot -/
def spBadK (K : PySem.W.Frag) : Sp := fun vs H Q _ => ∃ (F : Addr) (kv : V) (ks : List Kd) (t : Kd), vs = [.ref F, kv, .str t.s] ∧ FlAt H F ∧ DR K H kv (ksD ks) ∧ ks.length ≤ 10 ∧ ∀ (e : Dt) (v : V) (H' : Hp), Bk e → Ch [F] H H' → Ts H H' → FlAt H' F → DR K H' v e → Q v H'
theorem sc_badk : FnScope ["_law_flow_here", "_law_kinds", "_law_kind", "_law_one", "_law_other", "_law_some", "_law_form"] ["_law_flow_here", "_law_kinds", "_law_kind"] (defScope (top 57)) := ⟨rfl, rfl, rfl, by decide +kernel, rfl, by decide +kernel, by decide +kernel⟩
theorem leaf_bk {ks : List Kd} {t : Kd} {p : Pg} (h : Sm ks t 1 1 p) : p.dt.dep ≤ 2 ∧ p.dt.sz ≤ 4 := by
  have h1 := h.sz
  have h2 := h.dp
  have h3 := pg_sz p
  have h4 := Pg.dep p
  omega
theorem chunk0 {a b : Dt} {ks : List Kd} (d1 : a.dep ≤ 2) (z1 : a.sz ≤ 4) (d2 : b.dep ≤ 2) (z2 : b.sz ≤ 4) : ∀ d ∈ ([.non, .bl true, .int 5, .str "least", .tup [], .tup [.int 5, a], .tup [.str "in"], .tup [.str "in", .str "x"], .tup [.str "in", .bl true], .tup [.str "num"], .tup [.str "num", .non]] : List Dt), Bk d := by
  simp only [List.mem_cons, List.not_mem_nil, or_false, forall_eq_or_imp, forall_eq, Bk, Dt.dep, Dt.deps, Dt.sz, Dt.szs]
  omega
theorem chunk1 {a b : Dt} {ks : List Kd} (d1 : a.dep ≤ 2) (z1 : a.sz ≤ 4) (d2 : b.dep ≤ 2) (z2 : b.sz ≤ 4) : ∀ d ∈ ([.tup [.str "num", .bl false], .tup [.str "yes", .int 1], .tup [.str "no", a], .tup [.str "plus", .int 1], .tup [.str "plus", a, .int 1], .tup [.str "plus", .non, a]] : List Dt), Bk d := by
  simp only [List.mem_cons, List.not_mem_nil, or_false, forall_eq_or_imp, forall_eq, Bk, Dt.dep, Dt.deps, Dt.sz, Dt.szs]
  omega
theorem chunk2 {a b : Dt} {ks : List Kd} (d1 : a.dep ≤ 2) (z1 : a.sz ≤ 4) (d2 : b.dep ≤ 2) (z2 : b.sz ≤ 4) : ∀ d ∈ ([.tup [.str "plus", .bl true, a], .tup [.str "plus", .bl false, a]] : List Dt), Bk d := by
  simp only [List.mem_cons, List.not_mem_nil, or_false, forall_eq_or_imp, forall_eq, Bk, Dt.dep, Dt.deps, Dt.sz, Dt.szs]
  omega
theorem chunk3 {a b : Dt} {ks : List Kd} (d1 : a.dep ≤ 2) (z1 : a.sz ≤ 4) (d2 : b.dep ≤ 2) (z2 : b.sz ≤ 4) : ∀ d ∈ ([.tup [.str "plus", .int 1, a, a], .tup [.str "least", a], .tup [.str "most", a, a, a], .tup [.str "if", b, a], .tup [.str "foo", a]] : List Dt), Bk d := by
  simp only [List.mem_cons, List.not_mem_nil, or_false, forall_eq_or_imp, forall_eq, Bk, Dt.dep, Dt.deps, Dt.sz, Dt.szs]
  omega
theorem chunk4 {a b : Dt} {ks : List Kd} (d1 : a.dep ≤ 2) (z1 : a.sz ≤ 4) (d2 : b.dep ≤ 2) (z2 : b.sz ≤ 4) : ∀ d ∈ ([.tup [.str "not"], .tup [.tup [.str "not"], b]] : List Dt), Bk d := by
  simp only [List.mem_cons, List.not_mem_nil, or_false, forall_eq_or_imp, forall_eq, Bk, Dt.dep, Dt.deps, Dt.sz, Dt.szs]
  omega
theorem chunk5 {a b : Dt} {ks : List Kd} (d1 : a.dep ≤ 2) (z1 : a.sz ≤ 4) (d2 : b.dep ≤ 2) (z2 : b.sz ≤ 4) : ∀ d ∈ ([.tup [.str "in", .int (0 - 1)], .tup [.str "in", .int ((ks.map fun k => Dt.str k.s).length : Int)], .tup [.str "in", .int (((ks.map fun k => Dt.str k.s).length : Int) + 7)], .tup [.str "both", b, .tup [.str "in", .int (0 - 2)]]] : List Dt), Bk d := by
  simp only [List.mem_cons, List.not_mem_nil, or_false, forall_eq_or_imp, forall_eq, Bk, Dt.dep, Dt.deps, Dt.sz, Dt.szs]
  omega
theorem ok_badk (D : Df K mg "_law_bad_knot" (top 57)) (T : Bn mg) (O__law_draw : OkF P w K mg base CX0 1 "_law_draw" ["_law_flow_here", "_law_many"] spDraw) (O__law_leaf : OkF P w K mg base CX0 3 "_law_leaf" ["_law_flow_here", "_law_world", "_law_kind"] (spLeaf K)) :
    OkF P w K mg base CX0 4 "_law_bad_knot" ["_law_flow_here", "_law_kinds", "_law_kind"] (spBadK K) := by
  refine okF0 D sc_badk (fun _ _ _ _ _ _ us hl => match us, hl with | [_, _, _], _ => rfl) (fun vs H Q E h => ?_) (fun cdv A outer s H vs Q E hr h => ?_)
  · obtain ⟨F, kv, ks, t, rfl, _⟩ := h
    rfl
  · obtain ⟨F, kv, ks, t, rfl, f0, rk, lk, q⟩ := h
    have nd := sc_badk.nd
    refine ⟨_, (pss_cons (ps_par (i := 3) (j := 4) rfl nd rfl rfl (by decide) rfl rfl (pa_cons (pe_callF O__law_leaf (hr.mono (by omega)) rfl pass0 (pa_cons (pv 0) (pa_cons (pe_disp (pps_cons pe_str (pv 1) pps_nil) (by rfl) (by rfl) (fun z => by cases z) (by decide)) (pa_cons pe_str pa_nil)))) (pa_cons (pe_callF O__law_leaf (hr.mono (by omega)) rfl pass0 (pa_cons (pv 0) (pa_cons (pe_disp (pps_cons pe_str (pv 1) pps_nil) (by rfl) (by rfl) (fun z => by cases z) (by decide)) (pa_cons pe_str pa_nil)))) pa_nil)) (by rfl))
  (pss_cons (ps_set (i := 5) nd rfl (Or.inl rfl) (pe_lst (pa_cons pe_non (pa_cons pe_bl (pa_cons pe_int (pa_cons pe_str (pa_cons (pe_tup pa_nil) (pa_cons (pe_tup (pa_cons pe_int (pa_cons (pv 3) pa_nil))) (pa_cons (pe_tup (pa_cons pe_str pa_nil)) (pa_cons (pe_tup (pa_cons pe_str (pa_cons pe_str pa_nil))) (pa_cons (pe_tup (pa_cons pe_str (pa_cons pe_bl pa_nil))) (pa_cons (pe_tup (pa_cons pe_str pa_nil)) (pa_cons (pe_tup (pa_cons pe_str (pa_cons pe_non pa_nil))) pa_nil)))))))))))))
  (pss_cons (ps_set (i := 5) nd rfl (Or.inl rfl) (pe_op op_cat (pv 5) (pe_lst (pa_cons (pe_tup (pa_cons pe_str (pa_cons pe_bl pa_nil))) (pa_cons (pe_tup (pa_cons pe_str (pa_cons pe_int pa_nil))) (pa_cons (pe_tup (pa_cons pe_str (pa_cons (pv 3) pa_nil))) (pa_cons (pe_tup (pa_cons pe_str (pa_cons pe_int pa_nil))) (pa_cons (pe_tup (pa_cons pe_str (pa_cons (pv 3) (pa_cons pe_int pa_nil)))) (pa_cons (pe_tup (pa_cons pe_str (pa_cons pe_non (pa_cons (pv 3) pa_nil)))) pa_nil)))))))))
  (pss_cons (ps_set (i := 5) nd rfl (Or.inl rfl) (pe_op op_cat (pv 5) (pe_lst (pa_cons (pe_tup (pa_cons pe_str (pa_cons pe_bl (pa_cons (pv 3) pa_nil)))) (pa_cons (pe_tup (pa_cons pe_str (pa_cons pe_bl (pa_cons (pv 3) pa_nil)))) pa_nil)))))
  (pss_cons (ps_set (i := 5) nd rfl (Or.inl rfl) (pe_op op_cat (pv 5) (pe_lst (pa_cons (pe_tup (pa_cons pe_str (pa_cons pe_int (pa_cons (pv 3) (pa_cons (pv 3) pa_nil))))) (pa_cons (pe_tup (pa_cons pe_str (pa_cons (pv 3) pa_nil))) (pa_cons (pe_tup (pa_cons pe_str (pa_cons (pv 3) (pa_cons (pv 3) (pa_cons (pv 3) pa_nil))))) (pa_cons (pe_tup (pa_cons pe_str (pa_cons (pv 4) (pa_cons (pv 3) pa_nil)))) (pa_cons (pe_tup (pa_cons pe_str (pa_cons (pv 3) pa_nil))) pa_nil))))))))
  (pss_cons (ps_set (i := 5) nd rfl (Or.inl rfl) (pe_op op_cat (pv 5) (pe_lst (pa_cons (pe_tup (pa_cons pe_str pa_nil)) (pa_cons (pe_tup (pa_cons (pe_tup (pa_cons pe_str pa_nil)) (pa_cons (pv 4) pa_nil))) pa_nil)))))
  (pss_cons (ps_set (i := 5) nd rfl (Or.inl rfl) (pe_op op_cat (pv 5) (pe_lst (pa_cons (pe_tup (pa_cons pe_str (pa_cons (pe_op op_sub pe_int pe_int) pa_nil))) (pa_cons (pe_tup (pa_cons pe_str (pa_cons (pe_callB (r := rLenS K) call_len_seq (by rfl) T.b_len PySem.boot_len (pa_cons (pv 1) pa_nil)) pa_nil))) (pa_cons (pe_tup (pa_cons pe_str (pa_cons (pe_op op_add (pe_callB (r := rLenS K) call_len_seq (by rfl) T.b_len PySem.boot_len (pa_cons (pv 1) pa_nil)) pe_int) pa_nil))) (pa_cons (pe_tup (pa_cons pe_str (pa_cons (pv 4) (pa_cons (pe_tup (pa_cons pe_str (pa_cons (pe_op op_sub pe_int pe_int) pa_nil))) pa_nil)))) pa_nil)))))))
  (pss_cons (ps_set (i := 6) nd rfl (Or.inl rfl) (pe_callF O__law_draw (hr.mono (by omega)) rfl pass0 (pa_cons (pv 0) (pa_cons pe_int pa_nil))))
  (pss_cons (ps_if (pt_cmpR op_eq (pv 6) pe_int (nomark _)) (pss_one (ps_ret (pe_ix (r := rIxL K) ix_list (pv 5) (pe_callF O__law_draw (hr.mono (by omega)) rfl pass0 (pa_cons (pv 0) (pa_cons pe_int pa_nil))) (fun _ _ => rfl)))) pss_nil)
  (pss_cons (ps_if (pt_cmpR op_eq (pv 6) pe_int (nomark _)) (pss_one (ps_ret (pe_ix (r := rIxL K) ix_list (pv 5) (pe_op op_add pe_int (pe_callF O__law_draw (hr.mono (by omega)) rfl pass0 (pa_cons (pv 0) (pa_cons pe_int pa_nil)))) (fun _ _ => rfl)))) pss_nil)
  (pss_one (ps_ret (pe_ix (r := rIxL K) ix_list (pe_lst (pa_cons (pv 4) (pa_cons (pv 3) pa_nil))) (pe_callTy call_int1 (by rfl) T.b_int (by decide +kernel) (pa_cons (pe_cmpR op_eq (pv 2) pe_str (nomark _)) pa_nil)) (fun _ _ => rfl)))))))))))))), ?_⟩
    -- the leaves
    refine ⟨_, rfl, fun W1 hW1 => ?_⟩
    have k1 : Ch [] H (upd H W1 (.dK [])) := .new hW1
    have e1 : upd H W1 (.dK []) W1 = some (.dK []) := upd_same
    have rk1 := rk.ch k1
    generalize upd H W1 (.dK []) = H1 at k1 e1 rk1 ⊢
    refine ⟨_, rfl, e1, [(.inr "kinds", kv)], rfl, (by show 1 ≤ 15; decide), ?_⟩
    have k2 : Ch [] H (upd H1 W1 (.dK [(.inr "kinds", kv)])) := k1.mut hW1
    have e2 : upd H1 W1 (.dK [(.inr "kinds", kv)]) W1 = some (.dK [(.inr "kinds", kv)]) := upd_same
    show tCons (tC (.str "num")) tNil _ (upd H1 W1 (.dK [(.inr "kinds", kv)])) _
    generalize upd H1 W1 (.dK [(.inr "kinds", kv)]) = H2 at k2 e2 ⊢
    have f2 := f0.ch k2 (by simp)
    refine ⟨F, W1, ks, .num, rfl, f2, ⟨kv, _, e2, rfl, rk.ch k2, by omega⟩, fun p1 v1 H3 s1 c3 t3 f3 r3 => ?_⟩
    have C3 : Ch [F] H H3 := (Ch.of0 k2).trans c3
    have T3 : Ts H H3 := (Ts.of k2).trans t3
    refine ⟨_, rfl, fun W2 hW2 => ?_⟩
    have k4 : Ch [] H3 (upd H3 W2 (.dK [])) := .new hW2
    have e4 : upd H3 W2 (.dK []) W2 = some (.dK []) := upd_same
    generalize upd H3 W2 (.dK []) = H4 at k4 e4 ⊢
    refine ⟨_, rfl, e4, [(.inr "kinds", kv)], rfl, (by show 1 ≤ 15; decide), ?_⟩
    have k5 : Ch [] H3 (upd H4 W2 (.dK [(.inr "kinds", kv)])) := k4.mut hW2
    have e5 : upd H4 W2 (.dK [(.inr "kinds", kv)]) W2 = some (.dK [(.inr "kinds", kv)]) := upd_same
    show tCons (tC (.str "truth")) tNil _ (upd H4 W2 (.dK [(.inr "kinds", kv)])) _
    generalize upd H4 W2 (.dK [(.inr "kinds", kv)]) = H5 at k5 e5 ⊢
    have f5 := f3.ch k5 (by simp)
    refine ⟨F, W2, ks, .truth, rfl, f5, ⟨kv, _, e5, rfl, (rk.ts T3).ch k5, by omega⟩, fun p2 v2 H6 s2 c6 t6 f6 rb => ?_⟩
    have C6 : Ch [F] H H6 := C3.trans ((Ch.of0 k5).trans c6)
    have T6 : Ts H H6 := T3.trans ((Ts.of k5).trans t6)
    have ra := (r3.ch k5).ts t6
    obtain ⟨d1, z1⟩ := leaf_bk s1
    obtain ⟨d2, z2⟩ := leaf_bk s2
    have rk6 := rk.ts T6
    clear r3 k1 k2 k4 k5 e1 e2 e4 e5 rk1 f2 f3 f5 c3 c6 t3 t6 C3 T3 s1 s2
    generalize p1.dt = a at ra d1 z1
    generalize p2.dt = b at rb d2 z2
    refine ⟨_, _, rfl, ?_⟩
    dsimp only
    -- the list
    have neg : ∀ {σ : L2.St} {G : Hp} {i j : Int}, Yd K (tOp (rI0 fun i j => .int (i - j)) (tC (.int i)) (tC (.int j))) σ G (.int (i - j)) := fun H' c Q q => ⟨_, _, rfl, rfl, q _ _ .refl (.int _)⟩
    have lenk : ∀ {σ : L2.St} {G : Hp}, σ[1]? = some (some kv) → DR K G kv (ksD ks) → Yd K (tCB (rLenS K) (tCons (tVar 1) tNil)) σ G (.int ((ks.map fun k => Dt.str k.s).length : Int)) := fun h r H' c Q q => ⟨_, h, by dsimp only [tNil]; exact len_dt (r.ch c) (q _ _ .refl (.int _))⟩
    have lenk7 : ∀ {σ : L2.St} {G : Hp}, σ[1]? = some (some kv) → DR K G kv (ksD ks) → Yd K (tOp (rI0 fun i j => .int (i + j)) (tCB (rLenS K) (tCons (tVar 1) tNil)) (tC (.int 7))) σ G (.int (((ks.map fun k => Dt.str k.s).length : Int) + 7)) := fun h r H' c Q q => ⟨_, h, by dsimp only [tNil]; exact len_dt (r.ch c) ⟨_, _, rfl, rfl, q _ _ .refl (.int _)⟩⟩
    refine seq_lst (K := K) (es := [.non, .bl true, .int 5, .str "least", .tup [], .tup [.int 5, a], .tup [.str "in"], .tup [.str "in", .str "x"], .tup [.str "in", .bl true], .tup [.str "num"], .tup [.str "num", .non]]) ?_ (Nat.le_of_ble_eq_true rfl) (chunk0 (ks := ks) d1 z1 d2 z2) fun L0 w0 g0 G0 n0 cc0 e0 r0 b0 => ?_
    · repeat' first | exact Yds.nil | exact Yd.int | exact Yd.str | exact Yd.bl | exact Yd.non | exact Yd.var rfl (ra.ch .refl) | exact Yd.var rfl (rb.ch .refl) | exact neg | exact lenk (by rfl) (rk6.ch .refl) | exact lenk7 (by rfl) (rk6.ch .refl) | exact Nat.le_of_ble_eq_true rfl | refine Yds.cons ?_ ?_ | refine Yd.tup ?_ ?_
    refine seq_cat (K := K) (i := 5) (es := [.tup [.str "num", .bl false], .tup [.str "yes", .int 1], .tup [.str "no", a], .tup [.str "plus", .int 1], .tup [.str "plus", a, .int 1], .tup [.str "plus", .non, a]]) rfl e0 r0 ?_ ⟨by rw [n0]; exact Nat.le_of_ble_eq_true rfl, Nat.le_of_ble_eq_true rfl⟩ b0 (chunk1 (ks := ks) d1 z1 d2 z2) fun L1 w1 g1 G1 n1 k1 e1 r1 b1 => ?_
    · repeat' first | exact Yds.nil | exact Yd.int | exact Yd.str | exact Yd.bl | exact Yd.non | exact Yd.var rfl (ra.ch cc0) | exact Yd.var rfl (rb.ch cc0) | exact neg | exact lenk (by rfl) (rk6.ch cc0) | exact lenk7 (by rfl) (rk6.ch cc0) | exact Nat.le_of_ble_eq_true rfl | refine Yds.cons ?_ ?_ | refine Yd.tup ?_ ?_
    rw [n0] at n1
    have cc1 := cc0.trans k1
    clear cc0 e0 r0 b0 k1
    refine seq_cat (K := K) (i := 5) (es := [.tup [.str "plus", .bl true, a], .tup [.str "plus", .bl false, a]]) rfl e1 r1 ?_ ⟨by rw [n1]; exact Nat.le_of_ble_eq_true rfl, Nat.le_of_ble_eq_true rfl⟩ b1 (chunk2 (ks := ks) d1 z1 d2 z2) fun L2 w2 g2 G2 n2 k2 e2 r2 b2 => ?_
    · repeat' first | exact Yds.nil | exact Yd.int | exact Yd.str | exact Yd.bl | exact Yd.non | exact Yd.var rfl (ra.ch cc1) | exact Yd.var rfl (rb.ch cc1) | exact neg | exact lenk (by rfl) (rk6.ch cc1) | exact lenk7 (by rfl) (rk6.ch cc1) | exact Nat.le_of_ble_eq_true rfl | refine Yds.cons ?_ ?_ | refine Yd.tup ?_ ?_
    rw [n1] at n2
    have cc2 := cc1.trans k2
    clear cc1 e1 r1 b1 k2
    refine seq_cat (K := K) (i := 5) (es := [.tup [.str "plus", .int 1, a, a], .tup [.str "least", a], .tup [.str "most", a, a, a], .tup [.str "if", b, a], .tup [.str "foo", a]]) rfl e2 r2 ?_ ⟨by rw [n2]; exact Nat.le_of_ble_eq_true rfl, Nat.le_of_ble_eq_true rfl⟩ b2 (chunk3 (ks := ks) d1 z1 d2 z2) fun L3 w3 g3 G3 n3 k3 e3 r3 b3 => ?_
    · repeat' first | exact Yds.nil | exact Yd.int | exact Yd.str | exact Yd.bl | exact Yd.non | exact Yd.var rfl (ra.ch cc2) | exact Yd.var rfl (rb.ch cc2) | exact neg | exact lenk (by rfl) (rk6.ch cc2) | exact lenk7 (by rfl) (rk6.ch cc2) | exact Nat.le_of_ble_eq_true rfl | refine Yds.cons ?_ ?_ | refine Yd.tup ?_ ?_
    rw [n2] at n3
    have cc3 := cc2.trans k3
    clear cc2 e2 r2 b2 k3
    refine seq_cat (K := K) (i := 5) (es := [.tup [.str "not"], .tup [.tup [.str "not"], b]]) rfl e3 r3 ?_ ⟨by rw [n3]; exact Nat.le_of_ble_eq_true rfl, Nat.le_of_ble_eq_true rfl⟩ b3 (chunk4 (ks := ks) d1 z1 d2 z2) fun L4 w4 g4 G4 n4 k4 e4 r4 b4 => ?_
    · repeat' first | exact Yds.nil | exact Yd.int | exact Yd.str | exact Yd.bl | exact Yd.non | exact Yd.var rfl (ra.ch cc3) | exact Yd.var rfl (rb.ch cc3) | exact neg | exact lenk (by rfl) (rk6.ch cc3) | exact lenk7 (by rfl) (rk6.ch cc3) | exact Nat.le_of_ble_eq_true rfl | refine Yds.cons ?_ ?_ | refine Yd.tup ?_ ?_
    rw [n3] at n4
    have cc4 := cc3.trans k4
    clear cc3 e3 r3 b3 k4
    refine seq_cat (K := K) (i := 5) (es := [.tup [.str "in", .int (0 - 1)], .tup [.str "in", .int ((ks.map fun k => Dt.str k.s).length : Int)], .tup [.str "in", .int (((ks.map fun k => Dt.str k.s).length : Int) + 7)], .tup [.str "both", b, .tup [.str "in", .int (0 - 2)]]]) rfl e4 r4 ?_ ⟨by rw [n4]; exact Nat.le_of_ble_eq_true rfl, Nat.le_of_ble_eq_true rfl⟩ b4 (chunk5 (ks := ks) d1 z1 d2 z2) fun L5 w5 g5 G5 n5 k5 e5 r5 b5 => ?_
    · repeat' first | exact Yds.nil | exact Yd.int | exact Yd.str | exact Yd.bl | exact Yd.non | exact Yd.var rfl (ra.ch cc4) | exact Yd.var rfl (rb.ch cc4) | exact neg | exact lenk (by rfl) (rk6.ch cc4) | exact lenk7 (by rfl) (rk6.ch cc4) | exact Nat.le_of_ble_eq_true rfl | refine Yds.cons ?_ ?_ | refine Yd.tup ?_ ?_
    rw [n4] at n5
    have cc5 := cc4.trans k5
    clear cc4 e4 r4 b4 k5
    have l30 : g5.length = 30 := n5
    have lw5 : w5.length = 30 := by rw [r5.len, l30]
    have f7 := f6.ch cc5 (by simp)
    have n5F : L5 ≠ F := by
      obtain ⟨_, _, _, ef, _⟩ := f7
      exact fun z => by
        rw [z, ef] at e5
        have := congrArg (fun o => match o with | some (HO.lst l) => l.length | _ => 0) e5
        dsimp only at this
        rw [lw5] at this
        cases this
    refine ⟨_, rfl, F, _, rfl, f7, by decide, by decide, fun m H8 m0 m1 c8 f8 => ?_⟩
    have t8 := ts_fl f7 c8
    have e8 := c8 L5 _ (in1 n5F) e5
    have r8 := r5.ts t8
    have C8 : Ch [F] H H8 := C6.trans ((Ch.of0 cc5).trans c8)
    have T8 : Ts H H8 := T6.trans ((Ts.of cc5).trans t8)
    have item : ∀ (i : Int) (H9 : Hp), 0 ≤ i → i < 30 → Ch [F] H8 H9 → FlAt H9 F → rIxL K (.ref L5) (.int i) H9 Q := fun i H9 i0 i1 c9 f9 => by
      obtain ⟨v, hv, hm⟩ := atI_lt (xs := w5) i0 (by omega)
      have t9 := ts_fl f8 c9
      obtain ⟨k, rfl⟩ : ∃ n : Nat, i = (n : Int) := ⟨i.toNat, by omega⟩
      obtain ⟨x, hx⟩ : ∃ x, w5[k]? = some x := ⟨_, List.getElem?_eq_getElem (by omega)⟩
      rw [atI_nat hx] at hv
      cases hv
      obtain ⟨dd, hdd, rdd⟩ := r8.getv hx
      exact ⟨L5, w5, _, v, rfl, rfl, SqL.of (c9 L5 _ (in1 n5F) e8), atI_nat hx, q dd v H9 (b5 dd (List.mem_of_getElem? hdd)) (C8.trans c9) (T8.trans t9) f9 (rdd.ts t9)⟩
    refine ⟨_, rfl, rfl, _, rfl, iteD (fun _ => ?_) (fun _ => ?_)⟩
    · exact ⟨_, rfl, _, rfl, F, _, rfl, f8, by decide, by decide, fun i H9 i0 i1 c9 f9 => item i H9 i0 i1 c9 f9⟩
    refine ⟨_, rfl, rfl, _, rfl, iteD (fun _ => ?_) (fun _ => ?_)⟩
    · exact ⟨_, rfl, _, rfl, F, _, rfl, f8, by decide, by decide, fun i H9 i0 i1 c9 f9 => ⟨_, _, rfl, rfl, item (26 + i) H9 (by omega) (by omega) c9 f9⟩⟩
    have ra8 := (ra.ch cc5).ts t8
    have rb8 := (rb.ch cc5).ts t8
    refine ⟨_, rfl, _, rfl, (by show 2 ≤ sizeLine; decide), fun p9 hp9 => ?_⟩
    have c9 : Ch [] H8 (upd H8 p9 (.lst [v2, v1])) := .new hp9
    have e9 : upd H8 p9 (.lst [v2, v1]) p9 = some (.lst [v2, v1]) := upd_same
    have ra9 := ra8.ch c9
    have rb9 := rb8.ch c9
    generalize upd H8 p9 (.lst [v2, v1]) = H9 at c9 e9 ra9 rb9 ⊢
    have f9 := f8.ch c9 (by simp)
    refine ⟨_, rfl, rfl, ?_⟩
    refine .inr ⟨_, rfl, ?_⟩
    cases t with
    | num => exact ⟨p9, _, 0, v2, by rfl, by rfl, SqL.of e9, rfl, q b v2 H9 ⟨by omega, by omega⟩ (C8.trans (Ch.of0 c9)) (T8.trans (.of c9)) f9 rb9⟩
    | truth => exact ⟨p9, _, 1, v1, by rfl, by rfl, SqL.of e9, rfl, q a v1 H9 ⟨by omega, by omega⟩ (C8.trans (Ch.of0 c9)) (T8.trans (.of c9)) f9 ra9⟩
end
end LM
set_option Elab.async false
set_option linter.all false
set_option maxRecDepth 100000
set_option maxHeartbeats 4000000
namespace LM
open PySem PySem.Spec PyProof.Rows L2
/-! ### a deed is drawn -/
def DeedIs (K : PySem.W.Frag) (H H' : Hp) (ks : List Kd) (t : Kd) (wd : Str) (v : V) : Prop :=
  (wd = "wish" ∧ ∃ (d : Dt) (r : Sum (Str × Nat) Kd), DR K H' v d ∧ WrongIs (ks ++ [t]) d r ∧ (kn d).length ≤ 1000 ∧ d.dep ≤ 12) ∨
  (wd = "examples" ∧ ∃ (tp : Bool) (L : Addr) (xs : List V) (sm : List (Dt × Dt)), v = .ref L ∧ LAt K tp H' L xs ∧ (tp = false → H L = none) ∧ DRs K H' xs (sm.map pairD) ∧ sm.length ≤ 6 ∧ ∀ x ∈ sm, Shd (pairD x)) ∨
  (wd = "back" ∧ ∃ i : Int, v = .int i)
theorem kn_sz : ∀ (m : Nat) {d : Dt}, d.dep ≤ m → (kn d).length ≤ d.sz
  | 0, d, h => by have := dep_pos d; omega
  | m + 1, d, h => by
    rw [kn_eq]
    by_cases hf : hasForm d = true
    · rw [if_pos hf, List.length_cons]
      obtain ⟨ds, k, rfl, hk, ep, _⟩ := form_cut hf
      have all : ∀ ps : List Dt, (∀ e ∈ ps, e.dep ≤ m) → ((ps.map kn).flatten).length ≤ Dt.szs ps := by
        intro ps
        induction ps with
        | nil => intro _; exact Nat.le_refl _
        | cons e ps ih =>
          intro he
          have h1 := kn_sz m (he e List.mem_cons_self)
          have h2 := ih fun x hx => he x (List.mem_cons_of_mem _ hx)
          show (kn e ++ (ps.map kn).flatten).length ≤ e.sz + Dt.szs ps
          rw [List.length_append]
          omega
      have h1 := all (partsD (.tup ds)) fun e he => by
        have := parts_dep he hf
        omega
      have e0 : Dt.szs ds = Dt.szs (ds.take k) + Dt.szs (partsD (.tup ds)) := by rw [ep, ← Dt.szs_app, List.take_append_drop]
      show _ ≤ Dt.szs ds + 1
      omega
    · rw [if_neg hf]
      have := d.sz_pos
      simpa using this
section
variable {K : PySem.W.Frag} {H : Hp} {MD KD LD : Addr} {hv : Hd} {es : List (Int × Dt)} {came : Int} {lg : List Dt} {s0 s2 s3 s4 s5 s6 s7 s8 : Option V}
/-- the kept ones, counted -/
theorem kept_count {tt : TT} (m : MdA K H MD KD LD hv es came lg) (le : es.length ≤ 200)
    (htt : ∀ (x : V) (e : Int × Dt) (H2 : Hp), e ∈ es → DR K H2 x e.2 → ∀ R : Bool → Hp → Prop, (∀ b, R b H2) → tt [s0, some (.ref MD), s2, s3, s4, s5, s6, some x, s8] H2 R) {Q : VK}
    (q : ∀ (L : Addr) (ws : List V) (H' : Hp), Ch [] H H' → H' L = some (.lst ws) → ws.length ≤ 200 → Q (.ref L) H') :
    tLockE (tLc (iVals (tDGet (tVar 1) (tC (.str "kept")))) (gName 7) tt (tC (.int 1)) [7]) [s0, some (.ref MD), s2, s3, s4, s5, s6, s7, s8] H Q := by
  obtain ⟨kvs, lgs, k1, k2, k3, kvr, _, nMK⟩ := m.ex
  refine ⟨KD, _, k2, trivial, fun od => ?_⟩
  have t13 : Ts H (upd H KD (.frz od (.dK kvs))) := .upd (by rw [k2]; trivial)
  have kvr13 := kvr.ts t13
  have k13 : upd H KD (.frz od (.dK kvs)) KD = some (.frz od (.dK kvs)) := upd_same
  have hk13 : ∀ a o, a ≠ KD → H a = some o → upd H KD (.frz od (.dK kvs)) a = some o := fun a o n e => by rw [upd_ne n]; exact e
  generalize upd H KD (.frz od (.dK kvs)) = H13 at t13 kvr13 k13 hk13 ⊢
  refine ⟨_, rfl, MD, _, rfl, md_kept (hk13 MD _ nMK k1), KD, od, kvs, rfl, k13, fun DD hDD => ?_⟩
  have nDT : DD ≠ KD := Ne.symm (ne_of_none k13 hDD)
  refine lc_it (walk_values (d := KD) (o := od) (kvs := kvs)) (fun j H' => Ch [] H13 H' ∧ ∃ us : List V, H' DD = some (.lst us) ∧ us.length ≤ j) ?_ ?_ ?_ ?_
  · exact ⟨.new hDD, [], upd_same, Nat.le_refl _⟩
  · rintro j H' _ ⟨c, _⟩
    exact c KD _ (by simp) k13
  · rintro j x Hx H' hj ⟨c, us, hus, lus⟩ ⟨rfl, kk, hkq⟩
    obtain ⟨num, dd, hkn, hes, rd⟩ := kvr13.get hkq
    have li : j < es.length := (List.getElem?_eq_some_iff.mp hes).1
    refine ⟨rfl, ?_⟩
    refine htt x _ H' (List.mem_of_getElem? hes) (rd.ch c) _ fun b => ?_
    cases b with
    | false => exact ⟨c, us, hus, by omega⟩
    | true => exact ⟨us, hus, small1000 (by omega), c.mut hDD, us ++ [.int 1], upd_same, by rw [List.length_append, List.length_singleton]; omega⟩
  · rintro H14 ⟨c14, us, hus, lus⟩
    rw [kvr.len] at lus
    refine ⟨c14 KD _ (by simp) k13, ?_⟩
    refine q DD us _ (fun a o _ e => ?_) (by rw [upd_ne nDT]; exact hus) (by omega)
    by_cases z : a = KD
    · rw [z] at e ⊢
      rw [k2] at e
      cases e
      exact upd_same
    · rw [upd_ne z]
      exact c14 a o (by simp) (hk13 a o z e)
/-- its head is a word -/
theorem kept_word {ks : List Kd} {t : Kd} {wd : Str} (fit : Fit ks t es) (x : V) (e : Int × Dt) (H2 : Hp) (he : e ∈ es) (r : DR K H2 x e.2) (R : Bool → Hp → Prop) (hR : ∀ b, R b H2) : tTest (tOp rEq (tOp (rIxT K) (tVar 7) (tC (.int 0))) (tC (.str wd))) [s0, some (.ref MD), s2, s3, s4, s5, s6, some x, s8] H2 R := by
  rcases fit e he with ⟨p, hp, _⟩ | ⟨i, a, hi, _⟩
  · rw [hp] at r
    refine ⟨_, rfl, ?_⟩
    dsimp only [tC]
    refine ix_dt (n := 0) r rfl fun y0 ry0 => ?_
    rw [ry0.str_inv]
    exact ⟨rfl, _, rfl, hR _⟩
  · rw [hi] at r
    refine ⟨_, rfl, ?_⟩
    dsimp only [tC]
    refine ix_dt (n := 0) r rfl fun y0 ry0 => ?_
    rw [ry0.str_inv]
    exact ⟨rfl, _, rfl, hR _⟩
/-- is it so, and are few kept -/
theorem kept_test {ks : List Kd} {t : Kd} {wd : Str} {i n z : Int} (m : MdA K H MD KD LD hv es came lg) (le : es.length ≤ 200) (fit : Fit ks t es) :
    TtP (tAnd (tTest (tOp (rI0 fun i j => V.bl (decide (i < j))) (tVar 3) (tC (.int i)))) (tTest (tOp (rI0 fun i j => V.bl (decide (i < j))) (tCB (rLenS K) (tCons (tLockE (tLc (iVals (tDGet (tVar 1) (tC (.str "kept")))) (gName 7) (tTest (tOp rEq (tOp (rIxT K) (tVar 7) (tC (.int 0))) (tC (.str wd)))) (tC (.int 1)) [7])) tNil)) (tC (.int n)))))
      [s0, some (.ref MD), s2, some (.int z), s4, s5, s6, s7, s8] H (fun _ H' => Ch [] H H') := by
  refine tt_and (R1 := fun _ H' => H' = H) (fun Q q => ⟨_, rfl, _, _, rfl, rfl, _, rfl, q _ _ rfl⟩) (fun H' e => by rw [e]; exact .refl) (fun H' e Q q => ?_)
  rw [e]
  refine kept_count m le (kept_word fit) fun L ws H2 c2 e2 l2 => ?_
  exact ⟨L, ws, rfl, .inl (SqL.of e2), _, _, rfl, rfl, _, rfl, q _ _ c2⟩
end
section
variable {P : Program} {w : World} {K : PySem.W.Frag} {mg : Str → Option Value} {base : Heap}
def spDeed (K : PySem.W.Frag) : Sp := fun vs H Q _ => ∃ (F MD KD LD : Addr) (hv : Hd) (ks : List Kd) (t : Kd) (es : List (Int × Dt)) (came : Int) (lg : List Dt), vs = [.ref F, .ref MD] ∧ FlAt H F ∧ MdA K H MD KD LD hv es came lg ∧ DR K H hv (hdD ks t) ∧ ks.length ≤ 2 ∧ Fit ks t es ∧ es.length ≤ 200 ∧ F ∉ [MD, KD, LD] ∧
  ∀ (a : Addr) (wd : Str) (v : V) (H' : Hp), Ch [F] H H' → Ts H H' → FlAt H' F → SqT K H' a [.str wd, v] → DeedIs K H H' ks t wd v → Q (.ref a) H'
theorem sc_deed : FnScope ["_law_flow_here", "_law_model", "_law_head_here", "_law_form", "_law_wish", "_law_some", "_law_at", "_law_thing", "_law_k"] ["_law_flow_here", "_law_model"] (defScope (top 69)) := ⟨rfl, rfl, rfl, by decide +kernel, rfl, by decide +kernel, by decide +kernel⟩
theorem ok_deed (D : Df K mg "_law_deed" (top 69)) (T : Bn mg) (O__law_draw : OkF P w K mg base CX0 1 "_law_draw" ["_law_flow_here", "_law_many"] spDraw) (O__law_small_wish : OkF P w K mg base CX0 11 "_law_small_wish" ["_law_flow_here", "_law_kinds", "_law_kind"] (spSmall K))
    (O__law_knots : OkF P w K mg base CX0 14 "_law_knots" ["_law_program"] (spLKnots K 12)) (O__law_replaced : OkF P w K mg base CX0 14 "_law_replaced" ["_law_program", "_law_left", "_law_new"] (spRepl K 12)) (O__law_bad_knot : OkF P w K mg base CX0 4 "_law_bad_knot" ["_law_flow_here", "_law_kinds", "_law_kind"] (spBadK K))
    (O__law_example : OkF P w K mg base CX0 3 "_law_example" ["_law_flow_here", "_law_head_here"] (spExample K)) (O__law_bad_example : OkF P w K mg base CX0 4 "_law_bad_example" ["_law_flow_here", "_law_head_here"] (spBad K)) :
    OkF P w K mg base CX0 15 "_law_deed" ["_law_flow_here", "_law_model"] (spDeed K) := by
  refine okF0 D sc_deed (fun _ _ _ _ _ _ us hl => match us, hl with | [_, _], _ => rfl) (fun vs H Q E h => ?_) (fun cdv A outer s H vs Q E hr h => ?_)
  · obtain ⟨F, MD, KD, LD, hv, ks, t, es, came, lg, rfl, _⟩ := h
    rfl
  · obtain ⟨F, MD, KD, LD, hv, ks, t, es, came, lg, rfl, f0, m0, rh0, lk, fit, le, nF, q⟩ := h
    have nd := sc_deed.nd
    have hu := hu_of hr
    refine ⟨_, (pss_cons (ps_asg (pe_tup (pa_cons (pe_dget hu (pv 1) pe_str (fun _ _ => rfl)) (pa_cons (pe_callF O__law_draw (hr.mono (by omega)) rfl pass0 (pa_cons (pv 0) (pa_cons pe_int pa_nil))) pa_nil))) (pg_tup rfl (pgs_cons (pg_name (i := 2) nd rfl (Or.inr rfl)) (pgs_cons (pg_name (i := 3) nd rfl (Or.inl rfl)) pgs_nil))))
  (pss_cons (ps_if (PW.pt (pw_and (pt_cmpR op_lt (pv 3) pe_int (nomark _)) (pw_and1 (pt_cmpR op_lt (pe_callB (r := rLenS K) call_len_seq (by rfl) T.b_len PySem.boot_len (pa_cons (pe_lock (pe_lc (own := [("_law_thing", 7)]) rfl nd (pi_values (pe_dget hu (pv 1) pe_str (fun _ _ => rfl))) (blkOk_by (own := [("_law_thing", 7)]) (N := ["_law_flow_here", "_law_model", "_law_head_here", "_law_form", "_law_wish", "_law_some", "_law_at", "_law_thing", "_law_k"]) (sc := defScope (top 69)) (by decide +kernel)) (fun _ _ _ _ _ => (pg_name (i := 7) nd rfl (Or.inl rfl))) (fun _ _ _ _ _ => pts_one (pt_cmpR op_eq (pe_ix (r := rIxT K) ix_tup (pv 7) pe_int (fun _ _ => rfl)) pe_str (nomark _))) (fun _ _ _ _ _ => pe_int))) pa_nil)) pe_int (nomark _))))) (pss_cons (ps_set (i := 4) nd rfl (Or.inl rfl) (pe_callF O__law_small_wish (hr.mono (by omega)) rfl pass0 (pa_cons (pv 0) (pa_cons (pe_ix (r := rIxT K) ix_tup (pv 2) pe_int (fun _ _ => rfl)) (pa_cons (pe_ix (r := rIxT K) ix_tup (pv 2) pe_int (fun _ _ => rfl)) pa_nil)))))
  (Evl.pss_cut (ps_if (pt_cmpR op_eq (pe_callF O__law_draw (hr.mono (by omega)) rfl pass0 (pa_cons (pv 0) (pa_cons pe_int pa_nil))) pe_int (nomark _)) (pss_cons (ps_set (i := 5) nd rfl (Or.inl rfl) (pe_callF O__law_knots (hr.mono (by omega)) rfl pass0 (pa_cons (pv 4) pa_nil)))
  (pss_cons (ps_set (i := 6) nd rfl (Or.inl rfl) (pe_callF O__law_draw (hr.mono (by omega)) rfl pass0 (pa_cons (pv 0) (pa_cons (pe_callB (r := rLenS K) call_len_seq (by rfl) T.b_len PySem.boot_len (pa_cons (pv 5) pa_nil)) pa_nil))))
  (pss_one (ps_set (i := 4) nd rfl (Or.inl rfl) (pe_callF O__law_replaced (hr.mono (by omega)) rfl pass0 (pa_cons (pv 4) (pa_cons (pe_lst (pa_cons (pv 6) pa_nil)) (pa_cons (pe_callF O__law_bad_knot (hr.mono (by omega)) rfl pass0 (pa_cons (pv 0) (pa_cons (pe_op (r := rCatA K) op_catA (pe_ix (r := rIxT K) ix_tup (pv 2) pe_int (fun _ _ => rfl)) (pe_tup (pa_cons (pe_ix (r := rIxT K) ix_tup (pv 2) pe_int (fun _ _ => rfl)) pa_nil))) (pa_cons pe_str pa_nil)))) pa_nil)))))))) pss_nil)
  (pss_one (ps_ret (pe_tup (pa_cons pe_str (pa_cons (pv 4) pa_nil))))))) pss_nil)
  (pss_cons (ps_if (PW.pt (pw_and (pt_cmpR op_lt (pv 3) pe_int (nomark _)) (pw_and1 (pt_cmpR op_lt (pe_callB (r := rLenS K) call_len_seq (by rfl) T.b_len PySem.boot_len (pa_cons (pe_lock (pe_lc (own := [("_law_thing", 7)]) rfl nd (pi_values (pe_dget hu (pv 1) pe_str (fun _ _ => rfl))) (blkOk_by (own := [("_law_thing", 7)]) (N := ["_law_flow_here", "_law_model", "_law_head_here", "_law_form", "_law_wish", "_law_some", "_law_at", "_law_thing", "_law_k"]) (sc := defScope (top 69)) (by decide +kernel)) (fun _ _ _ _ _ => (pg_name (i := 7) nd rfl (Or.inl rfl))) (fun _ _ _ _ _ => pts_one (pt_cmpR op_eq (pe_ix (r := rIxT K) ix_tup (pv 7) pe_int (fun _ _ => rfl)) pe_str (nomark _))) (fun _ _ _ _ _ => pe_int))) pa_nil)) pe_int (nomark _))))) (pss_cons (ps_setLc (i := 5) (own := [("_law_k", 8)]) (tt := tYes) rfl nd rfl rfl (sw_true rfl rfl rfl (by decide +kernel)) (pi_range1 rfl T.b_range (pa_cons (pe_callF O__law_draw (hr.mono (by omega)) rfl pass0 (pa_cons (pv 0) (pa_cons pe_int pa_nil))) pa_nil)) (blkOk_by (own := [("_law_k", 8)]) (N := ["_law_flow_here", "_law_model", "_law_head_here", "_law_form", "_law_wish", "_law_some", "_law_at", "_law_thing", "_law_k"]) (sc := defScope (top 69)) (by decide +kernel)) (fun _ _ _ _ _ => (pg_name (i := 8) nd rfl (Or.inl rfl))) (fun _ _ _ _ _ => pts_nil) (fun _ _ _ _ _ => (pe_callF O__law_example (hr.mono (by omega)) rfl pass0 (pa_cons (pv 0) (pa_cons (pv 2) pa_nil)))))
  (Evl.pss_cut (ps_if (pt_cmpR op_eq (pe_callF O__law_draw (hr.mono (by omega)) rfl pass0 (pa_cons (pv 0) (pa_cons pe_int pa_nil))) pe_int (nomark _)) (pss_one (ps_expr (pe_bm PySem.F.plainAttrs_list PySem.F.slot_list_insert PySem.F.type_list_insert mt_insert (pv 5) (pa_cons (pe_callF O__law_draw (hr.mono (by omega)) rfl pass0 (pa_cons (pv 0) (pa_cons (pe_op op_add (pe_callB (r := rLenS K) call_len_seq (by rfl) T.b_len PySem.boot_len (pa_cons (pv 5) pa_nil)) pe_int) pa_nil))) (pa_cons (pe_callF O__law_bad_example (hr.mono (by omega)) rfl pass0 (pa_cons (pv 0) (pa_cons (pv 2) pa_nil))) pa_nil))))) pss_nil)
  (pss_one (ps_ret (pe_tup (pa_cons pe_str (pa_cons (pe_ix (r := rIxL K) ix_list (pe_lst (pa_cons (pv 5) (pa_cons (pe_callTy (r := rTupS K) call_tuple_of (by rfl) T.b_tuple (by decide +kernel) (pa_cons (pv 5) pa_nil)) pa_nil))) (pe_callF O__law_draw (hr.mono (by omega)) rfl pass0 (pa_cons (pv 0) (pa_cons pe_int pa_nil))) (fun _ _ => rfl)) pa_nil))))))) pss_nil)
  (pss_cons (ps_set (i := 5) nd rfl (Or.inl rfl) (pe_op op_cat (pe_callTy (r := rListD) (call_list_dK rfl) (by rfl) T.b_list (by decide +kernel) (pa_cons (pe_dget hu (pv 1) pe_str (fun _ _ => rfl)) pa_nil)) (pe_lst (pa_cons (pe_dget hu (pv 1) pe_str (fun _ _ => rfl)) (pa_cons (pe_op op_sub pe_int pe_int) (pa_cons pe_int pa_nil))))))
  (pss_one (ps_ret (pe_tup (pa_cons pe_str (pa_cons (pe_ix (r := rIxL K) ix_list (pv 5) (pe_callF O__law_draw (hr.mono (by omega)) rfl pass0 (pa_cons (pv 0) (pa_cons (pe_callB (r := rLenS K) call_len_seq (by rfl) T.b_len PySem.boot_len (pa_cons (pv 5) pa_nil)) pa_nil))) (fun _ _ => rfl)) pa_nil))))))))), ?_⟩
    simp only [List.mem_cons, List.not_mem_nil, or_false, not_or] at nF
    obtain ⟨nF1, nF2, nF3⟩ := nF
    have mF : ∀ {G G' : Hp}, MdA K G MD KD LD hv es came lg → FlAt G F → Ch [F] G G' → MdA K G' MD KD LD hv es came lg := fun m f c => m.ch c (ts_fl f c) (by simpa using Ne.symm nF1) (by simpa using Ne.symm nF2) (by simpa using Ne.symm nF3)
    obtain ⟨kvs0, lgs0, k1, k2, k3, _⟩ := id m0.ex
    refine ⟨_, rfl, MD, _, rfl, md_head k1, _, rfl, F, _, rfl, f0, by decide, by decide, fun m H1 m0' m1' c1 f1 => ⟨(by show 2 ≤ sizeLine; decide), fun p1 hp1 => ?_⟩⟩
    have c2 : Ch [] H1 (upd H1 p1 (.tup [hv, .int m])) := .new hp1
    have s2 : SqT K (upd H1 p1 (.tup [hv, .int m])) p1 [hv, .int m] := SqT.of upd_same
    show gTup K _ _ _ _ (upd H1 p1 (.tup [hv, .int m])) _
    have C2 : Ch [F] H (upd H1 p1 (.tup [hv, .int m])) := c1.trans (Ch.of0 c2)
    have T2 : Ts H (upd H1 p1 (.tup [hv, .int m])) := (ts_fl f0 c1).trans (.of c2)
    have f2 : FlAt (upd H1 p1 (.tup [hv, .int m])) F := f1.ch c2 (by simp)
    have M2 : MdA K (upd H1 p1 (.tup [hv, .int m])) MD KD LD hv es came lg := (mF m0 f0 c1).ch0 c2
    generalize upd H1 p1 (.tup [hv, .int m]) = H2 at c2 s2 C2 T2 f2 M2 ⊢
    refine ⟨p1, _, rfl, s2, rfl, _, _, rfl, _, _, rfl, rfl, ?_⟩
    dsimp only [gName, List.set, L2.start]
    clear c1 f1 c2 s2
    have hk3 : ks.length ≤ 10 := by omega
    refine if_use (fun b H' => Ch [] H2 H') (kept_test M2 le fit) (fun H3 c3 => ?_) (fun H3 c3 => ?_)
    · -- a wish
      have f3 := f2.ch c3 (by simp)
      have C3 : Ch [F] H H3 := C2.trans (Ch.of0 c3)
      have T3 : Ts H H3 := T2.trans (.of c3)
      have rh3 := rh0.ts T3
      refine ⟨_, rfl, _, rfl, ?_⟩
      dsimp only [tC]
      refine ix_dt (n := 0) rh3 rfl fun y1 ry1 => ?_
      refine ⟨_, rfl, ?_⟩
      dsimp only [tC]
      refine ix_dt (n := 1) rh3 rfl fun y2 ry2 => ?_
      rw [ry2.str_inv]
      refine ⟨F, y1, ks, t, rfl, f3, ry1, hk3, fun p v H4 sm c4 t4 f4 r4 => ?_⟩
      have C4 := C3.trans c4
      have T4 := T3.trans t4
      have hz := sm.sz
      have hd := sm.dp
      have pz := pg_sz p
      have pd := Pg.dep p
      have pk : (kn p.dt).length ≤ 1000 := by rw [Pg.kn, List.length_map, Pg.subs_len]; omega
      clear c3 c4 f3 rh3 ry1 ry2 C3 T3 t4
      dsimp only [gName, List.set]
      refine ⟨fun σ' H' => ∃ (v' : V) (d : Dt) (u5 u6 : Option V), σ' = [some (.ref F), some (.ref MD), some hv.h, some (.int m), some v', u5, u6, none, none] ∧ Ch [F] H H' ∧ Ts H H' ∧ FlAt H' F ∧ DR K H' v' d ∧ (kn d).length ≤ 1000 ∧ d.dep ≤ 12, ?_, ?_⟩
      · refine ⟨_, rfl, F, _, rfl, f4, by decide, by decide, fun n H5 _ _ c5 f5 => ⟨rfl, _, rfl, ?_⟩⟩
        have r5 := r4.ts (ts_fl f4 c5)
        have C5 := C4.trans c5
        have T5 := T4.trans (ts_fl f4 c5)
        refine iteD (fun _ => ?_) (fun _ => ?_)
        · refine ⟨_, rfl, v, p.dt, rfl, r5, by omega, pk, fun L xs H6 hL c6 e6 rx6 => ?_⟩
          have f6 := f5.ch c6 (by simp)
          have lx := rx6.len
          have lk1 := kn_pos p.dt
          refine ⟨_, rfl, _, rfl, L, xs, rfl, .inl (SqL.of e6), F, _, rfl, f6, by omega, by omega, fun at_ H7 _ _ c7 f7 => ?_⟩
          have t7 := ts_fl f6 c7
          have r7 := (r5.ch c6).ts t7
          have C7 := C5.trans ((Ch.of0 c6).trans c7)
          have T7 := T5.trans ((Ts.of c6).trans t7)
          refine ⟨_, rfl, _, rfl, (by show 1 ≤ sizeLine; decide), fun L2 hL2 => ?_⟩
          have c8 : Ch [] H7 (upd H7 L2 (.lst [.int at_])) := .new hL2
          have e8 : upd H7 L2 (.lst [.int at_]) L2 = some (.lst [.int at_]) := upd_same
          have n8 : L2 ≠ F := fl_ne f7 hL2
          have hL0 : H L2 = none := by
            cases z : H L2 with
            | none => rfl
            | some o => rw [C7 L2 o (by simpa using n8) z] at hL2; cases hL2
          generalize upd H7 L2 (.lst [.int at_]) = H8 at c8 e8 ⊢
          have f8 := f7.ch c8 (by simp)
          have rh8 := rh0.ts (T7.trans (.of c8))
          refine ⟨_, rfl, _, rfl, ?_⟩
          dsimp only [tC]
          refine ix_dt (n := 0) rh8 rfl fun y1 ry1 => ?_
          refine ⟨_, rfl, ?_⟩
          dsimp only [tC]
          refine ix_dt (n := 1) rh8 rfl fun y2 ry2 => ?_
          refine ⟨(by show 1 ≤ sizeLine; decide), fun p1 hp1 => ?_⟩
          have c9 : Ch [] H8 (upd H8 p1 (.tup [y2])) := .new hp1
          refine cat_dt (ds := ks.map fun (k : Kd) => Dt.str k.s) (es := [Dt.str t.s]) (ry1.ch c9) (.new (.cons ry2 .nil) hp1) (by simp; omega) fun x7 H9 c10 rx => ?_
          rw [ksD_snoc] at rx
          have k89 := c9.trans c10
          refine ⟨F, x7, ks ++ [t], .num, rfl, f8.ch k89 (by simp), rx, (by rw [List.length_append, List.length_singleton]; omega), fun e nv H10 bk c11 t11 f11 re => ?_⟩
          have e10 := c11 L2 _ (in1 n8) (k89 L2 _ (by simp) e8)
          have C10 := C7.trans ((Ch.of0 (c8.trans k89)).trans c11)
          have T10 := T7.trans ((Ts.of (c8.trans k89)).trans t11)
          have r10 := (r7.ch (c8.trans k89)).ts t11
          refine ⟨v, nv, L2, at_, p.dt, e, rfl, r10, e10, re, by omega, by omega, fun x d' k' H11 c12 t12 _ r12 b1 b2 => ?_⟩
          obtain ⟨bk1, bk2⟩ := bk
          have z1 : p.dt.sz * e.sz ≤ 40 * 20 := Nat.mul_le_mul (by omega) bk2
          have z2 := kn_sz _ (Nat.le_refl d'.dep)
          refine ⟨x, d', _, _, rfl, fun a o na ea => ?_, T10.trans t12, f11.ch c12 (by simpa using n8.symm), r12, by omega, by omega⟩
          exact c12 a o (by have := ne_of_none ea hL0; simpa using this) (C10 a o na ea)
        · exact ⟨v, p.dt, _, _, rfl, C5, T5, f5, r5, pk, by omega⟩
      · rintro σ' H5 ⟨v', d, u5, u6, rfl, C5, T5, f5, r5, z1, z2⟩
        obtain ⟨r, wr⟩ := wrong_any (ks ++ [t]) d
        refine ⟨_, rfl, (by show 2 ≤ sizeLine; decide), fun p1 hp1 => ?_⟩
        exact q p1 "wish" v' _ (C5.trans (.new hp1)) (T5.trans (.of (.new hp1))) (f5.ch (.new (S := []) hp1) (by simp)) (SqT.of upd_same) (.inl ⟨rfl, d, r, r5.ch (.new hp1), wr, z1, z2⟩)
    have f3 := f2.ch c3 (by simp)
    have C3 : Ch [F] H H3 := C2.trans (Ch.of0 c3)
    have T3 : Ts H H3 := T2.trans (.of c3)
    have M3 := M2.ch0 c3
    clear f2 C2 T2 M2 c3
    refine if_use (fun b H' => Ch [] H3 H') (kept_test M3 le fit) (fun H4 c4 => ?_) (fun H4 c4 => ?_)
    · -- examples
      have f4 := f3.ch c4 (by simp)
      have C4 : Ch [F] H H4 := C3.trans (Ch.of0 c4)
      have T4 : Ts H H4 := T3.trans (.of c4)
      clear f3 C3 T3 M3 c4
      refine ⟨_, rfl, F, _, rfl, f4, by decide, by decide, fun n H5 n0 n1 c5 f5 => ⟨_, rfl, by omega, by omega, fun L hL => ?_⟩⟩
      have C5 := C4.trans c5
      have T5 := T4.trans (ts_fl f4 c5)
      have nLF : L ≠ F := fl_ne f5 hL
      have hL0 : H L = none := by
        cases z : H L with
        | none => rfl
        | some o => rw [C5 L o (by simpa using nLF) z] at hL; cases hL
      refine lc_range (lo := 0) (n := n.toNat) (fun i H' => Ch [F] H H' ∧ Ts H5 H' ∧ FlAt H' F ∧ ∃ (xs : List V) (sm : List (Dt × Dt)), H' L = some (.lst xs) ∧ DRs K H' xs (sm.map pairD) ∧ sm.length = i ∧ ∀ x ∈ sm, Shd (pairD x)) ?_ ?_ ?_
      · exact ⟨C5.trans (.new hL), .of (.new hL), f5.ch (.new (S := []) hL) (by simp), [], [], upd_same, .nil, rfl, fun x hx => by cases hx⟩
      · rintro j H9 hj ⟨c9, t9, f9, xs, sm, e9, r9, l9, sh9⟩
        refine ⟨rfl, ?_⟩
        refine ⟨_, rfl, _, rfl, ?_⟩
        refine ⟨F, hv, ks, t, rfl, f9, rh0.ts (T5.trans t9), hk3, fun ds an v H10 ha hk c10 t10 f10 r10 => ?_⟩
        have e10 := c10 L _ (in1 nLF) e9
        have lx := r9.len
        rw [List.length_map] at lx
        have t11 : Ts H10 (upd H10 L (.lst (xs ++ [v]))) := .upd (by rw [e10]; trivial)
        refine ⟨xs, e10, small1000 (by omega), (c9.trans c10).mut hL0, t9.trans (t10.trans t11), f10.ch (.put (S := [L]) (by simp)) (by simpa using nLF.symm), xs ++ [v], sm ++ [(.tup ds, an)], upd_same, ?_, by rw [List.length_append, l9]; rfl, fun x hx => ?_⟩
        · rw [List.map_append]
          exact ((r9.ts t10).snoc r10).ts t11
        · rcases List.mem_append.mp hx with hx | hx
          · exact sh9 x hx
          · rw [List.mem_singleton.mp hx]
            exact (okL_are ha).pair (kd_okl hk)
      · rintro H6 ⟨c6, t6, f6, xs, sm, e6, r6, l6, sh6⟩
        have T6 := T5.trans t6
        clear t6 T5 C5 T4 C4 c5 f5 f4 hL
        dsimp only [gName, List.set]
        refine ⟨fun σ' H' => ∃ (xs : List V) (sm : List (Dt × Dt)), σ' = [some (.ref F), some (.ref MD), some hv.h, some (.int m), none, some (.ref L), none, none, none] ∧ Ch [F] H H' ∧ Ts H H' ∧ FlAt H' F ∧ H' L = some (.lst xs) ∧ DRs K H' xs (sm.map pairD) ∧ sm.length ≤ 6 ∧ ∀ x ∈ sm, Shd (pairD x), ?_, ?_⟩
        · have lx := r6.len
          rw [List.length_map] at lx
          refine ⟨_, rfl, F, _, rfl, f6, by decide, by decide, fun b H7 _ _ c7 f7 => ⟨rfl, _, rfl, ?_⟩⟩
          have e7 := c7 L _ (in1 nLF) e6
          have t7 := ts_fl f6 c7
          refine iteD (fun _ => ?_) (fun _ => ?_)
          · refine ⟨_, rfl, .inl ⟨rfl, _, SqL.of e7⟩, ?_⟩
            refine ⟨_, rfl, _, rfl, L, xs, rfl, .inl (SqL.of e7), _, _, rfl, rfl, F, _, rfl, f7, by omega, by omega, fun d4 H8 d40 d41 c8 f8 => ?_⟩
            have t8 := ts_fl f7 c8
            have T8 := T6.trans (t7.trans t8)
            refine ⟨_, rfl, _, rfl, F, hv, ks, t, rfl, f8, rh0.ts T8, hk3, fun i2 a2 v2 H9 sh9 c9 t9 f9 r9 => ?_⟩
            have e9 := c9 L _ (in1 nLF) (c8 L _ (in1 nLF) e7)
            have t69 : Ts H6 H9 := t7.trans (t8.trans t9)
            refine ⟨L, xs, d4, v2, rfl, rfl, e9, small1000 (by omega), d40, by omega, ?_⟩
            have t10 : Ts H9 (upd H9 L (.lst (xs.take d4.toNat ++ [v2] ++ xs.drop d4.toNat))) := .upd (by rw [e9]; trivial)
            refine ⟨_, sm.take d4.toNat ++ [(i2, a2)] ++ sm.drop d4.toNat, rfl, (c6.trans (c7.trans (c8.trans c9))).mut hL0, T6.trans (t69.trans t10), f9.ch (.put (S := [L]) (by simp)) (by simpa using nLF.symm), upd_same, ?_, ?_, fun x hx => ?_⟩
            · rw [List.map_append, List.map_append, List.map_take, List.map_drop]
              have r0 := (r6.ts t69).ts t10
              exact ((r0.take _).app (.cons (r9.ts t10) .nil)).app (r0.drop _)
            · rw [List.length_append, List.length_append, List.length_take, List.length_drop, List.length_singleton]
              omega
            · rcases List.mem_append.mp hx with hx | hx
              · rcases List.mem_append.mp hx with hx | hx
                · exact sh6 x (List.mem_of_mem_take hx)
                · rw [List.mem_singleton.mp hx]
                  exact sh9
              · exact sh6 x (List.mem_of_mem_drop hx)
          · exact ⟨xs, sm, rfl, c6.trans c7, T6.trans t7, f7, e7, r6.ts t7, by omega, sh6⟩
        · clear c6 T6 f6 e6 r6 l6 sh6
          rintro σ' H7 ⟨xs, sm, rfl, C7, T7, f7, e7, r7, l7, sh7⟩
          refine ⟨_, rfl, _, rfl, L, xs, rfl, .inl ⟨SqL.of e7, fun p2 hp2 => ?_⟩⟩
          have c8 : Ch [] H7 (upd H7 p2 (.tup xs)) := .new hp2
          have s8 : SqT K (upd H7 p2 (.tup xs)) p2 xs := SqT.of upd_same
          generalize upd H7 p2 (.tup xs) = H8 at c8 s8 ⊢
          refine ⟨(by show 2 ≤ sizeLine; decide), fun p3 hp3 => ?_⟩
          have c9 : Ch [] H8 (upd H8 p3 (.lst [.ref L, .ref p2])) := .new hp3
          have e9 : upd H8 p3 (.lst [.ref L, .ref p2]) p3 = some (.lst [.ref L, .ref p2]) := upd_same
          generalize upd H8 p3 (.lst [.ref L, .ref p2]) = H9 at c9 e9 ⊢
          have k79 := c8.trans c9
          have f9 := f7.ch k79 (by simp)
          have n3 : p3 ≠ F := fl_ne (f7.ch c8 (by simp)) hp3
          refine ⟨_, rfl, F, _, rfl, f9, by decide, by decide, fun i H10 i0 i1 c10 f10 => ?_⟩
          have t10 := ts_fl f9 c10
          have e10 := c10 p3 _ (in1 n3) e9
          have C10 := C7.trans ((Ch.of0 k79).trans c10)
          have t710 : Ts H7 H10 := (Ts.of k79).trans t10
          have eL10 := c10 L _ (in1 nLF) (k79 L _ (by simp) e7)
          have s10 := t10.sq ((Ts.of c9).sq s8)
          have hi : i = 0 ∨ i = 1 := by omega
          have out : ∀ (x : V), DeedIs K H H10 ks t "examples" x → 2 ≤ sizeLine ∧ ∀ p, H10 p = none → Q (.ref p) (upd H10 p (.tup [.str "examples", x])) := fun x dx => ⟨by decide, fun p hp => by
            refine q p "examples" x _ (C10.trans (.new hp)) (T7.trans (t710.trans (.of (.new hp)))) (f10.ch (.new (S := []) hp) (by simp)) (SqT.of upd_same) ?_
            rcases dx with ⟨z, _⟩ | ⟨_, tp, L', xs', sm', h1, h2, h3, h4, h5⟩ | ⟨z, _⟩
            · exact absurd z (by decide +kernel)
            · exact .inr (.inl ⟨rfl, tp, L', xs', sm', h1, h2.ch0 (.new hp), h3, h4.ch (.new hp), h5⟩)
            · exact absurd z (by decide +kernel)⟩
          rcases hi with rfl | rfl
          · exact ⟨p3, _, 0, .ref L, rfl, rfl, SqL.of e10, rfl, out _ (.inr (.inl ⟨rfl, false, L, xs, sm, rfl, eL10, fun _ => hL0, r7.ts t710, l7, sh7⟩))⟩
          · exact ⟨p3, _, 1, .ref p2, rfl, rfl, SqL.of e10, rfl, out _ (.inr (.inl ⟨rfl, true, p2, xs, sm, rfl, s10, (fun z => by cases z), r7.ts t710, l7, sh7⟩))⟩
    -- one taken back
    have f4 := f3.ch c4 (by simp)
    have C4 : Ch [F] H H4 := C3.trans (Ch.of0 c4)
    have T4 : Ts H H4 := T3.trans (.of c4)
    have M4 := M3.ch0 c4
    clear f3 C3 T3 M3 c4
    obtain ⟨kvs, lgs, g1, g2, g3, kvr, _, _⟩ := M4.ex
    have lkv := kvr.len
    refine ⟨_, rfl, MD, _, rfl, md_kept g1, KD, kvs, rfl, g2, fun q1 hq1 => ?_⟩
    have c5 : Ch [] H4 (upd H4 q1 (.lst (kvs.map fun kv => kV kv.1))) := .new hq1
    have e5 : upd H4 q1 (.lst (kvs.map fun kv => kV kv.1)) q1 = some (.lst (kvs.map fun kv => kV kv.1)) := upd_same
    generalize upd H4 q1 (.lst (kvs.map fun kv => kV kv.1)) = H5 at c5 e5 ⊢
    refine ⟨_, rfl, MD, _, rfl, md_came (c5 MD _ (by simp) g1), _, _, rfl, rfl, (by show 3 ≤ sizeLine; decide), fun q2 hq2 => ?_⟩
    have c6 : Ch [] H5 (upd H5 q2 (.lst [.int came, .int (0 - 1), .int 77])) := .new hq2
    have e6 : upd H5 q2 (.lst [.int came, .int (0 - 1), .int 77]) q2 = some (.lst [.int came, .int (0 - 1), .int 77]) := upd_same
    generalize upd H5 q2 (.lst [.int came, .int (0 - 1), .int 77]) = H6 at c6 e6 ⊢
    refine ⟨q1, q2, _, _, rfl, rfl, c6 q1 _ (by simp) e5, e6, Nat.le_of_lt (small1000 (by rw [List.length_map, lkv]; show es.length + 3 ≤ 1000; omega)), fun q3 hq3 => ?_⟩
    have lall : ((kvs.map fun kv => kV kv.1) ++ [V.int came, V.int (0 - 1), V.int 77]).length = es.length + 3 := by rw [List.length_append, List.length_map, lkv]; rfl
    have numb : ∀ x : V, x ∈ (kvs.map fun kv => kV kv.1) ++ [V.int came, V.int (0 - 1), V.int 77] → ∃ i : Int, x = V.int i := by
      intro x hx
      rcases List.mem_append.mp hx with hx | hx
      · obtain ⟨kq, hkq, rfl⟩ := List.mem_map.mp hx
        obtain ⟨j, hj⟩ := List.mem_iff_getElem?.mp hkq
        obtain ⟨num, d, hkn, _⟩ := kvr.get (k := kq.1) (v := kq.2) hj
        exact ⟨num, by rw [hkn]; rfl⟩
      · simp only [List.mem_cons, List.not_mem_nil, or_false] at hx
        rcases hx with rfl | rfl | rfl
        · exact ⟨_, rfl⟩
        · exact ⟨_, rfl⟩
        · exact ⟨_, rfl⟩
    generalize (kvs.map fun kv => kV kv.1) ++ [V.int came, V.int (0 - 1), V.int 77] = allv at lall numb ⊢
    have c7 : Ch [] H6 (upd H6 q3 (.lst allv)) := .new hq3
    have e7 : upd H6 q3 (.lst allv) q3 = some (.lst allv) := upd_same
    generalize upd H6 q3 (.lst allv) = H7 at c7 e7 ⊢
    have k47 := c5.trans (c6.trans c7)
    have f7 := f4.ch k47 (by simp)
    have n3 : q3 ≠ F := by
      obtain ⟨_, _, _, ef, _⟩ := f4.ch (c5.trans c6) (by simp)
      exact (ne_of_none ef hq3).symm
    refine ⟨_, rfl, _, rfl, _, rfl, q3, allv, rfl, .inl (SqL.of e7), F, _, rfl, f7, by omega, by omega, fun i H8 i0 i1 c8 f8 => ?_⟩
    obtain ⟨x, hx, hm⟩ := atI_lt (xs := allv) i0 i1
    obtain ⟨z, rfl⟩ := numb x hm
    refine ⟨q3, allv, i, _, rfl, rfl, SqL.of (c8 q3 _ (in1 n3) e7), hx, (by show 2 ≤ sizeLine; decide), fun p hp => ?_⟩
    have t8 := ts_fl f7 c8
    exact q p "back" (.int z) _ (C4.trans ((Ch.of0 k47).trans (c8.trans (.new hp)))) (T4.trans ((Ts.of k47).trans (t8.trans (.of (.new hp))))) (f8.ch (.new (S := []) hp) (by simp)) (SqT.of upd_same) (.inr (.inr ⟨rfl, z, rfl⟩))
end
end LM
set_option Elab.async false
set_option linter.all false
set_option maxRecDepth 100000
set_option maxHeartbeats 4000000
/-! ==, with either answer: tuples by their items; a list's count by an own == -/
namespace LMX
open PySem PySem.SeqAt PyProof.Rows
open AutoSeq1 (wpAny_loadPart')
open MeetsSeq MeetsSeq2 MeetsSeq3 SeqRoads2
section
variable {P : Program} {w : World} {A : Around} {R : Result → Shared → Prop}
theorem tup_run {a b : Addr} {xs ys : Array Value} {n m : Nat} {da db : Option Addr} {sa sb : Array (Option Value)} (hs : xs.size = ys.size) (e : Nat → Bool) {s : Shared}
    (ha : s.heap.get? a = some { cls := .type "tuple", dict := da, data := .seq xs n, slots := sa }) (hb : s.heap.get? b = some { cls := .type "tuple", dict := db, data := .seq ys m, slots := sb })
    (he : ∀ j (h1 : j < xs.size) (h2 : j < ys.size), EqP P w A.in1 s xs[j] ys[j] (e j)) (hR : R (.ok (.ret (.bool ((List.range xs.size).all e)))) s) :
    wpAny (model P w) A.in1 (Builtin.«tuple.__eq__» ⟨[.ref a, .ref b], []⟩) (GQ.FinOf P w A R) (fun e s' => R (.error e) s') s := by
  have sub := AutoSeq1.sub_tuple_tuple
  have lz : (xs.toList.zip ys.toList).length = xs.size := by simp [hs]
  have h0 := hR
  obtain ⟨hp, g, d, tk, os⟩ := s
  wp_walk using wpAny_loadPart' ha, wpAny_loadPart' hb, wpAny_forIn_list _ (fun rest c t => c.1 = none ∧ t = ⟨hp, g, d, tk, os⟩ ∧ ∃ i, rest = (xs.toList.zip ys.toList).drop i ∧ R (.ok (.ret (.bool (((List.range xs.size).drop i).all e)))) ⟨hp, g, d, tk, os⟩) _
  case turn =>
    rintro ⟨p, q⟩ rest c t ⟨hc, rfl, i, hz, hr⟩
    have il : i < (xs.toList.zip ys.toList).length := by
      rcases Nat.lt_or_ge i (xs.toList.zip ys.toList).length with z | z
      · exact z
      · rw [List.drop_of_length_le z] at hz; cases hz
    have i1 : i < xs.size := lz ▸ il
    have i2 : i < ys.size := hs ▸ i1
    rw [List.drop_eq_getElem_cons il] at hz
    injection hz with hpq hrest
    have ep : p = xs[i] := by have := congrArg Prod.fst hpq; simpa using this
    have eq : q = ys[i] := by have := congrArg Prod.snd hpq; simpa using this
    subst ep eq
    have hd : (List.range xs.size).drop i = i :: (List.range xs.size).drop (i + 1) := by simp [List.drop_eq_getElem_cons, i1]
    rw [hd, List.all_cons] at hr
    refine wpAny_bind (he i i1 i2 _ _ ?_)
    cases hy : e i with
    | true =>
      rw [hy] at hr
      wp_walk
      exact ⟨rfl, rfl, i + 1, hrest, by simpa using hr⟩
    | false =>
      rw [hy] at hr
      wp_walk
      simpa using hr
  case fin =>
    rintro ⟨c1, c2⟩ t ⟨hc, rfl, i, hz, hr⟩
    simp only at hc
    subst hc
    have ge : xs.size ≤ i := by
      rcases Nat.lt_or_ge i (xs.toList.zip ys.toList).length with z | z
      · rw [List.drop_eq_getElem_cons z] at hz; cases hz
      · exact lz ▸ z
    rw [List.drop_of_length_le (by simpa using ge)] at hr
    wp_walk
    simpa [Builtin.Tuple.tupleCompareSizes, hs] using hr
  case h =>
    exact ⟨rfl, rfl, 0, rfl, by simpa using h0⟩
/-- == of two tuples of one length, their items' answers being known -/
theorem rc_tuples {a b : Addr} {xs ys : Array Value} {E Q : Value → Shared → Prop} {s : Shared} (hs : xs.size = ys.size) (e : Nat → Bool) (hu : A.units < cLine) (ha : s.heap.IsTuple a xs) (hb : s.heap.IsTuple b ys)
    (he : ∀ j (h1 : j < xs.size) (h2 : j < ys.size), EqP P w A.in1 s xs[j] ys[j] (e j)) (q : Q (.bool ((List.range xs.size).all e)) s) : wpAny (model P w) A (richCompare .Eq (.ref a) (.ref b)) Q E s := by
  obtain ⟨⟨c1, d1, dat1, s1⟩, g1, k1, n1, j1⟩ := id ha
  obtain ⟨⟨c2, d2, dat2, s2⟩, g2, k2, n2, j2⟩ := id hb
  simp only at k1 j1 k2 j2
  subst k1 j1 k2 j2
  refine wpAny_richCompare_same_room (op := .Eq) ⟨_, g1, rfl⟩ ⟨_, g2, rfl⟩ F.slot_tuple_eq (GQ.call_here F.slot_tuple_eq ⟨_, g1, rfl⟩ F.entry_tuple_eq (F.args_tuple_eq_2 _ _) ?_) hu
  exact tup_run (R := wants (fun v t => v ≠ .notImplemented ∧ Q v t) E) hs e g1 g2 he ⟨(fun x => nomatch x), q⟩
/-- list.count, each item's == being run; I tells what the turns keep, c what they have found -/
theorem cnt_run {a : Addr} {x : Value} {N : Nat} (e : Nat → Bool) (I : Nat → Shared → Prop)
    (hl : ∀ i s, I i s → ∃ (xs : Array Value) (n : Nat), s.heap.get? a = some { cls := .type "list", data := .seq xs n } ∧ xs.size = N ∧ ∀ (h1 : i < xs.size), wpAny (model P w) A.in1 (eqBool xs[i] x) (fun r s' => r = e i ∧ I (i + 1) s') (fun e s' => R (.error e) s') s)
    (fin : ∀ s, I N s → R (.ok (.ret (.int ((List.range N).countP e : Nat) s.toks))) { s with toks := s.toks + 1 }) (k : Nat) :
    ∀ (i : Nat) (f : Int), N - i = k → i ≤ N → f = (((List.range N).take i).countP e : Nat) → ∀ s, I i s →
      wpAny (model P w) A.in1 (Builtin.«list.count.loop» ⟨[.ref a, x, rawInt i, rawInt f], []⟩) (GQ.FinOf P w A R) (fun e s' => R (.error e) s') s := by
  induction k with
  | zero =>
    intro i f hk hi hf s h
    obtain ⟨xs, n, ha, hN, _⟩ := hl _ _ h
    have ei : i = N := by omega
    have hR := fin s (ei ▸ h)
    have ef : f = ((List.range N).countP e : Nat) := by
      rw [hf, List.take_of_length_le (by simp; omega)]
    obtain ⟨hp, g, d, tk, os⟩ := s
    wp_walk using wpAny_loadPart' ha
    have hx : xs[((i : Nat) : Int).toNat]? = none := by simp; omega
    rw [hx]
    wp_walk
    rw [ef]
    exact hR
  | succ k ih =>
    intro i f hk hi hf s h
    obtain ⟨xs, n, ha, hN, turn⟩ := hl _ _ h
    have hlt : i < xs.size := by omega
    have ht := turn hlt
    obtain ⟨hp, g, d, tk, os⟩ := s
    wp_walk using wpAny_loadPart' ha
    have hx : xs[((i : Nat) : Int).toNat]? = some xs[i] := by simp [hlt]
    have hc : ((i : Int) + 1) = ((i + 1 : Nat) : Int) := by omega
    rw [hx]
    refine wpAny_bind (wpAny_mono ht (fun r t z => ?_) fun _ _ z => z)
    obtain ⟨rfl, hI⟩ := z
    have hr : (List.range N)[i]? = some i := by rw [List.getElem?_range (by omega)]
    have htk : (List.range N).take (i + 1) = (List.range N).take i ++ [i] := by
      rw [List.take_add_one, hr]
      rfl
    obtain ⟨hp2, g2, d2, tk2, os2⟩ := t
    wp_walk
    rw [hc]
    refine ⟨plainId_quiet plain_count_loop _, codeAny_builtin entry_count_loop (by
      rw [Around.under_plainId plain_count_loop _]
      refine ih (i + 1) _ (by omega) (by omega) ?_ _ hI
      rw [htk, List.countP_append, hf]
      cases hb : e i with
      | false => simp [hb]
      | true => simp [hb])⟩
theorem cnt_list {a : Addr} {x : Value} {N : Nat} (e : Nat → Bool) (I : Nat → Shared → Prop)
    (hl : ∀ i s, I i s → ∃ (xs : Array Value) (n : Nat), s.heap.get? a = some { cls := .type "list", data := .seq xs n } ∧ xs.size = N ∧ ∀ (h1 : i < xs.size), wpAny (model P w) A.in1 (eqBool xs[i] x) (fun r s' => r = e i ∧ I (i + 1) s') (fun e s' => R (.error e) s') s)
    (fin : ∀ s, I N s → R (.ok (.ret (.int ((List.range N).countP e : Nat) s.toks))) { s with toks := s.toks + 1 }) {s : Shared} (h : I 0 s) :
    wpAny (model P w) A.in1 (Builtin.«list.count» ⟨[.ref a, x], []⟩) (GQ.FinOf P w A R) (fun e s' => R (.error e) s') s := by
  obtain ⟨xs, n, ha, hN, _⟩ := hl _ _ h
  have hrec := cnt_run e I hl fin _ 0 0 rfl (Nat.zero_le _) (by simp) s h
  obtain ⟨hp, g, d, tk, os⟩ := s
  wp_walk using wpAny_loadPart' ha
  exact ⟨plainId_quiet plain_count_loop _, codeAny_builtin entry_count_loop (by
    rw [Around.under_plainId plain_count_loop _]
    exact hrec)⟩
end
end LMX
set_option Elab.async false
set_option linter.all false
set_option maxRecDepth 100000
set_option maxHeartbeats 4000000
/-! != of an instance with an own == and no own != -/
namespace LMX
open PySem PySem.Spec PyProof.Rows PySem.SeqAt
section
variable {M : Model} {prog : Program} {w : World} {A : Around} {E : Value → Shared → Prop} {s : Shared} {K : PySem.W.Frag} {x C f L : Addr} {h₀ : Heap} {m : Str → Option Value} {ox : Obj} {od : Option Obj} {b tb : Value}
/-- object.__ne__: not what the own == tells -/
theorem ne_body {Q : Fin → Shared → Prop} (X : K.In s.heap) (I : PySem.W.InstAt s.heap x ox C od) (he : PySem.W.findIn K (.ref C) "__eq__" = some (some (.ref f))) (hf : PySem.W.isFn K (.ref f) = true) (hu : A.units < cLine)
    (h : wpAny (model prog w) A (call (.ref f) [.ref x, b]) (fun v t => ∃ c, v = .bool c ∧ Q (.done (.ret (.bool (!c)))) t) E s) : wpAny (model prog w) A (Builtin.«object.__ne__» ⟨[.ref x, b], []⟩) Q E s := by
  unfold Builtin.«object.__ne__»
  repeat (first
    | with_reducible refine wpAny_cRoomFor hu ?_
    | (refine wpAny_bind (m := callSpecialIfBound? (.ref x) (Str.ofString "__eq__") [b]) (PySem.W.ifBound_K X I he hf (wpAny_mono h (fun v t z => by
          obtain ⟨c, rfl, q⟩ := z
          repeat (first | exact q | exact wpAny_pure q | exact wpAny_truthy_bool q | (refine wpAny_bind (m := truthy (.bool _)) (wpAny_truthy_bool ?_)) | wp_step)) fun _ _ e => e)))
    | wp_step)
theorem ne_call {Q : Value → Shared → Prop} (X : K.In s.heap) (I : PySem.W.InstAt s.heap x ox C od) (hm : PySem.W.mroIn K C (.type "object") = some true) (he : PySem.W.findIn K (.ref C) "__eq__" = some (some (.ref f))) (hf : PySem.W.isFn K (.ref f) = true) (hu : A.units + 1 < cLine)
    (h : wpAny (model prog w) A.in1 (call (.ref f) [.ref x, b]) (fun v t => ∃ c, v = .bool c ∧ Q (.bool (!c)) t) E s) : wpAny (model prog w) A (call (.builtin "object.__ne__") [.ref x, b]) Q E s :=
  wpAny_call (codeAny_call_builtin F.cmp_object.ne.plain F.cmpEntry_ne (PySem.W.check_slot F.cmpKind_ne F.cmpSplit_ne (I.type.andThen (PySem.W.looks_mroIn X hm)) (F.cmpArgs_ne _ _) (ne_body X I he hf (by exact hu) h)))
theorem ne_bound {args : List Value} {Q : Option Value → Shared → Prop} (X : K.In s.heap) (I : PySem.W.InstAt s.heap x ox C od) (hs : PySem.W.findIn K (.ref C) "__ne__" = some (some (.builtin "object.__ne__")))
    (h : wpAny M A (call (.builtin "object.__ne__") (.ref x :: args)) (fun v => Q (some v)) E s) : wpAny M A (callSpecialIfBound? (.ref x) "__ne__" args) Q E s := by
  simp only [callSpecialIfBound?, bindSpecialIfBound?]
  refine wpAny_holding (wpAny_bind (wpAny_bind (wpAny_bind (I.type.here ((PySem.W.looks_findIn X hs).here ?_)))))
  refine wpAny_bind (wpAny_askSetting (wpAny_ite ?_))
  have last : wpAny M A (call (.builtin "object.__ne__") ([.ref x] ++ args) >>= fun v => pure (some v)) Q E s := wpAny_bind (wpAny_mono h (fun v t z => wpAny_pure z) fun _ _ z => z)
  split
  · exact wpAny_bind (wpAny_of_eq (F.cmp_object.ne.bind _) (wpAny_pure (by exact last)))
  · exact wpAny_tryCatch (wpAny_bind (wpAny_of_eq (F.cmp_object.ne.bind _) (wpAny_pure (by exact last))))
theorem ne_K {Q : Value → Shared → Prop} (hu : A.units + 1 < cLine) (X : K.In s.heap) (I : PySem.W.InstAt s.heap x ox C od) (hb : PySem.W.Looks (model prog w) s.heap (typeOf b) tb) (hn : PySem.W.notFirst K C tb = true) (hm : PySem.W.mroIn K C (.type "object") = some true)
    (hs : PySem.W.findIn K (.ref C) "__ne__" = some (some (.builtin "object.__ne__"))) (he : PySem.W.findIn K (.ref C) "__eq__" = some (some (.ref f))) (hf : PySem.W.isFn K (.ref f) = true)
    (h : wpAny (model prog w) A.in1 (call (.ref f) [.ref x, b]) (fun v t => ∃ c, v = .bool c ∧ Q (.bool (!c)) t) E s) : wpAny (model prog w) A (richCompare .NotEq (.ref x) b) Q E s := by
  have one : wpAny (model prog w) A (tryCompare (.ref x) "__ne__" b) (fun r t => ∃ v, r = some v ∧ Q v t) E s := by
    unfold tryCompare
    refine wpAny_bind (ne_bound X I hs (ne_call X I hm he hf hu (wpAny_mono h (fun v t z => ?_) fun _ _ e => e)))
    obtain ⟨c, rfl, q⟩ := z
    exact ⟨c, rfl, wpAny_pure ⟨_, rfl, q⟩⟩
  simp only [richCompare, cmpInfo_NotEq, oneThing_ref]
  refine wpAny_holding (wpAny_bind (wpAny_cRoomFor (Nat.lt_of_succ_lt hu) ?_))
  refine wpAny_bind (I.type.here (wpAny_bind (hb.here ?_)))
  split
  · rename_i q
    have e : PySem.W.subIn K tb (.ref C) = some false := by
      rcases Bool.or_eq_true_iff.mp hn with z1 | z1
      · rw [beq_iff_eq.mp z1] at q; simp at q
      · exact beq_iff_eq.mp z1
    refine wpAny_bind ((PySem.W.looks_subIn X e).here ?_)
    simp only [Bool.false_eq_true, if_false]
    refine wpAny_bind (m := tryCompare (.ref x) _ b) (wpAny_mono one (fun r t z => ?_) fun _ _ e => e)
    obtain ⟨v, rfl, q2⟩ := z
    exact wpAny_pure q2
  · refine wpAny_bind (wpAny_pure ?_)
    simp only [Bool.false_eq_true, if_false]
    refine wpAny_bind (m := tryCompare (.ref x) _ b) (wpAny_mono one (fun r t z => ?_) fun _ _ e => e)
    obtain ⟨v, rfl, q2⟩ := z
    exact wpAny_pure q2
end
end LMX
set_option Elab.async false
set_option linter.all false
set_option maxRecDepth 100000
set_option maxHeartbeats 4000000
/-! == and != with either answer, over the heap of objects -/
namespace LM
open PySem PySem.Spec PyProof.Rows L2
/-- a dict's pairs looked up in another one, data by data -/
inductive DHits (K : PySem.W.Frag) (H : Hp) (ls : List (Key × V)) : List (Key × V) → Bool → Prop
  | nil : DHits K H ls [] true
  | miss {p : Key × V} {r : List (Key × V)} : valV ls p.1 = none → DHits K H ls (p :: r) false
  | hit {p : Key × V} {r : List (Key × V)} {u : V} {d e : PyData} {b : Bool} : valV ls p.1 = some u → Dp K H p.2 d → Dp K H u e → SeqAt.shaped d = true → SeqAt.shaped e = true → DHits K H ls r b → DHits K H ls (p :: r) (PyData.eqv d e && b)
/-- x == y tells b: data, or dicts of data -/
def EqB (K : PySem.W.Frag) (H : Hp) (x y : V) (b : Bool) : Prop :=
  (∃ d e : PyData, Dp K H x d ∧ Dp K H y e ∧ SeqAt.shaped d = true ∧ SeqAt.shaped e = true ∧ b = PyData.eqv d e) ∨
  (∃ (p q : Addr) (ks ls : List (Key × V)) (r : Bool), x = .ref p ∧ y = .ref q ∧ H p = some (.dK ks) ∧ H q = some (.dK ls) ∧ DHits K H ls ks r ∧ b = (ks.length == ls.length && r) ∧ (p = q → b = true))
section
variable {X : Cx} {pins : List (Addr × Obj)} {σ : L2.St} {H : Hp} {s : Shared} {A : Around}
theorem data_run (I : Inv X pins σ H s) (hu : A.units + 64 < cLine) {x y : V} {v u : Value} {d e : PyData} (h1 : Dp X.K H x d) (h2 : Dp X.K H y e) (sd : SeqAt.shaped d = true) (se : SeqAt.shaped e = true) (rx : RelV x v) (ry : RelV y u) : SeqAt.EqP X.prog X.w A s v u (PyData.eqv d e) := by
  obtain ⟨as, r1⟩ := Dp.reads I d x v h1 rx
  obtain ⟨bs, r2⟩ := Dp.reads I e y u h2 ry
  exact (SeqAt.eqAt_reads d e A s v u as bs r1 r2 (SeqAt.canLay_of_shaped sd) (SeqAt.canLay_of_shaped se) (SeqAt.room_of_shaped sd (by omega))).eqP
theorem hits_any (I : Inv X pins σ H s) (hu : A.units + 64 < cLine) {ls : List (Key × V)} {vb : List (Key × Value)} (rb : KV ls vb) {ks : List (Key × V)} {r : Bool} (h : DHits X.K H ls ks r) : ∀ {va : List (Key × Value)}, KV ks va → PySem.W.KeqHitsP X.prog X.w A s vb va r := by
  induction h with
  | nil =>
    intro va ra
    cases ra
    exact .nil
  | @miss p r hn =>
    intro va ra
    cases ra with
    | @cons _ q _ qs h1 h2 =>
      obtain ⟨e1, e2⟩ := h1
      obtain ⟨key, v⟩ := q
      have e1' : p.1 = key := e1
      have rr : RelO none (valueAt vb p.1) := by rw [← hn]; exact rb.val p.1
      refine .miss ?_
      rw [← e1']
      cases z : valueAt vb p.1 with
      | none => rfl
      | some y => rw [z] at rr; exact rr.elim
  | @hit p r u d e b hy h1 h2 sd se _ ih =>
    intro va ra
    cases ra with
    | @cons _ q _ qs g1 g2 =>
      obtain ⟨e1, e2⟩ := g1
      obtain ⟨key, v⟩ := q
      have e1' : p.1 = key := e1
      have rr : RelO (some u) (valueAt vb p.1) := by rw [← hy]; exact rb.val p.1
      obtain ⟨y, hy2, ry⟩ := rr.some_of
      rw [e1'] at hy2
      exact .hit hy2 (data_run I hu h1 h2 sd se e2 ry) (ih g2)
theorem eqB_run (I : Inv X pins σ H s) (hu : A.units + 100 < cLine) {x y : V} {v u : Value} {b : Bool} (h : EqB X.K H x y b) (rx : RelV x v) (ry : RelV y u) : SeqAt.EqP X.prog X.w A s v u b := by
  rcases h with ⟨d, e, h1, h2, sd, se, rfl⟩ | ⟨p, q, ks, ls, r, rfl, rfl, hp, hq, hh, eb, same⟩
  · exact data_run I (by omega) h1 h2 sd se rx ry
  · cases (show v = Value.ref p from rx)
    cases (show u = Value.ref q from ry)
    by_cases z : p = q
    · subst z
      rw [same rfl]
      exact (SeqAt.EqAt.same _).eqP
    · obtain ⟨_, ya, va, ra, da⟩ := (show ObjOk X.prog X.w H s.heap p (.dK ks) from I.hok p _ hp)
      obtain ⟨_, yb, vb, rb, db⟩ := (show ObjOk X.prog X.w H s.heap q (.dK ls) from I.hok q _ hq)
      refine SeqAt.eqP_refs z fun E Q k => ?_
      refine PySem.W.rcP_dicts (knd := mixKind X.prog X.w) (r := r) ya yb da db (by omega) (fun _ => hits_any I (A := A.in1) (by show A.units + 1 + 64 < cLine; omega) rb hh ra) E Q ?_
      rw [← ra.length, ← rb.length, ← eb]
      exact k
/-- tuple == tuple, its items so -/
def rEqTB (K : PySem.W.Frag) : R2 := fun x y H Q => ∃ (p q : Addr) (xs ys : List V) (bs : List Bool), x = .ref p ∧ y = .ref q ∧ SqT K H p xs ∧ SqT K H q ys ∧ xs.length = bs.length ∧ ys.length = bs.length ∧ (∀ (i : Nat) (a c : V) (b : Bool), xs[i]? = some a → ys[i]? = some c → bs[i]? = some b → EqB K H a c b) ∧ Q (.bl (bs.all id)) H
theorem all_get (bs : List Bool) : ((List.range bs.length).all fun j => bs.getD j true) = bs.all id := by
  have h : (List.range bs.length).map (fun j => bs.getD j true) = bs := by
    refine List.ext_getElem (by simp) fun i h1 h2 => ?_
    simp [List.getD_eq_getElem?_getD, List.getElem?_eq_getElem h2]
  have e : ((List.range bs.length).all fun j => bs.getD j true) = ((List.range bs.length).map fun j => bs.getD j true).all id := by rw [List.all_map]; rfl
  rw [e, h]
theorem op_eqTB (hu : X.A.units + 110 < cLine) : OpR X (compareOp .Eq) (rEqTB X.K) := by
  rintro pins s σ H x y v u Q I rx ry ⟨p, q, xs, ys, bs, rfl, rfl, s1, s2, l1, l2, hb, k⟩
  cases (show v = Value.ref p from rx)
  cases (show u = Value.ref q from ry)
  obtain ⟨its, r1, e1, _⟩ := I.tuple s1
  obtain ⟨its2, r2, e2, _⟩ := I.tuple s2
  have n1 := r1.length
  have n2 := r2.length
  refine LMX.rc_tuples (E := X.xe) (xs := its.toArray) (ys := its2.toArray) (by rw [List.size_toArray, List.size_toArray]; omega) (fun j => bs.getD j true) (by omega) e1 e2 (fun j h1 h2 => ?_) ?_
  · have i1 : j < its.length := by simpa using h1
    have i2 : j < its2.length := by simpa using h2
    obtain ⟨a, ha⟩ : ∃ a, xs[j]? = some a := ⟨_, List.getElem?_eq_getElem (by omega)⟩
    obtain ⟨c, hc⟩ : ∃ a, ys[j]? = some a := ⟨_, List.getElem?_eq_getElem (by omega)⟩
    have ib : j < bs.length := by omega
    obtain ⟨v1, g1, w1⟩ := r1.get ha
    obtain ⟨v2, g2, w2⟩ := r2.get hc
    have k1 : its.toArray[j] = v1 := by
      have : its[j]? = some its.toArray[j] := by rw [List.getElem?_eq_getElem i1]; simp
      rw [g1] at this
      exact (Option.some.inj this).symm
    have k2 : its2.toArray[j] = v2 := by
      have : its2[j]? = some its2.toArray[j] := by rw [List.getElem?_eq_getElem i2]; simp
      rw [g2] at this
      exact (Option.some.inj this).symm
    rw [k1, k2]
    have kb : bs.getD j true = bs[j] := by rw [List.getD_eq_getElem?_getD, List.getElem?_eq_getElem ib]; rfl
    rw [kb]
    exact eqB_run I (A := X.A.in1) (by show X.A.units + 1 + 100 < cLine; omega) (hb j a c bs[j] ha hc (List.getElem?_eq_getElem ib)) w1 w2
  · have : its.toArray.size = bs.length := by rw [List.size_toArray]; omega
    rw [this, all_get]
    exact ⟨.bl (bs.all id), H, I, rfl, k⟩
end
/-! ### an own == -/
/-- such a value's == does not go first -/
def NotF (K : PySem.W.Frag) (H : Hp) (C : Addr) (y : V) : Prop := ∃ t, TyX K H y t ∧ PySem.W.notFirst K C t = true
def rEqOwn (K : PySem.W.Frag) (C : Addr) (sp : Sp) : R2 := fun x y H Q => ∃ (a dx : Addr) (fs : List (Str × V)), x = .ref a ∧ H a = some (.ins C dx fs) ∧ NotF K H C y ∧ sp [x, y] H (fun v H' => ∃ b, v = .bl b ∧ Q (.bl b) H') E0
def rNeOwn (K : PySem.W.Frag) (C : Addr) (sp : Sp) : R2 := fun x y H Q => ∃ (a dx : Addr) (fs : List (Str × V)), x = .ref a ∧ H a = some (.ins C dx fs) ∧ NotF K H C y ∧ sp [x, y] H (fun v H' => ∃ b, v = .bl b ∧ Q (.bl (!b)) H') E0
/-- what the class tells of == and != -/
structure NeC (K : PySem.W.Frag) (C : Addr) : Prop where
  m : PySem.W.mroIn K C (.type "object") = some true
  n : PySem.W.findIn K (.ref C) "__ne__" = some (some (.builtin "object.__ne__"))
section
variable {X : Cx} {k : Nat} {C : Addr} {ps : List Str} {sp : Sp}
theorem own_call (O : OkM X.prog X.w X.K X.mg X.base CX0 k C "__eq__" ps sp) {A : Around} {pins : List (Addr × Obj)} {σ : L2.St} {H : Hp} {s : Shared} {a : Addr} {y : V} {u : Value} {Q : Value → Shared → Prop} {R : Bool → Hp → Prop} (hr : Room k A) (e0 : Env0 X.prog X.w X.K X.mg X.base A X.stack s H) (I : Inv X pins σ H s) (ry : RelV y u)
    (h : sp [.ref a, y] H (fun v H' => ∃ b, v = .bl b ∧ R b H') E0) {E : Value → Shared → Prop} (q : ∀ b s' H', Inv X pins σ H' s' → R b H' → Q (.bool b) s') :
    ∃ f, PySem.W.findIn X.K (.ref C) "__eq__" = some (some (.ref f)) ∧ PySem.W.isFn X.K (.ref f) = true ∧ wpAny (model X.prog X.w) A (call (.ref f) [.ref a, u]) Q E s := by
  obtain ⟨c, f, fd, M, b, F⟩ := O
  refine ⟨f, M.at_, M.fn, ?_⟩
  have hl : ([Value.ref a, u] ++ ([] : List Value)).length = ps.length := F.len _ _ _ _ h
  refine wpAny_call (codeAny_mono (F.run A X.stack s H ⟨[.ref a, u], []⟩ [.ref a, u] [.ref a, y] _ E0 hr e0 (b s [.ref a, u] I.kIn hl) (.cons rfl (.cons ry .nil)) h) fun r2 s2 hq => ?_)
  cases r2 with
  | error e => exact hq.elim
  | ok fl =>
    cases fl with
    | ret w =>
      obtain ⟨v, H', I2, rv, n, rfl, k⟩ := I.after hq
      cases (show w = Value.bool n from rv)
      exact q n s2 H' I2 k
    | next => exact False.elim hq
    | brk => exact False.elim hq
    | cont => exact False.elim hq
theorem op_eqOwn (O : OkM X.prog X.w X.K X.mg X.base CX0 k C "__eq__" ps sp) (hr : Room k X.A) : OpR X (compareOp .Eq) (rEqOwn X.K C sp) := by
  rintro pins s σ H x y v u Q I rx ry ⟨a, dx, fs, rfl, ea, ⟨t, ty, nf⟩, h⟩
  cases (show v = Value.ref a from rx)
  obtain ⟨mA, O1, _⟩ := ins_get I.hok ea
  obtain ⟨od, J, _⟩ := O1.look
  obtain ⟨P, Z, hp, _⟩ := kit_of I ry ty
  obtain ⟨m, fr⟩ := I.fr
  obtain ⟨f, h1, h2, h3⟩ := own_call O (A := X.A) (E := X.xe) (Q := PySem.W.CmpBack (EP X pins σ Q)) hr I.env0 I ry h fun b s' H' I' q => ⟨.bl b, H', I', rfl, q⟩
  show wpAny _ _ (richCompare .Eq (.ref a) u) _ _ _
  exact PySem.W.cmp_K (op := .Eq) (tb := t) hr.units0 fr I.ok.mod.kin J (Z.ty _ _ I.kIn hp) nf h1 h2 h3
theorem op_neOwn (N : NeC X.K C) (O : OkM X.prog X.w X.K X.mg X.base CX0 k C "__eq__" ps sp) (hr : Room (k + 1) X.A) (hu : X.A.units + 1 < cLine) : OpR X (compareOp .NotEq) (rNeOwn X.K C sp) := by
  rintro pins s σ H x y v u Q I rx ry ⟨a, dx, fs, rfl, ea, ⟨t, ty, nf⟩, h⟩
  cases (show v = Value.ref a from rx)
  obtain ⟨mA, O1, _⟩ := ins_get I.hok ea
  obtain ⟨od, J, _⟩ := O1.look
  obtain ⟨P, Z, hp, _⟩ := kit_of I ry ty
  obtain ⟨f, h1, h2, h3⟩ := own_call O (A := X.A.in1) (E := X.xe) (Q := fun v t => ∃ c, v = .bool c ∧ EP X pins σ Q (.bool (!c)) t) hr.in1 I.env0.in1 I ry h fun b s' H' I' q => ⟨b, rfl, .bl (!b), H', I', rfl, q⟩
  show wpAny _ _ (richCompare .NotEq (.ref a) u) _ _ _
  exact LMX.ne_K (tb := t) hu I.kIn J (Z.ty _ _ I.kIn hp) nf N.m N.n h1 h2 h3
/-- == of an own instance, anywhere -/
theorem own_rc (O : OkM X.prog X.w X.K X.mg X.base CX0 k C "__eq__" ps sp) {A : Around} {pins : List (Addr × Obj)} {σ : L2.St} {H : Hp} {s : Shared} {a dx : Addr} {fs : List (Str × V)} {y : V} {u : Value} {R : Bool → Hp → Prop} {E : Value → Shared → Prop} (hr : Room k A) (e0 : Env0 X.prog X.w X.K X.mg X.base A X.stack s H) (I : Inv X pins σ H s) (ea : H a = some (.ins C dx fs))
    (ny : NotF X.K H C y) (ry : RelV y u) (h : sp [.ref a, y] H (fun v H' => ∃ b, v = .bl b ∧ R b H') E0) : wpAny (model X.prog X.w) A (richCompare .Eq (.ref a) u) (fun v t => ∃ b, v = .bool b ∧ ∃ H', Inv X pins σ H' t ∧ R b H') E s := by
  obtain ⟨t, ty, nf⟩ := ny
  obtain ⟨mA, O1, _⟩ := ins_get I.hok ea
  obtain ⟨od, J, _⟩ := O1.look
  obtain ⟨P, Z, hp, _⟩ := kit_of I ry ty
  obtain ⟨m, fr⟩ := I.fr
  obtain ⟨f, h1, h2, h3⟩ := own_call O (A := A) (E := E) (Q := PySem.W.CmpBack (fun v t => ∃ b, v = .bool b ∧ ∃ H', Inv X pins σ H' t ∧ R b H')) hr e0 I ry h fun b s' H' I' q => ⟨b, rfl, H', I', q⟩
  exact PySem.W.cmp_K (op := .Eq) (tb := t) hr.units0 fr I.ok.mod.kin J (Z.ty _ _ I.kIn hp) nf h1 h2 h3
/-- ms.count(a): own instances; J tells what each turn keeps -/
def rCntO (K : PySem.W.Frag) (C : Addr) (sp : Sp) : V → List V → Hp → VK → Prop := fun x xs H Q => ∃ (p a : Addr) (ms : List Addr) (bs : List Bool) (J : Nat → Hp → Prop), x = .ref p ∧ xs = [.ref a] ∧ ms.length = bs.length ∧ J 0 H ∧ (∀ j H', J j H' → H' p = some (.lst (ms.map V.ref))) ∧
  (∀ (j : Nat) (m : Addr) (b : Bool) (H' : Hp), ms[j]? = some m → bs[j]? = some b → J j H' → (m = a → b = true ∧ J (j + 1) H') ∧ (m ≠ a → ∃ (dx : Addr) (fs : List (Str × V)), H' m = some (.ins C dx fs) ∧ NotF K H' C (.ref a) ∧ sp [.ref m, .ref a] H' (fun v H'' => ∃ c, v = .bl c ∧ (c = b ∧ J (j + 1) H'')) E0)) ∧
  ∀ H', J ms.length H' → Q (.int (bs.count true : Nat)) H'
theorem cnt_get (bs : List Bool) : (List.range bs.length).countP (fun j => bs.getD j true) = bs.count true := by
  have h : (List.range bs.length).map (fun j => bs.getD j true) = bs := by
    refine List.ext_getElem (by simp) fun i h1 h2 => ?_
    simp [List.getD_eq_getElem?_getD, List.getElem?_eq_getElem h2]
  have e : ((List.range bs.length).map fun j => bs.getD j true).count true = (List.range bs.length).countP (fun j => bs.getD j true) := by
    rw [List.count, List.countP_map]
    congr 1
    funext j
    show (bs.getD j true == true) = bs.getD j true
    generalize bs.getD j true = z
    cases z <;> rfl
  rw [← e, h]
theorem mt_cntO (O : OkM X.prog X.w X.K X.mg X.base CX0 k C "__eq__" ps sp) (hr : Room (k + 1) X.A) : MtR X "list.count" (rCntO X.K C sp) := by
  intro pins s σ H x xs v us Q I rx rxs h
  obtain ⟨p, a, ms, bs, J, rfl, rfl, hl, j0, jl, turn, q⟩ := h
  cases (show v = Value.ref p from rx)
  obtain ⟨u, rfl, ru⟩ := rxs.one
  cases (show u = Value.ref a from ru)
  have hp := jl 0 H j0
  obtain ⟨_, its, n, rv, eg⟩ := I.hok p _ hp
  refine GQ.call_here PySem.F.slot_list_count ⟨_, eg, rfl⟩ PySem.F.entry_list_count (PySem.F.args_list_count_2 _ _) ?_
  · refine LMX.cnt_list (R := wants (EP X pins σ Q) X.xe) (N := ms.length) (fun j => bs.getD j true) (fun j t => ∃ H', Inv X pins σ H' t ∧ J j H') (fun j t hj => ?_) (fun t hj => ?_) ⟨H, I, j0⟩
    · obtain ⟨H1, I1, jj⟩ := hj
      obtain ⟨_, its1, n1, rv1, eg1⟩ := I1.hok p _ (jl j H1 jj)
      have ln := rv1.length
      rw [List.length_map] at ln
      refine ⟨its1.toArray, n1, eg1, by rw [List.size_toArray, ← ln], fun h1 => ?_⟩
      have i1 : j < its1.length := by simpa using h1
      obtain ⟨m, hm⟩ : ∃ m, ms[j]? = some m := ⟨_, List.getElem?_eq_getElem (by omega)⟩
      obtain ⟨b, hb⟩ : ∃ b, bs[j]? = some b := ⟨_, List.getElem?_eq_getElem (by omega)⟩
      obtain ⟨v1, g1, w1⟩ := rv1.get (i := j) (x := V.ref m) (by rw [List.getElem?_map, hm]; rfl)
      have kv : its1.toArray[j] = Value.ref m := by
        have : its1[j]? = some its1.toArray[j] := by rw [List.getElem?_eq_getElem i1]; simp
        rw [g1] at this
        rw [← Option.some.inj this]
        exact w1
      have kb : bs.getD j true = b := by rw [List.getD_eq_getElem?_getD, hb]; rfl
      rw [kv]
      obtain ⟨t1, t2⟩ := turn j m b H1 hm hb jj
      by_cases z : m = a
      · obtain ⟨e1, e2⟩ := t1 z
        subst z
        refine SeqAt.EqAt.same (A := X.A.in1) (s := t) (.ref m) X.prog X.w _ _ ⟨by rw [kb, e1], H1, I1, e2⟩
      · obtain ⟨dx, fs, em, nf, hsp⟩ := t2 z
        refine GQ.eqBool_refG z (wpAny_mono (own_rc O (A := X.A.in1) (R := fun c H'' => c = b ∧ J (j + 1) H'') hr.in1 I1.env0.in1 I1 em nf (y := .ref a) rfl hsp) (fun r t' k1 => ?_) fun _ _ k1 => k1)
        obtain ⟨c, rfl, H2, I2, ec, j2⟩ := k1
        exact ⟨c, rfl, by rw [kb, ec], H2, I2, j2⟩
    · obtain ⟨H1, I1, jj⟩ := hj
      have ec : (List.range ms.length).countP (fun j => bs.getD j true) = bs.count true := by rw [hl]; exact cnt_get bs
      rw [ec]
      exact ⟨.int (bs.count true : Nat), H1, I1.tok _, ⟨t.toks, rfl⟩, q H1 jj⟩
end
end LM
set_option Elab.async false
set_option linter.all false
set_option maxRecDepth 100000
set_option maxHeartbeats 4000000
/-! list.count of data: some number -/
namespace LM
open PySem PySem.Spec PyProof.Rows L2
/-- ws.count(y), all of it data: some number -/
def rCntD (K : PySem.W.Frag) : V → List V → Hp → VK → Prop := fun x xs H Q => ∃ (p : Addr) (ws : List V) (y : V) (d : PyData), x = .ref p ∧ xs = [y] ∧ H p = some (.lst ws) ∧ Dp K H y d ∧ SeqAt.shaped d = true ∧ (∀ z ∈ ws, ∃ e : PyData, Dp K H z e ∧ SeqAt.shaped e = true) ∧ ∀ n : Nat, Q (.int (n : Int)) H
theorem mt_cntD {X : Cx} (hu : X.A.units + 100 < cLine) : MtR X "list.count" (rCntD X.K) := by
  intro pins s σ H x xs v us Q I rx rxs h
  obtain ⟨p, ws, y, d, rfl, rfl, hp, hy, sd, hw, q⟩ := h
  cases (show v = Value.ref p from rx)
  obtain ⟨u, rfl, ru⟩ := rxs.one
  obtain ⟨_, its, n, rv, eg⟩ := I.hok p _ hp
  have ln := rv.length
  have ex : ∀ j : Nat, ∃ b : Bool, ∀ (h1 : j < its.toArray.size), SeqAt.EqP X.prog X.w X.A.in1 s its.toArray[j] u b := by
    intro j
    by_cases hj : j < its.length
    · obtain ⟨z, hz⟩ : ∃ z, ws[j]? = some z := ⟨_, List.getElem?_eq_getElem (by omega)⟩
      obtain ⟨v1, g1, w1⟩ := rv.get hz
      obtain ⟨e, he, se⟩ := hw z (List.mem_of_getElem? hz)
      refine ⟨PyData.eqv e d, fun h1 => ?_⟩
      have kv : its.toArray[j] = v1 := by
        have : its[j]? = some its.toArray[j] := by rw [List.getElem?_eq_getElem hj]; simp
        rw [g1] at this
        exact (Option.some.inj this).symm
      rw [kv]
      exact data_run I (A := X.A.in1) (by show X.A.units + 1 + 64 < cLine; omega) he hy se sd w1 ru
    · exact ⟨true, fun h1 => absurd (by simpa using h1) hj⟩
  obtain ⟨e, he⟩ := Classical.axiomOfChoice ex
  refine GQ.call_here PySem.F.slot_list_count ⟨_, eg, rfl⟩ PySem.F.entry_list_count (PySem.F.args_list_count_2 _ _) ?_
  refine LMX.cnt_list (R := wants (EP X pins σ Q) X.xe) (N := its.length) e (fun j t => t = s) (fun j t hj => ?_) (fun t hj => ?_) rfl
  · subst hj
    exact ⟨its.toArray, n, eg, by rw [List.size_toArray], fun h1 => he j h1 _ _ ⟨rfl, rfl⟩⟩
  · subst hj
    exact ⟨.int (((List.range its.length).countP e : Nat) : Int), H, I.tok _, ⟨t.toks, rfl⟩, q _⟩
/-- x == y: data, or dicts of data -/
def rEqB (K : PySem.W.Frag) : R2 := fun x y H Q => ∃ b : Bool, EqB K H x y b ∧ Q (.bl b) H
theorem op_eqB {X : Cx} (hu : X.A.units + 110 < cLine) : OpR X (compareOp .Eq) (rEqB X.K) := by
  rintro pins s σ H x y v u Q I rx ry ⟨b, h, q⟩
  rcases h with ⟨d, e, h1, h2, sd, se, rfl⟩ | ⟨p, r, ks, ls, c, rfl, rfl, hp, hq, hh, eb, _⟩
  · exact op_eqD (by omega) pins s σ H x y v u Q I rx ry ⟨d, e, h1, h2, sd, se, q⟩
  · cases (show v = Value.ref p from rx)
    cases (show u = Value.ref r from ry)
    obtain ⟨_, ya, va, ra, da⟩ := (show ObjOk X.prog X.w H s.heap p (.dK ks) from I.hok p _ hp)
    obtain ⟨_, yb, vb, rb, db⟩ := (show ObjOk X.prog X.w H s.heap r (.dK ls) from I.hok r _ hq)
    show wpAny _ _ (richCompare .Eq (.ref p) (.ref r)) _ _ _
    refine PySem.W.rcP_dicts (knd := mixKind X.prog X.w) (r := c) ya yb da db (by omega) (fun _ => hits_any I (A := X.A.in1) (by show X.A.units + 1 + 64 < cLine; omega) rb hh ra) _ _ ?_
    rw [← ra.length, ← rb.length, ← eb]
    exact ⟨.bl b, H, I, rfl, q⟩
theorem room110 {k : Nat} {A : Around} (r : Room k A) : A.units + 110 < cLine := by have := r.un; omega
end LM
set_option Elab.async false
set_option linter.all false
set_option maxRecDepth 100000
set_option maxHeartbeats 4000000
namespace LM
open PySem PySem.Spec PyProof.Rows L2
/-! ### what two makers keep, held against one another -/
def lookE : List (Int × Dt) → Int → Option Dt
  | [], _ => none
  | e :: r, i => if e.1 = i then some e.2 else lookE r i
def hitsB (fs : List (Int × Dt)) : List (Int × Dt) → Bool
  | [] => true
  | e :: r => match lookE fs e.1 with
    | none => false
    | some d => PyData.eqv e.2.py d.py && hitsB fs r
def keptB (es fs : List (Int × Dt)) : Bool := es.length == fs.length && hitsB fs es
theorem valV_es {K : PySem.W.Frag} {H : Hp} {ls : List (Key × V)} {fs : List (Int × Dt)} (h : KvR K H ls fs) (i : Int) : (valV ls (.inl i) = none ∧ lookE fs i = none) ∨ ∃ v d, valV ls (.inl i) = some v ∧ lookE fs i = some d ∧ DR K H v d ∧ (i, d) ∈ fs := by
  induction h with
  | nil => exact .inl ⟨rfl, rfl⟩
  | @cons j v d kvs es r _ ih =>
    by_cases z : j = i
    · subst z
      refine .inr ⟨v, d, valV_pos rfl, if_pos rfl, r, List.mem_cons_self⟩
    · have zz : ¬ (Sum.inl j : Key) = Sum.inl i := fun q => z (by injection q)
      have e1 : lookE ((j, d) :: es) i = lookE es i := if_neg z
      rcases ih with ⟨h1, h2⟩ | ⟨u, f, h1, h2, h3, h4⟩
      · exact .inl ⟨by rw [valV_neg zz]; exact h1, by rw [e1]; exact h2⟩
      · exact .inr ⟨u, f, by rw [valV_neg zz]; exact h1, by rw [e1]; exact h2, h3, List.mem_cons_of_mem _ h4⟩
theorem dhits_of {K : PySem.W.Frag} {H : Hp} {ls : List (Key × V)} {fs : List (Int × Dt)} (g : KvR K H ls fs) (sf : ∀ e ∈ fs, Shd e.2) : ∀ {ks : List (Key × V)} {es : List (Int × Dt)}, KvR K H ks es → (∀ e ∈ es, Shd e.2) → DHits K H ls ks (hitsB fs es) := by
  intro ks es h
  induction h with
  | nil => intro _; exact .nil
  | @cons j v d kvs es r _ ih =>
    intro se
    have ih' := ih fun e he => se e (List.mem_cons_of_mem _ he)
    rcases valV_es g j with ⟨h1, h2⟩ | ⟨u, f, h1, h2, h3, h4⟩
    · have e1 : hitsB fs ((j, d) :: es) = false := by
        show (match lookE fs j with | none => false | some d' => PyData.eqv d.py d'.py && hitsB fs es) = false
        rw [h2]
      rw [e1]
      exact .miss h1
    · have e1 : hitsB fs ((j, d) :: es) = (PyData.eqv d.py f.py && hitsB fs es) := by
        show (match lookE fs j with | none => false | some d' => PyData.eqv d.py d'.py && hitsB fs es) = _
        rw [h2]
      rw [e1]
      exact .hit h1 r.dp h3.dp (se _ List.mem_cons_self).s (sf _ h4).s ih'
theorem lookE_of : ∀ {es : List (Int × Dt)}, (es.map (·.1)).Nodup → ∀ e ∈ es, lookE es e.1 = some e.2
  | [], _, e, he => by cases he
  | f :: es, nd, e, he => by
    rw [List.map_cons, List.nodup_cons] at nd
    rcases List.mem_cons.mp he with rfl | he
    · exact if_pos rfl
    · have z : ¬ f.1 = e.1 := fun z => nd.1 (List.mem_map.mpr ⟨e, he, z.symm⟩)
      have e1 : lookE (f :: es) e.1 = lookE es e.1 := if_neg z
      rw [e1]
      exact lookE_of nd.2 e he
theorem hitsB_all {fs : List (Int × Dt)} : ∀ {es : List (Int × Dt)}, (∀ e ∈ es, Shd e.2 ∧ lookE fs e.1 = some e.2) → hitsB fs es = true
  | [], _ => rfl
  | e :: es, h => by
    obtain ⟨h1, h2⟩ := h e List.mem_cons_self
    have ih := hitsB_all fun f hf => h f (List.mem_cons_of_mem _ hf)
    show (match lookE fs e.1 with | none => false | some d' => PyData.eqv e.2.py d'.py && hitsB fs es) = true
    rw [h2]
    show (PyData.eqv e.2.py e.2.py && hitsB fs es) = true
    rw [ih, SeqAt.eqv_refl _ (SeqAt.canLay_of_shaped h1.s)]
    rfl
theorem keptB_same {es : List (Int × Dt)} (nd : (es.map (·.1)).Nodup) (h : ∀ e ∈ es, Shd e.2) : keptB es es = true := by
  unfold keptB
  rw [hitsB_all fun e he => ⟨h e he, lookE_of nd e he⟩]
  simp
theorem hd_shd (ks : List Kd) (t : Kd) : Shd (hdD ks t) := by
  have one : ∀ k : Kd, (Dt.str k.s).ok = true ∧ (Dt.str k.s).lv ≤ 1 := fun k => by cases k <;> exact ⟨by decide +kernel, by decide +kernel⟩
  exact OkL.pair (fun d hd => by obtain ⟨k, _, rfl⟩ := List.mem_map.mp hd; exact one k) (one t)
/-- a maker, plainly -/
structure Pm where
  ks : List Kd
  t : Kd
  sd : Dt
  far : Int
  es : List (Int × Dt)
/-- heads, stocks, mosts, kept: alike or not -/
def sameL (a b : Pm) : List Bool := [PyData.eqv (hdD a.ks a.t).py (hdD b.ks b.t).py, PyData.eqv a.sd.py b.sd.py, PyData.eqv (.int a.far) (.int b.far), keptB a.es b.es]
def sameB (a b : Pm) : Bool := (sameL a b).all id
/-- what a maker of this record keeps is data that may be compared -/
structure PmOk (a : Pm) : Prop where
  sd : Shd a.sd
  es : ∀ e ∈ a.es, Shd e.2
  nd : (a.es.map (·.1)).Nodup
theorem sameB_self {a : Pm} (h : PmOk a) : sameB a a = true := by
  show (PyData.eqv (hdD a.ks a.t).py (hdD a.ks a.t).py && (PyData.eqv a.sd.py a.sd.py && (PyData.eqv (.int a.far) (.int a.far) && (keptB a.es a.es && true)))) = true
  rw [SeqAt.eqv_refl _ (SeqAt.canLay_of_shaped (hd_shd a.ks a.t).s), SeqAt.eqv_refl _ (SeqAt.canLay_of_shaped h.sd.s), SeqAt.eqv_refl _ (by rfl), keptB_same h.nd h.es]
  rfl
section
variable {K : PySem.W.Frag} {H : Hp}
/-- head, stock, most of two, as values -/
structure HdR (K : PySem.W.Frag) (H : Hp) (hv : Hd) (a : Pm) : Prop where
  h : DR K H hv.h (hdD a.ks a.t)
  st : DR K H hv.st a.sd
  far : hv.far = a.far
theorem HdR.ts {H' : Hp} {hv : Hd} {a : Pm} (r : HdR K H hv a) (t : Ts H H') : HdR K H' hv a := ⟨r.h.ts t, r.st.ts t, r.far⟩
theorem eq_four {hv hw : Hd} {a b : Pm} {TH KD : Addr} {ks ls : List (Key × V)} (r1 : HdR K H hv a) (r2 : HdR K H hw b) (o1 : PmOk a) (o2 : PmOk b) (e1 : H TH = some (.dK ks)) (e2 : H KD = some (.dK ls)) (k1 : KvR K H ks a.es) (k2 : KvR K H ls b.es) (same : TH = KD → a.es = b.es) :
    EqB K H hv.h hw.h (PyData.eqv (hdD a.ks a.t).py (hdD b.ks b.t).py) ∧ EqB K H hv.st hw.st (PyData.eqv a.sd.py b.sd.py) ∧ EqB K H (.int hv.far) (.int hw.far) (PyData.eqv (.int a.far) (.int b.far)) ∧ EqB K H (.ref TH) (.ref KD) (keptB a.es b.es) := by
  refine ⟨.inl ⟨_, _, r1.h.dp, r2.h.dp, (hd_shd _ _).s, (hd_shd _ _).s, rfl⟩, .inl ⟨_, _, r1.st.dp, r2.st.dp, o1.sd.s, o2.sd.s, rfl⟩, .inl ⟨.int a.far, .int b.far, ?_, ?_, rfl, rfl, rfl⟩, .inr ⟨TH, KD, ks, ls, _, rfl, rfl, e1, e2, dhits_of k2 o2.es k1 o1.es, ?_, fun z => ?_⟩⟩
  · rw [r1.far]; exact .int _
  · rw [r2.far]; exact .int _
  · unfold keptB
    rw [k1.len, k2.len]
  · rw [same z]
    exact keptB_same o2.nd o2.es
end
/-- what the top says of the class for isinstance -/
structure IsC (K : PySem.W.Frag) (C : Addr) : Prop where
  ha : PySem.W.findIn K (.ref C) "__class__" = some (some (.builtin "object.__class__"))
  hn : PySem.W.specialIn K (.builtin "object.__class__") "__get__" = some (some (.builtin "getset_descriptor.__get__"))
  ht : PySem.W.takesIn K (.builtin "object.__class__") = some true
  hm : PySem.W.mroIn K C (.type "object") = some true
theorem kit_self {K : PySem.W.Frag} {C : Addr} : PySem.W.kitOne K (.ref C) (.ref C) = some true := by
  unfold PySem.W.kitOne
  rw [if_pos (beq_self_eq_true _)]
section
variable {P : Program} {w : World} {K : PySem.W.Frag} {mg : Str → Option Value} {base : Heap}
/-! ### Maker.__eq__ -/
def spMEq (K : PySem.W.Frag) (C : Addr) : Sp := fun vs H Q _ =>
  (∃ (M N TH1 TH2 WR1 WR2 : Addr) (hv hw : Hd) (a b : Pm) (c1 c2 : Int) (l1 l2 : List Dt) (b1 b2 : Bool), vs = [.ref M, .ref N] ∧ MkA K H C M TH1 WR1 hv a.es c1 l1 b1 ∧ MkA K H C N TH2 WR2 hw b.es c2 l2 b2 ∧ HdR K H hv a ∧ HdR K H hw b ∧ PmOk a ∧ PmOk b ∧ (TH1 = TH2 → a.es = b.es) ∧ ∀ H', Ch [] H H' → Q (.bl (sameB a b)) H') ∨
  (∃ (M : Addr) (y : V) (t : Value), vs = [.ref M, y] ∧ TyX K H y t ∧ PySem.W.kitOne K t (.ref C) = some false ∧ Q (.bl false) H)
theorem sc_meq : FnScope ["self", "other", "mine"] ["self", "other"] (defScope (inClass (top 40) 2)) := ⟨rfl, rfl, rfl, by decide +kernel, rfl, by decide +kernel, by decide +kernel⟩
structure Tm (mg : Str → Option Value) (K : PySem.W.Frag) : Prop extends Bn mg where
  g_Maker : mg "Maker" = some (.ref (He.ga K "Maker"))
  g_STOCK : mg "STOCK" = some (.ref (He.ga K "STOCK"))
  b_min : mg "min" = none
  stk : ∀ H : Hp, DR K H (.ref (He.ga K "STOCK")) stockDt
theorem ok_meq (T : Tm mg K) (U : Mt K (He.ga K "Maker")) (S : IsC K (He.ga K "Maker")) (D : DfM K (He.ga K "Maker") "__eq__" "Maker.__eq__" (inClass (top 40) 2)) : OkM P w K mg base CX0 1 (He.ga K "Maker") "__eq__" ["self", "other"] (spMEq K (He.ga K "Maker")) := by
  refine okM0 U.cl D sc_meq (fun _ _ _ _ _ _ us hl => match us, hl with | [_, _], _ => rfl) (fun vs H Q E h => ?_) (fun f cdv A outer s H vs Q E hr h => ?_)
  · rcases h with ⟨M, N, TH1, TH2, WR1, WR2, hv, hw, a, b, c1, c2, l1, l2, b1, b2, rfl, _⟩ | ⟨M, y, t, rfl, _⟩
    · rfl
    · rfl
  · have nd := sc_meq.nd
    have hu := room110 hr
    refine ⟨_, (pss_cons (ps_if (pt_not (pt_val (pe_callB (r := rIsi K) call_isi (by rfl) T.b_isinstance (by decide +kernel) (pa_cons (pv 1) (pa_cons (pe_glob (v := .ref (He.ga K "Maker")) rfl T.g_Maker rfl) pa_nil))) (by intro _; rfl))) (pss_one (ps_ret pe_bl)) pss_nil)
  (pss_cons (ps_set (i := 2) nd rfl (Or.inl rfl) (pe_tup (pa_cons (pe_fld (pv 0) rfl) (pa_cons (pe_fld (pv 0) rfl) (pa_cons (pe_fld (pv 0) rfl) (pa_cons (pe_fld (pv 0) rfl) pa_nil))))))
  (pss_one (ps_ret (pe_cmpR (r := rEqTB K) (op_eqTB hu) (pv 2) (pe_tup (pa_cons (pe_fld (pv 1) rfl) (pa_cons (pe_fld (pv 1) rfl) (pa_cons (pe_fld (pv 1) rfl) (pa_cons (pe_fld (pv 1) rfl) pa_nil))))) (nomark _)))))), ?_⟩
    rcases h with ⟨M, N, TH1, TH2, WR1, WR2, hv, hw, a, b, c1, c2, l1, l2, b1, b2, rfl, m1, m2, r1, r2, o1, o2, same, q⟩ | ⟨M, y, t, rfl, ty, kt, q⟩
    · obtain ⟨dx, sv, ks, lgs, e1, e2, e3, k1, _⟩ := m1.ex
      obtain ⟨dy, sw, ls, lgw, f1, f2, f3, k2, _⟩ := m2.ex
      refine ⟨_, rfl, ?_⟩
      dsimp only [tCons, tC, tNil]
      refine ⟨_, _, _, _, true, rfl, .own _, .base (.ins f1 U.cl S.ha S.hn S.ht S.hm), kit_self, ?_⟩
      refine ⟨_, rfl, ?_⟩
      refine iteB (fun z => by cases z) (fun _ => ?_)
      refine ⟨_, rfl, M, _, dx, _, _, rfl, e1, U.cl, U.n_head, mF_head, _, rfl, M, _, dx, _, _, rfl, e1, U.cl, U.n_stock, mF_stock, _, rfl, M, _, dx, _, _, rfl, e1, U.cl, U.n_most, mF_most, _, rfl, M, _, dx, _, _, rfl, e1, U.cl, U.n_things, mF_things, (by show 4 ≤ sizeLine; decide), fun p hp => ?_⟩
      have c3 : Ch [] H (upd H p (.tup [hv.h, hv.st, .int hv.far, .ref TH1])) := .new hp
      have s3 : SqT K (upd H p (.tup [hv.h, hv.st, .int hv.far, .ref TH1])) p [hv.h, hv.st, .int hv.far, .ref TH1] := SqT.of upd_same
      generalize upd H p (.tup [hv.h, hv.st, .int hv.far, .ref TH1]) = H1 at c3 s3 ⊢
      have f1' := c3 N _ (by simp) f1
      refine ⟨_, rfl, _, rfl, N, _, dy, _, _, rfl, f1', U.cl, U.n_head, mF_head, _, rfl, N, _, dy, _, _, rfl, f1', U.cl, U.n_stock, mF_stock, _, rfl, N, _, dy, _, _, rfl, f1', U.cl, U.n_most, mF_most, _, rfl, N, _, dy, _, _, rfl, f1', U.cl, U.n_things, mF_things, (by show 4 ≤ sizeLine; decide), fun p2 hp2 => ?_⟩
      have c4 : Ch [] H1 (upd H1 p2 (.tup [hw.h, hw.st, .int hw.far, .ref TH2])) := .new hp2
      have s4 : SqT K (upd H1 p2 (.tup [hw.h, hw.st, .int hw.far, .ref TH2])) p2 [hw.h, hw.st, .int hw.far, .ref TH2] := SqT.of upd_same
      have s3' := (Ts.of c4).sq s3
      generalize upd H1 p2 (.tup [hw.h, hw.st, .int hw.far, .ref TH2]) = H2 at c4 s4 s3' ⊢
      have c02 := c3.trans c4
      have t02 := Ts.of c02
      obtain ⟨q1, q2, q3, q4⟩ := eq_four (K := K) (H := H2) (hv := hv) (hw := hw) (r1.ts t02) (r2.ts t02) o1 o2 (c02 TH1 _ (by simp) e2) (c02 TH2 _ (by simp) f2) (k1.ts t02) (k2.ts t02) same
      refine ⟨p, p2, _, _, sameL a b, rfl, rfl, s3', s4, rfl, rfl, fun i x y c hx hy hc => ?_, q H2 c02⟩
      match i, hx, hy, hc with
      | 0, hx, hy, hc => cases hx; cases hy; cases hc; exact q1
      | 1, hx, hy, hc => cases hx; cases hy; cases hc; exact q2
      | 2, hx, hy, hc => cases hx; cases hy; cases hc; exact q3
      | 3, hx, hy, hc => cases hx; cases hy; cases hc; exact q4
      | n + 4, hx, hy, hc => cases hx
    · refine ⟨_, rfl, ?_⟩
      dsimp only [tCons, tC, tNil]
      refine ⟨_, _, _, _, false, rfl, .own _, ty, kt, ?_⟩
      refine ⟨_, rfl, ?_⟩
      refine iteB (fun _ => ?_) (fun z => by cases z)
      exact q
end
end LM
set_option Elab.async false
set_option linter.all false
set_option maxRecDepth 100000
set_option maxHeartbeats 4000000
namespace LM
open PySem PySem.Spec PyProof.Rows L2
theorem room100 {k : Nat} {A : Around} (r : Room k A) : A.units + 100 < cLine := by have := r.un; omega
section
variable {H : Hp} {MD KD LD : Addr} {hv : Hd} {came : Int}
theorem md_shop (e : H MD = some (.dK (mdF hv KD came LD))) : DGet H MD (.str "shop") (some hv.st) := .inl ⟨_, .inr "shop", .inl e, rfl, rfl⟩
theorem md_far (e : H MD = some (.dK (mdF hv KD came LD))) : DGet H MD (.str "far") (some (.int hv.far)) := .inl ⟨_, .inr "far", .inl e, rfl, rfl⟩
end
section
variable {P : Program} {w : World} {K : PySem.W.Frag} {mg : Str → Option Value} {base : Heap}
/-! ### two models, held against one another -/
def spSame (K : PySem.W.Frag) : Sp := fun vs H Q _ => ∃ (MD1 MD2 KD1 KD2 LD1 LD2 : Addr) (hv hw : Hd) (a b : Pm) (c1 c2 : Int) (l1 l2 : List Dt), vs = [.ref MD1, .ref MD2] ∧ MdA K H MD1 KD1 LD1 hv a.es c1 l1 ∧ MdA K H MD2 KD2 LD2 hw b.es c2 l2 ∧ HdR K H hv a ∧ HdR K H hw b ∧ PmOk a ∧ PmOk b ∧ (KD1 = KD2 → a.es = b.es) ∧ ∀ H', Ch [] H H' → Q (.bl (sameB a b)) H'
theorem sc_same : FnScope ["_law_one", "_law_other", "_law_key"] ["_law_one", "_law_other"] (defScope (top 71)) := ⟨rfl, rfl, rfl, by decide +kernel, rfl, by decide +kernel, by decide +kernel⟩
theorem ok_same (D : Df K mg "_law_same" (top 71)) (T : Bn mg) : OkF P w K mg base CX0 1 "_law_same" ["_law_one", "_law_other"] (spSame K) := by
  refine okF0 D sc_same (fun _ _ _ _ _ _ us hl => match us, hl with | [_, _], _ => rfl) (fun vs H Q E h => ?_) (fun cdv A outer s H vs Q E hr h => ?_)
  · obtain ⟨MD1, MD2, KD1, KD2, LD1, LD2, hv, hw, a, b, c1, c2, l1, l2, rfl, _⟩ := h
    rfl
  · obtain ⟨MD1, MD2, KD1, KD2, LD1, LD2, hv, hw, a, b, c1, c2, l1, l2, rfl, m1, m2, r1, r2, o1, o2, same, q⟩ := h
    have nd := sc_same.nd
    have hu := hu_of hr
    have hu110 := room110 hr
    refine ⟨_, (pss_one (ps_ret (pe_callB (by exact cr_all rfl) (by rfl) T.b_all (by decide +kernel) (pa_cons (pe_lc (own := [("_law_key", 2)]) (tt := tYes) rfl nd (pi_tup (pe_tup (pa_cons pe_str (pa_cons pe_str (pa_cons pe_str (pa_cons pe_str pa_nil)))))) (blkOk_by (own := [("_law_key", 2)]) (N := ["_law_one", "_law_other", "_law_key"]) (sc := defScope (top 71)) (by decide +kernel)) (fun _ _ _ _ _ => (pg_name (i := 2) nd rfl (Or.inl rfl))) (fun _ _ _ _ _ => pts_nil) (fun _ _ _ _ _ => (pe_cmpR (r := rEqB K) (op_eqB hu110) (pe_dget hu (pv 0) (pv 2) (fun _ _ => rfl)) (pe_dget hu (pv 1) (pv 2) (fun _ _ => rfl)) (nomark _)))) pa_nil)))), ?_⟩
    refine ⟨(by show 4 ≤ sizeLine; decide), fun p hp => ?_⟩
    have c0 : Ch [] H (upd H p (.tup [.str "head", .str "shop", .str "far", .str "kept"])) := .new hp
    have s0 : SqT K (upd H p (.tup [.str "head", .str "shop", .str "far", .str "kept"])) p [.str "head", .str "shop", .str "far", .str "kept"] := SqT.of upd_same
    generalize upd H p (.tup [.str "head", .str "shop", .str "far", .str "kept"]) = H0 at c0 s0 ⊢
    refine ⟨p, rfl, ⟨_, s0⟩, fun L hL => ?_⟩
    refine lc_tup (K := K) (a := p) (xs := [.str "head", .str "shop", .str "far", .str "kept"]) (fun i H' => Ch [] H0 H' ∧ H' L = some (.lst (((sameL a b).take i).map V.bl))) ?_ ?_ ?_ ?_
    · exact ⟨.new hL, upd_same⟩
    · rintro i H' _ ⟨c, _⟩
      exact (Ts.of c).sq s0
    · rintro i x H' hi ⟨cc, eL⟩
      have c0' := c0.trans cc
      have m1' := m1.ch0 c0'
      have m2' := m2.ch0 c0'
      obtain ⟨ks, lgs, e1, e2, e3, k1, _, _⟩ := m1'.ex
      obtain ⟨ls, lgw, f1, f2, f3, k2, _, _⟩ := m2'.ex
      obtain ⟨q1, q2, q3, q4⟩ := eq_four (r1.ts (.of c0')) (r2.ts (.of c0')) o1 o2 e2 f2 k1 k2 same
      refine ⟨rfl, ?_⟩
      have put : ∀ (n : Nat) (c : Bool), (sameL a b)[n]? = some c → n = i → ∃ acc : List V, H' L = some (.lst acc) ∧ acc.length < sizeLine ∧ (Ch [] H0 (upd H' L (.lst (acc ++ [.bl c]))) ∧ upd H' L (.lst (acc ++ [.bl c])) L = some (.lst (((sameL a b).take (i + 1)).map V.bl))) := fun n c hc hn => by
        subst hn
        refine ⟨_, eL, small1000 (by rw [List.length_map, List.length_take]; have : (sameL a b).length = 4 := rfl; omega), cc.mut hL, ?_⟩
        rw [upd_same, take_one hc, List.map_append]
        rfl
      match i, hi, put with
      | 0, hi, put =>
        cases hi
        exact ⟨_, rfl, _, rfl, MD1, _, rfl, md_head e1, _, rfl, _, rfl, MD2, _, rfl, md_head f1, _, q1, put 0 _ rfl rfl⟩
      | 1, hi, put =>
        cases hi
        exact ⟨_, rfl, _, rfl, MD1, _, rfl, md_shop e1, _, rfl, _, rfl, MD2, _, rfl, md_shop f1, _, q2, put 1 _ rfl rfl⟩
      | 2, hi, put =>
        cases hi
        exact ⟨_, rfl, _, rfl, MD1, _, rfl, md_far e1, _, rfl, _, rfl, MD2, _, rfl, md_far f1, _, q3, put 2 _ rfl rfl⟩
      | 3, hi, put =>
        cases hi
        exact ⟨_, rfl, _, rfl, MD1, _, rfl, md_kept e1, _, rfl, _, rfl, MD2, _, rfl, md_kept f1, _, q4, put 3 _ rfl rfl⟩
      | n + 4, hi, put => cases hi
    · rintro H' ⟨c, eL⟩
      exact ⟨L, sameL a b, rfl, SqL.of eL, q H' (c0.trans c)⟩
/-! ### is there room -/
def spRoom (K : PySem.W.Frag) : Sp := fun vs H Q _ => ∃ (MD KD LD : Addr) (hv : Hd) (ks : List Kd) (t : Kd) (es : List (Int × Dt)) (came : Int) (lg : List Dt) (wd : Str) (v : V), vs = [.ref MD, .str wd, v] ∧ MdA K H MD KD LD hv es came lg ∧ Fit ks t es ∧ es.length ≤ 200 ∧ (wd = "examples" → ∃ (tp : Bool) (L : Addr) (xs : List V), v = .ref L ∧ LAt K tp H L xs) ∧
  ∀ (b : Bool) (H' : Hp), Ch [] H H' → Q (.bl b) H'
theorem sc_room : FnScope ["_law_model", "_law_word", "_law_thing", "_law_some", "_law_one"] ["_law_model", "_law_word", "_law_thing"] (defScope (top 70)) := ⟨rfl, rfl, rfl, by decide +kernel, rfl, by decide +kernel, by decide +kernel⟩
theorem word_dp {K : PySem.W.Frag} {H : Hp} {z : V} (h : z = .str "wish" ∨ z = .str "example") : ∃ e : PyData, Dp K H z e ∧ SeqAt.shaped e = true := by
  rcases h with rfl | rfl
  · exact ⟨.str "wish", .str _, by decide +kernel⟩
  · exact ⟨.str "example", .str _, by decide +kernel⟩
theorem ok_room (D : Df K mg "_law_has_room" (top 70)) (T : Bn mg) : OkF P w K mg base CX0 1 "_law_has_room" ["_law_model", "_law_word", "_law_thing"] (spRoom K) := by
  refine okF0 D sc_room (fun _ _ _ _ _ _ us hl => match us, hl with | [_, _, _], _ => rfl) (fun vs H Q E h => ?_) (fun cdv A outer s H vs Q E hr h => ?_)
  · obtain ⟨MD, KD, LD, hv, ks, t, es, came, lg, wd, v, rfl, _⟩ := h
    rfl
  · obtain ⟨MD, KD, LD, hv, ks, t, es, came, lg, wd, v, rfl, m, fit, le, hx, q⟩ := h
    have nd := sc_room.nd
    have hu := hu_of hr
    have hu100 := room100 hr
    refine ⟨_, (pss_cons (ps_lock (ps_setLc (i := 3) (own := [("_law_one", 4)]) (tt := tYes) rfl nd rfl rfl (sw_true rfl rfl rfl (by decide +kernel)) (pi_values (pe_dget hu (pv 0) pe_str (fun _ _ => rfl))) (blkOk_by (own := [("_law_one", 4)]) (N := ["_law_model", "_law_word", "_law_thing", "_law_some", "_law_one"]) (sc := defScope (top 70)) (by decide +kernel)) (fun _ _ _ _ _ => (pg_name (i := 4) nd rfl (Or.inl rfl))) (fun _ _ _ _ _ => pts_nil) (fun _ _ _ _ _ => (pe_ix (r := rIxT K) ix_tup (pv 4) pe_int (fun _ _ => rfl)))))
  (pss_cons (ps_if (pt_cmpR op_eq (pv 1) pe_str (nomark _)) (pss_one (ps_ret (pe_cmpR op_lt (pe_bm PySem.F.plainAttrs_list PySem.F.slot_list_count PySem.F.type_list_count (mt_cntD hu100) (pv 3) (pa_cons pe_str pa_nil)) pe_int (nomark _)))) pss_nil)
  (pss_one (ps_ret (pe_or (pe_cmpR op_ne (pv 1) pe_str (nomark _)) (pe_one (pe_cmpR op_lt (pe_op op_add (pe_bm PySem.F.plainAttrs_list PySem.F.slot_list_count PySem.F.type_list_count (mt_cntD hu100) (pv 3) (pa_cons pe_str pa_nil)) (pe_callB (r := rLenS K) call_len_seq (by rfl) T.b_len PySem.boot_len (pa_cons (pv 2) pa_nil))) pe_int (nomark _)))))))), ?_⟩
    obtain ⟨kvs, lgs, k1, k2, k3, kvr, _, nMK⟩ := m.ex
    refine ⟨KD, _, k2, trivial, fun od => ?_⟩
    have t13 : Ts H (upd H KD (.frz od (.dK kvs))) := .upd (by rw [k2]; trivial)
    have kvr13 := kvr.ts t13
    have k13 : upd H KD (.frz od (.dK kvs)) KD = some (.frz od (.dK kvs)) := upd_same
    have hk13 : ∀ a o, a ≠ KD → H a = some o → upd H KD (.frz od (.dK kvs)) a = some o := fun a o n e => by rw [upd_ne n]; exact e
    generalize upd H KD (.frz od (.dK kvs)) = H13 at t13 kvr13 k13 hk13 ⊢
    refine ⟨_, rfl, MD, _, rfl, md_kept (hk13 MD _ nMK k1), KD, od, kvs, rfl, k13, fun DD hDD => ?_⟩
    have nDT : DD ≠ KD := Ne.symm (ne_of_none k13 hDD)
    refine lc_it (walk_values (d := KD) (o := od) (kvs := kvs)) (fun j H' => Ch [] H13 H' ∧ ∃ us : List V, H' DD = some (.lst us) ∧ us.length ≤ j ∧ ∀ z ∈ us, z = .str "wish" ∨ z = .str "example") ?_ ?_ ?_ ?_
    · exact ⟨.new hDD, [], upd_same, Nat.le_refl _, (fun z hz => by cases hz)⟩
    · rintro j H' _ ⟨c, _⟩
      exact c KD _ (by simp) k13
    · rintro j x Hx H' hj ⟨c, us, hus, lus, hz⟩ ⟨rfl, kk, hkq⟩
      obtain ⟨num, dd, hkn, hes, rd⟩ := kvr13.get hkq
      have li : j < es.length := (List.getElem?_eq_some_iff.mp hes).1
      have rd' := rd.ch c
      have add : ∀ y : V, (y = .str "wish" ∨ y = .str "example") → ∃ acc : List V, H' DD = some (.lst acc) ∧ acc.length < sizeLine ∧ (Ch [] H13 (upd H' DD (.lst (acc ++ [y]))) ∧ ∃ us : List V, upd H' DD (.lst (acc ++ [y])) DD = some (.lst us) ∧ us.length ≤ j + 1 ∧ ∀ z ∈ us, z = .str "wish" ∨ z = .str "example") := fun y hy => by
        refine ⟨us, hus, small1000 (by omega), c.mut hDD, us ++ [y], upd_same, by rw [List.length_append, List.length_singleton]; omega, fun z hm => ?_⟩
        rcases List.mem_append.mp hm with hm | hm
        · exact hz z hm
        · rw [List.mem_singleton.mp hm]; exact hy
      refine ⟨rfl, ?_⟩
      rcases fit _ (List.mem_of_getElem? hes) with ⟨p, hp, _⟩ | ⟨i, a, hi, _⟩
      · dsimp only at hp
        subst hp
        refine ⟨_, rfl, ?_⟩
        dsimp only [tC]
        refine ix_dt (n := 0) rd' rfl fun y0 ry0 => ?_
        rw [ry0.str_inv]
        exact add _ (.inl rfl)
      · dsimp only at hi
        subst hi
        refine ⟨_, rfl, ?_⟩
        dsimp only [tC]
        refine ix_dt (n := 0) rd' rfl fun y0 ry0 => ?_
        rw [ry0.str_inv]
        exact add _ (.inr rfl)
    · rintro H14 ⟨c14, us, hus, lus, hz⟩
      refine ⟨c14 KD _ (by simp) k13, ?_⟩
      have c15 : Ch [] H (upd H14 KD (.dK kvs)) := fun a o _ e => by
        by_cases z : a = KD
        · rw [z] at e ⊢
          rw [k2] at e
          cases e
          exact upd_same
        · rw [upd_ne z]
          exact c14 a o (by simp) (hk13 a o z e)
      have hus15 : upd H14 KD (.dK kvs) DD = some (.lst us) := by rw [upd_ne nDT]; exact hus
      generalize upd H14 KD (.dK kvs) = H15 at c15 hus15 ⊢
      refine ⟨_, rfl, rfl, _, rfl, ?_⟩
      refine iteD (fun e => ?_) (fun e => ?_)
      · refine ⟨_, rfl, .inl ⟨rfl, _, SqL.of hus15⟩, ?_⟩
        exact ⟨DD, us, _, .str "wish", rfl, rfl, hus15, .str _, by decide +kernel, fun z hm => word_dp (hz z hm), fun n => ⟨_, _, rfl, rfl, q _ _ c15⟩⟩
      · refine ⟨_, rfl, rfl, _, rfl, ?_⟩
        refine iteN (fun _ => q _ _ c15) (fun eq => ?_)
        have ew : wd = "examples" := by injection eq
        obtain ⟨tp, L, xs, rfl, hL⟩ := hx ew
        refine ⟨_, rfl, .inl ⟨rfl, _, SqL.of hus15⟩, ?_⟩
        refine ⟨DD, us, _, .str "example", rfl, rfl, hus15, .str _, by decide +kernel, fun z hm => word_dp (hz z hm), fun n => ?_⟩
        exact ⟨_, rfl, L, xs, rfl, (hL.ch0 c15).or, _, _, rfl, rfl, _, _, rfl, rfl, q _ _ c15⟩
end
end LM
set_option Elab.async false
set_option linter.all false
set_option maxRecDepth 100000
set_option maxHeartbeats 4000000
namespace LM
open PySem PySem.Spec PyProof.Rows L2
/-! ### alike, the other way about -/
theorem cover {α : Type} [BEq α] [LawfulBEq α] : ∀ {ks ls : List α}, ks.Nodup → (∀ k ∈ ks, k ∈ ls) → ls.length ≤ ks.length → ∀ x ∈ ls, x ∈ ks
  | [], ls, _, _, hl, x, hx => by
    have : ls = [] := List.length_eq_zero_iff.mp (by simpa using hl)
    rw [this] at hx
    exact hx
  | k :: ks, ls, nd, sub, hl, x, hx => by
    rw [List.nodup_cons] at nd
    have hk := sub k List.mem_cons_self
    by_cases z : x = k
    · rw [z]; exact List.mem_cons_self
    · refine List.mem_cons_of_mem _ (cover (ls := ls.erase k) nd.2 (fun y hy => ?_) ?_ x ((List.mem_erase_of_ne z).mpr hx))
      · have : y ≠ k := fun q => nd.1 (q ▸ hy)
        exact (List.mem_erase_of_ne this).mpr (sub y (List.mem_cons_of_mem _ hy))
      · rw [List.length_erase_of_mem hk]
        rw [List.length_cons] at hl
        omega
theorem lookE_mem : ∀ {es : List (Int × Dt)} {i : Int} {d : Dt}, lookE es i = some d → (i, d) ∈ es
  | e :: es, i, d, h => by
    by_cases z : e.1 = i
    · have e1 : lookE (e :: es) i = some e.2 := if_pos z
      rw [e1] at h
      cases h
      rw [← z]
      exact List.mem_cons_self
    · have e1 : lookE (e :: es) i = lookE es i := if_neg z
      rw [e1] at h
      exact List.mem_cons_of_mem _ (lookE_mem h)
theorem hitsB_iff {fs : List (Int × Dt)} : ∀ {es : List (Int × Dt)}, hitsB fs es = true ↔ ∀ e ∈ es, ∃ d, lookE fs e.1 = some d ∧ PyData.eqv e.2.py d.py = true
  | [] => ⟨fun _ e he => (by cases he), fun _ => rfl⟩
  | e :: es => by
    have ih := hitsB_iff (fs := fs) (es := es)
    have e0 : hitsB fs (e :: es) = (match lookE fs e.1 with | none => false | some d => PyData.eqv e.2.py d.py && hitsB fs es) := rfl
    cases h : lookE fs e.1 with
    | none =>
      rw [e0, h]
      refine ⟨fun z => (by cases z), fun k => ?_⟩
      obtain ⟨d, h1, _⟩ := k e List.mem_cons_self
      rw [h] at h1
      cases h1
    | some d =>
      rw [e0, h]
      show (PyData.eqv e.2.py d.py && hitsB fs es) = true ↔ _
      rw [Bool.and_eq_true, ih]
      refine ⟨fun ⟨h1, h2⟩ f hf => ?_, fun k => ⟨?_, fun f hf => k f (List.mem_cons_of_mem _ hf)⟩⟩
      · rcases List.mem_cons.mp hf with rfl | hf
        · exact ⟨d, h, h1⟩
        · exact h2 f hf
      · obtain ⟨d', h1, h2⟩ := k e List.mem_cons_self
        rw [h] at h1
        cases h1
        exact h2
theorem keptB_flip {es fs : List (Int × Dt)} (n1 : (es.map (·.1)).Nodup) (n2 : (fs.map (·.1)).Nodup) (h : keptB es fs = true) : keptB fs es = true := by
  unfold keptB at h ⊢
  rw [Bool.and_eq_true] at h ⊢
  obtain ⟨h1, h2⟩ := h
  have hl : es.length = fs.length := by simpa using h1
  refine ⟨by simp [hl], hitsB_iff.mpr fun f hf => ?_⟩
  have sub : ∀ k ∈ es.map (·.1), k ∈ fs.map (·.1) := fun k hk => by
    obtain ⟨e, he, rfl⟩ := List.mem_map.mp hk
    obtain ⟨d, h3, _⟩ := hitsB_iff.mp h2 e he
    exact List.mem_map.mpr ⟨_, lookE_mem h3, rfl⟩
  have all := cover n1 sub (by rw [List.length_map, List.length_map]; omega) f.1 (List.mem_map.mpr ⟨f, hf, rfl⟩)
  obtain ⟨e, he, ee⟩ := List.mem_map.mp all
  obtain ⟨d, h3, h4⟩ := hitsB_iff.mp h2 e he
  have h5 := lookE_of n2 f hf
  rw [ee] at h3
  rw [h5] at h3
  cases h3
  refine ⟨e.2, ?_, by rw [PySem.W.eqv_comm]; exact h4⟩
  rw [← ee]
  exact lookE_of n1 e he
theorem keptB_comm {es fs : List (Int × Dt)} (n1 : (es.map (·.1)).Nodup) (n2 : (fs.map (·.1)).Nodup) : keptB es fs = keptB fs es := by
  cases h : keptB es fs with
  | true => exact (keptB_flip n1 n2 h).symm
  | false =>
    cases g : keptB fs es with
    | false => rfl
    | true => rw [keptB_flip n2 n1 g] at h; cases h
theorem sameB_comm {a b : Pm} (o1 : PmOk a) (o2 : PmOk b) : sameB a b = sameB b a := by
  show (PyData.eqv (hdD a.ks a.t).py (hdD b.ks b.t).py && (PyData.eqv a.sd.py b.sd.py && (PyData.eqv (.int a.far) (.int b.far) && (keptB a.es b.es && true)))) = (PyData.eqv (hdD b.ks b.t).py (hdD a.ks a.t).py && (PyData.eqv b.sd.py a.sd.py && (PyData.eqv (.int b.far) (.int a.far) && (keptB b.es a.es && true))))
  rw [PySem.W.eqv_comm (hdD a.ks a.t).py, PySem.W.eqv_comm a.sd.py, PySem.W.eqv_comm (.int a.far), keptB_comm o1.nd o2.nd]
/-! ### some makers -/
structure Mr where
  M : Addr
  TH : Addr
  WR : Addr
  MD : Addr
  KD : Addr
  LD : Addr
  hv : Hd
  a : Pm
  came : Int
  lg : List Dt
def Mr.ads (r : Mr) : List Addr := [r.M, r.TH, r.WR, r.MD, r.KD, r.LD]
structure MrOk (K : PySem.W.Frag) (H : Hp) (C : Addr) (n : Nat) (r : Mr) : Prop where
  mkr : MkA K H C r.M r.TH r.WR r.hv r.a.es r.came r.lg false
  md : MdA K H r.MD r.KD r.LD r.hv r.a.es r.came r.lg
  hd : HdR K H r.hv r.a
  pu : Pu r.a.ks r.a.t r.a.es r.came r.lg n
  sd : Shd r.a.sd
theorem MrOk.pm {K : PySem.W.Frag} {H : Hp} {C : Addr} {n : Nat} {r : Mr} (m : MrOk K H C n r) : PmOk r.a := ⟨m.sd, fun e he => (m.pu.fit.shd (by have := m.pu.lk; omega) e he).2, m.pu.nod⟩
theorem MrOk.ch {K : PySem.W.Frag} {H H' : Hp} {C : Addr} {n : Nat} {r : Mr} {S : List Addr} (m : MrOk K H C n r) (c : Ch S H H') (t : Ts H H') (h : ∀ x ∈ r.ads, x ∉ S) : MrOk K H' C n r :=
  ⟨m.mkr.ch c t (h _ (by simp [Mr.ads])) (h _ (by simp [Mr.ads])) (h _ (by simp [Mr.ads])), m.md.ch c t (h _ (by simp [Mr.ads])) (h _ (by simp [Mr.ads])) (h _ (by simp [Mr.ads])), m.hd.ts t, m.pu, m.sd⟩
structure AllR (K : PySem.W.Frag) (H : Hp) (C : Addr) (n : Nat) (ms : List Mr) : Prop where
  ok : ∀ r ∈ ms, MrOk K H C n r
  nd : (ms.flatMap Mr.ads).Nodup
theorem AllR.ch0 {K : PySem.W.Frag} {H H' : Hp} {C : Addr} {n : Nat} {ms : List Mr} (m : AllR K H C n ms) (c : Ch [] H H') : AllR K H' C n ms := ⟨fun r hr => (m.ok r hr).ch c (.of c) (by simp), m.nd⟩
/-- an address tells the maker -/
theorem ads_one : ∀ {ms : List Mr}, (ms.flatMap Mr.ads).Nodup → ∀ r ∈ ms, ∀ q ∈ ms, ∀ x, x ∈ r.ads → x ∈ q.ads → r = q
  | m :: ms, nd, r, hr, q, hq, x, h1, h2 => by
    rw [List.flatMap_cons, List.nodup_append] at nd
    obtain ⟨_, n2, n3⟩ := nd
    rcases List.mem_cons.mp hr with e1 | hr
    · rcases List.mem_cons.mp hq with e2 | hq
      · rw [e1, e2]
      · exact absurd rfl (n3 x (e1 ▸ h1) x (List.mem_flatMap.mpr ⟨q, hq, h2⟩))
    · rcases List.mem_cons.mp hq with e2 | hq
      · exact absurd rfl (n3 x (e2 ▸ h2) x (List.mem_flatMap.mpr ⟨r, hr, h1⟩))
      · exact ads_one n2 r hr q hq x h1 h2
end LM
set_option Elab.async false
set_option linter.all false
set_option maxRecDepth 100000
set_option maxHeartbeats 4000000
namespace LM
open PySem PySem.Spec PyProof.Rows L2
/-- what the top says of the class Maker -/
structure MkC (K : PySem.W.Frag) (C : Addr) : Prop where
  is : IsC K C
  ne : NeC K C
  kd : PySem.W.kitOne K (.type "dict") (.ref C) = some false
  ki : PySem.W.kitOne K (.type "int") (.ref C) = some false
  kn : PySem.W.kitOne K (.type "NoneType") (.ref C) = some false
theorem mkcB_ok {K : PySem.W.Frag} {C : Addr} (h : mkcB K C = true) : MkC K C := by
  obtain ⟨h1, h⟩ := ba2 h
  obtain ⟨h2, h⟩ := ba2 h
  obtain ⟨h3, h⟩ := ba2 h
  obtain ⟨h4, h⟩ := ba2 h
  obtain ⟨h5, h⟩ := ba2 h
  obtain ⟨h6, h⟩ := ba2 h
  obtain ⟨h7, h8⟩ := ba2 h
  have hm := of_decide_eq_true h4
  exact ⟨⟨He.eqO_ok h1, He.eqO_ok h2, of_decide_eq_true h3, hm⟩, ⟨hm, He.eqO_ok h5⟩, of_decide_eq_true h6, of_decide_eq_true h7, of_decide_eq_true h8⟩
theorem sub_bi {K : PySem.W.Frag} {C : Addr} {n : String} {l : List Value} (e : fastBuiltinMro n = some l) (h : l.contains (.ref C) = false) : PySem.W.notFirst K C (.type n) = true := by
  have : PySem.W.subIn K (.type n) (.ref C) = some false := by
    show (fastBuiltinMro n).map (·.contains (.ref C)) = some false
    rw [e]
    show some (l.contains (.ref C)) = some false
    rw [h]
  unfold PySem.W.notFirst
  rw [this]
  simp
theorem nf_dict {K : PySem.W.Frag} {C : Addr} : PySem.W.notFirst K C (.type "dict") = true := sub_bi (l := [.type "dict", .type "object"]) (by decide +kernel) (by simp)
theorem nf_int {K : PySem.W.Frag} {C : Addr} : PySem.W.notFirst K C (.type "int") = true := sub_bi (l := [.type "int", .type "object"]) (by decide +kernel) (by simp)
theorem nf_none {K : PySem.W.Frag} {C : Addr} : PySem.W.notFirst K C (.type "NoneType") = true := sub_bi (l := [.type "NoneType", .type "object"]) (by decide +kernel) (by simp)
section
variable {P : Program} {w : World} {K : PySem.W.Frag} {mg : Str → Option Value} {base : Heap}
section
variable {H : Hp} {C : Addr} {n : Nat} {ms : List Mr} {r q : Mr} {Q : VK}
theorem own_nf (U : Mt K C) (S : IsC K C) {a dx : Addr} {fs : List (Str × V)} (e : H a = some (.ins C dx fs)) : NotF K H C (.ref a) := ⟨.ref C, .base (.ins e U.cl S.ha S.hn S.ht S.hm), by unfold PySem.W.notFirst; simp⟩
/-- what the own == promises of two of them -/
theorem two_eq (A : AllR K H C n ms) (hr : r ∈ ms) (hq : q ∈ ms) (k : ∀ H', Ch [] H H' → Q (.bl (sameB r.a q.a)) H') : spMEq K C [.ref r.M, .ref q.M] H Q E0 :=
  .inl ⟨r.M, q.M, r.TH, q.TH, r.WR, q.WR, r.hv, q.hv, r.a, q.a, r.came, q.came, r.lg, q.lg, false, false, rfl, (A.ok r hr).mkr, (A.ok q hq).mkr, (A.ok r hr).hd, (A.ok q hq).hd, (A.ok r hr).pm, (A.ok q hq).pm, fun z => by rw [ads_one A.nd r hr q hq r.TH (by simp [Mr.ads]) (by rw [z]; simp [Mr.ads])], k⟩
theorem eq_two (U : Mt K C) (S : IsC K C) (A : AllR K H C n ms) (hr : r ∈ ms) (hq : q ∈ ms) (k : ∀ H', Ch [] H H' → Q (.bl (sameB r.a q.a)) H') : rEqOwn K C (spMEq K C) (.ref r.M) (.ref q.M) H Q := by
  obtain ⟨dx, sv, _, _, e1, _⟩ := (A.ok r hr).mkr.ex
  obtain ⟨dy, sw, _, _, f1, _⟩ := (A.ok q hq).mkr.ex
  exact ⟨r.M, dx, _, rfl, e1, own_nf U S f1, two_eq A hr hq fun H' c => ⟨_, rfl, k H' c⟩⟩
theorem ne_two (U : Mt K C) (S : IsC K C) (A : AllR K H C n ms) (hr : r ∈ ms) (hq : q ∈ ms) (k : ∀ H', Ch [] H H' → Q (.bl (!sameB r.a q.a)) H') : rNeOwn K C (spMEq K C) (.ref r.M) (.ref q.M) H Q := by
  obtain ⟨dx, sv, _, _, e1, _⟩ := (A.ok r hr).mkr.ex
  obtain ⟨dy, sw, _, _, f1, _⟩ := (A.ok q hq).mkr.ex
  exact ⟨r.M, dx, _, rfl, e1, own_nf U S f1, two_eq A hr hq fun H' c => ⟨_, rfl, k H' c⟩⟩
/-- against what is no maker -/
theorem eq_odd (A : AllR K H C n ms) (hr : r ∈ ms) {y : V} {t : Value} (ty : TyX K H y t) (nf : PySem.W.notFirst K C t = true) (kt : PySem.W.kitOne K t (.ref C) = some false) (k : Q (.bl false) H) : rEqOwn K C (spMEq K C) (.ref r.M) y H Q := by
  obtain ⟨dx, sv, _, _, e1, _⟩ := (A.ok r hr).mkr.ex
  exact ⟨r.M, dx, _, rfl, e1, ⟨t, ty, nf⟩, .inr ⟨r.M, y, t, rfl, ty, kt, ⟨false, rfl, k⟩⟩⟩
theorem same_two (A : AllR K H C n ms) (hr : r ∈ ms) (hq : q ∈ ms) (k : ∀ H', Ch [] H H' → Q (.bl (sameB r.a q.a)) H') : spSame K [.ref r.MD, .ref q.MD] H Q E0 :=
  ⟨r.MD, q.MD, r.KD, q.KD, r.LD, q.LD, r.hv, q.hv, r.a, q.a, r.came, q.came, r.lg, q.lg, rfl, (A.ok r hr).md, (A.ok q hq).md, (A.ok r hr).hd, (A.ok q hq).hd, (A.ok r hr).pm, (A.ok q hq).pm, fun z => by rw [ads_one A.nd r hr q hq r.KD (by simp [Mr.ads]) (by rw [z]; simp [Mr.ads])], k⟩
end
def spAR (K : PySem.W.Frag) (C : Addr) : Sp := fun vs H Q _ => ∃ (A B : Addr) (ms : List Mr) (n : Nat), vs = [.ref A, .ref B] ∧ H A = some (.lst ((ms.map Mr.M).map V.ref)) ∧ H B = some (.lst ((ms.map Mr.MD).map V.ref)) ∧ AllR K H C n ms ∧ n ≤ 100 ∧ ms.length ≤ 3 ∧ ∀ H', Ch [] H H' → Q (.bl true) H'
theorem sc_ar : FnScope ["_law_makers", "_law_models", "_law_maker", "_law_model", "_law_other", "_law_second", "_law_due"] ["_law_makers", "_law_models"] (defScope (top 72)) := ⟨rfl, rfl, rfl, by decide +kernel, rfl, by decide +kernel, by decide +kernel⟩
theorem ok_ar {C : Addr} (D : Df K mg "_law_alike_right" (top 72)) (T : Bn mg) (U : Mt K C) (S : MkC K C) (O__law_same : OkF P w K mg base CX0 1 "_law_same" ["_law_one", "_law_other"] (spSame K)) (O___eq__ : OkM P w K mg base CX0 1 C "__eq__" ["self", "other"] (spMEq K C)) (O___len__ : OkM P w K mg base CX0 1 C "__len__" ["self"] (spLen K C)) :
    OkF P w K mg base CX0 4 "_law_alike_right" ["_law_makers", "_law_models"] (spAR K C) := by
  refine okF0 D sc_ar (fun _ _ _ _ _ _ us hl => match us, hl with | [_, _], _ => rfl) (fun vs H Q E h => ?_) (fun cdv A outer s H vs Q E hr h => ?_)
  · obtain ⟨_, _, _, _, rfl, _⟩ := h
    rfl
  · obtain ⟨LM, LD, ms, n, rfl, eA, eB, AA, hn, lm, q⟩ := h
    have nd := sc_ar.nd
    have hu := hu_of hr
    have N := S.ne
    refine ⟨_, (pss_cons (ps_for PassesOwn.never rfl (RZ.pi_zipA (by rfl) T.b_zip (pa_cons (pv 0) (pa_cons (pv 1) pa_nil))) (pg_tup rfl (pgs_cons (pg_name (i := 2) nd rfl (Or.inl rfl)) (pgs_cons (pg_name (i := 3) nd rfl (Or.inr rfl)) pgs_nil))) (pss_cons (ps_for PassesOwn.never rfl (RZ.pi_zipA (by rfl) T.b_zip (pa_cons (pv 0) (pa_cons (pv 1) pa_nil))) (pg_tup rfl (pgs_cons (pg_name (i := 4) nd rfl (Or.inl rfl)) (pgs_cons (pg_name (i := 5) nd rfl (Or.inl rfl)) pgs_nil))) (pss_cons (ps_set (i := 6) nd rfl (Or.inl rfl) (pe_callF O__law_same (hr.mono (by omega)) rfl pass0 (pa_cons (pv 3) (pa_cons (pv 5) pa_nil))))
  (pss_one (ps_if (PW.pt (pw_or (pt_cmpR (r := rNeD K) (op_neD hr.units) (pe_lst (pa_cons (pe_cmpR (r := rEqOwn K C (spMEq K C)) (op_eqOwn O___eq__ (hr.mono (by omega))) (pv 2) (pv 4) (nomark _)) (pa_cons (pe_cmpR (r := rNeOwn K C (spMEq K C)) (op_neOwn N O___eq__ (hr.mono (by omega)) hu) (pv 2) (pv 4) (nomark _)) pa_nil))) (pe_lst (pa_cons (pv 6) (pa_cons (pe_not (pv 6)) pa_nil))) (nomark _)) (pw_or1 (pt_not (pt_val (pe_callB (r := rIsi K) call_isi (by rfl) T.b_isinstance (by decide +kernel) (pa_cons (pe_cmpR (r := rEqOwn K C (spMEq K C)) (op_eqOwn O___eq__ (hr.mono (by omega))) (pv 2) (pv 4) (nomark _)) (pa_cons (pe_bltn (v := .ty "bool") (by rfl) T.b_bool (by decide +kernel) rfl) pa_nil))) (by intro _; rfl)))))) (pss_one (ps_ret pe_bl)) pss_nil))))
  (pss_cons (ps_if (PW.pt (pw_or (pt_cmpR (r := rEqOwn K C (spMEq K C)) (op_eqOwn O___eq__ (hr.mono (by omega))) (pv 2) (pe_dget hu (pv 3) pe_str (fun _ _ => rfl)) (nomark _)) (pw_or (pt_cmpR (r := rEqOwn K C (spMEq K C)) (op_eqOwn O___eq__ (hr.mono (by omega))) (pv 2) (pe_callB (r := rLenOwn C (spLen K C)) (call_lenOwn O___len__ (hr.mono (by omega))) (by rfl) T.b_len PySem.boot_len (pa_cons (pv 2) pa_nil)) (nomark _)) (pw_or1 (pt_cmpR (r := rEqOwn K C (spMEq K C)) (op_eqOwn O___eq__ (hr.mono (by omega))) (pv 2) pe_non (nomark _)))))) (pss_one (ps_ret pe_bl)) pss_nil)
  (pss_one (ps_if (pt_cmpR op_ne (pe_bm PySem.F.plainAttrs_list PySem.F.slot_list_count PySem.F.type_list_count (mt_cntO O___eq__ (hr.mono (by omega))) (pv 0) (pa_cons (pv 2) pa_nil)) (pe_callB (r := rLenS K) call_len_seq (by rfl) T.b_len PySem.boot_len (pa_cons (pe_lc (own := [("_law_second", 5)]) rfl nd (pi_list (pv 1)) (blkOk_by (own := [("_law_second", 5)]) (N := ["_law_makers", "_law_models", "_law_maker", "_law_model", "_law_other", "_law_second", "_law_due"]) (sc := defScope (top 72)) (by decide +kernel)) (fun _ _ _ _ _ => (pg_name (i := 5) nd rfl (Or.inl rfl))) (fun _ _ _ _ _ => pts_one (pt_val (pe_callF O__law_same (hr.mono (by omega)) rfl pass0 (pa_cons (pv 3) (pa_cons (pv 5) pa_nil))) (by intro _; rfl))) (fun _ _ _ _ _ => pe_int)) pa_nil)) (nomark _)) (pss_one (ps_ret pe_bl)) pss_nil)))))
  (pss_one (ps_ret pe_bl))), ?_⟩
    have lz : ms.length = min ((ms.map Mr.M).map V.ref).length ((ms.map Mr.MD).map V.ref).length := by simp
    refine ⟨_, rfl, _, rfl, LM, LD, _, _, rfl, .inl ⟨SqL.of eA, SqL.of eB, ?_⟩⟩
    refine for_it (walk_zip (K := K) (a := LM) (b := LD) (xs := (ms.map Mr.M).map V.ref) (ys := (ms.map Mr.MD).map V.ref) (n := ms.length) lz) (fun i σ' H' => ∃ (u2 u3 u4 u5 u6 : Option V), σ' = [some (.ref LM), some (.ref LD), u2, u3, u4, u5, u6] ∧ Ch [] H H') ⟨none, none, none, none, none, rfl, .refl⟩ ?_ ?_ ?_
    · rintro i σ' H' _ ⟨_, _, _, _, _, _, c⟩
      exact ⟨SqL.of (c LM _ (by simp) eA), SqL.of (c LD _ (by simp) eB)⟩
    · rintro i x σ' Hx H' hi ⟨u2, u3, u4, u5, u6, rfl, c⟩ ⟨TT, x1, y1, rfl, hT, rfl, ex, ey⟩
      dsimp only at ex ey
      obtain ⟨r, hr1⟩ : ∃ r, ms[i]? = some r := ⟨_, List.getElem?_eq_getElem hi⟩
      have rm : r ∈ ms := List.mem_of_getElem? hr1
      have ex' : x1 = V.ref r.M := by
        rw [List.getElem?_map, List.getElem?_map, hr1] at ex
        exact (Option.some.inj ex).symm
      have ey' : y1 = V.ref r.MD := by
        rw [List.getElem?_map, List.getElem?_map, hr1] at ey
        exact (Option.some.inj ey).symm
      subst ex' ey'
      have c1 : Ch [] H (upd Hx TT (.tup [.ref r.M, .ref r.MD])) := c.trans (.new hT)
      have s1 : SqT K (upd Hx TT (.tup [.ref r.M, .ref r.MD])) TT [.ref r.M, .ref r.MD] := SqT.of upd_same
      generalize upd Hx TT (.tup [.ref r.M, .ref r.MD]) = H1 at c1 s1 ⊢
      refine ⟨TT, _, rfl, s1, rfl, _, _, rfl, _, _, rfl, rfl, ?_⟩
      clear s1 hT c ex ey
      -- against each
      refine ⟨_, rfl, _, rfl, LM, LD, _, _, rfl, .inl ⟨SqL.of (c1 LM _ (by simp) eA), SqL.of (c1 LD _ (by simp) eB), ?_⟩⟩
      refine for_it (walk_zip (K := K) (a := LM) (b := LD) (xs := (ms.map Mr.M).map V.ref) (ys := (ms.map Mr.MD).map V.ref) (n := ms.length) lz) (fun j σ' H' => ∃ (u4 u5 u6 : Option V), σ' = [some (.ref LM), some (.ref LD), some (.ref r.M), some (.ref r.MD), u4, u5, u6] ∧ Ch [] H H') ⟨_, _, _, rfl, c1⟩ ?_ ?_ ?_
      · rintro j σ' H' _ ⟨_, _, _, _, c⟩
        exact ⟨SqL.of (c LM _ (by simp) eA), SqL.of (c LD _ (by simp) eB)⟩
      · rintro j x σ' Hy H' hj ⟨u4, u5, u6, rfl, c⟩ ⟨TT, x1, y1, rfl, hT, rfl, ex, ey⟩
        dsimp only at ex ey
        obtain ⟨g, hg1⟩ : ∃ g, ms[j]? = some g := ⟨_, List.getElem?_eq_getElem hj⟩
        have gm : g ∈ ms := List.mem_of_getElem? hg1
        have ex' : x1 = V.ref g.M := by
          rw [List.getElem?_map, List.getElem?_map, hg1] at ex
          exact (Option.some.inj ex).symm
        have ey' : y1 = V.ref g.MD := by
          rw [List.getElem?_map, List.getElem?_map, hg1] at ey
          exact (Option.some.inj ey).symm
        subst ex' ey'
        have c2 : Ch [] H (upd Hy TT (.tup [.ref g.M, .ref g.MD])) := c.trans (.new hT)
        have s2 : SqT K (upd Hy TT (.tup [.ref g.M, .ref g.MD])) TT [.ref g.M, .ref g.MD] := SqT.of upd_same
        generalize upd Hy TT (.tup [.ref g.M, .ref g.MD]) = H2 at c2 s2 ⊢
        refine ⟨TT, _, rfl, s2, rfl, _, _, rfl, _, _, rfl, rfl, ?_⟩
        clear s2 hT c ex ey
        have A2 := AA.ch0 c2
        refine ⟨_, rfl, _, rfl, ?_⟩
        dsimp only [tCons, tNil, tCall, List.cons_append, List.nil_append]
        refine same_two A2 rm gm fun H3 c3 => ?_
        have c03 := c2.trans c3
        have A3 := AA.ch0 c03
        refine ⟨_, rfl, _, rfl, ?_⟩
        refine eq_two U S.is A3 rm gm fun H4 c4 => ?_
        have A4 := A3.ch0 c4
        refine ⟨_, rfl, _, rfl, ?_⟩
        refine ne_two U S.is A4 rm gm fun H5 c5 => ?_
        generalize sameB r.a g.a = b
        refine ⟨(by show 2 ≤ sizeLine; decide), fun p hp => ?_⟩
        have c6 : Ch [] H5 (upd H5 p (.lst [.bl b, .bl (!b)])) := .new hp
        have e6 : upd H5 p (.lst [.bl b, .bl (!b)]) p = some (.lst [.bl b, .bl (!b)]) := upd_same
        generalize upd H5 p (.lst [.bl b, .bl (!b)]) = H6 at c6 e6 ⊢
        refine ⟨_, rfl, _, rfl, b, rfl, (by show 2 ≤ sizeLine; decide), fun p2 hp2 => ?_⟩
        have c7 : Ch [] H6 (upd H6 p2 (.lst [.bl b, .bl (!b)])) := .new hp2
        have e7 : upd H6 p2 (.lst [.bl b, .bl (!b)]) p2 = some (.lst [.bl b, .bl (!b)]) := upd_same
        have e67 := c7 p _ (by simp) e6
        generalize upd H6 p2 (.lst [.bl b, .bl (!b)]) = H7 at c7 e7 e67 ⊢
        have c07 : Ch [] H H7 := c03.trans (c4.trans (c5.trans (c6.trans c7)))
        have rb : DRs K H7 [.bl b, .bl (!b)] [.bl b, .bl (!b)] := .cons (.bl _) (.cons (.bl _) .nil)
        refine ne_same (d := .list (Dt.pys [.bl b, .bl (!b)])) (.lst (SqL.of e67) rb.dp) (.lst (SqL.of e7) rb.dp) (shd_list fun d hd => ?_) ?_
        · simp only [List.mem_cons, List.not_mem_nil, or_false] at hd
          rcases hd with rfl | rfl <;> exact ⟨rfl, Nat.zero_le _⟩
        refine ⟨_, rfl, ?_⟩
        refine iteB (fun z => by cases z) (fun _ => ?_)
        refine ⟨_, rfl, _, rfl, ?_⟩
        refine eq_two U S.is (AA.ch0 c07) rm gm fun H8 c8 => ?_
        refine ⟨_, _, _, _, true, rfl, .ty "bool", .base (.bl _), kit_ty (by decide +kernel), ?_⟩
        refine ⟨_, rfl, ?_⟩
        refine iteB (fun z => by cases z) (fun _ => ?_)
        exact ⟨_, _, _, rfl, c07.trans c8⟩
      · rintro σ' H2 ⟨u4, u5, u6, rfl, c2⟩
        have A2 := AA.ch0 c2
        have R2 := A2.ok r rm
        obtain ⟨dx, sv, kvs, lgs, e1, e2, e3, k1, _⟩ := R2.mkr.ex
        obtain ⟨ks, lgd, d1, d2, d3, k2, _, _⟩ := R2.md.ex
        -- against what is no maker
        refine ⟨_, rfl, _, rfl, r.MD, _, rfl, md_kept d1, ?_⟩
        refine eq_odd A2 rm (.base (.dK d2)) nf_dict S.kd ?_
        refine ⟨_, rfl, ?_⟩
        refine iteB (fun z => by cases z) (fun _ => ?_)
        have l1 := R2.pu.le
        have l2 := R2.pu.ll
        refine ⟨_, rfl, _, rfl, r.M, dx, _, rfl, e1, r.M, r.TH, r.WR, r.hv, r.a.es, r.came, r.lg, false, rfl, R2.mkr, by omega, by omega, r.a.es.length, rfl, by omega, ?_⟩
        refine eq_odd A2 rm (.base (.int _)) nf_int S.ki ?_
        refine ⟨_, rfl, ?_⟩
        refine iteB (fun z => by cases z) (fun _ => ?_)
        refine ⟨_, rfl, ?_⟩
        dsimp only [tC]
        refine eq_odd A2 rm (.base .non) nf_none S.kn ?_
        refine ⟨_, rfl, ?_⟩
        refine iteB (fun z => by cases z) (fun _ => ?_)
        -- counted
        have eA2 := c2 LM _ (by simp) eA
        refine ⟨_, rfl, .inl ⟨rfl, _, SqL.of eA2⟩, ?_⟩
        refine ⟨_, rfl, LM, r.M, ms.map Mr.M, ms.map (fun g => sameB g.a r.a), fun _ H' => Ch [] H H', rfl, rfl, by simp, c2, fun j H' c => c LM _ (by simp) eA, fun j m b H' hm hb c => ?_, fun H3 c3 => ?_⟩
        · rw [List.getElem?_map] at hm hb
          obtain ⟨g, hg, rfl⟩ := Option.map_eq_some_iff.mp hm
          rw [hg] at hb
          have eb : sameB g.a r.a = b := Option.some.inj hb
          have gm : g ∈ ms := List.mem_of_getElem? hg
          have A' := AA.ch0 c
          refine ⟨fun z => ?_, fun z => ?_⟩
          · have er := ads_one A'.nd g gm r rm g.M (by simp [Mr.ads]) (by rw [z]; simp [Mr.ads])
            refine ⟨?_, c⟩
            rw [← eb, er]
            exact sameB_self (A'.ok r rm).pm
          · obtain ⟨dz, sz, _, _, z1, _⟩ := (A'.ok g gm).mkr.ex
            obtain ⟨dr, sr, _, _, z2, _⟩ := (A'.ok r rm).mkr.ex
            exact ⟨dz, _, z1, own_nf U S.is z2, two_eq A' gm rm fun H'' c'' => ⟨_, rfl, eb, c.trans c''⟩⟩
        · have A3 := AA.ch0 c3
          refine ⟨_, rfl, LD, rfl, ⟨_, SqL.of (c3 LD _ (by simp) eB)⟩, fun DD hDD => ?_⟩
          refine lc_it (walk_list (K := K) (a := LD) (xs := (ms.map Mr.MD).map V.ref)) (fun j H' => Ch [] H3 H' ∧ H' DD = some (.lst (List.replicate (((ms.take j).map fun g => sameB g.a r.a).count true) (V.int 1)))) ⟨.new hDD, upd_same⟩ ?_ ?_ ?_
          · rintro j H' _ ⟨c, _⟩
            exact SqL.of ((c3.trans c) LD _ (by simp) eB)
          · rintro j x Hx H' hj ⟨c, eD⟩ ⟨rfl, ex⟩
            rw [List.getElem?_map, List.getElem?_map] at ex
            obtain ⟨y0, hy0, rfl⟩ := Option.map_eq_some_iff.mp ex
            obtain ⟨g, hg, rfl⟩ := Option.map_eq_some_iff.mp hy0
            have gm : g ∈ ms := List.mem_of_getElem? hg
            refine ⟨rfl, ?_⟩
            refine ⟨_, rfl, _, rfl, ?_⟩
            dsimp only [tCons, tNil, tCall, List.cons_append, List.nil_append]
            refine same_two (A3.ch0 c) rm gm fun H4 c4 => ?_
            have eD4 := c4 DD _ (by simp) eD
            have cm : sameB r.a g.a = sameB g.a r.a := sameB_comm (A3.ok r rm).pm (A3.ok g gm).pm
            have tk : ((ms.take (j + 1)).map fun g => sameB g.a r.a) = ((ms.take j).map fun g => sameB g.a r.a) ++ [sameB g.a r.a] := by rw [take_one hg, List.map_append]; rfl
            have lc : ((ms.take j).map fun g => sameB g.a r.a).count true ≤ 3 := by
              have := List.count_le_length (a := true) (l := (ms.take j).map fun g => sameB g.a r.a)
              rw [List.length_map, List.length_take] at this
              omega
            rw [cm]
            refine ⟨_, rfl, ?_⟩
            cases hb : sameB g.a r.a with
            | true =>
              refine ⟨_, eD4, small1000 (by rw [List.length_replicate]; omega), (c.trans c4).mut hDD, ?_⟩
              rw [upd_same, tk, hb, List.count_append]
              show some (HO.lst (List.replicate _ (V.int 1) ++ [V.int 1])) = some (HO.lst (List.replicate (_ + 1) (V.int 1)))
              rw [List.replicate_succ']
            | false =>
              refine ⟨c.trans c4, ?_⟩
              rw [tk, hb, List.count_append]
              exact eD4
          · rintro H4 ⟨c4, eD⟩
            have lx : ((ms.map Mr.MD).map V.ref).length = ms.length := by simp
            rw [lx, List.take_length] at eD
            refine ⟨DD, _, rfl, .inl (SqL.of eD), rfl, _, rfl, ?_⟩
            rw [List.length_replicate]
            refine iteN (fun z => absurd rfl z) (fun _ => ?_)
            exact ⟨_, _, _, _, _, rfl, c3.trans c4⟩
    · rintro σ' H1 ⟨u2, u3, u4, u5, u6, rfl, c⟩
      exact q H1 c
end
end LM
set_option Elab.async false
set_option linter.all false
set_option maxRecDepth 100000
set_option maxHeartbeats 4000000
/-! d.update(e), e another dict -/
namespace LM
open PySem PySem.Spec PyProof.Rows L2
theorem merge_le : ∀ (more kvs : List (Key × V)), (mergeK kvs more).length ≤ kvs.length + more.length
  | [], kvs => Nat.le_refl _
  | p :: more, kvs => by
    have h1 := merge_le more (putK kvs p.1 p.2)
    have h2 := length_putK kvs p.1 p.2
    show (mergeK (putK kvs p.1 p.2) more).length ≤ _
    rw [List.length_cons]
    omega
section
variable {X : Cx} {pins : List (Addr × Obj)} {σ : L2.St} {H : Hp} {s : Shared} {A : Around} {E : Value → Shared → Prop}
theorem d_merge {a b : Addr} {ks ls : List (Key × V)} {Q : Value → Shared → Prop} (I : Inv X pins σ H s) (e : H a = some (.dK ks)) (g : H b = some (.dK ls)) (ne : a ≠ b) (z : ks.length + ls.length ≤ sizeLine)
    (h : ∀ s', Inv X pins σ (upd H a (.dK (mergeK ks ls))) s' → Q .none s') : wpAny (model X.prog X.w) A (call (.builtin "dict.update") [.ref a, .ref b]) Q E s := by
  obtain ⟨_, ha, vs, rel, dd⟩ := dk_of I.hok e
  obtain ⟨_, hb, us, rel2, dd2⟩ := dk_of I.hok g
  refine call_meetsIn PySem.F.slot_dict_update dd.typeIs PySem.F.entry_dict_update (PySem.F.args_dict_update_2 _ _) (meets_dict_update (mixKind X.prog X.w) a b ne hb)
    ⟨vs, us, dd, dd2, by rw [← rel.length, ← rel2.length]; exact z, fun h' dd' _ hs => h _ ?_⟩
  have he : ∃ q, h'.get? a = some q := let ⟨q, _, _, hq, _⟩ := dd'; ⟨q, hq⟩
  exact d_write I (by rw [e]; exact True.intro) hs he (dk_new (Nat.le_trans (merge_le ls ks) z) ha (rel2.merge rel) dd')
/-- d.update(e) -/
def tDUpd (td te : TE) : TE := fun σ H Q => td σ H fun x H1 => ∃ a : Addr, x = .ref a ∧ IsD H1 a ∧ te σ H1 fun y H2 => ∃ (b : Addr) (ks ls : List (Key × V)), y = .ref b ∧ H2 a = some (.dK ks) ∧ H2 b = some (.dK ls) ∧ a ≠ b ∧ ks.length + ls.length ≤ 1000 ∧ Q .non (upd H2 a (.dK (mergeK ks ls)))
theorem pe_dupd {o e : Expr} {td te : TE} {apos cpos : Pos} (ho : PE X o td) (he : PE X e te) (m : M1 X o "update" apos e cpos) : PE X (.Call (.Attribute o "update" apos) [e] [] cpos) (tDUpd td te) := by
  refine ⟨fun pins s σ H Q I h => ?_⟩
  refine wpAny_Call_method m.base m.few m.line PySem.F.plainAttrs_dict PySem.F.slot_dict_update PySem.F.type_dict_update (thn (ho.run pins s σ H _ I h) fun u s1 ⟨x, H1, I1, rx, a, ex, d, q1⟩ => ?_)
  subst ex
  cases (show u = Value.ref a from rx)
  obtain ⟨t1, t2, _⟩ := isD_at I1 d
  refine ⟨t1, t2, ?_⟩
  rw [m.trees]
  refine Calls.callWith_builtin rfl (Calls.evalArgs_plain (Calls.spliced_cons (thn (he.run pins s1 σ H1 _ I1 q1) fun iv s2 ⟨y, H2, I2, ry, b, ks, ls, ey, e1, e2, ne, z, q2⟩ => Calls.spliced_nil ?_)))
  subst ey
  cases (show iv = Value.ref b from ry)
  exact d_merge I2 e1 e2 ne (Nat.le_of_lt (Nat.lt_of_le_of_lt z (by decide))) fun s3 I3 => ⟨.non, _, I3, rfl, q2⟩
end
end LM
set_option Elab.async false
set_option linter.all false
set_option maxRecDepth 100000
set_option maxHeartbeats 4000000
namespace LM
open PySem PySem.Spec PyProof.Rows L2
/-! ### the makers begin -/
def shopD : Dt := .tup [.tup [.tup [.int 0, .int 1]], .tup [.tup [.int 1, .int 2]], .tup [.tup [.str "atmost", .int 1], .tup [.str "if", .int 3]]]
theorem stock_shd : Shd stockDt := ⟨by decide +kernel, by decide +kernel⟩
theorem shop_shd : Shd shopD := ⟨by decide +kernel, by decide +kernel⟩
theorem AllR.snoc {K : PySem.W.Frag} {H : Hp} {C : Addr} {n : Nat} {ms : List Mr} {r : Mr} (m : AllR K H C n ms) (h : MrOk K H C n r) (nd : r.ads.Nodup) (ds : ∀ x ∈ ms.flatMap Mr.ads, x ∉ r.ads) : AllR K H C n (ms ++ [r]) := by
  refine ⟨fun q hq => ?_, ?_⟩
  · rcases List.mem_append.mp hq with hq | hq
    · exact m.ok q hq
    · rw [List.mem_singleton.mp hq]; exact h
  · rw [List.flatMap_append, List.nodup_append]
    refine ⟨m.nd, by simpa [List.flatMap_cons] using nd, fun a ha b hb z => ?_⟩
    have hb' : b ∈ r.ads := by simpa [List.flatMap_cons] using hb
    exact ds a ha (z ▸ hb')
theorem AllR.ch {K : PySem.W.Frag} {H H' : Hp} {C : Addr} {n : Nat} {ms : List Mr} {S : List Addr} (m : AllR K H C n ms) (c : Ch S H H') (t : Ts H H') (h : ∀ x ∈ ms.flatMap Mr.ads, x ∉ S) : AllR K H' C n ms :=
  ⟨fun r hr => (m.ok r hr).ch c t fun x hx => h x (List.mem_flatMap.mpr ⟨r, hr, hx⟩), m.nd⟩
/-- what they stand at is there -/
theorem AllR.some {K : PySem.W.Frag} {H : Hp} {C : Addr} {n : Nat} {ms : List Mr} (m : AllR K H C n ms) : ∀ x ∈ ms.flatMap Mr.ads, H x ≠ none := by
  intro x hx
  obtain ⟨r, hr, hx⟩ := List.mem_flatMap.mp hx
  obtain ⟨_, _, _, _, e1, e2, e3, _⟩ := (m.ok r hr).mkr.ex
  obtain ⟨_, _, f1, f2, f3, _⟩ := (m.ok r hr).md.ex
  simp only [Mr.ads, List.mem_cons, List.not_mem_nil, or_false] at hx
  rcases hx with rfl | rfl | rfl | rfl | rfl | rfl
  · rw [e1]; exact fun z => by cases z
  · rw [e2]; exact fun z => by cases z
  · rw [e3]; exact fun z => by cases z
  · rw [f1]; exact fun z => by cases z
  · rw [f2]; exact fun z => by cases z
  · rw [f3]; exact fun z => by cases z
theorem seq_disp {K : PySem.W.Frag} {σ : L2.St} {H : Hp} {es : List Dt} {ta : TA} {i : Nat} {rest : TS} {D : Ends} (y : Yds K ta σ H es) (hl : es.length ≤ 100)
    (q : ∀ (L' : Addr) (ws : List V) (H1 H' : Hp), Ch [] H H1 → Ch [] H1 H' → H1 L' = none → H' L' = some (.lst ws) → DRs K H' ws es → rest D (σ.set i (some (.ref L'))) H') : tSeq (tAsg (tLst ta) (gName i)) rest D σ H :=
  y H .refl (fun xs H1 => xs.length ≤ sizeLine ∧ ∀ p, H1 p = none → rest D (σ.set i (some (.ref p))) (upd H1 p (.lst xs))) fun xs H1 c1 r1 => ⟨Nat.le_of_lt (small1000 (by rw [r1.len]; omega)), fun p hp => q p xs H1 _ c1 (.new hp) hp upd_same (r1.ch (.new hp))⟩
theorem seq_two {K : PySem.W.Frag} {σ : L2.St} {H : Hp} {v0 : V} {d : Dt} {te : TE} {i : Nat} {rest : TS} {D : Ends} (y : Yd K te σ H d)
    (q : ∀ (L' : Addr) (x : V) (H1 H' : Hp), Ch [] H H1 → Ch [] H1 H' → H1 L' = none → H' L' = some (.lst [v0, x]) → DR K H' x d → rest D (σ.set i (some (.ref L'))) H') : tSeq (tAsg (tLst (tCons (tC v0) (tCons te tNil))) (gName i)) rest D σ H :=
  y H .refl (fun x H1 => 2 ≤ sizeLine ∧ ∀ p, H1 p = none → rest D (σ.set i (some (.ref p))) (upd H1 p (.lst [v0, x]))) fun x H1 c1 r1 => ⟨by decide, fun p hp => q p x H1 _ c1 (.new hp) hp upd_same (r1.ch (.new hp))⟩
section
variable {P : Program} {w : World} {K : PySem.W.Frag} {mg : Str → Option Value} {base : Heap}
def spBegun (K : PySem.W.Frag) (C : Addr) : Sp := fun vs H Q _ => ∃ (F : Addr), vs = [.ref F] ∧ FlAt H F ∧ ∀ (p A B : Addr) (ms : List Mr) (H' : Hp), Ch [F] H H' → SqT K H' p [.ref A, .ref B] → H' A = some (.lst ((ms.map Mr.M).map V.ref)) → H' B = some (.lst ((ms.map Mr.MD).map V.ref)) → AllR K H' C 0 ms → 2 ≤ ms.length → ms.length ≤ 3 → (∀ x ∈ ms.flatMap Mr.ads, x ≠ A ∧ x ≠ B ∧ H x = none) → H A = none → H B = none → A ≠ B → Q (.ref p) H'
theorem sc_begun : FnScope ["_law_flow_here", "_law_heads", "_law_shops", "_law_makers", "_law_models", "_law_k", "_law_head_here", "_law_shop", "_law_far"] ["_law_flow_here"] (defScope (top 73)) := ⟨rfl, rfl, rfl, by decide +kernel, rfl, by decide +kernel, by decide +kernel⟩
theorem ok_begun (D : Df K mg "_law_begun" (top 73)) (T : Tm mg K) (O__law_draw : OkF P w K mg base CX0 1 "_law_draw" ["_law_flow_here", "_law_many"] spDraw) (O__law_head : OkF P w K mg base CX0 2 "_law_head" ["_law_flow_here"] (spHead K))
    (O_Maker : OkI P w K mg base 1 "Maker" (He.ga K "Maker") ["self", "head", "stock", "most"] [.ref (He.ga K "STOCK"), .int 5] (spInit K (He.ga K "Maker"))) (O_MakerK : OkK P w K mg base 1 "Maker" (He.ga K "Maker") ["self", "head", "stock", "most"] ["most", "stock"] (fun vs zs => gsw vs [] zs) (spInit K (He.ga K "Maker"))) (O__law_new_model : OkF P w K mg base CX0 1 "_law_new_model" ["_law_head_here"] (spNewMd K)) :
    OkF P w K mg base CX0 3 "_law_begun" ["_law_flow_here"] (spBegun K (He.ga K "Maker")) := by
  refine okF0 D sc_begun (fun _ _ _ _ _ _ us hl => match us, hl with | [_], _ => rfl) (fun vs H Q E h => ?_) (fun cdv A outer s H vs Q E hr h => ?_)
  · obtain ⟨F, rfl, _⟩ := h
    rfl
  · obtain ⟨F, rfl, f0, q⟩ := h
    have nd := sc_begun.nd
    have hu := hu_of hr
    refine ⟨_, (pss_cons (ps_set (i := 1) nd rfl (Or.inl rfl) (pe_lst (pa_cons (pe_callF O__law_head (hr.mono (by omega)) rfl pass0 (pa_cons (pv 0) pa_nil)) (pa_cons (pe_callF O__law_head (hr.mono (by omega)) rfl pass0 (pa_cons (pv 0) pa_nil)) pa_nil))))
  (pss_cons (ps_set (i := 2) nd rfl (Or.inl rfl) (pe_lst (pa_cons (pe_glob (v := .ref (He.ga K "STOCK")) rfl T.g_STOCK rfl) (pa_cons (pe_tup (pa_cons (pe_tup (pa_cons (pe_tup (pa_cons pe_int (pa_cons pe_int pa_nil))) pa_nil)) (pa_cons (pe_tup (pa_cons (pe_tup (pa_cons pe_int (pa_cons pe_int pa_nil))) pa_nil)) (pa_cons (pe_tup (pa_cons (pe_tup (pa_cons pe_str (pa_cons pe_int pa_nil))) (pa_cons (pe_tup (pa_cons pe_str (pa_cons pe_int pa_nil))) pa_nil))) pa_nil)))) pa_nil))))
  (pss_cons (ps_par (i := 3) (j := 4) rfl nd rfl rfl (by decide) rfl rfl (pa_cons (pe_lst pa_nil) (pa_cons (pe_lst pa_nil) pa_nil)) (by rfl))
  (pss_cons (ps_for PassesOwn.never rfl (pi_range1 rfl T.b_range (pa_cons (pe_op op_add pe_int (pe_callF O__law_draw (hr.mono (by omega)) rfl pass0 (pa_cons (pv 0) (pa_cons pe_int pa_nil)))) pa_nil)) (pg_name (i := 5) nd rfl (Or.inl rfl)) (pss_cons (ps_par (i := 6) (j := 7) rfl nd rfl rfl (by decide) rfl rfl (pa_cons (pe_ix (r := rIxL K) ix_list (pv 1) (pe_op op_fdiv (pe_callF O__law_draw (hr.mono (by omega)) rfl pass0 (pa_cons (pv 0) (pa_cons pe_int pa_nil))) pe_int) (fun _ _ => rfl)) (pa_cons (pe_ix (r := rIxL K) ix_list (pv 2) (pe_op op_fdiv (pe_callF O__law_draw (hr.mono (by omega)) rfl pass0 (pa_cons (pv 0) (pa_cons pe_int pa_nil))) pe_int) (fun _ _ => rfl)) pa_nil)) (by rfl))
  (pss_cons (ps_set (i := 8) nd rfl (Or.inl rfl) (pe_ix (r := rIxL K) ix_list (pe_lst (pa_cons pe_int (pa_cons pe_int (pa_cons pe_int (pa_cons pe_int pa_nil))))) (pe_callF O__law_draw (hr.mono (by omega)) rfl pass0 (pa_cons (pv 0) (pa_cons pe_int pa_nil))) (fun _ _ => rfl)))
  (pss_cons (ps_expr (pe_bm PySem.F.plainAttrs_list PySem.F.slot_list_append PySem.F.type_list_append mt_append (pv 3) (pa_cons (pe_makeKK O_MakerK (hr.mono (by omega)) rfl (pa_cons (pv 6) pa_nil) (pk_cons (pv 8) (pk_cons (pv 7) pk_nil))) pa_nil)))
  (Evl.pss_cut (ps_if (PW.pt (pw_and (pt_cmpR op_eq (pv 8) pe_int (nomark _)) (pw_and (pt_cmpR (r := rEqD K) (op_eqD hr.units) (pv 7) (pe_glob (v := .ref (He.ga K "STOCK")) rfl T.g_STOCK rfl) (nomark _)) (pw_and1 (pt_cmpR op_eq (pe_callF O__law_draw (hr.mono (by omega)) rfl pass0 (pa_cons (pv 0) (pa_cons pe_int pa_nil))) pe_int (nomark _)))))) (pss_one (ps_asg (pe_makeI O_Maker (hr.mono (by omega)) rfl (pa_cons (pv 6) pa_nil)) (pg_sub (pv 3) (pe_un un_neg pe_int) set_list))) pss_nil)
  (pss_cons (ps_expr (pe_bm PySem.F.plainAttrs_list PySem.F.slot_list_append PySem.F.type_list_append mt_append (pv 4) (pa_cons (pe_callF O__law_new_model (hr.mono (by omega)) rfl pass0 (pa_cons (pv 6) pa_nil)) pa_nil)))
  (pss_one (ps_expr (pe_dupd (pe_ix (r := rIxL K) ix_list (pv 4) (pe_un un_neg pe_int) (fun _ _ => rfl)) (pe_disp (pps_cons pe_str (pv 7) (pps_cons pe_str (pv 8) pps_nil)) (by rfl) (by rfl) (fun z => by cases z) (by decide)) ⟨rfl, rfl, rfl, rfl⟩)))))))))
  (pss_one (ps_ret (pe_tup (pa_cons (pv 3) (pa_cons (pv 4) pa_nil))))))))), ?_⟩
    -- heads
    refine ⟨_, rfl, F, rfl, f0, fun ks1 t1 hv1 H1 lk1 c1 ts1 f1 rh1 => ?_⟩
    refine ⟨_, rfl, F, rfl, f1, fun ks2 t2 hv2 H2 lk2 c2 ts2 f2 rh2 => ?_⟩
    have rh1' := rh1.ts ts2
    have c02 := c1.trans c2
    refine ⟨(by show 2 ≤ sizeLine; decide), fun HL hHL => ?_⟩
    have c3 : Ch [] H2 (upd H2 HL (.lst [hv1, hv2])) := .new hHL
    have e3 : upd H2 HL (.lst [hv1, hv2]) HL = some (.lst [hv1, hv2]) := upd_same
    generalize upd H2 HL (.lst [hv1, hv2]) = H3 at c3 e3 ⊢
    have f3 := f2.ch c3 (by simp)
    -- shops
    have ysh : ∀ σ : L2.St, Yd K (tTup (tCons (tTup (tCons (tTup (tCons (tC (.int 0)) (tCons (tC (.int 1)) tNil))) tNil)) (tCons (tTup (tCons (tTup (tCons (tC (.int 1)) (tCons (tC (.int 2)) tNil))) tNil)) (tCons (tTup (tCons (tTup (tCons (tC (.str "atmost")) (tCons (tC (.int 1)) tNil))) (tCons (tTup (tCons (tC (.str "if")) (tCons (tC (.int 3)) tNil))) tNil))) tNil)))) σ H3 shopD := by
      intro σ
      unfold shopD
      repeat' first | exact Yds.nil | exact Yd.int | exact Yd.str | exact Nat.le_of_ble_eq_true rfl | refine Yds.cons ?_ ?_ | refine Yd.tup ?_ ?_
    dsimp only [gName]
    refine seq_two (ysh _) fun SL xsh H4 H5 c4 c5 hSL e5 r5 => ?_
    -- the lists
    refine ⟨(by show 0 ≤ sizeLine; decide), fun A hA => ?_⟩
    have c6 : Ch [] H5 (upd H5 A (.lst [])) := .new hA
    have e6 : upd H5 A (.lst []) A = some (.lst []) := upd_same
    generalize upd H5 A (.lst []) = H6 at c6 e6 ⊢
    refine ⟨(by show 0 ≤ sizeLine; decide), fun B hB => ⟨_, _, rfl, ?_⟩⟩
    have c7 : Ch [] H6 (upd H6 B (.lst [])) := .new hB
    have e7 : upd H6 B (.lst []) B = some (.lst []) := upd_same
    generalize upd H6 B (.lst []) = H7 at c7 e7 ⊢
    have k37 : Ch [] H3 H7 := c4.trans (c5.trans (c6.trans c7))
    have k57 : Ch [] H5 H7 := c6.trans c7
    have eHL := k37 HL _ (by simp) e3
    have eSL := k57 SL _ (by simp) e5
    have eA := c7 A _ (by simp) e6
    have nAB : A ≠ B := ne_of_none e6 hB
    have f7 := f3.ch k37 (by simp)
    have rh1'' := (rh1'.ch c3).ch k37
    have rh2'' := (rh2.ch c3).ch k37
    have r7 := r5.ch k57
    have C7 : Ch [F] H H7 := c02.trans (Ch.of0 (c3.trans k37))
    have old : ∀ x : Addr, x ≠ F → H7 x = none → H x = none := fun x n e => by
      cases z : H x with
      | none => rfl
      | some o => rw [C7 x o (by simpa using n) z] at e; cases e
    have old' : ∀ (x : Addr) {G : Hp}, x ≠ F → Ch [] H3 G → G x = none → H x = none := fun x G n cG e => by
      cases z : H x with
      | none => rfl
      | some o => rw [cG x o (by simp) ((c02.trans (Ch.of0 c3)) x o (by simpa using n) z)] at e; cases e
    have live : ∀ x : Addr, H7 x = none → x ≠ F ∧ x ≠ A ∧ x ≠ B := fun x e => by
      obtain ⟨_, _, _, ef, _⟩ := f7
      exact ⟨(ne_of_none ef e).symm, (ne_of_none eA e).symm, (ne_of_none e7 e).symm⟩
    have hA0 : H A = none := old' A (by
      obtain ⟨_, _, _, ef, _⟩ := f3.ch (c4.trans c5) (by simp)
      exact (ne_of_none ef hA).symm) (c4.trans c5) hA
    have hB0 : H B = none := old' B (by
      obtain ⟨_, _, _, ef, _⟩ := f3.ch (c4.trans (c5.trans c6)) (by simp)
      exact (ne_of_none ef hB).symm) (c4.trans (c5.trans c6)) hB
    refine ⟨_, rfl, F, _, rfl, f7, by decide, by decide, fun nn H8 n0 n1 c8 f8 => ⟨_, _, rfl, rfl, ?_⟩⟩
    refine ⟨_, rfl, by omega, by omega, ?_⟩
    refine for_range (lo := 0) (n := (2 + nn).toNat) (fun i σ' H' => ∃ (u5 u6 u7 u8 : Option V) (ms : List Mr), σ' = [some (.ref F), some (.ref HL), some (.ref SL), some (.ref A), some (.ref B), u5, u6, u7, u8] ∧ Ch [F, A, B] H7 H' ∧ Ts H7 H' ∧ FlAt H' F ∧ H' A = some (.lst ((ms.map Mr.M).map V.ref)) ∧ H' B = some (.lst ((ms.map Mr.MD).map V.ref)) ∧ AllR K H' (He.ga K "Maker") 0 ms ∧ ms.length = i ∧ ∀ x ∈ ms.flatMap Mr.ads, H7 x = none) ?_ ?_ ?_
    · have nFA : A ≠ F := by
        obtain ⟨_, _, _, ef, _⟩ := f7
        exact fun z => by rw [z, ef] at eA; cases eA
      have nFB : B ≠ F := by
        obtain ⟨_, _, _, ef, _⟩ := f7
        exact fun z => by rw [z, ef] at e7; cases e7
      exact ⟨none, none, none, none, [], rfl, c8.sub (by simp +contextual), ts_fl f7 c8, f8, c8 A _ (by simpa using nFA) eA, c8 B _ (by simpa using nFB) e7, ⟨(fun r hr => by cases hr), List.nodup_nil⟩, rfl, (fun x hx => by cases hx)⟩
    · rintro i σ' Hx hi ⟨u5, u6, u7, u8, ms, rfl, c, ts, f, eAx, eBx, AA, lm, fresh⟩
      have nF : ∀ {G : Hp} {x : Addr} {o : HO}, FlAt G F → G x = some o → (∀ a b z : Int, o ≠ .lst [.int a, .int b, .int z]) → x ≠ F := fun ff e n z => by
        obtain ⟨_, _, _, ef, _⟩ := ff
        rw [z, ef] at e
        cases e
        exact n _ _ _ rfl
      have eHLx : Hx HL = some (.lst [hv1, hv2]) := c HL _ (by
        have h0 := k37 HL _ (by simp) e3
        have h1 : HL ≠ A := fun z => by
          have := (c4.trans c5) HL _ (by simp) e3
          rw [z, hA] at this
          cases this
        have h2 : HL ≠ B := fun z => by
          have := (c4.trans (c5.trans c6)) HL _ (by simp) e3
          rw [z, hB] at this
          cases this
        have h3 : HL ≠ F := by
          obtain ⟨_, _, _, ef, _⟩ := f2
          exact (ne_of_none ef hHL).symm
        simp [h1, h2, h3]) eHL
      have eSLx : Hx SL = some (.lst [.ref (He.ga K "STOCK"), xsh]) := c SL _ (by
        have h1 : SL ≠ A := ne_of_none e5 hA
        have h2 : SL ≠ B := ne_of_none (c6 SL _ (by simp) e5) hB
        have h3 : SL ≠ F := by
          obtain ⟨_, _, _, ef, _⟩ := f3.ch c4 (by simp)
          exact (ne_of_none ef hSL).symm
        simp [h1, h2, h3]) eSL
      have nHF : HL ≠ F := by
        obtain ⟨_, _, _, ef, _⟩ := f2
        exact (ne_of_none ef hHL).symm
      have nSF : SL ≠ F := by
        obtain ⟨_, _, _, ef, _⟩ := f3.ch c4 (by simp)
        exact (ne_of_none ef hSL).symm
      -- head and stock
      refine ⟨_, rfl, _, rfl, F, _, rfl, f, by decide, by decide, fun d1 Ha a0 a1 ca fa => ⟨_, _, rfl, rfl, ⟨by decide, by decide⟩, ?_⟩⟩
      have ta := ts_fl f ca
      obtain ⟨kx, tx, hvx, hat, rhx, lkx⟩ : ∃ (kx : List Kd) (tx : Kd) (v : V), atI [hv1, hv2] (d1 / 3) = some v ∧ DR K H7 v (hdD kx tx) ∧ kx.length ≤ 2 := by
        have : d1 / 3 = 0 ∨ d1 / 3 = 1 := by omega
        rcases this with z | z
        · rw [z]; exact ⟨ks1, t1, hv1, rfl, rh1'', lk1⟩
        · rw [z]; exact ⟨ks2, t2, hv2, rfl, rh2'', lk2⟩
      refine ⟨HL, _, _, hvx, rfl, rfl, SqL.of (ca HL _ (by simpa using nHF) eHLx), hat, ?_⟩
      refine ⟨_, rfl, _, rfl, F, _, rfl, fa, by decide, by decide, fun d2 Hb b0 b1 cb fb => ⟨_, _, rfl, rfl, ⟨by decide, by decide⟩, ?_⟩⟩
      have tb := ts_fl fa cb
      have cab := ca.trans cb
      obtain ⟨sd, sv, sat, rsv, ssd, sor⟩ : ∃ (sd : Dt) (v : V), atI [V.ref (He.ga K "STOCK"), xsh] (d2 / 3) = some v ∧ DR K H7 v sd ∧ Shd sd ∧ (v = .ref (He.ga K "STOCK") ∨ sd = shopD) := by
        have : d2 / 3 = 0 ∨ d2 / 3 = 1 := by omega
        rcases this with z | z
        · rw [z]; exact ⟨stockDt, _, rfl, T.stk _, stock_shd, .inl rfl⟩
        · rw [z]; exact ⟨shopD, _, rfl, r7, shop_shd, .inr rfl⟩
      refine ⟨SL, _, _, sv, rfl, rfl, SqL.of (cab SL _ (by simpa using nSF) eSLx), sat, ?_⟩
      refine ⟨_, _, rfl, ?_⟩
      -- the most
      refine ⟨(by show 4 ≤ sizeLine; decide), fun p hp => ?_⟩
      have cp : Ch [] Hb (upd Hb p (.lst [.int 5, .int 5, .int 5, .int 3])) := .new hp
      have ep : upd Hb p (.lst [.int 5, .int 5, .int 5, .int 3]) p = some (.lst [.int 5, .int 5, .int 5, .int 3]) := upd_same
      have np : p ≠ F := fl_ne fb hp
      generalize upd Hb p (.lst [.int 5, .int 5, .int 5, .int 3]) = Hc at cp ep ⊢
      have fc := fb.ch cp (by simp)
      refine ⟨_, rfl, F, _, rfl, fc, by decide, by decide, fun d3 Hd g0 g1 cd fd => ?_⟩
      have td := ts_fl fc cd
      obtain ⟨far, fat⟩ : ∃ far : Int, atI [V.int 5, .int 5, .int 5, .int 3] d3 = some (.int far) := by
        have : d3 = 0 ∨ d3 = 1 ∨ d3 = 2 ∨ d3 = 3 := by omega
        rcases this with rfl | rfl | rfl | rfl
        · exact ⟨5, rfl⟩
        · exact ⟨5, rfl⟩
        · exact ⟨5, rfl⟩
        · exact ⟨3, rfl⟩
      refine ⟨p, _, _, .int far, rfl, rfl, SqL.of (cd p _ (by simpa using np) ep), fat, ?_⟩
      have cxd : Ch [F] Hx Hd := cab.trans ((Ch.of0 cp).trans cd)
      have txd : Ts Hx Hd := ta.trans (tb.trans ((Ts.of cp).trans td))
      have nAF : A ≠ F := by
        obtain ⟨_, _, _, ef, _⟩ := f7
        exact fun z => by rw [z, ef] at eA; cases eA
      have nBF : B ≠ F := by
        obtain ⟨_, _, _, ef, _⟩ := f7
        exact fun z => by rw [z, ef] at e7; cases e7
      have eAd := cxd A _ (by simpa using nAF) eAx
      have eBd := cxd B _ (by simpa using nBF) eBx
      have AAd := AA.ch cxd txd fun x hx => by simpa using (live x (fresh x hx)).1
      have rhd := rhx.ts (ts.trans txd)
      have rsd := rsv.ts (ts.trans txd)
      have c7d : Ch [F, A, B] H7 Hd := c.trans (cxd.sub (by simp +contextual))
      have t7d : Ts H7 Hd := ts.trans txd
      clear ca cb cp cd ta tb td fa fb fc cab cxd txd eHLx eSLx hat sat fat ep eAx eBx AA rhx rsv
      -- the maker
      refine ⟨_, rfl, .inl ⟨rfl, _, SqL.of eAd⟩, ?_⟩
      refine ⟨_, rfl, _, rfl, _, rfl, rfl, rfl, fun M dx hM hdx ndx => ?_⟩
      have cM : Ch [] Hd (upd (upd Hd dx (.own M)) M (.ins (He.ga K "Maker") dx [])) := (Ch.new hdx).trans (.new (by rw [upd_ne ndx.symm]; exact hM))
      have eM : upd (upd Hd dx (.own M)) M (.ins (He.ga K "Maker") dx []) M = some (.ins (He.ga K "Maker") dx []) := upd_same
      generalize upd (upd Hd dx (.own M)) M (.ins (He.ga K "Maker") dx []) = He' at cM eM ⊢
      refine ⟨M, dx, ⟨hvx, sv, far⟩, rfl, eM, fun TH WR Hf hTH hWR cf tf mkf => ⟨rfl, ?_⟩⟩
      have nMA : A ≠ M := ne_of_none eAd hM
      have eAf := cf A _ (by simpa using nMA) (cM A _ (by simp) eAd)
      have lA : ((ms.map Mr.M).map V.ref).length = i := by simp [lm]
      refine ⟨A, _, .ref M, rfl, rfl, eAf, small1000 (by omega), ?_⟩
      have hTHd : Hd TH = none := cM.free hTH
      have hWRd : Hd WR = none := cM.free hWR
      have tA : Ts Hf (upd Hf A (.lst ((ms.map Mr.M).map V.ref ++ [.ref M]))) := .upd (by rw [eAf]; trivial)
      have mkg : MkA K (upd Hf A (.lst ((ms.map Mr.M).map V.ref ++ [.ref M]))) (He.ga K "Maker") M TH WR ⟨hvx, sv, far⟩ [] 0 [] false := mkf.ch (S := [A]) (.put (by simp)) tA (by simpa using nMA.symm) (by simpa using (ne_of_none eAd hTHd).symm) (by simpa using (ne_of_none eAd hWRd).symm)
      have eAg : upd Hf A (.lst ((ms.map Mr.M).map V.ref ++ [.ref M])) A = some (.lst ((ms.map Mr.M).map V.ref ++ [.ref M])) := upd_same
      have cdg : Ch [F, A] Hd (upd Hf A (.lst ((ms.map Mr.M).map V.ref ++ [.ref M]))) := fun a o na ea => by
        have h1 : a ≠ A := fun z => na (by simp [z])
        rw [upd_ne h1]
        exact cf a o (by simpa using ne_of_none ea hM) (cM a o (by simp) ea)
      have tdg : Ts Hd (upd Hf A (.lst ((ms.map Mr.M).map V.ref ++ [.ref M]))) := (Ts.of cM).trans (tf.trans tA)
      have nMF : M ≠ F := fl_ne fd hM
      have fg : FlAt (upd Hf A (.lst ((ms.map Mr.M).map V.ref ++ [.ref M]))) F := ((fd.ch cM (by simp)).ch cf (by simpa using nMF.symm)).ch (.put (S := [A]) (by simp)) (by simpa using nAF.symm)
      show (Evl.tCut _ _) _ _ (upd Hf A (.lst ((ms.map Mr.M).map V.ref ++ [.ref M])))
      generalize upd Hf A (.lst ((ms.map Mr.M).map V.ref ++ [.ref M])) = Hg at tA mkg eAg cdg tdg fg ⊢
      clear cf tf mkf eAf cM eM tA
      refine ⟨fun σ' H' => ∃ (M TH WR : Addr), σ' = [some (.ref F), some (.ref HL), some (.ref SL), some (.ref A), some (.ref B), some (.int (0 + (i : Nat))), some hvx, some sv, some (.int far)] ∧ H' A = some (.lst ((ms.map Mr.M).map V.ref ++ [.ref M])) ∧ MkA K H' (He.ga K "Maker") M TH WR ⟨hvx, sv, far⟩ [] 0 [] false ∧ Hd M = none ∧ Hd TH = none ∧ Hd WR = none ∧ Ch [F, A] Hd H' ∧ Ts Hd H' ∧ FlAt H' F, ?_, ?_⟩
      · have rsg := rsd.ts tdg
        refine if_use (fun b H' => Ch [F] Hg H' ∧ FlAt H' F ∧ (b = true → far = 5 ∧ sv = .ref (He.ga K "STOCK"))) ?_ (fun H' h => ?_) (fun H' h => ?_)
        · refine tt_and (R1 := fun b H' => H' = Hg ∧ (b = true → far = 5)) (fun Q q => ⟨_, rfl, rfl, _, rfl, q _ _ ⟨rfl, fun e => ?_⟩⟩) (fun H' h => ?_) (fun H' h => ?_)
          · have := of_decide_eq_true e
            injection this
          · rw [h.1]
            exact ⟨.refl, fg, fun z => by cases z⟩
          · obtain ⟨e1, e2⟩ := h
            rw [e1]
            refine tt_and (R1 := fun b H' => H' = Hg ∧ (b = true → sv = .ref (He.ga K "STOCK"))) (fun Q q => ⟨_, rfl, sd.py, stockDt.py, rsg.dp, (T.stk _).dp, ssd.s, stock_shd.s, _, rfl, q _ _ ⟨rfl, fun e => ?_⟩⟩) (fun H' h => ?_) (fun H' h => ?_)
            · rcases sor with z | z
              · exact z
              · rw [z] at e
                exact absurd e (by decide +kernel)
            · rw [h.1]
              exact ⟨.refl, fg, fun z => by cases z⟩
            · obtain ⟨e3, e4⟩ := h
              rw [e3]
              exact fun Q q => ⟨_, rfl, F, _, rfl, fg, by decide, by decide, fun d H2 _ _ c2 f2 => ⟨rfl, _, rfl, q _ _ ⟨c2, f2, fun _ => ⟨e2 rfl, e4 rfl⟩⟩⟩⟩
        · obtain ⟨c2, f2, e2⟩ := h
          obtain ⟨ef, es⟩ := e2 rfl
          subst ef es
          have eA2 := c2 A _ (by simpa using nAF) eAg
          refine ⟨_, rfl, fun M2 dx2 hM2 hdx2 ndx2 => ?_⟩
          have cM : Ch [] H' (upd (upd H' dx2 (.own M2)) M2 (.ins (He.ga K "Maker") dx2 [])) := (Ch.new hdx2).trans (.new (by rw [upd_ne ndx2.symm]; exact hM2))
          have eM : upd (upd H' dx2 (.own M2)) M2 (.ins (He.ga K "Maker") dx2 []) M2 = some (.ins (He.ga K "Maker") dx2 []) := upd_same
          generalize upd (upd H' dx2 (.own M2)) M2 (.ins (He.ga K "Maker") dx2 []) = H'' at cM eM ⊢
          refine ⟨M2, dx2, ⟨hvx, .ref (He.ga K "STOCK"), 5⟩, rfl, eM, fun TH2 WR2 Hn hTH2 hWR2 cn tn mkn => ⟨rfl, ?_⟩⟩
          have nA2 : A ≠ M2 := ne_of_none eA2 hM2
          have eAn := cn A _ (by simpa using nA2) (cM A _ (by simp) eA2)
          have ix : ixN ((ms.map Mr.M).map V.ref ++ [V.ref M]).length (-1) = some i := by
            have ln : ((ms.map Mr.M).map V.ref ++ [V.ref M]).length = i + 1 := by rw [List.length_append, lA]; rfl
            rw [ln]
            unfold ixN
            rw [if_neg (by decide), if_pos (by omega)]
            congr 1
            omega
          refine ⟨_, rfl, 1, rfl, A, _, _, i, rfl, rfl, eAn, ix, ?_⟩
          have es : ((ms.map Mr.M).map V.ref ++ [V.ref M]).set i (V.ref M2) = (ms.map Mr.M).map V.ref ++ [V.ref M2] := by
            rw [List.set_append_right _ _ (by omega), lA, Nat.sub_self]
            rfl
          rw [es]
          have tA2 : Ts Hn (upd Hn A (.lst ((ms.map Mr.M).map V.ref ++ [.ref M2]))) := .upd (by rw [eAn]; trivial)
          have hh : ∀ x : Addr, H' x = none → Hd x = none := fun x e => by
            cases z : Hd x with
            | none => rfl
            | some o =>
              have : x ∉ [F, A] := fun hx => by
                simp only [List.mem_cons, List.not_mem_nil, or_false] at hx
                rcases hx with rfl | rfl
                · obtain ⟨_, _, _, ef, _⟩ := f2
                  rw [ef] at e; cases e
                · rw [eA2] at e; cases e
              rw [(cdg.trans (c2.sub (by simp +contextual))) x o this z] at e
              cases e
          have nM2F : M2 ≠ F := fl_ne f2 hM2
          have hT2 := cM.free hTH2
          have hW2 := cM.free hWR2
          refine ⟨M2, TH2, WR2, rfl, upd_same, mkn.ch (S := [A]) (.put (by simp)) tA2 (by simpa using nA2.symm) (by simpa using (ne_of_none eA2 hT2).symm) (by simpa using (ne_of_none eA2 hW2).symm), hh _ hM2, hh _ hT2, hh _ hW2, fun a o na ea => ?_, tdg.trans ((ts_fl fg c2).trans ((Ts.of cM).trans (tn.trans tA2))), ((f2.ch cM (by simp)).ch cn (by simpa using nM2F.symm)).ch (.put (S := [A]) (by simp)) (by simpa using nAF.symm)⟩
          have h1 : a ≠ A := fun z => na (by simp [z])
          have e0 := (cdg.trans (c2.sub (by simp +contextual))) a o na ea
          rw [upd_ne h1]
          exact cn a o (by simpa using ne_of_none e0 hM2) (cM a o (by simp) e0)
        · obtain ⟨c2, f2, _⟩ := h
          exact ⟨M, TH, WR, rfl, c2 A _ (by simpa using nAF) eAg, mkg.ch c2 (ts_fl fg c2) (by simpa using nMF) (by simpa using fl_ne fd hTHd) (by simpa using fl_ne fd hWRd), hM, hTHd, hWRd, cdg.trans (c2.sub (by simp +contextual)), tdg.trans (ts_fl fg c2), f2⟩
      · clear mkg eAg cdg tdg fg hTHd hWRd hTH hWR hM hdx ndx nMA nMF
        rintro σ' Hh ⟨M, TH, WR, rfl, eAh, mkh, hM, hTH, hWR, cdh, tdh, fh⟩
        -- the model
        have eBh := cdh B _ (by simp [nAB.symm, nBF]) eBd
        refine ⟨_, rfl, .inl ⟨rfl, _, SqL.of eBh⟩, ?_⟩
        refine ⟨_, rfl, hvx, rfl, fun MD KD LD Hi hMD hKD hLD ci g1 g2 g3 nMK => ?_⟩
        have lB : ((ms.map Mr.MD).map V.ref).length = i := by simp [lm]
        have eBi := ci B _ (by simp) eBh
        refine ⟨B, _, .ref MD, rfl, rfl, eBi, small1000 (by omega), ?_⟩
        have tB : Ts Hi (upd Hi B (.lst ((ms.map Mr.MD).map V.ref ++ [.ref MD]))) := .upd (by rw [eBi]; trivial)
        have eBj : upd Hi B (.lst ((ms.map Mr.MD).map V.ref ++ [.ref MD])) B = some (.lst ((ms.map Mr.MD).map V.ref ++ [.ref MD])) := upd_same
        have cij : Ch [B] Hi (upd Hi B (.lst ((ms.map Mr.MD).map V.ref ++ [.ref MD]))) := .put (by simp)
        generalize upd Hi B (.lst ((ms.map Mr.MD).map V.ref ++ [.ref MD])) = Hj at tB eBj cij ⊢
        have nB : MD ≠ B ∧ KD ≠ B ∧ LD ≠ B := ⟨(ne_of_none eBh hMD).symm, (ne_of_none eBh hKD).symm, (ne_of_none eBh hLD).symm⟩
        have g1j := cij MD _ (by simpa using nB.1) g1
        have g2j := cij KD _ (by simpa using nB.2.1) g2
        have g3j := cij LD _ (by simpa using nB.2.2) g3
        refine ⟨_, rfl, 1, rfl, B, _, _, .ref MD, rfl, rfl, SqL.of eBj, atI_last _ _, MD, rfl, .inl ⟨_, .inl g1j⟩, fun W hW => ?_⟩
        have cW : Ch [] Hj (upd Hj W (.dK [])) := .new hW
        have eW : upd Hj W (.dK []) W = some (.dK []) := upd_same
        generalize upd Hj W (.dK []) = Hk at cW eW ⊢
        refine ⟨_, rfl, _, rfl, eW, [(.inr "shop", sv), (.inr "far", .int far)], rfl, (by show 2 ≤ 15; decide), ?_⟩
        have eW2 : upd Hk W (.dK (mergeK [] [(.inr "shop", sv), (.inr "far", .int far)])) W = some (.dK [(.inr "shop", sv), (.inr "far", .int far)]) := upd_same
        have cjl : Ch [] Hj (upd Hk W (.dK (mergeK [] [(.inr "shop", sv), (.inr "far", .int far)]))) := cW.mut hW
        generalize upd Hk W (.dK (mergeK [] [(.inr "shop", sv), (.inr "far", .int far)])) = Hl at cjl eW2 ⊢
        have g1l := cjl MD _ (by simp) g1j
        refine ⟨W, _, _, rfl, g1l, eW2, (ne_of_none g1j hW), (by show 4 + 2 ≤ 1000; decide), ?_⟩
        have em : mergeK (mdF0 hvx KD LD) [(.inr "shop", sv), (.inr "far", .int far)] = mdF ⟨hvx, sv, far⟩ KD 0 LD := rfl
        rw [em]
        have tM : Ts Hl (upd Hl MD (.dK (mdF ⟨hvx, sv, far⟩ KD 0 LD))) := .upd (by rw [g1l]; trivial)
        have cM : Ch [MD] Hl (upd Hl MD (.dK (mdF ⟨hvx, sv, far⟩ KD 0 LD))) := .put (by simp)
        have eM : upd Hl MD (.dK (mdF ⟨hvx, sv, far⟩ KD 0 LD)) MD = some (.dK (mdF ⟨hvx, sv, far⟩ KD 0 LD)) := upd_same
        generalize upd Hl MD (.dK (mdF ⟨hvx, sv, far⟩ KD 0 LD)) = Hm at tM cM eM ⊢
        have thm : Ts Hh Hm := (Ts.of ci).trans (tB.trans ((Ts.of cjl).trans tM))
        have chm : Ch [B] Hh Hm := fun a o na ea => cM a o (by simpa using ne_of_none ea hMD) (cjl a o (by simp) (cij a o na (ci a o (by simp) ea)))
        have nKD : KD ≠ MD := nMK.symm
        have nLD : LD ≠ MD := ne_of g3 g1 (by intro z; cases z)
        have g2m := cM KD _ (by simpa using nKD) (cjl KD _ (by simp) g2j)
        have g3m := cM LD _ (by simpa using nLD) (cjl LD _ (by simp) g3j)
        have hB' : Hd B ≠ none := by rw [eBd]; exact fun z => by cases z
        have nMB : M ≠ B := fun z => hB' (z ▸ hM)
        have nTB : TH ≠ B := fun z => hB' (z ▸ hTH)
        have nWB : WR ≠ B := fun z => hB' (z ▸ hWR)
        have mkm := mkh.ch chm thm (by simpa using nMB) (by simpa using nTB) (by simpa using nWB)
        have cdm : Ch [F, A, B] Hd Hm := (cdh.sub (by simp +contextual)).trans (chm.sub (by simp +contextual))
        have tdm : Ts Hd Hm := tdh.trans thm
        have dd : ∀ x : Addr, Hd x = none → H7 x = none := fun x e => by
          cases z : H7 x with
          | none => rfl
          | some o =>
            have : x ∉ [F, A, B] := fun hx => by
              simp only [List.mem_cons, List.not_mem_nil, or_false] at hx
              rcases hx with rfl | rfl | rfl
              · obtain ⟨_, _, _, ef, _⟩ := fd
                rw [ef] at e; cases e
              · rw [eAd] at e; cases e
              · rw [eBd] at e; cases e
            rw [c7d x o this z] at e
            cases e
        have hh : ∀ x : Addr, Hh x = none → Hd x = none := fun x e => by
          cases z : Hd x with
          | none => rfl
          | some o =>
            have : x ∉ [F, A] := fun hx => by
              simp only [List.mem_cons, List.not_mem_nil, or_false] at hx
              rcases hx with rfl | rfl
              · obtain ⟨_, _, _, ef, _⟩ := fh
                rw [ef] at e; cases e
              · rw [eAh] at e; cases e
            rw [cdh x o this z] at e
            cases e
        obtain ⟨m1, m2, m3⟩ := mkh.ne
        obtain ⟨_, _, _, _, q1, q2, q3, _⟩ := mkh.ex
        refine ⟨_, _, _, _, ms ++ [⟨M, TH, WR, MD, KD, LD, ⟨hvx, sv, far⟩, ⟨kx, tx, sd, far, []⟩, 0, []⟩], rfl, c7d.trans cdm, t7d.trans tdm, (fh.ch chm (by simpa using nBF.symm)), ?_, ?_, ?_, by rw [List.length_append, lm]; rfl, ?_⟩
        · rw [List.map_append, List.map_append]
          exact chm A _ (by simpa using nAB) eAh
        · rw [List.map_append, List.map_append]
          exact cM B _ (by simpa using nB.1.symm) (cjl B _ (by simp) eBj)
        · refine AllR.snoc (AAd.ch cdm tdm fun x hx => ?_) ⟨mkm, ⟨_, _, eM, g2m, g3m, .nil, .nil, nMK⟩, ⟨rhd.ts tdm, rsd.ts tdm, rfl⟩, ⟨lkx, (fun e he => by cases he), (fun e he => by cases he), (fun e he => by cases he), List.Pairwise.nil, Int.le_refl _, Int.le_refl _, Nat.le_refl _, Nat.le_refl _, (fun e he => by cases he)⟩, ssd⟩ ?_ fun x hx z => ?_
          · obtain ⟨h1, h2, h3⟩ := live x (fresh x hx)
            simp [h1, h2, h3]
          · simp only [Mr.ads, List.nodup_cons, List.mem_cons, List.not_mem_nil, or_false, not_or, List.nodup_nil, and_true, not_false_iff]
            exact ⟨⟨m1, m2, ne_of_none q1 hMD, ne_of_none q1 hKD, ne_of_none q1 hLD⟩, ⟨m3, ne_of_none q2 hMD, ne_of_none q2 hKD, ne_of_none q2 hLD⟩, ⟨ne_of_none q3 hMD, ne_of_none q3 hKD, ne_of_none q3 hLD⟩, ⟨nMK, nLD.symm⟩, ne_of g2 g3 (by intro z; cases z)⟩
          · have sm := AAd.some x hx
            simp only [Mr.ads, List.mem_cons, List.not_mem_nil, or_false] at z
            rcases z with rfl | rfl | rfl | rfl | rfl | rfl
            · exact sm hM
            · exact sm hTH
            · exact sm hWR
            · exact sm (hh _ hMD)
            · exact sm (hh _ hKD)
            · exact sm (hh _ hLD)
        · intro x hx
          rw [List.flatMap_append] at hx
          rcases List.mem_append.mp hx with hx | hx
          · exact fresh x hx
          · have hx' : x ∈ [M, TH, WR, MD, KD, LD] := by simpa [List.flatMap_cons, Mr.ads] using hx
            simp only [List.mem_cons, List.not_mem_nil, or_false] at hx'
            rcases hx' with rfl | rfl | rfl | rfl | rfl | rfl
            · exact dd _ hM
            · exact dd _ hTH
            · exact dd _ hWR
            · exact dd _ (hh _ hMD)
            · exact dd _ (hh _ hKD)
            · exact dd _ (hh _ hLD)
    · rintro σ' H9 ⟨u5, u6, u7, u8, ms, rfl, c, ts, f, eAx, eBx, AA, lm, fresh⟩
      refine ⟨_, rfl, _, rfl, (by show 2 ≤ sizeLine; decide), fun p hp => ?_⟩
      have cp : Ch [] H9 (upd H9 p (.tup [.ref A, .ref B])) := .new hp
      refine q p A B ms _ (fun a o na ea => ?_) (SqT.of upd_same) (cp A _ (by simp) eAx) (cp B _ (by simp) eBx) (AA.ch0 cp) (by omega) (by omega) (fun x hx => ?_) hA0 hB0 nAB
      · have h1 : a ≠ A := ne_of_none ea hA0
        have h2 : a ≠ B := ne_of_none ea hB0
        have h3 : a ≠ F := by simpa using na
        exact cp a o (by simp) (c a o (by simp [h1, h2, h3]) (C7 a o na ea))
      · obtain ⟨h1, h2, h3⟩ := live x (fresh x hx)
        exact ⟨h2, h3, old x h1 (fresh x hx)⟩
end
end LM
set_option Elab.async false
set_option linter.all false
set_option maxRecDepth 100000
set_option maxHeartbeats 4000000
namespace LM
open PySem PySem.Spec PyProof.Rows L2
/-! ### one of the makers, and the turn's flow -/
section
variable {K : PySem.W.Frag} {H H' : Hp} {C F : Addr} {n m : Nat} {ms : List Mr} {r : Mr}
theorem Pu.mono {ks : List Kd} {t : Kd} {es : List (Int × Dt)} {came : Int} {lg : List Dt} (p : Pu ks t es came lg n) (h : n ≤ m) : Pu ks t es came lg m := ⟨p.lk, p.fit, p.calm, p.lt, p.nod, p.c0, by have := p.c1; omega, by have := p.le; omega, by have := p.ll; omega, p.sh⟩
theorem ads_nodup : ∀ {ms : List Mr}, (ms.flatMap Mr.ads).Nodup → ∀ r ∈ ms, r.ads.Nodup
  | q :: ms, nd, r, hr => by
    rw [List.flatMap_cons, List.nodup_append] at nd
    rcases List.mem_cons.mp hr with rfl | hr
    · exact nd.1
    · exact ads_nodup nd.2.1 r hr
theorem AllR.bo (A : AllR K H C n ms) (hr : r ∈ ms) (f : FlAt H F) (hF : F ∉ ms.flatMap Mr.ads) : Bo K H C F r.M r.TH r.WR r.MD r.KD r.LD r.hv r.a.ks r.a.t r.a.es r.came r.lg := by
  have R := A.ok r hr
  refine ⟨f, R.mkr, R.md, R.hd.h, ?_⟩
  show (F :: r.ads).Nodup
  rw [List.nodup_cons]
  exact ⟨fun h => hF (List.mem_flatMap.mpr ⟨r, hr, h⟩), ads_nodup A.nd r hr⟩
/-- one of them, told something -/
def Mr.put (r : Mr) (es : List (Int × Dt)) (came : Int) (lg : List Dt) : Mr := { r with a := { r.a with es := es }, came := came, lg := lg }
theorem put_ads (r : Mr) (es : List (Int × Dt)) (came : Int) (lg : List Dt) : (r.put es came lg).ads = r.ads := rfl
theorem set_ads {α β : Type} {f : α → List β} : ∀ {l : List α} {j : Nat} {x y : α}, l[j]? = some x → f y = f x → (l.set j y).flatMap f = l.flatMap f
  | [], j, x, y, h, _ => by simp at h
  | a :: l, 0, x, y, h, e => by
    simp at h
    subst h
    rw [List.set_cons_zero, List.flatMap_cons, List.flatMap_cons, e]
  | a :: l, j + 1, x, y, h, e => by
    rw [List.set_cons_succ, List.flatMap_cons, List.flatMap_cons, set_ads (l := l) (by simpa using h) e]
theorem ads_pos : ∀ {ms : List Mr}, (ms.flatMap Mr.ads).Nodup → ∀ {i j : Nat} {r : Mr}, ms[i]? = some r → ms[j]? = some r → i = j
  | [], _, i, j, r, h, _ => by simp at h
  | q :: ms, nd, i, j, r, h1, h2 => by
    rw [List.flatMap_cons, List.nodup_append] at nd
    obtain ⟨_, n2, n3⟩ := nd
    have no : ∀ {k : Nat}, ms[k]? = some q → False := fun h => n3 q.M (by simp [Mr.ads]) q.M (List.mem_flatMap.mpr ⟨q, List.mem_of_getElem? h, by simp [Mr.ads]⟩) rfl
    cases i with
    | zero =>
      cases j with
      | zero => rfl
      | succ j =>
        simp at h1 h2
        subst h1
        exact (no h2).elim
    | succ i =>
      cases j with
      | zero =>
        simp at h1 h2
        subst h2
        exact (no h1).elim
      | succ j => rw [ads_pos n2 (i := i) (j := j) (r := r) (by simpa using h1) (by simpa using h2)]
theorem AllR.told {j : Nat} {es : List (Int × Dt)} {came : Int} {lg : List Dt} (A : AllR K H C n ms) (hj : ms[j]? = Option.some r) (c : Ch (Mu F r.M r.TH r.WR r.MD r.KD r.LD) H H') (t : Ts H H') (hF : F ∉ ms.flatMap Mr.ads)
    (b : Bo K H' C F r.M r.TH r.WR r.MD r.KD r.LD r.hv r.a.ks r.a.t es came lg) (nm : n ≤ m) (p : Pu r.a.ks r.a.t es came lg m) : AllR K H' C m (ms.set j (r.put es came lg)) := by
  have hr : r ∈ ms := List.mem_of_getElem? hj
  refine ⟨fun q hq => ?_, by rw [set_ads hj (put_ads r es came lg)]; exact A.nd⟩
  obtain ⟨i, hi⟩ := List.mem_iff_getElem?.mp hq
  rw [List.getElem?_set] at hi
  by_cases z : j = i
  · rw [if_pos z] at hi
    have R := A.ok r hr
    have eq : q = r.put es came lg := by
      by_cases l : j < ms.length
      · rw [if_pos l] at hi
        exact (Option.some.inj hi).symm
      · rw [if_neg l] at hi
        cases hi
    rw [eq]
    exact ⟨b.mkk, b.md, ⟨b.hd, R.hd.st.ts t, R.hd.far⟩, p, R.sd⟩
  · rw [if_neg z] at hi
    have hq' : q ∈ ms := List.mem_of_getElem? hi
    have e : q ≠ r := fun e => z (ads_pos A.nd hj (e ▸ hi))
    have Q := A.ok q hq'
    have Q' : MrOk K H' C n q := Q.ch c t fun x hx y => by
      have y' : x = F ∨ x ∈ r.ads := by simpa [Mr.ads] using y
      rcases y' with y' | y'
      · exact hF (y' ▸ List.mem_flatMap.mpr ⟨q, hq', hx⟩)
      · exact e (ads_one A.nd q hq' r hr x hx y')
    exact ⟨Q'.mkr, Q'.md, Q'.hd, Q'.pu.mono nm, Q'.sd⟩
end
end LM
set_option Elab.async false
set_option linter.all false
set_option maxRecDepth 100000
set_option maxHeartbeats 4000000
namespace LM
open PySem PySem.Spec PyProof.Rows L2
/-- a new object is none of these -/
theorem Bo.new {K : PySem.W.Frag} {H : Hp} {C F M TH WR MD KD LD : Addr} {hv : Hd} {ks : List Kd} {t : Kd} {es : List (Int × Dt)} {came : Int} {lg : List Dt} (b : Bo K H C F M TH WR MD KD LD hv ks t es came lg) {L : Addr} (hL : H L = none) : L ∉ Mu F M TH WR MD KD LD := by
  obtain ⟨_, _, _, ef, _⟩ := b.fl
  obtain ⟨_, _, _, _, e1, e2, e3, _⟩ := b.mkk.ex
  obtain ⟨_, _, e4, e5, e6, _⟩ := b.md.ex
  simp only [List.mem_cons, List.not_mem_nil, or_false, not_or]
  exact ⟨(ne_of_none ef hL).symm, (ne_of_none e1 hL).symm, (ne_of_none e2 hL).symm, (ne_of_none e3 hL).symm, (ne_of_none e4 hL).symm, (ne_of_none e5 hL).symm, (ne_of_none e6 hL).symm⟩
theorem Mu.part {F M TH WR MD KD LD L : Addr} (h : L ∉ Mu F M TH WR MD KD LD) : L ∉ [MD, KD, LD] ∧ L ∉ [M, TH, WR] := by
  simp only [List.mem_cons, List.not_mem_nil, or_false, not_or] at h ⊢
  obtain ⟨h0, h1, h2, h3, h4, h5, h6⟩ := h
  exact ⟨⟨h4, h5, h6⟩, h1, h2, h3⟩
theorem spSaid.mono {K : PySem.W.Frag} {C : Addr} {vs : List V} {H : Hp} {Q Q' : VK} {E : XK} (h : spSaid K C vs H Q E) (k : ∀ u H', Q u H' → Q' u H') : spSaid K C vs H Q' E := by
  rcases h with h | h | h
  · obtain ⟨M, TH, WR, hv, v, ks, t, d, r, es, came, lg, b, e, m, rh, rv, wr, sz, lk, le, ll, fresh, qx, q⟩ := h
    exact .inl ⟨M, TH, WR, hv, v, ks, t, d, r, es, came, lg, b, e, m, rh, rv, wr, sz, lk, le, ll, fresh, fun x i hx u H' c ts mk r => k _ _ (qx x i hx u H' c ts mk r), fun hx u H' c ts mk r => k _ _ (q hx u H' c ts mk r)⟩
  · obtain ⟨M, TH, WR, L, hv, ks, t, es, came, lg, b, tp, xs, sm, e, m, rh, hL, nL, rx, ls, le, lk, ll, fit, fresh, q1, q2, q3⟩ := h
    exact .inr (.inl ⟨M, TH, WR, L, hv, ks, t, es, came, lg, b, tp, xs, sm, e, m, rh, hL, nL, rx, ls, le, lk, ll, fit, fresh, fun n hn u H' c ts mk r => k _ _ (q1 n hn u H' c ts mk r), fun hb n z hn u H' c ts mk r => k _ _ (q2 hb n z hn u H' c ts mk r), fun hb hn u H' c ts mk r => k _ _ (q3 hb hn u H' c ts mk r)⟩)
  · obtain ⟨M, TH, WR, hv, es, came, lg, b, i, e, m, ll, q1, q2⟩ := h
    exact .inr (.inr ⟨M, TH, WR, hv, es, came, lg, b, i, e, m, ll, fun hx u H' c ts mk r => k _ _ (q1 hx u H' c ts mk r), fun hx u H' c ts mk r => k _ _ (q2 hx u H' c ts mk r)⟩)
theorem spMDue.mono {K : PySem.W.Frag} {vs : List V} {H : Hp} {Q Q' : VK} {E : XK} (h : spMDue K vs H Q E) (k : ∀ u H', Q u H' → Q' u H') : spMDue K vs H Q' E := by
  rcases h with h | h | h
  · obtain ⟨MD, KD, LD, hv, v, ks, t, d, r, es, came, lg, e, m, rh, rv, wr, sz, dp, lk, le, ll, fresh, qx, q⟩ := h
    exact .inl ⟨MD, KD, LD, hv, v, ks, t, d, r, es, came, lg, e, m, rh, rv, wr, sz, dp, lk, le, ll, fresh, fun x i hx u H' c ts mk r => k _ _ (qx x i hx u H' c ts mk r), fun hx u H' c ts mk r => k _ _ (q hx u H' c ts mk r)⟩
  · obtain ⟨MD, KD, LD, L, hv, ks, t, es, came, lg, tp, xs, sm, e, m, rh, hL, nL, rx, ls, le, lk, ll, c0, c1, fit, cal, fresh, q1, q2, q3⟩ := h
    exact .inr (.inl ⟨MD, KD, LD, L, hv, ks, t, es, came, lg, tp, xs, sm, e, m, rh, hL, nL, rx, ls, le, lk, ll, c0, c1, fit, cal, fresh, fun n hn u H' c ts mk r => k _ _ (q1 n hn u H' c ts mk r), fun hb n z hn u H' c ts mk r => k _ _ (q2 hb n z hn u H' c ts mk r), fun hb hn u H' c ts mk r => k _ _ (q3 hb hn u H' c ts mk r)⟩)
  · obtain ⟨MD, KD, LD, hv, es, came, lg, i, e, m, ll, q1, q2⟩ := h
    exact .inr (.inr ⟨MD, KD, LD, hv, es, came, lg, i, e, m, ll, fun hx u H' c ts mk r => k _ _ (q1 hx u H' c ts mk r), fun hx u H' c ts mk r => k _ _ (q2 hx u H' c ts mk r)⟩)
/-- what stands behind a deed that both were told: due u, said x -/
def BothQ (K : PySem.W.Frag) (H : Hp) (C F M TH WR MD KD LD : Addr) (hv : Hd) (ks : List Kd) (t : Kd) (n : Nat) (u x : V) (H2 : Hp) : Prop := ∃ (es2 : List (Int × Dt)) (came2 : Int) (lg2 : List Dt) (d : Dt), Pu ks t es2 came2 lg2 (n + 1) ∧ Bo K H2 C F M TH WR MD KD LD hv ks t es2 came2 lg2 ∧ Ch (Mu F M TH WR MD KD LD) H H2 ∧ Ts H H2 ∧ DR K H2 x d ∧ DR K H2 u d ∧ Shd d ∧ d.sz ≤ 1000
theorem bothQ {K : PySem.W.Frag} {H : Hp} {C F M TH WR MD KD LD : Addr} {hv : Hd} {ks : List Kd} {t : Kd} {n : Nat} : Both K H C F M TH WR MD KD LD hv ks t n (fun u u2 H' => BothQ K H C F M TH WR MD KD LD hv ks t n u u2 H') :=
  fun es2 came2 lg2 _ _ d _ p b c t r1 r2 s z => ⟨es2, came2, lg2, d, p, b, c, t, r2, r1, s, z⟩
/-! ### a deed outlives a turn -/
theorem DeedIs.ch {K : PySem.W.Frag} {H0 H H' : Hp} {ks : List Kd} {t : Kd} {wd : Str} {v : V} {S : List Addr} (d : DeedIs K H0 H ks t wd v) (c : Ch S H H') (ts : Ts H H') (n : ∀ x, H0 x = none → x ∉ S) : DeedIs K H0 H' ks t wd v := by
  rcases d with ⟨rfl, d, r, rv, wr, sz, dp⟩ | ⟨rfl, tp, L, xs, sm, rfl, hL, hnL, rx, ls, sh⟩ | ⟨rfl, i, rfl⟩
  · exact .inl ⟨rfl, d, r, rv.ts ts, wr, sz, dp⟩
  · refine .inr (.inl ⟨rfl, tp, L, xs, sm, rfl, ?_, hnL, rx.ts ts, ls, sh⟩)
    cases tp with
    | false => exact c L _ (n L (hnL rfl)) hL
    | true => exact Ts.sq ts hL
  · exact .inr (.inr ⟨rfl, i, rfl⟩)
/-- one is told it: what it said and what was due are the same -/
theorem told_one {K : PySem.W.Frag} {H0 H : Hp} {C F M TH WR MD KD LD : Addr} {hv : Hd} {ks : List Kd} {t : Kd} {es : List (Int × Dt)} {came : Int} {lg : List Dt} {n : Nat} {wd : Str} {v : V} {Q1 : VK}
    (b0 : Bo K H C F M TH WR MD KD LD hv ks t es came lg) (pu0 : Pu ks t es came lg n) (hn : n ≤ 25) (hnew : ∀ x, H0 x = none → x ∉ Mu F M TH WR MD KD LD) (dd : DeedIs K H0 H ks t wd v)
    (k1 : ∀ u H1, Ch [M, TH, WR] H H1 → spMDue K [.ref MD, .str wd, v] H1 (fun x H' => BothQ K H C F M TH WR MD KD LD hv ks t n u x H') E0 → Q1 u H1) : spSaid K C [.ref M, .str wd, v] H Q1 E0 := by
  rcases dd with ⟨rfl, d, r, rv, wr, sz, dp⟩ | ⟨rfl, tp, L, xs, sm, rfl, hL, hnL, rx, ls, sh⟩ | ⟨rfl, i, rfl⟩
  · exact deed_w (Q := BothQ K H C F M TH WR MD KD LD hv ks t n) k1 b0 pu0 hn rv wr sz dp bothQ
  · have nL : tp = false → L ∉ Mu F M TH WR MD KD LD := fun z => hnew L (hnL z)
    exact deed_e (tp := tp) (xs := xs) (sm := sm) (Q := BothQ K H C F M TH WR MD KD LD hv ks t n) k1 b0 pu0 hn hL (fun z => (Mu.part (nL z)).1) (fun z => (Mu.part (nL z)).2) rx ls bothQ
  · exact deed_b (Q := BothQ K H C F M TH WR MD KD LD hv ks t n) k1 b0 pu0 hn bothQ
/-! ### heads that are equal -/
theorem kd_eq : ∀ (a b : Kd), PyData.eqv (Dt.str a.s).py (Dt.str b.s).py = true → a = b
  | .num, .num, _ => rfl
  | .truth, .truth, _ => rfl
  | .num, .truth, h => absurd h (by decide +kernel)
  | .truth, .num, h => absurd h (by decide +kernel)
theorem kds_eq : ∀ (a b : List Kd), PyData.eqvAll (Dt.pys (a.map fun k => .str k.s)) (Dt.pys (b.map fun k => .str k.s)) = true → a = b
  | [], [], _ => rfl
  | [], b :: bs, h => by cases h
  | a :: as, [], h => by cases h
  | a :: as, b :: bs, h => by
    have h' : (PyData.eqv (Dt.str a.s).py (Dt.str b.s).py && PyData.eqvAll (Dt.pys (as.map fun k => .str k.s)) (Dt.pys (bs.map fun k => .str k.s))) = true := h
    rw [Bool.and_eq_true] at h'
    rw [kd_eq a b h'.1, kds_eq as bs h'.2]
theorem hd_eq {ks ks' : List Kd} {t t' : Kd} (h : PyData.eqv (hdD ks t).py (hdD ks' t').py = true) : ks = ks' ∧ t = t' := by
  have h' : (PyData.eqvAll (Dt.pys (ks.map fun k => .str k.s)) (Dt.pys (ks'.map fun k => .str k.s)) && (PyData.eqv (Dt.str t.s).py (Dt.str t'.s).py && true)) = true := h
  rw [Bool.and_eq_true, Bool.and_eq_true] at h'
  exact ⟨kds_eq _ _ h'.1, kd_eq _ _ h'.2.1⟩
end LM
set_option Elab.async false
set_option linter.all false
set_option maxRecDepth 100000
set_option maxHeartbeats 4000000
namespace LM
open PySem PySem.Spec PyProof.Rows L2
theorem Ch.newS {S : List Addr} {H1 H H' : Hp} (c1 : Ch [] H1 H) (c2 : Ch S H H') (n : ∀ p ∈ S, H1 p = none) : Ch [] H1 H' := fun a o _ e => c2 a o (fun z => by rw [n a z] at e; cases e) (c1 a o (by simp) e)
theorem sqL_ch {K : PySem.W.Frag} {H H' : Hp} {a : Addr} {xs : List V} (h : SqL K H a xs) (c : Ch [] H H') : SqL K H' a xs := by
  rcases h with (h | ⟨o, h⟩) | h
  · exact .inl (.inl (c a _ (by simp) h))
  · exact .inl (.inr ⟨o, c a _ (by simp) h⟩)
  · exact .inr h
theorem set_map {α β : Type} {f : α → β} : ∀ {l : List α} {j : Nat} {x y : α}, l[j]? = some x → f y = f x → (l.set j y).map f = l.map f
  | [], j, x, y, h, _ => by simp at h
  | a :: l, 0, x, y, h, e => by
    simp at h
    subst h
    rw [List.set_cons_zero, List.map_cons, List.map_cons, e]
  | a :: l, j + 1, x, y, h, e => by
    rw [List.set_cons_succ, List.map_cons, List.map_cons, set_map (l := l) (by simpa using h) e]
section
variable {P : Program} {w : World} {K : PySem.W.Frag} {mg : Str → Option Value} {base : Heap}
/-- a def that keeps a promise, by its record -/
structure OkG (P : Program) (w : World) (K : PySem.W.Frag) (mg : Str → Option Value) (base : Heap) (CX : CXT) (k : Nat) (nm : Str) (st : Stmt) (ps : List Str) (sp : Sp) : Prop where
  g : mg nm = some (.ref (He.ga K nm))
  f : ∃ fd, FunD K nm nm (defArgs st) (defBody st) (defScope st) [] [] (He.ga K nm) fd ∧ FnOk P w K mg base CX k (He.ga K nm) fd ps sp
theorem okG0 {k : Nat} {nm : Str} {st : Stmt} {N ps : List Str} {sp : Sp} (D : Df K mg nm st) (S : FnScope N ps (defScope st)) (len : ∀ vs H Q E, sp vs H Q E → vs.length = ps.length)
    (body : ∀ (cdv : Value) (A : Around) (outer : List Env) (s : Shared) (H : Hp) (vs : List V) (Q : VK) (E : XK), Room k (A.deeper (envOfC nm (defScope st) s.heap.objs.size (He.ga K nm) cdv)) → sp vs H Q E →
      ∃ t, PSs (cxOf CX0 P w K mg base N nm (defScope st) (He.ga K nm) cdv A outer s H E).nox (defBody st) t ∧ t { nx := fun _ H' => Q .non H', rt := Q } (start N vs) H) : OkG P w K mg base CX0 (k + 1) nm st ps sp := by
  obtain ⟨g, fd, F⟩ := D
  refine ⟨g, fd, F, F.ok S len fun cdv A outer s H vs Q E hr hs => ?_⟩
  obtain ⟨t, h, q⟩ := body cdv A outer s H vs Q E hr hs
  exact ⟨t, h.nox, q⟩
theorem fd_one {K : PySem.W.Frag} {x qual : Str} {pa : Arguments} {body : List Stmt} {sc : Scope} {dvs : List V} {kws : List (Str × V)} {f : Addr} {fd fd' : FuncData} (F : FunD K x qual pa body sc dvs kws f fd) (F' : FunD K x qual pa body sc dvs kws f fd') : fd = fd' := by
  obtain ⟨_, _, _, _, _, _, _, _, _, _, _, lk, _⟩ := F.ex
  obtain ⟨_, _, _, _, _, _, _, _, _, _, _, lk', _⟩ := F'.ex
  rw [lk] at lk'
  injection lk' with e
  injection e with _ _ e
  injection e
def spLaw (K : PySem.W.Frag) : Sp := fun vs H Q _ => ∃ (a : Addr) (ns : List Int), vs = [.ref a] ∧ SqL K H a (ns.map V.int) ∧ ns.length ≤ 63 ∧ ∀ H', Q (.bl true) H'
theorem sc_law : FnScope ["_law_script", "_law_makers", "_law_models", "_law_k", "_law_flow_here", "_law_at", "_law_word", "_law_thing", "_law_some", "_law_j", "_law_one", "_law_maker", "_law_model"] ["_law_script"] (defScope (top 74)) := ⟨rfl, rfl, rfl, by decide +kernel, rfl, by decide +kernel, by decide +kernel⟩
theorem ok_law (D : Df K mg "law" (top 74)) (T : Tm mg K) (O__law_flow : OkF P w K mg base CX0 2 "_law_flow" ["_law_script", "_law_k"] (spFlow K)) (O__law_draw : OkF P w K mg base CX0 1 "_law_draw" ["_law_flow_here", "_law_many"] spDraw)
    (O__law_begun : OkF P w K mg base CX0 3 "_law_begun" ["_law_flow_here"] (spBegun K (He.ga K "Maker"))) (O__law_deed : OkF P w K mg base CX0 15 "_law_deed" ["_law_flow_here", "_law_model"] (spDeed K)) (O__law_has_room : OkF P w K mg base CX0 1 "_law_has_room" ["_law_model", "_law_word", "_law_thing"] (spRoom K))
    (O__law_maker_said : OkF P w K mg base CX0 7 "_law_maker_said" ["_law_maker", "_law_word", "_law_thing"] (spSaid K (He.ga K "Maker"))) (O__law_maker_due : OkF P w K mg base CX0 17 "_law_maker_due" ["_law_model", "_law_word", "_law_thing"] (spMDue K)) (O__law_alike : OkF P w K mg base CX0 1 "_law_alike" ["_law_found", "_law_due"] (spAlike K))
    (O__law_alike_right : OkF P w K mg base CX0 4 "_law_alike_right" ["_law_makers", "_law_models"] (spAR K (He.ga K "Maker"))) (O__law_stands : OkF P w K mg base CX0 3 "_law_stands" ["_law_maker", "_law_model"] (spStands K (He.ga K "Maker"))) :
    OkG P w K mg base CX0 19 "law" (top 74) ["_law_script"] (spLaw K) := by
  refine okG0 D sc_law (fun vs H Q E h => ?_) (fun cdv A outer s H vs Q E hr h => ?_)
  · obtain ⟨a, ns, rfl, _⟩ := h
    rfl
  · obtain ⟨a, ns, rfl, hS, ln, q⟩ := h
    have nd := sc_law.nd
    have hu := hu_of hr
    refine ⟨_, (pss_cons (ps_asg (pe_callF O__law_begun (hr.mono (by omega)) rfl pass0 (pa_cons (pe_callF O__law_flow (hr.mono (by omega)) rfl pass0 (pa_cons (pv 0) (pa_cons pe_int pa_nil))) pa_nil)) (pg_tup rfl (pgs_cons (pg_name (i := 1) nd rfl (Or.inl rfl)) (pgs_cons (pg_name (i := 2) nd rfl (Or.inr rfl)) pgs_nil))))
  (pss_cons (ps_for PassesOwn.never rfl (pi_range2 rfl T.b_range (pa_cons pe_int (pa_cons (pe_callB (call_max2 rfl) (by rfl) T.b_max (by decide +kernel) (pa_cons pe_int (pa_cons (pe_callB (call_min2 rfl) (by rfl) T.b_min (by decide +kernel) (pa_cons pe_int (pa_cons (pe_callB (r := rLenS K) call_len_seq (by rfl) T.b_len PySem.boot_len (pa_cons (pv 0) pa_nil)) pa_nil))) pa_nil))) pa_nil))) (pg_name (i := 3) nd rfl (Or.inl rfl)) (pss_cons (ps_set (i := 4) nd rfl (Or.inl rfl) (pe_callF O__law_flow (hr.mono (by omega)) rfl pass0 (pa_cons (pv 0) (pa_cons (pv 3) pa_nil))))
  (pss_cons (ps_set (i := 5) nd rfl (Or.inr rfl) (pe_callF O__law_draw (hr.mono (by omega)) rfl pass0 (pa_cons (pv 4) (pa_cons (pe_callB (r := rLenS K) call_len_seq (by rfl) T.b_len PySem.boot_len (pa_cons (pv 1) pa_nil)) pa_nil))))
  (pss_cons (ps_asg (pe_callF O__law_deed (hr.mono (by omega)) rfl pass0 (pa_cons (pv 4) (pa_cons (pe_ix (r := rIxL K) ix_list (pv 2) (pv 5) (fun _ _ => rfl)) pa_nil))) (pg_tup rfl (pgs_cons (pg_name (i := 6) nd rfl (Or.inr rfl)) (pgs_cons (pg_name (i := 7) nd rfl (Or.inr rfl)) pgs_nil))))
  (pss_cons (ps_set (i := 8) nd rfl (Or.inl rfl) (pe_lst (pa_cons (pv 5) pa_nil)))
  (Evl.pss_cut (ps_if (pt_cmpR op_eq (pe_callF O__law_draw (hr.mono (by omega)) rfl pass0 (pa_cons (pv 4) (pa_cons pe_int pa_nil))) pe_int (nomark _)) (pss_one (ps_setLc (i := 8) (own := [("_law_j", 9)]) rfl nd rfl rfl (sw_true rfl rfl rfl (by decide +kernel)) (pi_range1 rfl T.b_range (pa_cons (pe_callB (r := rLenS K) call_len_seq (by rfl) T.b_len PySem.boot_len (pa_cons (pv 1) pa_nil)) pa_nil)) (blkOk_by (own := [("_law_j", 9)]) (N := ["_law_script", "_law_makers", "_law_models", "_law_k", "_law_flow_here", "_law_at", "_law_word", "_law_thing", "_law_some", "_law_j", "_law_one", "_law_maker", "_law_model"]) (sc := defScope (top 74)) (by decide +kernel)) (fun _ _ _ _ _ => (pg_name (i := 9) nd rfl (Or.inl rfl))) (fun _ _ _ _ _ => pts_one (pt_cmpR (r := rEqD K) (op_eqD hr.units) (pe_dget hu (pe_ix (r := rIxL K) ix_list (pv 2) (pv 9) (fun _ _ => rfl)) pe_str (fun _ _ => rfl)) (pe_dget hu (pe_ix (r := rIxL K) ix_list (pv 2) (pv 5) (fun _ _ => rfl)) pe_str (fun _ _ => rfl)) (nomark _))) (fun _ _ _ _ _ => (pv 9)))) pss_nil)
  (pss_cons (ps_for PassesOwn.never rfl (pi_list (pe_lc (own := [("_law_one", 10)]) rfl nd (pi_list (pv 8)) (blkOk_by (own := [("_law_one", 10)]) (N := ["_law_script", "_law_makers", "_law_models", "_law_k", "_law_flow_here", "_law_at", "_law_word", "_law_thing", "_law_some", "_law_j", "_law_one", "_law_maker", "_law_model"]) (sc := defScope (top 74)) (by decide +kernel)) (fun _ _ _ _ _ => (pg_name (i := 10) nd rfl (Or.inl rfl))) (fun _ _ _ _ _ => pts_one (pt_val (pe_callF O__law_has_room (hr.mono (by omega)) rfl pass0 (pa_cons (pe_ix (r := rIxL K) ix_list (pv 2) (pv 10) (fun _ _ => rfl)) (pa_cons (pv 6) (pa_cons (pv 7) pa_nil)))) (by intro _; rfl))) (fun _ _ _ _ _ => (pv 10)))) (pg_name (i := 9) nd rfl (Or.inl rfl)) (pss_one (ps_if (pt_not (pt_val (pe_callF O__law_alike (hr.mono (by omega)) rfl pass0 (pa_cons (pe_callF O__law_maker_said (hr.mono (by omega)) rfl pass0 (pa_cons (pe_ix (r := rIxL K) ix_list (pv 1) (pv 9) (fun _ _ => rfl)) (pa_cons (pv 6) (pa_cons (pv 7) pa_nil)))) (pa_cons (pe_callF O__law_maker_due (hr.mono (by omega)) rfl pass0 (pa_cons (pe_ix (r := rIxL K) ix_list (pv 2) (pv 9) (fun _ _ => rfl)) (pa_cons (pv 6) (pa_cons (pv 7) pa_nil)))) pa_nil))) (by intro _; rfl))) (pss_one (ps_ret pe_bl)) pss_nil)))
  (pss_one (ps_if (pt_not (pt_val (pe_callF O__law_alike_right (hr.mono (by omega)) rfl pass0 (pa_cons (pv 1) (pa_cons (pv 2) pa_nil))) (by intro _; rfl))) (pss_one (ps_ret pe_bl)) pss_nil)))))))))
  (pss_one (ps_ret (pe_callB (by exact cr_all rfl) (by rfl) T.b_all (by decide +kernel) (pa_cons (pe_lc (own := [("_law_maker", 11), ("_law_model", 12)]) (tt := tYes) (g := (gTup K 2 (gCons (gName 11) (gCons (gName 12) gNil)))) rfl nd (RZ.pi_zipA (by rfl) T.b_zip (pa_cons (pv 1) (pa_cons (pv 2) pa_nil))) (blkOk_by (own := [("_law_maker", 11), ("_law_model", 12)]) (N := ["_law_script", "_law_makers", "_law_models", "_law_k", "_law_flow_here", "_law_at", "_law_word", "_law_thing", "_law_some", "_law_j", "_law_one", "_law_maker", "_law_model"]) (sc := defScope (top 74)) (by decide +kernel)) (fun _ _ _ _ _ => (pg_tup rfl (pgs_cons (pg_name (i := 11) nd rfl (Or.inl rfl)) (pgs_cons (pg_name (i := 12) nd rfl (Or.inl rfl)) pgs_nil)))) (fun _ _ _ _ _ => pts_nil) (fun _ _ _ _ _ => (pe_callF O__law_stands (hr.mono (by omega)) rfl pass0 (pa_cons (pv 11) (pa_cons (pv 12) pa_nil))))) pa_nil)))))), ?_⟩
    refine ⟨_, rfl, a, ns, _, rfl, hS, by decide, by decide, fun F0 H1 hF0 c1 f1 => ?_⟩
    refine ⟨F0, rfl, f1, fun p A B ms H2 c2 sp eA eB AA m2 m3 new hA hB nAB => ?_⟩
    refine ⟨p, _, rfl, sp, rfl, _, _, rfl, _, _, rfl, rfl, ?_⟩
    have c02 : Ch [] H H2 := c1.newS c2 (by simpa using hF0)
    have hS2 : SqL K H2 a (ns.map V.int) := sqL_ch hS c02
    have ln' : (ns.map V.int).length ≤ 63 := by rw [List.length_map]; exact ln
    refine ⟨_, rfl, a, ns.map V.int, rfl, .inl hS2, ?_⟩
    generalize (ns.map V.int).length = sl at ln' ⊢
    refine ⟨_, _, rfl, _, _, rfl, ?_⟩
    generalize hi : (if (sl : Int) < 25 then (sl : Int) else 25) = x
    have x1 : 0 ≤ x ∧ x ≤ 25 := by rw [← hi]; split <;> omega
    generalize hm : (if x > 8 then x else 8) = m
    have m1 : 8 ≤ m ∧ m ≤ 25 := by rw [← hm]; split <;> omega
    clear hi hm
    refine ⟨_, _, rfl, by omega, ?_⟩
    have ads0 : ∀ x ∈ ms.flatMap Mr.ads, x ≠ A ∧ x ≠ B ∧ H x = none := fun x hx => ⟨(new x hx).1, (new x hx).2.1, c1.free (new x hx).2.2⟩
    have hB0 : H B = none := c1.free hB
    have hA0 : H A = none := c1.free hA
    clear new hA hB c1 f1 c2 hF0 sp
    refine for_range (lo := 1) (n := (m - 1).toNat) (fun i σ' H' => ∃ (ms' : List Mr) (u3 u4 u5 u6 u7 u8 u9 u10 u11 u12 : Option V), σ' = [some (.ref a), some (.ref A), some (.ref B), u3, u4, u5, u6, u7, u8, u9, u10, u11, u12] ∧ AllR K H' (He.ga K "Maker") i ms' ∧ ms'.flatMap Mr.ads = ms.flatMap Mr.ads ∧ ms'.length = ms.length ∧ H' A = some (.lst ((ms'.map Mr.M).map V.ref)) ∧ H' B = some (.lst ((ms'.map Mr.MD).map V.ref)) ∧ Ch [] H H') ?_ ?_ ?_
    · exact ⟨ms, _, _, _, _, _, _, _, _, _, _, rfl, AA, rfl, rfl, eA, eB, c02⟩
    · rintro i σ' H3 hi ⟨ms', u3, u4, u5, u6, u7, u8, u9, u10, u11, u12, rfl, A3, ea, el, eA3, eB3, c03⟩
      have hS3 := sqL_ch hS c03
      rw [← ea] at ads0
      rw [← el] at m2 m3
      refine ⟨_, rfl, _, rfl, a, ns, _, rfl, hS3, by omega, by omega, fun F H4 hF c4 f4 => ?_⟩
      have A4 := A3.ch0 c4
      have eA4 := c4 A _ (by simp) eA3
      have eB4 := c4 B _ (by simp) eB3
      have nF : F ∉ ms'.flatMap Mr.ads := fun h => A3.some F h hF
      have nFA : A ≠ F := ne_of_none eA3 hF
      have nFB : B ≠ F := ne_of_none eB3 hF
      have hF0 : H F = none := c03.free hF
      have c04 := c03.trans c4
      clear A3 eA3 eB3 hF c4 c03
      refine ⟨_, rfl, _, rfl, A, _, rfl, .inl (SqL.of eA4), F, _, rfl, f4, (by simp; omega), (by simp; omega), fun d H5 d0 d1 c5 f5 => ?_⟩
      rw [List.length_map, List.length_map] at d1
      obtain ⟨z, rfl⟩ : ∃ z : Nat, d = z := ⟨d.toNat, by omega⟩
      have zl : z < ms'.length := by omega
      obtain ⟨r, hr1⟩ : ∃ r, ms'[z]? = some r := ⟨_, List.getElem?_eq_getElem zl⟩
      have rm : r ∈ ms' := List.mem_of_getElem? hr1
      have t5 := ts_fl f4 c5
      have A5 := A4.ch c5 t5 (fun x hx e => nF (by rw [List.mem_singleton.mp e] at hx; exact hx))
      have eA5 := c5 A _ (by simpa using nFA) eA4
      have eB5 := c5 B _ (by simpa using nFB) eB4
      have c05 : Ch [] H H5 := c04.newS c5 (by simpa using hF0)
      have nD : F ∉ [r.MD, r.KD, r.LD] := fun h => nF (List.mem_flatMap.mpr ⟨r, rm, by simp only [List.mem_cons, List.not_mem_nil, or_false] at h; rcases h with h | h | h <;> simp [Mr.ads, h]⟩)
      have R5 := A5.ok r rm
      have le5 := R5.pu.le
      clear A4 eA4 eB4 c5 t5 c04 f4
      refine ⟨_, rfl, _, rfl, _, rfl, ?_⟩
      have atB : ∀ {k : Nat} {g : Mr}, ms'[k]? = some g → atI ((ms'.map Mr.MD).map V.ref) (k : Int) = some (.ref g.MD) := fun h => atI_nat (by rw [List.getElem?_map, List.getElem?_map, h]; rfl)
      have atA : ∀ {k : Nat} {g : Mr}, ms'[k]? = some g → atI ((ms'.map Mr.M).map V.ref) (k : Int) = some (.ref g.M) := fun h => atI_nat (by rw [List.getElem?_map, List.getElem?_map, h]; rfl)
      refine ⟨B, _, _, .ref r.MD, rfl, rfl, SqL.of eB5, atB hr1, ?_⟩
      refine ⟨F, r.MD, r.KD, r.LD, r.hv, r.a.ks, r.a.t, r.a.es, r.came, r.lg, rfl, f5, R5.md, R5.hd.h, R5.pu.lk, R5.pu.fit, by omega, nD, fun p wd v H6 c6 t6 f6 s6 dd => ?_⟩
      have A6 := A5.ch c6 t6 (fun x hx e => nF (by rw [List.mem_singleton.mp e] at hx; exact hx))
      have eA6 := c6 A _ (by simpa using nFA) eA5
      have eB6 := c6 B _ (by simpa using nFB) eB5
      have c06 : Ch [] H H6 := c05.newS c6 (by simpa using hF0)
      have H5n : ∀ x, H5 x = none → H x = none := fun x h => c05.free h
      have ad5 : ∀ x, H5 x = none → x ∉ ms'.flatMap Mr.ads ∧ x ≠ F := fun x h => ⟨fun z => A5.some x z h, fun e => by obtain ⟨_, _, _, e5, _⟩ := f5; rw [e, e5] at h; cases h⟩
      clear R5 le5 eA5 eB5 c6 t6 f5 c05 nD
      refine ⟨p, _, rfl, s6, rfl, _, _, rfl, _, _, rfl, rfl, ?_⟩
      refine ⟨_, rfl, (by show 1 ≤ sizeLine; decide), fun p1 hp1 => ?_⟩
      have c7 : Ch [] H6 (upd H6 p1 (.lst [.int (z : Int)])) := .new hp1
      have e7 : upd H6 p1 (.lst [.int (z : Int)]) p1 = some (.lst [.int (z : Int)]) := upd_same
      generalize upd H6 p1 (.lst [.int (z : Int)]) = H7 at c7 e7 ⊢
      dsimp only [gName, List.set]
      refine ⟨fun σ' H' => ∃ (L : Addr) (js : List Nat) (u9 : Option V), σ' = [some (.ref a), some (.ref A), some (.ref B), some (.int (1 + (i : Nat))), some (.ref F), some (.int (z : Int)), some (.str wd), some v, some (.ref L), u9, u10, u11, u12] ∧ Ch [F] H6 H' ∧ FlAt H' F ∧ H' L = some (.lst (js.map fun j : Nat => V.int (j : Int))) ∧ js.Nodup ∧ js.length ≤ 3 ∧ (∀ j ∈ js, ∃ g, ms'[j]? = some g ∧ g.a.ks = r.a.ks ∧ g.a.t = r.a.t), ?_, ?_⟩
      · have f7 := f6.ch c7 (by simp)
        refine ⟨_, rfl, F, _, rfl, f7, by decide, by decide, fun m8 H8 _ _ c8 f8 => ⟨rfl, _, rfl, ?_⟩⟩
        have n1F : p1 ≠ F := by
          obtain ⟨_, _, _, ef, _⟩ := f6
          exact (ne_of_none ef hp1).symm
        have e8 := c8 p1 _ (by simpa using n1F) e7
        have c68 : Ch [F] H6 H8 := (Ch.of0 c7).trans c8
        refine iteD (fun _ => ?_) (fun _ => ?_)
        · -- all of the same head
          have eA8 := c68 A _ (by simpa using nFA) eA6
          have eB8 := c68 B _ (by simpa using nFB) eB6
          have t68 : Ts H6 H8 := ts_fl f6 c68
          have A8 := A6.ch c68 t68 (fun x hx e => nF (by rw [List.mem_singleton.mp e] at hx; exact hx))
          refine ⟨_, rfl, A, _, rfl, .inl (SqL.of eA8), _, rfl, by simp only [List.length_map]; omega, by simp only [List.length_map]; omega, fun DD hDD => ?_⟩
          refine lc_range (fun k H' => ∃ js : List Nat, Ch [] H8 H' ∧ H' DD = some (.lst (js.map fun j : Nat => V.int (j : Int))) ∧ js.Nodup ∧ js.length ≤ k ∧ (∀ j ∈ js, j < k ∧ ∃ g, ms'[j]? = some g ∧ g.a.ks = r.a.ks ∧ g.a.t = r.a.t)) ?_ ?_ ?_
          · exact ⟨[], .new hDD, upd_same, .nil, Nat.le_refl _, fun j hj => by cases hj⟩
          · rintro k H9 hk ⟨js, c9, eD, nj, lj, hj⟩
            rw [List.length_map, List.length_map] at hk
            refine ⟨rfl, ?_⟩
            obtain ⟨g, hg1⟩ : ∃ g, ms'[k]? = some g := ⟨_, List.getElem?_eq_getElem (by omega)⟩
            have gm : g ∈ ms' := List.mem_of_getElem? hg1
            have A9 := A8.ch0 c9
            have eB9 := c9 B _ (by simp) eB8
            obtain ⟨_, _, kg, _⟩ := (A9.ok g gm).md.ex
            obtain ⟨_, _, kr, _⟩ := (A9.ok r rm).md.ex
            refine ⟨_, rfl, _, rfl, B, _, _, .ref g.MD, rfl, rfl, SqL.of eB9, (by rw [Int.zero_add]; exact atB hg1), g.MD, _, rfl, md_head kg, ?_⟩
            refine ⟨_, rfl, _, rfl, B, _, _, .ref r.MD, rfl, rfl, SqL.of eB9, atB hr1, r.MD, _, rfl, md_head kr, ?_⟩
            refine ⟨_, _, (A9.ok g gm).hd.h.dp, (A9.ok r rm).hd.h.dp, (hd_shd _ _).s, (hd_shd _ _).s, _, rfl, ?_⟩
            by_cases hb : PyData.eqv (hdD g.a.ks g.a.t).py (hdD r.a.ks r.a.t).py = true
            · rw [hb]
              show (if true = true then _ else _)
              rw [if_pos rfl]
              obtain ⟨h1, h2⟩ := hd_eq hb
              refine ⟨_, rfl, _, eD, small1000 (by rw [List.length_map]; omega), js ++ [k], c9.mut hDD, ?_, ?_, by rw [List.length_append, List.length_singleton]; omega, fun j hj' => ?_⟩
              · rw [upd_same, List.map_append, Int.zero_add]; rfl
              · rw [List.nodup_append]
                refine ⟨nj, by simp, fun x hx y hy e => ?_⟩
                have := (hj x hx).1
                simp at hy
                omega
              · rcases List.mem_append.mp hj' with hj' | hj'
                · exact ⟨by have := (hj j hj').1; omega, (hj j hj').2⟩
                · rw [List.mem_singleton.mp hj']
                  exact ⟨by omega, g, hg1, h1, h2⟩
            · rw [Bool.eq_false_iff.mpr hb]
              show (if false = true then _ else _)
              rw [if_neg (fun z => by cases z)]
              exact ⟨js, c9, eD, nj, by omega, fun j hj' => ⟨by have := (hj j hj').1; omega, (hj j hj').2⟩⟩
          · rintro H9 ⟨js, c9, eD, nj, lj, hj⟩
            rw [List.length_map, List.length_map] at lj
            exact ⟨DD, js, _, rfl, c68.trans (.of0 c9), f8.ch c9 (by simp), eD, nj, by omega, fun j hj' => (hj j hj').2⟩
        · exact ⟨p1, [z], _, rfl, c68, f8, e8, by simp, by simp, fun j hj => by rw [List.mem_singleton.mp hj]; exact ⟨r, hr1, rfl, rfl⟩⟩
      · rintro σ' H8 ⟨L, js, u9, rfl, c8, f8, e8, nj, lj, hj⟩
        have t8 := ts_fl f6 c8
        have eA8 := c8 A _ (by simpa using nFA) eA6
        have eB8 := c8 B _ (by simpa using nFB) eB6
        have A8 := A6.ch c8 t8 (fun x hx e => nF (by rw [List.mem_singleton.mp e] at hx; exact hx))
        have c08 : Ch [] H H8 := c06.newS c8 (by simpa using hF0)
        have dd8 := dd.ch c8 t8 (fun x hx e => (ad5 x hx).2 (List.mem_singleton.mp e))
        clear A6 eA6 eB6 c8 t8 c06 f6 e7 c7 hp1 dd
        refine ⟨_, rfl, L, rfl, ⟨_, SqL.of e8⟩, fun DD hDD => ?_⟩
        refine lc_it (walk_list (K := K) (a := L) (xs := js.map fun j : Nat => V.int (j : Int))) (fun k H' => Ch [] H8 H' ∧ ∃ ks : List Nat, H' DD = some (.lst (ks.map fun j : Nat => V.int (j : Int))) ∧ ks.Sublist (js.take k)) ⟨.new hDD, [], upd_same, List.nil_sublist _⟩ ?_ ?_ ?_
        · rintro k H' _ ⟨c, _⟩
          exact SqL.of (c L _ (by simp) e8)
        · rintro k x Hx H' hk ⟨c, ks, eD, sub⟩ ⟨rfl, ex⟩
          rw [List.length_map] at hk
          obtain ⟨j, hjk⟩ : ∃ j, js[k]? = some j := ⟨_, List.getElem?_eq_getElem hk⟩
          have ex' : x = V.int (j : Int) := by
            rw [List.getElem?_map, hjk] at ex
            exact (Option.some.inj ex).symm
          subst ex'
          obtain ⟨g, hg, gk, gt⟩ := hj j (List.mem_of_getElem? hjk)
          have gm : g ∈ ms' := List.mem_of_getElem? hg
          have A9 := A8.ch0 c
          have G9 := A9.ok g gm
          have le9 := G9.pu.le
          have eB9 := c B _ (by simp) eB8
          have dd9 := dd8.ch c (.of c) (by simp)
          refine ⟨rfl, ?_⟩
          refine ⟨_, rfl, _, rfl, B, _, _, .ref g.MD, rfl, rfl, SqL.of eB9, atB hg, _, rfl, _, rfl, ?_⟩
          dsimp only [tCons, tNil, tCall, List.cons_append, List.nil_append]
          refine ⟨g.MD, g.KD, g.LD, g.hv, g.a.ks, g.a.t, g.a.es, g.came, g.lg, wd, v, rfl, G9.md, G9.pu.fit, by omega, fun e => ?_, fun b H10 c10 => ?_⟩
          · rcases dd9 with ⟨e', _⟩ | ⟨_, tp, L, xs, sm, h1, h2, _⟩ | ⟨e', _⟩
            · rw [e'] at e; exact absurd e (by decide +kernel)
            · exact ⟨tp, L, xs, h1, h2⟩
            · rw [e'] at e; exact absurd e (by decide +kernel)
          · have eD10 := c10 DD _ (by simp) eD
            have c810 := c.trans c10
            refine ⟨_, rfl, ?_⟩
            have tk : js.take (k + 1) = js.take k ++ [j] := by rw [List.take_add_one, hjk]; rfl
            cases b with
            | false => exact ⟨c810, ks, eD10, tk ▸ sub.trans (List.sublist_append_left _ _)⟩
            | true =>
              have lks := sub.length_le
              rw [List.length_take] at lks
              refine ⟨_, rfl, _, eD10, small1000 (by rw [List.length_map]; omega), c810.mut hDD, ks ++ [j], ?_, ?_⟩
              · rw [upd_same, List.map_append]; rfl
              · rw [tk]; exact sub.append (List.Sublist.refl _)
        · rintro H9 ⟨c9, ks, eD, sub⟩
          rw [List.length_map, List.take_length] at sub
          have nk : ks.Nodup := sub.nodup nj
          have gs : ∀ j ∈ ks, ∃ g, ms'[j]? = some g ∧ g.a.ks = r.a.ks ∧ g.a.t = r.a.t := fun j h => hj j (sub.subset h)
          have lks : ks.length ≤ 3 := Nat.le_trans sub.length_le lj
          have f9 := f8.ch c9 (by simp)
          have dd9 := dd8.ch c9 (.of c9) (by simp)
          have A9 := A8.ch0 c9
          have eA9 := c9 A _ (by simp) eA8
          have eB9 := c9 B _ (by simp) eB8
          have nS : ∀ x, H5 x = none → x ∉ F :: ms'.flatMap Mr.ads := fun x hx h => by
            rcases List.mem_cons.mp h with h | h
            · exact (ad5 x hx).2 h
            · exact (ad5 x hx).1 h
          have nD : DD ∉ F :: ms'.flatMap Mr.ads := fun h => by
            rcases List.mem_cons.mp h with h | h
            · obtain ⟨_, _, _, ef, _⟩ := f8
              rw [h] at hDD
              rw [ef] at hDD
              cases hDD
            · exact A8.some DD h hDD
          have nAS : A ∉ F :: ms'.flatMap Mr.ads := fun h => by
            rcases List.mem_cons.mp h with h | h
            · exact nFA h
            · exact (ads0 A h).1 rfl
          have nBS : B ∉ F :: ms'.flatMap Mr.ads := fun h => by
            rcases List.mem_cons.mp h with h | h
            · exact nFB h
            · exact (ads0 B h).2.1 rfl
          refine ⟨DD, rfl, ⟨_, SqL.of eD⟩, ?_⟩
          refine for_it (walk_list (K := K) (a := DD) (xs := ks.map fun j : Nat => V.int (j : Int))) (fun k σ' H' => ∃ (ms2 : List Mr) (w9 w10 w11 w12 : Option V), σ' = [some (.ref a), some (.ref A), some (.ref B), some (.int (1 + (i : Nat))), some (.ref F), some (.int (z : Int)), some (.str wd), some v, some (.ref L), w9, w10, w11, w12] ∧ AllR K H' (He.ga K "Maker") (i + 1) ms2 ∧ ms2.flatMap Mr.ads = ms'.flatMap Mr.ads ∧ ms2.length = ms'.length ∧ ms2.map Mr.M = ms'.map Mr.M ∧ ms2.map Mr.MD = ms'.map Mr.MD ∧ (∀ j ∈ ks.drop k, ∃ g, ms2[j]? = some g ∧ g.a.ks = r.a.ks ∧ g.a.t = r.a.t ∧ Pu g.a.ks g.a.t g.a.es g.came g.lg i) ∧ FlAt H' F ∧ Ch (F :: ms'.flatMap Mr.ads) H9 H' ∧ Ts H9 H') ?_ ?_ ?_ ?_
          · refine ⟨ms', _, _, _, _, rfl, ⟨fun q hq => ?_, A9.nd⟩, rfl, rfl, rfl, rfl, fun j hj' => ?_, f9, .refl, .refl⟩
            · have Q9 := A9.ok q hq
              exact ⟨Q9.mkr, Q9.md, Q9.hd, Q9.pu.mono (Nat.le_succ _), Q9.sd⟩
            · obtain ⟨g, h1, h2, h3⟩ := gs j hj'
              exact ⟨g, h1, h2, h3, (A9.ok g (List.mem_of_getElem? h1)).pu⟩
          · rintro k σ' H' _ ⟨ms2, w9, w10, w11, w12, rfl, AA, _, _, _, _, _, _, c, _⟩
            exact SqL.of (c DD _ nD eD)
          · rintro k x σ' Hx H' hk ⟨ms2, w9, w10, w11, w12, rfl, AA, ga, gl, gM, gD, gj, gf, c, t⟩ ⟨rfl, ex⟩
            rw [List.length_map] at hk
            obtain ⟨j, hjk⟩ : ∃ j, ks[k]? = some j := ⟨_, List.getElem?_eq_getElem hk⟩
            have ex' : x = V.int (j : Int) := by
              rw [List.getElem?_map, hjk] at ex
              exact (Option.some.inj ex).symm
            subst ex'
            have kd : ks.drop k = j :: ks.drop (k + 1) := by
              obtain ⟨hk', hj'⟩ := List.getElem?_eq_some_iff.mp hjk
              rw [← hj']
              exact List.drop_eq_getElem_cons hk'
            obtain ⟨g, hg, gk, gt, gp⟩ := gj j (by rw [kd]; exact List.mem_cons_self)
            have gm : g ∈ ms2 := List.mem_of_getElem? hg
            have nF2 : F ∉ ms2.flatMap Mr.ads := by rw [ga]; exact nF
            have b0 := AA.bo gm gf nF2
            have mu : ∀ x ∈ Mu F g.M g.TH g.WR g.MD g.KD g.LD, x ∈ F :: ms'.flatMap Mr.ads := fun x hx => by
              have hx' : x = F ∨ x ∈ g.ads := by simpa [Mu, Mr.ads] using hx
              rcases hx' with h | h
              · rw [h]; exact List.mem_cons_self
              · rw [← ga]; exact List.mem_cons_of_mem _ (List.mem_flatMap.mpr ⟨g, gm, h⟩)
            have dd0 := dd9.ch c t nS
            have eA0 := c A _ nAS eA9
            have eB0 := c B _ nBS eB9
            rw [← gM] at eA0
            rw [← gD] at eB0
            have jl : j < ms2.length := (List.getElem?_eq_some_iff.mp hg).1
            have at1 : atI ((ms2.map Mr.M).map V.ref) (j : Int) = some (.ref g.M) := atI_nat (by rw [List.getElem?_map, List.getElem?_map, hg]; rfl)
            have at2 : atI ((ms2.map Mr.MD).map V.ref) (j : Int) = some (.ref g.MD) := atI_nat (by rw [List.getElem?_map, List.getElem?_map, hg]; rfl)
            refine ⟨_, rfl, _, rfl, A, _, _, .ref g.M, rfl, rfl, SqL.of eA0, at1, _, rfl, _, rfl, ?_⟩
            dsimp only [tCons, tNil, tCall, List.cons_append, List.nil_append]
            rw [← gk, ← gt] at dd0
            refine told_one (H0 := H5) b0 gp (by omega) (fun x hx h => nS x hx (mu x h)) dd0 fun u H10 c10 h10 => ?_
            have eB10 := c10 B _ (fun h => nBS (mu B (by simp only [List.mem_cons, List.not_mem_nil, or_false] at h; rcases h with h | h | h <;> simp [Mu, h]))) eB0
            refine ⟨_, rfl, _, rfl, B, _, _, .ref g.MD, rfl, rfl, SqL.of eB10, at2, _, rfl, _, rfl, ?_⟩
            dsimp only [tCons, tNil, tCall, List.cons_append, List.nil_append]
            refine h10.mono fun x H11 hq => ?_
            obtain ⟨es2, came2, lg2, d2, pu2, b2, c2, t2, r1, r2, sd, dz⟩ := hq
            refine ⟨u, x, d2, rfl, r2, r1, by omega, fun H12 c12 => ⟨_, rfl, ?_⟩⟩
            refine iteB (fun z => by cases z) (fun _ => ?_)
            have c3 : Ch (Mu F g.M g.TH g.WR g.MD g.KD g.LD) H' H12 := c2.trans (.of0 c12)
            have t3 : Ts H' H12 := t2.trans (.of c12)
            have b3 := b2.ch0 c12
            have A3' := AA.told hg c3 t3 nF2 b3 (Nat.le_refl _) pu2
            refine ⟨ms2.set j (g.put es2 came2 lg2), _, _, _, _, rfl, A3', by rw [set_ads hg (put_ads g es2 came2 lg2)]; exact ga, by rw [List.length_set]; exact gl, by rw [set_map hg (show (g.put es2 came2 lg2).M = g.M from rfl)]; exact gM, by rw [set_map hg (show (g.put es2 came2 lg2).MD = g.MD from rfl)]; exact gD, fun j' hj' => ?_, b3.fl, c.trans (c3.sub mu), t.trans t3⟩
            · have nj' : j ≠ j' := fun e => by
                have nk' : (j :: ks.drop (k + 1)).Nodup := by rw [← kd]; exact (List.drop_sublist k ks).nodup nk
                exact (List.nodup_cons.mp nk').1 (e ▸ hj')
              obtain ⟨g', h1, h2⟩ := gj j' (by rw [kd]; exact List.mem_cons_of_mem _ hj')
              exact ⟨g', by rw [List.getElem?_set_ne nj']; exact h1, h2⟩
          · rintro σ' H10 ⟨ms2, w9, w10, w11, w12, rfl, AA, ga, gl, gM, gD, gj, gf, c, t⟩
            have eA0 := c A _ nAS eA9
            have eB0 := c B _ nBS eB9
            rw [← gM] at eA0
            rw [← gD] at eB0
            refine ⟨_, rfl, _, rfl, ?_⟩
            dsimp only [tCons, tNil, tCall, List.cons_append, List.nil_append]
            refine ⟨A, B, ms2, i + 1, rfl, eA0, eB0, AA, by omega, by omega, fun H11 c11 => ⟨_, rfl, ?_⟩⟩
            refine iteB (fun z => by cases z) (fun _ => ?_)
            refine ⟨ms2, _, _, _, _, _, _, _, _, _, _, rfl, AA.ch0 c11, by rw [ga, ea], by rw [gl, el], c11 A _ (by simp) eA0, c11 B _ (by simp) eB0, ?_⟩
            refine Ch.newS (c08.trans (.of0 c9)) (Ch.trans c (.of0 c11)) fun p hp => ?_
            rcases List.mem_cons.mp hp with h | h
            · rw [h]; exact hF0
            · exact (ads0 p h).2.2
    · rintro σ' H3 ⟨ms', u3, u4, u5, u6, u7, u8, u9, u10, u11, u12, rfl, A3, ea, el, eA3, eB3, c03⟩
      have lz : ms'.length = min ((ms'.map Mr.M).map V.ref).length ((ms'.map Mr.MD).map V.ref).length := by simp
      refine ⟨_, rfl, _, rfl, A, B, _, _, rfl, .inl ⟨SqL.of eA3, SqL.of eB3, ?_⟩⟩
      refine fun DD hDD => ?_
      refine lc_it (walk_zip (K := K) (a := A) (b := B) (xs := (ms'.map Mr.M).map V.ref) (ys := (ms'.map Mr.MD).map V.ref) (n := ms'.length) lz) (fun k H' => Ch [] H3 H' ∧ ∃ n, H' DD = some (.lst ((List.replicate n true).map V.bl)) ∧ n ≤ k) ⟨.new hDD, 0, upd_same, Nat.le_refl _⟩ ?_ ?_ ?_
      · rintro k H' _ ⟨c, _⟩
        exact ⟨SqL.of (c A _ (by simp) eA3), SqL.of (c B _ (by simp) eB3)⟩
      · rintro k x Hx H' hk ⟨c, n, eD, hn⟩ ⟨TT, x1, y1, rfl, hT, rfl, ex, ey⟩
        dsimp only at ex ey
        obtain ⟨g, hg⟩ : ∃ g, ms'[k]? = some g := ⟨_, List.getElem?_eq_getElem hk⟩
        have gm : g ∈ ms' := List.mem_of_getElem? hg
        have ex' : x1 = V.ref g.M := by
          rw [List.getElem?_map, List.getElem?_map, hg] at ex
          exact (Option.some.inj ex).symm
        have ey' : y1 = V.ref g.MD := by
          rw [List.getElem?_map, List.getElem?_map, hg] at ey
          exact (Option.some.inj ey).symm
        subst ex'
        subst ey'
        have c2 : Ch [] H3 (upd Hx TT (.tup [V.ref g.M, V.ref g.MD])) := c.trans (.new hT)
        have eD2 := (Ch.new (S := []) (o := .tup [V.ref g.M, V.ref g.MD]) hT) DD _ (by simp) eD
        have G9 := (A3.ch0 c2).ok g gm
        have le9 := G9.pu.le
        have ll9 := G9.pu.ll
        have lk9 := G9.pu.lk
        refine ⟨TT, _, rfl, SqT.of upd_same, rfl, _, _, rfl, _, _, rfl, rfl, rfl, ?_⟩
        refine ⟨_, rfl, _, rfl, ?_⟩
        dsimp only [tCons, tNil, tCall, List.cons_append, List.nil_append]
        refine ⟨g.M, g.TH, g.WR, g.MD, g.KD, g.LD, g.hv, g.hv, g.a.ks, g.a.t, g.a.es, g.came, g.came, g.lg, rfl, G9.mkr, G9.md, by omega, by omega, by omega, G9.pu.fit, G9.pu.nod, G9.pu.sh, fun H4 c4 => ?_⟩
        have eD4 := c4 DD _ (by simp) eD2
        have c34 := c2.trans c4
        refine ⟨_, eD4, small1000 (by rw [List.length_map, List.length_replicate]; omega), c34.mut hDD, n + 1, ?_, by omega⟩
        rw [upd_same, List.replicate_succ', List.map_append]
        rfl
      · rintro H' ⟨c, n, eD, hn⟩
        refine ⟨DD, List.replicate n true, rfl, SqL.of eD, ?_⟩
        have ea : (List.replicate n true).all id = true := by simp
        rw [ea]
        exact q _
end
end LM
set_option Elab.async false
set_option linter.all false
set_option maxRecDepth 100000
set_option maxHeartbeats 4000000
namespace LM
open PySem PySem.Spec PyProof.Rows L2
section
variable {w : World} {K : PySem.W.Frag} {h : Heap} {mg : Str → Option Value}
theorem srtB_ok {nm : Str} (h : srtB K nm = true) : SortC K (He.ga K nm) nm := ⟨fun x hx => srtB_all h x hx⟩
theorem ebB_ok {CB : Addr} (g : mg "MakeError" = some (.ref CB)) (e : CB = He.ga K "MakeError") (h : ebB K "MakeError" = true) : Eb K mg CB := by
  subst e
  obtain ⟨h1, h2⟩ := ba2 h
  obtain ⟨h2, h3⟩ := ba2 h2
  exact ⟨g, ⟨h1, He.eqO_ok h2⟩, fndB_ok h3⟩
theorem fD_is_whole (X : K.In h) (G : h.Ns mainGlobals mg) (c : SaysY faL fnL tsL exL w K) : Df K mg "is_whole" (top 21) := ⟨He.glo_ok X G (c.t.d.fact 0 (f := .glo "is_whole") rfl), c.t.d.def_ 0 rfl⟩
theorem fD_has_form (X : K.In h) (G : h.Ns mainGlobals mg) (c : SaysY faL fnL tsL exL w K) : Df K mg "has_form" (top 22) := ⟨He.glo_ok X G (c.t.d.fact 1 (f := .glo "has_form") rfl), c.t.d.def_ 1 rfl⟩
theorem fD_parts_of (X : K.In h) (G : h.Ns mainGlobals mg) (c : SaysY faL fnL tsL exL w K) : Df K mg "parts_of" (top 23) := ⟨He.glo_ok X G (c.t.d.fact 2 (f := .glo "parts_of") rfl), c.t.d.def_ 2 rfl⟩
theorem fD_knots (X : K.In h) (G : h.Ns mainGlobals mg) (c : SaysY faL fnL tsL exL w K) : Df K mg "knots" (top 24) := ⟨He.glo_ok X G (c.t.d.fact 3 (f := .glo "knots") rfl), c.t.d.def_ 3 rfl⟩
theorem fD_own_kind (X : K.In h) (G : h.Ns mainGlobals mg) (c : SaysY faL fnL tsL exL w K) : Df K mg "own_kind" (top 25) := ⟨He.glo_ok X G (c.t.d.fact 4 (f := .glo "own_kind") rfl), c.t.d.def_ 4 rfl⟩
theorem fD_parts_due (X : K.In h) (G : h.Ns mainGlobals mg) (c : SaysY faL fnL tsL exL w K) : Df K mg "parts_due" (top 26) := ⟨He.glo_ok X G (c.t.d.fact 5 (f := .glo "parts_due") rfl), c.t.d.def_ 5 rfl⟩
theorem fD_kind_of (X : K.In h) (G : h.Ns mainGlobals mg) (c : SaysY faL fnL tsL exL w K) : Df K mg "kind_of" (top 27) := ⟨He.glo_ok X G (c.t.d.fact 6 (f := .glo "kind_of") rfl), c.t.d.def_ 6 rfl⟩
theorem fD_is_of (X : K.In h) (G : h.Ns mainGlobals mg) (c : SaysY faL fnL tsL exL w K) : Df K mg "is_of" (top 37) := ⟨He.glo_ok X G (c.t.d.fact 7 (f := .glo "is_of") rfl), c.t.d.def_ 7 rfl⟩
theorem fD_are_of (X : K.In h) (G : h.Ns mainGlobals mg) (c : SaysY faL fnL tsL exL w K) : Df K mg "are_of" (top 38) := ⟨He.glo_ok X G (c.t.d.fact 8 (f := .glo "are_of") rfl), c.t.d.def_ 8 rfl⟩
theorem fD_look_wish (X : K.In h) (G : h.Ns mainGlobals mg) (c : SaysY faL fnL tsL exL w K) : Df K mg "look_wish" (top 39) := ⟨He.glo_ok X G (c.t.d.fact 9 (f := .glo "look_wish") rfl), c.t.d.def_ 9 rfl⟩
theorem fD__law_cell (X : K.In h) (G : h.Ns mainGlobals mg) (c : SaysY faL fnL tsL exL w K) : Df K mg "_law_cell" (top 42) := ⟨He.glo_ok X G (c.t.d.fact 10 (f := .glo "_law_cell") rfl), c.t.d.def_ 10 rfl⟩
theorem fD__law_flow (X : K.In h) (G : h.Ns mainGlobals mg) (c : SaysY faL fnL tsL exL w K) : Df K mg "_law_flow" (top 43) := ⟨He.glo_ok X G (c.t.d.fact 11 (f := .glo "_law_flow") rfl), c.t.d.def_ 11 rfl⟩
theorem fD__law_draw (X : K.In h) (G : h.Ns mainGlobals mg) (c : SaysY faL fnL tsL exL w K) : Df K mg "_law_draw" (top 44) := ⟨He.glo_ok X G (c.t.d.fact 12 (f := .glo "_law_draw") rfl), c.t.d.def_ 12 rfl⟩
theorem fD__law_numeral (X : K.In h) (G : h.Ns mainGlobals mg) (c : SaysY faL fnL tsL exL w K) : Df K mg "_law_numeral" (top 45) := ⟨He.glo_ok X G (c.t.d.fact 13 (f := .glo "_law_numeral") rfl), c.t.d.def_ 13 rfl⟩
theorem fD__law_leaf (X : K.In h) (G : h.Ns mainGlobals mg) (c : SaysY faL fnL tsL exL w K) : Df K mg "_law_leaf" (top 46) := ⟨He.glo_ok X G (c.t.d.fact 14 (f := .glo "_law_leaf") rfl), c.t.d.def_ 14 rfl⟩
theorem fD__law_made (X : K.In h) (G : h.Ns mainGlobals mg) (c : SaysY faL fnL tsL exL w K) : Df K mg "_law_made" (top 47) := ⟨He.glo_ok X G (c.t.d.fact 15 (f := .glo "_law_made") rfl), c.t.d.def_ 15 rfl⟩
theorem fD__law_has_form (X : K.In h) (G : h.Ns mainGlobals mg) (c : SaysY faL fnL tsL exL w K) : Df K mg "_law_has_form" (top 48) := ⟨He.glo_ok X G (c.t.d.fact 16 (f := .glo "_law_has_form") rfl), c.t.d.def_ 16 rfl⟩
theorem fD__law_parts (X : K.In h) (G : h.Ns mainGlobals mg) (c : SaysY faL fnL tsL exL w K) : Df K mg "_law_parts" (top 49) := ⟨He.glo_ok X G (c.t.d.fact 17 (f := .glo "_law_parts") rfl), c.t.d.def_ 17 rfl⟩
theorem fD__law_knots (X : K.In h) (G : h.Ns mainGlobals mg) (c : SaysY faL fnL tsL exL w K) : Df K mg "_law_knots" (top 50) := ⟨He.glo_ok X G (c.t.d.fact 18 (f := .glo "_law_knots") rfl), c.t.d.def_ 18 rfl⟩
theorem fD__law_own (X : K.In h) (G : h.Ns mainGlobals mg) (c : SaysY faL fnL tsL exL w K) : Df K mg "_law_own" (top 51) := ⟨He.glo_ok X G (c.t.d.fact 19 (f := .glo "_law_own") rfl), c.t.d.def_ 19 rfl⟩
theorem fD__law_wrong (X : K.In h) (G : h.Ns mainGlobals mg) (c : SaysY faL fnL tsL exL w K) : Df K mg "_law_wrong" (top 52) := ⟨He.glo_ok X G (c.t.d.fact 20 (f := .glo "_law_wrong") rfl), c.t.d.def_ 20 rfl⟩
theorem fD__law_replaced (X : K.In h) (G : h.Ns mainGlobals mg) (c : SaysY faL fnL tsL exL w K) : Df K mg "_law_replaced" (top 53) := ⟨He.glo_ok X G (c.t.d.fact 21 (f := .glo "_law_replaced") rfl), c.t.d.def_ 21 rfl⟩
theorem fD__law_alike (X : K.In h) (G : h.Ns mainGlobals mg) (c : SaysY faL fnL tsL exL w K) : Df K mg "_law_alike" (top 54) := ⟨He.glo_ok X G (c.t.d.fact 22 (f := .glo "_law_alike") rfl), c.t.d.def_ 22 rfl⟩
theorem fD__law_sorts (X : K.In h) (G : h.Ns mainGlobals mg) (c : SaysY faL fnL tsL exL w K) : Df K mg "_law_sorts" (top 55) := ⟨He.glo_ok X G (c.t.d.fact 23 (f := .glo "_law_sorts") rfl), c.t.d.def_ 23 rfl⟩
theorem fD__law_due_kind (X : K.In h) (G : h.Ns mainGlobals mg) (c : SaysY faL fnL tsL exL w K) : Df K mg "_law_due_kind" (top 56) := ⟨He.glo_ok X G (c.t.d.fact 24 (f := .glo "_law_due_kind") rfl), c.t.d.def_ 24 rfl⟩
theorem fD__law_bad_knot (X : K.In h) (G : h.Ns mainGlobals mg) (c : SaysY faL fnL tsL exL w K) : Df K mg "_law_bad_knot" (top 57) := ⟨He.glo_ok X G (c.t.d.fact 25 (f := .glo "_law_bad_knot") rfl), c.t.d.def_ 25 rfl⟩
theorem fD__law_small_wish (X : K.In h) (G : h.Ns mainGlobals mg) (c : SaysY faL fnL tsL exL w K) : Df K mg "_law_small_wish" (top 58) := ⟨He.glo_ok X G (c.t.d.fact 26 (f := .glo "_law_small_wish") rfl), c.t.d.def_ 26 rfl⟩
theorem fD__law_head (X : K.In h) (G : h.Ns mainGlobals mg) (c : SaysY faL fnL tsL exL w K) : Df K mg "_law_head" (top 59) := ⟨He.glo_ok X G (c.t.d.fact 27 (f := .glo "_law_head") rfl), c.t.d.def_ 27 rfl⟩
theorem fD__law_near_inputs (X : K.In h) (G : h.Ns mainGlobals mg) (c : SaysY faL fnL tsL exL w K) : Df K mg "_law_near_inputs" (top 60) := ⟨He.glo_ok X G (c.t.d.fact 28 (f := .glo "_law_near_inputs") rfl), c.t.d.def_ 28 rfl⟩
theorem fD__law_example (X : K.In h) (G : h.Ns mainGlobals mg) (c : SaysY faL fnL tsL exL w K) : Df K mg "_law_example" (top 61) := ⟨He.glo_ok X G (c.t.d.fact 29 (f := .glo "_law_example") rfl), c.t.d.def_ 29 rfl⟩
theorem fD__law_is_of (X : K.In h) (G : h.Ns mainGlobals mg) (c : SaysY faL fnL tsL exL w K) : Df K mg "_law_is_of" (top 62) := ⟨He.glo_ok X G (c.t.d.fact 30 (f := .glo "_law_is_of") rfl), c.t.d.def_ 30 rfl⟩
theorem fD__law_examples_due (X : K.In h) (G : h.Ns mainGlobals mg) (c : SaysY faL fnL tsL exL w K) : Df K mg "_law_examples_due" (top 63) := ⟨He.glo_ok X G (c.t.d.fact 31 (f := .glo "_law_examples_due") rfl), c.t.d.def_ 31 rfl⟩
theorem fD__law_maker_said (X : K.In h) (G : h.Ns mainGlobals mg) (c : SaysY faL fnL tsL exL w K) : Df K mg "_law_maker_said" (top 64) := ⟨He.glo_ok X G (c.t.d.fact 32 (f := .glo "_law_maker_said") rfl), c.t.d.def_ 32 rfl⟩
theorem fD__law_maker_due (X : K.In h) (G : h.Ns mainGlobals mg) (c : SaysY faL fnL tsL exL w K) : Df K mg "_law_maker_due" (top 65) := ⟨He.glo_ok X G (c.t.d.fact 33 (f := .glo "_law_maker_due") rfl), c.t.d.def_ 33 rfl⟩
theorem fD__law_stands (X : K.In h) (G : h.Ns mainGlobals mg) (c : SaysY faL fnL tsL exL w K) : Df K mg "_law_stands" (top 66) := ⟨He.glo_ok X G (c.t.d.fact 34 (f := .glo "_law_stands") rfl), c.t.d.def_ 34 rfl⟩
theorem fD__law_new_model (X : K.In h) (G : h.Ns mainGlobals mg) (c : SaysY faL fnL tsL exL w K) : Df K mg "_law_new_model" (top 67) := ⟨He.glo_ok X G (c.t.d.fact 35 (f := .glo "_law_new_model") rfl), c.t.d.def_ 35 rfl⟩
theorem fD__law_bad_example (X : K.In h) (G : h.Ns mainGlobals mg) (c : SaysY faL fnL tsL exL w K) : Df K mg "_law_bad_example" (top 68) := ⟨He.glo_ok X G (c.t.d.fact 36 (f := .glo "_law_bad_example") rfl), c.t.d.def_ 36 rfl⟩
theorem fD__law_deed (X : K.In h) (G : h.Ns mainGlobals mg) (c : SaysY faL fnL tsL exL w K) : Df K mg "_law_deed" (top 69) := ⟨He.glo_ok X G (c.t.d.fact 37 (f := .glo "_law_deed") rfl), c.t.d.def_ 37 rfl⟩
theorem fD__law_has_room (X : K.In h) (G : h.Ns mainGlobals mg) (c : SaysY faL fnL tsL exL w K) : Df K mg "_law_has_room" (top 70) := ⟨He.glo_ok X G (c.t.d.fact 38 (f := .glo "_law_has_room") rfl), c.t.d.def_ 38 rfl⟩
theorem fD__law_same (X : K.In h) (G : h.Ns mainGlobals mg) (c : SaysY faL fnL tsL exL w K) : Df K mg "_law_same" (top 71) := ⟨He.glo_ok X G (c.t.d.fact 39 (f := .glo "_law_same") rfl), c.t.d.def_ 39 rfl⟩
theorem fD__law_alike_right (X : K.In h) (G : h.Ns mainGlobals mg) (c : SaysY faL fnL tsL exL w K) : Df K mg "_law_alike_right" (top 72) := ⟨He.glo_ok X G (c.t.d.fact 40 (f := .glo "_law_alike_right") rfl), c.t.d.def_ 40 rfl⟩
theorem fD__law_begun (X : K.In h) (G : h.Ns mainGlobals mg) (c : SaysY faL fnL tsL exL w K) : Df K mg "_law_begun" (top 73) := ⟨He.glo_ok X G (c.t.d.fact 41 (f := .glo "_law_begun") rfl), c.t.d.def_ 41 rfl⟩
theorem fD_law (X : K.In h) (G : h.Ns mainGlobals mg) (c : SaysY faL fnL tsL exL w K) : Df K mg "law" (top 74) := ⟨He.glo_ok X G (c.t.d.fact 42 (f := .glo "law") rfl), c.t.d.def_ 42 rfl⟩
theorem fM_len (c : SaysY faL fnL tsL exL w K) : DfM K (He.ga K "Maker") "__len__" "Maker.__len__" (inClass (top 40) 1) := by
  obtain ⟨fd, F⟩ := c.t.d.def_ 44 rfl
  exact ⟨_, fd, He.meth_ok (c.t.d.fact 43 (f := .meth "Maker" "__len__") rfl), F⟩
theorem fM_eq (c : SaysY faL fnL tsL exL w K) : DfM K (He.ga K "Maker") "__eq__" "Maker.__eq__" (inClass (top 40) 2) := by
  obtain ⟨fd, F⟩ := c.t.d.def_ 45 rfl
  exact ⟨_, fd, He.meth_ok (c.t.d.fact 44 (f := .meth "Maker" "__eq__") rfl), F⟩
theorem fM_begin (c : SaysY faL fnL tsL exL w K) : DfM K (He.ga K "Maker") "begin" "Maker.begin" (inClass (top 40) 3) := by
  obtain ⟨fd, F⟩ := c.t.d.def_ 46 rfl
  exact ⟨_, fd, He.meth_ok (c.t.d.fact 45 (f := .meth "Maker" "begin") rfl), F⟩
theorem fM_keep (c : SaysY faL fnL tsL exL w K) : DfM K (He.ga K "Maker") "keep" "Maker.keep" (inClass (top 40) 4) := by
  obtain ⟨fd, F⟩ := c.t.d.def_ 47 rfl
  exact ⟨_, fd, He.meth_ok (c.t.d.fact 46 (f := .meth "Maker" "keep") rfl), F⟩
theorem fM_wish (c : SaysY faL fnL tsL exL w K) : DfM K (He.ga K "Maker") "wish" "Maker.wish" (inClass (top 40) 5) := by
  obtain ⟨fd, F⟩ := c.t.d.def_ 48 rfl
  exact ⟨_, fd, He.meth_ok (c.t.d.fact 47 (f := .meth "Maker" "wish") rfl), F⟩
theorem fM_examples (c : SaysY faL fnL tsL exL w K) : DfM K (He.ga K "Maker") "examples" "Maker.examples" (inClass (top 40) 6) := by
  obtain ⟨fd, F⟩ := c.t.d.def_ 49 rfl
  exact ⟨_, fd, He.meth_ok (c.t.d.fact 48 (f := .meth "Maker" "examples") rfl), F⟩
theorem fM_look_examples (c : SaysY faL fnL tsL exL w K) : DfM K (He.ga K "Maker") "look_examples" "Maker.look_examples" (inClass (top 40) 7) := by
  obtain ⟨fd, F⟩ := c.t.d.def_ 50 rfl
  exact ⟨_, fd, He.meth_ok (c.t.d.fact 49 (f := .meth "Maker" "look_examples") rfl), F⟩
theorem fM_back (c : SaysY faL fnL tsL exL w K) : DfM K (He.ga K "Maker") "back" "Maker.back" (inClass (top 40) 8) := by
  obtain ⟨fd, F⟩ := c.t.d.def_ 51 rfl
  exact ⟨_, fd, He.meth_ok (c.t.d.fact 50 (f := .meth "Maker" "back") rfl), F⟩
theorem fM_kept (c : SaysY faL fnL tsL exL w K) : DfM K (He.ga K "Maker") "kept" "Maker.kept" (inClass (top 40) 9) := by
  obtain ⟨fd, F⟩ := c.t.d.def_ 52 rfl
  exact ⟨_, fd, He.meth_ok (c.t.d.fact 51 (f := .meth "Maker" "kept") rfl), F⟩
theorem fM_log (c : SaysY faL fnL tsL exL w K) : DfM K (He.ga K "Maker") "log" "Maker.log" (inClass (top 40) 13) := by
  obtain ⟨fd, F⟩ := c.t.d.def_ 53 rfl
  exact ⟨_, fd, He.meth_ok (c.t.d.fact 52 (f := .meth "Maker" "log") rfl), F⟩
theorem fM_is_busy (c : SaysY faL fnL tsL exL w K) : DfM K (He.ga K "Maker") "is_busy" "Maker.is_busy" (inClass (top 40) 14) := by
  obtain ⟨fd, F⟩ := c.t.d.def_ 54 rfl
  exact ⟨_, fd, He.meth_ok (c.t.d.fact 53 (f := .meth "Maker" "is_busy") rfl), F⟩
theorem fMt (c : SaysY faL fnL tsL exL w K) : Mt K (He.ga K "Maker") := ⟨He.cls_ok (c.t.d.fact 54 (f := .cls "Maker") rfl), He.noat_ok (c.t.d.fact 57 (f := .noat "Maker" "head") rfl), He.noat_ok (c.t.d.fact 58 (f := .noat "Maker" "stock") rfl), He.noat_ok (c.t.d.fact 59 (f := .noat "Maker" "most") rfl), He.noat_ok (c.t.d.fact 60 (f := .noat "Maker" "things") rfl), He.noat_ok (c.t.d.fact 61 (f := .noat "Maker" "came") rfl), He.noat_ok (c.t.d.fact 62 (f := .noat "Maker" "written") rfl), He.noat_ok (c.t.d.fact 63 (f := .noat "Maker" "busy") rfl)⟩
theorem fMi (X : K.In h) (G : h.Ns mainGlobals mg) (c : SaysY faL fnL tsL exL w K) : DfI K mg (He.ga K "Maker") := by
  obtain ⟨fd, F⟩ := c.t.d.def_ 43 rfl
  exact ⟨He.glo_ok X G (c.t.d.fact 56 (f := .glo "Maker") rfl), _, fd, He.mkr_ok (c.t.d.fact 55 (f := .mkr "Maker") rfl), F⟩
theorem fBn (X : K.In h) (G : h.Ns mainGlobals mg) (c : SaysY faL fnL tsL exL w K) : Bn mg := ⟨He.free_ok X G (c.t.d.fact 64 (f := .free "len") rfl), He.free_ok X G (c.t.d.fact 65 (f := .free "range") rfl), He.free_ok X G (c.t.d.fact 66 (f := .free "isinstance") rfl), He.free_ok X G (c.t.d.fact 67 (f := .free "tuple") rfl), He.free_ok X G (c.t.d.fact 68 (f := .free "bool") rfl), He.free_ok X G (c.t.d.fact 69 (f := .free "int") rfl), He.free_ok X G (c.t.d.fact 70 (f := .free "str") rfl), He.free_ok X G (c.t.d.fact 71 (f := .free "list") rfl), He.free_ok X G (c.t.d.fact 72 (f := .free "dict") rfl), He.free_ok X G (c.t.d.fact 73 (f := .free "enumerate") rfl), He.free_ok X G (c.t.d.fact 74 (f := .free "reversed") rfl), He.free_ok X G (c.t.d.fact 75 (f := .free "zip") rfl), He.free_ok X G (c.t.d.fact 76 (f := .free "all") rfl), He.free_ok X G (c.t.d.fact 77 (f := .free "max") rfl)⟩
theorem fex (c : SaysY faL fnL tsL exL w K) {b : Bool} (i : Nat) (hb : ([He.tupB K "NUMBERED" [.str "in", .str "num", .str "plus"], He.tupB K "OF_NUMS" [.str "plus", .str "least", .str "most", .str "atmost"], He.tupB K "OF_TRUTHS" [.str "not", .str "both", .str "either"], He.tupB K "TELL_NUMS" [.str "num", .str "plus", .str "least", .str "most"], tabB K (He.ga K "PARTS") ptL, oexB K (He.ga K "NoInputs"), excCB K (He.ga K "NoInputs"), xfB K (He.ga K "NoInputs"), iniB K "NoInputs", srtB K "NoInputs", noB K "NoInputs" ["at"], oexB K (He.ga K "Clash"), excCB K (He.ga K "Clash"), xfB K (He.ga K "Clash"), iniB K "Clash", srtB K "Clash", noB K "Clash" ["at", "number"], oexB K (He.ga K "NoProgram"), excCB K (He.ga K "NoProgram"), xfB K (He.ga K "NoProgram"), iniB K "NoProgram", srtB K "NoProgram", noB K "NoProgram" ["word", "at"], oexTB K (He.ga K "NotKept"), xfB K (He.ga K "NotKept"), iniB K "NotKept", noB K "NotKept" ["number"], ieB K, mkcB K (He.ga K "Maker"), stockB K (.ref (He.ga K "STOCK")), ebB K "MakeError"] : List Bool)[i]? = some b := by rfl) : b = true := List.all_eq_true.mp (show ([He.tupB K "NUMBERED" [.str "in", .str "num", .str "plus"], He.tupB K "OF_NUMS" [.str "plus", .str "least", .str "most", .str "atmost"], He.tupB K "OF_TRUTHS" [.str "not", .str "both", .str "either"], He.tupB K "TELL_NUMS" [.str "num", .str "plus", .str "least", .str "most"], tabB K (He.ga K "PARTS") ptL, oexB K (He.ga K "NoInputs"), excCB K (He.ga K "NoInputs"), xfB K (He.ga K "NoInputs"), iniB K "NoInputs", srtB K "NoInputs", noB K "NoInputs" ["at"], oexB K (He.ga K "Clash"), excCB K (He.ga K "Clash"), xfB K (He.ga K "Clash"), iniB K "Clash", srtB K "Clash", noB K "Clash" ["at", "number"], oexB K (He.ga K "NoProgram"), excCB K (He.ga K "NoProgram"), xfB K (He.ga K "NoProgram"), iniB K "NoProgram", srtB K "NoProgram", noB K "NoProgram" ["word", "at"], oexTB K (He.ga K "NotKept"), xfB K (He.ga K "NotKept"), iniB K "NotKept", noB K "NotKept" ["number"], ieB K, mkcB K (He.ga K "Maker"), stockB K (.ref (He.ga K "STOCK")), ebB K "MakeError"] : List Bool).all id = true from c.more) b (List.mem_of_getElem? hb)
theorem fTp (X : K.In h) (G : h.Ns mainGlobals mg) (c : SaysY faL fnL tsL exL w K) : Tp K w mg := ⟨fBn X G c, (He.glo_ok X G (c.t.d.fact 97 (f := .glo "PARTS") rfl)), (wd_of (c.t.tab 0 rfl) (fex c 4)), (He.glo_ok X G (c.t.d.fact 93 (f := .glo "NUMBERED") rfl)), (fun H => He.tupB_ok (fex c 0) H), (He.glo_ok X G (c.t.d.fact 94 (f := .glo "OF_NUMS") rfl)), (fun H => He.tupB_ok (fex c 1) H), (He.glo_ok X G (c.t.d.fact 95 (f := .glo "OF_TRUTHS") rfl)), (fun H => He.tupB_ok (fex c 2) H), (He.glo_ok X G (c.t.d.fact 96 (f := .glo "TELL_NUMS") rfl)), (fun H => He.tupB_ok (fex c 3) H)⟩
theorem fXs (X : K.In h) (G : h.Ns mainGlobals mg) (c : SaysY faL fnL tsL exL w K) : Xs K mg := ⟨fBn X G c, fun x hx => by
  have : ∀ y ∈ sortNames, .glo y ∈ faL := by
    intro y hy
    simp only [sortNames, List.mem_cons, List.not_mem_nil, or_false] at hy
    rcases hy with rfl | rfl | rfl | rfl | rfl | rfl | rfl | rfl | rfl | rfl | rfl | rfl <;> simp [faL]
  exact He.glo_ok X G (He.SaysD.facts c.t.d (this x hx))⟩
theorem fEb (X : K.In h) (G : h.Ns mainGlobals mg) (c : SaysY faL fnL tsL exL w K) : Eb K mg (He.ga K "MakeError") := ebB_ok (He.glo_ok X G (c.t.d.fact 92 (f := .glo "MakeError") rfl)) rfl (fex c 30)
theorem fX_NoInputs (X : K.In h) (G : h.Ns mainGlobals mg) (c : SaysY faL fnL tsL exL w K) : DfX K mg "NoInputs" "NoInputs.__init__" (inClass (top 8) 0) (He.ga K "NoInputs") ["at"] := by
  obtain ⟨fd, F⟩ := c.t.d.def_ 55 rfl
  obtain ⟨i1, i2⟩ := iniB_ok (fex c 8)
  exact ⟨oexB_ok (fex c 5), He.glo_ok X G (c.t.d.fact 85 (f := .glo "NoInputs") rfl), ⟨_, fd, i1, i2, F⟩, noB_ok (fex c 10)⟩
theorem fC_NoInputs (c : SaysY faL fnL tsL exL w K) : XcF K (He.ga K "NoInputs") (He.ga K "MakeError") "NoInputs" := ⟨excCB_ok (fex c 6), srtB_ok (fex c 9), xfB_ok (fex c 7), He.exm_ok (c.t.d.fact 99 (f := .exm "NoInputs" "MakeError" true) rfl)⟩
theorem fX_Clash (X : K.In h) (G : h.Ns mainGlobals mg) (c : SaysY faL fnL tsL exL w K) : DfX K mg "Clash" "Clash.__init__" (inClass (top 9) 0) (He.ga K "Clash") ["at", "number"] := by
  obtain ⟨fd, F⟩ := c.t.d.def_ 56 rfl
  obtain ⟨i1, i2⟩ := iniB_ok (fex c 14)
  exact ⟨oexB_ok (fex c 11), He.glo_ok X G (c.t.d.fact 86 (f := .glo "Clash") rfl), ⟨_, fd, i1, i2, F⟩, noB_ok (fex c 16)⟩
theorem fC_Clash (c : SaysY faL fnL tsL exL w K) : XcF K (He.ga K "Clash") (He.ga K "MakeError") "Clash" := ⟨excCB_ok (fex c 12), srtB_ok (fex c 15), xfB_ok (fex c 13), He.exm_ok (c.t.d.fact 100 (f := .exm "Clash" "MakeError" true) rfl)⟩
theorem fX_NoProgram (X : K.In h) (G : h.Ns mainGlobals mg) (c : SaysY faL fnL tsL exL w K) : DfX K mg "NoProgram" "NoProgram.__init__" (inClass (top 4) 0) (He.ga K "NoProgram") ["word", "at"] := by
  obtain ⟨fd, F⟩ := c.t.d.def_ 57 rfl
  obtain ⟨i1, i2⟩ := iniB_ok (fex c 20)
  exact ⟨oexB_ok (fex c 17), He.glo_ok X G (c.t.d.fact 81 (f := .glo "NoProgram") rfl), ⟨_, fd, i1, i2, F⟩, noB_ok (fex c 22)⟩
theorem fC_NoProgram (c : SaysY faL fnL tsL exL w K) : XcF K (He.ga K "NoProgram") (He.ga K "MakeError") "NoProgram" := ⟨excCB_ok (fex c 18), srtB_ok (fex c 21), xfB_ok (fex c 19), He.exm_ok (c.t.d.fact 101 (f := .exm "NoProgram" "MakeError" true) rfl)⟩
theorem fX_NotKept (X : K.In h) (G : h.Ns mainGlobals mg) (c : SaysY faL fnL tsL exL w K) : DfXT K mg ieTl "IndexError.__new__" "NotKept" "NotKept.__init__" (inClass (top 13) 0) (He.ga K "NotKept") ["number"] := by
  obtain ⟨fd, F⟩ := c.t.d.def_ 58 rfl
  obtain ⟨i1, i2⟩ := iniB_ok (fex c 25)
  exact ⟨oexTB_ok (fex c 23), He.glo_ok X G (c.t.d.fact 90 (f := .glo "NotKept") rfl), ⟨_, fd, i1, i2, F⟩, noB_ok (fex c 26)⟩
theorem fXf_NotKept (c : SaysY faL fnL tsL exL w K) : XfC K (He.ga K "NotKept") := xfB_ok (fex c 24)
theorem fEm_NotKept (c : SaysY faL fnL tsL exL w K) : PySem.W.exmOne K (.ref (He.ga K "NotKept")) (.ref (He.ga K "MakeError")) = some false ∧ PySem.W.exmOne K (.ref (He.ga K "NotKept")) (.ref (He.ga K "NotKept")) = some true := ⟨He.exm_ok (c.t.d.fact 102 (f := .exm "NotKept" "MakeError" false) rfl), He.exm_ok (c.t.d.fact 103 (f := .exm "NotKept" "NotKept" true) rfl)⟩
theorem fIE (c : SaysY faL fnL tsL exL w K) : PySem.W.findCls K (.type "IndexError") (.type "type") "__init__" = some (.val (.builtin "IndexError.__init__")) := ieB_ok (fex c 27)
theorem fgI (X : K.In h) (G : h.Ns mainGlobals mg) (c : SaysY faL fnL tsL exL w K) : mg "IndexError" = none := He.free_ok X G (c.t.d.fact 79 (f := .free "IndexError") rfl)
theorem fMk (c : SaysY faL fnL tsL exL w K) : MkC K (He.ga K "Maker") := mkcB_ok (fex c 28)
theorem fTm (X : K.In h) (G : h.Ns mainGlobals mg) (c : SaysY faL fnL tsL exL w K) : Tm mg K := ⟨fBn X G c, He.glo_ok X G (c.t.d.fact 56 (f := .glo "Maker") rfl), He.glo_ok X G (c.t.d.fact 98 (f := .glo "STOCK") rfl), He.free_ok X G (c.t.d.fact 78 (f := .free "min") rfl), stock_at (fex c 29)⟩
end
end LM
set_option Elab.async false
set_option linter.all false
set_option maxRecDepth 100000
set_option maxHeartbeats 4000000
namespace LM
open PySem PySem.Spec PyProof.Rows L2
theorem law_ok {P : Program} {w : World} {K : PySem.W.Frag} {h : Heap} {mg : Str → Option Value} (X : K.In h) (G : h.Ns mainGlobals mg) (c : SaysY faL fnL tsL exL w K) (base : Heap) : OkG P w K mg base CX0 19 "law" (top 74) ["_law_script"] (spLaw K) := by
  have T := fBn X G c
  have U := fTp X G c
  have Xx := fXs X G c
  have B := fEb X G c
  have Mm := fMt c
  have draw := ok_draw (P := P) (w := w) (base := base) (fD__law_draw X G c)
  have cell := ok_cell (P := P) (w := w) (base := base) (fD__law_cell X G c) T
  have flow := ok_flow (fD__law_flow X G c) T cell
  have numeral := ok_numeral (fD__law_numeral X G c) draw
  have leaf := ok_leaf (fD__law_leaf X G c) T draw numeral
  have made := ok_made (fD__law_made X G c) T draw numeral leaf 6
  have small := ok_small (fD__law_small_wish X G c) draw made
  have head := ok_head (fD__law_head X G c) T draw
  have near := ok_near (fD__law_near_inputs X G c) T draw
  have example_ := ok_example (fD__law_example X G c) near
  have isof := ok_isof (P := P) (w := w) (base := base) (fD__law_is_of X G c) T
  have bad := ok_bad (fD__law_bad_example X G c) T draw example_
  have whole := ok_whole (P := P) (w := w) (base := base) (fD_is_whole X G c) U
  have form := ok_form (fD_has_form X G c) U whole
  have parts := ok_parts_of (P := P) (w := w) (base := base) (fD_parts_of X G c) U
  have knots := ok_knots (fD_knots X G c) U form parts
  have own := ok_own (P := P) (w := w) (base := base) (fD_own_kind X G c) U
  have due := ok_due (fD_parts_due X G c) U own
  have noprog := ok_noprog (P := P) (w := w) (base := base) B (fX_NoProgram X G c)
  have kind := ok_kind (fD_kind_of X G c) U knots form parts own due noprog
  have lform := ok_lform (P := P) (w := w) (base := base) (fD__law_has_form X G c) T
  have lparts := ok_lparts (P := P) (w := w) (base := base) (fD__law_parts X G c) T
  have lknots := ok_lknots (fD__law_knots X G c) T lform lparts 12
  have lown := ok_lown (P := P) (w := w) (base := base) (fD__law_own X G c) T 12
  have lwrong := ok_lwrong (fD__law_wrong X G c) T lknots lform lparts lown
  have lkind := ok_duekind (fD__law_due_kind X G c) lwrong lown
  have lrepl := ok_repl (fD__law_replaced X G c) T lform lparts 12
  have lbadk := ok_badk (fD__law_bad_knot X G c) T draw leaf
  have pis := ok_pis (fD_is_of X G c) whole
  have are := ok_are (fD_are_of X G c) T pis
  have look := ok_look (fD_look_wish X G c) kind noprog
  have mbegin := ok_begin (P := P) (w := w) (mg := mg) (base := base) Mm (fM_begin c)
  have mkeep := ok_keep (P := P) (w := w) (mg := mg) (base := base) Mm (fM_keep c)
  have mkept := ok_kept (P := P) (w := w) (base := base) T Mm (fM_kept c)
  have mlog := ok_log (P := P) (w := w) (base := base) T Mm (fM_log c)
  have mbusy := ok_isbusy (P := P) (w := w) (mg := mg) (base := base) Mm (fM_is_busy c)
  have mlen := ok_mlen (P := P) (w := w) (base := base) T Mm (fM_len c)
  have minit := ok_init (P := P) (w := w) (base := base) Mm (fMi X G c)
  have mwish := ok_wish Mm (fM_wish c) mbegin mkeep look
  have noin := ok_noin (P := P) (w := w) (base := base) B (fX_NoInputs X G c)
  have clashE := ok_clashE (P := P) (w := w) (base := base) B (fX_Clash X G c)
  have notk := ok_notk (P := P) (w := w) (base := base) (fgI X G c) (fIE c) (fX_NotKept X G c)
  have mback := ok_back Mm (fM_back c) mbegin notk
  have lookex := ok_lookex T Mm (fM_look_examples c) are pis noin clashE
  have exs := ok_exs T Mm (fM_examples c) mbegin mkeep lookex
  have sorts := ok_sorts (P := P) (w := w) (base := base) (fD__law_sorts X G c) Xx
  have XI := fX_NoInputs X G c
  have XC := fX_Clash X G c
  have XP := fX_NoProgram X G c
  have XN := fX_NotKept X G c
  have fI := fC_NoInputs c
  have fC := fC_Clash c
  have fP := fC_NoProgram c
  have said := ok_said (fD__law_maker_said X G c) Xx B.g (Xx.gs "NotKept" (by decide +kernel)) fP fI fC (fEm_NotKept c) ⟨fP.xf, XP.no "word" (by simp), XP.no "at" (by simp)⟩ ⟨fXf_NotKept c, XN.no "number" (by simp)⟩ ⟨fI.xf, XI.no "at" (by simp)⟩ ⟨fC.xf, XC.no "at" (by simp), XC.no "number" (by simp)⟩ mwish mback exs sorts
  have exdue := ok_exdue (fD__law_examples_due X G c) T isof
  have mdue := ok_mdue (fD__law_maker_due X G c) T lkind exdue
  have alike := ok_alike (P := P) (w := w) (base := base) (fD__law_alike X G c) T
  have stands := ok_stands (fD__law_stands X G c) T mkept mlog mbusy mlen alike
  have newmd := ok_newmd (P := P) (w := w) (base := base) (fD__law_new_model X G c)
  have deed := ok_deed (fD__law_deed X G c) T draw small lknots lrepl lbadk example_ bad
  have Tm_ := fTm X G c
  have Mk := fMk c
  have minitK := ok_initK (P := P) (w := w) (base := base) Mm (fMi X G c)
  have begun := ok_begun (fD__law_begun X G c) Tm_ draw head minit minitK newmd
  have room := ok_room (P := P) (w := w) (base := base) (fD__law_has_room X G c) T
  have same := ok_same (P := P) (w := w) (base := base) (fD__law_same X G c) T
  have meq := ok_meq (P := P) (w := w) (base := base) Tm_ Mm Mk.is (fM_eq c)
  have ar := ok_ar (fD__law_alike_right X G c) T Mm Mk same meq mlen
  exact ok_law (fD_law X G c) Tm_ flow draw begun deed room said mdue alike ar stands
end LM
open PySem PySem.W PySem.Calls PyProof.Rows
theorem LM.law_fin (w : World) (mg : PySem.Str → Option Value) (fa : Addr) (h : Heap) (K : PySem.W.Frag) (KX : K.In h) (G : h.Ns mainGlobals mg) (c : LM.SaysY LM.faL LM.fnL LM.tsL LM.exL w K) (hmg : mg ("law" : PySem.Str) = some (.ref fa)) (l : PySem.W.OpenLaw) :
  ∃ (K : PySem.W.Frag) (fd : PySem.FuncData) (sp : L2.Sp), K.In h ∧ (∀ (s : Shared) (u : Value), BindsTo s fd ⟨[u], []⟩ [("_law_script", u)]) ∧
        (∀ (H : L2.Hp) (a : Addr) (ns : List Int), ns.length ≤ 63 → L2.Only H → L2.SqL K H a (ns.map L2.V.int) → sp [.ref a] H (fun v _ => v = .bl true) fun _ _ _ => False) ∧
        ∀ base : Heap, K.In base → base.Ns mainGlobals mg → L2.FnOk l.prog w K mg base L2.CX0 19 fa fd ["_law_script"] sp := by
    have O := fun base => LM.law_ok (P := l.prog) (w := w) KX G c base
    obtain ⟨g0, fd, F0, _⟩ := O h
    obtain rfl : fa = He.ga K "law" := by
      rw [hmg] at g0
      injection g0 with g0
      injection g0
    refine ⟨K, fd, LM.spLaw K, KX, ?_, fun H a ns hl _ hS => ⟨a, ns, rfl, hS, hl, fun _ => rfl⟩, ?_⟩
    · intro s v
      exact L2.FunD.bindsA (ps := ["_law_script"]) F0 (fun _ _ _ _ _ _ us hl => match us, hl with | [_], _ => rfl) s [v] rfl
    · intro base _ _
      obtain ⟨_, fd', F', hF⟩ := O base
      obtain rfl := LM.fd_one F0 F'
      exact hF
set_option Elab.async false
set_option linter.all false
set_option maxRecDepth 100000
set_option maxHeartbeats 0
open PySem PySem.W PySem.Calls PyProof.Rows
theorem PySem.Challenge.cw_leastmaker_k69_makers_by_turns_holds : PySem.Challenge.rw_leastmaker_k69_makers_by_turns.Holds := by
  w_on; o_law
  refine HandSHeadRun.head_any (r := OpenLaw.row PySem.Challenge.rw_leastmaker_k69_makers_by_turns) (q := view (OpenLaw.row PySem.Challenge.rw_leastmaker_k69_makers_by_turns).prog [74]) (H := LM.hkL) (ob := LM.obL) (M := 20000) (loose := LM.namesL) (d := HandSHeadRun.topDef (OpenLaw.row PySem.Challenge.rw_leastmaker_k69_makers_by_turns).prog 74) (kwd := []) LM.obL_eq
    (by kernel_rfl) (fun s => by kernel_rfl) LM.runL (by kernel_rfl) (by kernel_rfl) (by kernel_rfl) (by rfl) (by first | assumption | decide +kernel) (by decide +kernel) ⟨rfl, rfl, rfl, rfl, rfl, by decide +kernel⟩ ?hw ?hc
  case hw => w_witness2
  case hc =>
    refine L2.walk_ofE (l := PySem.Challenge.rw_leastmaker_k69_makers_by_turns) (n := 63) (k := 19) (x := "_law_script") (CX := L2.CX0) rfl (by decide) (by kernel_rfl) ⟨rfl, by decide, by decide⟩ ?F (fun _ _ _ _ z => z)
    intro w mg fa h Y G hmg0
    obtain ⟨K, KX, c⟩ := Y
    have hmg : mg ("law" : PySem.Str) = some (.ref fa) := by
      have e : (HandSHeadRun.topDef (OpenLaw.row PySem.Challenge.rw_leastmaker_k69_makers_by_turns).prog 74).name = ("law" : PySem.Str) := by kernel_rfl
      rw [← e]
      exact hmg0
    exact LM.law_fin w mg fa h K KX G c hmg PySem.Challenge.rw_leastmaker_k69_makers_by_turns
